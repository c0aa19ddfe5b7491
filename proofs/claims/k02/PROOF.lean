import PyProof.Rows.All
import Wide.All
import OpenK.AllK
import Wide.FinOn
import HandS.ForMost
import HandS.ForExc
import HandS.IsInst
import HandS.Flow
import HandS.CallSlots
import HandS.TryMany
import HandS.ExcIs
import HandS.More
import HandS.Dict
import HandS.Small
import HandS.Conv
import HandS.Iter
import HandS.Text
import HandS.TupAny
import HandS.Deep
import PyProof.StrOps2
import HandS.Ends
import HandS.WordsExc
import PyProof.ReprRoads
import KE.GoesMore
import KE.GoesEnum
import HandS.CallLocal
import HandS.Style
import PySem.Challenge.RW_whysheets_k02_trees_judged
set_option Elab.async false
set_option linter.all false
set_option maxRecDepth 100000
/-! MPBase: data, the visible store, what they say of the abstract heap. -/
namespace MP
open PySem PyProof.Rows PySem.Spec L2

/-- data: what a value is. Tuples, lists that are never changed again, dicts likewise stand inline; ref: an object of the visible store, or a thing of the module -/
inductive D where
  | non
  | bl (b : Bool)
  | int (i : Int)
  | str (x : Str)
  | ty (n : String)
  | ref (a : Addr)
  | exn (c : Value) (a : Addr) (ks : List Str) (xs : List D)
  | tup (xs : List D)
  | lst (xs : List D)
  | kls (xs : List D)
  | dct (ks : List Key) (xs : List D)

/-- an object of the visible store -/
inductive SO where
  | lst (xs : List D)
  | dct (ks : List Key) (xs : List D)
  | ins (C : Addr) (ks : List Str) (xs : List D)

abbrev Store := Addr → Option SO
def Store.set (S : Store) (a : Addr) (o : SO) : Store := fun b => if b = a then some o else S b
def Store.del (S : Store) (a : Addr) : Store := fun b => if b = a then none else S b
theorem Store.set_same {S : Store} {a : Addr} {o : SO} : S.set a o a = some o := if_pos rfl
theorem Store.set_ne {S : Store} {a b : Addr} {o : SO} (h : b ≠ a) : S.set a o b = S b := if_neg h
theorem Store.del_same {S : Store} {a : Addr} : S.del a a = none := if_pos rfl
theorem Store.del_ne {S : Store} {a b : Addr} (h : b ≠ a) : S.del a b = S b := if_neg h

/-- a list that is never changed again: locked -/
def FzL (H : Hp) (a : Addr) (xs : List V) : Prop := ∃ o, H a = some (.frz o (.lst xs))
/-- .. or one of the module (the script) -/
def KsL (K : PySem.W.Frag) (H : Hp) (a : Addr) (xs : List V) : Prop := FzL H a xs ∨
  ∃ (o : Obj) (its : Array Value) (n : Nat), K.lookup a = some o ∧ o.cls = .type "list" ∧ o.dict = none ∧ o.data = .seq its n ∧
    its.size ≤ sizeLine ∧ Vals xs its.toList
theorem FzL.seq {K : PySem.W.Frag} {H : Hp} {a : Addr} {xs : List V} (h : FzL H a xs) : SqL K H a xs := let ⟨o, h⟩ := h; .inl (.inr ⟨o, h⟩)
theorem KsL.seq {K : PySem.W.Frag} {H : Hp} {a : Addr} {xs : List V} (h : KsL K H a xs) : SqL K H a xs := by
  rcases h with h | h
  · exact h.seq
  · exact .inr h
/-- a dict that is never changed again -/
def FzD (K : PySem.W.Frag) (H : Hp) (a : Addr) (kvs : List (Key × V)) : Prop := ∃ o, H a = some (.frz o (.dK kvs))
/-- at a: an exception object of the class c, its own dict at d, caught and kept -/
def exT (c : Value) (d : Option Addr) (a : Addr) : HO := .ext fun h => ∃ (oe : Obj) (vs : Array Value), h.get? a = some oe ∧ Zc c d oe ∧ oe.data = .fields vs
/-- the fields of an exception stand in its own dict -/
def XdAt (H : Hp) (ks : List Str) (d : Option Addr) (vs : List V) : Prop := (ks = [] ∧ d = none) ∨ ∃ dd, d = some dd ∧ ks ≠ [] ∧ H dd = some (.xd (ks.zip vs))

mutual
def Rel (K : PySem.W.Frag) (H : Hp) : D → V → Prop
  | .non, v => v = .non
  | .bl b, v => v = .bl b
  | .int i, v => v = .int i
  | .str x, v => v = .str x
  | .ty n, v => v = .ty n
  | .ref a, v => v = .ref a
  | .exn c a ks ds, v => v = .ref a ∧ ∃ d vs, H a = some (exT c d a) ∧ XdAt H ks d vs ∧ ks.length = ds.length ∧ Rels K H ds vs
  | .tup ds, v => ∃ a xs, v = .ref a ∧ SqT K H a xs ∧ Rels K H ds xs
  | .lst ds, v => ∃ a xs, v = .ref a ∧ FzL H a xs ∧ Rels K H ds xs
  | .kls ds, v => ∃ a xs, v = .ref a ∧ KsL K H a xs ∧ Rels K H ds xs
  | .dct ks ds, v => ∃ a xs, v = .ref a ∧ FzD K H a (ks.zip xs) ∧ ks.length = ds.length ∧ Rels K H ds xs
def Rels (K : PySem.W.Frag) (H : Hp) : List D → List V → Prop
  | [], vs => vs = []
  | d :: ds, vs => ∃ v r, vs = v :: r ∧ Rel K H d v ∧ Rels K H ds r
end

def SOk (K : PySem.W.Frag) (H : Hp) (a : Addr) : SO → Prop
  | .lst ds => ∃ xs, H a = some (.lst xs) ∧ Rels K H ds xs
  | .dct ks ds => ∃ xs, H a = some (.dK (ks.zip xs)) ∧ ks.length = ds.length ∧ Rels K H ds xs
  | .ins C ks ds => ∃ dx xs, H a = some (.ins C dx (ks.zip xs)) ∧ H dx = some (.own a) ∧ ks.length = ds.length ∧ Rels K H ds xs
/-- the visible store is held -/
def SRel (K : PySem.W.Frag) (S : Store) (H : Hp) : Prop := ∀ a o, S a = some o → SOk K H a o
/-- all but the visible store is kept -/
def Keep (S : Store) (H H' : Hp) : Prop := ∀ a o, H a = some o → S a = none → H' a = some o
structure Evo (S : Store) (H : Hp) (S' : Store) (H' : Hp) : Prop where
  keep : Keep S H H'
  new : ∀ a, S a = none → S' a ≠ none → H a = none

theorem Evo.refl (S : Store) (H : Hp) : Evo S H S H := ⟨fun _ _ h _ => h, fun a h n => absurd h n⟩
theorem Evo.trans {S S1 S2 : Store} {H H1 H2 : Hp} (a : Evo S H S1 H1) (b : Evo S1 H1 S2 H2) : Evo S H S2 H2 where
  keep := fun x o h n => by
    have h1 := a.keep x o h n
    cases q : S1 x with
    | none => exact b.keep x o h1 q
    | some u =>
      have z := a.new x n (by rw [q]; exact fun z => nomatch z)
      rw [z] at h; cases h
  new := fun x n n2 => by
    cases e : H x with
    | none => rfl
    | some o =>
      have h1 := a.keep x o e n
      cases q : S1 x with
      | none => have z := b.new x q n2; rw [z] at h1; cases h1
      | some u =>
        have z := a.new x n (by rw [q]; exact fun z => nomatch z)
        rw [z] at e; cases e

/-- what the store may hold -/
def mutb : HO → Bool
  | .lst _ => true
  | .dK _ => true
  | .ins _ _ _ => true
  | _ => false
section
variable {K : PySem.W.Frag} {S S' : Store} {H H' : Hp}
theorem SRel.imm (r : SRel K S H) {a : Addr} {o : HO} (h : H a = some o) (m : mutb o = false) : S a = none := by
  cases q : S a with
  | none => rfl
  | some u =>
    have z := r a u q
    cases u with
    | lst ds => obtain ⟨xs, e, _⟩ := z; rw [h] at e; cases e; cases m
    | dct ks ds => obtain ⟨xs, e, _⟩ := z; rw [h] at e; cases e; cases m
    | ins C ks ds => obtain ⟨dx, xs, e, _⟩ := z; rw [h] at e; cases e; cases m
/-- what is unchangeable in H stays -/
def Imm (H H' : Hp) : Prop := ∀ a o, H a = some o → mutb o = false → H' a = some o
theorem Evo.imm (e : Evo S H S' H') (r : SRel K S H) : Imm H H' := fun a o h m => e.keep a o h (r.imm h m)
theorem Imm.sqT (i : Imm H H') {a : Addr} {xs : List V} (h : SqT K H a xs) : SqT K H' a xs := by
  rcases h with (h | ⟨ob, h⟩) | h
  · exact .inl (.inl (i _ _ h rfl))
  · exact .inl (.inr ⟨ob, i _ _ h rfl⟩)
  · exact .inr h
theorem Imm.fzL (i : Imm H H') {a : Addr} {xs : List V} (h : FzL H a xs) : FzL H' a xs := let ⟨o, h⟩ := h; ⟨o, i _ _ h rfl⟩
theorem Imm.ksL (i : Imm H H') {a : Addr} {xs : List V} (h : KsL K H a xs) : KsL K H' a xs := h.elim (fun z => .inl (i.fzL z)) .inr
theorem Imm.fzD (i : Imm H H') {a : Addr} {kvs : List (Key × V)} (h : FzD K H a kvs) : FzD K H' a kvs := let ⟨o, h⟩ := h; ⟨o, i _ _ h rfl⟩
theorem Imm.xd (i : Imm H H') {ks : List Str} {d : Option Addr} {vs : List V} (h : XdAt H ks d vs) : XdAt H' ks d vs := by
  rcases h with h | ⟨dd, e, n, h⟩
  · exact .inl h
  · exact .inr ⟨dd, e, n, i _ _ h rfl⟩
mutual
theorem Rel.imm (i : Imm H H') : ∀ (d : D) (v : V), Rel K H d v → Rel K H' d v
  | .non, _, h => h
  | .bl _, _, h => h
  | .int _, _, h => h
  | .str _, _, h => h
  | .ty _, _, h => h
  | .ref _, _, h => h
  | .exn c a ks ds, _, ⟨e, d, vs, h, x, l, r⟩ => ⟨e, d, vs, i _ _ h rfl, i.xd x, l, Rels.imm i ds vs r⟩
  | .tup ds, _, ⟨a, xs, e, h, r⟩ => ⟨a, xs, e, i.sqT h, Rels.imm i ds xs r⟩
  | .lst ds, _, ⟨a, xs, e, h, r⟩ => ⟨a, xs, e, i.fzL h, Rels.imm i ds xs r⟩
  | .kls ds, _, ⟨a, xs, e, h, r⟩ => ⟨a, xs, e, i.ksL h, Rels.imm i ds xs r⟩
  | .dct ks ds, _, ⟨a, xs, e, h, l, r⟩ => ⟨a, xs, e, i.fzD h, l, Rels.imm i ds xs r⟩
theorem Rels.imm (i : Imm H H') : ∀ (ds : List D) (vs : List V), Rels K H ds vs → Rels K H' ds vs
  | [], _, h => h
  | d :: ds, _, ⟨v, r, e, h, t⟩ => ⟨v, r, e, Rel.imm i d v h, Rels.imm i ds r t⟩
end
theorem Rels.length : ∀ {ds : List D} {vs : List V}, Rels K H ds vs → ds.length = vs.length
  | [], _, h => by have e : _ = [] := h; subst e; rfl
  | d :: ds, _, ⟨v, r, e, _, t⟩ => by subst e; simp [Rels.length t]
theorem Rels.get : ∀ {ds : List D} {vs : List V} {i : Nat} {d : D}, Rels K H ds vs → ds[i]? = some d → ∃ v, vs[i]? = some v ∧ Rel K H d v
  | [], _, _, _, _, e => by simp at e
  | d :: ds, _, 0, _, ⟨v, r, e, h, t⟩, q => by subst e; simp at q; subst q; exact ⟨v, rfl, h⟩
  | d :: ds, _, i + 1, x, ⟨v, r, e, h, t⟩, q => by
    subst e
    obtain ⟨u, h1, h2⟩ := Rels.get (i := i) (d := x) t (by simpa using q)
    exact ⟨u, (by simpa using h1), h2⟩
theorem Rels.getV : ∀ {ds : List D} {vs : List V} {i : Nat} {v : V}, Rels K H ds vs → vs[i]? = some v → ∃ d, ds[i]? = some d ∧ Rel K H d v
  | [], _, _, _, h, e => by have z : _ = [] := h; subst z; simp at e
  | d :: ds, _, 0, _, ⟨v, r, e, h, t⟩, q => by subst e; simp at q; subst q; exact ⟨d, rfl, h⟩
  | d :: ds, _, i + 1, x, ⟨v, r, e, h, t⟩, q => by
    subst e
    obtain ⟨u, h1, h2⟩ := Rels.getV (i := i) (v := x) t (by simpa using q)
    exact ⟨u, (by simpa using h1), h2⟩
theorem Rels.append : ∀ {ds es : List D} {vs ws : List V}, Rels K H ds vs → Rels K H es ws → Rels K H (ds ++ es) (vs ++ ws)
  | [], _, _, _, h, k => by have e : _ = [] := h; subst e; exact k
  | d :: ds, _, _, _, ⟨v, r, e, h, t⟩, k => by subst e; exact ⟨v, r ++ _, rfl, h, Rels.append t k⟩
theorem Rels.set {x : D} {u : V} (q : Rel K H x u) : ∀ {ds : List D} {vs : List V} (i : Nat), Rels K H ds vs → Rels K H (ds.set i x) (vs.set i u)
  | [], _, _, h => by have e : _ = [] := h; subst e; exact rfl
  | d :: ds, _, 0, ⟨v, r, e, h, t⟩ => by subst e; exact ⟨u, r, rfl, q, t⟩
  | d :: ds, _, i + 1, ⟨v, r, e, h, t⟩ => by subst e; exact ⟨v, r.set i u, rfl, h, Rels.set q i t⟩
theorem Rels.take : ∀ {ds : List D} {vs : List V} (n : Nat), Rels K H ds vs → Rels K H (ds.take n) (vs.take n)
  | _, _, 0, _ => rfl
  | [], _, n + 1, h => by have e : _ = [] := h; subst e; rfl
  | d :: ds, _, n + 1, ⟨v, r, e, h, t⟩ => by subst e; exact ⟨v, r.take n, rfl, h, Rels.take n t⟩
theorem Rels.drop : ∀ {ds : List D} {vs : List V} (n : Nat), Rels K H ds vs → Rels K H (ds.drop n) (vs.drop n)
  | _, _, 0, h => h
  | [], _, n + 1, h => by have e : _ = [] := h; subst e; rfl
  | d :: ds, _, n + 1, ⟨v, r, e, h, t⟩ => by subst e; exact Rels.drop n t
theorem Rels.eraseIdx : ∀ {ds : List D} {vs : List V} (n : Nat), Rels K H ds vs → Rels K H (ds.eraseIdx n) (vs.eraseIdx n)
  | [], _, _, h => by have e : _ = [] := h; subst e; rfl
  | d :: ds, _, 0, ⟨v, r, e, h, t⟩ => by subst e; exact t
  | d :: ds, _, n + 1, ⟨v, r, e, h, t⟩ => by subst e; exact ⟨v, r.eraseIdx n, rfl, h, Rels.eraseIdx n t⟩
theorem Rels.one {d : D} {vs : List V} (h : Rels K H [d] vs) : ∃ v, vs = [v] ∧ Rel K H d v := by
  obtain ⟨v, r, rfl, h, t⟩ := h
  have e : r = [] := t
  subst e
  exact ⟨v, rfl, h⟩
theorem Rels.mk1 {d : D} {v : V} (h : Rel K H d v) : Rels K H [d] [v] := ⟨v, [], rfl, h, rfl⟩
theorem SOk.imm (i : Imm H H') {a : Addr} {o : SO} (h : SOk K H a o) (e : ∀ u, H a = some u → H' a = some u) : SOk K H' a o := by
  cases o with
  | lst ds => obtain ⟨xs, q, r⟩ := h; exact ⟨xs, e _ q, Rels.imm i _ _ r⟩
  | dct ks ds => obtain ⟨xs, q, l, r⟩ := h; exact ⟨xs, e _ q, l, Rels.imm i _ _ r⟩
  | ins C ks ds => obtain ⟨dx, xs, q, w, l, r⟩ := h; exact ⟨dx, xs, e _ q, i _ _ w rfl, l, Rels.imm i _ _ r⟩
end

/-! ### the frame -/
abbrev Env := List (Option D)
def lk : Env → Nat → Option D
  | [], _ => none
  | x :: _, 0 => x
  | _ :: r, n + 1 => lk r n
def st : Env → Nat → Option D → Env
  | [], _, _ => []
  | _ :: r, 0, y => y :: r
  | x :: r, n + 1, y => x :: st r n y
def EnvR (K : PySem.W.Frag) (H : Hp) : Env → L2.St → Prop
  | [], σ => σ = []
  | x :: ρ, σ => ∃ y r, σ = y :: r ∧ (∀ d, x = some d → ∃ v, y = some v ∧ Rel K H d v) ∧ EnvR K H ρ r
section
variable {K : PySem.W.Frag} {S S' : Store} {H H' : Hp}
theorem EnvR.imm (i : Imm H H') : ∀ {ρ : Env} {σ : L2.St}, EnvR K H ρ σ → EnvR K H' ρ σ
  | [], _, h => h
  | x :: ρ, _, ⟨y, r, e, h, t⟩ => ⟨y, r, e, fun d q => let ⟨v, a, b⟩ := h d q; ⟨v, a, Rel.imm i _ _ b⟩, EnvR.imm i t⟩
theorem EnvR.get : ∀ {ρ : Env} {σ : L2.St} {i : Nat} {d : D}, EnvR K H ρ σ → lk ρ i = some d → ∃ v, σ[i]? = some (some v) ∧ Rel K H d v
  | [], _, _, _, _, e => by cases e
  | x :: ρ, _, 0, d, ⟨y, r, e, h, t⟩, q => by
    subst e
    obtain ⟨v, a, b⟩ := h d q
    subst a
    exact ⟨v, rfl, b⟩
  | x :: ρ, _, i + 1, d, ⟨y, r, e, h, t⟩, q => by
    subst e
    obtain ⟨v, a, b⟩ := EnvR.get (i := i) t q
    exact ⟨v, by simpa using a, b⟩
theorem EnvR.set {d : D} {v : V} (h : Rel K H d v) : ∀ {ρ : Env} {σ : L2.St} (i : Nat), EnvR K H ρ σ → EnvR K H (st ρ i (some d)) (σ.set i (some v))
  | [], _, _, h => by have e : _ = [] := h; subst e; rfl
  | x :: ρ, _, 0, ⟨y, r, e, q, t⟩ => by subst e; exact ⟨some v, r, rfl, fun d' e' => by cases e'; exact ⟨v, rfl, h⟩, t⟩
  | x :: ρ, _, i + 1, ⟨y, r, e, q, t⟩ => by subst e; exact ⟨y, r.set i (some v), rfl, q, EnvR.set h i t⟩
/-- a slot forgotten, whatever stands there -/
theorem EnvR.gone : ∀ {ρ : Env} {σ : L2.St} (i : Nat) (o : Option V), EnvR K H ρ σ → EnvR K H (st ρ i none) (σ.set i o)
  | [], _, _, _, h => by have e : _ = [] := h; subst e; rfl
  | x :: ρ, _, 0, o, ⟨y, r, e, q, t⟩ => by subst e; exact ⟨o, r, rfl, (fun d' e' => nomatch e'), t⟩
  | x :: ρ, _, i + 1, o, ⟨y, r, e, q, t⟩ => by subst e; exact ⟨y, r.set i o, rfl, q, EnvR.gone i o t⟩
theorem EnvR.forget : ∀ {ρ : Env} {σ : L2.St} (i : Nat), EnvR K H ρ σ → EnvR K H (st ρ i none) σ
  | [], _, _, h => h
  | x :: ρ, _, 0, ⟨y, r, e, q, t⟩ => by subst e; exact ⟨y, r, rfl, (fun d' e' => nomatch e'), t⟩
  | x :: ρ, _, i + 1, ⟨y, r, e, q, t⟩ => by subst e; exact ⟨y, r, rfl, q, EnvR.forget i t⟩
theorem EnvR.start : ∀ {ds : List D} {vs : List V} (n : Nat), Rels K H ds vs → EnvR K H (ds.map some ++ List.replicate n none) (vs.map some ++ List.replicate n none)
  | [], _, n, h => by
    have e : _ = [] := h
    subst e
    show EnvR K H (List.replicate n none) (List.replicate n none)
    induction n with
    | zero => rfl
    | succ n ih => exact ⟨none, List.replicate n none, rfl, (fun d e => nomatch e), ih⟩
  | d :: ds, _, n, ⟨v, r, e, h, t⟩ => by
    subst e
    exact ⟨some v, r.map some ++ List.replicate n none, rfl, fun d' e' => by cases e'; exact ⟨v, rfl, h⟩, EnvR.start n t⟩

/-! ### the heap and the store grow and change -/
theorem upd_imm {a : Addr} {o : HO} (h : H a = none) : Imm H (upd H a o) := fun b u e _ => by rw [upd_ne (ne_of_none e h)]; exact e
theorem evo_new {a : Addr} {o : HO} (h : H a = none) : Evo S H S (upd H a o) := ⟨fun b u e _ => by rw [upd_ne (ne_of_none e h)]; exact e, fun b n n2 => absurd n n2⟩
theorem SRel.upd_new (r : SRel K S H) {a : Addr} {o : HO} (h : H a = none) : SRel K S (upd H a o) := fun b u e =>
  (r b u e).imm (upd_imm h) fun w q => by rw [upd_ne (ne_of_none q h)]; exact q
theorem SRel.free (r : SRel K S H) {a : Addr} (h : H a = none) : S a = none := by
  cases q : S a with
  | none => rfl
  | some u =>
    have z := r a u q
    cases u with
    | lst ds => obtain ⟨xs, e, _⟩ := z; rw [h] at e; cases e
    | dct ks ds => obtain ⟨xs, e, _⟩ := z; rw [h] at e; cases e
    | ins C ks ds => obtain ⟨dx, xs, e, _⟩ := z; rw [h] at e; cases e
/-- an object that the store holds from now on, new in H -/
theorem evo_newS {a : Addr} {o : HO} {u : SO} (h : H a = none) : Evo S H (S.set a u) (upd H a o) := ⟨fun b u e _ => by rw [upd_ne (ne_of_none e h)]; exact e, fun b n n2 => by
  by_cases hb : b = a
  · rw [hb]; exact h
  · rw [Store.set_ne hb] at n2; exact absurd n n2⟩
theorem SRel.newS (r : SRel K S H) {a : Addr} {o : HO} {u : SO} (h : H a = none) (k : SOk K (upd H a o) a u) : SRel K (S.set a u) (upd H a o) := fun b w e => by
  by_cases hb : b = a
  · subst hb
    rw [Store.set_same] at e
    cases e
    exact k
  · rw [Store.set_ne hb] at e
    exact r.upd_new h b w e
/-- an object of the store changed -/
theorem upd_immS {a : Addr} {o o' : HO} (h : H a = some o') (m : mutb o' = true) : Imm H (upd H a o) := fun b u e q => by
  by_cases hb : b = a
  · subst hb; rw [h] at e; cases e; rw [m] at q; cases q
  · rw [upd_ne hb]; exact e
theorem evo_setS {a : Addr} {o : HO} {u u' : SO} (h : S a = some u') : Evo S H (S.set a u) (upd H a o) := ⟨fun b w e n => by
  by_cases hb : b = a
  · subst hb; rw [h] at n; cases n
  · rw [upd_ne hb]; exact e, fun b n n2 => by
  by_cases hb : b = a
  · subst hb; rw [h] at n; cases n
  · rw [Store.set_ne hb] at n2; exact absurd n n2⟩
theorem SOk.mut {a : Addr} {u : SO} (h : SOk K H a u) : ∃ o, H a = some o ∧ mutb o = true := by
  cases u with
  | lst ds => obtain ⟨xs, e, _⟩ := h; exact ⟨_, e, rfl⟩
  | dct ks ds => obtain ⟨xs, e, _⟩ := h; exact ⟨_, e, rfl⟩
  | ins C ks ds => obtain ⟨dx, xs, e, _⟩ := h; exact ⟨_, e, rfl⟩
theorem SRel.setS (r : SRel K S H) {a : Addr} {o : HO} {u u' : SO} (h : S a = some u') (k : Imm H (upd H a o) → SOk K (upd H a o) a u) : SRel K (S.set a u) (upd H a o) := by
  obtain ⟨o', e', m⟩ := (r a u' h).mut
  have i : Imm H (upd H a o) := upd_immS e' m
  intro b w e
  by_cases hb : b = a
  · subst hb
    rw [Store.set_same] at e
    cases e
    exact k i
  · rw [Store.set_ne hb] at e
    exact (r b w e).imm i fun z q => by rw [upd_ne hb]; exact q
/-- an object of the store locked for good -/
theorem evo_frz {a : Addr} {o : HO} {u' : SO} (h : S a = some u') : Evo S H (S.del a) (upd H a o) := ⟨fun b w e n => by
  by_cases hb : b = a
  · subst hb; rw [h] at n; cases n
  · rw [upd_ne hb]; exact e, fun b n n2 => by
  by_cases hb : b = a
  · subst hb; rw [h] at n; cases n
  · rw [Store.del_ne hb] at n2; exact absurd n n2⟩
theorem SRel.frz (r : SRel K S H) {a : Addr} {o : HO} {u' : SO} (h : S a = some u') : Imm H (upd H a o) ∧ SRel K (S.del a) (upd H a o) := by
  obtain ⟨o', e', m⟩ := (r a u' h).mut
  have i : Imm H (upd H a o) := upd_immS e' m
  refine ⟨i, fun b w e => ?_⟩
  by_cases hb : b = a
  · subst hb
    rw [Store.del_same] at e
    cases e
  · rw [Store.del_ne hb] at e
    exact (r b w e).imm i fun z q => by rw [upd_ne hb]; exact q
/-- forgetting what the store shows -/
def Sub (S S' : Store) : Prop := ∀ a o, S a = some o → S' a = some o
theorem SRel.sub (r : SRel K S' H) (s : Sub S S') : SRel K S H := fun a o e => r a o (s a o e)
end
end MP

set_option Elab.async false
set_option linter.all false
set_option maxRecDepth 100000
/-! MPExpr: the readings of expressions over data; names, constants, displays, operators, comparisons, tests. -/
namespace MP
open PySem PyProof.Rows PySem.Spec L2

/-- an exception: its class, the fields of its own dict -/
structure Exn where
  cls : Value
  ks : List Str := []
  xs : List D := []
def ExnR (K : PySem.W.Frag) (H : Hp) (x : Exn) (c : Value) (dd : Option Addr) : Prop :=
  c = x.cls ∧ ∃ vs, XdAt H x.ks dd vs ∧ x.ks.length = x.xs.length ∧ Rels K H x.xs vs
theorem ExnR.imm {K : PySem.W.Frag} {H H' : Hp} (i : Imm H H') {x : Exn} {c : Value} {dd : Option Addr} (h : ExnR K H x c dd) : ExnR K H' x c dd :=
  let ⟨e, vs, a, l, r⟩ := h
  ⟨e, vs, i.xd a, l, Rels.imm i _ _ r⟩

abbrev Post := D → Store → Prop
abbrev XPost := Exn → Store → Prop
abbrev ET := Env → Store → Post → XPost → Prop
abbrev EA := Env → Store → (List D → Store → Prop) → XPost → Prop
abbrev EB := Env → Store → (Bool → Store → Prop) → XPost → Prop

section
variable (K : PySem.W.Frag)
/-- the data's end Qd leads to the end Q -/
def LQ (S : Store) (H : Hp) (Qd : Post) (Q : VK) : Prop := ∀ d S' v H', Evo S H S' H' → SRel K S' H' → Rel K H' d v → Qd d S' → Q v H'
def LQs (n : Nat) (S : Store) (H : Hp) (Qd : List D → Store → Prop) (Q : List V → Hp → Prop) : Prop := ∀ ds S' vs H', Evo S H S' H' → SRel K S' H' → Rels K H' ds vs → ds.length = n → Qd ds S' → Q vs H'
def LQb (S : Store) (H : Hp) (Qd : Bool → Store → Prop) (Q : Bool → Hp → Prop) : Prop := ∀ b S' H', Evo S H S' H' → SRel K S' H' → Qd b S' → Q b H'
def LX (S : Store) (H : Hp) (Ed : XPost) (E : XK) : Prop := ∀ x S' c dd H', Evo S H S' H' → SRel K S' H' → ExnR K H' x c dd → Ed x S' → E c dd H'
def rdE (W : WX) (f : ET) : TE := fun σ H Q => ∃ ρ S Qd Ed, EnvR K H ρ σ ∧ SRel K S H ∧ f ρ S Qd Ed ∧ LQ K S H Qd Q ∧ LX K S H Ed (fun c dd H' => W c dd σ H')
def rdA (W : WX) (n : Nat) (f : EA) : TA := fun σ H Q => ∃ ρ S Qd Ed, EnvR K H ρ σ ∧ SRel K S H ∧ f ρ S Qd Ed ∧ LQs K n S H Qd Q ∧ LX K S H Ed (fun c dd H' => W c dd σ H')
def rdB (W : WX) (f : EB) : TT := fun σ H Q => ∃ ρ S Qd Ed, EnvR K H ρ σ ∧ SRel K S H ∧ f ρ S Qd Ed ∧ LQb K S H Qd Q ∧ LX K S H Ed (fun c dd H' => W c dd σ H')
end
section
variable {K : PySem.W.Frag} {S S1 : Store} {H H1 : Hp}
theorem LQ.mono {Qd : Post} {Q : VK} (l : LQ K S H Qd Q) (e : Evo S H S1 H1) : LQ K S1 H1 Qd Q := fun d S' v H' e' r q h => l d S' v H' (e.trans e') r q h
theorem LQs.mono {n : Nat} {Qd : List D → Store → Prop} {Q : List V → Hp → Prop} (l : LQs K n S H Qd Q) (e : Evo S H S1 H1) : LQs K n S1 H1 Qd Q := fun d S' v H' e' r q k h => l d S' v H' (e.trans e') r q k h
theorem LQb.mono {Qd : Bool → Store → Prop} {Q : Bool → Hp → Prop} (l : LQb K S H Qd Q) (e : Evo S H S1 H1) : LQb K S1 H1 Qd Q := fun d S' H' e' r h => l d S' H' (e.trans e') r h
theorem LX.mono {Ed : XPost} {E : XK} (l : LX K S H Ed E) (e : Evo S H S1 H1) : LX K S1 H1 Ed E := fun x S' c dd H' e' r q h => l x S' c dd H' (e.trans e') r q h
end

theorem PE_imp {X : Cx} {e : Expr} {t t' : TE} (h : PE X e t) (i : ∀ σ H Q, t' σ H Q → t σ H Q) : PE X e t' := ⟨fun pins s σ H Q I q => h.run pins s σ H Q I (i σ H Q q)⟩
theorem PT_imp {X : Cx} {e : Expr} {t t' : TT} (h : PT X e t) (i : ∀ σ H Q, t' σ H Q → t σ H Q) : PT X e t' := ⟨fun pins s σ H Q I q => h.run pins s σ H Q I (i σ H Q q)⟩
theorem PW_imp {X : Cx} {e : Expr} {t t' : TT} (h : PW X e t) (i : ∀ σ H Q, t' σ H Q → t σ H Q) : PW X e t' := ⟨fun w pins s σ H Q I q => h.run w pins s σ H Q I (i σ H Q q)⟩
theorem PA_imp {X : Cx} {e : List Expr} {t t' : TA} (h : PA X e t) (i : ∀ σ H Q, t' σ H Q → t σ H Q) : PA X e t' := ⟨fun p pins s σ H Q I q => h.run p pins s σ H Q I (i σ H Q q)⟩

/-! ### a new list is locked, or the store shows it -/
/-- the end Q, where a list or a dict just made may be locked first -/
def FzQ (Q : VK) (v : V) (H : Hp) : Prop := Q v H ∨ (∃ a xs, v = .ref a ∧ H a = some (.lst xs) ∧ ∀ o, Q v (upd H a (.frz o (.lst xs)))) ∨ (∃ a xs, v = .ref a ∧ H a = some (.dK xs) ∧ ∀ o, Q v (upd H a (.frz o (.dK xs))))
def tFz (te : TE) : TE := fun σ H Q => te σ H (FzQ Q)
theorem Inv.frz {X : Cx} {pins : List (Addr × Obj)} {σ : L2.St} {H : Hp} {s : Shared} {a : Addr} {u : HO} (I : Inv X pins σ H s) (h : H a = some u) (nt : ∀ xs, u ≠ .tup xs) (nf : ∀ o w, u ≠ .frz o w) (nb : ∀ ps, u ≠ .tbl ps) (no : ∀ x, u ≠ .own x) (ho : ∃ o, s.heap.get? a = some o) :
    ∃ o, Inv X pins σ (upd H a (.frz o u)) s := by
  have hok := I.hok a u h
  obtain ⟨o, ho⟩ := ho
  refine ⟨o, ?_⟩
  have un : Un X.fs [] H (upd H a (.frz o u)) s.heap s.heap := by
    refine ⟨fun b ob q _ _ _ => q, fun b ob q _ _ _ => ⟨ob.slots, q⟩, fun b ob q n _ => ?_, fun b ob q _ => ⟨ob, q⟩, fun b xs e => ?_, fun b ob w e => ?_, fun b ps e => ?_⟩
    · rw [upd_ne (fun z => by subst z; rw [h] at n; cases n)]; exact n
    · rw [upd_ne (fun z => by subst z; rw [h] at e; cases e; exact nt _ rfl)]; exact e
    · rw [upd_ne (fun z => by subst z; rw [h] at e; cases e; exact nf _ _ rfl)]; exact e
    · exact ⟨#[], by rw [upd_ne (fun z => by subst z; rw [h] at e; cases e; exact nb _ rfl), e]; simp⟩
  have hk : HOk X.prog X.w (upd H a (.frz o u)) s.heap := fun b w e => by
    by_cases hb : b = a
    · subst hb
      rw [upd_same] at e
      cases e
      refine ⟨ho, hok.stay (fun _ _ _ q => q) (fun c q => ?_) fun c xs q => ?_⟩
      · rw [upd_ne (fun z => by subst z; rw [h] at q; cases q; exact no _ rfl)]; exact q
      · rw [upd_ne (fun z => by subst z; rw [h] at q; cases q; exact nt _ rfl)]; exact q
    · rw [upd_ne hb] at e
      refine (I.hok b w e).stay (fun _ _ _ q => q) (fun c q => ?_) fun c xs q => ?_
      · rw [upd_ne (fun z => by subst z; rw [h] at q; cases q; exact no _ rfl)]; exact q
      · rw [upd_ne (fun z => by subst z; rw [h] at q; cases q; exact nt _ rfl)]; exact q
  exact I.un (t' := s.toks) un hk
theorem pe_fz {X : Cx} {e : Expr} {te : TE} (he : PE X e te) : PE X e (tFz te) := by
  refine ⟨fun pins s σ H Q I h => thn (he.run pins s σ H _ I h) fun u s1 ⟨v, H1, I1, r1, q1⟩ => ?_⟩
  rcases q1 with q1 | ⟨a, xs, e1, ha, q1⟩ | ⟨a, xs, e1, ha, q1⟩
  · exact ⟨v, H1, I1, r1, q1⟩
  · obtain ⟨o, J⟩ := Inv.frz I1 ha (fun _ => nofun) (fun _ _ => nofun) (fun _ => nofun) (fun _ => nofun) (by obtain ⟨_, its, n, _, e⟩ := I1.hok a _ ha; exact ⟨_, e⟩)
    exact ⟨v, _, J, r1, q1 o⟩
  · obtain ⟨o, J⟩ := Inv.frz I1 ha (fun _ => nofun) (fun _ _ => nofun) (fun _ => nofun) (fun _ => nofun) (by obtain ⟨_, _, vs, _, o, _, _, e, _⟩ := I1.hok a _ ha; exact ⟨o, e⟩)
    exact ⟨v, _, J, r1, q1 o⟩

/-- how a new list is kept -/
abbrev MkT := List D → Store → Post → Prop
def mkF : MkT := fun ds S Q => Q (.lst ds) S
def mkM : MkT := fun ds S Q => ∀ a, S a = none → Q (.ref a) (S.set a (.lst ds))
def MkOk (K : PySem.W.Frag) (mk : MkT) : Prop := ∀ S H ds xs p Qd Q, SRel K S H → H p = none → Rels K H ds xs → mk ds S Qd → LQ K S H Qd Q → FzQ Q (.ref p) (upd H p (.lst xs))
theorem new_tup {K : PySem.W.Frag} {S : Store} {H : Hp} {ds : List D} {xs : List V} {p : Addr} {Qd : Post} {Q : VK} (r : SRel K S H) (hp : H p = none) (rs : Rels K H ds xs) (q : Qd (.tup ds) S) (l : LQ K S H Qd Q) : Q (.ref p) (upd H p (.tup xs)) :=
  l (.tup ds) S _ _ (evo_new hp) (r.upd_new hp) ⟨p, xs, rfl, SqT.of upd_same, Rels.imm (upd_imm hp) _ _ rs⟩ q
theorem mkF_ok (K : PySem.W.Frag) : MkOk K mkF := by
  intro S H ds xs p Qd Q r hp rs q l
  refine .inr (.inl ⟨p, xs, rfl, upd_same, fun o => ?_⟩)
  rw [upd_upd]
  exact l (.lst ds) S _ _ (evo_new hp) (r.upd_new hp) ⟨p, xs, rfl, ⟨o, upd_same⟩, Rels.imm (upd_imm hp) _ _ rs⟩ q
theorem mkM_ok (K : PySem.W.Frag) : MkOk K mkM := by
  intro S H ds xs p Qd Q r hp rs q l
  exact .inl (l (.ref p) (S.set p (.lst ds)) _ _ (evo_newS hp) (r.newS hp ⟨xs, upd_same, Rels.imm (upd_imm hp) _ _ rs⟩) rfl (q p (r.free hp)))
/-- how a new dict is kept -/
abbrev MkDT := List Key → List D → Store → Post → Prop
def mkDF : MkDT := fun ks ds S Q => Q (.dct ks ds) S
def mkDM : MkDT := fun ks ds S Q => ∀ a, S a = none → Q (.ref a) (S.set a (.dct ks ds))
def MkDOk (K : PySem.W.Frag) (mk : MkDT) : Prop := ∀ S H ks ds xs p Qd Q, SRel K S H → H p = none → ks.length = ds.length → Rels K H ds xs → mk ks ds S Qd → LQ K S H Qd Q → FzQ Q (.ref p) (upd H p (.dK (ks.zip xs)))
theorem mkDF_ok (K : PySem.W.Frag) : MkDOk K mkDF := by
  intro S H ks ds xs p Qd Q r hp hl rs q l
  refine .inr (.inr ⟨p, _, rfl, upd_same, fun o => ?_⟩)
  rw [upd_upd]
  exact l (.dct ks ds) S _ _ (evo_new hp) (r.upd_new hp) ⟨p, xs, rfl, ⟨o, upd_same⟩, hl, Rels.imm (upd_imm hp) _ _ rs⟩ q
theorem mkDM_ok (K : PySem.W.Frag) : MkDOk K mkDM := by
  intro S H ks ds xs p Qd Q r hp hl rs q l
  exact .inl (l (.ref p) (S.set p (.dct ks ds)) _ _ (evo_newS hp) (r.newS hp ⟨xs, upd_same, hl, Rels.imm (upd_imm hp) _ _ rs⟩) rfl (q p (r.free hp)))

/-! ### names, constants -/
def evC (d : D) : ET := fun _ S Q _ => Q d S
def evV (i : Nat) : ET := fun ρ S Q _ => match lk ρ i with
  | some d => Q d S
  | none => False
section
variable {X : Cx} {W : WX} {pos : Pos}
theorem e_var {i : Nat} {x : Str} (h : PE X (.Name x pos) (tVar i)) : PE X (.Name x pos) (rdE X.K W (evV i)) := by
  refine PE_imp h fun σ H Q ⟨ρ, S, Qd, Ed, hρ, hS, hf, lq, _⟩ => ?_
  unfold evV at hf
  split at hf
  · rename_i d e
    obtain ⟨v, a, b⟩ := hρ.get e
    exact ⟨v, a, lq _ _ _ _ (Evo.refl _ _) hS b hf⟩
  · exact hf.elim
theorem e_const {e : Expr} {v : V} {d : D} (h : PE X e (tC v)) (r : ∀ H, Rel X.K H d v) : PE X e (rdE X.K W (evC d)) := by
  refine PE_imp h fun σ H Q ⟨ρ, S, Qd, Ed, hρ, hS, hf, lq, _⟩ => lq _ _ _ _ (Evo.refl _ _) hS (r H) hf
theorem e_int {i j} : PE X (.Constant (.int i) j pos) (rdE X.K W (evC (.int i))) := e_const pe_int fun _ => rfl
theorem e_bl {b j} : PE X (.Constant (.bool b) j pos) (rdE X.K W (evC (.bl b))) := e_const pe_bl fun _ => rfl
theorem e_non {j} : PE X (.Constant .none j pos) (rdE X.K W (evC .non)) := e_const pe_non fun _ => rfl
theorem e_str {x j} : PE X (.Constant (.str x) j pos) (rdE X.K W (evC (.str x))) := e_const pe_str fun _ => rfl
end

/-! ### arguments, displays -/
def aNil : EA := fun _ S Q _ => Q [] S
def aCons (f : ET) (g : EA) : EA := fun ρ S Q E => f ρ S (fun d S1 => g ρ S1 (fun ds S2 => Q (d :: ds) S2) E) E
def evTup (g : EA) : ET := fun ρ S Q E => g ρ S (fun ds S1 => Q (.tup ds) S1) E
def evLst (mk : MkT) (g : EA) : ET := fun ρ S Q E => g ρ S (fun ds S1 => mk ds S1 Q) E
section
variable {X : Cx} {W : WX} {pos : Pos} {e : Expr} {es : List Expr} {f : ET} {g : EA} {n : Nat}
theorem a_nil : PA X [] (rdA X.K W 0 aNil) := PA_imp pa_nil fun σ H Q ⟨ρ, S, Qd, Ed, hρ, hS, hf, lq, _⟩ => lq [] S [] H (Evo.refl _ _) hS rfl rfl hf
theorem a_cons (he : PE X e (rdE X.K W f)) (hr : PA X es (rdA X.K W n g)) (hs : starEach (e :: es) X.env = (false, eval e X.env) :: starEach es X.env := by rfl) : PA X (e :: es) (rdA X.K W (n + 1) (aCons f g)) := by
  refine PA_imp (pa_cons he hr hs) fun σ H Q ⟨ρ, S, Qd, Ed, hρ, hS, hf, lq, lx⟩ => ?_
  refine ⟨ρ, S, _, Ed, hρ, hS, hf, fun d S1 v H1 e1 r1 q1 h1 => ?_, lx⟩
  refine ⟨ρ, S1, _, Ed, hρ.imm (e1.imm hS), r1, h1, fun ds S2 vs H2 e2 r2 q2 hl h2 => ?_, lx.mono e1⟩
  exact lq (d :: ds) S2 _ H2 (e1.trans e2) r2 ⟨v, vs, rfl, Rel.imm (e2.imm r1) _ _ q1, q2⟩ (by simp [hl]) h2
theorem le_line {n : Nat} (h : n ≤ 1000) : n ≤ sizeLine := Nat.le_of_lt (small1000 h)
theorem e_tup {x1} (h : PA X es (rdA X.K W n g)) (hn : n ≤ 1000 := by decide) : PE X (.Tuple es x1 pos) (rdE X.K W (evTup g)) := by
  refine PE_imp (pe_tup h) fun σ H Q ⟨ρ, S, Qd, Ed, hρ, hS, hf, lq, lx⟩ => ?_
  refine ⟨ρ, S, _, Ed, hρ, hS, hf, fun ds S1 vs H1 e1 r1 q1 hl h1 => ⟨?_, fun p hp => new_tup r1 hp q1 h1 (lq.mono e1)⟩, lx⟩
  rw [← q1.length, hl]
  exact le_line hn
theorem e_lst {mk : MkT} (hm : MkOk X.K mk) (h : PA X es (rdA X.K W n g)) (hn : n ≤ 1000 := by decide) : PE X (.List es pos) (rdE X.K W (evLst mk g)) := by
  refine PE_imp (pe_fz (pe_lst h)) fun σ H Q ⟨ρ, S, Qd, Ed, hρ, hS, hf, lq, lx⟩ => ?_
  refine ⟨ρ, S, _, Ed, hρ, hS, hf, fun ds S1 vs H1 e1 r1 q1 hl h1 => ⟨?_, fun p hp => hm _ _ _ _ _ _ _ r1 hp q1 h1 (lq.mono e1)⟩, lx⟩
  rw [← q1.length, hl]
  exact le_line hn
end

/-! ### operators -/
abbrev G2 := D → D → Store → Post → Prop
def OpD (K : PySem.W.Frag) (r : R2) (g : G2) : Prop := ∀ x y S H dx dy Qd Q, SRel K S H → Rel K H dx x → Rel K H dy y → g dx dy S Qd → LQ K S H Qd Q → r x y H (FzQ Q)
def bin (g : G2) (fa fb : ET) : ET := fun ρ S Q E => fa ρ S (fun x S1 => fb ρ S1 (fun y S2 => g x y S2 Q) E) E
section
variable {X : Cx} {W : WX} {pos : Pos} {a b : Expr} {fa fb : ET} {g : G2} {r : R2}
theorem bin_rd (hg : OpD X.K r g) (σ : L2.St) (H : Hp) (Q : VK) (h : rdE X.K W (bin g fa fb) σ H Q) : tFz (tOp r (rdE X.K W fa) (rdE X.K W fb)) σ H Q := by
  obtain ⟨ρ, S, Qd, Ed, hρ, hS, hf, lq, lx⟩ := h
  refine ⟨ρ, S, _, Ed, hρ, hS, hf, fun d1 S1 v1 H1 e1 r1 q1 h1 => ?_, lx⟩
  refine ⟨ρ, S1, _, Ed, hρ.imm (e1.imm hS), r1, h1, fun d2 S2 v2 H2 e2 r2 q2 h2 => ?_, lx.mono e1⟩
  exact hg _ _ _ _ _ _ _ _ r2 (Rel.imm (e2.imm r1) _ _ q1) q2 h2 (lq.mono (e1.trans e2))
theorem e_op {op : Operator} (ho : OpR X (binaryOp op) r) (hg : OpD X.K r g) (ha : PE X a (rdE X.K W fa)) (hb : PE X b (rdE X.K W fb)) : PE X (.BinOp a op b pos) (rdE X.K W (bin g fa fb)) :=
  PE_imp (pe_fz (pe_op ho ha hb)) (bin_rd hg)
theorem e_cmp {op : CmpOp} (ho : OpR X (compareOp op) r) (hg : OpD X.K r g) (ha : PE X a (rdE X.K W fa)) (hb : PE X b (rdE X.K W fb)) (hm : behindInMarks op b = false := by first | exact nomark _ | rfl | with_unfolding_all rfl) : PE X (.Compare a [op] [b] pos) (rdE X.K W (bin g fa fb)) :=
  PE_imp (pe_fz (pe_cmpR ho ha hb hm)) (bin_rd hg)
theorem e_ix (ho : IxR X r) (hg : OpD X.K r g) (ha : PE X a (rdE X.K W fa)) (hb : PE X b (rdE X.K W fb)) (hs : PlainIx b := by exact fun _ _ => rfl) : PE X (.Subscript a b pos) (rdE X.K W (bin g fa fb)) :=
  PE_imp (pe_fz (pe_ix ho ha hb hs)) (bin_rd hg)
end
abbrev G1 := D → Store → Post → Prop
def UnD (K : PySem.W.Frag) (r : V → Hp → VK → Prop) (g : G1) : Prop := ∀ x S H dx Qd Q, SRel K S H → Rel K H dx x → g dx S Qd → LQ K S H Qd Q → r x H Q
def una (g : G1) (fa : ET) : ET := fun ρ S Q E => fa ρ S (fun x S1 => g x S1 Q) E
section
variable {X : Cx} {W : WX} {pos : Pos} {a : Expr} {fa : ET} {g : G1} {r : V → Hp → VK → Prop}
theorem e_un {op : UnaryOp} (ho : UnR X (unaryOp op) r) (hg : UnD X.K r g) (ha : PE X a (rdE X.K W fa)) : PE X (.UnaryOp op a pos) (rdE X.K W (una g fa)) := by
  refine PE_imp (pe_un ho ha) fun σ H Q ⟨ρ, S, Qd, Ed, hρ, hS, hf, lq, lx⟩ => ?_
  exact ⟨ρ, S, _, Ed, hρ, hS, hf, fun d1 S1 v1 H1 e1 r1 q1 h1 => hg _ _ _ _ _ _ r1 q1 h1 (lq.mono e1), lx⟩
end

/-! ### tests -/
/-- truth; a tracked object of the store by what it holds -/
def tru : D → Store → Option Bool
  | .non, _ => some false
  | .bl b, _ => some b
  | .int i, _ => some (i != 0)
  | .tup xs, _ => some (!xs.isEmpty)
  | .lst xs, _ => some (!xs.isEmpty)
  | .kls xs, _ => some (!xs.isEmpty)
  | .ref a, S => match S a with
    | some (.lst xs) => some (!xs.isEmpty)
    | some (.dct ks _) => some (!ks.isEmpty)
    | _ => none
  | _, _ => none
theorem isEmpty_rels {K : PySem.W.Frag} {H : Hp} {ds : List D} {xs : List V} (r : Rels K H ds xs) : ds.isEmpty = xs.isEmpty := by
  have := r.length
  cases ds <;> cases xs <;> simp_all
theorem tru_rel {K : PySem.W.Frag} {S : Store} {H : Hp} {d : D} {v : V} {b : Bool} (hS : SRel K S H) (r : Rel K H d v) (h : tru d S = some b) : TruV K v H b := by
  cases d with
  | non => cases h; have e : v = _ := r; subst e; rfl
  | bl b => cases h; have e : v = _ := r; subst e; rfl
  | int i => cases h; have e : v = _ := r; subst e; rfl
  | str x => cases h
  | ty n => cases h
  | exn c a ks xs => cases h
  | dct ks xs => cases h
  | tup ds => cases h; obtain ⟨a, xs, rfl, hq, rs⟩ := r; exact .inr (.inl ⟨xs, hq, by rw [isEmpty_rels rs]⟩)
  | kls ds => cases h; obtain ⟨a, xs, rfl, hq, rs⟩ := r; exact .inl ⟨xs, hq.seq, by rw [isEmpty_rels rs]⟩
  | lst ds => cases h; obtain ⟨a, xs, rfl, hq, rs⟩ := r; exact .inl ⟨xs, hq.seq, by rw [isEmpty_rels rs]⟩
  | ref a =>
    have e : v = _ := r
    subst e
    unfold tru at h
    dsimp only at h
    split at h
    · rename_i xs q
      cases h
      obtain ⟨ys, e, rs⟩ := hS _ _ q
      exact .inl ⟨ys, SqL.of e, by rw [isEmpty_rels rs]⟩
    · rename_i ks xs q
      cases h
      obtain ⟨ys, e, hl, rs⟩ := hS _ _ q
      refine .inr (.inr ⟨_, e, ?_⟩)
      have := rs.length
      cases ks <;> cases ys <;> simp_all
    · cases h
def bV (f : ET) : EB := fun ρ S Q E => f ρ S (fun d S1 => match tru d S1 with | some b => Q b S1 | none => False) E
def bAnd (f g : EB) : EB := fun ρ S Q E => f ρ S (fun b S1 => if b = true then g ρ S1 Q E else Q false S1) E
def bOr (f g : EB) : EB := fun ρ S Q E => f ρ S (fun b S1 => if b = true then Q true S1 else g ρ S1 Q E) E
def bNot (f : EB) : EB := fun ρ S Q E => f ρ S (fun b S1 => Q (!b) S1) E
section
variable {X : Cx} {W : WX} {pos : Pos} {a b c : Expr} {rest : List Expr} {fa fb fc : ET} {ga gb : EB} {g g' : G2} {r r' : R2}
theorem t_val (ha : PE X a (rdE X.K W fa)) (he : ∀ whole, isTrue a X.env whole = (do let v ← whole; standAt a.pos; holding [v] (truthy v)) := by exact fun _ => rfl) : PT X a (rdB X.K W (bV fa)) := by
  refine PT_imp (pt_truth ha he) fun σ H Q ⟨ρ, S, Qd, Ed, hρ, hS, hf, lq, lx⟩ => ?_
  refine ⟨ρ, S, _, Ed, hρ, hS, hf, fun d1 S1 v1 H1 e1 r1 q1 h1 => ?_, lx⟩
  dsimp only at h1
  split at h1
  · rename_i b hb
    exact ⟨b, tru_rel r1 q1 hb, lq b S1 H1 e1 r1 h1⟩
  · exact h1.elim
/-- a comparison as a test: its value is a bool -/
def bB (f : ET) : EB := fun ρ S Q E => f ρ S (fun d S1 => match d with | .bl b => Q b S1 | _ => False) E
def Bools (r : R2) : Prop := ∀ x y H Q, r x y H (FzQ Q) → r x y H Q
theorem t_cmp {op : CmpOp} (ho : OpR X (compareOp op) r) (hg : OpD X.K r g) (hz : Bools r) (ha : PE X a (rdE X.K W fa)) (hb : PE X b (rdE X.K W fb)) (hm : behindInMarks op b = false := by first | exact nomark _ | rfl | with_unfolding_all rfl) : PT X (.Compare a [op] [b] pos) (rdB X.K W (bB (bin g fa fb))) := by
  refine PT_imp (pt_cmpR ho ha hb hm) fun σ H Q ⟨ρ, S, Qd, Ed, hρ, hS, hf, lq, lx⟩ => ?_
  refine ⟨ρ, S, _, Ed, hρ, hS, hf, fun d1 S1 v1 H1 e1 r1 q1 h1 => ?_, lx⟩
  refine ⟨ρ, S1, _, Ed, hρ.imm (e1.imm hS), r1, h1, fun d2 S2 v2 H2 e2 r2 q2 h2 => ?_, lx.mono e1⟩
  refine hz _ _ _ _ (hg _ _ _ _ _ _ _ _ r2 (Rel.imm (e2.imm r1) _ _ q1) q2 h2 fun d3 S3 v3 H3 e3 r3 q3 h3 => ?_)
  cases d3 with
  | bl k => exact ⟨k, q3, lq k S3 H3 ((e1.trans e2).trans e3) r3 h3⟩
  | _ => exact h3.elim
theorem t_not (ha : PT X a (rdB X.K W ga)) : PT X (.UnaryOp .Not a pos) (rdB X.K W (bNot ga)) :=
  PT_imp (pt_not ha) fun σ H Q ⟨ρ, S, Qd, Ed, hρ, hS, hf, lq, lx⟩ => ⟨ρ, S, _, Ed, hρ, hS, hf, fun b S1 H1 e1 r1 h1 => lq _ _ _ e1 r1 h1, lx⟩
theorem w_and1 (ha : PT X a (rdB X.K W ga)) : PW X (.BoolOp .And [a] pos) (rdB X.K W ga) := pw_and1 ha
theorem w_or1 (ha : PT X a (rdB X.K W ga)) : PW X (.BoolOp .Or [a] pos) (rdB X.K W ga) := pw_or1 ha
theorem w_and (ha : PT X a (rdB X.K W ga)) (hb : PW X (.BoolOp .And (b :: rest) pos) (rdB X.K W gb)) : PW X (.BoolOp .And (a :: b :: rest) pos) (rdB X.K W (bAnd ga gb)) := by
  refine PW_imp (pw_and ha hb) fun σ H Q ⟨ρ, S, Qd, Ed, hρ, hS, hf, lq, lx⟩ => ?_
  refine ⟨ρ, S, _, Ed, hρ, hS, hf, fun b S1 H1 e1 r1 h1 => ?_, lx⟩
  cases b with
  | true => rw [if_pos rfl] at h1 ⊢; exact ⟨ρ, S1, _, Ed, hρ.imm (e1.imm hS), r1, h1, lq.mono e1, lx.mono e1⟩
  | false => rw [if_neg (nofun : ¬ false = true)] at h1 ⊢; exact lq _ _ _ e1 r1 h1
theorem w_or (ha : PT X a (rdB X.K W ga)) (hb : PW X (.BoolOp .Or (b :: rest) pos) (rdB X.K W gb)) : PW X (.BoolOp .Or (a :: b :: rest) pos) (rdB X.K W (bOr ga gb)) := by
  refine PW_imp (pw_or ha hb) fun σ H Q ⟨ρ, S, Qd, Ed, hρ, hS, hf, lq, lx⟩ => ?_
  refine ⟨ρ, S, _, Ed, hρ, hS, hf, fun b S1 H1 e1 r1 h1 => ?_, lx⟩
  cases b with
  | true => rw [if_pos rfl] at h1 ⊢; exact lq _ _ _ e1 r1 h1
  | false => rw [if_neg (nofun : ¬ false = true)] at h1 ⊢; exact ⟨ρ, S1, _, Ed, hρ.imm (e1.imm hS), r1, h1, lq.mono e1, lx.mono e1⟩
theorem w_pt (h : PW X a (rdB X.K W ga)) : PT X a (rdB X.K W ga) := h.pt
/-! chains -/
def chn (g g' : G2) (fa fb fc : ET) : ET := fun ρ S Q E => fa ρ S (fun x S1 => fb ρ S1 (fun y S2 => g x y S2 fun z S3 => match z with
  | .bl true => fc ρ S3 (fun u S4 => g' y u S4 Q) E
  | .bl false => Q (.bl false) S3
  | _ => False) E) E
theorem chn_rd (hg : OpD X.K r g) (hg' : OpD X.K r' g') (hz : Bools r) (hz' : Bools r') (σ : L2.St) (H : Hp) (Q : VK) (h : rdE X.K W (chn g g' fa fb fc) σ H Q) : tChain r r' (rdE X.K W fa) (rdE X.K W fb) (rdE X.K W fc) σ H Q := by
  obtain ⟨ρ, S, Qd, Ed, hρ, hS, hf, lq, lx⟩ := h
  refine ⟨ρ, S, _, Ed, hρ, hS, hf, fun d1 S1 v1 H1 e1 r1 q1 h1 => ?_, lx⟩
  refine ⟨ρ, S1, _, Ed, hρ.imm (e1.imm hS), r1, h1, fun d2 S2 v2 H2 e2 r2 q2 h2 => ?_, lx.mono e1⟩
  have e12 := e1.trans e2
  refine hz _ _ _ _ (hg _ _ _ _ _ _ _ _ r2 (Rel.imm (e2.imm r1) _ _ q1) q2 h2 fun d3 S3 v3 H3 e3 r3 q3 h3 => ?_)
  have e13 := e12.trans e3
  split at h3
  · have e : v3 = _ := q3
    subst e
    refine ⟨true, rfl, ?_⟩
    rw [if_pos rfl]
    refine ⟨ρ, S3, _, Ed, hρ.imm (e13.imm hS), r3, h3, fun d4 S4 v4 H4 e4 r4 q4 h4 => ?_, lx.mono e13⟩
    exact hz' _ _ _ _ (hg' _ _ _ _ _ _ _ _ r4 (Rel.imm ((e3.trans e4).imm r2) _ _ q2) q4 h4 (lq.mono (e13.trans e4)))
  · have e : v3 = _ := q3
    subst e
    refine ⟨false, rfl, ?_⟩
    rw [if_neg (nofun : ¬ false = true)]
    exact lq (.bl false) _ _ _ e13 r3 rfl h3
  · exact h3.elim
theorem e_chain {op op' : CmpOp} (ho : OpR X (compareOp op) r) (ho' : OpR X (compareOp op') r') (hg : OpD X.K r g) (hg' : OpD X.K r' g') (hz : Bools r) (hz' : Bools r')
    (ha : PE X a (rdE X.K W fa)) (hb : PE X b (rdE X.K W fb)) (hc : PE X c (rdE X.K W fc)) (hm : lastMarks [op, op'] [b, c] = false := by with_unfolding_all rfl) : PE X (.Compare a [op, op'] [b, c] pos) (rdE X.K W (chn g g' fa fb fc)) :=
  PE_imp (pe_chain ho ho' ha hb hc hm) (chn_rd hg hg' hz hz')
theorem t_chain {op op' : CmpOp} (ho : OpR X (compareOp op) r) (ho' : OpR X (compareOp op') r') (hg : OpD X.K r g) (hg' : OpD X.K r' g') (hz : Bools r) (hz' : Bools r')
    (ha : PE X a (rdE X.K W fa)) (hb : PE X b (rdE X.K W fb)) (hc : PE X c (rdE X.K W fc)) (hm : lastMarks [op, op'] [b, c] = false := by with_unfolding_all rfl) : PT X (.Compare a [op, op'] [b, c] pos) (rdB X.K W (bB (chn g g' fa fb fc))) := by
  refine PT_imp (pt_chain ho ho' ha hb hc hm) fun σ H Q ⟨ρ, S, Qd, Ed, hρ, hS, hf, lq, lx⟩ => ?_
  refine chn_rd hg hg' hz hz' σ H _ ⟨ρ, S, _, Ed, hρ, hS, hf, fun d1 S1 v1 H1 e1 r1 q1 h1 => ?_, lx⟩
  cases d1 with
  | bl k => exact ⟨k, q1, lq k S1 H1 e1 r1 h1⟩
  | _ => exact h1.elim
end

/-! ### and, or, not as values; a if t else b -/
def eAnd (fa fb : ET) : ET := fun ρ S Q E => fa ρ S (fun d S1 => match tru d S1 with
  | some true => fb ρ S1 Q E
  | some false => Q d S1
  | none => False) E
def eOr (fa fb : ET) : ET := fun ρ S Q E => fa ρ S (fun d S1 => match tru d S1 with
  | some true => Q d S1
  | some false => fb ρ S1 Q E
  | none => False) E
def eNot (fa : ET) : ET := fun ρ S Q E => fa ρ S (fun d S1 => match tru d S1 with
  | some b => Q (.bl (!b)) S1
  | none => False) E
def eIf (t : EB) (fa fb : ET) : ET := fun ρ S Q E => t ρ S (fun b S1 => if b = true then fa ρ S1 Q E else fb ρ S1 Q E) E
section
variable {X : Cx} {W : WX} {pos : Pos} {a b c : Expr} {rest : List Expr} {fa fb fc : ET} {ga gb : EB}
theorem e_one {op} (h : PE X a (rdE X.K W fa)) : PE X (.BoolOp op [a] pos) (rdE X.K W fa) := pe_one h
theorem e_and (ha : PE X a (rdE X.K W fa)) (hb : PE X (.BoolOp .And (b :: rest) pos) (rdE X.K W fb)) : PE X (.BoolOp .And (a :: b :: rest) pos) (rdE X.K W (eAnd fa fb)) := by
  refine PE_imp (pe_andT ha hb) fun σ H Q ⟨ρ, S, Qd, Ed, hρ, hS, hf, lq, lx⟩ => ?_
  refine ⟨ρ, S, _, Ed, hρ, hS, hf, fun d1 S1 v1 H1 e1 r1 q1 h1 => ?_, lx⟩
  dsimp only at h1
  split at h1
  · rename_i e
    exact ⟨true, tru_rel r1 q1 e, by rw [if_pos rfl]; exact ⟨ρ, S1, _, Ed, hρ.imm (e1.imm hS), r1, h1, lq.mono e1, lx.mono e1⟩⟩
  · rename_i e
    exact ⟨false, tru_rel r1 q1 e, by rw [if_neg (nofun : ¬ false = true)]; exact lq _ _ _ _ e1 r1 q1 h1⟩
  · exact h1.elim
theorem e_or (ha : PE X a (rdE X.K W fa)) (hb : PE X (.BoolOp .Or (b :: rest) pos) (rdE X.K W fb)) : PE X (.BoolOp .Or (a :: b :: rest) pos) (rdE X.K W (eOr fa fb)) := by
  refine PE_imp (pe_orT ha hb) fun σ H Q ⟨ρ, S, Qd, Ed, hρ, hS, hf, lq, lx⟩ => ?_
  refine ⟨ρ, S, _, Ed, hρ, hS, hf, fun d1 S1 v1 H1 e1 r1 q1 h1 => ?_, lx⟩
  dsimp only at h1
  split at h1
  · rename_i e
    exact ⟨true, tru_rel r1 q1 e, by rw [if_pos rfl]; exact lq _ _ _ _ e1 r1 q1 h1⟩
  · rename_i e
    exact ⟨false, tru_rel r1 q1 e, by rw [if_neg (nofun : ¬ false = true)]; exact ⟨ρ, S1, _, Ed, hρ.imm (e1.imm hS), r1, h1, lq.mono e1, lx.mono e1⟩⟩
  · exact h1.elim
theorem e_not (ha : PE X a (rdE X.K W fa)) : PE X (.UnaryOp .Not a pos) (rdE X.K W (eNot fa)) := by
  refine PE_imp (pe_notT ha) fun σ H Q ⟨ρ, S, Qd, Ed, hρ, hS, hf, lq, lx⟩ => ?_
  refine ⟨ρ, S, _, Ed, hρ, hS, hf, fun d1 S1 v1 H1 e1 r1 q1 h1 => ?_, lx⟩
  dsimp only at h1
  split at h1
  · rename_i b e
    exact ⟨b, tru_rel r1 q1 e, lq (.bl (!b)) _ _ _ e1 r1 rfl h1⟩
  · exact h1.elim
theorem e_if (hc : PT X c (rdB X.K W ga)) (ha : PE X a (rdE X.K W fa)) (hb : PE X b (rdE X.K W fb)) : PE X (.IfExp c a b pos) (rdE X.K W (eIf ga fa fb)) := by
  refine PE_imp (pe_ifExp hc ha hb) fun σ H Q ⟨ρ, S, Qd, Ed, hρ, hS, hf, lq, lx⟩ => ?_
  refine ⟨ρ, S, _, Ed, hρ, hS, hf, fun b S1 H1 e1 r1 h1 => ?_, lx⟩
  cases b with
  | true => rw [if_pos rfl] at h1 ⊢; exact ⟨ρ, S1, _, Ed, hρ.imm (e1.imm hS), r1, h1, lq.mono e1, lx.mono e1⟩
  | false => rw [if_neg (nofun : ¬ false = true)] at h1 ⊢; exact ⟨ρ, S1, _, Ed, hρ.imm (e1.imm hS), r1, h1, lq.mono e1, lx.mono e1⟩
end
end MP

set_option Elab.async false
set_option linter.all false
set_option maxRecDepth 100000
/-! MPStmt: the readings of statements over data; loops, comprehensions; a def's promise. -/
namespace MP
open PySem PyProof.Rows PySem.Spec L2

structure DEnds where
  nx : Env → Store → Prop
  rt : Post
  ex : Exn → Env → Store → Prop
  bk : Env → Store → Prop := fun _ _ => False
  ct : Env → Store → Prop := fun _ _ => False
abbrev ST := Env → Store → DEnds → Prop
section
variable (K : PySem.W.Frag)
structure LN (S : Store) (H : Hp) (N : DEnds) (W : WX) (D : Ends) : Prop where
  nx : ∀ ρ' S' σ' H', Evo S H S' H' → SRel K S' H' → EnvR K H' ρ' σ' → N.nx ρ' S' → D.nx σ' H'
  rt : LQ K S H N.rt D.rt
  ex : ∀ x ρ' S' c dd σ' H', Evo S H S' H' → SRel K S' H' → EnvR K H' ρ' σ' → ExnR K H' x c dd → N.ex x ρ' S' → W c dd σ' H'
  bk : ∀ ρ' S' σ' H', Evo S H S' H' → SRel K S' H' → EnvR K H' ρ' σ' → N.bk ρ' S' → D.bk σ' H'
  ct : ∀ ρ' S' σ' H', Evo S H S' H' → SRel K S' H' → EnvR K H' ρ' σ' → N.ct ρ' S' → D.ct σ' H'
def rdS (W : WX) (g : ST) : TS := fun D σ H => ∃ ρ S N, EnvR K H ρ σ ∧ SRel K S H ∧ g ρ S N ∧ LN K S H N W D
end
section
variable {K : PySem.W.Frag} {S S1 : Store} {H H1 : Hp} {N : DEnds} {W : WX} {D : Ends}
theorem LN.mono (l : LN K S H N W D) (e : Evo S H S1 H1) : LN K S1 H1 N W D :=
  ⟨fun ρ' S' σ' H' e' => l.nx ρ' S' σ' H' (e.trans e'), l.rt.mono e, fun x ρ' S' c dd σ' H' e' => l.ex x ρ' S' c dd σ' H' (e.trans e'), fun ρ' S' σ' H' e' => l.bk ρ' S' σ' H' (e.trans e'), fun ρ' S' σ' H' e' => l.ct ρ' S' σ' H' (e.trans e')⟩
/-- what an expression's exception leads to -/
theorem LN.lx (l : LN K S H N W D) (hS : SRel K S H) {ρ : Env} {σ : L2.St} (hρ : EnvR K H ρ σ) : LX K S H (fun x S' => N.ex x ρ S') (fun c dd H' => W c dd σ H') :=
  fun x S' c dd H' e r q h => l.ex x ρ S' c dd σ H' e r (hρ.imm (e.imm hS)) q h
end
theorem PS_imp {X : Cx} {s : Stmt} {t t' : TS} (h : PS X s t) (i : ∀ D σ H, t' D σ H → t D σ H) : PS X s t' := ⟨fun pins s σ H D I q => h.run pins s σ H D I (i D σ H q)⟩
theorem PSs_imp {X : Cx} {s : List Stmt} {t t' : TS} (h : PSs X s t) (i : ∀ D σ H, t' D σ H → t D σ H) : PSs X s t' := ⟨fun pins s σ H D I q => h.run pins s σ H D I (i D σ H q)⟩
theorem PG_imp {X : Cx} {e : Expr} {t t' : TG} (h : PG X e t) (i : ∀ v σ H Q, t' v σ H Q → t v σ H Q) : PG X e t' := ⟨fun pins s σ H v u Q I r q => h.run pins s σ H v u Q I r (i v σ H Q q)⟩
theorem PGs_imp {X : Cx} {e : List Expr} {t t' : TGs} (h : PGs X e t) (i : ∀ v σ H Q, t' v σ H Q → t v σ H Q) : PGs X e t' := ⟨fun pins s σ H v u Q I r q => h.run pins s σ H v u Q I r (i v σ H Q q)⟩
theorem PI_imp {X : Cx} {tg e : Expr} {t t' : TI} (h : PI X tg e t) (i : ∀ σ H R, t' σ H R → t σ H R) : PI X tg e t' := ⟨fun pins s σ H R I q => h.run pins s σ H R I (i σ H R q)⟩
theorem PTs_imp {X : Cx} {e : List Expr} {t t' : TT} (h : PTs X e t) (i : ∀ σ H Q, t' σ H Q → t σ H Q) : PTs X e t' := ⟨fun pins s σ H Q I q => h.run pins s σ H Q I (i σ H Q q)⟩

/-! ### blocks, small statements -/
def dNext : ST := fun ρ S N => N.nx ρ S
def dSeq (g h : ST) : ST := fun ρ S N => g ρ S { N with nx := fun ρ' S' => h ρ' S' N }
def dExpr (f : ET) : ST := fun ρ S N => f ρ S (fun _ S' => N.nx ρ S') (fun x S' => N.ex x ρ S')
def dRet (f : ET) : ST := fun ρ S N => f ρ S N.rt (fun x S' => N.ex x ρ S')
def dRetN : ST := fun _ S N => N.rt .non S
def dBrk : ST := fun ρ S N => N.bk ρ S
def dCnt : ST := fun ρ S N => N.ct ρ S
def dIf (t : EB) (g h : ST) : ST := fun ρ S N => t ρ S (fun b S' => if b = true then g ρ S' N else h ρ S' N) (fun x S' => N.ex x ρ S')
section
variable {X : Cx} {W : WX} {pos : Pos} {s : Stmt} {rest : List Stmt} {e : Expr} {f : ET} {g h : ST} {t : EB}
theorem ss_nil : PSs X [] (rdS X.K W dNext) := PSs_imp pss_nil fun D σ H ⟨ρ, S, N, hρ, hS, hf, l⟩ => l.nx ρ S σ H (Evo.refl _ _) hS hρ hf
theorem ss_one (h1 : PS X s (rdS X.K W g)) : PSs X [s] (rdS X.K W g) := pss_one h1
theorem ss_cons (h1 : PS X s (rdS X.K W g)) (h2 : PSs X rest (rdS X.K W h)) : PSs X (s :: rest) (rdS X.K W (dSeq g h)) :=
  PSs_imp (pss_cons h1 h2) fun D σ H ⟨ρ, S, N, hρ, hS, hf, l⟩ =>
    ⟨ρ, S, _, hρ, hS, hf, ⟨fun ρ' S' σ' H' e r q k => ⟨ρ', S', N, q, r, k, l.mono e⟩, l.rt, l.ex, l.bk, l.ct⟩⟩
theorem s_pass : PS X (.Pass pos) (rdS X.K W dNext) := PS_imp ps_pass fun D σ H ⟨ρ, S, N, hρ, hS, hf, l⟩ => l.nx ρ S σ H (Evo.refl _ _) hS hρ hf
theorem s_doc {x j pos'} : PS X (.Expr (.Constant (.str x) j pos) pos') (rdS X.K W dNext) := PS_imp ps_doc fun D σ H ⟨ρ, S, N, hρ, hS, hf, l⟩ => l.nx ρ S σ H (Evo.refl _ _) hS hρ hf
theorem s_break : PS X (.Break pos) (rdS X.K W dBrk) := PS_imp ps_break fun D σ H ⟨ρ, S, N, hρ, hS, hf, l⟩ => l.bk ρ S σ H (Evo.refl _ _) hS hρ hf
theorem s_continue : PS X (.Continue pos) (rdS X.K W dCnt) := PS_imp ps_continue fun D σ H ⟨ρ, S, N, hρ, hS, hf, l⟩ => l.ct ρ S σ H (Evo.refl _ _) hS hρ hf
theorem s_expr (he : PE X e (rdE X.K W f)) (hs : swapsWith e none pos.line X.env = pure false := by rfl) : PS X (.Expr e pos) (rdS X.K W (dExpr f)) :=
  PS_imp (ps_expr he hs) fun D σ H ⟨ρ, S, N, hρ, hS, hf, l⟩ =>
    ⟨ρ, S, _, _, hρ, hS, hf, fun d S' v H' e r q k => l.nx ρ S' σ H' e r (hρ.imm (e.imm hS)) k, l.lx hS hρ⟩
theorem s_ret (he : PE X e (rdE X.K W f)) : PS X (.Return (some e) pos) (rdS X.K W (dRet f)) :=
  PS_imp (ps_ret he) fun D σ H ⟨ρ, S, N, hρ, hS, hf, l⟩ => ⟨ρ, S, _, _, hρ, hS, hf, l.rt, l.lx hS hρ⟩
theorem s_retN : PS X (.Return none pos) (rdS X.K W dRetN) := PS_imp ps_retN fun D σ H ⟨ρ, S, N, hρ, hS, hf, l⟩ => l.rt .non S .non H (Evo.refl _ _) hS rfl hf
theorem s_if {c : Expr} {a b : List Stmt} (hc : PT X c (rdB X.K W t)) (ha : PSs X a (rdS X.K W g)) (hb : PSs X b (rdS X.K W h)) : PS X (.If c a b pos) (rdS X.K W (dIf t g h)) :=
  PS_imp (ps_if hc ha hb) fun D σ H ⟨ρ, S, N, hρ, hS, hf, l⟩ => by
    refine ⟨ρ, S, _, _, hρ, hS, hf, fun b S1 H1 e1 r1 h1 => ?_, l.lx hS hρ⟩
    cases b with
    | true => rw [if_pos rfl] at h1 ⊢; exact ⟨ρ, S1, N, hρ.imm (e1.imm hS), r1, h1, l.mono e1⟩
    | false => rw [if_neg Bool.false_ne_true] at h1 ⊢; exact ⟨ρ, S1, N, hρ.imm (e1.imm hS), r1, h1, l.mono e1⟩
end

/-! ### targets, assignments -/
abbrev DG := D → Env → Store → (Env → Store → Prop) → Prop
abbrev DGs := List D → Env → Store → (Env → Store → Prop) → Prop
def LE (K : PySem.W.Frag) (S : Store) (H : Hp) (Qd : Env → Store → Prop) (Q : L2.St → Hp → Prop) : Prop := ∀ ρ' S' σ' H', Evo S H S' H' → SRel K S' H' → EnvR K H' ρ' σ' → Qd ρ' S' → Q σ' H'
theorem LE.mono {K : PySem.W.Frag} {S S1 : Store} {H H1 : Hp} {Qd : Env → Store → Prop} {Q : L2.St → Hp → Prop} (l : LE K S H Qd Q) (e : Evo S H S1 H1) : LE K S1 H1 Qd Q := fun ρ' S' σ' H' e' => l ρ' S' σ' H' (e.trans e')
def rdG (K : PySem.W.Frag) (g : DG) : TG := fun v σ H Q => ∃ ρ S d Qd, EnvR K H ρ σ ∧ SRel K S H ∧ Rel K H d v ∧ g d ρ S Qd ∧ LE K S H Qd Q
def rdGs (K : PySem.W.Frag) (g : DGs) : TGs := fun vs σ H Q => ∃ ρ S ds Qd, EnvR K H ρ σ ∧ SRel K S H ∧ Rels K H ds vs ∧ g ds ρ S Qd ∧ LE K S H Qd Q
def dgName (i : Nat) : DG := fun d ρ S Q => Q (st ρ i (some d)) S
def dgNil : DGs := fun ds ρ S Q => match ds with
  | [] => Q ρ S
  | _ => False
def dgCons (g : DG) (h : DGs) : DGs := fun ds ρ S Q => match ds with
  | d :: r => g d ρ S fun ρ1 S1 => h r ρ1 S1 Q
  | [] => False
def dgTup (n : Nat) (h : DGs) : DG := fun d ρ S Q => match d with
  | .tup ds => ds.length = n ∧ h ds ρ S Q
  | _ => False
def dAsg (f : ET) (g : DG) : ST := fun ρ S N => f ρ S (fun d S' => g d ρ S' N.nx) (fun x S' => N.ex x ρ S')
def dSet (i : Nat) (f : ET) : ST := fun ρ S N => f ρ S (fun d S' => N.nx (st ρ i (some d)) S') (fun x S' => N.ex x ρ S')
def dPar (i j : Nat) (fa : EA) : ST := fun ρ S N => fa ρ S (fun ds S' => match ds with
  | [x, y] => N.nx (st (st ρ i (some x)) j (some y)) S'
  | _ => False) (fun x S' => N.ex x ρ S')
section
variable {X : Cx} {W : WX} {pos pos' : Pos} {e tg : Expr} {es : List Expr} {f : ET} {fa : EA} {g : DG} {gs : DGs}
theorem g_name {i : Nat} {x : Str} (h : PG X (.Name x pos) (gName i)) : PG X (.Name x pos) (rdG X.K (dgName i)) :=
  PG_imp h fun v σ H Q ⟨ρ, S, d, Qd, hρ, hS, hd, hg, l⟩ => l _ S _ H (Evo.refl _ _) hS (hρ.set hd i) hg
theorem gs_nil : PGs X [] (rdGs X.K dgNil) := PGs_imp pgs_nil fun v σ H Q ⟨ρ, S, ds, Qd, hρ, hS, hd, hg, l⟩ => by
  cases ds with
  | nil => exact ⟨hd, l ρ S σ H (Evo.refl _ _) hS hρ hg⟩
  | cons d r => exact hg.elim
theorem gs_cons (h1 : PG X e (rdG X.K g)) (h2 : PGs X es (rdGs X.K gs)) (hs : (assignEach (e :: es) X.env).map (·.2) = assign e X.env :: (assignEach es X.env).map (·.2) := by rfl) : PGs X (e :: es) (rdGs X.K (dgCons g gs)) :=
  PGs_imp (pgs_cons h1 h2 hs) fun vs σ H Q ⟨ρ, S, ds, Qd, hρ, hS, hd, hg, l⟩ => by
    cases ds with
    | nil => exact hg.elim
    | cons d r =>
      obtain ⟨v, vr, rfl, q1, q2⟩ := hd
      refine ⟨v, vr, rfl, ρ, S, d, _, hρ, hS, q1, hg, fun ρ1 S1 σ1 H1 e1 r1 k1 h1 => ?_⟩
      exact ⟨ρ1, S1, r, Qd, k1, r1, Rels.imm (e1.imm hS) _ _ q2, h1, l.mono e1⟩
theorem g_tup {k : Nat} {n : Nat} (hc : X.calm = true) (h : PGs X es (rdGs X.K gs)) (hn : (assignEach es X.env).length = n := by rfl) (hst : (assignEach es X.env).findIdx? (·.1) = none := by rfl) : PG X (.Tuple es k pos) (rdG X.K (dgTup n gs)) :=
  PG_imp (pg_tup hc h hn hst) fun v σ H Q ⟨ρ, S, d, Qd, hρ, hS, hd, hg, l⟩ => by
    cases d with
    | tup ds =>
      obtain ⟨a, xs, rfl, hq, rs⟩ := hd
      exact ⟨a, xs, rfl, hq, by rw [← rs.length]; exact hg.1, ρ, S, ds, Qd, hρ, hS, rs, hg.2, l⟩
    | _ => exact hg.elim
theorem s_asg (he : PE X e (rdE X.K W f)) (hg : PG X tg (rdG X.K g)) (hSole : swapsWithSole [tg] e pos.line X.env = pure false := by rfl) (hSw : swappedStores [tg] e X.env = pure none := by rfl)
    (h1 : (assignEach [tg] X.env).map (·.2) = [assign tg X.env] := by rfl) : PS X (.Assign [tg] e pos) (rdS X.K W (dAsg f g)) :=
  PS_imp (ps_asg he hg hSole hSw h1) fun D σ H ⟨ρ, S, N, hρ, hS, hf, l⟩ => by
    refine ⟨ρ, S, _, _, hρ, hS, hf, fun d S1 v H1 e1 r1 q1 h1 => ?_, l.lx hS hρ⟩
    exact ⟨ρ, S1, d, N.nx, hρ.imm (e1.imm hS), r1, q1, h1, fun ρ' S' σ' H' e' r' k' h' => l.nx ρ' S' σ' H' (e1.trans e') r' k' h'⟩
theorem s_set {i : Nat} {x : Str} (hN : X.N.Nodup) (hi : X.N[i]? = some x) (hx : Loc X.env.scope x) (he : PE X e (rdE X.K W f)) (hf : X.fn x = true ∨ X.env.scope.names.lookup x = some .local := by first | exact .inl rfl | exact .inr rfl | assumption) (hs : swapsWith e (some (.Name x pos')) pos.line X.env = pure false := by rfl) :
    PS X (.Assign [.Name x pos'] e pos) (rdS X.K W (dSet i f)) :=
  PS_imp (ps_set hN hi hx he hs hf) fun D σ H ⟨ρ, S, N, hρ, hS, hf, l⟩ =>
    ⟨ρ, S, _, _, hρ, hS, hf, fun d S1 v H1 e1 r1 q1 h1 => l.nx _ S1 _ H1 e1 r1 ((hρ.imm (e1.imm hS)).set q1 i) h1, l.lx hS hρ⟩
theorem s_par {i j : Nat} {x y : Str} {a b : Expr} {px py pt : Pos} {kt k2 pt2} (hc : X.calm = true) (hN : X.N.Nodup) (hi : X.N[i]? = some x) (hj : X.N[j]? = some y) (hij : i ≠ j)
    (hx : X.env.scope.names.lookup x = some .local) (hy : X.env.scope.names.lookup y = some .local) (ha : PA X [a, b] (rdA X.K W 2 fa))
    (hSw : swappedStores [.Tuple [.Name x px, .Name y py] kt pt] (.Tuple [a, b] k2 pt2) X.env = pure (some [x, y]))
    (hSole : swapsWithSole [.Tuple [.Name x px, .Name y py] kt pt] (.Tuple [a, b] k2 pt2) pos.line X.env = pure false := by rfl) :
    PS X (.Assign [.Tuple [.Name x px, .Name y py] kt pt] (.Tuple [a, b] k2 pt2) pos) (rdS X.K W (dPar i j fa)) :=
  PS_imp (ps_par hc hN hi hj hij hx hy ha hSw hSole) fun D σ H ⟨ρ, S, N, hρ, hS, hf, l⟩ => by
    refine ⟨ρ, S, _, _, hρ, hS, hf, fun ds S1 vs H1 e1 r1 q1 hl h1 => ?_, l.lx hS hρ⟩
    dsimp only at h1
    split at h1
    · rename_i x1 y1
      obtain ⟨v, r, rfl, k1, v2, r2, rfl, k2, z⟩ := q1
      have z' : r2 = [] := z
      subst z'
      exact ⟨v, v2, rfl, l.nx _ S1 _ H1 e1 r1 (((hρ.imm (e1.imm hS)).set k1 i).set k2 j) h1⟩
    · exact h1.elim
end

/-! ### what is walked -/
abbrev EI := Env → Store → (List D → Store → Prop) → XPost → Prop
/-- the heap as it is, or with a new object -/
def Ext (H H' : Hp) : Prop := H' = H ∨ ∃ p o, H p = none ∧ H' = upd H p o
theorem Ext.evo {H H' : Hp} (e : Ext H H') (S : Store) : Evo S H S H' := by
  rcases e with rfl | ⟨p, o, hp, rfl⟩
  · exact Evo.refl _ _
  · exact evo_new hp
theorem Ext.srel {K : PySem.W.Frag} {S : Store} {H H' : Hp} (e : Ext H H') (r : SRel K S H) : SRel K S H' := by
  rcases e with rfl | ⟨p, o, hp, rfl⟩
  · exact r
  · exact r.upd_new hp
structure Yields (K : PySem.W.Frag) (J : It) (ds : List D) (H0 : Hp) : Prop where
  go : ∀ i H, i < ds.length → Imm H0 H → J.go i H
  stop : ∀ H, Imm H0 H → J.stop ds.length H
  yld : ∀ i H x H' d, ds[i]? = some d → Imm H0 H → J.yld i H x H' → Ext H H' ∧ Rel K H' d x
def rdI (K : PySem.W.Frag) (W : WX) (f : EI) : TI := fun σ H R => ∃ ρ S Qd Ed, EnvR K H ρ σ ∧ SRel K S H ∧ f ρ S Qd Ed ∧
  (∀ ds S' J H', Evo S H S' H' → SRel K S' H' → Yields K J ds H' → Qd ds S' → R J H') ∧ LX K S H Ed (fun c dd H' => W c dd σ H')
theorem Imm.trans {H H1 H2 : Hp} (a : Imm H H1) (b : Imm H1 H2) : Imm H H2 := fun x o h m => b x o (a x o h m) m
theorem Imm.refl (H : Hp) : Imm H H := fun _ _ h _ => h

/-! ### for -/
def loop (g : DG) (b : ST) (N : DEnds) : List D → Env → Store → Prop
  | [], ρ, S => N.nx ρ S
  | d :: ds, ρ, S => g d ρ S fun ρ1 S1 => b ρ1 S1 { N with nx := loop g b N ds, ct := loop g b N ds, bk := N.nx }
def dFor (f : EI) (g : DG) (b : ST) : ST := fun ρ S N => f ρ S (fun ds S1 => loop g b N ds ρ S1) (fun x S' => N.ex x ρ S')
section
variable {X : Cx} {W : WX} {pos : Pos} {tg iter : Expr} {body : List Stmt} {fi : EI} {g : DG} {b : ST}
theorem drop_cons {α : Type} {l : List α} {i : Nat} (h : i < l.length) : l.drop i = l[i] :: l.drop (i + 1) := List.drop_eq_getElem_cons h
theorem s_for (hp : PassesOwn (model X.prog X.w) X.A X.env X.xe) (hc : X.calm = true) (hi : PI X tg iter (rdI X.K W fi)) (hg : PG X tg (rdG X.K g)) (hb : PSs X body (rdS X.K W b))
    (hs : ∀ x, foldedSetIterable iter X.env x = pure x := by exact fun _ => rfl) : PS X (.For tg iter body [] pos) (rdS X.K W (dFor fi g b)) :=
  PS_imp (ps_for hp hc hi hg hb hs) fun D σ H ⟨ρ, S, N, hρ, hS, hf, l⟩ => by
    refine ⟨ρ, S, _, _, hρ, hS, hf, fun ds S1 J H1 e1 r1 y h1 => ?_, l.lx hS hρ⟩
    refine ⟨fun i m σ' H' => m = ds.length - i ∧ i ≤ ds.length ∧ ∃ ρ' S', EnvR X.K H' ρ' σ' ∧ SRel X.K S' H' ∧ Evo S1 H1 S' H' ∧ loop g b N (ds.drop i) ρ' S', ⟨ds.length, by simp, Nat.zero_le _, ρ, S1, hρ.imm (e1.imm hS), r1, Evo.refl _ _, h1⟩, ?_⟩
    rintro i m σ' H' ⟨rfl, hle, ρ', S', k', r', e', h'⟩
    have im : Imm H1 H' := e'.imm r1
    by_cases hlt : i < ds.length
    · refine .inr ⟨y.go i H' hlt im, _, fun σ2 H2 z => ⟨ds.length - (i + 1), by omega, rfl, hlt, z⟩, fun x H2 hy => ?_⟩
      obtain ⟨ex, rx⟩ := y.yld i H' x H2 ds[i] (by simp [hlt]) im hy
      have e2 := ex.evo S'
      have r2 := ex.srel r'
      rw [drop_cons hlt] at h'
      refine ⟨ρ', S', ds[i], _, k'.imm (e2.imm r'), r2, rx, h', fun ρ3 S3 σ3 H3 e3 r3 k3 h3 => ?_⟩
      have e13 := (e'.trans e2).trans e3
      refine ⟨ρ3, S3, _, k3, r3, h3, ⟨fun ρ4 S4 σ4 H4 e4 r4 k4 h4 => ?_, ?_, ?_, ?_, fun ρ4 S4 σ4 H4 e4 r4 k4 h4 => ?_⟩⟩
      · exact ⟨ρ4, S4, k4, r4, e13.trans e4, h4⟩
      · exact l.rt.mono (e1.trans e13)
      · exact (l.mono (e1.trans e13)).ex
      · exact (l.mono (e1.trans e13)).nx
      · exact ⟨ρ4, S4, k4, r4, e13.trans e4, h4⟩
    · have ei : i = ds.length := by omega
      subst ei
      refine .inl ⟨y.stop H' im, ?_⟩
      rw [List.drop_length] at h'
      exact l.nx ρ' S' σ' H' (e1.trans e') r' k' h'
end

/-! ### while -/
def whN (t : EB) (b : ST) : Nat → ST
  | 0 => fun _ _ _ => False
  | n + 1 => fun ρ S N => t ρ S (fun c S1 => if c = true then b ρ S1 { N with nx := fun ρ2 S2 => whN t b n ρ2 S2 N, ct := fun ρ2 S2 => whN t b n ρ2 S2 N, bk := N.nx } else N.nx ρ S1) (fun x S' => N.ex x ρ S')
def dWhile (t : EB) (b : ST) : ST := fun ρ S N => ∃ n, whN t b n ρ S N
section
variable {X : Cx} {W : WX} {pos : Pos} {c : Expr} {body : List Stmt} {t : EB} {b : ST}
theorem s_while (hp : PassesOwn (model X.prog X.w) X.A X.env X.xe) (hc : PT X c (rdB X.K W t)) (hb : PSs X body (rdS X.K W b)) : PS X (.While c body [] pos) (rdS X.K W (dWhile t b)) :=
  PS_imp (ps_while hp hc hb) fun D σ H ⟨ρ, S, N, hρ, hS, ⟨n, hf⟩, l⟩ => by
    refine ⟨fun m σ' H' => ∃ ρ' S', EnvR X.K H' ρ' σ' ∧ SRel X.K S' H' ∧ Evo S H S' H' ∧ whN t b m ρ' S' N, ⟨n, ρ, S, hρ, hS, Evo.refl _ _, hf⟩, ?_⟩
    rintro m σ' H' ⟨ρ', S', k', r', e', h'⟩
    cases m with
    | zero => exact h'.elim
    | succ m =>
      have l' := l.mono e'
      refine ⟨ρ', S', _, _, k', r', h', fun c S1 H1 e1 r1 h1 => ?_, l'.lx r' k'⟩
      cases c with
      | false => rw [if_neg Bool.false_ne_true] at h1 ⊢; exact l'.nx _ _ _ _ e1 r1 (k'.imm (e1.imm r')) h1
      | true =>
        rw [if_pos rfl] at h1 ⊢
        have l1 := l'.mono e1
        have e01 := e'.trans e1
        refine ⟨_, fun σ2 H2 z => ⟨m, Nat.lt_succ_self m, z⟩, ρ', S1, _, k'.imm (e1.imm r'), r1, h1, ⟨fun ρ4 S4 σ4 H4 e4 r4 k4 h4 => ⟨ρ4, S4, k4, r4, e01.trans e4, h4⟩, l1.rt, l1.ex, l1.nx, fun ρ4 S4 σ4 H4 e4 r4 k4 h4 => ⟨ρ4, S4, k4, r4, e01.trans e4, h4⟩⟩⟩
end

/-! ### a list comprehension, one clause -/
def comp (g : DG) (t : EB) (f : ET) (Q : List D → Store → Prop) : List D → List D → Env → Store → Prop
  | [], acc, _, S => Q acc S
  | d :: ds, acc, ρ, S => g d ρ S fun ρ1 S1 => t ρ1 S1 (fun b S2 => if b = true then f ρ1 S2 (fun y S3 => acc.length < sizeLine ∧ comp g t f Q ds (acc ++ [y]) ρ S3) (fun _ _ => False) else comp g t f Q ds acc ρ S2) (fun _ _ => False)
def bYes : EB := fun _ S Q _ => Q true S
def wipeD (ρ : Env) : List Nat → Env
  | [] => ρ
  | i :: r => st (wipeD ρ r) i none
theorem EnvR.wipe {K : PySem.W.Frag} {H : Hp} {ρ : Env} {σ : L2.St} (h : EnvR K H ρ σ) : ∀ vs : List Nat, EnvR K H (wipeD ρ vs) (wipe σ vs)
  | [] => h
  | i :: r => EnvR.gone i none (EnvR.wipe h r)
/-- a target that stores into the slots vs alone -/
def TgOk (K : PySem.W.Frag) (vs : List Nat) (t : TG) (g : DG) : Prop := ∀ v σ H ρ S d Qd, EnvR K H ρ σ → Rel K H d v → g d ρ S Qd →
  t v σ H fun σ2 H2 => H2 = H ∧ L2.wipe σ2 vs = L2.wipe σ vs ∧ ∃ ρ2, EnvR K H ρ2 σ2 ∧ Qd ρ2 S
def TgsOk (K : PySem.W.Frag) (vs : List Nat) (t : TGs) (g : DGs) : Prop := ∀ us σ H ρ S ds Qd, EnvR K H ρ σ → Rels K H ds us → g ds ρ S Qd →
  t us σ H fun σ2 H2 => H2 = H ∧ L2.wipe σ2 vs = L2.wipe σ vs ∧ ∃ ρ2, EnvR K H ρ2 σ2 ∧ Qd ρ2 S
theorem wipe_set {σ : L2.St} {i : Nat} {o : Option V} : ∀ {vs : List Nat}, i ∈ vs → L2.wipe (σ.set i o) vs = L2.wipe σ vs
  | [], h => by cases h
  | j :: r, h => by
    show (L2.wipe (σ.set i o) r).set j none = (L2.wipe σ r).set j none
    by_cases hr : i ∈ r
    · rw [wipe_set hr]
    · have e : i = j := by
        rcases List.mem_cons.1 h with e | e
        · exact e
        · exact absurd e hr
      subst e
      have comm : ∀ (l : List Nat), i ∉ l → ∀ σ : L2.St, L2.wipe (σ.set i o) l = (L2.wipe σ l).set i o := by
        intro l
        induction l with
        | nil => intro _ σ; rfl
        | cons k l ih =>
          intro hk σ
          have hne : k ≠ i := fun e => hk (by simp [e])
          show (L2.wipe (σ.set i o) l).set k none = ((L2.wipe σ l).set k none).set i o
          rw [ih (fun z => hk (by simp [z])) σ, List.set_comm _ _ (Ne.symm hne)]
      rw [comm r hr σ, List.set_set]
theorem tg_name {K : PySem.W.Frag} {vs : List Nat} {i : Nat} (h : i ∈ vs := by decide) : TgOk K vs (gName i) (dgName i) :=
  fun v σ H ρ S d Qd hρ hd hg => ⟨rfl, wipe_set h, _, hρ.set hd i, hg⟩
theorem tgs_nil {K : PySem.W.Frag} {vs : List Nat} : TgsOk K vs gNil dgNil := fun us σ H ρ S ds Qd hρ hd hg => by
  cases ds with
  | nil => exact ⟨hd, rfl, rfl, ρ, hρ, hg⟩
  | cons d r => exact hg.elim
/-- a reading of a target is monotone -/
def TgMono (t : TG) : Prop := ∀ v σ H Q Q', (∀ σ' H', Q σ' H' → Q' σ' H') → t v σ H Q → t v σ H Q'
theorem mono_name {i : Nat} : TgMono (gName i) := fun v σ H Q Q' i h => i _ _ h
theorem tgs_cons {K : PySem.W.Frag} {vs : List Nat} {t : TG} {u : TGs} {g : DG} {h : DGs} (m : TgMono t) (h1 : TgOk K vs t g) (h2 : TgsOk K vs u h) : TgsOk K vs (gCons t u) (dgCons g h) := fun us σ H ρ S ds Qd hρ hd hg => by
  cases ds with
  | nil => exact hg.elim
  | cons d r =>
    obtain ⟨v, vr, rfl, q1, q2⟩ := hd
    refine ⟨v, vr, rfl, m _ _ _ _ _ (fun σ' H' z => ?_) (h1 v σ H ρ S d _ hρ q1 hg)⟩
    obtain ⟨e, w, ρ2, k2, g2⟩ := z
    subst e
    have z2 := h2 vr σ' H' ρ2 S r Qd k2 q2 g2
    rw [w] at z2
    exact z2
theorem tg_tup {K : PySem.W.Frag} {vs : List Nat} {n : Nat} {u : TGs} {h : DGs} (h2 : TgsOk K vs u h) : TgOk K vs (gTup K n u) (dgTup n h) := fun v σ H ρ S d Qd hρ hd hg => by
  cases d with
  | tup ds =>
    obtain ⟨a, xs, rfl, hq, rs⟩ := hd
    exact ⟨a, xs, rfl, hq, by rw [← rs.length]; exact hg.1, h2 xs σ H ρ S ds Qd hρ rs hg.2⟩
  | _ => exact hg.elim
theorem wipe_idem_of (σ : L2.St) (vs : List Nat) : ∀ us : List Nat, (∀ i ∈ us, i ∈ vs) → L2.wipe (L2.wipe σ us) vs = L2.wipe σ vs
  | [], _ => rfl
  | j :: r, h => by
    show L2.wipe ((L2.wipe σ r).set j none) vs = L2.wipe σ vs
    rw [wipe_set (h j (by simp)), wipe_idem_of σ vs r fun i hi => h i (by simp [hi])]
theorem wipe_idem (σ : L2.St) (vs : List Nat) : L2.wipe (L2.wipe σ vs) vs = L2.wipe σ vs := wipe_idem_of σ vs vs fun _ h => h
theorem lc_mono {wi : TI} {g : TG} {tt : TT} {te : TE} {vs : List Nat} {σ : L2.St} {H : Hp} {Q Q' : VK} (i : ∀ v H1, Q v H1 → Q' v H1) (h : tLc wi g tt te vs σ H Q) (hw : ∀ R R', (∀ J H1, R J H1 → R' J H1) → wi σ H R → wi σ H R') : tLc wi g tt te vs σ H Q' := by
  refine hw _ _ (fun J H1 z D hD => ?_) h
  obtain ⟨W, h0, hs⟩ := z D hD
  refine ⟨W, h0, fun k m H2 hW => ?_⟩
  rcases hs k m H2 hW with ⟨a, b⟩ | q
  · exact .inl ⟨a, i _ _ b⟩
  · exact .inr q
/-- the heap without a -/
def delH' (H : Hp) (a : Addr) : Hp := fun b => if b = a then none else H b
theorem delH'_upd {H : Hp} {a : Addr} {o : HO} (h : H a = some o) : upd (delH' H a) a o = H := by
  funext b
  by_cases e : b = a
  · subst e; rw [upd_same, h]
  · rw [upd_ne e]; exact if_neg e
def evComp (mk : MkT) (fi : EI) (g : DG) (t : EB) (f : ET) (vs : List Nat) : ET := fun ρ S Q E => fi ρ S (fun ds S1 => comp g t f (fun acc S2 => mk acc S2 Q) ds [] (wipeD ρ vs) S1) E
section
variable {X : Cx} {W : WX}
theorem ts_nil : PTs X [] (rdB X.K W bYes) := PTs_imp pts_nil fun σ H Q ⟨ρ, S, Qd, Ed, hρ, hS, hf, lq, _⟩ => lq true S H (Evo.refl _ _) hS hf
theorem ts_one {c : Expr} {t : EB} (h : PT X c (rdB X.K W t)) : PTs X [c] (rdB X.K W t) := pts_one h
end
theorem lc_rd {K : PySem.W.Frag} {W W1 W2 : WX} {mk : MkT} (hm : MkOk K mk) {fi : EI} {g : DG} {tg : TG} {t : EB} {f : ET} {vs : List Nat} (hmono : TgMono tg) (htg : TgOk K vs tg g) (σ : L2.St) (H : Hp) (Q : VK)
    (h : rdE K W (evComp mk fi g t f vs) σ H Q) : tFz (tLc (rdI K W fi) tg (rdB K W1 t) (rdE K W2 f) vs) σ H Q := by
  obtain ⟨ρ, S, Qd, Ed, hρ, hS, hf, lq, lx⟩ := h
  refine ⟨ρ, S, _, Ed, hρ, hS, hf, fun ds S1 J H1 e1 r1 y h1 => ?_, lx⟩
  intro D hD
  have iD : ∀ o, Imm H1 (upd H1 D o) := fun o => upd_imm hD
  have hρ1 : EnvR K H1 (wipeD ρ vs) (L2.wipe σ vs) := (hρ.imm (e1.imm hS)).wipe vs
  have lq1 := lq.mono e1
  refine ⟨fun i m H' => m = ds.length - i ∧ i ≤ ds.length ∧ ∃ S' acc accV, SRel K S' H' ∧ Evo S1 H1 S' H' ∧ S' D = none ∧ H' D = some (.lst accV) ∧ Rels K H' acc accV ∧ comp g t f (fun acc S2 => mk acc S2 Qd) (ds.drop i) acc (wipeD ρ vs) S',
    ⟨ds.length, by simp, Nat.zero_le _, S1, [], [], r1.upd_new hD, evo_new hD, r1.free hD, upd_same, rfl, h1⟩, ?_⟩
  rintro i m H' ⟨rfl, hle, S', acc, accV, r', e', nD, eD, ra, h'⟩
  have im : Imm H1 H' := e'.imm r1
  by_cases hlt : i < ds.length
  · refine .inr ⟨y.go i H' hlt im, _, fun H2 z => ⟨ds.length - (i + 1), by omega, rfl, hlt, z⟩, fun x H2 hy => ?_⟩
    obtain ⟨ex, rx⟩ := y.yld i H' x H2 ds[i] (by simp [hlt]) im hy
    have e2 := ex.evo S'
    have r2 := ex.srel r'
    rw [drop_cons hlt] at h'
    have z := htg x (L2.wipe σ vs) H2 (wipeD ρ vs) S' ds[i] _ (hρ1.imm ((e'.trans e2).imm r1)) rx h'
    refine hmono _ _ _ _ _ (fun σ3 H3 z => ?_) z
    obtain ⟨rfl, w, ρ3, k3, q3⟩ := z
    refine ⟨w.trans (wipe_idem _ _), ρ3, S', _, _, k3, r2, q3, fun b S4 H4 e4 r4 h4 => ?_, fun _ _ _ _ _ _ _ _ z => z.elim⟩
    have D2 : H3 D = some (.lst accV) := e2.keep D _ eD nD
    have D4 : H4 D = some (.lst accV) := e4.keep D _ D2 nD
    have nD4 : S4 D = none := by
      cases q : S4 D with
      | none => rfl
      | some u => have z := e4.new D nD (by rw [q]; exact fun z => nomatch z); rw [D2] at z; cases z
    have e14 := (e'.trans e2).trans e4
    cases b with
    | false =>
      rw [if_neg Bool.false_ne_true] at h4
      refine L2.iteF ?_
      exact ⟨S4, acc, accV, r4, e14, nD4, D4, Rels.imm ((e2.trans e4).imm r') _ _ ra, h4⟩
    | true =>
      rw [if_pos rfl] at h4
      refine L2.iteT ?_
      refine ⟨ρ3, S4, _, _, k3.imm (e4.imm r2), r4, h4, fun d S5 v H5 e5 r5 q5 h5 => ?_, fun _ _ _ _ _ _ _ _ z => z.elim⟩
      have D5 : H5 D = some (.lst accV) := e5.keep D _ D4 nD4
      have nD5 : S5 D = none := by
        cases q : S5 D with
        | none => rfl
        | some u => have z := e5.new D nD4 (by rw [q]; exact fun z => nomatch z); rw [D4] at z; cases z
      have ra5 : Rels K H5 acc accV := Rels.imm (((e2.trans e4).trans e5).imm r') _ _ ra
      have iU : Imm H5 (upd H5 D (.lst (accV ++ [v]))) := upd_immS D5 rfl
      refine ⟨accV, D5, by rw [← ra5.length]; exact h5.1, S5, acc ++ [d], accV ++ [v], fun b u q => ?_, ⟨fun b o q n => ?_, (e14.trans e5).new⟩, nD5, upd_same, Rels.append (Rels.imm iU _ _ ra5) (Rels.mk1 (Rel.imm iU _ _ q5)), h5.2⟩
      · have hb : b ≠ D := fun z => by subst z; rw [nD5] at q; cases q
        exact (r5 b u q).imm iU fun w q => by rw [upd_ne hb]; exact q
      · have hb : b ≠ D := fun z => by subst z; rw [hD] at q; cases q
        rw [upd_ne hb]
        exact (e14.trans e5).keep b o q n
  · have ei : i = ds.length := by omega
    subst ei
    rw [List.drop_length] at h'
    refine .inl ⟨y.stop H' im, ?_⟩
    have id : Imm H' (delH' H' D) := fun b o q mq => by
      have hb : b ≠ D := fun z => by subst z; rw [eD] at q; cases q; cases mq
      exact (if_neg hb : delH' H' D b = H' b).trans q
    have rd : SRel K S' (delH' H' D) := fun b u q => by
      have hb : b ≠ D := fun z => by subst z; rw [nD] at q; cases q
      exact (r' b u q).imm id fun w q => (if_neg hb : delH' H' D b = H' b).trans q
    have ed : Evo S1 H1 S' (delH' H' D) := ⟨fun b o q n => by
      have hb : b ≠ D := fun z => by subst z; rw [hD] at q; cases q
      exact (if_neg hb : delH' H' D b = H' b).trans (e'.keep b o q n), e'.new⟩
    have fin := hm S' (delH' H' D) acc accV D Qd Q rd (if_pos rfl) (Rels.imm id _ _ ra) h' (lq1.mono ed)
    rw [delH'_upd eD] at fin
    exact fin
section
variable {X : Cx} {W W1 W2 : WX} {pos : Pos} {elt tg iter : Expr} {ifs : List Expr} {scope : Scope} {own : List (Str × Nat)} {fi : EI} {g : DG} {tt : TG} {t : EB} {f : ET} {mk : MkT}
theorem e_comp (hm : MkOk X.K mk) (hc : X.calm = true) (hN : X.N.Nodup) (hi : PI X tg iter (rdI X.K W fi)) (ok : BlkOk X.N X.env.scope scope own) (hmono : TgMono tt) (htg : TgOk X.K (own.map (·.2)) tt g)
    (hg : ∀ (s : Shared) (H : Hp) (C : Addr) (cl : List (Str × Addr)) (fp : List Addr), PG (X.blk s H scope (compEnvC scope cl C X.env) fp) tg tt) (ht : ∀ (s : Shared) (H : Hp) (C : Addr) (cl : List (Str × Addr)) (fp : List Addr), PTs (X.blk s H scope (compEnvC scope cl C X.env) fp) ifs (rdB X.K W1 t))
    (he : ∀ (s : Shared) (H : Hp) (C : Addr) (cl : List (Str × Addr)) (fp : List Addr), PE (X.blk s H scope (compEnvC scope cl C X.env) fp) elt (rdE X.K W2 f)) (hs : ∀ x, foldedSetIterable iter X.env x = pure x := by intro _; rfl) :
    PE X (.ListComp elt [⟨tg, iter, ifs, 0⟩] scope pos) (rdE X.K W (evComp mk fi g t f (own.map (·.2)))) :=
  PE_imp (pe_fz (pe_lc hc hN hi ok hg ht he hs)) (lc_rd hm hmono htg)
end

/-! ### locking at a statement's end -/
def FzN (Q : L2.St → Hp → Prop) (σ : L2.St) (H : Hp) : Prop := Q σ H ∨ (∃ a xs, H a = some (.lst xs) ∧ ∀ o, Q σ (upd H a (.frz o (.lst xs)))) ∨ (∃ a xs, H a = some (.dK xs) ∧ ∀ o, Q σ (upd H a (.frz o (.dK xs))))
def tFzS (t : TS) : TS := fun D σ H => t { D with nx := FzN D.nx } σ H
theorem ps_fz {X : Cx} {s : Stmt} {t : TS} (h : PS X s t) : PS X s (tFzS t) := by
  refine ⟨fun pins s0 σ H D I q => thn (h.run pins s0 σ H _ I q) fun f s1 hq => ?_⟩
  cases f with
  | next =>
    obtain ⟨σ1, H1, I1, q1⟩ := hq
    rcases q1 with q1 | ⟨a, xs, ha, q1⟩ | ⟨a, xs, ha, q1⟩
    · exact ⟨σ1, H1, I1, q1⟩
    · obtain ⟨o, J⟩ := Inv.frz I1 ha (fun _ => nofun) (fun _ _ => nofun) (fun _ => nofun) (fun _ => nofun) (by obtain ⟨_, its, n, _, e⟩ := I1.hok a _ ha; exact ⟨_, e⟩)
      exact ⟨σ1, _, J, q1 o⟩
    · obtain ⟨o, J⟩ := Inv.frz I1 ha (fun _ => nofun) (fun _ _ => nofun) (fun _ => nofun) (fun _ => nofun) (by obtain ⟨_, _, vs, _, o, _, _, e, _⟩ := I1.hok a _ ha; exact ⟨o, e⟩)
      exact ⟨σ1, _, J, q1 o⟩
  | ret u => exact hq
  | brk => exact hq
  | cont => exact hq
section
variable {X : Cx} {W W1 W2 : WX} {pos spos py : Pos} {elt tg iter : Expr} {ifs : List Expr} {scope : Scope} {own : List (Str × Nat)} {fi : EI} {g : DG} {tt : TG} {t : EB} {f : ET} {mk : MkT} {s : Stmt} {b : ST}
theorem s_setComp {i : Nat} {y : Str} (hm : MkOk X.K mk) (hc : X.calm = true) (hN : X.N.Nodup) (hy : X.N[i]? = some y) (hyl : X.env.scope.names.lookup y = some .local) (hsw : swapsWith (.ListComp elt [⟨tg, iter, ifs, 0⟩] scope pos) (some (.Name y py)) spos.line X.env = pure true)
    (hi : PI X tg iter (rdI X.K W fi)) (ok : BlkOk X.N X.env.scope scope own) (hmono : TgMono tt) (htg : TgOk X.K (own.map (·.2)) tt g)
    (hg : ∀ (s : Shared) (H : Hp) (C : Addr) (cl : List (Str × Addr)) (fp : List Addr), PG (X.blk s H scope (compEnvC scope cl C X.env) fp) tg tt) (ht : ∀ (s : Shared) (H : Hp) (C : Addr) (cl : List (Str × Addr)) (fp : List Addr), PTs (X.blk s H scope (compEnvC scope cl C X.env) fp) ifs (rdB X.K W1 t))
    (he : ∀ (s : Shared) (H : Hp) (C : Addr) (cl : List (Str × Addr)) (fp : List Addr), PE (X.blk s H scope (compEnvC scope cl C X.env) fp) elt (rdE X.K W2 f)) (hs : ∀ x, foldedSetIterable iter X.env x = pure x := by intro _; rfl) :
    PS X (.Assign [.Name y py] (.ListComp elt [⟨tg, iter, ifs, 0⟩] scope pos) spos) (rdS X.K W (dSet i (evComp mk fi g t f (own.map (·.2))))) :=
  PS_imp (ps_fz (ps_setLc hc hN hy hyl hsw hi ok hg ht he hs)) fun D σ H ⟨ρ, S, N, hρ, hS, hf, l⟩ => by
    have z := lc_rd (W1 := W1) (W2 := W2) hm hmono htg σ H (fun v H1 => D.nx (σ.set i (some v)) H1) ⟨ρ, S, _, _, hρ, hS, hf, fun d S1 v H1 e1 r1 q1 h1 => l.nx _ S1 _ H1 e1 r1 ((hρ.imm (e1.imm hS)).set q1 i) h1, l.lx hS hρ⟩
    refine lc_mono (Q' := fun x H1 => FzN D.nx (σ.set i (some x)) H1) (fun v H1 q => ?_) z fun R R' i ⟨ρ, S, Qd, Ed, a, b, c, d, e⟩ => ⟨ρ, S, Qd, Ed, a, b, c, fun ds S' J H' x1 x2 x3 x4 => i _ _ (d ds S' J H' x1 x2 x3 x4), e⟩
    rcases q with q | ⟨a, xs, rfl, ha, q⟩ | ⟨a, xs, rfl, ha, q⟩
    · exact Or.inl q
    · exact Or.inr (Or.inl ⟨a, xs, ha, q⟩)
    · exact Or.inr (Or.inr ⟨a, xs, ha, q⟩)
/-- the list in slot i is locked behind the statement -/
def fzv (i : Nat) (Q : Env → Store → Prop) : Env → Store → Prop := fun ρ S => match lk ρ i with
  | some (.ref a) => match S a with
    | some (.lst ds) => Q (st ρ i (some (.lst ds))) (S.del a)
    | some (.dct ks ds) => Q (st ρ i (some (.dct ks ds))) (S.del a)
    | _ => False
  | _ => Q ρ S
def dFzV (i : Nat) (g : ST) : ST := fun ρ S N => g ρ S { N with nx := fzv i N.nx }
end
theorem set_same {σ : L2.St} {i : Nat} {v : V} (h : σ[i]? = some (some v)) : σ.set i (some v) = σ := by
  apply List.ext_getElem?
  intro j
  by_cases e : i = j
  · subst e
    rw [List.getElem?_set_self (List.getElem?_eq_some_iff.mp h).1, h]
  · rw [List.getElem?_set_ne e]
theorem s_fzv {X : Cx} {W : WX} {s : Stmt} {g : ST} (i : Nat) (h : PS X s (rdS X.K W g)) : PS X s (rdS X.K W (dFzV i g)) :=
  PS_imp (ps_fz h) fun D σ H ⟨ρ, S, N, hρ, hS, hf, l⟩ => by
    refine ⟨ρ, S, _, hρ, hS, hf, ⟨fun ρ1 S1 σ1 H1 e1 r1 k1 h1 => ?_, l.rt, l.ex, l.bk, l.ct⟩⟩
    have h1 : fzv i N.nx ρ1 S1 := h1
    unfold fzv at h1
    split at h1
    · rename_i a ea
      obtain ⟨v, ev, rv⟩ := k1.get ea
      have ev' : v = .ref a := rv
      subst ev'
      split at h1
      · rename_i ds ed
        obtain ⟨xs, hx, rs⟩ := r1 a _ ed
        refine .inr (.inl ⟨a, xs, hx, fun o => ?_⟩)
        obtain ⟨im, r2⟩ := r1.frz (o := .frz o (.lst xs)) ed
        refine l.nx _ _ _ _ (e1.trans (evo_frz ed)) r2 ?_ h1
        have z := (k1.imm im).set (d := .lst ds) (v := .ref a) ⟨a, xs, rfl, ⟨o, upd_same⟩, Rels.imm im _ _ rs⟩ i
        rw [set_same ev] at z
        exact z
      · rename_i ks ds ed
        obtain ⟨xs, hx, hl, rs⟩ := r1 a _ ed
        refine .inr (.inr ⟨a, _, hx, fun o => ?_⟩)
        obtain ⟨im, r2⟩ := r1.frz (o := .frz o (.dK (ks.zip xs))) ed
        refine l.nx _ _ _ _ (e1.trans (evo_frz ed)) r2 ?_ h1
        have z := (k1.imm im).set (d := .dct ks ds) (v := .ref a) ⟨a, xs, rfl, ⟨o, upd_same⟩, hl, Rels.imm im _ _ rs⟩ i
        rw [set_same ev] at z
        exact z
      · exact h1.elim
    · exact .inl (l.nx _ _ _ _ e1 r1 k1 h1)
end MP

set_option Elab.async false
set_option linter.all false
set_option maxRecDepth 100000
set_option maxHeartbeats 2100000
/-! MPFn: a def's promise, calls, exceptions. -/
namespace MP
open PySem PyProof.Rows PySem.Spec L2

abbrev DF := List D → Store → Post → XPost → Prop
/-- a def's promise over data -/
def spM (K : PySem.W.Frag) (n : Nat) (F : DF) : Sp := fun vs H Q E => ∃ ds S Qd Ed, Rels K H ds vs ∧ SRel K S H ∧ ds.length = n ∧ F ds S Qd Ed ∧ LQ K S H Qd Q ∧ LX K S H Ed E
theorem spM_len {K : PySem.W.Frag} {n : Nat} {F : DF} (vs : List V) (H : Hp) (Q : VK) (E : XK) (h : spM K n F vs H Q E) : vs.length = n := by
  obtain ⟨ds, S, Qd, Ed, r, _, l, _⟩ := h
  rw [← r.length, l]
/-- the promise by another function that promises no more -/
theorem spM_imp {K : PySem.W.Frag} {n : Nat} {F G : DF} (i : ∀ ds S Q E, ds.length = n → G ds S Q E → F ds S Q E) (vs : List V) (H : Hp) (Q : VK) (E : XK) (h : spM K n G vs H Q E) : spM K n F vs H Q E := by
  obtain ⟨ds, S, Qd, Ed, r, hS, l, h, lq, lx⟩ := h
  exact ⟨ds, S, Qd, Ed, r, hS, l, i ds S Qd Ed l h, lq, lx⟩
/-- what is left behind in the store is forgotten: G says the end of a run of F that began at S -/
def Gc (F : DF) : DF := fun ds S Q E => F ds S (fun d S' => ∃ S'', Sub S'' S' ∧ Q d S'') (fun x S' => ∃ S'', Sub S'' S' ∧ E x S'')
def runF (m : Nat) (g : ST) : DF := fun ds S Q E => g (ds.map some ++ List.replicate (m - ds.length) none) S { nx := fun _ S' => Q .non S', rt := Q, ex := fun x _ S' => E x S' }
theorem Evo.sub {S S' S'' : Store} {H H' : Hp} (e : Evo S H S' H') (s : Sub S'' S') : Evo S H S'' H' := ⟨e.keep, fun a n n2 => e.new a n (by
  cases q : S'' a with
  | none => exact absurd q n2
  | some o => rw [s a o q]; exact fun z => nomatch z)⟩
theorem spM_gc {K : PySem.W.Frag} {n : Nat} {F : DF} (vs : List V) (H : Hp) (Q : VK) (E : XK) (h : spM K n (Gc F) vs H Q E) : spM K n F vs H Q E := by
  obtain ⟨ds, S, Qd, Ed, r, hS, l, h, lq, lx⟩ := h
  refine ⟨ds, S, _, _, r, hS, l, h, fun d S' v H' e r' q ⟨S'', s, z⟩ => ?_, fun x S' c dd H' e r' q ⟨S'', s, z⟩ => ?_⟩
  · exact lq d S'' v H' (e.sub s) (r'.sub s) q z
  · exact lx x S'' c dd H' (e.sub s) (r'.sub s) q z
section
variable {K : PySem.W.Frag} {base : Heap} {mg : Str → Option Value} {P : Program} {w : World}
/-- the wish about exceptions of a def's own body -/
abbrev Wd (E : XK) : WX := fun cls d _ H => E cls d H
theorem fn_ok {x qual : Str} {st : Stmt} {f : Addr} {fd : FuncData} {N ps : List Str} {k : Nat} {g : ST} (F : Fun K x qual st f fd) (Sc : FnScope N ps (defScope st))
    (hb : ∀ (cdv : Value) (A : Around) (outer : List PySem.Env) (s : Shared) (H : Hp) (E : XK), Room k (A.deeper (envOfC qual (defScope st) s.heap.objs.size f cdv)) →
      PSs (cxOf (L2.CX P w) P w K mg base N qual (defScope st) f cdv A outer s H E) (defBody st) (rdS K (Wd E) g)) : FnOk P w K mg base (L2.CX P w) (k + 1) f fd ps (spM K ps.length (runF N.length g)) := by
  refine F.okX Sc spM_len fun cdv A outer s H vs Q E hr h => ⟨_, hb cdv A outer s H E hr, ?_⟩
  obtain ⟨ds, S, Qd, Ed, r, hS, hl, hf, lq, lx⟩ := h
  refine ⟨_, S, _, ?_, hS, hf, ⟨fun ρ' S' σ' H' e r' k' h => lq .non S' .non H' e r' rfl h, lq, fun x ρ' S' c dd σ' H' e r' k' q h => lx x S' c dd H' e r' q h, fun _ _ _ _ _ _ _ h => h.elim, fun _ _ _ _ _ _ _ h => h.elim⟩⟩
  unfold L2.start
  rw [← r.length]
  exact EnvR.start _ r
theorem fn_imp {CX : CXT} {f : Addr} {fd : FuncData} {ps : List Str} {k : Nat} {F G : DF} (h : FnOk P w K mg base CX k f fd ps (spM K ps.length F)) (i : ∀ ds S Q E, ds.length = ps.length → G ds S Q E → F ds S Q E) : FnOk P w K mg base CX k f fd ps (spM K ps.length G) :=
  h.imp (spM_imp i)
theorem fn_gc {CX : CXT} {f : Addr} {fd : FuncData} {ps : List Str} {k : Nat} {F G : DF} (h : FnOk P w K mg base CX k f fd ps (spM K ps.length F)) (i : ∀ ds S Q E, ds.length = ps.length → G ds S Q E → Gc F ds S Q E) : FnOk P w K mg base CX k f fd ps (spM K ps.length G) :=
  h.imp fun vs H Q E z => spM_gc vs H Q E (spM_imp i vs H Q E z)
end

/-! ### calls -/
def evCall (F : DF) (fa : EA) : ET := fun ρ S Q E => fa ρ S (fun ds S1 => F ds S1 Q E) E
def evCall0 (F : DF) : ET := fun ρ S Q E => F [] S Q E
section
variable {X : Cx} {W : WX} {k : Nat} {f : Addr} {fd : FuncData} {ps : List Str} {F : DF} {x : Str} {p pos : Pos} {e : Expr} {es : List Expr} {fa : EA} {n : Nat}
theorem e_call (G : FnOk X.prog X.w X.K X.mg X.base (L2.CX X.prog X.w) k f fd ps (spM X.K n F)) (hr : Room k X.A) (hg : Gl X x) (hm : X.mg x = some (.ref f)) (hk : PySem.W.keepIn X.K (.ref f) = true) (hb : Binds X.K fd ps []) (tk : Takes X W)
    (ha : PA X (e :: es) (rdA X.K W n fa)) (noDbg : (x == ("__debug__" : Str)) = false := by decide) (hst : starEach (e :: es) X.env = (false, eval e X.env) :: starEach es X.env := by rfl) (noStar : (backTo pos (starEach es X.env)).any (·.1) = false := by rfl) :
    PE X (.Call (.Name x p) (e :: es) [] pos) (rdE X.K W (evCall F fa)) :=
  PE_imp (pe_callS G hr hg hm hk hb (fun σ => passAt tk σ) ha noDbg hst noStar) fun σ H Q ⟨ρ, S, Qd, Ed, hρ, hS, hf, lq, lx⟩ =>
    ⟨ρ, S, _, Ed, hρ, hS, hf, fun ds S1 vs H1 e1 r1 q1 hl h1 => ⟨ds, S1, Qd, Ed, q1, r1, hl, h1, lq.mono e1, lx.mono e1⟩, lx⟩
theorem pe_call0S {CX : CXT} {E : L2.St → XK} {sp : Sp} (F : FnOk X.prog X.w X.K X.mg X.base CX k f fd ps sp) (hr : Room k X.A) (hg : Gl X x) (hm : X.mg x = some (.ref f)) (hk : PySem.W.keepIn X.K (.ref f) = true) (hb : Binds X.K fd ps []) (hx : ∀ σ, PassesAt CX X σ (E σ))
    (noDbg : (x == ("__debug__" : Str)) = false := by decide) : PE X (.Call (.Name x p) [] [] pos) (fun σ H Q => sp [] H Q (E σ)) := by
  refine ⟨fun pnl s σ H Q I h => ?_⟩
  refine wpAny_Call_Name_kw (ld_glob I hg hm ?_ noDbg)
  exact PySem.W.callWith_K0 I.kIn hk (run_fnS (us := []) F hr hb (hx σ) I .nil h)
theorem e_call0 (G : FnOk X.prog X.w X.K X.mg X.base (L2.CX X.prog X.w) k f fd ps (spM X.K 0 F)) (hr : Room k X.A) (hg : Gl X x) (hm : X.mg x = some (.ref f)) (hk : PySem.W.keepIn X.K (.ref f) = true) (hb : Binds X.K fd ps []) (tk : Takes X W)
    (noDbg : (x == ("__debug__" : Str)) = false := by decide) : PE X (.Call (.Name x p) [] [] pos) (rdE X.K W (evCall0 F)) :=
  PE_imp (pe_call0S G hr hg hm hk hb (fun σ => passAt tk σ) noDbg) fun σ H Q ⟨ρ, S, Qd, Ed, hρ, hS, hf, lq, lx⟩ =>
    ⟨[], S, Qd, Ed, rfl, hS, rfl, hf, lq, lx⟩
end
/-! a call by keywords alone, or with arguments ahead of them -/
section
variable {X : Cx} {W : WX} {CX : CXT} {k : Nat} {f : Addr} {fd : FuncData} {ps ks : List Str} {sp : Sp} {E : L2.St → XK} {x : Str} {p pos kpos : Pos} {e : Expr} {es : List Expr} {kws : List Keyword} {t tk : TA} {g : List Value → List Value → List Value} {gV : List V → List V → List V}
theorem run_fnkS {pnl : List (Addr × Obj)} {σ : L2.St} {H : Hp} {s : Shared} {Q : VK} {us ws : List Value} {vs zs : List V} (F : FnOk X.prog X.w X.K X.mg X.base CX k f fd ps sp) (hr : Room k X.A) (hb : KBinds X.K fd ps ks g gV) (hx : PassesAt CX X σ (E σ))
    (I : Inv X pnl σ H s) (r : Vals vs us) (rz : Vals zs ws) (h : sp (gV vs zs) H Q (E σ)) : wpAny (model X.prog X.w) X.A (call (.ref f) us (ks.zip ws)) (EP X pnl σ Q) X.xe s := by
  have r2 := hb.rel r rz
  have hl : (g us ws).length = ps.length := r2.length.symm.trans (F.len _ _ _ _ h)
  refine wpAny_call (codeAny_mono (F.run X.A X.stack s H ⟨us, ks.zip ws⟩ (g us ws) (gV vs zs) Q (E σ) hr I.env0 (hb.to s us ws I.kIn hl) r2 h) fun r s' hq => ?_)
  cases r with
  | error e => exact hx pnl H s e s' I hq
  | ok fl =>
    cases fl with
    | ret u => exact I.after hq
    | next => exact False.elim hq
    | brk => exact False.elim hq
    | cont => exact False.elim hq
theorem pe_callKS (F : FnOk X.prog X.w X.K X.mg X.base CX k f fd ps sp) (hr : Room k X.A) (hg : Gl X x) (hm : X.mg x = some (.ref f)) (hk : PySem.W.keepIn X.K (.ref f) = true) (hb : KBinds X.K fd ps ks g gV) (hx : ∀ σ, PassesAt CX X σ (E σ))
    (ha : PA X (e :: es) t) (hkws : PK X kws tk) (hall : (backToKw pos (keywordEach kws X.env)).all (·.1.isSome) = true := by rfl) (hks : (backToKw pos (keywordEach kws X.env)).filterMap (·.1) = ks := by rfl)
    (noDbg : (x == ("__debug__" : Str)) = false := by decide) (hst : starEach (e :: es) X.env = (false, eval e X.env) :: starEach es X.env := by rfl)
    (noStar : ((backTo pos (starEach (e :: es) X.env)).any (·.1) || (backToKw pos (keywordEach kws X.env)).any (·.1.isNone)) = false := by rfl) :
    PE X (.Call (.Name x p) (e :: es) kws pos) (fun σ H Q => t σ H fun vs H1 => tk σ H1 fun zs H2 => sp (gV vs zs) H2 Q (E σ)) := by
  refine ⟨fun pnl s σ H Q I h => ?_⟩
  refine wpAny_Call_Name_kw (ld_glob I hg hm ?_ noDbg)
  refine PySem.W.callWith_KW (h₀ := X.base) I.ok.mod.kin hk hall (thn (ha.run pos pnl s σ H _ I h) fun us s1 ⟨vs, H1, I1, r, q⟩ => ?_) noStar hst
  refine thn (hkws.run pos pnl s1 σ H1 _ I1 q) fun ws s2 ⟨zs, H2, I2, rz, q2⟩ => ⟨I2.kIn, ?_⟩
  rw [hks]
  exact run_fnkS F hr hb (hx σ) I2 r rz q2
theorem pe_callKS0 (F : FnOk X.prog X.w X.K X.mg X.base CX k f fd ps sp) (hr : Room k X.A) (hg : Gl X x) (hm : X.mg x = some (.ref f)) (hk : PySem.W.keepIn X.K (.ref f) = true) (hb : KBinds X.K fd ps ks g gV) (hx : ∀ σ, PassesAt CX X σ (E σ))
    (hkws : PK X kws tk) (hall : (backToKw pos (keywordEach kws X.env)).all (·.1.isSome) = true := by rfl) (hks : (backToKw pos (keywordEach kws X.env)).filterMap (·.1) = ks := by rfl)
    (noDbg : (x == ("__debug__" : Str)) = false := by decide)
    (noStar : ((backTo pos (starEach [] X.env)).any (·.1) || (backToKw pos (keywordEach kws X.env)).any (·.1.isNone)) = false := by rfl) :
    PE X (.Call (.Name x p) [] kws pos) (fun σ H Q => tk σ H fun zs H2 => sp (gV [] zs) H2 Q (E σ)) := by
  refine ⟨fun pnl s σ H Q I h => ?_⟩
  refine wpAny_Call_Name_kw (ld_glob I hg hm ?_ noDbg)
  refine PySem.W.callWith_KW0 (h₀ := X.base) I.ok.mod.kin hk hall (thn (hkws.run pos pnl s σ H _ I h) fun ws s2 ⟨zs, H2, I2, rz, q2⟩ => ⟨I2.kIn, ?_⟩) noStar
  rw [hks]
  exact run_fnkS F hr hb (hx σ) I2 .nil rz q2
end
/-- the arguments in the parameters' order -/
def pickL (is : List Nat) {α : Type} (l : List α) : List α := is.filterMap fun i => l[i]?
theorem pick_length {α : Type} {l : List α} : ∀ {is : List Nat}, (∀ i ∈ is, i < l.length) → (pickL is l).length = is.length
  | [], _ => rfl
  | i :: r, h => by
    have hi : i < l.length := h i (by simp)
    unfold pickL
    rw [List.filterMap_cons, List.getElem?_eq_getElem hi]
    show (pickL r l).length + 1 = r.length + 1
    rw [pick_length fun j hj => h j (by simp [hj])]
def gK (n m : Nat) (is : List Nat) {α : Type} (us ws : List α) : List α := if us.length = n ∧ ws.length = m then pickL is (us ++ ws) else []
theorem Vals.pick {vs : List V} {us : List Value} (h : Vals vs us) : ∀ is : List Nat, Vals (pickL is vs) (pickL is us)
  | [] => .nil
  | i :: r => by
    unfold pickL
    rw [List.filterMap_cons, List.filterMap_cons]
    cases e : vs[i]? with
    | none => rw [Vals.none_of h e]; exact Vals.pick h r
    | some v =>
      obtain ⟨u, e2, q⟩ := Vals.get h e
      rw [e2]
      exact .cons q (Vals.pick h r)
theorem Rels.pick {K : PySem.W.Frag} {H : Hp} {ds : List D} {vs : List V} (h : Rels K H ds vs) : ∀ is : List Nat, Rels K H (pickL is ds) (pickL is vs)
  | [] => rfl
  | i :: r => by
    unfold pickL
    rw [List.filterMap_cons, List.filterMap_cons]
    cases e : ds[i]? with
    | none =>
      have e2 : vs[i]? = none := by
        rw [List.getElem?_eq_none_iff] at e ⊢
        rw [← h.length]; exact e
      rw [e2]; exact Rels.pick h r
    | some d =>
      obtain ⟨u, e2, q⟩ := Rels.get h e
      rw [e2]
      exact ⟨u, _, rfl, q, Rels.pick h r⟩
theorem gK_rel {n m : Nat} {is : List Nat} {vs : List V} {us : List Value} {zs : List V} {ws : List Value} (a : Vals vs us) (b : Vals zs ws) : Vals (gK n m is vs zs) (gK n m is us ws) := by
  unfold gK
  rw [Vals.length a, Vals.length b]
  split
  · exact Vals.pick (Vals.append a b) is
  · exact .nil
def evCallK (F : DF) (is : List Nat) (fa fk : EA) : ET := fun ρ S Q E => fa ρ S (fun ds S1 => fk ρ S1 (fun zs S2 => F (pickL is (ds ++ zs)) S2 Q E) E) E
section
variable {X : Cx} {W : WX} {k : Nat} {f : Addr} {fd : FuncData} {ps ks : List Str} {F : DF} {x : Str} {p pos kpos : Pos} {e : Expr} {es : List Expr} {fa fk : EA} {n m : Nat} {is : List Nat} {kws : List Keyword} {fe : ET} {nm : Option Str}
theorem k_nil : PK X [] (rdA X.K W 0 aNil) := ⟨fun pos pnl s σ H Q I h => pk_nil.run pos pnl s σ H Q I (let ⟨ρ, S, Qd, Ed, hρ, hS, hf, lq, _⟩ := h; lq [] S [] H (Evo.refl _ _) hS rfl rfl hf)⟩
theorem k_cons (he : PE X e (rdE X.K W fe)) (hr : PK X kws (rdA X.K W n fa)) : PK X (⟨nm, e, kpos⟩ :: kws) (rdA X.K W (n + 1) (aCons fe fa)) := by
  refine ⟨fun pos pnl s σ H Q I h => (pk_cons he hr).run pos pnl s σ H Q I ?_⟩
  obtain ⟨ρ, S, Qd, Ed, hρ, hS, hf, lq, lx⟩ := h
  refine ⟨ρ, S, _, Ed, hρ, hS, hf, fun d S1 v H1 e1 r1 q1 h1 => ?_, lx⟩
  refine ⟨ρ, S1, _, Ed, hρ.imm (e1.imm hS), r1, h1, fun ds S2 vs H2 e2 r2 q2 hl h2 => ?_, lx.mono e1⟩
  exact lq (d :: ds) S2 _ H2 (e1.trans e2) r2 ⟨v, vs, rfl, Rel.imm (e2.imm r1) _ _ q1, q2⟩ (by simp [hl]) h2
theorem e_callK0 (G : FnOk X.prog X.w X.K X.mg X.base (L2.CX X.prog X.w) k f fd ps (spM X.K is.length F)) (hr : Room k X.A) (hg : Gl X x) (hm : X.mg x = some (.ref f)) (hk : PySem.W.keepIn X.K (.ref f) = true) (hb : KBinds X.K fd ps ks (gK 0 m is) (gK 0 m is)) (tk : Takes X W)
    (hkws : PK X kws (rdA X.K W m fk)) (his : ∀ i ∈ is, i < m := by decide) (hall : (backToKw pos (keywordEach kws X.env)).all (·.1.isSome) = true := by rfl) (hks : (backToKw pos (keywordEach kws X.env)).filterMap (·.1) = ks := by rfl)
    (noDbg : (x == ("__debug__" : Str)) = false := by decide)
    (noStar : ((backTo pos (starEach [] X.env)).any (·.1) || (backToKw pos (keywordEach kws X.env)).any (·.1.isNone)) = false := by rfl) :
    PE X (.Call (.Name x p) [] kws pos) (rdE X.K W (evCallK F is aNil fk)) :=
  PE_imp (pe_callKS0 G hr hg hm hk hb (fun σ => passAt tk σ) hkws hall hks noDbg noStar) fun σ H Q ⟨ρ, S, Qd, Ed, hρ, hS, hf, lq, lx⟩ => by
    refine ⟨ρ, S, _, Ed, hρ, hS, hf, fun ds S1 vs H1 e1 r1 q1 hl h1 => ⟨pickL is ds, S1, Qd, Ed, ?_, r1, ?_, h1, lq.mono e1, lx.mono e1⟩, lx⟩
    · unfold gK
      rw [if_pos ⟨rfl, by rw [← q1.length, hl]⟩]
      exact Rels.pick q1 is
    · exact pick_length fun i hi => by rw [hl]; exact his i hi
theorem e_callK (G : FnOk X.prog X.w X.K X.mg X.base (L2.CX X.prog X.w) k f fd ps (spM X.K is.length F)) (hr : Room k X.A) (hg : Gl X x) (hm : X.mg x = some (.ref f)) (hk : PySem.W.keepIn X.K (.ref f) = true) (hb : KBinds X.K fd ps ks (gK n m is) (gK n m is)) (tk : Takes X W)
    (ha : PA X (e :: es) (rdA X.K W n fa)) (hkws : PK X kws (rdA X.K W m fk)) (his : ∀ i ∈ is, i < n + m := by decide) (hall : (backToKw pos (keywordEach kws X.env)).all (·.1.isSome) = true := by rfl) (hks : (backToKw pos (keywordEach kws X.env)).filterMap (·.1) = ks := by rfl)
    (noDbg : (x == ("__debug__" : Str)) = false := by decide) (hst : starEach (e :: es) X.env = (false, eval e X.env) :: starEach es X.env := by rfl)
    (noStar : ((backTo pos (starEach (e :: es) X.env)).any (·.1) || (backToKw pos (keywordEach kws X.env)).any (·.1.isNone)) = false := by rfl) :
    PE X (.Call (.Name x p) (e :: es) kws pos) (rdE X.K W (evCallK F is fa fk)) :=
  PE_imp (pe_callKS G hr hg hm hk hb (fun σ => passAt tk σ) ha hkws hall hks noDbg hst noStar) fun σ H Q ⟨ρ, S, Qd, Ed, hρ, hS, hf, lq, lx⟩ => by
    refine ⟨ρ, S, _, Ed, hρ, hS, hf, fun us S0 vs0 H0 e0 r0 q0 hl0 h0 => ⟨ρ, S0, _, Ed, hρ.imm (e0.imm hS), r0, h0, fun ds S1 vs H1 e1 r1 q1 hl h1 => ⟨pickL is (us ++ ds), S1, Qd, Ed, ?_, r1, ?_, h1, (lq.mono e0).mono e1, (lx.mono e0).mono e1⟩, lx.mono e0⟩, lx⟩
    · unfold gK
      rw [if_pos ⟨by rw [← q0.length, hl0], by rw [← q1.length, hl]⟩]
      exact Rels.pick (Rels.append (Rels.imm (e1.imm r0) _ _ q0) q1) is
    · exact pick_length fun i hi => by rw [List.length_append, hl0, hl]; exact his i hi
end

/-! ### raise -/
/-- raise C('..') of an own class -/
def dRaise (c : Value) : ST := fun ρ S N => N.ex { cls := c } ρ S
section
variable {X : Cx} {W : WX} {pos : Pos} {e : Expr} {c : Value}
theorem s_raise (hc : X.calm = true) (tk : Takes X W) (he : PMk X e (fun _ H Q => Q c none H)) : PS X (.Raise (some e) none pos) (rdS X.K W (dRaise c)) :=
  PS_imp (ps_raise hc tk he) fun D σ H ⟨ρ, S, N, hρ, hS, hf, l⟩ => l.ex { cls := c } ρ S c none σ H (Evo.refl _ _) hS hρ ⟨rfl, [], .inl ⟨rfl, rfl⟩, rfl, rfl⟩ hf
end

/-! ### try: .. except X as n: y = n -/
/-- an object of ours, younger than the entry, is tracked from now on -/
theorem Inv.track {X : Cx} {pnl : List (Addr × Obj)} {σ : L2.St} {H : Hp} {s : Shared} {a : Addr} {o : HO} (I : Inv X pnl σ H s) (hn : H a = none) (h0 : X.s_0.heap.get? a = none) (hp : ∀ p ∈ X.pn ++ pnl, p.1 ≠ a) (hl : a ≠ X.env.locals)
    (hc : ∀ x c, X.env.cells.lookup x = some c → c ≠ a) (new : ObjOk X.prog X.w (upd H a o) s.heap a o) : Inv X pnl σ (upd H a o) s := by
  have ne : ∀ b ob, X.s_0.heap.get? b = some ob → b ≠ a := fun b ob e z => by rw [z, h0] at e; cases e
  refine ⟨I.ok, I.os, I.bare, ⟨I.base.keep, I.base.slot, fun b ob e n hx => ?_, I.base.there, fun b xs e => ?_, fun b ob w e => ?_, fun b ps e => ?_⟩, I.loc, I.cell, ?_, fun x c e => ?_, fun p q => ?_, fun b u e => ?_, I.len⟩
  · rw [upd_ne (ne b ob e)]; exact I.base.free b ob e n hx
  · have z := I.base.tups b xs e
    rw [upd_ne (ne_of_none z hn)]; exact z
  · have z := I.base.frzs b ob w e
    rw [upd_ne (ne_of_none z hn)]; exact z
  · obtain ⟨m, z⟩ := I.base.tbls b ps e
    exact ⟨m, by rw [upd_ne (ne_of_none z hn)]; exact z⟩
  · rw [upd_ne (Ne.symm hl)]; exact I.free
  · rw [upd_ne (hc x c e)]; exact I.freeC x c e
  · obtain ⟨e, n, r⟩ := I.pin p q
    exact ⟨e, by rw [upd_ne (hp p q)]; exact n, r⟩
  · by_cases hb : b = a
    · subst hb; rw [upd_same] at e; exact Option.some.inj e ▸ new
    · rw [upd_ne hb] at e
      exact (I.hok b u e).stay (fun _ _ _ q => q) (fun c q => by rw [upd_ne (ne_of_none q hn)]; exact q) fun c xs q => by rw [upd_ne (ne_of_none q hn)]; exact q
/-- the clause keeps the exception in slot j -/
def wKeep (K : PySem.W.Frag) (c : Value) (i j : Nat) (Wout : WX) (D : Ends) : WX := fun cls d σ H =>
  ∃ b, PySem.W.exmOne K cls c = some b ∧ (b = true → ∀ a, H a = none → D.nx (((σ.set i (some (.ref a))).set j (some (.ref a))).set i none) (upd H a (exT cls d a))) ∧ (b = false → Wout cls d σ H)
section
variable {X : Cx} {x n y : Str} {c : Value} {i j : Nat} {body : List Stmt} {np pos pos' py pn2 ps2 : Pos} {tb : WX → TS} {Wout : WX}
/-- an object with fields is no frame that flies with it -/
theorem off_frames {B h : Heap} {es : List PySem.Env} {a : Addr} {ob : Obj} {fv : Array Value} (ff : h.FunFrames B es) (e : h.get? a = some ob) (dd : ob.data = .fields fv) : a ∉ frs es := fun m =>
  let ⟨_, _, e2, no⟩ := ff.mem m
  no _ (by rw [e] at e2; cases e2; exact dd)
/-- none of the frames: not this one's names, not the others' -/
theorem off_here (hf : X.env.frame = some X.env.locals) {a : Addr} (o : a ∉ frs (X.env :: X.outer)) : a ≠ X.env.locals ∧ a ∉ X.fs := by
  constructor
  · rintro rfl
    exact o (List.mem_filterMap.mpr ⟨_, .head _, hf⟩)
  · intro m
    have ⟨e, me, fe⟩ := List.mem_filterMap.mp m
    exact o (List.mem_filterMap.mpr ⟨e, .tail _ me, fe⟩)
/-- .. so it is younger than the suite's entry, and than the def's -/
theorem young_in {pnl : List (Addr × Obj)} {σ : L2.St} {H : Hp} {sB : Shared} {B : Heap} {a : Addr} (J : Inv X pnl σ H sB) (hex : X.ex = []) (keep : ∀ b ob, sB.heap.get? b = some ob → b ∉ frs (X.env :: X.outer) → B.get? b = some ob) (o : a ∉ frs (X.env :: X.outer)) (fresh : B.get? a = none) :
    sB.heap.get? a = none ∧ X.s_0.heap.get? a = none := by
  have y : sB.heap.get? a = none := Option.eq_none_iff_forall_ne_some.mpr fun ob e => by
    have z := keep a ob e o
    rw [fresh] at z
    exact nomatch z
  refine ⟨y, Option.eq_none_iff_forall_ne_some.mpr fun ob e => ?_⟩
  have ⟨_, z⟩ := J.base.there a ob e (by rw [hex]; intro w; cases w)
  rw [y] at z
  exact nomatch z
theorem ps_try_keep (hs : X.stack = X.env :: X.outer) (hf : X.env.frame = some X.env.locals) (hN : X.N.Nodup) (hi : X.N[i]? = some n) (hln : X.env.kindOf n = some .local) (hj : X.N[j]? = some y) (hyl : X.env.scope.names.lookup y = some .local) (hij : i ≠ j) (hc : Names X x c) (tk : Takes X Wout)
    (hb : ∀ (W : WX) (pn : List (Addr × Obj)) (xe : Value → Shared → Prop) , Takes (X.tr pn xe) W → PassesOwn (model X.prog X.w) X.A X.env xe → PSs (X.tr pn xe) body (tb W))
    (hdn : (n == ("__debug__" : Str)) = false := by decide) (hdc : (n == ("__classdict__" : Str)) = false := by decide)
    (hsw : swapsWith (.Name n pn2) (some (.Name y py)) ps2.line X.env = pure false := by rfl) (hex : X.ex = [] := by rfl) :
    PS X (.Try body [.ExceptHandler (some (.Name x np)) (some n) [.Assign [.Name y py] (.Name n pn2) ps2] pos'] [] [] pos) (fun D σ H => tb (wKeep X.K c i j Wout D) D σ H) := by
  refine ⟨fun pnl s σ H D I h => ?_⟩
  have ok := I.ok
  have frA : X.A.frames = some (X.env :: X.outer) := by rw [ok.frames, hs]
  have locN : Loc X.env.scope n := .inl hln
  refine wpAny_Try_except ?_
  refine wpAny_mono ((hb (wKeep X.K c i j Wout D) (X.pn ++ pnl) (fun e s₁ => wpAny (model X.prog X.w) X.A (noteFrame e X.env) (fun _ s₂ => wpAny (model X.prog X.w) X.A (setFlight e none) (fun _ s₃ =>
    wpAny (model X.prog X.w) X.A (handleBy e X.env [.ExceptHandler (some (.Name x np)) (some n) [.Assign [.Name y py] (.Name n pn2) ps2] pos']) (SP X pnl D) X.xe s₃) X.xe s₂) X.xe s₁) (fun u sE xx => ?_) PassesOwn.looking).run [] s σ H D (I.toTry _) h) (fun f s1 done => ?_) (fun e s1 he => he)
  · -- the catch
    obtain ⟨a, B, sB, pins', σ', H', cls, d, rfl, J', nb, uB, sky, off, os, ag, b, hbm, hyes, hno⟩ := xx
    have J : Inv X pnl σ' H' sB := J'.ofTry ok
    have skyX : Sky B (X.env :: X.outer) a (Zc cls d) X.env.locals sE.heap := by rw [← hs]; exact sky
    have ba : B.get? a = none := by
      rcases sky with z | z | z
      · exact z.2.1
      · exact z.2.1
      · exact z.2.1
    show wpAny _ X.A (noteFrame (.ref a) X.env) _ _ _
    refine Sky.land Zc.steady frA hf skyX fun hx fly ux => ?_
    have jx : Inv X pnl σ' H' { sE with heap := hx } := J.landed nb fly.1 (uB.trans ux) os ag
    obtain ⟨ob, fv, at_a, is_z, fds⟩ := fly.there
    have nfr := off_frames fly.2.2.1 at_a fds
    have ⟨nL, nF⟩ := off_here hf nfr
    have ⟨nI, n0⟩ := young_in J hex (fun b ob e o => nb b ob e (by rw [hs]; exact o)) nfr ba
    have stx := jx.suite at_a fds off nL nF
    refine wpAny_handleBy_cons (codeAny_handlers_test ?_) fun q => nomatch q
    have ofTy : PySem.W.Looks (model X.prog X.w) hx (typeOf (.ref a)) cls := fun A Q E s k q => wpAny_typeOf_ref (k _ _ at_a) (by rw [is_z.1]; exact q)
    have mat := PySem.W.exm_one (M := model X.prog X.w) (jx.kIn) ofTy hbm
    have test : ∀ {Q : Value → Shared → Prop} {E : Value → Shared → Prop}, Q c { sE with heap := hx } → wpAny (model X.prog X.w) (X.A.mark (some (.ref a))) (eval (.Name x np) X.env) Q E { sE with heap := hx } := fun {Q E} q => by
      obtain ⟨gl, ndbg, mm | ⟨mm, bv, nn⟩⟩ := hc
      · exact ld_glob (X := X.suite a ((a, ob) :: (X.pn ++ pnl))) stx gl mm q ndbg
      · exact ld_blt (X := X.suite a ((a, ob) :: (X.pn ++ pnl))) stx gl mm bv q nn ndbg
    refine test (mat.here ?_)
    cases b with
    | true =>
      refine codeAny_handlers_suite_as (?_)
      refine HandSPX.lands_againZ fly fun hy flz uy => ?_
      have jy : Inv X pnl σ' H' { sE with heap := hy } := J.landed nb flz.1 ((uB.trans ux).trans uy) os ag
      obtain ⟨oc, fw, at_c, is_y, fdc⟩ := flz.there
      have sty := jy.suite at_c fdc off nL nF
      refine store_ok (X := X.suite a ((a, oc) :: (X.pn ++ pnl))) (v := .ref a) sty hN hi locN rfl (fun s5 S5 => ?_) (.inr hln)
      have hsuite : PSs (X.suite a ((a, oc) :: (X.pn ++ pnl))) [.Assign [.Name y py] (.Name n pn2) ps2] (tAsg (tVar i) (gName j)) :=
        pss_one (ps_set (X := X.suite a ((a, oc) :: (X.pn ++ pnl))) (i := j) hN hj (.inl hyl) (pe_var (X := X.suite a ((a, oc) :: (X.pn ++ pnl))) (i := i) hi (.inl hln) hdn hdc) hsw (.inr hyl))
      have len : i < σ'.length := by rw [J.len]; exact (List.getElem?_eq_some_iff.mp hi).1
      refine wpAny_mono (hsuite.run [] s5 _ H' { nx := fun σ2 H2 => σ2 = (σ'.set i (some (.ref a))).set j (some (.ref a)) ∧ H2 = H', rt := fun _ _ => False } S5 ⟨.ref a, by rw [List.getElem?_set_self len], rfl, rfl⟩) (fun f s6 done => ?_) (fun _ _ z => False.elim z)
      cases f with
      | next =>
        obtain ⟨τ6, H6, S6, e6, eH⟩ := done
        subst e6 eH
        have J6 : Inv X ((a, oc) :: pnl) ((σ'.set i (some (.ref a))).set j (some (.ref a))) H6 s6 := (S6.unsuite ok).pins_of fun p hp => by
          rcases List.mem_cons.1 hp with e | hp
          · rw [e]; exact S6.pin (a, oc) (List.mem_append_left _ List.mem_cons_self)
          · exact S6.pin p (List.mem_append_left _ (List.mem_cons_of_mem _ (List.mem_append_right _ hp)))
        refine gone_ok J6 hN hi hln fun s7 J7 => ?_
        obtain ⟨ha7, _⟩ := J7.pin (a, oc) (List.mem_append_right _ List.mem_cons_self)
        have J8 : Inv X pnl (((σ'.set i (some (.ref a))).set j (some (.ref a))).set i none) H6 s7 := J7.pins_of fun p hp => J7.pin p (List.mem_append_right _ (List.mem_cons_of_mem _ hp))
        refine ⟨_, _, Inv.track (o := exT cls d a) J8 off n0 (fun p hp z => ?_) nL (fun x' c' e z => ?_) ?_, hyes rfl a off⟩
        · have := (J.pin p hp).1
          rw [z, nI] at this; cases this
        · obtain ⟨v', q⟩ := J.cell x' c' e
          obtain ⟨o', q', _⟩ := q
          rw [z, nI] at q'; cases q'
        · exact ⟨⟨oc, fw, ha7, is_y, fdc⟩, ⟨oc, ha7⟩, fun _ _ ⟨o, v, q, r⟩ k => ⟨o, v, k o q, r⟩⟩
      | brk => exact done.elim fun _ z => z.elim fun _ z => z.2.elim
      | cont => exact done.elim fun _ z => z.elim fun _ z => z.2.elim
      | ret u => exact done.elim fun _ z => z.elim fun _ z => z.elim fun _ z => z.2.2.elim
    | false =>
      refine wpAny_handleBy_nil ?_
      obtain ⟨k1, k2, k3, oe, vs, T, oT, ts', he, hz, hd, h1, hr⟩ := id fly
      unfold PySem.passOn
      have seen : ¬ ((Value.ref T == Value.none) = true) := by simp
      refine wpAny_bind (wpAny_field he hd h1 (?_))
      rw [if_neg seen]
      have out : wpAny (model X.prog X.w) X.A (setFlight (.ref a) X.env.frame) (fun _ s4 => wpAny (model X.prog X.w) X.A (throw (.ref a) : Sem Flow) (SP X pnl D) X.xe s4) X.xe { sE with heap := hx } := by
        rw [hf]
        refine HandSPX.setFlight_upZ fly fun hy gy uy => wpAny_throw (tk _ _ ?_)
        exact ⟨a, B, sB, pnl, σ', H', cls, d, rfl, J, nb, (uB.trans ux).trans uy, .inr (.inr (by rw [hs]; exact gy)), off, os, ag, hno rfl⟩
      first
        | exact wpAny_bind (wpAny_pure (wpAny_bind out))
        | exact wpAny_bind out
  · -- the suite's own ends
    cases f with
    | next => exact done.elim fun τ z => z.elim fun G z => wpAny_execs_nil ⟨τ, G, z.1.ofTry ok, z.2⟩
    | brk => exact done.elim fun τ z => z.elim fun G z => ⟨τ, G, z.1.ofTry ok, z.2⟩
    | cont => exact done.elim fun τ z => z.elim fun G z => ⟨τ, G, z.1.ofTry ok, z.2⟩
    | ret u => exact done.elim fun w z => z.elim fun τ z => z.elim fun G z => ⟨w, τ, G, z.1.ofTry ok, z.2⟩
end
/-- catch: what the clause answers of a class -/
def dTryKeep (catch_ : Value → Option Bool) (i j : Nat) (g : ST) : ST := fun ρ S N => g ρ S { N with ex := fun x ρ' S' => match catch_ x.cls with
  | some true => ∀ a, N.nx (st (st ρ' j (some (.exn x.cls a x.ks x.xs))) i none) S'
  | some false => N.ex x ρ' S'
  | none => False }
section
variable {X : Cx} {x n y : Str} {c : Value} {i j : Nat} {body : List Stmt} {np pos pos' py pn2 ps2 : Pos} {g : ST} {Wout : WX} {catch_ : Value → Option Bool}
theorem s_try_keep (hs : X.stack = X.env :: X.outer) (hf : X.env.frame = some X.env.locals) (hN : X.N.Nodup) (hi : X.N[i]? = some n) (hln : X.env.kindOf n = some .local) (hj : X.N[j]? = some y) (hyl : X.env.scope.names.lookup y = some .local) (hij : i ≠ j) (hc : Names X x c) (tk : Takes X Wout)
    (hcatch : ∀ cls b, catch_ cls = some b → PySem.W.exmOne X.K cls c = some b)
    (hb : ∀ (W : WX) (pn : List (Addr × Obj)) (xe : Value → Shared → Prop) , Takes (X.tr pn xe) W → PassesOwn (model X.prog X.w) X.A X.env xe → PSs (X.tr pn xe) body (rdS X.K W g))
    (hdn : (n == ("__debug__" : Str)) = false := by decide) (hdc : (n == ("__classdict__" : Str)) = false := by decide)
    (hsw : swapsWith (.Name n pn2) (some (.Name y py)) ps2.line X.env = pure false := by rfl) (hex : X.ex = [] := by rfl) :
    PS X (.Try body [.ExceptHandler (some (.Name x np)) (some n) [.Assign [.Name y py] (.Name n pn2) ps2] pos'] [] [] pos) (rdS X.K Wout (dTryKeep catch_ i j g)) :=
  PS_imp (ps_try_keep hs hf hN hi hln hj hyl hij hc tk hb hdn hdc hsw hex) fun D σ H ⟨ρ, S, N, hρ, hS, hf, l⟩ => by
    refine ⟨ρ, S, _, hρ, hS, hf, ⟨l.nx, l.rt, fun x ρ' S' c' dd σ' H' e r k q h => ?_, l.bk, l.ct⟩⟩
    dsimp only at h
    obtain ⟨ec, vs, xd, hl, rs⟩ := q
    split at h
    · rename_i eq
      refine ⟨true, hcatch _ _ (by rw [ec]; exact eq), fun _ a ha => ?_, fun z => nomatch z⟩
      have im : Imm H' (upd H' a (exT c' dd a)) := upd_imm ha
      have hset : ((σ'.set i (some (.ref a))).set j (some (.ref a))).set i none = (σ'.set j (some (.ref a))).set i none := by
        rw [List.set_comm _ _ hij, List.set_set]
      rw [hset]
      refine l.nx _ S' _ _ (e.trans (evo_new ha)) (r.upd_new ha) (EnvR.gone i none (EnvR.set ?_ j (k.imm im))) (h a)
      exact ⟨rfl, dd, vs, by rw [← ec]; exact upd_same, im.xd xd, hl, Rels.imm im _ _ rs⟩
    · rename_i eq
      exact ⟨false, hcatch _ _ (by rw [ec]; exact eq), (fun z => nomatch z), fun _ => l.ex x ρ' S' c' dd σ' H' e r k ⟨ec, vs, xd, hl, rs⟩ h⟩
    · exact h.elim
end
end MP

set_option Elab.async false
set_option linter.all false
set_option maxRecDepth 100000
set_option maxHeartbeats 2100000
/-! MPOps: operators, comparisons, subscripts, built-ins over data. -/
namespace MP
open PySem PyProof.Rows PySem.Spec L2

/-! ### a value as it is read: a list or a dict of the store by what it holds -/
def vw (d : D) (S : Store) : D := match d with
  | .ref a => match S a with
    | some (.lst ds) => .lst ds
    | some (.dct ks ds) => .dct ks ds
    | _ => .ref a
  | d => d
/-- a list that is read: tracked, or locked -/
def RdL (K : PySem.W.Frag) (H : Hp) (ds : List D) (v : V) : Prop := ∃ a xs, v = .ref a ∧ Rd H a (.lst xs) ∧ Rels K H ds xs
def RdK (K : PySem.W.Frag) (H : Hp) (ds : List D) (v : V) : Prop := ∃ a xs, v = .ref a ∧ SqL K H a xs ∧ Rels K H ds xs
def RdT (K : PySem.W.Frag) (H : Hp) (ds : List D) (v : V) : Prop := ∃ a xs, v = .ref a ∧ SqT K H a xs ∧ Rels K H ds xs
def RdD (K : PySem.W.Frag) (H : Hp) (ks : List Key) (ds : List D) (v : V) : Prop := ∃ a xs, v = .ref a ∧ Rd H a (.dK (ks.zip xs)) ∧ ks.length = ds.length ∧ Rels K H ds xs
theorem RdL.k {K : PySem.W.Frag} {H : Hp} {ds : List D} {v : V} (h : RdL K H ds v) : RdK K H ds v := let ⟨a, xs, e, q, r⟩ := h; ⟨a, xs, e, .inl q, r⟩
/-- what a viewed value says -/
def RelW (K : PySem.W.Frag) (H : Hp) : D → V → Prop
  | .lst ds, v => RdL K H ds v
  | .kls ds, v => RdK K H ds v
  | .dct ks ds, v => RdD K H ks ds v
  | d, v => Rel K H d v
theorem vw_rel {K : PySem.W.Frag} {S : Store} {H : Hp} {d : D} {v : V} (hS : SRel K S H) (r : Rel K H d v) : RelW K H (vw d S) v := by
  cases d with
  | ref a =>
    have e : v = .ref a := r
    subst e
    unfold vw
    dsimp only
    split
    · rename_i ds q
      obtain ⟨xs, h, rs⟩ := hS a _ q
      exact ⟨a, xs, rfl, .inl h, rs⟩
    · rename_i ks ds q
      obtain ⟨xs, h, l, rs⟩ := hS a _ q
      exact ⟨a, xs, rfl, .inl h, l, rs⟩
    · exact rfl
  | lst ds => obtain ⟨a, xs, e, h, rs⟩ := r; exact ⟨a, xs, e, .inr h, rs⟩
  | kls ds => obtain ⟨a, xs, e, h, rs⟩ := r; exact ⟨a, xs, e, h.seq, rs⟩
  | dct ks ds => obtain ⟨a, xs, e, ⟨o, h⟩, l, rs⟩ := r; exact ⟨a, xs, e, .inr ⟨o, h⟩, l, rs⟩
  | _ => exact r
section
variable {K : PySem.W.Frag} {S : Store} {H : Hp} {d : D} {v : V}
theorem vw_lst {ds : List D} (hS : SRel K S H) (r : Rel K H d v) (e : vw d S = .lst ds) : RdL K H ds v := by have z := vw_rel hS r; rw [e] at z; exact z
theorem vw_kls {ds : List D} (hS : SRel K S H) (r : Rel K H d v) (e : vw d S = .kls ds) : RdK K H ds v := by have z := vw_rel hS r; rw [e] at z; exact z
theorem vw_dct {ks : List Key} {ds : List D} (hS : SRel K S H) (r : Rel K H d v) (e : vw d S = .dct ks ds) : RdD K H ks ds v := by have z := vw_rel hS r; rw [e] at z; exact z
theorem vw_tup {ds : List D} (hS : SRel K S H) (r : Rel K H d v) (e : vw d S = .tup ds) : RdT K H ds v := by have z := vw_rel hS r; rw [e] at z; exact z
theorem vw_int {i : Int} (hS : SRel K S H) (r : Rel K H d v) (e : vw d S = .int i) : v = .int i := by have z := vw_rel hS r; rw [e] at z; exact z
theorem vw_str {i : Str} (hS : SRel K S H) (r : Rel K H d v) (e : vw d S = .str i) : v = .str i := by have z := vw_rel hS r; rw [e] at z; exact z
theorem vw_bl {i : Bool} (hS : SRel K S H) (r : Rel K H d v) (e : vw d S = .bl i) : v = .bl i := by have z := vw_rel hS r; rw [e] at z; exact z
theorem vw_non (hS : SRel K S H) (r : Rel K H d v) (e : vw d S = .non) : v = .non := by have z := vw_rel hS r; rw [e] at z; exact z
theorem LQ.here {Qd : Post} {Q : VK} (l : LQ K S H Qd Q) (hS : SRel K S H) {d : D} {v : V} (r : Rel K H d v) (q : Qd d S) : Q v H := l d S v H (Evo.refl _ _) hS r q
theorem LQ.fz {Qd : Post} {Q : VK} (l : LQ K S H Qd Q) (hS : SRel K S H) {d : D} {v : V} (r : Rel K H d v) (q : Qd d S) : FzQ Q v H := .inl (l.here hS r q)
end

/-! ### numbers -/
def g2i (C : Int → Int → Prop) (g : Int → Int → D) : G2 := fun x y S Q => match x, y with
  | .int i, .int j => C i j ∧ Q (g i j) S
  | _, _ => False
def gI (g : Int → Int → D) : G2 := fun x y S Q => match x, y with
  | .int i, .int j => Q (g i j) S
  | _, _ => False
theorem opd_rI {K : PySem.W.Frag} {C : Int → Int → Prop} {g : Int → Int → D} {gv : Int → Int → V} (h : ∀ i j H, Rel K H (g i j) (gv i j)) : OpD K (rI C gv) (g2i C g) := by
  intro x y S H dx dy Qd Q hS rx ry q l
  unfold g2i at q
  split at q
  · exact ⟨_, _, rx, ry, q.1, l.fz hS (h _ _ _) q.2⟩
  · exact q.elim
theorem opd_rI0 {K : PySem.W.Frag} {g : Int → Int → D} {gv : Int → Int → V} (h : ∀ i j H, Rel K H (g i j) (gv i j)) : OpD K (rI0 gv) (gI g) := by
  intro x y S H dx dy Qd Q hS rx ry q l
  unfold gI at q
  split at q
  · exact ⟨_, _, rx, ry, l.fz hS (h _ _ _) q⟩
  · exact q.elim
def gSub : G2 := gI fun i j => .int (i - j)
def gMul : G2 := g2i CMul fun i j => .int (i * j)
def gDiv : G2 := g2i CDiv fun i j => .int (i / j)
def gMod : G2 := g2i (fun _ j => 0 < j) fun i j => .int (i % j)
def gPow : G2 := g2i CPow fun i j => .int (i ^ j.toNat)
def gShr : G2 := g2i (fun _ j => 0 ≤ j) fun i j => .int (i / 2 ^ j.toNat)
def gShl : G2 := g2i CPow fun i j => .int (i * 2 ^ j.toNat)
def gNeg : G1 := fun x S Q => match x with
  | .int i => Q (.int (-i)) S
  | _ => False
section
variable {K : PySem.W.Frag}
theorem d_sub : OpD K (rI0 fun i j => .int (i - j)) gSub := opd_rI0 fun _ _ _ => rfl
theorem d_mul : OpD K (rI CMul fun i j => .int (i * j)) gMul := opd_rI fun _ _ _ => rfl
theorem d_div : OpD K (rI CDiv fun i j => .int (i / j)) gDiv := opd_rI fun _ _ _ => rfl
theorem d_mod : OpD K (rI (fun _ j => 0 < j) fun i j => .int (i % j)) gMod := opd_rI fun _ _ _ => rfl
theorem d_pow : OpD K (rI CPow fun i j => .int (i ^ j.toNat)) gPow := opd_rI fun _ _ _ => rfl
theorem d_shr : OpD K (rI (fun _ j => 0 ≤ j) fun i j => .int (i / 2 ^ j.toNat)) gShr := opd_rI fun _ _ _ => rfl
theorem d_shl : OpD K (rI CPow fun i j => .int (i * 2 ^ j.toNat)) gShl := opd_rI fun _ _ _ => rfl
theorem d_neg : UnD K (rU fun i => .int (-i)) gNeg := by
  intro x S H dx Qd Q hS rx q l
  unfold gNeg at q
  split at q
  · exact ⟨_, rx, l.here hS (d := .int (-_)) rfl q⟩
  · exact q.elim
end

/-! ### + -/
def rCatS : R2 := fun x y H Q => ∃ l b xs zs, x = .ref l ∧ y = .ref b ∧ Rd H l (.lst xs) ∧ Rd H b (.lst zs) ∧ xs.length + zs.length ≤ sizeLine ∧ ∀ p, H p = none → Q (.ref p) (upd H p (.lst (xs ++ zs)))
theorem op_catS {X : Cx} : OpR X (binaryOp .Add) rCatS := by
  intro pins s σ H x y v u Q I rx ry ⟨l, b, xs, zs, ex, ey, hl, hb, hz, q⟩
  subst ex ey
  cases rx
  cases ry
  obtain ⟨_, i1, n1, r1, o1⟩ := hl.ok I.hok
  obtain ⟨_, i2, n2, r2, o2⟩ := hb.ok I.hok
  have l1 := Vals.length r1
  have l2 := Vals.length r2
  refine PySem.P.add_list o1 o2 ?_ (by rw [List.size_toArray, List.size_toArray]; omega)
  rw [show i1.toArray ++ i2.toArray = (i1 ++ i2).toArray by simp]
  exact ⟨.ref s.heap.objs.size, _, I.lnew (t' := s.toks) (Vals.append r1 r2) (by simp only [List.length_append]; exact hz), rfl, q _ I.fresh⟩
def rAddAll (K : PySem.W.Frag) : R2 := fun x y H Q => (∃ i j, x = .int i ∧ y = .int j ∧ Q (.int (i + j)) H) ∨ (∃ i j, x = .str i ∧ y = .str j ∧ i.length + j.length ≤ sizeLine ∧ Q (.str (i ++ j)) H) ∨ rCatT K x y H Q ∨ rCatS x y H Q
theorem op_addAll {X : Cx} : OpR X (binaryOp .Add) (rAddAll X.K) := OpR.or op_add (OpR.or op_add_str (OpR.or op_catT op_catS))
def gAdd (mk : MkT) : G2 := fun x y S Q => match vw x S, vw y S with
  | .int i, .int j => Q (.int (i + j)) S
  | .str i, .str j => i.length + j.length ≤ sizeLine ∧ Q (.str (i ++ j)) S
  | .tup i, .tup j => i ≠ [] ∧ i.length + j.length ≤ sizeLine ∧ Q (.tup (i ++ j)) S
  | .lst i, .lst j => i.length + j.length ≤ sizeLine ∧ mk (i ++ j) S Q
  | _, _ => False
theorem d_add {K : PySem.W.Frag} {mk : MkT} (hm : MkOk K mk) : OpD K (rAddAll K) (gAdd mk) := by
  intro x y S H dx dy Qd Q hS rx ry q l
  unfold gAdd at q
  split at q
  · rename_i i j e1 e2
    exact .inl ⟨i, j, vw_int hS rx e1, vw_int hS ry e2, l.fz hS (d := .int (i + j)) rfl q⟩
  · rename_i i j e1 e2
    exact .inr (.inl ⟨i, j, vw_str hS rx e1, vw_str hS ry e2, q.1, l.fz hS (d := .str (i ++ j)) rfl q.2⟩)
  · rename_i i j e1 e2
    obtain ⟨a, xs, ea, ha, ra⟩ := vw_tup hS rx e1
    obtain ⟨b, ys, eb, hb, rb⟩ := vw_tup hS ry e2
    refine .inr (.inr (.inl ⟨a, b, xs, ys, ea, eb, ha, hb, ?_, ?_, ?_⟩))
    · intro z; subst z; have := ra.length; cases i with
      | nil => exact q.1 rfl
      | cons _ _ => simp at this
    · rw [← ra.length, ← rb.length]; exact q.2.1
    · refine ⟨fun hy => ?_, fun hy => ?_⟩
      · subst hy
        have ej : j = [] := by have := rb.length; cases j with
          | nil => rfl
          | cons _ _ => simp at this
        subst ej
        rw [List.append_nil] at q
        exact l.fz hS (d := .tup i) ⟨a, xs, rfl, ha, ra⟩ q.2.2
      · exact fun p hp => .inl (new_tup hS hp (Rels.append ra rb) q.2.2 l)
  · rename_i i j e1 e2
    obtain ⟨a, xs, ea, ha, ra⟩ := vw_lst hS rx e1
    obtain ⟨b, ys, eb, hb, rb⟩ := vw_lst hS ry e2
    exact .inr (.inr (.inr ⟨a, b, xs, ys, ea, eb, ha, hb, by rw [← ra.length, ← rb.length]; exact q.1, fun p hp => hm _ _ _ _ _ _ _ hS hp (Rels.append ra rb) q.2 l⟩))
  · exact q.elim

/-! ### == and != -/
mutual
def toPy : D → Option PyData
  | .non => some .none
  | .bl b => some (.bool b)
  | .int i => some (.int i)
  | .str x => some (.str x)
  | .tup xs => (toPys xs).map .tuple
  | .lst xs => (toPys xs).map .list
  | .kls xs => (toPys xs).map .list
  | .ty _ => none
  | .ref _ => none
  | .exn _ _ _ _ => none
  | .dct _ _ => none
def toPys : List D → Option (List PyData)
  | [] => some []
  | d :: ds => (toPy d).bind fun p => (toPys ds).map fun ps => p :: ps
end
mutual
theorem toPy_dp {K : PySem.W.Frag} {H : Hp} : ∀ (d : D) (v : V) (p : PyData), Rel K H d v → toPy d = some p → Dp K H v p
  | .non, _, _, r, e => by cases e; have z : _ = V.non := r; subst z; exact .non
  | .bl b, _, _, r, e => by cases e; have z : _ = V.bl b := r; subst z; exact .bl b
  | .int i, _, _, r, e => by cases e; have z : _ = V.int i := r; subst z; exact .int i
  | .str x, _, _, r, e => by cases e; have z : _ = V.str x := r; subst z; exact .str x
  | .tup xs, _, _, ⟨a, vs, e1, h, rs⟩, e => by
    obtain ⟨ps, e2, e3⟩ := Option.map_eq_some_iff.mp e
    subst e1 e3
    exact .tup h (toPys_dp xs vs ps rs e2)
  | .lst xs, _, _, ⟨a, vs, e1, h, rs⟩, e => by
    obtain ⟨ps, e2, e3⟩ := Option.map_eq_some_iff.mp e
    subst e1 e3
    exact .lst h.seq (toPys_dp xs vs ps rs e2)
  | .kls xs, _, _, ⟨a, vs, e1, h, rs⟩, e => by
    obtain ⟨ps, e2, e3⟩ := Option.map_eq_some_iff.mp e
    subst e1 e3
    exact .lst h.seq (toPys_dp xs vs ps rs e2)
  | .ty _, _, _, _, e => nomatch e
  | .ref _, _, _, _, e => nomatch e
  | .exn _ _ _ _, _, _, _, e => nomatch e
  | .dct _ _, _, _, _, e => nomatch e
theorem toPys_dp {K : PySem.W.Frag} {H : Hp} : ∀ (ds : List D) (vs : List V) (ps : List PyData), Rels K H ds vs → toPys ds = some ps → DpAll K H vs ps
  | [], _, _, r, e => by cases e; have z : _ = [] := r; subst z; exact .nil
  | d :: ds, _, _, ⟨v, r, e1, h, t⟩, e => by
    subst e1
    obtain ⟨p, e2, e3⟩ := Option.bind_eq_some_iff.mp e
    obtain ⟨qs, e4, e5⟩ := Option.map_eq_some_iff.mp e3
    subst e5
    exact .cons (toPy_dp d v p h e2) (toPys_dp ds r qs t e4)
end
theorem toPy_vw {K : PySem.W.Frag} {S : Store} {H : Hp} {d : D} {v : V} {p : PyData} (hS : SRel K S H) (r : Rel K H d v) (e : toPy (vw d S) = some p) : Dp K H v p := by
  cases hd : vw d S with
  | lst xs =>
    rw [hd] at e
    obtain ⟨a, vs, e1, h, rs⟩ := vw_lst hS r hd
    obtain ⟨ps, e2, e3⟩ := Option.map_eq_some_iff.mp e
    subst e1 e3
    exact .lst (.inl h) (toPys_dp xs vs ps rs e2)
  | kls xs =>
    rw [hd] at e
    obtain ⟨a, vs, e1, h, rs⟩ := vw_kls hS r hd
    obtain ⟨ps, e2, e3⟩ := Option.map_eq_some_iff.mp e
    subst e1 e3
    exact .lst h (toPys_dp xs vs ps rs e2)
  | dct ks xs => rw [hd] at e; cases e
  | ref a => rw [hd] at e; cases e
  | ty n => rw [hd] at e; cases e
  | exn c a ks xs => rw [hd] at e; cases e
  | _ => have z := vw_rel hS r; rw [hd] at z e; exact toPy_dp _ _ _ z e
/-- two values compared: texts by themselves, else data of a shape -/
def eqG (f : Bool → Bool) : G2 := fun x y S Q => match x, y with
  | .str a, .str b => Q (.bl (f (a == b))) S
  | x, y => match toPy (vw x S), toPy (vw y S) with
    | some d, some e => SeqAt.shaped d = true ∧ SeqAt.shaped e = true ∧ Q (.bl (f (PyData.eqv d e))) S
    | _, _ => False
def gEq : G2 := eqG fun b => b
def gNe : G2 := eqG fun b => !b
def rEqA (K : PySem.W.Frag) : R2 := fun x y H Q => rEq x y H Q ∨ rEqD K x y H Q
def rNeA (K : PySem.W.Frag) : R2 := fun x y H Q => rNe x y H Q ∨ rNeD K x y H Q
theorem op_eqA {X : Cx} (hu : X.A.units + 64 < cLine) : OpR X (compareOp .Eq) (rEqA X.K) := OpR.or op_eq (op_eqD hu)
theorem op_neA {X : Cx} (hu : X.A.units + 64 < cLine) : OpR X (compareOp .NotEq) (rNeA X.K) := OpR.or op_ne (op_neD hu)
theorem d_eq {K : PySem.W.Frag} : OpD K (rEqA K) gEq := by
  intro x y S H dx dy Qd Q hS rx ry q l
  unfold gEq eqG at q
  split at q
  · rename_i a b
    have e1 : x = V.str a := rx
    have e2 : y = V.str b := ry
    subst e1 e2
    exact .inl ⟨rfl, by rw [dec_str]; exact l.fz hS (d := .bl (a == b)) rfl q⟩
  · split at q
    · rename_i d e h1 h2
      exact .inr ⟨d, e, toPy_vw hS rx h1, toPy_vw hS ry h2, q.1, q.2.1, l.fz hS (d := .bl _) rfl q.2.2⟩
    · exact q.elim
theorem d_ne {K : PySem.W.Frag} : OpD K (rNeA K) gNe := by
  intro x y S H dx dy Qd Q hS rx ry q l
  unfold gNe eqG at q
  split at q
  · rename_i a b
    have e1 : x = V.str a := rx
    have e2 : y = V.str b := ry
    subst e1 e2
    exact .inl ⟨rfl, by rw [dec_str]; exact l.fz hS (d := .bl (!(a == b))) rfl q⟩
  · split at q
    · rename_i d e h1 h2
      exact .inr ⟨d, e, toPy_vw hS rx h1, toPy_vw hS ry h2, q.1, q.2.1, l.fz hS (d := .bl _) rfl q.2.2⟩
    · exact q.elim
/-- a bool stays where it is -/
theorem fz_bl {Q : VK} {b : Bool} {H : Hp} (h : FzQ Q (.bl b) H) : Q (.bl b) H := by
  rcases h with h | ⟨a, xs, e, _⟩ | ⟨a, xs, e, _⟩
  · exact h
  · cases e
  · cases e
theorem bools_eq {K : PySem.W.Frag} : Bools (rEqA K) := fun x y H Q h => h.elim (fun ⟨a, b⟩ => .inl ⟨a, fz_bl b⟩) fun ⟨d, e, a, b, c, f, g⟩ => .inr ⟨d, e, a, b, c, f, fz_bl g⟩
theorem bools_ne {K : PySem.W.Frag} : Bools (rNeA K) := fun x y H Q h => h.elim (fun ⟨a, b⟩ => .inl ⟨a, fz_bl b⟩) fun ⟨d, e, a, b, c, f, g⟩ => .inr ⟨d, e, a, b, c, f, fz_bl g⟩

/-! ### < <= > >= -/
def rOrd (p : Int → Int → Bool) (q : List Nat → List Nat → Bool) : R2 := fun x y H Q => (∃ i j, x = .int i ∧ y = .int j ∧ Q (.bl (p i j)) H) ∨ ∃ i j, x = .str i ∧ y = .str j ∧ Q (.bl (q i.cps.toList j.cps.toList)) H
def gOrd (p : Int → Int → Bool) (q : List Nat → List Nat → Bool) : G2 := fun x y S Q => match x, y with
  | .int i, .int j => Q (.bl (p i j)) S
  | .str i, .str j => Q (.bl (q i.cps.toList j.cps.toList)) S
  | _, _ => False
theorem d_ord {K : PySem.W.Frag} {p : Int → Int → Bool} {q : List Nat → List Nat → Bool} : OpD K (rOrd p q) (gOrd p q) := by
  intro x y S H dx dy Qd Q hS rx ry h l
  unfold gOrd at h
  split at h
  · exact .inl ⟨_, _, rx, ry, l.fz hS (d := .bl _) rfl h⟩
  · exact .inr ⟨_, _, rx, ry, l.fz hS (d := .bl _) rfl h⟩
  · exact h.elim
theorem bools_ord {p : Int → Int → Bool} {q : List Nat → List Nat → Bool} : Bools (rOrd p q) := fun x y H Q h => h.elim (fun ⟨i, j, a, b, c⟩ => .inl ⟨i, j, a, b, fz_bl c⟩) fun ⟨i, j, a, b, c⟩ => .inr ⟨i, j, a, b, fz_bl c⟩
abbrev gLt : G2 := gOrd (fun i j => decide (i < j)) (fun i j => decide (i < j))
abbrev gLe : G2 := gOrd (fun i j => decide (i ≤ j)) (fun i j => !decide (j < i))
abbrev gGt : G2 := gOrd (fun i j => decide (j < i)) (fun i j => decide (j < i))
abbrev gGe : G2 := gOrd (fun i j => decide (j ≤ i)) (fun i j => !decide (i < j))
section
variable {X : Cx}
theorem op_ltA : OpR X (compareOp .Lt) (rOrd (fun i j => decide (i < j)) (fun i j => decide (i < j))) := OpR.or op_lt op_lt_str
theorem op_leA : OpR X (compareOp .LtE) (rOrd (fun i j => decide (i ≤ j)) (fun i j => !decide (j < i))) := OpR.or op_le op_le_str
theorem op_gtA : OpR X (compareOp .Gt) (rOrd (fun i j => decide (j < i)) (fun i j => decide (j < i))) := OpR.or op_gt op_gt_str
theorem op_geA : OpR X (compareOp .GtE) (rOrd (fun i j => decide (j ≤ i)) (fun i j => !decide (i < j))) := OpR.or op_ge op_ge_str
end

/-! ### is None, is not None -/
def isNon : D → Bool
  | .non => true
  | _ => false
theorem isNon_rel {K : PySem.W.Frag} {H : Hp} {d : D} {v : V} (r : Rel K H d v) : decide (v = .non) = isNon d := by
  cases d with
  | non => have e : v = _ := r; subst e; rfl
  | bl b => have e : v = _ := r; subst e; rfl
  | int i => have e : v = _ := r; subst e; rfl
  | str x => have e : v = _ := r; subst e; rfl
  | ty n => have e : v = _ := r; subst e; rfl
  | ref a => have e : v = _ := r; subst e; rfl
  | exn c a ks xs => obtain ⟨e, _⟩ := r; subst e; rfl
  | tup xs => obtain ⟨a, ys, e, _⟩ := r; subst e; rfl
  | lst xs => obtain ⟨a, ys, e, _⟩ := r; subst e; rfl
  | kls xs => obtain ⟨a, ys, e, _⟩ := r; subst e; rfl
  | dct ks xs => obtain ⟨a, ys, e, _⟩ := r; subst e; rfl
def rIsN : R2 := fun v y H Q => y = .non ∧ Q (.bl (decide (v = .non))) H
def rIsnN : R2 := fun x y H Q => y = .non ∧ Q (.bl (!decide (x = .non))) H
def gIs : G2 := fun x y S Q => match y with
  | .non => Q (.bl (isNon x)) S
  | _ => False
def gIsn : G2 := fun x y S Q => match y with
  | .non => Q (.bl (!isNon x)) S
  | _ => False
theorem d_is {K : PySem.W.Frag} : OpD K rIsN gIs := by
  intro x y S H dx dy Qd Q hS rx ry h l
  unfold gIs at h
  split at h
  · exact ⟨ry, by rw [isNon_rel rx]; exact l.fz hS (d := .bl _) rfl h⟩
  · exact h.elim
theorem d_isn {K : PySem.W.Frag} : OpD K rIsnN gIsn := by
  intro x y S H dx dy Qd Q hS rx ry h l
  unfold gIsn at h
  split at h
  · exact ⟨ry, by rw [isNon_rel rx]; exact l.fz hS (d := .bl _) rfl h⟩
  · exact h.elim
theorem bools_is : Bools rIsN := fun x y H Q h => ⟨h.1, fz_bl h.2⟩
theorem bools_isn : Bools rIsnN := fun x y H Q h => ⟨h.1, fz_bl h.2⟩
theorem op_isA {X : Cx} : OpR X (compareOp .Is) rIsN := op_isN
theorem op_isnA {X : Cx} : OpR X (compareOp .IsNot) rIsnN := op_notN

/-! ### in, not in: a list, a tuple of flat things; a sign in a text -/
def flatD : D → Bool
  | .non => true
  | .bl _ => true
  | .int _ => true
  | .str _ => true
  | _ => false
def eqF : D → D → Bool
  | .non, .non => true
  | .bl a, .bl b => a == b
  | .bl p, .int b => (if p then 1 else 0) == b
  | .int a, .bl p => a == (if p then 1 else 0)
  | .int a, .int b => a == b
  | .str a, .str b => a == b
  | _, _ => false
theorem flatD_rel {K : PySem.W.Frag} {H : Hp} {d : D} {v : V} (r : Rel K H d v) (h : flatD d = true) : flatV v = true := by
  cases d with
  | non => have e : v = _ := r; subst e; rfl
  | bl b => have e : v = _ := r; subst e; rfl
  | int i => have e : v = _ := r; subst e; rfl
  | str x => have e : v = _ := r; subst e; rfl
  | _ => cases h
theorem eqF_rel {K : PySem.W.Frag} {H : Hp} {d e : D} {v u : V} (r : Rel K H d v) (q : Rel K H e u) (h : flatD d = true) (k : flatD e = true) : eqV v u = eqF d e := by
  cases d <;> first
    | cases h; done
    | (have e1 := r
       cases e <;> first
         | cases k; done
         | (have e2 := q
            cases e1
            cases e2
            rfl))
def inD (x : D) (ys : List D) : Bool := ys.any fun y => eqF y x
theorem inD_rel {K : PySem.W.Frag} {H : Hp} {d : D} {v : V} (r : Rel K H d v) (h : flatD d = true) : ∀ {ds : List D} {vs : List V}, Rels K H ds vs → ds.all flatD = true → vs.all flatV = true ∧ inV v vs = inD d ds
  | [], _, e, _ => by have z : _ = [] := e; subst z; exact ⟨rfl, rfl⟩
  | y :: ds, _, ⟨u, us, e, h1, t⟩, f => by
    subst e
    rw [List.all_cons, Bool.and_eq_true_iff] at f
    obtain ⟨a, b⟩ := inD_rel r h t f.2
    refine ⟨by rw [List.all_cons, flatD_rel h1 f.1, a]; rfl, ?_⟩
    show (eqV u v || inV v us) = (eqF y d || inD d ds)
    rw [eqF_rel h1 r f.1 h, b]
def signOf : D → Option Nat
  | .str x => match x.cps.toList with
    | [c] => some c
    | _ => none
  | _ => none
def rInA (K : PySem.W.Frag) (neg : Bool) : R2 := fun x y H Q => rIn K neg x y H Q ∨ ∃ (c : Nat) (z : Str), x = .str ⟨#[c]⟩ ∧ y = .str z ∧ Q (.bl (if neg then !decide (c ∈ z.cps.toList) else decide (c ∈ z.cps.toList))) H
def gIn (neg : Bool) : G2 := fun x y S Q => match vw y S with
  | .lst ys => flatD x = true ∧ ys.all flatD = true ∧ Q (.bl (if neg then !inD x ys else inD x ys)) S
  | .tup ys => flatD x = true ∧ ys.all flatD = true ∧ Q (.bl (if neg then !inD x ys else inD x ys)) S
  | .str z => match signOf x with
    | some c => Q (.bl (if neg then !decide (c ∈ z.cps.toList) else decide (c ∈ z.cps.toList))) S
    | none => False
  | _ => False
theorem op_inA {X : Cx} : OpR X (compareOp .In) (rInA X.K false) := OpR.or op_in_seq op_in_sign
theorem op_notInA {X : Cx} : OpR X (compareOp .NotIn) (rInA X.K true) := OpR.or op_notIn_seq op_notIn_sign
theorem sign_rel {K : PySem.W.Frag} {H : Hp} {d : D} {v : V} {c : Nat} (r : Rel K H d v) (h : signOf d = some c) : v = .str ⟨#[c]⟩ := by
  cases d with
  | str x =>
    have e : v = _ := r
    subst e
    unfold signOf at h
    dsimp only at h
    split at h
    · rename_i c' e'
      cases h
      obtain ⟨⟨l⟩⟩ := x
      simp only at e'
      subst e'
      rfl
    · cases h
  | _ => cases h
theorem d_in {K : PySem.W.Frag} {neg : Bool} : OpD K (rInA K neg) (gIn neg) := by
  intro x y S H dx dy Qd Q hS rx ry h l
  unfold gIn at h
  split at h
  · rename_i ys e
    obtain ⟨a, vs, ea, ha, rs⟩ := vw_lst hS ry e
    obtain ⟨f, g⟩ := inD_rel rx h.1 rs h.2.1
    exact .inl ⟨a, vs, ea, .inl (.inl ha), flatD_rel rx h.1, f, by rw [g]; exact l.fz hS (d := .bl _) rfl h.2.2⟩
  · rename_i ys e
    obtain ⟨a, vs, ea, ha, rs⟩ := vw_tup hS ry e
    obtain ⟨f, g⟩ := inD_rel rx h.1 rs h.2.1
    exact .inl ⟨a, vs, ea, .inr ha, flatD_rel rx h.1, f, by rw [g]; exact l.fz hS (d := .bl _) rfl h.2.2⟩
  · rename_i z e
    split at h
    · rename_i c ec
      exact .inr ⟨c, z, sign_rel rx ec, vw_str hS ry e, l.fz hS (d := .bl _) rfl h⟩
    · exact h.elim
  · exact h.elim
theorem bools_in {K : PySem.W.Frag} {neg : Bool} : Bools (rInA K neg) := fun x y H Q h => h.elim (fun ⟨a, b, c, d, e, f, g⟩ => .inl ⟨a, b, c, d, e, f, fz_bl g⟩) fun ⟨a, b, c, d, g⟩ => .inr ⟨a, b, c, d, fz_bl g⟩

/-! ### subscripts -/
def dlook (ks : List Key) (ds : List D) (k : Key) : Option D := match ks, ds with
  | j :: ks, d :: ds => if j = k then some d else dlook ks ds k
  | _, _ => none
def keyD : D → Option Key
  | .int i => some (.inl i)
  | .str x => some (.inr x)
  | _ => none
theorem keyD_rel {K : PySem.W.Frag} {H : Hp} {d : D} {v : V} {k : Key} (r : Rel K H d v) (h : keyD d = some k) : v = kV k := by
  cases d with
  | int i => cases h; exact r
  | str x => cases h; exact r
  | _ => cases h
theorem dlook_rel {K : PySem.W.Frag} {H : Hp} (k : Key) : ∀ {ks : List Key} {ds : List D} {vs : List V}, Rels K H ds vs → ks.length = ds.length →
    (dlook ks ds k = none ∧ valV (ks.zip vs) k = none) ∨ ∃ d v, dlook ks ds k = some d ∧ valV (ks.zip vs) k = some v ∧ Rel K H d v
  | [], _, _, _, _ => .inl ⟨by unfold dlook; rfl, rfl⟩
  | j :: ks, [], _, _, l => by cases l
  | j :: ks, d :: ds, _, ⟨v, r, e, h, t⟩, l => by
    subst e
    by_cases hj : j = k
    · exact .inr ⟨d, v, by unfold dlook; rw [if_pos hj], by rw [List.zip_cons_cons, valV_pos hj], h⟩
    · have ih := dlook_rel k t (by simpa using l)
      unfold dlook
      rw [if_neg hj, List.zip_cons_cons, valV_neg hj]
      exact ih
def rIxD : R2 := fun x y H Q => ∃ a v, x = .ref a ∧ DGet H a y (some v) ∧ Q v H
theorem ix_dict {X : Cx} (hu : X.A.units + 1 < cLine) : IxR X rIxD := by
  intro value slice pins s σ H x y v u Q I rx ry ⟨a, z, ex, g, q⟩ hs
  subst ex
  cases rx
  exact tail_any (dict_typeIs I g) PySem.F.slot_dict_getitem.lookup (d_getItem hu I g ry fun w s' J rw' => ⟨z, H, J, rw', q⟩) hs
def rIxA (K : PySem.W.Frag) : R2 := fun x y H Q => rIx K x y H Q ∨ rIxD x y H Q
theorem ix_all {X : Cx} (hu : X.A.units + 1 < cLine) : IxR X (rIxA X.K) := IxR.or ix_seq (ix_dict hu)
def gIx : G2 := fun x y S Q => match vw x S with
  | .lst ds => match y with
    | .int i => match atI ds i with
      | some d => Q d S
      | none => False
    | _ => False
  | .tup ds => match y with
    | .int i => match atI ds i with
      | some d => Q d S
      | none => False
    | _ => False
  | .str z => match y with
    | .int i => z.length ≤ sizeLine ∧ match atI z.cps.toList i with
      | some c => Q (.str ⟨#[c]⟩) S
      | none => False
    | _ => False
  | .dct ks ds => match keyD y with
    | some k => match dlook ks ds k with
      | some d => Q d S
      | none => False
    | none => False
  | _ => False
theorem atI_rel {K : PySem.W.Frag} {H : Hp} {ds : List D} {vs : List V} {i : Int} {d : D} (r : Rels K H ds vs) (h : atI ds i = some d) : ∃ v, atI vs i = some v ∧ Rel K H d v := by
  unfold atI at h ⊢
  rw [← r.length]
  obtain ⟨j, e, h2⟩ := Option.bind_eq_some_iff.mp h
  obtain ⟨v, a, b⟩ := r.get h2
  exact ⟨v, by rw [e]; exact a, b⟩
theorem d_ix {K : PySem.W.Frag} : OpD K (rIxA K) gIx := by
  intro x y S H dx dy Qd Q hS rx ry h l
  unfold gIx at h
  split at h
  · rename_i ds e
    obtain ⟨a, vs, ea, ha, rs⟩ := vw_lst hS rx e
    split at h
    · rename_i i
      split at h
      · rename_i d ed
        obtain ⟨v, ev, rv⟩ := atI_rel rs ed
        exact .inl (.inl ⟨a, vs, i, v, ea, ry, .inl ha, ev, l.fz hS rv h⟩)
      · exact h.elim
    · exact h.elim
  · rename_i ds e
    obtain ⟨a, vs, ea, ha, rs⟩ := vw_tup hS rx e
    split at h
    · rename_i i
      split at h
      · rename_i d ed
        obtain ⟨v, ev, rv⟩ := atI_rel rs ed
        exact .inl (.inr (.inl ⟨a, vs, i, v, ea, ry, ha, ev, l.fz hS rv h⟩))
      · exact h.elim
    · exact h.elim
  · rename_i z e
    split at h
    · rename_i i
      obtain ⟨hz, h⟩ := h
      split at h
      · rename_i c ec
        exact .inl (.inr (.inr ⟨z, i, c, vw_str hS rx e, ry, hz, ec, l.fz hS (d := .str ⟨#[c]⟩) rfl h⟩))
      · exact h.elim
    · exact h.elim
  · rename_i ks ds e
    obtain ⟨a, vs, ea, ha, hl, rs⟩ := vw_dct hS rx e
    split at h
    · rename_i k ek
      split at h
      · rename_i d ed
        rcases dlook_rel k rs hl with ⟨z, _⟩ | ⟨d', v, z1, z2, z3⟩
        · rw [ed] at z; cases z
        · rw [ed] at z1; cases z1
          exact .inr ⟨a, v, ea, .inl ⟨_, k, ha, keyD_rel ry ek, z2.symm⟩, l.fz hS z3 h⟩
      · exact h.elim
    · exact h.elim
  · exact h.elim

/-! ### built-in functions and types -/
abbrev GA := List D → Store → Post → Prop
def CallD (K : PySem.W.Frag) (r : List V → Hp → VK → Prop) (g : GA) : Prop := ∀ xs S H ds Qd Q, SRel K S H → Rels K H ds xs → g ds S Qd → LQ K S H Qd Q → r xs H (FzQ Q)
def evB (g : GA) (fa : EA) : ET := fun ρ S Q E => fa ρ S (fun ds S1 => g ds S1 Q) E
section
variable {X : Cx} {W : WX} {r : List V → Hp → VK → Prop} {g : GA} {x : Str} {id T : String} {e : Expr} {es : List Expr} {fa : EA} {n : Nat} {p pos : Pos}
theorem e_callB (hc : CallR X (.builtin id) r) (hg : CallD X.K r g) (gl : Gl X x) (hm : X.mg x = none) (hv : bootBuiltins x = some (.builtin id)) (ha : PA X (e :: es) (rdA X.K W n fa)) (hn : x ≠ "__name__" := by decide) (hdb : (x == ("__debug__" : Str)) = false := by decide)
    (he : starEach (e :: es) X.env = (false, eval e X.env) :: starEach es X.env := by rfl) (hpl : (backTo pos (starEach es X.env)).any (·.1) = false := by rfl) : PE X (.Call (.Name x p) (e :: es) [] pos) (rdE X.K W (evB g fa)) :=
  PE_imp (pe_fz (pe_callB hc gl hm hv ha hn hdb he hpl)) fun σ H Q ⟨ρ, S, Qd, Ed, hρ, hS, hf, lq, lx⟩ =>
    ⟨ρ, S, _, Ed, hρ, hS, hf, fun ds S1 vs H1 e1 r1 q1 hl h1 => hg _ _ _ _ _ _ r1 q1 h1 (lq.mono e1), lx⟩
theorem e_callTy (hc : CallR X (.type T) r) (hg : CallD X.K r g) (gl : Gl X x) (hm : X.mg x = none) (hv : bootBuiltins x = some (.type T)) (ha : PA X (e :: es) (rdA X.K W n fa)) (hn : x ≠ "__name__" := by decide) (hdb : (x == ("__debug__" : Str)) = false := by decide)
    (he : starEach (e :: es) X.env = (false, eval e X.env) :: starEach es X.env := by rfl) (hpl : (backTo pos (starEach es X.env)).any (·.1) = false := by rfl) : PE X (.Call (.Name x p) (e :: es) [] pos) (rdE X.K W (evB g fa)) :=
  PE_imp (pe_fz (pe_callTy hc gl hm hv ha hn hdb he hpl)) fun σ H Q ⟨ρ, S, Qd, Ed, hρ, hS, hf, lq, lx⟩ =>
    ⟨ρ, S, _, Ed, hρ, hS, hf, fun ds S1 vs H1 e1 r1 q1 hl h1 => hg _ _ _ _ _ _ r1 q1 h1 (lq.mono e1), lx⟩
end
end MP

set_option Elab.async false
set_option linter.all false
set_option maxRecDepth 100000
set_option maxHeartbeats 2100000
/-! MPBuilt: built-ins, methods, dict displays, stores, what is walked. -/
namespace MP
open PySem PyProof.Rows PySem.Spec L2

/-! ### len, int, abs, min, max -/
def gLen : GA := fun ds S Q => match ds with
  | [d] => match vw d S with
    | .lst xs => Q (.int xs.length) S
    | .kls xs => Q (.int xs.length) S
    | .tup xs => Q (.int xs.length) S
    | .dct ks _ => Q (.int ks.length) S
    | .str z => z.length ≤ sizeLine ∧ Q (.int z.length) S
    | _ => False
  | _ => False
def rLenD : List V → Hp → VK → Prop := fun xs H Q => ∃ a kvs, xs = [.ref a] ∧ Rd H a (.dK kvs) ∧ Q (.int kvs.length) H
theorem call_lenRd {X : Cx} : CallR X (.builtin "len") rLenD := by
  intro pins s σ H xs us Q I r ⟨a, kvs, e, h, q⟩
  subst e
  have ⟨u, eu, ru⟩ := vals1 r; subst eu
  cases ru
  exact d_len I h fun t s' J => ⟨.int kvs.length, H, J, ⟨t, rfl⟩, q⟩
def rLenA (K : PySem.W.Frag) : List V → Hp → VK → Prop := fun xs H Q => (∃ p ys, xs = [.ref p] ∧ (SqL K H p ys ∨ SqT K H p ys) ∧ Q (.int ys.length) H) ∨ (∃ z, xs = [.str z] ∧ z.length ≤ sizeLine ∧ Q (.int z.length) H) ∨ rLenD xs H Q
theorem call_lenA {X : Cx} : CallR X (.builtin "len") (rLenA X.K) := CallR.or call_len_seq (CallR.or call_len_str call_lenRd)
section
variable {K : PySem.W.Frag}
theorem rels1 {H : Hp} {d : D} {xs : List V} (r : Rels K H [d] xs) : ∃ v, xs = [v] ∧ Rel K H d v := Rels.one r
theorem rels2 {H : Hp} {d e : D} {xs : List V} (r : Rels K H [d, e] xs) : ∃ v u, xs = [v, u] ∧ Rel K H d v ∧ Rel K H e u := by
  obtain ⟨v, r', rfl, h, t⟩ := r
  obtain ⟨u, rfl, h2⟩ := Rels.one t
  exact ⟨v, u, rfl, h, h2⟩
theorem d_len_ : CallD K (rLenA K) gLen := by
  intro xs S H ds Qd Q hS r h l
  unfold gLen at h
  split at h
  · obtain ⟨v, rfl, rv⟩ := rels1 r
    split at h
    · rename_i ys e
      obtain ⟨a, vs, ea, ha, rs⟩ := vw_lst hS rv e
      exact .inl ⟨a, vs, by rw [ea], .inl (.inl ha), by rw [← rs.length]; exact l.fz hS (d := .int _) rfl h⟩
    · rename_i ys e
      obtain ⟨a, vs, ea, ha, rs⟩ := vw_kls hS rv e
      exact .inl ⟨a, vs, by rw [ea], .inl ha, by rw [← rs.length]; exact l.fz hS (d := .int _) rfl h⟩
    · rename_i ys e
      obtain ⟨a, vs, ea, ha, rs⟩ := vw_tup hS rv e
      exact .inl ⟨a, vs, by rw [ea], .inr ha, by rw [← rs.length]; exact l.fz hS (d := .int _) rfl h⟩
    · rename_i ks ys e
      obtain ⟨a, vs, ea, ha, hl, rs⟩ := vw_dct hS rv e
      refine .inr (.inr ⟨a, _, by rw [ea], ha, ?_⟩)
      rw [show (ks.zip vs).length = ks.length by rw [List.length_zip, ← rs.length, hl, Nat.min_self]]
      exact l.fz hS (d := .int _) rfl h
    · rename_i z e
      exact .inr (.inl ⟨z, by rw [vw_str hS rv e], h.1, l.fz hS (d := .int _) rfl h.2⟩)
    · exact h.elim
  · exact h.elim
def gInt : GA := fun ds S Q => match ds with
  | [.int i] => Q (.int i) S
  | [.bl b] => Q (.int (if b then 1 else 0)) S
  | _ => False
theorem d_int : CallD K (fun xs H Q => (∃ i, xs = [.int i] ∧ Q (.int i) H) ∨ ∃ k, xs = [.bl k] ∧ Q (.int (if k then 1 else 0)) H) gInt := by
  intro xs S H ds Qd Q hS r h l
  unfold gInt at h
  split at h
  · obtain ⟨v, rfl, rv⟩ := rels1 r
    have e : v = _ := rv
    subst e
    exact .inl ⟨_, rfl, l.fz hS (d := .int _) rfl h⟩
  · obtain ⟨v, rfl, rv⟩ := rels1 r
    have e : v = _ := rv
    subst e
    exact .inr ⟨_, rfl, l.fz hS (d := .int _) rfl h⟩
  · exact h.elim
def gAbs : GA := fun ds S Q => match ds with
  | [.int i] => Q (.int (if i < 0 then -i else i)) S
  | _ => False
theorem d_abs : CallD K (fun xs H Q => ∃ i, xs = [.int i] ∧ Q (.int (if i < 0 then -i else i)) H) gAbs := by
  intro xs S H ds Qd Q hS r h l
  unfold gAbs at h
  split at h
  · obtain ⟨v, rfl, rv⟩ := rels1 r
    have e : v = _ := rv
    subst e
    exact ⟨_, rfl, l.fz hS (d := .int _) rfl h⟩
  · exact h.elim
/-- min, max of two ints, or of a list of ints -/
def ints? : List D → Option (List Int)
  | [] => some []
  | .int i :: r => (ints? r).map (i :: ·)
  | _ => none
theorem ints_rel {H : Hp} : ∀ {ds : List D} {vs : List V} {ns : List Int}, Rels K H ds vs → ints? ds = some ns → vs = ns.map V.int
  | [], _, _, r, e => by cases e; exact r
  | d :: ds, _, _, ⟨v, r, e1, h, t⟩, e => by
    cases d with
    | int i =>
      obtain ⟨ns, e2, e3⟩ := Option.map_eq_some_iff.mp e
      subst e1 e3
      have ev : v = _ := h
      subst ev
      rw [ints_rel t e2]
      rfl
    | _ => cases e
def gExt (better : Int → Int → Bool) : GA := fun ds S Q => match ds with
  | [.int i, .int j] => Q (.int (if better j i then j else i)) S
  | [d] => match vw d S with
    | .lst xs => match ints? xs with
      | some ns => 0 < ns.length ∧ ∀ m, m ∈ ns → (∀ y, y ∈ ns → better y m = false) → Q (.int m) S
      | none => False
    | _ => False
  | _ => False
def rMaxA (K : PySem.W.Frag) : List V → Hp → VK → Prop := fun xs H Q => (∃ i j, xs = [.int i, .int j] ∧ Q (.int (if j > i then j else i)) H) ∨ rMax K xs H Q
def rMinA (K : PySem.W.Frag) : List V → Hp → VK → Prop := fun xs H Q => (∃ i j, xs = [.int i, .int j] ∧ Q (.int (if j < i then j else i)) H) ∨ rMin K xs H Q
theorem call_maxA {X : Cx} (hc : X.calm = true) : CallR X (.builtin "max") (rMaxA X.K) := CallR.or (call_max2 hc) (cr_max hc)
theorem call_minA {X : Cx} (hc : X.calm = true) : CallR X (.builtin "min") (rMinA X.K) := CallR.or (call_min2 hc) (cr_min hc)
def gMax : GA := gExt fun y m => decide (m < y)
def gMin : GA := gExt fun y m => decide (y < m)
theorem d_max : CallD K (rMaxA K) gMax := by
  intro xs S H ds Qd Q hS r h l
  unfold gMax gExt at h
  split at h
  · rename_i i j
    obtain ⟨v, u, rfl, rv, ru⟩ := rels2 r
    have e : v = _ := rv
    have e2 : u = _ := ru
    subst e e2
    refine .inl ⟨i, j, rfl, l.fz hS (d := .int (if j > i then j else i)) rfl ?_⟩
    by_cases c : i < j
    · rw [if_pos (decide_eq_true c)] at h; rw [if_pos (show j > i from c)]; exact h
    · rw [if_neg (by simpa using c)] at h; rw [if_neg (show ¬ j > i from c)]; exact h
  · obtain ⟨v, rfl, rv⟩ := rels1 r
    split at h
    · rename_i ys e
      obtain ⟨a, vs, ea, ha, rs⟩ := vw_lst hS rv e
      split at h
      · rename_i ns en
        have ev := ints_rel rs en
        subst ev
        exact .inr ⟨a, ns, by rw [ea], .inl ha, h.1, fun m hm hle => l.fz hS (d := .int m) rfl (h.2 m hm fun y hy => decide_eq_false (by have := hle y hy; omega))⟩
      · exact h.elim
    · exact h.elim
  · exact h.elim
theorem d_min : CallD K (rMinA K) gMin := by
  intro xs S H ds Qd Q hS r h l
  unfold gMin gExt at h
  split at h
  · rename_i i j
    obtain ⟨v, u, rfl, rv, ru⟩ := rels2 r
    have e : v = _ := rv
    have e2 : u = _ := ru
    subst e e2
    refine .inl ⟨i, j, rfl, l.fz hS (d := .int (if j < i then j else i)) rfl ?_⟩
    by_cases c : j < i
    · rw [if_pos (decide_eq_true c)] at h; rw [if_pos c]; exact h
    · rw [if_neg (by simpa using c)] at h; rw [if_neg c]; exact h
  · obtain ⟨v, rfl, rv⟩ := rels1 r
    split at h
    · rename_i ys e
      obtain ⟨a, vs, ea, ha, rs⟩ := vw_lst hS rv e
      split at h
      · rename_i ns en
        have ev := ints_rel rs en
        subst ev
        exact .inr ⟨a, ns, by rw [ea], .inl ha, h.1, fun m hm hle => l.fz hS (d := .int m) rfl (h.2 m hm fun y hy => decide_eq_false (by have := hle y hy; omega))⟩
      · exact h.elim
    · exact h.elim
  · exact h.elim
/-! any, all of a list of bools -/
def bls? : List D → Option (List Bool)
  | [] => some []
  | .bl i :: r => (bls? r).map (i :: ·)
  | _ => none
theorem bls_rel {H : Hp} : ∀ {ds : List D} {vs : List V} {ns : List Bool}, Rels K H ds vs → bls? ds = some ns → vs = ns.map V.bl
  | [], _, _, r, e => by cases e; exact r
  | d :: ds, _, _, ⟨v, r, e1, h, t⟩, e => by
    cases d with
    | bl i =>
      obtain ⟨ns, e2, e3⟩ := Option.map_eq_some_iff.mp e
      subst e1 e3
      have ev : v = _ := h
      subst ev
      rw [bls_rel t e2]
      rfl
    | _ => cases e
def gBls (f : List Bool → Bool) : GA := fun ds S Q => match ds with
  | [d] => match vw d S with
    | .lst xs => match bls? xs with
      | some bs => Q (.bl (f bs)) S
      | none => False
    | _ => False
  | _ => False
def gAny : GA := gBls fun bs => bs.any id
def gAll : GA := gBls fun bs => bs.all id
theorem d_any : CallD K (rAny K) gAny := by
  intro xs S H ds Qd Q hS r h l
  unfold gAny gBls at h
  split at h
  · obtain ⟨v, rfl, rv⟩ := rels1 r
    split at h
    · rename_i ys e
      obtain ⟨a, vs, ea, ha, rs⟩ := vw_lst hS rv e
      split at h
      · rename_i ns en
        have ev := bls_rel rs en
        subst ev
        exact ⟨a, ns, by rw [ea], .inl ha, l.fz hS (d := .bl _) rfl h⟩
      · exact h.elim
    · exact h.elim
  · exact h.elim
theorem d_all : CallD K (rAll K) gAll := by
  intro xs S H ds Qd Q hS r h l
  unfold gAll gBls at h
  split at h
  · obtain ⟨v, rfl, rv⟩ := rels1 r
    split at h
    · rename_i ys e
      obtain ⟨a, vs, ea, ha, rs⟩ := vw_lst hS rv e
      split at h
      · rename_i ns en
        have ev := bls_rel rs en
        subst ev
        exact ⟨a, ns, by rw [ea], .inl ha, l.fz hS (d := .bl _) rfl h⟩
      · exact h.elim
    · exact h.elim
  · exact h.elim
/-! list(x), tuple(x) -/
def seqW (d : D) : Option (List D) := match d with
  | .lst xs => some xs
  | .kls xs => some xs
  | .tup xs => some xs
  | _ => none
theorem seqW_rel {S : Store} {H : Hp} {d : D} {v : V} {xs : List D} (hS : SRel K S H) (r : Rel K H d v) (e : seqW (vw d S) = some xs) : ∃ a vs, v = .ref a ∧ (SqL K H a vs ∨ SqT K H a vs) ∧ Rels K H xs vs := by
  unfold seqW at e
  split at e
  · rename_i ys ey
    cases e
    obtain ⟨a, vs, ea, ha, rs⟩ := vw_lst hS r ey
    exact ⟨a, vs, ea, .inl (.inl ha), rs⟩
  · rename_i ys ey
    cases e
    obtain ⟨a, vs, ea, ha, rs⟩ := vw_kls hS r ey
    exact ⟨a, vs, ea, .inl ha, rs⟩
  · rename_i ys ey
    cases e
    obtain ⟨a, vs, ea, ha, rs⟩ := vw_tup hS r ey
    exact ⟨a, vs, ea, .inr ha, rs⟩
  · cases e
def gList (mk : MkT) : GA := fun ds S Q => match ds with
  | [d] => match seqW (vw d S) with
    | some xs => mk xs S Q
    | none => False
  | _ => False
def rListA (K : PySem.W.Frag) : List V → Hp → VK → Prop := fun xs H Q => ∃ p ys, xs = [.ref p] ∧ (SqL K H p ys ∨ SqT K H p ys) ∧ ∀ l, H l = none → Q (.ref l) (upd H l (.lst ys))
theorem d_list {mk : MkT} (hm : MkOk K mk) : CallD K (rListA K) (gList mk) := by
  intro xs S H ds Qd Q hS r h l
  unfold gList at h
  split at h
  · obtain ⟨v, rfl, rv⟩ := rels1 r
    split at h
    · rename_i ys e
      obtain ⟨a, vs, ea, ha, rs⟩ := seqW_rel hS rv e
      exact ⟨a, vs, by rw [ea], ha, fun p hp => hm _ _ _ _ _ _ _ hS hp rs h l⟩
    · exact h.elim
  · exact h.elim
def gTuple : GA := fun ds S Q => match ds with
  | [d] => match seqW (vw d S) with
    | some xs => Q (.tup xs) S
    | none => False
  | _ => False
def rTupleA (K : PySem.W.Frag) : List V → Hp → VK → Prop := fun xs H Q => ∃ p ys, xs = [.ref p] ∧ ((SqL K H p ys ∧ ∀ l, H l = none → Q (.ref l) (upd H l (.tup ys))) ∨ (SqT K H p ys ∧ Q (.ref p) H))
theorem d_tuple : CallD K (rTupleA K) gTuple := by
  intro xs S H ds Qd Q hS r h l
  unfold gTuple at h
  split at h
  · obtain ⟨v, rfl, rv⟩ := rels1 r
    split at h
    · rename_i ys e
      obtain ⟨a, vs, ea, ha, rs⟩ := seqW_rel hS rv e
      refine ⟨a, vs, by rw [ea], ?_⟩
      rcases ha with ha | ha
      · exact .inl ⟨ha, fun p hp => .inl (new_tup hS hp rs h l)⟩
      · exact .inr ⟨ha, l.fz hS (d := .tup ys) ⟨a, vs, rfl, ha, rs⟩ h⟩
    · exact h.elim
  · exact h.elim
end
theorem call_listA {X : Cx} : CallR X (.type "list") (rListA X.K) := call_list_of
theorem call_tupleA {X : Cx} : CallR X (.type "tuple") (rTupleA X.K) := call_tuple_of

/-! ### isinstance -/
/-- the class of a value -/
def tyD (d : D) : Option Value := match d with
  | .non => some (.type "NoneType")
  | .bl _ => some (.type "bool")
  | .int _ => some (.type "int")
  | .str _ => some (.type "str")
  | .tup _ => some (.type "tuple")
  | .lst _ => some (.type "list")
  | .dct _ _ => some (.type "dict")
  | _ => none
def clsD : D → Option Value
  | .ty n => some (.type n)
  | .ref C => some (.ref C)
  | _ => none
theorem tyD_rel {K : PySem.W.Frag} {S : Store} {H : Hp} {d : D} {v : V} {t : Value} (hS : SRel K S H) (r : Rel K H d v) (h : tyD (vw d S) = some t) : TyX K H v t := by
  unfold tyD at h
  split at h
  · rename_i e; cases h; rw [vw_non hS r e]; exact .base .non
  · rename_i b e; cases h; rw [vw_bl hS r e]; exact .base (.bl b)
  · rename_i i e; cases h; rw [vw_int hS r e]; exact .base (.int i)
  · rename_i x e; cases h; rw [vw_str hS r e]; exact .base (.str x)
  · rename_i xs e
    cases h
    obtain ⟨a, vs, ea, ha, rs⟩ := vw_tup hS r e
    subst ea
    rcases ha with (ha | ⟨o, ha⟩) | ⟨o, its, n, hk, hc, _⟩
    · exact .base (.tup ha)
    · exact .fTuple ha
    · exact .kTuple hk hc
  · rename_i xs e
    cases h
    obtain ⟨a, vs, ea, ha, rs⟩ := vw_lst hS r e
    subst ea
    rcases ha with ha | ⟨o, ha⟩
    · exact .base (.lst ha)
    · exact .base (.frz ha)
  · rename_i ks xs e
    cases h
    obtain ⟨a, vs, ea, ha, hl, rs⟩ := vw_dct hS r e
    subst ea
    rcases ha with ha | ⟨o, ha⟩
    · exact .base (.dK ha)
    · exact .fDict ha
  · cases h
/-- isinstance's answer among written types; of the classes of the text by the table sub -/
def isiV (sub : Value → Value → Option Bool) (t c : Value) : Option Bool := match t, c with
  | .type a, .type b => kitB a b
  | t, c => sub t c
def isiA (sub : Value → Value → Option Bool) (t : Value) : List Value → Option Bool
  | [] => some false
  | c :: r => match isiV sub t c with
    | some true => some true
    | some false => isiA sub t r
    | none => none
/-- what the table must say -/
def SubOk (K : PySem.W.Frag) (sub : Value → Value → Option Bool) : Prop := ∀ t c b, sub t c = some b → PySem.W.kitOne K t c = some b
theorem isiV_ok {K : PySem.W.Frag} {sub : Value → Value → Option Bool} (hs : SubOk K sub) {t c : Value} {b : Bool} (h : isiV sub t c = some b) : PySem.W.kitOne K t c = some b := by
  unfold isiV at h
  split at h
  · exact kit_ty h
  · exact hs _ _ _ h
theorem isiA_ok {K : PySem.W.Frag} {sub : Value → Value → Option Bool} (hs : SubOk K sub) {t : Value} : ∀ {cs : List Value} {b : Bool}, isiA sub t cs = some b → PySem.W.kitAny K t cs = some b
  | [], _, h => h
  | c :: r, b, h => by
    unfold isiA at h
    unfold PySem.W.kitAny
    split at h
    · rename_i e; rw [isiV_ok hs e]; exact h
    · rename_i e; rw [isiV_ok hs e]; exact isiA_ok hs h
    · cases h
def clss? : List D → Option (List Value)
  | [] => some []
  | d :: r => (clsD d).bind fun c => (clss? r).map (c :: ·)
theorem clsD_rel {K : PySem.W.Frag} {H : Hp} {d : D} {v : V} {c : Value} (r : Rel K H d v) (h : clsD d = some c) : ClsV v c := by
  cases d with
  | ty n => cases h; have e : v = _ := r; subst e; exact .ty n
  | ref C => cases h; have e : v = _ := r; subst e; exact .own C
  | _ => cases h
theorem clss_rel {K : PySem.W.Frag} {H : Hp} : ∀ {ds : List D} {vs : List V} {cs : List Value}, Rels K H ds vs → clss? ds = some cs → Paired ClsV vs cs
  | [], _, _, r, e => by cases e; have z : _ = [] := r; subst z; exact .nil
  | d :: ds, _, _, ⟨v, r, e1, h, t⟩, e => by
    obtain ⟨c, e2, e3⟩ := Option.bind_eq_some_iff.mp e
    obtain ⟨cs, e4, e5⟩ := Option.map_eq_some_iff.mp e3
    subst e1 e5
    exact .cons (clsD_rel h e2) (clss_rel t e4)
/-- an exception that is held: its class -/
def excD : D → Option Addr
  | .exn (.ref C) _ [] _ => some C
  | _ => none
def gIsi (sub : Value → Value → Option Bool) (ex : Addr → Bool) : GA := fun ds S Q => match ds with
  | [x, .tup cs] => match tyD (vw x S), clss? cs with
    | some t, some us => match isiA sub t us with
      | some b => Q (.bl b) S
      | none => False
    | _, _ => False
  | [x, c] => match excD x with
    | some C => match clsD c with
      | some u => ex C = true ∧ match sub (.ref C) u with
        | some b => Q (.bl b) S
        | none => False
      | none => False
    | none => match tyD (vw x S), clsD c with
      | some t, some u => match isiV sub t u with
        | some b => Q (.bl b) S
        | none => False
      | _, _ => False
  | _ => False
/-- of a kept exception -/
def rIsX (K : PySem.W.Frag) : List V → Hp → VK → Prop := fun xs H Q => ∃ (a D : Addr) (c : V) (u : Value) (b : Bool), xs = [.ref a, c] ∧ H a = some (exT (.ref D) none a) ∧ ExcC K D ∧ ClsV c u ∧ PySem.W.kitOne K (.ref D) u = some b ∧ Q (.bl b) H
theorem call_isX {X : Cx} : CallR X (.builtin "isinstance") (rIsX X.K) := by
  intro pins s σ H xs us Q I r ⟨a, D, c, u, b, e, ha, C, k, ek, q⟩
  subst e
  have ⟨u1, u2, eu, r1, r2⟩ := vals2 r; subst eu
  cases r1
  have e2 := k.eq r2
  subst e2
  obtain ⟨⟨oe, vs, h1, h2, h3⟩, _⟩ := I.hok a _ ha
  have J : PySem.W.InstAt s.heap a oe D .none := by
    obtain ⟨ocl, odi, oda, osl⟩ := oe
    obtain ⟨z1, z2⟩ := h2
    dsimp only at z1 z2 h3
    subst z1 z2 h3
    exact ⟨h1, rfl, rfl, trivial⟩
  exact PySem.W.kia_one (PySem.W.handS_kitx_exc C.hg C.hk C.hs C.hd C.ha C.hn C.ht C.hm) I.kIn J ek (fun z => nomatch z) fun tk => ⟨.bl b, H, I.kept (t' := tk) fun _ _ z => z, rfl, q⟩
/-- a tuple of classes, wherever it stands -/
def rIsiS (K : PySem.W.Frag) : List V → Hp → VK → Prop := fun xs H Q => ∃ (x : V) (tp : Addr) (cs : List V) (t : Value) (us : List Value) (b : Bool), xs = [x, .ref tp] ∧ SqT K H tp cs ∧ Paired ClsV cs us ∧ TyX K H x t ∧ PySem.W.kitAny K t us = some b ∧ Q (.bl b) H
theorem call_isiS {X : Cx} : CallR X (.builtin "isinstance") (rIsiS X.K) := by
  intro pins s σ H xs us Q I r ⟨x, tp, cs, t, ws, b, ex, hT, k, ty, e, q⟩
  subst ex
  have ⟨u1, u2, eu, r1, r2⟩ := vals2 r; subst eu
  obtain rfl : u2 = Value.ref tp := r2
  have ⟨P, Z, p, hx⟩ := kit_of I r1 ty
  obtain ⟨its, rv, ⟨⟨oc, od, dt, sl⟩, g1, g2, n, g3⟩, _⟩ := I.tuple hT
  obtain rfl : its = ws := ClsV.all k rv
  dsimp only at g2 g3
  subst g2 g3
  exact PySem.W.kia_tup Z I.kIn p g1 e hx fun tk => ⟨.bl b, H, I.tok tk, rfl, q⟩
def rIsiAll (K : PySem.W.Frag) : List V → Hp → VK → Prop := fun xs H Q => rIsi K xs H Q ∨ rIsiS K xs H Q ∨ rIsX K xs H Q
theorem call_isiA {X : Cx} : CallR X (.builtin "isinstance") (rIsiAll X.K) := CallR.or call_isi (CallR.or call_isiS call_isX)
end MP

set_option Elab.async false
set_option linter.all false
set_option maxRecDepth 100000
set_option maxHeartbeats 2100000
/-! MPMore: isinstance, methods, dict displays, stores, what is walked. -/
namespace MP
open PySem PyProof.Rows PySem.Spec L2

theorem d_isi {K : PySem.W.Frag} {sub : Value → Value → Option Bool} {ex : Addr → Bool} (hs : SubOk K sub) (hx : ∀ C, ex C = true → ExcC K C) : CallD K (rIsiAll K) (gIsi sub ex) := by
  intro xs S H ds Qd Q hS r h l
  unfold gIsi at h
  split at h
  · rename_i x cs
    obtain ⟨v, u, rfl, rv, ru⟩ := rels2 r
    obtain ⟨a, vs, rfl, ha, rs⟩ := ru
    split at h
    · rename_i t us et eu
      split at h
      · rename_i b eb
        exact .inr (.inl ⟨v, a, vs, t, us, b, rfl, ha, clss_rel rs eu, tyD_rel hS rv et, isiA_ok hs eb, l.fz hS (d := .bl b) rfl h⟩)
      · exact h.elim
    · exact h.elim
  · rename_i x c hn
    obtain ⟨v, u, rfl, rv, ru⟩ := rels2 r
    split at h
    · rename_i C eC
      split at h
      · rename_i w ew
        obtain ⟨hC, h⟩ := h
        split at h
        · rename_i b eb
          obtain ⟨a, e1, d, ws, hd, xd⟩ : ∃ a, v = .ref a ∧ ∃ d ws, H a = some (exT (.ref C) d a) ∧ XdAt H [] d ws := by
            unfold excD at eC
            split at eC
            · rename_i C' a' xs'
              cases eC
              obtain ⟨e1, d, ws, hd, xd, _⟩ := rv
              exact ⟨a', e1, d, ws, hd, xd⟩
            · cases eC
          have ed : d = none := by
            rcases xd with z | ⟨dd, _, z, _⟩
            · exact z.2
            · exact absurd rfl z
          subst ed
          exact .inr (.inr ⟨a, C, u, w, b, by rw [e1], hd, hx C hC, clsD_rel ru ew, hs _ _ _ eb, l.fz hS (d := .bl b) rfl h⟩)
        · exact h.elim
      · exact h.elim
    · split at h
      · rename_i t w et ew
        split at h
        · rename_i b eb
          exact .inl ⟨v, u, t, w, b, rfl, clsD_rel ru ew, tyD_rel hS rv et, isiV_ok hs eb, l.fz hS (d := .bl b) rfl h⟩
        · exact h.elim
      · exact h.elim
  · exact h.elim

/-! ### methods of lists and dicts of the store -/
abbrev GM := D → List D → Store → Post → Prop
def MtD (K : PySem.W.Frag) (r : V → List V → Hp → VK → Prop) (g : GM) : Prop := ∀ x xs S H d ds Qd Q, SRel K S H → Rel K H d x → Rels K H ds xs → g d ds S Qd → LQ K S H Qd Q → r x xs H (FzQ Q)
def mty : D → Option String
  | .str _ => some "str"
  | .int _ => some "int"
  | .lst _ => some "list"
  | .kls _ => some "list"
  | _ => none
theorem mty_rel {K : PySem.W.Frag} {S : Store} {H : Hp} {d : D} {v : V} {T : String} (hS : SRel K S H) (r : Rel K H d v) (h : mty (vw d S) = some T) : tyV K T v H := by
  unfold mty at h
  split at h
  · cases h; rename_i b e; rw [vw_str hS r e]; rfl
  · cases h; rename_i b e; rw [vw_int hS r e]; rfl
  · cases h
    rename_i xs e
    obtain ⟨a, vs, ea, ha, rs⟩ := vw_lst hS r e
    subst ea
    exact .inl ⟨rfl, vs, .inl ha⟩
  · cases h
    rename_i xs e
    obtain ⟨a, vs, ea, ha, rs⟩ := vw_kls hS r e
    subst ea
    exact .inl ⟨rfl, vs, ha⟩
  · cases h
/-- o.m(..) of a built-in type T -/
def evM (T : String) (g : GM) (f : ET) (fa : EA) : ET := fun ρ S Q E => f ρ S (fun d S1 => mty (vw d S1) = some T ∧ fa ρ S1 (fun ds S2 => g d ds S2 Q) E) E
def evM0 (T : String) (g : GM) (f : ET) : ET := fun ρ S Q E => f ρ S (fun d S1 => mty (vw d S1) = some T ∧ g d [] S1 Q) E
section
variable {X : Cx} {W : WX} {o e : Expr} {es : List Expr} {f : ET} {fa : EA} {n : Nat} {name : Str} {apos cpos : Pos} {T id : String} {r : V → List V → Hp → VK → Prop} {g : GM}
theorem e_bm0 (pa : PlainAttrs T) (slot : Slot T name id) (hty : typeOf (.builtin id) = pure (.type "method_descriptor")) (hm : MtR X id r) (hg : MtD X.K r g) (ho : PE X o (rdE X.K W f))
    (hBase : attributeBase o name X.env (eval o X.env) = eval o X.env := by rfl) (hLine : (apos.endLine == cpos.line) = true := by rfl) : PE X (.Call (.Attribute o name apos) [] [] cpos) (rdE X.K W (evM0 T g f)) :=
  PE_imp (pe_fz (pe_bm0 pa slot hty hm ho hBase hLine)) fun σ H Q ⟨ρ, S, Qd, Ed, hρ, hS, hf, lq, lx⟩ =>
    ⟨ρ, S, _, Ed, hρ, hS, hf, fun d S1 v H1 e1 r1 q1 h1 => ⟨mty_rel r1 q1 h1.1, hg v [] S1 H1 d [] _ Q r1 q1 rfl h1.2 (lq.mono e1)⟩, lx⟩
theorem e_bm (pa : PlainAttrs T) (slot : Slot T name id) (hty : typeOf (.builtin id) = pure (.type "method_descriptor")) (hm : MtR X id r) (hg : MtD X.K r g) (ho : PE X o (rdE X.K W f)) (ha : PA X (e :: es) (rdA X.K W n fa))
    (hBase : attributeBase o name X.env (eval o X.env) = eval o X.env := by rfl)
    (hFew : ((backTo cpos (starEach (e :: es) X.env)).all (fun x => !x.1) && (backToKw cpos (keywordEach [] X.env)).all (fun x => x.1.isSome) && decide ((e :: es).length + ([] : List Keyword).length + (if ([] : List Keyword).isEmpty then 0 else 1) < 30)) = true := by rfl)
    (hLine : (apos.endLine == cpos.line) = true := by rfl) (hs : starEach (e :: es) X.env = (false, eval e X.env) :: starEach es X.env := by rfl) (hplain : (backTo cpos (starEach es X.env)).any (·.1) = false := by rfl) :
    PE X (.Call (.Attribute o name apos) (e :: es) [] cpos) (rdE X.K W (evM T g f fa)) :=
  PE_imp (pe_fz (pe_bm pa slot hty hm ho ha hBase hFew hLine hs hplain)) fun σ H Q ⟨ρ, S, Qd, Ed, hρ, hS, hf, lq, lx⟩ =>
    ⟨ρ, S, _, Ed, hρ, hS, hf, fun d S1 v H1 e1 r1 q1 h1 => ⟨mty_rel r1 q1 h1.1, ρ, S1, _, Ed, hρ.imm (e1.imm hS), r1, h1.2, fun ds S2 vs H2 e2 r2 q2 hl h2 => hg _ _ _ _ _ _ _ _ r2 (Rel.imm (e2.imm r1) _ _ q1) q2 h2 ((lq.mono e1).mono e2), lx.mono e1⟩, lx⟩
end
/-- the store's list at a receiver -/
def onL (x : D) (S : Store) (k : Addr → List D → Prop) : Prop := match x with
  | .ref a => match S a with
    | some (.lst xs) => k a xs
    | _ => False
  | _ => False
theorem onL_rel {K : PySem.W.Frag} {S : Store} {H : Hp} {d : D} {v : V} {k : Addr → List D → Prop} (hS : SRel K S H) (r : Rel K H d v) (h : onL d S k) : ∃ a ds xs, v = .ref a ∧ S a = some (.lst ds) ∧ H a = some (.lst xs) ∧ Rels K H ds xs ∧ k a ds := by
  unfold onL at h
  split at h
  · rename_i a
    split at h
    · rename_i ds e
      obtain ⟨xs, hx, rs⟩ := hS a _ e
      exact ⟨a, ds, xs, r, e, hx, rs, h⟩
    · exact h.elim
  · exact h.elim
theorem lset {K : PySem.W.Frag} {S : Store} {H : Hp} {a : Addr} {ds ds' : List D} {xs' : List V} {Qd : Post} {Q : VK} {d : D} {v : V} (hS : SRel K S H) (e : S a = some (.lst ds)) (rs : Imm H (upd H a (.lst xs')) → Rels K (upd H a (.lst xs')) ds' xs')
    (rv : Imm H (upd H a (.lst xs')) → Rel K (upd H a (.lst xs')) d v) (l : LQ K S H Qd Q) (q : Qd d (S.set a (.lst ds'))) : FzQ Q v (upd H a (.lst xs')) := by
  obtain ⟨o', e', m⟩ := (hS a _ e).mut
  have i : Imm H (upd H a (.lst xs')) := upd_immS e' m
  exact .inl (l d (S.set a (.lst ds')) v _ (evo_setS e) (hS.setS (u := .lst ds') e fun _ => ⟨xs', upd_same, rs i⟩) (rv i) q)
def mAppend : GM := fun x ds S Q => match ds with
  | [y] => onL x S fun a xs => xs.length < sizeLine ∧ Q .non (S.set a (.lst (xs ++ [y])))
  | _ => False
def mPopAt : GM := fun x ds S Q => match ds with
  | [.int i] => onL x S fun a xs => -(2 ^ 63) ≤ i ∧ i < 2 ^ 63 ∧ match seqIndex? i xs.length with
    | some k => match xs[k]? with
      | some y => Q y (S.set a (.lst (xs.eraseIdx k)))
      | none => False
    | none => False
  | _ => False
def mPop : GM := fun x ds S Q => match ds with
  | [] => onL x S fun a xs => match xs[xs.length - 1]? with
    | some y => Q y (S.set a (.lst xs.dropLast))
    | none => False
  | _ => False
def mInsert : GM := fun x ds S Q => match ds with
  | [.int i, y] => onL x S fun a xs => xs.length < sizeLine ∧ 0 ≤ i ∧ i < 2 ^ 63 ∧ Q .non (S.set a (.lst (xs.take i.toNat ++ [y] ++ xs.drop i.toNat)))
  | _ => False
section
variable {K : PySem.W.Frag}
theorem m_append : MtD K rAppend mAppend := by
  intro x xs S H d ds Qd Q hS rx rs h l
  unfold mAppend at h
  split at h
  · obtain ⟨v, rfl, rv⟩ := rels1 rs
    obtain ⟨a, es, ys, ea, eS, hH, re, hz, q⟩ := onL_rel hS rx h
    exact ⟨a, ys, v, ea, rfl, hH, by rw [← re.length]; exact hz, lset hS eS (fun i => Rels.append (Rels.imm i _ _ re) (Rels.mk1 (Rel.imm i _ _ rv))) (d := .non) (fun _ => rfl) l q⟩
  · exact h.elim
theorem m_popAt : MtD K rPopAt mPopAt := by
  intro x xs S H d ds Qd Q hS rx rs h l
  unfold mPopAt at h
  split at h
  · rename_i i
    obtain ⟨v, rfl, rv⟩ := rels1 rs
    have ev : v = _ := rv
    subst ev
    obtain ⟨a, es, ys, ea, eS, hH, re, h1, h2, q⟩ := onL_rel hS rx h
    rw [re.length] at q
    split at q
    · rename_i k ek
      split at q
      · rename_i y ey
        obtain ⟨u, eu, ru⟩ := re.get ey
        exact ⟨a, ys, i, k, u, ea, rfl, hH, h1, h2, ek, eu, lset hS eS (fun i => Rels.eraseIdx k (Rels.imm i _ _ re)) (fun i => Rel.imm i _ _ ru) l q⟩
      · exact q.elim
    · exact q.elim
  · exact h.elim
theorem Rels.dropLast {H : Hp} {ds : List D} {vs : List V} (r : Rels K H ds vs) : Rels K H ds.dropLast vs.dropLast := by
  rw [List.dropLast_eq_take, List.dropLast_eq_take, r.length]
  exact Rels.take _ r
theorem m_pop : MtD K rPop mPop := by
  intro x xs S H d ds Qd Q hS rx rs h l
  unfold mPop at h
  split at h
  · have e0 : xs = [] := rs
    subst e0
    obtain ⟨a, es, ys, ea, eS, hH, re, q⟩ := onL_rel hS rx h
    rw [re.length] at q
    split at q
    · rename_i y ey
      obtain ⟨u, eu, ru⟩ := re.get ey
      exact ⟨a, ys, u, ea, rfl, hH, eu, lset hS eS (fun i => (Rels.imm i _ _ re).dropLast) (fun i => Rel.imm i _ _ ru) l q⟩
    · exact q.elim
  · exact h.elim
def rInsert : V → List V → Hp → VK → Prop := fun x vs H Q => ∃ (l : Addr) (xs : List V) (i : Int) (y : V), x = .ref l ∧ vs = [.int i, y] ∧ H l = some (.lst xs) ∧ xs.length < sizeLine ∧ 0 ≤ i ∧ i < 2 ^ 63 ∧
  Q .non (upd H l (.lst (xs.take i.toNat ++ [y] ++ xs.drop i.toNat)))
theorem m_insert : MtD K rInsert mInsert := by
  intro x xs S H d ds Qd Q hS rx rs h l
  unfold mInsert at h
  split at h
  · obtain ⟨v, u, rfl, rv, ru⟩ := rels2 rs
    have ev : v = _ := rv
    subst ev
    obtain ⟨a, es, ys, ea, eS, hH, re, hz, h0, h1, q⟩ := onL_rel hS rx h
    exact ⟨a, ys, _, u, ea, rfl, hH, by rw [← re.length]; exact hz, h0, h1, lset hS eS (fun i => Rels.append (Rels.append (Rels.take _ (Rels.imm i _ _ re)) (Rels.mk1 (Rel.imm i _ _ ru))) (Rels.drop _ (Rels.imm i _ _ re))) (d := .non) (fun _ => rfl) l q⟩
  · exact h.elim
end

/-! ### displays of dicts with written keys -/
/-- the values of a display, from the left -/
structure DP (X : Cx) (pos : Pos) (keys : List (Option Expr)) (values : List Expr) (W : WX) (ks : List Key) (fa : EA) : Prop where
  ex : ∃ trs, PPs X pos keys values trs ∧ ∀ σ H Q, rdA X.K W ks.length fa σ H (fun vs H' => vs.length = ks.length → Q ((ks.map kV).zip vs) H') → tPairs trs σ H Q
section
variable {X : Cx} {W : WX} {pos : Pos} {keys : List (Option Expr)} {values : List Expr} {ks : List Key} {fa : EA} {k v : Expr} {f : ET}
theorem dp_nil : DP X pos [] [] W [] aNil := ⟨[], pps_nil, fun σ H Q ⟨ρ, S, Qd, Ed, hρ, hS, hf, lq, _⟩ => lq [] S [] H (Evo.refl _ _) hS rfl rfl hf rfl⟩
theorem dp_cons (j : Key) (hk : PE X k (tC (kV j))) (hv : PE X v (rdE X.K W f)) (hr : DP X pos keys values W ks fa) : DP X pos (some k :: keys) (v :: values) W (j :: ks) (aCons f fa) := by
  obtain ⟨trs, h1, h2⟩ := hr.ex
  refine ⟨_, pps_cons hk hv h1, fun σ H Q ⟨ρ, S, Qd, Ed, hρ, hS, hf, lq, lx⟩ => ?_⟩
  refine ⟨ρ, S, _, Ed, hρ, hS, hf, fun d S1 w H1 e1 r1 q1 g1 => ?_, lx⟩
  refine h2 σ H1 _ ⟨ρ, S1, _, Ed, hρ.imm (e1.imm hS), r1, g1, fun ds S2 vs H2 e2 r2 q2 hl g2 hn => ?_, lx.mono e1⟩
  exact lq (d :: ds) S2 (w :: vs) H2 (e1.trans e2) r2 ⟨w, vs, rfl, Rel.imm (e2.imm r1) _ _ q1, q2⟩ (by simp [hl]) g2 (by simp [hn])
end
theorem unhide {K : PySem.W.Frag} {S : Store} {H : Hp} {p : Addr} {o : HO} (r : SRel K S H) (n : S p = none) (e : H p = some o) (m : mutb o = true) : Imm H (delH' H p) ∧ SRel K S (delH' H p) := by
  have i : Imm H (delH' H p) := fun b u q mq => by
    have hb : b ≠ p := fun z => by subst z; rw [e] at q; cases q; rw [m] at mq; cases mq
    exact (if_neg hb : delH' H p b = H b).trans q
  exact ⟨i, fun b u q => by
    have hb : b ≠ p := fun z => by subst z; rw [n] at q; cases q
    exact (r b u q).imm i fun w q => (if_neg hb : delH' H p b = H b).trans q⟩
theorem evo_unhide {S0 S : Store} {H0 H : Hp} {p : Addr} (e : Evo S0 H0 S H) (h0 : H0 p = none) : Evo S0 H0 S (delH' H p) := ⟨fun b o q n => by
  have hb : b ≠ p := fun z => by subst z; rw [h0] at q; cases q
  exact (if_neg hb : delH' H p b = H b).trans (e.keep b o q n), e.new⟩
theorem evo_from {S0 S : Store} {H0 H : Hp} {p : Addr} {o : HO} (h0 : H0 p = none) (e : Evo S0 (upd H0 p o) S H) : Evo S0 H0 S H := ⟨fun b u q n => e.keep b u (by rw [upd_ne (ne_of_none q h0)]; exact q) n, fun b n n2 => by
  have z := e.new b n n2
  by_cases hb : b = p
  · rw [hb]; exact h0
  · rw [upd_ne hb] at z; exact z⟩
theorem mergeK_new : ∀ (more kvs : List (Key × V)), ((kvs ++ more).map (·.1)).Nodup → mergeK kvs more = kvs ++ more
  | [], kvs, _ => by rw [List.append_nil]; rfl
  | p :: r, kvs, h => by
    have hn : valV kvs p.1 = none := by
      cases e : valV kvs p.1 with
      | none => rfl
      | some v =>
        have hs : (valV kvs p.1).isSome = true := by rw [e]; rfl
        rw [← valV_any, List.any_eq_true] at hs
        obtain ⟨q, hq, eq⟩ := hs
        have eq' := of_decide_eq_true eq
        rw [List.map_append, List.nodup_append] at h
        exact absurd eq' (h.2.2 q.1 (List.mem_map_of_mem hq) p.1 (by simp))
    show mergeK (putK kvs p.1 p.2) r = kvs ++ p :: r
    rw [putK_new p.2 hn, mergeK_new r (kvs ++ [(p.1, p.2)]) (by simpa using h)]
    simp
theorem map_zip_key : ∀ (ks : List Key) (vs : List V), (ks.map kV).zip vs = (ks.zip vs).map fun kv => (kV kv.1, kv.2)
  | [], _ => rfl
  | _ :: _, [] => rfl
  | k :: ks, v :: vs => by
    show (kV k, v) :: (ks.map kV).zip vs = (kV k, v) :: (ks.zip vs).map _
    rw [map_zip_key ks vs]
def evDisp (mk : MkDT) (ks : List Key) (fa : EA) : ET := fun ρ S Q E => fa ρ S (fun ds S1 => mk ks ds S1 Q) E
section
variable {X : Cx} {W : WX} {pos : Pos} {keys : List (Option Expr)} {values : List Expr} {ks : List Key} {fa : EA} {mk : MkDT}
theorem e_disp (hm : MkDOk X.K mk) (h : DP X pos keys values W ks fa) (nd : ks.Nodup) (hall : keys.all (·.isSome) = true := by rfl) (hl : keys.length = values.length := by rfl) (h0 : keys ≠ [] := by exact fun z => by cases z) (h15 : keys.length ≤ 15 := by decide) (h15' : ks.length ≤ 15 := by decide) : PE X (.Dict keys values pos) (rdE X.K W (evDisp mk ks fa)) := by
  obtain ⟨trs, h1, h2⟩ := h.ex
  refine PE_imp (pe_fz (pe_disp h1 hall hl h0 h15)) fun σ H Q ⟨ρ, S, Qd, Ed, hρ, hS, hf, lq, lx⟩ => ?_
  intro p hp
  have rS : SRel X.K S (upd H p (.dK [])) := hS.upd_new hp
  have Sp : S p = none := hS.free hp
  refine h2 σ _ _ ⟨ρ, S, _, Ed, hρ.imm (upd_imm hp), rS, hf, fun ds S1 vs H1 e1 r1 q1 hl1 g1 hn => ?_, lx.mono (evo_new hp)⟩
  have hp1 : H1 p = some (.dK []) := e1.keep p _ upd_same Sp
  have Sp1 : S1 p = none := by
    cases q : S1 p with
    | none => rfl
    | some u => have z := e1.new p Sp (by rw [q]; exact fun z => nomatch z); rw [upd_same] at z; cases z
  refine ⟨hp1, ks.zip vs, ?_, ?_, ?_⟩
  · exact map_zip_key ks vs
  · rw [List.length_zip]; exact Nat.le_trans (Nat.min_le_left _ _) h15'
  · have hm1 : mergeK [] (ks.zip vs) = ks.zip vs := by
      rw [mergeK_new _ _ (by rw [List.nil_append, List.map_fst_zip (by omega)]; exact nd)]
      rfl
    rw [hm1]
    obtain ⟨i, r2⟩ := unhide r1 Sp1 hp1 rfl
    have fin := hm S1 (delH' H1 p) ks ds vs p Qd Q r2 (if_pos rfl) (by rw [hl1]) (Rels.imm i _ _ q1) g1 (lq.mono (evo_unhide (evo_from hp e1) hp))
    rw [show upd (delH' H1 p) p (.dK (ks.zip vs)) = upd H1 p (.dK (ks.zip vs)) from by
      rw [← delH'_upd (o := .dK []) hp1, upd_upd, delH'_upd hp1]] at fin
    exact fin
end
/-- a new empty dict -/
def evDict0 (mk : MkDT) : ET := fun _ S Q _ => mk [] [] S Q
section
variable {X : Cx} {W : WX} {pos : Pos} {mk : MkDT}
theorem e_dict0 (hm : MkDOk X.K mk) : PE X (.Dict [] [] pos) (rdE X.K W (evDict0 mk)) :=
  PE_imp (pe_fz pe_dnewK) fun _ H _ ⟨_, S, Qd, _, _, hS, hf, lq, _⟩ p hp => hm S H [] [] [] p Qd _ hS hp rfl rfl hf lq
end
end MP

set_option Elab.async false
set_option linter.all false
set_option maxRecDepth 100000
set_option maxHeartbeats 2100000
/-! MPWalk: stores to an item; what is walked: lists, tuples, texts, ranges. -/
namespace MP
open PySem PyProof.Rows PySem.Spec L2

/-! ### o[i] = v -/
def hasK (ks : List Key) (k : Key) : Bool := ks.any fun j => decide (j = k)
def putKs (ks : List Key) (k : Key) : List Key := if hasK ks k = true then ks else ks ++ [k]
def putVs {α : Type} (ks : List Key) (xs : List α) (k : Key) (v : α) : List α := if hasK ks k = true then ks.zipWith (fun j x => if j = k then v else x) xs else xs ++ [v]
theorem zip_any (k : Key) : ∀ (ks : List Key) (xs : List V), ks.length = xs.length → ((ks.zip xs).any fun kv => decide (kv.1 = k)) = hasK ks k
  | [], _, _ => rfl
  | _ :: _, [], h => by cases h
  | j :: ks, x :: xs, h => by
    show (decide (j = k) || (ks.zip xs).any _) = (decide (j = k) || hasK ks k)
    rw [zip_any k ks xs (by simpa using h)]
theorem zip_map (k : Key) (v : V) : ∀ (ks : List Key) (xs : List V), ((ks.zip xs).map fun kv => if kv.1 = k then (kv.1, v) else kv) = ks.zip (ks.zipWith (fun j x => if j = k then v else x) xs)
  | [], _ => rfl
  | _ :: _, [] => rfl
  | j :: ks, x :: xs => by
    rw [List.zip_cons_cons, List.map_cons, List.zipWith_cons_cons, List.zip_cons_cons, zip_map k v ks xs]
    by_cases e : j = k
    · rw [if_pos e, if_pos e]
    · rw [if_neg e, if_neg e]
theorem put_zip {ks : List Key} {xs : List V} (k : Key) (v : V) (h : ks.length = xs.length) : putK (ks.zip xs) k v = (putKs ks k).zip (putVs ks xs k v) := by
  unfold putK putKs putVs
  rw [zip_any k ks xs h]
  by_cases c : hasK ks k = true
  · rw [if_pos c, if_pos c, if_pos c, zip_map]
  · rw [if_neg c, if_neg c, if_neg c, List.zip_append h]
    rfl
theorem put_len {α : Type} {ks : List Key} {xs : List α} (k : Key) (v : α) (h : ks.length = xs.length) : (putKs ks k).length = (putVs ks xs k v).length := by
  unfold putKs putVs
  split
  · rw [List.length_zipWith, h, Nat.min_self]
  · rw [List.length_append, List.length_append, h]; rfl
theorem put_rel {K : PySem.W.Frag} {H : Hp} {k : Key} {d : D} {v : V} (rv : Rel K H d v) {ks : List Key} {ds : List D} {vs : List V} (r : Rels K H ds vs) : Rels K H (putVs ks ds k d) (putVs ks vs k v) := by
  unfold putVs
  split
  · have go : ∀ (ks : List Key) (ds : List D) (vs : List V), Rels K H ds vs → Rels K H (ks.zipWith (fun j x => if j = k then d else x) ds) (ks.zipWith (fun j x => if j = k then v else x) vs) := by
      intro ks
      induction ks with
      | nil => intro ds vs _; rfl
      | cons j ks ih =>
        intro ds vs r
        cases ds with
        | nil => have e : vs = [] := r; subst e; rfl
        | cons x ds =>
          obtain ⟨u, us, rfl, h, t⟩ := r
          refine ⟨if j = k then v else u, _, rfl, ?_, ih ds us t⟩
          show Rel K H (if j = k then d else x) (if j = k then v else u)
          by_cases e : j = k
          · rw [if_pos e, if_pos e]; exact rv
          · rw [if_neg e, if_neg e]; exact h
    exact go ks ds vs r
  · exact Rels.append r (Rels.mk1 rv)
def rSetA : TSet := fun o i v H Q => rSetL o i v H Q ∨ rSetD o i v H Q
theorem set_all {X : Cx} (hu : X.A.units + 1 < cLine) : PSet X rSetA := fun pins s σ H o i v ov iv u Q I ro ri rv h =>
  h.elim (set_list pins s σ H o i v ov iv u Q I ro ri rv) (set_dict hu pins s σ H o i v ov iv u Q I ro ri rv)
def setD (x y d : D) (S : Store) (Q : Store → Prop) : Prop := match x with
  | .ref a => match S a with
    | some (.lst xs) => match y with
      | .int i => match ixN xs.length i with
        | some j => Q (S.set a (.lst (xs.set j d)))
        | none => False
      | _ => False
    | some (.dct ks ds) => match keyD y with
      | some k => ks.length < sizeLine ∧ Q (S.set a (.dct (putKs ks k) (putVs ks ds k d)))
      | none => False
    | _ => False
  | _ => False
theorem setD_rd {K : PySem.W.Frag} {S : Store} {H : Hp} {x y d : D} {o i v : V} {Qd : Store → Prop} {Q : Hp → Prop} (hS : SRel K S H) (rx : Rel K H x o) (ry : Rel K H y i) (rd : Rel K H d v) (h : setD x y d S Qd)
    (l : ∀ S' H', Evo S H S' H' → SRel K S' H' → Qd S' → Q H') : rSetA o i v H Q := by
  unfold setD at h
  split at h
  · rename_i a
    split at h
    · rename_i xs e
      obtain ⟨ys, hx, rs⟩ := hS a _ e
      split at h
      · rename_i j
        split at h
        · rename_i n en
          refine .inl ⟨a, ys, j, n, rx, ry, hx, by rw [← rs.length]; exact en, ?_⟩
          obtain ⟨o', e', m⟩ := (hS a _ e).mut
          have im : Imm H (upd H a (.lst (ys.set n v))) := upd_immS e' m
          exact l _ _ (evo_setS e) (hS.setS (u := .lst (xs.set n d)) e fun _ => ⟨_, upd_same, Rels.set (Rel.imm im _ _ rd) n (Rels.imm im _ _ rs)⟩) h
        · exact h.elim
      · exact h.elim
    · rename_i ks ds e
      obtain ⟨ys, hx, hl, rs⟩ := hS a _ e
      have hl' : ks.length = ys.length := by rw [hl, rs.length]
      split at h
      · rename_i k ek
        have ei := keyD_rel ry ek
        refine .inr ⟨a, _, rx, .inl ⟨_, k, hx, ei, by rw [List.length_zip, ← hl', Nat.min_self]; exact h.1, rfl⟩, ?_⟩
        rw [put_zip k v hl']
        obtain ⟨o', e', m⟩ := (hS a _ e).mut
        have im : Imm H (upd H a (.dK ((putKs ks k).zip (putVs ks ys k v)))) := upd_immS e' m
        exact l _ _ (evo_setS e) (hS.setS (u := .dct (putKs ks k) (putVs ks ds k d)) e fun _ => ⟨_, upd_same, put_len k d hl, put_rel (Rel.imm im _ _ rd) (Rels.imm im _ _ rs)⟩) h.2
      · exact h.elim
    · exact h.elim
  · exact h.elim
def dgSub (fo fi : ET) : DG := fun d ρ S Q => fo ρ S (fun x S1 => fi ρ S1 (fun y S2 => setD x y d S2 (fun S3 => Q ρ S3)) (fun _ _ => False)) (fun _ _ => False)
section
variable {X : Cx} {W : WX} {o i : Expr} {fo fi : ET} {pos : Pos}
theorem g_sub (hu : X.A.units + 1 < cLine) (ho : PE X o (rdE X.K W fo)) (hi : PE X i (rdE X.K W fi))
    (hAs : ∀ v, assign (.Subscript o i pos) X.env v = (do
      let w1 ← holding [v] (eval o X.env)
      let w2 ← holding [v, w1] (eval i X.env)
      standAt pos
      holding [v, w1, w2] (setItem w1 w2 v)
      release [v, w1, w2] []) := by intro _; rfl) : PG X (.Subscript o i pos) (rdG X.K (dgSub fo fi)) :=
  PG_imp (pg_sub ho hi (set_all hu) hAs) fun v σ H Q ⟨ρ, S, d, Qd, hρ, hS, hd, hg, l⟩ => by
    refine ⟨ρ, S, _, _, hρ, hS, hg, fun x S1 vx H1 e1 r1 q1 h1 => ?_, fun _ _ _ _ _ _ _ _ z => z.elim⟩
    refine ⟨ρ, S1, _, _, hρ.imm (e1.imm hS), r1, h1, fun y S2 vy H2 e2 r2 q2 h2 => ?_, fun _ _ _ _ _ _ _ _ z => z.elim⟩
    have i12 := e2.imm r1
    refine setD_rd r2 (Rel.imm i12 _ _ q1) q2 (Rel.imm ((e1.trans e2).imm hS) _ _ hd) h2 fun S3 H3 e3 r3 h3 => ?_
    have e := (e1.trans e2).trans e3
    exact l ρ S3 σ H3 e r3 (hρ.imm (e.imm hS)) h3
end

/-! ### what is walked -/
def iSeqV (K : PySem.W.Frag) (tl : TE) : TI := fun σ H R => tl σ H fun x H1 => (∃ a xs, x = .ref a ∧ SqL K H1 a xs ∧ R (Itl K a) H1) ∨ ∃ a xs, x = .ref a ∧ SqT K H1 a xs ∧ R (Itt K a) H1
theorem pi_seq {X : Cx} {tg l : Expr} {tl : TE} (hl : PE X l tl) : PI X tg l (iSeqV X.K tl) := by
  constructor
  intro pins s σ H R I h
  refine thn (hl.run pins s σ H _ I h) ?_
  rintro v s1 ⟨x, H1, J, r1, hx⟩
  have old : ∀ (ob : Obj) b o, s1.heap.get? b = some o → (s1.heap.push ob).get? b = some o := fun ob b o e => Heap.get?_push_of_some ob e
  have young : ∀ b, b ∈ [s1.heap.objs.size] → FpOk X pins H1 b := fun b hb => by
    obtain rfl : b = s1.heap.objs.size := by simpa using hb
    exact J.fpOk (Nat.le_refl _) J.fresh
  rcases hx with ⟨a, xs, rfl, hq, q⟩ | ⟨a, xs, rfl, hq, q⟩
  · obtain rfl : v = Value.ref a := r1
    obtain ⟨_, _, pl, _⟩ := J.list hq
    exact wpAny_pyIter_list pl.isList ⟨s1.heap.objs.size, [s1.heap.objs.size], _, _, H1, rfl, J.kept (t' := s1.toks) (old _), turn_list a _, ⟨_, Heap.get?_push_size _ rfl, rfl, rfl⟩, young, q⟩
  · obtain rfl : v = Value.ref a := r1
    obtain ⟨its, _, pl, _⟩ := J.tuple hq
    exact wpAny_pyIter_tuple (items := its.toArray) pl ⟨s1.heap.objs.size, [s1.heap.objs.size], _, _, H1, rfl, J.kept (t' := s1.toks) (old _), turn_tuple a _, ⟨_, Heap.get?_push_size _ rfl, rfl, rfl⟩, young, q⟩
def iSeq (f : ET) : EI := fun ρ S Q E => f ρ S (fun d S1 => match d with
  | .lst ds => Q ds S1
  | .kls ds => Q ds S1
  | .tup ds => Q ds S1
  | _ => False) E
theorem yields_list {K : PySem.W.Frag} {H : Hp} {a : Addr} {ds : List D} {vs : List V} (st : ∀ H', Imm H H' → SqL K H' a vs) (uq : ∀ H' ys, Imm H H' → SqL K H' a ys → True) (rs : Rels K H ds vs) : Yields K (Itl K a) ds H where
  go := fun i H' hi im => by
    obtain ⟨v, ev, _⟩ := rs.get (i := i) (List.getElem?_eq_getElem hi)
    exact ⟨vs, v, st H' im, ev⟩
  stop := fun H' im => ⟨vs, st H' im, by rw [rs.length]; exact Nat.le_refl _⟩
  yld := fun i H' x H2 d ed im ⟨e, hx⟩ => by
    obtain ⟨v, ev, rv⟩ := rs.get ed
    have e2 := hx vs (st H' im)
    rw [ev] at e2
    cases (Option.some.inj e2)
    subst e
    exact ⟨.inl rfl, Rel.imm im _ _ rv⟩
theorem yields_tup {K : PySem.W.Frag} {H : Hp} {a : Addr} {ds : List D} {vs : List V} (h : SqT K H a vs) (rs : Rels K H ds vs) : Yields K (Itt K a) ds H where
  go := fun i H' hi im => by
    obtain ⟨v, ev, _⟩ := rs.get (i := i) (List.getElem?_eq_getElem hi)
    exact ⟨vs, v, im.sqT h, ev⟩
  stop := fun H' im => ⟨vs, im.sqT h, by rw [rs.length]; exact Nat.le_refl _⟩
  yld := fun i H' x H2 d ed im ⟨e, hx⟩ => by
    obtain ⟨v, ev, rv⟩ := rs.get ed
    have e2 := hx vs (im.sqT h)
    rw [ev] at e2
    cases (Option.some.inj e2)
    subst e
    exact ⟨.inl rfl, Rel.imm im _ _ rv⟩
theorem i_seq {X : Cx} {W : WX} {tg l : Expr} {f : ET} (hl : PE X l (rdE X.K W f)) : PI X tg l (rdI X.K W (iSeq f)) :=
  PI_imp (pi_seq hl) fun σ H R ⟨ρ, S, Qd, Ed, hρ, hS, hf, y, lx⟩ => by
    refine ⟨ρ, S, _, Ed, hρ, hS, hf, fun d S1 v H1 e1 r1 q1 h1 => ?_, lx⟩
    cases d with
    | lst ds =>
      obtain ⟨a, vs, rfl, ha, rs⟩ := q1
      exact .inl ⟨a, vs, rfl, ha.seq, y ds S1 _ H1 e1 r1 (yields_list (fun H' im => (im.fzL ha).seq) (fun _ _ _ _ => trivial) rs) h1⟩
    | kls ds =>
      obtain ⟨a, vs, rfl, ha, rs⟩ := q1
      exact .inl ⟨a, vs, rfl, ha.seq, y ds S1 _ H1 e1 r1 (yields_list (fun H' im => (im.ksL ha).seq) (fun _ _ _ _ => trivial) rs) h1⟩
    | tup ds =>
      obtain ⟨a, vs, rfl, ha, rs⟩ := q1
      exact .inr ⟨a, vs, rfl, ha, y ds S1 _ H1 e1 r1 (yields_tup ha rs) h1⟩
    | _ => exact h1.elim
/-! ranges -/
def rangeD (lo : Int) (n : Nat) : List D := (List.range n).map fun (k : Nat) => .int (lo + k)
theorem yields_range {K : PySem.W.Frag} {H : Hp} (lo : Int) (n : Nat) : Yields K (Itr lo n) (rangeD lo n) H where
  go := fun i H' hi _ => by
    show i < n
    simpa [rangeD] using hi
  stop := fun H' _ => by
    show n ≤ (rangeD lo n).length
    simp [rangeD]
  yld := fun i H' x H2 d ed im ⟨e, hx⟩ => by
    subst e hx
    have h : i < n := by
      have := (List.getElem?_eq_some_iff.mp ed).1
      simpa [rangeD] using this
    have e2 : d = .int (lo + i) := by
      have : (rangeD lo n)[i]? = some (.int (lo + i)) := by simp [rangeD, h]
      rw [this] at ed
      exact (Option.some.inj ed).symm
    subst e2
    exact ⟨.inl rfl, rfl⟩
def iRange1 (fa : EA) : EI := fun ρ S Q E => fa ρ S (fun ds S1 => match ds with
  | [.int j] => -(2 ^ 62) ≤ j ∧ j < 2 ^ 62 ∧ Q (rangeD 0 j.toNat) S1
  | _ => False) E
def iRange2 (fa : EA) : EI := fun ρ S Q E => fa ρ S (fun ds S1 => match ds with
  | [.int i, .int j] => (-(2 ^ 62) ≤ i ∧ i < 2 ^ 62 ∧ -(2 ^ 62) ≤ j ∧ j < 2 ^ 62) ∧ Q (rangeD i (j - i).toNat) S1
  | _ => False) E
section
variable {X : Cx} {W : WX} {tg a b : Expr} {fa : EA} {p pos : Pos}
theorem i_range1 (hg : Gl X "range") (hm : X.mg "range" = none) (ha : PA X [a] (rdA X.K W 1 fa)) (hs : starEach [a] X.env = [(false, eval a X.env)] := by rfl) : PI X tg (.Call (.Name "range" p) [a] [] pos) (rdI X.K W (iRange1 fa)) :=
  PI_imp (pi_range1 hg hm ha hs) fun σ H R ⟨ρ, S, Qd, Ed, hρ, hS, hf, y, lx⟩ => by
    refine ⟨ρ, S, _, Ed, hρ, hS, hf, fun ds S1 vs H1 e1 r1 q1 hl h1 => ?_, lx⟩
    dsimp only at h1
    split at h1
    · rename_i j
      obtain ⟨v, rfl, rv⟩ := rels1 q1
      have ev : v = _ := rv
      subst ev
      exact ⟨j, rfl, h1.1, h1.2.1, y _ S1 _ H1 e1 r1 (yields_range 0 j.toNat) h1.2.2⟩
    · exact h1.elim
theorem i_range2 (hg : Gl X "range") (hm : X.mg "range" = none) (ha : PA X [a, b] (rdA X.K W 2 fa)) (hs : starEach [a, b] X.env = [(false, eval a X.env), (false, eval b X.env)] := by rfl) (hs2 : starEach [b] X.env = [(false, eval b X.env)] := by rfl) : PI X tg (.Call (.Name "range" p) [a, b] [] pos) (rdI X.K W (iRange2 fa)) :=
  PI_imp (pi_range2 hg hm ha hs hs2) fun σ H R ⟨ρ, S, Qd, Ed, hρ, hS, hf, y, lx⟩ => by
    refine ⟨ρ, S, _, Ed, hρ, hS, hf, fun ds S1 vs H1 e1 r1 q1 hl h1 => ?_, lx⟩
    dsimp only at h1
    split at h1
    · rename_i i j
      obtain ⟨v, u, rfl, rv, ru⟩ := rels2 q1
      have ev : v = _ := rv
      have eu : u = _ := ru
      subst ev eu
      exact ⟨i, j, rfl, h1.1, y _ S1 _ H1 e1 r1 (yields_range i (j - i).toNat) h1.2⟩
    · exact h1.elim
end
/-! list(range(..)) -/
theorem rg_rels {K : PySem.W.Frag} {H : Hp} (i : Int) : ∀ (l : List Nat), Rels K H (l.map fun (k : Nat) => D.int (i + k)) (l.map fun (k : Nat) => V.int (i + (k : Nat)))
  | [] => rfl
  | k :: l => ⟨_, _, rfl, rfl, rg_rels i l⟩
def evListRg1 (mk : MkT) (f : ET) : ET := fun ρ S Q E => f ρ S (fun x S1 => match x with
  | .int j => RgOk 0 j ∧ mk (rangeD 0 (j - 0).toNat) S1 Q
  | _ => False) E
def evListRg2 (mk : MkT) (f fb : ET) : ET := fun ρ S Q E => f ρ S (fun x S1 => fb ρ S1 (fun y S2 => match x, y with
  | .int i, .int j => RgOk i j ∧ mk (rangeD i (j - i).toNat) S2 Q
  | _, _ => False) E) E
section
variable {X : Cx} {W : WX} {a b : Expr} {f fb : ET} {p pos p2 pos2 : Pos} {mk : MkT}
theorem e_listRg1 (hm : MkOk X.K mk) (hc : X.calm = true) (gl : Gl X "list") (ml : X.mg "list" = none) (gr : Gl X "range") (mr : X.mg "range" = none) (ha : PE X a (rdE X.K W f))
    (na : starEach [a] X.env = (false, eval a X.env) :: starEach [] X.env := by rfl) (nl : starEach [.Call (.Name "range" p) [a] [] pos] X.env = (false, eval (.Call (.Name "range" p) [a] [] pos) X.env) :: starEach [] X.env := by rfl) :
    PE X (.Call (.Name "list" p2) [.Call (.Name "range" p) [a] [] pos] [] pos2) (rdE X.K W (evListRg1 mk f)) :=
  PE_imp (pe_fz (pe_listRg hc gl ml (prg_1 gr mr ha na) nl)) fun σ H Q ⟨ρ, S, Qd, Ed, hρ, hS, hf, lq, lx⟩ => by
    refine ⟨ρ, S, _, Ed, hρ, hS, hf, fun d1 S1 v1 H1 e1 r1 q1 h1 => ?_, lx⟩
    dsimp only at h1
    split at h1
    · exact ⟨_, q1, h1.1, fun q hq => hm _ _ _ _ _ _ _ r1 hq (rg_rels 0 _) h1.2 (lq.mono e1)⟩
    · exact h1.elim
theorem e_listRg2 (hm : MkOk X.K mk) (hc : X.calm = true) (gl : Gl X "list") (ml : X.mg "list" = none) (gr : Gl X "range") (mr : X.mg "range" = none) (ha : PE X a (rdE X.K W f)) (hb : PE X b (rdE X.K W fb))
    (na : starEach [a, b] X.env = (false, eval a X.env) :: starEach [b] X.env := by rfl) (nb : starEach [b] X.env = (false, eval b X.env) :: starEach [] X.env := by rfl) (hp : (backTo pos (starEach [b] X.env)).any (·.1) = false := by rfl)
    (nl : starEach [.Call (.Name "range" p) [a, b] [] pos] X.env = (false, eval (.Call (.Name "range" p) [a, b] [] pos) X.env) :: starEach [] X.env := by rfl) :
    PE X (.Call (.Name "list" p2) [.Call (.Name "range" p) [a, b] [] pos] [] pos2) (rdE X.K W (evListRg2 mk f fb)) :=
  PE_imp (pe_fz (pe_listRg hc gl ml (prg_2 gr mr ha hb na nb hp) nl)) fun σ H Q ⟨ρ, S, Qd, Ed, hρ, hS, hf, lq, lx⟩ => by
    refine ⟨ρ, S, _, Ed, hρ, hS, hf, fun d1 S1 v1 H1 e1 r1 q1 h1 => ?_, lx⟩
    refine ⟨ρ, S1, _, Ed, hρ.imm (e1.imm hS), r1, h1, fun d2 S2 v2 H2 e2 r2 q2 h2 => ?_, lx.mono e1⟩
    dsimp only at h2
    split at h2
    · exact ⟨_, _, q1, q2, h2.1, fun q hq => hm _ _ _ _ _ _ _ r2 hq (rg_rels _ _) h2.2 ((lq.mono e1).mono e2)⟩
    · exact h2.elim
end
end MP

set_option Elab.async false
set_option linter.all false
set_option maxRecDepth 100000
set_option maxHeartbeats 1100000
/-! MPStep: one lemma a combinator, to step through a mirror -/
namespace MP
open PySem PySem.Spec PyProof.Rows L2 MP
variable {ρ : Env} {S : Store} {N : DEnds} {Q : Post} {E : XPost} {d x y : D} {ds : List D} {i j : Int} {n m : Nat} {f f2 f3 : ET} {g h : ST} {fa fb : EA} {t u : EB} {QA : List D → Store → Prop} {QB : Bool → Store → Prop} {QE : Env → Store → Prop} {gg gh : DG} {gs : DGs} {o o2 : G2} {mk : MkT}
theorem runF_i (q : g (ds.map some ++ List.replicate (m - ds.length) none) S { nx := fun _ S' => Q .non S', rt := Q, ex := fun x _ S' => E x S' }) : runF m g ds S Q E := q
theorem dSeq_i (q : g ρ S { N with nx := fun ρ' S' => h ρ' S' N }) : dSeq g h ρ S N := q
theorem dNext_i (q : N.nx ρ S) : dNext ρ S N := q
theorem dExpr_i (q : f ρ S (fun _ S' => N.nx ρ S') (fun x S' => N.ex x ρ S')) : dExpr f ρ S N := q
theorem dRet_i (q : f ρ S N.rt (fun x S' => N.ex x ρ S')) : dRet f ρ S N := q
theorem dRetN_i (q : N.rt .non S) : dRetN ρ S N := q
theorem dBrk_i (q : N.bk ρ S) : dBrk ρ S N := q
theorem dCnt_i (q : N.ct ρ S) : dCnt ρ S N := q
theorem dIf_i (q : t ρ S (fun b S' => if b = true then g ρ S' N else h ρ S' N) (fun x S' => N.ex x ρ S')) : dIf t g h ρ S N := q
theorem dAsg_i (q : f ρ S (fun d S' => gg d ρ S' N.nx) (fun x S' => N.ex x ρ S')) : dAsg f gg ρ S N := q
theorem dSet_i (q : f ρ S (fun d S' => N.nx (st ρ n (some d)) S') (fun x S' => N.ex x ρ S')) : dSet n f ρ S N := q
theorem dPar_i (q : fa ρ S (fun ds S' => match ds with
  | [x, y] => N.nx (st (st ρ n (some x)) m (some y)) S'
  | _ => False) (fun x S' => N.ex x ρ S')) : dPar n m fa ρ S N := q
theorem dRaise_i {c : Value} (q : N.ex { cls := c } ρ S) : dRaise c ρ S N := q
theorem dgName_i (q : QE (st ρ n (some d)) S) : dgName n d ρ S QE := q
theorem dgNil_i (q : QE ρ S) : dgNil [] ρ S QE := q
theorem dgCons_i (q : gg d ρ S fun ρ1 S1 => gs ds ρ1 S1 QE) : dgCons gg gs (d :: ds) ρ S QE := q
theorem dgTup_i (e : ds.length = n) (q : gs ds ρ S QE) : dgTup n gs (.tup ds) ρ S QE := ⟨e, q⟩
theorem dgSub_i (q : f ρ S (fun x S1 => f2 ρ S1 (fun y S2 => setD x y d S2 (fun S3 => QE ρ S3)) (fun _ _ => False)) (fun _ _ => False)) : dgSub f f2 d ρ S QE := q
theorem evC_i (q : Q d S) : evC d ρ S Q E := q
theorem evV_i (e : lk ρ n = some d) (q : Q d S) : evV n ρ S Q E := by unfold evV; rw [e]; exact q
theorem aNil_i (q : QA [] S) : aNil ρ S QA E := q
theorem aCons_i (q : f ρ S (fun d S1 => fa ρ S1 (fun ds S2 => QA (d :: ds) S2) E) E) : aCons f fa ρ S QA E := q
theorem evTup_i (q : fa ρ S (fun ds S1 => Q (.tup ds) S1) E) : evTup fa ρ S Q E := q
theorem evLst_i (q : fa ρ S (fun ds S1 => mk ds S1 Q) E) : evLst mk fa ρ S Q E := q
theorem mkF_i (q : Q (.lst ds) S) : mkF ds S Q := q
theorem mkM_i (q : ∀ a, S a = none → Q (.ref a) (S.set a (.lst ds))) : mkM ds S Q := q
theorem mkDF_i {ks : List Key} (q : Q (.dct ks ds) S) : mkDF ks ds S Q := q
theorem mkDM_i {ks : List Key} (q : ∀ a, S a = none → Q (.ref a) (S.set a (.dct ks ds))) : mkDM ks ds S Q := q
theorem evDisp_i {mk : MkDT} {ks : List Key} (q : fa ρ S (fun ds S1 => mk ks ds S1 Q) E) : evDisp mk ks fa ρ S Q E := q
theorem evDict0_i {mk : MkDT} (q : mk [] [] S Q) : evDict0 mk ρ S Q E := q
theorem bin_i (q : f ρ S (fun x S1 => f2 ρ S1 (fun y S2 => o x y S2 Q) E) E) : bin o f f2 ρ S Q E := q
theorem una_i {o : G1} (q : f ρ S (fun x S1 => o x S1 Q) E) : una o f ρ S Q E := q
theorem evCall_i {F : DF} (q : fa ρ S (fun ds S1 => F ds S1 Q E) E) : evCall F fa ρ S Q E := q
theorem evCall0_i {F : DF} (q : F [] S Q E) : evCall0 F ρ S Q E := q
theorem evCallK_i {F : DF} {is : List Nat} (q : fa ρ S (fun ds S1 => fb ρ S1 (fun zs S2 => F (pickL is (ds ++ zs)) S2 Q E) E) E) : evCallK F is fa fb ρ S Q E := q
theorem evB_i {o : GA} (q : fa ρ S (fun ds S1 => o ds S1 Q) E) : evB o fa ρ S Q E := q
theorem evM_i {T : String} {o : GM} (q : f ρ S (fun d S1 => mty (vw d S1) = some T ∧ fa ρ S1 (fun ds S2 => o d ds S2 Q) E) E) : evM T o f fa ρ S Q E := q
theorem evM0_i {T : String} {o : GM} (q : f ρ S (fun d S1 => mty (vw d S1) = some T ∧ o d [] S1 Q) E) : evM0 T o f ρ S Q E := q
/-- a truth that is met -/
def onT (d : D) (S : Store) (k : Bool → Prop) : Prop := match tru d S with
  | some b => k b
  | none => False
theorem onT_bl {b : Bool} {k : Bool → Prop} (q : k b) : onT (.bl b) S k := q
theorem onT_non {k : Bool → Prop} (q : k false) : onT .non S k := q
theorem onT_i {b : Bool} {k : Bool → Prop} (e : tru d S = some b) (q : k b) : onT d S k := by unfold onT; rw [e]; exact q
theorem bV_i (q : f ρ S (fun d S1 => onT d S1 fun b => QB b S1) E) : bV f ρ S QB E := q
theorem bAnd_i (q : t ρ S (fun b S1 => if b = true then u ρ S1 QB E else QB false S1) E) : bAnd t u ρ S QB E := q
theorem bOr_i (q : t ρ S (fun b S1 => if b = true then QB true S1 else u ρ S1 QB E) E) : bOr t u ρ S QB E := q
theorem bNot_i (q : t ρ S (fun b S1 => QB (!b) S1) E) : bNot t ρ S QB E := q
theorem bYes_i (q : QB true S) : bYes ρ S QB E := q
def onBl (d : D) (k : Bool → Prop) : Prop := match d with
  | .bl b => k b
  | _ => False
theorem onBl_i {b : Bool} {k : Bool → Prop} (q : k b) : onBl (.bl b) k := q
theorem bB_i (q : f ρ S (fun d S1 => onBl d fun b => QB b S1) E) : bB f ρ S QB E := q
theorem eAnd_i (q : f ρ S (fun d S1 => onT d S1 fun b => if b = true then f2 ρ S1 Q E else Q d S1) E) : eAnd f f2 ρ S Q E := by
  unfold eAnd
  refine cast (congrArg (fun k => f ρ S k E) ?_) q
  funext d S1
  unfold onT
  cases tru d S1 with
  | none => rfl
  | some b => cases b <;> simp
theorem eOr_i (q : f ρ S (fun d S1 => onT d S1 fun b => if b = true then Q d S1 else f2 ρ S1 Q E) E) : eOr f f2 ρ S Q E := by
  unfold eOr
  refine cast (congrArg (fun k => f ρ S k E) ?_) q
  funext d S1
  unfold onT
  cases tru d S1 with
  | none => rfl
  | some b => cases b <;> simp
theorem eNot_i (q : f ρ S (fun d S1 => onT d S1 fun b => Q (.bl (!b)) S1) E) : eNot f ρ S Q E := q
theorem eIf_i (q : t ρ S (fun b S1 => if b = true then f ρ S1 Q E else f2 ρ S1 Q E) E) : eIf t f f2 ρ S Q E := q
theorem chn_i (q : f ρ S (fun x S1 => f2 ρ S1 (fun y S2 => o x y S2 fun z S3 => onBl z fun b => if b = true then f3 ρ S3 (fun w S4 => o2 y w S4 Q) E else Q (.bl false) S3) E) E) : chn o o2 f f2 f3 ρ S Q E := by
  unfold chn
  refine cast (congrArg (fun k => f ρ S k E) ?_) q
  funext x S1
  refine congrArg (fun k => f2 ρ S1 k E) ?_
  funext y S2
  refine congrArg (fun k => o x y S2 k) ?_
  funext z S3
  unfold onBl
  cases z with
  | bl b => cases b <;> simp
  | _ => rfl
theorem ite_t {p q : Prop} {b : Bool} (e : b = true) (h : p) : (if b = true then p else q) := by rw [if_pos e]; exact h
theorem ite_f {p q : Prop} {b : Bool} (e : b = false) (h : q) : (if b = true then p else q) := by rw [if_neg (by rw [e]; exact fun z => nomatch z)]; exact h
theorem ite_tt {p q : Prop} (h : p) : (if true = true then p else q) := by rw [if_pos rfl]; exact h
theorem ite_ff {p q : Prop} (h : q) : (if false = true then p else q) := by rw [if_neg (fun z => nomatch z)]; exact h
theorem ite_cc {p q : Prop} {b : Bool} (h1 : b = true → p) (h2 : b = false → q) : (if b = true then p else q) := by
  cases b with
  | true => exact ite_tt (h1 rfl)
  | false => exact ite_ff (h2 rfl)
/-! operators -/
theorem gSub_i (q : Q (.int (i - j)) S) : gSub (.int i) (.int j) S Q := q
theorem gAdd_i (q : Q (.int (i + j)) S) : gAdd mk (.int i) (.int j) S Q := q
theorem gAdd_l {xs ys : List D} (e : xs.length + ys.length ≤ sizeLine) (q : mk (xs ++ ys) S Q) : gAdd mk (.lst xs) (.lst ys) S Q := ⟨e, q⟩
theorem gMul_i (e : CMul i j) (q : Q (.int (i * j)) S) : gMul (.int i) (.int j) S Q := ⟨e, q⟩
theorem gDiv_i (e : CDiv i j) (q : Q (.int (i / j)) S) : gDiv (.int i) (.int j) S Q := ⟨e, q⟩
theorem gMod_i (e : 0 < j) (q : Q (.int (i % j)) S) : gMod (.int i) (.int j) S Q := ⟨e, q⟩
theorem gPow_i (e : CPow i j) (q : Q (.int (i ^ j.toNat)) S) : gPow (.int i) (.int j) S Q := ⟨e, q⟩
theorem gNeg_i (q : Q (.int (-i)) S) : gNeg (.int i) S Q := q
theorem gLe_i (q : Q (.bl (decide (i ≤ j))) S) : gOrd (fun i j => decide (i ≤ j)) (fun i j => !decide (j < i)) (.int i) (.int j) S Q := q
theorem gLt_i (q : Q (.bl (decide (i < j))) S) : gOrd (fun i j => decide (i < j)) (fun i j => decide (i < j)) (.int i) (.int j) S Q := q
theorem gGt_i (q : Q (.bl (decide (j < i))) S) : gOrd (fun i j => decide (j < i)) (fun i j => decide (j < i)) (.int i) (.int j) S Q := q
theorem gGe_i (q : Q (.bl (decide (j ≤ i))) S) : gOrd (fun i j => decide (j ≤ i)) (fun i j => !decide (i < j)) (.int i) (.int j) S Q := q
theorem gEq_i (q : Q (.bl (i == j)) S) : gEq (.int i) (.int j) S Q := ⟨rfl, rfl, q⟩
theorem gNe_i (q : Q (.bl (!(i == j))) S) : gNe (.int i) (.int j) S Q := ⟨rfl, rfl, q⟩
theorem gEq_b {a b : Bool} (q : Q (.bl (a == b)) S) : gEq (.bl a) (.bl b) S Q := ⟨rfl, rfl, q⟩
theorem gNe_b {a b : Bool} (q : Q (.bl (!(a == b))) S) : gNe (.bl a) (.bl b) S Q := ⟨rfl, rfl, q⟩
theorem gEq_s {a b : Str} (q : Q (.bl (a == b)) S) : gEq (.str a) (.str b) S Q := q
theorem gNe_s {a b : Str} (q : Q (.bl (!(a == b))) S) : gNe (.str a) (.str b) S Q := q
theorem gIs_i (q : Q (.bl (isNon x)) S) : gIs x .non S Q := q
theorem gIsn_i (q : Q (.bl (!isNon x)) S) : gIsn x .non S Q := q
theorem gIx_t {xs : List D} (e : atI xs i = some d) (q : Q d S) : gIx (.tup xs) (.int i) S Q := by unfold gIx; simp only [vw]; rw [e]; exact q
theorem gIx_l {xs : List D} (e : atI xs i = some d) (q : Q d S) : gIx (.lst xs) (.int i) S Q := by unfold gIx; simp only [vw]; rw [e]; exact q
theorem gLen_w {xs : List D} (e : seqW (vw d S) = some xs) (q : Q (.int xs.length) S) : gLen [d] S Q := by
  show (match vw d S with
    | .lst xs => Q (.int xs.length) S
    | .kls xs => Q (.int xs.length) S
    | .tup xs => Q (.int xs.length) S
    | .dct ks _ => Q (.int ks.length) S
    | .str z => z.length ≤ sizeLine ∧ Q (.int z.length) S
    | _ => False)
  revert e
  cases vw d S <;> intro e <;> first
    | (cases e; exact q)
    | exact nomatch e
theorem gInt_i (q : Q (.int i) S) : gInt [.int i] S Q := q
theorem gAbs_i (q : Q (.int (if i < 0 then -i else i)) S) : gAbs [.int i] S Q := q
theorem gMin2_i (q : Q (.int (if j < i then j else i)) S) : gMin [.int i, .int j] S Q := by
  show Q (.int (if decide (j < i) = true then j else i)) S
  simpa using q
theorem gList_i {xs : List D} (e : seqW (vw d S) = some xs) (q : mk xs S Q) : gList mk [d] S Q := by
  show (match seqW (vw d S) with
    | some xs => mk xs S Q
    | none => False)
  rw [e]; exact q
theorem gTuple_i {xs : List D} (e : seqW (vw d S) = some xs) (q : Q (.tup xs) S) : gTuple [d] S Q := by
  show (match seqW (vw d S) with
    | some xs => Q (.tup xs) S
    | none => False)
  rw [e]; exact q
theorem gIsi_t {sub : Value → Value → Option Bool} {ex : Addr → Bool} {n : String} {t : String} {b : Bool} (e0 : excD x = none) (e : tyD (vw x S) = some (.type t)) (eb : kitB t n = some b) (q : Q (.bl b) S) : gIsi sub ex [x, .ty n] S Q := by
  show (match excD x with
    | some C => match clsD (.ty n) with
      | some u => ex C = true ∧ match sub (.ref C) u with
        | some b => Q (.bl b) S
        | none => False
      | none => False
    | none => match tyD (vw x S), clsD (.ty n) with
      | some t, some u => match isiV sub t u with
        | some b => Q (.bl b) S
        | none => False
      | _, _ => False)
  rw [e0, e]
  show (match kitB t n with
        | some b => Q (.bl b) S
        | none => False)
  rw [eb]
  exact q
theorem comp_map {α : Type} {K : List D → Store → Prop} (enc : α → D) (p : α → Bool) (out : α → D) : ∀ (xs : List α) (acc : List D),
    (∀ x ∈ xs, ∀ k : Bool → Store → Prop, k (p x) S → t (st ρ n (some (enc x))) S k (fun _ _ => False)) →
    (∀ x ∈ xs, p x = true → ∀ k : Post, k (out x) S → f (st ρ n (some (enc x))) S k (fun _ _ => False)) →
    acc.length + xs.length ≤ sizeLine → K (acc ++ (xs.filter p).map out) S → comp (dgName n) t f K (xs.map enc) acc ρ S
  | [], acc, _, _, _, q => by
    show K acc S
    simpa using q
  | x :: xs, acc, h1, h2, hl, q => by
    refine h1 x List.mem_cons_self _ ?_
    have ih := fun acc => comp_map (K := K) enc p out xs acc (fun y hy => h1 y (List.mem_cons_of_mem _ hy)) (fun y hy => h2 y (List.mem_cons_of_mem _ hy))
    by_cases e : p x = true
    · refine ite_t e (h2 x List.mem_cons_self e _ ⟨by simp only [List.length_cons] at hl; omega, ih _ (by simp only [List.length_append, List.length_cons, List.length_nil] at hl ⊢; omega) ?_⟩)
      rw [List.filter_cons_of_pos e] at q
      simpa using q
    · refine ite_f (by simpa using e) (ih _ (by simp only [List.length_cons] at hl; omega) ?_)
      rw [List.filter_cons_of_neg e] at q
      exact q
theorem comp_all {α : Type} {K : List D → Store → Prop} (enc : α → D) (out : α → D) (xs : List α)
    (h : ∀ x ∈ xs, ∀ k : Post, k (out x) S → f (st ρ n (some (enc x))) S k (fun _ _ => False))
    (hl : xs.length ≤ sizeLine) (q : K (xs.map out) S) : comp (dgName n) bYes f K (xs.map enc) [] ρ S :=
  comp_map enc (fun _ => true) out xs [] (fun _ _ _ q => q) (fun x hx _ k q => h x hx k q) (by simpa using hl) (by rw [List.filter_eq_self.mpr (fun _ _ => rfl)]; exact q)
theorem evComp_i {fi : EI} {vs : List Nat} (q : fi ρ S (fun ds S1 => comp gg t f (fun acc S2 => mk acc S2 Q) ds [] (wipeD ρ vs) S1) E) : evComp mk fi gg t f vs ρ S Q E := q
theorem dFor_i {fi : EI} (q : fi ρ S (fun ds S1 => loop gg g N ds ρ S1) (fun x S' => N.ex x ρ S')) : dFor fi gg g ρ S N := q
def onSeq (d : D) (k : List D → Prop) : Prop := match d with
  | .lst ds => k ds
  | .kls ds => k ds
  | .tup ds => k ds
  | _ => False
theorem onSeq_l {k : List D → Prop} (q : k ds) : onSeq (.lst ds) k := q
theorem onSeq_k {k : List D → Prop} (q : k ds) : onSeq (.kls ds) k := q
theorem onSeq_t {k : List D → Prop} (q : k ds) : onSeq (.tup ds) k := q
theorem iSeq_i (q : f ρ S (fun d S1 => onSeq d fun ds => QA ds S1) E) : iSeq f ρ S QA E := q
theorem iRange1_i (q : fa ρ S (fun ds S1 => match ds with
  | [.int j] => -(2 ^ 62) ≤ j ∧ j < 2 ^ 62 ∧ QA (rangeD 0 j.toNat) S1
  | _ => False) E) : iRange1 fa ρ S QA E := q
theorem loop_cons (q : gg d ρ S fun ρ1 S1 => g ρ1 S1 { N with nx := loop gg g N ds, ct := loop gg g N ds, bk := N.nx }) : loop gg g N (d :: ds) ρ S := q
theorem loop_nil (q : N.nx ρ S) : loop gg g N [] ρ S := q
theorem loop_ind (I : List D → Env → Store → Prop) (hstep : ∀ d r ρ S, (∀ ρ' S', I r ρ' S' → loop gg g N r ρ' S') → I (d :: r) ρ S → gg d ρ S fun ρ1 S1 => g ρ1 S1 { N with nx := loop gg g N r, ct := loop gg g N r, bk := N.nx })
    (hend : ∀ ρ S, I [] ρ S → N.nx ρ S) : ∀ ds ρ S, I ds ρ S → loop gg g N ds ρ S
  | [], ρ, S, h => hend ρ S h
  | d :: r, ρ, S, h => hstep d r ρ S (fun ρ' S' => loop_ind I hstep hend r ρ' S') h
/-! least and greatest of ints -/
def mn : List Int → Int
  | [] => 0
  | [a] => a
  | a :: b :: r => if mn (b :: r) < a then mn (b :: r) else a
def mx : List Int → Int
  | [] => 0
  | [a] => a
  | a :: b :: r => if a < mx (b :: r) then mx (b :: r) else a
theorem mn_spec : ∀ (ns : List Int), ns ≠ [] → mn ns ∈ ns ∧ ∀ y ∈ ns, mn ns ≤ y
  | [], h => absurd rfl h
  | [a], _ => ⟨by simp [mn], fun y hy => by simp only [List.mem_singleton] at hy; subst hy; exact Int.le_refl _⟩
  | a :: b :: r, _ => by
    obtain ⟨h1, h2⟩ := mn_spec (b :: r) (by simp)
    by_cases c : mn (b :: r) < a
    · have e : mn (a :: b :: r) = mn (b :: r) := by show (if _ then _ else _) = _; rw [if_pos c]
      rw [e]
      exact ⟨List.mem_cons_of_mem _ h1, fun y hy => (List.mem_cons.mp hy).elim (fun z => by omega) (h2 y)⟩
    · have e : mn (a :: b :: r) = a := by show (if _ then _ else _) = _; rw [if_neg c]
      rw [e]
      exact ⟨List.mem_cons_self, fun y hy => (List.mem_cons.mp hy).elim (fun z => by omega) fun z => by have := h2 y z; omega⟩
theorem mx_spec : ∀ (ns : List Int), ns ≠ [] → mx ns ∈ ns ∧ ∀ y ∈ ns, y ≤ mx ns
  | [], h => absurd rfl h
  | [a], _ => ⟨by simp [mx], fun y hy => by simp only [List.mem_singleton] at hy; subst hy; exact Int.le_refl _⟩
  | a :: b :: r, _ => by
    obtain ⟨h1, h2⟩ := mx_spec (b :: r) (by simp)
    by_cases c : a < mx (b :: r)
    · have e : mx (a :: b :: r) = mx (b :: r) := by show (if _ then _ else _) = _; rw [if_pos c]
      rw [e]
      exact ⟨List.mem_cons_of_mem _ h1, fun y hy => (List.mem_cons.mp hy).elim (fun z => by omega) (h2 y)⟩
    · have e : mx (a :: b :: r) = a := by show (if _ then _ else _) = _; rw [if_neg c]
      rw [e]
      exact ⟨List.mem_cons_self, fun y hy => (List.mem_cons.mp hy).elim (fun z => by omega) fun z => by have := h2 y z; omega⟩
theorem ints_map : ∀ ns : List Int, ints? (ns.map D.int) = some ns
  | [] => rfl
  | n :: r => by
    show (ints? (r.map D.int)).map (n :: ·) = _
    rw [ints_map r]
    rfl
theorem bls_map : ∀ ns : List Bool, bls? (ns.map D.bl) = some ns
  | [] => rfl
  | n :: r => by
    show (bls? (r.map D.bl)).map (n :: ·) = _
    rw [bls_map r]
    rfl
theorem gExt_l {better : Int → Int → Bool} {ns : List Int} (m : Int) (e : vw d S = .lst (ns.map D.int)) (h : ns ≠ []) (u : ∀ k, k ∈ ns → (∀ y, y ∈ ns → better y k = false) → k = m) (q : Q (.int m) S) : gExt better [d] S Q := by
  have z : (match vw d S with
    | .lst xs => match ints? xs with
      | some ns => 0 < ns.length ∧ ∀ m, m ∈ ns → (∀ y, y ∈ ns → better y m = false) → Q (.int m) S
      | none => False
    | _ => False : Prop) := by
    rw [e]
    show (match ints? (ns.map D.int) with
      | some ns => 0 < ns.length ∧ ∀ m, m ∈ ns → (∀ y, y ∈ ns → better y m = false) → Q (.int m) S
      | none => False)
    rw [ints_map]
    exact ⟨List.length_pos_iff.mpr h, fun k hk hb => by rw [u k hk hb]; exact q⟩
  clear e
  cases d <;> exact z
theorem gMin_l {ns : List Int} (e : vw d S = .lst (ns.map D.int)) (h : ns ≠ []) (q : Q (.int (mn ns)) S) : gMin [d] S Q :=
  gExt_l (mn ns) e h (fun k hk hb => by
    have h1 := mn_spec ns h
    have h2 := of_decide_eq_false (hb _ h1.1)
    have h3 := h1.2 k hk
    omega) q
theorem gMax_l {ns : List Int} (e : vw d S = .lst (ns.map D.int)) (h : ns ≠ []) (q : Q (.int (mx ns)) S) : gMax [d] S Q :=
  gExt_l (mx ns) e h (fun k hk hb => by
    have h1 := mx_spec ns h
    have h2 := of_decide_eq_false (hb _ h1.1)
    have h3 := h1.2 k hk
    omega) q
theorem gBls_l {ff : List Bool → Bool} {bs : List Bool} (e : vw d S = .lst (bs.map D.bl)) (q : Q (.bl (ff bs)) S) : gBls ff [d] S Q := by
  show (match vw d S with
    | .lst xs => match bls? xs with
      | some bs => Q (.bl (ff bs)) S
      | none => False
    | _ => False : Prop)
  rw [e]
  show (match bls? (bs.map D.bl) with
      | some bs => Q (.bl (ff bs)) S
      | none => False : Prop)
  rw [bls_map]
  exact q
theorem gAny_l {bs : List Bool} (e : vw d S = .lst (bs.map D.bl)) (q : Q (.bl (bs.any id)) S) : gAny [d] S Q := gBls_l e q
theorem gAll_l {bs : List Bool} (e : vw d S = .lst (bs.map D.bl)) (q : Q (.bl (bs.all id)) S) : gAll [d] S Q := gBls_l e q
theorem gIn_bls {b : Bool} {bs : List Bool} (q : Q (.bl (bs.any fun c => c == b)) S) : gIn false (.bl b) (.lst (bs.map D.bl)) S Q := by
  refine ⟨rfl, ?_, ?_⟩
  · rw [List.all_map]; exact List.all_eq_true.mpr fun _ _ => rfl
  · have e : inD (.bl b) (bs.map D.bl) = bs.any fun c => c == b := by
      unfold inD
      rw [List.any_map]
      rfl
    show Q (.bl (if false = true then _ else inD (.bl b) (bs.map D.bl))) S
    rw [if_neg (by decide), e]
    exact q
/-! a list against the empty one -/
theorem toPys_map {α : Type} (enc : α → D) (pe : α → PyData) (h : ∀ x, toPy (enc x) = some (pe x)) : ∀ xs : List α, toPys (xs.map enc) = some (xs.map pe)
  | [] => rfl
  | x :: r => by
    show (toPy (enc x)).bind (fun p => (toPys (r.map enc)).map fun ps => p :: ps) = _
    rw [h, toPys_map enc pe h r]
    rfl
theorem lay_map {α : Type} (pe : α → PyData) (h : ∀ x, (pe x).canLay0 = true) : ∀ xs : List α, PyData.canLayAll0 (xs.map pe) = true
  | [] => (by simp [PyData.canLayAll0])
  | x :: r => by simp [PyData.canLayAll0, h x, lay_map pe h r]
theorem depth_map {α : Type} (pe : α → PyData) (h : ∀ x, (pe x).depth ≤ 8) : ∀ xs : List α, PyData.depthAll (xs.map pe) ≤ 8
  | [] => (by simp [PyData.depthAll])
  | x :: r => by
    have h1 := h x
    have h2 := depth_map pe h r
    simp only [PyData.depthAll, List.map_cons]
    omega
theorem eq_nil {α : Type} {f : Bool → Bool} (enc : α → D) (pe : α → PyData) (h : ∀ x, toPy (enc x) = some (pe x) ∧ (pe x).canLay0 = true ∧ (pe x).depth ≤ 8) {xs : List α} (e : vw d S = .lst (xs.map enc)) (hd : ∀ z, d ≠ .str z) (q : Q (.bl (f xs.isEmpty)) S) : eqG f d (.lst []) S Q := by
  unfold eqG
  split
  · rename_i a b e1 e2; cases e2
  · rw [e]
    have e1 : toPy (.lst (xs.map enc)) = some (.list (xs.map pe)) := by
      show (toPys (xs.map enc)).map PyData.list = _
      rw [toPys_map enc pe (fun x => (h x).1) xs]
      rfl
    rw [e1]
    refine ⟨?_, rfl, ?_⟩
    · show (PyData.canLay0 (.list (xs.map pe)) && decide (PyData.depth (.list (xs.map pe)) ≤ 64)) = true
      have hd := depth_map pe (fun x => (h x).2.2) xs
      rw [Bool.and_eq_true]
      exact ⟨by simp only [PyData.canLay0]; exact lay_map pe (fun x => (h x).2.1) xs, decide_eq_true (by simp only [PyData.depth]; omega)⟩
    · cases xs with
      | nil => exact q
      | cons x r => exact q
theorem int_lay (x : Int) : toPy (.int x) = some (.int x) ∧ (PyData.int x).canLay0 = true ∧ (PyData.int x).depth ≤ 8 := ⟨rfl, rfl, by simp [PyData.depth]⟩
/-! dicts of the store -/
theorem gIx_box {a : Addr} {ks : List Key} {k : Key} (h : S a = some (.dct ks ds)) (hk : keyD y = some k) (e : dlook ks ds k = some d) (q : Q d S) : gIx (.ref a) y S Q := by
  have hv : vw (.ref a) S = .dct ks ds := by unfold vw; simp only [h]
  unfold gIx
  rw [hv]
  simp only [hk, e]
  exact q
theorem setD_box {a : Addr} {ks ks' : List Key} {ds' : List D} {k : Key} {QS : Store → Prop} (h : S a = some (.dct ks ds)) (hk : keyD y = some k) (hl : ks.length < sizeLine) (e1 : putKs ks k = ks') (e2 : putVs ks ds k d = ds') (q : QS (S.set a (.dct ks' ds'))) : setD (.ref a) y d S QS := by
  unfold setD
  simp only [h, hk]
  exact ⟨hl, by rw [e1, e2]; exact q⟩
theorem vw_l {a : Addr} (h : S a = some (.lst ds)) : vw (.ref a) S = .lst ds := by unfold vw; simp only [h]
end MP

set_option Elab.async false
set_option linter.all false
set_option maxRecDepth 100000
set_option maxHeartbeats 2100000
/-! MPText: texts, slices, tuples joined, dicts asked. -/
namespace MP
open PySem PySem.Spec PyProof.Rows L2 MP
/-! ### the signs of a text -/
def signs (x : Str) : List D := x.cps.toList.map fun c => .str ⟨#[c]⟩
def onStr (d : D) (k : Str → Prop) : Prop := match d with
  | .str x => k x
  | _ => False
def iChars (f : ET) : EI := fun ρ S Q E => f ρ S (fun d S1 => onStr d fun x => Q (signs x) S1) E
theorem yields_str {K : PySem.W.Frag} {H : Hp} (x : Str) : Yields K (Its x) (signs x) H where
  go := fun i H' hi _ => by
    show i < x.cps.size
    simpa [signs] using hi
  stop := fun H' _ => by
    show x.cps.size ≤ (signs x).length
    simp [signs]
  yld := fun i H' v H2 d ed _ ⟨e, c, hc, hv⟩ => by
    subst e hv
    refine ⟨.inl rfl, ?_⟩
    have e2 : (signs x)[i]? = some (.str ⟨#[c]⟩) := by
      unfold signs
      rw [List.getElem?_map, Array.getElem?_toList, hc]
      rfl
    rw [e2] at ed
    cases ed
    rfl
theorem i_chars {X : Cx} {W : WX} {tg l : Expr} {f : ET} (hl : PE X l (rdE X.K W f)) : PI X tg l (rdI X.K W (iChars f)) :=
  PI_imp (pi_str hl) fun σ H R ⟨ρ, S, Qd, Ed, hρ, hS, hf, y, lx⟩ => by
    refine ⟨ρ, S, _, Ed, hρ, hS, hf, fun d S1 v H1 e1 r1 q1 h1 => ?_, lx⟩
    cases d with
    | str x => exact ⟨x, q1, y (signs x) S1 _ H1 e1 r1 (yields_str x) h1⟩
    | _ => exact h1.elim
theorem iChars_i {f : ET} {ρ : MP.Env} {S : Store} {Q : List D → Store → Prop} {E : XPost} (q : f ρ S (fun d S1 => onStr d fun x => Q (signs x) S1) E) : iChars f ρ S Q E := q
theorem onStr_i {x : Str} {k : Str → Prop} (q : k x) : onStr (.str x) k := q

/-! ### slices -/
abbrev EO := MP.Env → Store → (Option Int → Store → Prop) → XPost → Prop
def rdO (K : PySem.W.Frag) (W : WX) (f : EO) : TO := fun σ H Q => ∃ ρ S Qd Ed, EnvR K H ρ σ ∧ SRel K S H ∧ f ρ S Qd Ed ∧ (∀ o S' H', Evo S H S' H' → SRel K S' H' → Qd o S' → Q o H') ∧ LX K S H Ed (fun c dd H' => W c dd σ H')
def onInt (d : D) (k : Int → Prop) : Prop := match d with
  | .int i => k i
  | _ => False
theorem onInt_i {i : Int} {k : Int → Prop} (q : k i) : onInt (.int i) k := q
def oNo : EO := fun _ S Q _ => Q none S
def oPart (f : ET) : EO := fun ρ S Q E => f ρ S (fun d S1 => onInt d fun i => Q (some i) S1) E
theorem PO_imp {X : Cx} {e : Option Expr} {t t' : TO} (h : PO X e t) (i : ∀ σ H Q, t' σ H Q → t σ H Q) : PO X e t' := ⟨fun pins s σ H Q I q => h.run pins s σ H Q I (i σ H Q q)⟩
theorem o_none {X : Cx} {W : WX} : PO X none (rdO X.K W oNo) := PO_imp po_none fun σ H Q ⟨ρ, S, Qd, Ed, hρ, hS, hf, l, _⟩ => l none S H (Evo.refl _ _) hS hf
theorem o_some {X : Cx} {W : WX} {e : Expr} {f : ET} (h : PE X e (rdE X.K W f)) : PO X (some e) (rdO X.K W (oPart f)) :=
  PO_imp (po_some h) fun σ H Q ⟨ρ, S, Qd, Ed, hρ, hS, hf, l, lx⟩ => by
    refine ⟨ρ, S, _, Ed, hρ, hS, hf, fun d S1 v H1 e1 r1 q1 h1 => ?_, lx⟩
    cases d with
    | int i => exact ⟨i, q1, l (some i) S1 H1 e1 r1 h1⟩
    | _ => exact h1.elim
def cutL {α : Type} (xs : List α) (lo hi : Option Int) : List α := (xs.drop (HT.sIx xs.length 0 lo)).take (HT.sIx xs.length xs.length hi - HT.sIx xs.length 0 lo)
theorem Rels.cut {K : PySem.W.Frag} {H : Hp} {ds : List D} {vs : List V} (lo hi : Option Int) (r : Rels K H ds vs) : Rels K H (cutL ds lo hi) (cutV vs lo hi) := by
  unfold cutL cutV
  rw [r.length]
  exact Rels.take _ (Rels.drop _ r)
abbrev GS := D → Option Int → Option Int → Store → Post → Prop
def SlD (K : PySem.W.Frag) (r : V → Option Int → Option Int → Hp → VK → Prop) (g : GS) : Prop := ∀ x lo hi S H dx Qd Q, SRel K S H → Rel K H dx x → g dx lo hi S Qd → LQ K S H Qd Q → r x lo hi H (FzQ Q)
def rSlAll (K : PySem.W.Frag) : V → Option Int → Option Int → Hp → VK → Prop := fun x lo hi H Q => rSlA K x lo hi H Q ∨ rSlS x lo hi H Q ∨ rSlL K x lo hi H Q
theorem sl_all {X : Cx} : SlR X (rSlAll X.K) := SlR.or sl_tupA (SlR.or sl_str sl_list)
def gSl (mk : MkT) : GS := fun x lo hi S Q => match vw x S with
  | .tup xs => Q (.tup (cutL xs lo hi)) S
  | .str z => z.length ≤ sizeLine ∧ Q (.str (cutS z lo hi)) S
  | .lst xs => mk (cutL xs lo hi) S Q
  | _ => False
def evSl (g : GS) (f : ET) (fl fu : EO) : ET := fun ρ S Q E => f ρ S (fun d S1 => fl ρ S1 (fun lo S2 => fu ρ S2 (fun hi S3 => g d lo hi S3 Q) E) E) E
theorem cut_whole {α : Type} {xs : List α} {lo hi : Option Int} (h : HT.sIx xs.length 0 lo = 0 ∧ HT.sIx xs.length xs.length hi = xs.length) : cutL xs lo hi = xs := by
  unfold cutL
  rw [h.1, h.2]
  simp
theorem cutV_whole {xs : List V} {lo hi : Option Int} (h : HT.sIx xs.length 0 lo = 0 ∧ HT.sIx xs.length xs.length hi = xs.length) : cutV xs lo hi = xs := by
  unfold cutV
  rw [h.1, h.2]
  simp
theorem d_sl {K : PySem.W.Frag} {mk : MkT} (hm : MkOk K mk) : SlD K (rSlAll K) (gSl mk) := by
  intro x lo hi S H dx Qd Q hS rx h l
  unfold gSl at h
  split at h
  · rename_i xs e
    obtain ⟨a, vs, rfl, ht, rs⟩ := vw_tup hS rx e
    refine .inl ⟨a, vs, rfl, ht, fun w => ?_, fun w p hp => .inl (new_tup hS hp (Rels.cut lo hi rs) h l)⟩
    have rc := Rels.cut lo hi rs
    rw [cutV_whole w] at rc
    exact l.fz hS (d := .tup (cutL xs lo hi)) ⟨a, vs, rfl, ht, rc⟩ h
  · rename_i z e
    exact .inr (.inl ⟨z, vw_str hS rx e, h.1, l.fz hS (d := .str _) rfl h.2⟩)
  · rename_i xs e
    obtain ⟨a, vs, rfl, ht, rs⟩ := vw_lst hS rx e
    exact .inr (.inr ⟨a, vs, rfl, .inl ht, fun p hp => hm _ _ _ _ _ _ _ hS hp (Rels.cut lo hi rs) h l⟩)
  · exact h.elim
section
variable {X : Cx} {W : WX} {e : Expr} {lo hi : Option Expr} {f : ET} {fl fu : EO} {g : GS} {r : V → Option Int → Option Int → Hp → VK → Prop} {pos p2 : Pos}
theorem e_sl (hr : SlR X r) (hg : SlD X.K r g) (he : PE X e (rdE X.K W f)) (hl : PO X lo (rdO X.K W fl)) (hu : PO X hi (rdO X.K W fu)) : PE X (.Subscript e (.Slice lo hi none p2) pos) (rdE X.K W (evSl g f fl fu)) :=
  PE_imp (pe_fz (pe_slice hr he hl hu)) fun σ H Q ⟨ρ, S, Qd, Ed, hρ, hS, hf, lq, lx⟩ => by
    refine ⟨ρ, S, _, Ed, hρ, hS, hf, fun d S1 v H1 e1 r1 q1 h1 => ?_, lx⟩
    refine ⟨ρ, S1, _, Ed, hρ.imm (e1.imm hS), r1, h1, fun o S2 H2 e2 r2 h2 => ?_, lx.mono e1⟩
    refine ⟨ρ, S2, _, Ed, (hρ.imm (e1.imm hS)).imm (e2.imm r1), r2, h2, fun o2 S3 H3 e3 r3 h3 => ?_, (lx.mono e1).mono e2⟩
    exact hg _ _ _ _ _ _ _ _ r3 (Rel.imm (e3.imm r2) _ _ (Rel.imm (e2.imm r1) _ _ q1)) h3 (((lq.mono e1).mono e2).mono e3)
end
section
variable {ρ : MP.Env} {S : Store} {Q : Post} {E : XPost} {f : ET} {fl fu : EO} {g : GS} {mk : MkT} {lo hi : Option Int} {QO : Option Int → Store → Prop}
theorem evSl_i (q : f ρ S (fun d S1 => fl ρ S1 (fun lo S2 => fu ρ S2 (fun hi S3 => g d lo hi S3 Q) E) E) E) : evSl g f fl fu ρ S Q E := q
theorem oNo_i (q : QO none S) : oNo ρ S QO E := q
theorem oPart_i (q : f ρ S (fun d S1 => onInt d fun i => QO (some i) S1) E) : oPart f ρ S QO E := q
theorem gSl_t {xs : List D} (q : Q (.tup (cutL xs lo hi)) S) : gSl mk (.tup xs) lo hi S Q := q
theorem gSl_s {z : Str} (e : z.length ≤ sizeLine) (q : Q (.str (cutS z lo hi)) S) : gSl mk (.str z) lo hi S Q := ⟨e, q⟩
theorem gSl_l {xs : List D} (q : mk (cutL xs lo hi) S Q) : gSl mk (.lst xs) lo hi S Q := q
end

/-! ### tuples joined, any -/
def rAddT (K : PySem.W.Frag) : R2 := fun x y H Q => rAddAll K x y H Q ∨ rCatA K x y H Q
theorem op_addT {X : Cx} : OpR X (binaryOp .Add) (rAddT X.K) := OpR.or op_addAll op_catA
def gAddT (mk : MkT) : G2 := fun x y S Q => match vw x S, vw y S with
  | .tup i, .tup j => i.length + j.length ≤ sizeLine ∧ Q (.tup (i ++ j)) S
  | _, _ => gAdd mk x y S Q
theorem d_addT {K : PySem.W.Frag} {mk : MkT} (hm : MkOk K mk) : OpD K (rAddT K) (gAddT mk) := by
  intro x y S H dx dy Qd Q hS rx ry h l
  unfold gAddT at h
  split at h
  · rename_i i j e1 e2
    obtain ⟨a, xs, rfl, ha, rs⟩ := vw_tup hS rx e1
    obtain ⟨b, ys, rfl, hb, rt⟩ := vw_tup hS ry e2
    have ra := Rels.append rs rt
    refine .inr ⟨a, b, xs, ys, rfl, rfl, ha, hb, by rw [← rs.length, ← rt.length]; exact h.1, fun z => ?_, fun _ z => ?_, fun _ _ p hp => .inl (new_tup hS hp ra h.2 l)⟩
    · subst z
      exact l.fz hS (d := .tup (i ++ j)) ⟨b, ys, rfl, hb, ra⟩ h.2
    · subst z
      rw [List.append_nil] at ra
      exact l.fz hS (d := .tup (i ++ j)) ⟨a, xs, rfl, ha, ra⟩ h.2
  · exact .inl (d_add hm x y S H dx dy Qd Q hS rx ry h l)
theorem gAddT_t {mk : MkT} {S : Store} {Q : Post} {xs ys : List D} (e : xs.length + ys.length ≤ sizeLine) (q : Q (.tup (xs ++ ys)) S) : gAddT mk (.tup xs) (.tup ys) S Q := ⟨e, q⟩

/-! ### a text some times -/
def repS (x : Str) (n : Int) : Str := if n < 1 then Str.empty else if (n == 1 || x.length == 0) = true then x else ⟨(List.replicate n.toNat x.cps).foldl (· ++ ·) #[]⟩
def rRepS : R2 := fun x y H Q => ∃ (z : Str) (n : Int), x = .str z ∧ y = .int n ∧ z.length ≤ 1000 ∧ -1000 ≤ n ∧ n ≤ 1000 ∧ (repS z n).length ≤ sizeLine ∧ Q (.str (repS z n)) H
theorem op_repS {X : Cx} : OpR X (binaryOp .Mult) rRepS := by
  intro pnl s σ H x y v u Q I rx ry h
  obtain ⟨z, n, rfl, rfl, hz, n0, n1, hl, q⟩ := h
  obtain ⟨t, rfl⟩ := rx
  obtain ⟨t', rfl⟩ := ry
  have big : (z.length * n.toNat : Nat) ≤ 1000000 := by
    have h1 : n.toNat ≤ 1000 := by omega
    exact Nat.le_trans (Nat.mul_le_mul hz h1) (by decide)
  refine P.mul_str ?_ ?_ ?_ ?_
  · rw [decide_eq_false (by omega : ¬ n < -(2 ^ 63 : Int)), decide_eq_false (by omega : ¬ n ≥ 2 ^ 63)]
    rfl
  · intro h1 _ h3
    have h4 : (1000 : Int) ≤ (2 ^ 63 - 1) / n := by
      rw [Int.le_ediv_iff_mul_le (by omega)]
      omega
    omega
  · intro h1 _
    show decide (z.length * n.toNat > sizeLine) = false
    exact decide_eq_false (by show ¬ z.length * n.toNat > 2 ^ 24; omega)
  · unfold repS at hl q
    split
    · rename_i c
      rw [if_pos c] at hl q
      exact ⟨hl, .str Str.empty, H, I.tok _, ⟨_, rfl⟩, q⟩
    · rename_i c
      rw [if_neg c] at hl q
      split
      · rename_i c2
        rw [if_pos c2] at hl q
        exact ⟨.str z, H, I.tok _, ⟨_, rfl⟩, q⟩
      · rename_i c2
        rw [if_neg c2] at hl q
        exact And.intro hl ⟨.str _, H, I.tok _, ⟨_, rfl⟩, q⟩
def rMulA : R2 := fun x y H Q => (∃ i j, x = .int i ∧ y = .int j ∧ CMul i j ∧ Q (.int (i * j)) H) ∨ rRepS x y H Q
theorem op_mulA {X : Cx} : OpR X (binaryOp .Mult) rMulA := OpR.or op_mul op_repS
def gMulA : G2 := fun x y S Q => match x, y with
  | .int i, .int j => CMul i j ∧ Q (.int (i * j)) S
  | .str z, .int n => z.length ≤ 1000 ∧ -1000 ≤ n ∧ n ≤ 1000 ∧ (repS z n).length ≤ sizeLine ∧ Q (.str (repS z n)) S
  | _, _ => False
theorem d_mulA {K : PySem.W.Frag} : OpD K rMulA gMulA := by
  intro x y S H dx dy Qd Q hS rx ry h l
  unfold gMulA at h
  split at h
  · exact .inl ⟨_, _, rx, ry, h.1, l.fz hS (d := .int _) rfl h.2⟩
  · exact .inr ⟨_, _, rx, ry, h.1, h.2.1, h.2.2.1, h.2.2.2.1, l.fz hS (d := .str _) rfl h.2.2.2.2⟩
  · exact h.elim

/-! ### dicts asked -/
def rInDct (neg : Bool) : R2 := fun x y H Q => ∃ a o, y = .ref a ∧ DGet H a x o ∧ Q (.bl (if neg then !o.isSome else o.isSome)) H
theorem op_inDct {X : Cx} (hu : X.A.units + 1 < cLine) : OpR X (compareOp .In) (rInDct false) := by
  intro pins s σ H x y v u Q I rx ry ⟨a, o, ey, g, q⟩
  subst ey
  cases ry
  exact L2.d_in hu I g rx fun s' J => ⟨.bl o.isSome, H, J, rfl, q⟩
theorem op_notInDct {X : Cx} (hu : X.A.units + 1 < cLine) : OpR X (compareOp .NotIn) (rInDct true) := by
  intro pins s σ H x y v u Q I rx ry ⟨a, o, ey, g, q⟩
  subst ey
  cases ry
  exact L2.d_notIn hu I g rx fun s' J => ⟨.bl (!o.isSome), H, J, rfl, q⟩
def rInB (K : PySem.W.Frag) (neg : Bool) : R2 := fun x y H Q => rInA K neg x y H Q ∨ rInDct neg x y H Q
theorem op_inB {X : Cx} (hu : X.A.units + 1 < cLine) : OpR X (compareOp .In) (rInB X.K false) := OpR.or op_inA (op_inDct hu)
theorem op_notInB {X : Cx} (hu : X.A.units + 1 < cLine) : OpR X (compareOp .NotIn) (rInB X.K true) := OpR.or op_notInA (op_notInDct hu)
theorem dget_rel {K : PySem.W.Frag} {S : Store} {H : Hp} {d x : D} {v y : V} {ks : List Key} {ds : List D} {k : Key} (hS : SRel K S H) (rd : Rel K H d v) (rx : Rel K H x y) (e : vw d S = .dct ks ds) (hk : keyD x = some k) :
    ∃ a o, v = .ref a ∧ DGet H a y o ∧ ((dlook ks ds k = none ∧ o = none) ∨ ∃ d' v', dlook ks ds k = some d' ∧ o = some v' ∧ Rel K H d' v') := by
  obtain ⟨a, xs, rfl, hr, hl, rs⟩ := vw_dct hS rd e
  have ey := keyD_rel rx hk
  subst ey
  refine ⟨a, valV (ks.zip xs) k, rfl, .inl ⟨_, k, hr, rfl, rfl⟩, ?_⟩
  rcases dlook_rel k rs hl with ⟨h1, h2⟩ | ⟨d', v', h1, h2, h3⟩
  · exact .inl ⟨h1, h2⟩
  · exact .inr ⟨d', v', h1, h2, h3⟩
def gInB (neg : Bool) : G2 := fun x y S Q => match vw y S with
  | .dct ks ds => match keyD x with
    | some k => Q (.bl (if neg then !(dlook ks ds k).isSome else (dlook ks ds k).isSome)) S
    | none => False
  | _ => gIn neg x y S Q
theorem d_inB {K : PySem.W.Frag} {neg : Bool} : OpD K (rInB K neg) (gInB neg) := by
  intro x y S H dx dy Qd Q hS rx ry h l
  unfold gInB at h
  split at h
  · rename_i ks ds e
    split at h
    · rename_i k hk
      obtain ⟨a, o, ea, g, c⟩ := dget_rel hS ry rx e hk
      refine .inr ⟨a, o, ea, g, ?_⟩
      have eo : (dlook ks ds k).isSome = o.isSome := by
        rcases c with ⟨h1, h2⟩ | ⟨_, _, h1, h2, _⟩
        · rw [h1, h2]; rfl
        · rw [h1, h2]; rfl
      rw [eo] at h
      exact l.fz hS (d := .bl _) rfl h
    · exact h.elim
  · exact .inl (d_in x y S H dx dy Qd Q hS rx ry h l)
def isDct (d : D) : Prop := match d with
  | .dct _ _ => True
  | _ => False
def gGet (d y z : D) (S : Store) (Q : Post) : Prop := match vw d S with
  | .dct ks ds => match keyD y with
    | some k => Q ((dlook ks ds k).getD z) S
    | none => False
  | _ => False
def evGet2 (f fy fz : ET) : ET := fun ρ S Q E => f ρ S (fun d S1 => isDct (vw d S1) ∧ fy ρ S1 (fun y S2 => fz ρ S2 (fun z S3 => gGet d y z S3 Q) E) E) E
theorem isDct_rel {K : PySem.W.Frag} {S : Store} {H : Hp} {d : D} {v : V} (hS : SRel K S H) (r : Rel K H d v) (h : isDct (vw d S)) : ∃ a, v = .ref a ∧ IsD H a := by
  cases e : vw d S with
  | dct ks ds =>
    obtain ⟨a, xs, ea, hr, _⟩ := vw_dct hS r e
    exact ⟨a, ea, .inl ⟨_, hr⟩⟩
  | _ => rw [e] at h; exact h.elim
section
variable {X : Cx} {W : WX} {o a b : Expr} {f fy fz : ET} {apos cpos : Pos}
theorem e_get2 (hu : X.A.units + 1 < cLine) (ho : PE X o (rdE X.K W f)) (hy : PE X a (rdE X.K W fy)) (hz : PE X b (rdE X.K W fz)) (m : M2 X o "get" apos a b cpos) : PE X (.Call (.Attribute o "get" apos) [a, b] [] cpos) (rdE X.K W (evGet2 f fy fz)) :=
  PE_imp (pe_dget2 hu ho hy hz m) fun σ H Q ⟨ρ, S, Qd, Ed, hρ, hS, hf, lq, lx⟩ => by
    refine ⟨ρ, S, _, Ed, hρ, hS, hf, fun d S1 v H1 e1 r1 q1 h1 => ?_, lx⟩
    obtain ⟨p, ep, isd⟩ := isDct_rel r1 q1 h1.1
    refine ⟨p, ep, isd, ρ, S1, _, Ed, hρ.imm (e1.imm hS), r1, h1.2, fun y S2 vy H2 e2 r2 q2 h2 => ?_, lx.mono e1⟩
    refine ⟨ρ, S2, _, Ed, (hρ.imm (e1.imm hS)).imm (e2.imm r1), r2, h2, fun z S3 vz H3 e3 r3 q3 h3 => ?_, (lx.mono e1).mono e2⟩
    replace h3 : gGet d y z S3 Qd := h3
    unfold gGet at h3
    cases e : vw d S3 with
    | dct ks ds =>
      rw [e] at h3
      cases hk : keyD y with
      | none => rw [hk] at h3; exact h3.elim
      | some k =>
        rw [hk] at h3
        have h4 : Qd ((dlook ks ds k).getD z) S3 := h3
        have rd := Rel.imm (e3.imm r2) _ _ (Rel.imm (e2.imm r1) _ _ q1)
        obtain ⟨p', o, ep', g, c⟩ := dget_rel r3 rd (Rel.imm (e3.imm r2) _ _ q2) e hk
        rw [ep] at ep'
        cases ep'
        refine ⟨o, g, ?_⟩
        have l3 := ((lq.mono e1).mono e2).mono e3
        rcases c with ⟨c1, c2⟩ | ⟨d', v', c1, c2, c3⟩
        · rw [c1] at h4
          rw [c2]
          exact l3.here r3 q3 h4
        · rw [c1] at h4
          rw [c2]
          exact l3.here r3 c3 h4
    | _ => rw [e] at h3; exact h3.elim
end
theorem evGet2_i {f fy fz : ET} {ρ : MP.Env} {S : Store} {Q : Post} {E : XPost} (q : f ρ S (fun d S1 => isDct (vw d S1) ∧ fy ρ S1 (fun y S2 => fz ρ S2 (fun z S3 => gGet d y z S3 Q) E) E) E) : evGet2 f fy fz ρ S Q E := q

/-! ### deep «in» -/
def rInC (K : PySem.W.Frag) (neg : Bool) : R2 := fun x y H Q => rInB K neg x y H Q ∨ ∃ d ds, Dp K H x d ∧ Dp K H y (.list ds) ∧ SeqAt.shaped d = true ∧ SeqAt.shaped (.list ds) = true ∧ Q (.bl (if neg then !(ds.any fun z => PyData.eqv z d) else (ds.any fun z => PyData.eqv z d))) H
theorem op_inC {X : Cx} (hu : X.A.units + 65 < cLine) : OpR X (compareOp .In) (rInC X.K false) := OpR.or (op_inB (by omega)) (op_inD hu)
theorem op_notInC {X : Cx} (hu : X.A.units + 65 < cLine) : OpR X (compareOp .NotIn) (rInC X.K true) := OpR.or (op_notInB (by omega)) (op_notInD hu)
def gInC (neg : Bool) : G2 := fun x y S Q => gInB neg x y S Q ∨ match toPy (vw x S), toPy (vw y S) with
  | some d, some (.list ds) => SeqAt.shaped d = true ∧ SeqAt.shaped (.list ds) = true ∧ Q (.bl (if neg then !(ds.any fun z => PyData.eqv z d) else (ds.any fun z => PyData.eqv z d))) S
  | _, _ => False
theorem d_inC {K : PySem.W.Frag} {neg : Bool} : OpD K (rInC K neg) (gInC neg) := by
  intro x y S H dx dy Qd Q hS rx ry h l
  rcases h with h | h
  · exact .inl (d_inB x y S H dx dy Qd Q hS rx ry h l)
  · split at h
    · rename_i d ds h1 h2
      exact .inr ⟨d, ds, toPy_vw hS rx h1, toPy_vw hS ry h2, h.1, h.2.1, l.fz hS (d := .bl _) rfl h.2.2⟩
    · exact h.elim
end MP

set_option Elab.async false
set_option linter.all false
set_option maxRecDepth 100000
set_option maxHeartbeats 2100000
/-! MPGuard: the law's def is run by the caller alone, so nothing is being shown there; repr of data. -/
namespace MP
open PySem PySem.Spec PyProof.Rows L2 MP
section
variable {P : Program} {w : World} {K : PySem.W.Frag} {mg : Str → Option Value}
/-- a def's promise where it is called with nothing being shown -/
def Quiet (P : Program) (w : World) (K : PySem.W.Frag) (mg : Str → Option Value) (base : Heap) (CX : CXT) (k : Nat) (f : Addr) (fd : FuncData) (ps : List Str) (sp : L2.Sp) : Prop :=
  ∀ (A : Around), A.guards = some [] → ∀ (outer : List PySem.Env) (s : Shared) (H : Hp) (args : Args) (us : List Value) (vs : List V) (Q : VK) (E : XK), Room k A → Env0 P w K mg base A outer s H → BindsTo s fd args (ps.zip us) → Vals vs us → sp vs H Q E →
    codeAny (model P w) A (.call (.ref f) args) ((CR CX outer P w H s) Q E) s
theorem deeper_guards (A : Around) (env : PySem.Env) : (A.deeper env).guards = A.guards := by
  first | rfl | (unfold Around.deeper; rfl)
theorem quiet_of {x qual : Str} {st : Stmt} {f : Addr} {fd : FuncData} {N ps : List Str} {k : Nat} {g : ST} {base : Heap} (F : Fun K x qual st f fd) (Sc : FnScope N ps (defScope st))
    (hb : ∀ (cdv : Value) (A : Around) (outer : List PySem.Env) (s : Shared) (H : Hp) (E : XK), A.guards = some [] → Room k (A.deeper (envOfC qual (defScope st) s.heap.objs.size f cdv)) →
      PSs (cxOf (L2.CX P w) P w K mg base N qual (defScope st) f cdv A outer s H E) (defBody st) (rdS K (Wd E) g)) : Quiet P w K mg base (L2.CX P w) (k + 1) f fd ps (spM K ps.length (runF N.length g)) := by
  have ⟨oc, od, kV, doc, pm, an, cdv, ct, osl, ed, lk, hcd⟩ := F.ex
  subst ed
  intro A hg outer s H args us vs Q E hr e0 bd rv ⟨ds, S, Qd, Ed, rds, hS, hl, hf, lq, lx⟩
  have kin : K.In s.heap := e0.mod.kin.keeps fun b o e => (e0.bs b o e).1
  have slots : ∀ y ∈ ps.zip us, (defScope st).names.lookup y.1 = some .local ∨ ((defScope st).names.lookup y.1 = some .cell ∧ ((cellsFrom (s.heap.objs.size + 1) (defScope st).names []).lookup y.1).isSome = true) := by
    rintro ⟨n, v⟩ hy
    exact (Sc.par n (List.of_mem_zip hy).1).imp id fun q => ⟨q, PySem.W.cellsFrom_some _ _ _ (.inl q)⟩
  apply codeAny_call_function hr.depth (kin _ _ lk) rfl Sc.co Sc.gen rfl (PySem.W.codeRec_of kin hcd) (bd _ _ _ _ ?_)
  apply wpAny_newFunctionEnv_cells Sc.kind slots
  rintro env rfl s1 made
  have full : vs.length = ps.length := by rw [← rds.length]; exact hl
  refine ⟨(e0.mod.nolimit.keeps fun b o e => (e0.bs b o e).1).keeps made.toInCall.keep, codeAny_func ?_⟩
  have inv : Inv (cxOf (L2.CX P w) P w K mg base N qual (defScope st) f cdv A outer s H E) [] (L2.start N vs) H s1 := inv_start Sc hr.hd e0 full rv made
  have body := hb cdv A outer s H E hg (hr.deeper _)
  have goal : rdS K (Wd E) g { nx := fun _ H' => Q .non H', rt := Q } (L2.start N vs) H := by
    refine ⟨_, S, _, ?_, hS, hf, ⟨fun ρ' S' σ' H' e r' k' h => lq .non S' .non H' e r' rfl h, lq, fun x ρ' S' c dd σ' H' e r' k' q h => lx x S' c dd H' e r' q h, fun _ _ _ _ _ _ _ h => h.elim, fun _ _ _ _ _ _ _ h => h.elim⟩⟩
    unfold L2.start
    rw [← rds.length]
    exact EnvR.start _ rds
  refine wpAny_mono (body.run [] s1 _ H _ inv goal) (fun fl s' done => ?_) fun _ _ z => z
  cases fl with
  | ret u =>
    have ⟨v, σ', H', J, rv', q⟩ := done
    exact ⟨v, H', J.os, J.bare, J.base, J.hok, rv', q⟩
  | next =>
    have ⟨σ', H', J, q⟩ := done
    exact ⟨.non, H', J.os, J.bare, J.base, J.hok, rfl, q⟩
  | brk => exact done.elim fun _ z => z.elim fun _ z => z.2.elim
  | cont => exact done.elim fun _ z => z.elim fun _ z => z.2.elim
end
/-! ### the law's row, of a def that is quiet at the caller -/
section
variable {P : Program} {w : World} {K : PySem.W.Frag} {mg mb : Str → Option Value} {CX : CXT} {k : Nat} {fa a : Addr} {fd : FuncData} {x : Str} {sp : L2.Sp} {s1 : Shared} {vs : List Value} {ns : List Int}
/-- the heap as the law's def finds it: the script alone may be known -/
theorem begin_heap (P : Program) (w : World) (KX : K.In s1.heap) (ha : s1.heap.get? a = some { cls := .type "list", data := .seq vs.toArray }) (hi : IntsAre vs ns) (hl : ns.length ≤ sizeLine) :
    ∃ H : Hp, Only H ∧ SqL K H a (ns.map V.int) ∧ HOk P w H s1.heap ∧ (∀ b, H b ≠ none → b = a ∧ K.lookup a = none) := by
  have rv := vals_ints hi
  cases hk : K.lookup a with
  | some o =>
    have e := KX a o hk
    rw [ha] at e
    have eo := Option.some.inj e
    subst eo
    refine ⟨fun _ => none, fun _ => .inl rfl, .inr ⟨_, vs.toArray, _, hk, rfl, rfl, rfl, ?_, by simpa using rv⟩, ?_, ?_⟩
    · rw [List.size_toArray]
      exact hi.length.symm ▸ hl
    · intro b u z
      cases (z : (none : Option HO) = some u)
    · intro b z
      exact absurd rfl z
  | none =>
    let it : HO := .frz { cls := .type "list", data := .seq vs.toArray } (.lst (ns.map V.int))
    have at_a : (fun b => if b = a then some it else none : Hp) a = some it := if_pos rfl
    have off : ∀ b, b ≠ a → (fun b => if b = a then some it else none : Hp) b = none := fun b h => if_neg h
    refine ⟨fun b => if b = a then some it else none, fun b => ?_, .inl (.inr ⟨_, at_a⟩), fun b u z => ?_, fun b z => ⟨Classical.byContradiction fun h => z (off b h), rfl⟩⟩
    · by_cases h : b = a
      · exact .inr ⟨_, _, by rw [h]; exact at_a⟩
      · exact .inl (off b h)
    · by_cases h : b = a
      · subst h
        have eu := Option.some.inj (at_a.symm.trans z)
        subst eu
        exact ⟨ha, (List.length_map ..).symm ▸ hl, vs, _, rv, ha⟩
      · exact nomatch (off b h).symm.trans z
theorem quiet_call (KX : K.In s1.heap) (hns : s1.heap.Ns mainGlobals mg) (hb : s1.heap.Ns builtinsNs mb) (hbb : ∀ x : Str, x ≠ "__name__" → mb x = bootBuiltins x) (noLim : s1.heap.NoLimit) (noGen : s1.gens = #[])
    (ha : s1.heap.get? a = some { cls := .type "list", data := .seq vs.toArray }) (hi : IntsAre vs ns) (hl : ns.length ≤ sizeLine) (hr : Room k callerA)
    (F : ∀ base : Heap, K.In base → base.Ns mainGlobals mg → Quiet P w K mg base CX k fa fd [x] sp) (hbind : ∀ (s : Shared) (u : Value), BindsTo s fd ⟨[u], []⟩ [(x, u)])
    (holds : ∀ H : Hp, Only H → SqL K H a (ns.map V.int) → sp [.ref a] H (fun v _ => v = .bl true) fun _ _ _ => False)
    (hCX : ∀ H e s', CX [] H s1 (fun _ _ _ => False) e s' → False) :
    codeAny (model P w) callerA (.call (.ref fa) ⟨[.ref a], []⟩) (fun r s' => r = .ok (.ret (.bool true)) ∧ OldK s1.heap s'.heap ∧ s'.os = s1.os ∧ AllBare s'.gens) s1 := by
  obtain ⟨H, hO, hS, hok, hA⟩ := begin_heap P w KX ha hi hl
  have clear : ∀ {b : Addr} {o : Obj} {es : Array DictEntry} {ep : Nat}, s1.heap.get? b = some o → o.data = .dict es ep → H b = none := fun {b o es ep} e d => Classical.byContradiction fun z => by
    have eb := (hA b z).1
    subst eb
    rw [ha] at e
    cases e
    exact nomatch (d : Data.seq vs.toArray _ = Data.dict es ep)
  have nsB : ∀ {b : Addr} {m : Str → Option Value}, s1.heap.Ns b m → (hidT s1.heap H).Ns b m := fun ⟨o, es, ep, e, d, r⟩ => ⟨o, es, ep, hidT_get e (clear e d), d, r⟩
  have inB : K.In (hidT s1.heap H) := fun b o e => hidT_get (KX b o e) (Classical.byContradiction fun z => by
    have ⟨eb, en⟩ := hA b z
    subst eb
    rw [en] at e
    exact nomatch e)
  have md : Mod K mg (hidT s1.heap H) := ⟨inB, nsB hns, ⟨mb, nsB hb, hbb⟩, let ⟨mc, h1, h2⟩ := noLim; ⟨mc, nsB h1, h2⟩⟩
  have e0 : Env0 P w K mg (hidT s1.heap H) callerA [] s1 H := ⟨rfl, md, fun b o e => of_hidT e, Nat.le_of_eq (hidT_size _ _), trivial, (fun b hb => absurd (show b ∈ ([] : List Addr) from hb) List.not_mem_nil), hok, .of_eq noGen⟩
  apply codeAny_mono (F _ inB (nsB hns) callerA rfl [] s1 H ⟨[.ref a], []⟩ [.ref a] [.ref a] _ _ hr e0 (hbind s1 (.ref a)) (.cons rfl .nil) (holds H hO hS))
  intro r s' h
  match r, h with
  | .error e, h => exact (hCX H e s' h).elim
  | .ok .next, h => exact h.elim
  | .ok .brk, h => exact h.elim
  | .ok .cont, h => exact h.elim
  | .ok (.ret u), ⟨v, H', os, bare, un, hok', r', q⟩ =>
    have ev : v = .bl true := q
    subst ev
    have eu : u = Value.bool true := r'
    subst eu
    refine ⟨rfl, .of_keep fun b o e => ?_, os, bare⟩
    cases q : H b with
    | none => exact un.keep b o e q (fun z => by cases (z : b ∈ ([] : List Addr))) (fun z => by cases z)
    | some u =>
      rcases hO b with z | ⟨ob, ys, z⟩
      · rw [q] at z
        cases z
      · have ⟨e1, _⟩ := hok b _ z
        have ⟨e2, _⟩ := hok' b _ (un.frzs b ob _ z)
        rw [e] at e1
        rw [Option.some.inj e1]
        exact e2
end
/-- the goal that the head leaves, from a def that is quiet at the caller -/
theorem walk_quiet {l : PySem.W.OpenLaw} {n k : Nat} {q : Program} {loose : List Str} {XP : (Str → Option Value) → Heap → Prop} {YP : World → Heap → Prop} {d : DefRec} {K : Params → PySem.W.Frag} {CX : World → CXT} {sp : World → L2.Sp} {x : Str}
    (hn : l.most = some n) (hn2 : n ≤ sizeLine) (hdf : d.params.defaults = []) (hr : Room k callerA) (inK : ∀ (w : World) (h : Heap), YP w h → (K w.params).In h)
    (F : ∀ (w : World) (mg : Str → Option Value) (fa : Addr) (h : Heap), (K w.params).In h → h.Ns mainGlobals mg → mg d.name = some (.ref fa) → ∃ fd : FuncData, (∀ (s : Shared) (u : Value), BindsTo s fd ⟨[u], []⟩ [(x, u)]) ∧ ∀ base : Heap, (K w.params).In base → base.Ns mainGlobals mg → Quiet l.prog w (K w.params) mg base (CX w) k fa fd [x] (sp w))
    (holds : ∀ (w : World) (H : Hp) (a : Addr) (ns : List Int), ns.length ≤ n → Only H → SqL (K w.params) H a (ns.map V.int) → sp w [.ref a] H (fun v _ => v = .bl true) fun _ _ _ => False)
    (noX : ∀ (w : World) (H : Hp) (s : Shared) (e : Value) (s' : Shared), CX w [] H s (fun _ _ _ => False) e s' → False) : PySem.W.WalkO q loose XP YP (l.row.toRowW) d [] (fun f vs => PySem.call f vs) := by
  apply Att.attach_call hn hdf
  intro w s₀ s₁ mg mb fa o pm cd doc a vs ns G Y ho hd hcd hmg hobj hints hlen hg
  have KX := inK w _ Y
  have ⟨fd, hb, hF⟩ := F w mg fa _ KX G.T.g hmg
  exact quiet_call KX G.T.g G.T.b G.T.builtins G.T.nolimit hg hobj hints (Nat.le_trans hlen hn2) hr hF hb (fun H hO hS => holds w H a ns hlen hO hS) fun H e s' => noX w H s₁ e s'
/-! ### repr of data -/
def rRepr (K : PySem.W.Frag) : List V → Hp → VK → Prop := fun xs H Q => ∃ v p, xs = [v] ∧ Dp K H v p ∧ p.showable = true ∧ p.hasDict = false ∧ p.depth ≤ 64 ∧ p.shown.length ≤ sizeLine ∧ Q (.str p.shown) H
theorem call_repr {X : Cx} (quiet : X.A.guards = some []) (hu : X.A.units + 66 < cLine) : CallR X (.builtin "repr") (rRepr X.K) := by
  intro pnl s σ H xs us Q I r ⟨v, p, ex, hd, show1, noD, dep, hz, q⟩
  subst ex
  obtain ⟨u, rfl, ru⟩ : ∃ u, us = [u] ∧ RelV v u := by
    cases r with
    | cons h t => cases t; exact ⟨_, rfl, h⟩
  obtain ⟨as, rd⟩ := Dp.reads I p v u hd ru
  cases v with
  | ref a =>
    cases ru
    exact repr_of_reads' rd show1 (PyData.noDict_hsm noD) quiet (by omega) (fun b o e => e) (fun h' t tk keep => ⟨.str p.shown, H, I.kept (t' := tk) keep, ⟨_, rfl⟩, q⟩) hz
  | non =>
    cases hd
    cases ru
    exact PySem.P.repr_of_none ⟨.str _, H, I.tok _, ⟨_, rfl⟩, q⟩
  | bl b =>
    cases hd
    cases ru
    exact PySem.P.repr_of_bool ⟨.str _, H, I.tok _, ⟨_, rfl⟩, q⟩
  | int i =>
    cases hd
    obtain ⟨t, rfl⟩ := ru
    exact PySem.P.repr_of_int (of_decide_eq_true show1) ⟨.str _, H, I.tok _, ⟨_, rfl⟩, q⟩
  | str x =>
    cases hd
    obtain ⟨t, rfl⟩ := ru
    exact PySem.P.repr_of_str ⟨.str _, H, I.tok _, ⟨_, rfl⟩, q⟩ hz
  | _ => cases hd
def gRepr : GA := fun ds S Q => match ds with
  | [d] => match toPy (vw d S) with
    | some p => p.showable = true ∧ p.hasDict = false ∧ p.depth ≤ 64 ∧ p.shown.length ≤ sizeLine ∧ Q (.str p.shown) S
    | none => False
  | _ => False
theorem d_repr {K : PySem.W.Frag} : CallD K (rRepr K) gRepr := by
  intro xs S H ds Qd Q hS r h l
  unfold gRepr at h
  split at h
  · obtain ⟨v, rfl, rv⟩ := rels1 r
    split at h
    · rename_i p e
      exact ⟨v, p, rfl, toPy_vw hS rv e, h.1, h.2.1, h.2.2.1, h.2.2.2.1, l.fz hS (d := .str _) rfl h.2.2.2.2⟩
    · exact h.elim
  · exact h.elim
theorem gRepr_i {d : D} {p : PyData} {S : Store} {Q : Post} (e : toPy (vw d S) = some p) (h1 : p.showable = true) (h2 : p.hasDict = false) (h3 : p.depth ≤ 64) (h4 : p.shown.length ≤ sizeLine) (q : Q (.str p.shown) S) : gRepr [d] S Q := by
  show (match toPy (vw d S) with
    | some p => p.showable = true ∧ p.hasDict = false ∧ p.depth ≤ 64 ∧ p.shown.length ≤ sizeLine ∧ Q (.str p.shown) S
    | none => False)
  rw [e]
  exact ⟨h1, h2, h3, h4, q⟩
end MP

set_option Elab.async false
set_option linter.all false
set_option maxRecDepth 100000
set_option maxHeartbeats 2100000
/-! MPEnum: enumerate over a tuple or a list; target tuples; three targets. -/
namespace MP
open PySem PySem.Spec PyProof.Rows L2 MP
/-! ### enumerate(t) -/
theorem meets_enum1 {v : Value} {o : Obj} {G : Heap → Prop} (B : Begins v o G) :
    Meets (Builtin.«enumerate.__new__» ⟨[.type "enumerate", v], []⟩) (fun _ R s => G s.heap ∧
      R (.ok (.ret (.ref (s.heap.push o).objs.size))) { s with heap := (s.heap.push o).push { cls := .type "enumerate", data := .fields #[.none, .bool false, .ref s.heap.objs.size, rawInt 0, .none, .none] } }) :=
  .of_wp fun prog w A R s ⟨g0, h⟩ => by
    obtain ⟨hp, gn, d, tk, os⟩ := s
    have hsub := sub_enumerate
    have walk : ∀ {A' : Around} {E : Value → Shared → Prop} {Q : Value → Shared → Prop}, Q (.ref hp.objs.size) ⟨hp.push o, gn, d, tk, os⟩ → wpAny (model prog w) A' (pyIter v) Q E ⟨hp, gn, d, tk, os⟩ :=
      fun q => B.iter prog w _ _ ⟨hp, gn, d, tk, os⟩ _ g0 q
    wp_walk using walk
    refine wpAny_stack_any fun _ => wpAny_pure ?_
    split
    · rename_i c _ _ _ _ _
      cases (c == Value.type "enumerate") <;> (wp_walk using walk; exact ⟨_, rfl, h⟩)
    · wp_walk using walk
      exact ⟨_, rfl, h⟩
theorem enum_one {prog : Program} {w : World} {A : Around} {E : Value → Shared → Prop} {s : Shared} {v : Value} {o : Obj} {G : Heap → Prop} {Q : Value → Shared → Prop} (B : Begins v o G) (g0 : G s.heap)
    (h : ∀ h', IsEnum h' (s.heap.objs.size + 1) s.heap.objs.size 0 .none → h'.get? s.heap.objs.size = some o → (∀ b ob, s.heap.get? b = some ob → h'.get? b = some ob) → Q (.ref (s.heap.objs.size + 1)) { s with heap := h' }) :
    wpAny (model prog w) A (call (.type "enumerate") [v]) Q E s := by
  apply callType_new F.called_enumerate (by decide) (F.typeCall_enumerate_1 _) (F.newCall_enumerate_1 _) (fun obj => F.args_object_init_2 obj _) F.entry_enumerate_new (meets_enum1 B)
  have sz : (s.heap.push o).objs.size = s.heap.objs.size + 1 := Heap.size_push ..
  have at2 := Heap.get?_push_size (s.heap.push o) (o := { cls := .type "enumerate", data := .fields #[.none, .bool false, .ref s.heap.objs.size, rawInt 0, .none, .none] }) rfl
  rw [sz] at at2
  refine ⟨g0, ?_⟩
  show _ ∧ _
  rw [sz]
  exact ⟨⟨_, at2, rfl⟩, h _ at2 (Heap.get?_push_of_some _ (Heap.get?_push_size _ B.free)) fun b ob x => Heap.get?_push_of_some _ (Heap.get?_push_of_some _ x)⟩
def IteT (K : PySem.W.Frag) (a : Addr) : It :=
  ⟨fun i H => ∃ (xs : List V) (x : V), SqT K H a xs ∧ xs[i]? = some x, fun i H v H' => ∃ T x, v = .ref T ∧ H T = none ∧ H' = upd H T (.tup [.int (i : Nat), x]) ∧ ∀ xs, SqT K H a xs → xs[i]? = some x, fun i H => ∃ xs : List V, SqT K H a xs ∧ xs.length = i⟩
theorem turn_enumT {P : Program} {w : World} {K : PySem.W.Frag} {elts : List Expr} {kk : Nat} {tpos : Pos} (a e it : Addr) :
    Turn P w K (.Tuple elts kk tpos) (IteT K a) [e, it] e (fun i h => (∃ old, IsEnum h e it ((i : Nat) : Int) old) ∧ h.IsTupleIter it a i ∧ e ≠ it ∧ a ≠ it ∧ a ≠ e) where
  mem := by simp
  obj := by
    rintro i h ⟨⟨old, he⟩, ⟨o, ho, hc, hd⟩, -⟩ b hb
    rcases (by simpa using hb : b = e ∨ b = it) with rfl | rfl
    · exact ⟨_, he, nofun⟩
    · exact ⟨o, ho, fun v q => (by rw [hd] at q; cases q)⟩
  keep := fun i h h' ⟨⟨old, he⟩, hi, ne⟩ k => ⟨⟨old, k e (by simp) _ he⟩, hi.at fun o q => k it (by simp) o q, ne⟩
  item := by
    intro X hP hw hK calm i pnl s σ H E I free ⟨⟨old, he⟩, hit, n1, n2, n3⟩ ⟨xs, x, hq, hx⟩
    subst hP hw hK
    have ⟨its, rv, p, hz⟩ := I.tuple hq
    have ⟨u, hu, ru⟩ := rv.get hx
    have lt : i < its.toArray.size := by
      have := (List.getElem?_eq_some_iff.mp hu).1
      simpa using this
    have le : e < s.heap.objs.size := Heap.lt_size he
    have li : it < s.heap.objs.size := let ⟨_, q, _⟩ := hit; Heap.lt_size q
    have D := Draws.tuple (prog := X.prog) (w := X.w) (A := X.A.in1) (I.ok.hd calm) it a n2 its.toArray
    apply wpAny_pyNext_enum_itemD D he ⟨hit, p⟩ lt n1 (by simp [n1, Ne.symm n3])
    intro y h' tk py out st hT hsz keep
    have ey : y = u := by
      have py' : its.toArray[i]? = some y := py
      have z : its[i]? = some y := by simpa using py'
      rw [hu] at z
      exact (Option.some.inj z).symm
    subst ey
    refine ⟨_, rfl, wpAny_letOwnedTupleGo_enum (s := { s with heap := h', toks := tk + 1 }) out fun h'' he' sb => ?_⟩
    have at3 : h''.get? s.heap.objs.size = some { cls := .type "tuple", data := .seq #[.int i tk, y] } := (sb.2 _ (Nat.ne_of_gt le)).trans hT
    have new : ObjOk X.prog X.w (upd H s.heap.objs.size (.tup [.int (i : Nat), x])) h'' s.heap.objs.size ((.tup [.int (i : Nat), x])) :=
      ⟨by show 2 ≤ sizeLine; decide, [.int i tk, y], .cons ⟨_, rfl⟩ (.cons ru .nil), ⟨_, at3, rfl, _, rfl⟩⟩
    have J : Inv X pnl σ (upd H s.heap.objs.size (.tup [.int (i : Nat), x])) { s with heap := h'', toks := tk + 1 } :=
      I.turnedNew (ch := [e, it]) (fun b ob hb q => (sb.2 b (fun z => hb (by simp [z]))).trans (keep b ob (fun z => hb (by simp [z])) (fun z => hb (by simp [z])) q)) free (Nat.le_refl _) new
    refine ⟨.ref s.heap.objs.size, _, J, rfl, ⟨_, x, rfl, I.hok.fresh (Nat.le_refl _), rfl, fun ys hy => ?_⟩, ⟨⟨y, ?_⟩, st.1.at fun o q => (sb.2 it (Ne.symm n1)).trans q, n1, n2, n3⟩, fun b hb => ?_⟩
    · rw [I.tuple_inj hy hq]
      exact hx
    · rw [show ((i + 1 : Nat) : Int) = (i : Int) + 1 by omega]
      exact he'
    · have lb : b < s.heap.objs.size := by
        rcases (by simpa using hb : b = e ∨ b = it) with rfl | rfl
        · exact le
        · exact li
      rw [upd_ne (Nat.ne_of_lt lb)]
      exact (free b hb).1
  done := by
    intro X hP hw hK calm i pnl s σ H E I free ⟨⟨old, he⟩, hit, n1, n2, n3⟩ ⟨xs, hq, hx⟩
    subst hP hw hK
    have ⟨its, rv, p, hz⟩ := I.tuple hq
    have ⟨f0, f1, f2, f3, f4, f5⟩ := free it (by simp)
    have all : its.toArray.size = i := by rw [List.size_toArray, ← rv.length]; exact hx
    have D := Draws.tuple (prog := X.prog) (w := X.w) (A := X.A.in1) (I.ok.hd calm) it a n2 its.toArray
    subst all
    exact wpAny_pyNext_enum_endD D he ⟨hit, p⟩ fun h' eb => ⟨rfl, I.turned (t' := s.toks) (fun b o hb q => eb b o hb q) f0 f1 f3 f4 f5⟩
  self := fun A i s Q E ⟨⟨_, he⟩, _⟩ h => wpAny_pyIter_enum he h
def iEnumV (K : PySem.W.Frag) (ta : TA) : TI := fun σ H R => ta σ H fun vs H1 => ∃ a xs, vs = [.ref a] ∧ SqT K H1 a xs ∧ R (IteT K a) H1
theorem pi_enumT {X : Cx} {e : Expr} {ta : TA} {p pos tpos : Pos} {elts : List Expr} {kk : Nat} (hg : Gl X "enumerate") (hm : X.mg "enumerate" = none) (ha : PA X [e] ta) (hs : starEach [e] X.env = [(false, eval e X.env)] := by rfl) :
    PI X (.Tuple elts kk tpos) (.Call (.Name "enumerate" p) [e] [] pos) (iEnumV X.K ta) := by
  constructor
  intro pnl s σ H R I h
  refine Call_ (ld_blt I hg hm boot_enumerate (PyProof.Rows.callWith_type1 (thn (ha.run pos pnl s σ H _ I h) ?_) hs rfl))
  rintro us s1 ⟨vs, H1, I1, r1, a, xs, rfl, hq, q⟩
  cases r1 with
  | cons r rr =>
    cases rr
    cases r
    have ⟨its, rv, tp, hz⟩ := I1.tuple hq
    have ⟨oa, ea, _⟩ := id tp
    have la : a < s1.heap.objs.size := Heap.lt_size ea
    apply enum_one (begins_tuple a its.toArray) tp
    intro h' he hi keep
    apply wpAny_pyIter_enum he
    have I2 : Inv X pnl σ H1 { s1 with heap := h' } := I1.kept (t' := s1.toks) keep
    refine ⟨s1.heap.objs.size + 1, [s1.heap.objs.size + 1, s1.heap.objs.size], _, _, H1, rfl, I2, turn_enumT a (s1.heap.objs.size + 1) s1.heap.objs.size, ⟨⟨.none, he⟩, ⟨_, hi, rfl, rfl⟩, Nat.succ_ne_self _, Nat.ne_of_lt la, Nat.ne_of_lt (Nat.lt_succ_of_lt la)⟩, fun b hb => ?_, q⟩
    have le : s1.heap.objs.size ≤ b := by
      rcases (by simpa using hb : b = s1.heap.objs.size + 1 ∨ b = s1.heap.objs.size) with rfl | rfl
      · exact Nat.le_succ _
      · exact Nat.le_refl _
    exact I1.fpOk le (I1.hok.fresh le)
def enumD (k : Nat) : List D → List D
  | [] => []
  | d :: r => .tup [.int (k : Nat), d] :: enumD (k + 1) r
theorem enumD_len (k : Nat) : ∀ ds : List D, (enumD k ds).length = ds.length
  | [] => rfl
  | d :: r => congrArg (· + 1) (enumD_len (k + 1) r)
theorem enumD_get (k : Nat) : ∀ (ds : List D) (i : Nat) (d : D), (enumD k ds)[i]? = some d → ∃ x, ds[i]? = some x ∧ d = .tup [.int ((k + i : Nat) : Int), x]
  | [], i, d, h => by cases i <;> cases h
  | x :: r, 0, d, h => ⟨x, rfl, (Option.some.inj h).symm⟩
  | x :: r, i + 1, d, h => by
    have ⟨y, e1, e2⟩ := enumD_get (k + 1) r i d h
    exact ⟨y, e1, by rw [e2, show k + 1 + i = k + (i + 1) by omega]⟩
theorem yields_enum {K : PySem.W.Frag} {H : Hp} {a : Addr} {ds : List D} {vs : List V} (h : SqT K H a vs) (rs : Rels K H ds vs) : Yields K (IteT K a) (enumD 0 ds) H where
  go := fun i H' hi im => by
    rw [enumD_len] at hi
    have ⟨v, ev, _⟩ := rs.get (i := i) (List.getElem?_eq_getElem hi)
    exact ⟨vs, v, im.sqT h, ev⟩
  stop := fun H' im => ⟨vs, im.sqT h, by rw [enumD_len, rs.length]⟩
  yld := fun i H' x H2 d ed im ⟨T, y, ex, hT, eH, hx⟩ => by
    have ⟨dx, edx, e⟩ := enumD_get 0 ds i d ed
    subst e ex eH
    have ⟨v, ev, rv⟩ := rs.get edx
    have e2 := hx vs (im.sqT h)
    rw [ev] at e2
    cases (Option.some.inj e2)
    refine ⟨.inr ⟨T, _, hT, rfl⟩, T, _, rfl, .inl (.inl upd_same), .int (i : Nat), [y], rfl, ?_, y, [], rfl, Rel.imm (im.trans (upd_imm hT)) _ _ rv, rfl⟩
    show V.int (i : Nat) = V.int ((0 + i : Nat) : Int)
    rw [Nat.zero_add]
def onTup (d : D) (k : List D → Prop) : Prop := match d with
  | .tup ds => k ds
  | _ => False
def iEnumD (fa : EA) : EI := fun ρ S Q E => fa ρ S (fun ds S1 => match ds with
  | [d] => onTup d fun xs => Q (enumD 0 xs) S1
  | _ => False) E
theorem i_enumT {X : Cx} {W : WX} {e : Expr} {fa : EA} {p pos tpos : Pos} {elts : List Expr} {kk : Nat} (hg : Gl X "enumerate") (hm : X.mg "enumerate" = none) (ha : PA X [e] (rdA X.K W 1 fa)) (hs : starEach [e] X.env = [(false, eval e X.env)] := by rfl) :
    PI X (.Tuple elts kk tpos) (.Call (.Name "enumerate" p) [e] [] pos) (rdI X.K W (iEnumD fa)) :=
  PI_imp (pi_enumT hg hm ha hs) fun σ H R ⟨ρ, S, Qd, Ed, hρ, hS, hf, y, lx⟩ => by
    refine ⟨ρ, S, _, Ed, hρ, hS, hf, fun ds S1 vs H1 e1 r1 q1 hl h1 => ?_, lx⟩
    dsimp only at h1
    split at h1
    · rename_i d
      obtain ⟨v, rfl, rv⟩ := Rels.one q1
      cases d with
      | tup xs =>
        obtain ⟨a, ws, rfl, ht, rs⟩ := rv
        exact ⟨a, ws, rfl, ht, y (enumD 0 xs) S1 _ H1 e1 r1 (yields_enum ht rs) h1⟩
      | _ => exact h1.elim
    · exact h1.elim

/-! ### target tuples in a comprehension -/
def TgsMono (t : TGs) : Prop := ∀ vs σ H Q Q', (∀ σ' H', Q σ' H' → Q' σ' H') → t vs σ H Q → t vs σ H Q'
theorem monos_nil : TgsMono gNil := fun vs σ H Q Q' i h => ⟨h.1, i _ _ h.2⟩
theorem monos_cons {t : TG} {u : TGs} (m : TgMono t) (n : TgsMono u) : TgsMono (gCons t u) := fun vs σ H Q Q' i ⟨v, r, e, h⟩ => ⟨v, r, e, m v σ H _ _ (fun σ' H' => n r σ' H' Q Q' i) h⟩
theorem mono_tup {K : PySem.W.Frag} {n : Nat} {t : TGs} (m : TgsMono t) : TgMono (gTup K n t) := fun v σ H Q Q' i ⟨a, xs, e, hq, hl, h⟩ => ⟨a, xs, e, hq, hl, m xs σ H Q Q' i h⟩
end MP

set_option Elab.async false
set_option linter.all false
set_option maxRecDepth 100000
set_option maxHeartbeats 2100000
/-! MPVar: a local name that holds a def is called; three targets; defs that call themselves. -/
namespace MP
open PySem PySem.Spec PyProof.Rows L2 MP
/-! ### a local name that holds a def -/
def onRef (o : Option D) (TB : Addr → Option DF) (k : DF → Prop) : Prop := match o with
  | some (.ref a) => (match TB a with
    | some F => k F
    | none => False)
  | _ => False
theorem onRef_i {o : Option D} {TB : Addr → Option DF} {k : DF → Prop} {a : Addr} {F : DF} (e : o = some (.ref a)) (h : TB a = some F) (q : k F) : onRef o TB k := by
  subst e
  show (match TB a with
    | some F => k F
    | none => False)
  rw [h]
  exact q
theorem onRef_inv {o : Option D} {TB : Addr → Option DF} {k : DF → Prop} (h : onRef o TB k) : ∃ a F, o = some (.ref a) ∧ TB a = some F ∧ k F := by
  unfold onRef at h
  split at h
  · rename_i a
    split at h
    · rename_i F e
      exact ⟨a, F, rfl, e, h⟩
    · exact h.elim
  · exact h.elim
def evCallV (TB : Addr → Option DF) (i : Nat) (fa : EA) : ET := fun ρ S Q E => onRef (lk ρ i) TB fun F => fa ρ S (fun ds S1 => F ds S1 Q E) E
theorem evCallV_i {TB : Addr → Option DF} {i : Nat} {fa : EA} {ρ : MP.Env} {S : Store} {Q : Post} {E : XPost} (q : onRef (lk ρ i) TB fun F => fa ρ S (fun ds S1 => F ds S1 Q E) E) : evCallV TB i fa ρ S Q E := q
section
variable {X : Cx} {W : WX} {i n : Nat} {x : Str} {p pos : Pos} {e : Expr} {es : List Expr} {kws : List Keyword} {fa : EA} {t : TA} {TB : Addr → Option DF} {E : L2.St → XK} {ps ks : List Str} {is : List Nat}
/-- each def of the table keeps its promise here -/
def TabOk (X : Cx) (n : Nat) (TB : Addr → Option DF) : Prop := ∀ f F, TB f = some F → ∃ (k : Nat) (fd : FuncData) (ps : List Str), FnOk X.prog X.w X.K X.mg X.base (L2.CX X.prog X.w) k f fd ps (spM X.K n F) ∧ Room k X.A ∧ PySem.W.keepIn X.K (.ref f) = true ∧ Binds X.K fd ps []
theorem pe_held (T : TabOk X n TB) (hN : X.N[i]? = some x) (hv : Vis X.env.scope x) (hx : ∀ σ, PassesAt (L2.CX X.prog X.w) X σ (E σ)) (ha : PA X (e :: es) t)
    (noDbg : (x == ("__debug__" : Str)) = false := by decide) (noCd : (x == ("__classdict__" : Str)) = false := by decide)
    (hst : starEach (e :: es) X.env = (false, eval e X.env) :: starEach es X.env := by rfl) (noStar : (backTo pos (starEach es X.env)).any (·.1) = false := by rfl) :
    PE X (.Call (.Name x p) (e :: es) [] pos) (fun σ H Q => ∃ f F, σ[i]? = some (some (.ref f)) ∧ TB f = some F ∧ t σ H fun vs H1 => spM X.K n F vs H1 Q (E σ)) := by
  constructor
  intro pnl s σ H Q I ⟨f, F, at_i, inT, ht⟩
  have ⟨k, fd, ps, ok, room, kp, bd⟩ := T f F inT
  apply wpAny_Call_Name_kw
  apply thn ((pe_var (pos := p) hN hv noDbg noCd).run pnl s σ H (fun v H1 => v = .ref f ∧ H1 = H) I ⟨.ref f, at_i, rfl, rfl⟩)
  rintro u s1 ⟨v, H1, I1, r1, rfl, rfl⟩
  cases r1
  refine PySem.W.callWith_K (h₀ := X.base) I.ok.mod.kin kp (thn (ha.run pos pnl s1 σ _ _ I1 ht) ?_) hst noStar
  rintro us s2 ⟨vs, H2, I2, r, q⟩
  exact ⟨I2.kIn, run_fnS ok room bd (hx σ) I2 r q⟩
theorem e_callV (T : TabOk X n TB) (hN : X.N[i]? = some x) (hv : Vis X.env.scope x) (tk : Takes X W) (ha : PA X (e :: es) (rdA X.K W n fa))
    (noDbg : (x == ("__debug__" : Str)) = false := by decide) (noCd : (x == ("__classdict__" : Str)) = false := by decide)
    (hst : starEach (e :: es) X.env = (false, eval e X.env) :: starEach es X.env := by rfl) (noStar : (backTo pos (starEach es X.env)).any (·.1) = false := by rfl) :
    PE X (.Call (.Name x p) (e :: es) [] pos) (rdE X.K W (evCallV TB i fa)) :=
  PE_imp (pe_held T hN hv (fun σ => passAt tk σ) ha noDbg noCd hst noStar) fun σ H Q ⟨ρ, S, Qd, Ed, hρ, hS, hf, lq, lx⟩ => by
    obtain ⟨a, F, ea, eF, hk⟩ := onRef_inv hf
    have ⟨v, ev, rv⟩ := hρ.get ea
    have e2 : v = .ref a := rv
    subst e2
    exact ⟨a, F, ev, eF, ρ, S, _, Ed, hρ, hS, hk, fun ds S1 vs H1 e1 r1 q1 hl h1 => ⟨ds, S1, Qd, Ed, q1, r1, hl, h1, lq.mono e1, lx.mono e1⟩, lx⟩
/-- .. by keywords alone -/
def TabOkK (X : Cx) (n m : Nat) (ks : List Str) (is : List Nat) (TB : Addr → Option DF) : Prop := ∀ f F, TB f = some F → ∃ (k : Nat) (fd : FuncData) (ps : List Str), FnOk X.prog X.w X.K X.mg X.base (L2.CX X.prog X.w) k f fd ps (spM X.K n F) ∧ Room k X.A ∧ PySem.W.keepIn X.K (.ref f) = true ∧ KBinds X.K fd ps ks (gK 0 m is) (gK 0 m is)
theorem pe_heldK {m : Nat} {tk : TA} (T : TabOkK X n m ks is TB) (hN : X.N[i]? = some x) (hv : Vis X.env.scope x) (hx : ∀ σ, PassesAt (L2.CX X.prog X.w) X σ (E σ)) (hkws : PK X kws tk)
    (hall : (backToKw pos (keywordEach kws X.env)).all (·.1.isSome) = true := by rfl) (hks : (backToKw pos (keywordEach kws X.env)).filterMap (·.1) = ks := by rfl)
    (noDbg : (x == ("__debug__" : Str)) = false := by decide) (noCd : (x == ("__classdict__" : Str)) = false := by decide)
    (noStar : ((backTo pos (starEach [] X.env)).any (·.1) || (backToKw pos (keywordEach kws X.env)).any (·.1.isNone)) = false := by rfl) :
    PE X (.Call (.Name x p) [] kws pos) (fun σ H Q => ∃ f F, σ[i]? = some (some (.ref f)) ∧ TB f = some F ∧ tk σ H fun zs H1 => spM X.K n F (gK 0 m is [] zs) H1 Q (E σ)) := by
  constructor
  intro pnl s σ H Q I ⟨f, F, at_i, inT, ht⟩
  have ⟨k, fd, ps, ok, room, kp, bd⟩ := T f F inT
  apply wpAny_Call_Name_kw
  apply thn ((pe_var (pos := p) hN hv noDbg noCd).run pnl s σ H (fun v H1 => v = .ref f ∧ H1 = H) I ⟨.ref f, at_i, rfl, rfl⟩)
  rintro u s1 ⟨v, H1, I1, r1, rfl, rfl⟩
  cases r1
  refine PySem.W.callWith_KW0 (h₀ := X.base) I.ok.mod.kin kp hall (thn (hkws.run pos pnl s1 σ _ _ I1 ht) ?_) noStar
  rintro ws s2 ⟨zs, H2, I2, rz, q⟩
  refine ⟨I2.kIn, ?_⟩
  rw [hks]
  exact run_fnkS ok room bd (hx σ) I2 .nil rz q
def evCallVK (TB : Addr → Option DF) (i : Nat) (is : List Nat) (fk : EA) : ET := fun ρ S Q E => onRef (lk ρ i) TB fun F => fk ρ S (fun zs S1 => F (pickL is zs) S1 Q E) E
theorem evCallVK_i {TB : Addr → Option DF} {is : List Nat} {fk : EA} {ρ : MP.Env} {S : Store} {Q : Post} {E : XPost} (q : onRef (lk ρ i) TB fun F => fk ρ S (fun zs S1 => F (pickL is zs) S1 Q E) E) : evCallVK TB i is fk ρ S Q E := q
theorem e_callVK {m : Nat} {fk : EA} (T : TabOkK X is.length m ks is TB) (hN : X.N[i]? = some x) (hv : Vis X.env.scope x) (tk : Takes X W) (hkws : PK X kws (rdA X.K W m fk)) (his : ∀ i ∈ is, i < m := by decide)
    (hall : (backToKw pos (keywordEach kws X.env)).all (·.1.isSome) = true := by rfl) (hks : (backToKw pos (keywordEach kws X.env)).filterMap (·.1) = ks := by rfl)
    (noDbg : (x == ("__debug__" : Str)) = false := by decide) (noCd : (x == ("__classdict__" : Str)) = false := by decide)
    (noStar : ((backTo pos (starEach [] X.env)).any (·.1) || (backToKw pos (keywordEach kws X.env)).any (·.1.isNone)) = false := by rfl) :
    PE X (.Call (.Name x p) [] kws pos) (rdE X.K W (evCallVK TB i is fk)) :=
  PE_imp (pe_heldK T hN hv (fun σ => passAt tk σ) hkws hall hks noDbg noCd noStar) fun σ H Q ⟨ρ, S, Qd, Ed, hρ, hS, hf, lq, lx⟩ => by
    obtain ⟨a, F, ea, eF, hk⟩ := onRef_inv hf
    have ⟨v, ev, rv⟩ := hρ.get ea
    have e2 : v = .ref a := rv
    subst e2
    refine ⟨a, F, ev, eF, ρ, S, _, Ed, hρ, hS, hk, fun ds S1 vs H1 e1 r1 q1 hl h1 => ⟨pickL is ds, S1, Qd, Ed, ?_, r1, ?_, h1, lq.mono e1, lx.mono e1⟩, lx⟩
    · unfold gK
      rw [if_pos ⟨rfl, by rw [← q1.length, hl]⟩]
      exact Rels.pick q1 is
    · exact pick_length fun i hi => by rw [hl]; exact his i hi
end
/-! ### three targets -/
def dPar3 (i j l : Nat) (fa : EA) : ST := fun ρ S N => fa ρ S (fun ds S' => match ds with
  | [x, y, z] => N.nx (st (st (st ρ i (some x)) j (some y)) l (some z)) S'
  | _ => False) (fun x S' => N.ex x ρ S')
theorem dPar3_i {i j l : Nat} {fa : EA} {ρ : MP.Env} {S : Store} {N : DEnds} (q : fa ρ S (fun ds S' => match ds with
  | [x, y, z] => N.nx (st (st (st ρ i (some x)) j (some y)) l (some z)) S'
  | _ => False) (fun x S' => N.ex x ρ S')) : dPar3 i j l fa ρ S N := q
theorem s_par3 {X : Cx} {W : WX} {fa : EA} {i j l : Nat} {x y z : Str} {a b c : Expr} {px py pz pt pos : Pos} {kt k2 pt2} (hc : X.calm = true) (hN : X.N.Nodup) (hi : X.N[i]? = some x) (hj : X.N[j]? = some y) (hl : X.N[l]? = some z) (hij : i ≠ j) (hil : i ≠ l) (hjl : j ≠ l)
    (hx : X.env.scope.names.lookup x = some .local) (hy : X.env.scope.names.lookup y = some .local) (hz : X.env.scope.names.lookup z = some .local) (ha : PA X [a, b, c] (rdA X.K W 3 fa))
    (hSw : swappedStores [.Tuple [.Name x px, .Name y py, .Name z pz] kt pt] (.Tuple [a, b, c] k2 pt2) X.env = pure (some [x, y, z]))
    (hSole : swapsWithSole [.Tuple [.Name x px, .Name y py, .Name z pz] kt pt] (.Tuple [a, b, c] k2 pt2) pos.line X.env = pure false := by rfl) :
    PS X (.Assign [.Tuple [.Name x px, .Name y py, .Name z pz] kt pt] (.Tuple [a, b, c] k2 pt2) pos) (rdS X.K W (dPar3 i j l fa)) :=
  PS_imp (ps_par3 hc hN hi hj hl hij hil hjl hx hy hz ha hSw hSole) fun D σ H ⟨ρ, S, N, hρ, hS, hf, ln⟩ => by
    refine ⟨ρ, S, _, _, hρ, hS, hf, fun ds S1 vs H1 e1 r1 q1 hl h1 => ?_, ln.lx hS hρ⟩
    dsimp only at h1
    split at h1
    · rename_i x1 y1 z1
      obtain ⟨v, r, rfl, k1, v2, r2, rfl, k2, v3, r3, rfl, k3, w⟩ := q1
      have w' : r3 = [] := w
      subst w'
      exact ⟨v, v2, v3, rfl, ln.nx _ S1 _ H1 e1 r1 ((((hρ.imm (e1.imm hS)).set k1 i).set k2 j).set k3 l) h1⟩
    · exact h1.elim
/-! ### defs that call themselves: out of fuel nothing is promised -/
def dNone : DF := fun _ _ _ _ => False
theorem fn_none {P : Program} {w : World} {K : PySem.W.Frag} {mg : Str → Option Value} {base : Heap} {CX : CXT} {k n : Nat} {f : Addr} {fd : FuncData} {ps : List Str} (h : ps.length = n) : FnOk P w K mg base CX k f fd ps (spM K n dNone) where
  len := fun vs H Q E ⟨ds, S, Qd, Ed, r, hS, hl, hf, _⟩ => hf.elim
  run := fun A outer s H args us vs Q E hr e0 bd rv ⟨ds, S, Qd, Ed, r, hS, hl, hf, _⟩ => hf.elim
/-! ### the module's constants; room -/
theorem e_glob {X : Cx} {W : WX} {x : Str} {d : D} {pos : Pos} (hg : Gl X x) (h : ∃ u v, X.mg x = some u ∧ RelV v u ∧ ∀ H, Rel X.K H d v) (noDbg : (x == ("__debug__" : Str)) = false := by decide) : PE X (.Name x pos) (rdE X.K W (evC d)) :=
  let ⟨_, _, hm, r, rel⟩ := h
  e_const (pe_glob hg hm r noDbg) rel
theorem hu65 {A : Around} {k : Nat} (hr : Room k A) : A.units + 65 < cLine := by have := hr.un; omega
theorem hu66 {A : Around} {k : Nat} (hr : Room k A) : A.units + 66 < cLine := by have := hr.un; omega
theorem bools_inC {K : PySem.W.Frag} {neg : Bool} : Bools (rInC K neg) := by
  intro x y H Q h
  rcases h with (h | ⟨a, o, e, g, q⟩) | ⟨d, ds, h1, h2, h3, h4, q⟩
  · exact .inl (.inl (bools_in x y H Q h))
  · exact .inl (.inr ⟨a, o, e, g, fz_bl q⟩)
  · exact .inr ⟨d, ds, h1, h2, h3, h4, fz_bl q⟩
end MP

set_option Elab.async false
set_option linter.all false
set_option maxRecDepth 100000
set_option maxHeartbeats 2100000
/-! MPLive: a list of the store times a number; a list of the store that is walked while nobody changes it. -/
namespace MP
open PySem PySem.Spec PyProof.Rows L2 MP
theorem Rels.flat {K : PySem.W.Frag} {H : Hp} {ds : List D} {vs : List V} (r : Rels K H ds vs) : ∀ n : Nat, Rels K H (List.replicate n ds).flatten (List.replicate n vs).flatten
  | 0 => rfl
  | n + 1 => by
    rw [List.replicate_succ, List.replicate_succ, List.flatten_cons, List.flatten_cons]
    exact Rels.append r (Rels.flat r n)
def rMulB : R2 := fun x y H Q => rMulA x y H Q ∨ rRep x y H Q
theorem op_mulB {X : Cx} : OpR X (binaryOp .Mult) rMulB := OpR.or op_mulA op_rep
def gMulB (mk : MkT) : G2 := fun x y S Q => gMulA x y S Q ∨ match y with
  | .int k => onL x S fun _ xs => -(2 ^ 63) ≤ k ∧ k < 2 ^ 63 ∧ xs.length * k.toNat ≤ sizeLine ∧ mk (List.replicate k.toNat xs).flatten S Q
  | _ => False
theorem d_mulB {K : PySem.W.Frag} {mk : MkT} (hm : MkOk K mk) : OpD K rMulB (gMulB mk) := by
  intro x y S H dx dy Qd Q hS rx ry h l
  rcases h with h | h
  · exact .inl (d_mulA x y S H dx dy Qd Q hS rx ry h l)
  · split at h
    · rename_i k
      obtain ⟨a, ds, xs, ea, e1, e2, rs, h1, h2, h3, h4⟩ := onL_rel hS rx h
      exact .inr ⟨a, k, xs, ea, ry, e2, h1, h2, by rw [← rs.length]; exact h3, fun p hp => hm _ _ _ _ _ _ _ hS hp (Rels.flat rs _) h4 l⟩
    · exact h.elim
theorem gMulB_l {mk : MkT} {a : Addr} {k : Int} {xs : List D} {S : Store} {Q : Post} (h : S a = some (.lst xs)) (h1 : -(2 ^ 63) ≤ k) (h2 : k < 2 ^ 63) (h3 : xs.length * k.toNat ≤ sizeLine) (q : mk (List.replicate k.toNat xs).flatten S Q) : gMulB mk (.ref a) (.int k) S Q := by
  refine .inr ?_
  show onL (.ref a) S _
  unfold onL
  simp only [h]
  exact ⟨h1, h2, h3, q⟩
theorem gMulB_i {mk : MkT} {i j : Int} {S : Store} {Q : Post} (e : CMul i j) (q : Q (.int (i * j)) S) : gMulB mk (.int i) (.int j) S Q := .inl ⟨e, q⟩
/-! ### a list of the store, walked while it stays as it is -/
def live (L : Addr) (all : List D) (g : DG) (t : EB) (f : ET) (Q : List D → Store → Prop) : List D → List D → MP.Env → Store → Prop
  | [], acc, _, S => S L = some (.lst all) ∧ Q acc S
  | d :: ds, acc, ρ, S => S L = some (.lst all) ∧ g d ρ S fun ρ1 S1 => t ρ1 S1 (fun b S2 => if b = true then f ρ1 S2 (fun y S3 => acc.length < sizeLine ∧ live L all g t f Q ds (acc ++ [y]) ρ S3) (fun _ _ => False) else live L all g t f Q ds acc ρ S2) (fun _ _ => False)
def evLive (mk : MkT) (j : Nat) (g : DG) (t : EB) (f : ET) (vs : List Nat) : ET := fun ρ S Q _ => match lk ρ j with
  | some (.ref a) => (match S a with
    | some (.lst ds) => live a ds g t f (fun acc S2 => mk acc S2 Q) ds [] (wipeD ρ vs) S
    | _ => False)
  | _ => False
theorem live_inv {mk : MkT} {j : Nat} {g : DG} {t : EB} {f : ET} {vs : List Nat} {ρ : MP.Env} {S : Store} {Q : Post} {E : XPost} (h : evLive mk j g t f vs ρ S Q E) : ∃ a ds, lk ρ j = some (.ref a) ∧ S a = some (.lst ds) ∧ live a ds g t f (fun acc S2 => mk acc S2 Q) ds [] (wipeD ρ vs) S := by
  unfold evLive at h
  cases e : lk ρ j with
  | none => rw [e] at h; exact h.elim
  | some d =>
    rw [e] at h
    cases d with
    | ref a =>
      replace h : (match S a with
        | some (.lst ds) => live a ds g t f (fun acc S2 => mk acc S2 Q) ds [] (wipeD ρ vs) S
        | _ => False) := h
      cases e2 : S a with
      | none => rw [e2] at h; exact h.elim
      | some o =>
        rw [e2] at h
        cases o with
        | lst ds => exact ⟨a, ds, rfl, e2, h⟩
        | _ => exact h.elim
    | _ => exact h.elim
theorem evLive_i {mk : MkT} {j : Nat} {g : DG} {t : EB} {f : ET} {vs : List Nat} {ρ : MP.Env} {S : Store} {Q : Post} {E : XPost} {a : Addr} {ds : List D} (e : lk ρ j = some (.ref a)) (h : S a = some (.lst ds)) (q : live a ds g t f (fun acc S2 => mk acc S2 Q) ds [] (wipeD ρ vs) S) : evLive mk j g t f vs ρ S Q E := by
  unfold evLive
  rw [e]
  show (match S a with
    | some (.lst ds) => live a ds g t f (fun acc S2 => mk acc S2 Q) ds [] (wipeD ρ vs) S
    | _ => False)
  rw [h]
  exact q
theorem lc_live {K : PySem.W.Frag} {W W1 W2 : WX} {mk : MkT} {j : Nat} (hm : MkOk K mk) {g : DG} {tg : TG} {t : EB} {f : ET} {vs : List Nat} (hmono : TgMono tg) (htg : TgOk K vs tg g) (σ : L2.St) (H : Hp) (Q : VK)
    (h : rdE K W (evLive mk j g t f vs) σ H Q) : tFz (tLc (iSeqV K (tVar j)) tg (rdB K W1 t) (rdE K W2 f) vs) σ H Q := by
  obtain ⟨ρ, S1, Qd, Ed, hρ, r1, hf, lq, lx⟩ := h
  obtain ⟨L, ds, eL, sL, h1⟩ := live_inv hf
  have ⟨vL, aL, rL⟩ := hρ.get eL
  have eV : vL = .ref L := rL
  subst eV
  have atL : ∀ {S' : Store} {H' : Hp}, SRel K S' H' → S' L = some (.lst ds) → ∃ xs, SqL K H' L xs ∧ Rels K H' ds xs := fun r e => let ⟨xs, hx, rs⟩ := r L _ e; ⟨xs, .inl (.inl hx), rs⟩
  have hS := r1
  have e1 : Evo S1 H S1 H := Evo.refl _ _
  obtain ⟨xs0, q0, rs0⟩ := atL r1 sL
  refine ⟨.ref L, aL, .inl ⟨L, xs0, rfl, q0, ?_⟩⟩
  intro D hD
  have iD : ∀ o, Imm H (upd H D o) := fun o => upd_imm hD
  have hρ1 : EnvR K H (wipeD ρ vs) (L2.wipe σ vs) := (hρ.imm (e1.imm hS)).wipe vs
  have lq1 := lq.mono e1
  refine ⟨fun i m H' => m = ds.length - i ∧ i ≤ ds.length ∧ ∃ S' acc accV, SRel K S' H' ∧ Evo S1 H S' H' ∧ S' D = none ∧ H' D = some (.lst accV) ∧ Rels K H' acc accV ∧ live L ds g t f (fun acc S2 => mk acc S2 Qd) (ds.drop i) acc (wipeD ρ vs) S',
    ⟨ds.length, by simp, Nat.zero_le _, S1, [], [], r1.upd_new hD, evo_new hD, r1.free hD, upd_same, rfl, h1⟩, ?_⟩
  rintro i m H' ⟨rfl, hle, S', acc, accV, r', e', nD, eD, ra, h'⟩
  have im : Imm H H' := e'.imm r1
  by_cases hlt : i < ds.length
  · rw [drop_cons hlt] at h'
    obtain ⟨sl, h'⟩ := h'
    obtain ⟨xs', q', rs'⟩ := atL r' sl
    have ⟨v0, ev0, rv0⟩ := rs'.get (i := i) (List.getElem?_eq_getElem hlt)
    refine .inr ⟨⟨xs', v0, q', ev0⟩, _, fun H2 z => ⟨ds.length - (i + 1), by omega, rfl, hlt, z⟩, fun x H2 hy => ?_⟩
    obtain ⟨ex, rx⟩ : Ext H' H2 ∧ Rel K H2 ds[i] x := by
      obtain ⟨e, hx⟩ := hy
      have e2 := hx xs' q'
      rw [ev0] at e2
      cases Option.some.inj e2
      subst e
      exact ⟨.inl rfl, rv0⟩
    have e2 := ex.evo S'
    have r2 := ex.srel r'
    have z := htg x (L2.wipe σ vs) H2 (wipeD ρ vs) S' ds[i] _ (hρ1.imm ((e'.trans e2).imm r1)) rx h'
    refine hmono _ _ _ _ _ (fun σ3 H3 z => ?_) z
    obtain ⟨rfl, w, ρ3, k3, q3⟩ := z
    refine ⟨w.trans (wipe_idem _ _), ρ3, S', _, _, k3, r2, q3, fun b S4 H4 e4 r4 h4 => ?_, fun _ _ _ _ _ _ _ _ z => z.elim⟩
    have D2 : H3 D = some (.lst accV) := e2.keep D _ eD nD
    have D4 : H4 D = some (.lst accV) := e4.keep D _ D2 nD
    have nD4 : S4 D = none := by
      cases q : S4 D with
      | none => rfl
      | some u => have z := e4.new D nD (by rw [q]; exact fun z => nomatch z); rw [D2] at z; cases z
    have e14 := (e'.trans e2).trans e4
    cases b with
    | false =>
      rw [if_neg Bool.false_ne_true] at h4
      refine L2.iteF ?_
      exact ⟨S4, acc, accV, r4, e14, nD4, D4, Rels.imm ((e2.trans e4).imm r') _ _ ra, h4⟩
    | true =>
      rw [if_pos rfl] at h4
      refine L2.iteT ?_
      refine ⟨ρ3, S4, _, _, k3.imm (e4.imm r2), r4, h4, fun d S5 v H5 e5 r5 q5 h5 => ?_, fun _ _ _ _ _ _ _ _ z => z.elim⟩
      have D5 : H5 D = some (.lst accV) := e5.keep D _ D4 nD4
      have nD5 : S5 D = none := by
        cases q : S5 D with
        | none => rfl
        | some u => have z := e5.new D nD4 (by rw [q]; exact fun z => nomatch z); rw [D4] at z; cases z
      have ra5 : Rels K H5 acc accV := Rels.imm (((e2.trans e4).trans e5).imm r') _ _ ra
      have iU : Imm H5 (upd H5 D (.lst (accV ++ [v]))) := upd_immS D5 rfl
      refine ⟨accV, D5, by rw [← ra5.length]; exact h5.1, S5, acc ++ [d], accV ++ [v], fun b u q => ?_, ⟨fun b o q n => ?_, (e14.trans e5).new⟩, nD5, upd_same, Rels.append (Rels.imm iU _ _ ra5) (Rels.mk1 (Rel.imm iU _ _ q5)), h5.2⟩
      · have hb : b ≠ D := fun z => by subst z; rw [nD5] at q; cases q
        exact (r5 b u q).imm iU fun w q => by rw [upd_ne hb]; exact q
      · have hb : b ≠ D := fun z => by subst z; rw [hD] at q; cases q
        rw [upd_ne hb]
        exact (e14.trans e5).keep b o q n
  · have ei : i = ds.length := by omega
    subst ei
    rw [List.drop_length] at h'
    obtain ⟨sl, h'⟩ := h'
    obtain ⟨xs', q', rs'⟩ := atL r' sl
    refine .inl ⟨⟨xs', q', by rw [rs'.length]; exact Nat.le_refl _⟩, ?_⟩
    have id : Imm H' (delH' H' D) := fun b o q mq => by
      have hb : b ≠ D := fun z => by subst z; rw [eD] at q; cases q; cases mq
      exact (if_neg hb : delH' H' D b = H' b).trans q
    have rd : SRel K S' (delH' H' D) := fun b u q => by
      have hb : b ≠ D := fun z => by subst z; rw [nD] at q; cases q
      exact (r' b u q).imm id fun w q => (if_neg hb : delH' H' D b = H' b).trans q
    have ed : Evo S1 H S' (delH' H' D) := ⟨fun b o q n => by
      have hb : b ≠ D := fun z => by subst z; rw [hD] at q; cases q
      exact (if_neg hb : delH' H' D b = H' b).trans (e'.keep b o q n), e'.new⟩
    have fin := hm S' (delH' H' D) acc accV D Qd Q rd (if_pos rfl) (Rels.imm id _ _ ra) h' (lq1.mono ed)
    rw [delH'_upd eD] at fin
    exact fin
section
variable {X : Cx} {W W1 W2 : WX} {pos : Pos} {elt tg : Expr} {ifs : List Expr} {scope : Scope} {own : List (Str × Nat)} {g : DG} {tt : TG} {t : EB} {f : ET} {mk : MkT}
theorem e_live {j : Nat} {x : Str} {px : Pos} (hm : MkOk X.K mk) (hc : X.calm = true) (hN : X.N.Nodup) (hv : PE X (.Name x px) (tVar j)) (ok : BlkOk X.N X.env.scope scope own) (hmono : TgMono tt) (htg : TgOk X.K (own.map (·.2)) tt g)
    (hg : ∀ (s : Shared) (H : Hp) (C : Addr) (cl : List (Str × Addr)) (fp : List Addr), PG (X.blk s H scope (compEnvC scope cl C X.env) fp) tg tt) (ht : ∀ (s : Shared) (H : Hp) (C : Addr) (cl : List (Str × Addr)) (fp : List Addr), PTs (X.blk s H scope (compEnvC scope cl C X.env) fp) ifs (rdB X.K W1 t))
    (he : ∀ (s : Shared) (H : Hp) (C : Addr) (cl : List (Str × Addr)) (fp : List Addr), PE (X.blk s H scope (compEnvC scope cl C X.env) fp) elt (rdE X.K W2 f)) (hs : ∀ y, foldedSetIterable (.Name x px) X.env y = pure y := by intro _; rfl) :
    PE X (.ListComp elt [⟨tg, .Name x px, ifs, 0⟩] scope pos) (rdE X.K W (evLive mk j g t f (own.map (·.2)))) :=
  PE_imp (pe_fz (pe_lc hc hN (pi_seq hv) ok hg ht he hs)) (lc_live hm hmono htg)
end
end MP

set_option Elab.async false
set_option linter.all false
set_option maxRecDepth 100000
set_option maxHeartbeats 2100000
/-! MPStepB: more lemmas to step through a mirror. -/
namespace MP
open PySem PySem.Spec PyProof.Rows L2 MP
variable {ρ : MP.Env} {S : Store} {Q : Post} {E : XPost} {d x y : D} {i j : Int} {mk : MkT}
theorem gAddT_i (q : Q (.int (i + j)) S) : gAddT mk (.int i) (.int j) S Q := q
theorem gAddT_s {a b : Str} (e : a.length + b.length ≤ sizeLine) (q : Q (.str (a ++ b)) S) : gAddT mk (.str a) (.str b) S Q := ⟨e, q⟩
theorem gAddT_l {a b : List D} (e : a.length + b.length ≤ sizeLine) (q : mk (a ++ b) S Q) : gAddT mk (.lst a) (.lst b) S Q := ⟨e, q⟩
theorem gLen_s {z : Str} (e : z.length ≤ sizeLine) (q : Q (.int z.length) S) : gLen [.str z] S Q := ⟨e, q⟩
/-- a value without a thing of the store or of the module at its head -/
def tyN : D → String
  | .non => "NoneType"
  | .bl _ => "bool"
  | .int _ => "int"
  | .str _ => "str"
  | .tup _ => "tuple"
  | .lst _ => "list"
  | .dct _ _ => "dict"
  | _ => ""
def Val : D → Prop
  | .non => True
  | .bl _ => True
  | .int _ => True
  | .str _ => True
  | .tup _ => True
  | .lst _ => True
  | .dct _ _ => True
  | _ => False
theorem Val.vw (h : Val d) : vw d S = d := by cases d <;> first | exact h.elim | rfl
theorem isi_v {sub : Value → Value → Option Bool} {ex : Addr → Bool} {n : String} {b : Bool} (h : Val d) (eb : kitB (tyN d) n = some b) (q : Q (.bl b) S) : gIsi sub ex [d, .ty n] S Q := by
  cases d <;> first | exact h.elim | exact gIsi_t rfl rfl eb q
def isStr : D → Bool
  | .str _ => true
  | _ => false
def isTup : D → Bool
  | .tup _ => true
  | _ => false
def isLst : D → Bool
  | .lst _ => true
  | _ => false
def isBl : D → Bool
  | .bl _ => true
  | _ => false
def isNum : D → Bool
  | .int _ => true
  | .bl _ => true
  | _ => false
theorem isi_str {sub : Value → Value → Option Bool} {ex : Addr → Bool} (h : Val d) (q : Q (.bl (isStr d)) S) : gIsi sub ex [d, .ty "str"] S Q := by
  cases d <;> first | exact h.elim | exact isi_v h rfl q
theorem isi_tup {sub : Value → Value → Option Bool} {ex : Addr → Bool} (h : Val d) (q : Q (.bl (isTup d)) S) : gIsi sub ex [d, .ty "tuple"] S Q := by
  cases d <;> first | exact h.elim | exact isi_v h rfl q
theorem isi_lst {sub : Value → Value → Option Bool} {ex : Addr → Bool} (h : Val d) (q : Q (.bl (isLst d)) S) : gIsi sub ex [d, .ty "list"] S Q := by
  cases d <;> first | exact h.elim | exact isi_v h rfl q
theorem isi_bl {sub : Value → Value → Option Bool} {ex : Addr → Bool} (h : Val d) (q : Q (.bl (isBl d)) S) : gIsi sub ex [d, .ty "bool"] S Q := by
  cases d <;> first | exact h.elim | exact isi_v h rfl q
theorem isi_int {sub : Value → Value → Option Bool} {ex : Addr → Bool} (h : Val d) (q : Q (.bl (isNum d)) S) : gIsi sub ex [d, .ty "int"] S Q := by
  cases d <;> first | exact h.elim | exact isi_v h rfl q
/-! «in» -/
theorem inC_lst {neg : Bool} {ys : List D} (h1 : flatD x = true) (h2 : ys.all flatD = true) (q : Q (.bl (if neg then !inD x ys else inD x ys)) S) : gInC neg x (.lst ys) S Q := .inl ⟨h1, h2, q⟩
theorem inC_tup {neg : Bool} {ys : List D} (h1 : flatD x = true) (h2 : ys.all flatD = true) (q : Q (.bl (if neg then !inD x ys else inD x ys)) S) : gInC neg x (.tup ys) S Q := .inl ⟨h1, h2, q⟩
theorem inC_sign {neg : Bool} {c : Nat} {z : Str} (q : Q (.bl (if neg then !decide (c ∈ z.cps.toList) else decide (c ∈ z.cps.toList))) S) : gInC neg (.str ⟨#[c]⟩) (.str z) S Q := .inl q
theorem inC_dct {neg : Bool} {ks : List Key} {ds : List D} {k : Key} (e : vw y S = .dct ks ds) (hk : keyD x = some k) (q : Q (.bl (if neg then !(dlook ks ds k).isSome else (dlook ks ds k).isSome)) S) : gInC neg x y S Q := by
  refine .inl ?_
  unfold gInB
  rw [e]
  show (match keyD x with
    | some k => Q (.bl (if neg then !(dlook ks ds k).isSome else (dlook ks ds k).isSome)) S
    | none => False)
  rw [hk]
  exact q
theorem gGet_i {ks : List Key} {ds : List D} {k : Key} {z r : D} (e : vw d S = .dct ks ds) (hk : keyD y = some k) (er : (dlook ks ds k).getD z = r) (q : Q r S) : gGet d y z S Q := by
  unfold gGet
  rw [e]
  show (match keyD y with
    | some k => Q ((dlook ks ds k).getD z) S
    | none => False)
  rw [hk]
  show Q ((dlook ks ds k).getD z) S
  rw [er]
  exact q
theorem signs_enc (x : Str) : signs x = x.cps.toList.map fun c => D.str ⟨#[c]⟩ := rfl
theorem sign_lay (c : Nat) (h : c < 0x110000) : True := trivial
/-! ### a list against the empty one, whatever it holds -/
def rNil (K : PySem.W.Frag) (neg : Bool) : R2 := fun x y H Q => ∃ a b xs, x = .ref a ∧ y = .ref b ∧ SqL K H a xs ∧ SqL K H b [] ∧ Q (.bl (if neg then !xs.isEmpty else xs.isEmpty)) H
theorem op_eqNil {X : Cx} (hu : X.A.units < cLine) : OpR X (compareOp .Eq) (rNil X.K false) := by
  intro pnl s σ H x y v u Q I rx ry ⟨a, b, xs, ex, ey, ha, hb, q⟩
  subst ex ey
  cases rx
  cases ry
  have ⟨i1, r1, p1, _⟩ := I.list ha
  have ⟨i2, r2, p2, _⟩ := I.list hb
  cases r2
  cases xs with
  | nil =>
    cases r1
    exact SeqAt.eq_listAt (e := fun _ => true) p1.isList p2.isList rfl hu (fun j h1 => by cases h1) ⟨.bl true, H, I, rfl, q⟩
  | cons z r =>
    cases r1
    exact SeqAt.eq_list_lengthsAt p1.isList p2.isList (by simp) hu ⟨.bl false, H, I, rfl, q⟩
theorem op_neNil {X : Cx} (hu : X.A.units < cLine) : OpR X (compareOp .NotEq) (rNil X.K true) := by
  intro pnl s σ H x y v u Q I rx ry ⟨a, b, xs, ex, ey, ha, hb, q⟩
  subst ex ey
  cases rx
  cases ry
  have ⟨i1, r1, p1, _⟩ := I.list ha
  have ⟨i2, r2, p2, _⟩ := I.list hb
  cases r2
  cases xs with
  | nil =>
    cases r1
    exact SeqAt.RcNeAt.lists (e := fun _ => true) p1.isList p2.isList rfl hu (fun j h1 => by cases h1) X.prog X.w _ _ ⟨.bl false, H, I, rfl, q⟩
  | cons z r =>
    cases r1
    exact SeqAt.RcNeAt.lists_lengths p1.isList p2.isList (by simp) hu X.prog X.w _ _ ⟨.bl true, H, I, rfl, q⟩
def gNil (g : G2) (neg : Bool) : G2 := fun x y S Q => g x y S Q ∨ ∃ xs, vw x S = .lst xs ∧ vw y S = .lst [] ∧ Q (.bl (if neg then !xs.isEmpty else xs.isEmpty)) S
theorem d_nil {K : PySem.W.Frag} {r : R2} {g : G2} {neg : Bool} (h : OpD K r g) : OpD K (fun x y H Q => r x y H Q ∨ rNil K neg x y H Q) (gNil g neg) := by
  intro x y S H dx dy Qd Q hS rx ry hg l
  rcases hg with hg | ⟨xs, e1, e2, q⟩
  · exact .inl (h x y S H dx dy Qd Q hS rx ry hg l)
  · obtain ⟨a, vs, rfl, ha, rs⟩ := vw_lst hS rx e1
    obtain ⟨b, ws, rfl, hb, rt⟩ := vw_lst hS ry e2
    have ew : ws = [] := rt
    subst ew
    have ei : xs.isEmpty = vs.isEmpty := by
      have := rs.length
      cases xs <;> cases vs <;> first | rfl | cases this
    rw [ei] at q
    exact .inr ⟨a, b, vs, rfl, rfl, .inl ha, .inl hb, l.fz hS (d := .bl _) rfl q⟩
abbrev gEqE : G2 := gNil gEq false
abbrev gNeE : G2 := gNil gNe true
theorem op_eqE {X : Cx} (hu : X.A.units + 64 < cLine) : OpR X (compareOp .Eq) (fun x y H Q => rEqA X.K x y H Q ∨ rNil X.K false x y H Q) := OpR.or (op_eqA hu) (op_eqNil (by omega))
theorem op_neE {X : Cx} (hu : X.A.units + 64 < cLine) : OpR X (compareOp .NotEq) (fun x y H Q => rNeA X.K x y H Q ∨ rNil X.K true x y H Q) := OpR.or (op_neA hu) (op_neNil (by omega))
theorem bools_nil {K : PySem.W.Frag} {r : R2} {neg : Bool} (h : Bools r) : Bools (fun x y H Q => r x y H Q ∨ rNil K neg x y H Q) := fun x y H Q z => z.elim (fun z => .inl (h x y H Q z)) fun ⟨a, b, xs, e1, e2, h1, h2, q⟩ => .inr ⟨a, b, xs, e1, e2, h1, h2, fz_bl q⟩
theorem gEqE_nil {xs : List D} (e : vw d S = .lst xs) (q : Q (.bl xs.isEmpty) S) : gEqE d (.lst []) S Q := .inr ⟨xs, e, rfl, q⟩
theorem gNeE_nil {xs : List D} (e : vw d S = .lst xs) (q : Q (.bl (!xs.isEmpty)) S) : gNeE d (.lst []) S Q := .inr ⟨xs, e, rfl, q⟩
theorem gEqE_i (q : Q (.bl (i == j)) S) : gEqE (.int i) (.int j) S Q := .inl ⟨rfl, rfl, q⟩
theorem gNeE_i (q : Q (.bl (!(i == j))) S) : gNeE (.int i) (.int j) S Q := .inl ⟨rfl, rfl, q⟩
theorem gEqE_s {a b : Str} (q : Q (.bl (a == b)) S) : gEqE (.str a) (.str b) S Q := .inl q
theorem gNeE_s {a b : Str} (q : Q (.bl (!(a == b))) S) : gNeE (.str a) (.str b) S Q := .inl q
end MP

set_option Elab.async false
set_option linter.all false
set_option maxRecDepth 100000
set_option maxHeartbeats 4100000
/-! the mirrors of the defs -/
namespace K02
open PySem PySem.Spec PyProof.Rows L2 MP

/-- where things stand behind the top -/
structure Ad where
  f_is_name : Addr
  d_is_name : FuncData
  f_is_int : Addr
  d_is_int : FuncData
  f_lies_in : Addr
  d_lies_in : FuncData
  f_is_small : Addr
  d_is_small : FuncData
  f_is_tagged : Addr
  d_is_tagged : FuncData
  f_are_cases : Addr
  d_are_cases : FuncData
  f_is_expression : Addr
  d_is_expression : FuncData
  f_is_range : Addr
  d_is_range : FuncData
  f_is_input : Addr
  d_is_input : FuncData
  f_parts_of : Addr
  d_parts_of : FuncData
  f_has_place : Addr
  d_has_place : FuncData
  f_is_placeless : Addr
  d_is_placeless : FuncData
  f_is_cell : Addr
  d_is_cell : FuncData
  f_is_filled : Addr
  d_is_filled : FuncData
  f_is_sheet : Addr
  d_is_sheet : FuncData
  f_law_begun : Addr
  d_law_begun : FuncData
  f_law_mixed : Addr
  d_law_mixed : FuncData
  f_law_take : Addr
  d_law_take : FuncData
  f_law_pick : Addr
  d_law_pick : FuncData
  f_law_shuffled : Addr
  d_law_shuffled : FuncData
  f_law_names : Addr
  d_law_names : FuncData
  f_law_any_number : Addr
  d_law_any_number : FuncData
  f_law_any_expression : Addr
  d_law_any_expression : FuncData
  f_law_placeless : Addr
  d_law_placeless : FuncData
  f_law_any_cell : Addr
  d_law_any_cell : FuncData
  f_law_any_sheet : Addr
  d_law_any_sheet : FuncData
  f_law_kept : Addr
  d_law_kept : FuncData
  f_law_is_small : Addr
  d_law_is_small : FuncData
  f_law_is_name : Addr
  d_law_is_name : FuncData
  f_law_table : Addr
  d_law_table : FuncData
  f_law_is_free : Addr
  d_law_is_free : FuncData
  f_law_rises : Addr
  d_law_rises : FuncData
  f_law_all_fit : Addr
  d_law_all_fit : FuncData
  f_law_fits : Addr
  d_law_fits : FuncData
  f_law_odd : Addr
  d_law_odd : FuncData
  f_law_spoilt : Addr
  d_law_spoilt : FuncData
  f_law : Addr
  d_law : FuncData
  cls : Nat → Addr
  nm : Addr → Option Nat
/-- the classes by their places: which is below which -/
def below : Nat → List Nat := fun i => ([] : List (List Nat)).getD i []
def subT (A : Ad) : Value → Value → Option Bool := fun t c => match t, c with
  | .ref a, .ref b => match A.nm a, A.nm b with
    | some i, some j => some ((below i).contains j)
    | _, _ => none
  | _, _ => none
def exT_ (A : Ad) : Addr → Bool := fun a => (A.nm a).isSome
def catchT (A : Ad) (j : Nat) : Value → Option Bool := fun t => match t with
  | .ref a => (A.nm a).map fun i => (below i).contains j
  | _ => none
structure Ad.Ok (A : Ad) : Prop where
  nm : ∀ i, i < 0 → A.nm (A.cls i) = some i
  ne0 : [A.f_is_input, A.f_is_cell].Nodup
  ne1 : [A.f_is_expression, A.f_is_cell, A.f_is_sheet].Nodup
  ne2 : [A.f_is_expression, A.f_is_cell, A.f_is_sheet].Nodup

def c_KEPT : D := .tup [.str "and", .str "cases", .str "cell", .str "else", .str "fewest", .str "fork", .str "from", .str "greatest", .str "if", .str "input", .str "leaf", .str "least", .str "most", .str "not", .str "of", .str "or", .str "place", .str "row", .str "settle", .str "start", .str "sum", .str "then", .str "to"]
def c_OVER_ROWS : D := .tup [.str "sum", .str "fewest", .str "most"]
def c_PAIRS : D := .tup [.str "plus", .str "minus", .str "times", .str "least", .str "greatest", .str "less", .str "atmost", .str "same", .str "and", .str "or"]
def c_SMALL : D := .str "abcdefghijklmnopqrstuvwxyz"
def r_is_name (A : Ad) : DF := runF 2 (dSeq (dIf (bOr (bNot (bV (evB (gIsi (subT A) (exT_ A)) (aCons (evV 0) (aCons (evC (.ty "str")) (aNil)))))) (bOr (bNot (bB (chn gLe gLe (evC (.int 1)) (evB gLen (aCons (evV 0) (aNil))) (evC (.int 8))))) (bB (bin (gInC false) (evV 0) (evC c_KEPT))))) (dRet (evC (.bl false))) (dNext)) (dRet (bin gEqE (evComp mkF (iChars (evV 0)) (dgName 1) (bB (bin (gInC true) (evV 1) (evC c_SMALL))) (evV 1) [1]) (evLst mkF (aNil)))))
def r_is_int (A : Ad) : DF := runF 1 (dRet (eAnd (evB (gIsi (subT A) (exT_ A)) (aCons (evV 0) (aCons (evC (.ty "int")) (aNil)))) (eNot (evB (gIsi (subT A) (exT_ A)) (aCons (evV 0) (aCons (evC (.ty "bool")) (aNil)))))))
def r_lies_in (A : Ad) : DF := runF 3 (dRet (eAnd (evCall (r_is_int A) (aCons (evV 0) (aNil))) (chn gLe gLe (evV 1) (evV 0) (evV 2))))
def r_is_small (A : Ad) : DF := runF 1 (dRet (evCall (r_lies_in A) (aCons (evV 0) (aCons (una gNeg (evC (.int 999))) (aCons (evC (.int 999)) (aNil))))))
def r_is_tagged (A : Ad) : DF := runF 2 (dSeq (dIf (bOr (bNot (bV (evB (gIsi (subT A) (exT_ A)) (aCons (evV 0) (aCons (evC (.ty "tuple")) (aNil)))))) (bOr (bB (bin gEqE (evB gLen (aCons (evV 0) (aNil))) (evC (.int 0)))) (bNot (bV (evB (gIsi (subT A) (exT_ A)) (aCons (bin gIx (evV 0) (evC (.int 0))) (aCons (evC (.ty "str")) (aNil)))))))) (dRet (evC (.bl false))) (dNext)) (dRet (bin gEqE (evGet2 (evV 1) (bin gIx (evV 0) (evC (.int 0))) (evC (.int 0))) (evB gLen (aCons (evV 0) (aNil))))))
def g_are_cases (A : Ad) : Nat → Nat → DF
  | 0, _ => dNone
  | n + 1, 0 => runF 3 (dSeq (dIf (bOr (bNot (bV (evB (gIsi (subT A) (exT_ A)) (aCons (evV 0) (aCons (evC (.ty "tuple")) (aNil)))))) (bB (bin gEqE (evB gLen (aCons (evV 0) (aNil))) (evC (.int 0))))) (dRet (evC (.bl false))) (dNext)) (dSeq (dSet 1 (evC .non)) (dSeq (dFor (iSeq (evV 0)) (dgName 2) (dSeq (dIf (bOr (bNot (bV (evB (gIsi (subT A) (exT_ A)) (aCons (evV 2) (aCons (evC (.ty "tuple")) (aNil)))))) (bOr (bB (bin gNeE (evB gLen (aCons (evV 2) (aNil))) (evC (.int 2)))) (bOr (bNot (bV (evCall (r_is_small A) (aCons (bin gIx (evV 2) (evC (.int 0))) (aNil))))) (bNot (bV (evCall (g_are_cases A n 1) (aCons (bin gIx (evV 2) (evC (.int 1))) (aNil)))))))) (dRet (evC (.bl false))) (dNext)) (dSeq (dIf (bAnd (bB (bin gIsn (evV 1) (evC .non))) (bB (bin gLe (bin gIx (evV 2) (evC (.int 0))) (evV 1)))) (dRet (evC (.bl false))) (dNext)) (dSet 1 (bin gIx (evV 2) (evC (.int 0))))))) (dRet (evC (.bl true))))))
  | n + 1, 1 => runF 4 (dSeq (dSet 1 (evDisp mkDM [(.inr "number"), (.inr "name"), (.inr "item"), (.inr "place"), (.inr "at"), (.inr "not"), (.inr "choose"), (.inr "cases")] (aCons (evC (.int 2)) (aCons (evC (.int 2)) (aCons (evC (.int 3)) (aCons (evC (.int 1)) (aCons (evC (.int 4)) (aCons (evC (.int 2)) (aCons (evC (.int 4)) (aCons (evC (.int 4)) (aNil))))))))))) (dSeq (dFor (iSeq (evC c_PAIRS)) (dgName 2) (dAsg (evC (.int 3)) (dgSub (evV 1) (evV 2)))) (dSeq (dFzV 1 (dFor (iSeq (evC c_OVER_ROWS)) (dgName 2) (dAsg (evC (.int 2)) (dgSub (evV 1) (evV 2))))) (dSeq (dIf (bNot (bV (evCall (r_is_tagged A) (aCons (evV 0) (aCons (evV 1) (aNil)))))) (dRet (evC (.bl false))) (dNext)) (dSeq (dSet 2 (bin gIx (evV 0) (evC (.int 0)))) (dSeq (dIf (bB (bin gEqE (evV 2) (evC (.str "number")))) (dRet (evCall (r_is_small A) (aCons (bin gIx (evV 0) (evC (.int 1))) (aNil)))) (dNext)) (dSeq (dIf (bOr (bB (bin gEqE (evV 2) (evC (.str "name")))) (bB (bin (gInC false) (evV 2) (evC c_OVER_ROWS)))) (dRet (evCall (r_is_name A) (aCons (bin gIx (evV 0) (evC (.int 1))) (aNil)))) (dNext)) (dSeq (dIf (bB (bin gEqE (evV 2) (evC (.str "item")))) (dRet (eAnd (evCall (r_is_name A) (aCons (bin gIx (evV 0) (evC (.int 1))) (aNil))) (evCall (r_lies_in A) (aCons (bin gIx (evV 0) (evC (.int 2))) (aCons (evC (.int 1)) (aCons (evC (.int 9)) (aNil))))))) (dNext)) (dSeq (dIf (bB (bin gEqE (evV 2) (evC (.str "at")))) (dRet (eAnd (evCall (r_is_name A) (aCons (bin gIx (evV 0) (evC (.int 1))) (aNil))) (eAnd (evCall (r_is_small A) (aCons (bin gIx (evV 0) (evC (.int 2))) (aNil))) (evCall (g_are_cases A n 1) (aCons (bin gIx (evV 0) (evC (.int 3))) (aNil)))))) (dNext)) (dSeq (dIf (bB (bin gEqE (evV 2) (evC (.str "cases")))) (dRet (eAnd (evCall (g_are_cases A n 1) (aCons (bin gIx (evV 0) (evC (.int 1))) (aNil))) (eAnd (evCall (g_are_cases A n 0) (aCons (bin gIx (evV 0) (evC (.int 2))) (aNil))) (evCall (g_are_cases A n 1) (aCons (bin gIx (evV 0) (evC (.int 3))) (aNil)))))) (dNext)) (dRet (bin gEqE (evComp mkF (iSeq (evSl (gSl mkF) (evV 0) (oPart (evC (.int 1))) oNo)) (dgName 3) (bNot (bV (evCall (g_are_cases A n 1) (aCons (evV 3) (aNil))))) (evV 3) [3]) (evLst mkF (aNil))))))))))))))
  | _ + 1, _ => dNone
def r_are_cases (A : Ad) (n : Nat) : DF := g_are_cases A n 0
def r_is_expression (A : Ad) (n : Nat) : DF := g_are_cases A n 1
theorem r_are_cases_eq {A : Ad} (n : Nat) : r_are_cases A (n + 1) = runF 3 (dSeq (dIf (bOr (bNot (bV (evB (gIsi (subT A) (exT_ A)) (aCons (evV 0) (aCons (evC (.ty "tuple")) (aNil)))))) (bB (bin gEqE (evB gLen (aCons (evV 0) (aNil))) (evC (.int 0))))) (dRet (evC (.bl false))) (dNext)) (dSeq (dSet 1 (evC .non)) (dSeq (dFor (iSeq (evV 0)) (dgName 2) (dSeq (dIf (bOr (bNot (bV (evB (gIsi (subT A) (exT_ A)) (aCons (evV 2) (aCons (evC (.ty "tuple")) (aNil)))))) (bOr (bB (bin gNeE (evB gLen (aCons (evV 2) (aNil))) (evC (.int 2)))) (bOr (bNot (bV (evCall (r_is_small A) (aCons (bin gIx (evV 2) (evC (.int 0))) (aNil))))) (bNot (bV (evCall (r_is_expression A n) (aCons (bin gIx (evV 2) (evC (.int 1))) (aNil)))))))) (dRet (evC (.bl false))) (dNext)) (dSeq (dIf (bAnd (bB (bin gIsn (evV 1) (evC .non))) (bB (bin gLe (bin gIx (evV 2) (evC (.int 0))) (evV 1)))) (dRet (evC (.bl false))) (dNext)) (dSet 1 (bin gIx (evV 2) (evC (.int 0))))))) (dRet (evC (.bl true)))))) := rfl
theorem r_is_expression_eq {A : Ad} (n : Nat) : r_is_expression A (n + 1) = runF 4 (dSeq (dSet 1 (evDisp mkDM [(.inr "number"), (.inr "name"), (.inr "item"), (.inr "place"), (.inr "at"), (.inr "not"), (.inr "choose"), (.inr "cases")] (aCons (evC (.int 2)) (aCons (evC (.int 2)) (aCons (evC (.int 3)) (aCons (evC (.int 1)) (aCons (evC (.int 4)) (aCons (evC (.int 2)) (aCons (evC (.int 4)) (aCons (evC (.int 4)) (aNil))))))))))) (dSeq (dFor (iSeq (evC c_PAIRS)) (dgName 2) (dAsg (evC (.int 3)) (dgSub (evV 1) (evV 2)))) (dSeq (dFzV 1 (dFor (iSeq (evC c_OVER_ROWS)) (dgName 2) (dAsg (evC (.int 2)) (dgSub (evV 1) (evV 2))))) (dSeq (dIf (bNot (bV (evCall (r_is_tagged A) (aCons (evV 0) (aCons (evV 1) (aNil)))))) (dRet (evC (.bl false))) (dNext)) (dSeq (dSet 2 (bin gIx (evV 0) (evC (.int 0)))) (dSeq (dIf (bB (bin gEqE (evV 2) (evC (.str "number")))) (dRet (evCall (r_is_small A) (aCons (bin gIx (evV 0) (evC (.int 1))) (aNil)))) (dNext)) (dSeq (dIf (bOr (bB (bin gEqE (evV 2) (evC (.str "name")))) (bB (bin (gInC false) (evV 2) (evC c_OVER_ROWS)))) (dRet (evCall (r_is_name A) (aCons (bin gIx (evV 0) (evC (.int 1))) (aNil)))) (dNext)) (dSeq (dIf (bB (bin gEqE (evV 2) (evC (.str "item")))) (dRet (eAnd (evCall (r_is_name A) (aCons (bin gIx (evV 0) (evC (.int 1))) (aNil))) (evCall (r_lies_in A) (aCons (bin gIx (evV 0) (evC (.int 2))) (aCons (evC (.int 1)) (aCons (evC (.int 9)) (aNil))))))) (dNext)) (dSeq (dIf (bB (bin gEqE (evV 2) (evC (.str "at")))) (dRet (eAnd (evCall (r_is_name A) (aCons (bin gIx (evV 0) (evC (.int 1))) (aNil))) (eAnd (evCall (r_is_small A) (aCons (bin gIx (evV 0) (evC (.int 2))) (aNil))) (evCall (r_is_expression A n) (aCons (bin gIx (evV 0) (evC (.int 3))) (aNil)))))) (dNext)) (dSeq (dIf (bB (bin gEqE (evV 2) (evC (.str "cases")))) (dRet (eAnd (evCall (r_is_expression A n) (aCons (bin gIx (evV 0) (evC (.int 1))) (aNil))) (eAnd (evCall (r_are_cases A n) (aCons (bin gIx (evV 0) (evC (.int 2))) (aNil))) (evCall (r_is_expression A n) (aCons (bin gIx (evV 0) (evC (.int 3))) (aNil)))))) (dNext)) (dRet (bin gEqE (evComp mkF (iSeq (evSl (gSl mkF) (evV 0) (oPart (evC (.int 1))) oNo)) (dgName 3) (bNot (bV (evCall (r_is_expression A n) (aCons (evV 3) (aNil))))) (evV 3) [3]) (evLst mkF (aNil)))))))))))))) := rfl
def r_is_range (A : Ad) : DF := runF 2 (dRet (eAnd (evCall (r_is_small A) (aCons (evV 0) (aNil))) (eAnd (evCall (r_is_small A) (aCons (evV 1) (aNil))) (bin gLe (evV 0) (evV 1)))))
def r_is_input (A : Ad) : DF := runF 1 (dRet (eAnd (evCall (r_is_tagged A) (aCons (evV 0) (aCons (evDisp mkDF [(.inr "input")] (aCons (evC (.int 4)) (aNil))) (aNil)))) (eAnd (evCall (r_is_name A) (aCons (bin gIx (evV 0) (evC (.int 1))) (aNil))) (evCall (r_is_range A) (aCons (bin gIx (evV 0) (evC (.int 2))) (aCons (bin gIx (evV 0) (evC (.int 3))) (aNil)))))))
def r_parts_of (A : Ad) : DF := runF 5 (dSeq (dSet 1 (bin gIx (evV 0) (evC (.int 0)))) (dSeq (dIf (bOr (bB (bin (gInC false) (evV 1) (evTup (aCons (evC (.str "number")) (aCons (evC (.str "name")) (aCons (evC (.str "item")) (aCons (evC (.str "place")) (aNil)))))))) (bB (bin (gInC false) (evV 1) (evC c_OVER_ROWS)))) (dRet (evLst mkF (aNil))) (dNext)) (dSeq (dIf (bB (bin gEqE (evV 1) (evC (.str "at")))) (dRet (evLst mkF (aCons (evTup (aCons (evTup (aCons (evC (.int 3)) (aNil))) (aCons (bin gIx (evV 0) (evC (.int 3))) (aNil)))) (aNil)))) (dNext)) (dSeq (dIf (bB (bin gEqE (evV 1) (evC (.str "cases")))) (dSeq (dSet 2 (evComp mkF (iEnumD (aCons (bin gIx (evV 0) (evC (.int 2))) (aNil))) (dgTup 2 (dgCons (dgName 3) (dgCons (dgName 4) (dgNil)))) (bYes) (evTup (aCons (evTup (aCons (evC (.int 2)) (aCons (evV 3) (aCons (evC (.int 1)) (aNil))))) (aCons (bin gIx (evV 4) (evC (.int 1))) (aNil)))) [3, 4])) (dRet (bin (gAddT mkF) (bin (gAddT mkF) (evLst mkF (aCons (evTup (aCons (evTup (aCons (evC (.int 1)) (aNil))) (aCons (bin gIx (evV 0) (evC (.int 1))) (aNil)))) (aNil))) (evV 2)) (evLst mkF (aCons (evTup (aCons (evTup (aCons (evC (.int 3)) (aNil))) (aCons (bin gIx (evV 0) (evC (.int 3))) (aNil)))) (aNil)))))) (dNext)) (dRet (evComp mkF (iRange2 (aCons (evC (.int 1)) (aCons (evB gLen (aCons (evV 0) (aNil))) (aNil)))) (dgName 3) (bYes) (evTup (aCons (evTup (aCons (evV 3) (aNil))) (aCons (bin gIx (evV 0) (evV 3)) (aNil)))) [3]))))))
def g_has_place (A : Ad) : Nat → Nat → DF
  | 0, _ => dNone
  | n + 1, 0 => runF 3 (dRet (eOr (bin (gInC false) (bin gIx (evV 0) (evC (.int 0))) (evTup (aCons (evC (.str "place")) (aCons (evC (.str "at")) (aNil))))) (bin gNeE (evComp mkF (iSeq (evCall (r_parts_of A) (aCons (evV 0) (aNil)))) (dgTup 2 (dgCons (dgName 1) (dgCons (dgName 2) (dgNil)))) (bV (evCall (g_has_place A n 0) (aCons (evV 2) (aNil)))) (evV 2) [1, 2]) (evLst mkF (aNil)))))
  | _ + 1, _ => dNone
def r_has_place (A : Ad) (n : Nat) : DF := g_has_place A n 0
theorem r_has_place_eq {A : Ad} (n : Nat) : r_has_place A (n + 1) = runF 3 (dRet (eOr (bin (gInC false) (bin gIx (evV 0) (evC (.int 0))) (evTup (aCons (evC (.str "place")) (aCons (evC (.str "at")) (aNil))))) (bin gNeE (evComp mkF (iSeq (evCall (r_parts_of A) (aCons (evV 0) (aNil)))) (dgTup 2 (dgCons (dgName 1) (dgCons (dgName 2) (dgNil)))) (bV (evCall (r_has_place A n) (aCons (evV 2) (aNil)))) (evV 2) [1, 2]) (evLst mkF (aNil))))) := rfl
def r_is_placeless (A : Ad) : DF := runF 1 (dRet (eAnd (evCall (r_is_expression A 60) (aCons (evV 0) (aNil))) (eNot (evCall (r_has_place A 60) (aCons (evV 0) (aNil))))))
def r_is_cell (A : Ad) : DF := runF 1 (dSeq (dIf (bOr (bNot (bV (evCall (r_is_tagged A) (aCons (evV 0) (aCons (evDisp mkDF [(.inr "cell"), (.inr "row"), (.inr "settle")] (aCons (evC (.int 3)) (aCons (evC (.int 4)) (aCons (evC (.int 6)) (aNil))))) (aNil)))))) (bNot (bV (evCall (r_is_name A) (aCons (bin gIx (evV 0) (evC (.int 1))) (aNil)))))) (dRet (evC (.bl false))) (dNext)) (dSeq (dIf (bB (bin gEqE (bin gIx (evV 0) (evC (.int 0))) (evC (.str "cell")))) (dRet (evCall (r_is_placeless A) (aCons (bin gIx (evV 0) (evC (.int 2))) (aNil)))) (dNext)) (dSeq (dIf (bB (bin gEqE (bin gIx (evV 0) (evC (.int 0))) (evC (.str "row")))) (dRet (eAnd (evCall (r_lies_in A) (aCons (bin gIx (evV 0) (evC (.int 2))) (aCons (evC (.int 1)) (aCons (evC (.int 9)) (aNil))))) (evCall (r_is_expression A 60) (aCons (bin gIx (evV 0) (evC (.int 3))) (aNil))))) (dNext)) (dRet (eAnd (evCall (r_is_range A) (aCons (bin gIx (evV 0) (evC (.int 2))) (aCons (bin gIx (evV 0) (evC (.int 3))) (aNil)))) (eAnd (evCall (r_is_placeless A) (aCons (bin gIx (evV 0) (evC (.int 4))) (aNil))) (evCall (r_is_placeless A) (aCons (bin gIx (evV 0) (evC (.int 5))) (aNil)))))))))
def tb_0 (A : Ad) : Addr → Option DF := fun a => if a = A.f_is_input then some (r_is_input A) else if a = A.f_is_cell then some (r_is_cell A) else none
def r_is_filled (A : Ad) : DF := runF 3 (dSeq (dIf (bOr (bNot (bV (evB (gIsi (subT A) (exT_ A)) (aCons (evV 0) (aCons (evC (.ty "tuple")) (aNil)))))) (bB (bin gEqE (evB gLen (aCons (evV 0) (aNil))) (evC (.int 0))))) (dRet (evC (.bl false))) (dNext)) (dRet (bin gEqE (evComp mkF (iSeq (evV 0)) (dgName 2) (bNot (bV (evCallV (tb_0 A) 1 (aCons (evV 2) (aNil))))) (evV 2) [2]) (evLst mkF (aNil)))))
def r_is_sheet (A : Ad) : DF := runF 1 (dRet (eAnd (evCall (r_is_tagged A) (aCons (evV 0) (aCons (evDisp mkDF [(.inr "sheet")] (aCons (evC (.int 3)) (aNil))) (aNil)))) (eAnd (evCall (r_is_filled A) (aCons (bin gIx (evV 0) (evC (.int 1))) (aCons (evC (.ref (A.f_is_input))) (aNil)))) (evCall (r_is_filled A) (aCons (bin gIx (evV 0) (evC (.int 2))) (aCons (evC (.ref (A.f_is_cell))) (aNil)))))))
def r_law_begun (A : Ad) : DF := runF 3 (dSeq (dSet 1 (evComp mkM (iSeq (evV 0)) (dgName 2) (bB (bin gGe (evB gAbs (aCons (evV 2) (aNil))) (bin gPow (evC (.int 10)) (evC (.int 18))))) (bin gSub (evB gAbs (aCons (evV 2) (aNil))) (bin gPow (evC (.int 10)) (evC (.int 18)))) [2])) (dRet (evDisp mkDM [(.inr "wide"), (.inr "cells"), (.inr "rest"), (.inr "turn")] (aCons (evV 1) (aCons (evComp mkF (iSeq (evV 0)) (dgName 2) (bYes) (bin gMod (evB gInt (aCons (evB gAbs (aCons (evV 2) (aNil))) (aNil))) (evC (.int 2147483629))) [2]) (aCons (evC (.int 0)) (aCons (evC (.int 0)) (aNil))))))))
def r_law_mixed (A : Ad) : DF := runF 6 (dSeq (dPar 1 2 (aCons (bin (gAddT mkF) (bin gIx (evV 0) (evC (.str "turn"))) (evC (.int 1))) (aCons (evC (.int 0)) (aNil)))) (dSeq (dAsg (evV 1) (dgSub (evV 0) (evC (.str "turn")))) (dSeq (dFor (iSeq (evLst mkF (aCons (evC (.int 2147483647)) (aCons (evC (.int 2147483629)) (aCons (evC (.int 2147483587)) (aCons (evC (.int 2147483579)) (aNil))))))) (dgName 3) (dSeq (dSet 4 (bin (gAddT mkF) (bin gMul (evC (.int 48271)) (evV 1)) (bin gDiv (evV 3) (evC (.int 37))))) (dSeq (dFor (iSeq (bin gIx (evV 0) (evC (.str "cells")))) (dgName 5) (dSet 4 (bin gMod (evB gInt (aCons (bin (gAddT mkF) (bin (gAddT mkF) (bin gMul (evV 4) (evC (.int 69621))) (evV 5)) (evV 1)) (aNil))) (evV 3)))) (dSet 2 (bin (gAddT mkF) (bin gMul (evV 2) (evC (.int 2147483647))) (bin gMod (evB gInt (aCons (bin gPow (evV 4) (evC (.int 5))) (aNil))) (evV 3))))))) (dRet (evV 2)))))
def r_law_take (A : Ad) : DF := runF 3 (dSeq (dIf (bB (bin gEqE (bin gIx (evV 0) (evC (.str "rest"))) (evC (.int 0)))) (dAsg (eIf (bB (bin gNeE (bin gIx (evV 0) (evC (.str "wide"))) (evLst mkF (aNil)))) (evM "list" mPopAt (bin gIx (evV 0) (evC (.str "wide"))) (aCons (evC (.int 0)) (aNil))) (evCall (r_law_mixed A) (aCons (evV 0) (aNil)))) (dgSub (evV 0) (evC (.str "rest")))) (dNext)) (dSeq (dSet 2 (bin gMod (evB gInt (aCons (bin gIx (evV 0) (evC (.str "rest"))) (aNil))) (evV 1))) (dSeq (dAsg (bin gDiv (bin gIx (evV 0) (evC (.str "rest"))) (evV 1)) (dgSub (evV 0) (evC (.str "rest")))) (dRet (evV 2)))))
def r_law_pick (A : Ad) : DF := runF 2 (dRet (bin gIx (evV 1) (evCall (r_law_take A) (aCons (evV 0) (aCons (evB gLen (aCons (evV 1) (aNil))) (aNil))))))
def r_law_shuffled (A : Ad) : DF := runF 4 (dSeq (dPar 2 3 (aCons (evB (gList mkM) (aCons (evV 1) (aNil))) (aCons (evLst mkM (aNil)) (aNil)))) (dSeq (dFzV 2 (dFzV 3 (dWhile (bB (bin gNeE (evV 2) (evLst mkF (aNil)))) (dExpr (evM "list" mAppend (evV 3) (aCons (evM "list" mPopAt (evV 2) (aCons (evCall (r_law_take A) (aCons (evV 0) (aCons (evB gLen (aCons (evV 2) (aNil))) (aNil)))) (aNil))) (aNil))))))) (dRet (evV 3))))
def r_law_names (A : Ad) : DF := runF 5 (dSeq (dSet 2 (evC (.str "abcdefghijklmnopqrstuvwxyz"))) (dSeq (dSet 3 (evComp mkF (iRange1 (aCons (evV 1) (aNil))) (dgName 4) (bYes) (bin (gAddT mkF) (bin (gAddT mkF) (bin gIx (evV 2) (bin gMod (evV 4) (evC (.int 26)))) (evCall (r_law_pick A) (aCons (evV 0) (aCons (evLst mkF (aCons (evC (.str "")) (aCons (evC (.str "")) (aCons (evC (.str "q")) (aCons (evC (.str "zz")) (aNil)))))) (aNil))))) (bin gMulA (evC (.str "x")) (bin gDiv (evV 4) (evC (.int 26))))) [4])) (dRet (evCall (r_law_shuffled A) (aCons (evV 0) (aCons (evV 3) (aNil)))))))
def r_law_any_number (A : Ad) : DF := runF 1 (dRet (evCall (r_law_pick A) (aCons (evV 0) (aCons (evLst mkF (aCons (evC (.int 0)) (aCons (evC (.int 0)) (aCons (evC (.int 1)) (aCons (evC (.int 1)) (aCons (una gNeg (evC (.int 1))) (aCons (evC (.int 2)) (aCons (evC (.int 5)) (aCons (evC (.int 9)) (aCons (evC (.int 10)) (aCons (una gNeg (evC (.int 72))) (aCons (evC (.int 100)) (aCons (evC (.int 999)) (aCons (una gNeg (evC (.int 999))) (aCons (bin gSub (evCall (r_law_take A) (aCons (evV 0) (aCons (evC (.int 400)) (aNil)))) (evC (.int 200))) (aNil)))))))))))))))) (aNil)))))
def g_law_any_expression (A : Ad) : Nat → Nat → DF
  | 0, _ => dNone
  | n + 1, 0 => runF 8 (dSeq (dSet 3 (eIf (bB (bin gGt (evV 2) (evC (.int 1)))) (evCall (r_law_take A) (aCons (evV 0) (aCons (evC (.int 13)) (aNil)))) (evCall (r_law_take A) (aCons (evV 0) (aCons (evC (.int 5)) (aNil)))))) (dSeq (dIf (bB (bin gLt (evV 3) (evC (.int 2)))) (dRet (evTup (aCons (evC (.str "number")) (aCons (evCall (r_law_any_number A) (aCons (evV 0) (aNil))) (aNil))))) (dNext)) (dSeq (dIf (bB (bin gEqE (evV 3) (evC (.int 2)))) (dRet (evTup (aCons (evC (.str "name")) (aCons (evCall (r_law_pick A) (aCons (evV 0) (aCons (evV 1) (aNil)))) (aNil))))) (dNext)) (dSeq (dIf (bB (bin gEqE (evV 3) (evC (.int 3)))) (dRet (evCall (r_law_pick A) (aCons (evV 0) (aCons (evLst mkF (aCons (evTup (aCons (evC (.str "place")) (aNil))) (aCons (evTup (aCons (evC (.str "item")) (aCons (evCall (r_law_pick A) (aCons (evV 0) (aCons (evV 1) (aNil)))) (aCons (bin (gAddT mkF) (evC (.int 1)) (evCall (r_law_take A) (aCons (evV 0) (aCons (evC (.int 9)) (aNil))))) (aNil))))) (aNil)))) (aNil))))) (dNext)) (dSeq (dIf (bB (bin gEqE (evV 3) (evC (.int 4)))) (dRet (evTup (aCons (evCall (r_law_pick A) (aCons (evV 0) (aCons (evLst mkF (aCons (evC (.str "sum")) (aCons (evC (.str "fewest")) (aCons (evC (.str "most")) (aNil))))) (aNil)))) (aCons (evCall (r_law_pick A) (aCons (evV 0) (aCons (evV 1) (aNil)))) (aNil))))) (dNext)) (dSeq (dSet 4 (evComp mkF (iRange1 (aCons (evC (.int 2)) (aNil))) (dgName 5) (bYes) (evCall (g_law_any_expression A n 0) (aCons (evV 0) (aCons (evV 1) (aCons (bin gSub (evV 2) (evC (.int 1))) (aNil))))) [5])) (dSeq (dIf (bB (bin gEqE (evV 3) (evC (.int 5)))) (dRet (evTup (aCons (evC (.str "at")) (aCons (evCall (r_law_pick A) (aCons (evV 0) (aCons (evV 1) (aNil)))) (aCons (evCall (r_law_any_number A) (aCons (evV 0) (aNil))) (aCons (bin gIx (evV 4) (evC (.int 0))) (aNil))))))) (dNext)) (dSeq (dIf (bB (bin gEqE (evV 3) (evC (.int 6)))) (dRet (evTup (aCons (evC (.str "not")) (aCons (bin gIx (evV 4) (evC (.int 0))) (aNil))))) (dNext)) (dSeq (dIf (bB (bin gEqE (evV 3) (evC (.int 7)))) (dRet (evTup (aCons (evC (.str "choose")) (aCons (bin gIx (evV 4) (evC (.int 0))) (aCons (bin gIx (evV 4) (evC (.int 1))) (aCons (evCall (g_law_any_expression A n 0) (aCons (evV 0) (aCons (evV 1) (aCons (bin gSub (evV 2) (evC (.int 1))) (aNil))))) (aNil))))))) (dNext)) (dSeq (dIf (bB (bin gEqE (evV 3) (evC (.int 8)))) (dSeq (dPar 6 7 (aCons (bin gDiv (evCall (r_law_any_number A) (aCons (evV 0) (aNil))) (evC (.int 2))) (aCons (evLst mkM (aNil)) (aNil)))) (dSeq (dFzV 7 (dFor (iRange1 (aCons (bin (gAddT mkF) (evC (.int 1)) (evCall (r_law_take A) (aCons (evV 0) (aCons (evC (.int 3)) (aNil))))) (aNil))) (dgName 5) (dSeq (dSet 6 (bin (gAddT mkF) (bin (gAddT mkF) (evV 6) (evC (.int 1))) (evCall (r_law_pick A) (aCons (evV 0) (aCons (evLst mkF (aCons (evC (.int 0)) (aCons (evC (.int 0)) (aCons (evC (.int 1)) (aCons (evCall (r_law_take A) (aCons (evV 0) (aCons (evC (.int 100)) (aNil)))) (aNil)))))) (aNil)))))) (dExpr (evM "list" mAppend (evV 7) (aCons (evTup (aCons (evV 6) (aCons (evCall (g_law_any_expression A n 0) (aCons (evV 0) (aCons (evV 1) (aCons (bin gSub (evV 2) (evC (.int 1))) (aNil))))) (aNil)))) (aNil))))))) (dRet (evTup (aCons (evC (.str "cases")) (aCons (bin gIx (evV 4) (evC (.int 0))) (aCons (evB gTuple (aCons (evV 7) (aNil))) (aCons (bin gIx (evV 4) (evC (.int 1))) (aNil))))))))) (dNext)) (dRet (evTup (aCons (evCall (r_law_pick A) (aCons (evV 0) (aCons (evLst mkF (aCons (evC (.str "plus")) (aCons (evC (.str "minus")) (aCons (evC (.str "times")) (aCons (evC (.str "least")) (aCons (evC (.str "greatest")) (aCons (evC (.str "less")) (aCons (evC (.str "atmost")) (aCons (evC (.str "same")) (aCons (evC (.str "and")) (aCons (evC (.str "or")) (aNil)))))))))))) (aNil)))) (aCons (bin gIx (evV 4) (evC (.int 0))) (aCons (bin gIx (evV 4) (evC (.int 1))) (aNil))))))))))))))))
  | _ + 1, _ => dNone
def r_law_any_expression (A : Ad) (n : Nat) : DF := g_law_any_expression A n 0
theorem r_law_any_expression_eq {A : Ad} (n : Nat) : r_law_any_expression A (n + 1) = runF 8 (dSeq (dSet 3 (eIf (bB (bin gGt (evV 2) (evC (.int 1)))) (evCall (r_law_take A) (aCons (evV 0) (aCons (evC (.int 13)) (aNil)))) (evCall (r_law_take A) (aCons (evV 0) (aCons (evC (.int 5)) (aNil)))))) (dSeq (dIf (bB (bin gLt (evV 3) (evC (.int 2)))) (dRet (evTup (aCons (evC (.str "number")) (aCons (evCall (r_law_any_number A) (aCons (evV 0) (aNil))) (aNil))))) (dNext)) (dSeq (dIf (bB (bin gEqE (evV 3) (evC (.int 2)))) (dRet (evTup (aCons (evC (.str "name")) (aCons (evCall (r_law_pick A) (aCons (evV 0) (aCons (evV 1) (aNil)))) (aNil))))) (dNext)) (dSeq (dIf (bB (bin gEqE (evV 3) (evC (.int 3)))) (dRet (evCall (r_law_pick A) (aCons (evV 0) (aCons (evLst mkF (aCons (evTup (aCons (evC (.str "place")) (aNil))) (aCons (evTup (aCons (evC (.str "item")) (aCons (evCall (r_law_pick A) (aCons (evV 0) (aCons (evV 1) (aNil)))) (aCons (bin (gAddT mkF) (evC (.int 1)) (evCall (r_law_take A) (aCons (evV 0) (aCons (evC (.int 9)) (aNil))))) (aNil))))) (aNil)))) (aNil))))) (dNext)) (dSeq (dIf (bB (bin gEqE (evV 3) (evC (.int 4)))) (dRet (evTup (aCons (evCall (r_law_pick A) (aCons (evV 0) (aCons (evLst mkF (aCons (evC (.str "sum")) (aCons (evC (.str "fewest")) (aCons (evC (.str "most")) (aNil))))) (aNil)))) (aCons (evCall (r_law_pick A) (aCons (evV 0) (aCons (evV 1) (aNil)))) (aNil))))) (dNext)) (dSeq (dSet 4 (evComp mkF (iRange1 (aCons (evC (.int 2)) (aNil))) (dgName 5) (bYes) (evCall (r_law_any_expression A n) (aCons (evV 0) (aCons (evV 1) (aCons (bin gSub (evV 2) (evC (.int 1))) (aNil))))) [5])) (dSeq (dIf (bB (bin gEqE (evV 3) (evC (.int 5)))) (dRet (evTup (aCons (evC (.str "at")) (aCons (evCall (r_law_pick A) (aCons (evV 0) (aCons (evV 1) (aNil)))) (aCons (evCall (r_law_any_number A) (aCons (evV 0) (aNil))) (aCons (bin gIx (evV 4) (evC (.int 0))) (aNil))))))) (dNext)) (dSeq (dIf (bB (bin gEqE (evV 3) (evC (.int 6)))) (dRet (evTup (aCons (evC (.str "not")) (aCons (bin gIx (evV 4) (evC (.int 0))) (aNil))))) (dNext)) (dSeq (dIf (bB (bin gEqE (evV 3) (evC (.int 7)))) (dRet (evTup (aCons (evC (.str "choose")) (aCons (bin gIx (evV 4) (evC (.int 0))) (aCons (bin gIx (evV 4) (evC (.int 1))) (aCons (evCall (r_law_any_expression A n) (aCons (evV 0) (aCons (evV 1) (aCons (bin gSub (evV 2) (evC (.int 1))) (aNil))))) (aNil))))))) (dNext)) (dSeq (dIf (bB (bin gEqE (evV 3) (evC (.int 8)))) (dSeq (dPar 6 7 (aCons (bin gDiv (evCall (r_law_any_number A) (aCons (evV 0) (aNil))) (evC (.int 2))) (aCons (evLst mkM (aNil)) (aNil)))) (dSeq (dFzV 7 (dFor (iRange1 (aCons (bin (gAddT mkF) (evC (.int 1)) (evCall (r_law_take A) (aCons (evV 0) (aCons (evC (.int 3)) (aNil))))) (aNil))) (dgName 5) (dSeq (dSet 6 (bin (gAddT mkF) (bin (gAddT mkF) (evV 6) (evC (.int 1))) (evCall (r_law_pick A) (aCons (evV 0) (aCons (evLst mkF (aCons (evC (.int 0)) (aCons (evC (.int 0)) (aCons (evC (.int 1)) (aCons (evCall (r_law_take A) (aCons (evV 0) (aCons (evC (.int 100)) (aNil)))) (aNil)))))) (aNil)))))) (dExpr (evM "list" mAppend (evV 7) (aCons (evTup (aCons (evV 6) (aCons (evCall (r_law_any_expression A n) (aCons (evV 0) (aCons (evV 1) (aCons (bin gSub (evV 2) (evC (.int 1))) (aNil))))) (aNil)))) (aNil))))))) (dRet (evTup (aCons (evC (.str "cases")) (aCons (bin gIx (evV 4) (evC (.int 0))) (aCons (evB gTuple (aCons (evV 7) (aNil))) (aCons (bin gIx (evV 4) (evC (.int 1))) (aNil))))))))) (dNext)) (dRet (evTup (aCons (evCall (r_law_pick A) (aCons (evV 0) (aCons (evLst mkF (aCons (evC (.str "plus")) (aCons (evC (.str "minus")) (aCons (evC (.str "times")) (aCons (evC (.str "least")) (aCons (evC (.str "greatest")) (aCons (evC (.str "less")) (aCons (evC (.str "atmost")) (aCons (evC (.str "same")) (aCons (evC (.str "and")) (aCons (evC (.str "or")) (aNil)))))))))))) (aNil)))) (aCons (bin gIx (evV 4) (evC (.int 0))) (aCons (bin gIx (evV 4) (evC (.int 1))) (aNil)))))))))))))))) := rfl
def g_law_placeless (A : Ad) : Nat → Nat → DF
  | 0, _ => dNone
  | n + 1, 0 => runF 4 (dSeq (dIf (bB (bin gEqE (bin gIx (evV 0) (evC (.int 0))) (evC (.str "place")))) (dRet (evTup (aCons (evC (.str "number")) (aCons (evC (.int 1)) (aNil))))) (dNext)) (dSeq (dIf (bB (bin gEqE (bin gIx (evV 0) (evC (.int 0))) (evC (.str "at")))) (dRet (evTup (aCons (evC (.str "plus")) (aCons (evTup (aCons (evC (.str "name")) (aCons (bin gIx (evV 0) (evC (.int 1))) (aNil)))) (aCons (evCall (g_law_placeless A n 0) (aCons (bin gIx (evV 0) (evC (.int 3))) (aNil))) (aNil)))))) (dNext)) (dSeq (dIf (bB (bin gEqE (bin gIx (evV 0) (evC (.int 0))) (evC (.str "cases")))) (dSeq (dSet 1 (evComp mkF (iSeq (bin gIx (evV 0) (evC (.int 2)))) (dgTup 2 (dgCons (dgName 2) (dgCons (dgName 3) (dgNil)))) (bYes) (evTup (aCons (evV 2) (aCons (evCall (g_law_placeless A n 0) (aCons (evV 3) (aNil))) (aNil)))) [2, 3])) (dRet (evTup (aCons (evC (.str "cases")) (aCons (evCall (g_law_placeless A n 0) (aCons (bin gIx (evV 0) (evC (.int 1))) (aNil))) (aCons (evB gTuple (aCons (evV 1) (aNil))) (aCons (evCall (g_law_placeless A n 0) (aCons (bin gIx (evV 0) (evC (.int 3))) (aNil))) (aNil)))))))) (dNext)) (dRet (bin (gAddT mkF) (evSl (gSl mkF) (evV 0) oNo (oPart (evC (.int 1)))) (evB gTuple (aCons (evComp mkF (iSeq (evSl (gSl mkF) (evV 0) (oPart (evC (.int 1))) oNo)) (dgName 3) (bYes) (eIf (bV (evB (gIsi (subT A) (exT_ A)) (aCons (evV 3) (aCons (evC (.ty "tuple")) (aNil))))) (evCall (g_law_placeless A n 0) (aCons (evV 3) (aNil))) (evV 3)) [3]) (aNil))))))))
  | _ + 1, _ => dNone
def r_law_placeless (A : Ad) (n : Nat) : DF := g_law_placeless A n 0
theorem r_law_placeless_eq {A : Ad} (n : Nat) : r_law_placeless A (n + 1) = runF 4 (dSeq (dIf (bB (bin gEqE (bin gIx (evV 0) (evC (.int 0))) (evC (.str "place")))) (dRet (evTup (aCons (evC (.str "number")) (aCons (evC (.int 1)) (aNil))))) (dNext)) (dSeq (dIf (bB (bin gEqE (bin gIx (evV 0) (evC (.int 0))) (evC (.str "at")))) (dRet (evTup (aCons (evC (.str "plus")) (aCons (evTup (aCons (evC (.str "name")) (aCons (bin gIx (evV 0) (evC (.int 1))) (aNil)))) (aCons (evCall (r_law_placeless A n) (aCons (bin gIx (evV 0) (evC (.int 3))) (aNil))) (aNil)))))) (dNext)) (dSeq (dIf (bB (bin gEqE (bin gIx (evV 0) (evC (.int 0))) (evC (.str "cases")))) (dSeq (dSet 1 (evComp mkF (iSeq (bin gIx (evV 0) (evC (.int 2)))) (dgTup 2 (dgCons (dgName 2) (dgCons (dgName 3) (dgNil)))) (bYes) (evTup (aCons (evV 2) (aCons (evCall (r_law_placeless A n) (aCons (evV 3) (aNil))) (aNil)))) [2, 3])) (dRet (evTup (aCons (evC (.str "cases")) (aCons (evCall (r_law_placeless A n) (aCons (bin gIx (evV 0) (evC (.int 1))) (aNil))) (aCons (evB gTuple (aCons (evV 1) (aNil))) (aCons (evCall (r_law_placeless A n) (aCons (bin gIx (evV 0) (evC (.int 3))) (aNil))) (aNil)))))))) (dNext)) (dRet (bin (gAddT mkF) (evSl (gSl mkF) (evV 0) oNo (oPart (evC (.int 1)))) (evB gTuple (aCons (evComp mkF (iSeq (evSl (gSl mkF) (evV 0) (oPart (evC (.int 1))) oNo)) (dgName 3) (bYes) (eIf (bV (evB (gIsi (subT A) (exT_ A)) (aCons (evV 3) (aCons (evC (.ty "tuple")) (aNil))))) (evCall (r_law_placeless A n) (aCons (evV 3) (aNil))) (evV 3)) [3]) (aNil)))))))) := rfl
def r_law_any_cell (A : Ad) : DF := runF 7 (dSeq (dPar 4 5 (aCons (evCall (r_law_pick A) (aCons (evV 0) (aCons (evV 1) (aNil)))) (aCons (evCall (r_law_any_expression A 6) (aCons (evV 0) (aCons (evV 1) (aCons (evV 2) (aNil))))) (aNil)))) (dSeq (dIf (bB (bin gEqE (evV 3) (evC (.str "cell")))) (dRet (evTup (aCons (evC (.str "cell")) (aCons (evV 4) (aCons (evCall (r_law_placeless A 16) (aCons (evV 5) (aNil))) (aNil)))))) (dNext)) (dSeq (dIf (bB (bin gEqE (evV 3) (evC (.str "row")))) (dRet (evTup (aCons (evC (.str "row")) (aCons (evV 4) (aCons (bin (gAddT mkF) (evC (.int 1)) (evCall (r_law_take A) (aCons (evV 0) (aCons (evC (.int 9)) (aNil))))) (aCons (evV 5) (aNil))))))) (dNext)) (dSeq (dSet 6 (evCall (r_law_pick A) (aCons (evV 0) (aCons (evLst mkF (aCons (evC (.int 0)) (aCons (evC (.int 0)) (aCons (una gNeg (evC (.int 1))) (aCons (evC (.int 5)) (aCons (una gNeg (evC (.int 999))) (aCons (evC (.int 991)) (aNil)))))))) (aNil))))) (dRet (evTup (aCons (evC (.str "settle")) (aCons (evV 4) (aCons (evV 6) (aCons (bin (gAddT mkF) (evV 6) (evCall (r_law_take A) (aCons (evV 0) (aCons (evC (.int 9)) (aNil))))) (aCons (evCall (r_law_placeless A 16) (aCons (evCall (r_law_any_expression A 6) (aCons (evV 0) (aCons (evV 1) (aCons (evC (.int 2)) (aNil))))) (aNil))) (aCons (evCall (r_law_placeless A 16) (aCons (evV 5) (aNil))) (aNil)))))))))))))
def r_law_any_sheet (A : Ad) : DF := runF 11 (dSeq (dPar3 3 4 5 (aCons (bin gEqE (evCall (r_law_take A) (aCons (evV 0) (aCons (evC (.int 9)) (aNil)))) (evC (.int 0))) (aCons (evLst mkM (aNil)) (aCons (evLst mkM (aNil)) (aNil))))) (dSeq (dSet 6 (evCall (r_law_names A) (aCons (evV 0) (aCons (eIf (bAnd (bV (evV 3)) (bB (bin gEqE (evCall (r_law_take A) (aCons (evV 0) (aCons (evC (.int 2)) (aNil)))) (evC (.int 0))))) (evC (.int 70)) (evC (.int 7))) (aNil))))) (dSeq (dFzV 4 (dFor (iRange1 (aCons (eIf (bV (evV 3)) (bin (gAddT mkF) (evC (.int 8)) (evCall (r_law_take A) (aCons (evV 0) (aCons (evC (.int 5)) (aNil))))) (evCall (r_law_pick A) (aCons (evV 0) (aCons (evLst mkF (aCons (evC (.int 1)) (aCons (evC (.int 1)) (aCons (evC (.int 2)) (aCons (evC (.int 3)) (aNil)))))) (aNil))))) (aNil))) (dgName 7) (dSeq (dSet 8 (evCall (r_law_pick A) (aCons (evV 0) (aCons (eIf (bV (evV 3)) (evLst mkF (aCons (evC (.int 0)) (aCons (evC (.int 0)) (aCons (evC (.int 1)) (aCons (una gNeg (evC (.int 3))) (aCons (una gNeg (evC (.int 99))) (aCons (evC (.int 91)) (aCons (una gNeg (evC (.int 999))) (aNil))))))))) (evLst mkF (aCons (evC (.int 0)) (aCons (evC (.int 0)) (aCons (evC (.int 1)) (aCons (una gNeg (evC (.int 3))) (aCons (una gNeg (evC (.int 99))) (aCons (evC (.int 91)) (aNil))))))))) (aNil))))) (dExpr (evM "list" mAppend (evV 4) (aCons (evTup (aCons (evC (.str "input")) (aCons (evCall (r_law_pick A) (aCons (evV 0) (aCons (evV 6) (aNil)))) (aCons (evV 8) (aCons (bin (gAddT mkF) (evV 8) (evCall (r_law_take A) (aCons (evV 0) (aCons (eIf (bV (evV 3)) (evC (.int 900)) (evC (.int 9))) (aNil))))) (aNil)))))) (aNil))))))) (dSeq (dFzV 5 (dFor (iRange1 (aCons (eIf (bV (evV 3)) (bin (gAddT mkF) (evC (.int 41)) (evCall (r_law_take A) (aCons (evV 0) (aCons (evC (.int 20)) (aNil))))) (bin (gAddT mkF) (evC (.int 1)) (evCall (r_law_take A) (aCons (evV 0) (aCons (evV 1) (aNil)))))) (aNil))) (dgName 7) (dSeq (dSet 9 (bin (gAddT mkF) (evLst mkF (aCons (evC (.str "cell")) (aCons (evC (.str "cell")) (aCons (evC (.str "row")) (aNil))))) (bin (gMulB mkF) (evLst mkM (aCons (evC (.str "settle")) (aNil))) (evB gInt (aCons (bin gLt (evB gLen (aCons (evLive mkF 5 (dgName 10) (bB (bin gEqE (bin gIx (evV 10) (evC (.int 0))) (evC (.str "settle")))) (evV 10) [10]) (aNil))) (evC (.int 3))) (aNil)))))) (dExpr (evM "list" mAppend (evV 5) (aCons (evCall (r_law_any_cell A) (aCons (evV 0) (aCons (evV 6) (aCons (eIf (bV (evV 3)) (evC (.int 2)) (evV 2)) (aCons (evCall (r_law_pick A) (aCons (evV 0) (aCons (evV 9) (aNil)))) (aNil)))))) (aNil))))))) (dRet (evTup (aCons (evC (.str "sheet")) (aCons (evB gTuple (aCons (evV 4) (aNil))) (aCons (evB gTuple (aCons (evV 5) (aNil))) (aNil))))))))))
def r_law_kept (A : Ad) : DF := runF 1 (dSeq (dSet 0 (evLst mkF (aCons (evC (.str "and")) (aCons (evC (.str "cases")) (aCons (evC (.str "cell")) (aCons (evC (.str "else")) (aCons (evC (.str "fewest")) (aCons (evC (.str "from")) (aCons (evC (.str "greatest")) (aCons (evC (.str "if")) (aCons (evC (.str "input")) (aCons (evC (.str "least")) (aCons (evC (.str "most")) (aCons (evC (.str "not")) (aCons (evC (.str "of")) (aNil)))))))))))))))) (dRet (bin (gAddT mkF) (evV 0) (evLst mkF (aCons (evC (.str "or")) (aCons (evC (.str "place")) (aCons (evC (.str "row")) (aCons (evC (.str "settle")) (aCons (evC (.str "start")) (aCons (evC (.str "sum")) (aCons (evC (.str "then")) (aCons (evC (.str "to")) (aNil)))))))))))))
def r_law_is_small (A : Ad) : DF := runF 2 (dRet (eAnd (bin gNeE (evV 0) (evC (.str ""))) (bin gEqE (evComp mkF (iChars (evV 0)) (dgName 1) (bNot (bB (chn gLe gLe (evC (.str "a")) (evV 1) (evC (.str "z"))))) (evV 1) [1]) (evLst mkF (aNil)))))
def r_law_is_name (A : Ad) : DF := runF 1 (dRet (eAnd (evB (gIsi (subT A) (exT_ A)) (aCons (evV 0) (aCons (evC (.ty "str")) (aNil)))) (eAnd (bin gLt (evB gLen (aCons (evV 0) (aNil))) (evC (.int 9))) (eAnd (evCall (r_law_is_small A) (aCons (evV 0) (aNil))) (bin (gInC true) (evV 0) (bin (gAddT mkF) (evCall0 (r_law_kept A)) (evLst mkF (aCons (evC (.str "fork")) (aCons (evC (.str "leaf")) (aNil))))))))))
def r_law_table (A : Ad) : DF := runF 2 (dSeq (dSet 0 (evDisp mkDM [(.inr "E")] (aCons (evDisp mkDM [(.inr "number"), (.inr "name"), (.inr "item"), (.inr "place"), (.inr "at"), (.inr "not")] (aCons (evLst mkF (aCons (evC (.str "small")) (aNil))) (aCons (evLst mkF (aCons (evC (.str "name")) (aNil))) (aCons (evLst mkF (aCons (evC (.str "name")) (aCons (evC (.str "nine")) (aNil)))) (aCons (evLst mkF (aNil)) (aCons (evLst mkF (aCons (evC (.str "name")) (aCons (evC (.str "small")) (aCons (evC (.str "E")) (aNil))))) (aCons (evLst mkF (aCons (evC (.str "E")) (aNil))) (aNil)))))))) (aNil)))) (dSeq (dFor (iSeq (evLst mkF (aCons (evC (.str "plus")) (aCons (evC (.str "minus")) (aCons (evC (.str "times")) (aCons (evC (.str "least")) (aCons (evC (.str "greatest")) (aCons (evC (.str "less")) (aCons (evC (.str "atmost")) (aCons (evC (.str "same")) (aCons (evC (.str "and")) (aCons (evC (.str "or")) (aNil))))))))))))) (dgName 1) (dAsg (evLst mkF (aCons (evC (.str "E")) (aCons (evC (.str "E")) (aNil)))) (dgSub (bin gIx (evV 0) (evC (.str "E"))) (evV 1)))) (dSeq (dFor (iSeq (evLst mkF (aCons (evC (.str "sum")) (aCons (evC (.str "fewest")) (aCons (evC (.str "most")) (aNil)))))) (dgName 1) (dAsg (evLst mkF (aCons (evC (.str "name")) (aNil))) (dgSub (bin gIx (evV 0) (evC (.str "E"))) (evV 1)))) (dSeq (dAsg (evTup (aCons (evLst mkF (aCons (evC (.str "E")) (aCons (evC (.str "E")) (aCons (evC (.str "E")) (aNil))))) (aCons (evLst mkF (aCons (evC (.str "E")) (aCons (evLst mkF (aCons (evC (.str "pair")) (aCons (evC (.int 1)) (aCons (evC (.int 9999)) (aNil))))) (aCons (evC (.str "E")) (aNil))))) (aNil)))) (dgTup 2 (dgCons (dgSub (bin gIx (evV 0) (evC (.str "E"))) (evC (.str "choose"))) (dgCons (dgSub (bin gIx (evV 0) (evC (.str "E"))) (evC (.str "cases"))) (dgNil))))) (dSeq (dAsg (evDisp mkDF [(.inr "input")] (aCons (evLst mkF (aCons (evC (.str "name")) (aCons (evC (.str "small")) (aCons (evC (.str "small")) (aNil))))) (aNil))) (dgSub (evV 0) (evC (.str "I")))) (dSeq (dAsg (evDisp mkDF [(.inr "cell"), (.inr "row"), (.inr "settle")] (aCons (evLst mkF (aCons (evC (.str "name")) (aCons (evC (.str "free")) (aNil)))) (aCons (evLst mkF (aCons (evC (.str "name")) (aCons (evC (.str "nine")) (aCons (evC (.str "E")) (aNil))))) (aCons (evLst mkF (aCons (evC (.str "name")) (aCons (evC (.str "small")) (aCons (evC (.str "small")) (aCons (evC (.str "free")) (aCons (evC (.str "free")) (aNil))))))) (aNil))))) (dgSub (evV 0) (evC (.str "C")))) (dSeq (dAsg (evDisp mkDF [(.inr "sheet")] (aCons (evLst mkF (aCons (evLst mkF (aCons (evC (.str "I")) (aCons (evC (.int 1)) (aCons (evC (.int 9999)) (aNil))))) (aCons (evLst mkF (aCons (evC (.str "C")) (aCons (evC (.int 1)) (aCons (evC (.int 9999)) (aNil))))) (aNil)))) (aNil))) (dgSub (evV 0) (evC (.str "S")))) (dRet (evV 0)))))))))
def g_law_is_free (A : Ad) : Nat → Nat → DF
  | 0, _ => dNone
  | n + 1, 0 => runF 2 (dSeq (dIf (bNot (bV (evB (gIsi (subT A) (exT_ A)) (aCons (evV 0) (aCons (evC (.ty "tuple")) (aNil)))))) (dRet (evC (.bl true))) (dNext)) (dRet (eAnd (bin (gInC true) (evSl (gSl mkF) (evV 0) oNo (oPart (evC (.int 1)))) (evLst mkF (aCons (evTup (aCons (evC (.str "place")) (aNil))) (aCons (evTup (aCons (evC (.str "at")) (aNil))) (aNil))))) (bin gEqE (evComp mkF (iSeq (evV 0)) (dgName 1) (bNot (bV (evCall (g_law_is_free A n 0) (aCons (evV 1) (aNil))))) (evV 1) [1]) (evLst mkF (aNil))))))
  | _ + 1, _ => dNone
def r_law_is_free (A : Ad) (n : Nat) : DF := g_law_is_free A n 0
theorem r_law_is_free_eq {A : Ad} (n : Nat) : r_law_is_free A (n + 1) = runF 2 (dSeq (dIf (bNot (bV (evB (gIsi (subT A) (exT_ A)) (aCons (evV 0) (aCons (evC (.ty "tuple")) (aNil)))))) (dRet (evC (.bl true))) (dNext)) (dRet (eAnd (bin (gInC true) (evSl (gSl mkF) (evV 0) oNo (oPart (evC (.int 1)))) (evLst mkF (aCons (evTup (aCons (evC (.str "place")) (aNil))) (aCons (evTup (aCons (evC (.str "at")) (aNil))) (aNil))))) (bin gEqE (evComp mkF (iSeq (evV 0)) (dgName 1) (bNot (bV (evCall (r_law_is_free A n) (aCons (evV 1) (aNil))))) (evV 1) [1]) (evLst mkF (aNil)))))) := rfl
def r_law_rises (A : Ad) : DF := runF 2 (dRet (bin gEqE (evComp mkF (iRange2 (aCons (evC (.int 1)) (aCons (evB gLen (aCons (evV 0) (aNil))) (aNil)))) (dgName 1) (bB (bin gLe (bin gIx (bin gIx (evV 0) (evV 1)) (evC (.int 0))) (bin gIx (bin gIx (evV 0) (bin gSub (evV 1) (evC (.int 1)))) (evC (.int 0))))) (evV 1) [1]) (evLst mkF (aNil))))
def g_law_all_fit (A : Ad) : Nat → Nat → DF
  | 0, _ => dNone
  | n + 1, 0 => runF 4 (dRet (eAnd (bin gEqE (evB gLen (aCons (evV 1) (aNil))) (evB gLen (aCons (evV 2) (aNil)))) (bin gEqE (evComp mkF (iRange1 (aCons (evB gLen (aCons (evV 1) (aNil))) (aNil))) (dgName 3) (bNot (bV (evCall (g_law_all_fit A n 1) (aCons (evV 0) (aCons (bin gIx (evV 1) (evV 3)) (aCons (bin gIx (evV 2) (evV 3)) (aNil))))))) (evV 3) [3]) (evLst mkF (aNil)))))
  | n + 1, 1 => runF 5 (dSeq (dIf (bV (evB (gIsi (subT A) (exT_ A)) (aCons (evV 1) (aCons (evC (.ty "list")) (aNil))))) (dSeq (dIf (bOr (bNot (bV (evB (gIsi (subT A) (exT_ A)) (aCons (evV 2) (aCons (evC (.ty "tuple")) (aNil)))))) (bNot (bB (chn gLe gLe (bin gIx (evV 1) (evC (.int 1))) (evB gLen (aCons (evV 2) (aNil))) (bin gIx (evV 1) (evC (.int 2))))))) (dRet (evC (.bl false))) (dNext)) (dRet (eAnd (bin gEqE (evComp mkF (iSeq (evV 2)) (dgName 3) (bNot (bV (evCall (g_law_all_fit A n 1) (aCons (evV 0) (aCons (bin gIx (evV 1) (evC (.int 0))) (aCons (evV 3) (aNil))))))) (evV 3) [3]) (evLst mkF (aNil))) (eOr (bin gNeE (bin gIx (evV 1) (evC (.int 0))) (evC (.str "pair"))) (evCall (r_law_rises A) (aCons (evV 2) (aNil))))))) (dNext)) (dSeq (dIf (bB (bin (gInC false) (evV 1) (evLst mkF (aCons (evC (.str "small")) (aCons (evC (.str "nine")) (aNil)))))) (dSeq (dSet 4 (eAnd (evB (gIsi (subT A) (exT_ A)) (aCons (evV 2) (aCons (evC (.ty "int")) (aNil)))) (eNot (evB (gIsi (subT A) (exT_ A)) (aCons (evV 2) (aCons (evC (.ty "bool")) (aNil))))))) (dRet (eAnd (evV 4) (eIf (bB (bin gEqE (evV 1) (evC (.str "small")))) (chn gLe gLe (una gNeg (evC (.int 999))) (evV 2) (evC (.int 999))) (chn gLe gLe (evC (.int 1)) (evV 2) (evC (.int 9))))))) (dNext)) (dSeq (dIf (bB (bin gEqE (evV 1) (evC (.str "name")))) (dRet (evCall (r_law_is_name A) (aCons (evV 2) (aNil)))) (dNext)) (dSeq (dIf (bOr (bNot (bV (evB (gIsi (subT A) (exT_ A)) (aCons (evV 2) (aCons (evC (.ty "tuple")) (aNil)))))) (bB (bin gEqE (evB gLen (aCons (evV 2) (aNil))) (evC (.int 0))))) (dRet (evC (.bl false))) (dNext)) (dSeq (dIf (bB (bin gEqE (evV 1) (evC (.str "pair")))) (dRet (evCall (g_law_all_fit A n 0) (aCons (evV 0) (aCons (evLst mkF (aCons (evC (.str "small")) (aCons (evC (.str "E")) (aNil)))) (aCons (evB (gList mkF) (aCons (evV 2) (aNil))) (aNil)))))) (dNext)) (dSeq (dIf (bB (bin gEqE (evV 1) (evC (.str "free")))) (dRet (eAnd (evCall (g_law_all_fit A n 1) (aCons (evV 0) (aCons (evC (.str "E")) (aCons (evV 2) (aNil))))) (evCall (r_law_is_free A 60) (aCons (evV 2) (aNil))))) (dNext)) (dSeq (dIf (bOr (bNot (bV (evB (gIsi (subT A) (exT_ A)) (aCons (bin gIx (evV 2) (evC (.int 0))) (aCons (evC (.ty "str")) (aNil)))))) (bB (bin (gInC true) (bin gIx (evV 2) (evC (.int 0))) (bin gIx (evV 0) (evV 1))))) (dRet (evC (.bl false))) (dNext)) (dSeq (dIf (bNot (bV (evCall (g_law_all_fit A n 0) (aCons (evV 0) (aCons (bin gIx (bin gIx (evV 0) (evV 1)) (bin gIx (evV 2) (evC (.int 0)))) (aCons (evB (gList mkF) (aCons (evSl (gSl mkF) (evV 2) (oPart (evC (.int 1))) oNo) (aNil))) (aNil))))))) (dRet (evC (.bl false))) (dNext)) (dRet (eOr (bin (gInC true) (bin gIx (evV 2) (evC (.int 0))) (evLst mkF (aCons (evC (.str "input")) (aCons (evC (.str "settle")) (aNil))))) (bin gLe (bin gIx (evV 2) (evC (.int 2))) (bin gIx (evV 2) (evC (.int 3))))))))))))))
  | _ + 1, _ => dNone
def r_law_all_fit (A : Ad) (n : Nat) : DF := g_law_all_fit A n 0
def r_law_fits (A : Ad) (n : Nat) : DF := g_law_all_fit A n 1
theorem r_law_all_fit_eq {A : Ad} (n : Nat) : r_law_all_fit A (n + 1) = runF 4 (dRet (eAnd (bin gEqE (evB gLen (aCons (evV 1) (aNil))) (evB gLen (aCons (evV 2) (aNil)))) (bin gEqE (evComp mkF (iRange1 (aCons (evB gLen (aCons (evV 1) (aNil))) (aNil))) (dgName 3) (bNot (bV (evCall (r_law_fits A n) (aCons (evV 0) (aCons (bin gIx (evV 1) (evV 3)) (aCons (bin gIx (evV 2) (evV 3)) (aNil))))))) (evV 3) [3]) (evLst mkF (aNil))))) := rfl
theorem r_law_fits_eq {A : Ad} (n : Nat) : r_law_fits A (n + 1) = runF 5 (dSeq (dIf (bV (evB (gIsi (subT A) (exT_ A)) (aCons (evV 1) (aCons (evC (.ty "list")) (aNil))))) (dSeq (dIf (bOr (bNot (bV (evB (gIsi (subT A) (exT_ A)) (aCons (evV 2) (aCons (evC (.ty "tuple")) (aNil)))))) (bNot (bB (chn gLe gLe (bin gIx (evV 1) (evC (.int 1))) (evB gLen (aCons (evV 2) (aNil))) (bin gIx (evV 1) (evC (.int 2))))))) (dRet (evC (.bl false))) (dNext)) (dRet (eAnd (bin gEqE (evComp mkF (iSeq (evV 2)) (dgName 3) (bNot (bV (evCall (r_law_fits A n) (aCons (evV 0) (aCons (bin gIx (evV 1) (evC (.int 0))) (aCons (evV 3) (aNil))))))) (evV 3) [3]) (evLst mkF (aNil))) (eOr (bin gNeE (bin gIx (evV 1) (evC (.int 0))) (evC (.str "pair"))) (evCall (r_law_rises A) (aCons (evV 2) (aNil))))))) (dNext)) (dSeq (dIf (bB (bin (gInC false) (evV 1) (evLst mkF (aCons (evC (.str "small")) (aCons (evC (.str "nine")) (aNil)))))) (dSeq (dSet 4 (eAnd (evB (gIsi (subT A) (exT_ A)) (aCons (evV 2) (aCons (evC (.ty "int")) (aNil)))) (eNot (evB (gIsi (subT A) (exT_ A)) (aCons (evV 2) (aCons (evC (.ty "bool")) (aNil))))))) (dRet (eAnd (evV 4) (eIf (bB (bin gEqE (evV 1) (evC (.str "small")))) (chn gLe gLe (una gNeg (evC (.int 999))) (evV 2) (evC (.int 999))) (chn gLe gLe (evC (.int 1)) (evV 2) (evC (.int 9))))))) (dNext)) (dSeq (dIf (bB (bin gEqE (evV 1) (evC (.str "name")))) (dRet (evCall (r_law_is_name A) (aCons (evV 2) (aNil)))) (dNext)) (dSeq (dIf (bOr (bNot (bV (evB (gIsi (subT A) (exT_ A)) (aCons (evV 2) (aCons (evC (.ty "tuple")) (aNil)))))) (bB (bin gEqE (evB gLen (aCons (evV 2) (aNil))) (evC (.int 0))))) (dRet (evC (.bl false))) (dNext)) (dSeq (dIf (bB (bin gEqE (evV 1) (evC (.str "pair")))) (dRet (evCall (r_law_all_fit A n) (aCons (evV 0) (aCons (evLst mkF (aCons (evC (.str "small")) (aCons (evC (.str "E")) (aNil)))) (aCons (evB (gList mkF) (aCons (evV 2) (aNil))) (aNil)))))) (dNext)) (dSeq (dIf (bB (bin gEqE (evV 1) (evC (.str "free")))) (dRet (eAnd (evCall (r_law_fits A n) (aCons (evV 0) (aCons (evC (.str "E")) (aCons (evV 2) (aNil))))) (evCall (r_law_is_free A 60) (aCons (evV 2) (aNil))))) (dNext)) (dSeq (dIf (bOr (bNot (bV (evB (gIsi (subT A) (exT_ A)) (aCons (bin gIx (evV 2) (evC (.int 0))) (aCons (evC (.ty "str")) (aNil)))))) (bB (bin (gInC true) (bin gIx (evV 2) (evC (.int 0))) (bin gIx (evV 0) (evV 1))))) (dRet (evC (.bl false))) (dNext)) (dSeq (dIf (bNot (bV (evCall (r_law_all_fit A n) (aCons (evV 0) (aCons (bin gIx (bin gIx (evV 0) (evV 1)) (bin gIx (evV 2) (evC (.int 0)))) (aCons (evB (gList mkF) (aCons (evSl (gSl mkF) (evV 2) (oPart (evC (.int 1))) oNo) (aNil))) (aNil))))))) (dRet (evC (.bl false))) (dNext)) (dRet (eOr (bin (gInC true) (bin gIx (evV 2) (evC (.int 0))) (evLst mkF (aCons (evC (.str "input")) (aCons (evC (.str "settle")) (aNil))))) (bin gLe (bin gIx (evV 2) (evC (.int 2))) (bin gIx (evV 2) (evC (.int 3)))))))))))))) := rfl
def r_law_odd (A : Ad) : DF := runF 2 (dSeq (dSet 1 (evLst mkF (aCons (evC .non) (aCons (evC (.bl true)) (aCons (evC (.bl false)) (aCons (evC (.int 0)) (aCons (evC (.int 1)) (aCons (evC (.int 9)) (aCons (evC (.int 10)) (aCons (una gNeg (evC (.int 5))) (aCons (evC (.int 999)) (aCons (evC (.int 1000)) (aCons (una gNeg (evC (.int 1000))) (aCons (evC (.str "")) (aCons (evC (.str "a")) (aCons (evC (.str "number")) (aCons (evC (.str "place")) (aCons (evC (.str "if")) (aCons (evC (.str "leaf")) (aCons (evC (.str "abcdefghi")) (aCons (evC (.str "A")) (aCons (evLst mkF (aNil)) (aCons (evTup (aNil)) (aCons (evDict0 mkDF) (aCons (evTup (aCons (evC (.str "a")) (aNil))) (aCons (evLst mkF (aCons (evC (.str "a")) (aNil))) (aNil))))))))))))))))))))))))))) (dSeq (dSet 1 (bin (gAddT mkF) (evV 1) (evLst mkF (aCons (evTup (aCons (evC (.str "place")) (aNil))) (aCons (evTup (aCons (evC (.str "place")) (aCons (evC (.int 1)) (aNil)))) (aCons (evTup (aCons (evC (.str "number")) (aCons (evC (.bl true)) (aNil)))) (aCons (evTup (aCons (evC (.str "number")) (aCons (evC (.int 1000)) (aNil)))) (aCons (evTup (aCons (evC (.str "number")) (aCons (una gNeg (evC (.int 999))) (aNil)))) (aCons (evTup (aCons (evC (.str "item")) (aCons (evC (.str "a")) (aCons (evC (.int 0)) (aNil))))) (aCons (evTup (aCons (evC (.str "item")) (aCons (evC (.str "a")) (aCons (evC (.int 9)) (aNil))))) (aCons (evTup (aCons (evC (.str "sum")) (aCons (evC (.str "a")) (aNil)))) (aNil)))))))))))) (dRet (evCall (r_law_pick A) (aCons (evV 0) (aCons (bin (gAddT mkF) (evV 1) (evLst mkF (aCons (evTup (aCons (evC (.str "at")) (aCons (evC (.str "a")) (aCons (evC (.int 1)) (aCons (evTup (aCons (evC (.str "place")) (aNil))) (aNil)))))) (aCons (evTup (aCons (evC (.str "cases")) (aCons (evTup (aCons (evC (.str "place")) (aNil))) (aCons (evTup (aCons (evTup (aCons (evC (.int 1)) (aCons (evTup (aCons (evC (.str "place")) (aNil))) (aNil)))) (aNil))) (aCons (evTup (aCons (evC (.str "place")) (aNil))) (aNil)))))) (aCons (evTup (aCons (evC (.str "input")) (aCons (evC (.str "a")) (aCons (evC (.int 2)) (aCons (evC (.int 1)) (aNil)))))) (aCons (evTup (aCons (evC (.int 5)) (aCons (evTup (aCons (evC (.str "number")) (aCons (evC (.int 5)) (aNil)))) (aNil)))) (aNil))))))) (aNil)))))))
def g_law_spoilt (A : Ad) : Nat → Nat → DF
  | 0, _ => dNone
  | n + 1, 0 => runF 5 (dSeq (dIf (bOr (bNot (bV (evB (gIsi (subT A) (exT_ A)) (aCons (evV 1) (aCons (evC (.ty "tuple")) (aNil)))))) (bOr (bB (bin gEqE (evB gLen (aCons (evV 1) (aNil))) (evC (.int 0)))) (bB (bin gEqE (evCall (r_law_take A) (aCons (evV 0) (aCons (evC (.int 4)) (aNil)))) (evC (.int 0)))))) (dSeq (dSet 3 (evCall (r_law_take A) (aCons (evV 0) (aCons (evC (.int 6)) (aNil))))) (dSeq (dIf (bAnd (bB (bin gEqE (evV 3) (evC (.int 0)))) (bV (evB (gIsi (subT A) (exT_ A)) (aCons (evV 1) (aCons (evC (.ty "tuple")) (aNil)))))) (dRet (evB (gList mkF) (aCons (evV 1) (aNil)))) (dNext)) (dSeq (dIf (bAnd (bB (bin gEqE (evV 3) (evC (.int 1)))) (bV (evB (gIsi (subT A) (exT_ A)) (aCons (evV 1) (aCons (evC (.ty "tuple")) (aNil)))))) (dRet (evSl (gSl mkF) (evV 1) oNo (oPart (una gNeg (evC (.int 1)))))) (dNext)) (dSeq (dIf (bAnd (bB (bin gEqE (evV 3) (evC (.int 2)))) (bV (evB (gIsi (subT A) (exT_ A)) (aCons (evV 1) (aCons (evC (.ty "tuple")) (aNil)))))) (dRet (bin (gAddT mkF) (evV 1) (evSl (gSl mkF) (evV 1) (oPart (una gNeg (evC (.int 1)))) oNo))) (dNext)) (dRet (eIf (bB (bin gLt (evV 3) (evC (.int 5)))) (evCall (r_law_odd A) (aCons (evV 0) (aNil))) (evV 2))))))) (dNext)) (dSeq (dSet 4 (evCall (r_law_take A) (aCons (evV 0) (aCons (evB gLen (aCons (evV 1) (aNil))) (aNil))))) (dRet (bin (gAddT mkF) (bin (gAddT mkF) (evSl (gSl mkF) (evV 1) oNo (oPart (evV 4))) (evTup (aCons (evCall (g_law_spoilt A n 0) (aCons (evV 0) (aCons (bin gIx (evV 1) (evV 4)) (aCons (evV 2) (aNil))))) (aNil)))) (evSl (gSl mkF) (evV 1) (oPart (bin (gAddT mkF) (evV 4) (evC (.int 1)))) oNo)))))
  | _ + 1, _ => dNone
def r_law_spoilt (A : Ad) (n : Nat) : DF := g_law_spoilt A n 0
theorem r_law_spoilt_eq {A : Ad} (n : Nat) : r_law_spoilt A (n + 1) = runF 5 (dSeq (dIf (bOr (bNot (bV (evB (gIsi (subT A) (exT_ A)) (aCons (evV 1) (aCons (evC (.ty "tuple")) (aNil)))))) (bOr (bB (bin gEqE (evB gLen (aCons (evV 1) (aNil))) (evC (.int 0)))) (bB (bin gEqE (evCall (r_law_take A) (aCons (evV 0) (aCons (evC (.int 4)) (aNil)))) (evC (.int 0)))))) (dSeq (dSet 3 (evCall (r_law_take A) (aCons (evV 0) (aCons (evC (.int 6)) (aNil))))) (dSeq (dIf (bAnd (bB (bin gEqE (evV 3) (evC (.int 0)))) (bV (evB (gIsi (subT A) (exT_ A)) (aCons (evV 1) (aCons (evC (.ty "tuple")) (aNil)))))) (dRet (evB (gList mkF) (aCons (evV 1) (aNil)))) (dNext)) (dSeq (dIf (bAnd (bB (bin gEqE (evV 3) (evC (.int 1)))) (bV (evB (gIsi (subT A) (exT_ A)) (aCons (evV 1) (aCons (evC (.ty "tuple")) (aNil)))))) (dRet (evSl (gSl mkF) (evV 1) oNo (oPart (una gNeg (evC (.int 1)))))) (dNext)) (dSeq (dIf (bAnd (bB (bin gEqE (evV 3) (evC (.int 2)))) (bV (evB (gIsi (subT A) (exT_ A)) (aCons (evV 1) (aCons (evC (.ty "tuple")) (aNil)))))) (dRet (bin (gAddT mkF) (evV 1) (evSl (gSl mkF) (evV 1) (oPart (una gNeg (evC (.int 1)))) oNo))) (dNext)) (dRet (eIf (bB (bin gLt (evV 3) (evC (.int 5)))) (evCall (r_law_odd A) (aCons (evV 0) (aNil))) (evV 2))))))) (dNext)) (dSeq (dSet 4 (evCall (r_law_take A) (aCons (evV 0) (aCons (evB gLen (aCons (evV 1) (aNil))) (aNil))))) (dRet (bin (gAddT mkF) (bin (gAddT mkF) (evSl (gSl mkF) (evV 1) oNo (oPart (evV 4))) (evTup (aCons (evCall (r_law_spoilt A n) (aCons (evV 0) (aCons (bin gIx (evV 1) (evV 4)) (aCons (evV 2) (aNil))))) (aNil)))) (evSl (gSl mkF) (evV 1) (oPart (bin (gAddT mkF) (evV 4) (evC (.int 1)))) oNo))))) := rfl
def tb_1 (A : Ad) : Addr → Option DF := fun a => if a = A.f_is_expression then some (r_is_expression A 60) else if a = A.f_is_cell then some (r_is_cell A) else if a = A.f_is_sheet then some (r_is_sheet A) else none
def tb_2 (A : Ad) : Addr → Option DF := fun a => if a = A.f_is_expression then some (r_is_expression A 60) else if a = A.f_is_cell then some (r_is_cell A) else if a = A.f_is_sheet then some (r_is_sheet A) else none
def r_law (A : Ad) : DF := runF 17 (dSeq (dAsg (evTup (aCons (evCall (r_law_begun A) (aCons (evV 0) (aNil))) (aCons (evCall0 (r_law_table A)) (aNil)))) (dgTup 2 (dgCons (dgName 1) (dgCons (dgName 2) (dgNil))))) (dSeq (dSet 3 (evLst mkF (aCons (evTup (aCons (evC (.str "E")) (aCons (evC (.ref (A.f_is_expression))) (aNil)))) (aCons (evTup (aCons (evC (.str "C")) (aCons (evC (.ref (A.f_is_cell))) (aNil)))) (aCons (evTup (aCons (evC (.str "S")) (aCons (evC (.ref (A.f_is_sheet))) (aNil)))) (aNil)))))) (dSeq (dFor (iRange1 (aCons (bin (gAddT mkF) (evC (.int 2)) (evB gMin (aCons (evB gLen (aCons (evV 0) (aNil))) (aCons (evC (.int 10)) (aNil))))) (aNil))) (dgName 4) (dSeq (dAsg (evTup (aCons (evCall (r_law_names A) (aCons (evV 1) (aCons (evC (.int 5)) (aNil)))) (aCons (evCall (r_law_any_sheet A) (aCons (evV 1) (aCons (evC (.int 3)) (aCons (evC (.int 3)) (aNil))))) (aNil)))) (dgTup 2 (dgCons (dgName 5) (dgCons (dgName 6) (dgNil))))) (dSeq (dSet 7 (evCall (r_law_any_expression A 6) (aCons (evV 1) (aCons (evV 5) (aCons (evC (.int 4)) (aNil)))))) (dSeq (dSet 8 (evComp mkF (iSeq (evLst mkF (aCons (evC (.str "cell")) (aCons (evC (.str "row")) (aCons (evC (.str "settle")) (aNil)))))) (dgName 9) (bYes) (evCall (r_law_any_cell A) (aCons (evV 1) (aCons (evV 5) (aCons (evC (.int 3)) (aCons (evV 9) (aNil)))))) [9])) (dSeq (dSet 10 (bin (gAddT mkF) (evLst mkF (aCons (evV 7) (aCons (evV 6) (aCons (evTup (aCons (evC (.str "cell")) (aCons (bin gIx (evV 5) (evC (.int 0))) (aCons (evV 7) (aNil))))) (aCons (evTup (aCons (evC (.str "settle")) (aCons (bin gIx (evV 5) (evC (.int 0))) (aCons (evC (.int 0)) (aCons (evC (.int 5)) (aCons (evV 7) (aCons (evTup (aCons (evC (.str "number")) (aCons (evC (.int 1)) (aNil)))) (aNil)))))))) (aCons (evCall (r_law_odd A) (aCons (evV 1) (aNil))) (aNil))))))) (evV 8))) (dFor (iSeq (evV 10)) (dgName 11) (dSeq (dSet 12 (evCall (r_law_pick A) (aCons (evV 1) (aCons (evLst mkF (aCons (evCall (r_law_any_expression A 6) (aCons (evV 1) (aCons (evV 5) (aCons (evC (.int 2)) (aNil))))) (aCons (evTup (aCons (evC (.str "name")) (aCons (bin gIx (evV 5) (evC (.int 0))) (aNil)))) (aCons (bin gIx (evV 5) (evC (.int 0))) (aCons (evCall (r_law_take A) (aCons (evV 1) (aCons (evC (.int 12)) (aNil)))) (aCons (bin gIx (evV 8) (evC (.int 0))) (aCons (bin gIx (evV 8) (evC (.int 1))) (aNil)))))))) (aNil))))) (dFor (iRange1 (aCons (evC (.int 4)) (aNil))) (dgName 13) (dSeq (dFor (iSeq (evV 3)) (dgTup 2 (dgCons (dgName 14) (dgCons (dgName 15) (dgNil)))) (dSeq (dSet 16 (evCall (r_law_fits A 110) (aCons (evV 2) (aCons (evV 14) (aCons (evV 11) (aNil)))))) (dIf (bB (bin gNeE (evB gRepr (aCons (evLst mkF (aCons (evCallV (tb_2 A) 15 (aCons (evV 11) (aNil))) (aCons (evCallVK (tb_1 A) 15 [0] (aCons (evV 11) (aNil))) (aNil)))) (aNil))) (evB gRepr (aCons (evLst mkF (aCons (evV 16) (aCons (evV 16) (aNil)))) (aNil))))) (dRet (evC (.bl false))) (dNext)))) (dSet 11 (evCall (r_law_spoilt A 60) (aCons (evV 1) (aCons (evV 11) (aCons (evV 12) (aNil))))))))))))))) (dRet (evC (.bl true))))))
end K02

set_option Elab.async false
set_option linter.all false
set_option maxRecDepth 100000
set_option maxHeartbeats 4100000
/-! the walk -/
namespace K02
open PySem PySem.Spec PyProof.Rows L2 MP

abbrev W0 : WX := fun _ _ _ _ => False
def topS (i : Nat) : Stmt := PySem.Challenge.pw_whysheets_k02_trees_judged.main.body.getD i (.Pass ⟨0, 0, 0, 0⟩)
abbrev s_is_name : Stmt := topS 3
theorem sc_is_name : FnScope ["thing", "letter"] ["thing"] (defScope s_is_name) := ⟨rfl, rfl, rfl, by decide +kernel, rfl, by decide +kernel, by decide +kernel⟩
abbrev s_is_int : Stmt := topS 7
theorem sc_is_int : FnScope ["thing"] ["thing"] (defScope s_is_int) := ⟨rfl, rfl, rfl, by decide +kernel, rfl, by decide +kernel, by decide +kernel⟩
abbrev s_lies_in : Stmt := topS 8
theorem sc_lies_in : FnScope ["thing", "low", "high"] ["thing", "low", "high"] (defScope s_lies_in) := ⟨rfl, rfl, rfl, by decide +kernel, rfl, by decide +kernel, by decide +kernel⟩
abbrev s_is_small : Stmt := topS 9
theorem sc_is_small : FnScope ["thing"] ["thing"] (defScope s_is_small) := ⟨rfl, rfl, rfl, by decide +kernel, rfl, by decide +kernel, by decide +kernel⟩
abbrev s_is_tagged : Stmt := topS 10
theorem sc_is_tagged : FnScope ["thing", "sizes"] ["thing", "sizes"] (defScope s_is_tagged) := ⟨rfl, rfl, rfl, by decide +kernel, rfl, by decide +kernel, by decide +kernel⟩
abbrev s_are_cases : Stmt := topS 11
theorem sc_are_cases : FnScope ["thing", "last", "pair"] ["thing"] (defScope s_are_cases) := ⟨rfl, rfl, rfl, by decide +kernel, rfl, by decide +kernel, by decide +kernel⟩
abbrev s_is_expression : Stmt := topS 12
theorem sc_is_expression : FnScope ["thing", "sizes", "word", "part"] ["thing"] (defScope s_is_expression) := ⟨rfl, rfl, rfl, by decide +kernel, rfl, by decide +kernel, by decide +kernel⟩
abbrev s_is_range : Stmt := topS 13
theorem sc_is_range : FnScope ["low", "high"] ["low", "high"] (defScope s_is_range) := ⟨rfl, rfl, rfl, by decide +kernel, rfl, by decide +kernel, by decide +kernel⟩
abbrev s_is_input : Stmt := topS 14
theorem sc_is_input : FnScope ["thing"] ["thing"] (defScope s_is_input) := ⟨rfl, rfl, rfl, by decide +kernel, rfl, by decide +kernel, by decide +kernel⟩
abbrev s_parts_of : Stmt := topS 20
theorem sc_parts_of : FnScope ["tree", "word", "pairs", "at", "pair"] ["tree"] (defScope s_parts_of) := ⟨rfl, rfl, rfl, by decide +kernel, rfl, by decide +kernel, by decide +kernel⟩
abbrev s_has_place : Stmt := topS 15
theorem sc_has_place : FnScope ["tree", "step", "part"] ["tree"] (defScope s_has_place) := ⟨rfl, rfl, rfl, by decide +kernel, rfl, by decide +kernel, by decide +kernel⟩
abbrev s_is_placeless : Stmt := topS 16
theorem sc_is_placeless : FnScope ["thing"] ["thing"] (defScope s_is_placeless) := ⟨rfl, rfl, rfl, by decide +kernel, rfl, by decide +kernel, by decide +kernel⟩
abbrev s_is_cell : Stmt := topS 17
theorem sc_is_cell : FnScope ["thing"] ["thing"] (defScope s_is_cell) := ⟨rfl, rfl, rfl, by decide +kernel, rfl, by decide +kernel, by decide +kernel⟩
abbrev s_is_filled : Stmt := topS 18
theorem sc_is_filled : FnScope ["thing", "judge", "part"] ["thing", "judge"] (defScope s_is_filled) := ⟨rfl, rfl, rfl, by decide +kernel, rfl, by decide +kernel, by decide +kernel⟩
abbrev s_is_sheet : Stmt := topS 19
theorem sc_is_sheet : FnScope ["thing"] ["thing"] (defScope s_is_sheet) := ⟨rfl, rfl, rfl, by decide +kernel, rfl, by decide +kernel, by decide +kernel⟩
abbrev s_law_begun : Stmt := topS 22
theorem sc_law_begun : FnScope ["script", "wide", "grain"] ["script"] (defScope s_law_begun) := ⟨rfl, rfl, rfl, by decide +kernel, rfl, by decide +kernel, by decide +kernel⟩
abbrev s_law_mixed : Stmt := topS 23
theorem sc_law_mixed : FnScope ["draw", "turn", "found", "prime", "blend", "grain"] ["draw"] (defScope s_law_mixed) := ⟨rfl, rfl, rfl, by decide +kernel, rfl, by decide +kernel, by decide +kernel⟩
abbrev s_law_take : Stmt := topS 24
theorem sc_law_take : FnScope ["draw", "many", "found"] ["draw", "many"] (defScope s_law_take) := ⟨rfl, rfl, rfl, by decide +kernel, rfl, by decide +kernel, by decide +kernel⟩
abbrev s_law_pick : Stmt := topS 25
theorem sc_law_pick : FnScope ["draw", "some"] ["draw", "some"] (defScope s_law_pick) := ⟨rfl, rfl, rfl, by decide +kernel, rfl, by decide +kernel, by decide +kernel⟩
abbrev s_law_shuffled : Stmt := topS 26
theorem sc_law_shuffled : FnScope ["draw", "some", "left", "found"] ["draw", "some"] (defScope s_law_shuffled) := ⟨rfl, rfl, rfl, by decide +kernel, rfl, by decide +kernel, by decide +kernel⟩
abbrev s_law_names : Stmt := topS 27
theorem sc_law_names : FnScope ["draw", "many", "letters", "found", "k"] ["draw", "many"] (defScope s_law_names) := ⟨rfl, rfl, rfl, by decide +kernel, rfl, by decide +kernel, by decide +kernel⟩
abbrev s_law_any_number : Stmt := topS 32
theorem sc_law_any_number : FnScope ["draw"] ["draw"] (defScope s_law_any_number) := ⟨rfl, rfl, rfl, by decide +kernel, rfl, by decide +kernel, by decide +kernel⟩
abbrev s_law_any_expression : Stmt := topS 33
theorem sc_law_any_expression : FnScope ["draw", "names", "deep", "way", "some", "k", "low", "pairs"] ["draw", "names", "deep"] (defScope s_law_any_expression) := ⟨rfl, rfl, rfl, by decide +kernel, rfl, by decide +kernel, by decide +kernel⟩
abbrev s_law_placeless : Stmt := topS 34
theorem sc_law_placeless : FnScope ["tree", "pairs", "number", "part"] ["tree"] (defScope s_law_placeless) := ⟨rfl, rfl, rfl, by decide +kernel, rfl, by decide +kernel, by decide +kernel⟩
abbrev s_law_any_cell : Stmt := topS 35
theorem sc_law_any_cell : FnScope ["draw", "names", "deep", "word", "name", "tree", "low"] ["draw", "names", "deep", "word"] (defScope s_law_any_cell) := ⟨rfl, rfl, rfl, by decide +kernel, rfl, by decide +kernel, by decide +kernel⟩
abbrev s_law_any_sheet : Stmt := topS 28
theorem sc_law_any_sheet : FnScope ["draw", "most", "deep", "is_wide", "inputs", "cells", "names", "k", "low", "words", "cell"] ["draw", "most", "deep"] (defScope s_law_any_sheet) := ⟨rfl, rfl, rfl, by decide +kernel, rfl, by decide +kernel, by decide +kernel⟩
abbrev s_law_kept : Stmt := topS 29
theorem sc_law_kept : FnScope ["found"] [] (defScope s_law_kept) := ⟨rfl, rfl, rfl, by decide +kernel, rfl, by decide +kernel, by decide +kernel⟩
abbrev s_law_is_small : Stmt := topS 30
theorem sc_law_is_small : FnScope ["word", "letter"] ["word"] (defScope s_law_is_small) := ⟨rfl, rfl, rfl, by decide +kernel, rfl, by decide +kernel, by decide +kernel⟩
abbrev s_law_is_name : Stmt := topS 31
theorem sc_law_is_name : FnScope ["matter"] ["matter"] (defScope s_law_is_name) := ⟨rfl, rfl, rfl, by decide +kernel, rfl, by decide +kernel, by decide +kernel⟩
abbrev s_law_table : Stmt := topS 36
theorem sc_law_table : FnScope ["table", "word"] [] (defScope s_law_table) := ⟨rfl, rfl, rfl, by decide +kernel, rfl, by decide +kernel, by decide +kernel⟩
abbrev s_law_is_free : Stmt := topS 38
theorem sc_law_is_free : FnScope ["tree", "part"] ["tree"] (defScope s_law_is_free) := ⟨rfl, rfl, rfl, by decide +kernel, rfl, by decide +kernel, by decide +kernel⟩
abbrev s_law_rises : Stmt := topS 39
theorem sc_law_rises : FnScope ["matter", "k"] ["matter"] (defScope s_law_rises) := ⟨rfl, rfl, rfl, by decide +kernel, rfl, by decide +kernel, by decide +kernel⟩
abbrev s_law_all_fit : Stmt := topS 37
theorem sc_law_all_fit : FnScope ["table", "sorts", "parts", "k"] ["table", "sorts", "parts"] (defScope s_law_all_fit) := ⟨rfl, rfl, rfl, by decide +kernel, rfl, by decide +kernel, by decide +kernel⟩
abbrev s_law_fits : Stmt := topS 40
theorem sc_law_fits : FnScope ["table", "sort", "matter", "part", "is_int_v"] ["table", "sort", "matter"] (defScope s_law_fits) := ⟨rfl, rfl, rfl, by decide +kernel, rfl, by decide +kernel, by decide +kernel⟩
abbrev s_law_odd : Stmt := topS 41
theorem sc_law_odd : FnScope ["draw", "some"] ["draw"] (defScope s_law_odd) := ⟨rfl, rfl, rfl, by decide +kernel, rfl, by decide +kernel, by decide +kernel⟩
abbrev s_law_spoilt : Stmt := topS 42
theorem sc_law_spoilt : FnScope ["draw", "matter", "spare", "way", "at"] ["draw", "matter", "spare"] (defScope s_law_spoilt) := ⟨rfl, rfl, rfl, by decide +kernel, rfl, by decide +kernel, by decide +kernel⟩
abbrev s_law : Stmt := topS 43
theorem sc_law : FnScope ["script", "draw", "table", "judges", "turn", "names", "sheet", "tree", "cells", "word", "some", "matter", "spare", "lap", "sort", "judge", "due"] ["script"] (defScope s_law) := ⟨rfl, rfl, rfl, by decide +kernel, rfl, by decide +kernel, by decide +kernel⟩
theorem bt_abs : bootBuiltins "abs" = some (.builtin "abs") := by decide +kernel
theorem bt_bool : bootBuiltins "bool" = some (.type "bool") := by decide +kernel
theorem bt_int : bootBuiltins "int" = some (.type "int") := by decide +kernel
theorem bt_isinstance : bootBuiltins "isinstance" = some (.builtin "isinstance") := by decide +kernel
theorem bt_len : bootBuiltins "len" = some (.builtin "len") := by decide +kernel
theorem bt_list : bootBuiltins "list" = some (.type "list") := by decide +kernel
theorem bt_min : bootBuiltins "min" = some (.builtin "min") := by decide +kernel
theorem bt_range : bootBuiltins "range" = some (.type "range") := by decide +kernel
theorem bt_repr : bootBuiltins "repr" = some (.builtin "repr") := by decide +kernel
theorem bt_str : bootBuiltins "str" = some (.type "str") := by decide +kernel
theorem bt_tuple : bootBuiltins "tuple" = some (.type "tuple") := by decide +kernel
/-- what the top has written -/
structure Txt (K : PySem.W.Frag) (mg : Str → Option Value) (A : Ad) : Prop where
  F_is_name : Fun K "is_name" "is_name" s_is_name A.f_is_name A.d_is_name
  g_is_name : mg "is_name" = some (.ref A.f_is_name)
  b_is_name : Binds K A.d_is_name ["thing"] []
  F_is_int : Fun K "is_int" "is_int" s_is_int A.f_is_int A.d_is_int
  g_is_int : mg "is_int" = some (.ref A.f_is_int)
  b_is_int : Binds K A.d_is_int ["thing"] []
  F_lies_in : Fun K "lies_in" "lies_in" s_lies_in A.f_lies_in A.d_lies_in
  g_lies_in : mg "lies_in" = some (.ref A.f_lies_in)
  b_lies_in : Binds K A.d_lies_in ["thing", "low", "high"] []
  F_is_small : Fun K "is_small" "is_small" s_is_small A.f_is_small A.d_is_small
  g_is_small : mg "is_small" = some (.ref A.f_is_small)
  b_is_small : Binds K A.d_is_small ["thing"] []
  F_is_tagged : Fun K "is_tagged" "is_tagged" s_is_tagged A.f_is_tagged A.d_is_tagged
  g_is_tagged : mg "is_tagged" = some (.ref A.f_is_tagged)
  b_is_tagged : Binds K A.d_is_tagged ["thing", "sizes"] []
  F_are_cases : Fun K "are_cases" "are_cases" s_are_cases A.f_are_cases A.d_are_cases
  g_are_cases : mg "are_cases" = some (.ref A.f_are_cases)
  b_are_cases : Binds K A.d_are_cases ["thing"] []
  F_is_expression : Fun K "is_expression" "is_expression" s_is_expression A.f_is_expression A.d_is_expression
  g_is_expression : mg "is_expression" = some (.ref A.f_is_expression)
  b_is_expression : Binds K A.d_is_expression ["thing"] []
  F_is_range : Fun K "is_range" "is_range" s_is_range A.f_is_range A.d_is_range
  g_is_range : mg "is_range" = some (.ref A.f_is_range)
  b_is_range : Binds K A.d_is_range ["low", "high"] []
  F_is_input : Fun K "is_input" "is_input" s_is_input A.f_is_input A.d_is_input
  g_is_input : mg "is_input" = some (.ref A.f_is_input)
  b_is_input : Binds K A.d_is_input ["thing"] []
  F_parts_of : Fun K "parts_of" "parts_of" s_parts_of A.f_parts_of A.d_parts_of
  g_parts_of : mg "parts_of" = some (.ref A.f_parts_of)
  b_parts_of : Binds K A.d_parts_of ["tree"] []
  F_has_place : Fun K "has_place" "has_place" s_has_place A.f_has_place A.d_has_place
  g_has_place : mg "has_place" = some (.ref A.f_has_place)
  b_has_place : Binds K A.d_has_place ["tree"] []
  F_is_placeless : Fun K "is_placeless" "is_placeless" s_is_placeless A.f_is_placeless A.d_is_placeless
  g_is_placeless : mg "is_placeless" = some (.ref A.f_is_placeless)
  b_is_placeless : Binds K A.d_is_placeless ["thing"] []
  F_is_cell : Fun K "is_cell" "is_cell" s_is_cell A.f_is_cell A.d_is_cell
  g_is_cell : mg "is_cell" = some (.ref A.f_is_cell)
  b_is_cell : Binds K A.d_is_cell ["thing"] []
  F_is_filled : Fun K "is_filled" "is_filled" s_is_filled A.f_is_filled A.d_is_filled
  g_is_filled : mg "is_filled" = some (.ref A.f_is_filled)
  b_is_filled : Binds K A.d_is_filled ["thing", "judge"] []
  F_is_sheet : Fun K "is_sheet" "is_sheet" s_is_sheet A.f_is_sheet A.d_is_sheet
  g_is_sheet : mg "is_sheet" = some (.ref A.f_is_sheet)
  b_is_sheet : Binds K A.d_is_sheet ["thing"] []
  F_law_begun : Fun K "_law_begun" "_law_begun" s_law_begun A.f_law_begun A.d_law_begun
  g_law_begun : mg "_law_begun" = some (.ref A.f_law_begun)
  b_law_begun : Binds K A.d_law_begun ["script"] []
  F_law_mixed : Fun K "_law_mixed" "_law_mixed" s_law_mixed A.f_law_mixed A.d_law_mixed
  g_law_mixed : mg "_law_mixed" = some (.ref A.f_law_mixed)
  b_law_mixed : Binds K A.d_law_mixed ["draw"] []
  F_law_take : Fun K "_law_take" "_law_take" s_law_take A.f_law_take A.d_law_take
  g_law_take : mg "_law_take" = some (.ref A.f_law_take)
  b_law_take : Binds K A.d_law_take ["draw", "many"] []
  F_law_pick : Fun K "_law_pick" "_law_pick" s_law_pick A.f_law_pick A.d_law_pick
  g_law_pick : mg "_law_pick" = some (.ref A.f_law_pick)
  b_law_pick : Binds K A.d_law_pick ["draw", "some"] []
  F_law_shuffled : Fun K "_law_shuffled" "_law_shuffled" s_law_shuffled A.f_law_shuffled A.d_law_shuffled
  g_law_shuffled : mg "_law_shuffled" = some (.ref A.f_law_shuffled)
  b_law_shuffled : Binds K A.d_law_shuffled ["draw", "some"] []
  F_law_names : Fun K "_law_names" "_law_names" s_law_names A.f_law_names A.d_law_names
  g_law_names : mg "_law_names" = some (.ref A.f_law_names)
  b_law_names : Binds K A.d_law_names ["draw", "many"] []
  F_law_any_number : Fun K "_law_any_number" "_law_any_number" s_law_any_number A.f_law_any_number A.d_law_any_number
  g_law_any_number : mg "_law_any_number" = some (.ref A.f_law_any_number)
  b_law_any_number : Binds K A.d_law_any_number ["draw"] []
  F_law_any_expression : Fun K "_law_any_expression" "_law_any_expression" s_law_any_expression A.f_law_any_expression A.d_law_any_expression
  g_law_any_expression : mg "_law_any_expression" = some (.ref A.f_law_any_expression)
  b_law_any_expression : Binds K A.d_law_any_expression ["draw", "names", "deep"] []
  F_law_placeless : Fun K "_law_placeless" "_law_placeless" s_law_placeless A.f_law_placeless A.d_law_placeless
  g_law_placeless : mg "_law_placeless" = some (.ref A.f_law_placeless)
  b_law_placeless : Binds K A.d_law_placeless ["tree"] []
  F_law_any_cell : Fun K "_law_any_cell" "_law_any_cell" s_law_any_cell A.f_law_any_cell A.d_law_any_cell
  g_law_any_cell : mg "_law_any_cell" = some (.ref A.f_law_any_cell)
  b_law_any_cell : Binds K A.d_law_any_cell ["draw", "names", "deep", "word"] []
  F_law_any_sheet : Fun K "_law_any_sheet" "_law_any_sheet" s_law_any_sheet A.f_law_any_sheet A.d_law_any_sheet
  g_law_any_sheet : mg "_law_any_sheet" = some (.ref A.f_law_any_sheet)
  b_law_any_sheet : Binds K A.d_law_any_sheet ["draw", "most", "deep"] []
  F_law_kept : Fun K "_law_kept" "_law_kept" s_law_kept A.f_law_kept A.d_law_kept
  g_law_kept : mg "_law_kept" = some (.ref A.f_law_kept)
  b_law_kept : Binds K A.d_law_kept [] []
  F_law_is_small : Fun K "_law_is_small" "_law_is_small" s_law_is_small A.f_law_is_small A.d_law_is_small
  g_law_is_small : mg "_law_is_small" = some (.ref A.f_law_is_small)
  b_law_is_small : Binds K A.d_law_is_small ["word"] []
  F_law_is_name : Fun K "_law_is_name" "_law_is_name" s_law_is_name A.f_law_is_name A.d_law_is_name
  g_law_is_name : mg "_law_is_name" = some (.ref A.f_law_is_name)
  b_law_is_name : Binds K A.d_law_is_name ["matter"] []
  F_law_table : Fun K "_law_table" "_law_table" s_law_table A.f_law_table A.d_law_table
  g_law_table : mg "_law_table" = some (.ref A.f_law_table)
  b_law_table : Binds K A.d_law_table [] []
  F_law_is_free : Fun K "_law_is_free" "_law_is_free" s_law_is_free A.f_law_is_free A.d_law_is_free
  g_law_is_free : mg "_law_is_free" = some (.ref A.f_law_is_free)
  b_law_is_free : Binds K A.d_law_is_free ["tree"] []
  F_law_rises : Fun K "_law_rises" "_law_rises" s_law_rises A.f_law_rises A.d_law_rises
  g_law_rises : mg "_law_rises" = some (.ref A.f_law_rises)
  b_law_rises : Binds K A.d_law_rises ["matter"] []
  F_law_all_fit : Fun K "_law_all_fit" "_law_all_fit" s_law_all_fit A.f_law_all_fit A.d_law_all_fit
  g_law_all_fit : mg "_law_all_fit" = some (.ref A.f_law_all_fit)
  b_law_all_fit : Binds K A.d_law_all_fit ["table", "sorts", "parts"] []
  F_law_fits : Fun K "_law_fits" "_law_fits" s_law_fits A.f_law_fits A.d_law_fits
  g_law_fits : mg "_law_fits" = some (.ref A.f_law_fits)
  b_law_fits : Binds K A.d_law_fits ["table", "sort", "matter"] []
  F_law_odd : Fun K "_law_odd" "_law_odd" s_law_odd A.f_law_odd A.d_law_odd
  g_law_odd : mg "_law_odd" = some (.ref A.f_law_odd)
  b_law_odd : Binds K A.d_law_odd ["draw"] []
  F_law_spoilt : Fun K "_law_spoilt" "_law_spoilt" s_law_spoilt A.f_law_spoilt A.d_law_spoilt
  g_law_spoilt : mg "_law_spoilt" = some (.ref A.f_law_spoilt)
  b_law_spoilt : Binds K A.d_law_spoilt ["draw", "matter", "spare"] []
  F_law : Fun K "law" "law" s_law A.f_law A.d_law
  g_law : mg "law" = some (.ref A.f_law)
  b_law : Binds K A.d_law ["script"] []
  v_KEPT : ∃ u v, mg "KEPT" = some u ∧ RelV v u ∧ ∀ H, Rel K H c_KEPT v
  v_OVER_ROWS : ∃ u v, mg "OVER_ROWS" = some u ∧ RelV v u ∧ ∀ H, Rel K H c_OVER_ROWS v
  v_PAIRS : ∃ u v, mg "PAIRS" = some u ∧ RelV v u ∧ ∀ H, Rel K H c_PAIRS v
  v_SMALL : ∃ u v, mg "SMALL" = some u ∧ RelV v u ∧ ∀ H, Rel K H c_SMALL v
  m_abs : mg "abs" = none
  m_bool : mg "bool" = none
  m_enumerate : mg "enumerate" = none
  m_int : mg "int" = none
  m_isinstance : mg "isinstance" = none
  m_len : mg "len" = none
  m_list : mg "list" = none
  m_min : mg "min" = none
  m_range : mg "range" = none
  m_repr : mg "repr" = none
  m_str : mg "str" = none
  m_tuple : mg "tuple" = none
  ok : A.Ok
  sub_ok : SubOk K (subT A)
  ex_ok : ∀ C, exT_ A C = true → ExcC K C
  catch_ok : ∀ j cls b, j < 0 → catchT A j cls = some b → PySem.W.exmOne K cls (.ref (A.cls j)) = some b
theorem kb_0 {K : PySem.W.Frag} {f : Addr} {fd : FuncData} (F : Fun K "is_expression" "is_expression" s_is_expression f fd) : KBinds K fd ["thing"] ["thing"] (gK 0 1 [0]) (gK 0 1 [0]) := by
  have ⟨oc, od, kV, doc, pm, an, cdv, ct, osl, ed, _, _⟩ := F.ex
  subst ed
  refine ⟨fun s us ws _ hl => ?_, fun a b => gK_rel a b⟩
  unfold gK at hl ⊢
  split at hl
  · rename_i h
    rw [if_pos h]
    obtain ⟨h1, h2⟩ := h
    match us, ws, h1, h2 with
    | [], [b0], _, _ => exact .of_eq rfl
  · cases hl
theorem kb_1 {K : PySem.W.Frag} {f : Addr} {fd : FuncData} (F : Fun K "is_cell" "is_cell" s_is_cell f fd) : KBinds K fd ["thing"] ["thing"] (gK 0 1 [0]) (gK 0 1 [0]) := by
  have ⟨oc, od, kV, doc, pm, an, cdv, ct, osl, ed, _, _⟩ := F.ex
  subst ed
  refine ⟨fun s us ws _ hl => ?_, fun a b => gK_rel a b⟩
  unfold gK at hl ⊢
  split at hl
  · rename_i h
    rw [if_pos h]
    obtain ⟨h1, h2⟩ := h
    match us, ws, h1, h2 with
    | [], [b0], _, _ => exact .of_eq rfl
  · cases hl
theorem kb_2 {K : PySem.W.Frag} {f : Addr} {fd : FuncData} (F : Fun K "is_sheet" "is_sheet" s_is_sheet f fd) : KBinds K fd ["thing"] ["thing"] (gK 0 1 [0]) (gK 0 1 [0]) := by
  have ⟨oc, od, kV, doc, pm, an, cdv, ct, osl, ed, _, _⟩ := F.ex
  subst ed
  refine ⟨fun s us ws _ hl => ?_, fun a b => gK_rel a b⟩
  unfold gK at hl ⊢
  split at hl
  · rename_i h
    rw [if_pos h]
    obtain ⟨h1, h2⟩ := h
    match us, ws, h1, h2 with
    | [], [b0], _, _ => exact .of_eq rfl
  · cases hl
section
variable {P : Program} {w : World} {K : PySem.W.Frag} {mg : Str → Option Value} {base : Heap} {A : Ad}
theorem ok_is_name (T : Txt K mg A) : FnOk P w K mg base (L2.CX P w) 1 A.f_is_name A.d_is_name ["thing"] (spM K 1 (r_is_name A)) := by
  refine fn_ok (k := 0) T.F_is_name sc_is_name fun cdv A' outer s H E hr => ?_
  have tk0 : Takes (cxOf (L2.CX P w) P w K mg base ["thing", "letter"] "is_name" (defScope s_is_name) A.f_is_name cdv A' outer s H E) (Wd E) := takes_of rfl rfl rfl rfl
  have po0 : PassesOwn (model P w) (cxOf (L2.CX P w) P w K mg base ["thing", "letter"] "is_name" (defScope s_is_name) A.f_is_name cdv A' outer s H E).A (cxOf (L2.CX P w) P w K mg base ["thing", "letter"] "is_name" (defScope s_is_name) A.f_is_name cdv A' outer s H E).env (cxOf (L2.CX P w) P w K mg base ["thing", "letter"] "is_name" (defScope s_is_name) A.f_is_name cdv A' outer s H E).xe := passes_of rfl
  exact (ss_cons (s_if (w_pt (w_or (t_not (t_val (e_callB call_isiA (d_isi T.sub_ok T.ex_ok) rfl T.m_isinstance bt_isinstance (a_cons (e_var (pv 0)) (a_cons (e_const (pe_bltn (v := .ty "str") rfl T.m_str bt_str rfl) fun _ => rfl) a_nil))))) (w_or (t_not (t_chain op_leA op_leA d_ord d_ord bools_ord bools_ord e_int (e_callB call_lenA d_len_ rfl T.m_len bt_len (a_cons (e_var (pv 0)) a_nil)) e_int)) (w_or1 (t_cmp (op_inC (hu65 hr)) d_inC bools_inC (e_var (pv 0)) (e_glob rfl T.v_KEPT)))))) (ss_one (s_ret e_bl)) ss_nil)
    (ss_one (s_ret (e_cmp (op_eqE hr.units) (d_nil d_eq) (e_comp (own := [("letter", 1)]) (mkF_ok _) rfl sc_is_name.nd (i_chars (e_var (pv 0))) (blkOk_by (own := [("letter", 1)]) (N := ["thing", "letter"]) (sc := defScope s_is_name) (by decide +kernel)) (mono_name) (tg_name) (fun _ _ _ _ _ => pg_name (i := 1) sc_is_name.nd rfl (Or.inl rfl)) (W1 := W0) (fun _ _ _ _ _ => (ts_one (t_cmp (op_notInC (hu65 hr)) d_inC bools_inC (e_var (pv 1)) (e_glob rfl T.v_SMALL)))) (W2 := W0) (fun _ _ _ _ _ => (e_var (pv 1)))) (e_lst (mkF_ok _) a_nil)))))
theorem ok_is_int (T : Txt K mg A) : FnOk P w K mg base (L2.CX P w) 1 A.f_is_int A.d_is_int ["thing"] (spM K 1 (r_is_int A)) := by
  refine fn_ok (k := 0) T.F_is_int sc_is_int fun cdv A' outer s H E hr => ?_
  have tk0 : Takes (cxOf (L2.CX P w) P w K mg base ["thing"] "is_int" (defScope s_is_int) A.f_is_int cdv A' outer s H E) (Wd E) := takes_of rfl rfl rfl rfl
  have po0 : PassesOwn (model P w) (cxOf (L2.CX P w) P w K mg base ["thing"] "is_int" (defScope s_is_int) A.f_is_int cdv A' outer s H E).A (cxOf (L2.CX P w) P w K mg base ["thing"] "is_int" (defScope s_is_int) A.f_is_int cdv A' outer s H E).env (cxOf (L2.CX P w) P w K mg base ["thing"] "is_int" (defScope s_is_int) A.f_is_int cdv A' outer s H E).xe := passes_of rfl
  exact (ss_one (s_ret (e_and (e_callB call_isiA (d_isi T.sub_ok T.ex_ok) rfl T.m_isinstance bt_isinstance (a_cons (e_var (pv 0)) (a_cons (e_const (pe_bltn (v := .ty "int") rfl T.m_int bt_int rfl) fun _ => rfl) a_nil))) (e_one (e_not (e_callB call_isiA (d_isi T.sub_ok T.ex_ok) rfl T.m_isinstance bt_isinstance (a_cons (e_var (pv 0)) (a_cons (e_const (pe_bltn (v := .ty "bool") rfl T.m_bool bt_bool rfl) fun _ => rfl) a_nil))))))))
theorem ok_lies_in (T : Txt K mg A) : FnOk P w K mg base (L2.CX P w) 2 A.f_lies_in A.d_lies_in ["thing", "low", "high"] (spM K 3 (r_lies_in A)) := by
  refine fn_ok (k := 1) T.F_lies_in sc_lies_in fun cdv A' outer s H E hr => ?_
  have tk0 : Takes (cxOf (L2.CX P w) P w K mg base ["thing", "low", "high"] "lies_in" (defScope s_lies_in) A.f_lies_in cdv A' outer s H E) (Wd E) := takes_of rfl rfl rfl rfl
  have po0 : PassesOwn (model P w) (cxOf (L2.CX P w) P w K mg base ["thing", "low", "high"] "lies_in" (defScope s_lies_in) A.f_lies_in cdv A' outer s H E).A (cxOf (L2.CX P w) P w K mg base ["thing", "low", "high"] "lies_in" (defScope s_lies_in) A.f_lies_in cdv A' outer s H E).env (cxOf (L2.CX P w) P w K mg base ["thing", "low", "high"] "lies_in" (defScope s_lies_in) A.f_lies_in cdv A' outer s H E).xe := passes_of rfl
  exact (ss_one (s_ret (e_and (e_call (ok_is_int T) (hr.mono (by decide)) rfl T.g_is_int T.F_is_int.kp T.b_is_int tk0 (a_cons (e_var (pv 0)) a_nil)) (e_one (e_chain op_leA op_leA d_ord d_ord bools_ord bools_ord (e_var (pv 1)) (e_var (pv 0)) (e_var (pv 2)))))))
theorem ok_is_small (T : Txt K mg A) : FnOk P w K mg base (L2.CX P w) 3 A.f_is_small A.d_is_small ["thing"] (spM K 1 (r_is_small A)) := by
  refine fn_ok (k := 2) T.F_is_small sc_is_small fun cdv A' outer s H E hr => ?_
  have tk0 : Takes (cxOf (L2.CX P w) P w K mg base ["thing"] "is_small" (defScope s_is_small) A.f_is_small cdv A' outer s H E) (Wd E) := takes_of rfl rfl rfl rfl
  have po0 : PassesOwn (model P w) (cxOf (L2.CX P w) P w K mg base ["thing"] "is_small" (defScope s_is_small) A.f_is_small cdv A' outer s H E).A (cxOf (L2.CX P w) P w K mg base ["thing"] "is_small" (defScope s_is_small) A.f_is_small cdv A' outer s H E).env (cxOf (L2.CX P w) P w K mg base ["thing"] "is_small" (defScope s_is_small) A.f_is_small cdv A' outer s H E).xe := passes_of rfl
  exact (ss_one (s_ret (e_call (ok_lies_in T) (hr.mono (by decide)) rfl T.g_lies_in T.F_lies_in.kp T.b_lies_in tk0 (a_cons (e_var (pv 0)) (a_cons (e_un un_neg d_neg e_int) (a_cons e_int a_nil))))))
theorem ok_is_tagged (T : Txt K mg A) : FnOk P w K mg base (L2.CX P w) 1 A.f_is_tagged A.d_is_tagged ["thing", "sizes"] (spM K 2 (r_is_tagged A)) := by
  refine fn_ok (k := 0) T.F_is_tagged sc_is_tagged fun cdv A' outer s H E hr => ?_
  have tk0 : Takes (cxOf (L2.CX P w) P w K mg base ["thing", "sizes"] "is_tagged" (defScope s_is_tagged) A.f_is_tagged cdv A' outer s H E) (Wd E) := takes_of rfl rfl rfl rfl
  have po0 : PassesOwn (model P w) (cxOf (L2.CX P w) P w K mg base ["thing", "sizes"] "is_tagged" (defScope s_is_tagged) A.f_is_tagged cdv A' outer s H E).A (cxOf (L2.CX P w) P w K mg base ["thing", "sizes"] "is_tagged" (defScope s_is_tagged) A.f_is_tagged cdv A' outer s H E).env (cxOf (L2.CX P w) P w K mg base ["thing", "sizes"] "is_tagged" (defScope s_is_tagged) A.f_is_tagged cdv A' outer s H E).xe := passes_of rfl
  exact (ss_cons (s_if (w_pt (w_or (t_not (t_val (e_callB call_isiA (d_isi T.sub_ok T.ex_ok) rfl T.m_isinstance bt_isinstance (a_cons (e_var (pv 0)) (a_cons (e_const (pe_bltn (v := .ty "tuple") rfl T.m_tuple bt_tuple rfl) fun _ => rfl) a_nil))))) (w_or (t_cmp (op_eqE hr.units) (d_nil d_eq) (bools_nil bools_eq) (e_callB call_lenA d_len_ rfl T.m_len bt_len (a_cons (e_var (pv 0)) a_nil)) e_int) (w_or1 (t_not (t_val (e_callB call_isiA (d_isi T.sub_ok T.ex_ok) rfl T.m_isinstance bt_isinstance (a_cons (e_ix (ix_all (hu_of hr)) d_ix (e_var (pv 0)) e_int) (a_cons (e_const (pe_bltn (v := .ty "str") rfl T.m_str bt_str rfl) fun _ => rfl) a_nil))))))))) (ss_one (s_ret e_bl)) ss_nil)
    (ss_one (s_ret (e_cmp (op_eqE hr.units) (d_nil d_eq) (e_get2 (hu_of hr) (e_var (pv 1)) (e_ix (ix_all (hu_of hr)) d_ix (e_var (pv 0)) e_int) e_int ⟨rfl, rfl, rfl, rfl⟩) (e_callB call_lenA d_len_ rfl T.m_len bt_len (a_cons (e_var (pv 0)) a_nil))))))
theorem ok_g_are_cases (T : Txt K mg A) : ∀ n : Nat, (FnOk P w K mg base (L2.CX P w) (4 + n) A.f_are_cases A.d_are_cases ["thing"] (spM K 1 (r_are_cases A n))) ∧ (FnOk P w K mg base (L2.CX P w) (4 + n) A.f_is_expression A.d_is_expression ["thing"] (spM K 1 (r_is_expression A n)))
  | 0 => ⟨fn_none rfl, fn_none rfl⟩
  | n + 1 => by
    have ih := ok_g_are_cases T n
    refine ⟨?_, ?_⟩
    · rw [r_are_cases_eq]
      refine fn_ok (k := 4 + n) T.F_are_cases sc_are_cases fun cdv A' outer s H E hr => ?_
      have tk0 : Takes (cxOf (L2.CX P w) P w K mg base ["thing", "last", "pair"] "are_cases" (defScope s_are_cases) A.f_are_cases cdv A' outer s H E) (Wd E) := takes_of rfl rfl rfl rfl
      have po0 : PassesOwn (model P w) (cxOf (L2.CX P w) P w K mg base ["thing", "last", "pair"] "are_cases" (defScope s_are_cases) A.f_are_cases cdv A' outer s H E).A (cxOf (L2.CX P w) P w K mg base ["thing", "last", "pair"] "are_cases" (defScope s_are_cases) A.f_are_cases cdv A' outer s H E).env (cxOf (L2.CX P w) P w K mg base ["thing", "last", "pair"] "are_cases" (defScope s_are_cases) A.f_are_cases cdv A' outer s H E).xe := passes_of rfl
      exact (ss_cons (s_if (w_pt (w_or (t_not (t_val (e_callB call_isiA (d_isi T.sub_ok T.ex_ok) rfl T.m_isinstance bt_isinstance (a_cons (e_var (pv 0)) (a_cons (e_const (pe_bltn (v := .ty "tuple") rfl T.m_tuple bt_tuple rfl) fun _ => rfl) a_nil))))) (w_or1 (t_cmp (op_eqE hr.units) (d_nil d_eq) (bools_nil bools_eq) (e_callB call_lenA d_len_ rfl T.m_len bt_len (a_cons (e_var (pv 0)) a_nil)) e_int)))) (ss_one (s_ret e_bl)) ss_nil)
      (ss_cons (s_set (i := 1) sc_are_cases.nd rfl (Or.inl rfl) e_non)
      (ss_cons (s_for po0 rfl (i_seq (e_var (pv 0))) (g_name (pg_name (i := 2) sc_are_cases.nd rfl (Or.inl rfl))) (ss_cons (s_if (w_pt (w_or (t_not (t_val (e_callB call_isiA (d_isi T.sub_ok T.ex_ok) rfl T.m_isinstance bt_isinstance (a_cons (e_var (pv 2)) (a_cons (e_const (pe_bltn (v := .ty "tuple") rfl T.m_tuple bt_tuple rfl) fun _ => rfl) a_nil))))) (w_or (t_cmp (op_neE hr.units) (d_nil d_ne) (bools_nil bools_ne) (e_callB call_lenA d_len_ rfl T.m_len bt_len (a_cons (e_var (pv 2)) a_nil)) e_int) (w_or (t_not (t_val (e_call (ok_is_small T) (hr.mono (by omega)) rfl T.g_is_small T.F_is_small.kp T.b_is_small tk0 (a_cons (e_ix (ix_all (hu_of hr)) d_ix (e_var (pv 2)) e_int) a_nil)))) (w_or1 (t_not (t_val (e_call ih.2 hr rfl T.g_is_expression T.F_is_expression.kp T.b_is_expression tk0 (a_cons (e_ix (ix_all (hu_of hr)) d_ix (e_var (pv 2)) e_int) a_nil))))))))) (ss_one (s_ret e_bl)) ss_nil)
      (ss_cons (s_if (w_pt (w_and (t_cmp op_isnA d_isn bools_isn (e_var (pv 1)) e_non) (w_and1 (t_cmp op_leA d_ord bools_ord (e_ix (ix_all (hu_of hr)) d_ix (e_var (pv 2)) e_int) (e_var (pv 1)))))) (ss_one (s_ret e_bl)) ss_nil)
      (ss_one (s_set (i := 1) sc_are_cases.nd rfl (Or.inl rfl) (e_ix (ix_all (hu_of hr)) d_ix (e_var (pv 2)) e_int))))))
      (ss_one (s_ret e_bl)))))
    · rw [r_is_expression_eq]
      refine fn_ok (k := 4 + n) T.F_is_expression sc_is_expression fun cdv A' outer s H E hr => ?_
      have tk0 : Takes (cxOf (L2.CX P w) P w K mg base ["thing", "sizes", "word", "part"] "is_expression" (defScope s_is_expression) A.f_is_expression cdv A' outer s H E) (Wd E) := takes_of rfl rfl rfl rfl
      have po0 : PassesOwn (model P w) (cxOf (L2.CX P w) P w K mg base ["thing", "sizes", "word", "part"] "is_expression" (defScope s_is_expression) A.f_is_expression cdv A' outer s H E).A (cxOf (L2.CX P w) P w K mg base ["thing", "sizes", "word", "part"] "is_expression" (defScope s_is_expression) A.f_is_expression cdv A' outer s H E).env (cxOf (L2.CX P w) P w K mg base ["thing", "sizes", "word", "part"] "is_expression" (defScope s_is_expression) A.f_is_expression cdv A' outer s H E).xe := passes_of rfl
      exact (ss_cons (s_set (i := 1) sc_is_expression.nd rfl (Or.inl rfl) (e_disp (mkDM_ok _) (dp_cons (.inr "number") pe_str e_int (dp_cons (.inr "name") pe_str e_int (dp_cons (.inr "item") pe_str e_int (dp_cons (.inr "place") pe_str e_int (dp_cons (.inr "at") pe_str e_int (dp_cons (.inr "not") pe_str e_int (dp_cons (.inr "choose") pe_str e_int (dp_cons (.inr "cases") pe_str e_int dp_nil)))))))) (by decide)))
      (ss_cons (s_for po0 rfl (i_seq (e_glob rfl T.v_PAIRS)) (g_name (pg_name (i := 2) sc_is_expression.nd rfl (Or.inl rfl))) (ss_one (s_asg e_int (g_sub (W := W0) (hu_of hr) (e_var (pv 1)) (e_var (pv 2))))))
      (ss_cons (s_fzv 1 (s_for po0 rfl (i_seq (e_glob rfl T.v_OVER_ROWS)) (g_name (pg_name (i := 2) sc_is_expression.nd rfl (Or.inl rfl))) (ss_one (s_asg e_int (g_sub (W := W0) (hu_of hr) (e_var (pv 1)) (e_var (pv 2)))))))
      (ss_cons (s_if (t_not (t_val (e_call (ok_is_tagged T) (hr.mono (by omega)) rfl T.g_is_tagged T.F_is_tagged.kp T.b_is_tagged tk0 (a_cons (e_var (pv 0)) (a_cons (e_var (pv 1)) a_nil))))) (ss_one (s_ret e_bl)) ss_nil)
      (ss_cons (s_set (i := 2) sc_is_expression.nd rfl (Or.inl rfl) (e_ix (ix_all (hu_of hr)) d_ix (e_var (pv 0)) e_int))
      (ss_cons (s_if (t_cmp (op_eqE hr.units) (d_nil d_eq) (bools_nil bools_eq) (e_var (pv 2)) e_str) (ss_one (s_ret (e_call (ok_is_small T) (hr.mono (by omega)) rfl T.g_is_small T.F_is_small.kp T.b_is_small tk0 (a_cons (e_ix (ix_all (hu_of hr)) d_ix (e_var (pv 0)) e_int) a_nil)))) ss_nil)
      (ss_cons (s_if (w_pt (w_or (t_cmp (op_eqE hr.units) (d_nil d_eq) (bools_nil bools_eq) (e_var (pv 2)) e_str) (w_or1 (t_cmp (op_inC (hu65 hr)) d_inC bools_inC (e_var (pv 2)) (e_glob rfl T.v_OVER_ROWS))))) (ss_one (s_ret (e_call (ok_is_name T) (hr.mono (by omega)) rfl T.g_is_name T.F_is_name.kp T.b_is_name tk0 (a_cons (e_ix (ix_all (hu_of hr)) d_ix (e_var (pv 0)) e_int) a_nil)))) ss_nil)
      (ss_cons (s_if (t_cmp (op_eqE hr.units) (d_nil d_eq) (bools_nil bools_eq) (e_var (pv 2)) e_str) (ss_one (s_ret (e_and (e_call (ok_is_name T) (hr.mono (by omega)) rfl T.g_is_name T.F_is_name.kp T.b_is_name tk0 (a_cons (e_ix (ix_all (hu_of hr)) d_ix (e_var (pv 0)) e_int) a_nil)) (e_one (e_call (ok_lies_in T) (hr.mono (by omega)) rfl T.g_lies_in T.F_lies_in.kp T.b_lies_in tk0 (a_cons (e_ix (ix_all (hu_of hr)) d_ix (e_var (pv 0)) e_int) (a_cons e_int (a_cons e_int a_nil)))))))) ss_nil)
      (ss_cons (s_if (t_cmp (op_eqE hr.units) (d_nil d_eq) (bools_nil bools_eq) (e_var (pv 2)) e_str) (ss_one (s_ret (e_and (e_call (ok_is_name T) (hr.mono (by omega)) rfl T.g_is_name T.F_is_name.kp T.b_is_name tk0 (a_cons (e_ix (ix_all (hu_of hr)) d_ix (e_var (pv 0)) e_int) a_nil)) (e_and (e_call (ok_is_small T) (hr.mono (by omega)) rfl T.g_is_small T.F_is_small.kp T.b_is_small tk0 (a_cons (e_ix (ix_all (hu_of hr)) d_ix (e_var (pv 0)) e_int) a_nil)) (e_one (e_call ih.2 hr rfl T.g_is_expression T.F_is_expression.kp T.b_is_expression tk0 (a_cons (e_ix (ix_all (hu_of hr)) d_ix (e_var (pv 0)) e_int) a_nil))))))) ss_nil)
      (ss_cons (s_if (t_cmp (op_eqE hr.units) (d_nil d_eq) (bools_nil bools_eq) (e_var (pv 2)) e_str) (ss_one (s_ret (e_and (e_call ih.2 hr rfl T.g_is_expression T.F_is_expression.kp T.b_is_expression tk0 (a_cons (e_ix (ix_all (hu_of hr)) d_ix (e_var (pv 0)) e_int) a_nil)) (e_and (e_call ih.1 hr rfl T.g_are_cases T.F_are_cases.kp T.b_are_cases tk0 (a_cons (e_ix (ix_all (hu_of hr)) d_ix (e_var (pv 0)) e_int) a_nil)) (e_one (e_call ih.2 hr rfl T.g_is_expression T.F_is_expression.kp T.b_is_expression tk0 (a_cons (e_ix (ix_all (hu_of hr)) d_ix (e_var (pv 0)) e_int) a_nil))))))) ss_nil)
      (ss_one (s_ret (e_cmp (op_eqE hr.units) (d_nil d_eq) (e_comp (own := [("part", 3)]) (mkF_ok _) rfl sc_is_expression.nd (i_seq (e_sl sl_all (d_sl (mkF_ok _)) (e_var (pv 0)) (o_some e_int) o_none)) (blkOk_by (own := [("part", 3)]) (N := ["thing", "sizes", "word", "part"]) (sc := defScope s_is_expression) (by decide +kernel)) (mono_name) (tg_name) (fun _ _ _ _ _ => pg_name (i := 3) sc_is_expression.nd rfl (Or.inl rfl)) (W1 := W0) (fun _ _ _ _ _ => (ts_one (t_not (t_val (e_call ih.2 hr rfl T.g_is_expression T.F_is_expression.kp T.b_is_expression takes0 (a_cons (e_var (pv 3)) a_nil)))))) (W2 := W0) (fun _ _ _ _ _ => (e_var (pv 3)))) (e_lst (mkF_ok _) a_nil))))))))))))))
theorem ok_are_cases (T : Txt K mg A) : FnOk P w K mg base (L2.CX P w) 64 A.f_are_cases A.d_are_cases ["thing"] (spM K 1 (r_are_cases A 60)) := (ok_g_are_cases T 60).1
theorem ok_is_expression (T : Txt K mg A) : FnOk P w K mg base (L2.CX P w) 64 A.f_is_expression A.d_is_expression ["thing"] (spM K 1 (r_is_expression A 60)) := (ok_g_are_cases T 60).2
theorem ok_is_range (T : Txt K mg A) : FnOk P w K mg base (L2.CX P w) 4 A.f_is_range A.d_is_range ["low", "high"] (spM K 2 (r_is_range A)) := by
  refine fn_ok (k := 3) T.F_is_range sc_is_range fun cdv A' outer s H E hr => ?_
  have tk0 : Takes (cxOf (L2.CX P w) P w K mg base ["low", "high"] "is_range" (defScope s_is_range) A.f_is_range cdv A' outer s H E) (Wd E) := takes_of rfl rfl rfl rfl
  have po0 : PassesOwn (model P w) (cxOf (L2.CX P w) P w K mg base ["low", "high"] "is_range" (defScope s_is_range) A.f_is_range cdv A' outer s H E).A (cxOf (L2.CX P w) P w K mg base ["low", "high"] "is_range" (defScope s_is_range) A.f_is_range cdv A' outer s H E).env (cxOf (L2.CX P w) P w K mg base ["low", "high"] "is_range" (defScope s_is_range) A.f_is_range cdv A' outer s H E).xe := passes_of rfl
  exact (ss_one (s_ret (e_and (e_call (ok_is_small T) (hr.mono (by decide)) rfl T.g_is_small T.F_is_small.kp T.b_is_small tk0 (a_cons (e_var (pv 0)) a_nil)) (e_and (e_call (ok_is_small T) (hr.mono (by decide)) rfl T.g_is_small T.F_is_small.kp T.b_is_small tk0 (a_cons (e_var (pv 1)) a_nil)) (e_one (e_cmp op_leA d_ord (e_var (pv 0)) (e_var (pv 1))))))))
theorem ok_is_input (T : Txt K mg A) : FnOk P w K mg base (L2.CX P w) 5 A.f_is_input A.d_is_input ["thing"] (spM K 1 (r_is_input A)) := by
  refine fn_ok (k := 4) T.F_is_input sc_is_input fun cdv A' outer s H E hr => ?_
  have tk0 : Takes (cxOf (L2.CX P w) P w K mg base ["thing"] "is_input" (defScope s_is_input) A.f_is_input cdv A' outer s H E) (Wd E) := takes_of rfl rfl rfl rfl
  have po0 : PassesOwn (model P w) (cxOf (L2.CX P w) P w K mg base ["thing"] "is_input" (defScope s_is_input) A.f_is_input cdv A' outer s H E).A (cxOf (L2.CX P w) P w K mg base ["thing"] "is_input" (defScope s_is_input) A.f_is_input cdv A' outer s H E).env (cxOf (L2.CX P w) P w K mg base ["thing"] "is_input" (defScope s_is_input) A.f_is_input cdv A' outer s H E).xe := passes_of rfl
  exact (ss_one (s_ret (e_and (e_call (ok_is_tagged T) (hr.mono (by decide)) rfl T.g_is_tagged T.F_is_tagged.kp T.b_is_tagged tk0 (a_cons (e_var (pv 0)) (a_cons (e_disp (mkDF_ok _) (dp_cons (.inr "input") pe_str e_int dp_nil) (by decide)) a_nil))) (e_and (e_call (ok_is_name T) (hr.mono (by decide)) rfl T.g_is_name T.F_is_name.kp T.b_is_name tk0 (a_cons (e_ix (ix_all (hu_of hr)) d_ix (e_var (pv 0)) e_int) a_nil)) (e_one (e_call (ok_is_range T) (hr.mono (by decide)) rfl T.g_is_range T.F_is_range.kp T.b_is_range tk0 (a_cons (e_ix (ix_all (hu_of hr)) d_ix (e_var (pv 0)) e_int) (a_cons (e_ix (ix_all (hu_of hr)) d_ix (e_var (pv 0)) e_int) a_nil))))))))
theorem ok_parts_of (T : Txt K mg A) : FnOk P w K mg base (L2.CX P w) 1 A.f_parts_of A.d_parts_of ["tree"] (spM K 1 (r_parts_of A)) := by
  refine fn_ok (k := 0) T.F_parts_of sc_parts_of fun cdv A' outer s H E hr => ?_
  have tk0 : Takes (cxOf (L2.CX P w) P w K mg base ["tree", "word", "pairs", "at", "pair"] "parts_of" (defScope s_parts_of) A.f_parts_of cdv A' outer s H E) (Wd E) := takes_of rfl rfl rfl rfl
  have po0 : PassesOwn (model P w) (cxOf (L2.CX P w) P w K mg base ["tree", "word", "pairs", "at", "pair"] "parts_of" (defScope s_parts_of) A.f_parts_of cdv A' outer s H E).A (cxOf (L2.CX P w) P w K mg base ["tree", "word", "pairs", "at", "pair"] "parts_of" (defScope s_parts_of) A.f_parts_of cdv A' outer s H E).env (cxOf (L2.CX P w) P w K mg base ["tree", "word", "pairs", "at", "pair"] "parts_of" (defScope s_parts_of) A.f_parts_of cdv A' outer s H E).xe := passes_of rfl
  exact (ss_cons (s_set (i := 1) sc_parts_of.nd rfl (Or.inl rfl) (e_ix (ix_all (hu_of hr)) d_ix (e_var (pv 0)) e_int))
    (ss_cons (s_if (w_pt (w_or (t_cmp (op_inC (hu65 hr)) d_inC bools_inC (e_var (pv 1)) (e_tup (a_cons e_str (a_cons e_str (a_cons e_str (a_cons e_str a_nil)))))) (w_or1 (t_cmp (op_inC (hu65 hr)) d_inC bools_inC (e_var (pv 1)) (e_glob rfl T.v_OVER_ROWS))))) (ss_one (s_ret (e_lst (mkF_ok _) a_nil))) ss_nil)
    (ss_cons (s_if (t_cmp (op_eqE hr.units) (d_nil d_eq) (bools_nil bools_eq) (e_var (pv 1)) e_str) (ss_one (s_ret (e_lst (mkF_ok _) (a_cons (e_tup (a_cons (e_tup (a_cons e_int a_nil)) (a_cons (e_ix (ix_all (hu_of hr)) d_ix (e_var (pv 0)) e_int) a_nil))) a_nil)))) ss_nil)
    (ss_cons (s_if (t_cmp (op_eqE hr.units) (d_nil d_eq) (bools_nil bools_eq) (e_var (pv 1)) e_str) (ss_cons (s_setComp (i := 2) (own := [("at", 3), ("pair", 4)]) (mkF_ok _) rfl sc_parts_of.nd rfl rfl (sw_true rfl rfl rfl (by decide +kernel)) (i_enumT rfl T.m_enumerate (a_cons (e_ix (ix_all (hu_of hr)) d_ix (e_var (pv 0)) e_int) a_nil)) (blkOk_by (own := [("at", 3), ("pair", 4)]) (N := ["tree", "word", "pairs", "at", "pair"]) (sc := defScope s_parts_of) (by decide +kernel)) (mono_tup (monos_cons (mono_name) (monos_cons (mono_name) (monos_nil)))) (tg_tup (tgs_cons (mono_name) (tg_name) (tgs_cons (mono_name) (tg_name) (tgs_nil)))) (fun _ _ _ _ _ => pg_tup rfl (pgs_cons (pg_name (i := 3) sc_parts_of.nd rfl (Or.inl rfl)) (pgs_cons (pg_name (i := 4) sc_parts_of.nd rfl (Or.inl rfl)) (pgs_nil)))) (W1 := W0) (fun _ _ _ _ _ => ts_nil) (W2 := W0) (fun _ _ _ _ _ => (e_tup (a_cons (e_tup (a_cons e_int (a_cons (e_var (pv 3)) (a_cons e_int a_nil)))) (a_cons (e_ix (ix_all (hu_of hr)) d_ix (e_var (pv 4)) e_int) a_nil)))))
    (ss_one (s_ret (e_op op_addT (d_addT (mkF_ok _)) (e_op op_addT (d_addT (mkF_ok _)) (e_lst (mkF_ok _) (a_cons (e_tup (a_cons (e_tup (a_cons e_int a_nil)) (a_cons (e_ix (ix_all (hu_of hr)) d_ix (e_var (pv 0)) e_int) a_nil))) a_nil)) (e_var (pv 2))) (e_lst (mkF_ok _) (a_cons (e_tup (a_cons (e_tup (a_cons e_int a_nil)) (a_cons (e_ix (ix_all (hu_of hr)) d_ix (e_var (pv 0)) e_int) a_nil))) a_nil)))))) ss_nil)
    (ss_one (s_ret (e_comp (own := [("at", 3)]) (mkF_ok _) rfl sc_parts_of.nd (i_range2 rfl T.m_range (a_cons e_int (a_cons (e_callB call_lenA d_len_ rfl T.m_len bt_len (a_cons (e_var (pv 0)) a_nil)) a_nil))) (blkOk_by (own := [("at", 3)]) (N := ["tree", "word", "pairs", "at", "pair"]) (sc := defScope s_parts_of) (by decide +kernel)) (mono_name) (tg_name) (fun _ _ _ _ _ => pg_name (i := 3) sc_parts_of.nd rfl (Or.inl rfl)) (W1 := W0) (fun _ _ _ _ _ => ts_nil) (W2 := W0) (fun _ _ _ _ _ => (e_tup (a_cons (e_tup (a_cons (e_var (pv 3)) a_nil)) (a_cons (e_ix (ix_all (hu_of hr)) d_ix (e_var (pv 0)) (e_var (pv 3))) a_nil)))))))))))
theorem ok_g_has_place (T : Txt K mg A) : ∀ n : Nat, (FnOk P w K mg base (L2.CX P w) (2 + n) A.f_has_place A.d_has_place ["tree"] (spM K 1 (r_has_place A n)))
  | 0 => fn_none rfl
  | n + 1 => by
    have ih := ok_g_has_place T n
    · rw [r_has_place_eq]
      refine fn_ok (k := 2 + n) T.F_has_place sc_has_place fun cdv A' outer s H E hr => ?_
      have tk0 : Takes (cxOf (L2.CX P w) P w K mg base ["tree", "step", "part"] "has_place" (defScope s_has_place) A.f_has_place cdv A' outer s H E) (Wd E) := takes_of rfl rfl rfl rfl
      have po0 : PassesOwn (model P w) (cxOf (L2.CX P w) P w K mg base ["tree", "step", "part"] "has_place" (defScope s_has_place) A.f_has_place cdv A' outer s H E).A (cxOf (L2.CX P w) P w K mg base ["tree", "step", "part"] "has_place" (defScope s_has_place) A.f_has_place cdv A' outer s H E).env (cxOf (L2.CX P w) P w K mg base ["tree", "step", "part"] "has_place" (defScope s_has_place) A.f_has_place cdv A' outer s H E).xe := passes_of rfl
      exact (ss_one (s_ret (e_or (e_cmp (op_inC (hu65 hr)) d_inC (e_ix (ix_all (hu_of hr)) d_ix (e_var (pv 0)) e_int) (e_tup (a_cons e_str (a_cons e_str a_nil)))) (e_one (e_cmp (op_neE hr.units) (d_nil d_ne) (e_comp (own := [("step", 1), ("part", 2)]) (mkF_ok _) rfl sc_has_place.nd (i_seq (e_call (ok_parts_of T) (hr.mono (by omega)) rfl T.g_parts_of T.F_parts_of.kp T.b_parts_of tk0 (a_cons (e_var (pv 0)) a_nil))) (blkOk_by (own := [("step", 1), ("part", 2)]) (N := ["tree", "step", "part"]) (sc := defScope s_has_place) (by decide +kernel)) (mono_tup (monos_cons (mono_name) (monos_cons (mono_name) (monos_nil)))) (tg_tup (tgs_cons (mono_name) (tg_name) (tgs_cons (mono_name) (tg_name) (tgs_nil)))) (fun _ _ _ _ _ => pg_tup rfl (pgs_cons (pg_name (i := 1) sc_has_place.nd rfl (Or.inl rfl)) (pgs_cons (pg_name (i := 2) sc_has_place.nd rfl (Or.inl rfl)) (pgs_nil)))) (W1 := W0) (fun _ _ _ _ _ => (ts_one (t_val (e_call ih hr rfl T.g_has_place T.F_has_place.kp T.b_has_place takes0 (a_cons (e_var (pv 2)) a_nil))))) (W2 := W0) (fun _ _ _ _ _ => (e_var (pv 2)))) (e_lst (mkF_ok _) a_nil))))))
theorem ok_has_place (T : Txt K mg A) : FnOk P w K mg base (L2.CX P w) 62 A.f_has_place A.d_has_place ["tree"] (spM K 1 (r_has_place A 60)) := (ok_g_has_place T 60)
theorem ok_is_placeless (T : Txt K mg A) : FnOk P w K mg base (L2.CX P w) 65 A.f_is_placeless A.d_is_placeless ["thing"] (spM K 1 (r_is_placeless A)) := by
  refine fn_ok (k := 64) T.F_is_placeless sc_is_placeless fun cdv A' outer s H E hr => ?_
  have tk0 : Takes (cxOf (L2.CX P w) P w K mg base ["thing"] "is_placeless" (defScope s_is_placeless) A.f_is_placeless cdv A' outer s H E) (Wd E) := takes_of rfl rfl rfl rfl
  have po0 : PassesOwn (model P w) (cxOf (L2.CX P w) P w K mg base ["thing"] "is_placeless" (defScope s_is_placeless) A.f_is_placeless cdv A' outer s H E).A (cxOf (L2.CX P w) P w K mg base ["thing"] "is_placeless" (defScope s_is_placeless) A.f_is_placeless cdv A' outer s H E).env (cxOf (L2.CX P w) P w K mg base ["thing"] "is_placeless" (defScope s_is_placeless) A.f_is_placeless cdv A' outer s H E).xe := passes_of rfl
  exact (ss_one (s_ret (e_and (e_call (ok_is_expression T) (hr.mono (by decide)) rfl T.g_is_expression T.F_is_expression.kp T.b_is_expression tk0 (a_cons (e_var (pv 0)) a_nil)) (e_one (e_not (e_call (ok_has_place T) (hr.mono (by decide)) rfl T.g_has_place T.F_has_place.kp T.b_has_place tk0 (a_cons (e_var (pv 0)) a_nil)))))))
theorem ok_is_cell (T : Txt K mg A) : FnOk P w K mg base (L2.CX P w) 66 A.f_is_cell A.d_is_cell ["thing"] (spM K 1 (r_is_cell A)) := by
  refine fn_ok (k := 65) T.F_is_cell sc_is_cell fun cdv A' outer s H E hr => ?_
  have tk0 : Takes (cxOf (L2.CX P w) P w K mg base ["thing"] "is_cell" (defScope s_is_cell) A.f_is_cell cdv A' outer s H E) (Wd E) := takes_of rfl rfl rfl rfl
  have po0 : PassesOwn (model P w) (cxOf (L2.CX P w) P w K mg base ["thing"] "is_cell" (defScope s_is_cell) A.f_is_cell cdv A' outer s H E).A (cxOf (L2.CX P w) P w K mg base ["thing"] "is_cell" (defScope s_is_cell) A.f_is_cell cdv A' outer s H E).env (cxOf (L2.CX P w) P w K mg base ["thing"] "is_cell" (defScope s_is_cell) A.f_is_cell cdv A' outer s H E).xe := passes_of rfl
  exact (ss_cons (s_if (w_pt (w_or (t_not (t_val (e_call (ok_is_tagged T) (hr.mono (by decide)) rfl T.g_is_tagged T.F_is_tagged.kp T.b_is_tagged tk0 (a_cons (e_var (pv 0)) (a_cons (e_disp (mkDF_ok _) (dp_cons (.inr "cell") pe_str e_int (dp_cons (.inr "row") pe_str e_int (dp_cons (.inr "settle") pe_str e_int dp_nil))) (by decide)) a_nil))))) (w_or1 (t_not (t_val (e_call (ok_is_name T) (hr.mono (by decide)) rfl T.g_is_name T.F_is_name.kp T.b_is_name tk0 (a_cons (e_ix (ix_all (hu_of hr)) d_ix (e_var (pv 0)) e_int) a_nil))))))) (ss_one (s_ret e_bl)) ss_nil)
    (ss_cons (s_if (t_cmp (op_eqE hr.units) (d_nil d_eq) (bools_nil bools_eq) (e_ix (ix_all (hu_of hr)) d_ix (e_var (pv 0)) e_int) e_str) (ss_one (s_ret (e_call (ok_is_placeless T) (hr.mono (by decide)) rfl T.g_is_placeless T.F_is_placeless.kp T.b_is_placeless tk0 (a_cons (e_ix (ix_all (hu_of hr)) d_ix (e_var (pv 0)) e_int) a_nil)))) ss_nil)
    (ss_cons (s_if (t_cmp (op_eqE hr.units) (d_nil d_eq) (bools_nil bools_eq) (e_ix (ix_all (hu_of hr)) d_ix (e_var (pv 0)) e_int) e_str) (ss_one (s_ret (e_and (e_call (ok_lies_in T) (hr.mono (by decide)) rfl T.g_lies_in T.F_lies_in.kp T.b_lies_in tk0 (a_cons (e_ix (ix_all (hu_of hr)) d_ix (e_var (pv 0)) e_int) (a_cons e_int (a_cons e_int a_nil)))) (e_one (e_call (ok_is_expression T) (hr.mono (by decide)) rfl T.g_is_expression T.F_is_expression.kp T.b_is_expression tk0 (a_cons (e_ix (ix_all (hu_of hr)) d_ix (e_var (pv 0)) e_int) a_nil)))))) ss_nil)
    (ss_one (s_ret (e_and (e_call (ok_is_range T) (hr.mono (by decide)) rfl T.g_is_range T.F_is_range.kp T.b_is_range tk0 (a_cons (e_ix (ix_all (hu_of hr)) d_ix (e_var (pv 0)) e_int) (a_cons (e_ix (ix_all (hu_of hr)) d_ix (e_var (pv 0)) e_int) a_nil))) (e_and (e_call (ok_is_placeless T) (hr.mono (by decide)) rfl T.g_is_placeless T.F_is_placeless.kp T.b_is_placeless tk0 (a_cons (e_ix (ix_all (hu_of hr)) d_ix (e_var (pv 0)) e_int) a_nil)) (e_one (e_call (ok_is_placeless T) (hr.mono (by decide)) rfl T.g_is_placeless T.F_is_placeless.kp T.b_is_placeless tk0 (a_cons (e_ix (ix_all (hu_of hr)) d_ix (e_var (pv 0)) e_int) a_nil))))))))))
theorem tab_0 {X : Cx} {A : Ad} (T : Txt X.K X.mg A) (hr : Room 66 X.A) : TabOk X 1 (tb_0 A) := fun f F e => by
  unfold tb_0 at e
  by_cases h : f = A.f_is_input
  · rw [if_pos h] at e; cases e; subst h; exact ⟨_, _, _, ok_is_input T, hr.mono (by decide), T.F_is_input.kp, T.b_is_input⟩
  rw [if_neg h] at e
  by_cases h : f = A.f_is_cell
  · rw [if_pos h] at e; cases e; subst h; exact ⟨_, _, _, ok_is_cell T, hr.mono (by decide), T.F_is_cell.kp, T.b_is_cell⟩
  rw [if_neg h] at e
  cases e
theorem ok_is_filled (T : Txt K mg A) : FnOk P w K mg base (L2.CX P w) 67 A.f_is_filled A.d_is_filled ["thing", "judge"] (spM K 2 (r_is_filled A)) := by
  refine fn_ok (k := 66) T.F_is_filled sc_is_filled fun cdv A' outer s H E hr => ?_
  have tk0 : Takes (cxOf (L2.CX P w) P w K mg base ["thing", "judge", "part"] "is_filled" (defScope s_is_filled) A.f_is_filled cdv A' outer s H E) (Wd E) := takes_of rfl rfl rfl rfl
  have po0 : PassesOwn (model P w) (cxOf (L2.CX P w) P w K mg base ["thing", "judge", "part"] "is_filled" (defScope s_is_filled) A.f_is_filled cdv A' outer s H E).A (cxOf (L2.CX P w) P w K mg base ["thing", "judge", "part"] "is_filled" (defScope s_is_filled) A.f_is_filled cdv A' outer s H E).env (cxOf (L2.CX P w) P w K mg base ["thing", "judge", "part"] "is_filled" (defScope s_is_filled) A.f_is_filled cdv A' outer s H E).xe := passes_of rfl
  exact (ss_cons (s_if (w_pt (w_or (t_not (t_val (e_callB call_isiA (d_isi T.sub_ok T.ex_ok) rfl T.m_isinstance bt_isinstance (a_cons (e_var (pv 0)) (a_cons (e_const (pe_bltn (v := .ty "tuple") rfl T.m_tuple bt_tuple rfl) fun _ => rfl) a_nil))))) (w_or1 (t_cmp (op_eqE hr.units) (d_nil d_eq) (bools_nil bools_eq) (e_callB call_lenA d_len_ rfl T.m_len bt_len (a_cons (e_var (pv 0)) a_nil)) e_int)))) (ss_one (s_ret e_bl)) ss_nil)
    (ss_one (s_ret (e_cmp (op_eqE hr.units) (d_nil d_eq) (e_comp (own := [("part", 2)]) (mkF_ok _) rfl sc_is_filled.nd (i_seq (e_var (pv 0))) (blkOk_by (own := [("part", 2)]) (N := ["thing", "judge", "part"]) (sc := defScope s_is_filled) (by decide +kernel)) (mono_name) (tg_name) (fun _ _ _ _ _ => pg_name (i := 2) sc_is_filled.nd rfl (Or.inl rfl)) (W1 := W0) (fun _ _ _ _ _ => (ts_one (t_not (t_val (e_callV (i := 1) (tab_0 T (hr.mono (by decide))) rfl (by first | exact Or.inl rfl | exact Or.inr (Or.inl rfl) | exact Or.inr (Or.inr rfl)) takes0 (a_cons (e_var (pv 2)) a_nil)))))) (W2 := W0) (fun _ _ _ _ _ => (e_var (pv 2)))) (e_lst (mkF_ok _) a_nil)))))
theorem ok_is_sheet (T : Txt K mg A) : FnOk P w K mg base (L2.CX P w) 68 A.f_is_sheet A.d_is_sheet ["thing"] (spM K 1 (r_is_sheet A)) := by
  refine fn_ok (k := 67) T.F_is_sheet sc_is_sheet fun cdv A' outer s H E hr => ?_
  have tk0 : Takes (cxOf (L2.CX P w) P w K mg base ["thing"] "is_sheet" (defScope s_is_sheet) A.f_is_sheet cdv A' outer s H E) (Wd E) := takes_of rfl rfl rfl rfl
  have po0 : PassesOwn (model P w) (cxOf (L2.CX P w) P w K mg base ["thing"] "is_sheet" (defScope s_is_sheet) A.f_is_sheet cdv A' outer s H E).A (cxOf (L2.CX P w) P w K mg base ["thing"] "is_sheet" (defScope s_is_sheet) A.f_is_sheet cdv A' outer s H E).env (cxOf (L2.CX P w) P w K mg base ["thing"] "is_sheet" (defScope s_is_sheet) A.f_is_sheet cdv A' outer s H E).xe := passes_of rfl
  exact (ss_one (s_ret (e_and (e_call (ok_is_tagged T) (hr.mono (by decide)) rfl T.g_is_tagged T.F_is_tagged.kp T.b_is_tagged tk0 (a_cons (e_var (pv 0)) (a_cons (e_disp (mkDF_ok _) (dp_cons (.inr "sheet") pe_str e_int dp_nil) (by decide)) a_nil))) (e_and (e_call (ok_is_filled T) (hr.mono (by decide)) rfl T.g_is_filled T.F_is_filled.kp T.b_is_filled tk0 (a_cons (e_ix (ix_all (hu_of hr)) d_ix (e_var (pv 0)) e_int) (a_cons (e_const (pe_glob (v := .ref (A.f_is_input)) rfl T.g_is_input rfl) fun _ => rfl) a_nil))) (e_one (e_call (ok_is_filled T) (hr.mono (by decide)) rfl T.g_is_filled T.F_is_filled.kp T.b_is_filled tk0 (a_cons (e_ix (ix_all (hu_of hr)) d_ix (e_var (pv 0)) e_int) (a_cons (e_const (pe_glob (v := .ref (A.f_is_cell)) rfl T.g_is_cell rfl) fun _ => rfl) a_nil))))))))
theorem ok_law_begun (T : Txt K mg A) : FnOk P w K mg base (L2.CX P w) 1 A.f_law_begun A.d_law_begun ["script"] (spM K 1 (r_law_begun A)) := by
  refine fn_ok (k := 0) T.F_law_begun sc_law_begun fun cdv A' outer s H E hr => ?_
  have tk0 : Takes (cxOf (L2.CX P w) P w K mg base ["script", "wide", "grain"] "_law_begun" (defScope s_law_begun) A.f_law_begun cdv A' outer s H E) (Wd E) := takes_of rfl rfl rfl rfl
  have po0 : PassesOwn (model P w) (cxOf (L2.CX P w) P w K mg base ["script", "wide", "grain"] "_law_begun" (defScope s_law_begun) A.f_law_begun cdv A' outer s H E).A (cxOf (L2.CX P w) P w K mg base ["script", "wide", "grain"] "_law_begun" (defScope s_law_begun) A.f_law_begun cdv A' outer s H E).env (cxOf (L2.CX P w) P w K mg base ["script", "wide", "grain"] "_law_begun" (defScope s_law_begun) A.f_law_begun cdv A' outer s H E).xe := passes_of rfl
  exact (ss_cons (s_setComp (i := 1) (own := [("grain", 2)]) (mkM_ok _) rfl sc_law_begun.nd rfl rfl (sw_true rfl rfl rfl (by decide +kernel)) (i_seq (e_var (pv 0))) (blkOk_by (own := [("grain", 2)]) (N := ["script", "wide", "grain"]) (sc := defScope s_law_begun) (by decide +kernel)) (mono_name) (tg_name) (fun _ _ _ _ _ => pg_name (i := 2) sc_law_begun.nd rfl (Or.inl rfl)) (W1 := W0) (fun _ _ _ _ _ => (ts_one (t_cmp op_geA d_ord bools_ord (e_callB call_abs d_abs rfl T.m_abs bt_abs (a_cons (e_var (pv 2)) a_nil)) (e_op op_pow d_pow e_int e_int)))) (W2 := W0) (fun _ _ _ _ _ => (e_op op_sub d_sub (e_callB call_abs d_abs rfl T.m_abs bt_abs (a_cons (e_var (pv 2)) a_nil)) (e_op op_pow d_pow e_int e_int))))
    (ss_one (s_ret (e_disp (mkDM_ok _) (dp_cons (.inr "wide") pe_str (e_var (pv 1)) (dp_cons (.inr "cells") pe_str (e_comp (own := [("grain", 2)]) (mkF_ok _) rfl sc_law_begun.nd (i_seq (e_var (pv 0))) (blkOk_by (own := [("grain", 2)]) (N := ["script", "wide", "grain"]) (sc := defScope s_law_begun) (by decide +kernel)) (mono_name) (tg_name) (fun _ _ _ _ _ => pg_name (i := 2) sc_law_begun.nd rfl (Or.inl rfl)) (W1 := W0) (fun _ _ _ _ _ => ts_nil) (W2 := W0) (fun _ _ _ _ _ => (e_op op_mod d_mod (e_callTy call_int1 d_int rfl T.m_int bt_int (a_cons (e_callB call_abs d_abs rfl T.m_abs bt_abs (a_cons (e_var (pv 2)) a_nil)) a_nil)) e_int))) (dp_cons (.inr "rest") pe_str e_int (dp_cons (.inr "turn") pe_str e_int dp_nil)))) (by decide)))))
theorem ok_law_mixed (T : Txt K mg A) : FnOk P w K mg base (L2.CX P w) 1 A.f_law_mixed A.d_law_mixed ["draw"] (spM K 1 (r_law_mixed A)) := by
  refine fn_ok (k := 0) T.F_law_mixed sc_law_mixed fun cdv A' outer s H E hr => ?_
  have tk0 : Takes (cxOf (L2.CX P w) P w K mg base ["draw", "turn", "found", "prime", "blend", "grain"] "_law_mixed" (defScope s_law_mixed) A.f_law_mixed cdv A' outer s H E) (Wd E) := takes_of rfl rfl rfl rfl
  have po0 : PassesOwn (model P w) (cxOf (L2.CX P w) P w K mg base ["draw", "turn", "found", "prime", "blend", "grain"] "_law_mixed" (defScope s_law_mixed) A.f_law_mixed cdv A' outer s H E).A (cxOf (L2.CX P w) P w K mg base ["draw", "turn", "found", "prime", "blend", "grain"] "_law_mixed" (defScope s_law_mixed) A.f_law_mixed cdv A' outer s H E).env (cxOf (L2.CX P w) P w K mg base ["draw", "turn", "found", "prime", "blend", "grain"] "_law_mixed" (defScope s_law_mixed) A.f_law_mixed cdv A' outer s H E).xe := passes_of rfl
  exact (ss_cons (s_par (i := 1) (j := 2) rfl sc_law_mixed.nd rfl rfl (by decide) rfl rfl (a_cons (e_op op_addT (d_addT (mkF_ok _)) (e_ix (ix_all (hu_of hr)) d_ix (e_var (pv 0)) e_str) e_int) (a_cons e_int a_nil)) (by rfl))
    (ss_cons (s_asg (e_var (pv 1)) (g_sub (W := W0) (hu_of hr) (e_var (pv 0)) e_str))
    (ss_cons (s_for po0 rfl (i_seq (e_lst (mkF_ok _) (a_cons e_int (a_cons e_int (a_cons e_int (a_cons e_int a_nil)))))) (g_name (pg_name (i := 3) sc_law_mixed.nd rfl (Or.inl rfl))) (ss_cons (s_set (i := 4) sc_law_mixed.nd rfl (Or.inl rfl) (e_op op_addT (d_addT (mkF_ok _)) (e_op op_mul d_mul e_int (e_var (pv 1))) (e_op op_fdiv d_div (e_var (pv 3)) e_int)))
    (ss_cons (s_for po0 rfl (i_seq (e_ix (ix_all (hu_of hr)) d_ix (e_var (pv 0)) e_str)) (g_name (pg_name (i := 5) sc_law_mixed.nd rfl (Or.inl rfl))) (ss_one (s_set (i := 4) sc_law_mixed.nd rfl (Or.inl rfl) (e_op op_mod d_mod (e_callTy call_int1 d_int rfl T.m_int bt_int (a_cons (e_op op_addT (d_addT (mkF_ok _)) (e_op op_addT (d_addT (mkF_ok _)) (e_op op_mul d_mul (e_var (pv 4)) e_int) (e_var (pv 5))) (e_var (pv 1))) a_nil)) (e_var (pv 3))))))
    (ss_one (s_set (i := 2) sc_law_mixed.nd rfl (Or.inl rfl) (e_op op_addT (d_addT (mkF_ok _)) (e_op op_mul d_mul (e_var (pv 2)) e_int) (e_op op_mod d_mod (e_callTy call_int1 d_int rfl T.m_int bt_int (a_cons (e_op op_pow d_pow (e_var (pv 4)) e_int) a_nil)) (e_var (pv 3)))))))))
    (ss_one (s_ret (e_var (pv 2)))))))
theorem ok_law_take (T : Txt K mg A) : FnOk P w K mg base (L2.CX P w) 2 A.f_law_take A.d_law_take ["draw", "many"] (spM K 2 (r_law_take A)) := by
  refine fn_ok (k := 1) T.F_law_take sc_law_take fun cdv A' outer s H E hr => ?_
  have tk0 : Takes (cxOf (L2.CX P w) P w K mg base ["draw", "many", "found"] "_law_take" (defScope s_law_take) A.f_law_take cdv A' outer s H E) (Wd E) := takes_of rfl rfl rfl rfl
  have po0 : PassesOwn (model P w) (cxOf (L2.CX P w) P w K mg base ["draw", "many", "found"] "_law_take" (defScope s_law_take) A.f_law_take cdv A' outer s H E).A (cxOf (L2.CX P w) P w K mg base ["draw", "many", "found"] "_law_take" (defScope s_law_take) A.f_law_take cdv A' outer s H E).env (cxOf (L2.CX P w) P w K mg base ["draw", "many", "found"] "_law_take" (defScope s_law_take) A.f_law_take cdv A' outer s H E).xe := passes_of rfl
  exact (ss_cons (s_if (t_cmp (op_eqE hr.units) (d_nil d_eq) (bools_nil bools_eq) (e_ix (ix_all (hu_of hr)) d_ix (e_var (pv 0)) e_str) e_int) (ss_one (s_asg (e_if (t_cmp (op_neE hr.units) (d_nil d_ne) (bools_nil bools_ne) (e_ix (ix_all (hu_of hr)) d_ix (e_var (pv 0)) e_str) (e_lst (mkF_ok _) a_nil)) (e_bm PySem.F.plainAttrs_list PySem.F.slot_list_pop PySem.F.type_list_pop mt_popAt m_popAt (e_ix (ix_all (hu_of hr)) d_ix (e_var (pv 0)) e_str) (a_cons e_int a_nil)) (e_call (ok_law_mixed T) (hr.mono (by decide)) rfl T.g_law_mixed T.F_law_mixed.kp T.b_law_mixed tk0 (a_cons (e_var (pv 0)) a_nil))) (g_sub (W := W0) (hu_of hr) (e_var (pv 0)) e_str))) ss_nil)
    (ss_cons (s_set (i := 2) sc_law_take.nd rfl (Or.inl rfl) (e_op op_mod d_mod (e_callTy call_int1 d_int rfl T.m_int bt_int (a_cons (e_ix (ix_all (hu_of hr)) d_ix (e_var (pv 0)) e_str) a_nil)) (e_var (pv 1))))
    (ss_cons (s_asg (e_op op_fdiv d_div (e_ix (ix_all (hu_of hr)) d_ix (e_var (pv 0)) e_str) (e_var (pv 1))) (g_sub (W := W0) (hu_of hr) (e_var (pv 0)) e_str))
    (ss_one (s_ret (e_var (pv 2)))))))
theorem ok_law_pick (T : Txt K mg A) : FnOk P w K mg base (L2.CX P w) 3 A.f_law_pick A.d_law_pick ["draw", "some"] (spM K 2 (r_law_pick A)) := by
  refine fn_ok (k := 2) T.F_law_pick sc_law_pick fun cdv A' outer s H E hr => ?_
  have tk0 : Takes (cxOf (L2.CX P w) P w K mg base ["draw", "some"] "_law_pick" (defScope s_law_pick) A.f_law_pick cdv A' outer s H E) (Wd E) := takes_of rfl rfl rfl rfl
  have po0 : PassesOwn (model P w) (cxOf (L2.CX P w) P w K mg base ["draw", "some"] "_law_pick" (defScope s_law_pick) A.f_law_pick cdv A' outer s H E).A (cxOf (L2.CX P w) P w K mg base ["draw", "some"] "_law_pick" (defScope s_law_pick) A.f_law_pick cdv A' outer s H E).env (cxOf (L2.CX P w) P w K mg base ["draw", "some"] "_law_pick" (defScope s_law_pick) A.f_law_pick cdv A' outer s H E).xe := passes_of rfl
  exact (ss_one (s_ret (e_ix (ix_all (hu_of hr)) d_ix (e_var (pv 1)) (e_call (ok_law_take T) (hr.mono (by decide)) rfl T.g_law_take T.F_law_take.kp T.b_law_take tk0 (a_cons (e_var (pv 0)) (a_cons (e_callB call_lenA d_len_ rfl T.m_len bt_len (a_cons (e_var (pv 1)) a_nil)) a_nil))))))
theorem ok_law_shuffled (T : Txt K mg A) : FnOk P w K mg base (L2.CX P w) 3 A.f_law_shuffled A.d_law_shuffled ["draw", "some"] (spM K 2 (r_law_shuffled A)) := by
  refine fn_ok (k := 2) T.F_law_shuffled sc_law_shuffled fun cdv A' outer s H E hr => ?_
  have tk0 : Takes (cxOf (L2.CX P w) P w K mg base ["draw", "some", "left", "found"] "_law_shuffled" (defScope s_law_shuffled) A.f_law_shuffled cdv A' outer s H E) (Wd E) := takes_of rfl rfl rfl rfl
  have po0 : PassesOwn (model P w) (cxOf (L2.CX P w) P w K mg base ["draw", "some", "left", "found"] "_law_shuffled" (defScope s_law_shuffled) A.f_law_shuffled cdv A' outer s H E).A (cxOf (L2.CX P w) P w K mg base ["draw", "some", "left", "found"] "_law_shuffled" (defScope s_law_shuffled) A.f_law_shuffled cdv A' outer s H E).env (cxOf (L2.CX P w) P w K mg base ["draw", "some", "left", "found"] "_law_shuffled" (defScope s_law_shuffled) A.f_law_shuffled cdv A' outer s H E).xe := passes_of rfl
  exact (ss_cons (s_par (i := 2) (j := 3) rfl sc_law_shuffled.nd rfl rfl (by decide) rfl rfl (a_cons (e_callTy call_listA (d_list (mkM_ok _)) rfl T.m_list bt_list (a_cons (e_var (pv 1)) a_nil)) (a_cons (e_lst (mkM_ok _) a_nil) a_nil)) (by rfl))
    (ss_cons (s_fzv 2 (s_fzv 3 (s_while po0 (t_cmp (op_neE hr.units) (d_nil d_ne) (bools_nil bools_ne) (e_var (pv 2)) (e_lst (mkF_ok _) a_nil)) (ss_one (s_expr (e_bm PySem.F.plainAttrs_list PySem.F.slot_list_append PySem.F.type_list_append mt_append m_append (e_var (pv 3)) (a_cons (e_bm PySem.F.plainAttrs_list PySem.F.slot_list_pop PySem.F.type_list_pop mt_popAt m_popAt (e_var (pv 2)) (a_cons (e_call (ok_law_take T) (hr.mono (by decide)) rfl T.g_law_take T.F_law_take.kp T.b_law_take tk0 (a_cons (e_var (pv 0)) (a_cons (e_callB call_lenA d_len_ rfl T.m_len bt_len (a_cons (e_var (pv 2)) a_nil)) a_nil))) a_nil)) a_nil)))))))
    (ss_one (s_ret (e_var (pv 3))))))
theorem ok_law_names (T : Txt K mg A) : FnOk P w K mg base (L2.CX P w) 4 A.f_law_names A.d_law_names ["draw", "many"] (spM K 2 (r_law_names A)) := by
  refine fn_ok (k := 3) T.F_law_names sc_law_names fun cdv A' outer s H E hr => ?_
  have tk0 : Takes (cxOf (L2.CX P w) P w K mg base ["draw", "many", "letters", "found", "k"] "_law_names" (defScope s_law_names) A.f_law_names cdv A' outer s H E) (Wd E) := takes_of rfl rfl rfl rfl
  have po0 : PassesOwn (model P w) (cxOf (L2.CX P w) P w K mg base ["draw", "many", "letters", "found", "k"] "_law_names" (defScope s_law_names) A.f_law_names cdv A' outer s H E).A (cxOf (L2.CX P w) P w K mg base ["draw", "many", "letters", "found", "k"] "_law_names" (defScope s_law_names) A.f_law_names cdv A' outer s H E).env (cxOf (L2.CX P w) P w K mg base ["draw", "many", "letters", "found", "k"] "_law_names" (defScope s_law_names) A.f_law_names cdv A' outer s H E).xe := passes_of rfl
  exact (ss_cons (s_set (i := 2) sc_law_names.nd rfl (Or.inr rfl) e_str)
    (ss_cons (s_setComp (i := 3) (own := [("k", 4)]) (mkF_ok _) rfl sc_law_names.nd rfl rfl (sw_true rfl rfl rfl (by decide +kernel)) (i_range1 rfl T.m_range (a_cons (e_var (pv 1)) a_nil)) (blkOk_by (own := [("k", 4)]) (N := ["draw", "many", "letters", "found", "k"]) (sc := defScope s_law_names) (by decide +kernel)) (mono_name) (tg_name) (fun _ _ _ _ _ => pg_name (i := 4) sc_law_names.nd rfl (Or.inl rfl)) (W1 := W0) (fun _ _ _ _ _ => ts_nil) (W2 := W0) (fun _ _ _ _ _ => (e_op op_addT (d_addT (mkF_ok _)) (e_op op_addT (d_addT (mkF_ok _)) (e_ix (ix_all (hu_of hr)) d_ix (e_var (pv 2)) (e_op op_mod d_mod (e_var (pv 4)) e_int)) (e_call (ok_law_pick T) (hr.mono (by decide)) rfl T.g_law_pick T.F_law_pick.kp T.b_law_pick takes0 (a_cons (e_var (pv 0)) (a_cons (e_lst (mkF_ok _) (a_cons e_str (a_cons e_str (a_cons e_str (a_cons e_str a_nil))))) a_nil)))) (e_op op_mulA d_mulA e_str (e_op op_fdiv d_div (e_var (pv 4)) e_int)))))
    (ss_one (s_ret (e_call (ok_law_shuffled T) (hr.mono (by decide)) rfl T.g_law_shuffled T.F_law_shuffled.kp T.b_law_shuffled tk0 (a_cons (e_var (pv 0)) (a_cons (e_var (pv 3)) a_nil)))))))
theorem ok_law_any_number (T : Txt K mg A) : FnOk P w K mg base (L2.CX P w) 4 A.f_law_any_number A.d_law_any_number ["draw"] (spM K 1 (r_law_any_number A)) := by
  refine fn_ok (k := 3) T.F_law_any_number sc_law_any_number fun cdv A' outer s H E hr => ?_
  have tk0 : Takes (cxOf (L2.CX P w) P w K mg base ["draw"] "_law_any_number" (defScope s_law_any_number) A.f_law_any_number cdv A' outer s H E) (Wd E) := takes_of rfl rfl rfl rfl
  have po0 : PassesOwn (model P w) (cxOf (L2.CX P w) P w K mg base ["draw"] "_law_any_number" (defScope s_law_any_number) A.f_law_any_number cdv A' outer s H E).A (cxOf (L2.CX P w) P w K mg base ["draw"] "_law_any_number" (defScope s_law_any_number) A.f_law_any_number cdv A' outer s H E).env (cxOf (L2.CX P w) P w K mg base ["draw"] "_law_any_number" (defScope s_law_any_number) A.f_law_any_number cdv A' outer s H E).xe := passes_of rfl
  exact (ss_one (s_ret (e_call (ok_law_pick T) (hr.mono (by decide)) rfl T.g_law_pick T.F_law_pick.kp T.b_law_pick tk0 (a_cons (e_var (pv 0)) (a_cons (e_lst (mkF_ok _) (a_cons e_int (a_cons e_int (a_cons e_int (a_cons e_int (a_cons (e_un un_neg d_neg e_int) (a_cons e_int (a_cons e_int (a_cons e_int (a_cons e_int (a_cons (e_un un_neg d_neg e_int) (a_cons e_int (a_cons e_int (a_cons (e_un un_neg d_neg e_int) (a_cons (e_op op_sub d_sub (e_call (ok_law_take T) (hr.mono (by decide)) rfl T.g_law_take T.F_law_take.kp T.b_law_take tk0 (a_cons (e_var (pv 0)) (a_cons e_int a_nil))) e_int) a_nil))))))))))))))) a_nil)))))
theorem ok_g_law_any_expression (T : Txt K mg A) : ∀ n : Nat, (FnOk P w K mg base (L2.CX P w) (5 + n) A.f_law_any_expression A.d_law_any_expression ["draw", "names", "deep"] (spM K 3 (r_law_any_expression A n)))
  | 0 => fn_none rfl
  | n + 1 => by
    have ih := ok_g_law_any_expression T n
    · rw [r_law_any_expression_eq]
      refine fn_ok (k := 5 + n) T.F_law_any_expression sc_law_any_expression fun cdv A' outer s H E hr => ?_
      have tk0 : Takes (cxOf (L2.CX P w) P w K mg base ["draw", "names", "deep", "way", "some", "k", "low", "pairs"] "_law_any_expression" (defScope s_law_any_expression) A.f_law_any_expression cdv A' outer s H E) (Wd E) := takes_of rfl rfl rfl rfl
      have po0 : PassesOwn (model P w) (cxOf (L2.CX P w) P w K mg base ["draw", "names", "deep", "way", "some", "k", "low", "pairs"] "_law_any_expression" (defScope s_law_any_expression) A.f_law_any_expression cdv A' outer s H E).A (cxOf (L2.CX P w) P w K mg base ["draw", "names", "deep", "way", "some", "k", "low", "pairs"] "_law_any_expression" (defScope s_law_any_expression) A.f_law_any_expression cdv A' outer s H E).env (cxOf (L2.CX P w) P w K mg base ["draw", "names", "deep", "way", "some", "k", "low", "pairs"] "_law_any_expression" (defScope s_law_any_expression) A.f_law_any_expression cdv A' outer s H E).xe := passes_of rfl
      exact (ss_cons (s_set (i := 3) sc_law_any_expression.nd rfl (Or.inl rfl) (e_if (t_cmp op_gtA d_ord bools_ord (e_var (pv 2)) e_int) (e_call (ok_law_take T) (hr.mono (by omega)) rfl T.g_law_take T.F_law_take.kp T.b_law_take tk0 (a_cons (e_var (pv 0)) (a_cons e_int a_nil))) (e_call (ok_law_take T) (hr.mono (by omega)) rfl T.g_law_take T.F_law_take.kp T.b_law_take tk0 (a_cons (e_var (pv 0)) (a_cons e_int a_nil)))))
      (ss_cons (s_if (t_cmp op_ltA d_ord bools_ord (e_var (pv 3)) e_int) (ss_one (s_ret (e_tup (a_cons e_str (a_cons (e_call (ok_law_any_number T) (hr.mono (by omega)) rfl T.g_law_any_number T.F_law_any_number.kp T.b_law_any_number tk0 (a_cons (e_var (pv 0)) a_nil)) a_nil))))) ss_nil)
      (ss_cons (s_if (t_cmp (op_eqE hr.units) (d_nil d_eq) (bools_nil bools_eq) (e_var (pv 3)) e_int) (ss_one (s_ret (e_tup (a_cons e_str (a_cons (e_call (ok_law_pick T) (hr.mono (by omega)) rfl T.g_law_pick T.F_law_pick.kp T.b_law_pick tk0 (a_cons (e_var (pv 0)) (a_cons (e_var (pv 1)) a_nil))) a_nil))))) ss_nil)
      (ss_cons (s_if (t_cmp (op_eqE hr.units) (d_nil d_eq) (bools_nil bools_eq) (e_var (pv 3)) e_int) (ss_one (s_ret (e_call (ok_law_pick T) (hr.mono (by omega)) rfl T.g_law_pick T.F_law_pick.kp T.b_law_pick tk0 (a_cons (e_var (pv 0)) (a_cons (e_lst (mkF_ok _) (a_cons (e_tup (a_cons e_str a_nil)) (a_cons (e_tup (a_cons e_str (a_cons (e_call (ok_law_pick T) (hr.mono (by omega)) rfl T.g_law_pick T.F_law_pick.kp T.b_law_pick tk0 (a_cons (e_var (pv 0)) (a_cons (e_var (pv 1)) a_nil))) (a_cons (e_op op_addT (d_addT (mkF_ok _)) e_int (e_call (ok_law_take T) (hr.mono (by omega)) rfl T.g_law_take T.F_law_take.kp T.b_law_take tk0 (a_cons (e_var (pv 0)) (a_cons e_int a_nil)))) a_nil)))) a_nil))) a_nil))))) ss_nil)
      (ss_cons (s_if (t_cmp (op_eqE hr.units) (d_nil d_eq) (bools_nil bools_eq) (e_var (pv 3)) e_int) (ss_one (s_ret (e_tup (a_cons (e_call (ok_law_pick T) (hr.mono (by omega)) rfl T.g_law_pick T.F_law_pick.kp T.b_law_pick tk0 (a_cons (e_var (pv 0)) (a_cons (e_lst (mkF_ok _) (a_cons e_str (a_cons e_str (a_cons e_str a_nil)))) a_nil))) (a_cons (e_call (ok_law_pick T) (hr.mono (by omega)) rfl T.g_law_pick T.F_law_pick.kp T.b_law_pick tk0 (a_cons (e_var (pv 0)) (a_cons (e_var (pv 1)) a_nil))) a_nil))))) ss_nil)
      (ss_cons (s_setComp (i := 4) (own := [("k", 5)]) (mkF_ok _) rfl sc_law_any_expression.nd rfl rfl (sw_true rfl rfl rfl (by decide +kernel)) (i_range1 rfl T.m_range (a_cons e_int a_nil)) (blkOk_by (own := [("k", 5)]) (N := ["draw", "names", "deep", "way", "some", "k", "low", "pairs"]) (sc := defScope s_law_any_expression) (by decide +kernel)) (mono_name) (tg_name) (fun _ _ _ _ _ => pg_name (i := 5) sc_law_any_expression.nd rfl (Or.inl rfl)) (W1 := W0) (fun _ _ _ _ _ => ts_nil) (W2 := W0) (fun _ _ _ _ _ => (e_call ih hr rfl T.g_law_any_expression T.F_law_any_expression.kp T.b_law_any_expression takes0 (a_cons (e_var (pv 0)) (a_cons (e_var (pv 1)) (a_cons (e_op op_sub d_sub (e_var (pv 2)) e_int) a_nil))))))
      (ss_cons (s_if (t_cmp (op_eqE hr.units) (d_nil d_eq) (bools_nil bools_eq) (e_var (pv 3)) e_int) (ss_one (s_ret (e_tup (a_cons e_str (a_cons (e_call (ok_law_pick T) (hr.mono (by omega)) rfl T.g_law_pick T.F_law_pick.kp T.b_law_pick tk0 (a_cons (e_var (pv 0)) (a_cons (e_var (pv 1)) a_nil))) (a_cons (e_call (ok_law_any_number T) (hr.mono (by omega)) rfl T.g_law_any_number T.F_law_any_number.kp T.b_law_any_number tk0 (a_cons (e_var (pv 0)) a_nil)) (a_cons (e_ix (ix_all (hu_of hr)) d_ix (e_var (pv 4)) e_int) a_nil))))))) ss_nil)
      (ss_cons (s_if (t_cmp (op_eqE hr.units) (d_nil d_eq) (bools_nil bools_eq) (e_var (pv 3)) e_int) (ss_one (s_ret (e_tup (a_cons e_str (a_cons (e_ix (ix_all (hu_of hr)) d_ix (e_var (pv 4)) e_int) a_nil))))) ss_nil)
      (ss_cons (s_if (t_cmp (op_eqE hr.units) (d_nil d_eq) (bools_nil bools_eq) (e_var (pv 3)) e_int) (ss_one (s_ret (e_tup (a_cons e_str (a_cons (e_ix (ix_all (hu_of hr)) d_ix (e_var (pv 4)) e_int) (a_cons (e_ix (ix_all (hu_of hr)) d_ix (e_var (pv 4)) e_int) (a_cons (e_call ih hr rfl T.g_law_any_expression T.F_law_any_expression.kp T.b_law_any_expression tk0 (a_cons (e_var (pv 0)) (a_cons (e_var (pv 1)) (a_cons (e_op op_sub d_sub (e_var (pv 2)) e_int) a_nil)))) a_nil))))))) ss_nil)
      (ss_cons (s_if (t_cmp (op_eqE hr.units) (d_nil d_eq) (bools_nil bools_eq) (e_var (pv 3)) e_int) (ss_cons (s_par (i := 6) (j := 7) rfl sc_law_any_expression.nd rfl rfl (by decide) rfl rfl (a_cons (e_op op_fdiv d_div (e_call (ok_law_any_number T) (hr.mono (by omega)) rfl T.g_law_any_number T.F_law_any_number.kp T.b_law_any_number tk0 (a_cons (e_var (pv 0)) a_nil)) e_int) (a_cons (e_lst (mkM_ok _) a_nil) a_nil)) (by rfl))
      (ss_cons (s_fzv 7 (s_for po0 rfl (i_range1 rfl T.m_range (a_cons (e_op op_addT (d_addT (mkF_ok _)) e_int (e_call (ok_law_take T) (hr.mono (by omega)) rfl T.g_law_take T.F_law_take.kp T.b_law_take tk0 (a_cons (e_var (pv 0)) (a_cons e_int a_nil)))) a_nil)) (g_name (pg_name (i := 5) sc_law_any_expression.nd rfl (Or.inl rfl))) (ss_cons (s_set (i := 6) sc_law_any_expression.nd rfl (Or.inl rfl) (e_op op_addT (d_addT (mkF_ok _)) (e_op op_addT (d_addT (mkF_ok _)) (e_var (pv 6)) e_int) (e_call (ok_law_pick T) (hr.mono (by omega)) rfl T.g_law_pick T.F_law_pick.kp T.b_law_pick tk0 (a_cons (e_var (pv 0)) (a_cons (e_lst (mkF_ok _) (a_cons e_int (a_cons e_int (a_cons e_int (a_cons (e_call (ok_law_take T) (hr.mono (by omega)) rfl T.g_law_take T.F_law_take.kp T.b_law_take tk0 (a_cons (e_var (pv 0)) (a_cons e_int a_nil))) a_nil))))) a_nil)))))
      (ss_one (s_expr (e_bm PySem.F.plainAttrs_list PySem.F.slot_list_append PySem.F.type_list_append mt_append m_append (e_var (pv 7)) (a_cons (e_tup (a_cons (e_var (pv 6)) (a_cons (e_call ih hr rfl T.g_law_any_expression T.F_law_any_expression.kp T.b_law_any_expression tk0 (a_cons (e_var (pv 0)) (a_cons (e_var (pv 1)) (a_cons (e_op op_sub d_sub (e_var (pv 2)) e_int) a_nil)))) a_nil))) a_nil)))))))
      (ss_one (s_ret (e_tup (a_cons e_str (a_cons (e_ix (ix_all (hu_of hr)) d_ix (e_var (pv 4)) e_int) (a_cons (e_callTy call_tupleA d_tuple rfl T.m_tuple bt_tuple (a_cons (e_var (pv 7)) a_nil)) (a_cons (e_ix (ix_all (hu_of hr)) d_ix (e_var (pv 4)) e_int) a_nil))))))))) ss_nil)
      (ss_one (s_ret (e_tup (a_cons (e_call (ok_law_pick T) (hr.mono (by omega)) rfl T.g_law_pick T.F_law_pick.kp T.b_law_pick tk0 (a_cons (e_var (pv 0)) (a_cons (e_lst (mkF_ok _) (a_cons e_str (a_cons e_str (a_cons e_str (a_cons e_str (a_cons e_str (a_cons e_str (a_cons e_str (a_cons e_str (a_cons e_str (a_cons e_str a_nil))))))))))) a_nil))) (a_cons (e_ix (ix_all (hu_of hr)) d_ix (e_var (pv 4)) e_int) (a_cons (e_ix (ix_all (hu_of hr)) d_ix (e_var (pv 4)) e_int) a_nil))))))))))))))))
theorem ok_law_any_expression (T : Txt K mg A) : FnOk P w K mg base (L2.CX P w) 11 A.f_law_any_expression A.d_law_any_expression ["draw", "names", "deep"] (spM K 3 (r_law_any_expression A 6)) := (ok_g_law_any_expression T 6)
theorem ok_g_law_placeless (T : Txt K mg A) : ∀ n : Nat, (FnOk P w K mg base (L2.CX P w) (1 + n) A.f_law_placeless A.d_law_placeless ["tree"] (spM K 1 (r_law_placeless A n)))
  | 0 => fn_none rfl
  | n + 1 => by
    have ih := ok_g_law_placeless T n
    · rw [r_law_placeless_eq]
      refine fn_ok (k := 1 + n) T.F_law_placeless sc_law_placeless fun cdv A' outer s H E hr => ?_
      have tk0 : Takes (cxOf (L2.CX P w) P w K mg base ["tree", "pairs", "number", "part"] "_law_placeless" (defScope s_law_placeless) A.f_law_placeless cdv A' outer s H E) (Wd E) := takes_of rfl rfl rfl rfl
      have po0 : PassesOwn (model P w) (cxOf (L2.CX P w) P w K mg base ["tree", "pairs", "number", "part"] "_law_placeless" (defScope s_law_placeless) A.f_law_placeless cdv A' outer s H E).A (cxOf (L2.CX P w) P w K mg base ["tree", "pairs", "number", "part"] "_law_placeless" (defScope s_law_placeless) A.f_law_placeless cdv A' outer s H E).env (cxOf (L2.CX P w) P w K mg base ["tree", "pairs", "number", "part"] "_law_placeless" (defScope s_law_placeless) A.f_law_placeless cdv A' outer s H E).xe := passes_of rfl
      exact (ss_cons (s_if (t_cmp (op_eqE hr.units) (d_nil d_eq) (bools_nil bools_eq) (e_ix (ix_all (hu_of hr)) d_ix (e_var (pv 0)) e_int) e_str) (ss_one (s_ret (e_tup (a_cons e_str (a_cons e_int a_nil))))) ss_nil)
      (ss_cons (s_if (t_cmp (op_eqE hr.units) (d_nil d_eq) (bools_nil bools_eq) (e_ix (ix_all (hu_of hr)) d_ix (e_var (pv 0)) e_int) e_str) (ss_one (s_ret (e_tup (a_cons e_str (a_cons (e_tup (a_cons e_str (a_cons (e_ix (ix_all (hu_of hr)) d_ix (e_var (pv 0)) e_int) a_nil))) (a_cons (e_call ih hr rfl T.g_law_placeless T.F_law_placeless.kp T.b_law_placeless tk0 (a_cons (e_ix (ix_all (hu_of hr)) d_ix (e_var (pv 0)) e_int) a_nil)) a_nil)))))) ss_nil)
      (ss_cons (s_if (t_cmp (op_eqE hr.units) (d_nil d_eq) (bools_nil bools_eq) (e_ix (ix_all (hu_of hr)) d_ix (e_var (pv 0)) e_int) e_str) (ss_cons (s_setComp (i := 1) (own := [("number", 2), ("part", 3)]) (mkF_ok _) rfl sc_law_placeless.nd rfl rfl (sw_true rfl rfl rfl (by decide +kernel)) (i_seq (e_ix (ix_all (hu_of hr)) d_ix (e_var (pv 0)) e_int)) (blkOk_by (own := [("number", 2), ("part", 3)]) (N := ["tree", "pairs", "number", "part"]) (sc := defScope s_law_placeless) (by decide +kernel)) (mono_tup (monos_cons (mono_name) (monos_cons (mono_name) (monos_nil)))) (tg_tup (tgs_cons (mono_name) (tg_name) (tgs_cons (mono_name) (tg_name) (tgs_nil)))) (fun _ _ _ _ _ => pg_tup rfl (pgs_cons (pg_name (i := 2) sc_law_placeless.nd rfl (Or.inl rfl)) (pgs_cons (pg_name (i := 3) sc_law_placeless.nd rfl (Or.inl rfl)) (pgs_nil)))) (W1 := W0) (fun _ _ _ _ _ => ts_nil) (W2 := W0) (fun _ _ _ _ _ => (e_tup (a_cons (e_var (pv 2)) (a_cons (e_call ih hr rfl T.g_law_placeless T.F_law_placeless.kp T.b_law_placeless takes0 (a_cons (e_var (pv 3)) a_nil)) a_nil)))))
      (ss_one (s_ret (e_tup (a_cons e_str (a_cons (e_call ih hr rfl T.g_law_placeless T.F_law_placeless.kp T.b_law_placeless tk0 (a_cons (e_ix (ix_all (hu_of hr)) d_ix (e_var (pv 0)) e_int) a_nil)) (a_cons (e_callTy call_tupleA d_tuple rfl T.m_tuple bt_tuple (a_cons (e_var (pv 1)) a_nil)) (a_cons (e_call ih hr rfl T.g_law_placeless T.F_law_placeless.kp T.b_law_placeless tk0 (a_cons (e_ix (ix_all (hu_of hr)) d_ix (e_var (pv 0)) e_int) a_nil)) a_nil)))))))) ss_nil)
      (ss_one (s_ret (e_op op_addT (d_addT (mkF_ok _)) (e_sl sl_all (d_sl (mkF_ok _)) (e_var (pv 0)) o_none (o_some e_int)) (e_callTy call_tupleA d_tuple rfl T.m_tuple bt_tuple (a_cons (e_comp (own := [("part", 3)]) (mkF_ok _) rfl sc_law_placeless.nd (i_seq (e_sl sl_all (d_sl (mkF_ok _)) (e_var (pv 0)) (o_some e_int) o_none)) (blkOk_by (own := [("part", 3)]) (N := ["tree", "pairs", "number", "part"]) (sc := defScope s_law_placeless) (by decide +kernel)) (mono_name) (tg_name) (fun _ _ _ _ _ => pg_name (i := 3) sc_law_placeless.nd rfl (Or.inl rfl)) (W1 := W0) (fun _ _ _ _ _ => ts_nil) (W2 := W0) (fun _ _ _ _ _ => (e_if (t_val (e_callB call_isiA (d_isi T.sub_ok T.ex_ok) rfl T.m_isinstance bt_isinstance (a_cons (e_var (pv 3)) (a_cons (e_const (pe_bltn (v := .ty "tuple") rfl T.m_tuple bt_tuple rfl) fun _ => rfl) a_nil)))) (e_call ih hr rfl T.g_law_placeless T.F_law_placeless.kp T.b_law_placeless takes0 (a_cons (e_var (pv 3)) a_nil)) (e_var (pv 3))))) a_nil))))))))
theorem ok_law_placeless (T : Txt K mg A) : FnOk P w K mg base (L2.CX P w) 17 A.f_law_placeless A.d_law_placeless ["tree"] (spM K 1 (r_law_placeless A 16)) := (ok_g_law_placeless T 16)
theorem ok_law_any_cell (T : Txt K mg A) : FnOk P w K mg base (L2.CX P w) 18 A.f_law_any_cell A.d_law_any_cell ["draw", "names", "deep", "word"] (spM K 4 (r_law_any_cell A)) := by
  refine fn_ok (k := 17) T.F_law_any_cell sc_law_any_cell fun cdv A' outer s H E hr => ?_
  have tk0 : Takes (cxOf (L2.CX P w) P w K mg base ["draw", "names", "deep", "word", "name", "tree", "low"] "_law_any_cell" (defScope s_law_any_cell) A.f_law_any_cell cdv A' outer s H E) (Wd E) := takes_of rfl rfl rfl rfl
  have po0 : PassesOwn (model P w) (cxOf (L2.CX P w) P w K mg base ["draw", "names", "deep", "word", "name", "tree", "low"] "_law_any_cell" (defScope s_law_any_cell) A.f_law_any_cell cdv A' outer s H E).A (cxOf (L2.CX P w) P w K mg base ["draw", "names", "deep", "word", "name", "tree", "low"] "_law_any_cell" (defScope s_law_any_cell) A.f_law_any_cell cdv A' outer s H E).env (cxOf (L2.CX P w) P w K mg base ["draw", "names", "deep", "word", "name", "tree", "low"] "_law_any_cell" (defScope s_law_any_cell) A.f_law_any_cell cdv A' outer s H E).xe := passes_of rfl
  exact (ss_cons (s_par (i := 4) (j := 5) rfl sc_law_any_cell.nd rfl rfl (by decide) rfl rfl (a_cons (e_call (ok_law_pick T) (hr.mono (by decide)) rfl T.g_law_pick T.F_law_pick.kp T.b_law_pick tk0 (a_cons (e_var (pv 0)) (a_cons (e_var (pv 1)) a_nil))) (a_cons (e_call (ok_law_any_expression T) (hr.mono (by decide)) rfl T.g_law_any_expression T.F_law_any_expression.kp T.b_law_any_expression tk0 (a_cons (e_var (pv 0)) (a_cons (e_var (pv 1)) (a_cons (e_var (pv 2)) a_nil)))) a_nil)) (by rfl))
    (ss_cons (s_if (t_cmp (op_eqE hr.units) (d_nil d_eq) (bools_nil bools_eq) (e_var (pv 3)) e_str) (ss_one (s_ret (e_tup (a_cons e_str (a_cons (e_var (pv 4)) (a_cons (e_call (ok_law_placeless T) (hr.mono (by decide)) rfl T.g_law_placeless T.F_law_placeless.kp T.b_law_placeless tk0 (a_cons (e_var (pv 5)) a_nil)) a_nil)))))) ss_nil)
    (ss_cons (s_if (t_cmp (op_eqE hr.units) (d_nil d_eq) (bools_nil bools_eq) (e_var (pv 3)) e_str) (ss_one (s_ret (e_tup (a_cons e_str (a_cons (e_var (pv 4)) (a_cons (e_op op_addT (d_addT (mkF_ok _)) e_int (e_call (ok_law_take T) (hr.mono (by decide)) rfl T.g_law_take T.F_law_take.kp T.b_law_take tk0 (a_cons (e_var (pv 0)) (a_cons e_int a_nil)))) (a_cons (e_var (pv 5)) a_nil))))))) ss_nil)
    (ss_cons (s_set (i := 6) sc_law_any_cell.nd rfl (Or.inl rfl) (e_call (ok_law_pick T) (hr.mono (by decide)) rfl T.g_law_pick T.F_law_pick.kp T.b_law_pick tk0 (a_cons (e_var (pv 0)) (a_cons (e_lst (mkF_ok _) (a_cons e_int (a_cons e_int (a_cons (e_un un_neg d_neg e_int) (a_cons e_int (a_cons (e_un un_neg d_neg e_int) (a_cons e_int a_nil))))))) a_nil))))
    (ss_one (s_ret (e_tup (a_cons e_str (a_cons (e_var (pv 4)) (a_cons (e_var (pv 6)) (a_cons (e_op op_addT (d_addT (mkF_ok _)) (e_var (pv 6)) (e_call (ok_law_take T) (hr.mono (by decide)) rfl T.g_law_take T.F_law_take.kp T.b_law_take tk0 (a_cons (e_var (pv 0)) (a_cons e_int a_nil)))) (a_cons (e_call (ok_law_placeless T) (hr.mono (by decide)) rfl T.g_law_placeless T.F_law_placeless.kp T.b_law_placeless tk0 (a_cons (e_call (ok_law_any_expression T) (hr.mono (by decide)) rfl T.g_law_any_expression T.F_law_any_expression.kp T.b_law_any_expression tk0 (a_cons (e_var (pv 0)) (a_cons (e_var (pv 1)) (a_cons e_int a_nil)))) a_nil)) (a_cons (e_call (ok_law_placeless T) (hr.mono (by decide)) rfl T.g_law_placeless T.F_law_placeless.kp T.b_law_placeless tk0 (a_cons (e_var (pv 5)) a_nil)) a_nil)))))))))))))
theorem ok_law_any_sheet (T : Txt K mg A) : FnOk P w K mg base (L2.CX P w) 19 A.f_law_any_sheet A.d_law_any_sheet ["draw", "most", "deep"] (spM K 3 (r_law_any_sheet A)) := by
  refine fn_ok (k := 18) T.F_law_any_sheet sc_law_any_sheet fun cdv A' outer s H E hr => ?_
  have tk0 : Takes (cxOf (L2.CX P w) P w K mg base ["draw", "most", "deep", "is_wide", "inputs", "cells", "names", "k", "low", "words", "cell"] "_law_any_sheet" (defScope s_law_any_sheet) A.f_law_any_sheet cdv A' outer s H E) (Wd E) := takes_of rfl rfl rfl rfl
  have po0 : PassesOwn (model P w) (cxOf (L2.CX P w) P w K mg base ["draw", "most", "deep", "is_wide", "inputs", "cells", "names", "k", "low", "words", "cell"] "_law_any_sheet" (defScope s_law_any_sheet) A.f_law_any_sheet cdv A' outer s H E).A (cxOf (L2.CX P w) P w K mg base ["draw", "most", "deep", "is_wide", "inputs", "cells", "names", "k", "low", "words", "cell"] "_law_any_sheet" (defScope s_law_any_sheet) A.f_law_any_sheet cdv A' outer s H E).env (cxOf (L2.CX P w) P w K mg base ["draw", "most", "deep", "is_wide", "inputs", "cells", "names", "k", "low", "words", "cell"] "_law_any_sheet" (defScope s_law_any_sheet) A.f_law_any_sheet cdv A' outer s H E).xe := passes_of rfl
  exact (ss_cons (s_par3 (i := 3) (j := 4) (l := 5) rfl sc_law_any_sheet.nd rfl rfl rfl (by decide) (by decide) (by decide) rfl rfl rfl (a_cons (e_cmp (op_eqE hr.units) (d_nil d_eq) (e_call (ok_law_take T) (hr.mono (by decide)) rfl T.g_law_take T.F_law_take.kp T.b_law_take tk0 (a_cons (e_var (pv 0)) (a_cons e_int a_nil))) e_int) (a_cons (e_lst (mkM_ok _) a_nil) (a_cons (e_lst (mkM_ok _) a_nil) a_nil))) (by rfl))
    (ss_cons (s_set (i := 6) sc_law_any_sheet.nd rfl (Or.inl rfl) (e_call (ok_law_names T) (hr.mono (by decide)) rfl T.g_law_names T.F_law_names.kp T.b_law_names tk0 (a_cons (e_var (pv 0)) (a_cons (e_if (w_pt (w_and (t_val (e_var (pv 3))) (w_and1 (t_cmp (op_eqE hr.units) (d_nil d_eq) (bools_nil bools_eq) (e_call (ok_law_take T) (hr.mono (by decide)) rfl T.g_law_take T.F_law_take.kp T.b_law_take tk0 (a_cons (e_var (pv 0)) (a_cons e_int a_nil))) e_int)))) e_int e_int) a_nil))))
    (ss_cons (s_fzv 4 (s_for po0 rfl (i_range1 rfl T.m_range (a_cons (e_if (t_val (e_var (pv 3))) (e_op op_addT (d_addT (mkF_ok _)) e_int (e_call (ok_law_take T) (hr.mono (by decide)) rfl T.g_law_take T.F_law_take.kp T.b_law_take tk0 (a_cons (e_var (pv 0)) (a_cons e_int a_nil)))) (e_call (ok_law_pick T) (hr.mono (by decide)) rfl T.g_law_pick T.F_law_pick.kp T.b_law_pick tk0 (a_cons (e_var (pv 0)) (a_cons (e_lst (mkF_ok _) (a_cons e_int (a_cons e_int (a_cons e_int (a_cons e_int a_nil))))) a_nil)))) a_nil)) (g_name (pg_name (i := 7) sc_law_any_sheet.nd rfl (Or.inl rfl))) (ss_cons (s_set (i := 8) sc_law_any_sheet.nd rfl (Or.inl rfl) (e_call (ok_law_pick T) (hr.mono (by decide)) rfl T.g_law_pick T.F_law_pick.kp T.b_law_pick tk0 (a_cons (e_var (pv 0)) (a_cons (e_if (t_val (e_var (pv 3))) (e_lst (mkF_ok _) (a_cons e_int (a_cons e_int (a_cons e_int (a_cons (e_un un_neg d_neg e_int) (a_cons (e_un un_neg d_neg e_int) (a_cons e_int (a_cons (e_un un_neg d_neg e_int) a_nil)))))))) (e_lst (mkF_ok _) (a_cons e_int (a_cons e_int (a_cons e_int (a_cons (e_un un_neg d_neg e_int) (a_cons (e_un un_neg d_neg e_int) (a_cons e_int a_nil)))))))) a_nil))))
    (ss_one (s_expr (e_bm PySem.F.plainAttrs_list PySem.F.slot_list_append PySem.F.type_list_append mt_append m_append (e_var (pv 4)) (a_cons (e_tup (a_cons e_str (a_cons (e_call (ok_law_pick T) (hr.mono (by decide)) rfl T.g_law_pick T.F_law_pick.kp T.b_law_pick tk0 (a_cons (e_var (pv 0)) (a_cons (e_var (pv 6)) a_nil))) (a_cons (e_var (pv 8)) (a_cons (e_op op_addT (d_addT (mkF_ok _)) (e_var (pv 8)) (e_call (ok_law_take T) (hr.mono (by decide)) rfl T.g_law_take T.F_law_take.kp T.b_law_take tk0 (a_cons (e_var (pv 0)) (a_cons (e_if (t_val (e_var (pv 3))) e_int e_int) a_nil)))) a_nil))))) a_nil)))))))
    (ss_cons (s_fzv 5 (s_for po0 rfl (i_range1 rfl T.m_range (a_cons (e_if (t_val (e_var (pv 3))) (e_op op_addT (d_addT (mkF_ok _)) e_int (e_call (ok_law_take T) (hr.mono (by decide)) rfl T.g_law_take T.F_law_take.kp T.b_law_take tk0 (a_cons (e_var (pv 0)) (a_cons e_int a_nil)))) (e_op op_addT (d_addT (mkF_ok _)) e_int (e_call (ok_law_take T) (hr.mono (by decide)) rfl T.g_law_take T.F_law_take.kp T.b_law_take tk0 (a_cons (e_var (pv 0)) (a_cons (e_var (pv 1)) a_nil))))) a_nil)) (g_name (pg_name (i := 7) sc_law_any_sheet.nd rfl (Or.inl rfl))) (ss_cons (s_set (i := 9) sc_law_any_sheet.nd rfl (Or.inl rfl) (e_op op_addT (d_addT (mkF_ok _)) (e_lst (mkF_ok _) (a_cons e_str (a_cons e_str (a_cons e_str a_nil)))) (e_op op_mulB (d_mulB (mkF_ok _)) (e_lst (mkM_ok _) (a_cons e_str a_nil)) (e_callTy call_int1 d_int rfl T.m_int bt_int (a_cons (e_cmp op_ltA d_ord (e_callB call_lenA d_len_ rfl T.m_len bt_len (a_cons (e_live (j := 5) (own := [("cell", 10)]) (mkF_ok _) rfl sc_law_any_sheet.nd (pv 5) (blkOk_by (own := [("cell", 10)]) (N := ["draw", "most", "deep", "is_wide", "inputs", "cells", "names", "k", "low", "words", "cell"]) (sc := defScope s_law_any_sheet) (by decide +kernel)) (mono_name) (tg_name) (fun _ _ _ _ _ => pg_name (i := 10) sc_law_any_sheet.nd rfl (Or.inl rfl)) (W1 := W0) (fun _ _ _ _ _ => (ts_one (t_cmp (op_eqE hr.units) (d_nil d_eq) (bools_nil bools_eq) (e_ix (ix_all (hu_of hr)) d_ix (e_var (pv 10)) e_int) e_str))) (W2 := W0) (fun _ _ _ _ _ => (e_var (pv 10)))) a_nil)) e_int) a_nil)))))
    (ss_one (s_expr (e_bm PySem.F.plainAttrs_list PySem.F.slot_list_append PySem.F.type_list_append mt_append m_append (e_var (pv 5)) (a_cons (e_call (ok_law_any_cell T) (hr.mono (by decide)) rfl T.g_law_any_cell T.F_law_any_cell.kp T.b_law_any_cell tk0 (a_cons (e_var (pv 0)) (a_cons (e_var (pv 6)) (a_cons (e_if (t_val (e_var (pv 3))) e_int (e_var (pv 2))) (a_cons (e_call (ok_law_pick T) (hr.mono (by decide)) rfl T.g_law_pick T.F_law_pick.kp T.b_law_pick tk0 (a_cons (e_var (pv 0)) (a_cons (e_var (pv 9)) a_nil))) a_nil))))) a_nil)))))))
    (ss_one (s_ret (e_tup (a_cons e_str (a_cons (e_callTy call_tupleA d_tuple rfl T.m_tuple bt_tuple (a_cons (e_var (pv 4)) a_nil)) (a_cons (e_callTy call_tupleA d_tuple rfl T.m_tuple bt_tuple (a_cons (e_var (pv 5)) a_nil)) a_nil))))))))))
theorem ok_law_kept (T : Txt K mg A) : FnOk P w K mg base (L2.CX P w) 1 A.f_law_kept A.d_law_kept [] (spM K 0 (r_law_kept A)) := by
  refine fn_ok (k := 0) T.F_law_kept sc_law_kept fun cdv A' outer s H E hr => ?_
  have tk0 : Takes (cxOf (L2.CX P w) P w K mg base ["found"] "_law_kept" (defScope s_law_kept) A.f_law_kept cdv A' outer s H E) (Wd E) := takes_of rfl rfl rfl rfl
  have po0 : PassesOwn (model P w) (cxOf (L2.CX P w) P w K mg base ["found"] "_law_kept" (defScope s_law_kept) A.f_law_kept cdv A' outer s H E).A (cxOf (L2.CX P w) P w K mg base ["found"] "_law_kept" (defScope s_law_kept) A.f_law_kept cdv A' outer s H E).env (cxOf (L2.CX P w) P w K mg base ["found"] "_law_kept" (defScope s_law_kept) A.f_law_kept cdv A' outer s H E).xe := passes_of rfl
  exact (ss_cons (s_set (i := 0) sc_law_kept.nd rfl (Or.inl rfl) (e_lst (mkF_ok _) (a_cons e_str (a_cons e_str (a_cons e_str (a_cons e_str (a_cons e_str (a_cons e_str (a_cons e_str (a_cons e_str (a_cons e_str (a_cons e_str (a_cons e_str (a_cons e_str (a_cons e_str a_nil)))))))))))))))
    (ss_one (s_ret (e_op op_addT (d_addT (mkF_ok _)) (e_var (pv 0)) (e_lst (mkF_ok _) (a_cons e_str (a_cons e_str (a_cons e_str (a_cons e_str (a_cons e_str (a_cons e_str (a_cons e_str (a_cons e_str a_nil)))))))))))))
theorem ok_law_is_small (T : Txt K mg A) : FnOk P w K mg base (L2.CX P w) 1 A.f_law_is_small A.d_law_is_small ["word"] (spM K 1 (r_law_is_small A)) := by
  refine fn_ok (k := 0) T.F_law_is_small sc_law_is_small fun cdv A' outer s H E hr => ?_
  have tk0 : Takes (cxOf (L2.CX P w) P w K mg base ["word", "letter"] "_law_is_small" (defScope s_law_is_small) A.f_law_is_small cdv A' outer s H E) (Wd E) := takes_of rfl rfl rfl rfl
  have po0 : PassesOwn (model P w) (cxOf (L2.CX P w) P w K mg base ["word", "letter"] "_law_is_small" (defScope s_law_is_small) A.f_law_is_small cdv A' outer s H E).A (cxOf (L2.CX P w) P w K mg base ["word", "letter"] "_law_is_small" (defScope s_law_is_small) A.f_law_is_small cdv A' outer s H E).env (cxOf (L2.CX P w) P w K mg base ["word", "letter"] "_law_is_small" (defScope s_law_is_small) A.f_law_is_small cdv A' outer s H E).xe := passes_of rfl
  exact (ss_one (s_ret (e_and (e_cmp (op_neE hr.units) (d_nil d_ne) (e_var (pv 0)) e_str) (e_one (e_cmp (op_eqE hr.units) (d_nil d_eq) (e_comp (own := [("letter", 1)]) (mkF_ok _) rfl sc_law_is_small.nd (i_chars (e_var (pv 0))) (blkOk_by (own := [("letter", 1)]) (N := ["word", "letter"]) (sc := defScope s_law_is_small) (by decide +kernel)) (mono_name) (tg_name) (fun _ _ _ _ _ => pg_name (i := 1) sc_law_is_small.nd rfl (Or.inl rfl)) (W1 := W0) (fun _ _ _ _ _ => (ts_one (t_not (t_chain op_leA op_leA d_ord d_ord bools_ord bools_ord e_str (e_var (pv 1)) e_str)))) (W2 := W0) (fun _ _ _ _ _ => (e_var (pv 1)))) (e_lst (mkF_ok _) a_nil))))))
theorem ok_law_is_name (T : Txt K mg A) : FnOk P w K mg base (L2.CX P w) 2 A.f_law_is_name A.d_law_is_name ["matter"] (spM K 1 (r_law_is_name A)) := by
  refine fn_ok (k := 1) T.F_law_is_name sc_law_is_name fun cdv A' outer s H E hr => ?_
  have tk0 : Takes (cxOf (L2.CX P w) P w K mg base ["matter"] "_law_is_name" (defScope s_law_is_name) A.f_law_is_name cdv A' outer s H E) (Wd E) := takes_of rfl rfl rfl rfl
  have po0 : PassesOwn (model P w) (cxOf (L2.CX P w) P w K mg base ["matter"] "_law_is_name" (defScope s_law_is_name) A.f_law_is_name cdv A' outer s H E).A (cxOf (L2.CX P w) P w K mg base ["matter"] "_law_is_name" (defScope s_law_is_name) A.f_law_is_name cdv A' outer s H E).env (cxOf (L2.CX P w) P w K mg base ["matter"] "_law_is_name" (defScope s_law_is_name) A.f_law_is_name cdv A' outer s H E).xe := passes_of rfl
  exact (ss_one (s_ret (e_and (e_callB call_isiA (d_isi T.sub_ok T.ex_ok) rfl T.m_isinstance bt_isinstance (a_cons (e_var (pv 0)) (a_cons (e_const (pe_bltn (v := .ty "str") rfl T.m_str bt_str rfl) fun _ => rfl) a_nil))) (e_and (e_cmp op_ltA d_ord (e_callB call_lenA d_len_ rfl T.m_len bt_len (a_cons (e_var (pv 0)) a_nil)) e_int) (e_and (e_call (ok_law_is_small T) (hr.mono (by decide)) rfl T.g_law_is_small T.F_law_is_small.kp T.b_law_is_small tk0 (a_cons (e_var (pv 0)) a_nil)) (e_one (e_cmp (op_notInC (hu65 hr)) d_inC (e_var (pv 0)) (e_op op_addT (d_addT (mkF_ok _)) (e_call0 (ok_law_kept T) (hr.mono (by decide)) rfl T.g_law_kept T.F_law_kept.kp T.b_law_kept tk0) (e_lst (mkF_ok _) (a_cons e_str (a_cons e_str a_nil)))))))))))
theorem ok_law_table (T : Txt K mg A) : FnOk P w K mg base (L2.CX P w) 1 A.f_law_table A.d_law_table [] (spM K 0 (r_law_table A)) := by
  refine fn_ok (k := 0) T.F_law_table sc_law_table fun cdv A' outer s H E hr => ?_
  have tk0 : Takes (cxOf (L2.CX P w) P w K mg base ["table", "word"] "_law_table" (defScope s_law_table) A.f_law_table cdv A' outer s H E) (Wd E) := takes_of rfl rfl rfl rfl
  have po0 : PassesOwn (model P w) (cxOf (L2.CX P w) P w K mg base ["table", "word"] "_law_table" (defScope s_law_table) A.f_law_table cdv A' outer s H E).A (cxOf (L2.CX P w) P w K mg base ["table", "word"] "_law_table" (defScope s_law_table) A.f_law_table cdv A' outer s H E).env (cxOf (L2.CX P w) P w K mg base ["table", "word"] "_law_table" (defScope s_law_table) A.f_law_table cdv A' outer s H E).xe := passes_of rfl
  exact (ss_cons (s_set (i := 0) sc_law_table.nd rfl (Or.inl rfl) (e_disp (mkDM_ok _) (dp_cons (.inr "E") pe_str (e_disp (mkDM_ok _) (dp_cons (.inr "number") pe_str (e_lst (mkF_ok _) (a_cons e_str a_nil)) (dp_cons (.inr "name") pe_str (e_lst (mkF_ok _) (a_cons e_str a_nil)) (dp_cons (.inr "item") pe_str (e_lst (mkF_ok _) (a_cons e_str (a_cons e_str a_nil))) (dp_cons (.inr "place") pe_str (e_lst (mkF_ok _) a_nil) (dp_cons (.inr "at") pe_str (e_lst (mkF_ok _) (a_cons e_str (a_cons e_str (a_cons e_str a_nil)))) (dp_cons (.inr "not") pe_str (e_lst (mkF_ok _) (a_cons e_str a_nil)) dp_nil)))))) (by decide)) dp_nil) (by decide)))
    (ss_cons (s_for po0 rfl (i_seq (e_lst (mkF_ok _) (a_cons e_str (a_cons e_str (a_cons e_str (a_cons e_str (a_cons e_str (a_cons e_str (a_cons e_str (a_cons e_str (a_cons e_str (a_cons e_str a_nil)))))))))))) (g_name (pg_name (i := 1) sc_law_table.nd rfl (Or.inl rfl))) (ss_one (s_asg (e_lst (mkF_ok _) (a_cons e_str (a_cons e_str a_nil))) (g_sub (W := W0) (hu_of hr) (e_ix (ix_all (hu_of hr)) d_ix (e_var (pv 0)) e_str) (e_var (pv 1))))))
    (ss_cons (s_for po0 rfl (i_seq (e_lst (mkF_ok _) (a_cons e_str (a_cons e_str (a_cons e_str a_nil))))) (g_name (pg_name (i := 1) sc_law_table.nd rfl (Or.inl rfl))) (ss_one (s_asg (e_lst (mkF_ok _) (a_cons e_str a_nil)) (g_sub (W := W0) (hu_of hr) (e_ix (ix_all (hu_of hr)) d_ix (e_var (pv 0)) e_str) (e_var (pv 1))))))
    (ss_cons (s_asg (e_tup (a_cons (e_lst (mkF_ok _) (a_cons e_str (a_cons e_str (a_cons e_str a_nil)))) (a_cons (e_lst (mkF_ok _) (a_cons e_str (a_cons (e_lst (mkF_ok _) (a_cons e_str (a_cons e_int (a_cons e_int a_nil)))) (a_cons e_str a_nil)))) a_nil))) (g_tup rfl (gs_cons (g_sub (W := W0) (hu_of hr) (e_ix (ix_all (hu_of hr)) d_ix (e_var (pv 0)) e_str) e_str) (gs_cons (g_sub (W := W0) (hu_of hr) (e_ix (ix_all (hu_of hr)) d_ix (e_var (pv 0)) e_str) e_str) gs_nil))))
    (ss_cons (s_asg (e_disp (mkDF_ok _) (dp_cons (.inr "input") pe_str (e_lst (mkF_ok _) (a_cons e_str (a_cons e_str (a_cons e_str a_nil)))) dp_nil) (by decide)) (g_sub (W := W0) (hu_of hr) (e_var (pv 0)) e_str))
    (ss_cons (s_asg (e_disp (mkDF_ok _) (dp_cons (.inr "cell") pe_str (e_lst (mkF_ok _) (a_cons e_str (a_cons e_str a_nil))) (dp_cons (.inr "row") pe_str (e_lst (mkF_ok _) (a_cons e_str (a_cons e_str (a_cons e_str a_nil)))) (dp_cons (.inr "settle") pe_str (e_lst (mkF_ok _) (a_cons e_str (a_cons e_str (a_cons e_str (a_cons e_str (a_cons e_str a_nil)))))) dp_nil))) (by decide)) (g_sub (W := W0) (hu_of hr) (e_var (pv 0)) e_str))
    (ss_cons (s_asg (e_disp (mkDF_ok _) (dp_cons (.inr "sheet") pe_str (e_lst (mkF_ok _) (a_cons (e_lst (mkF_ok _) (a_cons e_str (a_cons e_int (a_cons e_int a_nil)))) (a_cons (e_lst (mkF_ok _) (a_cons e_str (a_cons e_int (a_cons e_int a_nil)))) a_nil))) dp_nil) (by decide)) (g_sub (W := W0) (hu_of hr) (e_var (pv 0)) e_str))
    (ss_one (s_ret (e_var (pv 0)))))))))))
theorem ok_g_law_is_free (T : Txt K mg A) : ∀ n : Nat, (FnOk P w K mg base (L2.CX P w) (1 + n) A.f_law_is_free A.d_law_is_free ["tree"] (spM K 1 (r_law_is_free A n)))
  | 0 => fn_none rfl
  | n + 1 => by
    have ih := ok_g_law_is_free T n
    · rw [r_law_is_free_eq]
      refine fn_ok (k := 1 + n) T.F_law_is_free sc_law_is_free fun cdv A' outer s H E hr => ?_
      have tk0 : Takes (cxOf (L2.CX P w) P w K mg base ["tree", "part"] "_law_is_free" (defScope s_law_is_free) A.f_law_is_free cdv A' outer s H E) (Wd E) := takes_of rfl rfl rfl rfl
      have po0 : PassesOwn (model P w) (cxOf (L2.CX P w) P w K mg base ["tree", "part"] "_law_is_free" (defScope s_law_is_free) A.f_law_is_free cdv A' outer s H E).A (cxOf (L2.CX P w) P w K mg base ["tree", "part"] "_law_is_free" (defScope s_law_is_free) A.f_law_is_free cdv A' outer s H E).env (cxOf (L2.CX P w) P w K mg base ["tree", "part"] "_law_is_free" (defScope s_law_is_free) A.f_law_is_free cdv A' outer s H E).xe := passes_of rfl
      exact (ss_cons (s_if (t_not (t_val (e_callB call_isiA (d_isi T.sub_ok T.ex_ok) rfl T.m_isinstance bt_isinstance (a_cons (e_var (pv 0)) (a_cons (e_const (pe_bltn (v := .ty "tuple") rfl T.m_tuple bt_tuple rfl) fun _ => rfl) a_nil))))) (ss_one (s_ret e_bl)) ss_nil)
      (ss_one (s_ret (e_and (e_cmp (op_notInC (hu65 hr)) d_inC (e_sl sl_all (d_sl (mkF_ok _)) (e_var (pv 0)) o_none (o_some e_int)) (e_lst (mkF_ok _) (a_cons (e_tup (a_cons e_str a_nil)) (a_cons (e_tup (a_cons e_str a_nil)) a_nil)))) (e_one (e_cmp (op_eqE hr.units) (d_nil d_eq) (e_comp (own := [("part", 1)]) (mkF_ok _) rfl sc_law_is_free.nd (i_seq (e_var (pv 0))) (blkOk_by (own := [("part", 1)]) (N := ["tree", "part"]) (sc := defScope s_law_is_free) (by decide +kernel)) (mono_name) (tg_name) (fun _ _ _ _ _ => pg_name (i := 1) sc_law_is_free.nd rfl (Or.inl rfl)) (W1 := W0) (fun _ _ _ _ _ => (ts_one (t_not (t_val (e_call ih hr rfl T.g_law_is_free T.F_law_is_free.kp T.b_law_is_free takes0 (a_cons (e_var (pv 1)) a_nil)))))) (W2 := W0) (fun _ _ _ _ _ => (e_var (pv 1)))) (e_lst (mkF_ok _) a_nil)))))))
theorem ok_law_is_free (T : Txt K mg A) : FnOk P w K mg base (L2.CX P w) 61 A.f_law_is_free A.d_law_is_free ["tree"] (spM K 1 (r_law_is_free A 60)) := (ok_g_law_is_free T 60)
theorem ok_law_rises (T : Txt K mg A) : FnOk P w K mg base (L2.CX P w) 1 A.f_law_rises A.d_law_rises ["matter"] (spM K 1 (r_law_rises A)) := by
  refine fn_ok (k := 0) T.F_law_rises sc_law_rises fun cdv A' outer s H E hr => ?_
  have tk0 : Takes (cxOf (L2.CX P w) P w K mg base ["matter", "k"] "_law_rises" (defScope s_law_rises) A.f_law_rises cdv A' outer s H E) (Wd E) := takes_of rfl rfl rfl rfl
  have po0 : PassesOwn (model P w) (cxOf (L2.CX P w) P w K mg base ["matter", "k"] "_law_rises" (defScope s_law_rises) A.f_law_rises cdv A' outer s H E).A (cxOf (L2.CX P w) P w K mg base ["matter", "k"] "_law_rises" (defScope s_law_rises) A.f_law_rises cdv A' outer s H E).env (cxOf (L2.CX P w) P w K mg base ["matter", "k"] "_law_rises" (defScope s_law_rises) A.f_law_rises cdv A' outer s H E).xe := passes_of rfl
  exact (ss_one (s_ret (e_cmp (op_eqE hr.units) (d_nil d_eq) (e_comp (own := [("k", 1)]) (mkF_ok _) rfl sc_law_rises.nd (i_range2 rfl T.m_range (a_cons e_int (a_cons (e_callB call_lenA d_len_ rfl T.m_len bt_len (a_cons (e_var (pv 0)) a_nil)) a_nil))) (blkOk_by (own := [("k", 1)]) (N := ["matter", "k"]) (sc := defScope s_law_rises) (by decide +kernel)) (mono_name) (tg_name) (fun _ _ _ _ _ => pg_name (i := 1) sc_law_rises.nd rfl (Or.inl rfl)) (W1 := W0) (fun _ _ _ _ _ => (ts_one (t_cmp op_leA d_ord bools_ord (e_ix (ix_all (hu_of hr)) d_ix (e_ix (ix_all (hu_of hr)) d_ix (e_var (pv 0)) (e_var (pv 1))) e_int) (e_ix (ix_all (hu_of hr)) d_ix (e_ix (ix_all (hu_of hr)) d_ix (e_var (pv 0)) (e_op op_sub d_sub (e_var (pv 1)) e_int)) e_int)))) (W2 := W0) (fun _ _ _ _ _ => (e_var (pv 1)))) (e_lst (mkF_ok _) a_nil))))
theorem ok_g_law_all_fit (T : Txt K mg A) : ∀ n : Nat, (FnOk P w K mg base (L2.CX P w) (62 + n) A.f_law_all_fit A.d_law_all_fit ["table", "sorts", "parts"] (spM K 3 (r_law_all_fit A n))) ∧ (FnOk P w K mg base (L2.CX P w) (62 + n) A.f_law_fits A.d_law_fits ["table", "sort", "matter"] (spM K 3 (r_law_fits A n)))
  | 0 => ⟨fn_none rfl, fn_none rfl⟩
  | n + 1 => by
    have ih := ok_g_law_all_fit T n
    refine ⟨?_, ?_⟩
    · rw [r_law_all_fit_eq]
      refine fn_ok (k := 62 + n) T.F_law_all_fit sc_law_all_fit fun cdv A' outer s H E hr => ?_
      have tk0 : Takes (cxOf (L2.CX P w) P w K mg base ["table", "sorts", "parts", "k"] "_law_all_fit" (defScope s_law_all_fit) A.f_law_all_fit cdv A' outer s H E) (Wd E) := takes_of rfl rfl rfl rfl
      have po0 : PassesOwn (model P w) (cxOf (L2.CX P w) P w K mg base ["table", "sorts", "parts", "k"] "_law_all_fit" (defScope s_law_all_fit) A.f_law_all_fit cdv A' outer s H E).A (cxOf (L2.CX P w) P w K mg base ["table", "sorts", "parts", "k"] "_law_all_fit" (defScope s_law_all_fit) A.f_law_all_fit cdv A' outer s H E).env (cxOf (L2.CX P w) P w K mg base ["table", "sorts", "parts", "k"] "_law_all_fit" (defScope s_law_all_fit) A.f_law_all_fit cdv A' outer s H E).xe := passes_of rfl
      exact (ss_one (s_ret (e_and (e_cmp (op_eqE hr.units) (d_nil d_eq) (e_callB call_lenA d_len_ rfl T.m_len bt_len (a_cons (e_var (pv 1)) a_nil)) (e_callB call_lenA d_len_ rfl T.m_len bt_len (a_cons (e_var (pv 2)) a_nil))) (e_one (e_cmp (op_eqE hr.units) (d_nil d_eq) (e_comp (own := [("k", 3)]) (mkF_ok _) rfl sc_law_all_fit.nd (i_range1 rfl T.m_range (a_cons (e_callB call_lenA d_len_ rfl T.m_len bt_len (a_cons (e_var (pv 1)) a_nil)) a_nil)) (blkOk_by (own := [("k", 3)]) (N := ["table", "sorts", "parts", "k"]) (sc := defScope s_law_all_fit) (by decide +kernel)) (mono_name) (tg_name) (fun _ _ _ _ _ => pg_name (i := 3) sc_law_all_fit.nd rfl (Or.inl rfl)) (W1 := W0) (fun _ _ _ _ _ => (ts_one (t_not (t_val (e_call ih.2 hr rfl T.g_law_fits T.F_law_fits.kp T.b_law_fits takes0 (a_cons (e_var (pv 0)) (a_cons (e_ix (ix_all (hu_of hr)) d_ix (e_var (pv 1)) (e_var (pv 3))) (a_cons (e_ix (ix_all (hu_of hr)) d_ix (e_var (pv 2)) (e_var (pv 3))) a_nil)))))))) (W2 := W0) (fun _ _ _ _ _ => (e_var (pv 3)))) (e_lst (mkF_ok _) a_nil))))))
    · rw [r_law_fits_eq]
      refine fn_ok (k := 62 + n) T.F_law_fits sc_law_fits fun cdv A' outer s H E hr => ?_
      have tk0 : Takes (cxOf (L2.CX P w) P w K mg base ["table", "sort", "matter", "part", "is_int_v"] "_law_fits" (defScope s_law_fits) A.f_law_fits cdv A' outer s H E) (Wd E) := takes_of rfl rfl rfl rfl
      have po0 : PassesOwn (model P w) (cxOf (L2.CX P w) P w K mg base ["table", "sort", "matter", "part", "is_int_v"] "_law_fits" (defScope s_law_fits) A.f_law_fits cdv A' outer s H E).A (cxOf (L2.CX P w) P w K mg base ["table", "sort", "matter", "part", "is_int_v"] "_law_fits" (defScope s_law_fits) A.f_law_fits cdv A' outer s H E).env (cxOf (L2.CX P w) P w K mg base ["table", "sort", "matter", "part", "is_int_v"] "_law_fits" (defScope s_law_fits) A.f_law_fits cdv A' outer s H E).xe := passes_of rfl
      exact (ss_cons (s_if (t_val (e_callB call_isiA (d_isi T.sub_ok T.ex_ok) rfl T.m_isinstance bt_isinstance (a_cons (e_var (pv 1)) (a_cons (e_const (pe_bltn (v := .ty "list") rfl T.m_list bt_list rfl) fun _ => rfl) a_nil)))) (ss_cons (s_if (w_pt (w_or (t_not (t_val (e_callB call_isiA (d_isi T.sub_ok T.ex_ok) rfl T.m_isinstance bt_isinstance (a_cons (e_var (pv 2)) (a_cons (e_const (pe_bltn (v := .ty "tuple") rfl T.m_tuple bt_tuple rfl) fun _ => rfl) a_nil))))) (w_or1 (t_not (t_chain op_leA op_leA d_ord d_ord bools_ord bools_ord (e_ix (ix_all (hu_of hr)) d_ix (e_var (pv 1)) e_int) (e_callB call_lenA d_len_ rfl T.m_len bt_len (a_cons (e_var (pv 2)) a_nil)) (e_ix (ix_all (hu_of hr)) d_ix (e_var (pv 1)) e_int)))))) (ss_one (s_ret e_bl)) ss_nil)
      (ss_one (s_ret (e_and (e_cmp (op_eqE hr.units) (d_nil d_eq) (e_comp (own := [("part", 3)]) (mkF_ok _) rfl sc_law_fits.nd (i_seq (e_var (pv 2))) (blkOk_by (own := [("part", 3)]) (N := ["table", "sort", "matter", "part", "is_int_v"]) (sc := defScope s_law_fits) (by decide +kernel)) (mono_name) (tg_name) (fun _ _ _ _ _ => pg_name (i := 3) sc_law_fits.nd rfl (Or.inl rfl)) (W1 := W0) (fun _ _ _ _ _ => (ts_one (t_not (t_val (e_call ih.2 hr rfl T.g_law_fits T.F_law_fits.kp T.b_law_fits takes0 (a_cons (e_var (pv 0)) (a_cons (e_ix (ix_all (hu_of hr)) d_ix (e_var (pv 1)) e_int) (a_cons (e_var (pv 3)) a_nil)))))))) (W2 := W0) (fun _ _ _ _ _ => (e_var (pv 3)))) (e_lst (mkF_ok _) a_nil)) (e_one (e_or (e_cmp (op_neE hr.units) (d_nil d_ne) (e_ix (ix_all (hu_of hr)) d_ix (e_var (pv 1)) e_int) e_str) (e_one (e_call (ok_law_rises T) (hr.mono (by omega)) rfl T.g_law_rises T.F_law_rises.kp T.b_law_rises tk0 (a_cons (e_var (pv 2)) a_nil))))))))) ss_nil)
      (ss_cons (s_if (t_cmp (op_inC (hu65 hr)) d_inC bools_inC (e_var (pv 1)) (e_lst (mkF_ok _) (a_cons e_str (a_cons e_str a_nil)))) (ss_cons (s_set (i := 4) sc_law_fits.nd rfl (Or.inl rfl) (e_and (e_callB call_isiA (d_isi T.sub_ok T.ex_ok) rfl T.m_isinstance bt_isinstance (a_cons (e_var (pv 2)) (a_cons (e_const (pe_bltn (v := .ty "int") rfl T.m_int bt_int rfl) fun _ => rfl) a_nil))) (e_one (e_not (e_callB call_isiA (d_isi T.sub_ok T.ex_ok) rfl T.m_isinstance bt_isinstance (a_cons (e_var (pv 2)) (a_cons (e_const (pe_bltn (v := .ty "bool") rfl T.m_bool bt_bool rfl) fun _ => rfl) a_nil)))))))
      (ss_one (s_ret (e_and (e_var (pv 4)) (e_one (e_if (t_cmp (op_eqE hr.units) (d_nil d_eq) (bools_nil bools_eq) (e_var (pv 1)) e_str) (e_chain op_leA op_leA d_ord d_ord bools_ord bools_ord (e_un un_neg d_neg e_int) (e_var (pv 2)) e_int) (e_chain op_leA op_leA d_ord d_ord bools_ord bools_ord e_int (e_var (pv 2)) e_int))))))) ss_nil)
      (ss_cons (s_if (t_cmp (op_eqE hr.units) (d_nil d_eq) (bools_nil bools_eq) (e_var (pv 1)) e_str) (ss_one (s_ret (e_call (ok_law_is_name T) (hr.mono (by omega)) rfl T.g_law_is_name T.F_law_is_name.kp T.b_law_is_name tk0 (a_cons (e_var (pv 2)) a_nil)))) ss_nil)
      (ss_cons (s_if (w_pt (w_or (t_not (t_val (e_callB call_isiA (d_isi T.sub_ok T.ex_ok) rfl T.m_isinstance bt_isinstance (a_cons (e_var (pv 2)) (a_cons (e_const (pe_bltn (v := .ty "tuple") rfl T.m_tuple bt_tuple rfl) fun _ => rfl) a_nil))))) (w_or1 (t_cmp (op_eqE hr.units) (d_nil d_eq) (bools_nil bools_eq) (e_callB call_lenA d_len_ rfl T.m_len bt_len (a_cons (e_var (pv 2)) a_nil)) e_int)))) (ss_one (s_ret e_bl)) ss_nil)
      (ss_cons (s_if (t_cmp (op_eqE hr.units) (d_nil d_eq) (bools_nil bools_eq) (e_var (pv 1)) e_str) (ss_one (s_ret (e_call ih.1 hr rfl T.g_law_all_fit T.F_law_all_fit.kp T.b_law_all_fit tk0 (a_cons (e_var (pv 0)) (a_cons (e_lst (mkF_ok _) (a_cons e_str (a_cons e_str a_nil))) (a_cons (e_callTy call_listA (d_list (mkF_ok _)) rfl T.m_list bt_list (a_cons (e_var (pv 2)) a_nil)) a_nil)))))) ss_nil)
      (ss_cons (s_if (t_cmp (op_eqE hr.units) (d_nil d_eq) (bools_nil bools_eq) (e_var (pv 1)) e_str) (ss_one (s_ret (e_and (e_call ih.2 hr rfl T.g_law_fits T.F_law_fits.kp T.b_law_fits tk0 (a_cons (e_var (pv 0)) (a_cons e_str (a_cons (e_var (pv 2)) a_nil)))) (e_one (e_call (ok_law_is_free T) (hr.mono (by omega)) rfl T.g_law_is_free T.F_law_is_free.kp T.b_law_is_free tk0 (a_cons (e_var (pv 2)) a_nil)))))) ss_nil)
      (ss_cons (s_if (w_pt (w_or (t_not (t_val (e_callB call_isiA (d_isi T.sub_ok T.ex_ok) rfl T.m_isinstance bt_isinstance (a_cons (e_ix (ix_all (hu_of hr)) d_ix (e_var (pv 2)) e_int) (a_cons (e_const (pe_bltn (v := .ty "str") rfl T.m_str bt_str rfl) fun _ => rfl) a_nil))))) (w_or1 (t_cmp (op_notInC (hu65 hr)) d_inC bools_inC (e_ix (ix_all (hu_of hr)) d_ix (e_var (pv 2)) e_int) (e_ix (ix_all (hu_of hr)) d_ix (e_var (pv 0)) (e_var (pv 1))))))) (ss_one (s_ret e_bl)) ss_nil)
      (ss_cons (s_if (t_not (t_val (e_call ih.1 hr rfl T.g_law_all_fit T.F_law_all_fit.kp T.b_law_all_fit tk0 (a_cons (e_var (pv 0)) (a_cons (e_ix (ix_all (hu_of hr)) d_ix (e_ix (ix_all (hu_of hr)) d_ix (e_var (pv 0)) (e_var (pv 1))) (e_ix (ix_all (hu_of hr)) d_ix (e_var (pv 2)) e_int)) (a_cons (e_callTy call_listA (d_list (mkF_ok _)) rfl T.m_list bt_list (a_cons (e_sl sl_all (d_sl (mkF_ok _)) (e_var (pv 2)) (o_some e_int) o_none) a_nil)) a_nil)))))) (ss_one (s_ret e_bl)) ss_nil)
      (ss_one (s_ret (e_or (e_cmp (op_notInC (hu65 hr)) d_inC (e_ix (ix_all (hu_of hr)) d_ix (e_var (pv 2)) e_int) (e_lst (mkF_ok _) (a_cons e_str (a_cons e_str a_nil)))) (e_one (e_cmp op_leA d_ord (e_ix (ix_all (hu_of hr)) d_ix (e_var (pv 2)) e_int) (e_ix (ix_all (hu_of hr)) d_ix (e_var (pv 2)) e_int))))))))))))))
theorem ok_law_all_fit (T : Txt K mg A) : FnOk P w K mg base (L2.CX P w) 172 A.f_law_all_fit A.d_law_all_fit ["table", "sorts", "parts"] (spM K 3 (r_law_all_fit A 110)) := (ok_g_law_all_fit T 110).1
theorem ok_law_fits (T : Txt K mg A) : FnOk P w K mg base (L2.CX P w) 172 A.f_law_fits A.d_law_fits ["table", "sort", "matter"] (spM K 3 (r_law_fits A 110)) := (ok_g_law_all_fit T 110).2
theorem ok_law_odd (T : Txt K mg A) : FnOk P w K mg base (L2.CX P w) 4 A.f_law_odd A.d_law_odd ["draw"] (spM K 1 (r_law_odd A)) := by
  refine fn_ok (k := 3) T.F_law_odd sc_law_odd fun cdv A' outer s H E hr => ?_
  have tk0 : Takes (cxOf (L2.CX P w) P w K mg base ["draw", "some"] "_law_odd" (defScope s_law_odd) A.f_law_odd cdv A' outer s H E) (Wd E) := takes_of rfl rfl rfl rfl
  have po0 : PassesOwn (model P w) (cxOf (L2.CX P w) P w K mg base ["draw", "some"] "_law_odd" (defScope s_law_odd) A.f_law_odd cdv A' outer s H E).A (cxOf (L2.CX P w) P w K mg base ["draw", "some"] "_law_odd" (defScope s_law_odd) A.f_law_odd cdv A' outer s H E).env (cxOf (L2.CX P w) P w K mg base ["draw", "some"] "_law_odd" (defScope s_law_odd) A.f_law_odd cdv A' outer s H E).xe := passes_of rfl
  exact (ss_cons (s_set (i := 1) sc_law_odd.nd rfl (Or.inl rfl) (e_lst (mkF_ok _) (a_cons e_non (a_cons e_bl (a_cons e_bl (a_cons e_int (a_cons e_int (a_cons e_int (a_cons e_int (a_cons (e_un un_neg d_neg e_int) (a_cons e_int (a_cons e_int (a_cons (e_un un_neg d_neg e_int) (a_cons e_str (a_cons e_str (a_cons e_str (a_cons e_str (a_cons e_str (a_cons e_str (a_cons e_str (a_cons e_str (a_cons (e_lst (mkF_ok _) a_nil) (a_cons (e_tup a_nil) (a_cons (e_dict0 (mkDF_ok _)) (a_cons (e_tup (a_cons e_str a_nil)) (a_cons (e_lst (mkF_ok _) (a_cons e_str a_nil)) a_nil))))))))))))))))))))))))))
    (ss_cons (s_set (i := 1) sc_law_odd.nd rfl (Or.inl rfl) (e_op op_addT (d_addT (mkF_ok _)) (e_var (pv 1)) (e_lst (mkF_ok _) (a_cons (e_tup (a_cons e_str a_nil)) (a_cons (e_tup (a_cons e_str (a_cons e_int a_nil))) (a_cons (e_tup (a_cons e_str (a_cons e_bl a_nil))) (a_cons (e_tup (a_cons e_str (a_cons e_int a_nil))) (a_cons (e_tup (a_cons e_str (a_cons (e_un un_neg d_neg e_int) a_nil))) (a_cons (e_tup (a_cons e_str (a_cons e_str (a_cons e_int a_nil)))) (a_cons (e_tup (a_cons e_str (a_cons e_str (a_cons e_int a_nil)))) (a_cons (e_tup (a_cons e_str (a_cons e_str a_nil))) a_nil)))))))))))
    (ss_one (s_ret (e_call (ok_law_pick T) (hr.mono (by decide)) rfl T.g_law_pick T.F_law_pick.kp T.b_law_pick tk0 (a_cons (e_var (pv 0)) (a_cons (e_op op_addT (d_addT (mkF_ok _)) (e_var (pv 1)) (e_lst (mkF_ok _) (a_cons (e_tup (a_cons e_str (a_cons e_str (a_cons e_int (a_cons (e_tup (a_cons e_str a_nil)) a_nil))))) (a_cons (e_tup (a_cons e_str (a_cons (e_tup (a_cons e_str a_nil)) (a_cons (e_tup (a_cons (e_tup (a_cons e_int (a_cons (e_tup (a_cons e_str a_nil)) a_nil))) a_nil)) (a_cons (e_tup (a_cons e_str a_nil)) a_nil))))) (a_cons (e_tup (a_cons e_str (a_cons e_str (a_cons e_int (a_cons e_int a_nil))))) (a_cons (e_tup (a_cons e_int (a_cons (e_tup (a_cons e_str (a_cons e_int a_nil))) a_nil))) a_nil)))))) a_nil)))))))
theorem ok_g_law_spoilt (T : Txt K mg A) : ∀ n : Nat, (FnOk P w K mg base (L2.CX P w) (5 + n) A.f_law_spoilt A.d_law_spoilt ["draw", "matter", "spare"] (spM K 3 (r_law_spoilt A n)))
  | 0 => fn_none rfl
  | n + 1 => by
    have ih := ok_g_law_spoilt T n
    · rw [r_law_spoilt_eq]
      refine fn_ok (k := 5 + n) T.F_law_spoilt sc_law_spoilt fun cdv A' outer s H E hr => ?_
      have tk0 : Takes (cxOf (L2.CX P w) P w K mg base ["draw", "matter", "spare", "way", "at"] "_law_spoilt" (defScope s_law_spoilt) A.f_law_spoilt cdv A' outer s H E) (Wd E) := takes_of rfl rfl rfl rfl
      have po0 : PassesOwn (model P w) (cxOf (L2.CX P w) P w K mg base ["draw", "matter", "spare", "way", "at"] "_law_spoilt" (defScope s_law_spoilt) A.f_law_spoilt cdv A' outer s H E).A (cxOf (L2.CX P w) P w K mg base ["draw", "matter", "spare", "way", "at"] "_law_spoilt" (defScope s_law_spoilt) A.f_law_spoilt cdv A' outer s H E).env (cxOf (L2.CX P w) P w K mg base ["draw", "matter", "spare", "way", "at"] "_law_spoilt" (defScope s_law_spoilt) A.f_law_spoilt cdv A' outer s H E).xe := passes_of rfl
      exact (ss_cons (s_if (w_pt (w_or (t_not (t_val (e_callB call_isiA (d_isi T.sub_ok T.ex_ok) rfl T.m_isinstance bt_isinstance (a_cons (e_var (pv 1)) (a_cons (e_const (pe_bltn (v := .ty "tuple") rfl T.m_tuple bt_tuple rfl) fun _ => rfl) a_nil))))) (w_or (t_cmp (op_eqE hr.units) (d_nil d_eq) (bools_nil bools_eq) (e_callB call_lenA d_len_ rfl T.m_len bt_len (a_cons (e_var (pv 1)) a_nil)) e_int) (w_or1 (t_cmp (op_eqE hr.units) (d_nil d_eq) (bools_nil bools_eq) (e_call (ok_law_take T) (hr.mono (by omega)) rfl T.g_law_take T.F_law_take.kp T.b_law_take tk0 (a_cons (e_var (pv 0)) (a_cons e_int a_nil))) e_int))))) (ss_cons (s_set (i := 3) sc_law_spoilt.nd rfl (Or.inl rfl) (e_call (ok_law_take T) (hr.mono (by omega)) rfl T.g_law_take T.F_law_take.kp T.b_law_take tk0 (a_cons (e_var (pv 0)) (a_cons e_int a_nil))))
      (ss_cons (s_if (w_pt (w_and (t_cmp (op_eqE hr.units) (d_nil d_eq) (bools_nil bools_eq) (e_var (pv 3)) e_int) (w_and1 (t_val (e_callB call_isiA (d_isi T.sub_ok T.ex_ok) rfl T.m_isinstance bt_isinstance (a_cons (e_var (pv 1)) (a_cons (e_const (pe_bltn (v := .ty "tuple") rfl T.m_tuple bt_tuple rfl) fun _ => rfl) a_nil))))))) (ss_one (s_ret (e_callTy call_listA (d_list (mkF_ok _)) rfl T.m_list bt_list (a_cons (e_var (pv 1)) a_nil)))) ss_nil)
      (ss_cons (s_if (w_pt (w_and (t_cmp (op_eqE hr.units) (d_nil d_eq) (bools_nil bools_eq) (e_var (pv 3)) e_int) (w_and1 (t_val (e_callB call_isiA (d_isi T.sub_ok T.ex_ok) rfl T.m_isinstance bt_isinstance (a_cons (e_var (pv 1)) (a_cons (e_const (pe_bltn (v := .ty "tuple") rfl T.m_tuple bt_tuple rfl) fun _ => rfl) a_nil))))))) (ss_one (s_ret (e_sl sl_all (d_sl (mkF_ok _)) (e_var (pv 1)) o_none (o_some (e_un un_neg d_neg e_int))))) ss_nil)
      (ss_cons (s_if (w_pt (w_and (t_cmp (op_eqE hr.units) (d_nil d_eq) (bools_nil bools_eq) (e_var (pv 3)) e_int) (w_and1 (t_val (e_callB call_isiA (d_isi T.sub_ok T.ex_ok) rfl T.m_isinstance bt_isinstance (a_cons (e_var (pv 1)) (a_cons (e_const (pe_bltn (v := .ty "tuple") rfl T.m_tuple bt_tuple rfl) fun _ => rfl) a_nil))))))) (ss_one (s_ret (e_op op_addT (d_addT (mkF_ok _)) (e_var (pv 1)) (e_sl sl_all (d_sl (mkF_ok _)) (e_var (pv 1)) (o_some (e_un un_neg d_neg e_int)) o_none)))) ss_nil)
      (ss_one (s_ret (e_if (t_cmp op_ltA d_ord bools_ord (e_var (pv 3)) e_int) (e_call (ok_law_odd T) (hr.mono (by omega)) rfl T.g_law_odd T.F_law_odd.kp T.b_law_odd tk0 (a_cons (e_var (pv 0)) a_nil)) (e_var (pv 2))))))))) ss_nil)
      (ss_cons (s_set (i := 4) sc_law_spoilt.nd rfl (Or.inl rfl) (e_call (ok_law_take T) (hr.mono (by omega)) rfl T.g_law_take T.F_law_take.kp T.b_law_take tk0 (a_cons (e_var (pv 0)) (a_cons (e_callB call_lenA d_len_ rfl T.m_len bt_len (a_cons (e_var (pv 1)) a_nil)) a_nil))))
      (ss_one (s_ret (e_op op_addT (d_addT (mkF_ok _)) (e_op op_addT (d_addT (mkF_ok _)) (e_sl sl_all (d_sl (mkF_ok _)) (e_var (pv 1)) o_none (o_some (e_var (pv 4)))) (e_tup (a_cons (e_call ih hr rfl T.g_law_spoilt T.F_law_spoilt.kp T.b_law_spoilt tk0 (a_cons (e_var (pv 0)) (a_cons (e_ix (ix_all (hu_of hr)) d_ix (e_var (pv 1)) (e_var (pv 4))) (a_cons (e_var (pv 2)) a_nil)))) a_nil))) (e_sl sl_all (d_sl (mkF_ok _)) (e_var (pv 1)) (o_some (e_op op_addT (d_addT (mkF_ok _)) (e_var (pv 4)) e_int)) o_none))))))
theorem ok_law_spoilt (T : Txt K mg A) : FnOk P w K mg base (L2.CX P w) 65 A.f_law_spoilt A.d_law_spoilt ["draw", "matter", "spare"] (spM K 3 (r_law_spoilt A 60)) := (ok_g_law_spoilt T 60)
theorem tab_1 {X : Cx} {A : Ad} (T : Txt X.K X.mg A) (hr : Room 68 X.A) : TabOkK X 1 1 ["thing"] [0] (tb_1 A) := fun f F e => by
  unfold tb_1 at e
  by_cases h : f = A.f_is_expression
  · rw [if_pos h] at e; cases e; subst h; exact ⟨_, _, _, ok_is_expression T, hr.mono (by decide), T.F_is_expression.kp, (kb_0 T.F_is_expression)⟩
  rw [if_neg h] at e
  by_cases h : f = A.f_is_cell
  · rw [if_pos h] at e; cases e; subst h; exact ⟨_, _, _, ok_is_cell T, hr.mono (by decide), T.F_is_cell.kp, (kb_1 T.F_is_cell)⟩
  rw [if_neg h] at e
  by_cases h : f = A.f_is_sheet
  · rw [if_pos h] at e; cases e; subst h; exact ⟨_, _, _, ok_is_sheet T, hr.mono (by decide), T.F_is_sheet.kp, (kb_2 T.F_is_sheet)⟩
  rw [if_neg h] at e
  cases e
theorem tab_2 {X : Cx} {A : Ad} (T : Txt X.K X.mg A) (hr : Room 68 X.A) : TabOk X 1 (tb_2 A) := fun f F e => by
  unfold tb_2 at e
  by_cases h : f = A.f_is_expression
  · rw [if_pos h] at e; cases e; subst h; exact ⟨_, _, _, ok_is_expression T, hr.mono (by decide), T.F_is_expression.kp, T.b_is_expression⟩
  rw [if_neg h] at e
  by_cases h : f = A.f_is_cell
  · rw [if_pos h] at e; cases e; subst h; exact ⟨_, _, _, ok_is_cell T, hr.mono (by decide), T.F_is_cell.kp, T.b_is_cell⟩
  rw [if_neg h] at e
  by_cases h : f = A.f_is_sheet
  · rw [if_pos h] at e; cases e; subst h; exact ⟨_, _, _, ok_is_sheet T, hr.mono (by decide), T.F_is_sheet.kp, T.b_is_sheet⟩
  rw [if_neg h] at e
  cases e
theorem ok_law (T : Txt K mg A) : Quiet P w K mg base (L2.CX P w) 173 A.f_law A.d_law ["script"] (spM K 1 (r_law A)) := by
  refine quiet_of (k := 172) T.F_law sc_law fun cdv A' outer s H E hq hr => ?_
  have tk0 : Takes (cxOf (L2.CX P w) P w K mg base ["script", "draw", "table", "judges", "turn", "names", "sheet", "tree", "cells", "word", "some", "matter", "spare", "lap", "sort", "judge", "due"] "law" (defScope s_law) A.f_law cdv A' outer s H E) (Wd E) := takes_of rfl rfl rfl rfl
  have po0 : PassesOwn (model P w) (cxOf (L2.CX P w) P w K mg base ["script", "draw", "table", "judges", "turn", "names", "sheet", "tree", "cells", "word", "some", "matter", "spare", "lap", "sort", "judge", "due"] "law" (defScope s_law) A.f_law cdv A' outer s H E).A (cxOf (L2.CX P w) P w K mg base ["script", "draw", "table", "judges", "turn", "names", "sheet", "tree", "cells", "word", "some", "matter", "spare", "lap", "sort", "judge", "due"] "law" (defScope s_law) A.f_law cdv A' outer s H E).env (cxOf (L2.CX P w) P w K mg base ["script", "draw", "table", "judges", "turn", "names", "sheet", "tree", "cells", "word", "some", "matter", "spare", "lap", "sort", "judge", "due"] "law" (defScope s_law) A.f_law cdv A' outer s H E).xe := passes_of rfl
  exact (ss_cons (s_asg (e_tup (a_cons (e_call (ok_law_begun T) (hr.mono (by decide)) rfl T.g_law_begun T.F_law_begun.kp T.b_law_begun tk0 (a_cons (e_var (pv 0)) a_nil)) (a_cons (e_call0 (ok_law_table T) (hr.mono (by decide)) rfl T.g_law_table T.F_law_table.kp T.b_law_table tk0) a_nil))) (g_tup rfl (gs_cons (g_name (pg_name (i := 1) sc_law.nd rfl (Or.inr rfl))) (gs_cons (g_name (pg_name (i := 2) sc_law.nd rfl (Or.inl rfl))) gs_nil))))
    (ss_cons (s_set (i := 3) sc_law.nd rfl (Or.inl rfl) (e_lst (mkF_ok _) (a_cons (e_tup (a_cons e_str (a_cons (e_const (pe_glob (v := .ref (A.f_is_expression)) rfl T.g_is_expression rfl) fun _ => rfl) a_nil))) (a_cons (e_tup (a_cons e_str (a_cons (e_const (pe_glob (v := .ref (A.f_is_cell)) rfl T.g_is_cell rfl) fun _ => rfl) a_nil))) (a_cons (e_tup (a_cons e_str (a_cons (e_const (pe_glob (v := .ref (A.f_is_sheet)) rfl T.g_is_sheet rfl) fun _ => rfl) a_nil))) a_nil)))))
    (ss_cons (s_for po0 rfl (i_range1 rfl T.m_range (a_cons (e_op op_addT (d_addT (mkF_ok _)) e_int (e_callB (call_minA rfl) d_min rfl T.m_min bt_min (a_cons (e_callB call_lenA d_len_ rfl T.m_len bt_len (a_cons (e_var (pv 0)) a_nil)) (a_cons e_int a_nil)))) a_nil)) (g_name (pg_name (i := 4) sc_law.nd rfl (Or.inl rfl))) (ss_cons (s_asg (e_tup (a_cons (e_call (ok_law_names T) (hr.mono (by decide)) rfl T.g_law_names T.F_law_names.kp T.b_law_names tk0 (a_cons (e_var (pv 1)) (a_cons e_int a_nil))) (a_cons (e_call (ok_law_any_sheet T) (hr.mono (by decide)) rfl T.g_law_any_sheet T.F_law_any_sheet.kp T.b_law_any_sheet tk0 (a_cons (e_var (pv 1)) (a_cons e_int (a_cons e_int a_nil)))) a_nil))) (g_tup rfl (gs_cons (g_name (pg_name (i := 5) sc_law.nd rfl (Or.inr rfl))) (gs_cons (g_name (pg_name (i := 6) sc_law.nd rfl (Or.inl rfl))) gs_nil))))
    (ss_cons (s_set (i := 7) sc_law.nd rfl (Or.inl rfl) (e_call (ok_law_any_expression T) (hr.mono (by decide)) rfl T.g_law_any_expression T.F_law_any_expression.kp T.b_law_any_expression tk0 (a_cons (e_var (pv 1)) (a_cons (e_var (pv 5)) (a_cons e_int a_nil)))))
    (ss_cons (s_setComp (i := 8) (own := [("word", 9)]) (mkF_ok _) rfl sc_law.nd rfl rfl (sw_true rfl rfl rfl (by decide +kernel)) (i_seq (e_lst (mkF_ok _) (a_cons e_str (a_cons e_str (a_cons e_str a_nil))))) (blkOk_by (own := [("word", 9)]) (N := ["script", "draw", "table", "judges", "turn", "names", "sheet", "tree", "cells", "word", "some", "matter", "spare", "lap", "sort", "judge", "due"]) (sc := defScope s_law) (by decide +kernel)) (mono_name) (tg_name) (fun _ _ _ _ _ => pg_name (i := 9) sc_law.nd rfl (Or.inl rfl)) (W1 := W0) (fun _ _ _ _ _ => ts_nil) (W2 := W0) (fun _ _ _ _ _ => (e_call (ok_law_any_cell T) (hr.mono (by decide)) rfl T.g_law_any_cell T.F_law_any_cell.kp T.b_law_any_cell takes0 (a_cons (e_var (pv 1)) (a_cons (e_var (pv 5)) (a_cons e_int (a_cons (e_var (pv 9)) a_nil)))))))
    (ss_cons (s_set (i := 10) sc_law.nd rfl (Or.inl rfl) (e_op op_addT (d_addT (mkF_ok _)) (e_lst (mkF_ok _) (a_cons (e_var (pv 7)) (a_cons (e_var (pv 6)) (a_cons (e_tup (a_cons e_str (a_cons (e_ix (ix_all (hu_of hr)) d_ix (e_var (pv 5)) e_int) (a_cons (e_var (pv 7)) a_nil)))) (a_cons (e_tup (a_cons e_str (a_cons (e_ix (ix_all (hu_of hr)) d_ix (e_var (pv 5)) e_int) (a_cons e_int (a_cons e_int (a_cons (e_var (pv 7)) (a_cons (e_tup (a_cons e_str (a_cons e_int a_nil))) a_nil))))))) (a_cons (e_call (ok_law_odd T) (hr.mono (by decide)) rfl T.g_law_odd T.F_law_odd.kp T.b_law_odd tk0 (a_cons (e_var (pv 1)) a_nil)) a_nil)))))) (e_var (pv 8))))
    (ss_one (s_for po0 rfl (i_seq (e_var (pv 10))) (g_name (pg_name (i := 11) sc_law.nd rfl (Or.inl rfl))) (ss_cons (s_set (i := 12) sc_law.nd rfl (Or.inl rfl) (e_call (ok_law_pick T) (hr.mono (by decide)) rfl T.g_law_pick T.F_law_pick.kp T.b_law_pick tk0 (a_cons (e_var (pv 1)) (a_cons (e_lst (mkF_ok _) (a_cons (e_call (ok_law_any_expression T) (hr.mono (by decide)) rfl T.g_law_any_expression T.F_law_any_expression.kp T.b_law_any_expression tk0 (a_cons (e_var (pv 1)) (a_cons (e_var (pv 5)) (a_cons e_int a_nil)))) (a_cons (e_tup (a_cons e_str (a_cons (e_ix (ix_all (hu_of hr)) d_ix (e_var (pv 5)) e_int) a_nil))) (a_cons (e_ix (ix_all (hu_of hr)) d_ix (e_var (pv 5)) e_int) (a_cons (e_call (ok_law_take T) (hr.mono (by decide)) rfl T.g_law_take T.F_law_take.kp T.b_law_take tk0 (a_cons (e_var (pv 1)) (a_cons e_int a_nil))) (a_cons (e_ix (ix_all (hu_of hr)) d_ix (e_var (pv 8)) e_int) (a_cons (e_ix (ix_all (hu_of hr)) d_ix (e_var (pv 8)) e_int) a_nil))))))) a_nil))))
    (ss_one (s_for po0 rfl (i_range1 rfl T.m_range (a_cons e_int a_nil)) (g_name (pg_name (i := 13) sc_law.nd rfl (Or.inl rfl))) (ss_cons (s_for po0 rfl (i_seq (e_var (pv 3))) (g_tup rfl (gs_cons (g_name (pg_name (i := 14) sc_law.nd rfl (Or.inl rfl))) (gs_cons (g_name (pg_name (i := 15) sc_law.nd rfl (Or.inl rfl))) gs_nil))) (ss_cons (s_set (i := 16) sc_law.nd rfl (Or.inl rfl) (e_call (ok_law_fits T) (hr.mono (by decide)) rfl T.g_law_fits T.F_law_fits.kp T.b_law_fits tk0 (a_cons (e_var (pv 2)) (a_cons (e_var (pv 14)) (a_cons (e_var (pv 11)) a_nil)))))
    (ss_one (s_if (t_cmp (op_neE hr.units) (d_nil d_ne) (bools_nil bools_ne) (e_callB (call_repr ((deeper_guards _ _).trans hq) (hu66 hr)) d_repr rfl T.m_repr bt_repr (a_cons (e_lst (mkF_ok _) (a_cons (e_callV (i := 15) (tab_2 T (hr.mono (by decide))) rfl (by first | exact Or.inl rfl | exact Or.inr (Or.inl rfl) | exact Or.inr (Or.inr rfl)) tk0 (a_cons (e_var (pv 11)) a_nil)) (a_cons (e_callVK (i := 15) (is := [0]) (tab_1 T (hr.mono (by decide))) rfl (by first | exact Or.inl rfl | exact Or.inr (Or.inl rfl) | exact Or.inr (Or.inr rfl)) tk0 (k_cons (e_var (pv 11)) k_nil)) a_nil))) a_nil)) (e_callB (call_repr ((deeper_guards _ _).trans hq) (hu66 hr)) d_repr rfl T.m_repr bt_repr (a_cons (e_lst (mkF_ok _) (a_cons (e_var (pv 16)) (a_cons (e_var (pv 16)) a_nil))) a_nil))) (ss_one (s_ret e_bl)) ss_nil))))
    (ss_one (s_set (i := 11) sc_law.nd rfl (Or.inl rfl) (e_call (ok_law_spoilt T) (hr.mono (by decide)) rfl T.g_law_spoilt T.F_law_spoilt.kp T.b_law_spoilt tk0 (a_cons (e_var (pv 1)) (a_cons (e_var (pv 11)) (a_cons (e_var (pv 12)) a_nil)))))))))))))))))
    (ss_one (s_ret e_bl)))))
end
end K02

set_option Elab.async false
set_option linter.all false
set_option maxRecDepth 100000
set_option maxHeartbeats 4100000
local macro_rules | `(tactic| walk_at "mp_s") => `(tactic| (repeat (first | (with_reducible refine MP.evV_i rfl ?_) | (with_reducible refine MP.dgTup_i rfl ?_) | (with_reducible refine MP.gIx_t rfl ?_) | (with_reducible refine MP.gIx_l rfl ?_) | (with_reducible refine MP.gLen_w rfl ?_) | (with_reducible refine MP.runF_i ?_) | (with_reducible refine MP.dSeq_i ?_) | (with_reducible refine MP.dSet_i ?_) | (with_reducible refine MP.dIf_i ?_) | (with_reducible refine MP.dRet_i ?_) | (with_reducible refine MP.dExpr_i ?_) | (with_reducible refine MP.dAsg_i ?_) | (with_reducible refine MP.dPar_i ?_) | (with_reducible refine MP.dRaise_i ?_) | (with_reducible refine MP.dNext_i ?_) | (with_reducible refine MP.dgName_i ?_) | (with_reducible refine MP.dgNil_i ?_) | (with_reducible refine MP.dgCons_i ?_) | (with_reducible refine MP.dgSub_i ?_) | (with_reducible refine MP.evC_i ?_) | (with_reducible refine MP.aNil_i ?_) | (with_reducible refine MP.aCons_i ?_) | (with_reducible refine MP.evTup_i ?_) | (with_reducible refine MP.evLst_i ?_) | (with_reducible refine MP.mkF_i ?_) | (with_reducible refine MP.mkDF_i ?_) | (with_reducible refine MP.evDisp_i ?_) | (with_reducible refine MP.evDict0_i ?_) | (with_reducible refine MP.bin_i ?_) | (with_reducible refine MP.una_i ?_) | (with_reducible refine MP.evCall_i ?_) | (with_reducible refine MP.evCall0_i ?_) | (with_reducible refine MP.evCallK_i ?_) | (with_reducible refine MP.evB_i ?_) | (with_reducible refine MP.onT_bl ?_) | (with_reducible refine MP.onT_non ?_) | (with_reducible refine MP.bV_i ?_) | (with_reducible refine MP.bAnd_i ?_) | (with_reducible refine MP.bOr_i ?_) | (with_reducible refine MP.bNot_i ?_) | (with_reducible refine MP.bYes_i ?_) | (with_reducible refine MP.onBl_i ?_) | (with_reducible refine MP.bB_i ?_) | (with_reducible refine MP.eAnd_i ?_) | (with_reducible refine MP.eOr_i ?_) | (with_reducible refine MP.eNot_i ?_) | (with_reducible refine MP.eIf_i ?_) | (with_reducible refine MP.chn_i ?_) | (with_reducible refine MP.ite_tt ?_) | (with_reducible refine MP.ite_ff ?_) | (with_reducible refine MP.gSub_i ?_) | (with_reducible refine MP.gAdd_i ?_) | (with_reducible refine MP.gNeg_i ?_) | (with_reducible refine MP.gLe_i ?_) | (with_reducible refine MP.gLt_i ?_) | (with_reducible refine MP.gGt_i ?_) | (with_reducible refine MP.gGe_i ?_) | (with_reducible refine MP.gEq_i ?_) | (with_reducible refine MP.gNe_i ?_) | (with_reducible refine MP.gEq_b ?_) | (with_reducible refine MP.gNe_b ?_) | (with_reducible refine MP.gEq_s ?_) | (with_reducible refine MP.gNe_s ?_) | (with_reducible refine MP.gIs_i ?_) | (with_reducible refine MP.gIsn_i ?_) | (with_reducible refine MP.gInt_i ?_) | (with_reducible refine MP.gAbs_i ?_) | (with_reducible refine MP.gMin2_i ?_) | (with_reducible refine MP.evComp_i ?_) | (with_reducible refine MP.dFor_i ?_) | (with_reducible refine MP.iSeq_i ?_) | (with_reducible refine MP.onSeq_l ?_) | (with_reducible refine MP.onSeq_k ?_) | (with_reducible refine MP.onSeq_t ?_) | (with_reducible refine MP.iChars_i ?_) | (with_reducible refine MP.onStr_i ?_) | (with_reducible refine MP.evSl_i ?_) | (with_reducible refine MP.oNo_i ?_) | (with_reducible refine MP.oPart_i ?_) | (with_reducible refine MP.onInt_i ?_) | (with_reducible refine MP.gSl_t ?_) | (with_reducible refine MP.dPar3_i ?_) | (with_reducible refine MP.gAddT_i ?_) | (with_reducible refine MP.gEqE_i ?_) | (with_reducible refine MP.gNeE_i ?_) | (with_reducible refine MP.gEqE_s ?_) | (with_reducible refine MP.gNeE_s ?_) | ((with_reducible apply MP.gIsi_t); rfl; rfl; rfl) | ((with_reducible apply MP.onT_i); rfl) | ((with_reducible apply MP.ite_t); rfl) | ((with_reducible apply MP.ite_f); rfl) | ((with_reducible apply MP.gList_i); rfl) | ((with_reducible apply MP.gTuple_i); rfl))))
local macro_rules | `(tactic| walk_at "mp_1") => `(tactic| (first | (with_reducible refine MP.evV_i rfl ?_) | (with_reducible refine MP.dgTup_i rfl ?_) | (with_reducible refine MP.gIx_t rfl ?_) | (with_reducible refine MP.gIx_l rfl ?_) | (with_reducible refine MP.gLen_w rfl ?_) | (with_reducible refine MP.runF_i ?_) | (with_reducible refine MP.dSeq_i ?_) | (with_reducible refine MP.dSet_i ?_) | (with_reducible refine MP.dIf_i ?_) | (with_reducible refine MP.dRet_i ?_) | (with_reducible refine MP.dExpr_i ?_) | (with_reducible refine MP.dAsg_i ?_) | (with_reducible refine MP.dPar_i ?_) | (with_reducible refine MP.dRaise_i ?_) | (with_reducible refine MP.dNext_i ?_) | (with_reducible refine MP.dgName_i ?_) | (with_reducible refine MP.dgNil_i ?_) | (with_reducible refine MP.dgCons_i ?_) | (with_reducible refine MP.dgSub_i ?_) | (with_reducible refine MP.evC_i ?_) | (with_reducible refine MP.aNil_i ?_) | (with_reducible refine MP.aCons_i ?_) | (with_reducible refine MP.evTup_i ?_) | (with_reducible refine MP.evLst_i ?_) | (with_reducible refine MP.mkF_i ?_) | (with_reducible refine MP.mkDF_i ?_) | (with_reducible refine MP.evDisp_i ?_) | (with_reducible refine MP.evDict0_i ?_) | (with_reducible refine MP.bin_i ?_) | (with_reducible refine MP.una_i ?_) | (with_reducible refine MP.evCall_i ?_) | (with_reducible refine MP.evCall0_i ?_) | (with_reducible refine MP.evCallK_i ?_) | (with_reducible refine MP.evB_i ?_) | (with_reducible refine MP.onT_bl ?_) | (with_reducible refine MP.onT_non ?_) | (with_reducible refine MP.bV_i ?_) | (with_reducible refine MP.bAnd_i ?_) | (with_reducible refine MP.bOr_i ?_) | (with_reducible refine MP.bNot_i ?_) | (with_reducible refine MP.bYes_i ?_) | (with_reducible refine MP.onBl_i ?_) | (with_reducible refine MP.bB_i ?_) | (with_reducible refine MP.eAnd_i ?_) | (with_reducible refine MP.eOr_i ?_) | (with_reducible refine MP.eNot_i ?_) | (with_reducible refine MP.eIf_i ?_) | (with_reducible refine MP.chn_i ?_) | (with_reducible refine MP.ite_tt ?_) | (with_reducible refine MP.ite_ff ?_) | (with_reducible refine MP.gSub_i ?_) | (with_reducible refine MP.gAdd_i ?_) | (with_reducible refine MP.gNeg_i ?_) | (with_reducible refine MP.gLe_i ?_) | (with_reducible refine MP.gLt_i ?_) | (with_reducible refine MP.gGt_i ?_) | (with_reducible refine MP.gGe_i ?_) | (with_reducible refine MP.gEq_i ?_) | (with_reducible refine MP.gNe_i ?_) | (with_reducible refine MP.gEq_b ?_) | (with_reducible refine MP.gNe_b ?_) | (with_reducible refine MP.gEq_s ?_) | (with_reducible refine MP.gNe_s ?_) | (with_reducible refine MP.gIs_i ?_) | (with_reducible refine MP.gIsn_i ?_) | (with_reducible refine MP.gInt_i ?_) | (with_reducible refine MP.gAbs_i ?_) | (with_reducible refine MP.gMin2_i ?_) | (with_reducible refine MP.evComp_i ?_) | (with_reducible refine MP.dFor_i ?_) | (with_reducible refine MP.iSeq_i ?_) | (with_reducible refine MP.onSeq_l ?_) | (with_reducible refine MP.onSeq_k ?_) | (with_reducible refine MP.onSeq_t ?_) | (with_reducible refine MP.iChars_i ?_) | (with_reducible refine MP.onStr_i ?_) | (with_reducible refine MP.evSl_i ?_) | (with_reducible refine MP.oNo_i ?_) | (with_reducible refine MP.oPart_i ?_) | (with_reducible refine MP.onInt_i ?_) | (with_reducible refine MP.gSl_t ?_) | (with_reducible refine MP.dPar3_i ?_) | (with_reducible refine MP.gAddT_i ?_) | (with_reducible refine MP.gEqE_i ?_) | (with_reducible refine MP.gNeE_i ?_) | (with_reducible refine MP.gEqE_s ?_) | (with_reducible refine MP.gNeE_s ?_) | ((with_reducible apply MP.gIsi_t); rfl; rfl; rfl) | ((with_reducible apply MP.onT_i); rfl) | ((with_reducible apply MP.ite_t); rfl) | ((with_reducible apply MP.ite_f); rfl) | ((with_reducible apply MP.gList_i); rfl) | ((with_reducible apply MP.gTuple_i); rfl)))
/-! what the mirrors compute: names and numbers -/
namespace K02
open PySem PySem.Spec PyProof.Rows L2 MP
variable {A : Ad} {S : Store} {Q : Post} {E : XPost}
/-! names -/
def keptD : List D := match c_KEPT with
  | .tup ys => ys
  | _ => []
def isKept (x : Str) : Bool := inD (.str x) keptD
def small26 (c : Nat) : Bool := decide (97 ≤ c) && decide (c ≤ 122)
def nameOk (x : Str) : Bool := decide ((1 : Int) ≤ x.length) && (decide ((x.length : Int) ≤ 8) && (!isKept x && x.cps.toList.all small26))
def isName : D → Bool
  | .str x => nameOk x
  | _ => false
def smallS : Str := match c_SMALL with
  | .str x => x
  | _ => ""
theorem small_mem (c : Nat) : decide (c ∈ smallS.cps.toList) = small26 c := by
  have e : smallS.cps.toList = [97, 98, 99, 100, 101, 102, 103, 104, 105, 106, 107, 108, 109, 110, 111, 112, 113, 114, 115, 116, 117, 118, 119, 120, 121, 122] := by decide +kernel
  rw [e]
  unfold small26
  rw [← Bool.decide_and]
  apply decide_eq_decide.mpr
  simp only [List.mem_cons, List.not_mem_nil, or_false]
  omega
/-- values that the law hands about: their depth, their sizes -/
def okD : Nat → D → Prop
  | _, .non => True
  | _, .bl _ => True
  | _, .int _ => True
  | _, .str x => x.length ≤ 1000
  | _, .dct ks xs => ks = [] ∧ xs = []
  | n + 1, .tup xs => xs.length ≤ 1000 ∧ ∀ x ∈ xs, okD n x
  | n + 1, .lst xs => xs.length ≤ 1000 ∧ ∀ x ∈ xs, okD n x
  | _, _ => False
theorem okD.val {n : Nat} {d : D} (h : okD n d) : Val d := by
  cases d <;> first | trivial | (cases n <;> exact h.elim)
theorem okD.mono : ∀ {n m : Nat} {d : D}, n ≤ m → okD n d → okD m d
  | n, m, .non, _, _ => by cases m <;> trivial
  | n, m, .bl _, _, _ => by cases m <;> trivial
  | n, m, .int _, _, _ => by cases m <;> trivial
  | n, m, .str x, _, h => by cases n <;> cases m <;> exact h
  | n, m, .dct ks xs, _, h => by cases n <;> cases m <;> exact h
  | 0, m, .tup xs, _, h => h.elim
  | 0, m, .lst xs, _, h => h.elim
  | n + 1, 0, .tup xs, l, h => by omega
  | n + 1, 0, .lst xs, l, h => by omega
  | n + 1, m + 1, .tup xs, l, h => ⟨h.1, fun x hx => okD.mono (by omega) (h.2 x hx)⟩
  | n + 1, m + 1, .lst xs, l, h => ⟨h.1, fun x hx => okD.mono (by omega) (h.2 x hx)⟩
  | n, m, .ref _, _, h => by cases n <;> exact h.elim
  | n, m, .ty _, _, h => by cases n <;> exact h.elim
  | n, m, .exn _ _ _ _, _, h => by cases n <;> exact h.elim
  | n, m, .kls _, _, h => by cases n <;> exact h.elim
theorem okD.str {n : Nat} {x : Str} (h : okD n (.str x)) : x.length ≤ 1000 := by cases n <;> exact h
theorem all_empty {α : Type} (p : α → Bool) (l : List α) : (l.filter fun x => !p x).isEmpty = l.all p := by
  induction l with
  | nil => rfl
  | cons a r ih =>
    rw [List.all_cons]
    cases h : p a with
    | true => rw [List.filter_cons_of_neg (by simp [h]), ih]; rfl
    | false => rw [List.filter_cons_of_pos (by simp [h])]; rfl
theorem le_line1 {n : Nat} (h : n ≤ 1000) : n ≤ sizeLine := Nat.le_trans h (by decide)
theorem is_name_str {x : Str} (hx : x.length ≤ 1000) (q : Q (.bl (nameOk x)) S) : r_is_name A [.str x] S Q E := by
  unfold r_is_name
  walk_at "mp_s"
  refine gLen_s (le_line1 hx) ?_
  walk_at "mp_s"
  have tail : Q (.bl (nameOk x)) S → ∀ b1 b2 b3 : Bool, b1 = decide ((1 : Int) ≤ x.length) → True := fun _ _ _ _ _ => trivial
  refine ite_cc (fun e1 => ?_) fun e1 => ?_
  · walk_at "mp_s"
    refine ite_cc (fun e2 => ?_) fun e2 => ?_
    · have e2' : decide ((x.length : Int) ≤ 8) = false := by simpa using e2
      have z : nameOk x = false := by unfold nameOk; rw [e2', Bool.false_and, Bool.and_false]
      rw [z] at q
      walk_at "mp_s"
      exact q
    · have e2' : decide ((x.length : Int) ≤ 8) = true := by simpa using e2
      refine bB_i (bin_i (evV_i rfl (evC_i ?_)))
      refine inC_tup rfl (by decide) ?_
      show onBl (.bl (isKept x)) _
      walk_at "mp_s"
      refine ite_cc (fun e3 => ?_) fun e3 => ?_
      · have z : nameOk x = false := by unfold nameOk; rw [e3, Bool.not_true, Bool.false_and, Bool.and_false, Bool.and_false]
        rw [z] at q
        walk_at "mp_s"
        exact q
      · have z : nameOk x = x.cps.toList.all small26 := by unfold nameOk; rw [e1, e2', e3]; rfl
        rw [z] at q
        walk_at "mp_s"
        rw [signs_enc]
        refine comp_map (fun c : Nat => D.str ⟨#[c]⟩) (fun c => !small26 c) (fun c => D.str ⟨#[c]⟩) x.cps.toList [] (fun c _ k hk => ?_) (fun c _ _ k hk => evV_i rfl hk) ?_ ?_
        · refine bB_i (bin_i (evV_i rfl (evC_i (inC_sign ?_))))
          show onBl (.bl (!decide (c ∈ smallS.cps.toList))) _
          rw [small_mem]
          exact hk
        · exact le_line1 (by have h : x.cps.size ≤ 1000 := hx; simpa using h)
        walk_at "mp_s"
        refine gEqE_nil rfl ?_
        rw [List.nil_append, List.isEmpty_map, all_empty]
        exact q
  · have z : nameOk x = false := by unfold nameOk; rw [e1, Bool.false_and]
    rw [z] at q
    walk_at "mp_s"
    exact q
theorem is_name_ok {n : Nat} {d : D} (h : okD n d) (q : Q (.bl (isName d)) S) : r_is_name A [d] S Q E := by
  have hv := h.val
  cases d with
  | str x => exact is_name_str h.str q
  | _ => first | exact hv.elim | (unfold r_is_name; walk_at "mp_s"; exact q)
/-! the law's own -/
theorem gLe_str {a b : Str} (q : Q (.bl (!decide (b.cps.toList < a.cps.toList))) S) : gOrd (fun i j => decide (i ≤ j)) (fun i j => !decide (j < i)) (.str a) (.str b) S Q := q
theorem cps_a : (Str.ofString "a").cps.toList = [97] := by decide +kernel
theorem cps_z : (Str.ofString "z").cps.toList = [122] := by decide +kernel
def law2 : List D := [.str "and", .str "cases", .str "cell", .str "else", .str "fewest", .str "from", .str "greatest", .str "if", .str "input", .str "least", .str "most", .str "not", .str "of", .str "or", .str "place", .str "row", .str "settle", .str "start", .str "sum", .str "then", .str "to", .str "fork", .str "leaf"]
theorem kept_same (x : Str) : inD (.str x) law2 = isKept x := by
  unfold isKept inD law2 keptD c_KEPT
  simp only [List.any_cons, List.any_nil, eqF, Bool.or_false]
  ac_rfl
theorem law_kept_ok (q : Q (.lst (law2.take 21)) S) : r_law_kept A [] S Q E := by
  unfold r_law_kept
  walk_at "mp_s"
  refine gAddT_l (by decide) ?_
  walk_at "mp_s"
  exact q
theorem le_sign (c : Nat) : (!decide ([c] < [97])) = decide (97 ≤ c) := by
  rw [← decide_not]
  apply decide_eq_decide.mpr
  simp only [List.cons_lt_cons_iff]
  simp
theorem le_sign2 (c : Nat) : (!decide ([122] < [c])) = decide (c ≤ 122) := by
  rw [← decide_not]
  apply decide_eq_decide.mpr
  simp only [List.cons_lt_cons_iff]
  simp
theorem law_small_ok {x : Str} (hx : x.length ≤ 1000) (q : Q (.bl (decide ((1 : Int) ≤ x.length) && x.cps.toList.all small26)) S) : r_law_is_small A [.str x] S Q E := by
  have e0 : (!(x == (Str.ofString ""))) = decide ((1 : Int) ≤ x.length) := by
    have e : (x == Str.ofString "") = decide (x.length = 0) := by
      show decide (x = Str.ofString "") = _
      apply decide_eq_decide.mpr
      constructor
      · intro h; subst h; rfl
      · intro h
        have h2 : x.cps.size = 0 := h
        obtain ⟨c⟩ := x
        have h3 : c = #[] := Array.eq_empty_of_size_eq_zero h2
        subst h3
        rfl
    rw [e, ← decide_not]
    apply decide_eq_decide.mpr
    omega
  unfold r_law_is_small
  walk_at "mp_s"
  rw [e0]
  refine ite_cc (fun e1 => ?_) fun e1 => ?_
  · rw [e1, Bool.true_and] at q
    walk_at "mp_s"
    rw [signs_enc]
    refine comp_map (fun c : Nat => D.str ⟨#[c]⟩) (fun c => !small26 c) (fun c => D.str ⟨#[c]⟩) x.cps.toList [] (fun c _ k hk => ?_) (fun c _ _ k hk => evV_i rfl hk) ?_ ?_
    · refine bNot_i (bB_i (chn_i (evC_i (evV_i rfl ?_))))
      refine gLe_str ?_
      rw [cps_a]
      show onBl (.bl (!decide ([c] < [97]))) _
      rw [le_sign]
      refine onBl_i (ite_cc (fun f1 => ?_) fun f1 => ?_)
      · refine evC_i ?_
        refine gLe_str ?_
        rw [cps_z]
        show onBl (.bl (!decide ([122] < [c]))) _
        rw [le_sign2]
        refine onBl_i ?_
        have z : small26 c = decide (c ≤ 122) := by unfold small26; rw [f1, Bool.true_and]
        rw [← z]
        exact hk
      · have z : small26 c = false := by unfold small26; rw [f1, Bool.false_and]
        rw [z] at hk
        exact hk
    · exact le_line1 (by have h : x.cps.size ≤ 1000 := hx; simpa using h)
    walk_at "mp_s"
    refine gEqE_nil rfl ?_
    rw [List.nil_append, List.isEmpty_map, all_empty]
    exact q
  · rw [e1, Bool.false_and] at q
    rw [e1]
    exact q
theorem law_is_name_ok {n : Nat} {d : D} (h : okD n d) (q : Q (.bl (isName d)) S) : r_law_is_name A [d] S Q E := by
  have hv := h.val
  cases d with
  | str x =>
    have hx := h.str
    unfold r_law_is_name
    walk_at "mp_s"
    refine gLen_s (le_line1 hx) ?_
    walk_at "mp_s"
    have lt8 : decide ((x.length : Int) < 9) = decide ((x.length : Int) ≤ 8) := decide_eq_decide.mpr (by omega)
    rw [lt8]
    refine ite_cc (fun e1 => ?_) fun e1 => ?_
    · walk_at "mp_s"
      refine law_small_ok hx ?_
      walk_at "mp_s"
      refine ite_cc (fun e2 => ?_) fun e2 => ?_
      · walk_at "mp_s"
        refine law_kept_ok ?_
        walk_at "mp_s"
        refine gAddT_l (by decide) ?_
        walk_at "mp_s"
        refine inC_lst rfl (by decide) ?_
        show Q (.bl (!inD (.str x) law2)) S
        rw [kept_same]
        have e3 : decide ((1 : Int) ≤ x.length) = true ∧ x.cps.toList.all small26 = true := by simpa using e2
        have z : nameOk x = !isKept x := by unfold nameOk; rw [e1, e3.1, e3.2]; simp
        have q' : Q (.bl (nameOk x)) S := q
        rw [z] at q'
        exact q'
      · have z : nameOk x = false := by
          unfold nameOk
          cases h1 : decide ((1 : Int) ≤ x.length) with
          | false => rfl
          | true =>
            rw [h1, Bool.true_and] at e2
            rw [e2]
            simp
        have q' : Q (.bl (nameOk x)) S := q
        rw [z] at q'
        rw [e2]
        exact q'
    · have z : nameOk x = false := by unfold nameOk; rw [e1]; simp
      have q' : Q (.bl (nameOk x)) S := q
      rw [z] at q'
      rw [e1]
      exact q'
  | _ => first | exact hv.elim | (unfold r_law_is_name; walk_at "mp_s"; exact q)
/-! numbers -/
def isInt : D → Bool
  | .int _ => true
  | _ => false
def inR (lo hi : Int) : D → Bool
  | .int i => decide (lo ≤ i) && decide (i ≤ hi)
  | _ => false
theorem is_int_ok {n : Nat} {d : D} (h : okD n d) (q : Q (.bl (isInt d)) S) : r_is_int A [d] S Q E := by
  have hv := h.val
  cases d <;> first | exact hv.elim | (unfold r_is_int; walk_at "mp_s"; exact q)
theorem lies_ok {n : Nat} {d : D} {lo hi : Int} (h : okD n d) (q : Q (.bl (inR lo hi d)) S) : r_lies_in A [d, .int lo, .int hi] S Q E := by
  have hv := h.val
  unfold r_lies_in
  walk_at "mp_s"
  refine is_int_ok h ?_
  cases d with
  | int i =>
    walk_at "mp_s"
    refine ite_cc (fun e => ?_) fun e => ?_
    · have z : inR lo hi (.int i) = decide (i ≤ hi) := by show (decide (lo ≤ i) && decide (i ≤ hi)) = _; rw [e]; rfl
      rw [z] at q
      walk_at "mp_s"
      exact q
    · have z : inR lo hi (.int i) = false := by show (decide (lo ≤ i) && decide (i ≤ hi)) = _; rw [e]; rfl
      rw [z] at q
      exact q
  | _ => first | exact hv.elim | (walk_at "mp_s"; exact q)
theorem is_small_ok {n : Nat} {d : D} (h : okD n d) (q : Q (.bl (inR (-999) 999 d)) S) : r_is_small A [d] S Q E := by
  unfold r_is_small
  walk_at "mp_s"
  exact lies_ok h q
def leD : D → D → Bool
  | .int i, .int j => decide (i ≤ j)
  | _, _ => false
def rngOk (a b : D) : Bool := inR (-999) 999 a && (inR (-999) 999 b && leD a b)
theorem range_ok {n : Nat} {a b : D} (ha : okD n a) (hb : okD n b) (q : Q (.bl (rngOk a b)) S) : r_is_range A [a, b] S Q E := by
  unfold rngOk at q
  unfold r_is_range
  walk_at "mp_s"
  refine is_small_ok ha ?_
  walk_at "mp_s"
  refine ite_cc (fun e1 => ?_) fun e1 => ?_
  · rw [e1, Bool.true_and] at q
    walk_at "mp_s"
    refine is_small_ok hb ?_
    walk_at "mp_s"
    refine ite_cc (fun e2 => ?_) fun e2 => ?_
    · rw [e2, Bool.true_and] at q
      cases a <;> first | (cases e1; done) | skip
      cases b <;> first | (cases e2; done) | skip
      walk_at "mp_s"
      exact q
    · rw [e2, Bool.false_and] at q
      rw [e2]
      exact q
  · rw [e1, Bool.false_and] at q
    rw [e1]
    exact q
end K02

set_option Elab.async false
set_option linter.all false
set_option maxRecDepth 100000
set_option maxHeartbeats 4100000
/-! what the mirrors compute: expressions -/
namespace K02
open PySem PySem.Spec PyProof.Rows L2 MP
variable {A : Ad} {S : Store} {Q : Post} {E : XPost}
theorem at_0 {x : D} {xs : List D} : atI (x :: xs) 0 = some x := by
  unfold atI ixN
  rw [if_pos (by decide), if_pos (by simp only [List.length_cons]; omega)]
  rfl
theorem at_k {xs : List D} {k : Nat} {x : D} (h : xs[k]? = some x) : atI xs (k : Nat) = some x := by
  have hk := (List.getElem?_eq_some_iff.mp h).1
  unfold atI ixN
  rw [if_pos (by omega), if_pos (by omega)]
  exact h
theorem at_1 {x y : D} {r : List D} : atI (x :: y :: r) 1 = some y := at_k (xs := x :: y :: r) (k := 1) rfl
theorem at_2 {x y z : D} {r : List D} : atI (x :: y :: z :: r) 2 = some z := at_k (xs := x :: y :: z :: r) (k := 2) rfl
theorem at_3 {x y z u : D} {r : List D} : atI (x :: y :: z :: u :: r) 3 = some u := at_k (xs := x :: y :: z :: u :: r) (k := 3) rfl
/-! sizes by words -/
def szLook : List Key → List Int → Key → Int
  | j :: ks, n :: ns, k => if j = k then n else szLook ks ns k
  | _, _, _ => 0
theorem dlook_sz (k : Key) : ∀ (ks : List Key) (ns : List Int), (dlook ks (ns.map D.int) k).getD (.int 0) = .int (szLook ks ns k)
  | [], _ => by unfold dlook szLook; rfl
  | _ :: _, [] => by unfold dlook szLook; rfl
  | j :: ks, n :: ns => by
    show (if j = k then some (D.int n) else dlook ks (ns.map D.int) k).getD (.int 0) = .int (if j = k then n else szLook ks ns k)
    by_cases h : j = k
    · rw [if_pos h, if_pos h]; rfl
    · rw [if_neg h, if_neg h]; exact dlook_sz k ks ns
def tag (ks : List Key) (ns : List Int) : D → Bool
  | .tup (.str w :: r) => szLook ks ns (.inr w) == ((D.str w :: r).length : Int)
  | _ => false
theorem tagged_ok {n : Nat} {d : D} {ks : List Key} {ns : List Int} (h : okD n d) (q : Q (.bl (tag ks ns d)) S) : r_is_tagged A [d, .dct ks (ns.map D.int)] S Q E := by
  have hv := h.val
  cases d with
  | tup xs =>
    unfold r_is_tagged
    walk_at "mp_s"
    cases xs with
    | nil => walk_at "mp_s"; exact q
    | cons x r =>
      have l0 : (((x :: r).length : Int) == 0) = false := by simp; omega
      rw [l0]
      walk_at "mp_s"
      refine gIx_t at_0 ?_
      have hx : Val x := by
        cases n with
        | zero => exact h.elim
        | succ n => exact (h.2 x List.mem_cons_self).val
      cases x with
      | str w =>
        walk_at "mp_s"
        refine evGet2_i ?_
        walk_at "mp_s"
        refine ⟨trivial, ?_⟩
        walk_at "mp_s"
        refine gIx_t at_0 ?_
        walk_at "mp_s"
        refine gGet_i rfl rfl (dlook_sz _ _ _) ?_
        walk_at "mp_s"
        exact q
      | _ => first | exact hx.elim | (walk_at "mp_s"; exact q)
  | _ => first | exact hv.elim | (unfold r_is_tagged; walk_at "mp_s"; exact q)
/-! expressions -/
def kW (l : List String) : List Key := l.map fun s => .inr (Str.ofString s)
def KS : List Key := kW ["number", "name", "item", "place", "at", "not", "choose", "cases", "plus", "minus", "times", "least", "greatest", "less", "atmost", "same", "and", "or", "sum", "fewest", "most"]
def NS : List Int := [2, 2, 3, 1, 4, 2, 4, 4, 3, 3, 3, 3, 3, 3, 3, 3, 3, 3, 2, 2, 2]
def overs : List D := match c_OVER_ROWS with
  | .tup ys => ys
  | _ => []
def overRow (w : Str) : Bool := inD (.str w) overs
def lastOk : Option Int → Int → Bool
  | none, _ => true
  | some l, i => !decide (i ≤ l)
def casesOk (f : D → Bool) : Option Int → List D → Bool
  | _, [] => true
  | last, p :: r => match p with
    | .tup [k, e] => match k with
      | .int i => decide (-999 ≤ i) && decide (i ≤ 999) && (f e && (lastOk last i && casesOk f (some i) r))
      | _ => false
    | _ => false
mutual
def isE : Nat → D → Bool
  | 0, _ => false
  | n + 1, .tup (.str w :: r) => tag KS NS (.tup (.str w :: r)) && (
    if (w == "number") = true then inR (-999) 999 (r.getD 0 .non)
    else if (w == "name" || overRow w) = true then isName (r.getD 0 .non)
    else if (w == "item") = true then isName (r.getD 0 .non) && inR 1 9 (r.getD 1 .non)
    else if (w == "at") = true then isName (r.getD 0 .non) && (inR (-999) 999 (r.getD 1 .non) && isE n (r.getD 2 .non))
    else if (w == "cases") = true then isE n (r.getD 0 .non) && (isC n (r.getD 1 .non) && isE n (r.getD 2 .non))
    else r.all (isE n))
  | _ + 1, _ => false
def isC : Nat → D → Bool
  | 0, _ => false
  | n + 1, .tup ps => !ps.isEmpty && casesOk (isE n) none ps
  | _ + 1, _ => false
end
/-- the dict of sizes, word by word -/
def putAll (ks : List Key) (ns : List Int) (v : Int) : List Str → List Key × List Int
  | [] => (ks, ns)
  | w :: r => putAll (putKs ks (.inr w)) (putVs ks ns (.inr w) v) v r
theorem putVs_map (ks : List Key) (ns : List Int) (k : Key) (v : Int) : putVs ks (ns.map D.int) k (.int v) = (putVs ks ns k v).map D.int := by
  unfold putVs
  split
  · rw [List.zipWith_map_right, List.map_zipWith]
    congr 1
    funext j x
    split <;> rfl
  · rw [List.map_append]; rfl
theorem sizes_loop {a : Addr} {N : DEnds} {x0 x3 : Option D} (v : Int) : ∀ (ws : List Str) (ks : List Key) (ns : List Int) (S : Store) (x2 : Option D), S a = some (.dct ks (ns.map D.int)) → ks.length + ws.length ≤ 1000 →
    (∀ S' x2', S' a = some (.dct (putAll ks ns v ws).1 ((putAll ks ns v ws).2.map D.int)) → (∀ b, b ≠ a → S' b = S b) → N.nx [x0, some (.ref a), x2', x3] S') →
    loop (dgName 2) (dAsg (evC (.int v)) (dgSub (evV 1) (evV 2))) N (ws.map D.str) [x0, some (.ref a), x2, x3] S
  | [], ks, ns, S, x2, h, _, q => q S x2 h fun _ _ => rfl
  | w :: r, ks, ns, S, x2, h, l, q => by
    refine loop_cons ?_
    walk_at "mp_s"
    refine setD_box h rfl (Nat.lt_of_le_of_lt (m := 1000) (by simp only [List.length_cons] at l; omega) (by decide)) rfl (putVs_map _ _ _ _) ?_
    have lk : (putKs ks (.inr w)).length ≤ ks.length + 1 := by
      unfold putKs
      split
      · omega
      · rw [List.length_append, List.length_singleton]; exact Nat.le_refl _
    refine sizes_loop v r _ _ _ (some (.str w)) (by unfold Store.set; exact if_pos rfl) (by simp only [List.length_cons] at l; omega) fun S' x2' e1 e2 => ?_
    exact q S' x2' e1 fun b hb => by rw [e2 b hb]; unfold Store.set; exact if_neg hb
theorem dFzV_i {i : Nat} {g : ST} {ρ : MP.Env} {N : DEnds} (q : g ρ S { N with nx := fzv i N.nx }) : dFzV i g ρ S N := q
theorem fzv_l {i : Nat} {ρ : MP.Env} {p : Addr} {ds : List D} {QE : MP.Env → Store → Prop} (hi : lk ρ i = some (.ref p)) (hp : S p = some (.lst ds)) (q : QE (st ρ i (some (.lst ds))) (S.del p)) : fzv i QE ρ S := by
  unfold fzv
  simp only [hi, hp]
  exact q
theorem fzv_d {i : Nat} {ρ : MP.Env} {p : Addr} {ks : List Key} {ds : List D} {QE : MP.Env → Store → Prop} (hi : lk ρ i = some (.ref p)) (hp : S p = some (.dct ks ds)) (q : QE (st ρ i (some (.dct ks ds))) (S.del p)) : fzv i QE ρ S := by
  unfold fzv
  simp only [hi, hp]
  exact q
def pairsS : List Str := ["plus", "minus", "times", "least", "greatest", "less", "atmost", "same", "and", "or"].map Str.ofString
def oversS : List Str := ["sum", "fewest", "most"].map Str.ofString
theorem sizes_all : putAll (putAll (kW ["number", "name", "item", "place", "at", "not", "choose", "cases"]) [2, 2, 3, 1, 4, 2, 4, 4] 3 pairsS).1 (putAll (kW ["number", "name", "item", "place", "at", "not", "choose", "cases"]) [2, 2, 3, 1, 4, 2, 4, 4] 3 pairsS).2 2 oversS = (KS, NS) := by decide +kernel
theorem eq_w {w : Str} {s : Str} (e : (w == s) = true) : w = s := eq_of_beq e
theorem tag_len {w : Str} {r : List D} {k : Int} (e : szLook KS NS (.inr w) = k) (h : tag KS NS (.tup (.str w :: r)) = true) : k = (r.length : Int) + 1 := by
  have h2 : (szLook KS NS (.inr w) == ((D.str w :: r).length : Int)) = true := h
  rw [e] at h2
  have := eq_of_beq h2
  rw [this]
  simp
theorem len1 {r : List D} (h : (2 : Int) = (r.length : Int) + 1) : ∃ a, r = [a] := by
  match r, h with
  | [a], _ => exact ⟨a, rfl⟩
  | [], h => simp at h
  | _ :: _ :: _, h => simp at h; omega
theorem len2 {r : List D} (h : (3 : Int) = (r.length : Int) + 1) : ∃ a b, r = [a, b] := by
  match r, h with
  | [a, b], _ => exact ⟨a, b, rfl⟩
  | [], h => simp at h
  | [_], h => simp at h
  | _ :: _ :: _ :: _, h => simp at h; omega
theorem len3 {r : List D} (h : (4 : Int) = (r.length : Int) + 1) : ∃ a b c, r = [a, b, c] := by
  match r, h with
  | [a, b, c], _ => exact ⟨a, b, c, rfl⟩
  | [], h => simp at h
  | [_], h => simp at h
  | [_, _], h => simp at h
  | _ :: _ :: _ :: _ :: _, h => simp at h; omega
theorem isE_tag {n : Nat} {d : D} (h : tag KS NS d = false) : isE (n + 1) d = false := by
  match d, h with
  | .tup (.str w :: r), h => unfold isE; rw [h, Bool.false_and]
  | .non, _ => unfold isE; rfl
  | .bl _, _ => unfold isE; rfl
  | .int _, _ => unfold isE; rfl
  | .str _, _ => unfold isE; rfl
  | .ty _, _ => unfold isE; rfl
  | .ref _, _ => unfold isE; rfl
  | .exn _ _ _ _, _ => unfold isE; rfl
  | .lst _, _ => unfold isE; rfl
  | .kls _, _ => unfold isE; rfl
  | .dct _ _, _ => unfold isE; rfl
  | .tup [], _ => unfold isE; rfl
  | .tup (.non :: _), _ => unfold isE; rfl
  | .tup (.bl _ :: _), _ => unfold isE; rfl
  | .tup (.int _ :: _), _ => unfold isE; rfl
  | .tup (.ty _ :: _), _ => unfold isE; rfl
  | .tup (.ref _ :: _), _ => unfold isE; rfl
  | .tup (.exn _ _ _ _ :: _), _ => unfold isE; rfl
  | .tup (.lst _ :: _), _ => unfold isE; rfl
  | .tup (.kls _ :: _), _ => unfold isE; rfl
  | .tup (.dct _ _ :: _), _ => unfold isE; rfl
  | .tup (.tup _ :: _), _ => unfold isE; rfl
theorem tag_tup {ks : List Key} {ns : List Int} {d : D} (h : tag ks ns d = true) : ∃ w r, d = .tup (.str w :: r) := by
  unfold tag at h
  split at h
  · exact ⟨_, _, rfl⟩
  · cases h
theorem isE_eq {n : Nat} {w : Str} {r : List D} (h : tag KS NS (.tup (.str w :: r)) = true) : isE (n + 1) (.tup (.str w :: r)) =
    if (w == "number") = true then inR (-999) 999 (r.getD 0 .non)
    else if (w == "name" || overRow w) = true then isName (r.getD 0 .non)
    else if (w == "item") = true then isName (r.getD 0 .non) && inR 1 9 (r.getD 1 .non)
    else if (w == "at") = true then isName (r.getD 0 .non) && (inR (-999) 999 (r.getD 1 .non) && isE n (r.getD 2 .non))
    else if (w == "cases") = true then isE n (r.getD 0 .non) && (isC n (r.getD 1 .non) && isE n (r.getD 2 .non))
    else r.all (isE n) := by
  rw [isE, h, Bool.true_and]
theorem over_cases {w : Str} (h : overRow w = true) : w = "sum" ∨ w = "fewest" ∨ w = "most" := by
  have e : overRow w = (((Str.ofString "sum" == w) || ((Str.ofString "fewest" == w) || ((Str.ofString "most" == w) || false)))) := rfl
  rw [e] at h
  simp only [Bool.or_false, Bool.or_eq_true] at h
  rcases h with h | h | h
  · exact .inl (eq_of_beq h).symm
  · exact .inr (.inl (eq_of_beq h).symm)
  · exact .inr (.inr (eq_of_beq h).symm)
theorem expr_ok (n : Nat) (ih1 : ∀ m d S Q E, okD m d → m < n → Q (.bl (isE n d)) S → r_is_expression A n [d] S Q E) (ih2 : ∀ m d S Q E, okD m d → m < n → Q (.bl (isC n d)) S → r_are_cases A n [d] S Q E)
    (m : Nat) (d : D) (h : okD m d) (hm : m < n + 1) (q : Q (.bl (isE (n + 1) d)) S) : r_is_expression A (n + 1) [d] S Q E := by
  rw [r_is_expression_eq]
  walk_at "mp_s"
  refine mkDM_i fun a ha => ?_
  walk_at "mp_s"
  have at1 : S.set a (.dct (kW ["number", "name", "item", "place", "at", "not", "choose", "cases"]) (([2, 2, 3, 1, 4, 2, 4, 4] : List Int).map D.int)) a = some (.dct (kW ["number", "name", "item", "place", "at", "not", "choose", "cases"]) (([2, 2, 3, 1, 4, 2, 4, 4] : List Int).map D.int)) := by unfold Store.set; exact if_pos rfl
  refine sizes_loop 3 pairsS _ _ _ none at1 (by decide) fun S1 x1 e1 k1 => ?_
  walk_at "mp_s"
  refine dFzV_i ?_
  walk_at "mp_s"
  refine sizes_loop 2 oversS _ _ _ x1 e1 (by decide +kernel) fun S2 x2 e2 k2 => ?_
  rw [sizes_all] at e2
  dsimp only []
  refine fzv_d (i := 1) (p := a) rfl e2 ?_
  have back : S2.del a = S := by
    funext b
    by_cases hb : b = a
    · subst hb; unfold Store.del; rw [if_pos rfl, ha]
    · unfold Store.del; rw [if_neg hb, k2 b hb, k1 b hb]; unfold Store.set; exact if_neg hb
  rw [back]
  clear at1 e1 k1 e2 k2 back
  walk_at "mp_s"
  refine tagged_ok h ?_
  walk_at "mp_s"
  cases ht : tag KS NS d with
  | false =>
    refine ite_t rfl ?_
    rw [isE_tag ht] at q
    walk_at "mp_s"
    exact q
  | true =>
    refine ite_f rfl ?_
    obtain ⟨w, r, rfl⟩ := tag_tup ht
    rw [isE_eq ht] at q
    obtain ⟨m, rfl⟩ : ∃ l, m = l + 1 := by
      cases m with
      | zero => exact h.elim
      | succ l => exact ⟨l, rfl⟩
    have hr : ∀ x ∈ r, okD m x := fun x hx => h.2 x (List.mem_cons_of_mem _ hx)
    have hlen : r.length ≤ 1000 := by have := h.1; simp only [List.length_cons] at this; omega
    have hmn : m < n := by omega
    walk_at "mp_s"
    refine gIx_t at_0 ?_
    walk_at "mp_s"
    refine ite_cc (fun c1 => ?_) fun c1 => ?_
    · rw [if_pos c1] at q
      have ew := eq_w c1
      subst ew
      obtain ⟨x1, rfl⟩ := len1 (tag_len (by decide +kernel) ht)
      walk_at "mp_s"
      exact is_small_ok (hr _ (by simp)) q
    rw [if_neg (by rw [c1]; decide)] at q
    walk_at "mp_s"
    refine ite_cc (fun c2 => ?_) fun c2 => ?_
    · have c2' : (w == "name" || overRow w) = true := by rw [show (w == "name") = true from c2]; rfl
      rw [if_pos c2'] at q
      have ew := eq_w c2
      subst ew
      obtain ⟨x1, rfl⟩ := len1 (tag_len (by decide +kernel) ht)
      walk_at "mp_s"
      exact is_name_ok (hr _ (by simp)) q
    refine bB_i (bin_i (evV_i rfl (evC_i ?_)))
    refine inC_tup rfl (by decide) ?_
    show onBl (.bl (overRow w)) _
    refine onBl_i (ite_cc (fun c3 => ?_) fun c3 => ?_)
    · have c3' : (w == "name" || overRow w) = true := by rw [c3, Bool.or_true]
      rw [if_pos c3'] at q
      obtain ⟨x1, rfl⟩ : ∃ a, r = [a] := by
        rcases over_cases c3 with rfl | rfl | rfl <;> exact len1 (tag_len (by decide +kernel) ht)
      walk_at "mp_s"
      exact is_name_ok (hr _ (by simp)) q
    rw [if_neg (show ¬ (w == "name" || overRow w) = true by rw [show (w == "name") = false from c2, c3]; decide)] at q
    walk_at "mp_s"
    refine ite_cc (fun c4 => ?_) fun c4 => ?_
    · rw [if_pos c4] at q
      have ew := eq_w c4
      subst ew
      obtain ⟨x1, x2, rfl⟩ := len2 (tag_len (by decide +kernel) ht)
      walk_at "mp_s"
      refine is_name_ok (hr _ (by simp)) ?_
      walk_at "mp_s"
      refine ite_cc (fun d1 => ?_) fun d1 => ?_
      · rw [show isName ([x1, x2].getD 0 .non) = true from d1, Bool.true_and] at q
        walk_at "mp_s"
        exact lies_ok (hr _ (by simp)) q
      · rw [show isName ([x1, x2].getD 0 .non) = false from d1, Bool.false_and] at q
        rw [d1]
        exact q
    rw [if_neg (by rw [show (w == "item") = false from c4]; decide)] at q
    walk_at "mp_s"
    refine ite_cc (fun c5 => ?_) fun c5 => ?_
    · rw [if_pos c5] at q
      have ew := eq_w c5
      subst ew
      obtain ⟨x1, x2, x3, rfl⟩ := len3 (tag_len (by decide +kernel) ht)
      walk_at "mp_s"
      refine is_name_ok (hr _ (by simp)) ?_
      walk_at "mp_s"
      refine ite_cc (fun d1 => ?_) fun d1 => ?_
      · rw [show isName ([x1, x2, x3].getD 0 .non) = true from d1, Bool.true_and] at q
        walk_at "mp_s"
        refine is_small_ok (hr _ (by simp)) ?_
        walk_at "mp_s"
        refine ite_cc (fun d2 => ?_) fun d2 => ?_
        · rw [show inR (-999) 999 ([x1, x2, x3].getD 1 .non) = true from d2, Bool.true_and] at q
          walk_at "mp_s"
          exact ih1 m _ _ _ _ (hr _ (by simp)) hmn q
        · rw [show inR (-999) 999 ([x1, x2, x3].getD 1 .non) = false from d2, Bool.false_and] at q
          rw [d2]
          exact q
      · rw [show isName ([x1, x2, x3].getD 0 .non) = false from d1, Bool.false_and] at q
        rw [d1]
        exact q
    rw [if_neg (by rw [show (w == "at") = false from c5]; decide)] at q
    walk_at "mp_s"
    refine ite_cc (fun c6 => ?_) fun c6 => ?_
    · rw [if_pos c6] at q
      have ew := eq_w c6
      subst ew
      obtain ⟨x1, x2, x3, rfl⟩ := len3 (tag_len (by decide +kernel) ht)
      walk_at "mp_s"
      refine ih1 m _ _ _ _ (hr _ (by simp)) hmn ?_
      walk_at "mp_s"
      refine ite_cc (fun d1 => ?_) fun d1 => ?_
      · rw [show isE n ([x1, x2, x3].getD 0 .non) = true from d1, Bool.true_and] at q
        walk_at "mp_s"
        refine ih2 m _ _ _ _ (hr _ (by simp)) hmn ?_
        walk_at "mp_s"
        refine ite_cc (fun d2 => ?_) fun d2 => ?_
        · rw [show isC n ([x1, x2, x3].getD 1 .non) = true from d2, Bool.true_and] at q
          walk_at "mp_s"
          exact ih1 m _ _ _ _ (hr _ (by simp)) hmn q
        · rw [show isC n ([x1, x2, x3].getD 1 .non) = false from d2, Bool.false_and] at q
          rw [d2]
          exact q
      · rw [show isE n ([x1, x2, x3].getD 0 .non) = false from d1, Bool.false_and] at q
        rw [d1]
        exact q
    rw [if_neg (by rw [show (w == "cases") = false from c6]; decide)] at q
    walk_at "mp_s"
    have cut1 : cutL (D.str w :: r) (some 1) none = r := by
      unfold cutL HT.sIx
      simp
    rw [cut1]
    rw [show r = r.map id by simp]
    refine comp_map (id : D → D) (fun x => !isE n x) id r [] (fun x hx k hk => ?_) (fun x hx _ k hk => evV_i rfl hk) (by simpa using le_line1 hlen) ?_
    · refine bNot_i (bV_i (evCall_i (aCons_i (evV_i rfl (aNil_i ?_)))))
      exact ih1 m _ _ _ _ (hr x hx) hmn (onT_bl hk)
    walk_at "mp_s"
    refine gEqE_nil rfl ?_
    rw [List.nil_append, List.map_id, all_empty]
    exact q
end K02

set_option Elab.async false
set_option linter.all false
set_option maxRecDepth 100000
set_option maxHeartbeats 4100000
/-! what the mirrors compute: cases; expressions, all in all -/
namespace K02
open PySem PySem.Spec PyProof.Rows L2 MP
variable {A : Ad} {S : Store} {Q : Post} {E : XPost}
theorem inR_int {lo hi : Int} {d : D} (h : inR lo hi d = true) : ∃ i, d = .int i ∧ decide (lo ≤ i) = true ∧ decide (i ≤ hi) = true := by
  cases d with
  | int i =>
    have h' : (decide (lo ≤ i) && decide (i ≤ hi)) = true := h
    rw [Bool.and_eq_true] at h'
    exact ⟨i, rfl, h'⟩
  | _ => cases h
def lastD : Option Int → D
  | none => .non
  | some i => .int i
theorem cases_loop {n m : Nat} (ih1 : ∀ m d S Q E, okD m d → m < n → Q (.bl (isE n d)) S → r_is_expression A n [d] S Q E) (hm : m < n + 1) {N : DEnds} {x0 : Option D} (hnx : ∀ ρ, N.rt (.bl true) S → N.nx ρ S) : ∀ (ps : List D) (last : Option Int) (x2 : Option D),
    (∀ p ∈ ps, okD m p) → N.rt (.bl (casesOk (isE n) last ps)) S →
    loop (dgName 2) (dSeq (dIf (bOr (bNot (bV (evB (gIsi (subT A) (exT_ A)) (aCons (evV 2) (aCons (evC (.ty "tuple")) (aNil)))))) (bOr (bB (bin gNeE (evB gLen (aCons (evV 2) (aNil))) (evC (.int 2)))) (bOr (bNot (bV (evCall (r_is_small A) (aCons (bin gIx (evV 2) (evC (.int 0))) (aNil))))) (bNot (bV (evCall (r_is_expression A n) (aCons (bin gIx (evV 2) (evC (.int 1))) (aNil)))))))) (dRet (evC (.bl false))) (dNext)) (dSeq (dIf (bAnd (bB (bin gIsn (evV 1) (evC .non))) (bB (bin gLe (bin gIx (evV 2) (evC (.int 0))) (evV 1)))) (dRet (evC (.bl false))) (dNext)) (dSet 1 (bin gIx (evV 2) (evC (.int 0)))))) N ps [x0, some (lastD last), x2] S
  | [], last, x2, _, q => hnx _ q
  | p :: r, last, x2, h, q => by
    have hp := h p List.mem_cons_self
    have hv := hp.val
    refine loop_cons ?_
    cases p with
    | tup l =>
      obtain ⟨m, rfl⟩ : ∃ k, m = k + 1 := by
        cases m with
        | zero => exact hp.elim
        | succ k => exact ⟨k, rfl⟩
      match l, hp, q with
      | [], hp, q => walk_at "mp_s"; exact q
      | [a], hp, q => walk_at "mp_s"; exact q
      | a :: b :: c :: t, hp, q =>
        walk_at "mp_s"
        exact q
      | [a, b], hp, q =>
        have ha := hp.2 a (by simp)
        have hb := hp.2 b (by simp)
        walk_at "mp_s"
        refine is_small_ok ha ?_
        walk_at "mp_s"
        refine ite_cc (fun e1 => ?_) fun e1 => ?_
        · have e1' : inR (-999) 999 a = false := by simpa using e1
          have z : casesOk (isE n) last (.tup [a, b] :: r) = false := by
            cases a with
            | int i =>
              have e2 : (decide (-999 ≤ i) && decide (i ≤ 999)) = false := e1'
              show (decide (-999 ≤ i) && decide (i ≤ 999) && _) = false
              rw [e2, Bool.false_and]
            | _ => rfl
          rw [z] at q
          walk_at "mp_s"
          exact q
        have e1' : inR (-999) 999 a = true := by simpa using e1
        obtain ⟨i, rfl, i1, i2⟩ := inR_int e1'
        have z : casesOk (isE n) last (.tup [.int i, b] :: r) = (isE n b && (lastOk last i && casesOk (isE n) (some i) r)) := by
          show (decide (-999 ≤ i) && decide (i ≤ 999) && _) = _
          rw [i1, i2]
          rfl
        rw [z] at q
        walk_at "mp_s"
        refine ih1 m _ _ _ _ hb (by omega) ?_
        walk_at "mp_s"
        refine ite_cc (fun e2 => ?_) fun e2 => ?_
        · have e2' : isE n b = false := by simpa using e2
          rw [e2', Bool.false_and] at q
          walk_at "mp_s"
          exact q
        have e2' : isE n b = true := by simpa using e2
        rw [e2', Bool.true_and] at q
        cases last with
        | none =>
          walk_at "mp_s"
          exact cases_loop ih1 hm hnx r (some i) _ (fun p hp => h p (List.mem_cons_of_mem _ hp)) q
        | some l =>
          walk_at "mp_s"
          refine ite_cc (fun e3 => ?_) fun e3 => ?_
          · have q' : N.rt (.bl (!decide (i ≤ l) && casesOk (isE n) (some i) r)) S := q
            rw [show decide (i ≤ l) = _ from e3] at q'
            walk_at "mp_s"
            exact q'
          · have q' : N.rt (.bl (!decide (i ≤ l) && casesOk (isE n) (some i) r)) S := q
            rw [show decide (i ≤ l) = _ from e3] at q'
            walk_at "mp_s"
            exact cases_loop ih1 hm hnx r (some i) _ (fun p hp => h p (List.mem_cons_of_mem _ hp)) q'
    | _ => first | exact hv.elim | (walk_at "mp_s"; exact q)
theorem cases_ok (n : Nat) (ih1 : ∀ m d S Q E, okD m d → m < n → Q (.bl (isE n d)) S → r_is_expression A n [d] S Q E) (m : Nat) (d : D) (h : okD m d) (hm : m < n + 1) (q : Q (.bl (isC (n + 1) d)) S) : r_are_cases A (n + 1) [d] S Q E := by
  have hv := h.val
  rw [r_are_cases_eq]
  cases d with
  | tup ps =>
    obtain ⟨m, rfl⟩ : ∃ k, m = k + 1 := by
      cases m with
      | zero => exact h.elim
      | succ k => exact ⟨k, rfl⟩
    unfold isC at q
    cases ps with
    | nil => walk_at "mp_s"; exact q
    | cons p r =>
      walk_at "mp_s"
      exact cases_loop ih1 (m := m) (by omega) (fun ρ z => z) (p :: r) none none h.2 q
  | _ => first | exact hv.elim | (unfold isC at q; walk_at "mp_s"; exact q)
theorem both_ok : ∀ n : Nat, (∀ m d S Q E, okD m d → m < n → Q (.bl (isE n d)) S → r_is_expression A n [d] S Q E) ∧ (∀ m d S Q E, okD m d → m < n → Q (.bl (isC n d)) S → r_are_cases A n [d] S Q E)
  | 0 => ⟨fun m _ _ _ _ _ h _ => absurd h (Nat.not_lt_zero m), fun m _ _ _ _ _ h _ => absurd h (Nat.not_lt_zero m)⟩
  | n + 1 => by
    have ⟨i1, i2⟩ := both_ok n
    exact ⟨fun m d S Q E h hm q => expr_ok n i1 i2 m d h hm q, fun m d S Q E h hm q => cases_ok n i1 m d h hm q⟩
theorem is_expression_ok {n m : Nat} {d : D} (h : okD m d) (hm : m < n) (q : Q (.bl (isE n d)) S) : r_is_expression A n [d] S Q E := (both_ok n).1 m d S Q E h hm q
end K02

set_option Elab.async false
set_option linter.all false
set_option maxRecDepth 100000
set_option maxHeartbeats 4100000
/-! what the mirrors compute: parts of trees -/
namespace K02
open PySem PySem.Spec PyProof.Rows L2 MP
variable {A : Ad} {S : Store} {Q : Post} {E : XPost}
theorem comp_two {i j : Nat} {ρ : MP.Env} {t : EB} {f : ET} {K : List D → Store → Prop} (p : D × D → Bool) (out : D × D → D) : ∀ (xs : List (D × D)) (acc : List D),
    (∀ x ∈ xs, ∀ k : Bool → Store → Prop, k (p x) S → t (st (st ρ i (some x.1)) j (some x.2)) S k (fun _ _ => False)) →
    (∀ x ∈ xs, p x = true → ∀ k : Post, k (out x) S → f (st (st ρ i (some x.1)) j (some x.2)) S k (fun _ _ => False)) →
    acc.length + xs.length ≤ sizeLine → K (acc ++ (xs.filter p).map out) S → comp (dgTup 2 (dgCons (dgName i) (dgCons (dgName j) dgNil))) t f K (xs.map fun x => .tup [x.1, x.2]) acc ρ S
  | [], acc, _, _, _, q => by
    show K acc S
    simpa using q
  | x :: xs, acc, h1, h2, hl, q => by
    refine ⟨rfl, h1 x List.mem_cons_self _ ?_⟩
    have ih := fun acc => comp_two (K := K) p out xs acc (fun y hy => h1 y (List.mem_cons_of_mem _ hy)) (fun y hy => h2 y (List.mem_cons_of_mem _ hy))
    by_cases e : p x = true
    · refine ite_t e (h2 x List.mem_cons_self e _ ⟨by simp only [List.length_cons] at hl; omega, ih _ (by simp only [List.length_append, List.length_cons, List.length_nil] at hl ⊢; omega) ?_⟩)
      rw [List.filter_cons_of_pos e] at q
      simpa using q
    · refine ite_f (by simpa using e) (ih _ (by simp only [List.length_cons] at hl; omega) ?_)
      rw [List.filter_cons_of_neg e] at q
      exact q
/-! parts -/
def leafL : List D := [.str "number", .str "name", .str "item", .str "place"]
def leafW (w : Str) : Bool := inD (.str w) leafL || overRow w
def sndOf : D → D
  | .tup [_, e] => e
  | _ => .non
def tupOf : D → List D
  | .tup ps => ps
  | _ => []
def partsR (w : Str) (r : List D) : List D :=
  if leafW w = true then []
  else if (w == "at") = true then [r.getD 2 .non]
  else if (w == "cases") = true then r.getD 0 .non :: (tupOf (r.getD 1 .non)).map sndOf ++ [r.getD 2 .non]
  else r
theorem leaf_cases {w : Str} (h : inD (.str w) leafL = true) : w = "number" ∨ w = "name" ∨ w = "item" ∨ w = "place" := by
  have e : inD (.str w) leafL = (((Str.ofString "number" == w) || ((Str.ofString "name" == w) || ((Str.ofString "item" == w) || ((Str.ofString "place" == w) || false))))) := rfl
  rw [e] at h
  simp only [Bool.or_false, Bool.or_eq_true] at h
  rcases h with h | h | h | h
  · exact .inl (eq_of_beq h).symm
  · exact .inr (.inl (eq_of_beq h).symm)
  · exact .inr (.inr (.inl (eq_of_beq h).symm))
  · exact .inr (.inr (.inr (eq_of_beq h).symm))
theorem casesOk_mono {f g : D → Bool} (h : ∀ d, f d = true → g d = true) : ∀ (ps : List D) (last : Option Int), casesOk f last ps = true → casesOk g last ps = true
  | [], _, _ => rfl
  | p :: r, last, e => by
    unfold casesOk at e ⊢
    split at e
    · rename_i k x
      split at e
      · rename_i i
        simp only [Bool.and_eq_true] at e ⊢
        exact ⟨e.1, h _ e.2.1, e.2.2.1, casesOk_mono h r _ e.2.2.2⟩
      · cases e
    · cases e
theorem isE_tagd {n : Nat} {d : D} (h : isE (n + 1) d = true) : tag KS NS d = true := by
  cases ht : tag KS NS d with
  | true => rfl
  | false => rw [isE_tag ht] at h; cases h
theorem mono_both : ∀ n : Nat, (∀ d, isE n d = true → isE (n + 1) d = true) ∧ (∀ d, isC n d = true → isC (n + 1) d = true)
  | 0 => ⟨fun d h => (by unfold isE at h; cases h), fun d h => (by unfold isC at h; cases h)⟩
  | n + 1 => by
    have ⟨i1, i2⟩ := mono_both n
    refine ⟨fun d h => ?_, fun d h => ?_⟩
    · have ht := isE_tagd h
      obtain ⟨w, r, rfl⟩ := tag_tup ht
      rw [isE_eq ht] at h ⊢
      split at h
      · rename_i c; rw [if_pos c]; exact h
      rename_i c; rw [if_neg c]
      split at h
      · rename_i c; rw [if_pos c]; exact h
      rename_i c; rw [if_neg c]
      split at h
      · rename_i c; rw [if_pos c]; exact h
      rename_i c; rw [if_neg c]
      split at h
      · rename_i c; rw [if_pos c]
        simp only [Bool.and_eq_true] at h ⊢
        exact ⟨h.1, h.2.1, i1 _ h.2.2⟩
      rename_i c; rw [if_neg c]
      split at h
      · rename_i c; rw [if_pos c]
        simp only [Bool.and_eq_true] at h ⊢
        exact ⟨i1 _ h.1, i2 _ h.2.1, i1 _ h.2.2⟩
      rename_i c; rw [if_neg c]
      rw [List.all_eq_true] at h ⊢
      exact fun x hx => i1 x (h x hx)
    · match d, h with
      | .tup ps, h =>
        unfold isC at h ⊢
        simp only [Bool.and_eq_true] at h ⊢
        exact ⟨h.1, casesOk_mono i1 ps _ h.2⟩
      | .non, h => unfold isC at h; cases h
      | .bl _, h => unfold isC at h; cases h
      | .int _, h => unfold isC at h; cases h
      | .str _, h => unfold isC at h; cases h
      | .ty _, h => unfold isC at h; cases h
      | .ref _, h => unfold isC at h; cases h
      | .exn _ _ _ _, h => unfold isC at h; cases h
      | .lst _, h => unfold isC at h; cases h
      | .kls _, h => unfold isC at h; cases h
      | .dct _ _, h => unfold isC at h; cases h
theorem casesOk_snd {f : D → Bool} : ∀ {ps : List D} {last : Option Int}, casesOk f last ps = true → ∀ p ∈ ps, ∃ k e, p = .tup [k, e] ∧ f e = true ∧ ∃ i, k = .int i
  | [], _, _, p, hp => by cases hp
  | p :: r, last, h, x, hx => by
    unfold casesOk at h
    split at h
    · rename_i k y
      split at h
      · rename_i i
        simp only [Bool.and_eq_true] at h
        rcases List.mem_cons.1 hx with rfl | hx
        · exact ⟨_, _, rfl, h.2.1, i, rfl⟩
        · exact casesOk_snd h.2.2.2 x hx
      · cases h
    · cases h
/-- the parts of an expression are expressions -/
theorem parts_isE {n : Nat} {w : Str} {r : List D} (h : isE (n + 1) (.tup (.str w :: r)) = true) : ∀ p ∈ partsR w r, isE n p = true := by
  have ht := isE_tagd h
  rw [isE_eq ht] at h
  intro p hp
  unfold partsR at hp
  split at hp
  · cases hp
  rename_i c0
  have nl : inD (.str w) leafL = false ∧ overRow w = false := by
    have : leafW w = false := by simpa using c0
    unfold leafW at this
    simpa using this
  have neq : ∀ s : Str, inD (.str s) leafL = true → (w == s) = false := fun s hs => by
    cases e : w == s with
    | false => rfl
    | true => rw [eq_of_beq e, hs] at nl; cases nl.1
  rw [if_neg (by rw [neq "number" (by decide +kernel)]; decide), if_neg (by rw [neq "name" (by decide +kernel), nl.2]; decide), if_neg (by rw [neq "item" (by decide +kernel)]; decide)] at h
  split at hp
  · rename_i c
    rw [if_pos c] at h
    simp only [Bool.and_eq_true] at h
    rw [List.mem_singleton] at hp
    subst hp
    exact h.2.2
  rename_i c
  rw [if_neg c] at h
  split at hp
  · rename_i c
    rw [if_pos c] at h
    simp only [Bool.and_eq_true] at h
    rcases List.mem_append.1 hp with hp | hp
    · rcases List.mem_cons.1 hp with rfl | hp
      · exact h.1
      · obtain ⟨x, hx, rfl⟩ := List.mem_map.1 hp
        cases n with
        | zero => have := h.1; unfold isE at this; cases this
        | succ n =>
          have hc := h.2.1
          cases e1 : r.getD 1 .non with
          | tup ps =>
            rw [e1] at hc hx
            unfold isC at hc
            simp only [Bool.and_eq_true] at hc
            obtain ⟨k, e, rfl, he, -⟩ := casesOk_snd hc.2 x hx
            exact (mono_both n).1 _ he
          | _ => rw [e1] at hx; cases hx
    · rw [List.mem_singleton] at hp
      subst hp
      exact h.2.2
  rename_i c
  rw [if_neg c, List.all_eq_true] at h
  exact h p hp
/-! parts_of -/
theorem iRange2_i {fa : EA} {ρ : MP.Env} {QA : List D → Store → Prop} (q : fa ρ S (fun ds S1 => match ds with
  | [.int i, .int j] => (-(2 ^ 62) ≤ i ∧ i < 2 ^ 62 ∧ -(2 ^ 62) ≤ j ∧ j < 2 ^ 62) ∧ QA (rangeD i (j - i).toNat) S1
  | _ => False) E) : iRange2 fa ρ S QA E := q
theorem iEnumD_i {fa : EA} {ρ : MP.Env} {QA : List D → Store → Prop} (q : fa ρ S (fun ds S1 => match ds with
  | [d] => onTup d fun xs => QA (enumD 0 xs) S1
  | _ => False) E) : iEnumD fa ρ S QA E := q
theorem onTup_i {ds : List D} {k : List D → Prop} (q : k ds) : onTup (.tup ds) k := q
def enumI (k : Nat) : List D → List (D × D)
  | [] => []
  | d :: r => (.int (k : Nat), d) :: enumI (k + 1) r
theorem enumI_eq (k : Nat) : ∀ ds : List D, enumD k ds = (enumI k ds).map fun x => .tup [x.1, x.2]
  | [] => rfl
  | d :: r => by rw [enumD, enumI, enumI_eq (k + 1) r]; rfl
theorem enumI_mem (k : Nat) : ∀ (ds : List D) (x : D × D), x ∈ enumI k ds → x.2 ∈ ds
  | [], x, h => by cases h
  | d :: r, x, h => by
    rcases List.mem_cons.1 h with rfl | h
    · exact List.mem_cons_self
    · exact List.mem_cons_of_mem _ (enumI_mem (k + 1) r x h)
theorem enumI_len (k : Nat) : ∀ ds : List D, (enumI k ds).length = ds.length
  | [] => rfl
  | d :: r => congrArg (· + 1) (enumI_len (k + 1) r)
theorem enumI_snd (k : Nat) (f : D × D → D) : ∀ ds : List D, ((enumI k ds).map fun x => D.tup [f x, sndOf x.2]) = (((enumI k ds).map f).zip (ds.map sndOf)).map fun x => .tup [x.1, x.2]
  | [] => rfl
  | d :: r => by
    simp only [enumI, List.map_cons, List.zip_cons_cons]
    rw [enumI_snd (k + 1) f r]
/-- pairs of a step and a part -/
def stepsOf (ss ps : List D) : List D := (ss.zip ps).map fun x => .tup [x.1, x.2]
theorem over_mem {w : Str} (q : Q (.bl (overRow w)) S) : gInC false (.str w) c_OVER_ROWS S Q := inC_tup rfl (by decide) q
theorem parts_of_ok {n m : Nat} {w : Str} {r : List D} (h : isE (n + 1) (.tup (.str w :: r)) = true) (hd : okD m (.tup (.str w :: r))) (q : ∀ ss : List D, ss.length = (partsR w r).length → Q (.lst (stepsOf ss (partsR w r))) S) : r_parts_of A [.tup (.str w :: r)] S Q E := by
  have ht := isE_tagd h
  have hE := h
  rw [isE_eq ht] at h
  unfold r_parts_of
  walk_at "mp_s"
  refine gIx_t at_0 ?_
  walk_at "mp_s"
  refine inC_tup rfl (by decide) ?_
  show onBl (.bl (inD (.str w) leafL)) _
  refine onBl_i (ite_cc (fun c1 => ?_) fun c1 => ?_)
  · have e : partsR w r = [] := by unfold partsR; rw [if_pos (by unfold leafW; rw [c1]; rfl)]
    rw [e] at q
    walk_at "mp_s"
    exact q [] rfl
  refine bB_i (bin_i (evV_i rfl (evC_i (over_mem ?_))))
  refine onBl_i (ite_cc (fun c2 => ?_) fun c2 => ?_)
  · have e : partsR w r = [] := by unfold partsR; rw [if_pos (by unfold leafW; rw [c2, Bool.or_true])]
    rw [e] at q
    walk_at "mp_s"
    exact q [] rfl
  have nleaf : leafW w = false := by unfold leafW; rw [c1, c2]; rfl
  walk_at "mp_s"
  refine ite_cc (fun c3 => ?_) fun c3 => ?_
  · have ew := eq_w c3
    subst ew
    obtain ⟨x1, x2, x3, rfl⟩ := len3 (tag_len (by decide +kernel) ht)
    have e : partsR "at" [x1, x2, x3] = [x3] := by unfold partsR; rw [if_neg (by rw [nleaf]; decide), if_pos c3]; rfl
    rw [e] at q
    walk_at "mp_s"
    exact q [.tup [.int 3]] rfl
  walk_at "mp_s"
  refine ite_cc (fun c4 => ?_) fun c4 => ?_
  · have ew := eq_w c4
    subst ew
    obtain ⟨x1, x2, x3, rfl⟩ := len3 (tag_len (by decide +kernel) ht)
    have hc : isC n x2 = true := by
      rw [if_neg (by decide +kernel), if_neg (by decide +kernel), if_neg (by decide +kernel), if_neg (by decide +kernel), if_pos c4] at h
      simp only [Bool.and_eq_true] at h
      exact h.2.1
    obtain ⟨ps, rfl, hk⟩ : ∃ ps, x2 = .tup ps ∧ ∃ l, casesOk (isE l) none ps = true := by
      cases n with
      | zero => unfold isC at hc; cases hc
      | succ l =>
        cases x2 with
        | tup ps =>
          unfold isC at hc
          simp only [Bool.and_eq_true] at hc
          exact ⟨ps, rfl, l, hc.2⟩
        | _ => unfold isC at hc; cases hc
    obtain ⟨l, hk⟩ := hk
    have psl : ps.length ≤ 1000 := by
      match m, hd with
      | m + 1, hd =>
        have h2 := hd.2 (.tup ps) (by simp)
        match m, h2 with
        | m + 1, h2 => exact h2.1
        | 0, h2 => exact h2.elim
      | 0, hd => exact hd.elim
    have e : partsR "cases" [x1, .tup ps, x3] = x1 :: ps.map sndOf ++ [x3] := by unfold partsR; rw [if_neg (by rw [nleaf]; decide), if_neg (by decide +kernel), if_pos c4]; rfl
    rw [e] at q
    walk_at "mp_s"
    refine iEnumD_i ?_
    walk_at "mp_s"
    refine onTup_i ?_
    rw [enumI_eq]
    refine comp_two (fun _ => true) (fun x => .tup [.tup [.int 2, x.1, .int 1], sndOf x.2]) (enumI 0 ps) [] (fun x _ k hk => hk) (fun x hx _ k hk2 => ?_) (by rw [enumI_len]; simpa using le_line1 psl) ?_
    · obtain ⟨kk, ee, ex, -, -⟩ := casesOk_snd hk x.2 (enumI_mem 0 ps x hx)
      rw [ex] at hk2
      walk_at "mp_s"
      rw [ex]
      walk_at "mp_s"
      exact hk2
    rw [List.nil_append, List.filter_eq_self.mpr (fun _ _ => rfl)]
    have lz : ((enumI 0 ps).map fun x => D.tup [.tup [.int 2, x.1, .int 1], sndOf x.2]).length = ps.length := by rw [List.length_map, enumI_len]
    walk_at "mp_s"
    refine gAddT_l (by rw [lz]; exact Nat.le_trans (Nat.add_le_add_left psl 1) (by decide)) ?_
    walk_at "mp_s"
    refine gAddT_l (by rw [List.length_append, lz]; exact Nat.le_trans (Nat.add_le_add_right (Nat.add_le_add_left psl 1) 1) (by decide)) ?_
    refine mkF_i ?_
    have z := q (.tup [.int 1] :: (enumI 0 ps).map (fun x => .tup [.int 2, x.1, .int 1]) ++ [.tup [.int 3]]) (by simp [enumI_len])
    have e2 : stepsOf (.tup [.int 1] :: (enumI 0 ps).map (fun x => .tup [.int 2, x.1, .int 1]) ++ [.tup [.int 3]]) (x1 :: ps.map sndOf ++ [x3]) = [.tup [.tup [.int 1], x1]] ++ ((enumI 0 ps).map fun x => D.tup [.tup [.int 2, x.1, .int 1], sndOf x.2]) ++ [.tup [.tup [.int 3], x3]] := by
      unfold stepsOf
      rw [enumI_snd 0 (fun x => .tup [.int 2, x.1, .int 1]) ps, List.zip_append (by simp [enumI_len])]
      simp
    rw [e2] at z
    exact z
  · have e : partsR w r = r := by unfold partsR; rw [if_neg (by rw [nleaf]; decide), if_neg (by rw [show (w == "at") = false from c3]; decide), if_neg (by rw [show (w == "cases") = false from c4]; decide)]
    rw [e] at q
    walk_at "mp_s"
    have rl : r.length ≤ 1000 := by
      match m, hd with
      | m + 1, hd => have := hd.1; simp only [List.length_cons] at this; omega
      | 0, hd => exact hd.elim
    refine iRange2_i ?_
    walk_at "mp_s"
    have ln : (((D.str w :: r).length : Int) - 1).toNat = r.length := by simp
    refine ⟨⟨by decide, by decide, by simp only [List.length_cons]; omega, by simp only [List.length_cons]; omega⟩, ?_⟩
    rw [ln]
    refine comp_all (fun k : Nat => D.int (1 + k)) (fun k => .tup [.tup [.int (1 + k)], r.getD k .non]) (List.range r.length) (fun k hk c hc => ?_) (by simpa using le_line1 rl) ?_
    · have hk' : k < r.length := List.mem_range.1 hk
      walk_at "mp_s"
      have ek : atI (D.str w :: r) (1 + (k : Int)) = some (r.getD k .non) := by
        have := at_k (xs := D.str w :: r) (k := k + 1) (x := r.getD k .non) (by rw [List.getElem?_cons_succ, List.getElem?_eq_getElem hk']; simp [hk'])
        rw [show (1 + (k : Int)) = ((k + 1 : Nat) : Int) by omega]
        exact this
      refine gIx_t ek ?_
      walk_at "mp_s"
      exact hc
    refine mkF_i ?_
    have z := q ((List.range r.length).map fun k : Nat => .tup [.int (1 + k)]) (by simp)
    have e2 : stepsOf ((List.range r.length).map fun k : Nat => .tup [.int (1 + k)]) r = (List.range r.length).map fun k : Nat => D.tup [.tup [.int (1 + k)], r.getD k .non] := by
      unfold stepsOf
      apply List.ext_getElem
      · simp
      · intro i h1 h2
        have hi : i < r.length := by simpa using h2
        simp [hi]
    rw [e2] at z
    exact z
end K02

set_option Elab.async false
set_option linter.all false
set_option maxRecDepth 100000
set_option maxHeartbeats 4100000
/-! what the mirrors compute: places, inputs, cells, sheets -/
namespace K02
open PySem PySem.Spec PyProof.Rows L2 MP
variable {A : Ad} {S : Store} {Q : Post} {E : XPost}
def placeL : List D := [.str "place", .str "at"]
def hasP : Nat → D → Bool
  | 0, _ => false
  | n + 1, .tup (.str w :: r) => inD (.str w) placeL || (partsR w r).any (hasP n)
  | _ + 1, _ => false
theorem parts_okD {n m : Nat} {w : Str} {r : List D} (h : isE (n + 1) (.tup (.str w :: r)) = true) (hd : okD (m + 1) (.tup (.str w :: r))) : ∀ p ∈ partsR w r, okD m p := by
  have ht := isE_tagd h
  rw [isE_eq ht] at h
  have hr : ∀ x ∈ r, okD m x := fun x hx => hd.2 x (List.mem_cons_of_mem _ hx)
  have hg : ∀ i, okD m (r.getD i .non) := fun i => by
    by_cases hi : i < r.length
    · rw [List.getD_eq_getElem?_getD, List.getElem?_eq_getElem hi]
      exact hr _ (List.getElem_mem hi)
    · rw [List.getD_eq_getElem?_getD, List.getElem?_eq_none (by omega)]
      cases m <;> trivial
  intro p hp
  unfold partsR at hp
  split at hp
  · cases hp
  rename_i c0
  split at hp
  · rw [List.mem_singleton] at hp; subst hp; exact hg 2
  rename_i c1
  split at hp
  · rename_i c2
    rcases List.mem_append.1 hp with hp | hp
    · rcases List.mem_cons.1 hp with rfl | hp
      · exact hg 0
      · have ew := eq_w c2
        subst ew
        rw [if_neg (by decide +kernel), if_neg (by decide +kernel), if_neg (by decide +kernel), if_neg (by decide +kernel), if_pos c2] at h
        simp only [Bool.and_eq_true] at h
        obtain ⟨x, hx, rfl⟩ := List.mem_map.1 hp
        have hc := h.2.1
        have ho := hg 1
        cases e1 : r.getD 1 .non with
        | tup ps =>
          rw [e1] at hc hx ho
          cases n with
          | zero => unfold isC at hc; cases hc
          | succ n =>
            unfold isC at hc
            simp only [Bool.and_eq_true] at hc
            obtain ⟨k, e, rfl, -, -⟩ := casesOk_snd hc.2 x hx
            match m, ho with
            | m + 1, ho =>
              have h2 := ho.2 _ hx
              match m, h2 with
              | m + 1, h2 => exact okD.mono (by omega) (h2.2 e (by simp))
              | 0, h2 => exact h2.elim
            | 0, ho => exact ho.elim
        | _ => rw [e1] at hx; cases hx
    · rw [List.mem_singleton] at hp; subst hp; exact hg 2
  · exact hr p hp
theorem parts_len {n m : Nat} {w : Str} {r : List D} (h : isE (n + 1) (.tup (.str w :: r)) = true) (hd : okD (m + 1) (.tup (.str w :: r))) : (partsR w r).length ≤ 1002 := by
  have hr : ∀ x ∈ r, okD m x := fun x hx => hd.2 x (List.mem_cons_of_mem _ hx)
  have hl := hd.1
  simp only [List.length_cons] at hl
  unfold partsR
  split
  · simp
  split
  · simp
  split
  · simp only [List.length_append, List.length_cons, List.length_map, List.length_nil]
    have : (tupOf (r.getD 1 .non)).length ≤ 1000 := by
      by_cases hi : 1 < r.length
      · have e : r.getD 1 .non = r[1] := by rw [List.getD_eq_getElem?_getD, List.getElem?_eq_getElem hi]; rfl
        rw [e]
        have ho := hr _ (List.getElem_mem hi)
        cases e2 : r[1] with
        | tup ps =>
          rw [e2] at ho
          cases m with
          | zero => exact ho.elim
          | succ m => exact ho.1
        | _ => exact Nat.zero_le _
      · rw [List.getD_eq_getElem?_getD, List.getElem?_eq_none (by omega)]
        exact Nat.zero_le _
    omega
  · omega
theorem any_filter {α : Type} (p : α → Bool) (l : List α) : (!(l.filter p).isEmpty) = l.any p := by
  induction l with
  | nil => rfl
  | cons a r ih =>
    rw [List.any_cons]
    cases h : p a with
    | true => rw [List.filter_cons_of_pos h]; rfl
    | false => rw [List.filter_cons_of_neg (by simp [h]), ih]; rfl
theorem zip_any {ss ps : List D} (h : ss.length = ps.length) (p : D → Bool) : (!(((ss.zip ps).filter fun x => p x.2).map fun x => x.2).isEmpty) = ps.any p := by
  rw [List.isEmpty_map, any_filter]
  have e : (ss.zip ps).any (fun x => p x.2) = ((ss.zip ps).map (·.2)).any p := by rw [List.any_map]; rfl
  rw [e, List.map_snd_zip (by omega)]
theorem has_place_ok : ∀ (n m l : Nat) (d : D) (S : Store) (Q : Post) (E : XPost), okD m d → isE l d = true → m < n → Q (.bl (hasP n d)) S → r_has_place A n [d] S Q E
  | 0, m, _, _, _, _, _, _, _, hm, _ => absurd hm (Nat.not_lt_zero m)
  | n + 1, m, 0, d, _, _, _, _, h, _, _ => by unfold isE at h; cases h
  | n + 1, m, l + 1, d, S, Q, E, ho, h, hm, q => by
    obtain ⟨w, r, rfl⟩ := tag_tup (isE_tagd h)
    obtain ⟨m, rfl⟩ : ∃ k, m = k + 1 := by
      cases m with
      | zero => exact ho.elim
      | succ k => exact ⟨k, rfl⟩
    have q' : Q (.bl (inD (.str w) placeL || (partsR w r).any (hasP n))) S := q
    rw [r_has_place_eq]
    walk_at "mp_s"
    refine gIx_t at_0 ?_
    walk_at "mp_s"
    refine inC_tup rfl (by decide) ?_
    show onT (.bl (inD (.str w) placeL)) S _
    refine onT_bl (ite_cc (fun c => ?_) fun c => ?_)
    · show Q (.bl (inD (.str w) placeL)) S
      rw [c] at q' ⊢
      exact q'
    rw [c, Bool.false_or] at q'
    walk_at "mp_s"
    refine parts_of_ok (m := m + 1) h ho fun ss hss => ?_
    walk_at "mp_s"
    unfold stepsOf
    refine comp_two (fun x => hasP n x.2) (fun x => x.2) (ss.zip (partsR w r)) [] (fun x hx k hk => ?_) (fun x hx _ k hk => evV_i rfl hk) ?_ ?_
    · have hp : x.2 ∈ partsR w r := (List.of_mem_zip hx).2
      refine bV_i (evCall_i (aCons_i (evV_i rfl (aNil_i ?_))))
      exact has_place_ok n m l x.2 _ _ _ (parts_okD h ho _ hp) (parts_isE h _ hp) (by omega) (onT_bl hk)
    · have := parts_len h ho
      rw [List.length_zip]
      exact Nat.le_trans (Nat.add_le_add_left (Nat.le_trans (Nat.min_le_right _ _) this) _) (by decide)
    walk_at "mp_s"
    refine gNeE_nil rfl ?_
    rw [List.nil_append, zip_any hss]
    exact q'
def isPL (d : D) : Bool := isE 60 d && !hasP 60 d
theorem placeless_ok {m : Nat} {d : D} (h : okD m d) (hm : m < 60) (q : Q (.bl (isPL d)) S) : r_is_placeless A [d] S Q E := by
  unfold r_is_placeless
  walk_at "mp_s"
  refine is_expression_ok h hm ?_
  have q' : Q (.bl (isE 60 d && !hasP 60 d)) S := q
  refine onT_bl (ite_cc (fun c => ?_) fun c => ?_)
  · rw [c, Bool.true_and] at q'
    walk_at "mp_s"
    refine has_place_ok 60 m 60 d _ _ _ h c hm ?_
    walk_at "mp_s"
    exact q'
  · rw [c, Bool.false_and] at q'
    rw [c]
    exact q'
def isInput (d : D) : Bool := tag (kW ["input"]) [4] d && match d with
  | .tup (_ :: r) => isName (r.getD 0 .non) && rngOk (r.getD 1 .non) (r.getD 2 .non)
  | _ => false
def isCell (d : D) : Bool := tag (kW ["cell", "row", "settle"]) [3, 4, 6] d && match d with
  | .tup (.str w :: r) => isName (r.getD 0 .non) && (if (w == "cell") = true then isPL (r.getD 1 .non) else if (w == "row") = true then inR 1 9 (r.getD 1 .non) && isE 60 (r.getD 2 .non) else rngOk (r.getD 1 .non) (r.getD 2 .non) && (isPL (r.getD 3 .non) && isPL (r.getD 4 .non)))
  | _ => false
def isFilled (f : D → Bool) : D → Bool
  | .tup xs => !xs.isEmpty && xs.all f
  | _ => false
def isSheet (d : D) : Bool := tag (kW ["sheet"]) [3] d && match d with
  | .tup (_ :: r) => isFilled isInput (r.getD 0 .non) && isFilled isCell (r.getD 1 .non)
  | _ => false
end K02

set_option Elab.async false
set_option linter.all false
set_option maxRecDepth 100000
set_option maxHeartbeats 4100000
/-! what the mirrors compute: inputs, cells, sheets -/
namespace K02
open PySem PySem.Spec PyProof.Rows L2 MP
variable {A : Ad} {S : Store} {Q : Post} {E : XPost}
theorem tagN {ks : List Key} {ns : List Int} {w : Str} {r : List D} {k : Int} (e : szLook ks ns (.inr w) = k) (h : tag ks ns (.tup (.str w :: r)) = true) : k = (r.length : Int) + 1 := by
  have h2 : (szLook ks ns (.inr w) == ((D.str w :: r).length : Int)) = true := h
  rw [e] at h2
  have := eq_of_beq h2
  rw [this]
  simp
theorem sz1 {a : Str} {n : Int} {w : Str} : szLook [.inr a] [n] (.inr w) = if a = w then n else 0 := by
  unfold szLook
  by_cases h : a = w
  · rw [if_pos (by rw [h]), if_pos h]
  · rw [if_neg (fun z => h (Sum.inr.inj z)), if_neg h]; rfl
theorem tag_one {a : Str} {n : Int} {d : D} (h : tag [.inr a] [n] d = true) (hn : 0 < n) : ∃ r, d = .tup (.str a :: r) ∧ n = (r.length : Int) + 1 := by
  obtain ⟨w, r, rfl⟩ := tag_tup h
  by_cases e : a = w
  · subst e
    exact ⟨r, rfl, tagN (by rw [sz1, if_pos rfl]) h⟩
  · have := tagN (k := 0) (by rw [sz1, if_neg e]) h
    omega
theorem input_ok {m : Nat} {d : D} (h : okD m d) (q : Q (.bl (isInput d)) S) : r_is_input A [d] S Q E := by
  unfold r_is_input
  walk_at "mp_s"
  refine tagged_ok (ks := kW ["input"]) (ns := [4]) h ?_
  refine onT_bl (ite_cc (fun c => ?_) fun c => ?_)
  · obtain ⟨r, rfl, hr⟩ := tag_one c (by decide)
    obtain ⟨x1, x2, x3, rfl⟩ := len3 hr
    obtain ⟨m, rfl⟩ : ∃ k, m = k + 1 := by
      cases m with
      | zero => exact h.elim
      | succ k => exact ⟨k, rfl⟩
    have q' : Q (.bl (isName x1 && rngOk x2 x3)) S := by
      have q2 : Q (.bl (tag (kW ["input"]) [4] (.tup [.str "input", x1, x2, x3]) && (isName x1 && rngOk x2 x3))) S := q
      rw [c, Bool.true_and] at q2
      exact q2
    have hx : ∀ x ∈ [x1, x2, x3], okD m x := fun x hx => h.2 x (List.mem_cons_of_mem _ hx)
    walk_at "mp_s"
    refine is_name_ok (hx x1 (by simp)) ?_
    refine onT_bl (ite_cc (fun c2 => ?_) fun c2 => ?_)
    · rw [c2, Bool.true_and] at q'
      walk_at "mp_s"
      exact range_ok (hx x2 (by simp)) (hx x3 (by simp)) q'
    · rw [c2, Bool.false_and] at q'
      rw [c2]
      exact q'
  · have z : isInput d = false := by unfold isInput; rw [c, Bool.false_and]
    rw [z] at q
    rw [c]
    exact q
theorem sz3 {w : Str} : szLook (kW ["cell", "row", "settle"]) [3, 4, 6] (.inr w) = if w = "cell" then 3 else if w = "row" then 4 else if w = "settle" then 6 else 0 := by
  show (if (.inr (Str.ofString "cell") : Key) = .inr w then 3 else if (.inr (Str.ofString "row") : Key) = .inr w then 4 else if (.inr (Str.ofString "settle") : Key) = .inr w then 6 else 0) = _
  have f : ∀ s : Str, ((.inr s : Key) = .inr w) = (w = s) := fun s => propext ⟨fun z => (Sum.inr.inj z).symm, fun z => by rw [z]⟩
  simp only [f]
theorem len5 {r : List D} (h : (6 : Int) = (r.length : Int) + 1) : ∃ a b c d e, r = [a, b, c, d, e] := by
  match r, h with
  | [a, b, c, d, e], _ => exact ⟨a, b, c, d, e, rfl⟩
  | [], h => simp at h
  | [_], h => simp at h
  | [_, _], h => simp at h
  | [_, _, _], h => simp at h
  | [_, _, _, _], h => simp at h
  | _ :: _ :: _ :: _ :: _ :: _ :: _, h => simp at h; omega
theorem cell_ok {m : Nat} {d : D} (h : okD m d) (hm : m < 60) (q : Q (.bl (isCell d)) S) : r_is_cell A [d] S Q E := by
  unfold r_is_cell
  walk_at "mp_s"
  refine tagged_ok (ks := kW ["cell", "row", "settle"]) (ns := [3, 4, 6]) h ?_
  walk_at "mp_s"
  cases c : tag (kW ["cell", "row", "settle"]) [3, 4, 6] d with
  | false =>
    have z : isCell d = false := by unfold isCell; rw [c, Bool.false_and]
    rw [z] at q
    walk_at "mp_s"
    exact q
  | true =>
    obtain ⟨w, r, rfl⟩ := tag_tup c
    obtain ⟨m, rfl⟩ : ∃ k, m = k + 1 := by
      cases m with
      | zero => exact h.elim
      | succ k => exact ⟨k, rfl⟩
    have hx : ∀ x ∈ r, okD m x := fun x hx => h.2 x (List.mem_cons_of_mem _ hx)
    have q' : Q (.bl (isName (r.getD 0 .non) && (if (w == "cell") = true then isPL (r.getD 1 .non) else if (w == "row") = true then inR 1 9 (r.getD 1 .non) && isE 60 (r.getD 2 .non) else rngOk (r.getD 1 .non) (r.getD 2 .non) && (isPL (r.getD 3 .non) && isPL (r.getD 4 .non))))) S := by
      have e : isCell (.tup (.str w :: r)) = (tag (kW ["cell", "row", "settle"]) [3, 4, 6] (.tup (.str w :: r)) && (isName (r.getD 0 .non) && (if (w == "cell") = true then isPL (r.getD 1 .non) else if (w == "row") = true then inR 1 9 (r.getD 1 .non) && isE 60 (r.getD 2 .non) else rngOk (r.getD 1 .non) (r.getD 2 .non) && (isPL (r.getD 3 .non) && isPL (r.getD 4 .non))))) := rfl
      rw [e, c, Bool.true_and] at q
      exact q
    have sz := sz3 (w := w)
    by_cases w1 : w = "cell"
    · subst w1
      obtain ⟨x1, x2, rfl⟩ := len2 (tagN (by rw [sz, if_pos rfl]) c)
      walk_at "mp_s"
      refine is_name_ok (hx x1 (by simp)) ?_
      walk_at "mp_s"
      cases c2 : isName x1 with
      | false =>
        have q2 : Q (.bl (isName x1 && isPL x2)) S := q'
        rw [c2] at q2
        walk_at "mp_s"
        exact q2
      | true =>
        have q2 : Q (.bl (isName x1 && isPL x2)) S := q'
        rw [c2] at q2
        walk_at "mp_s"
        exact placeless_ok (hx x2 (by simp)) (by omega) q2
    rw [if_neg w1] at sz
    by_cases w2 : w = "row"
    · subst w2
      obtain ⟨x1, x2, x3, rfl⟩ := len3 (tagN (by rw [sz, if_pos rfl]) c)
      walk_at "mp_s"
      refine is_name_ok (hx x1 (by simp)) ?_
      walk_at "mp_s"
      have q2 : Q (.bl (isName x1 && (inR 1 9 x2 && isE 60 x3))) S := q'
      cases c2 : isName x1 with
      | false =>
        rw [c2] at q2
        walk_at "mp_s"
        exact q2
      | true =>
        rw [c2] at q2
        walk_at "mp_s"
        refine lies_ok (hx x2 (by simp)) ?_
        refine onT_bl (ite_cc (fun c3 => ?_) fun c3 => ?_)
        · rw [c3] at q2
          walk_at "mp_s"
          exact is_expression_ok (hx x3 (by simp)) (by omega) q2
        · rw [c3] at q2 ⊢
          exact q2
    rw [if_neg w2] at sz
    by_cases w3 : w = "settle"
    · subst w3
      obtain ⟨x1, x2, x3, x4, x5, rfl⟩ := len5 (tagN (by rw [sz, if_pos rfl]) c)
      walk_at "mp_s"
      refine is_name_ok (hx x1 (by simp)) ?_
      walk_at "mp_s"
      have q2 : Q (.bl (isName x1 && (rngOk x2 x3 && (isPL x4 && isPL x5)))) S := q'
      cases c2 : isName x1 with
      | false =>
        rw [c2] at q2
        walk_at "mp_s"
        exact q2
      | true =>
        rw [c2] at q2
        walk_at "mp_s"
        refine range_ok (hx x2 (by simp)) (hx x3 (by simp)) ?_
        show onT (.bl (rngOk x2 x3)) S _
        refine onT_bl (ite_cc (fun c3 => ?_) fun c3 => ?_)
        · rw [c3] at q2
          walk_at "mp_s"
          refine placeless_ok (hx x4 (by simp)) (by omega) ?_
          refine onT_bl (ite_cc (fun c4 => ?_) fun c4 => ?_)
          · rw [c4] at q2
            walk_at "mp_s"
            exact placeless_ok (hx x5 (by simp)) (by omega) q2
          · rw [c4] at q2 ⊢
            exact q2
        · rw [c3] at q2
          show Q (.bl (rngOk x2 x3)) S
          rw [c3]
          exact q2
    · rw [if_neg w3] at sz
      have := tagN (k := 0) sz c
      omega
end K02

set_option Elab.async false
set_option linter.all false
set_option maxRecDepth 100000
set_option maxHeartbeats 4100000
/-! what the mirrors compute: the draws -/
namespace K02
open PySem PySem.Spec PyProof.Rows L2 MP
variable {A : Ad} {S : Store} {Q : Post} {E : XPost}
def dks : List Key := [.inr "wide", .inr "cells", .inr "rest", .inr "turn"]
def box (w : Addr) (cs : List Int) (rest turn : Int) : SO := .dct dks [.ref w, .lst (cs.map .int), .int rest, .int turn]
/-- a draw that stands at a, its wide numbers at w; n numbers at most were mixed -/
structure Dr (S : Store) (a w : Addr) (n : Nat) : Prop where
  ne : a ≠ w
  box : ∃ (cs : List Int) (rest turn : Int), S a = some (box w cs rest turn) ∧ (∀ c ∈ cs, 0 ≤ c ∧ c < 2147483629) ∧ 0 ≤ rest ∧ 0 ≤ turn ∧ turn ≤ n
  wide : ∃ ws : List Int, S w = some (.lst (ws.map .int)) ∧ ∀ x ∈ ws, 0 ≤ x
def Same (S S' : Store) (a w : Addr) : Prop := ∀ b, b ≠ a → b ≠ w → S' b = S b
theorem Same.refl (S : Store) (a w : Addr) : Same S S a w := fun _ _ _ => rfl
theorem Same.trans {S S1 S2 : Store} {a w : Addr} (h : Same S S1 a w) (k : Same S1 S2 a w) : Same S S2 a w := fun b x y => (k b x y).trans (h b x y)
theorem Dr.mono {S : Store} {a w : Addr} {n m : Nat} (h : Dr S a w n) (l : n ≤ m) : Dr S a w m := ⟨h.ne, by
  obtain ⟨cs, r, t, e, c, r0, t0, tn⟩ := h.box
  exact ⟨cs, r, t, e, c, r0, t0, by omega⟩, h.wide⟩
theorem set_at {S : Store} {a : Addr} {o : SO} : S.set a o a = some o := by unfold Store.set; rw [if_pos rfl]
theorem set_off {S : Store} {a b : Addr} {o : SO} (h : b ≠ a) : S.set a o b = S b := by unfold Store.set; rw [if_neg h]
theorem same_set {S S1 : Store} {a w : Addr} {o : SO} (h : Same S S1 a w) : Same S (S1.set a o) a w := fun b x y => by rw [set_off x, h b x y]
theorem same_setw {S S1 : Store} {a w : Addr} {o : SO} (h : Same S S1 a w) : Same S (S1.set w o) a w := fun b x y => by rw [set_off y, h b x y]
theorem bx_turn {S : Store} {a w : Addr} {cs : List Int} {r t : Int} (h : S a = some (box w cs r t)) (q : Q (.int t) S) : gIx (.ref a) (.str "turn") S Q :=
  gIx_box h (k := .inr "turn") rfl (d := .int t) (by rfl) q
theorem bx_rest {S : Store} {a w : Addr} {cs : List Int} {r t : Int} (h : S a = some (box w cs r t)) (q : Q (.int r) S) : gIx (.ref a) (.str "rest") S Q :=
  gIx_box h (k := .inr "rest") rfl (d := .int r) (by rfl) q
theorem bx_cells {S : Store} {a w : Addr} {cs : List Int} {r t : Int} (h : S a = some (box w cs r t)) (q : Q (.lst (cs.map .int)) S) : gIx (.ref a) (.str "cells") S Q :=
  gIx_box h (k := .inr "cells") rfl (d := .lst (cs.map .int)) (by rfl) q
theorem bx_wide {S : Store} {a w : Addr} {cs : List Int} {r t : Int} (h : S a = some (box w cs r t)) (q : Q (.ref w) S) : gIx (.ref a) (.str "wide") S Q :=
  gIx_box h (k := .inr "wide") rfl (d := .ref w) (by rfl) q
theorem st_turn {S : Store} {a w : Addr} {cs : List Int} {r t i : Int} {QS : Store → Prop} (h : S a = some (box w cs r t)) (q : QS (S.set a (box w cs r i))) : setD (.ref a) (.str "turn") (.int i) S QS :=
  setD_box h (k := .inr "turn") rfl (by decide) (ks' := dks) (by rfl) (ds' := [.ref w, .lst (cs.map .int), .int r, .int i]) (by rfl) q
theorem st_rest {S : Store} {a w : Addr} {cs : List Int} {r t i : Int} {QS : Store → Prop} (h : S a = some (box w cs r t)) (q : QS (S.set a (box w cs i t))) : setD (.ref a) (.str "rest") (.int i) S QS :=
  setD_box h (k := .inr "rest") rfl (by decide) (ks' := dks) (by rfl) (ds' := [.ref w, .lst (cs.map .int), .int i, .int t]) (by rfl) q
theorem mixed_ok {a w : Addr} {n : Nat} (h : Dr S a w n) (hn : n < 2 ^ 40) (q : ∀ r S', 0 ≤ r → Dr S' a w (n + 1) → Same S S' a w → Q (.int r) S') : r_law_mixed A [.ref a] S Q E := by
  obtain ⟨cs, r, t, e, hc, r0, t0, tn⟩ := h.box
  obtain ⟨ws, ew, hw⟩ := h.wide
  unfold r_law_mixed
  walk_at "mp_s"
  refine bx_turn e ?_
  walk_at "mp_s"
  refine st_turn e ?_
  walk_at "mp_s"
  have e1 : S.set a (box w cs r (t + 1)) a = some (box w cs r (t + 1)) := set_at
  have d1 : Dr (S.set a (box w cs r (t + 1))) a w (n + 1) := ⟨h.ne, ⟨cs, r, t + 1, e1, hc, r0, by omega, by omega⟩, ⟨ws, by rw [set_off h.ne.symm]; exact ew, hw⟩⟩
  have s1 : Same S (S.set a (box w cs r (t + 1))) a w := same_set (Same.refl S a w)
  generalize S.set a (box w cs r (t + 1)) = S1 at e1 d1 s1 ⊢
  refine loop_ind (fun ds ρ S' => S' = S1 ∧ (∀ d ∈ ds, ∃ p, d = .int p ∧ 0 < p ∧ p < 2147483648) ∧ ∃ f p b g, 0 ≤ f ∧ ρ = [some (.ref a), some (.int (t + 1)), some (.int f), p, b, g]) ?_ ?_ _ _ _ ⟨rfl, ?_, 0, none, none, none, by omega, rfl⟩
  · rintro d ds ρ S' ih ⟨rfl, hd, f, p, b, g, f0, rfl⟩
    obtain ⟨p, rfl, p0, p1⟩ := hd d List.mem_cons_self
    walk_at "mp_s"
    refine gMul_i (.inl ⟨by decide, by decide⟩) ?_
    walk_at "mp_s"
    refine gDiv_i ⟨by decide, by decide⟩ ?_
    walk_at "mp_s"
    refine bx_cells e1 ?_
    walk_at "mp_s"
    have b0 : 0 ≤ 48271 * (t + 1) + p / 37 ∧ 48271 * (t + 1) + p / 37 < 2 ^ 63 := by
      have : (n : Int) < 2 ^ 40 := by exact_mod_cast hn
      omega
    generalize 48271 * (t + 1) + p / 37 = b at b0
    refine loop_ind (fun ds ρ S'' => S'' = S' ∧ (∀ d ∈ ds, ∃ c, d = .int c ∧ 0 ≤ c) ∧ ∃ b g, 0 ≤ b ∧ b < 2 ^ 63 ∧ ρ = [some (.ref a), some (.int (t + 1)), some (.int f), some (.int p), some (.int b), g]) ?_ ?_ _ _ _ ⟨rfl, ?_, b, g, b0.1, b0.2, rfl⟩
    · rintro d2 ds2 ρ2 S2 ih2 ⟨rfl, hd2, b, g, b0, b1, rfl⟩
      obtain ⟨c, rfl, c0⟩ := hd2 d2 List.mem_cons_self
      walk_at "mp_s"
      refine gMul_i (.inr ⟨by decide, by decide⟩) ?_
      walk_at "mp_s"
      refine gMod_i p0 ?_
      walk_at "mp_s"
      refine ih2 _ _ ⟨rfl, fun d hd => hd2 d (List.mem_cons_of_mem _ hd), (b * 69621 + c + (t + 1)) % p, some (.int c), ?_, ?_, rfl⟩
      · exact Int.emod_nonneg _ (by omega)
      · have := Int.emod_lt_of_pos (b * 69621 + c + (t + 1)) p0
        omega
    · rintro ρ2 S2 ⟨rfl, -, b, g, b0, b1, rfl⟩
      walk_at "mp_s"
      refine gMul_i (.inr ⟨by decide, by decide⟩) ?_
      walk_at "mp_s"
      refine gPow_i ⟨by decide, by decide, by omega⟩ ?_
      walk_at "mp_s"
      refine gMod_i p0 ?_
      walk_at "mp_s"
      refine ih _ _ ⟨rfl, fun d hd' => hd d (List.mem_cons_of_mem _ hd'), f * 2147483647 + b ^ 5 % p, some (.int p), some (.int b), g, ?_, rfl⟩
      have := Int.emod_nonneg (b ^ 5) (show p ≠ 0 by omega)
      omega
    · intro d hd
      obtain ⟨c, hc', rfl⟩ := List.mem_map.mp hd
      exact ⟨c, rfl, (hc c hc').1⟩
  · rintro ρ S' ⟨rfl, -, f, p, b, g, f0, rfl⟩
    walk_at "mp_s"
    exact q f S' f0 d1 s1
  · intro d hd
    simp only [List.mem_cons, List.not_mem_nil, or_false] at hd
    rcases hd with rfl | rfl | rfl | rfl <;> exact ⟨_, rfl, by decide, by decide⟩
theorem pop_ok {w : Addr} {x : D} {xs : List D} (h : S w = some (.lst (x :: xs))) (q : Q x (S.set w (.lst xs))) : mPopAt (.ref w) [.int 0] S Q := by
  unfold mPopAt onL
  simp only [h]
  refine ⟨by decide, by decide, ?_⟩
  have e : seqIndex? 0 (x :: xs).length = some 0 := by
    unfold seqIndex?
    simp
  rw [e]
  exact q
theorem take_end {a w : Addr} {n : Nat} {many : Int} {ρ : MP.Env} {N : DEnds} (h : Dr S a w n) (hm : 0 < many) (hm2 : many < 1073741824) (e0 : ρ = [some (.ref a), some (.int many), none]) (q : ∀ r S', 0 ≤ r → r < many → Dr S' a w n → Same S S' a w → N.rt (.int r) S') :
    dSeq (dSet 2 (bin gMod (evB gInt (aCons (bin gIx (evV 0) (evC (.str "rest"))) (aNil))) (evV 1))) (dSeq (dAsg (bin gDiv (bin gIx (evV 0) (evC (.str "rest"))) (evV 1)) (dgSub (evV 0) (evC (.str "rest")))) (dRet (evV 2))) ρ S N := by
  obtain ⟨cs, r, t, e, hc, r0, t0, tn⟩ := h.box
  obtain ⟨ws, ew, hw⟩ := h.wide
  subst e0
  walk_at "mp_s"
  refine bx_rest e ?_
  walk_at "mp_s"
  refine gMod_i hm ?_
  walk_at "mp_s"
  refine bx_rest e ?_
  walk_at "mp_s"
  refine gDiv_i ⟨hm, hm2⟩ ?_
  walk_at "mp_s"
  refine st_rest e ?_
  walk_at "mp_s"
  exact q _ _ (Int.emod_nonneg _ (by omega)) (Int.emod_lt_of_pos _ hm) ⟨h.ne, ⟨cs, r / many, t, set_at, hc, Int.ediv_nonneg r0 (by omega), t0, tn⟩, ⟨ws, by rw [set_off h.ne.symm]; exact ew, hw⟩⟩ (same_set (Same.refl S a w))
theorem take_ok {a w : Addr} {n : Nat} {many : Int} (h : Dr S a w n) (hn : n < 2 ^ 40) (hm : 0 < many) (hm2 : many < 1073741824) (q : ∀ r S', 0 ≤ r → r < many → Dr S' a w (n + 1) → Same S S' a w → Q (.int r) S') : r_law_take A [.ref a, .int many] S Q E := by
  obtain ⟨cs, r, t, e, hc, r0, t0, tn⟩ := h.box
  obtain ⟨ws, ew, hw⟩ := h.wide
  unfold r_law_take
  walk_at "mp_s"
  refine bx_rest e ?_
  walk_at "mp_s"
  refine ite_cc (fun c => ?_) fun c => ?_
  · walk_at "mp_s"
    refine bx_wide e ?_
    walk_at "mp_s"
    refine gNeE_nil (vw_l ew) ?_
    walk_at "mp_s"
    cases ws with
    | nil =>
      walk_at "mp_s"
      refine mixed_ok h hn fun r1 S1 p1 d1 s1 => ?_
      walk_at "mp_s"
      obtain ⟨cs1, r2, t2, e2, hc2, r02, t02, tn2⟩ := d1.box
      refine st_rest e2 ?_
      refine take_end (a := a) (w := w) (n := n + 1) (many := many) ⟨h.ne, ⟨cs1, r1, t2, set_at, hc2, p1, t02, tn2⟩, ?_⟩ hm hm2 rfl fun r S' x0 x1 d2 s2 => q r S' x0 x1 d2 ((same_set s1).trans s2)
      obtain ⟨ws1, ew1, hw1⟩ := d1.wide
      exact ⟨ws1, by rw [set_off h.ne.symm]; exact ew1, hw1⟩
    | cons x xs =>
      refine ite_t rfl ?_
      refine evM_i ?_
      walk_at "mp_s"
      refine bx_wide e ?_
      refine ⟨by rw [vw_l ew]; rfl, ?_⟩
      walk_at "mp_s"
      refine pop_ok ew ?_
      walk_at "mp_s"
      have x0 : 0 ≤ x := hw x List.mem_cons_self
      refine st_rest (w := w) (cs := cs) (r := r) (t := t) (by rw [set_off h.ne]; exact e) ?_
      refine take_end (a := a) (w := w) (n := n + 1) (many := many) ⟨h.ne, ⟨cs, x, t, set_at, hc, x0, t0, by omega⟩, ⟨xs, by rw [set_off h.ne.symm, set_at], fun y hy => hw y (List.mem_cons_of_mem _ hy)⟩⟩ hm hm2 rfl fun r S' x0 x1 d2 s2 => q r S' x0 x1 d2 ((same_set (same_setw (Same.refl S a w))).trans s2)
  · walk_at "mp_s"
    exact take_end (h.mono (Nat.le_succ n)) hm hm2 rfl q
theorem atI_ok {xs : List D} {r : Int} (h0 : 0 ≤ r) (h1 : r < xs.length) : ∃ x, x ∈ xs ∧ atI xs r = some x := by
  have hl : r.toNat < xs.length := by omega
  refine ⟨xs[r.toNat], List.getElem_mem hl, ?_⟩
  unfold atI ixN
  rw [if_pos h0, if_pos h1]
  exact List.getElem?_eq_getElem hl
theorem pick_ok {a w : Addr} {n : Nat} {xs : List D} (h : Dr S a w n) (hn : n < 2 ^ 40) (h0 : xs ≠ []) (h1 : xs.length < 1073741824) (q : ∀ x S', x ∈ xs → Dr S' a w (n + 1) → Same S S' a w → Q x S') : r_law_pick A [.ref a, .lst xs] S Q E := by
  have l0 : 0 < xs.length := List.length_pos_iff.mpr h0
  unfold r_law_pick
  walk_at "mp_s"
  refine take_ok h hn (by omega) (by omega) fun r S' r0 r1 d1 s1 => ?_
  obtain ⟨x, hx, e⟩ := atI_ok r0 r1
  refine gIx_l e ?_
  exact q x S' hx d1 s1
def ab (x : Int) : Int := if x < 0 then -x else x
theorem ab0 (x : Int) : 0 ≤ ab x := by unfold ab; split <;> omega
theorem begun_ok {ns : List Int} (hl : ns.length ≤ 64) (q : ∀ a w S', Dr S' a w 0 → Same S S' a w → S a = none → S w = none → Q (.ref a) S') : r_law_begun A [.kls (ns.map .int)] S Q E := by
  have hz : ns.length ≤ sizeLine := Nat.le_trans hl (by decide)
  unfold r_law_begun
  walk_at "mp_s"
  refine comp_map D.int (fun x => decide ((10 : Int) ^ (18 : Int).toNat ≤ ab x)) (fun x => .int (ab x - (10 : Int) ^ (18 : Int).toNat)) ns [] (fun x hx k q => ?_) (fun x hx e k q => ?_) (by simpa using hz) ?_
  · walk_at "mp_s"
    refine gPow_i ⟨by decide, by decide, by decide⟩ ?_
    walk_at "mp_s"
    exact q
  · walk_at "mp_s"
    refine gPow_i ⟨by decide, by decide, by decide⟩ ?_
    walk_at "mp_s"
    exact q
  refine mkM_i fun w hw => ?_
  walk_at "mp_s"
  refine comp_all D.int (fun x => .int (ab x % 2147483629)) ns (fun x hx k q => ?_) hz ?_
  · walk_at "mp_s"
    refine gMod_i (by decide) ?_
    walk_at "mp_s"
    exact q
  walk_at "mp_s"
  refine mkDM_i fun a ha => ?_
  walk_at "mp_s"
  have ne : a ≠ w := fun z => by rw [z, set_at] at ha; cases ha
  rw [set_off ne] at ha
  refine q a w _ ⟨ne, ⟨ns.map fun x => ab x % 2147483629, 0, 0, ?_, ?_, by decide, by decide, by decide⟩, ⟨(ns.filter fun x => decide ((10 : Int) ^ (18 : Int).toNat ≤ ab x)).map fun x => ab x - (10 : Int) ^ (18 : Int).toNat, ?_, ?_⟩⟩ (same_set (same_setw (Same.refl S a w))) ha hw
  · rw [set_at]
    unfold box
    rw [List.map_map]
    rfl
  · intro c hc
    obtain ⟨x, -, rfl⟩ := List.mem_map.mp hc
    exact And.intro (Int.emod_nonneg _ (by decide)) (Int.emod_lt_of_pos _ (by decide))
  · rw [set_off ne.symm, set_at, List.map_map]
    rfl
  · intro c hc
    obtain ⟨x, hx, rfl⟩ := List.mem_map.mp hc
    have := of_decide_eq_true (List.mem_filter.mp hx).2
    omega
/-! .. with so many draws left -/
def Dg (S : Store) (a w : Addr) (b : Nat) : Prop := ∃ n, Dr S a w n ∧ n + b < 2 ^ 40
theorem Dg.mono {a w : Addr} {b c : Nat} (h : Dg S a w b) (l : c ≤ b) : Dg S a w c := let ⟨n, d, e⟩ := h; ⟨n, d, by omega⟩
theorem Dg.ne {a w : Addr} {b : Nat} (h : Dg S a w b) : a ≠ w := let ⟨_, d, _⟩ := h; d.ne
theorem Dg.at {a w : Addr} {b : Nat} (h : Dg S a w b) : S a ≠ none := let ⟨_, d, _⟩ := h; let ⟨_, _, _, e, _⟩ := d.box; by rw [e]; exact fun z => nomatch z
theorem Dg.wt {a w : Addr} {b : Nat} (h : Dg S a w b) : S w ≠ none := let ⟨_, d, _⟩ := h; let ⟨_, e, _⟩ := d.wide; by rw [e]; exact fun z => nomatch z
theorem Dg.set {a w c : Addr} {b : Nat} {o : SO} (h : Dg S a w b) (n1 : c ≠ a) (n2 : c ≠ w) : Dg (S.set c o) a w b := by
  obtain ⟨n, d, e⟩ := h
  refine ⟨n, ⟨d.ne, ?_, ?_⟩, e⟩
  · obtain ⟨cs, r, t, e, x⟩ := d.box
    exact ⟨cs, r, t, by rw [set_off (Ne.symm n1)]; exact e, x⟩
  · obtain ⟨ws, e, x⟩ := d.wide
    exact ⟨ws, by rw [set_off (Ne.symm n2)]; exact e, x⟩
theorem Dg.del {a w c : Addr} {b : Nat} (h : Dg S a w b) (n1 : c ≠ a) (n2 : c ≠ w) : Dg (S.del c) a w b := by
  obtain ⟨n, d, e⟩ := h
  refine ⟨n, ⟨d.ne, ?_, ?_⟩, e⟩
  · obtain ⟨cs, r, t, e, x⟩ := d.box
    exact ⟨cs, r, t, by rw [Store.del_ne (Ne.symm n1)]; exact e, x⟩
  · obtain ⟨ws, e, x⟩ := d.wide
    exact ⟨ws, by rw [Store.del_ne (Ne.symm n2)]; exact e, x⟩
/-- all else is kept -/
def Kp (S S' : Store) (a w : Addr) : Prop := ∀ b o, b ≠ a → b ≠ w → S b = some o → S' b = some o
theorem Same.kp {S S' : Store} {a w : Addr} (h : Same S S' a w) : Kp S S' a w := fun b o n1 n2 e => by rw [h b n1 n2]; exact e
theorem Kp.refl (S : Store) (a w : Addr) : Kp S S a w := fun _ _ _ _ e => e
theorem Kp.trans {S S1 S2 : Store} {a w : Addr} (h : Kp S S1 a w) (k : Kp S1 S2 a w) : Kp S S2 a w := fun b o x y e => k b o x y (h b o x y e)
/-- a place that is free behind was free ahead -/
theorem Kp.free {S S' : Store} {a w c : Addr} {b : Nat} (h : Kp S S' a w) (d : Dg S' a w b) (e : S' c = none) : S c = none ∧ c ≠ a ∧ c ≠ w := by
  have n1 : c ≠ a := fun z => d.at (by rw [← z]; exact e)
  have n2 : c ≠ w := fun z => d.wt (by rw [← z]; exact e)
  refine ⟨?_, n1, n2⟩
  cases q : S c with
  | none => rfl
  | some o => rw [h c o n1 n2 q] at e; cases e
theorem Kp.set {S S' : Store} {a w c : Addr} {o : SO} (h : Kp S S' a w) (e : S c = none) : Kp S (S'.set c o) a w := fun b u n1 n2 eb => by
  have nc : b ≠ c := fun z => by rw [z, e] at eb; cases eb
  rw [set_off nc]
  exact h b u n1 n2 eb
theorem Kp.del {S S' : Store} {a w c : Addr} (h : Kp S S' a w) (e : S c = none) : Kp S (S'.del c) a w := fun b u n1 n2 eb => by
  have nc : b ≠ c := fun z => by rw [z, e] at eb; cases eb
  rw [Store.del_ne nc]
  exact h b u n1 n2 eb
theorem take_g {a w : Addr} {b : Nat} {many : Int} (h : Dg S a w (b + 1)) (hm : 0 < many) (hm2 : many < 1073741824) (q : ∀ r S', 0 ≤ r → r < many → Dg S' a w b → Kp S S' a w → Q (.int r) S') : r_law_take A [.ref a, .int many] S Q E := by
  obtain ⟨n, d, e⟩ := h
  exact take_ok d (by omega) hm hm2 fun r S' r0 r1 d' s => q r S' r0 r1 ⟨n + 1, d', by omega⟩ s.kp
theorem pick_g {a w : Addr} {b : Nat} {xs : List D} (h : Dg S a w (b + 1)) (h0 : xs ≠ []) (h1 : xs.length < 1073741824) (q : ∀ x S', x ∈ xs → Dg S' a w b → Kp S S' a w → Q x S') : r_law_pick A [.ref a, .lst xs] S Q E := by
  obtain ⟨n, d, e⟩ := h
  exact pick_ok d (by omega) h0 h1 fun x S' hx d' s => q x S' hx ⟨n + 1, d', by omega⟩ s.kp
theorem begun_g {ns : List Int} {b : Nat} (hb : b < 2 ^ 40) (hl : ns.length ≤ 64) (q : ∀ a w S', Dg S' a w b → Kp S S' a w → Q (.ref a) S') : r_law_begun A [.kls (ns.map .int)] S Q E :=
  begun_ok hl fun a w S' d s ha hw => q a w S' ⟨0, d, by omega⟩ s.kp
end K02

set_option Elab.async false
set_option linter.all false
set_option maxRecDepth 100000
set_option maxHeartbeats 4100000
/-! what the mirrors compute: sheets -/
namespace K02
open PySem PySem.Spec PyProof.Rows L2 MP
variable {A : Ad} {S : Store} {Q : Post} {E : XPost}
theorem okD.up {n : Nat} {xs : List D} (h : okD n (.tup xs)) : ∃ m, n = m + 1 ∧ xs.length ≤ 1000 ∧ ∀ x ∈ xs, okD m x := by
  cases n with
  | zero => exact h.elim
  | succ k => exact ⟨k, rfl, h⟩
theorem filled_ok {f : D → Bool} {a : Addr} {F : DF} {m : Nat} {d : D} (h : okD m d) (hT : tb_0 A a = some F) (hF : ∀ (x : D) (S : Store) (Q : Post) (E : XPost), okD m x → Q (.bl (f x)) S → F [x] S Q E) (q : Q (.bl (isFilled f d)) S) : r_is_filled A [d, .ref a] S Q E := by
  have hv := h.val
  unfold r_is_filled
  cases d with
  | tup xs =>
    obtain ⟨m, rfl, hl, hx⟩ := h.up
    cases xs with
    | nil => walk_at "mp_s"; exact q
    | cons x r =>
      have l0 : (((x :: r).length : Int) == 0) = false := by simp; omega
      walk_at "mp_s"
      try (refine ite_f l0 ?_)
      walk_at "mp_s"
      rw [show x :: r = (x :: r).map id by simp]
      refine comp_map (id : D → D) (fun y => !f y) id (x :: r) [] (fun y hy k hk => ?_) (fun y hy _ k hk => evV_i rfl hk) (by simpa using le_line1 hl) ?_
      · refine bNot_i (bV_i (evCallV_i (onRef_i rfl hT (aCons_i (evV_i rfl (aNil_i ?_))))))
        exact hF y _ _ _ (okD.mono (Nat.le_succ m) (hx y hy)) (onT_bl hk)
      walk_at "mp_s"
      refine gEqE_nil rfl ?_
      rw [List.nil_append, List.map_id, all_empty]
      exact q
  | _ => first | exact hv.elim | (walk_at "mp_s"; exact q)
theorem tb0_i : tb_0 A A.f_is_input = some (r_is_input A) := if_pos rfl
theorem tb0_c (hA : A.Ok) : tb_0 A A.f_is_cell = some (r_is_cell A) := by
  have ne : A.f_is_cell ≠ A.f_is_input := fun z => by have := hA.ne0; simp [z] at this
  unfold tb_0
  rw [if_neg ne, if_pos rfl]
theorem sheet_ok (hA : A.Ok) {m : Nat} {d : D} (h : okD m d) (hm : m < 60) (q : Q (.bl (isSheet d)) S) : r_is_sheet A [d] S Q E := by
  unfold r_is_sheet
  walk_at "mp_s"
  refine tagged_ok (ks := kW ["sheet"]) (ns := [3]) h ?_
  refine onT_bl (ite_cc (fun c => ?_) fun c => ?_)
  · obtain ⟨r, rfl, hr⟩ := tag_one c (by decide)
    obtain ⟨x1, x2, rfl⟩ := len2 hr
    obtain ⟨m, rfl, hl, hx⟩ := h.up
    have q' : Q (.bl (isFilled isInput x1 && isFilled isCell x2)) S := by
      have q2 : Q (.bl (tag (kW ["sheet"]) [3] (.tup [.str "sheet", x1, x2]) && (isFilled isInput x1 && isFilled isCell x2))) S := q
      rw [c, Bool.true_and] at q2
      exact q2
    walk_at "mp_s"
    refine filled_ok (f := isInput) (hx x1 (by simp)) tb0_i (fun x S Q E h q => input_ok h q) ?_
    refine onT_bl (ite_cc (fun c2 => ?_) fun c2 => ?_)
    · rw [c2, Bool.true_and] at q'
      walk_at "mp_s"
      exact filled_ok (f := isCell) (hx x2 (by simp)) (tb0_c hA) (fun x S Q E h q => cell_ok h (by omega) q) q'
    · rw [c2, Bool.false_and] at q'
      rw [c2]
      exact q'
  · have z : isSheet d = false := by unfold isSheet; rw [c, Bool.false_and]
    rw [z] at q
    rw [c]
    exact q
end K02

set_option Elab.async false
set_option linter.all false
set_option maxRecDepth 100000
set_option maxHeartbeats 4100000
/-! plain: depths; places by all parts -/
namespace K02
open PySem PySem.Spec PyProof.Rows L2 MP
variable {A : Ad} {S : Store} {Q : Post} {E : XPost}
theorem getD_okD {m : Nat} {r : List D} (hr : ∀ x ∈ r, okD m x) (i : Nat) : okD m (r.getD i .non) := by
  by_cases hi : i < r.length
  · rw [List.getD_eq_getElem?_getD, List.getElem?_eq_getElem hi]
    exact hr _ (List.getElem_mem hi)
  · rw [List.getD_eq_getElem?_getD, List.getElem?_eq_none (by omega)]
    cases m <;> trivial
theorem isC_tup {n : Nat} {d : D} (h : isC (n + 1) d = true) : ∃ ps, d = .tup ps ∧ ps.isEmpty = false ∧ casesOk (isE n) none ps = true := by
  match d, h with
  | .tup ps, h =>
    unfold isC at h
    rw [Bool.and_eq_true] at h
    exact ⟨ps, rfl, by simpa using h.1, h.2⟩
  | .non, h => unfold isC at h; cases h
  | .bl _, h => unfold isC at h; cases h
  | .int _, h => unfold isC at h; cases h
  | .str _, h => unfold isC at h; cases h
  | .ty _, h => unfold isC at h; cases h
  | .ref _, h => unfold isC at h; cases h
  | .exn _ _ _ _, h => unfold isC at h; cases h
  | .lst _, h => unfold isC at h; cases h
  | .kls _, h => unfold isC at h; cases h
  | .dct _ _, h => unfold isC at h; cases h
theorem casesOk_mem {f g : D → Bool} : ∀ (ps : List D) (last : Option Int), (∀ k e, D.tup [k, e] ∈ ps → f e = true → g e = true) → casesOk f last ps = true → casesOk g last ps = true
  | [], _, _, _ => rfl
  | p :: r, last, h, e => by
    unfold casesOk at e ⊢
    split at e
    · rename_i k x
      split at e
      · rename_i i
        simp only [Bool.and_eq_true] at e ⊢
        exact ⟨e.1, h _ _ List.mem_cons_self e.2.1, e.2.2.1, casesOk_mem r _ (fun k e hm => h k e (List.mem_cons_of_mem _ hm)) e.2.2.2⟩
      · cases e
    · cases e
theorem down_both : ∀ n m d, okD m d → m < n → (isE (n + 1) d = true → isE n d = true) ∧ (isC (n + 1) d = true → isC n d = true)
  | 0, m, d, _, h => absurd h (Nat.not_lt_zero m)
  | n + 1, m, d, ho, hm => by
    refine ⟨fun h => ?_, fun h => ?_⟩
    · have ht := isE_tagd h
      obtain ⟨w, r, rfl⟩ := tag_tup ht
      obtain ⟨m, rfl, -, hx⟩ := ho.up
      have hr : ∀ x ∈ r, okD m x := fun x hx' => hx x (List.mem_cons_of_mem _ hx')
      have i1 : ∀ x, okD m x → isE (n + 1) x = true → isE n x = true := fun x hx => (down_both n m x hx (by omega)).1
      have i2 : ∀ x, okD m x → isC (n + 1) x = true → isC n x = true := fun x hx => (down_both n m x hx (by omega)).2
      have hg := getD_okD hr
      rw [isE_eq ht] at h ⊢
      split at h
      · rename_i c; rw [if_pos c]; exact h
      rename_i c; rw [if_neg c]
      split at h
      · rename_i c; rw [if_pos c]; exact h
      rename_i c; rw [if_neg c]
      split at h
      · rename_i c; rw [if_pos c]; exact h
      rename_i c; rw [if_neg c]
      split at h
      · rename_i c; rw [if_pos c]
        simp only [Bool.and_eq_true] at h ⊢
        exact ⟨h.1, h.2.1, i1 _ (hg _) h.2.2⟩
      rename_i c; rw [if_neg c]
      split at h
      · rename_i c; rw [if_pos c]
        simp only [Bool.and_eq_true] at h ⊢
        exact ⟨i1 _ (hg _) h.1, i2 _ (hg _) h.2.1, i1 _ (hg _) h.2.2⟩
      rename_i c; rw [if_neg c]
      rw [List.all_eq_true] at h ⊢
      exact fun x hx => i1 x (hr x hx) (h x hx)
    · obtain ⟨ps, rfl, h0, hc⟩ := isC_tup h
      obtain ⟨m, rfl, -, hx⟩ := ho.up
      unfold isC
      rw [Bool.and_eq_true]
      refine ⟨by rw [h0]; rfl, casesOk_mem ps none (fun k e hp => ?_) hc⟩
      obtain ⟨m, rfl, -, hy⟩ := (hx _ hp).up
      exact (down_both n m e (hy e (by simp)) (by omega)).1
theorem isE_step {n m : Nat} {d : D} (h : okD m d) (hm : m < n) : isE (n + 1) d = isE n d := by
  cases e : isE n d with
  | true => exact (mono_both n).1 d e
  | false =>
    cases e2 : isE (n + 1) d with
    | false => rfl
    | true => rw [(down_both n m d h hm).1 e2] at e; cases e
theorem isC_step {n m : Nat} {d : D} (h : okD m d) (hm : m < n) : isC (n + 1) d = isC n d := by
  cases e : isC n d with
  | true => exact (mono_both n).2 d e
  | false =>
    cases e2 : isC (n + 1) d with
    | false => rfl
    | true => rw [(down_both n m d h hm).2 e2] at e; cases e
theorem isE_st {m : Nat} {d : D} (h : okD m d) (n : Nat) (hm : m < n) : ∀ j, isE (n + j) d = isE n d
  | 0 => rfl
  | j + 1 => (isE_step (n := n + j) h (by omega)).trans (isE_st h n hm j)
theorem isC_st {m : Nat} {d : D} (h : okD m d) (n : Nat) (hm : m < n) : ∀ j, isC (n + j) d = isC n d
  | 0 => rfl
  | j + 1 => (isC_step (n := n + j) h (by omega)).trans (isC_st h n hm j)
/-! a value as data -/
def Pyd (b : Nat) (d : D) : Prop := ∃ p, toPy d = some p ∧ p.canLay0 = true ∧ p.depth ≤ b
theorem pyd_int {b : Nat} (i : Int) : Pyd b (.int i) := ⟨_, rfl, rfl, by simp [PyData.depth]⟩
theorem pyd_str {b : Nat} {x : Str} (h : PyData.strOk x = true) : Pyd b (.str x) := ⟨_, rfl, by simpa [PyData.canLay0] using h, by simp [PyData.depth]⟩
theorem pyd_name {b : Nat} {d : D} (h : isName d = true) : Pyd b d := by
  cases d with
  | str x =>
    refine pyd_str ?_
    have h2 : nameOk x = true := h
    unfold nameOk at h2
    simp only [Bool.and_eq_true] at h2
    have h3 := h2.2.2.2
    unfold PyData.strOk
    rw [List.all_eq_true] at h3
    rw [Array.all_eq_true]
    intro i hi
    have := h3 x.cps[i] (by simp)
    unfold small26 at this
    simp only [Bool.and_eq_true, decide_eq_true_eq] at this ⊢
    omega
  | _ => cases h
theorem pyds {b : Nat} : ∀ {xs : List D}, (∀ x ∈ xs, Pyd b x) → ∃ ps, toPys xs = some ps ∧ PyData.canLayAll0 ps = true ∧ PyData.depthAll ps ≤ b
  | [], _ => ⟨[], rfl, rfl, by simp [PyData.depthAll]⟩
  | x :: r, h => by
    obtain ⟨p, e1, e2, e3⟩ := h x List.mem_cons_self
    obtain ⟨ps, f1, f2, f3⟩ := pyds (xs := r) fun y hy => h y (List.mem_cons_of_mem _ hy)
    refine ⟨p :: ps, ?_, ?_, ?_⟩
    · unfold toPys; rw [e1, f1]; rfl
    · simp [PyData.canLayAll0, e2, f2]
    · simp only [PyData.depthAll]; omega
theorem pyd_tup {b : Nat} {xs : List D} (h : ∀ x ∈ xs, Pyd b x) : Pyd (b + 1) (.tup xs) := by
  obtain ⟨ps, f1, f2, f3⟩ := pyds h
  refine ⟨.tuple ps, ?_, ?_, ?_⟩
  · unfold toPy; rw [f1]; rfl
  · simpa [PyData.canLay0] using f2
  · simp only [PyData.depth]; omega
theorem Pyd.mono {b c : Nat} {d : D} (h : Pyd b d) (l : b ≤ c) : Pyd c d := let ⟨p, a, e, f⟩ := h; ⟨p, a, e, Nat.le_trans f l⟩
def words21 : List Str := KS.filterMap fun k => match k with | .inr x => some x | _ => none
theorem szLook_mem : ∀ (ks : List Key) (ns : List Int) (k : Key), szLook ks ns k ≠ 0 → k ∈ ks
  | [], _, _, h => by unfold szLook at h; exact absurd rfl h
  | _ :: _, [], _, h => by unfold szLook at h; exact absurd rfl h
  | j :: ks, n :: ns, k, h => by
    by_cases e : j = k
    · rw [e]; exact List.mem_cons_self
    · have h2 : (if j = k then n else szLook ks ns k) ≠ 0 := h
      rw [if_neg e] at h2
      exact List.mem_cons_of_mem _ (szLook_mem ks ns k h2)
theorem tag_word {w : Str} {r : List D} (h : tag KS NS (.tup (.str w :: r)) = true) : (.inr w : Key) ∈ KS := by
  apply szLook_mem KS NS
  intro z
  have h2 : (szLook KS NS (.inr w) == ((D.str w :: r).length : Int)) = true := h
  rw [z] at h2
  have := eq_of_beq h2
  simp at this
  omega
theorem word_ok {w : Str} (h : (.inr w : Key) ∈ KS) : PyData.strOk w = true := by
  have : ∀ k ∈ KS, ∀ x : Str, k = .inr x → PyData.strOk x = true := by
    have e : (KS.all fun k => match k with | .inr x => PyData.strOk x | _ => true) = true := by decide +kernel
    rw [List.all_eq_true] at e
    intro k hk x hx
    have := e k hk
    subst hx
    exact this
  exact this _ h w rfl
theorem pyd_both : ∀ n, (∀ m d, okD m d → isE n d = true → Pyd (m + 1) d) ∧ (∀ m d, okD m d → isC n d = true → Pyd (m + 1) d)
  | 0 => ⟨fun m d _ h => (by unfold isE at h; cases h), fun m d _ h => (by unfold isC at h; cases h)⟩
  | n + 1 => by
    have ⟨i1, i2⟩ := pyd_both n
    refine ⟨fun m d ho h => ?_, fun m d ho h => ?_⟩
    · have ht := isE_tagd h
      obtain ⟨w, r, rfl⟩ := tag_tup ht
      obtain ⟨m, rfl, -, hx0⟩ := ho.up
      have hr : ∀ x ∈ r, okD m x := fun x hx' => hx0 x (List.mem_cons_of_mem _ hx')
      refine pyd_tup fun x hxa => ?_
      rcases List.mem_cons.1 hxa with rfl | hx
      · exact pyd_str (word_ok (tag_word ht))
      rw [isE_eq ht] at h
      have inr_p : ∀ {lo hi : Int} {y : D}, inR lo hi y = true → Pyd (m + 1) y := fun {lo hi y} h => by
        obtain ⟨i, rfl, -, -⟩ := inR_int h
        exact pyd_int i
      split at h
      · rename_i c
        have ew := eq_w c; subst ew
        obtain ⟨x1, rfl⟩ := len1 (tag_len (by decide +kernel) ht)
        rw [List.mem_singleton] at hx; subst hx
        exact inr_p h
      split at h
      · rename_i c
        obtain ⟨x1, rfl⟩ : ∃ a, r = [a] := by
          rw [Bool.or_eq_true] at c
          rcases c with c | c
          · have ew := eq_w c; subst ew
            exact len1 (tag_len (by decide +kernel) ht)
          · rcases over_cases c with rfl | rfl | rfl <;> exact len1 (tag_len (by decide +kernel) ht)
        rw [List.mem_singleton] at hx; subst hx
        exact pyd_name h
      split at h
      · rename_i c
        have ew := eq_w c; subst ew
        obtain ⟨x1, x2, rfl⟩ := len2 (tag_len (by decide +kernel) ht)
        simp only [Bool.and_eq_true] at h
        simp only [List.mem_cons, List.not_mem_nil, or_false] at hx
        rcases hx with rfl | rfl
        · exact pyd_name h.1
        · exact inr_p h.2
      split at h
      · rename_i c
        have ew := eq_w c; subst ew
        obtain ⟨x1, x2, x3, rfl⟩ := len3 (tag_len (by decide +kernel) ht)
        simp only [Bool.and_eq_true] at h
        simp only [List.mem_cons, List.not_mem_nil, or_false] at hx
        rcases hx with rfl | rfl | rfl
        · exact pyd_name h.1
        · exact inr_p h.2.1
        · exact i1 m _ (hr _ (by simp)) h.2.2
      split at h
      · rename_i c
        have ew := eq_w c; subst ew
        obtain ⟨x1, x2, x3, rfl⟩ := len3 (tag_len (by decide +kernel) ht)
        simp only [Bool.and_eq_true] at h
        simp only [List.mem_cons, List.not_mem_nil, or_false] at hx
        rcases hx with rfl | rfl | rfl
        · exact i1 m _ (hr _ (by simp)) h.1
        · exact i2 m _ (hr _ (by simp)) h.2.1
        · exact i1 m _ (hr _ (by simp)) h.2.2
      · rw [List.all_eq_true] at h
        exact i1 m _ (hr _ hx) (h _ hx)
    · obtain ⟨ps, rfl, h0, hc⟩ := isC_tup h
      obtain ⟨m, rfl, -, hx⟩ := ho.up
      refine pyd_tup fun x hp => ?_
      obtain ⟨k, e, rfl, he, i, rfl⟩ := casesOk_snd hc x hp
      obtain ⟨m, rfl, -, hy⟩ := (hx _ hp).up
      refine pyd_tup fun y hy2 => ?_
      simp only [List.mem_cons, List.not_mem_nil, or_false] at hy2
      rcases hy2 with rfl | rfl
      · exact pyd_int i
      · exact i1 m _ (hy _ (by simp)) he
/-! free of place and at, by all parts -/
def headP : List D → Bool
  | .str w :: _ => inD (.str w) placeL
  | _ => false
def fr : Nat → D → Bool
  | 0, _ => false
  | n + 1, .tup xs => !headP xs && xs.all (fr n)
  | _ + 1, _ => true
theorem fr_flat {n : Nat} {d : D} (hn : 0 < n) (h : ∀ xs, d ≠ .tup xs) : fr n d = true := by
  obtain ⟨n, rfl⟩ : ∃ k, n = k + 1 := ⟨n - 1, by omega⟩
  cases d with
  | tup xs => exact absurd rfl (h xs)
  | _ => rfl
theorem name_flat {d : D} (h : isName d = true) : ∀ xs, d ≠ .tup xs := fun xs z => by subst z; cases h
theorem inR_flat {lo hi : Int} {d : D} (h : inR lo hi d = true) : ∀ xs, d ≠ .tup xs := fun xs z => by subst z; cases h
theorem place_in {w : Str} : inD (.str w) placeL = ((Str.ofString "place" == w) || (Str.ofString "at" == w)) := by
  show ((Str.ofString "place" == w) || ((Str.ofString "at" == w) || false)) = _
  rw [Bool.or_false]
theorem all_not {α : Type} (p : α → Bool) (l : List α) : (l.all fun x => !p x) = !l.any p := by
  induction l with
  | nil => rfl
  | cons a r ih => rw [List.all_cons, List.any_cons, ih, Bool.not_or]
theorem all_cong {α : Type} {p q : α → Bool} : ∀ {l : List α}, (∀ x ∈ l, p x = q x) → l.all p = l.all q
  | [], _ => rfl
  | a :: r, h => by rw [List.all_cons, List.all_cons, h a List.mem_cons_self, all_cong fun x hx => h x (List.mem_cons_of_mem _ hx)]
theorem fr_hasP : ∀ (m n k l : Nat) (d : D), okD m d → isE l d = true → m < n → m < k → fr n d = !hasP k d
  | m, n, k, 0, d, _, h, _, _ => by unfold isE at h; cases h
  | 0, n, k, l + 1, d, ho, h, _, _ => by
    obtain ⟨w, r, rfl⟩ := tag_tup (isE_tagd h)
    exact ho.elim
  | m + 1, n, k, l + 1, d, ho, h, hn, hk => by
    have ht := isE_tagd h
    have hE := h
    obtain ⟨w, r, rfl⟩ := tag_tup ht
    obtain ⟨n, rfl⟩ : ∃ j, n = j + 1 := ⟨n - 1, by omega⟩
    obtain ⟨k, rfl⟩ : ∃ j, k = j + 1 := ⟨k - 1, by omega⟩
    have hr : ∀ x ∈ r, okD m x := fun x hx' => ho.2 x (List.mem_cons_of_mem _ hx')
    have e1 : fr (n + 1) (.tup (.str w :: r)) = (!inD (.str w) placeL && (fr n (.str w) && r.all (fr n))) := rfl
    have e2 : hasP (k + 1) (.tup (.str w :: r)) = (inD (.str w) placeL || (partsR w r).any (hasP k)) := rfl
    rw [e1, e2, Bool.not_or, fr_flat (by omega) (fun xs z => by cases z), Bool.true_and]
    cases hp : inD (.str w) placeL with
    | true => rfl
    | false =>
      rw [Bool.not_false, Bool.true_and, Bool.true_and]
      have ih : ∀ x, x ∈ r → isE l x = true → fr n x = !hasP k x := fun x hx he => fr_hasP m n k l x (hr x hx) he (by omega) (by omega)
      rw [isE_eq ht] at h
      unfold partsR
      split at h
      · rename_i c
        have ew := eq_w c; subst ew
        obtain ⟨x1, rfl⟩ := len1 (tag_len (by decide +kernel) ht)
        rw [if_pos (by decide +kernel)]
        simp [fr_flat (n := n) (by omega) (inR_flat h)]
        exact fr_flat (by omega) (inR_flat h)
      split at h
      · rename_i c
        have lw : leafW w = true := by
          rw [Bool.or_eq_true] at c
          unfold leafW
          rcases c with c | c
          · have ew := eq_w c; subst ew; decide +kernel
          · rw [c, Bool.or_true]
        obtain ⟨x1, rfl⟩ : ∃ a, r = [a] := by
          rw [Bool.or_eq_true] at c
          rcases c with c | c
          · have ew := eq_w c; subst ew
            exact len1 (tag_len (by decide +kernel) ht)
          · rcases over_cases c with rfl | rfl | rfl <;> exact len1 (tag_len (by decide +kernel) ht)
        rw [if_pos lw]
        simp
        exact fr_flat (by omega) (name_flat h)
      split at h
      · rename_i c
        have ew := eq_w c; subst ew
        obtain ⟨x1, x2, rfl⟩ := len2 (tag_len (by decide +kernel) ht)
        simp only [Bool.and_eq_true] at h
        rw [if_pos (by decide +kernel)]
        simp
        exact ⟨fr_flat (by omega) (name_flat h.1), fr_flat (by omega) (inR_flat h.2)⟩
      split at h
      · rename_i c
        have ew := eq_w c; subst ew
        exact absurd hp (by decide +kernel)
      split at h
      · rename_i c
        have ew := eq_w c; subst ew
        obtain ⟨x1, x2, x3, rfl⟩ := len3 (tag_len (by decide +kernel) ht)
        simp only [Bool.and_eq_true] at h
        rw [if_neg (by decide +kernel), if_neg (by decide +kernel), if_pos (by decide +kernel)]
        have h1 := ih x1 (by simp) h.1
        have h3 := ih x3 (by simp) h.2.2
        have h2 : fr n x2 = !((tupOf x2).map sndOf).any (hasP k) := by
          cases l with
          | zero => have := h.2.1; unfold isC at this; cases this
          | succ l =>
            obtain ⟨ps, rfl, h0, hc⟩ := isC_tup h.2.1
            obtain ⟨m, rfl, -, hx⟩ := (hr (.tup ps) (by simp)).up
            obtain ⟨n, rfl⟩ : ∃ j, n = j + 1 := ⟨n - 1, by omega⟩
            have e3 : fr (n + 1) (.tup ps) = (!headP ps && ps.all (fr n)) := rfl
            have hh : headP ps = false := by
              cases ps with
              | nil => rfl
              | cons p t =>
                obtain ⟨kk, e, rfl, -, -⟩ := casesOk_snd hc p List.mem_cons_self
                rfl
            rw [e3, hh, Bool.not_false, Bool.true_and]
            show ps.all (fr n) = !(ps.map sndOf).any (hasP k)
            rw [List.any_map, ← all_not]
            refine all_cong fun p hp' => ?_
            obtain ⟨kk, e, rfl, he, i, rfl⟩ := casesOk_snd hc p hp'
            obtain ⟨m, rfl, -, hy⟩ := (hx _ hp').up
            obtain ⟨n, rfl⟩ : ∃ j, n = j + 1 := ⟨n - 1, by omega⟩
            have e4 : fr (n + 1) (.tup [.int i, e]) = (!headP [.int i, e] && (fr n (.int i) && (fr n e && true))) := rfl
            rw [e4, fr_flat (by omega) (fun xs z => by cases z), Bool.and_true, Bool.true_and]
            show fr n e = !hasP k e
            exact fr_hasP m n k l e (hy e (by simp)) he (by omega) (by omega)
        show (fr n x1 && (fr n x2 && (fr n x3 && true))) = !(x1 :: (tupOf x2).map sndOf ++ [x3]).any (hasP k)
        rw [List.cons_append, List.any_cons, List.any_append, h1, h2, h3, Bool.not_or, Bool.not_or]
        simp
      · rename_i c1 c2 c3 c4 c5
        rw [List.all_eq_true] at h
        cases lw : leafW w with
        | true =>
          rw [if_pos rfl]
          have : r = [] := by
            unfold leafW at lw
            rw [Bool.or_eq_true] at lw
            rcases lw with lw | lw
            · rcases leaf_cases lw with rfl | rfl | rfl | rfl
              · exact absurd (by decide +kernel) c1
              · exact absurd (by decide +kernel) c2
              · exact absurd (by decide +kernel) c3
              · exact absurd hp (by decide +kernel)
            · exact absurd (by rw [lw, Bool.or_true]) c2
          subst this
          rfl
        | false =>
          rw [if_neg (by decide), if_neg c4, if_neg c5, ← all_not]
          exact all_cong fun x hx => ih x hx (h x hx)
end K02

set_option Elab.async false
set_option linter.all false
set_option maxRecDepth 100000
set_option maxHeartbeats 4100000
/-! what the mirrors compute: the law's own judge, its parts -/
namespace K02
open PySem PySem.Spec PyProof.Rows L2 MP
variable {A : Ad} {S : Store} {Q : Post} {E : XPost}
theorem pyd_mem {b : Nat} {xs : List D} (h : Pyd (b + 1) (.tup xs)) : ∀ x ∈ xs, Pyd b x := by
  obtain ⟨p, e, c, d⟩ := h
  have e1 : (toPys xs).map PyData.tuple = some p := by unfold toPy at e; exact e
  obtain ⟨ps, e2, rfl⟩ := Option.map_eq_some_iff.mp e1
  have c2 : PyData.canLayAll0 ps = true := by simpa [PyData.canLay0] using c
  have d2 : PyData.depthAll ps ≤ b := by simp only [PyData.depth] at d; omega
  clear e e1 c d
  induction xs generalizing ps with
  | nil => intro x hx; cases hx
  | cons y r ih =>
    unfold toPys at e2
    obtain ⟨p, e3, e4⟩ := Option.bind_eq_some_iff.mp e2
    obtain ⟨qs, e5, rfl⟩ := Option.map_eq_some_iff.mp e4
    have c3 : p.canLay0 = true ∧ PyData.canLayAll0 qs = true := by simpa [PyData.canLayAll0] using c2
    simp only [PyData.depthAll] at d2
    intro x hx
    rcases List.mem_cons.1 hx with rfl | hx
    · exact ⟨p, e3, c3.1, by omega⟩
    · exact ih qs e5 c3.2 (by omega) x hx
theorem take1 (xs : List D) : cutL xs none (some 1) = xs.take 1 := by
  unfold cutL HT.sIx
  cases xs with
  | nil => rfl
  | cons a r => simp
def placesL : D := .lst [.tup [.str "place"], .tup [.str "at"]]
theorem in_py {x y : D} {d : PyData} {ds : List PyData} {neg : Bool} (e1 : toPy (vw x S) = some d) (e2 : toPy (vw y S) = some (.list ds)) (s1 : SeqAt.shaped d = true) (s2 : SeqAt.shaped (.list ds) = true) (q : Q (.bl (if neg then !(ds.any fun z => PyData.eqv z d) else (ds.any fun z => PyData.eqv z d))) S) : gInC neg x y S Q := by
  unfold gInC
  right
  rw [e1, e2]
  exact ⟨s1, s2, q⟩
theorem in_places {xs : List D} {b : Nat} (h : Pyd (b + 1) (.tup xs)) (hb : b ≤ 60) (q : Q (.bl (!headP xs)) S) : gInC true (.tup (cutL xs none (some 1))) (.lst [.tup [.str "place"], .tup [.str "at"]]) S Q := by
  rw [take1]
  have s2 : SeqAt.shaped (.list [.tuple [.str "place"], .tuple [.str "at"]]) = true := by decide +kernel
  have e2 : toPy (vw (.lst [.tup [.str "place"], .tup [.str "at"]]) S) = some (.list [.tuple [.str "place"], .tuple [.str "at"]]) := rfl
  cases xs with
  | nil =>
    refine in_py (d := .tuple []) rfl e2 (by decide +kernel) s2 ?_
    exact q
  | cons x r =>
    obtain ⟨p, e, c, d⟩ := pyd_mem h x List.mem_cons_self
    have e1 : toPy (vw (.tup [x]) S) = some (.tuple [p]) := by
      show (toPys [x]).map PyData.tuple = _
      unfold toPys
      rw [e]
      rfl
    refine in_py (d := .tuple [p]) e1 e2 ?_ s2 ?_
    · unfold SeqAt.shaped
      rw [Bool.and_eq_true]
      exact ⟨by simp [PyData.canLay0, PyData.canLayAll0, c], decide_eq_true (by simp only [PyData.depth, PyData.depthAll]; omega)⟩
    · have z : ([PyData.tuple [.str "place"], .tuple [.str "at"]].any fun z => PyData.eqv z (.tuple [p])) = headP [x] := by
        show (PyData.eqv (.tuple [.str "place"]) (.tuple [p]) || (PyData.eqv (.tuple [.str "at"]) (.tuple [p]) || false)) = _
        rw [Bool.or_false]
        cases x with
        | str w =>
          have ep : p = .str w := by cases e; rfl
          subst ep
          show _ = inD (.str w) placeL
          rw [place_in]
          simp [PyData.eqv, PyData.eqvAll]
        | non => cases e; rfl
        | bl b => cases e; rfl
        | int i => cases e; rfl
        | tup l =>
          have e3 : (toPys l).map PyData.tuple = some p := by unfold toPy at e; exact e
          obtain ⟨ps, -, rfl⟩ := Option.map_eq_some_iff.mp e3
          rfl
        | lst l =>
          have e3 : (toPys l).map PyData.list = some p := by unfold toPy at e; exact e
          obtain ⟨ps, -, rfl⟩ := Option.map_eq_some_iff.mp e3
          rfl
        | kls l =>
          have e3 : (toPys l).map PyData.list = some p := by unfold toPy at e; exact e
          obtain ⟨ps, -, rfl⟩ := Option.map_eq_some_iff.mp e3
          rfl
        | _ => cases e
      have hh : headP (x :: r) = headP [x] := by cases x <;> rfl
      rw [hh, ← z] at q
      exact q
theorem law_free_ok : ∀ (n m b : Nat) (d : D) (S : Store) (Q : Post) (E : XPost), okD m d → Pyd b d → b ≤ 61 → m < n → Q (.bl (fr n d)) S → r_law_is_free A n [d] S Q E
  | 0, m, _, _, _, _, _, _, _, _, hm, _ => absurd hm (Nat.not_lt_zero m)
  | n + 1, m, b, d, S, Q, E, ho, hp, hb, hm, q => by
    have hv := ho.val
    rw [r_law_is_free_eq]
    cases d with
    | tup xs =>
      obtain ⟨m, rfl, hl, hx⟩ := ho.up
      obtain ⟨b, rfl⟩ : ∃ c, b = c + 1 := by
        cases b with
        | zero =>
          obtain ⟨p, e, -, d⟩ := hp
          have e1 : (toPys xs).map PyData.tuple = some p := by unfold toPy at e; exact e
          obtain ⟨ps, e2, rfl⟩ := Option.map_eq_some_iff.mp e1
          simp only [PyData.depth] at d
          omega
        | succ c => exact ⟨c, rfl⟩
      have q' : Q (.bl (!headP xs && xs.all (fr n))) S := q
      walk_at "mp_s"
      refine in_places hp (by omega) ?_
      refine onT_bl (ite_cc (fun c => ?_) fun c => ?_)
      · rw [c, Bool.true_and] at q'
        walk_at "mp_s"
        rw [show xs = xs.map id by simp]
        refine comp_map (id : D → D) (fun y => !fr n y) id xs [] (fun y hy k hk => ?_) (fun y hy _ k hk => evV_i rfl hk) (by simpa using le_line1 hl) ?_
        · refine bNot_i (bV_i (evCall_i (aCons_i (evV_i rfl (aNil_i ?_)))))
          exact law_free_ok n m b y _ _ _ (hx y hy) (pyd_mem hp y hy) (by omega) (by omega) (onT_bl hk)
        walk_at "mp_s"
        refine gEqE_nil rfl ?_
        rw [List.nil_append, List.map_id, all_empty]
        exact q'
      · rw [c, Bool.false_and] at q'
        rw [c]
        exact q'
    | _ => first | exact hv.elim | (walk_at "mp_s"; exact q)
/-! rising numbers -/
def chain : Option Int → List Int → Bool
  | _, [] => true
  | last, i :: r => lastOk last i && chain (some i) r
def pairD (x : Int × D) : D := .tup [.int x.1, x.2]
theorem cases_pairs (f : D → Bool) : ∀ (qs : List (Int × D)) (last : Option Int), casesOk f last (qs.map pairD) = ((qs.all fun x => inR (-999) 999 (.int x.1) && f x.2) && chain last (qs.map (·.1)))
  | [], _ => rfl
  | x :: r, last => by
    have ih := cases_pairs f r (some x.1)
    show (decide (-999 ≤ x.1) && decide (x.1 ≤ 999) && (f x.2 && (lastOk last x.1 && casesOk f (some x.1) (r.map pairD)))) = ((((decide (-999 ≤ x.1) && decide (x.1 ≤ 999)) && f x.2) && (r.all fun x => inR (-999) 999 (.int x.1) && f x.2)) && (lastOk last x.1 && chain (some x.1) (r.map (·.1))))
    rw [ih]
    cases decide (-999 ≤ x.1) <;> cases decide (x.1 ≤ 999) <;> cases f x.2 <;> cases lastOk last x.1 <;> cases (r.all fun x => inR (-999) 999 (.int x.1) && f x.2) <;> rfl
theorem chain_iff : ∀ (r : List Int) (a : Int), chain (some a) r = true ↔ ∀ k, k < r.length → (a :: r).getD k 0 < (a :: r).getD (k + 1) 0
  | [], a => ⟨fun _ k h => absurd h (Nat.not_lt_zero k), fun _ => rfl⟩
  | b :: r, a => by
    have ih := chain_iff r b
    show (lastOk (some a) b && chain (some b) r) = true ↔ _
    rw [Bool.and_eq_true, ih]
    constructor
    · rintro ⟨h1, h2⟩ k hk
      cases k with
      | zero =>
        have : (!decide (b ≤ a)) = true := h1
        simp at this
        simpa using this
      | succ k => simpa using h2 k (by simpa using hk)
    · intro h
      refine ⟨?_, fun k hk => by simpa using h (k + 1) (by simpa using hk)⟩
      have := h 0 (by simp)
      show (!decide (b ≤ a)) = true
      simp at this ⊢
      omega
theorem rises_eq (is : List Int) : ((List.range (is.length - 1)).filter fun k => decide (is.getD (k + 1) 0 ≤ is.getD k 0)).isEmpty = chain none is := by
  cases is with
  | nil => rfl
  | cons a r =>
    show _ = (true && chain (some a) r)
    rw [Bool.true_and, Bool.eq_iff_iff, chain_iff]
    rw [List.isEmpty_iff, List.filter_eq_nil_iff]
    constructor
    · intro h k hk
      have := h k (List.mem_range.2 (by simpa using hk))
      simpa using this
    · intro h k hk
      have := h k (by simpa using List.mem_range.1 hk)
      simpa using this
theorem law_rises_ok {qs : List (Int × D)} (hl : qs.length ≤ 1000) (q : Q (.bl (chain none (qs.map (·.1)))) S) : r_law_rises A [.tup (qs.map pairD)] S Q E := by
  unfold r_law_rises
  walk_at "mp_s"
  refine iRange2_i ?_
  walk_at "mp_s"
  refine ⟨⟨by decide, by decide, by simp only [List.length_map]; omega, by simp only [List.length_map]; omega⟩, ?_⟩
  have en : (((qs.map pairD).length : Int) - 1).toNat = qs.length - 1 := by simp
  rw [en]
  have at_p : ∀ k, k < qs.length → atI (qs.map pairD) (k : Nat) = some (.tup [.int ((qs.map (·.1)).getD k 0), (qs.map (·.2)).getD k .non]) := fun k hk => by
    refine at_k ?_
    rw [List.getElem?_map, List.getElem?_eq_getElem hk]
    simp [pairD, hk]
  refine comp_map (fun k : Nat => D.int (1 + k)) (fun k => decide ((qs.map (·.1)).getD (k + 1) 0 ≤ (qs.map (·.1)).getD k 0)) (fun k => D.int (1 + k)) (List.range (qs.length - 1)) [] (fun k hk c hc => ?_) (fun k _ _ c hc => evV_i rfl hc) (by simpa using Nat.le_trans (Nat.sub_le _ _) (le_line1 hl)) ?_
  · have hk' : k < qs.length - 1 := List.mem_range.1 hk
    have e1 := at_p (k + 1) (by omega)
    have e0 := at_p k (by omega)
    rw [show (((k + 1 : Nat)) : Int) = 1 + (k : Int) by omega] at e1
    walk_at "mp_s"
    refine gIx_t e1 ?_
    walk_at "mp_s"
    rw [show (1 + (k : Int) - 1) = (k : Int) by omega]
    refine gIx_t e0 ?_
    walk_at "mp_s"
    exact hc
  walk_at "mp_s"
  refine gEqE_nil rfl ?_
  rw [List.nil_append, List.isEmpty_map]
  have := rises_eq (qs.map (·.1))
  rw [List.length_map] at this
  rw [this]
  exact q
/-! all parts fit -/
def kOf : Nat → List D → D := fun k l => l.getD k .non
theorem zip_range (V : D → D → Bool) : ∀ (ss ps : List D), ss.length = ps.length → ((List.range ss.length).all fun k => V (ss.getD k .non) (ps.getD k .non)) = (ss.zip ps).all fun p => V p.1 p.2
  | [], [], _ => rfl
  | [], _ :: _, h => by cases h
  | _ :: _, [], h => by cases h
  | s :: ss, p :: ps, h => by
    rw [List.length_cons, List.range_succ_eq_map, List.all_cons, List.all_map, List.zip_cons_cons, List.all_cons, ← zip_range V ss ps (by simpa using h)]
    rfl
theorem all_fit_ok {n : Nat} {T : D} {ss ps : List D} (V : D → D → Bool) (h1 : ss.length ≤ 1000) (h : ss.length = ps.length → ∀ p ∈ ss.zip ps, ∀ (Q : Post) (E : XPost), Q (.bl (V p.1 p.2)) S → r_law_fits A n [T, p.1, p.2] S Q E)
    (q : Q (.bl (ss.length == ps.length && (ss.zip ps).all fun p => V p.1 p.2)) S) : r_law_all_fit A (n + 1) [T, .lst ss, .lst ps] S Q E := by
  rw [r_law_all_fit_eq]
  walk_at "mp_s"
  have e0 : (((ss.length : Int)) == (ps.length : Int)) = (ss.length == ps.length) := by
    rw [Bool.eq_iff_iff]
    simp
    omega
  rw [e0]
  refine ite_cc (fun c => ?_) fun c => ?_
  · have c' : ss.length = ps.length := by simpa using c
    rw [c, Bool.true_and] at q
    walk_at "mp_s"
    refine iRange1_i ?_
    walk_at "mp_s"
    refine ⟨by omega, by omega, ?_⟩
    rw [show ((ss.length : Int)).toNat = ss.length by simp]
    have ha : ∀ (l : List D) (k : Nat), k < l.length → atI l (0 + (k : Int)) = some (l.getD k .non) := fun l k hk => by
      rw [Int.zero_add]
      refine at_k ?_
      rw [List.getElem?_eq_getElem hk]
      simp [hk]
    refine comp_map (fun k : Nat => D.int (0 + k)) (fun k => !V (ss.getD k .non) (ps.getD k .non)) (fun k => D.int (0 + k)) (List.range ss.length) [] (fun k hk c hc => ?_) (fun k _ _ c hc => evV_i rfl hc) (by simpa using le_line1 h1) ?_
    · have hk' : k < ss.length := List.mem_range.1 hk
      walk_at "mp_s"
      refine gIx_l (ha ss k hk') ?_
      walk_at "mp_s"
      refine gIx_l (ha ps k (by omega)) ?_
      walk_at "mp_s"
      refine h c' (ss.getD k .non, ps.getD k .non) ?_ _ _ ?_
      · have : (ss.zip ps)[k]? = some (ss.getD k .non, ps.getD k .non) := by
          rw [List.getElem?_zip_eq_some]
          simp [hk', show k < ps.length by omega]
        exact List.mem_of_getElem? this
      · exact onT_bl hc
    walk_at "mp_s"
    refine gEqE_nil rfl ?_
    rw [List.nil_append, List.isEmpty_map, all_empty, zip_range V ss ps c']
    exact q
  · rw [c, Bool.false_and] at q
    rw [c]
    exact q
end K02

set_option Elab.async false
set_option linter.all false
set_option maxRecDepth 100000
set_option maxHeartbeats 4100000
/-! what the mirrors compute: the law's own judge -/
namespace K02
open PySem PySem.Spec PyProof.Rows L2 MP
variable {A : Ad} {S : Store} {Q : Post} {E : XPost}
def sS : D := .str "small"
def sN : D := .str "name"
def sE : D := .str "E"
def sF : D := .str "free"
def rowOf (s : String) : D := .lst [.str (Str.ofString s), .int 1, .int 9999]
def eKs : List Key := kW ["number", "name", "item", "place", "at", "not", "plus", "minus", "times", "least", "greatest", "less", "atmost", "same", "and", "or", "sum", "fewest", "most", "choose", "cases"]
def eVs : List D := [.lst [sS], .lst [sN], .lst [sN, .str "nine"], .lst [], .lst [sN, sS, sE], .lst [sE], .lst [sE, sE], .lst [sE, sE], .lst [sE, sE], .lst [sE, sE], .lst [sE, sE], .lst [sE, sE], .lst [sE, sE], .lst [sE, sE], .lst [sE, sE], .lst [sE, sE], .lst [sN], .lst [sN], .lst [sN], .lst [sE, sE, sE], .lst [sE, rowOf "pair", sE]]
def iKs : List Key := kW ["input"]
def iVs : List D := [.lst [sN, sS, sS]]
def cKs : List Key := kW ["cell", "row", "settle"]
def cVs : List D := [.lst [sN, sF], .lst [sN, .str "nine", sE], .lst [sN, sS, sS, sF, sF]]
def hKs : List Key := kW ["sheet"]
def hVs : List D := [.lst [rowOf "I", rowOf "C"]]
def TabAt (S : Store) (t : Addr) : Prop := ∃ e, S t = some (.dct (kW ["E", "I", "C", "S"]) [.ref e, .dct iKs iVs, .dct cKs cVs, .dct hKs hVs]) ∧ S e = some (.dct eKs eVs)
/-- what a sort lets -/
def V : D → D → Bool
  | .str s, d => if (s == "small") = true then inR (-999) 999 d else if (s == "nine") = true then inR 1 9 d else if (s == "name") = true then isName d else if (s == "E") = true then isE 60 d else if (s == "free") = true then isPL d else false
  | .lst (.str s :: _), d => if (s == "pair") = true then isC 60 d else if (s == "I") = true then isFilled isInput d else isFilled isCell d
  | _, _ => false
def lastOne (w : Str) (r : List D) : Bool := !inD (.str w) [.str "input", .str "settle"] || leD (r.getD 1 .non) (r.getD 2 .non)
def tupV (ks : List Key) (vs : List D) : D → Bool
  | .tup (.str w :: r) => match dlook ks vs (.inr w) with
    | some (.lst ss) => (ss.length == r.length && (ss.zip r).all fun p => V p.1 p.2) && lastOne w r
    | _ => false
  | _ => false
theorem fits_small {n m : Nat} {T d : D} (h : okD m d) (q : Q (.bl (inR (-999) 999 d)) S) : r_law_fits A (n + 1) [T, .str "small", d] S Q E := by
  have hv := h.val
  rw [r_law_fits_eq]
  walk_at "mp_s"
  refine inC_lst rfl rfl ?_
  refine onBl_i (ite_t (by decide +kernel) ?_)
  cases d with
  | int i =>
    walk_at "mp_s"
    refine ite_cc (fun e => ?_) fun e => ?_
    · have z : inR (-999) 999 (.int i) = decide (i ≤ 999) := by show (decide (-999 ≤ i) && decide (i ≤ 999)) = _; rw [e]; rfl
      rw [z] at q
      walk_at "mp_s"
      exact q
    · have z : inR (-999) 999 (.int i) = false := by show (decide (-999 ≤ i) && decide (i ≤ 999)) = _; rw [e]; rfl
      rw [z] at q
      exact q
  | _ => first | exact hv.elim | (walk_at "mp_s"; exact q)
theorem fits_nine {n m : Nat} {T d : D} (h : okD m d) (q : Q (.bl (inR 1 9 d)) S) : r_law_fits A (n + 1) [T, .str "nine", d] S Q E := by
  have hv := h.val
  rw [r_law_fits_eq]
  walk_at "mp_s"
  refine inC_lst rfl rfl ?_
  refine onBl_i (ite_t (by decide +kernel) ?_)
  cases d with
  | int i =>
    walk_at "mp_s"
    refine ite_cc (fun e => ?_) fun e => ?_
    · have z : inR 1 9 (.int i) = decide (i ≤ 9) := by show (decide (1 ≤ i) && decide (i ≤ 9)) = _; rw [e]; rfl
      rw [z] at q
      walk_at "mp_s"
      exact q
    · have z : inR 1 9 (.int i) = false := by show (decide (1 ≤ i) && decide (i ≤ 9)) = _; rw [e]; rfl
      rw [z] at q
      exact q
  | _ => first | exact hv.elim | (walk_at "mp_s"; exact q)
theorem fits_name {n m : Nat} {T d : D} (h : okD m d) (q : Q (.bl (isName d)) S) : r_law_fits A (n + 1) [T, .str "name", d] S Q E := by
  rw [r_law_fits_eq]
  walk_at "mp_s"
  refine inC_lst rfl rfl ?_
  refine onBl_i (ite_f (by decide +kernel) ?_)
  walk_at "mp_s"
  exact law_is_name_ok h q
/-- a tuple by a dict of forms -/
theorem fits_tup {n m : Nat} {t : Addr} {s : Str} {ks : List Key} {vs : List D} {TS d : D} (hs1 : inD (.str s) [.str "small", .str "nine"] = false) (hs2 : (s == "name") = false) (hs3 : (s == "pair") = false) (hs4 : (s == "free") = false)
    (hT : ∀ Q : Post, Q TS S → gIx (.ref t) (.str s) S Q) (hv : vw TS S = .dct ks vs) (h : okD m d)
    (hall : ∀ w r v, d = .tup (.str w :: r) → dlook ks vs (.inr w) = some v → ∃ ss, v = .lst ss ∧ ss.length ≤ 1000 ∧ (ss.length = r.length → ∀ p ∈ ss.zip r, ∀ (Q : Post) (E : XPost), Q (.bl (V p.1 p.2)) S → r_law_fits A n [.ref t, p.1, p.2] S Q E) ∧
      ((ss.length == r.length && (ss.zip r).all fun p => V p.1 p.2) = true → inD (.str w) [.str "input", .str "settle"] = true → ∃ x i j r', r = x :: .int i :: .int j :: r'))
    (q : Q (.bl (tupV ks vs d)) S) : r_law_fits A (n + 2) [.ref t, .str s, d] S Q E := by
  have hd := h.val
  rw [r_law_fits_eq]
  walk_at "mp_s"
  refine inC_lst rfl rfl ?_
  refine onBl_i (ite_f hs1 ?_)
  walk_at "mp_s"
  refine ite_f hs2 ?_
  cases d with
  | tup xs =>
    obtain ⟨m, rfl, hl, hx⟩ := h.up
    walk_at "mp_s"
    cases xs with
    | nil => walk_at "mp_s"; exact q
    | cons x r =>
      have l0 : (((x :: r).length : Int) == 0) = false := by simp; omega
      try (refine ite_f l0 ?_)
      walk_at "mp_s"
      refine ite_f hs3 ?_
      walk_at "mp_s"
      refine ite_f hs4 ?_
      walk_at "mp_s"
      refine gIx_t at_0 ?_
      have hx0 := (hx x (by simp)).val
      cases x with
      | str w =>
        walk_at "mp_s"
        refine gIx_t at_0 ?_
        walk_at "mp_s"
        refine hT _ ?_
        refine inC_dct hv rfl ?_
        refine onBl_i ?_
        cases hw : dlook ks vs (.inr w) with
        | none =>
          have z : tupV ks vs (.tup (.str w :: r)) = false := by
            show (match dlook ks vs (.inr w) with
              | some (.lst ss) => (ss.length == r.length && (ss.zip r).all fun p => V p.1 p.2) && lastOne w r
              | _ => false) = false
            rw [hw]
          rw [z] at q
          refine ite_t rfl ?_
          walk_at "mp_s"
          exact q
        | some v =>
          obtain ⟨ss, rfl, hsl, hf, hi⟩ := hall w r v rfl hw
          have z : tupV ks vs (.tup (.str w :: r)) = ((ss.length == r.length && (ss.zip r).all fun p => V p.1 p.2) && lastOne w r) := by
            show (match dlook ks vs (.inr w) with
              | some (.lst ss) => (ss.length == r.length && (ss.zip r).all fun p => V p.1 p.2) && lastOne w r
              | _ => false) = _
            rw [hw]
          rw [z] at q
          refine ite_f rfl ?_
          walk_at "mp_s"
          refine hT _ ?_
          walk_at "mp_s"
          refine gIx_t at_0 ?_
          have gx : ∀ Q : Post, Q (.lst ss) S → gIx TS (.str w) S Q := fun Q q => by
            unfold gIx
            rw [hv]
            show (match dlook ks vs (.inr w) with
              | some d => Q d S
              | none => False)
            rw [hw]
            exact q
          refine gx _ ?_
          walk_at "mp_s"
          have cut1 : cutL (D.str w :: r) (some 1) none = r := by
            unfold cutL HT.sIx
            simp
          rw [cut1]
          refine all_fit_ok V hsl hf ?_
          refine onT_bl ?_
          show if (!_) = true then _ else _
          cases hc : (ss.length == r.length && (ss.zip r).all fun p => V p.1 p.2) with
          | false =>
            rw [hc, Bool.false_and] at q
            refine ite_t rfl ?_
            walk_at "mp_s"
            exact q
          | true =>
            rw [hc, Bool.true_and] at q
            refine ite_f rfl ?_
            walk_at "mp_s"
            refine gIx_t at_0 ?_
            walk_at "mp_s"
            refine inC_lst rfl rfl ?_
            show onT (.bl (!inD (.str w) [.str "input", .str "settle"])) S _
            unfold lastOne at q
            refine onT_bl (ite_cc (fun c => ?_) fun c => ?_)
            · rw [c, Bool.true_or] at q
              rw [if_pos rfl]
              rw [c]
              exact q
            · rw [c, Bool.false_or] at q
              obtain ⟨x0, i, j, r', rfl⟩ := hi hc (by simpa using c)
              walk_at "mp_s"
              refine gIx_t at_2 ?_
              walk_at "mp_s"
              refine gIx_t at_3 ?_
              walk_at "mp_s"
              exact q
      | _ => first | exact hx0.elim | (walk_at "mp_s"; exact q)
  | _ => first | exact hd.elim | (walk_at "mp_s"; exact q)
end K02

set_option Elab.async false
set_option linter.all false
set_option maxRecDepth 100000
set_option maxHeartbeats 4100000
/-! what the mirrors compute: the law's own judge, all in all -/
namespace K02
open PySem PySem.Spec PyProof.Rows L2 MP
variable {A : Ad} {S : Store} {Q : Post} {E : XPost}
theorem V_str (s : Str) (d : D) : V (.str s) d = if (s == "small") = true then inR (-999) 999 d else if (s == "nine") = true then inR 1 9 d else if (s == "name") = true then isName d else if (s == "E") = true then isE 60 d else if (s == "free") = true then isPL d else false := rfl
theorem V_row (s : Str) (d : D) : V (.lst [.str s, .int 1, .int 9999]) d = if (s == "pair") = true then isC 60 d else if (s == "I") = true then isFilled isInput d else isFilled isCell d := rfl
theorem V_small {d : D} : V sS d = inR (-999) 999 d := by
  have e := V_str "small" d
  rw [if_pos (by decide +kernel)] at e
  exact e
theorem V_nine {d : D} : V (.str "nine") d = inR 1 9 d := by
  have e := V_str "nine" d
  rw [if_neg (by decide +kernel), if_pos (by decide +kernel)] at e
  exact e
theorem V_name {d : D} : V sN d = isName d := by
  have e := V_str "name" d
  rw [if_neg (by decide +kernel), if_neg (by decide +kernel), if_pos (by decide +kernel)] at e
  exact e
theorem V_E {d : D} : V sE d = isE 60 d := by
  have e := V_str "E" d
  rw [if_neg (by decide +kernel), if_neg (by decide +kernel), if_neg (by decide +kernel), if_pos (by decide +kernel)] at e
  exact e
theorem V_free {d : D} : V sF d = isPL d := by
  have e := V_str "free" d
  rw [if_neg (by decide +kernel), if_neg (by decide +kernel), if_neg (by decide +kernel), if_neg (by decide +kernel), if_pos (by decide +kernel)] at e
  exact e
theorem V_pair {d : D} : V (rowOf "pair") d = isC 60 d := by
  have e := V_row "pair" d
  rw [if_pos (by decide +kernel)] at e
  exact e
theorem V_I {d : D} : V (rowOf "I") d = isFilled isInput d := by
  have e := V_row "I" d
  rw [if_neg (by decide +kernel), if_pos (by decide +kernel)] at e
  exact e
theorem V_C {d : D} : V (rowOf "C") d = isFilled isCell d := by
  have e := V_row "C" d
  rw [if_neg (by decide +kernel), if_neg (by decide +kernel)] at e
  exact e
theorem dlook_none {k : Key} : ∀ {ks : List Key} {vs : List D}, k ∉ ks → dlook ks vs k = none
  | [], _, _ => by unfold dlook; rfl
  | _ :: _, [], _ => by unfold dlook; rfl
  | j :: ks, v :: vs, h => by
    show (if j = k then some v else dlook ks vs k) = none
    rw [if_neg (fun z => h (by rw [z]; exact List.mem_cons_self)), dlook_none fun z => h (List.mem_cons_of_mem _ z)]
def body (w : Str) (r : List D) : Bool :=
  if (w == "number") = true then inR (-999) 999 (r.getD 0 .non)
    else if (w == "name" || overRow w) = true then isName (r.getD 0 .non)
    else if (w == "item") = true then isName (r.getD 0 .non) && inR 1 9 (r.getD 1 .non)
    else if (w == "at") = true then isName (r.getD 0 .non) && (inR (-999) 999 (r.getD 1 .non) && isE 59 (r.getD 2 .non))
    else if (w == "cases") = true then isE 59 (r.getD 0 .non) && (isC 59 (r.getD 1 .non) && isE 59 (r.getD 2 .non))
    else r.all (isE 59)
theorem isE_body (w : Str) (r : List D) : isE 60 (.tup (.str w :: r)) = (tag KS NS (.tup (.str w :: r)) && body w r) := by
  rw [isE]
  rfl
theorem tag_eq {w : Str} {r ss : List D} (e : szLook KS NS (.inr w) = (ss.length : Int) + 1) : tag KS NS (.tup (.str w :: r)) = (ss.length == r.length) := by
  show (szLook KS NS (.inr w) == ((D.str w :: r).length : Int)) = _
  rw [e, Bool.eq_iff_iff]
  simp
  omega
theorem isE_V1 {w : Str} {r ss : List D} (hd : dlook eKs eVs (.inr w) = some (.lst ss)) (hz : szLook KS NS (.inr w) = (ss.length : Int) + 1) (hl : inD (.str w) [.str "input", .str "settle"] = false)
    (hb : ss.length = r.length → body w r = (ss.zip r).all fun p => V p.1 p.2) : isE 60 (.tup (.str w :: r)) = tupV eKs eVs (.tup (.str w :: r)) := by
  rw [isE_body, tag_eq hz]
  show _ = (match dlook eKs eVs (.inr w) with
              | some (.lst ss) => (ss.length == r.length && (ss.zip r).all fun p => V p.1 p.2) && lastOne w r
              | _ => false)
  rw [hd]
  show _ = ((ss.length == r.length && (ss.zip r).all fun p => V p.1 p.2) && lastOne w r)
  unfold lastOne
  rw [hl, Bool.not_false, Bool.true_or, Bool.and_true]
  cases c : ss.length == r.length with
  | false => rfl
  | true => rw [Bool.true_and, Bool.true_and]; exact hb (by simpa using c)
theorem body_all {w : Str} {r : List D} (h1 : (w == "number") = false) (h2 : (w == "name" || overRow w) = false) (h3 : (w == "item") = false) (h4 : (w == "at") = false) (h5 : (w == "cases") = false) : body w r = r.all (isE 59) := by
  unfold body
  rw [if_neg (by rw [h1]; decide), if_neg (by rw [h2]; decide), if_neg (by rw [h3]; decide), if_neg (by rw [h4]; decide), if_neg (by rw [h5]; decide)]
theorem rl1 {r : List D} (h : 1 = r.length) : ∃ a, r = [a] := len1 (by omega)
theorem rl2 {r : List D} (h : 2 = r.length) : ∃ a b, r = [a, b] := len2 (by omega)
theorem rl3 {r : List D} (h : 3 = r.length) : ∃ a b c, r = [a, b, c] := len3 (by omega)
theorem isE_two {m : Nat} {w : Str} {r : List D} (h : okD (m + 1) (.tup (.str w :: r))) (hm : m < 59) (hd : dlook eKs eVs (.inr w) = some (.lst [sE, sE])) (hz : szLook KS NS (.inr w) = 3) (hl : inD (.str w) [.str "input", .str "settle"] = false)
    (h1 : (w == "number") = false) (h2 : (w == "name" || overRow w) = false) (h3 : (w == "item") = false) (h4 : (w == "at") = false) (h5 : (w == "cases") = false) : isE 60 (.tup (.str w :: r)) = tupV eKs eVs (.tup (.str w :: r)) := by
  refine isE_V1 hd hz hl fun hr => ?_
  obtain ⟨a, b, rfl⟩ := rl2 hr
  rw [body_all h1 h2 h3 h4 h5]
  show (isE 59 a && (isE 59 b && true)) = (V sE a && (V sE b && true))
  rw [V_E, V_E, ← isE_step (h.2 a (by simp)) hm, ← isE_step (h.2 b (by simp)) hm]
theorem isE_over {w : Str} {r : List D} (hd : dlook eKs eVs (.inr w) = some (.lst [sN])) (hz : szLook KS NS (.inr w) = 2) (hl : inD (.str w) [.str "input", .str "settle"] = false)
    (h1 : (w == "number") = false) (h2 : (w == "name" || overRow w) = true) : isE 60 (.tup (.str w :: r)) = tupV eKs eVs (.tup (.str w :: r)) := by
  refine isE_V1 hd hz hl fun hr => ?_
  obtain ⟨a, rfl⟩ := rl1 hr
  unfold body
  rw [if_neg (by rw [h1]; decide), if_pos h2]
  show isName a = (V sN a && true)
  rw [V_name, Bool.and_true]
theorem isE_V {m : Nat} {w : Str} {r : List D} (h : okD (m + 1) (.tup (.str w :: r))) (hm : m < 59) : isE 60 (.tup (.str w :: r)) = tupV eKs eVs (.tup (.str w :: r)) := by
  have hr : ∀ x ∈ r, okD m x := fun x hx => h.2 x (List.mem_cons_of_mem _ hx)
  by_cases hw : (.inr w : Key) ∈ eKs
  · unfold eKs kW at hw
    simp only [List.map_cons, List.map_nil, List.mem_cons, List.not_mem_nil, or_false, Sum.inr.injEq] at hw
    rcases hw with rfl | rfl | rfl | rfl | rfl | rfl | rfl | rfl | rfl | rfl | rfl | rfl | rfl | rfl | rfl | rfl | rfl | rfl | rfl | rfl | rfl
    · refine isE_V1 (ss := [sS]) (by rfl) (by decide +kernel) (by decide +kernel) fun hl => ?_
      obtain ⟨a, rfl⟩ := rl1 hl
      unfold body
      rw [if_pos (by decide +kernel)]
      show inR (-999) 999 a = (V sS a && true)
      rw [V_small, Bool.and_true]
    · exact isE_over (by rfl) (by decide +kernel) (by decide +kernel) (by decide +kernel) (by decide +kernel)
    · refine isE_V1 (ss := [sN, .str "nine"]) (by rfl) (by decide +kernel) (by decide +kernel) fun hl => ?_
      obtain ⟨a, b, rfl⟩ := rl2 hl
      unfold body
      rw [if_neg (by decide +kernel), if_neg (by decide +kernel), if_pos (by decide +kernel)]
      show (isName a && inR 1 9 b) = (V sN a && (V (.str "nine") b && true))
      rw [V_name, V_nine, Bool.and_true]
    · refine isE_V1 (ss := []) (by rfl) (by decide +kernel) (by decide +kernel) fun hl => ?_
      have : r = [] := List.eq_nil_of_length_eq_zero hl.symm
      subst this
      rw [body_all (by decide +kernel) (by decide +kernel) (by decide +kernel) (by decide +kernel) (by decide +kernel)]
      rfl
    · refine isE_V1 (ss := [sN, sS, sE]) (by rfl) (by decide +kernel) (by decide +kernel) fun hl => ?_
      obtain ⟨a, b, c, rfl⟩ := rl3 hl
      unfold body
      rw [if_neg (by decide +kernel), if_neg (by decide +kernel), if_neg (by decide +kernel), if_pos (by decide +kernel)]
      show (isName a && (inR (-999) 999 b && isE 59 c)) = (V sN a && (V sS b && (V sE c && true)))
      rw [V_name, V_small, V_E, Bool.and_true, ← isE_step (hr c (by simp)) hm]
    · refine isE_V1 (ss := [sE]) (by rfl) (by decide +kernel) (by decide +kernel) fun hl => ?_
      obtain ⟨a, rfl⟩ := rl1 hl
      rw [body_all (by decide +kernel) (by decide +kernel) (by decide +kernel) (by decide +kernel) (by decide +kernel)]
      show (isE 59 a && true) = (V sE a && true)
      rw [V_E, ← isE_step (hr a (by simp)) hm]
    iterate 10
      exact isE_two h hm (by rfl) (by decide +kernel) (by decide +kernel) (by decide +kernel) (by decide +kernel) (by decide +kernel) (by decide +kernel) (by decide +kernel)
    iterate 3
      exact isE_over (by rfl) (by decide +kernel) (by decide +kernel) (by decide +kernel) (by decide +kernel)
    · refine isE_V1 (ss := [sE, sE, sE]) (by rfl) (by decide +kernel) (by decide +kernel) fun hl => ?_
      obtain ⟨a, b, c, rfl⟩ := rl3 hl
      rw [body_all (by decide +kernel) (by decide +kernel) (by decide +kernel) (by decide +kernel) (by decide +kernel)]
      show (isE 59 a && (isE 59 b && (isE 59 c && true))) = (V sE a && (V sE b && (V sE c && true)))
      rw [V_E, V_E, V_E, ← isE_step (hr a (by simp)) hm, ← isE_step (hr b (by simp)) hm, ← isE_step (hr c (by simp)) hm]
    · refine isE_V1 (ss := [sE, rowOf "pair", sE]) (by rfl) (by decide +kernel) (by decide +kernel) fun hl => ?_
      obtain ⟨a, b, c, rfl⟩ := rl3 hl
      unfold body
      rw [if_neg (by decide +kernel), if_neg (by decide +kernel), if_neg (by decide +kernel), if_neg (by decide +kernel), if_pos (by decide +kernel)]
      show (isE 59 a && (isC 59 b && isE 59 c)) = (V sE a && (V (rowOf "pair") b && (V sE c && true)))
      rw [V_E, V_E, V_pair, Bool.and_true, ← isE_step (hr a (by simp)) hm, ← isC_step (hr b (by simp)) hm, ← isE_step (hr c (by simp)) hm]
  · have nk : (.inr w : Key) ∉ KS := fun z => hw (by
      have h1 := List.all_eq_true.mp (show (KS.all fun k => eKs.any fun j => decide (j = k)) = true by decide +kernel) _ z
      obtain ⟨j, hj, e⟩ := List.any_eq_true.mp h1
      rw [← of_decide_eq_true e]
      exact hj)
    have ht : tag KS NS (.tup (.str w :: r)) = false := by
      cases ht : tag KS NS (.tup (.str w :: r)) with
      | false => rfl
      | true => exact absurd (tag_word ht) nk
    rw [isE_tag ht]
    show _ = (match dlook eKs eVs (.inr w) with
              | some (.lst ss) => (ss.length == r.length && (ss.zip r).all fun p => V p.1 p.2) && lastOne w r
              | _ => false)
    rw [dlook_none hw]
theorem tupV_other {ks : List Key} {vs : List D} {d : D} (h : ∀ w r, d ≠ .tup (.str w :: r)) : tupV ks vs d = false := by
  unfold tupV
  split
  · exact absurd rfl (h _ _)
  · rfl
theorem tag_other {ks : List Key} {ns : List Int} {d : D} (h : ∀ w r, d ≠ .tup (.str w :: r)) : tag ks ns d = false := by
  cases c : tag ks ns d with
  | false => rfl
  | true => obtain ⟨w, r, e⟩ := tag_tup c; exact absurd e (h w r)
theorem isE_V2 {m : Nat} {d : D} (h : okD m d) (hm : m < 60) : isE 60 d = tupV eKs eVs d := by
  by_cases hd : ∃ w r, d = .tup (.str w :: r)
  · obtain ⟨w, r, rfl⟩ := hd
    obtain ⟨m, rfl, hl, hx⟩ := h.up
    exact isE_V (m := m) ⟨hl, hx⟩ (by omega)
  · have hd' : ∀ w r, d ≠ .tup (.str w :: r) := fun w r z => hd ⟨w, r, z⟩
    rw [tupV_other hd', isE_tag (tag_other hd')]
/-! rows -/
def rowV (f : D → Bool) (s : Str) (R : List D → Bool) : D → Bool
  | .tup xs => !xs.isEmpty && (xs.all f && (!(s == "pair") || R xs))
  | _ => false
theorem fits_row {n m : Nat} {t : Addr} {s : Str} {f : D → Bool} {R : List D → Bool} {d : D} (h : okD m d) (hf : ∀ xs, d = .tup xs → ∀ x ∈ xs, ∀ (Q : Post) (E : XPost), Q (.bl (f x)) S → r_law_fits A n [.ref t, .str s, x] S Q E)
    (hR : ∀ xs, d = .tup xs → (s == "pair") = true → xs.all f = true → ∀ (Q : Post) (E : XPost), Q (.bl (R xs)) S → r_law_rises A [.tup xs] S Q E)
    (q : Q (.bl (rowV f s R d)) S) : r_law_fits A (n + 1) [.ref t, .lst [.str s, .int 1, .int 9999], d] S Q E := by
  have hv := h.val
  rw [r_law_fits_eq]
  cases d with
  | tup xs =>
    obtain ⟨m, rfl, hl, hx⟩ := h.up
    have hf' := hf xs rfl
    have hR' := hR xs rfl
    cases xs with
    | nil => walk_at "mp_s"; exact q
    | cons x r =>
      have q' : Q (.bl ((x :: r).all f && (!(s == "pair") || R (x :: r)))) S := q
      have c1 : decide ((1 : Int) ≤ ((x :: r).length : Int)) = true := decide_eq_true (by simp only [List.length_cons]; omega)
      have c2 : decide (((x :: r).length : Int) ≤ 9999) = true := decide_eq_true (by omega)
      walk_at "mp_s"
      refine ite_t c1 ?_
      walk_at "mp_s"
      rw [c2]
      walk_at "mp_s"
      rw [show x :: r = (x :: r).map id by simp]
      refine comp_map (id : D → D) (fun y => !f y) id (x :: r) [] (fun y hy k hk => ?_) (fun y hy _ k hk => evV_i rfl hk) (by simpa using le_line1 hl) ?_
      · refine bNot_i (bV_i (evCall_i (aCons_i (evV_i rfl (aCons_i (bin_i (evV_i rfl (evC_i (gIx_l at_0 (aCons_i (evV_i rfl (aNil_i ?_))))))))))))
        exact hf' y hy _ _ (onT_bl hk)
      walk_at "mp_s"
      refine gEqE_nil rfl ?_
      rw [List.nil_append, List.map_id, all_empty]
      rw [List.map_id]
      refine onT_bl (ite_cc (fun c => ?_) fun c => ?_)
      · rw [c, Bool.true_and] at q'
        walk_at "mp_s"
        refine ite_cc (fun e => ?_) fun e => ?_
        · have e' : (s == "pair") = false := by simpa using e
          rw [e'] at q' ⊢
          exact q'
        · have e' : (s == "pair") = true := by simpa using e
          rw [e', Bool.not_true, Bool.false_or] at q'
          walk_at "mp_s"
          exact hR' e' c _ _ q'
      · rw [c, Bool.false_and] at q'
        rw [c]
        exact q'
  | _ => first | exact hv.elim | (walk_at "mp_s"; exact q)
def pairOk : D → Bool
  | .tup xs => ([sS, sE].length == xs.length && ([sS, sE].zip xs).all fun p => V p.1 p.2)
  | _ => false
theorem fits_pair {n m : Nat} {t : Addr} {d : D} (h : okD m d) (hf : ∀ xs, d = .tup xs → ∀ x ∈ xs, ∀ (Q : Post) (E : XPost), Q (.bl (isE 60 x)) S → r_law_fits A (n + 1) [.ref t, .str "E", x] S Q E) (q : Q (.bl (pairOk d)) S) : r_law_fits A (n + 3) [.ref t, .str "pair", d] S Q E := by
  have hv := h.val
  rw [r_law_fits_eq]
  walk_at "mp_s"
  refine inC_lst rfl rfl ?_
  refine onBl_i (ite_f (by decide +kernel) ?_)
  cases d with
  | tup xs =>
    obtain ⟨m, rfl, hl, hx⟩ := h.up
    cases xs with
    | nil => walk_at "mp_s"; exact q
    | cons x r =>
      have l0 : (((x :: r).length : Int) == 0) = false := by simp; omega
      walk_at "mp_s"
      try (refine ite_f l0 ?_)
      walk_at "mp_s"
      refine all_fit_ok V (by decide) (fun hlen p hp Q E q => ?_) q
      have hlen' : 2 = (x :: r).length := hlen
      obtain ⟨a, b, eab⟩ := rl2 hlen'
      rw [eab] at hp hx
      simp only [List.zip_cons_cons, List.zip_nil_right, List.mem_cons, List.not_mem_nil, or_false] at hp
      rcases hp with rfl | rfl
      · have q : Q (.bl (V sS a)) S := q
        rw [V_small] at q
        exact fits_small (hx a (by simp)) q
      · have q : Q (.bl (V sE b)) S := q
        rw [V_E] at q
        exact hf _ rfl b (by rw [eab]; simp) _ _ q
  | _ => first | exact hv.elim | (walk_at "mp_s"; exact q)
/-- pairs that fit -/
theorem pairs_of : ∀ {xs : List D}, xs.all pairOk = true → ∃ qs : List (Int × D), xs = qs.map pairD ∧ (qs.all fun x => inR (-999) 999 (.int x.1) && isE 60 x.2) = true
  | [], _ => ⟨[], rfl, rfl⟩
  | x :: r, h => by
    rw [List.all_cons, Bool.and_eq_true] at h
    obtain ⟨qs, rfl, hq⟩ := pairs_of (xs := r) h.2
    cases x with
    | tup l =>
      have h1 : ([sS, sE].length == l.length && ([sS, sE].zip l).all fun p => V p.1 p.2) = true := h.1
      rw [Bool.and_eq_true] at h1
      obtain ⟨a, b, rfl⟩ := rl2 (by simpa using h1.1)
      have h2 : (V sS a && (V sE b && true)) = true := h1.2
      rw [V_small, V_E, Bool.and_true, Bool.and_eq_true] at h2
      obtain ⟨i, rfl, i1, i2⟩ := inR_int h2.1
      refine ⟨(i, b) :: qs, rfl, ?_⟩
      rw [List.all_cons, hq, Bool.and_true]
      show (inR (-999) 999 (.int i) && isE 60 b) = true
      rw [h2.1, h2.2]
      rfl
    | _ => cases h.1
theorem casesOk_pairOk {ps : List D} {last : Option Int} (h : casesOk (isE 60) last ps = true) : ps.all pairOk = true := by
  rw [List.all_eq_true]
  induction ps generalizing last with
  | nil => intro x hx; cases hx
  | cons p r ih =>
    unfold casesOk at h
    split at h
    · rename_i k e
      split at h
      · rename_i i
        simp only [Bool.and_eq_true] at h
        intro x hx
        rcases List.mem_cons.1 hx with rfl | hx
        · show ([sS, sE].length == 2 && (V sS (.int i) && (V sE e && true))) = true
          rw [V_small, V_E, h.2.1]
          show (true && ((decide (-999 ≤ i) && decide (i ≤ 999)) && true)) = true
          rw [h.1.1, h.1.2]
          rfl
        · exact ih h.2.2.2 x hx
      · cases h
    · cases h
def firstNum : D → Int
  | .tup (.int i :: _) => i
  | _ => 0
def risesB (xs : List D) : Bool := chain none (xs.map firstNum)
theorem map_first (qs : List (Int × D)) : (qs.map pairD).map firstNum = qs.map (·.1) := by rw [List.map_map]; rfl
theorem isC_row {m : Nat} {d : D} (h : okD m d) (hm : m < 60) : isC 60 d = rowV pairOk "pair" risesB d := by
  by_cases hd : ∃ ps, d = .tup ps
  · obtain ⟨ps, rfl⟩ := hd
    obtain ⟨m, rfl, hl, hx⟩ := h.up
    have e1 : isC 60 (.tup ps) = (!ps.isEmpty && casesOk (isE 59) none ps) := by rw [isC]
    have e2 : rowV pairOk "pair" risesB (.tup ps) = (!ps.isEmpty && (ps.all pairOk && risesB ps)) := by
      show (!ps.isEmpty && (ps.all pairOk && (!((Str.ofString "pair") == (Str.ofString "pair")) || risesB ps))) = _
      rw [show ((Str.ofString "pair") == (Str.ofString "pair")) = true by decide +kernel, Bool.not_true, Bool.false_or]
    have e3 : casesOk (isE 59) none ps = casesOk (isE 60) none ps := by
      rw [Bool.eq_iff_iff]
      constructor
      · exact casesOk_mono (mono_both 59).1 ps none
      · exact casesOk_mem ps none fun k e hp he => by
          obtain ⟨m, rfl, -, hy⟩ := (hx _ hp).up
          rw [← isE_step (hy e (by simp)) (by omega)]
          exact he
    rw [e1, e2, e3]
    congr 1
    cases c : ps.all pairOk with
    | false =>
      rw [Bool.false_and]
      cases c2 : casesOk (isE 60) none ps with
      | false => rfl
      | true => rw [casesOk_pairOk c2] at c; cases c
    | true =>
      obtain ⟨qs, rfl, hq⟩ := pairs_of c
      rw [cases_pairs, hq, Bool.true_and, Bool.true_and]
      unfold risesB
      rw [map_first]
  · have e : isC 60 d = false := by
      cases c : isC 60 d with
      | false => rfl
      | true => obtain ⟨ps, e, -⟩ := isC_tup (n := 59) c; exact absurd ⟨ps, e⟩ hd
    rw [e]
    unfold rowV
    split
    · exact absurd ⟨_, rfl⟩ hd
    · rfl
end K02

set_option Elab.async false
set_option linter.all false
set_option maxRecDepth 100000
set_option maxHeartbeats 4100000
/-! what the mirrors compute: the law's own judge of expressions, cells, sheets -/
namespace K02
open PySem PySem.Spec PyProof.Rows L2 MP
variable {A : Ad} {S : Store} {Q : Post} {E : XPost}
theorem tab_E {t : Addr} (hT : TabAt S t) : ∃ e, vw (.ref e) S = .dct eKs eVs ∧ ∀ Q : Post, Q (.ref e) S → gIx (.ref t) (.str "E") S Q := by
  obtain ⟨e, h1, h2⟩ := hT
  exact ⟨e, by unfold vw; simp only [h2], fun Q q => gIx_box h1 (k := .inr "E") rfl (by rfl) q⟩
theorem lookE {w : Str} {v : D} (h : dlook eKs eVs (.inr w) = some v) : ∃ ss, v = .lst ss ∧ ss.length ≤ 1000 ∧ (∀ s ∈ ss, s = sS ∨ s = sN ∨ s = .str "nine" ∨ s = sE ∨ s = rowOf "pair") ∧ inD (.str w) [.str "input", .str "settle"] = false := by
  have hw : (.inr w : Key) ∈ eKs := by
    apply Classical.byContradiction
    intro z
    rw [dlook_none z] at h
    cases h
  unfold eKs kW at hw
  simp only [List.map_cons, List.map_nil, List.mem_cons, List.not_mem_nil, or_false, Sum.inr.injEq] at hw
  have fin : ∀ ss : List D, dlook eKs eVs (.inr w) = some (.lst ss) → ss.length ≤ 1000 → (∀ s ∈ ss, s = sS ∨ s = sN ∨ s = .str "nine" ∨ s = sE ∨ s = rowOf "pair") → inD (.str w) [.str "input", .str "settle"] = false → ∃ ss, v = .lst ss ∧ ss.length ≤ 1000 ∧ (∀ s ∈ ss, s = sS ∨ s = sN ∨ s = .str "nine" ∨ s = sE ∨ s = rowOf "pair") ∧ inD (.str w) [.str "input", .str "settle"] = false := fun ss e1 e2 e3 e4 => ⟨ss, by rw [h] at e1; exact Option.some.inj e1, e2, e3, e4⟩
  rcases hw with rfl | rfl | rfl | rfl | rfl | rfl | rfl | rfl | rfl | rfl | rfl | rfl | rfl | rfl | rfl | rfl | rfl | rfl | rfl | rfl | rfl
  · exact fin [sS] (by rfl) (by decide) (by simp) (by decide +kernel)
  · exact fin [sN] (by rfl) (by decide) (by simp) (by decide +kernel)
  · exact fin [sN, .str "nine"] (by rfl) (by decide) (by simp) (by decide +kernel)
  · exact fin [] (by rfl) (by decide) (by simp) (by decide +kernel)
  · exact fin [sN, sS, sE] (by rfl) (by decide) (by simp) (by decide +kernel)
  · exact fin [sE] (by rfl) (by decide) (by simp) (by decide +kernel)
  iterate 10
    exact fin [sE, sE] (by rfl) (by decide) (by simp) (by decide +kernel)
  iterate 3
    exact fin [sN] (by rfl) (by decide) (by simp) (by decide +kernel)
  · exact fin [sE, sE, sE] (by rfl) (by decide) (by simp) (by decide +kernel)
  · exact fin [sE, rowOf "pair", sE] (by rfl) (by decide) (by simp) (by decide +kernel)
theorem fV_small {n m : Nat} {T d : D} (h : okD m d) (q : Q (.bl (V sS d)) S) : r_law_fits A (n + 1) [T, sS, d] S Q E := fits_small h (by rw [V_small] at q; exact q)
theorem fV_nine {n m : Nat} {T d : D} (h : okD m d) (q : Q (.bl (V (.str "nine") d)) S) : r_law_fits A (n + 1) [T, .str "nine", d] S Q E := fits_nine h (by rw [V_nine] at q; exact q)
theorem fV_name {n m : Nat} {T d : D} (h : okD m d) (q : Q (.bl (V sN d)) S) : r_law_fits A (n + 1) [T, sN, d] S Q E := fits_name h (by rw [V_name] at q; exact q)
theorem fits_both (m : Nat) : m < 60 → (∀ (n : Nat) (t : Addr) (d : D) (S : Store) (Q : Post) (E : XPost), 2 * m + 3 ≤ n → TabAt S t → okD m d → Q (.bl (isE 60 d)) S → r_law_fits A n [.ref t, .str "E", d] S Q E) ∧
    (∀ (n : Nat) (t : Addr) (d : D) (S : Store) (Q : Post) (E : XPost), 2 * m + 3 ≤ n → TabAt S t → okD m d → Q (.bl (isC 60 d)) S → r_law_fits A n [.ref t, rowOf "pair", d] S Q E) := by
  induction m using Nat.strongRecOn with
  | _ m ih =>
    intro hm
    constructor
    · intro n t d S Q E hn hT ho q
      obtain ⟨n, rfl⟩ : ∃ k, n = k + 2 := ⟨n - 2, by omega⟩
      obtain ⟨e, he, hx⟩ := tab_E hT
      rw [isE_V2 ho hm] at q
      refine fits_tup (ks := eKs) (vs := eVs) (by decide +kernel) (by decide +kernel) (by decide +kernel) (by decide +kernel) hx he ho (fun w r v ed hl => ?_) q
      obtain ⟨ss, rfl, h1, h2, h3⟩ := lookE hl
      refine ⟨ss, rfl, h1, fun hlen p hp Q E q2 => ?_, fun _ z => by rw [h3] at z; cases z⟩
      subst ed
      obtain ⟨m, rfl, -, hy⟩ := ho.up
      obtain ⟨hp1, hp2⟩ := List.of_mem_zip hp
      have hp2' := hy p.2 (List.mem_cons_of_mem _ hp2)
      obtain ⟨n, rfl⟩ : ∃ k, n = k + 1 := ⟨n - 1, by omega⟩
      rcases h2 p.1 hp1 with e | e | e | e | e <;> rw [e] at q2 ⊢
      · exact fV_small hp2' q2
      · exact fV_name hp2' q2
      · exact fV_nine hp2' q2
      · rw [V_E] at q2
        exact (ih m (by omega) (by omega)).1 (n + 1) t _ S Q E (by omega) hT hp2' q2
      · rw [V_pair] at q2
        exact (ih m (by omega) (by omega)).2 (n + 1) t _ S Q E (by omega) hT hp2' q2
    · intro n t d S Q E hn hT ho q
      rw [isC_row ho hm] at q
      obtain ⟨n, rfl⟩ : ∃ k, n = k + 1 := ⟨n - 1, by omega⟩
      refine fits_row ho (fun xs ed x hx Q E q2 => ?_) (fun xs ed _ hall Q E q2 => ?_) q
      · subst ed
        obtain ⟨m, rfl, -, hy⟩ := ho.up
        obtain ⟨n, rfl⟩ : ∃ k, n = k + 3 := ⟨n - 3, by omega⟩
        refine fits_pair (hy x hx) (fun ys ed y hyy Q E q3 => ?_) q2
        subst ed
        obtain ⟨m, rfl, -, hz⟩ := (hy _ hx).up
        exact (ih m (by omega) (by omega)).1 (n + 1) t _ S Q E (by omega) hT (hz y hyy) q3
      · subst ed
        obtain ⟨m, rfl, hl, hy⟩ := ho.up
        obtain ⟨qs, rfl, hq⟩ := pairs_of hall
        unfold risesB at q2
        rw [map_first] at q2
        exact law_rises_ok (by simpa using hl) q2
theorem fits_E {n m : Nat} {t : Addr} {d : D} (hm : m < 60) (hn : 2 * m + 3 ≤ n) (hT : TabAt S t) (ho : okD m d) (q : Q (.bl (isE 60 d)) S) : r_law_fits A n [.ref t, .str "E", d] S Q E := (fits_both m hm).1 n t d S Q E hn hT ho q
theorem fits_free {n m : Nat} {t : Addr} {d : D} (hm : m < 60) (hn : 2 * m + 4 ≤ n) (hT : TabAt S t) (ho : okD m d) (q : Q (.bl (isPL d)) S) : r_law_fits A n [.ref t, .str "free", d] S Q E := by
  have hv := ho.val
  obtain ⟨n, rfl⟩ : ∃ k, n = k + 1 := ⟨n - 1, by omega⟩
  have q' : Q (.bl (isE 60 d && !hasP 60 d)) S := q
  rw [r_law_fits_eq]
  walk_at "mp_s"
  refine inC_lst rfl rfl ?_
  refine onBl_i (ite_f (by decide +kernel) ?_)
  cases d with
  | tup xs =>
    obtain ⟨m, rfl, hl, hx⟩ := ho.up
    cases xs with
    | nil => walk_at "mp_s"; exact q
    | cons x r =>
      have l0 : (((x :: r).length : Int) == 0) = false := by simp; omega
      walk_at "mp_s"
      try (refine ite_f l0 ?_)
      walk_at "mp_s"
      refine fits_E hm (by omega) hT ho ?_
      refine onT_bl (ite_cc (fun c => ?_) fun c => ?_)
      · rw [c, Bool.true_and] at q'
        walk_at "mp_s"
        have hp := (pyd_both 60).1 (m + 1) _ ho c
        refine law_free_ok 60 (m + 1) _ _ _ _ _ ho hp (by omega) (by omega) ?_
        rw [fr_hasP (m + 1) 60 60 60 _ ho c (by omega) (by omega)]
        exact q'
      · rw [c, Bool.false_and] at q'
        rw [c]
        exact q'
  | _ => first | exact hv.elim | (walk_at "mp_s"; exact q)
theorem fV_E {n m : Nat} {t : Addr} {d : D} (hm : m < 60) (hn : 2 * m + 3 ≤ n) (hT : TabAt S t) (ho : okD m d) (q : Q (.bl (V sE d)) S) : r_law_fits A n [.ref t, sE, d] S Q E := fits_E hm hn hT ho (by rw [V_E] at q; exact q)
theorem fV_free {n m : Nat} {t : Addr} {d : D} (hm : m < 60) (hn : 2 * m + 4 ≤ n) (hT : TabAt S t) (ho : okD m d) (q : Q (.bl (V sF d)) S) : r_law_fits A n [.ref t, sF, d] S Q E := fits_free hm hn hT ho (by rw [V_free] at q; exact q)
/-! inputs, cells, sheets -/
theorem tagS {ks : List Key} {ns : List Int} {w : Str} {r ss : List D} (e : szLook ks ns (.inr w) = (ss.length : Int) + 1) : tag ks ns (.tup (.str w :: r)) = (ss.length == r.length) := by
  show (szLook ks ns (.inr w) == ((D.str w :: r).length : Int)) = _
  rw [e, Bool.eq_iff_iff]
  simp
  omega
theorem tag0 {ks : List Key} {ns : List Int} {w : Str} {r : List D} (e : szLook ks ns (.inr w) = 0) : tag ks ns (.tup (.str w :: r)) = false := by
  show (szLook ks ns (.inr w) == ((D.str w :: r).length : Int)) = _
  rw [e]
  simp
  omega
theorem tupV_at {ks : List Key} {vs ss r : List D} {w : Str} (e : dlook ks vs (.inr w) = some (.lst ss)) : tupV ks vs (.tup (.str w :: r)) = ((ss.length == r.length && (ss.zip r).all fun p => V p.1 p.2) && lastOne w r) := by
  show (match dlook ks vs (.inr w) with
    | some (.lst ss) => (ss.length == r.length && (ss.zip r).all fun p => V p.1 p.2) && lastOne w r
    | _ => false) = _
  rw [e]
theorem tupV_no {ks : List Key} {vs r : List D} {w : Str} (e : dlook ks vs (.inr w) = none) : tupV ks vs (.tup (.str w :: r)) = false := by
  show (match dlook ks vs (.inr w) with
    | some (.lst ss) => (ss.length == r.length && (ss.zip r).all fun p => V p.1 p.2) && lastOne w r
    | _ => false) = _
  rw [e]
theorem last_no {w : Str} {r : List D} (h : inD (.str w) [.str "input", .str "settle"] = false) : lastOne w r = true := by unfold lastOne; rw [h]; rfl
theorem last_yes {w : Str} {r : List D} (h : inD (.str w) [.str "input", .str "settle"] = true) : lastOne w r = leD (r.getD 1 .non) (r.getD 2 .non) := by unfold lastOne; rw [h]; rfl
theorem isInput_V (d : D) : isInput d = tupV iKs iVs d := by
  by_cases hd : ∃ w r, d = .tup (.str w :: r)
  · obtain ⟨w, r, rfl⟩ := hd
    by_cases hw : w = "input"
    · subst hw
      rw [tupV_at (ss := [sN, sS, sS]) (by rfl), last_yes (by decide +kernel)]
      show (tag (kW ["input"]) [4] _ && (isName (r.getD 0 .non) && rngOk (r.getD 1 .non) (r.getD 2 .non))) = _
      rw [tagS (ss := [sN, sS, sS]) (by decide +kernel)]
      cases hcc : [sN, sS, sS].length == r.length with
      | false => rfl
      | true =>
        obtain ⟨a, b, c, rfl⟩ := rl3 (by simpa using hcc)
        show (true && (isName a && rngOk b c)) = ((true && (V sN a && (V sS b && (V sS c && true)))) && leD b c)
        rw [V_name, V_small, V_small]
        unfold rngOk
        cases isName a <;> cases inR (-999) 999 b <;> cases inR (-999) 999 c <;> rfl
    · rw [tupV_no (dlook_none fun z => by
        unfold iKs kW at z
        simp only [List.map_cons, List.map_nil, List.mem_cons, List.not_mem_nil, or_false, Sum.inr.injEq] at z
        exact hw z)]
      unfold isInput
      rw [tag0 (by rw [show kW ["input"] = [.inr (Str.ofString "input")] from rfl, sz1, if_neg fun z => hw z.symm]), Bool.false_and]
  · have hd' : ∀ w r, d ≠ .tup (.str w :: r) := fun w r z => hd ⟨w, r, z⟩
    rw [tupV_other hd']
    unfold isInput
    rw [tag_other hd', Bool.false_and]
theorem rl5 {r : List D} (h : 5 = r.length) : ∃ a b c d e, r = [a, b, c, d, e] := len5 (by omega)
theorem isCell_V (d : D) : isCell d = tupV cKs cVs d := by
  by_cases hd : ∃ w r, d = .tup (.str w :: r)
  · obtain ⟨w, r, rfl⟩ := hd
    have sz := sz3 (w := w)
    have e0 : isCell (.tup (.str w :: r)) = (tag (kW ["cell", "row", "settle"]) [3, 4, 6] (.tup (.str w :: r)) && (isName (r.getD 0 .non) && (if (w == "cell") = true then isPL (r.getD 1 .non) else if (w == "row") = true then inR 1 9 (r.getD 1 .non) && isE 60 (r.getD 2 .non) else rngOk (r.getD 1 .non) (r.getD 2 .non) && (isPL (r.getD 3 .non) && isPL (r.getD 4 .non))))) := rfl
    rw [e0]
    by_cases h1 : w = "cell"
    · subst h1
      rw [tupV_at (ss := [sN, sF]) (by rfl), last_no (by decide +kernel), tagS (ss := [sN, sF]) (by decide +kernel), if_pos (by decide +kernel)]
      cases hcc : [sN, sF].length == r.length with
      | false => rfl
      | true =>
        obtain ⟨a, b, rfl⟩ := rl2 (by simpa using hcc)
        show (true && (isName a && isPL b)) = ((true && (V sN a && (V sF b && true))) && true)
        rw [V_name, V_free]
        simp
    by_cases h2 : w = "row"
    · subst h2
      rw [tupV_at (ss := [sN, .str "nine", sE]) (by rfl), last_no (by decide +kernel), tagS (ss := [sN, .str "nine", sE]) (by decide +kernel), if_neg (by decide +kernel), if_pos (by decide +kernel)]
      cases hcc : [sN, .str "nine", sE].length == r.length with
      | false => rfl
      | true =>
        obtain ⟨a, b, c, rfl⟩ := rl3 (by simpa using hcc)
        show (true && (isName a && (inR 1 9 b && isE 60 c))) = ((true && (V sN a && (V (.str "nine") b && (V sE c && true)))) && true)
        rw [V_name, V_nine, V_E]
        simp
    by_cases h3 : w = "settle"
    · subst h3
      rw [tupV_at (ss := [sN, sS, sS, sF, sF]) (by rfl), last_yes (by decide +kernel), tagS (ss := [sN, sS, sS, sF, sF]) (by decide +kernel), if_neg (by decide +kernel), if_neg (by decide +kernel)]
      cases hcc : [sN, sS, sS, sF, sF].length == r.length with
      | false => rfl
      | true =>
        obtain ⟨a, b, c, d, e, rfl⟩ := rl5 (by simpa using hcc)
        show (true && (isName a && (rngOk b c && (isPL d && isPL e)))) = ((true && (V sN a && (V sS b && (V sS c && (V sF d && (V sF e && true)))))) && leD b c)
        rw [V_name, V_small, V_small, V_free, V_free]
        unfold rngOk
        cases isName a <;> cases inR (-999) 999 b <;> cases inR (-999) 999 c <;> cases leD b c <;> cases isPL d <;> cases isPL e <;> rfl
    · rw [tupV_no (dlook_none fun z => by
        unfold cKs kW at z
        simp only [List.map_cons, List.map_nil, List.mem_cons, List.not_mem_nil, or_false, Sum.inr.injEq] at z
        rcases z with z | z | z
        · exact h1 z
        · exact h2 z
        · exact h3 z)]
      rw [tag0 (by rw [sz, if_neg h1, if_neg h2, if_neg h3]), Bool.false_and]
  · have hd' : ∀ w r, d ≠ .tup (.str w :: r) := fun w r z => hd ⟨w, r, z⟩
    rw [tupV_other hd']
    unfold isCell
    rw [tag_other hd', Bool.false_and]
theorem isSheet_V (d : D) : isSheet d = tupV hKs hVs d := by
  by_cases hd : ∃ w r, d = .tup (.str w :: r)
  · obtain ⟨w, r, rfl⟩ := hd
    by_cases hw : w = "sheet"
    · subst hw
      rw [tupV_at (ss := [rowOf "I", rowOf "C"]) (by rfl), last_no (by decide +kernel)]
      show (tag (kW ["sheet"]) [3] _ && (isFilled isInput (r.getD 0 .non) && isFilled isCell (r.getD 1 .non))) = _
      rw [tagS (ss := [rowOf "I", rowOf "C"]) (by decide +kernel)]
      cases hcc : [rowOf "I", rowOf "C"].length == r.length with
      | false => rfl
      | true =>
        obtain ⟨a, b, rfl⟩ := rl2 (by simpa using hcc)
        show (true && (isFilled isInput a && isFilled isCell b)) = ((true && (V (rowOf "I") a && (V (rowOf "C") b && true))) && true)
        rw [V_I, V_C]
        simp
    · rw [tupV_no (dlook_none fun z => by
        unfold hKs kW at z
        simp only [List.map_cons, List.map_nil, List.mem_cons, List.not_mem_nil, or_false, Sum.inr.injEq] at z
        exact hw z)]
      unfold isSheet
      rw [tag0 (by rw [show kW ["sheet"] = [.inr (Str.ofString "sheet")] from rfl, sz1, if_neg fun z => hw z.symm]), Bool.false_and]
  · have hd' : ∀ w r, d ≠ .tup (.str w :: r) := fun w r z => hd ⟨w, r, z⟩
    rw [tupV_other hd']
    unfold isSheet
    rw [tag_other hd', Bool.false_and]
theorem tab_I {t : Addr} (hT : TabAt S t) (Q : Post) (q : Q (.dct iKs iVs) S) : gIx (.ref t) (.str "I") S Q := by
  obtain ⟨e, h1, h2⟩ := hT
  exact gIx_box h1 (k := .inr "I") rfl (by rfl) q
theorem tab_C {t : Addr} (hT : TabAt S t) (Q : Post) (q : Q (.dct cKs cVs) S) : gIx (.ref t) (.str "C") S Q := by
  obtain ⟨e, h1, h2⟩ := hT
  exact gIx_box h1 (k := .inr "C") rfl (by rfl) q
theorem tab_S {t : Addr} (hT : TabAt S t) (Q : Post) (q : Q (.dct hKs hVs) S) : gIx (.ref t) (.str "S") S Q := by
  obtain ⟨e, h1, h2⟩ := hT
  exact gIx_box h1 (k := .inr "S") rfl (by rfl) q
theorem inR_i {lo hi : Int} {d : D} (h : inR lo hi d = true) : ∃ i, d = .int i := let ⟨i, e, _⟩ := inR_int h; ⟨i, e⟩
theorem fits_I {n m : Nat} {t : Addr} {d : D} (hT : TabAt S t) (ho : okD m d) (q : Q (.bl (isInput d)) S) : r_law_fits A (n + 3) [.ref t, .str "I", d] S Q E := by
  rw [isInput_V] at q
  refine fits_tup (ks := iKs) (vs := iVs) (by decide +kernel) (by decide +kernel) (by decide +kernel) (by decide +kernel) (tab_I hT) rfl ho (fun w r v ed hl => ?_) q
  subst ed
  obtain ⟨m, rfl, -, hy⟩ := ho.up
  have hw : w = "input" := by
    apply Classical.byContradiction
    intro hw
    rw [dlook_none fun z => by
        unfold iKs kW at z
        simp only [List.map_cons, List.map_nil, List.mem_cons, List.not_mem_nil, or_false, Sum.inr.injEq] at z
        exact hw z] at hl
    cases hl
  subst hw
  have ev : v = .lst [sN, sS, sS] := (Option.some.inj ((show dlook iKs iVs (.inr "input") = some (.lst [sN, sS, sS]) by rfl).symm.trans hl)).symm
  subst ev
  refine ⟨_, rfl, by decide, fun hlen p hp Q E q2 => ?_, fun c _ => ?_⟩
  · obtain ⟨a, b, c, rfl⟩ := rl3 hlen
    have ha := hy a (by simp)
    have hb := hy b (by simp)
    have hc := hy c (by simp)
    simp only [List.zip_cons_cons, List.zip_nil_right, List.mem_cons, List.not_mem_nil, or_false] at hp
    rcases hp with rfl | rfl | rfl
    · exact fV_name ha q2
    · exact fV_small hb q2
    · exact fV_small hc q2
  · rw [Bool.and_eq_true] at c
    obtain ⟨a, b, c', rfl⟩ := rl3 (by simpa using c.1)
    have h2 : (V sN a && (V sS b && (V sS c' && true))) = true := c.2
    rw [V_small, V_small] at h2
    simp only [Bool.and_eq_true] at h2
    obtain ⟨i, rfl⟩ := inR_i h2.2.1
    obtain ⟨j, rfl⟩ := inR_i h2.2.2.1
    exact ⟨a, i, j, [], rfl⟩
theorem fits_C {n m : Nat} {t : Addr} {d : D} (hm : m < 60) (hn : 2 * m + 6 ≤ n) (hT : TabAt S t) (ho : okD m d) (q : Q (.bl (isCell d)) S) : r_law_fits A n [.ref t, .str "C", d] S Q E := by
  obtain ⟨n, rfl⟩ : ∃ k, n = k + 2 := ⟨n - 2, by omega⟩
  rw [isCell_V] at q
  refine fits_tup (ks := cKs) (vs := cVs) (by decide +kernel) (by decide +kernel) (by decide +kernel) (by decide +kernel) (tab_C hT) rfl ho (fun w r v ed hl => ?_) q
  subst ed
  obtain ⟨m, rfl, -, hy⟩ := ho.up
  obtain ⟨n, rfl⟩ : ∃ k, n = k + 1 := ⟨n - 1, by omega⟩
  have hyr : ∀ x ∈ r, okD m x := fun x hx => hy x (List.mem_cons_of_mem _ hx)
  by_cases h1 : w = "cell"
  · subst h1
    have ev : v = .lst [sN, sF] := (Option.some.inj ((show dlook cKs cVs (.inr "cell") = some (.lst [sN, sF]) by rfl).symm.trans hl)).symm
    subst ev
    refine ⟨_, rfl, by decide, fun hlen p hp Q E q2 => ?_, fun _ z => absurd z (by decide +kernel)⟩
    obtain ⟨a, b, rfl⟩ := rl2 hlen
    simp only [List.zip_cons_cons, List.zip_nil_right, List.mem_cons, List.not_mem_nil, or_false] at hp
    rcases hp with rfl | rfl
    · exact fV_name (hyr a (by simp)) q2
    · exact fV_free (by omega) (by omega) hT (hyr b (by simp)) q2
  by_cases h2 : w = "row"
  · subst h2
    have ev : v = .lst [sN, .str "nine", sE] := (Option.some.inj ((show dlook cKs cVs (.inr "row") = some (.lst [sN, .str "nine", sE]) by rfl).symm.trans hl)).symm
    subst ev
    refine ⟨_, rfl, by decide, fun hlen p hp Q E q2 => ?_, fun _ z => absurd z (by decide +kernel)⟩
    obtain ⟨a, b, c, rfl⟩ := rl3 hlen
    simp only [List.zip_cons_cons, List.zip_nil_right, List.mem_cons, List.not_mem_nil, or_false] at hp
    rcases hp with rfl | rfl | rfl
    · exact fV_name (hyr a (by simp)) q2
    · exact fV_nine (hyr b (by simp)) q2
    · exact fV_E (by omega) (by omega) hT (hyr c (by simp)) q2
  by_cases h3 : w = "settle"
  · subst h3
    have ev : v = .lst [sN, sS, sS, sF, sF] := (Option.some.inj ((show dlook cKs cVs (.inr "settle") = some (.lst [sN, sS, sS, sF, sF]) by rfl).symm.trans hl)).symm
    subst ev
    refine ⟨_, rfl, by decide, fun hlen p hp Q E q2 => ?_, fun c _ => ?_⟩
    · obtain ⟨a, b, c, d, e, rfl⟩ := rl5 hlen
      simp only [List.zip_cons_cons, List.zip_nil_right, List.mem_cons, List.not_mem_nil, or_false] at hp
      rcases hp with rfl | rfl | rfl | rfl | rfl
      · exact fV_name (hyr a (by simp)) q2
      · exact fV_small (hyr b (by simp)) q2
      · exact fV_small (hyr c (by simp)) q2
      · exact fV_free (by omega) (by omega) hT (hyr d (by simp)) q2
      · exact fV_free (by omega) (by omega) hT (hyr e (by simp)) q2
    · rw [Bool.and_eq_true] at c
      obtain ⟨a, b, c', d, e, rfl⟩ := rl5 (by simpa using c.1)
      have h2 : (V sN a && (V sS b && (V sS c' && (V sF d && (V sF e && true))))) = true := c.2
      rw [V_small, V_small] at h2
      simp only [Bool.and_eq_true] at h2
      obtain ⟨i, rfl⟩ := inR_i h2.2.1
      obtain ⟨j, rfl⟩ := inR_i h2.2.2.1
      exact ⟨a, i, j, [d, e], rfl⟩
  · rw [dlook_none fun z => by
        unfold cKs kW at z
        simp only [List.map_cons, List.map_nil, List.mem_cons, List.not_mem_nil, or_false, Sum.inr.injEq] at z
        rcases z with z | z | z
        · exact h1 z
        · exact h2 z
        · exact h3 z] at hl
    cases hl
theorem rowV_f {f : D → Bool} {s : Str} {R : List D → Bool} (h : (s == "pair") = false) (d : D) : rowV f s R d = isFilled f d := by
  cases d with
  | tup xs =>
    show (!xs.isEmpty && (xs.all f && (!(s == "pair") || R xs))) = (!xs.isEmpty && xs.all f)
    rw [h]
    simp
  | _ => rfl
theorem fits_S {n m : Nat} {t : Addr} {d : D} (hm : m < 60) (hn : 2 * m + 9 ≤ n) (hT : TabAt S t) (ho : okD m d) (q : Q (.bl (isSheet d)) S) : r_law_fits A n [.ref t, .str "S", d] S Q E := by
  obtain ⟨n, rfl⟩ : ∃ k, n = k + 2 := ⟨n - 2, by omega⟩
  rw [isSheet_V] at q
  refine fits_tup (ks := hKs) (vs := hVs) (by decide +kernel) (by decide +kernel) (by decide +kernel) (by decide +kernel) (tab_S hT) rfl ho (fun w r v ed hl => ?_) q
  subst ed
  obtain ⟨m, rfl, -, hy⟩ := ho.up
  have hw : w = "sheet" := by
    apply Classical.byContradiction
    intro hw
    rw [dlook_none fun z => by
        unfold hKs kW at z
        simp only [List.map_cons, List.map_nil, List.mem_cons, List.not_mem_nil, or_false, Sum.inr.injEq] at z
        exact hw z] at hl
    cases hl
  subst hw
  have ev : v = .lst [rowOf "I", rowOf "C"] := (Option.some.inj ((show dlook hKs hVs (.inr "sheet") = some (.lst [rowOf "I", rowOf "C"]) by rfl).symm.trans hl)).symm
  subst ev
  refine ⟨_, rfl, by decide, fun hlen p hp Q E q2 => ?_, fun _ z => absurd z (by decide +kernel)⟩
  obtain ⟨a, b, rfl⟩ := rl2 hlen
  obtain ⟨n, rfl⟩ : ∃ k, n = k + 4 := ⟨n - 4, by omega⟩
  have ha := hy a (by simp)
  have hb := hy b (by simp)
  simp only [List.zip_cons_cons, List.zip_nil_right, List.mem_cons, List.not_mem_nil, or_false] at hp
  rcases hp with rfl | rfl
  · have q3 : Q (.bl (V (rowOf "I") a)) S := q2
    rw [V_I, ← rowV_f (s := "I") (R := fun _ => true) (by decide +kernel)] at q3
    refine fits_row ha (fun xs ed x hx Q E q4 => ?_) (fun xs _ z => absurd z (by decide +kernel)) q3
    subst ed
    obtain ⟨m, rfl, -, hz⟩ := ha.up
    exact fits_I hT (hz x hx) q4
  · have q3 : Q (.bl (V (rowOf "C") b)) S := q2
    rw [V_C, ← rowV_f (s := "C") (R := fun _ => true) (by decide +kernel)] at q3
    refine fits_row hb (fun xs ed x hx Q E q4 => ?_) (fun xs _ z => absurd z (by decide +kernel)) q3
    subst ed
    obtain ⟨m, rfl, -, hz⟩ := hb.up
    exact fits_C (m := m) (by omega) (by omega) hT (hz x hx) q4
end K02

set_option Elab.async false
set_option linter.all false
set_option maxRecDepth 100000
set_option maxHeartbeats 4100000
/-! what the mirrors compute: names, numbers, expressions drawn -/
namespace K02
open PySem PySem.Spec PyProof.Rows L2 MP
variable {A : Ad} {S : Store} {Q : Post} {E : XPost}
theorem comp_st {n : Nat} {f : ET} {K : List D → Store → Prop} {ρ : MP.Env} (I : List D → List D → Store → Prop)
    (step : ∀ d r acc S, I (d :: r) acc S → ∀ k : Post, (∀ y S', acc.length < sizeLine ∧ I r (acc ++ [y]) S' → k y S') → f (st ρ n (some d)) S k (fun _ _ => False))
    (fin : ∀ acc S, I [] acc S → K acc S) : ∀ ds acc S, I ds acc S → comp (dgName n) bYes f K ds acc ρ S
  | [], acc, S, h => fin acc S h
  | d :: r, acc, S, h => by
    show (fun _ : Bool => f (st ρ n (some d)) S (fun y S3 => acc.length < sizeLine ∧ comp (dgName n) bYes f K r (acc ++ [y]) ρ S3) (fun _ _ => False)) true
    exact step d r acc S h _ fun y S' hy => ⟨hy.1, comp_st I step fin r (acc ++ [y]) S' hy.2⟩
/-! sizes -/
def okB (L : Nat) : Nat → D → Bool
  | _, .non => true
  | _, .bl _ => true
  | _, .int _ => true
  | _, .str x => decide (x.length ≤ 1000)
  | _, .dct ks xs => ks.isEmpty && xs.isEmpty
  | n + 1, .tup xs => decide (xs.length ≤ L) && xs.all (okB L n)
  | n + 1, .lst xs => decide (xs.length ≤ L) && xs.all (okB L n)
  | _, _ => false
def okL (L n : Nat) (d : D) : Prop := okB L n d = true
theorem okL_int {L n : Nat} {i : Int} : okL L n (.int i) := by cases n <;> rfl
theorem okL_str {L n : Nat} {x : Str} : okL L n (.str x) ↔ x.length ≤ 1000 := by
  cases n <;> exact ⟨fun h => of_decide_eq_true h, fun h => decide_eq_true h⟩
theorem okL_tup {L n : Nat} {xs : List D} : okL L (n + 1) (.tup xs) ↔ xs.length ≤ L ∧ ∀ x ∈ xs, okL L n x := by
  show (decide (xs.length ≤ L) && xs.all (okB L n)) = true ↔ _
  rw [Bool.and_eq_true, decide_eq_true_eq, List.all_eq_true]
  rfl
theorem okL_lst {L n : Nat} {xs : List D} : okL L (n + 1) (.lst xs) ↔ xs.length ≤ L ∧ ∀ x ∈ xs, okL L n x := by
  show (decide (xs.length ≤ L) && xs.all (okB L n)) = true ↔ _
  rw [Bool.and_eq_true, decide_eq_true_eq, List.all_eq_true]
  rfl
theorem okL.okD {L : Nat} (hL : L ≤ 1000) : ∀ {n : Nat} {d : D}, okL L n d → okD n d
  | n, .non, _ => by cases n <;> trivial
  | n, .bl _, _ => by cases n <;> trivial
  | n, .int _, _ => by cases n <;> trivial
  | n, .str x, h => by have := okL_str.mp h; cases n <;> exact this
  | n, .dct ks xs, h => by
    have e : (ks.isEmpty && xs.isEmpty) = true := by cases n <;> exact h
    rw [Bool.and_eq_true, List.isEmpty_iff, List.isEmpty_iff] at e
    cases n <;> exact e
  | 0, .tup xs, h => by cases h
  | 0, .lst xs, h => by cases h
  | n + 1, .tup xs, h => ⟨Nat.le_trans (okL_tup.mp h).1 hL, fun x hx => okL.okD hL ((okL_tup.mp h).2 x hx)⟩
  | n + 1, .lst xs, h => ⟨Nat.le_trans (okL_lst.mp h).1 hL, fun x hx => okL.okD hL ((okL_lst.mp h).2 x hx)⟩
  | n, .ref _, h => by cases n <;> cases h
  | n, .ty _, h => by cases n <;> cases h
  | n, .exn _ _ _ _, h => by cases n <;> cases h
  | n, .kls _, h => by cases n <;> cases h
theorem okL.mono {L M : Nat} (hL : L ≤ M) : ∀ {n m : Nat} {d : D}, n ≤ m → okL L n d → okL M m d
  | n, m, .non, _, _ => by cases m <;> rfl
  | n, m, .bl _, _, _ => by cases m <;> rfl
  | n, m, .int _, _, _ => by cases m <;> rfl
  | n, m, .str x, _, h => okL_str.mpr (okL_str.mp h)
  | n, m, .dct ks xs, _, h => by cases n <;> cases m <;> exact h
  | 0, m, .tup xs, _, h => by cases h
  | 0, m, .lst xs, _, h => by cases h
  | n + 1, 0, _, l, _ => by omega
  | n + 1, m + 1, .tup xs, l, h => okL_tup.mpr ⟨Nat.le_trans (okL_tup.mp h).1 hL, fun x hx => okL.mono hL (by omega) ((okL_tup.mp h).2 x hx)⟩
  | n + 1, m + 1, .lst xs, l, h => okL_lst.mpr ⟨Nat.le_trans (okL_lst.mp h).1 hL, fun x hx => okL.mono hL (by omega) ((okL_lst.mp h).2 x hx)⟩
  | n, m, .ref _, _, h => by cases n <;> cases h
  | n, m, .ty _, _, h => by cases n <;> cases h
  | n, m, .exn _ _ _ _, _, h => by cases n <;> cases h
  | n, m, .kls _, _, h => by cases n <;> cases h
/-! names -/
def isNm (d : D) : Prop := ∃ x : Str, d = .str x ∧ x.length ≤ 100
theorem isNm.ok {L n : Nat} {d : D} (h : isNm d) : okL L n d := by
  obtain ⟨x, rfl, e⟩ := h
  exact okL_str.mpr (by omega)
theorem fzv_l2 {i : Nat} {ρ : MP.Env} {p : Addr} {ds : List D} {QE : MP.Env → Store → Prop} (hi : lk ρ i = some (.ref p)) (hp : S p = some (.lst ds)) (q : QE (st ρ i (some (.lst ds))) (S.del p)) : fzv i QE ρ S := fzv_l hi hp q
theorem append_ok {p : Addr} {y : D} {xs : List D} (h : S p = some (.lst xs)) (hl : xs.length < sizeLine) (q : Q .non (S.set p (.lst (xs ++ [y])))) : mAppend (.ref p) [y] S Q := by
  unfold mAppend onL
  simp only [h]
  exact ⟨hl, q⟩
theorem popAt_ok {p : Addr} {xs : List D} {r : Int} (h : S p = some (.lst xs)) (h0 : 0 ≤ r) (h1 : r < xs.length) (h2 : xs.length ≤ 1000) (q : ∀ y ∈ xs, Q y (S.set p (.lst (xs.eraseIdx r.toNat)))) : mPopAt (.ref p) [.int r] S Q := by
  unfold mPopAt onL
  simp only [h]
  refine ⟨by omega, by omega, ?_⟩
  have hn : r.toNat < xs.length := by omega
  have e : seqIndex? r xs.length = some r.toNat := by
    unfold seqIndex?
    simp
    omega
  rw [e]
  show (match xs[r.toNat]? with
      | some y => Q y (S.set p (.lst (xs.eraseIdx r.toNat)))
      | none => False)
  rw [List.getElem?_eq_getElem hn]
  exact q _ (List.getElem_mem hn)
end K02

set_option Elab.async false
set_option linter.all false
set_option maxRecDepth 100000
set_option maxHeartbeats 4100000
/-! what the mirrors compute: names, numbers drawn -/
namespace K02
open PySem PySem.Spec PyProof.Rows L2 MP
variable {A : Ad} {S : Store} {Q : Post} {E : XPost}
theorem whN_i {t : EB} {b : MP.ST} {n : Nat} {ρ : MP.Env} {N : DEnds} (q : t ρ S (fun c S1 => if c = true then b ρ S1 { N with nx := fun ρ2 S2 => whN t b n ρ2 S2 N, ct := fun ρ2 S2 => whN t b n ρ2 S2 N, bk := N.nx } else N.nx ρ S1) (fun x S' => N.ex x ρ S')) : whN t b (n + 1) ρ S N := q
theorem shuf_loop {a w p2 p3 : Addr} {b K : Nat} {S0 : Store} {x1 : Option D} {N : DEnds} (n1 : S0 p2 = none) (n2 : S0 p3 = none) (ne : p2 ≠ p3) (a2 : p2 ≠ a) (a3 : p3 ≠ a) (w2 : p2 ≠ w) (w3 : p3 ≠ w) (hK : K ≤ 1000)
    (q : ∀ S' fs, S' p2 = some (.lst []) → S' p3 = some (.lst fs) → fs.length = K → (∀ y ∈ fs, isNm y) → Dg S' a w b → Kp S0 S' a w → N.nx [some (.ref a), x1, some (.ref p2), some (.ref p3)] S') :
    ∀ (k : Nat) (ls fs : List D) (S' : Store), ls.length = k → ls.length + fs.length = K → S' p2 = some (.lst ls) → S' p3 = some (.lst fs) → (∀ y ∈ ls, isNm y) → (∀ y ∈ fs, isNm y) → Dg S' a w (b + k) → Kp S0 S' a w →
      whN (bB (bin gNeE (evV 2) (evLst mkF (aNil)))) (dExpr (evM "list" mAppend (evV 3) (aCons (evM "list" mPopAt (evV 2) (aCons (evCall (r_law_take A) (aCons (evV 0) (aCons (evB gLen (aCons (evV 2) (aNil))) (aNil)))) (aNil))) (aNil)))) (k + 1) [some (.ref a), x1, some (.ref p2), some (.ref p3)] S' N
  | 0, ls, fs, S', hl, hs, e2, e3, h2, h3, hd, hk => by
    have e : ls = [] := List.eq_nil_of_length_eq_zero hl
    subst e
    refine whN_i ?_
    walk_at "mp_s"
    refine gNeE_nil (vw_l e2) ?_
    walk_at "mp_s"
    exact q S' fs e2 e3 (by simpa using hs) h3 hd hk
  | k + 1, ls, fs, S', hl, hs, e2, e3, h2, h3, hd, hk => by
    refine whN_i ?_
    walk_at "mp_s"
    refine gNeE_nil (vw_l e2) ?_
    walk_at "mp_s"
    refine ite_t (by cases ls with | nil => cases hl | cons => rfl) ?_
    walk_at "mp_s"
    refine evM_i ?_
    walk_at "mp_s"
    refine ⟨by rw [vw_l e3]; rfl, ?_⟩
    walk_at "mp_s"
    refine evM_i ?_
    walk_at "mp_s"
    refine ⟨by rw [vw_l e2]; rfl, ?_⟩
    walk_at "mp_s"
    refine gLen_w (by rw [vw_l e2]; rfl) ?_
    walk_at "mp_s"
    refine take_g (b := b + k) hd (by omega) (by omega) fun r S1 r0 r1 d1 k1 => ?_
    have e21 := k1 p2 _ a2 w2 e2
    have e31 := k1 p3 _ a3 w3 e3
    walk_at "mp_s"
    refine popAt_ok e21 r0 r1 (by omega) fun y hy => ?_
    walk_at "mp_s"
    refine append_ok (xs := fs) (by rw [Store.set_ne ne.symm]; exact e31) (Nat.lt_of_le_of_lt (m := 1000) (by omega) (by decide)) ?_
    have le : (ls.eraseIdx r.toNat).length = k := by
      rw [List.length_eraseIdx]
      split
      · omega
      · omega
    refine shuf_loop n1 n2 ne a2 a3 w2 w3 hK q k (ls.eraseIdx r.toNat) (fs ++ [y]) _ le ?_ ?_ Store.set_same ?_ ?_ ?_ ?_
    · rw [List.length_append, le, List.length_singleton]; omega
    · rw [Store.set_ne ne, Store.set_same]
    · intro z hz; exact h2 z (List.mem_of_mem_eraseIdx hz)
    · intro z hz
      rcases List.mem_append.1 hz with hz | hz
      · exact h3 z hz
      · rw [List.mem_singleton] at hz; subst hz; exact h2 _ hy
    · exact (d1.set a2 w2).set a3 w3
    · exact ((hk.trans k1).set n1).set n2
theorem shuffled_ok {a w : Addr} {b : Nat} {xs : List D} (h : Dg S a w (b + xs.length)) (hx : ∀ x ∈ xs, isNm x) (hl : xs.length ≤ 1000) (q : ∀ ys S', ys.length = xs.length → (∀ y ∈ ys, isNm y) → Dg S' a w b → Kp S S' a w → Q (.lst ys) S') : r_law_shuffled A [.ref a, .lst xs] S Q E := by
  unfold r_law_shuffled
  walk_at "mp_s"
  refine mkM_i fun p2 n2 => ?_
  walk_at "mp_s"
  refine mkM_i fun p3 n3 => ?_
  walk_at "mp_s"
  have n2w := (Kp.refl S a w).free h n2
  have ne : p2 ≠ p3 := fun z => by rw [z, Store.set_same] at n3; cases n3
  have n3' : S p3 = none := by rw [Store.set_ne ne.symm] at n3; exact n3
  have n3w := (Kp.refl S a w).free h n3'
  refine dFzV_i ?_
  refine dFzV_i ?_
  refine ⟨xs.length + 1, ?_⟩
  refine shuf_loop (S0 := S) n2 n3' ne n2w.2.1 n3w.2.1 n2w.2.2 n3w.2.2 hl (fun S' fs e2 e3 hf h3 hd hk => ?_) xs.length xs [] _ rfl (by simp) (by rw [Store.set_ne ne, Store.set_same]) Store.set_same hx (fun y hy => nomatch hy) ((h.set n2w.2.1 n2w.2.2).set n3w.2.1 n3w.2.2) (((Kp.refl S a w).set n2).set n3')
  dsimp only []
  refine fzv_l (i := 3) (p := p3) rfl e3 ?_
  refine fzv_l (i := 2) (p := p2) rfl (by rw [Store.del_ne ne]; exact e2) ?_
  walk_at "mp_s"
  exact q fs _ hf h3 ((hd.del n3w.2.1 n3w.2.2).del n2w.2.1 n2w.2.2) ((hk.del n3').del n2)
theorem str_len (x y : Str) : (x ++ y).length = x.length + y.length := by
  show (x.cps ++ y.cps).size = x.cps.size + y.cps.size
  exact Array.size_append
theorem atI_ex {α : Type} {xs : List α} {r : Int} (h0 : 0 ≤ r) (h1 : r < xs.length) : ∃ x, atI xs r = some x := by
  have hl : r.toNat < xs.length := by omega
  refine ⟨xs[r.toNat], ?_⟩
  unfold atI ixN
  rw [if_pos h0, if_pos h1]
  exact List.getElem?_eq_getElem hl
theorem sign_at {x : Str} {i : Int} (h0 : 0 ≤ i) (h1 : i < x.length) (hl : x.length ≤ 1000) (q : ∀ c, Q (.str ⟨#[c]⟩) S) : gIx (.str x) (.int i) S Q := by
  obtain ⟨c, e⟩ := atI_ex (xs := x.cps.toList) h0 (by rw [Array.length_toList]; exact h1)
  show x.length ≤ sizeLine ∧ match atI x.cps.toList i with
      | some c => Q (.str ⟨#[c]⟩) S
      | none => False
  rw [e]
  exact ⟨le_line1 hl, q c⟩
theorem names_ok {a w : Addr} {b many : Nat} (hm : many ≤ 70) (h : Dg S a w (b + 2 * many)) (q : ∀ ys S', ys.length = many → (∀ y ∈ ys, isNm y) → Dg S' a w b → Kp S S' a w → Q (.lst ys) S') : r_law_names A [.ref a, .int many] S Q E := by
  unfold r_law_names
  walk_at "mp_s"
  refine iRange1_i ?_
  walk_at "mp_s"
  refine ⟨by omega, by omega, ?_⟩
  rw [show ((many : Int)).toNat = many by simp]
  refine comp_st (fun ds acc S' => (∀ d ∈ ds, ∃ i : Int, d = .int i ∧ 0 ≤ i ∧ i < 70) ∧ acc.length + ds.length = many ∧ (∀ y ∈ acc, isNm y) ∧ Dg S' a w (b + many + ds.length) ∧ Kp S S' a w) ?_ ?_ _ _ _ ⟨?_, ?_, ?_, ?_, Kp.refl S a w⟩
  · rintro d r acc S1 ⟨hd, hn, hy, hg, hk⟩ k hq
    obtain ⟨i, rfl, i0, i1⟩ := hd _ List.mem_cons_self
    walk_at "mp_s"
    refine gMod_i (by decide) ?_
    refine sign_at (Int.emod_nonneg _ (by decide)) (Int.lt_of_lt_of_le (Int.emod_lt_of_pos _ (by decide)) (by decide +kernel)) (by decide +kernel) fun c => ?_
    walk_at "mp_s"
    refine pick_g (b := b + many + r.length) hg (fun z => nomatch z) (by decide) fun x S2 hx g2 k2 => ?_
    have hx2 : ∃ s : Str, x = .str s ∧ s.length ≤ 2 := by
      simp only [List.mem_cons, List.not_mem_nil, or_false] at hx
      rcases hx with rfl | rfl | rfl | rfl <;> exact ⟨_, rfl, by decide +kernel⟩
    obtain ⟨s, rfl, hs⟩ := hx2
    refine gAddT_s (Nat.le_trans (show (1 : Nat) + s.length ≤ 3 by omega) (by decide)) ?_
    have l1 : ((⟨#[c]⟩ : Str) ++ s).length ≤ 3 := by rw [str_len]; show 1 + s.length ≤ 3; omega
    generalize ((⟨#[c]⟩ : Str) ++ s) = u at l1
    walk_at "mp_s"
    refine gDiv_i ⟨by decide, by decide⟩ ?_
    have hj : i / 26 = 0 ∨ i / 26 = 1 ∨ i / 26 = 2 := by omega
    have fin : ∀ v : Str, v.length ≤ 2 → gAddT mkF (.str u) (.str v) S2 k := fun v hv => by
      refine gAddT_s (Nat.le_trans (show u.length + v.length ≤ 5 by omega) (by decide)) (hq _ S2 ⟨Nat.lt_of_le_of_lt (m := 70) (by simp only [List.length_cons] at hn; omega) (by decide), fun d hd' => hd d (List.mem_cons_of_mem _ hd'), by rw [List.length_append, List.length_singleton]; simp only [List.length_cons] at hn; omega, fun y hy' => ?_, g2, hk.trans k2⟩)
      rcases List.mem_append.1 hy' with hy' | hy'
      · exact hy y hy'
      · rw [List.mem_singleton] at hy'; subst hy'
        exact ⟨_, rfl, by rw [str_len]; omega⟩
    rcases hj with e | e | e <;> rw [e]
    · exact ⟨by decide +kernel, by decide, by decide, by decide +kernel, fin _ (by decide +kernel)⟩
    · exact ⟨by decide +kernel, by decide, by decide, by decide +kernel, fin _ (by decide +kernel)⟩
    · exact ⟨by decide +kernel, by decide, by decide, by decide +kernel, fin _ (by decide +kernel)⟩
  · rintro acc S1 ⟨hd, hn, hy, hg, hk⟩
    have hn' : acc.length = many := by simpa using hn
    walk_at "mp_s"
    refine shuffled_ok (b := b) (by rw [hn']; exact hg) hy (by omega) fun ys S2 h1 h2 h3 h4 => ?_
    exact q ys S2 (by omega) h2 h3 (hk.trans h4)
  · intro d hd
    unfold rangeD at hd
    obtain ⟨j, hj, rfl⟩ := List.mem_map.1 hd
    have := List.mem_range.1 hj
    exact ⟨_, rfl, by omega, by omega⟩
  · unfold rangeD; simp
  · exact fun y hy => nomatch hy
  · unfold rangeD
    rw [List.length_map, List.length_range]
    exact h.mono (by omega)
theorem any_number_ok {a w : Addr} {b : Nat} (h : Dg S a w (b + 2)) (q : ∀ i S', Dg S' a w b → Kp S S' a w → Q (.int i) S') : r_law_any_number A [.ref a] S Q E := by
  unfold r_law_any_number
  walk_at "mp_s"
  refine take_g (b := b + 1) h (by decide) (by decide) fun r S1 r0 r1 d1 k1 => ?_
  walk_at "mp_s"
  refine pick_g d1 (fun z => nomatch z) (by simp) fun x S2 hx d2 k2 => ?_
  have hx2 : ∃ i, x = .int i := by
    simp only [List.mem_cons, List.not_mem_nil, or_false] at hx
    rcases hx with rfl | rfl | rfl | rfl | rfl | rfl | rfl | rfl | rfl | rfl | rfl | rfl | rfl | rfl <;> exact ⟨_, rfl⟩
  obtain ⟨i, rfl⟩ := hx2
  exact q i S2 d2 (k1.trans k2)
end K02

set_option Elab.async false
set_option linter.all false
set_option maxRecDepth 100000
set_option maxHeartbeats 4100000
/-! what the mirrors compute: expressions drawn -/
namespace K02
open PySem PySem.Spec PyProof.Rows L2 MP
variable {A : Ad} {S : Store} {Q : Post} {E : XPost}
def flat (d : D) : Prop := (∃ i, d = .int i) ∨ isNm d
inductive GE : Nat → D → Prop
  | leaf {n : Nat} {w : Str} {r : List D} : w.length ≤ 100 → r.length ≤ 5 → (∀ x ∈ r, flat x) → (w == "at") = false → (w == "cases") = false → GE (n + 1) (.tup (.str w :: r))
  | att {n : Nat} {a : D} {i : Int} {c : D} : isNm a → GE n c → GE (n + 1) (.tup [.str "at", a, .int i, c])
  | cas {n : Nat} {a c : D} {qs : List (Int × D)} : GE n a → GE n c → qs.length ≤ 5 → (∀ q ∈ qs, GE n q.2) → GE (n + 1) (.tup [.str "cases", a, .tup (qs.map pairD), c])
  | node {n : Nat} {w : Str} {r : List D} : w.length ≤ 100 → r.length ≤ 5 → (∀ x ∈ r, GE n x) → (w == "place") = false → (w == "at") = false → (w == "cases") = false → GE (n + 1) (.tup (.str w :: r))
def ec : Nat → Nat
  | 0 => 20
  | k + 1 => 6 * ec k
theorem ec_ge : ∀ k, 20 ≤ ec k
  | 0 => Nat.le_refl _
  | k + 1 => by have := ec_ge k; show 20 ≤ 6 * ec k; omega
theorem take_two {a w : Addr} {b : Nat} {c : Bool} {m1 m2 : Int} {K : Post} (h : Dg S a w (b + 1)) (h1 : 0 < m1) (h2 : m1 < 1073741824) (h3 : 0 < m2) (h4 : m2 < 1073741824)
    (q : ∀ r S', 0 ≤ r → (c = true ∧ r < m1 ∨ c = false ∧ r < m2) → Dg S' a w b → Kp S S' a w → K (.int r) S') : (if c = true then r_law_take A [.ref a, .int m1] S K E else r_law_take A [.ref a, .int m2] S K E) :=
  ite_cc (fun e => take_g h h1 h2 fun r S' r0 r1 d k => q r S' r0 (.inl ⟨e, r1⟩) d k) fun e => take_g h h3 h4 fun r S' r0 r1 d k => q r S' r0 (.inr ⟨e, r1⟩) d k
theorem any_expr_ok : ∀ (k fuel : Nat) {a w : Addr} {b : Nat} {ns : List D} (S : Store) (Q : Post) (E : XPost), k < fuel → ns ≠ [] → ns.length ≤ 1000 → (∀ y ∈ ns, isNm y) → Dg S a w (b + ec k) →
    (∀ o S', GE (k + 1) o → Dg S' a w b → Kp S S' a w → Q o S') → r_law_any_expression A fuel [.ref a, .lst ns, .int ((k : Int) + 1)] S Q E
  | k, 0, a, w, b, ns, S, Q, E, hf, _, _, _, _, _ => absurd hf (Nat.not_lt_zero k)
  | k, fuel + 1, a, w, b, ns, S, Q, E, hf, h0, hl, hn, h, q => by
    have c20 := ec_ge k
    have l30 : ns.length < 1073741824 := by omega
    rw [r_law_any_expression_eq]
    walk_at "mp_s"
    refine take_two (b := b + ec k - 1) (h.mono (by omega)) (by decide) (by decide) (by decide) (by decide) fun r S1 r0 r1 d1 k1 => ?_
    walk_at "mp_s"
    refine ite_cc (fun e1 => ?_) fun e1 => ?_
    · walk_at "mp_s"
      refine any_number_ok (b := b) (d1.mono (by omega)) fun i S2 d2 k2 => ?_
      walk_at "mp_s"
      exact q _ S2 (.leaf (by decide +kernel) (by simp) (fun x hx => by rw [List.mem_singleton] at hx; exact .inl ⟨i, hx⟩) (by decide +kernel) (by decide +kernel)) d2 (k1.trans k2)
    walk_at "mp_s"
    refine ite_cc (fun e2 => ?_) fun e2 => ?_
    · walk_at "mp_s"
      refine pick_g (b := b) (d1.mono (by omega)) h0 l30 fun x S2 hx d2 k2 => ?_
      walk_at "mp_s"
      exact q _ S2 (.leaf (by decide +kernel) (by simp) (fun y hy => by rw [List.mem_singleton] at hy; subst hy; exact .inr (hn _ hx)) (by decide +kernel) (by decide +kernel)) d2 (k1.trans k2)
    walk_at "mp_s"
    refine ite_cc (fun e3 => ?_) fun e3 => ?_
    · walk_at "mp_s"
      refine pick_g (b := b + 2) (d1.mono (by omega)) h0 l30 fun x S2 hx d2 k2 => ?_
      walk_at "mp_s"
      refine take_g (b := b + 1) d2 (by decide) (by decide) fun i S3 i0 i1 d3 k3 => ?_
      walk_at "mp_s"
      refine pick_g d3 (fun z => nomatch z) (by simp) fun y S4 hy d4 k4 => ?_
      refine q _ S4 ?_ d4 (((k1.trans k2).trans k3).trans k4)
      simp only [List.mem_cons, List.not_mem_nil, or_false] at hy
      rcases hy with rfl | rfl
      · exact .leaf (by decide +kernel) (by simp) (fun y hy => nomatch hy) (by decide +kernel) (by decide +kernel)
      · refine .leaf (by decide +kernel) (by simp) (fun y hy => ?_) (by decide +kernel) (by decide +kernel)
        simp only [List.mem_cons, List.not_mem_nil, or_false] at hy
        rcases hy with rfl | rfl
        · exact .inr (hn _ hx)
        · exact .inl ⟨_, rfl⟩
    walk_at "mp_s"
    refine ite_cc (fun e4 => ?_) fun e4 => ?_
    · walk_at "mp_s"
      refine pick_g (b := b + 1) (d1.mono (by omega)) (fun z => nomatch z) (by simp) fun x S2 hx d2 k2 => ?_
      walk_at "mp_s"
      refine pick_g d2 h0 l30 fun y S3 hy d3 k3 => ?_
      walk_at "mp_s"
      have hx2 : ∃ s : Str, x = .str s ∧ s.length ≤ 100 ∧ (s == "at") = false ∧ (s == "cases") = false := by
        simp only [List.mem_cons, List.not_mem_nil, or_false] at hx
        rcases hx with rfl | rfl | rfl <;> exact ⟨_, rfl, by decide +kernel, by decide +kernel, by decide +kernel⟩
      obtain ⟨s, rfl, s1, s2, s3⟩ := hx2
      exact q _ S3 (.leaf s1 (by simp) (fun z hz => by rw [List.mem_singleton] at hz; subst hz; exact .inr (hn _ hy)) s2 s3) d3 ((k1.trans k2).trans k3)
    -- deeper
    obtain ⟨j, rfl⟩ : ∃ j, k = j + 1 := by
      rcases r1 with ⟨c, -⟩ | ⟨-, r1⟩
      · have := of_decide_eq_true c
        exact ⟨k - 1, by omega⟩
      · exfalso
        simp at e1 e2 e3 e4
        omega
    have ed : ((j + 1 : Nat) : Int) + 1 - 1 = (j : Int) + 1 := by omega
    have c6 : ec (j + 1) = 6 * ec j := rfl
    have c20' := ec_ge j
    have rec_ : ∀ {b' : Nat} (S' : Store) (Q' : Post) (E' : XPost), Dg S' a w (b' + ec j) → (∀ o S'', GE (j + 1) o → Dg S'' a w b' → Kp S' S'' a w → Q' o S'') → r_law_any_expression A fuel [.ref a, .lst ns, .int (((j + 1 : Nat) : Int) + 1 - 1)] S' Q' E' := fun {b'} S' Q' E' h' q' => by
      rw [ed]
      exact any_expr_ok j fuel S' Q' E' (by omega) h0 hl hn h' q'
    walk_at "mp_s"
    refine iRange1_i ?_
    walk_at "mp_s"
    refine ⟨by decide, by decide, ?_⟩
    refine comp_st (fun ds acc S' => acc.length + ds.length = 2 ∧ (∀ y ∈ acc, GE (j + 1) y) ∧ Dg S' a w (b + 4 * ec j - 1 + ds.length * ec j) ∧ Kp S S' a w) ?_ ?_ _ _ _ ⟨rfl, (fun y hy => nomatch hy), ?_, k1⟩
    · rintro d ds acc S2 ⟨hl2, hy, hg, hk⟩ kk hq
      walk_at "mp_s"
      refine rec_ (b' := b + 4 * ec j - 1 + ds.length * ec j) S2 _ _ (hg.mono (by simp only [List.length_cons, Nat.add_mul, Nat.one_mul]; omega)) fun o S3 ho d3 k3 => ?_
      refine hq o S3 ⟨Nat.lt_of_le_of_lt (m := 2) (by omega) (by decide), by rw [List.length_append, List.length_singleton]; simp only [List.length_cons] at hl2; omega, fun y hy' => ?_, d3, hk.trans k3⟩
      rcases List.mem_append.1 hy' with hy' | hy'
      · exact hy y hy'
      · rw [List.mem_singleton] at hy'; subst hy'; exact ho
    · rintro acc S2 ⟨hl2, hy, hg, hk⟩
      obtain ⟨x1, x2, rfl⟩ : ∃ x y, acc = [x, y] := len2 (by simp only [List.length_nil] at hl2; omega)
      have g1 := hy x1 (by simp)
      have g2 := hy x2 (by simp)
      have hg2 : Dg S2 a w (b + 4 * ec j - 1) := hg.mono (by omega)
      clear hl2 hy hg
      walk_at "mp_s"
      refine ite_cc (fun e5 => ?_) fun e5 => ?_
      · walk_at "mp_s"
        refine pick_g (b := b + 2) (hg2.mono (by omega)) h0 l30 fun x S3 hx d3 k3 => ?_
        walk_at "mp_s"
        refine any_number_ok (b := b) d3 fun i S4 d4 k4 => ?_
        walk_at "mp_s"
        exact q _ S4 (.att (hn _ hx) g1) d4 ((hk.trans k3).trans k4)
      walk_at "mp_s"
      refine ite_cc (fun e6 => ?_) fun e6 => ?_
      · walk_at "mp_s"
        exact q _ S2 (.node (by decide +kernel) (by simp) (fun y hy => by rw [List.mem_singleton] at hy; subst hy; exact g1) (by decide +kernel) (by decide +kernel) (by decide +kernel)) (hg2.mono (by omega)) hk
      walk_at "mp_s"
      refine ite_cc (fun e7 => ?_) fun e7 => ?_
      · walk_at "mp_s"
        refine rec_ (b' := b) S2 _ _ (hg2.mono (by omega)) fun o S3 ho d3 k3 => ?_
        walk_at "mp_s"
        refine q _ S3 (.node (by decide +kernel) (by simp) (fun y hy => ?_) (by decide +kernel) (by decide +kernel) (by decide +kernel)) d3 (hk.trans k3)
        simp only [List.mem_cons, List.not_mem_nil, or_false] at hy
        rcases hy with rfl | rfl | rfl
        · exact g1
        · exact g2
        · exact ho
      walk_at "mp_s"
      refine ite_cc (fun e8 => ?_) fun e8 => ?_
      · walk_at "mp_s"
        refine any_number_ok (b := b + 4 * ec j - 3) (hg2.mono (by omega)) fun i S3 d3 k3 => ?_
        walk_at "mp_s"
        refine gDiv_i ⟨by decide, by decide⟩ ?_
        walk_at "mp_s"
        refine mkM_i fun p np => ?_
        walk_at "mp_s"
        have pf := (hk.trans k3).free d3 np
        refine dFzV_i ?_
        walk_at "mp_s"
        refine iRange1_i ?_
        walk_at "mp_s"
        refine take_g (b := b + 4 * ec j - 4) ((d3.set pf.2.1 pf.2.2).mono (by omega)) (by decide) (by decide) fun m S4 m0 m1 d4 k4 => ?_
        walk_at "mp_s"
        refine ⟨by omega, by omega, ?_⟩
        have ep : S4 p = some (.lst []) := k4 p _ pf.2.1 pf.2.2 Store.set_same
        refine loop_ind (fun ds ρ S' => ∃ x5 low qs, ρ = [some (.ref a), some (.lst ns), some (.int (((j + 1 : Nat) : Int) + 1)), some (.int r), some (.lst [x1, x2]), x5, some (.int low), some (.ref p)] ∧ S' p = some (.lst (qs.map pairD)) ∧ qs.length + ds.length ≤ 3 ∧ (∀ q ∈ qs, GE (j + 1) q.2) ∧ Dg S' a w (b + ds.length * (ec j + 2)) ∧ Kp S S' a w) ?_ ?_ _ _ _ ⟨none, i / 2, [], rfl, ep, ?_, (fun q hq => nomatch hq), ?_, ((hk.trans k3).set pf.1).trans k4⟩
        · rintro d ds ρ S5 ih ⟨x5, low, qs, rfl, e5', hq3, hqs, hg5, hk5⟩
          walk_at "mp_s"
          refine take_g (b := b + ds.length * (ec j + 2) + ec j + 1) (hg5.mono (by simp only [List.length_cons, Nat.add_mul, Nat.one_mul]; omega)) (by decide) (by decide) fun u S6 u0 u1 d6 k6 => ?_
          walk_at "mp_s"
          refine pick_g (b := b + ds.length * (ec j + 2) + ec j) d6 (fun z => nomatch z) (by simp) fun y S7 hy d7 k7 => ?_
          have hy2 : ∃ i, y = .int i := by
            simp only [List.mem_cons, List.not_mem_nil, or_false] at hy
            rcases hy with rfl | rfl | rfl | rfl <;> exact ⟨_, rfl⟩
          obtain ⟨z, rfl⟩ := hy2
          walk_at "mp_s"
          have e7' := k7 p _ pf.2.1 pf.2.2 (k6 p _ pf.2.1 pf.2.2 e5')
          refine evM_i ?_
          walk_at "mp_s"
          refine ⟨by rw [vw_l e7']; rfl, ?_⟩
          walk_at "mp_s"
          refine rec_ (b' := b + ds.length * (ec j + 2)) S7 _ _ d7 fun o S8 ho d8 k8 => ?_
          have e8' := k8 p _ pf.2.1 pf.2.2 e7'
          walk_at "mp_s"
          refine append_ok e8' (Nat.lt_of_le_of_lt (m := 3) (by rw [List.length_map]; simp only [List.length_cons] at hq3; omega) (by decide)) ?_
          refine ih _ _ ⟨some d, low + 1 + z, qs ++ [(low + 1 + z, o)], rfl, ?_, ?_, ?_, d8.set pf.2.1 pf.2.2, ((((hk5.trans k6).trans k7).trans k8)).set pf.1⟩
          · rw [Store.set_same, List.map_append]; rfl
          · rw [List.length_append, List.length_singleton]; simp only [List.length_cons] at hq3; omega
          · intro x hx
            rcases List.mem_append.1 hx with hx | hx
            · exact hqs x hx
            · rw [List.mem_singleton] at hx; subst hx; exact ho
        · rintro ρ S5 ⟨x5, low, qs, rfl, e5', hq3, hqs, hg5, hk5⟩
          dsimp only []
          refine fzv_l (i := 7) (p := p) rfl e5' ?_
          walk_at "mp_s"
          exact q _ _ (.cas g1 g2 (by simp at hq3; omega) hqs) ((hg5.mono (by simp)).del pf.2.1 pf.2.2) (hk5.del pf.1)
        · unfold rangeD; rw [List.length_map, List.length_range, List.length_nil]; omega
        · unfold rangeD
          rw [List.length_map, List.length_range]
          refine d4.mono ?_
          have : (1 + m).toNat ≤ 3 := by omega
          have h3 : (1 + m).toNat * (ec j + 2) ≤ 3 * (ec j + 2) := Nat.mul_le_mul_right _ this
          omega
      · walk_at "mp_s"
        refine pick_g (b := b) (hg2.mono (by omega)) (fun z => nomatch z) (by simp) fun x S3 hx d3 k3 => ?_
        have hx2 : ∃ s : Str, x = .str s ∧ s.length ≤ 100 ∧ (s == "place") = false ∧ (s == "at") = false ∧ (s == "cases") = false := by
          simp only [List.mem_cons, List.not_mem_nil, or_false] at hx
          rcases hx with rfl | rfl | rfl | rfl | rfl | rfl | rfl | rfl | rfl | rfl <;> exact ⟨_, rfl, by decide +kernel, by decide +kernel, by decide +kernel, by decide +kernel⟩
        obtain ⟨s, rfl, s1, s2, s3, s4⟩ := hx2
        walk_at "mp_s"
        refine q _ S3 (.node s1 (by simp) (fun y hy => ?_) s2 s3 s4) d3 (hk.trans k3)
        simp only [List.mem_cons, List.not_mem_nil, or_false] at hy
        rcases hy with rfl | rfl
        · exact g1
        · exact g2
    · have : (rangeD 0 (2 : Int).toNat).length = 2 := by unfold rangeD; simp
      rw [this]
      exact d1.mono (by omega)
end K02

set_option Elab.async false
set_option linter.all false
set_option maxRecDepth 100000
set_option maxHeartbeats 4100000
/-! what the mirrors compute: cells drawn -/
namespace K02
open PySem PySem.Spec PyProof.Rows L2 MP
variable {A : Ad} {S : Store} {Q : Post} {E : XPost}
theorem flat_ok {L n : Nat} {d : D} (h : flat d) : okL L n d := by
  rcases h with ⟨i, rfl⟩ | h
  · exact okL_int
  · exact h.ok
theorem flat_tup {d : D} (h : flat d) : isTup d = false := by
  rcases h with ⟨i, rfl⟩ | ⟨x, rfl, -⟩ <;> rfl
theorem GE_tup {n : Nat} {d : D} (h : GE n d) : isTup d = true := by cases h <;> rfl
theorem flat_val {d : D} (h : flat d) : Val d := by
  rcases h with ⟨i, rfl⟩ | ⟨x, rfl, -⟩ <;> trivial
theorem GE_val {n : Nat} {d : D} (h : GE n d) : Val d := by cases h <;> trivial
theorem okL_w {n : Nat} {w : Str} (h : w.length ≤ 100) : okL 20 n (.str w) := okL_str.mpr (by omega)
theorem GE_ok : ∀ {n : Nat} {d : D}, GE n d → okL 20 (3 * n) d := fun {n d} h => by
  induction h with
  | @leaf n w r h1 h2 h3 _ _ =>
    rw [show 3 * (n + 1) = (3 * n + 2) + 1 by omega]
    refine okL_tup.mpr ⟨by simp only [List.length_cons]; omega, fun x hx => ?_⟩
    rcases List.mem_cons.1 hx with rfl | hx
    · exact okL_w h1
    · exact flat_ok (h3 x hx)
  | @att n a i c h1 _ ih =>
    rw [show 3 * (n + 1) = (3 * n + 2) + 1 by omega]
    refine okL_tup.mpr ⟨by simp, fun x hx => ?_⟩
    simp only [List.mem_cons, List.not_mem_nil, or_false] at hx
    rcases hx with rfl | rfl | rfl | rfl
    · exact okL_w (by decide +kernel)
    · exact h1.ok
    · exact okL_int
    · exact ih.mono (Nat.le_refl _) (by omega)
  | @cas n a c qs _ _ h3 _ i1 i2 i3 =>
    rw [show 3 * (n + 1) = (3 * n + 2) + 1 by omega]
    refine okL_tup.mpr ⟨by simp, fun x hx => ?_⟩
    simp only [List.mem_cons, List.not_mem_nil, or_false] at hx
    rcases hx with rfl | rfl | rfl | rfl
    · exact okL_w (by decide +kernel)
    · exact i1.mono (Nat.le_refl _) (by omega)
    · refine okL_tup.mpr ⟨by rw [List.length_map]; omega, fun x hx => ?_⟩
      obtain ⟨q, hq, rfl⟩ := List.mem_map.1 hx
      refine okL_tup.mpr ⟨by simp, fun x hx => ?_⟩
      simp only [List.mem_cons, List.not_mem_nil, or_false] at hx
      rcases hx with rfl | rfl
      · exact okL_int
      · exact i3 q hq
    · exact i2.mono (Nat.le_refl _) (by omega)
  | @node n w r h1 h2 _ _ _ _ ih =>
    rw [show 3 * (n + 1) = (3 * n + 2) + 1 by omega]
    refine okL_tup.mpr ⟨by simp only [List.length_cons]; omega, fun x hx => ?_⟩
    rcases List.mem_cons.1 hx with rfl | hx
    · exact okL_w h1
    · exact (ih x hx).mono (Nat.le_refl _) (by omega)
/-! others in the place of place and at -/
def pl : Nat → D → D
  | n + 1, .tup (.str w :: r) => if (w == "place") = true then .tup [.str "number", .int 1]
    else if (w == "at") = true then .tup [.str "plus", .tup [.str "name", r.getD 0 .non], pl n (r.getD 2 .non)]
    else if (w == "cases") = true then .tup [.str "cases", pl n (r.getD 0 .non), .tup ((tupOf (r.getD 1 .non)).map fun p => .tup [(tupOf p).getD 0 .non, pl n ((tupOf p).getD 1 .non)]), pl n (r.getD 2 .non)]
    else .tup (.str w :: r.map fun x => if isTup x = true then pl n x else x)
  | _, d => d
theorem pl_ok {n : Nat} {d : D} (h : GE n d) : okL 20 (3 * n) (pl n d) := by
  have two : ∀ {m : Nat} {a : D} {s : Str}, s.length ≤ 100 → okL 20 m a → okL 20 (m + 1) (.tup [.str s, a]) := fun {m a s} hs ha => by
    refine okL_tup.mpr ⟨by simp, fun x hx => ?_⟩
    simp only [List.mem_cons, List.not_mem_nil, or_false] at hx
    rcases hx with rfl | rfl
    · exact okL_w hs
    · exact ha
  induction h with
  | @leaf n w r h1 h2 h3 h4 h5 =>
    rw [show 3 * (n + 1) = (3 * n + 2) + 1 by omega]
    unfold pl
    split
    · exact (two (s := "number") (m := 0) (by decide +kernel) (okL_int (i := 1))).mono (Nat.le_refl _) (by omega)
    rw [if_neg (by rw [h4]; decide), if_neg (by rw [h5]; decide)]
    refine okL_tup.mpr ⟨by simp only [List.length_cons, List.length_map]; omega, fun x hx => ?_⟩
    rcases List.mem_cons.1 hx with rfl | hx
    · exact okL_w h1
    · obtain ⟨y, hy, rfl⟩ := List.mem_map.1 hx
      rw [if_neg (by rw [flat_tup (h3 y hy)]; decide)]
      exact flat_ok (h3 y hy)
  | @att n a i c h1 hc ih =>
    rw [show 3 * (n + 1) = (3 * n + 2) + 1 by omega]
    unfold pl
    rw [if_neg (by decide +kernel), if_pos (by decide +kernel)]
    refine okL_tup.mpr ⟨by simp, fun x hx => ?_⟩
    simp only [List.mem_cons, List.not_mem_nil, or_false] at hx
    rcases hx with rfl | rfl | rfl
    · exact okL_w (by decide +kernel)
    · exact (two (s := "name") (m := 0) (by decide +kernel) h1.ok).mono (Nat.le_refl _) (by omega)
    · exact ih.mono (Nat.le_refl _) (by omega)
  | @cas n a c qs _ _ h3 _ i1 i2 i3 =>
    rw [show 3 * (n + 1) = (3 * n + 2) + 1 by omega]
    unfold pl
    rw [if_neg (by decide +kernel), if_neg (by decide +kernel), if_pos (by decide +kernel)]
    refine okL_tup.mpr ⟨by simp, fun x hx => ?_⟩
    simp only [List.mem_cons, List.not_mem_nil, or_false] at hx
    rcases hx with rfl | rfl | rfl | rfl
    · exact okL_w (by decide +kernel)
    · exact i1.mono (Nat.le_refl _) (by omega)
    · refine okL_tup.mpr ⟨by rw [List.length_map]; show (qs.map pairD).length ≤ _; rw [List.length_map]; omega, fun x hx => ?_⟩
      obtain ⟨y, hy, rfl⟩ := List.mem_map.1 hx
      obtain ⟨q, hq, rfl⟩ := List.mem_map.1 (show y ∈ qs.map pairD from hy)
      refine okL_tup.mpr ⟨by simp, fun x hx => ?_⟩
      simp only [List.mem_cons, List.not_mem_nil, or_false] at hx
      rcases hx with rfl | rfl
      · exact okL_int
      · exact i3 q hq
    · exact i2.mono (Nat.le_refl _) (by omega)
  | @node n w r h1 h2 hr h4 h5 h6 ih =>
    rw [show 3 * (n + 1) = (3 * n + 2) + 1 by omega]
    unfold pl
    rw [if_neg (by rw [h4]; decide), if_neg (by rw [h5]; decide), if_neg (by rw [h6]; decide)]
    refine okL_tup.mpr ⟨by simp only [List.length_cons, List.length_map]; omega, fun x hx => ?_⟩
    rcases List.mem_cons.1 hx with rfl | hx
    · exact okL_w h1
    · obtain ⟨y, hy, rfl⟩ := List.mem_map.1 hx
      rw [if_pos (GE_tup (hr y hy))]
      exact (ih y hy).mono (Nat.le_refl _) (by omega)
theorem comp_allD {n : Nat} {f : ET} {K : List D → Store → Prop} {ρ : MP.Env} (out : D → D) (xs : List D)
    (h : ∀ x ∈ xs, ∀ k : Post, k (out x) S → f (st ρ n (some x)) S k (fun _ _ => False))
    (hl : xs.length ≤ sizeLine) (q : K (xs.map out) S) : comp (dgName n) bYes f K xs [] ρ S := by
  have z := comp_all (ρ := ρ) (n := n) (f := f) (K := K) (id : D → D) out xs h hl q
  rw [List.map_id] at z
  exact z
theorem cut_1 {x : D} {r : List D} : cutL (x :: r) (some 1) none = r := by
  unfold cutL HT.sIx
  simp
theorem law_placeless_ok {n : Nat} {d : D} (h : GE n d) : ∀ (fuel : Nat) (S : Store) (Q : Post) (E : XPost), n ≤ fuel → Q (pl n d) S → r_law_placeless A fuel [d] S Q E := by
  have tail : ∀ {n fuel : Nat} {w : Str} {r : List D} {S : Store} {Q : Post} {E : XPost}, r.length ≤ 5 → (w == "place") = false → (w == "at") = false → (w == "cases") = false → (∀ x ∈ r, Val x ∧ (isTup x = true → ∀ (S : Store) (Q : Post) (E : XPost), Q (pl n x) S → r_law_placeless A fuel [x] S Q E)) →
      Q (pl (n + 1) (.tup (.str w :: r))) S → r_law_placeless A (fuel + 1) [.tup (.str w :: r)] S Q E := fun {n fuel w r S Q E} hl h1 h2 h3 hx q => by
    have e : pl (n + 1) (.tup (.str w :: r)) = .tup (.str w :: r.map fun x => if isTup x = true then pl n x else x) := by
      show (if _ then _ else _) = _
      rw [if_neg (by rw [h1]; decide), if_neg (by rw [h2]; decide), if_neg (by rw [h3]; decide)]
    rw [e] at q
    rw [r_law_placeless_eq]
    walk_at "mp_s"
    refine gIx_t at_0 ?_
    walk_at "mp_s"
    refine ite_f h1 ?_
    walk_at "mp_s"
    refine gIx_t at_0 ?_
    walk_at "mp_s"
    refine ite_f h2 ?_
    walk_at "mp_s"
    refine gIx_t at_0 ?_
    walk_at "mp_s"
    refine ite_f h3 ?_
    walk_at "mp_s"
    rw [cut_1]
    refine comp_allD (fun x => if isTup x = true then pl n x else x) r (fun x hxr k hk => ?_) (Nat.le_trans (Nat.le_trans hl (show (5 : Nat) ≤ 1000 by decide)) (by decide)) ?_
    · obtain ⟨hv, hp⟩ := hx x hxr
      refine eIf_i (bV_i (evB_i (aCons_i (evV_i rfl (aCons_i (evC_i (aNil_i (isi_tup hv ?_))))))))
      refine onT_bl (ite_cc (fun c => ?_) fun c => ?_)
      · rw [if_pos c] at hk
        walk_at "mp_s"
        exact hp c _ _ _ hk
      · rw [if_neg (by rw [c]; decide)] at hk
        exact evV_i rfl hk
    walk_at "mp_s"
    rw [take1]
    refine gAddT_t (Nat.le_trans (m := 6) (by simp only [List.length_map]; have : ((D.str w :: r).take 1).length ≤ 1 := List.length_take_le _ _; omega) (by decide)) ?_
    exact q
  induction h with
  | @leaf n w r h1 h2 h3 h4 h5 =>
    intro fuel S Q E hf q
    obtain ⟨fuel, rfl⟩ : ∃ k, fuel = k + 1 := ⟨fuel - 1, by omega⟩
    cases hp : w == "place" with
    | true =>
      have e : pl (n + 1) (.tup (.str w :: r)) = .tup [.str "number", .int 1] := by
        show (if _ then _ else _) = _
        rw [if_pos hp]
      rw [e] at q
      rw [r_law_placeless_eq]
      walk_at "mp_s"
      refine gIx_t at_0 ?_
      walk_at "mp_s"
      refine ite_t hp ?_
      walk_at "mp_s"
      exact q
    | false => exact tail h2 hp h4 h5 (fun x hx => ⟨flat_val (h3 x hx), fun z => by rw [flat_tup (h3 x hx)] at z; cases z⟩) q
  | @att n a i c h1 hc ih =>
    intro fuel S Q E hf q
    obtain ⟨fuel, rfl⟩ : ∃ k, fuel = k + 1 := ⟨fuel - 1, by omega⟩
    have e : pl (n + 1) (.tup [.str "at", a, .int i, c]) = .tup [.str "plus", .tup [.str "name", a], pl n c] := by
      show (if _ then _ else _) = _
      rw [if_neg (by decide +kernel), if_pos (by decide +kernel)]
      rfl
    rw [e] at q
    rw [r_law_placeless_eq]
    walk_at "mp_s"
    try (refine ite_f (by decide +kernel) ?_)
    walk_at "mp_s"
    try (refine ite_t (by decide +kernel) ?_)
    walk_at "mp_s"
    refine ih fuel _ _ _ (by omega) ?_
    walk_at "mp_s"
    exact q
  | @cas n a c qs ha hc h3 hq i1 i2 i3 =>
    intro fuel S Q E hf q
    obtain ⟨fuel, rfl⟩ : ∃ k, fuel = k + 1 := ⟨fuel - 1, by omega⟩
    have e : pl (n + 1) (.tup [.str "cases", a, .tup (qs.map pairD), c]) = .tup [.str "cases", pl n a, .tup (qs.map fun x => .tup [.int x.1, pl n x.2]), pl n c] := by
      show (if _ then _ else _) = _
      rw [if_neg (by decide +kernel), if_neg (by decide +kernel), if_pos (by decide +kernel)]
      show D.tup [_, _, .tup ((qs.map pairD).map _), _] = _
      rw [List.map_map]
      rfl
    rw [e] at q
    rw [r_law_placeless_eq]
    walk_at "mp_s"
    try (refine ite_f (by decide +kernel) ?_)
    walk_at "mp_s"
    try (refine ite_f (by decide +kernel) ?_)
    walk_at "mp_s"
    try (refine ite_t (by decide +kernel) ?_)
    walk_at "mp_s"
    have eq : qs.map pairD = (qs.map fun x : Int × D => ((.int x.1 : D), x.2)).map fun x => .tup [x.1, x.2] := by rw [List.map_map]; rfl
    rw [eq]
    refine comp_two (fun _ => true) (fun x => .tup [x.1, pl n x.2]) (qs.map fun x : Int × D => ((.int x.1 : D), x.2)) [] (fun x _ k hk => hk) (fun x hx _ k hk => ?_) (by simp only [List.length_nil, List.length_map]; exact Nat.le_trans (m := 5) (by omega) (by decide)) ?_
    · obtain ⟨y, hy, rfl⟩ := List.mem_map.1 hx
      walk_at "mp_s"
      refine i3 y hy fuel _ _ _ (by omega) ?_
      walk_at "mp_s"
      exact hk
    rw [List.nil_append, List.filter_eq_self.mpr (fun _ _ => rfl), List.map_map]
    walk_at "mp_s"
    refine i1 fuel _ _ _ (by omega) ?_
    walk_at "mp_s"
    refine i2 fuel _ _ _ (by omega) ?_
    walk_at "mp_s"
    exact q
  | @node n w r h1 h2 hr h4 h5 h6 ih =>
    intro fuel S Q E hf q
    obtain ⟨fuel, rfl⟩ : ∃ k, fuel = k + 1 := ⟨fuel - 1, by omega⟩
    exact tail h2 h4 h5 h6 (fun x hx => ⟨GE_val (hr x hx), fun _ S Q E q => ih x hx fuel S Q E (by omega) q⟩) q
end K02

set_option Elab.async false
set_option linter.all false
set_option maxRecDepth 100000
set_option maxHeartbeats 4100000
/-! what the mirrors compute: cells and sheets drawn -/
namespace K02
open PySem PySem.Spec PyProof.Rows L2 MP
variable {A : Ad} {S : Store} {Q : Post} {E : XPost}
/-- one of two ways, both with an end of one kind -/
theorem ite_any {c : Bool} {f1 f2 : ET} {ρ : MP.Env} (I : D → Store → Prop) (h1 : c = true → ∀ (Q : Post) (E : XPost), (∀ d S', I d S' → Q d S') → f1 ρ S Q E) (h2 : c = false → ∀ (Q : Post) (E : XPost), (∀ d S', I d S' → Q d S') → f2 ρ S Q E) (q : ∀ d S', I d S' → Q d S') : (if c = true then f1 ρ S Q E else f2 ρ S Q E) :=
  ite_cc (fun e => h1 e Q E q) fun e => h2 e Q E q
theorem ite_two {c : Bool} {d1 d2 : D} {ρ : MP.Env} (q : ∀ d, (d = d1 ∨ d = d2) → Q d S) : (if c = true then evC d1 ρ S Q E else evC d2 ρ S Q E) :=
  ite_cc (fun _ => q _ (.inl rfl)) fun _ => q _ (.inr rfl)
theorem ite_cv {c : Bool} {d1 d2 : D} {ρ : MP.Env} {i : Nat} (e : lk ρ i = some d2) (q : ∀ d, (d = d1 ∨ d = d2) → Q d S) : (if c = true then evC d1 ρ S Q E else evV i ρ S Q E) :=
  ite_cc (fun _ => q _ (.inl rfl)) fun _ => evV_i e (q _ (.inr rfl))
theorem any_cell_ok {a w : Addr} {b k : Nat} {ns : List D} {word : Str} (hk1 : 1 ≤ k) (hk2 : k ≤ 2) (hw : word = "cell" ∨ word = "row" ∨ word = "settle") (h0 : ns ≠ []) (hl : ns.length ≤ 1000) (hn : ∀ y ∈ ns, isNm y) (h : Dg S a w (b + 900))
    (q : ∀ o S', okL 20 10 o → (∃ r, o = .tup (.str word :: r)) → Dg S' a w b → Kp S S' a w → Q o S') : r_law_any_cell A [.ref a, .lst ns, .int ((k : Int) + 1), .str word] S Q E := by
  have e1 : ec k + ec 1 ≤ 850 := by
    have : k = 1 ∨ k = 2 := by omega
    rcases this with rfl | rfl <;> decide
  have l30 : ns.length < 1073741824 := by omega
  unfold r_law_any_cell
  walk_at "mp_s"
  refine pick_g (b := b + 898) (h.mono (by omega)) h0 l30 fun x S1 hx d1 k1 => ?_
  have nx := hn x hx
  walk_at "mp_s"
  refine any_expr_ok k 6 (b := b + 898 - ec k) S1 _ _ (by omega) h0 hl hn (d1.mono (by omega)) fun t S2 ht d2 k2 => ?_
  have tok := (GE_ok ht).mono (Nat.le_refl 20) (show 3 * (k + 1) ≤ 9 by omega)
  have pok := (pl_ok ht).mono (Nat.le_refl 20) (show 3 * (k + 1) ≤ 9 by omega)
  walk_at "mp_s"
  rcases hw with rfl | rfl | rfl
  · try (refine ite_t (by decide +kernel) ?_)
    walk_at "mp_s"
    refine law_placeless_ok ht 16 _ _ _ (by omega) ?_
    walk_at "mp_s"
    refine q _ S2 (okL_tup.mpr ⟨by simp, fun y hy => ?_⟩) ⟨_, rfl⟩ (d2.mono (by omega)) (k1.trans k2)
    simp only [List.mem_cons, List.not_mem_nil, or_false] at hy
    rcases hy with rfl | rfl | rfl
    · exact okL_w (by decide +kernel)
    · exact nx.ok
    · exact pok
  · try (refine ite_f (by decide +kernel) ?_)
    walk_at "mp_s"
    try (refine ite_t (by decide +kernel) ?_)
    walk_at "mp_s"
    refine take_g (b := b) (d2.mono (by omega)) (by decide) (by decide) fun r S3 r0 r1 d3 k3 => ?_
    walk_at "mp_s"
    refine q _ S3 (okL_tup.mpr ⟨by simp, fun y hy => ?_⟩) ⟨_, rfl⟩ d3 ((k1.trans k2).trans k3)
    simp only [List.mem_cons, List.not_mem_nil, or_false] at hy
    rcases hy with rfl | rfl | rfl | rfl
    · exact okL_w (by decide +kernel)
    · exact nx.ok
    · exact okL_int
    · exact tok
  · try (refine ite_f (by decide +kernel) ?_)
    walk_at "mp_s"
    try (refine ite_f (by decide +kernel) ?_)
    walk_at "mp_s"
    refine pick_g (b := b + 1 + ec 1) (d2.mono (by omega)) (fun z => nomatch z) (by simp) fun x2 S3 hx2 d3 k3 => ?_
    have hx3 : ∃ i, x2 = .int i := by
      simp only [List.mem_cons, List.not_mem_nil, or_false] at hx2
      rcases hx2 with rfl | rfl | rfl | rfl | rfl | rfl <;> exact ⟨_, rfl⟩
    obtain ⟨i, rfl⟩ := hx3
    walk_at "mp_s"
    refine take_g (b := b + ec 1) (d3.mono (by omega)) (by decide) (by decide) fun r S4 r0 r1 d4 k4 => ?_
    walk_at "mp_s"
    refine any_expr_ok 1 6 (b := b) S4 _ _ (by decide) h0 hl hn d4 fun t2 S5 ht2 d5 k5 => ?_
    have pok2 := (pl_ok ht2).mono (Nat.le_refl 20) (show 3 * (1 + 1) ≤ 9 by omega)
    walk_at "mp_s"
    refine law_placeless_ok ht2 16 _ _ _ (by omega) ?_
    walk_at "mp_s"
    refine law_placeless_ok ht 16 _ _ _ (by omega) ?_
    walk_at "mp_s"
    refine q _ S5 (okL_tup.mpr ⟨by simp, fun y hy => ?_⟩) ⟨_, rfl⟩ d5 ((((k1.trans k2).trans k3).trans k4).trans k5)
    simp only [List.mem_cons, List.not_mem_nil, or_false] at hy
    rcases hy with rfl | rfl | rfl | rfl | rfl | rfl
    · exact okL_w (by decide +kernel)
    · exact nx.ok
    · exact okL_int
    · exact okL_int
    · exact pok2
    · exact pok
theorem live_map {L : Addr} {all : List D} {n : Nat} {ρ : MP.Env} {t : EB} {f : ET} {K : List D → Store → Prop} (hL : S L = some (.lst all)) (p : D → Bool) (out : D → D) : ∀ (xs : List D) (acc : List D),
    (∀ x ∈ xs, ∀ k : Bool → Store → Prop, k (p x) S → t (st ρ n (some x)) S k (fun _ _ => False)) →
    (∀ x ∈ xs, p x = true → ∀ k : Post, k (out x) S → f (st ρ n (some x)) S k (fun _ _ => False)) →
    acc.length + xs.length ≤ sizeLine → (∀ zs, zs.length ≤ acc.length + xs.length → K zs S) → live L all (dgName n) t f K xs acc ρ S
  | [], acc, _, _, _, q => ⟨hL, q _ (by simp)⟩
  | x :: xs, acc, h1, h2, hl, q => by
    refine ⟨hL, h1 x List.mem_cons_self _ ?_⟩
    have ih := fun acc => live_map (K := K) hL p out xs acc (fun y hy => h1 y (List.mem_cons_of_mem _ hy)) (fun y hy => h2 y (List.mem_cons_of_mem _ hy))
    by_cases e : p x = true
    · refine ite_t e (h2 x List.mem_cons_self e _ ⟨by simp only [List.length_cons] at hl; omega, ih _ (by simp only [List.length_append, List.length_cons, List.length_nil] at hl ⊢; omega) fun zs hz => q zs (by simp only [List.length_append, List.length_cons, List.length_nil] at hz ⊢; omega)⟩)
    · exact ite_f (by simpa using e) (ih _ (by simp only [List.length_cons] at hl; omega) fun zs hz => q zs (by simp only [List.length_cons]; omega))
theorem gInt_b {b : Bool} (q : Q (.int (if b then 1 else 0)) S) : gInt [.bl b] S Q := q
theorem and_take {a w : Addr} {b : Nat} {c : Bool} {ρ : MP.Env} {QB : Bool → Store → Prop} {X : XPost} (e0 : lk ρ 0 = some (.ref a)) (h : Dg S a w (b + 1)) (q : ∀ bb S', Dg S' a w b → Kp S S' a w → QB bb S') :
    (if c = true then bB (bin gEqE (evCall (r_law_take A) (aCons (evV 0) (aCons (evC (.int 2)) (aNil)))) (evC (.int 0))) ρ S QB X else QB false S) := by
  refine ite_cc (fun e => ?_) fun e => q _ _ (h.mono (by omega)) (Kp.refl S a w)
  refine bB_i (bin_i (evCall_i (aCons_i (evV_i e0 (aCons_i (evC_i (aNil_i ?_)))))))
  refine take_g h (by decide) (by decide) fun r S1 r0 r1 d1 k1 => ?_
  walk_at "mp_s"
  exact q _ _ d1 k1
def isInI (d : D) : Prop := ∃ i, d = .int i
def sheetIn (A : Ad) : MP.ST := dFzV 4 (dFor (iRange1 (aCons (eIf (bV (evV 3)) (bin (gAddT mkF) (evC (.int 8)) (evCall (r_law_take A) (aCons (evV 0) (aCons (evC (.int 5)) (aNil))))) (evCall (r_law_pick A) (aCons (evV 0) (aCons (evLst mkF (aCons (evC (.int 1)) (aCons (evC (.int 1)) (aCons (evC (.int 2)) (aCons (evC (.int 3)) (aNil)))))) (aNil))))) (aNil))) (dgName 7) (dSeq (dSet 8 (evCall (r_law_pick A) (aCons (evV 0) (aCons (eIf (bV (evV 3)) (evLst mkF (aCons (evC (.int 0)) (aCons (evC (.int 0)) (aCons (evC (.int 1)) (aCons (una gNeg (evC (.int 3))) (aCons (una gNeg (evC (.int 99))) (aCons (evC (.int 91)) (aCons (una gNeg (evC (.int 999))) (aNil))))))))) (evLst mkF (aCons (evC (.int 0)) (aCons (evC (.int 0)) (aCons (evC (.int 1)) (aCons (una gNeg (evC (.int 3))) (aCons (una gNeg (evC (.int 99))) (aCons (evC (.int 91)) (aNil))))))))) (aNil))))) (dExpr (evM "list" mAppend (evV 4) (aCons (evTup (aCons (evC (.str "input")) (aCons (evCall (r_law_pick A) (aCons (evV 0) (aCons (evV 6) (aNil)))) (aCons (evV 8) (aCons (bin (gAddT mkF) (evV 8) (evCall (r_law_take A) (aCons (evV 0) (aCons (eIf (bV (evV 3)) (evC (.int 900)) (evC (.int 9))) (aNil))))) (aNil)))))) (aNil))))))
def sheetOut (A : Ad) : MP.ST := dSeq (dFzV 5 (dFor (iRange1 (aCons (eIf (bV (evV 3)) (bin (gAddT mkF) (evC (.int 41)) (evCall (r_law_take A) (aCons (evV 0) (aCons (evC (.int 20)) (aNil))))) (bin (gAddT mkF) (evC (.int 1)) (evCall (r_law_take A) (aCons (evV 0) (aCons (evV 1) (aNil)))))) (aNil))) (dgName 7) (dSeq (dSet 9 (bin (gAddT mkF) (evLst mkF (aCons (evC (.str "cell")) (aCons (evC (.str "cell")) (aCons (evC (.str "row")) (aNil))))) (bin (gMulB mkF) (evLst mkM (aCons (evC (.str "settle")) (aNil))) (evB gInt (aCons (bin gLt (evB gLen (aCons (evLive mkF 5 (dgName 10) (bB (bin gEqE (bin gIx (evV 10) (evC (.int 0))) (evC (.str "settle")))) (evV 10) [10]) (aNil))) (evC (.int 3))) (aNil)))))) (dExpr (evM "list" mAppend (evV 5) (aCons (evCall (r_law_any_cell A) (aCons (evV 0) (aCons (evV 6) (aCons (eIf (bV (evV 3)) (evC (.int 2)) (evV 2)) (aCons (evCall (r_law_pick A) (aCons (evV 0) (aCons (evV 9) (aNil)))) (aNil)))))) (aNil))))))) (dRet (evTup (aCons (evC (.str "sheet")) (aCons (evB gTuple (aCons (evV 4) (aNil))) (aCons (evB gTuple (aCons (evV 5) (aNil))) (aNil))))))
theorem any_sheet_eq : r_law_any_sheet A = runF 11 (dSeq (dPar3 3 4 5 (aCons (bin gEqE (evCall (r_law_take A) (aCons (evV 0) (aCons (evC (.int 9)) (aNil)))) (evC (.int 0))) (aCons (evLst mkM (aNil)) (aCons (evLst mkM (aNil)) (aNil))))) (dSeq (dSet 6 (evCall (r_law_names A) (aCons (evV 0) (aCons (eIf (bAnd (bV (evV 3)) (bB (bin gEqE (evCall (r_law_take A) (aCons (evV 0) (aCons (evC (.int 2)) (aNil)))) (evC (.int 0))))) (evC (.int 70)) (evC (.int 7))) (aNil))))) (dSeq (sheetIn A) (sheetOut A)))) := rfl
theorem sheet_out {a w p5 : Addr} {b : Nat} {S7 : Store} {ns is : List D} {c : Bool} {x7 x8 : Option D} {N : DEnds} (f5 : S p5 = none ∧ p5 ≠ a ∧ p5 ≠ w) (h0 : ns ≠ []) (hl : ns.length ≤ 1000) (hn : ∀ y ∈ ns, isNm y) (hil : is.length ≤ 12) (his : ∀ y ∈ is, okL 20 1 y) (d7 : Dg S7 a w (b + 69500)) (k7 : Kp S S7 a w) (g57 : S7 p5 = some (.lst []))
    (q : ∀ o S', okL 100 12 o → Dg S' a w b → Kp S S' a w → N.rt o S') : sheetOut A [some (.ref a), some (.int 3), some (.int 3), some (.bl c), some (.lst is), some (.ref p5), some (.lst ns), x7, x8, none, none] S7 N := by
  have l30 : ns.length < 1073741824 := by omega
  unfold sheetOut
  walk_at "mp_s"
  refine dFzV_i ?_
  walk_at "mp_s"
  refine iRange1_i ?_
  walk_at "mp_s"
  refine ite_any (fun d S' => (∃ n : Nat, d = .int n ∧ n ≤ 60) ∧ Dg S' a w (b + 69499) ∧ Kp S7 S' a w) (fun _ Q E hq => ?_) (fun _ Q E hq => ?_) ?_
  · walk_at "mp_s"
    refine take_g (b := b + 69499) (d7.mono (by omega)) (by decide) (by decide) fun m S8 m0 m1 d8 k8 => ?_
    walk_at "mp_s"
    exact hq _ _ ⟨⟨(41 + m).toNat, by rw [Int.toNat_of_nonneg (by omega)], by omega⟩, d8, k8⟩
  · walk_at "mp_s"
    refine take_g (b := b + 69499) (d7.mono (by omega)) (by decide) (by decide) fun m S8 m0 m1 d8 k8 => ?_
    walk_at "mp_s"
    exact hq _ _ ⟨⟨(1 + m).toNat, by rw [Int.toNat_of_nonneg (by omega)], by omega⟩, d8, k8⟩
  rintro _ S8 ⟨⟨nc, rfl, hnc⟩, d8, k8⟩
  walk_at "mp_s"
  refine ⟨by omega, by omega, ?_⟩
  have g58 := k8 p5 _ f5.2.1 f5.2.2 g57
  refine loop_ind (fun ds ρ S' => ∃ x7 x9 cs, ρ = [some (.ref a), some (.int 3), some (.int 3), some (.bl c), some (.lst is), some (.ref p5), some (.lst ns), x7, x8, x9, none] ∧ S' p5 = some (.lst cs) ∧ cs.length + ds.length ≤ 60 ∧ (∀ y ∈ cs, okL 20 10 y ∧ ∃ wd r, y = .tup (.str wd :: r)) ∧ Dg S' a w (b + 1000 * ds.length) ∧ Kp S S' a w) ?_ ?_ _ _ _ ⟨x7, none, [], rfl, g58, ?_, (fun y hy => nomatch hy), ?_, k7.trans k8⟩
  · rintro d ds ρ S9 ih ⟨x7, x9, cs, rfl, g5, hcl, hcs, d9, k9⟩
    walk_at "mp_s"
    refine mkM_i fun p6 n6 => ?_
    have f6 := k9.free d9 n6
    have ne6 : p5 ≠ p6 := fun z => by rw [← z, g5] at n6; cases n6
    have d10 : Dg (S9.set p6 (.lst [.str "settle"])) a w (b + 1000 * (d :: ds).length) := d9.set f6.2.1 f6.2.2
    have k10 : Kp S (S9.set p6 (.lst [.str "settle"])) a w := k9.set f6.1
    have g510 : (S9.set p6 (.lst [.str "settle"])) p5 = some (.lst cs) := by rw [Store.set_ne ne6]; exact g5
    have g610 : (S9.set p6 (.lst [.str "settle"])) p6 = some (.lst [.str "settle"]) := Store.set_same
    generalize S9.set p6 (.lst [.str "settle"]) = S10 at d10 k10 g510 g610 ⊢
    walk_at "mp_s"
    refine evLive_i rfl g510 ?_
    refine live_map g510 (fun y => match y with | .tup (.str wd :: _) => wd == "settle" | _ => false) id cs [] (fun y hy kk hk => ?_) (fun y hy _ kk hk => evV_i rfl hk) (Nat.le_trans (m := 60) (by simp only [List.length_cons] at hcl; simp only [List.length_nil]; omega) (by decide)) fun zs hzs => ?_
    · obtain ⟨-, wd, r', rfl⟩ := hcs y hy
      walk_at "mp_s"
      refine gIx_t at_0 ?_
      walk_at "mp_s"
      exact hk
    walk_at "mp_s"
    refine gInt_b ?_
    have hk01 : (if decide ((zs.length : Int) < 3) = true then (1 : Int) else 0) = 0 ∨ (if decide ((zs.length : Int) < 3) = true then (1 : Int) else 0) = 1 := by
      split
      · exact .inr rfl
      · exact .inl rfl
    generalize (if decide ((zs.length : Int) < 3) = true then (1 : Int) else 0) = kk at hk01 ⊢
    have hrep : ∃ l : List D, (List.replicate kk.toNat [D.str "settle"]).flatten = l ∧ (l = [] ∨ l = [D.str "settle"]) := by
      rcases hk01 with rfl | rfl
      · exact ⟨[], rfl, .inl rfl⟩
      · exact ⟨[.str "settle"], rfl, .inr rfl⟩
    obtain ⟨l6, el6, hl6⟩ := hrep
    refine gMulB_l g610 (by omega) (by omega) (le_line1 (by rcases hk01 with rfl | rfl <;> decide)) ?_
    rw [el6]
    walk_at "mp_s"
    refine gAddT_l (Nat.le_trans (m := 4) (by rcases hl6 with rfl | rfl <;> decide) (by decide)) ?_
    have hwords : ∀ x ∈ [D.str "cell", D.str "cell", D.str "row"] ++ l6, ∃ s : Str, x = .str s ∧ (s = "cell" ∨ s = "row" ∨ s = "settle") := fun x hx => by
      rcases List.mem_append.1 hx with hx | hx
      · simp only [List.mem_cons, List.not_mem_nil, or_false] at hx
        rcases hx with rfl | rfl | rfl
        · exact ⟨_, rfl, .inl rfl⟩
        · exact ⟨_, rfl, .inl rfl⟩
        · exact ⟨_, rfl, .inr (.inl rfl)⟩
      · rcases hl6 with rfl | rfl
        · cases hx
        · rw [List.mem_singleton] at hx; exact ⟨_, hx, .inr (.inr rfl)⟩
    have hwl : ([D.str "cell", D.str "cell", D.str "row"] ++ l6).length ≤ 4 := by rcases hl6 with rfl | rfl <;> decide
    have hw0 : [D.str "cell", D.str "cell", D.str "row"] ++ l6 ≠ [] := fun z => by cases z
    generalize [D.str "cell", D.str "cell", D.str "row"] ++ l6 = words at hwords hwl hw0
    walk_at "mp_s"
    refine evM_i ?_
    walk_at "mp_s"
    refine ⟨by rw [vw_l g510]; rfl, ?_⟩
    walk_at "mp_s"
    refine ite_cv rfl fun dm hdm => ?_
    obtain ⟨u, hu1, hu2, rfl⟩ : ∃ m : Nat, 1 ≤ m ∧ m ≤ 2 ∧ dm = .int ((m : Int) + 1) := by
      rcases hdm with rfl | rfl
      · exact ⟨1, by omega, by omega, rfl⟩
      · exact ⟨2, by omega, by omega, rfl⟩
    walk_at "mp_s"
    refine pick_g (b := b + 1000 * ds.length + 950) (d10.mono (by simp only [List.length_cons]; omega)) hw0 (by omega) fun x S11 hx d11 k11 => ?_
    obtain ⟨wd, rfl, hwd⟩ := hwords x hx
    walk_at "mp_s"
    refine any_cell_ok (b := b + 1000 * ds.length) hu1 hu2 hwd h0 hl hn (d11.mono (by omega)) fun o S12 ho hor d12 k12 => ?_
    walk_at "mp_s"
    have g512 := k12 p5 _ f5.2.1 f5.2.2 (k11 p5 _ f5.2.1 f5.2.2 g510)
    refine append_ok g512 (Nat.lt_of_le_of_lt (m := 60) (by simp only [List.length_cons] at hcl; omega) (by decide)) ?_
    refine ih _ _ ⟨some d, _, _, rfl, Store.set_same, ?_, ?_, d12.set f5.2.1 f5.2.2, ((k10.trans k11).trans k12).set f5.1⟩
    · rw [List.length_append, List.length_singleton]; simp only [List.length_cons] at hcl; omega
    · intro z hz
      rcases List.mem_append.1 hz with hz | hz
      · exact hcs z hz
      · rw [List.mem_singleton] at hz; subst hz
        exact ⟨ho, wd, hor⟩
  · rintro ρ S9 ⟨x7, x9, cs, rfl, g5, hcl, hcs, d9, k9⟩
    dsimp only []
    refine fzv_l (i := 5) (p := p5) rfl g5 ?_
    walk_at "mp_s"
    refine q _ _ (okL_tup.mpr ⟨by simp, fun z hz => ?_⟩) ((d9.mono (by omega)).del f5.2.1 f5.2.2) (k9.del f5.1)
    simp only [List.mem_cons, List.not_mem_nil, or_false] at hz
    rcases hz with rfl | rfl | rfl
    · exact okL_str.mpr (by decide +kernel)
    · refine (okL_tup (n := 10)).mpr ⟨by omega, fun z hz => (his z hz).mono (by omega) (by omega)⟩
    · refine (okL_tup (n := 10)).mpr ⟨by simp only [List.length_nil] at hcl; omega, fun z hz => (hcs z hz).1.mono (by omega) (by omega)⟩
  · unfold rangeD; rw [List.length_map, List.length_range, List.length_nil]; omega
  · unfold rangeD; rw [List.length_map, List.length_range]; exact d8.mono (by omega)
theorem sheet_in {a w p4 p5 : Addr} {b : Nat} {S4 : Store} {ns : List D} {c : Bool} {N : DEnds} (ne : p4 ≠ p5) (f4 : S p4 = none ∧ p4 ≠ a ∧ p4 ≠ w) (f5 : S p5 = none ∧ p5 ≠ a ∧ p5 ≠ w) (h0 : ns ≠ []) (hl : ns.length ≤ 1000) (hn : ∀ y ∈ ns, isNm y) (d4' : Dg S4 a w (b + 69700)) (k4' : Kp S S4 a w) (e44 : S4 p4 = some (.lst [])) (e54 : S4 p5 = some (.lst []))
    (q : ∀ is x7 x8 S', is.length ≤ 12 → (∀ y ∈ is, okL 20 1 y) → Dg S' a w (b + 69500) → Kp S S' a w → S' p5 = some (.lst []) → N.nx [some (.ref a), some (.int 3), some (.int 3), some (.bl c), some (.lst is), some (.ref p5), some (.lst ns), x7, x8, none, none] S') : sheetIn A [some (.ref a), some (.int 3), some (.int 3), some (.bl c), some (.ref p4), some (.ref p5), some (.lst ns), none, none, none, none] S4 N := by
  have l30 : ns.length < 1073741824 := by omega
  unfold sheetIn
  refine dFzV_i ?_
  walk_at "mp_s"
  refine iRange1_i ?_
  walk_at "mp_s"
  refine ite_any (fun d S' => (∃ n : Nat, d = .int n ∧ n ≤ 12) ∧ Dg S' a w (b + 69699) ∧ Kp S4 S' a w) (fun _ Q E hq => ?_) (fun _ Q E hq => ?_) ?_
  · walk_at "mp_s"
    refine take_g (b := b + 69699) (d4'.mono (by omega)) (by decide) (by decide) fun m S5 m0 m1 d5 k5 => ?_
    walk_at "mp_s"
    exact hq _ _ ⟨⟨(8 + m).toNat, by rw [Int.toNat_of_nonneg (by omega)], by omega⟩, d5, k5⟩
  · walk_at "mp_s"
    refine pick_g (b := b + 69699) (d4'.mono (by omega)) (fun z => nomatch z) (by simp) fun x S5 hx d5 k5 => ?_
    refine hq x _ ⟨?_, d5, k5⟩
    simp only [List.mem_cons, List.not_mem_nil, or_false] at hx
    rcases hx with rfl | rfl | rfl | rfl
    · exact ⟨1, rfl, by omega⟩
    · exact ⟨1, rfl, by omega⟩
    · exact ⟨2, rfl, by omega⟩
    · exact ⟨3, rfl, by omega⟩
  rintro _ S5 ⟨⟨m, rfl, hm⟩, d5, k5⟩
  walk_at "mp_s"
  refine ⟨by omega, by omega, ?_⟩
  have e45 := k5 p4 _ f4.2.1 f4.2.2 e44
  have e55 := k5 p5 _ f5.2.1 f5.2.2 e54
  refine loop_ind (fun ds ρ S' => ∃ x7 x8 is, ρ = [some (.ref a), some (.int 3), some (.int 3), some (.bl c), some (.ref p4), some (.ref p5), some (.lst ns), x7, x8, none, none] ∧ S' p4 = some (.lst is) ∧ S' p5 = some (.lst []) ∧ is.length + ds.length ≤ 12 ∧ (∀ y ∈ is, okL 20 1 y) ∧ Dg S' a w (b + 69500 + 3 * ds.length) ∧ Kp S S' a w) ?_ ?_ _ _ _ ⟨none, none, [], rfl, e45, e55, ?_, (fun y hy => nomatch hy), ?_, k4'.trans k5⟩
  · rintro d ds ρ S6 ih ⟨x7, x8, is, rfl, g4, g5, hil, his, d6, k6⟩
    walk_at "mp_s"
    refine ite_any (fun d S' => (∃ xs, d = .lst xs ∧ xs ≠ [] ∧ xs.length ≤ 7 ∧ ∀ x ∈ xs, isInI x) ∧ S' = S6) (fun _ Q E hq => ?_) (fun _ Q E hq => ?_) ?_
    · walk_at "mp_s"
      exact hq _ _ ⟨⟨_, rfl, (fun z => nomatch z), by simp, fun x hx => by
        simp only [List.mem_cons, List.not_mem_nil, or_false] at hx
        rcases hx with rfl | rfl | rfl | rfl | rfl | rfl | rfl <;> exact ⟨_, rfl⟩⟩, rfl⟩
    · walk_at "mp_s"
      exact hq _ _ ⟨⟨_, rfl, (fun z => nomatch z), by simp, fun x hx => by
        simp only [List.mem_cons, List.not_mem_nil, or_false] at hx
        rcases hx with rfl | rfl | rfl | rfl | rfl | rfl <;> exact ⟨_, rfl⟩⟩, rfl⟩
    rintro _ _ ⟨⟨xs, rfl, hx0, hx7, hxi⟩, rfl⟩
    walk_at "mp_s"
    refine pick_g (b := b + 69502 + 3 * ds.length) (d6.mono (by simp only [List.length_cons]; omega)) hx0 (by omega) fun x S7 hx d7 k7 => ?_
    obtain ⟨i, rfl⟩ := hxi x hx
    walk_at "mp_s"
    refine evM_i ?_
    walk_at "mp_s"
    have g47 := k7 p4 _ f4.2.1 f4.2.2 g4
    refine ⟨by rw [vw_l g47]; rfl, ?_⟩
    walk_at "mp_s"
    refine pick_g (b := b + 69501 + 3 * ds.length) (d7.mono (by omega)) h0 l30 fun y S8 hy d8 k8 => ?_
    walk_at "mp_s"
    refine ite_two fun dm hdm => ?_
    obtain ⟨u, hu1, hu2, rfl⟩ : ∃ m : Int, 0 < m ∧ m < 1073741824 ∧ dm = .int m := by
      rcases hdm with rfl | rfl
      · exact ⟨900, by omega, by omega, rfl⟩
      · exact ⟨9, by omega, by omega, rfl⟩
    walk_at "mp_s"
    refine take_g (b := b + 69500 + 3 * ds.length) (d8.mono (by omega)) hu1 hu2 fun v S9 v0 v1 d9 k9 => ?_
    walk_at "mp_s"
    have g49 := k9 p4 _ f4.2.1 f4.2.2 (k8 p4 _ f4.2.1 f4.2.2 g47)
    have g59 := k9 p5 _ f5.2.1 f5.2.2 (k8 p5 _ f5.2.1 f5.2.2 (k7 p5 _ f5.2.1 f5.2.2 g5))
    refine append_ok g49 (Nat.lt_of_le_of_lt (m := 12) (by simp only [List.length_cons] at hil; omega) (by decide)) ?_
    refine ih _ _ ⟨some d, some (.int i), _, rfl, Store.set_same, by rw [Store.set_ne ne.symm]; exact g59, ?_, ?_, d9.set f4.2.1 f4.2.2, (((k6.trans k7).trans k8).trans k9).set f4.1⟩
    · rw [List.length_append, List.length_singleton]; simp only [List.length_cons] at hil; omega
    · intro z hz
      rcases List.mem_append.1 hz with hz | hz
      · exact his z hz
      · rw [List.mem_singleton] at hz; subst hz
        refine okL_tup.mpr ⟨by simp, fun z hz => ?_⟩
        simp only [List.mem_cons, List.not_mem_nil, or_false] at hz
        rcases hz with rfl | rfl | rfl | rfl
        · exact okL_w (by decide +kernel)
        · exact (hn _ hy).ok
        · exact okL_int
        · exact okL_int
  · rintro ρ S6 ⟨x7, x8, is, rfl, g4, g5, hil, his, d6, k6⟩
    dsimp only []
    refine fzv_l (i := 4) (p := p4) rfl g4 ?_
    exact q is x7 x8 _ (by simp only [List.length_nil] at hil; omega) his ((d6.mono (by omega)).del f4.2.1 f4.2.2) (k6.del f4.1) (by rw [Store.del_ne ne.symm]; exact g5)
  · unfold rangeD; rw [List.length_map, List.length_range, List.length_nil]; omega
  · unfold rangeD; rw [List.length_map, List.length_range]; exact d5.mono (by omega)
theorem any_sheet_ok {a w : Addr} {b : Nat} (h : Dg S a w (b + 70000)) (q : ∀ o S', okL 100 12 o → Dg S' a w b → Kp S S' a w → Q o S') : r_law_any_sheet A [.ref a, .int 3, .int 3] S Q E := by
  rw [any_sheet_eq]
  walk_at "mp_s"
  refine take_g (b := b + 69999) (h.mono (by omega)) (by decide) (by decide) fun r S1 r0 r1 d1 k1 => ?_
  walk_at "mp_s"
  refine mkM_i fun p4 n4 => ?_
  have f4 := k1.free d1 n4
  walk_at "mp_s"
  refine mkM_i fun p5 n5 => ?_
  have ne : p4 ≠ p5 := fun z => by rw [← z, Store.set_same] at n5; cases n5
  have n5' : S1 p5 = none := by rw [Store.set_ne ne.symm] at n5; exact n5
  have f5 := k1.free d1 n5'
  generalize hc : (r == 0) = c
  have d2 : Dg ((S1.set p4 (.lst [])).set p5 (.lst [])) a w (b + 69999) := (d1.set f4.2.1 f4.2.2).set f5.2.1 f5.2.2
  have k2 : Kp S ((S1.set p4 (.lst [])).set p5 (.lst [])) a w := (k1.set f4.1).set f5.1
  have e4 : ((S1.set p4 (.lst [])).set p5 (.lst [])) p4 = some (.lst []) := by rw [Store.set_ne ne, Store.set_same]
  have e5 : ((S1.set p4 (.lst [])).set p5 (.lst [])) p5 = some (.lst []) := Store.set_same
  generalize ((S1.set p4 (.lst [])).set p5 (.lst [])) = S2 at d2 k2 e4 e5 ⊢
  walk_at "mp_s"
  refine and_take (b := b + 69998) rfl (d2.mono (by omega)) fun bb S3 d3 k3 => ?_
  refine ite_two fun dm hdm => ?_
  obtain ⟨many, hm1, hm2, rfl⟩ : ∃ m : Nat, m ≤ 70 ∧ 0 < m ∧ dm = .int m := by
    rcases hdm with rfl | rfl
    · exact ⟨70, by omega, by omega, rfl⟩
    · exact ⟨7, by omega, by omega, rfl⟩
  walk_at "mp_s"
  refine names_ok (b := b + 69800) hm1 (d3.mono (by omega)) fun ns S4 hnl hn d4 k4 => ?_
  have h0 : ns ≠ [] := fun z => by rw [z] at hnl; simp at hnl; omega
  have hl : ns.length ≤ 1000 := by omega
  have l30 : ns.length < 1073741824 := by omega
  have k4' := (k2.trans k3).trans k4
  have e44 := k4 p4 _ f4.2.1 f4.2.2 (k3 p4 _ f4.2.1 f4.2.2 e4)
  have e54 := k4 p5 _ f5.2.1 f5.2.2 (k3 p5 _ f5.2.1 f5.2.2 e5)
  have d4' : Dg S4 a w (b + 69700) := d4.mono (by omega)
  clear d4 k4 d3 k3 e4 e5 d2 k2
  walk_at "mp_s"
  refine sheet_in ne ⟨f4.1, f4.2⟩ ⟨f5.1, f5.2⟩ h0 hl hn d4' k4' e44 e54 fun is x7 x8 S5 hil his d5 k5 e55 => ?_
  exact sheet_out ⟨f5.1, f5.2⟩ h0 hl hn hil his d5 k5 e55 q
end K02

set_option Elab.async false
set_option linter.all false
set_option maxRecDepth 100000
set_option maxHeartbeats 4100000
/-! what the mirrors compute: values spoilt; the table -/
namespace K02
open PySem PySem.Spec PyProof.Rows L2 MP
variable {A : Ad} {S : Store} {Q : Post} {E : XPost}
theorem odd_ok {a w : Addr} {b : Nat} (h : Dg S a w (b + 1)) (q : ∀ o S', okL 20 5 o → Dg S' a w b → Kp S S' a w → Q o S') : r_law_odd A [.ref a] S Q E := by
  unfold r_law_odd
  walk_at "mp_s"
  refine gAddT_l (by decide) ?_
  walk_at "mp_s"
  refine gAddT_l (by decide) ?_
  walk_at "mp_s"
  refine pick_g h (fun z => nomatch z) (by decide) fun x S1 hx d1 k1 => ?_
  refine q x S1 ?_ d1 k1
  refine (List.all_eq_true.mp (?_ : List.all _ (okB 20 5) = true)) x hx
  decide +kernel
theorem sIx_i {n d : Nat} {i : Int} (h0 : 0 ≤ i) (h1 : i ≤ n) : HT.sIx n d (some i) = i.toNat := by
  show (if i < 0 then (i + (n : Int)).toNat else min i.toNat n) = _
  rw [if_neg (by omega)]
  omega
theorem sIx_m {n d : Nat} : HT.sIx n d (some (-1)) = n - 1 := by
  show (if (-1 : Int) < 0 then ((-1 : Int) + (n : Int)).toNat else min (-1 : Int).toNat n) = _
  rw [if_pos (by decide)]
  omega
theorem cut_take {xs : List D} {i : Int} (h0 : 0 ≤ i) (h1 : i ≤ xs.length) : cutL xs none (some i) = xs.take i.toNat := by
  unfold cutL
  rw [sIx_i h0 h1]
  rfl
theorem cut_drop {xs : List D} {i : Int} (h0 : 0 ≤ i) (h1 : i ≤ xs.length) : cutL xs (some i) none = xs.drop i.toNat := by
  unfold cutL
  rw [sIx_i h0 h1]
  show (xs.drop i.toNat).take (xs.length - i.toNat) = _
  rw [List.take_of_length_le (by simp)]
theorem cut_init {xs : List D} : cutL xs none (some (-1)) = xs.take (xs.length - 1) := by
  unfold cutL
  rw [sIx_m]
  rfl
theorem cut_last {xs : List D} : cutL xs (some (-1)) none = xs.drop (xs.length - 1) := by
  unfold cutL
  rw [sIx_m]
  show (xs.drop _).take (xs.length - _) = _
  rw [List.take_of_length_le (by simp)]
def spTop (A : Ad) : MP.ST := dSeq (dSet 3 (evCall (r_law_take A) (aCons (evV 0) (aCons (evC (.int 6)) (aNil))))) (dSeq (dIf (bAnd (bB (bin gEqE (evV 3) (evC (.int 0)))) (bV (evB (gIsi (subT A) (exT_ A)) (aCons (evV 1) (aCons (evC (.ty "tuple")) (aNil)))))) (dRet (evB (gList mkF) (aCons (evV 1) (aNil)))) (dNext)) (dSeq (dIf (bAnd (bB (bin gEqE (evV 3) (evC (.int 1)))) (bV (evB (gIsi (subT A) (exT_ A)) (aCons (evV 1) (aCons (evC (.ty "tuple")) (aNil)))))) (dRet (evSl (gSl mkF) (evV 1) oNo (oPart (una gNeg (evC (.int 1)))))) (dNext)) (dSeq (dIf (bAnd (bB (bin gEqE (evV 3) (evC (.int 2)))) (bV (evB (gIsi (subT A) (exT_ A)) (aCons (evV 1) (aCons (evC (.ty "tuple")) (aNil)))))) (dRet (bin (gAddT mkF) (evV 1) (evSl (gSl mkF) (evV 1) (oPart (una gNeg (evC (.int 1)))) oNo))) (dNext)) (dRet (eIf (bB (bin gLt (evV 3) (evC (.int 5)))) (evCall (r_law_odd A) (aCons (evV 0) (aNil))) (evV 2))))))
theorem spoilt_eq (n : Nat) : r_law_spoilt A (n + 1) = runF 5 (dSeq (dIf (bOr (bNot (bV (evB (gIsi (subT A) (exT_ A)) (aCons (evV 1) (aCons (evC (.ty "tuple")) (aNil)))))) (bOr (bB (bin gEqE (evB gLen (aCons (evV 1) (aNil))) (evC (.int 0)))) (bB (bin gEqE (evCall (r_law_take A) (aCons (evV 0) (aCons (evC (.int 4)) (aNil)))) (evC (.int 0)))))) (spTop A) (dNext)) (dSeq (dSet 4 (evCall (r_law_take A) (aCons (evV 0) (aCons (evB gLen (aCons (evV 1) (aNil))) (aNil))))) (dRet (bin (gAddT mkF) (bin (gAddT mkF) (evSl (gSl mkF) (evV 1) oNo (oPart (evV 4))) (evTup (aCons (evCall (r_law_spoilt A n) (aCons (evV 0) (aCons (bin gIx (evV 1) (evV 4)) (aCons (evV 2) (aNil))))) (aNil)))) (evSl (gSl mkF) (evV 1) (oPart (bin (gAddT mkF) (evV 4) (evC (.int 1)))) oNo))))) := r_law_spoilt_eq n
theorem top_rest {a w : Addr} {b c L n : Nat} {d spare : D} {r : Int} {c1 : Bool} {N : DEnds} (hs : okL L c spare) (hc : 5 ≤ c) (hL : 20 ≤ L) (h : Dg S a w (b + 1))
    (q : ∀ o S', okL (L + 1) (n + c) o → Dg S' a w b → Kp S S' a w → N.rt o S') : dRet (eIf (bB (bin gLt (evV 3) (evC (.int 5)))) (evCall (r_law_odd A) (aCons (evV 0) (aNil))) (evV 2)) [some (.ref a), some d, some spare, some (.int r), none] S N := by
  walk_at "mp_s"
  refine ite_cc (fun e => ?_) fun e => ?_
  · walk_at "mp_s"
    exact odd_ok h fun o S' ho d1 k1 => q o S' (ho.mono (by omega) (by omega)) d1 k1
  · walk_at "mp_s"
    exact q _ _ (hs.mono (by omega) (by omega)) (h.mono (by omega)) (Kp.refl S a w)
theorem top_ok {a w : Addr} {b c L n : Nat} {d spare : D} {N : DEnds} (ho : okL L n d) (hs : okL L c spare) (hc : 5 ≤ c) (hL : 20 ≤ L) (hL2 : L ≤ 900) (h : Dg S a w (b + 2))
    (q : ∀ o S', okL (L + 1) (n + c) o → Dg S' a w b → Kp S S' a w → N.rt o S') : spTop A [some (.ref a), some d, some spare, none, none] S N := by
  have hv := (ho.okD (by omega)).val
  unfold spTop
  walk_at "mp_s"
  refine take_g (b := b + 1) h (by decide) (by decide) fun r S1 r0 r1 d1 k1 => ?_
  have fin : ∀ o, okL (L + 1) (n + c) o → N.rt o S1 := fun o h => q o S1 h (d1.mono (by omega)) k1
  have last : ∀ {c1 : Bool} , dRet (eIf (bB (bin gLt (evV 3) (evC (.int 5)))) (evCall (r_law_odd A) (aCons (evV 0) (aNil))) (evV 2)) [some (.ref a), some d, some spare, some (.int r), none] S1 N := fun {_} => top_rest (c1 := true) hs hc hL d1 fun o S' h d2 k2 => q o S' h d2 (k1.trans k2)
  by_cases hd : ∃ xs, d = .tup xs
  · obtain ⟨xs, rfl⟩ := hd
    obtain ⟨n, rfl⟩ : ∃ k, n = k + 1 := by
      cases n with
      | zero => cases ho
      | succ k => exact ⟨k, rfl⟩
    obtain ⟨hl, hx⟩ := okL_tup.mp ho
    walk_at "mp_s"
    refine ite_cc (fun e => ?_) fun e => ?_
    · walk_at "mp_s"
      exact fin _ ((okL_lst.mpr ⟨hl, hx⟩).mono (by omega) (by omega))
    walk_at "mp_s"
    refine ite_cc (fun e1 => ?_) fun e1 => ?_
    · walk_at "mp_s"
      rw [cut_init]
      exact fin _ ((okL_tup.mpr ⟨Nat.le_trans (List.length_take_le _ _) (by omega), fun x hx' => hx x (List.mem_of_mem_take hx')⟩).mono (by omega) (by omega))
    walk_at "mp_s"
    refine ite_cc (fun e2 => ?_) fun e2 => ?_
    · walk_at "mp_s"
      rw [cut_last]
      have l1 : (xs.drop (xs.length - 1)).length ≤ 1 := by rw [List.length_drop]; omega
      refine gAddT_t (Nat.le_trans (m := 1000) (by omega) (by decide)) ?_
      refine fin _ (((okL_tup (n := n) (L := L + 1)).mpr ⟨by rw [List.length_append]; omega, fun x hx' => ?_⟩).mono (by omega) (by omega))
      rcases List.mem_append.1 hx' with h | h
      · exact (hx x h).mono (by omega) (by omega)
      · exact (hx x (List.mem_of_mem_drop h)).mono (by omega) (by omega)
    exact last (c1 := true)
  · have ht : isTup d = false := by
      cases d with
      | tup xs => exact absurd ⟨xs, rfl⟩ hd
      | _ => rfl
    walk_at "mp_s"
    refine ite_cc (fun e => ?_) fun e => ?_
    · walk_at "mp_s"
      refine isi_tup hv ?_
      rw [ht]
      walk_at "mp_s"
      rw [show (r == 1) = false by simp at e ⊢; omega]
      walk_at "mp_s"
      rw [show (r == 2) = false by simp at e ⊢; omega]
      walk_at "mp_s"
      exact last (c1 := true)
    walk_at "mp_s"
    refine ite_cc (fun e => ?_) fun e => ?_
    · walk_at "mp_s"
      refine isi_tup hv ?_
      rw [ht]
      walk_at "mp_s"
      rw [show (r == 2) = false by simp at e ⊢; omega]
      walk_at "mp_s"
      exact last (c1 := true)
    walk_at "mp_s"
    refine ite_cc (fun e => ?_) fun e => ?_
    · walk_at "mp_s"
      refine isi_tup hv ?_
      rw [ht]
      walk_at "mp_s"
      exact last (c1 := true)
    exact last (c1 := true)
theorem spoilt_ok : ∀ (fuel n : Nat) {a w : Addr} {b c L : Nat} {d spare : D} (S : Store) (Q : Post) (E : XPost), n < fuel → okL L n d → okL L c spare → 5 ≤ c → 20 ≤ L → L ≤ 900 → Dg S a w (b + 2 * fuel + 4) →
    (∀ o S', okL (L + 1) (n + c) o → Dg S' a w b → Kp S S' a w → Q o S') → r_law_spoilt A fuel [.ref a, d, spare] S Q E
  | 0, n, _, _, _, _, _, _, _, _, _, _, h, _, _, _, _, _, _, _ => absurd h (Nat.not_lt_zero n)
  | fuel + 1, n, a, w, b, c, L, d, spare, S, Q, E, hf, ho, hs, hc, hL, hL2, h, q => by
    have hv := (ho.okD (by omega)).val
    rw [spoilt_eq]
    have top : ∀ {S1 : Store} {N : DEnds}, Dg S1 a w (b + 2) → Kp S S1 a w → N.rt = Q → spTop A [some (.ref a), some d, some spare, none, none] S1 N := fun {S1 N} d1 k1 e =>
      top_ok ho hs hc hL hL2 d1 fun o S' h1 h2 h3 => by rw [e]; exact q o S' h1 h2 (k1.trans h3)
    by_cases hd : ∃ x r, d = .tup (x :: r)
    · obtain ⟨x, r, rfl⟩ := hd
      obtain ⟨n, rfl⟩ : ∃ k, n = k + 1 := by
        cases n with
        | zero => cases ho
        | succ k => exact ⟨k, rfl⟩
      obtain ⟨hl, hx⟩ := okL_tup.mp ho
      have l0 : (((x :: r).length : Int) == 0) = false := by simp; omega
      walk_at "mp_s"
      try (refine ite_f l0 ?_)
      walk_at "mp_s"
      refine take_g (b := b + 2 * fuel + 5) (h.mono (by omega)) (by decide) (by decide) fun u S1 u0 u1 d1 k1 => ?_
      walk_at "mp_s"
      refine ite_cc (fun e => ?_) fun e => ?_
      · exact top (d1.mono (by omega)) k1 rfl
      walk_at "mp_s"
      refine take_g (b := b + 2 * fuel + 4) (d1.mono (by omega)) (by simp only [List.length_cons]; omega) (by omega) fun v S2 v0 v1 d2 k2 => ?_
      walk_at "mp_s"
      obtain ⟨y, hy, ey⟩ := atI_ok v0 v1
      refine gIx_t ey ?_
      walk_at "mp_s"
      refine spoilt_ok fuel n (b := b) S2 _ _ (by omega) (hx y hy) hs hc hL hL2 (d2.mono (by omega)) fun o S3 ho3 d3 k3 => ?_
      walk_at "mp_s"
      rw [cut_take v0 (by omega)]
      have lt : ((x :: r).take v.toNat).length = v.toNat := by rw [List.length_take]; omega
      refine gAddT_t (Nat.le_trans (m := 1000) (by rw [lt, List.length_singleton]; omega) (by decide)) ?_
      walk_at "mp_s"
      rw [cut_drop (by omega) (by omega)]
      have ld : ((x :: r).drop (v + 1).toNat).length = (x :: r).length - (v + 1).toNat := List.length_drop
      refine gAddT_t (Nat.le_trans (m := 1000) (by rw [List.length_append, lt, List.length_singleton, ld]; omega) (by decide)) ?_
      refine q _ S3 ?_ d3 ((k1.trans k2).trans k3)
      rw [show n + 1 + c = (n + c) + 1 by omega]
      refine okL_tup.mpr ⟨by rw [List.length_append, List.length_append, lt, List.length_singleton, ld]; omega, fun z hz => ?_⟩
      rcases List.mem_append.1 hz with hz | hz
      · rcases List.mem_append.1 hz with hz | hz
        · exact (hx z (List.mem_of_mem_take hz)).mono (by omega) (by omega)
        · rw [List.mem_singleton] at hz; subst hz; exact ho3
      · exact (hx z (List.mem_of_mem_drop hz)).mono (by omega) (by omega)
    · by_cases ht : d = .tup []
      · subst ht
        walk_at "mp_s"
        exact top (h.mono (by omega)) (Kp.refl S a w) rfl
      · have hn : isTup d = false := by
          cases d with
          | tup xs =>
            cases xs with
            | nil => exact absurd rfl ht
            | cons x r => exact absurd ⟨x, r, rfl⟩ hd
          | _ => rfl
        walk_at "mp_s"
        refine isi_tup hv ?_
        rw [hn]
        walk_at "mp_s"
        exact top (h.mono (by omega)) (Kp.refl S a w) rfl
/-! the table -/
def putAllV (ks : List Key) (vs : List D) (v : D) : List Str → List Key × List D
  | [] => (ks, vs)
  | w :: r => putAllV (putKs ks (.inr w)) (putVs ks vs (.inr w) v) v r
theorem table_loop {t e : Addr} {N : DEnds} {v : D} {f : ET} (ne : e ≠ t) {ks0 : List Key} {vs0 : List D} (hf : ∀ ρ S Q E, Q v S → f ρ S Q E) (h0 : ∀ Q : Post, ∀ S : Store, S t = some (.dct ks0 vs0) → Q (.ref e) S → gIx (.ref t) (.str "E") S Q) : ∀ (ws : List Str) (ks : List Key) (vs : List D) (S : Store) (x1 : Option D), S t = some (.dct ks0 vs0) → S e = some (.dct ks vs) → ks.length + ws.length ≤ 1000 →
    (∀ S' x1', S' t = some (.dct ks0 vs0) → S' e = some (.dct (putAllV ks vs v ws).1 (putAllV ks vs v ws).2) → (∀ b, b ≠ e → S' b = S b) → N.nx [some (.ref t), x1'] S') →
    loop (dgName 1) (dAsg f (dgSub (bin gIx (evV 0) (evC (.str "E"))) (evV 1))) N (ws.map D.str) [some (.ref t), x1] S
  | [], ks, vs, S, x1, h1, h2, _, q => q S x1 h1 h2 fun _ _ => rfl
  | w :: r, ks, vs, S, x1, h1, h2, l, q => by
    refine loop_cons ?_
    refine dgName_i (dAsg_i (hf _ _ _ _ ?_))
    walk_at "mp_s"
    refine h0 _ _ h1 ?_
    walk_at "mp_s"
    refine setD_box h2 rfl (Nat.lt_of_le_of_lt (m := 1000) (by simp only [List.length_cons] at l; omega) (by decide)) rfl rfl ?_
    have lk : (putKs ks (.inr w)).length ≤ ks.length + 1 := by
      unfold putKs
      split
      · omega
      · rw [List.length_append, List.length_singleton]; exact Nat.le_refl _
    refine table_loop ne hf h0 r _ _ _ (some (.str w)) (by rw [Store.set_ne ne.symm]; exact h1) Store.set_same (by simp only [List.length_cons] at l; omega) fun S' x1' e1 e2 e3 => ?_
    exact q S' x1' e1 e2 fun b hb => by rw [e3 b hb, Store.set_ne hb]
end K02

set_option Elab.async false
set_option linter.all false
set_option maxRecDepth 100000
set_option maxHeartbeats 4100000
/-! what the mirrors compute: the law -/
namespace K02
open PySem PySem.Spec PyProof.Rows L2 MP
variable {A : Ad} {S : Store} {Q : Post} {E : XPost}
def lawT (A : Ad) : MP.ST := dSeq (dSet 16 (evCall (r_law_fits A 110) (aCons (evV 2) (aCons (evV 14) (aCons (evV 11) (aNil)))))) (dIf (bB (bin gNeE (evB gRepr (aCons (evLst mkF (aCons (evCallV (tb_2 A) 15 (aCons (evV 11) (aNil))) (aCons (evCallVK (tb_1 A) 15 [0] (aCons (evV 11) (aNil))) (aNil)))) (aNil))) (evB gRepr (aCons (evLst mkF (aCons (evV 16) (aCons (evV 16) (aNil)))) (aNil))))) (dRet (evC (.bl false))) (dNext))
def lawL (A : Ad) : MP.ST := dSeq (dFor (iSeq (evV 3)) (dgTup 2 (dgCons (dgName 14) (dgCons (dgName 15) (dgNil)))) (lawT A)) (dSet 11 (evCall (r_law_spoilt A 60) (aCons (evV 1) (aCons (evV 11) (aCons (evV 12) (aNil))))))
def lawM (A : Ad) : MP.ST := dSeq (dSet 12 (evCall (r_law_pick A) (aCons (evV 1) (aCons (evLst mkF (aCons (evCall (r_law_any_expression A 6) (aCons (evV 1) (aCons (evV 5) (aCons (evC (.int 2)) (aNil))))) (aCons (evTup (aCons (evC (.str "name")) (aCons (bin gIx (evV 5) (evC (.int 0))) (aNil)))) (aCons (bin gIx (evV 5) (evC (.int 0))) (aCons (evCall (r_law_take A) (aCons (evV 1) (aCons (evC (.int 12)) (aNil)))) (aCons (bin gIx (evV 8) (evC (.int 0))) (aCons (bin gIx (evV 8) (evC (.int 1))) (aNil)))))))) (aNil))))) (dFor (iRange1 (aCons (evC (.int 4)) (aNil))) (dgName 13) (lawL A))
def lawB (A : Ad) : MP.ST := dSeq (dAsg (evTup (aCons (evCall (r_law_names A) (aCons (evV 1) (aCons (evC (.int 5)) (aNil)))) (aCons (evCall (r_law_any_sheet A) (aCons (evV 1) (aCons (evC (.int 3)) (aCons (evC (.int 3)) (aNil))))) (aNil)))) (dgTup 2 (dgCons (dgName 5) (dgCons (dgName 6) (dgNil))))) (dSeq (dSet 7 (evCall (r_law_any_expression A 6) (aCons (evV 1) (aCons (evV 5) (aCons (evC (.int 4)) (aNil)))))) (dSeq (dSet 8 (evComp mkF (iSeq (evLst mkF (aCons (evC (.str "cell")) (aCons (evC (.str "row")) (aCons (evC (.str "settle")) (aNil)))))) (dgName 9) (bYes) (evCall (r_law_any_cell A) (aCons (evV 1) (aCons (evV 5) (aCons (evC (.int 3)) (aCons (evV 9) (aNil)))))) [9])) (dSeq (dSet 10 (bin (gAddT mkF) (evLst mkF (aCons (evV 7) (aCons (evV 6) (aCons (evTup (aCons (evC (.str "cell")) (aCons (bin gIx (evV 5) (evC (.int 0))) (aCons (evV 7) (aNil))))) (aCons (evTup (aCons (evC (.str "settle")) (aCons (bin gIx (evV 5) (evC (.int 0))) (aCons (evC (.int 0)) (aCons (evC (.int 5)) (aCons (evV 7) (aCons (evTup (aCons (evC (.str "number")) (aCons (evC (.int 1)) (aNil)))) (aNil)))))))) (aCons (evCall (r_law_odd A) (aCons (evV 1) (aNil))) (aNil))))))) (evV 8))) (dFor (iSeq (evV 10)) (dgName 11) (lawM A)))))
theorem law_eq : r_law A = runF 17 (dSeq (dAsg (evTup (aCons (evCall (r_law_begun A) (aCons (evV 0) (aNil))) (aCons (evCall0 (r_law_table A)) (aNil)))) (dgTup 2 (dgCons (dgName 1) (dgCons (dgName 2) (dgNil))))) (dSeq (dSet 3 (evLst mkF (aCons (evTup (aCons (evC (.str "E")) (aCons (evC (.ref (A.f_is_expression))) (aNil)))) (aCons (evTup (aCons (evC (.str "C")) (aCons (evC (.ref (A.f_is_cell))) (aNil)))) (aCons (evTup (aCons (evC (.str "S")) (aCons (evC (.ref (A.f_is_sheet))) (aNil)))) (aNil)))))) (dSeq (dFor (iRange1 (aCons (bin (gAddT mkF) (evC (.int 2)) (evB gMin (aCons (evB gLen (aCons (evV 0) (aNil))) (aCons (evC (.int 10)) (aNil))))) (aNil))) (dgName 4) (lawB A)) (dRet (evC (.bl true)))))) := rfl
theorem gRepr_two (x : Bool) {Q : Post} (q : ∀ s : Str, s = (PyData.list [.bool x, .bool x]).shown → Q (.str s) S) : gRepr [.lst [.bl x, .bl x]] S Q := by
  refine gRepr_i (p := .list [.bool x, .bool x]) rfl ?_ ?_ ?_ ?_ (q _ rfl) <;> cases x <;> decide +kernel
theorem lawT_ok {t j : Addr} {d : D} {F : DF} {v : Bool} {sort : Str} {x0 x1 x3 x4 x5 x6 x7 x8 x9 x10 x12 x13 x16 : Option D} {N : DEnds} (h1 : tb_1 A j = some F) (h2 : tb_2 A j = some F) (hf : ∀ (Q : Post) (E : XPost), Q (.bl v) S → r_law_fits A 110 [.ref t, .str sort, d] S Q E) (hF : ∀ (Q : Post) (E : XPost), Q (.bl v) S → F [d] S Q E)
    (q : N.nx [x0, x1, some (.ref t), x3, x4, x5, x6, x7, x8, x9, x10, some d, x12, x13, some (.str sort), some (.ref j), some (.bl v)] S) : lawT A [x0, x1, some (.ref t), x3, x4, x5, x6, x7, x8, x9, x10, some d, x12, x13, some (.str sort), some (.ref j), x16] S N := by
  unfold lawT
  walk_at "mp_s"
  refine hf _ _ ?_
  walk_at "mp_s"
  refine evCallV_i (onRef_i rfl h2 ?_)
  walk_at "mp_s"
  refine hF _ _ ?_
  walk_at "mp_s"
  refine evCallVK_i (onRef_i rfl h1 ?_)
  walk_at "mp_s"
  refine hF _ _ ?_
  walk_at "mp_s"
  refine gRepr_two v fun s hs => ?_
  walk_at "mp_s"
  refine gRepr_two v fun s2 hs2 => ?_
  subst hs hs2
  refine gNeE_s ?_
  rw [show ((PyData.list [.bool v, .bool v]).shown == (PyData.list [.bool v, .bool v]).shown) = true from beq_self_eq_true _]
  walk_at "mp_s"
  exact q
theorem tb_ex (hA : A.Ok) : (tb_1 A A.f_is_expression = some (r_is_expression A 60) ∧ tb_2 A A.f_is_expression = some (r_is_expression A 60)) ∧ (tb_1 A A.f_is_cell = some (r_is_cell A) ∧ tb_2 A A.f_is_cell = some (r_is_cell A)) ∧ (tb_1 A A.f_is_sheet = some (r_is_sheet A) ∧ tb_2 A A.f_is_sheet = some (r_is_sheet A)) := by
  have nd := hA.ne1
  have n1 : A.f_is_cell ≠ A.f_is_expression := fun z => by simp [z] at nd
  have n2 : A.f_is_sheet ≠ A.f_is_expression := fun z => by simp [z] at nd
  have n3 : A.f_is_sheet ≠ A.f_is_cell := fun z => by simp [z] at nd
  unfold tb_1 tb_2
  refine ⟨⟨if_pos rfl, if_pos rfl⟩, ⟨?_, ?_⟩, ?_, ?_⟩
  · rw [if_neg n1, if_pos rfl]
  · rw [if_neg n1, if_pos rfl]
  · rw [if_neg n2, if_neg n3, if_pos rfl]
  · rw [if_neg n2, if_neg n3, if_pos rfl]
def judges (A : Ad) : D := .lst [.tup [.str "E", .ref A.f_is_expression], .tup [.str "C", .ref A.f_is_cell], .tup [.str "S", .ref A.f_is_sheet]]
theorem TabAt.kp {S S' : Store} {a w t : Addr} (h : TabAt S t) (k : Kp S S' a w) (ha : ∀ e, S a ≠ some (.dct (kW ["E", "I", "C", "S"]) [.ref e, .dct iKs iVs, .dct cKs cVs, .dct hKs hVs]) ∧ S w ≠ some (.dct (kW ["E", "I", "C", "S"]) [.ref e, .dct iKs iVs, .dct cKs cVs, .dct hKs hVs])) (hb : S a ≠ some (.dct eKs eVs) ∧ S w ≠ some (.dct eKs eVs)) : TabAt S' t := by
  obtain ⟨e, h1, h2⟩ := h
  refine ⟨e, k t _ ?_ ?_ h1, k e _ ?_ ?_ h2⟩
  · intro z; subst z; exact (ha e).1 h1
  · intro z; subst z; exact (ha e).2 h1
  · intro z; subst z; exact hb.1 h2
  · intro z; subst z; exact hb.2 h2
theorem TabAt.dg {S S' : Store} {a w t : Addr} {b : Nat} (h : TabAt S t) (d : Dg S a w b) (k : Kp S S' a w) : TabAt S' t := by
  obtain ⟨n, dr, -⟩ := d
  obtain ⟨cs, r, tt, e, -⟩ := dr.box
  obtain ⟨ws, ew, -⟩ := dr.wide
  refine h.kp k (fun e' => ⟨fun z => ?_, fun z => ?_⟩) ⟨fun z => ?_, fun z => ?_⟩
  · rw [e] at z
    have z2 := congrArg (fun o : Option SO => match o with | some (.dct (k :: _) _) => decide (k = (.inr (Str.ofString "wide") : Key)) | _ => false) z
    have z3 : decide ((.inr (Str.ofString "wide") : Key) = .inr (Str.ofString "wide")) = false := z2
    simp at z3
  · rw [ew] at z; cases z
  · rw [e] at z
    have z2 : dks.length = eKs.length := congrArg (fun o : Option SO => match o with | some (.dct ks _) => ks.length | _ => 0) z
    exact absurd z2 (by decide +kernel)
  · rw [ew] at z; cases z
theorem lawL_ok (hA : A.Ok) {a w t : Addr} {b L n : Nat} {d spare : D} {x0 x4 x5 x6 x7 x8 x9 x10 x13 x14 x15 x16 : Option D} {N : DEnds} (hL : 20 ≤ L) (hL2 : L ≤ 900) (hn : n ≤ 45) (ho : okL L n d) (hs : okL L 10 spare) (hg : Dg S a w (b + 124)) (hT : TabAt S t)
    (q : ∀ o S' x14 x15 x16, okL (L + 1) (n + 10) o → Dg S' a w b → TabAt S' t → N.nx [x0, some (.ref a), some (.ref t), some (judges A), x4, x5, x6, x7, x8, x9, x10, some o, some spare, x13, x14, x15, x16] S') : lawL A [x0, some (.ref a), some (.ref t), some (judges A), x4, x5, x6, x7, x8, x9, x10, some d, some spare, x13, x14, x15, x16] S N := by
  have hd := ho.okD (by omega)
  obtain ⟨⟨e1, e2⟩, ⟨c1, c2⟩, s1, s2⟩ := tb_ex hA
  unfold lawL
  refine dSeq_i (dFor_i ?_)
  refine iSeq_i (evV_i rfl (onSeq_l ?_))
  refine loop_cons (dgTup_i rfl (dgCons_i (dgName_i (dgCons_i (dgName_i (dgNil_i ?_))))))
  refine lawT_ok (v := isE 60 d) e1 e2 (fun Q E q => fits_E (by omega) (by omega) hT hd q) (fun Q E q => is_expression_ok hd (by omega) q) ?_
  refine loop_cons (dgTup_i rfl (dgCons_i (dgName_i (dgCons_i (dgName_i (dgNil_i ?_))))))
  refine lawT_ok (v := isCell d) c1 c2 (fun Q E q => fits_C (by omega) (by omega) hT hd q) (fun Q E q => cell_ok hd (by omega) q) ?_
  refine loop_cons (dgTup_i rfl (dgCons_i (dgName_i (dgCons_i (dgName_i (dgNil_i ?_))))))
  refine lawT_ok (v := isSheet d) s1 s2 (fun Q E q => fits_S (by omega) (by omega) hT hd q) (fun Q E q => sheet_ok hA hd (by omega) q) ?_
  dsimp only []
  refine loop_nil ?_
  dsimp only []
  walk_at "mp_s"
  refine spoilt_ok 60 n (b := b) S _ _ (by omega) ho hs (by decide) hL hL2 (hg.mono (by omega)) fun o S1 h1 h2 h3 => ?_
  exact q o S1 _ _ _ h1 h2 (hT.dg hg h3)
theorem Dg.keep {S S' : Store} {a w : Addr} {b : Nat} (h : Dg S a w b) (k : ∀ c o, S c = some o → S' c = some o) : Dg S' a w b := by
  obtain ⟨n, d, e⟩ := h
  refine ⟨n, ⟨d.ne, ?_, ?_⟩, e⟩
  · obtain ⟨cs, r, t, e, x⟩ := d.box
    exact ⟨cs, r, t, k _ _ e, x⟩
  · obtain ⟨ws, e, x⟩ := d.wide
    exact ⟨ws, k _ _ e, x⟩
def k1_ : List Key × List D := putAllV (kW ["number", "name", "item", "place", "at", "not"]) [.lst [sS], .lst [sN], .lst [sN, .str "nine"], .lst [], .lst [sN, sS, sE], .lst [sE]] (.lst [sE, sE]) pairsS
def k2_ : List Key × List D := putAllV k1_.1 k1_.2 (.lst [sN]) oversS
def k3_ : List Key × List D := (putKs k2_.1 (.inr "choose"), putVs k2_.1 k2_.2 (.inr "choose") (.lst [sE, sE, sE]))
def k4_ : List Key × List D := (putKs k3_.1 (.inr "cases"), putVs k3_.1 k3_.2 (.inr "cases") (.lst [sE, rowOf "pair", sE]))
theorem k4_eq : k4_ = (eKs, eVs) := by rfl
theorem k2_len : k2_.1.length = 19 := by rfl
theorem k3_len : k3_.1.length = 20 := by rfl
theorem table_ok (q : ∀ t S', TabAt S' t → (∀ c o, S c = some o → S' c = some o) → Q (.ref t) S') : r_law_table A [] S Q E := by
  unfold r_law_table
  walk_at "mp_s"
  refine mkDM_i fun e ne => ?_
  walk_at "mp_s"
  refine mkDM_i fun t nt => ?_
  have net : e ≠ t := fun z => by rw [← z, Store.set_same] at nt; cases nt
  have nt' : S t = none := by rw [Store.set_ne net.symm] at nt; exact nt
  have h0 : ∀ (Q : Post) (S : Store), S t = some (.dct [.inr "E"] [.ref e]) → Q (.ref e) S → gIx (.ref t) (.str "E") S Q := fun Q S h q => gIx_box h (k := .inr "E") rfl (by rfl) q
  have a1 : ((S.set e (.dct (kW ["number", "name", "item", "place", "at", "not"]) [.lst [sS], .lst [sN], .lst [sN, .str "nine"], .lst [], .lst [sN, sS, sE], .lst [sE]])).set t (.dct [.inr "E"] [.ref e])) t = some (.dct [.inr "E"] [.ref e]) := Store.set_same
  have a2 : ((S.set e (.dct (kW ["number", "name", "item", "place", "at", "not"]) [.lst [sS], .lst [sN], .lst [sN, .str "nine"], .lst [], .lst [sN, sS, sE], .lst [sE]])).set t (.dct [.inr "E"] [.ref e])) e = some (.dct (kW ["number", "name", "item", "place", "at", "not"]) [.lst [sS], .lst [sN], .lst [sN, .str "nine"], .lst [], .lst [sN, sS, sE], .lst [sE]]) := by rw [Store.set_ne net, Store.set_same]
  have a3 : ∀ c o, S c = some o → c ≠ e ∧ c ≠ t ∧ ((S.set e (.dct (kW ["number", "name", "item", "place", "at", "not"]) [.lst [sS], .lst [sN], .lst [sN, .str "nine"], .lst [], .lst [sN, sS, sE], .lst [sE]])).set t (.dct [.inr "E"] [.ref e])) c = some o := fun c o h => by
    have c1 : c ≠ e := fun z => by rw [z, ne] at h; cases h
    have c2 : c ≠ t := fun z => by rw [z, nt'] at h; cases h
    exact ⟨c1, c2, by rw [Store.set_ne c2, Store.set_ne c1]; exact h⟩
  walk_at "mp_s"
  refine table_loop (v := .lst [sE, sE]) net (fun ρ S Q E q => ?_) h0 pairsS _ _ _ none a1 a2 (by decide +kernel) fun S1 x1 b1 b2 b3 => ?_
  · walk_at "mp_s"
    exact q
  walk_at "mp_s"
  refine table_loop (v := .lst [sN]) net (fun ρ S Q E q => ?_) h0 oversS _ _ _ x1 b1 b2 (by decide +kernel) fun S2 x2 c1 c2 c3 => ?_
  · walk_at "mp_s"
    exact q
  walk_at "mp_s"
  refine h0 _ _ c1 ?_
  walk_at "mp_s"
  refine setD_box c2 (k := .inr "choose") rfl (Nat.lt_of_le_of_lt (m := 19) (Nat.le_of_eq k2_len) (by decide)) rfl rfl ?_
  have g1 : (S2.set e (.dct k3_.1 k3_.2)) t = some (.dct [.inr "E"] [.ref e]) := by rw [Store.set_ne net.symm]; exact c1
  have g2 : (S2.set e (.dct k3_.1 k3_.2)) e = some (.dct k3_.1 k3_.2) := Store.set_same
  have g3 : ∀ c o, S c = some o → c ≠ e ∧ c ≠ t ∧ (S2.set e (.dct k3_.1 k3_.2)) c = some o := fun c o h => by
    obtain ⟨h1, h2, h3⟩ := a3 c o h
    exact ⟨h1, h2, by rw [Store.set_ne h1, c3 c h1, b3 c h1]; exact h3⟩
  show dgCons _ _ _ _ (S2.set e (.dct k3_.1 k3_.2)) _
  generalize S2.set e (.dct k3_.1 k3_.2) = S3 at g1 g2 g3 ⊢
  walk_at "mp_s"
  refine h0 _ _ g1 ?_
  walk_at "mp_s"
  refine setD_box g2 (k := .inr "cases") rfl (Nat.lt_of_le_of_lt (m := 20) (Nat.le_of_eq k3_len) (by decide)) (ks' := eKs) (congrArg Prod.fst k4_eq) (ds' := eVs) (congrArg Prod.snd k4_eq) ?_
  have m1 : (S3.set e (.dct eKs eVs)) t = some (.dct [.inr "E"] [.ref e]) := by rw [Store.set_ne net.symm]; exact g1
  have m2 : (S3.set e (.dct eKs eVs)) e = some (.dct eKs eVs) := Store.set_same
  have m3 : ∀ c o, S c = some o → c ≠ e ∧ c ≠ t ∧ (S3.set e (.dct eKs eVs)) c = some o := fun c o h => by
    obtain ⟨h1, h2, h3⟩ := g3 c o h
    exact ⟨h1, h2, by rw [Store.set_ne h1]; exact h3⟩
  generalize S3.set e (.dct eKs eVs) = S4 at m1 m2 m3 ⊢
  walk_at "mp_s"
  refine setD_box m1 (k := .inr "I") rfl (by decide) (ks' := kW ["E", "I"]) (by rfl) (ds' := [.ref e, .dct iKs iVs]) (by rfl) ?_
  walk_at "mp_s"
  refine setD_box Store.set_same (k := .inr "C") rfl (by decide) (ks' := kW ["E", "I", "C"]) (by rfl) (ds' := [.ref e, .dct iKs iVs, .dct cKs cVs]) (by rfl) ?_
  walk_at "mp_s"
  refine setD_box Store.set_same (k := .inr "S") rfl (by decide) (ks' := kW ["E", "I", "C", "S"]) (by rfl) (ds' := [.ref e, .dct iKs iVs, .dct cKs cVs, .dct hKs hVs]) (by rfl) ?_
  walk_at "mp_s"
  refine q t _ ⟨e, Store.set_same, by rw [Store.set_ne net, Store.set_ne net, Store.set_ne net]; exact m2⟩ fun c o h => ?_
  obtain ⟨h1, h2, h3⟩ := m3 c o h
  rw [Store.set_ne h2, Store.set_ne h2, Store.set_ne h2]
  exact h3
theorem expr4 {a w : Addr} {b : Nat} {ns : List D} (h0 : ns ≠ []) (hl : ns.length ≤ 1000) (hn : ∀ y ∈ ns, isNm y) (h : Dg S a w (b + 4320))
    (q : ∀ o S', GE 4 o → Dg S' a w b → Kp S S' a w → Q o S') : r_law_any_expression A 6 [.ref a, .lst ns, .int 4] S Q E := any_expr_ok 3 6 S Q E (by decide) h0 hl hn h q
theorem expr2 {a w : Addr} {b : Nat} {ns : List D} (h0 : ns ≠ []) (hl : ns.length ≤ 1000) (hn : ∀ y ∈ ns, isNm y) (h : Dg S a w (b + 120))
    (q : ∀ o S', GE 2 o → Dg S' a w b → Kp S S' a w → Q o S') : r_law_any_expression A 6 [.ref a, .lst ns, .int 2] S Q E := any_expr_ok 1 6 S Q E (by decide) h0 hl hn h q
theorem cell3 {a w : Addr} {b : Nat} {ns : List D} {word : Str} (hw : word = "cell" ∨ word = "row" ∨ word = "settle") (h0 : ns ≠ []) (hl : ns.length ≤ 1000) (hn : ∀ y ∈ ns, isNm y) (h : Dg S a w (b + 900))
    (q : ∀ o S', okL 20 10 o → Dg S' a w b → Kp S S' a w → Q o S') : r_law_any_cell A [.ref a, .lst ns, .int 3, .str word] S Q E := any_cell_ok (k := 2) (by decide) (by decide) hw h0 hl hn h fun o S' h1 _ h2 h3 => q o S' h1 h2 h3
theorem lawM_ok (hA : A.Ok) {a w t : Addr} {b : Nat} {d n0 c1 c2 c3 : D} {ns : List D} {x0 x4 x6 x7 x9 x10 x12 x13 x14 x15 x16 : Option D} {N : DEnds} (hn : ∀ y ∈ n0 :: ns, isNm y) (hl : (n0 :: ns).length ≤ 1000) (h1 : okL 20 10 c1) (h2 : okL 20 10 c2) (ho : okL 100 13 d) (hg : Dg S a w (b + 700)) (hT : TabAt S t)
    (q : ∀ S' x11 x12 x13 x14 x15 x16, Dg S' a w b → TabAt S' t → N.nx [x0, some (.ref a), some (.ref t), some (judges A), x4, some (.lst (n0 :: ns)), x6, x7, some (.lst [c1, c2, c3]), x9, x10, x11, x12, x13, x14, x15, x16] S') :
    lawM A [x0, some (.ref a), some (.ref t), some (judges A), x4, some (.lst (n0 :: ns)), x6, x7, some (.lst [c1, c2, c3]), x9, x10, some d, x12, x13, x14, x15, x16] S N := by
  unfold lawM
  walk_at "mp_s"
  refine expr2 (b := b + 580) (fun z => nomatch z) hl hn (hg.mono (by omega)) fun o S1 ho1 d1 k1 => ?_
  walk_at "mp_s"
  refine gIx_l at_0 ?_
  walk_at "mp_s"
  refine gIx_l at_0 ?_
  walk_at "mp_s"
  refine take_g (b := b + 579) (d1.mono (by omega)) (by decide) (by decide) fun r S2 r0 r1 d2 k2 => ?_
  walk_at "mp_s"
  refine pick_g (b := b + 578) (d2.mono (by omega)) (fun z => nomatch z) (by simp) fun spare S3 hx d3 k3 => ?_
  have n00 := hn n0 List.mem_cons_self
  have hs : okL 20 10 spare := by
    simp only [List.mem_cons, List.not_mem_nil, or_false] at hx
    rcases hx with rfl | rfl | rfl | rfl | rfl | rfl
    · exact (GE_ok ho1).mono (by omega) (by omega)
    · refine okL_tup.mpr ⟨by simp, fun z hz => ?_⟩
      simp only [List.mem_cons, List.not_mem_nil, or_false] at hz
      rcases hz with rfl | rfl
      · exact okL_w (by decide +kernel)
      · exact n00.ok
    · exact n00.ok
    · exact okL_int
    · exact h1
    · exact h2
  have hT3 := ((hT.dg hg k1).dg d1 k2).dg d2 k3
  have d3' : Dg S3 a w (b + 520) := d3.mono (by omega)
  clear d3
  walk_at "mp_s"
  refine iRange1_i ?_
  walk_at "mp_s"
  refine ⟨by decide, by decide, ?_⟩
  refine loop_ind (fun ds ρ S' => ∃ (k : Nat) (m : D) (x13 x14 x15 x16 : Option D), ds.length + k = 4 ∧ okL (100 + k) (13 + 10 * k) m ∧ Dg S' a w (b + 130 * ds.length) ∧ TabAt S' t ∧ ρ = [x0, some (.ref a), some (.ref t), some (judges A), x4, some (.lst (n0 :: ns)), x6, x7, some (.lst [c1, c2, c3]), x9, x10, some m, some spare, x13, x14, x15, x16]) ?_ ?_ _ _ _ ⟨0, d, x13, x14, x15, x16, by unfold rangeD; simp, ho, ?_, hT3, rfl⟩
  · rintro z ds ρ S4 ih ⟨k, m, y13, y14, y15, y16, hk, hm, d4, hT4, rfl⟩
    simp only [List.length_cons] at hk
    refine dgName_i (lawL_ok hA (b := b + 130 * ds.length) (by omega) (by omega) (by omega) hm (hs.mono (by omega) (Nat.le_refl _)) (d4.mono (by simp only [List.length_cons]; omega)) hT4 fun o S5 z14 z15 z16 h5 d5 hT5 => ?_)
    exact ih _ _ ⟨k + 1, o, _, z14, z15, z16, by omega, h5.mono (by omega) (by omega), d5, hT5, rfl⟩
  · rintro ρ S4 ⟨k, m, y13, y14, y15, y16, hk, hm, d4, hT4, rfl⟩
    exact q S4 _ _ _ _ _ _ (d4.mono (by simp)) hT4
  · unfold rangeD
    rw [List.length_map, List.length_range]
    exact d3'.mono (by simp)
theorem lawB_ok (hA : A.Ok) {a w t : Addr} {b : Nat} {x0 x4 x5 x6 x7 x8 x9 x10 x11 x12 x13 x14 x15 x16 : Option D} {N : DEnds} (hg : Dg S a w (b + 90000)) (hT : TabAt S t)
    (q : ∀ S' x5 x6 x7 x8 x9 x10 x11 x12 x13 x14 x15 x16, Dg S' a w b → TabAt S' t → N.nx [x0, some (.ref a), some (.ref t), some (judges A), x4, x5, x6, x7, x8, x9, x10, x11, x12, x13, x14, x15, x16] S') :
    lawB A [x0, some (.ref a), some (.ref t), some (judges A), x4, x5, x6, x7, x8, x9, x10, x11, x12, x13, x14, x15, x16] S N := by
  unfold lawB
  walk_at "mp_s"
  refine names_ok (many := 5) (b := b + 89000) (by decide) (hg.mono (by omega)) fun ns S1 hnl hn d1 k1 => ?_
  walk_at "mp_s"
  refine any_sheet_ok (b := b + 19000) (d1.mono (by omega)) fun sh S2 hsh d2 k2 => ?_
  have hT2 := (hT.dg hg k1).dg d1 k2
  obtain ⟨n0, ns, rfl⟩ : ∃ x r, ns = x :: r := by
    cases ns with
    | nil => cases hnl
    | cons x r => exact ⟨x, r, rfl⟩
  walk_at "mp_s"
  refine expr4 (b := b + 14000) (fun z => nomatch z) (by omega) hn (d2.mono (by omega)) fun tr S3 htr d3 k3 => ?_
  have hT3 := hT2.dg d2 k3
  walk_at "mp_s"
  refine comp_st (fun ds acc S' => acc.length + ds.length = 3 ∧ (∀ x ∈ ds, ∃ s : Str, x = .str s ∧ (s = "cell" ∨ s = "row" ∨ s = "settle")) ∧ (∀ y ∈ acc, okL 20 10 y) ∧ Dg S' a w (b + 10000 + 900 * ds.length) ∧ TabAt S' t) ?_ ?_ _ _ _ ⟨rfl, ?_, (fun y hy => nomatch hy), d3.mono (by simp only [List.length_cons, List.length_nil]; omega), hT3⟩
  · rintro x ds acc S4 ⟨hl, hx, hy, d4, hT4⟩ k hq
    obtain ⟨s, rfl, hs⟩ := hx _ List.mem_cons_self
    walk_at "mp_s"
    refine cell3 (b := b + 10000 + 900 * ds.length) hs (fun z => nomatch z) (by omega) hn (d4.mono (by simp only [List.length_cons]; omega)) fun o S5 ho d5 k5 => ?_
    refine hq o S5 ⟨Nat.lt_of_le_of_lt (m := 3) (by omega) (by decide), by rw [List.length_append, List.length_singleton]; simp only [List.length_cons] at hl; omega, (fun x hx' => hx x (List.mem_cons_of_mem _ hx')), (fun y hy' => ?_), d5, hT4.dg d4 k5⟩
    rcases List.mem_append.1 hy' with hy' | hy'
    · exact hy y hy'
    · rw [List.mem_singleton] at hy'; subst hy'; exact ho
  · rintro acc S4 ⟨hl, -, hy, d4, hT4⟩
    obtain ⟨c1, c2, c3, rfl⟩ : ∃ x y z, acc = [x, y, z] := len3 (by simp only [List.length_nil] at hl; omega)
    have d4' : Dg S4 a w (b + 10000) := d4.mono (by simp)
    clear d4
    walk_at "mp_s"
    refine gIx_l at_0 ?_
    walk_at "mp_s"
    refine gIx_l at_0 ?_
    walk_at "mp_s"
    refine odd_ok (b := b + 9999) (d4'.mono (by omega)) fun od S5 hod d5 k5 => ?_
    have hT5 := hT4.dg d4' k5
    walk_at "mp_s"
    refine gAddT_l (by simp only [List.length_cons, List.length_nil]; decide) ?_
    have n00 := hn n0 List.mem_cons_self
    have tok : okL 100 12 tr := (GE_ok htr).mono (by omega) (by omega)
    have hall : ∀ x ∈ [tr, sh, D.tup [.str "cell", n0, tr], D.tup [.str "settle", n0, .int 0, .int 5, tr, .tup [.str "number", .int 1]], od] ++ [c1, c2, c3], okL 100 13 x := fun x hx => by
      simp only [List.cons_append, List.nil_append, List.mem_cons, List.not_mem_nil, or_false] at hx
      rcases hx with rfl | rfl | rfl | rfl | rfl | rfl | rfl | rfl
      · exact tok.mono (by omega) (by omega)
      · exact hsh.mono (by omega) (by omega)
      · refine okL_tup.mpr ⟨by simp, fun z hz => ?_⟩
        simp only [List.mem_cons, List.not_mem_nil, or_false] at hz
        rcases hz with rfl | rfl | rfl
        · exact okL_str.mpr (by decide +kernel)
        · exact n00.ok
        · exact tok
      · refine okL_tup.mpr ⟨by simp, fun z hz => ?_⟩
        simp only [List.mem_cons, List.not_mem_nil, or_false] at hz
        rcases hz with rfl | rfl | rfl | rfl | rfl | rfl
        · exact okL_str.mpr (by decide +kernel)
        · exact n00.ok
        · exact okL_int
        · exact okL_int
        · exact tok
        · show okB 100 12 _ = true
          decide +kernel
      · exact hod.mono (by omega) (by omega)
      · exact (hy _ (by simp)).mono (by omega) (by omega)
      · exact (hy _ (by simp)).mono (by omega) (by omega)
      · exact (hy _ (by simp)).mono (by omega) (by omega)
    have hlen : ([tr, sh, D.tup [.str "cell", n0, tr], D.tup [.str "settle", n0, .int 0, .int 5, tr, .tup [.str "number", .int 1]], od] ++ [c1, c2, c3]).length = 8 := rfl
    generalize hgl : [tr, sh, D.tup [.str "cell", n0, tr], D.tup [.str "settle", n0, .int 0, .int 5, tr, .tup [.str "number", .int 1]], od] ++ [c1, c2, c3] = some_ at hall hlen ⊢
    walk_at "mp_s"
    refine loop_ind (fun ds ρ S' => (∀ x ∈ ds, okL 100 13 x) ∧ ds.length ≤ 8 ∧ Dg S' a w (b + 700 * ds.length) ∧ TabAt S' t ∧ ∃ y11 y12 y13 y14 y15 y16, ρ = [x0, some (.ref a), some (.ref t), some (judges A), x4, some (.lst (n0 :: ns)), some sh, some tr, some (.lst [c1, c2, c3]), x9, some (.lst some_), y11, y12, y13, y14, y15, y16]) ?_ ?_ _ _ _ ⟨hall, by omega, d5.mono (by omega), hT5, ?_⟩
    · rintro x ds ρ S6 ih ⟨hx, hdl, d6, hT6, y11, y12, y13, y14, y15, y16, rfl⟩
      refine dgName_i (lawM_ok hA (b := b + 700 * ds.length) hn (by omega) (hy _ (by simp)) (hy _ (by simp)) (hx x List.mem_cons_self) (d6.mono (by simp only [List.length_cons]; omega)) hT6 fun S7 z11 z12 z13 z14 z15 z16 d7 hT7 => ?_)
      exact ih _ _ ⟨(fun x hx' => hx x (List.mem_cons_of_mem _ hx')), by simp only [List.length_cons] at hdl; omega, d7, hT7, z11, z12, z13, z14, z15, z16, rfl⟩
    · rintro ρ S6 ⟨-, -, d6, hT6, y11, y12, y13, y14, y15, y16, rfl⟩
      exact q S6 _ _ _ _ _ _ _ _ _ _ _ _ (d6.mono (by simp)) hT6
    · exact ⟨_, _, _, _, _, _, rfl⟩
  · intro x hx
    simp only [List.mem_cons, List.not_mem_nil, or_false] at hx
    rcases hx with rfl | rfl | rfl
    · exact ⟨_, rfl, .inl rfl⟩
    · exact ⟨_, rfl, .inr (.inl rfl)⟩
    · exact ⟨_, rfl, .inr (.inr rfl)⟩
theorem law_ok {ns : List Int} (hA : A.Ok) (hl : ns.length ≤ 63) (q : ∀ S', Q (.bl true) S') : r_law A [.kls (ns.map .int)] S Q E := by
  rw [law_eq]
  walk_at "mp_s"
  refine begun_g (b := 2000000) (by decide) (by omega) fun a w S1 d1 _ => ?_
  walk_at "mp_s"
  refine table_ok fun t S2 hT k2 => ?_
  have d2 := d1.keep k2
  clear d1 k2
  walk_at "mp_s"
  refine iRange1_i ?_
  walk_at "mp_s"
  have hr : ∀ z : Int, 0 ≤ z → z ≤ 63 → 0 ≤ 2 + (if (10 : Int) < z then 10 else z) ∧ 2 + (if (10 : Int) < z then 10 else z) ≤ 12 := fun z h0 h1 => by split <;> omega
  obtain ⟨m0, m1⟩ := hr ((ns.map D.int).length : Int) (by omega) (by rw [List.length_map]; omega)
  generalize 2 + (if (10 : Int) < ((ns.map D.int).length : Int) then 10 else ((ns.map D.int).length : Int)) = m at m0 m1 ⊢
  refine ⟨by omega, by omega, ?_⟩
  refine loop_ind (fun ds ρ S' => ds.length ≤ 12 ∧ Dg S' a w (100 + 90000 * ds.length) ∧ TabAt S' t ∧ ∃ x4 x5 x6 x7 x8 x9 x10 x11 x12 x13 x14 x15 x16, ρ = [some (.kls (ns.map .int)), some (.ref a), some (.ref t), some (judges A), x4, x5, x6, x7, x8, x9, x10, x11, x12, x13, x14, x15, x16]) ?_ ?_ _ _ _ ⟨?_, ?_, hT, ?_⟩
  · rintro x ds ρ S6 ih ⟨hdl, d6, hT6, x4, x5, x6, x7, x8, x9, x10, x11, x12, x13, x14, x15, x16, rfl⟩
    refine dgName_i (lawB_ok hA (b := 100 + 90000 * ds.length) (d6.mono (by simp only [List.length_cons]; omega)) hT6 fun S7 z5 z6 z7 z8 z9 z10 z11 z12 z13 z14 z15 z16 d7 hT7 => ?_)
    exact ih _ _ ⟨by simp only [List.length_cons] at hdl; omega, d7, hT7, _, z5, z6, z7, z8, z9, z10, z11, z12, z13, z14, z15, z16, rfl⟩
  · rintro ρ S6 ⟨-, d6, hT6, x4, x5, x6, x7, x8, x9, x10, x11, x12, x13, x14, x15, x16, rfl⟩
    walk_at "mp_s"
    exact q _
  · unfold rangeD; rw [List.length_map, List.length_range]; omega
  · unfold rangeD; rw [List.length_map, List.length_range]; exact d2.mono (by omega)
  · exact ⟨_, _, _, _, _, _, _, _, _, _, _, _, _, rfl⟩
end K02

set_option Elab.async false
set_option linter.all false
set_option maxRecDepth 100000
set_option maxHeartbeats 4100000
/-! the end -/
namespace K02
open PySem PySem.Spec PyProof.Rows L2 MP

def spLaw (K : PySem.W.Frag) : L2.Sp := fun vs H Q _ => ∃ (a : Addr) (ns : List Int), vs = [.ref a] ∧ KsL K H a (ns.map V.int) ∧ ns.length ≤ 63 ∧ ∀ H', Q (.bl true) H'
theorem rels_ints {K : PySem.W.Frag} {H : Hp} : ∀ ns : List Int, Rels K H (ns.map D.int) (ns.map V.int)
  | [] => rfl
  | n :: r => ⟨.int n, r.map V.int, rfl, rfl, rels_ints r⟩
theorem law_sp {K : PySem.W.Frag} {A : Ad} (hA : A.Ok) : ∀ vs H Q E, spLaw K vs H Q E → spM K 1 (r_law A) vs H Q E := by
  rintro vs H Q E ⟨a, ns, rfl, ks, hl, q⟩
  refine ⟨[.kls (ns.map D.int)], fun _ => none, fun d _ => d = .bl true, fun _ _ => False, ⟨.ref a, [], rfl, ⟨a, ns.map V.int, rfl, ks, rels_ints ns⟩, rfl⟩, fun _ _ h => (nomatch h), rfl, law_ok hA hl fun _ => rfl, ?_, ?_⟩
  · rintro d S' v H' _ _ r rfl
    have e : v = .bl true := r
    rw [e]
    exact q H'
  · rintro x S' c dd H' _ _ _ h
    exact h.elim
theorem all_mk {P : Program} {w : World} {K : PySem.W.Frag} {h : Heap} {mg : Str → Option Value} {fa : Addr} (X : K.In h) (G : h.Ns mainGlobals mg) (hfa : mg "law" = some (.ref fa))
    {f_is_name : Addr} {oc_is_name kV_is_name dc_is_name pm_is_name cd_is_name ct_is_name : Value} {od_is_name an_is_name : Option Addr} {sl_is_name : Array (Option Value)}
    (a_is_name : PySem.W.nsIn K mainGlobals "is_name" = some (some (.ref f_is_name))) (l_is_name : K.lookup f_is_name = some ⟨oc_is_name, od_is_name, .func (PySem.W.fnOf "is_name" "is_name" (defArgs s_is_name) (defBody s_is_name) (defScope s_is_name) .none kV_is_name dc_is_name pm_is_name an_is_name cd_is_name ct_is_name), sl_is_name⟩) (c_is_name : PySem.W.codeIn K cd_is_name "is_name" = true) (k_is_name : PySem.W.keepIn K (.ref f_is_name) = true)
    {f_is_int : Addr} {oc_is_int kV_is_int dc_is_int pm_is_int cd_is_int ct_is_int : Value} {od_is_int an_is_int : Option Addr} {sl_is_int : Array (Option Value)}
    (a_is_int : PySem.W.nsIn K mainGlobals "is_int" = some (some (.ref f_is_int))) (l_is_int : K.lookup f_is_int = some ⟨oc_is_int, od_is_int, .func (PySem.W.fnOf "is_int" "is_int" (defArgs s_is_int) (defBody s_is_int) (defScope s_is_int) .none kV_is_int dc_is_int pm_is_int an_is_int cd_is_int ct_is_int), sl_is_int⟩) (c_is_int : PySem.W.codeIn K cd_is_int "is_int" = true) (k_is_int : PySem.W.keepIn K (.ref f_is_int) = true)
    {f_lies_in : Addr} {oc_lies_in kV_lies_in dc_lies_in pm_lies_in cd_lies_in ct_lies_in : Value} {od_lies_in an_lies_in : Option Addr} {sl_lies_in : Array (Option Value)}
    (a_lies_in : PySem.W.nsIn K mainGlobals "lies_in" = some (some (.ref f_lies_in))) (l_lies_in : K.lookup f_lies_in = some ⟨oc_lies_in, od_lies_in, .func (PySem.W.fnOf "lies_in" "lies_in" (defArgs s_lies_in) (defBody s_lies_in) (defScope s_lies_in) .none kV_lies_in dc_lies_in pm_lies_in an_lies_in cd_lies_in ct_lies_in), sl_lies_in⟩) (c_lies_in : PySem.W.codeIn K cd_lies_in "lies_in" = true) (k_lies_in : PySem.W.keepIn K (.ref f_lies_in) = true)
    {f_is_small : Addr} {oc_is_small kV_is_small dc_is_small pm_is_small cd_is_small ct_is_small : Value} {od_is_small an_is_small : Option Addr} {sl_is_small : Array (Option Value)}
    (a_is_small : PySem.W.nsIn K mainGlobals "is_small" = some (some (.ref f_is_small))) (l_is_small : K.lookup f_is_small = some ⟨oc_is_small, od_is_small, .func (PySem.W.fnOf "is_small" "is_small" (defArgs s_is_small) (defBody s_is_small) (defScope s_is_small) .none kV_is_small dc_is_small pm_is_small an_is_small cd_is_small ct_is_small), sl_is_small⟩) (c_is_small : PySem.W.codeIn K cd_is_small "is_small" = true) (k_is_small : PySem.W.keepIn K (.ref f_is_small) = true)
    {f_is_tagged : Addr} {oc_is_tagged kV_is_tagged dc_is_tagged pm_is_tagged cd_is_tagged ct_is_tagged : Value} {od_is_tagged an_is_tagged : Option Addr} {sl_is_tagged : Array (Option Value)}
    (a_is_tagged : PySem.W.nsIn K mainGlobals "is_tagged" = some (some (.ref f_is_tagged))) (l_is_tagged : K.lookup f_is_tagged = some ⟨oc_is_tagged, od_is_tagged, .func (PySem.W.fnOf "is_tagged" "is_tagged" (defArgs s_is_tagged) (defBody s_is_tagged) (defScope s_is_tagged) .none kV_is_tagged dc_is_tagged pm_is_tagged an_is_tagged cd_is_tagged ct_is_tagged), sl_is_tagged⟩) (c_is_tagged : PySem.W.codeIn K cd_is_tagged "is_tagged" = true) (k_is_tagged : PySem.W.keepIn K (.ref f_is_tagged) = true)
    {f_are_cases : Addr} {oc_are_cases kV_are_cases dc_are_cases pm_are_cases cd_are_cases ct_are_cases : Value} {od_are_cases an_are_cases : Option Addr} {sl_are_cases : Array (Option Value)}
    (a_are_cases : PySem.W.nsIn K mainGlobals "are_cases" = some (some (.ref f_are_cases))) (l_are_cases : K.lookup f_are_cases = some ⟨oc_are_cases, od_are_cases, .func (PySem.W.fnOf "are_cases" "are_cases" (defArgs s_are_cases) (defBody s_are_cases) (defScope s_are_cases) .none kV_are_cases dc_are_cases pm_are_cases an_are_cases cd_are_cases ct_are_cases), sl_are_cases⟩) (c_are_cases : PySem.W.codeIn K cd_are_cases "are_cases" = true) (k_are_cases : PySem.W.keepIn K (.ref f_are_cases) = true)
    {f_is_expression : Addr} {oc_is_expression kV_is_expression dc_is_expression pm_is_expression cd_is_expression ct_is_expression : Value} {od_is_expression an_is_expression : Option Addr} {sl_is_expression : Array (Option Value)}
    (a_is_expression : PySem.W.nsIn K mainGlobals "is_expression" = some (some (.ref f_is_expression))) (l_is_expression : K.lookup f_is_expression = some ⟨oc_is_expression, od_is_expression, .func (PySem.W.fnOf "is_expression" "is_expression" (defArgs s_is_expression) (defBody s_is_expression) (defScope s_is_expression) .none kV_is_expression dc_is_expression pm_is_expression an_is_expression cd_is_expression ct_is_expression), sl_is_expression⟩) (c_is_expression : PySem.W.codeIn K cd_is_expression "is_expression" = true) (k_is_expression : PySem.W.keepIn K (.ref f_is_expression) = true)
    {f_is_range : Addr} {oc_is_range kV_is_range dc_is_range pm_is_range cd_is_range ct_is_range : Value} {od_is_range an_is_range : Option Addr} {sl_is_range : Array (Option Value)}
    (a_is_range : PySem.W.nsIn K mainGlobals "is_range" = some (some (.ref f_is_range))) (l_is_range : K.lookup f_is_range = some ⟨oc_is_range, od_is_range, .func (PySem.W.fnOf "is_range" "is_range" (defArgs s_is_range) (defBody s_is_range) (defScope s_is_range) .none kV_is_range dc_is_range pm_is_range an_is_range cd_is_range ct_is_range), sl_is_range⟩) (c_is_range : PySem.W.codeIn K cd_is_range "is_range" = true) (k_is_range : PySem.W.keepIn K (.ref f_is_range) = true)
    {f_is_input : Addr} {oc_is_input kV_is_input dc_is_input pm_is_input cd_is_input ct_is_input : Value} {od_is_input an_is_input : Option Addr} {sl_is_input : Array (Option Value)}
    (a_is_input : PySem.W.nsIn K mainGlobals "is_input" = some (some (.ref f_is_input))) (l_is_input : K.lookup f_is_input = some ⟨oc_is_input, od_is_input, .func (PySem.W.fnOf "is_input" "is_input" (defArgs s_is_input) (defBody s_is_input) (defScope s_is_input) .none kV_is_input dc_is_input pm_is_input an_is_input cd_is_input ct_is_input), sl_is_input⟩) (c_is_input : PySem.W.codeIn K cd_is_input "is_input" = true) (k_is_input : PySem.W.keepIn K (.ref f_is_input) = true)
    {f_parts_of : Addr} {oc_parts_of kV_parts_of dc_parts_of pm_parts_of cd_parts_of ct_parts_of : Value} {od_parts_of an_parts_of : Option Addr} {sl_parts_of : Array (Option Value)}
    (a_parts_of : PySem.W.nsIn K mainGlobals "parts_of" = some (some (.ref f_parts_of))) (l_parts_of : K.lookup f_parts_of = some ⟨oc_parts_of, od_parts_of, .func (PySem.W.fnOf "parts_of" "parts_of" (defArgs s_parts_of) (defBody s_parts_of) (defScope s_parts_of) .none kV_parts_of dc_parts_of pm_parts_of an_parts_of cd_parts_of ct_parts_of), sl_parts_of⟩) (c_parts_of : PySem.W.codeIn K cd_parts_of "parts_of" = true) (k_parts_of : PySem.W.keepIn K (.ref f_parts_of) = true)
    {f_has_place : Addr} {oc_has_place kV_has_place dc_has_place pm_has_place cd_has_place ct_has_place : Value} {od_has_place an_has_place : Option Addr} {sl_has_place : Array (Option Value)}
    (a_has_place : PySem.W.nsIn K mainGlobals "has_place" = some (some (.ref f_has_place))) (l_has_place : K.lookup f_has_place = some ⟨oc_has_place, od_has_place, .func (PySem.W.fnOf "has_place" "has_place" (defArgs s_has_place) (defBody s_has_place) (defScope s_has_place) .none kV_has_place dc_has_place pm_has_place an_has_place cd_has_place ct_has_place), sl_has_place⟩) (c_has_place : PySem.W.codeIn K cd_has_place "has_place" = true) (k_has_place : PySem.W.keepIn K (.ref f_has_place) = true)
    {f_is_placeless : Addr} {oc_is_placeless kV_is_placeless dc_is_placeless pm_is_placeless cd_is_placeless ct_is_placeless : Value} {od_is_placeless an_is_placeless : Option Addr} {sl_is_placeless : Array (Option Value)}
    (a_is_placeless : PySem.W.nsIn K mainGlobals "is_placeless" = some (some (.ref f_is_placeless))) (l_is_placeless : K.lookup f_is_placeless = some ⟨oc_is_placeless, od_is_placeless, .func (PySem.W.fnOf "is_placeless" "is_placeless" (defArgs s_is_placeless) (defBody s_is_placeless) (defScope s_is_placeless) .none kV_is_placeless dc_is_placeless pm_is_placeless an_is_placeless cd_is_placeless ct_is_placeless), sl_is_placeless⟩) (c_is_placeless : PySem.W.codeIn K cd_is_placeless "is_placeless" = true) (k_is_placeless : PySem.W.keepIn K (.ref f_is_placeless) = true)
    {f_is_cell : Addr} {oc_is_cell kV_is_cell dc_is_cell pm_is_cell cd_is_cell ct_is_cell : Value} {od_is_cell an_is_cell : Option Addr} {sl_is_cell : Array (Option Value)}
    (a_is_cell : PySem.W.nsIn K mainGlobals "is_cell" = some (some (.ref f_is_cell))) (l_is_cell : K.lookup f_is_cell = some ⟨oc_is_cell, od_is_cell, .func (PySem.W.fnOf "is_cell" "is_cell" (defArgs s_is_cell) (defBody s_is_cell) (defScope s_is_cell) .none kV_is_cell dc_is_cell pm_is_cell an_is_cell cd_is_cell ct_is_cell), sl_is_cell⟩) (c_is_cell : PySem.W.codeIn K cd_is_cell "is_cell" = true) (k_is_cell : PySem.W.keepIn K (.ref f_is_cell) = true)
    {f_is_filled : Addr} {oc_is_filled kV_is_filled dc_is_filled pm_is_filled cd_is_filled ct_is_filled : Value} {od_is_filled an_is_filled : Option Addr} {sl_is_filled : Array (Option Value)}
    (a_is_filled : PySem.W.nsIn K mainGlobals "is_filled" = some (some (.ref f_is_filled))) (l_is_filled : K.lookup f_is_filled = some ⟨oc_is_filled, od_is_filled, .func (PySem.W.fnOf "is_filled" "is_filled" (defArgs s_is_filled) (defBody s_is_filled) (defScope s_is_filled) .none kV_is_filled dc_is_filled pm_is_filled an_is_filled cd_is_filled ct_is_filled), sl_is_filled⟩) (c_is_filled : PySem.W.codeIn K cd_is_filled "is_filled" = true) (k_is_filled : PySem.W.keepIn K (.ref f_is_filled) = true)
    {f_is_sheet : Addr} {oc_is_sheet kV_is_sheet dc_is_sheet pm_is_sheet cd_is_sheet ct_is_sheet : Value} {od_is_sheet an_is_sheet : Option Addr} {sl_is_sheet : Array (Option Value)}
    (a_is_sheet : PySem.W.nsIn K mainGlobals "is_sheet" = some (some (.ref f_is_sheet))) (l_is_sheet : K.lookup f_is_sheet = some ⟨oc_is_sheet, od_is_sheet, .func (PySem.W.fnOf "is_sheet" "is_sheet" (defArgs s_is_sheet) (defBody s_is_sheet) (defScope s_is_sheet) .none kV_is_sheet dc_is_sheet pm_is_sheet an_is_sheet cd_is_sheet ct_is_sheet), sl_is_sheet⟩) (c_is_sheet : PySem.W.codeIn K cd_is_sheet "is_sheet" = true) (k_is_sheet : PySem.W.keepIn K (.ref f_is_sheet) = true)
    {f_law_begun : Addr} {oc_law_begun kV_law_begun dc_law_begun pm_law_begun cd_law_begun ct_law_begun : Value} {od_law_begun an_law_begun : Option Addr} {sl_law_begun : Array (Option Value)}
    (a_law_begun : PySem.W.nsIn K mainGlobals "_law_begun" = some (some (.ref f_law_begun))) (l_law_begun : K.lookup f_law_begun = some ⟨oc_law_begun, od_law_begun, .func (PySem.W.fnOf "_law_begun" "_law_begun" (defArgs s_law_begun) (defBody s_law_begun) (defScope s_law_begun) .none kV_law_begun dc_law_begun pm_law_begun an_law_begun cd_law_begun ct_law_begun), sl_law_begun⟩) (c_law_begun : PySem.W.codeIn K cd_law_begun "_law_begun" = true) (k_law_begun : PySem.W.keepIn K (.ref f_law_begun) = true)
    {f_law_mixed : Addr} {oc_law_mixed kV_law_mixed dc_law_mixed pm_law_mixed cd_law_mixed ct_law_mixed : Value} {od_law_mixed an_law_mixed : Option Addr} {sl_law_mixed : Array (Option Value)}
    (a_law_mixed : PySem.W.nsIn K mainGlobals "_law_mixed" = some (some (.ref f_law_mixed))) (l_law_mixed : K.lookup f_law_mixed = some ⟨oc_law_mixed, od_law_mixed, .func (PySem.W.fnOf "_law_mixed" "_law_mixed" (defArgs s_law_mixed) (defBody s_law_mixed) (defScope s_law_mixed) .none kV_law_mixed dc_law_mixed pm_law_mixed an_law_mixed cd_law_mixed ct_law_mixed), sl_law_mixed⟩) (c_law_mixed : PySem.W.codeIn K cd_law_mixed "_law_mixed" = true) (k_law_mixed : PySem.W.keepIn K (.ref f_law_mixed) = true)
    {f_law_take : Addr} {oc_law_take kV_law_take dc_law_take pm_law_take cd_law_take ct_law_take : Value} {od_law_take an_law_take : Option Addr} {sl_law_take : Array (Option Value)}
    (a_law_take : PySem.W.nsIn K mainGlobals "_law_take" = some (some (.ref f_law_take))) (l_law_take : K.lookup f_law_take = some ⟨oc_law_take, od_law_take, .func (PySem.W.fnOf "_law_take" "_law_take" (defArgs s_law_take) (defBody s_law_take) (defScope s_law_take) .none kV_law_take dc_law_take pm_law_take an_law_take cd_law_take ct_law_take), sl_law_take⟩) (c_law_take : PySem.W.codeIn K cd_law_take "_law_take" = true) (k_law_take : PySem.W.keepIn K (.ref f_law_take) = true)
    {f_law_pick : Addr} {oc_law_pick kV_law_pick dc_law_pick pm_law_pick cd_law_pick ct_law_pick : Value} {od_law_pick an_law_pick : Option Addr} {sl_law_pick : Array (Option Value)}
    (a_law_pick : PySem.W.nsIn K mainGlobals "_law_pick" = some (some (.ref f_law_pick))) (l_law_pick : K.lookup f_law_pick = some ⟨oc_law_pick, od_law_pick, .func (PySem.W.fnOf "_law_pick" "_law_pick" (defArgs s_law_pick) (defBody s_law_pick) (defScope s_law_pick) .none kV_law_pick dc_law_pick pm_law_pick an_law_pick cd_law_pick ct_law_pick), sl_law_pick⟩) (c_law_pick : PySem.W.codeIn K cd_law_pick "_law_pick" = true) (k_law_pick : PySem.W.keepIn K (.ref f_law_pick) = true)
    {f_law_shuffled : Addr} {oc_law_shuffled kV_law_shuffled dc_law_shuffled pm_law_shuffled cd_law_shuffled ct_law_shuffled : Value} {od_law_shuffled an_law_shuffled : Option Addr} {sl_law_shuffled : Array (Option Value)}
    (a_law_shuffled : PySem.W.nsIn K mainGlobals "_law_shuffled" = some (some (.ref f_law_shuffled))) (l_law_shuffled : K.lookup f_law_shuffled = some ⟨oc_law_shuffled, od_law_shuffled, .func (PySem.W.fnOf "_law_shuffled" "_law_shuffled" (defArgs s_law_shuffled) (defBody s_law_shuffled) (defScope s_law_shuffled) .none kV_law_shuffled dc_law_shuffled pm_law_shuffled an_law_shuffled cd_law_shuffled ct_law_shuffled), sl_law_shuffled⟩) (c_law_shuffled : PySem.W.codeIn K cd_law_shuffled "_law_shuffled" = true) (k_law_shuffled : PySem.W.keepIn K (.ref f_law_shuffled) = true)
    {f_law_names : Addr} {oc_law_names kV_law_names dc_law_names pm_law_names cd_law_names ct_law_names : Value} {od_law_names an_law_names : Option Addr} {sl_law_names : Array (Option Value)}
    (a_law_names : PySem.W.nsIn K mainGlobals "_law_names" = some (some (.ref f_law_names))) (l_law_names : K.lookup f_law_names = some ⟨oc_law_names, od_law_names, .func (PySem.W.fnOf "_law_names" "_law_names" (defArgs s_law_names) (defBody s_law_names) (defScope s_law_names) .none kV_law_names dc_law_names pm_law_names an_law_names cd_law_names ct_law_names), sl_law_names⟩) (c_law_names : PySem.W.codeIn K cd_law_names "_law_names" = true) (k_law_names : PySem.W.keepIn K (.ref f_law_names) = true)
    {f_law_any_number : Addr} {oc_law_any_number kV_law_any_number dc_law_any_number pm_law_any_number cd_law_any_number ct_law_any_number : Value} {od_law_any_number an_law_any_number : Option Addr} {sl_law_any_number : Array (Option Value)}
    (a_law_any_number : PySem.W.nsIn K mainGlobals "_law_any_number" = some (some (.ref f_law_any_number))) (l_law_any_number : K.lookup f_law_any_number = some ⟨oc_law_any_number, od_law_any_number, .func (PySem.W.fnOf "_law_any_number" "_law_any_number" (defArgs s_law_any_number) (defBody s_law_any_number) (defScope s_law_any_number) .none kV_law_any_number dc_law_any_number pm_law_any_number an_law_any_number cd_law_any_number ct_law_any_number), sl_law_any_number⟩) (c_law_any_number : PySem.W.codeIn K cd_law_any_number "_law_any_number" = true) (k_law_any_number : PySem.W.keepIn K (.ref f_law_any_number) = true)
    {f_law_any_expression : Addr} {oc_law_any_expression kV_law_any_expression dc_law_any_expression pm_law_any_expression cd_law_any_expression ct_law_any_expression : Value} {od_law_any_expression an_law_any_expression : Option Addr} {sl_law_any_expression : Array (Option Value)}
    (a_law_any_expression : PySem.W.nsIn K mainGlobals "_law_any_expression" = some (some (.ref f_law_any_expression))) (l_law_any_expression : K.lookup f_law_any_expression = some ⟨oc_law_any_expression, od_law_any_expression, .func (PySem.W.fnOf "_law_any_expression" "_law_any_expression" (defArgs s_law_any_expression) (defBody s_law_any_expression) (defScope s_law_any_expression) .none kV_law_any_expression dc_law_any_expression pm_law_any_expression an_law_any_expression cd_law_any_expression ct_law_any_expression), sl_law_any_expression⟩) (c_law_any_expression : PySem.W.codeIn K cd_law_any_expression "_law_any_expression" = true) (k_law_any_expression : PySem.W.keepIn K (.ref f_law_any_expression) = true)
    {f_law_placeless : Addr} {oc_law_placeless kV_law_placeless dc_law_placeless pm_law_placeless cd_law_placeless ct_law_placeless : Value} {od_law_placeless an_law_placeless : Option Addr} {sl_law_placeless : Array (Option Value)}
    (a_law_placeless : PySem.W.nsIn K mainGlobals "_law_placeless" = some (some (.ref f_law_placeless))) (l_law_placeless : K.lookup f_law_placeless = some ⟨oc_law_placeless, od_law_placeless, .func (PySem.W.fnOf "_law_placeless" "_law_placeless" (defArgs s_law_placeless) (defBody s_law_placeless) (defScope s_law_placeless) .none kV_law_placeless dc_law_placeless pm_law_placeless an_law_placeless cd_law_placeless ct_law_placeless), sl_law_placeless⟩) (c_law_placeless : PySem.W.codeIn K cd_law_placeless "_law_placeless" = true) (k_law_placeless : PySem.W.keepIn K (.ref f_law_placeless) = true)
    {f_law_any_cell : Addr} {oc_law_any_cell kV_law_any_cell dc_law_any_cell pm_law_any_cell cd_law_any_cell ct_law_any_cell : Value} {od_law_any_cell an_law_any_cell : Option Addr} {sl_law_any_cell : Array (Option Value)}
    (a_law_any_cell : PySem.W.nsIn K mainGlobals "_law_any_cell" = some (some (.ref f_law_any_cell))) (l_law_any_cell : K.lookup f_law_any_cell = some ⟨oc_law_any_cell, od_law_any_cell, .func (PySem.W.fnOf "_law_any_cell" "_law_any_cell" (defArgs s_law_any_cell) (defBody s_law_any_cell) (defScope s_law_any_cell) .none kV_law_any_cell dc_law_any_cell pm_law_any_cell an_law_any_cell cd_law_any_cell ct_law_any_cell), sl_law_any_cell⟩) (c_law_any_cell : PySem.W.codeIn K cd_law_any_cell "_law_any_cell" = true) (k_law_any_cell : PySem.W.keepIn K (.ref f_law_any_cell) = true)
    {f_law_any_sheet : Addr} {oc_law_any_sheet kV_law_any_sheet dc_law_any_sheet pm_law_any_sheet cd_law_any_sheet ct_law_any_sheet : Value} {od_law_any_sheet an_law_any_sheet : Option Addr} {sl_law_any_sheet : Array (Option Value)}
    (a_law_any_sheet : PySem.W.nsIn K mainGlobals "_law_any_sheet" = some (some (.ref f_law_any_sheet))) (l_law_any_sheet : K.lookup f_law_any_sheet = some ⟨oc_law_any_sheet, od_law_any_sheet, .func (PySem.W.fnOf "_law_any_sheet" "_law_any_sheet" (defArgs s_law_any_sheet) (defBody s_law_any_sheet) (defScope s_law_any_sheet) .none kV_law_any_sheet dc_law_any_sheet pm_law_any_sheet an_law_any_sheet cd_law_any_sheet ct_law_any_sheet), sl_law_any_sheet⟩) (c_law_any_sheet : PySem.W.codeIn K cd_law_any_sheet "_law_any_sheet" = true) (k_law_any_sheet : PySem.W.keepIn K (.ref f_law_any_sheet) = true)
    {f_law_kept : Addr} {oc_law_kept kV_law_kept dc_law_kept pm_law_kept cd_law_kept ct_law_kept : Value} {od_law_kept an_law_kept : Option Addr} {sl_law_kept : Array (Option Value)}
    (a_law_kept : PySem.W.nsIn K mainGlobals "_law_kept" = some (some (.ref f_law_kept))) (l_law_kept : K.lookup f_law_kept = some ⟨oc_law_kept, od_law_kept, .func (PySem.W.fnOf "_law_kept" "_law_kept" (defArgs s_law_kept) (defBody s_law_kept) (defScope s_law_kept) .none kV_law_kept dc_law_kept pm_law_kept an_law_kept cd_law_kept ct_law_kept), sl_law_kept⟩) (c_law_kept : PySem.W.codeIn K cd_law_kept "_law_kept" = true) (k_law_kept : PySem.W.keepIn K (.ref f_law_kept) = true)
    {f_law_is_small : Addr} {oc_law_is_small kV_law_is_small dc_law_is_small pm_law_is_small cd_law_is_small ct_law_is_small : Value} {od_law_is_small an_law_is_small : Option Addr} {sl_law_is_small : Array (Option Value)}
    (a_law_is_small : PySem.W.nsIn K mainGlobals "_law_is_small" = some (some (.ref f_law_is_small))) (l_law_is_small : K.lookup f_law_is_small = some ⟨oc_law_is_small, od_law_is_small, .func (PySem.W.fnOf "_law_is_small" "_law_is_small" (defArgs s_law_is_small) (defBody s_law_is_small) (defScope s_law_is_small) .none kV_law_is_small dc_law_is_small pm_law_is_small an_law_is_small cd_law_is_small ct_law_is_small), sl_law_is_small⟩) (c_law_is_small : PySem.W.codeIn K cd_law_is_small "_law_is_small" = true) (k_law_is_small : PySem.W.keepIn K (.ref f_law_is_small) = true)
    {f_law_is_name : Addr} {oc_law_is_name kV_law_is_name dc_law_is_name pm_law_is_name cd_law_is_name ct_law_is_name : Value} {od_law_is_name an_law_is_name : Option Addr} {sl_law_is_name : Array (Option Value)}
    (a_law_is_name : PySem.W.nsIn K mainGlobals "_law_is_name" = some (some (.ref f_law_is_name))) (l_law_is_name : K.lookup f_law_is_name = some ⟨oc_law_is_name, od_law_is_name, .func (PySem.W.fnOf "_law_is_name" "_law_is_name" (defArgs s_law_is_name) (defBody s_law_is_name) (defScope s_law_is_name) .none kV_law_is_name dc_law_is_name pm_law_is_name an_law_is_name cd_law_is_name ct_law_is_name), sl_law_is_name⟩) (c_law_is_name : PySem.W.codeIn K cd_law_is_name "_law_is_name" = true) (k_law_is_name : PySem.W.keepIn K (.ref f_law_is_name) = true)
    {f_law_table : Addr} {oc_law_table kV_law_table dc_law_table pm_law_table cd_law_table ct_law_table : Value} {od_law_table an_law_table : Option Addr} {sl_law_table : Array (Option Value)}
    (a_law_table : PySem.W.nsIn K mainGlobals "_law_table" = some (some (.ref f_law_table))) (l_law_table : K.lookup f_law_table = some ⟨oc_law_table, od_law_table, .func (PySem.W.fnOf "_law_table" "_law_table" (defArgs s_law_table) (defBody s_law_table) (defScope s_law_table) .none kV_law_table dc_law_table pm_law_table an_law_table cd_law_table ct_law_table), sl_law_table⟩) (c_law_table : PySem.W.codeIn K cd_law_table "_law_table" = true) (k_law_table : PySem.W.keepIn K (.ref f_law_table) = true)
    {f_law_is_free : Addr} {oc_law_is_free kV_law_is_free dc_law_is_free pm_law_is_free cd_law_is_free ct_law_is_free : Value} {od_law_is_free an_law_is_free : Option Addr} {sl_law_is_free : Array (Option Value)}
    (a_law_is_free : PySem.W.nsIn K mainGlobals "_law_is_free" = some (some (.ref f_law_is_free))) (l_law_is_free : K.lookup f_law_is_free = some ⟨oc_law_is_free, od_law_is_free, .func (PySem.W.fnOf "_law_is_free" "_law_is_free" (defArgs s_law_is_free) (defBody s_law_is_free) (defScope s_law_is_free) .none kV_law_is_free dc_law_is_free pm_law_is_free an_law_is_free cd_law_is_free ct_law_is_free), sl_law_is_free⟩) (c_law_is_free : PySem.W.codeIn K cd_law_is_free "_law_is_free" = true) (k_law_is_free : PySem.W.keepIn K (.ref f_law_is_free) = true)
    {f_law_rises : Addr} {oc_law_rises kV_law_rises dc_law_rises pm_law_rises cd_law_rises ct_law_rises : Value} {od_law_rises an_law_rises : Option Addr} {sl_law_rises : Array (Option Value)}
    (a_law_rises : PySem.W.nsIn K mainGlobals "_law_rises" = some (some (.ref f_law_rises))) (l_law_rises : K.lookup f_law_rises = some ⟨oc_law_rises, od_law_rises, .func (PySem.W.fnOf "_law_rises" "_law_rises" (defArgs s_law_rises) (defBody s_law_rises) (defScope s_law_rises) .none kV_law_rises dc_law_rises pm_law_rises an_law_rises cd_law_rises ct_law_rises), sl_law_rises⟩) (c_law_rises : PySem.W.codeIn K cd_law_rises "_law_rises" = true) (k_law_rises : PySem.W.keepIn K (.ref f_law_rises) = true)
    {f_law_all_fit : Addr} {oc_law_all_fit kV_law_all_fit dc_law_all_fit pm_law_all_fit cd_law_all_fit ct_law_all_fit : Value} {od_law_all_fit an_law_all_fit : Option Addr} {sl_law_all_fit : Array (Option Value)}
    (a_law_all_fit : PySem.W.nsIn K mainGlobals "_law_all_fit" = some (some (.ref f_law_all_fit))) (l_law_all_fit : K.lookup f_law_all_fit = some ⟨oc_law_all_fit, od_law_all_fit, .func (PySem.W.fnOf "_law_all_fit" "_law_all_fit" (defArgs s_law_all_fit) (defBody s_law_all_fit) (defScope s_law_all_fit) .none kV_law_all_fit dc_law_all_fit pm_law_all_fit an_law_all_fit cd_law_all_fit ct_law_all_fit), sl_law_all_fit⟩) (c_law_all_fit : PySem.W.codeIn K cd_law_all_fit "_law_all_fit" = true) (k_law_all_fit : PySem.W.keepIn K (.ref f_law_all_fit) = true)
    {f_law_fits : Addr} {oc_law_fits kV_law_fits dc_law_fits pm_law_fits cd_law_fits ct_law_fits : Value} {od_law_fits an_law_fits : Option Addr} {sl_law_fits : Array (Option Value)}
    (a_law_fits : PySem.W.nsIn K mainGlobals "_law_fits" = some (some (.ref f_law_fits))) (l_law_fits : K.lookup f_law_fits = some ⟨oc_law_fits, od_law_fits, .func (PySem.W.fnOf "_law_fits" "_law_fits" (defArgs s_law_fits) (defBody s_law_fits) (defScope s_law_fits) .none kV_law_fits dc_law_fits pm_law_fits an_law_fits cd_law_fits ct_law_fits), sl_law_fits⟩) (c_law_fits : PySem.W.codeIn K cd_law_fits "_law_fits" = true) (k_law_fits : PySem.W.keepIn K (.ref f_law_fits) = true)
    {f_law_odd : Addr} {oc_law_odd kV_law_odd dc_law_odd pm_law_odd cd_law_odd ct_law_odd : Value} {od_law_odd an_law_odd : Option Addr} {sl_law_odd : Array (Option Value)}
    (a_law_odd : PySem.W.nsIn K mainGlobals "_law_odd" = some (some (.ref f_law_odd))) (l_law_odd : K.lookup f_law_odd = some ⟨oc_law_odd, od_law_odd, .func (PySem.W.fnOf "_law_odd" "_law_odd" (defArgs s_law_odd) (defBody s_law_odd) (defScope s_law_odd) .none kV_law_odd dc_law_odd pm_law_odd an_law_odd cd_law_odd ct_law_odd), sl_law_odd⟩) (c_law_odd : PySem.W.codeIn K cd_law_odd "_law_odd" = true) (k_law_odd : PySem.W.keepIn K (.ref f_law_odd) = true)
    {f_law_spoilt : Addr} {oc_law_spoilt kV_law_spoilt dc_law_spoilt pm_law_spoilt cd_law_spoilt ct_law_spoilt : Value} {od_law_spoilt an_law_spoilt : Option Addr} {sl_law_spoilt : Array (Option Value)}
    (a_law_spoilt : PySem.W.nsIn K mainGlobals "_law_spoilt" = some (some (.ref f_law_spoilt))) (l_law_spoilt : K.lookup f_law_spoilt = some ⟨oc_law_spoilt, od_law_spoilt, .func (PySem.W.fnOf "_law_spoilt" "_law_spoilt" (defArgs s_law_spoilt) (defBody s_law_spoilt) (defScope s_law_spoilt) .none kV_law_spoilt dc_law_spoilt pm_law_spoilt an_law_spoilt cd_law_spoilt ct_law_spoilt), sl_law_spoilt⟩) (c_law_spoilt : PySem.W.codeIn K cd_law_spoilt "_law_spoilt" = true) (k_law_spoilt : PySem.W.keepIn K (.ref f_law_spoilt) = true)
    {f_law : Addr} {oc_law kV_law dc_law pm_law cd_law ct_law : Value} {od_law an_law : Option Addr} {sl_law : Array (Option Value)}
    (a_law : PySem.W.nsIn K mainGlobals "law" = some (some (.ref f_law))) (l_law : K.lookup f_law = some ⟨oc_law, od_law, .func (PySem.W.fnOf "law" "law" (defArgs s_law) (defBody s_law) (defScope s_law) .none kV_law dc_law pm_law an_law cd_law ct_law), sl_law⟩) (c_law : PySem.W.codeIn K cd_law "law" = true) (k_law : PySem.W.keepIn K (.ref f_law) = true)
    (ne0 : [f_is_input, f_is_cell].Nodup)
    (ne1 : [f_is_expression, f_is_cell, f_is_sheet].Nodup)
    (ne2 : [f_is_expression, f_is_cell, f_is_sheet].Nodup)
    {t_KEPT : Addr} {u_KEPT : Option Addr} {i_KEPT : Array Value} {n_KEPT : Nat} {sl_KEPT : Array (Option Value)} (a_KEPT : PySem.W.nsIn K mainGlobals "KEPT" = some (some (.ref t_KEPT))) (l_KEPT : K.lookup t_KEPT = some ⟨.type "tuple", u_KEPT, .seq i_KEPT n_KEPT, sl_KEPT⟩) (z_KEPT : Vals [.str "and", .str "cases", .str "cell", .str "else", .str "fewest", .str "fork", .str "from", .str "greatest", .str "if", .str "input", .str "leaf", .str "least", .str "most", .str "not", .str "of", .str "or", .str "place", .str "row", .str "settle", .str "start", .str "sum", .str "then", .str "to"] i_KEPT.toList) (h_KEPT : i_KEPT.size ≤ 1000)
    {t_OVER_ROWS : Addr} {u_OVER_ROWS : Option Addr} {i_OVER_ROWS : Array Value} {n_OVER_ROWS : Nat} {sl_OVER_ROWS : Array (Option Value)} (a_OVER_ROWS : PySem.W.nsIn K mainGlobals "OVER_ROWS" = some (some (.ref t_OVER_ROWS))) (l_OVER_ROWS : K.lookup t_OVER_ROWS = some ⟨.type "tuple", u_OVER_ROWS, .seq i_OVER_ROWS n_OVER_ROWS, sl_OVER_ROWS⟩) (z_OVER_ROWS : Vals [.str "sum", .str "fewest", .str "most"] i_OVER_ROWS.toList) (h_OVER_ROWS : i_OVER_ROWS.size ≤ 1000)
    {t_PAIRS : Addr} {u_PAIRS : Option Addr} {i_PAIRS : Array Value} {n_PAIRS : Nat} {sl_PAIRS : Array (Option Value)} (a_PAIRS : PySem.W.nsIn K mainGlobals "PAIRS" = some (some (.ref t_PAIRS))) (l_PAIRS : K.lookup t_PAIRS = some ⟨.type "tuple", u_PAIRS, .seq i_PAIRS n_PAIRS, sl_PAIRS⟩) (z_PAIRS : Vals [.str "plus", .str "minus", .str "times", .str "least", .str "greatest", .str "less", .str "atmost", .str "same", .str "and", .str "or"] i_PAIRS.toList) (h_PAIRS : i_PAIRS.size ≤ 1000)
    {t_SMALL : Value} (a_SMALL : PySem.W.nsIn K mainGlobals "SMALL" = some (some t_SMALL)) (r_SMALL : RelV (.str "abcdefghijklmnopqrstuvwxyz") t_SMALL)
    (b_abs : PySem.W.nsIn K mainGlobals "abs" = some none)
    (b_bool : PySem.W.nsIn K mainGlobals "bool" = some none)
    (b_enumerate : PySem.W.nsIn K mainGlobals "enumerate" = some none)
    (b_int : PySem.W.nsIn K mainGlobals "int" = some none)
    (b_isinstance : PySem.W.nsIn K mainGlobals "isinstance" = some none)
    (b_len : PySem.W.nsIn K mainGlobals "len" = some none)
    (b_list : PySem.W.nsIn K mainGlobals "list" = some none)
    (b_min : PySem.W.nsIn K mainGlobals "min" = some none)
    (b_range : PySem.W.nsIn K mainGlobals "range" = some none)
    (b_repr : PySem.W.nsIn K mainGlobals "repr" = some none)
    (b_str : PySem.W.nsIn K mainGlobals "str" = some none)
    (b_tuple : PySem.W.nsIn K mainGlobals "tuple" = some none)
    : ∃ fd : FuncData, (∀ (s : Shared) (u : Value), BindsTo s fd ⟨[u], []⟩ [("script", u)]) ∧ ∀ base : Heap, K.In base → base.Ns mainGlobals mg → Quiet P w K mg base (L2.CX P w) 173 fa fd ["script"] (spLaw K) := by
  have e := hfa.symm.trans (PySem.W.mg_of X G a_law)
  cases e
  let A : Ad := {
    f_is_name := f_is_name
    d_is_name := PySem.W.fnOf "is_name" "is_name" (defArgs s_is_name) (defBody s_is_name) (defScope s_is_name) .none kV_is_name dc_is_name pm_is_name an_is_name cd_is_name ct_is_name
    f_is_int := f_is_int
    d_is_int := PySem.W.fnOf "is_int" "is_int" (defArgs s_is_int) (defBody s_is_int) (defScope s_is_int) .none kV_is_int dc_is_int pm_is_int an_is_int cd_is_int ct_is_int
    f_lies_in := f_lies_in
    d_lies_in := PySem.W.fnOf "lies_in" "lies_in" (defArgs s_lies_in) (defBody s_lies_in) (defScope s_lies_in) .none kV_lies_in dc_lies_in pm_lies_in an_lies_in cd_lies_in ct_lies_in
    f_is_small := f_is_small
    d_is_small := PySem.W.fnOf "is_small" "is_small" (defArgs s_is_small) (defBody s_is_small) (defScope s_is_small) .none kV_is_small dc_is_small pm_is_small an_is_small cd_is_small ct_is_small
    f_is_tagged := f_is_tagged
    d_is_tagged := PySem.W.fnOf "is_tagged" "is_tagged" (defArgs s_is_tagged) (defBody s_is_tagged) (defScope s_is_tagged) .none kV_is_tagged dc_is_tagged pm_is_tagged an_is_tagged cd_is_tagged ct_is_tagged
    f_are_cases := f_are_cases
    d_are_cases := PySem.W.fnOf "are_cases" "are_cases" (defArgs s_are_cases) (defBody s_are_cases) (defScope s_are_cases) .none kV_are_cases dc_are_cases pm_are_cases an_are_cases cd_are_cases ct_are_cases
    f_is_expression := f_is_expression
    d_is_expression := PySem.W.fnOf "is_expression" "is_expression" (defArgs s_is_expression) (defBody s_is_expression) (defScope s_is_expression) .none kV_is_expression dc_is_expression pm_is_expression an_is_expression cd_is_expression ct_is_expression
    f_is_range := f_is_range
    d_is_range := PySem.W.fnOf "is_range" "is_range" (defArgs s_is_range) (defBody s_is_range) (defScope s_is_range) .none kV_is_range dc_is_range pm_is_range an_is_range cd_is_range ct_is_range
    f_is_input := f_is_input
    d_is_input := PySem.W.fnOf "is_input" "is_input" (defArgs s_is_input) (defBody s_is_input) (defScope s_is_input) .none kV_is_input dc_is_input pm_is_input an_is_input cd_is_input ct_is_input
    f_parts_of := f_parts_of
    d_parts_of := PySem.W.fnOf "parts_of" "parts_of" (defArgs s_parts_of) (defBody s_parts_of) (defScope s_parts_of) .none kV_parts_of dc_parts_of pm_parts_of an_parts_of cd_parts_of ct_parts_of
    f_has_place := f_has_place
    d_has_place := PySem.W.fnOf "has_place" "has_place" (defArgs s_has_place) (defBody s_has_place) (defScope s_has_place) .none kV_has_place dc_has_place pm_has_place an_has_place cd_has_place ct_has_place
    f_is_placeless := f_is_placeless
    d_is_placeless := PySem.W.fnOf "is_placeless" "is_placeless" (defArgs s_is_placeless) (defBody s_is_placeless) (defScope s_is_placeless) .none kV_is_placeless dc_is_placeless pm_is_placeless an_is_placeless cd_is_placeless ct_is_placeless
    f_is_cell := f_is_cell
    d_is_cell := PySem.W.fnOf "is_cell" "is_cell" (defArgs s_is_cell) (defBody s_is_cell) (defScope s_is_cell) .none kV_is_cell dc_is_cell pm_is_cell an_is_cell cd_is_cell ct_is_cell
    f_is_filled := f_is_filled
    d_is_filled := PySem.W.fnOf "is_filled" "is_filled" (defArgs s_is_filled) (defBody s_is_filled) (defScope s_is_filled) .none kV_is_filled dc_is_filled pm_is_filled an_is_filled cd_is_filled ct_is_filled
    f_is_sheet := f_is_sheet
    d_is_sheet := PySem.W.fnOf "is_sheet" "is_sheet" (defArgs s_is_sheet) (defBody s_is_sheet) (defScope s_is_sheet) .none kV_is_sheet dc_is_sheet pm_is_sheet an_is_sheet cd_is_sheet ct_is_sheet
    f_law_begun := f_law_begun
    d_law_begun := PySem.W.fnOf "_law_begun" "_law_begun" (defArgs s_law_begun) (defBody s_law_begun) (defScope s_law_begun) .none kV_law_begun dc_law_begun pm_law_begun an_law_begun cd_law_begun ct_law_begun
    f_law_mixed := f_law_mixed
    d_law_mixed := PySem.W.fnOf "_law_mixed" "_law_mixed" (defArgs s_law_mixed) (defBody s_law_mixed) (defScope s_law_mixed) .none kV_law_mixed dc_law_mixed pm_law_mixed an_law_mixed cd_law_mixed ct_law_mixed
    f_law_take := f_law_take
    d_law_take := PySem.W.fnOf "_law_take" "_law_take" (defArgs s_law_take) (defBody s_law_take) (defScope s_law_take) .none kV_law_take dc_law_take pm_law_take an_law_take cd_law_take ct_law_take
    f_law_pick := f_law_pick
    d_law_pick := PySem.W.fnOf "_law_pick" "_law_pick" (defArgs s_law_pick) (defBody s_law_pick) (defScope s_law_pick) .none kV_law_pick dc_law_pick pm_law_pick an_law_pick cd_law_pick ct_law_pick
    f_law_shuffled := f_law_shuffled
    d_law_shuffled := PySem.W.fnOf "_law_shuffled" "_law_shuffled" (defArgs s_law_shuffled) (defBody s_law_shuffled) (defScope s_law_shuffled) .none kV_law_shuffled dc_law_shuffled pm_law_shuffled an_law_shuffled cd_law_shuffled ct_law_shuffled
    f_law_names := f_law_names
    d_law_names := PySem.W.fnOf "_law_names" "_law_names" (defArgs s_law_names) (defBody s_law_names) (defScope s_law_names) .none kV_law_names dc_law_names pm_law_names an_law_names cd_law_names ct_law_names
    f_law_any_number := f_law_any_number
    d_law_any_number := PySem.W.fnOf "_law_any_number" "_law_any_number" (defArgs s_law_any_number) (defBody s_law_any_number) (defScope s_law_any_number) .none kV_law_any_number dc_law_any_number pm_law_any_number an_law_any_number cd_law_any_number ct_law_any_number
    f_law_any_expression := f_law_any_expression
    d_law_any_expression := PySem.W.fnOf "_law_any_expression" "_law_any_expression" (defArgs s_law_any_expression) (defBody s_law_any_expression) (defScope s_law_any_expression) .none kV_law_any_expression dc_law_any_expression pm_law_any_expression an_law_any_expression cd_law_any_expression ct_law_any_expression
    f_law_placeless := f_law_placeless
    d_law_placeless := PySem.W.fnOf "_law_placeless" "_law_placeless" (defArgs s_law_placeless) (defBody s_law_placeless) (defScope s_law_placeless) .none kV_law_placeless dc_law_placeless pm_law_placeless an_law_placeless cd_law_placeless ct_law_placeless
    f_law_any_cell := f_law_any_cell
    d_law_any_cell := PySem.W.fnOf "_law_any_cell" "_law_any_cell" (defArgs s_law_any_cell) (defBody s_law_any_cell) (defScope s_law_any_cell) .none kV_law_any_cell dc_law_any_cell pm_law_any_cell an_law_any_cell cd_law_any_cell ct_law_any_cell
    f_law_any_sheet := f_law_any_sheet
    d_law_any_sheet := PySem.W.fnOf "_law_any_sheet" "_law_any_sheet" (defArgs s_law_any_sheet) (defBody s_law_any_sheet) (defScope s_law_any_sheet) .none kV_law_any_sheet dc_law_any_sheet pm_law_any_sheet an_law_any_sheet cd_law_any_sheet ct_law_any_sheet
    f_law_kept := f_law_kept
    d_law_kept := PySem.W.fnOf "_law_kept" "_law_kept" (defArgs s_law_kept) (defBody s_law_kept) (defScope s_law_kept) .none kV_law_kept dc_law_kept pm_law_kept an_law_kept cd_law_kept ct_law_kept
    f_law_is_small := f_law_is_small
    d_law_is_small := PySem.W.fnOf "_law_is_small" "_law_is_small" (defArgs s_law_is_small) (defBody s_law_is_small) (defScope s_law_is_small) .none kV_law_is_small dc_law_is_small pm_law_is_small an_law_is_small cd_law_is_small ct_law_is_small
    f_law_is_name := f_law_is_name
    d_law_is_name := PySem.W.fnOf "_law_is_name" "_law_is_name" (defArgs s_law_is_name) (defBody s_law_is_name) (defScope s_law_is_name) .none kV_law_is_name dc_law_is_name pm_law_is_name an_law_is_name cd_law_is_name ct_law_is_name
    f_law_table := f_law_table
    d_law_table := PySem.W.fnOf "_law_table" "_law_table" (defArgs s_law_table) (defBody s_law_table) (defScope s_law_table) .none kV_law_table dc_law_table pm_law_table an_law_table cd_law_table ct_law_table
    f_law_is_free := f_law_is_free
    d_law_is_free := PySem.W.fnOf "_law_is_free" "_law_is_free" (defArgs s_law_is_free) (defBody s_law_is_free) (defScope s_law_is_free) .none kV_law_is_free dc_law_is_free pm_law_is_free an_law_is_free cd_law_is_free ct_law_is_free
    f_law_rises := f_law_rises
    d_law_rises := PySem.W.fnOf "_law_rises" "_law_rises" (defArgs s_law_rises) (defBody s_law_rises) (defScope s_law_rises) .none kV_law_rises dc_law_rises pm_law_rises an_law_rises cd_law_rises ct_law_rises
    f_law_all_fit := f_law_all_fit
    d_law_all_fit := PySem.W.fnOf "_law_all_fit" "_law_all_fit" (defArgs s_law_all_fit) (defBody s_law_all_fit) (defScope s_law_all_fit) .none kV_law_all_fit dc_law_all_fit pm_law_all_fit an_law_all_fit cd_law_all_fit ct_law_all_fit
    f_law_fits := f_law_fits
    d_law_fits := PySem.W.fnOf "_law_fits" "_law_fits" (defArgs s_law_fits) (defBody s_law_fits) (defScope s_law_fits) .none kV_law_fits dc_law_fits pm_law_fits an_law_fits cd_law_fits ct_law_fits
    f_law_odd := f_law_odd
    d_law_odd := PySem.W.fnOf "_law_odd" "_law_odd" (defArgs s_law_odd) (defBody s_law_odd) (defScope s_law_odd) .none kV_law_odd dc_law_odd pm_law_odd an_law_odd cd_law_odd ct_law_odd
    f_law_spoilt := f_law_spoilt
    d_law_spoilt := PySem.W.fnOf "_law_spoilt" "_law_spoilt" (defArgs s_law_spoilt) (defBody s_law_spoilt) (defScope s_law_spoilt) .none kV_law_spoilt dc_law_spoilt pm_law_spoilt an_law_spoilt cd_law_spoilt ct_law_spoilt
    f_law := fa
    d_law := PySem.W.fnOf "law" "law" (defArgs s_law) (defBody s_law) (defScope s_law) .none kV_law dc_law pm_law an_law cd_law ct_law
    cls := fun _ => fa
    nm := fun _ => none }
  have T : Txt K mg A := {
    F_is_name := fun_mk (st := s_is_name) l_is_name c_is_name k_is_name
    g_is_name := PySem.W.mg_of X G a_is_name
    b_is_name := (fun_mk (st := s_is_name) l_is_name c_is_name k_is_name).binds (ps := ["thing"]) fun _ _ _ _ _ _ us hl => match us, hl with | [_], _ => rfl
    F_is_int := fun_mk (st := s_is_int) l_is_int c_is_int k_is_int
    g_is_int := PySem.W.mg_of X G a_is_int
    b_is_int := (fun_mk (st := s_is_int) l_is_int c_is_int k_is_int).binds (ps := ["thing"]) fun _ _ _ _ _ _ us hl => match us, hl with | [_], _ => rfl
    F_lies_in := fun_mk (st := s_lies_in) l_lies_in c_lies_in k_lies_in
    g_lies_in := PySem.W.mg_of X G a_lies_in
    b_lies_in := (fun_mk (st := s_lies_in) l_lies_in c_lies_in k_lies_in).binds (ps := ["thing", "low", "high"]) fun _ _ _ _ _ _ us hl => match us, hl with | [_, _, _], _ => rfl
    F_is_small := fun_mk (st := s_is_small) l_is_small c_is_small k_is_small
    g_is_small := PySem.W.mg_of X G a_is_small
    b_is_small := (fun_mk (st := s_is_small) l_is_small c_is_small k_is_small).binds (ps := ["thing"]) fun _ _ _ _ _ _ us hl => match us, hl with | [_], _ => rfl
    F_is_tagged := fun_mk (st := s_is_tagged) l_is_tagged c_is_tagged k_is_tagged
    g_is_tagged := PySem.W.mg_of X G a_is_tagged
    b_is_tagged := (fun_mk (st := s_is_tagged) l_is_tagged c_is_tagged k_is_tagged).binds (ps := ["thing", "sizes"]) fun _ _ _ _ _ _ us hl => match us, hl with | [_, _], _ => rfl
    F_are_cases := fun_mk (st := s_are_cases) l_are_cases c_are_cases k_are_cases
    g_are_cases := PySem.W.mg_of X G a_are_cases
    b_are_cases := (fun_mk (st := s_are_cases) l_are_cases c_are_cases k_are_cases).binds (ps := ["thing"]) fun _ _ _ _ _ _ us hl => match us, hl with | [_], _ => rfl
    F_is_expression := fun_mk (st := s_is_expression) l_is_expression c_is_expression k_is_expression
    g_is_expression := PySem.W.mg_of X G a_is_expression
    b_is_expression := (fun_mk (st := s_is_expression) l_is_expression c_is_expression k_is_expression).binds (ps := ["thing"]) fun _ _ _ _ _ _ us hl => match us, hl with | [_], _ => rfl
    F_is_range := fun_mk (st := s_is_range) l_is_range c_is_range k_is_range
    g_is_range := PySem.W.mg_of X G a_is_range
    b_is_range := (fun_mk (st := s_is_range) l_is_range c_is_range k_is_range).binds (ps := ["low", "high"]) fun _ _ _ _ _ _ us hl => match us, hl with | [_, _], _ => rfl
    F_is_input := fun_mk (st := s_is_input) l_is_input c_is_input k_is_input
    g_is_input := PySem.W.mg_of X G a_is_input
    b_is_input := (fun_mk (st := s_is_input) l_is_input c_is_input k_is_input).binds (ps := ["thing"]) fun _ _ _ _ _ _ us hl => match us, hl with | [_], _ => rfl
    F_parts_of := fun_mk (st := s_parts_of) l_parts_of c_parts_of k_parts_of
    g_parts_of := PySem.W.mg_of X G a_parts_of
    b_parts_of := (fun_mk (st := s_parts_of) l_parts_of c_parts_of k_parts_of).binds (ps := ["tree"]) fun _ _ _ _ _ _ us hl => match us, hl with | [_], _ => rfl
    F_has_place := fun_mk (st := s_has_place) l_has_place c_has_place k_has_place
    g_has_place := PySem.W.mg_of X G a_has_place
    b_has_place := (fun_mk (st := s_has_place) l_has_place c_has_place k_has_place).binds (ps := ["tree"]) fun _ _ _ _ _ _ us hl => match us, hl with | [_], _ => rfl
    F_is_placeless := fun_mk (st := s_is_placeless) l_is_placeless c_is_placeless k_is_placeless
    g_is_placeless := PySem.W.mg_of X G a_is_placeless
    b_is_placeless := (fun_mk (st := s_is_placeless) l_is_placeless c_is_placeless k_is_placeless).binds (ps := ["thing"]) fun _ _ _ _ _ _ us hl => match us, hl with | [_], _ => rfl
    F_is_cell := fun_mk (st := s_is_cell) l_is_cell c_is_cell k_is_cell
    g_is_cell := PySem.W.mg_of X G a_is_cell
    b_is_cell := (fun_mk (st := s_is_cell) l_is_cell c_is_cell k_is_cell).binds (ps := ["thing"]) fun _ _ _ _ _ _ us hl => match us, hl with | [_], _ => rfl
    F_is_filled := fun_mk (st := s_is_filled) l_is_filled c_is_filled k_is_filled
    g_is_filled := PySem.W.mg_of X G a_is_filled
    b_is_filled := (fun_mk (st := s_is_filled) l_is_filled c_is_filled k_is_filled).binds (ps := ["thing", "judge"]) fun _ _ _ _ _ _ us hl => match us, hl with | [_, _], _ => rfl
    F_is_sheet := fun_mk (st := s_is_sheet) l_is_sheet c_is_sheet k_is_sheet
    g_is_sheet := PySem.W.mg_of X G a_is_sheet
    b_is_sheet := (fun_mk (st := s_is_sheet) l_is_sheet c_is_sheet k_is_sheet).binds (ps := ["thing"]) fun _ _ _ _ _ _ us hl => match us, hl with | [_], _ => rfl
    F_law_begun := fun_mk (st := s_law_begun) l_law_begun c_law_begun k_law_begun
    g_law_begun := PySem.W.mg_of X G a_law_begun
    b_law_begun := (fun_mk (st := s_law_begun) l_law_begun c_law_begun k_law_begun).binds (ps := ["script"]) fun _ _ _ _ _ _ us hl => match us, hl with | [_], _ => rfl
    F_law_mixed := fun_mk (st := s_law_mixed) l_law_mixed c_law_mixed k_law_mixed
    g_law_mixed := PySem.W.mg_of X G a_law_mixed
    b_law_mixed := (fun_mk (st := s_law_mixed) l_law_mixed c_law_mixed k_law_mixed).binds (ps := ["draw"]) fun _ _ _ _ _ _ us hl => match us, hl with | [_], _ => rfl
    F_law_take := fun_mk (st := s_law_take) l_law_take c_law_take k_law_take
    g_law_take := PySem.W.mg_of X G a_law_take
    b_law_take := (fun_mk (st := s_law_take) l_law_take c_law_take k_law_take).binds (ps := ["draw", "many"]) fun _ _ _ _ _ _ us hl => match us, hl with | [_, _], _ => rfl
    F_law_pick := fun_mk (st := s_law_pick) l_law_pick c_law_pick k_law_pick
    g_law_pick := PySem.W.mg_of X G a_law_pick
    b_law_pick := (fun_mk (st := s_law_pick) l_law_pick c_law_pick k_law_pick).binds (ps := ["draw", "some"]) fun _ _ _ _ _ _ us hl => match us, hl with | [_, _], _ => rfl
    F_law_shuffled := fun_mk (st := s_law_shuffled) l_law_shuffled c_law_shuffled k_law_shuffled
    g_law_shuffled := PySem.W.mg_of X G a_law_shuffled
    b_law_shuffled := (fun_mk (st := s_law_shuffled) l_law_shuffled c_law_shuffled k_law_shuffled).binds (ps := ["draw", "some"]) fun _ _ _ _ _ _ us hl => match us, hl with | [_, _], _ => rfl
    F_law_names := fun_mk (st := s_law_names) l_law_names c_law_names k_law_names
    g_law_names := PySem.W.mg_of X G a_law_names
    b_law_names := (fun_mk (st := s_law_names) l_law_names c_law_names k_law_names).binds (ps := ["draw", "many"]) fun _ _ _ _ _ _ us hl => match us, hl with | [_, _], _ => rfl
    F_law_any_number := fun_mk (st := s_law_any_number) l_law_any_number c_law_any_number k_law_any_number
    g_law_any_number := PySem.W.mg_of X G a_law_any_number
    b_law_any_number := (fun_mk (st := s_law_any_number) l_law_any_number c_law_any_number k_law_any_number).binds (ps := ["draw"]) fun _ _ _ _ _ _ us hl => match us, hl with | [_], _ => rfl
    F_law_any_expression := fun_mk (st := s_law_any_expression) l_law_any_expression c_law_any_expression k_law_any_expression
    g_law_any_expression := PySem.W.mg_of X G a_law_any_expression
    b_law_any_expression := (fun_mk (st := s_law_any_expression) l_law_any_expression c_law_any_expression k_law_any_expression).binds (ps := ["draw", "names", "deep"]) fun _ _ _ _ _ _ us hl => match us, hl with | [_, _, _], _ => rfl
    F_law_placeless := fun_mk (st := s_law_placeless) l_law_placeless c_law_placeless k_law_placeless
    g_law_placeless := PySem.W.mg_of X G a_law_placeless
    b_law_placeless := (fun_mk (st := s_law_placeless) l_law_placeless c_law_placeless k_law_placeless).binds (ps := ["tree"]) fun _ _ _ _ _ _ us hl => match us, hl with | [_], _ => rfl
    F_law_any_cell := fun_mk (st := s_law_any_cell) l_law_any_cell c_law_any_cell k_law_any_cell
    g_law_any_cell := PySem.W.mg_of X G a_law_any_cell
    b_law_any_cell := (fun_mk (st := s_law_any_cell) l_law_any_cell c_law_any_cell k_law_any_cell).binds (ps := ["draw", "names", "deep", "word"]) fun _ _ _ _ _ _ us hl => match us, hl with | [_, _, _, _], _ => rfl
    F_law_any_sheet := fun_mk (st := s_law_any_sheet) l_law_any_sheet c_law_any_sheet k_law_any_sheet
    g_law_any_sheet := PySem.W.mg_of X G a_law_any_sheet
    b_law_any_sheet := (fun_mk (st := s_law_any_sheet) l_law_any_sheet c_law_any_sheet k_law_any_sheet).binds (ps := ["draw", "most", "deep"]) fun _ _ _ _ _ _ us hl => match us, hl with | [_, _, _], _ => rfl
    F_law_kept := fun_mk (st := s_law_kept) l_law_kept c_law_kept k_law_kept
    g_law_kept := PySem.W.mg_of X G a_law_kept
    b_law_kept := (fun_mk (st := s_law_kept) l_law_kept c_law_kept k_law_kept).binds (ps := []) fun _ _ _ _ _ _ us hl => match us, hl with | [], _ => rfl
    F_law_is_small := fun_mk (st := s_law_is_small) l_law_is_small c_law_is_small k_law_is_small
    g_law_is_small := PySem.W.mg_of X G a_law_is_small
    b_law_is_small := (fun_mk (st := s_law_is_small) l_law_is_small c_law_is_small k_law_is_small).binds (ps := ["word"]) fun _ _ _ _ _ _ us hl => match us, hl with | [_], _ => rfl
    F_law_is_name := fun_mk (st := s_law_is_name) l_law_is_name c_law_is_name k_law_is_name
    g_law_is_name := PySem.W.mg_of X G a_law_is_name
    b_law_is_name := (fun_mk (st := s_law_is_name) l_law_is_name c_law_is_name k_law_is_name).binds (ps := ["matter"]) fun _ _ _ _ _ _ us hl => match us, hl with | [_], _ => rfl
    F_law_table := fun_mk (st := s_law_table) l_law_table c_law_table k_law_table
    g_law_table := PySem.W.mg_of X G a_law_table
    b_law_table := (fun_mk (st := s_law_table) l_law_table c_law_table k_law_table).binds (ps := []) fun _ _ _ _ _ _ us hl => match us, hl with | [], _ => rfl
    F_law_is_free := fun_mk (st := s_law_is_free) l_law_is_free c_law_is_free k_law_is_free
    g_law_is_free := PySem.W.mg_of X G a_law_is_free
    b_law_is_free := (fun_mk (st := s_law_is_free) l_law_is_free c_law_is_free k_law_is_free).binds (ps := ["tree"]) fun _ _ _ _ _ _ us hl => match us, hl with | [_], _ => rfl
    F_law_rises := fun_mk (st := s_law_rises) l_law_rises c_law_rises k_law_rises
    g_law_rises := PySem.W.mg_of X G a_law_rises
    b_law_rises := (fun_mk (st := s_law_rises) l_law_rises c_law_rises k_law_rises).binds (ps := ["matter"]) fun _ _ _ _ _ _ us hl => match us, hl with | [_], _ => rfl
    F_law_all_fit := fun_mk (st := s_law_all_fit) l_law_all_fit c_law_all_fit k_law_all_fit
    g_law_all_fit := PySem.W.mg_of X G a_law_all_fit
    b_law_all_fit := (fun_mk (st := s_law_all_fit) l_law_all_fit c_law_all_fit k_law_all_fit).binds (ps := ["table", "sorts", "parts"]) fun _ _ _ _ _ _ us hl => match us, hl with | [_, _, _], _ => rfl
    F_law_fits := fun_mk (st := s_law_fits) l_law_fits c_law_fits k_law_fits
    g_law_fits := PySem.W.mg_of X G a_law_fits
    b_law_fits := (fun_mk (st := s_law_fits) l_law_fits c_law_fits k_law_fits).binds (ps := ["table", "sort", "matter"]) fun _ _ _ _ _ _ us hl => match us, hl with | [_, _, _], _ => rfl
    F_law_odd := fun_mk (st := s_law_odd) l_law_odd c_law_odd k_law_odd
    g_law_odd := PySem.W.mg_of X G a_law_odd
    b_law_odd := (fun_mk (st := s_law_odd) l_law_odd c_law_odd k_law_odd).binds (ps := ["draw"]) fun _ _ _ _ _ _ us hl => match us, hl with | [_], _ => rfl
    F_law_spoilt := fun_mk (st := s_law_spoilt) l_law_spoilt c_law_spoilt k_law_spoilt
    g_law_spoilt := PySem.W.mg_of X G a_law_spoilt
    b_law_spoilt := (fun_mk (st := s_law_spoilt) l_law_spoilt c_law_spoilt k_law_spoilt).binds (ps := ["draw", "matter", "spare"]) fun _ _ _ _ _ _ us hl => match us, hl with | [_, _, _], _ => rfl
    F_law := fun_mk (st := s_law) l_law c_law k_law
    g_law := PySem.W.mg_of X G a_law
    b_law := (fun_mk (st := s_law) l_law c_law k_law).binds (ps := ["script"]) fun _ _ _ _ _ _ us hl => match us, hl with | [_], _ => rfl
    m_abs := PySem.W.mg_none_of X G b_abs
    m_bool := PySem.W.mg_none_of X G b_bool
    m_enumerate := PySem.W.mg_none_of X G b_enumerate
    m_int := PySem.W.mg_none_of X G b_int
    m_isinstance := PySem.W.mg_none_of X G b_isinstance
    m_len := PySem.W.mg_none_of X G b_len
    m_list := PySem.W.mg_none_of X G b_list
    m_min := PySem.W.mg_none_of X G b_min
    m_range := PySem.W.mg_none_of X G b_range
    m_repr := PySem.W.mg_none_of X G b_repr
    m_str := PySem.W.mg_none_of X G b_str
    m_tuple := PySem.W.mg_none_of X G b_tuple
    v_KEPT := ⟨.ref t_KEPT, .ref t_KEPT, PySem.W.mg_of X G a_KEPT, rfl, fun H => ⟨t_KEPT, _, rfl, .inr ⟨_, i_KEPT, n_KEPT, l_KEPT, rfl, rfl, Nat.le_trans h_KEPT (by decide), z_KEPT⟩, ⟨_, _, rfl, rfl, ⟨_, _, rfl, rfl, ⟨_, _, rfl, rfl, ⟨_, _, rfl, rfl, ⟨_, _, rfl, rfl, ⟨_, _, rfl, rfl, ⟨_, _, rfl, rfl, ⟨_, _, rfl, rfl, ⟨_, _, rfl, rfl, ⟨_, _, rfl, rfl, ⟨_, _, rfl, rfl, ⟨_, _, rfl, rfl, ⟨_, _, rfl, rfl, ⟨_, _, rfl, rfl, ⟨_, _, rfl, rfl, ⟨_, _, rfl, rfl, ⟨_, _, rfl, rfl, ⟨_, _, rfl, rfl, ⟨_, _, rfl, rfl, ⟨_, _, rfl, rfl, ⟨_, _, rfl, rfl, ⟨_, _, rfl, rfl, ⟨_, _, rfl, rfl, rfl⟩⟩⟩⟩⟩⟩⟩⟩⟩⟩⟩⟩⟩⟩⟩⟩⟩⟩⟩⟩⟩⟩⟩⟩⟩
    v_OVER_ROWS := ⟨.ref t_OVER_ROWS, .ref t_OVER_ROWS, PySem.W.mg_of X G a_OVER_ROWS, rfl, fun H => ⟨t_OVER_ROWS, _, rfl, .inr ⟨_, i_OVER_ROWS, n_OVER_ROWS, l_OVER_ROWS, rfl, rfl, Nat.le_trans h_OVER_ROWS (by decide), z_OVER_ROWS⟩, ⟨_, _, rfl, rfl, ⟨_, _, rfl, rfl, ⟨_, _, rfl, rfl, rfl⟩⟩⟩⟩⟩
    v_PAIRS := ⟨.ref t_PAIRS, .ref t_PAIRS, PySem.W.mg_of X G a_PAIRS, rfl, fun H => ⟨t_PAIRS, _, rfl, .inr ⟨_, i_PAIRS, n_PAIRS, l_PAIRS, rfl, rfl, Nat.le_trans h_PAIRS (by decide), z_PAIRS⟩, ⟨_, _, rfl, rfl, ⟨_, _, rfl, rfl, ⟨_, _, rfl, rfl, ⟨_, _, rfl, rfl, ⟨_, _, rfl, rfl, ⟨_, _, rfl, rfl, ⟨_, _, rfl, rfl, ⟨_, _, rfl, rfl, ⟨_, _, rfl, rfl, ⟨_, _, rfl, rfl, rfl⟩⟩⟩⟩⟩⟩⟩⟩⟩⟩⟩⟩
    v_SMALL := ⟨t_SMALL, .str "abcdefghijklmnopqrstuvwxyz", PySem.W.mg_of X G a_SMALL, r_SMALL, fun _ => rfl⟩
    ok := ⟨fun i hi => absurd hi (Nat.not_lt_zero i), ne0, ne1, ne2⟩
    sub_ok := fun t c b e => by
      match t, c, e with
      | .ref x, .ref y, e =>
        have e' : (none : Option Bool) = some b := e
        cases e'
    ex_ok := fun C e => by
      have e' : false = true := e
      cases e'
    catch_ok := fun j cls b hj e => absurd hj (Nat.not_lt_zero j) }
  exact ⟨A.d_law, fun s u => .of_eq rfl, fun base _ _ A2 hg outer s H args us vs Q E hr e0 bd rv z => ok_law T A2 hg outer s H args us vs Q E hr e0 bd rv (law_sp T.ok vs H Q E z)⟩
/-- the law row's walk -/
theorem walk_law {l : PySem.W.OpenLaw} {q : Program} {loose : List Str} {XP : (Str → Option Value) → Heap → Prop} {YP : World → Heap → Prop} {d : DefRec} {K : Params → PySem.W.Frag} (hm : l.most = some 63) (hd : d.params.defaults = [])
    (inK : ∀ (w : World) (h : Heap), YP w h → (K w.params).In h) (F : ∀ (w : World) (mg : Str → Option Value) (fa : Addr) (h : Heap), (K w.params).In h → h.Ns mainGlobals mg → mg d.name = some (.ref fa) →
      ∃ fd : FuncData, (∀ (s : Shared) (u : Value), BindsTo s fd ⟨[u], []⟩ [("script", u)]) ∧ ∀ base : Heap, (K w.params).In base → base.Ns mainGlobals mg → Quiet l.prog w (K w.params) mg base (L2.CX l.prog w) 173 fa fd ["script"] (spLaw (K w.params))) :
    PySem.W.WalkO q loose XP YP (l.row.toRowW) d [] (fun f vs => PySem.call f vs) := by
  refine MP.walk_quiet (n := 63) (k := 173) (x := "script") (CX := fun w => L2.CX l.prog w) (sp := fun w => spLaw (K w.params)) hm (by decide) hd ⟨rfl, by decide, by decide⟩ inK F ?S ?C
  case S =>
    intro w H a ns hl hO hS
    refine ⟨a, ns, rfl, ?_, hl, fun _ => rfl⟩
    rcases hS with (hS | hS) | hS
    · rcases hO a with z | ⟨o, xs, z⟩
      · rw [z] at hS; cases hS
      · rw [z] at hS; cases hS
    · exact .inl hS
    · exact .inr hS
  case C =>
    intro w H s e s' z
    obtain ⟨_, _, _, _, _, _, _, _, _, _, _, _, z⟩ := z
    exact z
end K02
open PySem.W PyProof.Rows PySem
theorem PySem.Challenge.cw_whysheets_k02_trees_judged_holds : PySem.Challenge.rw_whysheets_k02_trees_judged.Holds := by
  w_on; o_law; k_head
  (case hw => w_witness2)
  k_fill
  refine K02.walk_law (l := PySem.Challenge.rw_whysheets_k02_trees_judged) rfl rfl (fun w h Y => PySem.W.kIn_of Y) ?F
  case F =>
    intro w mg fa h KX G hmg
    refine' K02.all_mk KX G hmg ?a_is_name ?l_is_name ?c_is_name ?k_is_name ?a_is_int ?l_is_int ?c_is_int ?k_is_int ?a_lies_in ?l_lies_in ?c_lies_in ?k_lies_in ?a_is_small ?l_is_small ?c_is_small ?k_is_small ?a_is_tagged ?l_is_tagged ?c_is_tagged ?k_is_tagged ?a_are_cases ?l_are_cases ?c_are_cases ?k_are_cases ?a_is_expression ?l_is_expression ?c_is_expression ?k_is_expression ?a_is_range ?l_is_range ?c_is_range ?k_is_range ?a_is_input ?l_is_input ?c_is_input ?k_is_input ?a_parts_of ?l_parts_of ?c_parts_of ?k_parts_of ?a_has_place ?l_has_place ?c_has_place ?k_has_place ?a_is_placeless ?l_is_placeless ?c_is_placeless ?k_is_placeless ?a_is_cell ?l_is_cell ?c_is_cell ?k_is_cell ?a_is_filled ?l_is_filled ?c_is_filled ?k_is_filled ?a_is_sheet ?l_is_sheet ?c_is_sheet ?k_is_sheet ?a_law_begun ?l_law_begun ?c_law_begun ?k_law_begun ?a_law_mixed ?l_law_mixed ?c_law_mixed ?k_law_mixed ?a_law_take ?l_law_take ?c_law_take ?k_law_take ?a_law_pick ?l_law_pick ?c_law_pick ?k_law_pick ?a_law_shuffled ?l_law_shuffled ?c_law_shuffled ?k_law_shuffled ?a_law_names ?l_law_names ?c_law_names ?k_law_names ?a_law_any_number ?l_law_any_number ?c_law_any_number ?k_law_any_number ?a_law_any_expression ?l_law_any_expression ?c_law_any_expression ?k_law_any_expression ?a_law_placeless ?l_law_placeless ?c_law_placeless ?k_law_placeless ?a_law_any_cell ?l_law_any_cell ?c_law_any_cell ?k_law_any_cell ?a_law_any_sheet ?l_law_any_sheet ?c_law_any_sheet ?k_law_any_sheet ?a_law_kept ?l_law_kept ?c_law_kept ?k_law_kept ?a_law_is_small ?l_law_is_small ?c_law_is_small ?k_law_is_small ?a_law_is_name ?l_law_is_name ?c_law_is_name ?k_law_is_name ?a_law_table ?l_law_table ?c_law_table ?k_law_table ?a_law_is_free ?l_law_is_free ?c_law_is_free ?k_law_is_free ?a_law_rises ?l_law_rises ?c_law_rises ?k_law_rises ?a_law_all_fit ?l_law_all_fit ?c_law_all_fit ?k_law_all_fit ?a_law_fits ?l_law_fits ?c_law_fits ?k_law_fits ?a_law_odd ?l_law_odd ?c_law_odd ?k_law_odd ?a_law_spoilt ?l_law_spoilt ?c_law_spoilt ?k_law_spoilt ?a_law ?l_law ?c_law ?k_law ?ne0 ?ne1 ?ne2 ?a_KEPT ?l_KEPT ?z_KEPT ?h_KEPT ?a_OVER_ROWS ?l_OVER_ROWS ?z_OVER_ROWS ?h_OVER_ROWS ?a_PAIRS ?l_PAIRS ?z_PAIRS ?h_PAIRS ?a_SMALL ?r_SMALL ?b_abs ?b_bool ?b_enumerate ?b_int ?b_isinstance ?b_len ?b_list ?b_min ?b_range ?b_repr ?b_str ?b_tuple
    (case a_is_name => k_is)
    (case l_is_name => k_is)
    (case c_is_name => k_is)
    (case k_is_name => k_is)
    (case a_is_int => k_is)
    (case l_is_int => k_is)
    (case c_is_int => k_is)
    (case k_is_int => k_is)
    (case a_lies_in => k_is)
    (case l_lies_in => k_is)
    (case c_lies_in => k_is)
    (case k_lies_in => k_is)
    (case a_is_small => k_is)
    (case l_is_small => k_is)
    (case c_is_small => k_is)
    (case k_is_small => k_is)
    (case a_is_tagged => k_is)
    (case l_is_tagged => k_is)
    (case c_is_tagged => k_is)
    (case k_is_tagged => k_is)
    (case a_are_cases => k_is)
    (case l_are_cases => k_is)
    (case c_are_cases => k_is)
    (case k_are_cases => k_is)
    (case a_is_expression => k_is)
    (case l_is_expression => k_is)
    (case c_is_expression => k_is)
    (case k_is_expression => k_is)
    (case a_is_range => k_is)
    (case l_is_range => k_is)
    (case c_is_range => k_is)
    (case k_is_range => k_is)
    (case a_is_input => k_is)
    (case l_is_input => k_is)
    (case c_is_input => k_is)
    (case k_is_input => k_is)
    (case a_parts_of => k_is)
    (case l_parts_of => k_is)
    (case c_parts_of => k_is)
    (case k_parts_of => k_is)
    (case a_has_place => k_is)
    (case l_has_place => k_is)
    (case c_has_place => k_is)
    (case k_has_place => k_is)
    (case a_is_placeless => k_is)
    (case l_is_placeless => k_is)
    (case c_is_placeless => k_is)
    (case k_is_placeless => k_is)
    (case a_is_cell => k_is)
    (case l_is_cell => k_is)
    (case c_is_cell => k_is)
    (case k_is_cell => k_is)
    (case a_is_filled => k_is)
    (case l_is_filled => k_is)
    (case c_is_filled => k_is)
    (case k_is_filled => k_is)
    (case a_is_sheet => k_is)
    (case l_is_sheet => k_is)
    (case c_is_sheet => k_is)
    (case k_is_sheet => k_is)
    (case a_law_begun => k_is)
    (case l_law_begun => k_is)
    (case c_law_begun => k_is)
    (case k_law_begun => k_is)
    (case a_law_mixed => k_is)
    (case l_law_mixed => k_is)
    (case c_law_mixed => k_is)
    (case k_law_mixed => k_is)
    (case a_law_take => k_is)
    (case l_law_take => k_is)
    (case c_law_take => k_is)
    (case k_law_take => k_is)
    (case a_law_pick => k_is)
    (case l_law_pick => k_is)
    (case c_law_pick => k_is)
    (case k_law_pick => k_is)
    (case a_law_shuffled => k_is)
    (case l_law_shuffled => k_is)
    (case c_law_shuffled => k_is)
    (case k_law_shuffled => k_is)
    (case a_law_names => k_is)
    (case l_law_names => k_is)
    (case c_law_names => k_is)
    (case k_law_names => k_is)
    (case a_law_any_number => k_is)
    (case l_law_any_number => k_is)
    (case c_law_any_number => k_is)
    (case k_law_any_number => k_is)
    (case a_law_any_expression => k_is)
    (case l_law_any_expression => k_is)
    (case c_law_any_expression => k_is)
    (case k_law_any_expression => k_is)
    (case a_law_placeless => k_is)
    (case l_law_placeless => k_is)
    (case c_law_placeless => k_is)
    (case k_law_placeless => k_is)
    (case a_law_any_cell => k_is)
    (case l_law_any_cell => k_is)
    (case c_law_any_cell => k_is)
    (case k_law_any_cell => k_is)
    (case a_law_any_sheet => k_is)
    (case l_law_any_sheet => k_is)
    (case c_law_any_sheet => k_is)
    (case k_law_any_sheet => k_is)
    (case a_law_kept => k_is)
    (case l_law_kept => k_is)
    (case c_law_kept => k_is)
    (case k_law_kept => k_is)
    (case a_law_is_small => k_is)
    (case l_law_is_small => k_is)
    (case c_law_is_small => k_is)
    (case k_law_is_small => k_is)
    (case a_law_is_name => k_is)
    (case l_law_is_name => k_is)
    (case c_law_is_name => k_is)
    (case k_law_is_name => k_is)
    (case a_law_table => k_is)
    (case l_law_table => k_is)
    (case c_law_table => k_is)
    (case k_law_table => k_is)
    (case a_law_is_free => k_is)
    (case l_law_is_free => k_is)
    (case c_law_is_free => k_is)
    (case k_law_is_free => k_is)
    (case a_law_rises => k_is)
    (case l_law_rises => k_is)
    (case c_law_rises => k_is)
    (case k_law_rises => k_is)
    (case a_law_all_fit => k_is)
    (case l_law_all_fit => k_is)
    (case c_law_all_fit => k_is)
    (case k_law_all_fit => k_is)
    (case a_law_fits => k_is)
    (case l_law_fits => k_is)
    (case c_law_fits => k_is)
    (case k_law_fits => k_is)
    (case a_law_odd => k_is)
    (case l_law_odd => k_is)
    (case c_law_odd => k_is)
    (case k_law_odd => k_is)
    (case a_law_spoilt => k_is)
    (case l_law_spoilt => k_is)
    (case c_law_spoilt => k_is)
    (case k_law_spoilt => k_is)
    (case a_law => k_is)
    (case l_law => k_is)
    (case c_law => k_is)
    (case k_law => k_is)
    (case ne0 => decide)
    (case ne1 => decide)
    (case ne2 => decide)
    (case a_KEPT => k_is)
    (case l_KEPT => k_is)
    (case z_KEPT => (repeat (first | exact Paired.nil | refine Paired.cons ⟨_, rfl⟩ ?_ | refine Paired.cons rfl ?_)))
    (case h_KEPT => decide)
    (case a_OVER_ROWS => k_is)
    (case l_OVER_ROWS => k_is)
    (case z_OVER_ROWS => (repeat (first | exact Paired.nil | refine Paired.cons ⟨_, rfl⟩ ?_ | refine Paired.cons rfl ?_)))
    (case h_OVER_ROWS => decide)
    (case a_PAIRS => k_is)
    (case l_PAIRS => k_is)
    (case z_PAIRS => (repeat (first | exact Paired.nil | refine Paired.cons ⟨_, rfl⟩ ?_ | refine Paired.cons rfl ?_)))
    (case h_PAIRS => decide)
    (case a_SMALL => k_is)
    (case r_SMALL => (first | exact rfl | exact ⟨_, rfl⟩))
    (case b_abs => k_is)
    (case b_bool => k_is)
    (case b_enumerate => k_is)
    (case b_int => k_is)
    (case b_isinstance => k_is)
    (case b_len => k_is)
    (case b_list => k_is)
    (case b_min => k_is)
    (case b_range => k_is)
    (case b_repr => k_is)
    (case b_str => k_is)
    (case b_tuple => k_is)

