import PyProof.Rows.All
import Wide.All
import OpenK.AllK
import Wide.FinOn
import HandS.ForMost
import HandS.ForExc
import HandS.IsInst
import HandS.Flow
import HandS.CallSlots
import HandS.TryMany
import HandS.ExcIs
import HandS.Lambda
import HandS.More
import HandS.Dict
import HandS.Small
import HandS.Conv
import HandS.Iter
import HandS.Text
import HandS.TupAny
import HandS.Deep
import PyProof.StrOps2
import HandS.Ends
import HandS.WordsExc
import PyProof.ReprRoads
import KE.GoesMore
import KE.GoesEnum
import HandS.CallLocal
import HandS.Style
import HandS.ExcInit
import HandS.Nested
import HandS.NestedHot
import KE.KExcSuper
import HandS.EndBits
import HandS.ExcField
import PySem.Challenge.RW_whysheets_k01_words_of_texts
set_option Elab.async false
set_option linter.all false
set_option maxRecDepth 100000
/-! MPBase: data, the visible store, what they say of the abstract heap. -/
namespace MP
open PySem PyProof.Rows PySem.Spec L2

/-- data: what a value is. Tuples, lists that are never changed again, dicts likewise stand inline; ref: an object of the visible store, or a thing of the module -/
inductive D where
  | non
  | bl (b : Bool)
  | int (i : Int)
  | str (x : Str)
  | ty (n : String)
  | ref (a : Addr)
  | exn (c : Value) (a : Addr) (ks : List Str) (xs : List D)
  | tup (xs : List D)
  | lst (xs : List D)
  | kls (xs : List D)
  | dct (ks : List Key) (xs : List D)

/-- an object of the visible store -/
inductive SO where
  | lst (xs : List D)
  | dct (ks : List Key) (xs : List D)
  | ins (C : Addr) (ks : List Str) (xs : List D)
  | tab (q : Str)

abbrev Store := Addr → Option SO
def Store.set (S : Store) (a : Addr) (o : SO) : Store := fun b => if b = a then some o else S b
def Store.del (S : Store) (a : Addr) : Store := fun b => if b = a then none else S b
theorem Store.set_same {S : Store} {a : Addr} {o : SO} : S.set a o a = some o := if_pos rfl
theorem Store.set_ne {S : Store} {a b : Addr} {o : SO} (h : b ≠ a) : S.set a o b = S b := if_neg h
theorem Store.del_same {S : Store} {a : Addr} : S.del a a = none := if_pos rfl
theorem Store.del_ne {S : Store} {a b : Addr} (h : b ≠ a) : S.del a b = S b := if_neg h

/-- a list that is never changed again: locked -/
def FzL (H : Hp) (a : Addr) (xs : List V) : Prop := ∃ o, H a = some (.frz o (.lst xs))
/-- .. or one of the module (the script) -/
def KsL (K : PySem.W.Frag) (H : Hp) (a : Addr) (xs : List V) : Prop := FzL H a xs ∨
  ∃ (o : Obj) (its : Array Value) (n : Nat), K.lookup a = some o ∧ o.cls = .type "list" ∧ o.dict = none ∧ o.data = .seq its n ∧
    its.size ≤ sizeLine ∧ Vals xs its.toList
theorem FzL.seq {K : PySem.W.Frag} {H : Hp} {a : Addr} {xs : List V} (h : FzL H a xs) : SqL K H a xs := let ⟨o, h⟩ := h; .inl (.inr ⟨o, h⟩)
theorem KsL.seq {K : PySem.W.Frag} {H : Hp} {a : Addr} {xs : List V} (h : KsL K H a xs) : SqL K H a xs := by
  rcases h with h | h
  · exact h.seq
  · exact .inr h
/-- a dict that is never changed again -/
def FzD (K : PySem.W.Frag) (H : Hp) (a : Addr) (kvs : List (Key × V)) : Prop := ∃ o, H a = some (.frz o (.dK kvs))
/-- at a: an exception object of the class c, its own dict at d, caught and kept -/
def exT (c : Value) (d : Option Addr) (a : Addr) : HO := .ext fun h => ∃ (oe : Obj) (vs : Array Value), h.get? a = some oe ∧ Zc c d oe ∧ oe.data = .fields vs
/-- the fields of an exception stand in its own dict -/
def XdAt (H : Hp) (ks : List Str) (d : Option Addr) (vs : List V) : Prop := (ks = [] ∧ d = none) ∨ ∃ dd, d = some dd ∧ ks ≠ [] ∧ H dd = some (.xd (ks.zip vs))

mutual
def Rel (K : PySem.W.Frag) (H : Hp) : D → V → Prop
  | .non, v => v = .non
  | .bl b, v => v = .bl b
  | .int i, v => v = .int i
  | .str x, v => v = .str x
  | .ty n, v => v = .ty n
  | .ref a, v => v = .ref a
  | .exn c a ks ds, v => v = .ref a ∧ ∃ d vs, H a = some (exT c d a) ∧ XdAt H ks d vs ∧ ks.length = ds.length ∧ Rels K H ds vs
  | .tup ds, v => ∃ a xs, v = .ref a ∧ SqT K H a xs ∧ Rels K H ds xs
  | .lst ds, v => ∃ a xs, v = .ref a ∧ FzL H a xs ∧ Rels K H ds xs
  | .kls ds, v => ∃ a xs, v = .ref a ∧ KsL K H a xs ∧ Rels K H ds xs
  | .dct ks ds, v => ∃ a xs, v = .ref a ∧ FzD K H a (ks.zip xs) ∧ ks.length = ds.length ∧ Rels K H ds xs
def Rels (K : PySem.W.Frag) (H : Hp) : List D → List V → Prop
  | [], vs => vs = []
  | d :: ds, vs => ∃ v r, vs = v :: r ∧ Rel K H d v ∧ Rels K H ds r
end

def SOk (K : PySem.W.Frag) (H : Hp) (a : Addr) : SO → Prop
  | .lst ds => ∃ xs, H a = some (.lst xs) ∧ Rels K H ds xs
  | .dct ks ds => ∃ xs, H a = some (.dK (ks.zip xs)) ∧ ks.length = ds.length ∧ Rels K H ds xs
  | .ins C ks ds => ∃ dx xs, H a = some (.ins C dx (ks.zip xs)) ∧ H dx = some (.own a) ∧ ks.length = ds.length ∧ Rels K H ds xs
  | .tab q => LamX.TabS H a q
/-- the visible store is held -/
def SRel (K : PySem.W.Frag) (S : Store) (H : Hp) : Prop := ∀ a o, S a = some o → SOk K H a o
/-- all but the visible store is kept -/
def Keep (S : Store) (H H' : Hp) : Prop := ∀ a o, H a = some o → S a = none → (∀ ps, o ≠ .tbl ps) → H' a = some o
structure Evo (S : Store) (H : Hp) (S' : Store) (H' : Hp) : Prop where
  keep : Keep S H H'
  new : ∀ a, S a = none → S' a ≠ none → ∀ o, H a = some o → (∀ ps, o ≠ .tbl ps) → False

theorem Evo.refl (S : Store) (H : Hp) : Evo S H S H := ⟨fun _ _ h _ _ => h, fun a h n => absurd h n⟩
theorem Evo.trans {S S1 S2 : Store} {H H1 H2 : Hp} (a : Evo S H S1 H1) (b : Evo S1 H1 S2 H2) : Evo S H S2 H2 where
  keep := fun x o h n nt => by
    have h1 := a.keep x o h n nt
    cases q : S1 x with
    | none => exact b.keep x o h1 q nt
    | some u =>
      exact (a.new x n (by rw [q]; exact fun z => nomatch z) o h nt).elim
  new := fun x n n2 o e nt => by
    cases q : S1 x with
    | none => exact b.new x q n2 o (a.keep x o e n nt) nt
    | some u => exact a.new x n (by rw [q]; exact fun z => nomatch z) o e nt

/-- what the store may hold -/
def mutb : HO → Bool
  | .lst _ => true
  | .dK _ => true
  | .ins _ _ _ => true
  | .tbl _ => true
  | _ => false
theorem nt_of {o : HO} (m : mutb o = false) : ∀ ps, o ≠ .tbl ps := fun ps z => by subst z; cases m
section
variable {K : PySem.W.Frag} {S S' : Store} {H H' : Hp}
theorem SRel.imm (r : SRel K S H) {a : Addr} {o : HO} (h : H a = some o) (m : mutb o = false) : S a = none := by
  cases q : S a with
  | none => rfl
  | some u =>
    have z := r a u q
    cases u with
    | lst ds => obtain ⟨xs, e, _⟩ := z; rw [h] at e; cases e; cases m
    | dct ks ds => obtain ⟨xs, e, _⟩ := z; rw [h] at e; cases e; cases m
    | ins C ks ds => obtain ⟨dx, xs, e, _⟩ := z; rw [h] at e; cases e; cases m
    | tab q => obtain ⟨ps, e, _⟩ := z; rw [h] at e; cases e; cases m
/-- what is unchangeable in H stays -/
def Imm (H H' : Hp) : Prop := ∀ a o, H a = some o → mutb o = false → H' a = some o
theorem Evo.imm (e : Evo S H S' H') (r : SRel K S H) : Imm H H' := fun a o h m => e.keep a o h (r.imm h m) (nt_of m)
theorem Imm.sqT (i : Imm H H') {a : Addr} {xs : List V} (h : SqT K H a xs) : SqT K H' a xs := by
  rcases h with (h | ⟨ob, h⟩) | h
  · exact .inl (.inl (i _ _ h rfl))
  · exact .inl (.inr ⟨ob, i _ _ h rfl⟩)
  · exact .inr h
theorem Imm.fzL (i : Imm H H') {a : Addr} {xs : List V} (h : FzL H a xs) : FzL H' a xs := let ⟨o, h⟩ := h; ⟨o, i _ _ h rfl⟩
theorem Imm.ksL (i : Imm H H') {a : Addr} {xs : List V} (h : KsL K H a xs) : KsL K H' a xs := h.elim (fun z => .inl (i.fzL z)) .inr
theorem Imm.fzD (i : Imm H H') {a : Addr} {kvs : List (Key × V)} (h : FzD K H a kvs) : FzD K H' a kvs := let ⟨o, h⟩ := h; ⟨o, i _ _ h rfl⟩
theorem Imm.xd (i : Imm H H') {ks : List Str} {d : Option Addr} {vs : List V} (h : XdAt H ks d vs) : XdAt H' ks d vs := by
  rcases h with h | ⟨dd, e, n, h⟩
  · exact .inl h
  · exact .inr ⟨dd, e, n, i _ _ h rfl⟩
mutual
theorem Rel.imm (i : Imm H H') : ∀ (d : D) (v : V), Rel K H d v → Rel K H' d v
  | .non, _, h => h
  | .bl _, _, h => h
  | .int _, _, h => h
  | .str _, _, h => h
  | .ty _, _, h => h
  | .ref _, _, h => h
  | .exn c a ks ds, _, ⟨e, d, vs, h, x, l, r⟩ => ⟨e, d, vs, i _ _ h rfl, i.xd x, l, Rels.imm i ds vs r⟩
  | .tup ds, _, ⟨a, xs, e, h, r⟩ => ⟨a, xs, e, i.sqT h, Rels.imm i ds xs r⟩
  | .lst ds, _, ⟨a, xs, e, h, r⟩ => ⟨a, xs, e, i.fzL h, Rels.imm i ds xs r⟩
  | .kls ds, _, ⟨a, xs, e, h, r⟩ => ⟨a, xs, e, i.ksL h, Rels.imm i ds xs r⟩
  | .dct ks ds, _, ⟨a, xs, e, h, l, r⟩ => ⟨a, xs, e, i.fzD h, l, Rels.imm i ds xs r⟩
theorem Rels.imm (i : Imm H H') : ∀ (ds : List D) (vs : List V), Rels K H ds vs → Rels K H' ds vs
  | [], _, h => h
  | d :: ds, _, ⟨v, r, e, h, t⟩ => ⟨v, r, e, Rel.imm i d v h, Rels.imm i ds r t⟩
end
theorem Rels.length : ∀ {ds : List D} {vs : List V}, Rels K H ds vs → ds.length = vs.length
  | [], _, h => by have e : _ = [] := h; subst e; rfl
  | d :: ds, _, ⟨v, r, e, _, t⟩ => by subst e; simp [Rels.length t]
theorem Rels.get : ∀ {ds : List D} {vs : List V} {i : Nat} {d : D}, Rels K H ds vs → ds[i]? = some d → ∃ v, vs[i]? = some v ∧ Rel K H d v
  | [], _, _, _, _, e => by simp at e
  | d :: ds, _, 0, _, ⟨v, r, e, h, t⟩, q => by subst e; simp at q; subst q; exact ⟨v, rfl, h⟩
  | d :: ds, _, i + 1, x, ⟨v, r, e, h, t⟩, q => by
    subst e
    obtain ⟨u, h1, h2⟩ := Rels.get (i := i) (d := x) t (by simpa using q)
    exact ⟨u, (by simpa using h1), h2⟩
theorem Rels.getV : ∀ {ds : List D} {vs : List V} {i : Nat} {v : V}, Rels K H ds vs → vs[i]? = some v → ∃ d, ds[i]? = some d ∧ Rel K H d v
  | [], _, _, _, h, e => by have z : _ = [] := h; subst z; simp at e
  | d :: ds, _, 0, _, ⟨v, r, e, h, t⟩, q => by subst e; simp at q; subst q; exact ⟨d, rfl, h⟩
  | d :: ds, _, i + 1, x, ⟨v, r, e, h, t⟩, q => by
    subst e
    obtain ⟨u, h1, h2⟩ := Rels.getV (i := i) (v := x) t (by simpa using q)
    exact ⟨u, (by simpa using h1), h2⟩
theorem Rels.append : ∀ {ds es : List D} {vs ws : List V}, Rels K H ds vs → Rels K H es ws → Rels K H (ds ++ es) (vs ++ ws)
  | [], _, _, _, h, k => by have e : _ = [] := h; subst e; exact k
  | d :: ds, _, _, _, ⟨v, r, e, h, t⟩, k => by subst e; exact ⟨v, r ++ _, rfl, h, Rels.append t k⟩
theorem Rels.set {x : D} {u : V} (q : Rel K H x u) : ∀ {ds : List D} {vs : List V} (i : Nat), Rels K H ds vs → Rels K H (ds.set i x) (vs.set i u)
  | [], _, _, h => by have e : _ = [] := h; subst e; exact rfl
  | d :: ds, _, 0, ⟨v, r, e, h, t⟩ => by subst e; exact ⟨u, r, rfl, q, t⟩
  | d :: ds, _, i + 1, ⟨v, r, e, h, t⟩ => by subst e; exact ⟨v, r.set i u, rfl, h, Rels.set q i t⟩
theorem Rels.take : ∀ {ds : List D} {vs : List V} (n : Nat), Rels K H ds vs → Rels K H (ds.take n) (vs.take n)
  | _, _, 0, _ => rfl
  | [], _, n + 1, h => by have e : _ = [] := h; subst e; rfl
  | d :: ds, _, n + 1, ⟨v, r, e, h, t⟩ => by subst e; exact ⟨v, r.take n, rfl, h, Rels.take n t⟩
theorem Rels.drop : ∀ {ds : List D} {vs : List V} (n : Nat), Rels K H ds vs → Rels K H (ds.drop n) (vs.drop n)
  | _, _, 0, h => h
  | [], _, n + 1, h => by have e : _ = [] := h; subst e; rfl
  | d :: ds, _, n + 1, ⟨v, r, e, h, t⟩ => by subst e; exact Rels.drop n t
theorem Rels.eraseIdx : ∀ {ds : List D} {vs : List V} (n : Nat), Rels K H ds vs → Rels K H (ds.eraseIdx n) (vs.eraseIdx n)
  | [], _, _, h => by have e : _ = [] := h; subst e; rfl
  | d :: ds, _, 0, ⟨v, r, e, h, t⟩ => by subst e; exact t
  | d :: ds, _, n + 1, ⟨v, r, e, h, t⟩ => by subst e; exact ⟨v, r.eraseIdx n, rfl, h, Rels.eraseIdx n t⟩
theorem Rels.one {d : D} {vs : List V} (h : Rels K H [d] vs) : ∃ v, vs = [v] ∧ Rel K H d v := by
  obtain ⟨v, r, rfl, h, t⟩ := h
  have e : r = [] := t
  subst e
  exact ⟨v, rfl, h⟩
theorem Rels.mk1 {d : D} {v : V} (h : Rel K H d v) : Rels K H [d] [v] := ⟨v, [], rfl, h, rfl⟩
theorem SOk.imm (i : Imm H H') {a : Addr} {o : SO} (h : SOk K H a o) (e : ∀ u, H a = some u → H' a = some u) : SOk K H' a o := by
  cases o with
  | lst ds => obtain ⟨xs, q, r⟩ := h; exact ⟨xs, e _ q, Rels.imm i _ _ r⟩
  | dct ks ds => obtain ⟨xs, q, l, r⟩ := h; exact ⟨xs, e _ q, l, Rels.imm i _ _ r⟩
  | ins C ks ds => obtain ⟨dx, xs, q, w, l, r⟩ := h; exact ⟨dx, xs, e _ q, i _ _ w rfl, l, Rels.imm i _ _ r⟩
  | tab q =>
    obtain ⟨ps, h1, h2, h3⟩ := h
    exact ⟨ps, e _ h1, h2, fun pos cv hc => let ⟨c, e1, e2⟩ := h3 pos cv hc; ⟨c, e1, i _ _ e2 rfl⟩⟩
end

/-! ### the frame -/
abbrev Env := List (Option D)
def lk : Env → Nat → Option D
  | [], _ => none
  | x :: _, 0 => x
  | _ :: r, n + 1 => lk r n
def st : Env → Nat → Option D → Env
  | [], _, _ => []
  | _ :: r, 0, y => y :: r
  | x :: r, n + 1, y => x :: st r n y
def EnvR (K : PySem.W.Frag) (H : Hp) : Env → L2.St → Prop
  | [], σ => σ = []
  | x :: ρ, σ => ∃ y r, σ = y :: r ∧ (∀ d, x = some d → ∃ v, y = some v ∧ Rel K H d v) ∧ EnvR K H ρ r
section
variable {K : PySem.W.Frag} {S S' : Store} {H H' : Hp}
theorem EnvR.imm (i : Imm H H') : ∀ {ρ : Env} {σ : L2.St}, EnvR K H ρ σ → EnvR K H' ρ σ
  | [], _, h => h
  | x :: ρ, _, ⟨y, r, e, h, t⟩ => ⟨y, r, e, fun d q => let ⟨v, a, b⟩ := h d q; ⟨v, a, Rel.imm i _ _ b⟩, EnvR.imm i t⟩
theorem EnvR.get : ∀ {ρ : Env} {σ : L2.St} {i : Nat} {d : D}, EnvR K H ρ σ → lk ρ i = some d → ∃ v, σ[i]? = some (some v) ∧ Rel K H d v
  | [], _, _, _, _, e => by cases e
  | x :: ρ, _, 0, d, ⟨y, r, e, h, t⟩, q => by
    subst e
    obtain ⟨v, a, b⟩ := h d q
    subst a
    exact ⟨v, rfl, b⟩
  | x :: ρ, _, i + 1, d, ⟨y, r, e, h, t⟩, q => by
    subst e
    obtain ⟨v, a, b⟩ := EnvR.get (i := i) t q
    exact ⟨v, by simpa using a, b⟩
theorem EnvR.set {d : D} {v : V} (h : Rel K H d v) : ∀ {ρ : Env} {σ : L2.St} (i : Nat), EnvR K H ρ σ → EnvR K H (st ρ i (some d)) (σ.set i (some v))
  | [], _, _, h => by have e : _ = [] := h; subst e; rfl
  | x :: ρ, _, 0, ⟨y, r, e, q, t⟩ => by subst e; exact ⟨some v, r, rfl, fun d' e' => by cases e'; exact ⟨v, rfl, h⟩, t⟩
  | x :: ρ, _, i + 1, ⟨y, r, e, q, t⟩ => by subst e; exact ⟨y, r.set i (some v), rfl, q, EnvR.set h i t⟩
/-- a slot forgotten, whatever stands there -/
theorem EnvR.gone : ∀ {ρ : Env} {σ : L2.St} (i : Nat) (o : Option V), EnvR K H ρ σ → EnvR K H (st ρ i none) (σ.set i o)
  | [], _, _, _, h => by have e : _ = [] := h; subst e; rfl
  | x :: ρ, _, 0, o, ⟨y, r, e, q, t⟩ => by subst e; exact ⟨o, r, rfl, (fun d' e' => nomatch e'), t⟩
  | x :: ρ, _, i + 1, o, ⟨y, r, e, q, t⟩ => by subst e; exact ⟨y, r.set i o, rfl, q, EnvR.gone i o t⟩
theorem EnvR.forget : ∀ {ρ : Env} {σ : L2.St} (i : Nat), EnvR K H ρ σ → EnvR K H (st ρ i none) σ
  | [], _, _, h => h
  | x :: ρ, _, 0, ⟨y, r, e, q, t⟩ => by subst e; exact ⟨y, r, rfl, (fun d' e' => nomatch e'), t⟩
  | x :: ρ, _, i + 1, ⟨y, r, e, q, t⟩ => by subst e; exact ⟨y, r, rfl, q, EnvR.forget i t⟩
theorem EnvR.start : ∀ {ds : List D} {vs : List V} (n : Nat), Rels K H ds vs → EnvR K H (ds.map some ++ List.replicate n none) (vs.map some ++ List.replicate n none)
  | [], _, n, h => by
    have e : _ = [] := h
    subst e
    show EnvR K H (List.replicate n none) (List.replicate n none)
    induction n with
    | zero => rfl
    | succ n ih => exact ⟨none, List.replicate n none, rfl, (fun d e => nomatch e), ih⟩
  | d :: ds, _, n, ⟨v, r, e, h, t⟩ => by
    subst e
    exact ⟨some v, r.map some ++ List.replicate n none, rfl, fun d' e' => by cases e'; exact ⟨v, rfl, h⟩, EnvR.start n t⟩

/-! ### the heap and the store grow and change -/
theorem upd_imm {a : Addr} {o : HO} (h : H a = none) : Imm H (upd H a o) := fun b u e _ => by rw [upd_ne (ne_of_none e h)]; exact e
theorem evo_new {a : Addr} {o : HO} (h : H a = none) : Evo S H S (upd H a o) := ⟨fun b u e _ _ => by rw [upd_ne (ne_of_none e h)]; exact e, fun b n n2 => absurd n n2⟩
theorem SRel.upd_new (r : SRel K S H) {a : Addr} {o : HO} (h : H a = none) : SRel K S (upd H a o) := fun b u e =>
  (r b u e).imm (upd_imm h) fun w q => by rw [upd_ne (ne_of_none q h)]; exact q
theorem SRel.free (r : SRel K S H) {a : Addr} (h : H a = none) : S a = none := by
  cases q : S a with
  | none => rfl
  | some u =>
    have z := r a u q
    cases u with
    | lst ds => obtain ⟨xs, e, _⟩ := z; rw [h] at e; cases e
    | dct ks ds => obtain ⟨xs, e, _⟩ := z; rw [h] at e; cases e
    | ins C ks ds => obtain ⟨dx, xs, e, _⟩ := z; rw [h] at e; cases e
    | tab q => obtain ⟨ps, e, _⟩ := z; rw [h] at e; cases e
/-- an object that the store holds from now on, new in H -/
theorem evo_newS {a : Addr} {o : HO} {u : SO} (h : H a = none) : Evo S H (S.set a u) (upd H a o) := ⟨fun b u e _ _ => by rw [upd_ne (ne_of_none e h)]; exact e, fun b n n2 o2 e2 _ => by
  by_cases hb : b = a
  · rw [hb, h] at e2; cases e2
  · rw [Store.set_ne hb] at n2; exact absurd n n2⟩
theorem SRel.newS (r : SRel K S H) {a : Addr} {o : HO} {u : SO} (h : H a = none) (k : SOk K (upd H a o) a u) : SRel K (S.set a u) (upd H a o) := fun b w e => by
  by_cases hb : b = a
  · subst hb
    rw [Store.set_same] at e
    cases e
    exact k
  · rw [Store.set_ne hb] at e
    exact r.upd_new h b w e
/-- an object of the store changed -/
theorem upd_immS {a : Addr} {o o' : HO} (h : H a = some o') (m : mutb o' = true) : Imm H (upd H a o) := fun b u e q => by
  by_cases hb : b = a
  · subst hb; rw [h] at e; cases e; rw [m] at q; cases q
  · rw [upd_ne hb]; exact e
theorem evo_setS {a : Addr} {o : HO} {u u' : SO} (h : S a = some u') : Evo S H (S.set a u) (upd H a o) := ⟨fun b w e n _ => by
  by_cases hb : b = a
  · subst hb; rw [h] at n; cases n
  · rw [upd_ne hb]; exact e, fun b n n2 => by
  by_cases hb : b = a
  · subst hb; rw [h] at n; cases n
  · rw [Store.set_ne hb] at n2; exact absurd n n2⟩
theorem SOk.mut {a : Addr} {u : SO} (h : SOk K H a u) : ∃ o, H a = some o ∧ mutb o = true := by
  cases u with
  | lst ds => obtain ⟨xs, e, _⟩ := h; exact ⟨_, e, rfl⟩
  | dct ks ds => obtain ⟨xs, e, _⟩ := h; exact ⟨_, e, rfl⟩
  | ins C ks ds => obtain ⟨dx, xs, e, _⟩ := h; exact ⟨_, e, rfl⟩
  | tab q => obtain ⟨ps, e, _⟩ := h; exact ⟨_, e, rfl⟩
theorem SRel.setS (r : SRel K S H) {a : Addr} {o : HO} {u u' : SO} (h : S a = some u') (k : Imm H (upd H a o) → SOk K (upd H a o) a u) : SRel K (S.set a u) (upd H a o) := by
  obtain ⟨o', e', m⟩ := (r a u' h).mut
  have i : Imm H (upd H a o) := upd_immS e' m
  intro b w e
  by_cases hb : b = a
  · subst hb
    rw [Store.set_same] at e
    cases e
    exact k i
  · rw [Store.set_ne hb] at e
    exact (r b w e).imm i fun z q => by rw [upd_ne hb]; exact q
/-- an object of the store locked for good -/
theorem evo_frz {a : Addr} {o : HO} {u' : SO} (h : S a = some u') : Evo S H (S.del a) (upd H a o) := ⟨fun b w e n _ => by
  by_cases hb : b = a
  · subst hb; rw [h] at n; cases n
  · rw [upd_ne hb]; exact e, fun b n n2 => by
  by_cases hb : b = a
  · subst hb; rw [h] at n; cases n
  · rw [Store.del_ne hb] at n2; exact absurd n n2⟩
theorem SRel.frz (r : SRel K S H) {a : Addr} {o : HO} {u' : SO} (h : S a = some u') : Imm H (upd H a o) ∧ SRel K (S.del a) (upd H a o) := by
  obtain ⟨o', e', m⟩ := (r a u' h).mut
  have i : Imm H (upd H a o) := upd_immS e' m
  refine ⟨i, fun b w e => ?_⟩
  by_cases hb : b = a
  · subst hb
    rw [Store.del_same] at e
    cases e
  · rw [Store.del_ne hb] at e
    exact (r b w e).imm i fun z q => by rw [upd_ne hb]; exact q
/-- forgetting what the store shows -/
def Sub (S S' : Store) : Prop := ∀ a o, S a = some o → S' a = some o
theorem SRel.sub (r : SRel K S' H) (s : Sub S S') : SRel K S H := fun a o e => r a o (s a o e)
end
end MP

set_option Elab.async false
set_option linter.all false
set_option maxRecDepth 100000
/-! MPExpr: the readings of expressions over data; names, constants, displays, operators, comparisons, tests. -/
namespace MP
open PySem PyProof.Rows PySem.Spec L2

/-- an exception: its class, the fields of its own dict -/
structure Exn where
  cls : Value
  ks : List Str := []
  xs : List D := []
def ExnR (K : PySem.W.Frag) (H : Hp) (x : Exn) (c : Value) (dd : Option Addr) : Prop :=
  c = x.cls ∧ ∃ vs, XdAt H x.ks dd vs ∧ x.ks.length = x.xs.length ∧ Rels K H x.xs vs
theorem ExnR.imm {K : PySem.W.Frag} {H H' : Hp} (i : Imm H H') {x : Exn} {c : Value} {dd : Option Addr} (h : ExnR K H x c dd) : ExnR K H' x c dd :=
  let ⟨e, vs, a, l, r⟩ := h
  ⟨e, vs, i.xd a, l, Rels.imm i _ _ r⟩

abbrev Post := D → Store → Prop
abbrev XPost := Exn → Store → Prop
abbrev ET := Env → Store → Post → XPost → Prop
abbrev EA := Env → Store → (List D → Store → Prop) → XPost → Prop
abbrev EB := Env → Store → (Bool → Store → Prop) → XPost → Prop

section
variable (K : PySem.W.Frag)
/-- the data's end Qd leads to the end Q -/
def LQ (S : Store) (H : Hp) (Qd : Post) (Q : VK) : Prop := ∀ d S' v H', Evo S H S' H' → SRel K S' H' → Rel K H' d v → Qd d S' → Q v H'
def LQs (n : Nat) (S : Store) (H : Hp) (Qd : List D → Store → Prop) (Q : List V → Hp → Prop) : Prop := ∀ ds S' vs H', Evo S H S' H' → SRel K S' H' → Rels K H' ds vs → ds.length = n → Qd ds S' → Q vs H'
def LQb (S : Store) (H : Hp) (Qd : Bool → Store → Prop) (Q : Bool → Hp → Prop) : Prop := ∀ b S' H', Evo S H S' H' → SRel K S' H' → Qd b S' → Q b H'
def LX (S : Store) (H : Hp) (Ed : XPost) (E : XK) : Prop := ∀ x S' c dd H', Evo S H S' H' → SRel K S' H' → ExnR K H' x c dd → Ed x S' → E c dd H'
def rdE (W : WX) (f : ET) : TE := fun σ H Q => ∃ ρ S Qd Ed, EnvR K H ρ σ ∧ SRel K S H ∧ f ρ S Qd Ed ∧ LQ K S H Qd Q ∧ LX K S H Ed (fun c dd H' => W c dd σ H')
def rdA (W : WX) (n : Nat) (f : EA) : TA := fun σ H Q => ∃ ρ S Qd Ed, EnvR K H ρ σ ∧ SRel K S H ∧ f ρ S Qd Ed ∧ LQs K n S H Qd Q ∧ LX K S H Ed (fun c dd H' => W c dd σ H')
def rdB (W : WX) (f : EB) : TT := fun σ H Q => ∃ ρ S Qd Ed, EnvR K H ρ σ ∧ SRel K S H ∧ f ρ S Qd Ed ∧ LQb K S H Qd Q ∧ LX K S H Ed (fun c dd H' => W c dd σ H')
end
section
variable {K : PySem.W.Frag} {S S1 : Store} {H H1 : Hp}
theorem LQ.mono {Qd : Post} {Q : VK} (l : LQ K S H Qd Q) (e : Evo S H S1 H1) : LQ K S1 H1 Qd Q := fun d S' v H' e' r q h => l d S' v H' (e.trans e') r q h
theorem LQs.mono {n : Nat} {Qd : List D → Store → Prop} {Q : List V → Hp → Prop} (l : LQs K n S H Qd Q) (e : Evo S H S1 H1) : LQs K n S1 H1 Qd Q := fun d S' v H' e' r q k h => l d S' v H' (e.trans e') r q k h
theorem LQb.mono {Qd : Bool → Store → Prop} {Q : Bool → Hp → Prop} (l : LQb K S H Qd Q) (e : Evo S H S1 H1) : LQb K S1 H1 Qd Q := fun d S' H' e' r h => l d S' H' (e.trans e') r h
theorem LX.mono {Ed : XPost} {E : XK} (l : LX K S H Ed E) (e : Evo S H S1 H1) : LX K S1 H1 Ed E := fun x S' c dd H' e' r q h => l x S' c dd H' (e.trans e') r q h
end

theorem PE_imp {X : Cx} {e : Expr} {t t' : TE} (h : PE X e t) (i : ∀ σ H Q, t' σ H Q → t σ H Q) : PE X e t' := ⟨fun pins s σ H Q I q => h.run pins s σ H Q I (i σ H Q q)⟩
theorem PT_imp {X : Cx} {e : Expr} {t t' : TT} (h : PT X e t) (i : ∀ σ H Q, t' σ H Q → t σ H Q) : PT X e t' := ⟨fun pins s σ H Q I q => h.run pins s σ H Q I (i σ H Q q)⟩
theorem PW_imp {X : Cx} {e : Expr} {t t' : TT} (h : PW X e t) (i : ∀ σ H Q, t' σ H Q → t σ H Q) : PW X e t' := ⟨fun w pins s σ H Q I q => h.run w pins s σ H Q I (i σ H Q q)⟩
theorem PA_imp {X : Cx} {e : List Expr} {t t' : TA} (h : PA X e t) (i : ∀ σ H Q, t' σ H Q → t σ H Q) : PA X e t' := ⟨fun p pins s σ H Q I q => h.run p pins s σ H Q I (i σ H Q q)⟩

/-! ### a new list is locked, or the store shows it -/
/-- the end Q, where a list or a dict just made may be locked first -/
def FzQ (Q : VK) (v : V) (H : Hp) : Prop := Q v H ∨ (∃ a xs, v = .ref a ∧ H a = some (.lst xs) ∧ ∀ o, Q v (upd H a (.frz o (.lst xs)))) ∨ (∃ a xs, v = .ref a ∧ H a = some (.dK xs) ∧ ∀ o, Q v (upd H a (.frz o (.dK xs))))
def tFz (te : TE) : TE := fun σ H Q => te σ H (FzQ Q)
theorem Inv.frz {X : Cx} {pins : List (Addr × Obj)} {σ : L2.St} {H : Hp} {s : Shared} {a : Addr} {u : HO} (I : Inv X pins σ H s) (h : H a = some u) (nt : ∀ xs, u ≠ .tup xs) (nf : ∀ o w, u ≠ .frz o w) (nb : ∀ ps, u ≠ .tbl ps) (no : ∀ x, u ≠ .own x) (ho : ∃ o, s.heap.get? a = some o) :
    ∃ o, Inv X pins σ (upd H a (.frz o u)) s := by
  have hok := I.hok a u h
  obtain ⟨o, ho⟩ := ho
  refine ⟨o, ?_⟩
  have un : Un X.fs [] H (upd H a (.frz o u)) s.heap s.heap := by
    refine ⟨fun b ob q _ _ _ => q, fun b ob q _ _ _ => ⟨ob.slots, q⟩, fun b ob q n _ => ?_, fun b ob q _ => ⟨ob, q⟩, fun b xs e => ?_, fun b ob w e => ?_, fun b ps e => ?_⟩
    · rw [upd_ne (fun z => by subst z; rw [h] at n; cases n)]; exact n
    · rw [upd_ne (fun z => by subst z; rw [h] at e; cases e; exact nt _ rfl)]; exact e
    · rw [upd_ne (fun z => by subst z; rw [h] at e; cases e; exact nf _ _ rfl)]; exact e
    · exact ⟨#[], by rw [upd_ne (fun z => by subst z; rw [h] at e; cases e; exact nb _ rfl), e]; simp⟩
  have hk : HOk X.prog X.w (upd H a (.frz o u)) s.heap := fun b w e => by
    by_cases hb : b = a
    · subst hb
      rw [upd_same] at e
      cases e
      refine ⟨ho, hok.stay (fun _ _ _ q => q) (fun c q => ?_) fun c xs q => ?_⟩
      · rw [upd_ne (fun z => by subst z; rw [h] at q; cases q; exact no _ rfl)]; exact q
      · rw [upd_ne (fun z => by subst z; rw [h] at q; cases q; exact nt _ rfl)]; exact q
    · rw [upd_ne hb] at e
      refine (I.hok b w e).stay (fun _ _ _ q => q) (fun c q => ?_) fun c xs q => ?_
      · rw [upd_ne (fun z => by subst z; rw [h] at q; cases q; exact no _ rfl)]; exact q
      · rw [upd_ne (fun z => by subst z; rw [h] at q; cases q; exact nt _ rfl)]; exact q
  exact I.un (t' := s.toks) un hk
theorem pe_fz {X : Cx} {e : Expr} {te : TE} (he : PE X e te) : PE X e (tFz te) := by
  refine ⟨fun pins s σ H Q I h => thn (he.run pins s σ H _ I h) fun u s1 ⟨v, H1, I1, r1, q1⟩ => ?_⟩
  rcases q1 with q1 | ⟨a, xs, e1, ha, q1⟩ | ⟨a, xs, e1, ha, q1⟩
  · exact ⟨v, H1, I1, r1, q1⟩
  · obtain ⟨o, J⟩ := Inv.frz I1 ha (fun _ => nofun) (fun _ _ => nofun) (fun _ => nofun) (fun _ => nofun) (by obtain ⟨_, its, n, _, e⟩ := I1.hok a _ ha; exact ⟨_, e⟩)
    exact ⟨v, _, J, r1, q1 o⟩
  · obtain ⟨o, J⟩ := Inv.frz I1 ha (fun _ => nofun) (fun _ _ => nofun) (fun _ => nofun) (fun _ => nofun) (by obtain ⟨_, _, vs, _, o, _, _, e, _⟩ := I1.hok a _ ha; exact ⟨o, e⟩)
    exact ⟨v, _, J, r1, q1 o⟩

/-- how a new list is kept -/
abbrev MkT := List D → Store → Post → Prop
def mkF : MkT := fun ds S Q => Q (.lst ds) S
def mkM : MkT := fun ds S Q => ∀ a, S a = none → Q (.ref a) (S.set a (.lst ds))
def MkOk (K : PySem.W.Frag) (mk : MkT) : Prop := ∀ S H ds xs p Qd Q, SRel K S H → H p = none → Rels K H ds xs → mk ds S Qd → LQ K S H Qd Q → FzQ Q (.ref p) (upd H p (.lst xs))
theorem new_tup {K : PySem.W.Frag} {S : Store} {H : Hp} {ds : List D} {xs : List V} {p : Addr} {Qd : Post} {Q : VK} (r : SRel K S H) (hp : H p = none) (rs : Rels K H ds xs) (q : Qd (.tup ds) S) (l : LQ K S H Qd Q) : Q (.ref p) (upd H p (.tup xs)) :=
  l (.tup ds) S _ _ (evo_new hp) (r.upd_new hp) ⟨p, xs, rfl, SqT.of upd_same, Rels.imm (upd_imm hp) _ _ rs⟩ q
theorem mkF_ok (K : PySem.W.Frag) : MkOk K mkF := by
  intro S H ds xs p Qd Q r hp rs q l
  refine .inr (.inl ⟨p, xs, rfl, upd_same, fun o => ?_⟩)
  rw [upd_upd]
  exact l (.lst ds) S _ _ (evo_new hp) (r.upd_new hp) ⟨p, xs, rfl, ⟨o, upd_same⟩, Rels.imm (upd_imm hp) _ _ rs⟩ q
theorem mkM_ok (K : PySem.W.Frag) : MkOk K mkM := by
  intro S H ds xs p Qd Q r hp rs q l
  exact .inl (l (.ref p) (S.set p (.lst ds)) _ _ (evo_newS hp) (r.newS hp ⟨xs, upd_same, Rels.imm (upd_imm hp) _ _ rs⟩) rfl (q p (r.free hp)))
/-- how a new dict is kept -/
abbrev MkDT := List Key → List D → Store → Post → Prop
def mkDF : MkDT := fun ks ds S Q => Q (.dct ks ds) S
def mkDM : MkDT := fun ks ds S Q => ∀ a, S a = none → Q (.ref a) (S.set a (.dct ks ds))
def MkDOk (K : PySem.W.Frag) (mk : MkDT) : Prop := ∀ S H ks ds xs p Qd Q, SRel K S H → H p = none → ks.length = ds.length → Rels K H ds xs → mk ks ds S Qd → LQ K S H Qd Q → FzQ Q (.ref p) (upd H p (.dK (ks.zip xs)))
theorem mkDF_ok (K : PySem.W.Frag) : MkDOk K mkDF := by
  intro S H ks ds xs p Qd Q r hp hl rs q l
  refine .inr (.inr ⟨p, _, rfl, upd_same, fun o => ?_⟩)
  rw [upd_upd]
  exact l (.dct ks ds) S _ _ (evo_new hp) (r.upd_new hp) ⟨p, xs, rfl, ⟨o, upd_same⟩, hl, Rels.imm (upd_imm hp) _ _ rs⟩ q
theorem mkDM_ok (K : PySem.W.Frag) : MkDOk K mkDM := by
  intro S H ks ds xs p Qd Q r hp hl rs q l
  exact .inl (l (.ref p) (S.set p (.dct ks ds)) _ _ (evo_newS hp) (r.newS hp ⟨xs, upd_same, hl, Rels.imm (upd_imm hp) _ _ rs⟩) rfl (q p (r.free hp)))

/-! ### names, constants -/
def evC (d : D) : ET := fun _ S Q _ => Q d S
def evV (i : Nat) : ET := fun ρ S Q _ => match lk ρ i with
  | some d => Q d S
  | none => False
section
variable {X : Cx} {W : WX} {pos : Pos}
theorem e_var {i : Nat} {x : Str} (h : PE X (.Name x pos) (tVar i)) : PE X (.Name x pos) (rdE X.K W (evV i)) := by
  refine PE_imp h fun σ H Q ⟨ρ, S, Qd, Ed, hρ, hS, hf, lq, _⟩ => ?_
  unfold evV at hf
  split at hf
  · rename_i d e
    obtain ⟨v, a, b⟩ := hρ.get e
    exact ⟨v, a, lq _ _ _ _ (Evo.refl _ _) hS b hf⟩
  · exact hf.elim
theorem e_const {e : Expr} {v : V} {d : D} (h : PE X e (tC v)) (r : ∀ H, Rel X.K H d v) : PE X e (rdE X.K W (evC d)) := by
  refine PE_imp h fun σ H Q ⟨ρ, S, Qd, Ed, hρ, hS, hf, lq, _⟩ => lq _ _ _ _ (Evo.refl _ _) hS (r H) hf
theorem e_int {i j} : PE X (.Constant (.int i) j pos) (rdE X.K W (evC (.int i))) := e_const pe_int fun _ => rfl
theorem e_bl {b j} : PE X (.Constant (.bool b) j pos) (rdE X.K W (evC (.bl b))) := e_const pe_bl fun _ => rfl
theorem e_non {j} : PE X (.Constant .none j pos) (rdE X.K W (evC .non)) := e_const pe_non fun _ => rfl
theorem e_str {x j} : PE X (.Constant (.str x) j pos) (rdE X.K W (evC (.str x))) := e_const pe_str fun _ => rfl
end

/-! ### arguments, displays -/
def aNil : EA := fun _ S Q _ => Q [] S
def aCons (f : ET) (g : EA) : EA := fun ρ S Q E => f ρ S (fun d S1 => g ρ S1 (fun ds S2 => Q (d :: ds) S2) E) E
def evTup (g : EA) : ET := fun ρ S Q E => g ρ S (fun ds S1 => Q (.tup ds) S1) E
def evLst (mk : MkT) (g : EA) : ET := fun ρ S Q E => g ρ S (fun ds S1 => mk ds S1 Q) E
section
variable {X : Cx} {W : WX} {pos : Pos} {e : Expr} {es : List Expr} {f : ET} {g : EA} {n : Nat}
theorem a_nil : PA X [] (rdA X.K W 0 aNil) := PA_imp pa_nil fun σ H Q ⟨ρ, S, Qd, Ed, hρ, hS, hf, lq, _⟩ => lq [] S [] H (Evo.refl _ _) hS rfl rfl hf
theorem a_cons (he : PE X e (rdE X.K W f)) (hr : PA X es (rdA X.K W n g)) (hs : starEach (e :: es) X.env = (false, eval e X.env) :: starEach es X.env := by rfl) : PA X (e :: es) (rdA X.K W (n + 1) (aCons f g)) := by
  refine PA_imp (pa_cons he hr hs) fun σ H Q ⟨ρ, S, Qd, Ed, hρ, hS, hf, lq, lx⟩ => ?_
  refine ⟨ρ, S, _, Ed, hρ, hS, hf, fun d S1 v H1 e1 r1 q1 h1 => ?_, lx⟩
  refine ⟨ρ, S1, _, Ed, hρ.imm (e1.imm hS), r1, h1, fun ds S2 vs H2 e2 r2 q2 hl h2 => ?_, lx.mono e1⟩
  exact lq (d :: ds) S2 _ H2 (e1.trans e2) r2 ⟨v, vs, rfl, Rel.imm (e2.imm r1) _ _ q1, q2⟩ (by simp [hl]) h2
theorem le_line {n : Nat} (h : n ≤ 1000) : n ≤ sizeLine := Nat.le_of_lt (small1000 h)
theorem e_tup {x1} (h : PA X es (rdA X.K W n g)) (hn : n ≤ 1000 := by decide) : PE X (.Tuple es x1 pos) (rdE X.K W (evTup g)) := by
  refine PE_imp (pe_tup h) fun σ H Q ⟨ρ, S, Qd, Ed, hρ, hS, hf, lq, lx⟩ => ?_
  refine ⟨ρ, S, _, Ed, hρ, hS, hf, fun ds S1 vs H1 e1 r1 q1 hl h1 => ⟨?_, fun p hp => new_tup r1 hp q1 h1 (lq.mono e1)⟩, lx⟩
  rw [← q1.length, hl]
  exact le_line hn
theorem e_lst {mk : MkT} (hm : MkOk X.K mk) (h : PA X es (rdA X.K W n g)) (hn : n ≤ 1000 := by decide) : PE X (.List es pos) (rdE X.K W (evLst mk g)) := by
  refine PE_imp (pe_fz (pe_lst h)) fun σ H Q ⟨ρ, S, Qd, Ed, hρ, hS, hf, lq, lx⟩ => ?_
  refine ⟨ρ, S, _, Ed, hρ, hS, hf, fun ds S1 vs H1 e1 r1 q1 hl h1 => ⟨?_, fun p hp => hm _ _ _ _ _ _ _ r1 hp q1 h1 (lq.mono e1)⟩, lx⟩
  rw [← q1.length, hl]
  exact le_line hn
end

/-! ### operators -/
abbrev G2 := D → D → Store → Post → Prop
def OpD (K : PySem.W.Frag) (r : R2) (g : G2) : Prop := ∀ x y S H dx dy Qd Q, SRel K S H → Rel K H dx x → Rel K H dy y → g dx dy S Qd → LQ K S H Qd Q → r x y H (FzQ Q)
def bin (g : G2) (fa fb : ET) : ET := fun ρ S Q E => fa ρ S (fun x S1 => fb ρ S1 (fun y S2 => g x y S2 Q) E) E
section
variable {X : Cx} {W : WX} {pos : Pos} {a b : Expr} {fa fb : ET} {g : G2} {r : R2}
theorem bin_rd (hg : OpD X.K r g) (σ : L2.St) (H : Hp) (Q : VK) (h : rdE X.K W (bin g fa fb) σ H Q) : tFz (tOp r (rdE X.K W fa) (rdE X.K W fb)) σ H Q := by
  obtain ⟨ρ, S, Qd, Ed, hρ, hS, hf, lq, lx⟩ := h
  refine ⟨ρ, S, _, Ed, hρ, hS, hf, fun d1 S1 v1 H1 e1 r1 q1 h1 => ?_, lx⟩
  refine ⟨ρ, S1, _, Ed, hρ.imm (e1.imm hS), r1, h1, fun d2 S2 v2 H2 e2 r2 q2 h2 => ?_, lx.mono e1⟩
  exact hg _ _ _ _ _ _ _ _ r2 (Rel.imm (e2.imm r1) _ _ q1) q2 h2 (lq.mono (e1.trans e2))
theorem e_op {op : Operator} (ho : OpR X (binaryOp op) r) (hg : OpD X.K r g) (ha : PE X a (rdE X.K W fa)) (hb : PE X b (rdE X.K W fb)) : PE X (.BinOp a op b pos) (rdE X.K W (bin g fa fb)) :=
  PE_imp (pe_fz (pe_op ho ha hb)) (bin_rd hg)
theorem e_cmp {op : CmpOp} (ho : OpR X (compareOp op) r) (hg : OpD X.K r g) (ha : PE X a (rdE X.K W fa)) (hb : PE X b (rdE X.K W fb)) (hm : behindInMarks op b = false := by first | exact nomark _ | rfl | with_unfolding_all rfl) : PE X (.Compare a [op] [b] pos) (rdE X.K W (bin g fa fb)) :=
  PE_imp (pe_fz (pe_cmpR ho ha hb hm)) (bin_rd hg)
theorem e_ix (ho : IxR X r) (hg : OpD X.K r g) (ha : PE X a (rdE X.K W fa)) (hb : PE X b (rdE X.K W fb)) (hs : PlainIx b := by exact fun _ _ => rfl) : PE X (.Subscript a b pos) (rdE X.K W (bin g fa fb)) :=
  PE_imp (pe_fz (pe_ix ho ha hb hs)) (bin_rd hg)
end
abbrev G1 := D → Store → Post → Prop
def UnD (K : PySem.W.Frag) (r : V → Hp → VK → Prop) (g : G1) : Prop := ∀ x S H dx Qd Q, SRel K S H → Rel K H dx x → g dx S Qd → LQ K S H Qd Q → r x H Q
def una (g : G1) (fa : ET) : ET := fun ρ S Q E => fa ρ S (fun x S1 => g x S1 Q) E
section
variable {X : Cx} {W : WX} {pos : Pos} {a : Expr} {fa : ET} {g : G1} {r : V → Hp → VK → Prop}
theorem e_un {op : UnaryOp} (ho : UnR X (unaryOp op) r) (hg : UnD X.K r g) (ha : PE X a (rdE X.K W fa)) : PE X (.UnaryOp op a pos) (rdE X.K W (una g fa)) := by
  refine PE_imp (pe_un ho ha) fun σ H Q ⟨ρ, S, Qd, Ed, hρ, hS, hf, lq, lx⟩ => ?_
  exact ⟨ρ, S, _, Ed, hρ, hS, hf, fun d1 S1 v1 H1 e1 r1 q1 h1 => hg _ _ _ _ _ _ r1 q1 h1 (lq.mono e1), lx⟩
end

/-! ### tests -/
/-- truth; a tracked object of the store by what it holds -/
def tru : D → Store → Option Bool
  | .non, _ => some false
  | .bl b, _ => some b
  | .int i, _ => some (i != 0)
  | .tup xs, _ => some (!xs.isEmpty)
  | .lst xs, _ => some (!xs.isEmpty)
  | .kls xs, _ => some (!xs.isEmpty)
  | .ref a, S => match S a with
    | some (.lst xs) => some (!xs.isEmpty)
    | some (.dct ks _) => some (!ks.isEmpty)
    | _ => none
  | _, _ => none
theorem isEmpty_rels {K : PySem.W.Frag} {H : Hp} {ds : List D} {xs : List V} (r : Rels K H ds xs) : ds.isEmpty = xs.isEmpty := by
  have := r.length
  cases ds <;> cases xs <;> simp_all
theorem tru_rel {K : PySem.W.Frag} {S : Store} {H : Hp} {d : D} {v : V} {b : Bool} (hS : SRel K S H) (r : Rel K H d v) (h : tru d S = some b) : TruV K v H b := by
  cases d with
  | non => cases h; have e : v = _ := r; subst e; rfl
  | bl b => cases h; have e : v = _ := r; subst e; rfl
  | int i => cases h; have e : v = _ := r; subst e; rfl
  | str x => cases h
  | ty n => cases h
  | exn c a ks xs => cases h
  | dct ks xs => cases h
  | tup ds => cases h; obtain ⟨a, xs, rfl, hq, rs⟩ := r; exact .inr (.inl ⟨xs, hq, by rw [isEmpty_rels rs]⟩)
  | kls ds => cases h; obtain ⟨a, xs, rfl, hq, rs⟩ := r; exact .inl ⟨xs, hq.seq, by rw [isEmpty_rels rs]⟩
  | lst ds => cases h; obtain ⟨a, xs, rfl, hq, rs⟩ := r; exact .inl ⟨xs, hq.seq, by rw [isEmpty_rels rs]⟩
  | ref a =>
    have e : v = _ := r
    subst e
    unfold tru at h
    dsimp only at h
    split at h
    · rename_i xs q
      cases h
      obtain ⟨ys, e, rs⟩ := hS _ _ q
      exact .inl ⟨ys, SqL.of e, by rw [isEmpty_rels rs]⟩
    · rename_i ks xs q
      cases h
      obtain ⟨ys, e, hl, rs⟩ := hS _ _ q
      refine .inr (.inr ⟨_, e, ?_⟩)
      have := rs.length
      cases ks <;> cases ys <;> simp_all
    · cases h
def bV (f : ET) : EB := fun ρ S Q E => f ρ S (fun d S1 => match tru d S1 with | some b => Q b S1 | none => False) E
def bAnd (f g : EB) : EB := fun ρ S Q E => f ρ S (fun b S1 => if b = true then g ρ S1 Q E else Q false S1) E
def bOr (f g : EB) : EB := fun ρ S Q E => f ρ S (fun b S1 => if b = true then Q true S1 else g ρ S1 Q E) E
def bNot (f : EB) : EB := fun ρ S Q E => f ρ S (fun b S1 => Q (!b) S1) E
section
variable {X : Cx} {W : WX} {pos : Pos} {a b c : Expr} {rest : List Expr} {fa fb fc : ET} {ga gb : EB} {g g' : G2} {r r' : R2}
theorem t_val (ha : PE X a (rdE X.K W fa)) (he : ∀ whole, isTrue a X.env whole = (do let v ← whole; standAt a.pos; holding [v] (truthy v)) := by exact fun _ => rfl) : PT X a (rdB X.K W (bV fa)) := by
  refine PT_imp (pt_truth ha he) fun σ H Q ⟨ρ, S, Qd, Ed, hρ, hS, hf, lq, lx⟩ => ?_
  refine ⟨ρ, S, _, Ed, hρ, hS, hf, fun d1 S1 v1 H1 e1 r1 q1 h1 => ?_, lx⟩
  dsimp only at h1
  split at h1
  · rename_i b hb
    exact ⟨b, tru_rel r1 q1 hb, lq b S1 H1 e1 r1 h1⟩
  · exact h1.elim
/-- a comparison as a test: its value is a bool -/
def bB (f : ET) : EB := fun ρ S Q E => f ρ S (fun d S1 => match d with | .bl b => Q b S1 | _ => False) E
def Bools (r : R2) : Prop := ∀ x y H Q, r x y H (FzQ Q) → r x y H Q
theorem t_cmp {op : CmpOp} (ho : OpR X (compareOp op) r) (hg : OpD X.K r g) (hz : Bools r) (ha : PE X a (rdE X.K W fa)) (hb : PE X b (rdE X.K W fb)) (hm : behindInMarks op b = false := by first | exact nomark _ | rfl | with_unfolding_all rfl) : PT X (.Compare a [op] [b] pos) (rdB X.K W (bB (bin g fa fb))) := by
  refine PT_imp (pt_cmpR ho ha hb hm) fun σ H Q ⟨ρ, S, Qd, Ed, hρ, hS, hf, lq, lx⟩ => ?_
  refine ⟨ρ, S, _, Ed, hρ, hS, hf, fun d1 S1 v1 H1 e1 r1 q1 h1 => ?_, lx⟩
  refine ⟨ρ, S1, _, Ed, hρ.imm (e1.imm hS), r1, h1, fun d2 S2 v2 H2 e2 r2 q2 h2 => ?_, lx.mono e1⟩
  refine hz _ _ _ _ (hg _ _ _ _ _ _ _ _ r2 (Rel.imm (e2.imm r1) _ _ q1) q2 h2 fun d3 S3 v3 H3 e3 r3 q3 h3 => ?_)
  cases d3 with
  | bl k => exact ⟨k, q3, lq k S3 H3 ((e1.trans e2).trans e3) r3 h3⟩
  | _ => exact h3.elim
theorem t_not (ha : PT X a (rdB X.K W ga)) : PT X (.UnaryOp .Not a pos) (rdB X.K W (bNot ga)) :=
  PT_imp (pt_not ha) fun σ H Q ⟨ρ, S, Qd, Ed, hρ, hS, hf, lq, lx⟩ => ⟨ρ, S, _, Ed, hρ, hS, hf, fun b S1 H1 e1 r1 h1 => lq _ _ _ e1 r1 h1, lx⟩
theorem w_and1 (ha : PT X a (rdB X.K W ga)) : PW X (.BoolOp .And [a] pos) (rdB X.K W ga) := pw_and1 ha
theorem w_or1 (ha : PT X a (rdB X.K W ga)) : PW X (.BoolOp .Or [a] pos) (rdB X.K W ga) := pw_or1 ha
theorem w_and (ha : PT X a (rdB X.K W ga)) (hb : PW X (.BoolOp .And (b :: rest) pos) (rdB X.K W gb)) : PW X (.BoolOp .And (a :: b :: rest) pos) (rdB X.K W (bAnd ga gb)) := by
  refine PW_imp (pw_and ha hb) fun σ H Q ⟨ρ, S, Qd, Ed, hρ, hS, hf, lq, lx⟩ => ?_
  refine ⟨ρ, S, _, Ed, hρ, hS, hf, fun b S1 H1 e1 r1 h1 => ?_, lx⟩
  cases b with
  | true => rw [if_pos rfl] at h1 ⊢; exact ⟨ρ, S1, _, Ed, hρ.imm (e1.imm hS), r1, h1, lq.mono e1, lx.mono e1⟩
  | false => rw [if_neg (nofun : ¬ false = true)] at h1 ⊢; exact lq _ _ _ e1 r1 h1
theorem w_or (ha : PT X a (rdB X.K W ga)) (hb : PW X (.BoolOp .Or (b :: rest) pos) (rdB X.K W gb)) : PW X (.BoolOp .Or (a :: b :: rest) pos) (rdB X.K W (bOr ga gb)) := by
  refine PW_imp (pw_or ha hb) fun σ H Q ⟨ρ, S, Qd, Ed, hρ, hS, hf, lq, lx⟩ => ?_
  refine ⟨ρ, S, _, Ed, hρ, hS, hf, fun b S1 H1 e1 r1 h1 => ?_, lx⟩
  cases b with
  | true => rw [if_pos rfl] at h1 ⊢; exact lq _ _ _ e1 r1 h1
  | false => rw [if_neg (nofun : ¬ false = true)] at h1 ⊢; exact ⟨ρ, S1, _, Ed, hρ.imm (e1.imm hS), r1, h1, lq.mono e1, lx.mono e1⟩
theorem w_pt (h : PW X a (rdB X.K W ga)) : PT X a (rdB X.K W ga) := h.pt
/-! chains -/
def chn (g g' : G2) (fa fb fc : ET) : ET := fun ρ S Q E => fa ρ S (fun x S1 => fb ρ S1 (fun y S2 => g x y S2 fun z S3 => match z with
  | .bl true => fc ρ S3 (fun u S4 => g' y u S4 Q) E
  | .bl false => Q (.bl false) S3
  | _ => False) E) E
theorem chn_rd (hg : OpD X.K r g) (hg' : OpD X.K r' g') (hz : Bools r) (hz' : Bools r') (σ : L2.St) (H : Hp) (Q : VK) (h : rdE X.K W (chn g g' fa fb fc) σ H Q) : tChain r r' (rdE X.K W fa) (rdE X.K W fb) (rdE X.K W fc) σ H Q := by
  obtain ⟨ρ, S, Qd, Ed, hρ, hS, hf, lq, lx⟩ := h
  refine ⟨ρ, S, _, Ed, hρ, hS, hf, fun d1 S1 v1 H1 e1 r1 q1 h1 => ?_, lx⟩
  refine ⟨ρ, S1, _, Ed, hρ.imm (e1.imm hS), r1, h1, fun d2 S2 v2 H2 e2 r2 q2 h2 => ?_, lx.mono e1⟩
  have e12 := e1.trans e2
  refine hz _ _ _ _ (hg _ _ _ _ _ _ _ _ r2 (Rel.imm (e2.imm r1) _ _ q1) q2 h2 fun d3 S3 v3 H3 e3 r3 q3 h3 => ?_)
  have e13 := e12.trans e3
  split at h3
  · have e : v3 = _ := q3
    subst e
    refine ⟨true, rfl, ?_⟩
    rw [if_pos rfl]
    refine ⟨ρ, S3, _, Ed, hρ.imm (e13.imm hS), r3, h3, fun d4 S4 v4 H4 e4 r4 q4 h4 => ?_, lx.mono e13⟩
    exact hz' _ _ _ _ (hg' _ _ _ _ _ _ _ _ r4 (Rel.imm ((e3.trans e4).imm r2) _ _ q2) q4 h4 (lq.mono (e13.trans e4)))
  · have e : v3 = _ := q3
    subst e
    refine ⟨false, rfl, ?_⟩
    rw [if_neg (nofun : ¬ false = true)]
    exact lq (.bl false) _ _ _ e13 r3 rfl h3
  · exact h3.elim
theorem e_chain {op op' : CmpOp} (ho : OpR X (compareOp op) r) (ho' : OpR X (compareOp op') r') (hg : OpD X.K r g) (hg' : OpD X.K r' g') (hz : Bools r) (hz' : Bools r')
    (ha : PE X a (rdE X.K W fa)) (hb : PE X b (rdE X.K W fb)) (hc : PE X c (rdE X.K W fc)) (hm : lastMarks [op, op'] [b, c] = false := by with_unfolding_all rfl) : PE X (.Compare a [op, op'] [b, c] pos) (rdE X.K W (chn g g' fa fb fc)) :=
  PE_imp (pe_chain ho ho' ha hb hc hm) (chn_rd hg hg' hz hz')
theorem t_chain {op op' : CmpOp} (ho : OpR X (compareOp op) r) (ho' : OpR X (compareOp op') r') (hg : OpD X.K r g) (hg' : OpD X.K r' g') (hz : Bools r) (hz' : Bools r')
    (ha : PE X a (rdE X.K W fa)) (hb : PE X b (rdE X.K W fb)) (hc : PE X c (rdE X.K W fc)) (hm : lastMarks [op, op'] [b, c] = false := by with_unfolding_all rfl) : PT X (.Compare a [op, op'] [b, c] pos) (rdB X.K W (bB (chn g g' fa fb fc))) := by
  refine PT_imp (pt_chain ho ho' ha hb hc hm) fun σ H Q ⟨ρ, S, Qd, Ed, hρ, hS, hf, lq, lx⟩ => ?_
  refine chn_rd hg hg' hz hz' σ H _ ⟨ρ, S, _, Ed, hρ, hS, hf, fun d1 S1 v1 H1 e1 r1 q1 h1 => ?_, lx⟩
  cases d1 with
  | bl k => exact ⟨k, q1, lq k S1 H1 e1 r1 h1⟩
  | _ => exact h1.elim
end

/-! ### and, or, not as values; a if t else b -/
def eAnd (fa fb : ET) : ET := fun ρ S Q E => fa ρ S (fun d S1 => match tru d S1 with
  | some true => fb ρ S1 Q E
  | some false => Q d S1
  | none => False) E
def eOr (fa fb : ET) : ET := fun ρ S Q E => fa ρ S (fun d S1 => match tru d S1 with
  | some true => Q d S1
  | some false => fb ρ S1 Q E
  | none => False) E
def eNot (fa : ET) : ET := fun ρ S Q E => fa ρ S (fun d S1 => match tru d S1 with
  | some b => Q (.bl (!b)) S1
  | none => False) E
def eIf (t : EB) (fa fb : ET) : ET := fun ρ S Q E => t ρ S (fun b S1 => if b = true then fa ρ S1 Q E else fb ρ S1 Q E) E
section
variable {X : Cx} {W : WX} {pos : Pos} {a b c : Expr} {rest : List Expr} {fa fb fc : ET} {ga gb : EB}
theorem e_one {op} (h : PE X a (rdE X.K W fa)) : PE X (.BoolOp op [a] pos) (rdE X.K W fa) := pe_one h
theorem e_and (ha : PE X a (rdE X.K W fa)) (hb : PE X (.BoolOp .And (b :: rest) pos) (rdE X.K W fb)) : PE X (.BoolOp .And (a :: b :: rest) pos) (rdE X.K W (eAnd fa fb)) := by
  refine PE_imp (pe_andT ha hb) fun σ H Q ⟨ρ, S, Qd, Ed, hρ, hS, hf, lq, lx⟩ => ?_
  refine ⟨ρ, S, _, Ed, hρ, hS, hf, fun d1 S1 v1 H1 e1 r1 q1 h1 => ?_, lx⟩
  dsimp only at h1
  split at h1
  · rename_i e
    exact ⟨true, tru_rel r1 q1 e, by rw [if_pos rfl]; exact ⟨ρ, S1, _, Ed, hρ.imm (e1.imm hS), r1, h1, lq.mono e1, lx.mono e1⟩⟩
  · rename_i e
    exact ⟨false, tru_rel r1 q1 e, by rw [if_neg (nofun : ¬ false = true)]; exact lq _ _ _ _ e1 r1 q1 h1⟩
  · exact h1.elim
theorem e_or (ha : PE X a (rdE X.K W fa)) (hb : PE X (.BoolOp .Or (b :: rest) pos) (rdE X.K W fb)) : PE X (.BoolOp .Or (a :: b :: rest) pos) (rdE X.K W (eOr fa fb)) := by
  refine PE_imp (pe_orT ha hb) fun σ H Q ⟨ρ, S, Qd, Ed, hρ, hS, hf, lq, lx⟩ => ?_
  refine ⟨ρ, S, _, Ed, hρ, hS, hf, fun d1 S1 v1 H1 e1 r1 q1 h1 => ?_, lx⟩
  dsimp only at h1
  split at h1
  · rename_i e
    exact ⟨true, tru_rel r1 q1 e, by rw [if_pos rfl]; exact lq _ _ _ _ e1 r1 q1 h1⟩
  · rename_i e
    exact ⟨false, tru_rel r1 q1 e, by rw [if_neg (nofun : ¬ false = true)]; exact ⟨ρ, S1, _, Ed, hρ.imm (e1.imm hS), r1, h1, lq.mono e1, lx.mono e1⟩⟩
  · exact h1.elim
theorem e_not (ha : PE X a (rdE X.K W fa)) : PE X (.UnaryOp .Not a pos) (rdE X.K W (eNot fa)) := by
  refine PE_imp (pe_notT ha) fun σ H Q ⟨ρ, S, Qd, Ed, hρ, hS, hf, lq, lx⟩ => ?_
  refine ⟨ρ, S, _, Ed, hρ, hS, hf, fun d1 S1 v1 H1 e1 r1 q1 h1 => ?_, lx⟩
  dsimp only at h1
  split at h1
  · rename_i b e
    exact ⟨b, tru_rel r1 q1 e, lq (.bl (!b)) _ _ _ e1 r1 rfl h1⟩
  · exact h1.elim
theorem e_if (hc : PT X c (rdB X.K W ga)) (ha : PE X a (rdE X.K W fa)) (hb : PE X b (rdE X.K W fb)) : PE X (.IfExp c a b pos) (rdE X.K W (eIf ga fa fb)) := by
  refine PE_imp (pe_ifExp hc ha hb) fun σ H Q ⟨ρ, S, Qd, Ed, hρ, hS, hf, lq, lx⟩ => ?_
  refine ⟨ρ, S, _, Ed, hρ, hS, hf, fun b S1 H1 e1 r1 h1 => ?_, lx⟩
  cases b with
  | true => rw [if_pos rfl] at h1 ⊢; exact ⟨ρ, S1, _, Ed, hρ.imm (e1.imm hS), r1, h1, lq.mono e1, lx.mono e1⟩
  | false => rw [if_neg (nofun : ¬ false = true)] at h1 ⊢; exact ⟨ρ, S1, _, Ed, hρ.imm (e1.imm hS), r1, h1, lq.mono e1, lx.mono e1⟩
end
end MP

set_option Elab.async false
set_option linter.all false
set_option maxRecDepth 100000
/-! MPStmt: the readings of statements over data; loops, comprehensions; a def's promise. -/
namespace MP
open PySem PyProof.Rows PySem.Spec L2

structure DEnds where
  nx : Env → Store → Prop
  rt : Post
  ex : Exn → Env → Store → Prop
  bk : Env → Store → Prop := fun _ _ => False
  ct : Env → Store → Prop := fun _ _ => False
abbrev ST := Env → Store → DEnds → Prop
section
variable (K : PySem.W.Frag)
structure LN (S : Store) (H : Hp) (N : DEnds) (W : WX) (D : Ends) : Prop where
  nx : ∀ ρ' S' σ' H', Evo S H S' H' → SRel K S' H' → EnvR K H' ρ' σ' → N.nx ρ' S' → D.nx σ' H'
  rt : LQ K S H N.rt D.rt
  ex : ∀ x ρ' S' c dd σ' H', Evo S H S' H' → SRel K S' H' → EnvR K H' ρ' σ' → ExnR K H' x c dd → N.ex x ρ' S' → W c dd σ' H'
  bk : ∀ ρ' S' σ' H', Evo S H S' H' → SRel K S' H' → EnvR K H' ρ' σ' → N.bk ρ' S' → D.bk σ' H'
  ct : ∀ ρ' S' σ' H', Evo S H S' H' → SRel K S' H' → EnvR K H' ρ' σ' → N.ct ρ' S' → D.ct σ' H'
def rdS (W : WX) (g : ST) : TS := fun D σ H => ∃ ρ S N, EnvR K H ρ σ ∧ SRel K S H ∧ g ρ S N ∧ LN K S H N W D
end
section
variable {K : PySem.W.Frag} {S S1 : Store} {H H1 : Hp} {N : DEnds} {W : WX} {D : Ends}
theorem LN.mono (l : LN K S H N W D) (e : Evo S H S1 H1) : LN K S1 H1 N W D :=
  ⟨fun ρ' S' σ' H' e' => l.nx ρ' S' σ' H' (e.trans e'), l.rt.mono e, fun x ρ' S' c dd σ' H' e' => l.ex x ρ' S' c dd σ' H' (e.trans e'), fun ρ' S' σ' H' e' => l.bk ρ' S' σ' H' (e.trans e'), fun ρ' S' σ' H' e' => l.ct ρ' S' σ' H' (e.trans e')⟩
/-- what an expression's exception leads to -/
theorem LN.lx (l : LN K S H N W D) (hS : SRel K S H) {ρ : Env} {σ : L2.St} (hρ : EnvR K H ρ σ) : LX K S H (fun x S' => N.ex x ρ S') (fun c dd H' => W c dd σ H') :=
  fun x S' c dd H' e r q h => l.ex x ρ S' c dd σ H' e r (hρ.imm (e.imm hS)) q h
end
theorem PS_imp {X : Cx} {s : Stmt} {t t' : TS} (h : PS X s t) (i : ∀ D σ H, t' D σ H → t D σ H) : PS X s t' := ⟨fun pins s σ H D I q => h.run pins s σ H D I (i D σ H q)⟩
theorem PSs_imp {X : Cx} {s : List Stmt} {t t' : TS} (h : PSs X s t) (i : ∀ D σ H, t' D σ H → t D σ H) : PSs X s t' := ⟨fun pins s σ H D I q => h.run pins s σ H D I (i D σ H q)⟩
theorem PG_imp {X : Cx} {e : Expr} {t t' : TG} (h : PG X e t) (i : ∀ v σ H Q, t' v σ H Q → t v σ H Q) : PG X e t' := ⟨fun pins s σ H v u Q I r q => h.run pins s σ H v u Q I r (i v σ H Q q)⟩
theorem PGs_imp {X : Cx} {e : List Expr} {t t' : TGs} (h : PGs X e t) (i : ∀ v σ H Q, t' v σ H Q → t v σ H Q) : PGs X e t' := ⟨fun pins s σ H v u Q I r q => h.run pins s σ H v u Q I r (i v σ H Q q)⟩
theorem PI_imp {X : Cx} {tg e : Expr} {t t' : TI} (h : PI X tg e t) (i : ∀ σ H R, t' σ H R → t σ H R) : PI X tg e t' := ⟨fun pins s σ H R I q => h.run pins s σ H R I (i σ H R q)⟩
theorem PTs_imp {X : Cx} {e : List Expr} {t t' : TT} (h : PTs X e t) (i : ∀ σ H Q, t' σ H Q → t σ H Q) : PTs X e t' := ⟨fun pins s σ H Q I q => h.run pins s σ H Q I (i σ H Q q)⟩

/-! ### blocks, small statements -/
def dNext : ST := fun ρ S N => N.nx ρ S
def dSeq (g h : ST) : ST := fun ρ S N => g ρ S { N with nx := fun ρ' S' => h ρ' S' N }
def dExpr (f : ET) : ST := fun ρ S N => f ρ S (fun _ S' => N.nx ρ S') (fun x S' => N.ex x ρ S')
def dRet (f : ET) : ST := fun ρ S N => f ρ S N.rt (fun x S' => N.ex x ρ S')
def dRetN : ST := fun _ S N => N.rt .non S
def dBrk : ST := fun ρ S N => N.bk ρ S
def dCnt : ST := fun ρ S N => N.ct ρ S
def dIf (t : EB) (g h : ST) : ST := fun ρ S N => t ρ S (fun b S' => if b = true then g ρ S' N else h ρ S' N) (fun x S' => N.ex x ρ S')
section
variable {X : Cx} {W : WX} {pos : Pos} {s : Stmt} {rest : List Stmt} {e : Expr} {f : ET} {g h : ST} {t : EB}
theorem ss_nil : PSs X [] (rdS X.K W dNext) := PSs_imp pss_nil fun D σ H ⟨ρ, S, N, hρ, hS, hf, l⟩ => l.nx ρ S σ H (Evo.refl _ _) hS hρ hf
theorem ss_one (h1 : PS X s (rdS X.K W g)) : PSs X [s] (rdS X.K W g) := pss_one h1
theorem ss_cons (h1 : PS X s (rdS X.K W g)) (h2 : PSs X rest (rdS X.K W h)) : PSs X (s :: rest) (rdS X.K W (dSeq g h)) :=
  PSs_imp (pss_cons h1 h2) fun D σ H ⟨ρ, S, N, hρ, hS, hf, l⟩ =>
    ⟨ρ, S, _, hρ, hS, hf, ⟨fun ρ' S' σ' H' e r q k => ⟨ρ', S', N, q, r, k, l.mono e⟩, l.rt, l.ex, l.bk, l.ct⟩⟩
theorem s_pass : PS X (.Pass pos) (rdS X.K W dNext) := PS_imp ps_pass fun D σ H ⟨ρ, S, N, hρ, hS, hf, l⟩ => l.nx ρ S σ H (Evo.refl _ _) hS hρ hf
theorem s_doc {x j pos'} : PS X (.Expr (.Constant (.str x) j pos) pos') (rdS X.K W dNext) := PS_imp ps_doc fun D σ H ⟨ρ, S, N, hρ, hS, hf, l⟩ => l.nx ρ S σ H (Evo.refl _ _) hS hρ hf
theorem s_break : PS X (.Break pos) (rdS X.K W dBrk) := PS_imp ps_break fun D σ H ⟨ρ, S, N, hρ, hS, hf, l⟩ => l.bk ρ S σ H (Evo.refl _ _) hS hρ hf
theorem s_continue : PS X (.Continue pos) (rdS X.K W dCnt) := PS_imp ps_continue fun D σ H ⟨ρ, S, N, hρ, hS, hf, l⟩ => l.ct ρ S σ H (Evo.refl _ _) hS hρ hf
theorem s_expr (he : PE X e (rdE X.K W f)) (hs : swapsWith e none pos.line X.env = pure false := by rfl) : PS X (.Expr e pos) (rdS X.K W (dExpr f)) :=
  PS_imp (ps_expr he hs) fun D σ H ⟨ρ, S, N, hρ, hS, hf, l⟩ =>
    ⟨ρ, S, _, _, hρ, hS, hf, fun d S' v H' e r q k => l.nx ρ S' σ H' e r (hρ.imm (e.imm hS)) k, l.lx hS hρ⟩
theorem s_ret (he : PE X e (rdE X.K W f)) : PS X (.Return (some e) pos) (rdS X.K W (dRet f)) :=
  PS_imp (ps_ret he) fun D σ H ⟨ρ, S, N, hρ, hS, hf, l⟩ => ⟨ρ, S, _, _, hρ, hS, hf, l.rt, l.lx hS hρ⟩
theorem s_retN : PS X (.Return none pos) (rdS X.K W dRetN) := PS_imp ps_retN fun D σ H ⟨ρ, S, N, hρ, hS, hf, l⟩ => l.rt .non S .non H (Evo.refl _ _) hS rfl hf
theorem s_if {c : Expr} {a b : List Stmt} (hc : PT X c (rdB X.K W t)) (ha : PSs X a (rdS X.K W g)) (hb : PSs X b (rdS X.K W h)) : PS X (.If c a b pos) (rdS X.K W (dIf t g h)) :=
  PS_imp (ps_if hc ha hb) fun D σ H ⟨ρ, S, N, hρ, hS, hf, l⟩ => by
    refine ⟨ρ, S, _, _, hρ, hS, hf, fun b S1 H1 e1 r1 h1 => ?_, l.lx hS hρ⟩
    cases b with
    | true => rw [if_pos rfl] at h1 ⊢; exact ⟨ρ, S1, N, hρ.imm (e1.imm hS), r1, h1, l.mono e1⟩
    | false => rw [if_neg Bool.false_ne_true] at h1 ⊢; exact ⟨ρ, S1, N, hρ.imm (e1.imm hS), r1, h1, l.mono e1⟩
end

/-! ### targets, assignments -/
abbrev DG := D → Env → Store → (Env → Store → Prop) → Prop
abbrev DGs := List D → Env → Store → (Env → Store → Prop) → Prop
def LE (K : PySem.W.Frag) (S : Store) (H : Hp) (Qd : Env → Store → Prop) (Q : L2.St → Hp → Prop) : Prop := ∀ ρ' S' σ' H', Evo S H S' H' → SRel K S' H' → EnvR K H' ρ' σ' → Qd ρ' S' → Q σ' H'
theorem LE.mono {K : PySem.W.Frag} {S S1 : Store} {H H1 : Hp} {Qd : Env → Store → Prop} {Q : L2.St → Hp → Prop} (l : LE K S H Qd Q) (e : Evo S H S1 H1) : LE K S1 H1 Qd Q := fun ρ' S' σ' H' e' => l ρ' S' σ' H' (e.trans e')
def rdG (K : PySem.W.Frag) (g : DG) : TG := fun v σ H Q => ∃ ρ S d Qd, EnvR K H ρ σ ∧ SRel K S H ∧ Rel K H d v ∧ g d ρ S Qd ∧ LE K S H Qd Q
def rdGs (K : PySem.W.Frag) (g : DGs) : TGs := fun vs σ H Q => ∃ ρ S ds Qd, EnvR K H ρ σ ∧ SRel K S H ∧ Rels K H ds vs ∧ g ds ρ S Qd ∧ LE K S H Qd Q
def dgName (i : Nat) : DG := fun d ρ S Q => Q (st ρ i (some d)) S
def dgNil : DGs := fun ds ρ S Q => match ds with
  | [] => Q ρ S
  | _ => False
def dgCons (g : DG) (h : DGs) : DGs := fun ds ρ S Q => match ds with
  | d :: r => g d ρ S fun ρ1 S1 => h r ρ1 S1 Q
  | [] => False
def dgTup (n : Nat) (h : DGs) : DG := fun d ρ S Q => match d with
  | .tup ds => ds.length = n ∧ h ds ρ S Q
  | _ => False
def dAsg (f : ET) (g : DG) : ST := fun ρ S N => f ρ S (fun d S' => g d ρ S' N.nx) (fun x S' => N.ex x ρ S')
def dSet (i : Nat) (f : ET) : ST := fun ρ S N => f ρ S (fun d S' => N.nx (st ρ i (some d)) S') (fun x S' => N.ex x ρ S')
def dPar (i j : Nat) (fa : EA) : ST := fun ρ S N => fa ρ S (fun ds S' => match ds with
  | [x, y] => N.nx (st (st ρ i (some x)) j (some y)) S'
  | _ => False) (fun x S' => N.ex x ρ S')
section
variable {X : Cx} {W : WX} {pos pos' : Pos} {e tg : Expr} {es : List Expr} {f : ET} {fa : EA} {g : DG} {gs : DGs}
theorem g_name {i : Nat} {x : Str} (h : PG X (.Name x pos) (gName i)) : PG X (.Name x pos) (rdG X.K (dgName i)) :=
  PG_imp h fun v σ H Q ⟨ρ, S, d, Qd, hρ, hS, hd, hg, l⟩ => l _ S _ H (Evo.refl _ _) hS (hρ.set hd i) hg
theorem gs_nil : PGs X [] (rdGs X.K dgNil) := PGs_imp pgs_nil fun v σ H Q ⟨ρ, S, ds, Qd, hρ, hS, hd, hg, l⟩ => by
  cases ds with
  | nil => exact ⟨hd, l ρ S σ H (Evo.refl _ _) hS hρ hg⟩
  | cons d r => exact hg.elim
theorem gs_cons (h1 : PG X e (rdG X.K g)) (h2 : PGs X es (rdGs X.K gs)) (hs : (assignEach (e :: es) X.env).map (·.2) = assign e X.env :: (assignEach es X.env).map (·.2) := by rfl) : PGs X (e :: es) (rdGs X.K (dgCons g gs)) :=
  PGs_imp (pgs_cons h1 h2 hs) fun vs σ H Q ⟨ρ, S, ds, Qd, hρ, hS, hd, hg, l⟩ => by
    cases ds with
    | nil => exact hg.elim
    | cons d r =>
      obtain ⟨v, vr, rfl, q1, q2⟩ := hd
      refine ⟨v, vr, rfl, ρ, S, d, _, hρ, hS, q1, hg, fun ρ1 S1 σ1 H1 e1 r1 k1 h1 => ?_⟩
      exact ⟨ρ1, S1, r, Qd, k1, r1, Rels.imm (e1.imm hS) _ _ q2, h1, l.mono e1⟩
theorem g_tup {k : Nat} {n : Nat} (hc : X.calm = true) (h : PGs X es (rdGs X.K gs)) (hn : (assignEach es X.env).length = n := by rfl) (hst : (assignEach es X.env).findIdx? (·.1) = none := by rfl) : PG X (.Tuple es k pos) (rdG X.K (dgTup n gs)) :=
  PG_imp (pg_tup hc h hn hst) fun v σ H Q ⟨ρ, S, d, Qd, hρ, hS, hd, hg, l⟩ => by
    cases d with
    | tup ds =>
      obtain ⟨a, xs, rfl, hq, rs⟩ := hd
      exact ⟨a, xs, rfl, hq, by rw [← rs.length]; exact hg.1, ρ, S, ds, Qd, hρ, hS, rs, hg.2, l⟩
    | _ => exact hg.elim
theorem s_asg (he : PE X e (rdE X.K W f)) (hg : PG X tg (rdG X.K g)) (hSole : swapsWithSole [tg] e pos.line X.env = pure false := by rfl) (hSw : swappedStores [tg] e X.env = pure none := by rfl)
    (h1 : (assignEach [tg] X.env).map (·.2) = [assign tg X.env] := by rfl) : PS X (.Assign [tg] e pos) (rdS X.K W (dAsg f g)) :=
  PS_imp (ps_asg he hg hSole hSw h1) fun D σ H ⟨ρ, S, N, hρ, hS, hf, l⟩ => by
    refine ⟨ρ, S, _, _, hρ, hS, hf, fun d S1 v H1 e1 r1 q1 h1 => ?_, l.lx hS hρ⟩
    exact ⟨ρ, S1, d, N.nx, hρ.imm (e1.imm hS), r1, q1, h1, fun ρ' S' σ' H' e' r' k' h' => l.nx ρ' S' σ' H' (e1.trans e') r' k' h'⟩
theorem s_set {i : Nat} {x : Str} (hN : X.N.Nodup) (hi : X.N[i]? = some x) (hx : Loc X.env.scope x) (he : PE X e (rdE X.K W f)) (hf : X.fn x = true ∨ X.env.scope.names.lookup x = some .local := by first | exact .inl rfl | exact .inr rfl | assumption) (hs : swapsWith e (some (.Name x pos')) pos.line X.env = pure false := by rfl) :
    PS X (.Assign [.Name x pos'] e pos) (rdS X.K W (dSet i f)) :=
  PS_imp (ps_set hN hi hx he hs hf) fun D σ H ⟨ρ, S, N, hρ, hS, hf, l⟩ =>
    ⟨ρ, S, _, _, hρ, hS, hf, fun d S1 v H1 e1 r1 q1 h1 => l.nx _ S1 _ H1 e1 r1 ((hρ.imm (e1.imm hS)).set q1 i) h1, l.lx hS hρ⟩
theorem s_par {i j : Nat} {x y : Str} {a b : Expr} {px py pt : Pos} {kt k2 pt2} (hc : X.calm = true) (hN : X.N.Nodup) (hi : X.N[i]? = some x) (hj : X.N[j]? = some y) (hij : i ≠ j)
    (hx : X.env.scope.names.lookup x = some .local) (hy : X.env.scope.names.lookup y = some .local) (ha : PA X [a, b] (rdA X.K W 2 fa))
    (hSw : swappedStores [.Tuple [.Name x px, .Name y py] kt pt] (.Tuple [a, b] k2 pt2) X.env = pure (some [x, y]))
    (hSole : swapsWithSole [.Tuple [.Name x px, .Name y py] kt pt] (.Tuple [a, b] k2 pt2) pos.line X.env = pure false := by rfl) :
    PS X (.Assign [.Tuple [.Name x px, .Name y py] kt pt] (.Tuple [a, b] k2 pt2) pos) (rdS X.K W (dPar i j fa)) :=
  PS_imp (ps_par hc hN hi hj hij hx hy ha hSw hSole) fun D σ H ⟨ρ, S, N, hρ, hS, hf, l⟩ => by
    refine ⟨ρ, S, _, _, hρ, hS, hf, fun ds S1 vs H1 e1 r1 q1 hl h1 => ?_, l.lx hS hρ⟩
    dsimp only at h1
    split at h1
    · rename_i x1 y1
      obtain ⟨v, r, rfl, k1, v2, r2, rfl, k2, z⟩ := q1
      have z' : r2 = [] := z
      subst z'
      exact ⟨v, v2, rfl, l.nx _ S1 _ H1 e1 r1 (((hρ.imm (e1.imm hS)).set k1 i).set k2 j) h1⟩
    · exact h1.elim
end

/-! ### what is walked -/
abbrev EI := Env → Store → (List D → Store → Prop) → XPost → Prop
/-- the heap as it is, or with a new object -/
def Ext (H H' : Hp) : Prop := H' = H ∨ ∃ p o, H p = none ∧ H' = upd H p o
theorem Ext.evo {H H' : Hp} (e : Ext H H') (S : Store) : Evo S H S H' := by
  rcases e with rfl | ⟨p, o, hp, rfl⟩
  · exact Evo.refl _ _
  · exact evo_new hp
theorem Ext.srel {K : PySem.W.Frag} {S : Store} {H H' : Hp} (e : Ext H H') (r : SRel K S H) : SRel K S H' := by
  rcases e with rfl | ⟨p, o, hp, rfl⟩
  · exact r
  · exact r.upd_new hp
structure Yields (K : PySem.W.Frag) (J : It) (ds : List D) (H0 : Hp) : Prop where
  go : ∀ i H, i < ds.length → Imm H0 H → J.go i H
  stop : ∀ H, Imm H0 H → J.stop ds.length H
  yld : ∀ i H x H' d, ds[i]? = some d → Imm H0 H → J.yld i H x H' → Ext H H' ∧ Rel K H' d x
def rdI (K : PySem.W.Frag) (W : WX) (f : EI) : TI := fun σ H R => ∃ ρ S Qd Ed, EnvR K H ρ σ ∧ SRel K S H ∧ f ρ S Qd Ed ∧
  (∀ ds S' J H', Evo S H S' H' → SRel K S' H' → Yields K J ds H' → Qd ds S' → R J H') ∧ LX K S H Ed (fun c dd H' => W c dd σ H')
theorem Imm.trans {H H1 H2 : Hp} (a : Imm H H1) (b : Imm H1 H2) : Imm H H2 := fun x o h m => b x o (a x o h m) m
theorem Imm.refl (H : Hp) : Imm H H := fun _ _ h _ => h

/-! ### for -/
def loop (g : DG) (b : ST) (N : DEnds) : List D → Env → Store → Prop
  | [], ρ, S => N.nx ρ S
  | d :: ds, ρ, S => g d ρ S fun ρ1 S1 => b ρ1 S1 { N with nx := loop g b N ds, ct := loop g b N ds, bk := N.nx }
def dFor (f : EI) (g : DG) (b : ST) : ST := fun ρ S N => f ρ S (fun ds S1 => loop g b N ds ρ S1) (fun x S' => N.ex x ρ S')
section
variable {X : Cx} {W : WX} {pos : Pos} {tg iter : Expr} {body : List Stmt} {fi : EI} {g : DG} {b : ST}
theorem drop_cons {α : Type} {l : List α} {i : Nat} (h : i < l.length) : l.drop i = l[i] :: l.drop (i + 1) := List.drop_eq_getElem_cons h
theorem s_for (hp : PassesOwn (model X.prog X.w) X.A X.env X.xe) (hc : X.calm = true) (hi : PI X tg iter (rdI X.K W fi)) (hg : PG X tg (rdG X.K g)) (hb : PSs X body (rdS X.K W b))
    (hs : ∀ x, foldedSetIterable iter X.env x = pure x := by exact fun _ => rfl) : PS X (.For tg iter body [] pos) (rdS X.K W (dFor fi g b)) :=
  PS_imp (ps_for hp hc hi hg hb hs) fun D σ H ⟨ρ, S, N, hρ, hS, hf, l⟩ => by
    refine ⟨ρ, S, _, _, hρ, hS, hf, fun ds S1 J H1 e1 r1 y h1 => ?_, l.lx hS hρ⟩
    refine ⟨fun i m σ' H' => m = ds.length - i ∧ i ≤ ds.length ∧ ∃ ρ' S', EnvR X.K H' ρ' σ' ∧ SRel X.K S' H' ∧ Evo S1 H1 S' H' ∧ loop g b N (ds.drop i) ρ' S', ⟨ds.length, by simp, Nat.zero_le _, ρ, S1, hρ.imm (e1.imm hS), r1, Evo.refl _ _, h1⟩, ?_⟩
    rintro i m σ' H' ⟨rfl, hle, ρ', S', k', r', e', h'⟩
    have im : Imm H1 H' := e'.imm r1
    by_cases hlt : i < ds.length
    · refine .inr ⟨y.go i H' hlt im, _, fun σ2 H2 z => ⟨ds.length - (i + 1), by omega, rfl, hlt, z⟩, fun x H2 hy => ?_⟩
      obtain ⟨ex, rx⟩ := y.yld i H' x H2 ds[i] (by simp [hlt]) im hy
      have e2 := ex.evo S'
      have r2 := ex.srel r'
      rw [drop_cons hlt] at h'
      refine ⟨ρ', S', ds[i], _, k'.imm (e2.imm r'), r2, rx, h', fun ρ3 S3 σ3 H3 e3 r3 k3 h3 => ?_⟩
      have e13 := (e'.trans e2).trans e3
      refine ⟨ρ3, S3, _, k3, r3, h3, ⟨fun ρ4 S4 σ4 H4 e4 r4 k4 h4 => ?_, ?_, ?_, ?_, fun ρ4 S4 σ4 H4 e4 r4 k4 h4 => ?_⟩⟩
      · exact ⟨ρ4, S4, k4, r4, e13.trans e4, h4⟩
      · exact l.rt.mono (e1.trans e13)
      · exact (l.mono (e1.trans e13)).ex
      · exact (l.mono (e1.trans e13)).nx
      · exact ⟨ρ4, S4, k4, r4, e13.trans e4, h4⟩
    · have ei : i = ds.length := by omega
      subst ei
      refine .inl ⟨y.stop H' im, ?_⟩
      rw [List.drop_length] at h'
      exact l.nx ρ' S' σ' H' (e1.trans e') r' k' h'
end

/-! ### while -/
def whN (t : EB) (b : ST) : Nat → ST
  | 0 => fun _ _ _ => False
  | n + 1 => fun ρ S N => t ρ S (fun c S1 => if c = true then b ρ S1 { N with nx := fun ρ2 S2 => whN t b n ρ2 S2 N, ct := fun ρ2 S2 => whN t b n ρ2 S2 N, bk := N.nx } else N.nx ρ S1) (fun x S' => N.ex x ρ S')
def dWhile (t : EB) (b : ST) : ST := fun ρ S N => ∃ n, whN t b n ρ S N
section
variable {X : Cx} {W : WX} {pos : Pos} {c : Expr} {body : List Stmt} {t : EB} {b : ST}
theorem s_while (hp : PassesOwn (model X.prog X.w) X.A X.env X.xe) (hc : PT X c (rdB X.K W t)) (hb : PSs X body (rdS X.K W b)) : PS X (.While c body [] pos) (rdS X.K W (dWhile t b)) :=
  PS_imp (ps_while hp hc hb) fun D σ H ⟨ρ, S, N, hρ, hS, ⟨n, hf⟩, l⟩ => by
    refine ⟨fun m σ' H' => ∃ ρ' S', EnvR X.K H' ρ' σ' ∧ SRel X.K S' H' ∧ Evo S H S' H' ∧ whN t b m ρ' S' N, ⟨n, ρ, S, hρ, hS, Evo.refl _ _, hf⟩, ?_⟩
    rintro m σ' H' ⟨ρ', S', k', r', e', h'⟩
    cases m with
    | zero => exact h'.elim
    | succ m =>
      have l' := l.mono e'
      refine ⟨ρ', S', _, _, k', r', h', fun c S1 H1 e1 r1 h1 => ?_, l'.lx r' k'⟩
      cases c with
      | false => rw [if_neg Bool.false_ne_true] at h1 ⊢; exact l'.nx _ _ _ _ e1 r1 (k'.imm (e1.imm r')) h1
      | true =>
        rw [if_pos rfl] at h1 ⊢
        have l1 := l'.mono e1
        have e01 := e'.trans e1
        refine ⟨_, fun σ2 H2 z => ⟨m, Nat.lt_succ_self m, z⟩, ρ', S1, _, k'.imm (e1.imm r'), r1, h1, ⟨fun ρ4 S4 σ4 H4 e4 r4 k4 h4 => ⟨ρ4, S4, k4, r4, e01.trans e4, h4⟩, l1.rt, l1.ex, l1.nx, fun ρ4 S4 σ4 H4 e4 r4 k4 h4 => ⟨ρ4, S4, k4, r4, e01.trans e4, h4⟩⟩⟩
end

/-! ### a list comprehension, one clause -/
def comp (g : DG) (t : EB) (f : ET) (Q : List D → Store → Prop) : List D → List D → Env → Store → Prop
  | [], acc, _, S => Q acc S
  | d :: ds, acc, ρ, S => g d ρ S fun ρ1 S1 => t ρ1 S1 (fun b S2 => if b = true then f ρ1 S2 (fun y S3 => acc.length < sizeLine ∧ comp g t f Q ds (acc ++ [y]) ρ S3) (fun _ _ => False) else comp g t f Q ds acc ρ S2) (fun _ _ => False)
def bYes : EB := fun _ S Q _ => Q true S
def wipeD (ρ : Env) : List Nat → Env
  | [] => ρ
  | i :: r => st (wipeD ρ r) i none
theorem EnvR.wipe {K : PySem.W.Frag} {H : Hp} {ρ : Env} {σ : L2.St} (h : EnvR K H ρ σ) : ∀ vs : List Nat, EnvR K H (wipeD ρ vs) (wipe σ vs)
  | [] => h
  | i :: r => EnvR.gone i none (EnvR.wipe h r)
/-- a target that stores into the slots vs alone -/
def TgOk (K : PySem.W.Frag) (vs : List Nat) (t : TG) (g : DG) : Prop := ∀ v σ H ρ S d Qd, EnvR K H ρ σ → Rel K H d v → g d ρ S Qd →
  t v σ H fun σ2 H2 => H2 = H ∧ L2.wipe σ2 vs = L2.wipe σ vs ∧ ∃ ρ2, EnvR K H ρ2 σ2 ∧ Qd ρ2 S
def TgsOk (K : PySem.W.Frag) (vs : List Nat) (t : TGs) (g : DGs) : Prop := ∀ us σ H ρ S ds Qd, EnvR K H ρ σ → Rels K H ds us → g ds ρ S Qd →
  t us σ H fun σ2 H2 => H2 = H ∧ L2.wipe σ2 vs = L2.wipe σ vs ∧ ∃ ρ2, EnvR K H ρ2 σ2 ∧ Qd ρ2 S
theorem wipe_set {σ : L2.St} {i : Nat} {o : Option V} : ∀ {vs : List Nat}, i ∈ vs → L2.wipe (σ.set i o) vs = L2.wipe σ vs
  | [], h => by cases h
  | j :: r, h => by
    show (L2.wipe (σ.set i o) r).set j none = (L2.wipe σ r).set j none
    by_cases hr : i ∈ r
    · rw [wipe_set hr]
    · have e : i = j := by
        rcases List.mem_cons.1 h with e | e
        · exact e
        · exact absurd e hr
      subst e
      have comm : ∀ (l : List Nat), i ∉ l → ∀ σ : L2.St, L2.wipe (σ.set i o) l = (L2.wipe σ l).set i o := by
        intro l
        induction l with
        | nil => intro _ σ; rfl
        | cons k l ih =>
          intro hk σ
          have hne : k ≠ i := fun e => hk (by simp [e])
          show (L2.wipe (σ.set i o) l).set k none = ((L2.wipe σ l).set k none).set i o
          rw [ih (fun z => hk (by simp [z])) σ, List.set_comm _ _ (Ne.symm hne)]
      rw [comm r hr σ, List.set_set]
theorem tg_name {K : PySem.W.Frag} {vs : List Nat} {i : Nat} (h : i ∈ vs := by decide) : TgOk K vs (gName i) (dgName i) :=
  fun v σ H ρ S d Qd hρ hd hg => ⟨rfl, wipe_set h, _, hρ.set hd i, hg⟩
theorem tgs_nil {K : PySem.W.Frag} {vs : List Nat} : TgsOk K vs gNil dgNil := fun us σ H ρ S ds Qd hρ hd hg => by
  cases ds with
  | nil => exact ⟨hd, rfl, rfl, ρ, hρ, hg⟩
  | cons d r => exact hg.elim
/-- a reading of a target is monotone -/
def TgMono (t : TG) : Prop := ∀ v σ H Q Q', (∀ σ' H', Q σ' H' → Q' σ' H') → t v σ H Q → t v σ H Q'
theorem mono_name {i : Nat} : TgMono (gName i) := fun v σ H Q Q' i h => i _ _ h
theorem tgs_cons {K : PySem.W.Frag} {vs : List Nat} {t : TG} {u : TGs} {g : DG} {h : DGs} (m : TgMono t) (h1 : TgOk K vs t g) (h2 : TgsOk K vs u h) : TgsOk K vs (gCons t u) (dgCons g h) := fun us σ H ρ S ds Qd hρ hd hg => by
  cases ds with
  | nil => exact hg.elim
  | cons d r =>
    obtain ⟨v, vr, rfl, q1, q2⟩ := hd
    refine ⟨v, vr, rfl, m _ _ _ _ _ (fun σ' H' z => ?_) (h1 v σ H ρ S d _ hρ q1 hg)⟩
    obtain ⟨e, w, ρ2, k2, g2⟩ := z
    subst e
    have z2 := h2 vr σ' H' ρ2 S r Qd k2 q2 g2
    rw [w] at z2
    exact z2
theorem tg_tup {K : PySem.W.Frag} {vs : List Nat} {n : Nat} {u : TGs} {h : DGs} (h2 : TgsOk K vs u h) : TgOk K vs (gTup K n u) (dgTup n h) := fun v σ H ρ S d Qd hρ hd hg => by
  cases d with
  | tup ds =>
    obtain ⟨a, xs, rfl, hq, rs⟩ := hd
    exact ⟨a, xs, rfl, hq, by rw [← rs.length]; exact hg.1, h2 xs σ H ρ S ds Qd hρ rs hg.2⟩
  | _ => exact hg.elim
theorem wipe_idem_of (σ : L2.St) (vs : List Nat) : ∀ us : List Nat, (∀ i ∈ us, i ∈ vs) → L2.wipe (L2.wipe σ us) vs = L2.wipe σ vs
  | [], _ => rfl
  | j :: r, h => by
    show L2.wipe ((L2.wipe σ r).set j none) vs = L2.wipe σ vs
    rw [wipe_set (h j (by simp)), wipe_idem_of σ vs r fun i hi => h i (by simp [hi])]
theorem wipe_idem (σ : L2.St) (vs : List Nat) : L2.wipe (L2.wipe σ vs) vs = L2.wipe σ vs := wipe_idem_of σ vs vs fun _ h => h
theorem lc_mono {wi : TI} {g : TG} {tt : TT} {te : TE} {vs : List Nat} {σ : L2.St} {H : Hp} {Q Q' : VK} (i : ∀ v H1, Q v H1 → Q' v H1) (h : tLc wi g tt te vs σ H Q) (hw : ∀ R R', (∀ J H1, R J H1 → R' J H1) → wi σ H R → wi σ H R') : tLc wi g tt te vs σ H Q' := by
  refine hw _ _ (fun J H1 z D hD => ?_) h
  obtain ⟨W, h0, hs⟩ := z D hD
  refine ⟨W, h0, fun k m H2 hW => ?_⟩
  rcases hs k m H2 hW with ⟨a, b⟩ | q
  · exact .inl ⟨a, i _ _ b⟩
  · exact .inr q
/-- the heap without a -/
def delH' (H : Hp) (a : Addr) : Hp := fun b => if b = a then none else H b
theorem delH'_upd {H : Hp} {a : Addr} {o : HO} (h : H a = some o) : upd (delH' H a) a o = H := by
  funext b
  by_cases e : b = a
  · subst e; rw [upd_same, h]
  · rw [upd_ne e]; exact if_neg e
def evComp (mk : MkT) (fi : EI) (g : DG) (t : EB) (f : ET) (vs : List Nat) : ET := fun ρ S Q E => fi ρ S (fun ds S1 => comp g t f (fun acc S2 => mk acc S2 Q) ds [] (wipeD ρ vs) S1) E
section
variable {X : Cx} {W : WX}
theorem ts_nil : PTs X [] (rdB X.K W bYes) := PTs_imp pts_nil fun σ H Q ⟨ρ, S, Qd, Ed, hρ, hS, hf, lq, _⟩ => lq true S H (Evo.refl _ _) hS hf
theorem ts_one {c : Expr} {t : EB} (h : PT X c (rdB X.K W t)) : PTs X [c] (rdB X.K W t) := pts_one h
end
theorem lc_rd {K : PySem.W.Frag} {W W1 W2 : WX} {mk : MkT} (hm : MkOk K mk) {fi : EI} {g : DG} {tg : TG} {t : EB} {f : ET} {vs : List Nat} (hmono : TgMono tg) (htg : TgOk K vs tg g) (σ : L2.St) (H : Hp) (Q : VK)
    (h : rdE K W (evComp mk fi g t f vs) σ H Q) : tFz (tLc (rdI K W fi) tg (rdB K W1 t) (rdE K W2 f) vs) σ H Q := by
  obtain ⟨ρ, S, Qd, Ed, hρ, hS, hf, lq, lx⟩ := h
  refine ⟨ρ, S, _, Ed, hρ, hS, hf, fun ds S1 J H1 e1 r1 y h1 => ?_, lx⟩
  intro D hD
  have iD : ∀ o, Imm H1 (upd H1 D o) := fun o => upd_imm hD
  have hρ1 : EnvR K H1 (wipeD ρ vs) (L2.wipe σ vs) := (hρ.imm (e1.imm hS)).wipe vs
  have lq1 := lq.mono e1
  refine ⟨fun i m H' => m = ds.length - i ∧ i ≤ ds.length ∧ ∃ S' acc accV, SRel K S' H' ∧ Evo S1 H1 S' H' ∧ S' D = none ∧ H' D = some (.lst accV) ∧ Rels K H' acc accV ∧ comp g t f (fun acc S2 => mk acc S2 Qd) (ds.drop i) acc (wipeD ρ vs) S',
    ⟨ds.length, by simp, Nat.zero_le _, S1, [], [], r1.upd_new hD, evo_new hD, r1.free hD, upd_same, rfl, h1⟩, ?_⟩
  rintro i m H' ⟨rfl, hle, S', acc, accV, r', e', nD, eD, ra, h'⟩
  have im : Imm H1 H' := e'.imm r1
  by_cases hlt : i < ds.length
  · refine .inr ⟨y.go i H' hlt im, _, fun H2 z => ⟨ds.length - (i + 1), by omega, rfl, hlt, z⟩, fun x H2 hy => ?_⟩
    obtain ⟨ex, rx⟩ := y.yld i H' x H2 ds[i] (by simp [hlt]) im hy
    have e2 := ex.evo S'
    have r2 := ex.srel r'
    rw [drop_cons hlt] at h'
    have z := htg x (L2.wipe σ vs) H2 (wipeD ρ vs) S' ds[i] _ (hρ1.imm ((e'.trans e2).imm r1)) rx h'
    refine hmono _ _ _ _ _ (fun σ3 H3 z => ?_) z
    obtain ⟨rfl, w, ρ3, k3, q3⟩ := z
    refine ⟨w.trans (wipe_idem _ _), ρ3, S', _, _, k3, r2, q3, fun b S4 H4 e4 r4 h4 => ?_, fun _ _ _ _ _ _ _ _ z => z.elim⟩
    have D2 : H3 D = some (.lst accV) := e2.keep D _ eD nD (fun _ z => nomatch z)
    have D4 : H4 D = some (.lst accV) := e4.keep D _ D2 nD (fun _ z => nomatch z)
    have nD4 : S4 D = none := by
      cases q : S4 D with
      | none => rfl
      | some u => exact (e4.new D nD (by rw [q]; exact fun z => nomatch z) _ D2 (fun _ z => nomatch z)).elim
    have e14 := (e'.trans e2).trans e4
    cases b with
    | false =>
      rw [if_neg Bool.false_ne_true] at h4
      refine L2.iteF ?_
      exact ⟨S4, acc, accV, r4, e14, nD4, D4, Rels.imm ((e2.trans e4).imm r') _ _ ra, h4⟩
    | true =>
      rw [if_pos rfl] at h4
      refine L2.iteT ?_
      refine ⟨ρ3, S4, _, _, k3.imm (e4.imm r2), r4, h4, fun d S5 v H5 e5 r5 q5 h5 => ?_, fun _ _ _ _ _ _ _ _ z => z.elim⟩
      have D5 : H5 D = some (.lst accV) := e5.keep D _ D4 nD4 (fun _ z => nomatch z)
      have nD5 : S5 D = none := by
        cases q : S5 D with
        | none => rfl
        | some u => exact (e5.new D nD4 (by rw [q]; exact fun z => nomatch z) _ D4 (fun _ z => nomatch z)).elim
      have ra5 : Rels K H5 acc accV := Rels.imm (((e2.trans e4).trans e5).imm r') _ _ ra
      have iU : Imm H5 (upd H5 D (.lst (accV ++ [v]))) := upd_immS D5 rfl
      refine ⟨accV, D5, by rw [← ra5.length]; exact h5.1, S5, acc ++ [d], accV ++ [v], fun b u q => ?_, ⟨fun b o q n nt => ?_, (e14.trans e5).new⟩, nD5, upd_same, Rels.append (Rels.imm iU _ _ ra5) (Rels.mk1 (Rel.imm iU _ _ q5)), h5.2⟩
      · have hb : b ≠ D := fun z => by subst z; rw [nD5] at q; cases q
        exact (r5 b u q).imm iU fun w q => by rw [upd_ne hb]; exact q
      · have hb : b ≠ D := fun z => by subst z; rw [hD] at q; cases q
        rw [upd_ne hb]
        exact (e14.trans e5).keep b o q n nt
  · have ei : i = ds.length := by omega
    subst ei
    rw [List.drop_length] at h'
    refine .inl ⟨y.stop H' im, ?_⟩
    have id : Imm H' (delH' H' D) := fun b o q mq => by
      have hb : b ≠ D := fun z => by subst z; rw [eD] at q; cases q; cases mq
      exact (if_neg hb : delH' H' D b = H' b).trans q
    have rd : SRel K S' (delH' H' D) := fun b u q => by
      have hb : b ≠ D := fun z => by subst z; rw [nD] at q; cases q
      exact (r' b u q).imm id fun w q => (if_neg hb : delH' H' D b = H' b).trans q
    have ed : Evo S1 H1 S' (delH' H' D) := ⟨fun b o q n nt => by
      have hb : b ≠ D := fun z => by subst z; rw [hD] at q; cases q
      exact (if_neg hb : delH' H' D b = H' b).trans (e'.keep b o q n nt), e'.new⟩
    have fin := hm S' (delH' H' D) acc accV D Qd Q rd (if_pos rfl) (Rels.imm id _ _ ra) h' (lq1.mono ed)
    rw [delH'_upd eD] at fin
    exact fin
section
variable {X : Cx} {W W1 W2 : WX} {pos : Pos} {elt tg iter : Expr} {ifs : List Expr} {scope : Scope} {own : List (Str × Nat)} {fi : EI} {g : DG} {tt : TG} {t : EB} {f : ET} {mk : MkT}
theorem e_comp (hm : MkOk X.K mk) (hc : X.calm = true) (hN : X.N.Nodup) (hi : PI X tg iter (rdI X.K W fi)) (ok : BlkOk X.N X.env.scope scope own) (hmono : TgMono tt) (htg : TgOk X.K (own.map (·.2)) tt g)
    (hg : ∀ (s : Shared) (H : Hp) (C : Addr) (cl : List (Str × Addr)) (fp : List Addr), PG (X.blk s H scope (compEnvC scope cl C X.env) fp) tg tt) (ht : ∀ (s : Shared) (H : Hp) (C : Addr) (cl : List (Str × Addr)) (fp : List Addr), PTs (X.blk s H scope (compEnvC scope cl C X.env) fp) ifs (rdB X.K W1 t))
    (he : ∀ (s : Shared) (H : Hp) (C : Addr) (cl : List (Str × Addr)) (fp : List Addr), PE (X.blk s H scope (compEnvC scope cl C X.env) fp) elt (rdE X.K W2 f)) (hs : ∀ x, foldedSetIterable iter X.env x = pure x := by intro _; rfl) :
    PE X (.ListComp elt [⟨tg, iter, ifs, 0⟩] scope pos) (rdE X.K W (evComp mk fi g t f (own.map (·.2)))) :=
  PE_imp (pe_fz (pe_lc hc hN hi ok hg ht he hs)) (lc_rd hm hmono htg)
end

/-! ### locking at a statement's end -/
def FzN (Q : L2.St → Hp → Prop) (σ : L2.St) (H : Hp) : Prop := Q σ H ∨ (∃ a xs, H a = some (.lst xs) ∧ ∀ o, Q σ (upd H a (.frz o (.lst xs)))) ∨ (∃ a xs, H a = some (.dK xs) ∧ ∀ o, Q σ (upd H a (.frz o (.dK xs))))
def tFzS (t : TS) : TS := fun D σ H => t { D with nx := FzN D.nx } σ H
theorem ps_fz {X : Cx} {s : Stmt} {t : TS} (h : PS X s t) : PS X s (tFzS t) := by
  refine ⟨fun pins s0 σ H D I q => thn (h.run pins s0 σ H _ I q) fun f s1 hq => ?_⟩
  cases f with
  | next =>
    obtain ⟨σ1, H1, I1, q1⟩ := hq
    rcases q1 with q1 | ⟨a, xs, ha, q1⟩ | ⟨a, xs, ha, q1⟩
    · exact ⟨σ1, H1, I1, q1⟩
    · obtain ⟨o, J⟩ := Inv.frz I1 ha (fun _ => nofun) (fun _ _ => nofun) (fun _ => nofun) (fun _ => nofun) (by obtain ⟨_, its, n, _, e⟩ := I1.hok a _ ha; exact ⟨_, e⟩)
      exact ⟨σ1, _, J, q1 o⟩
    · obtain ⟨o, J⟩ := Inv.frz I1 ha (fun _ => nofun) (fun _ _ => nofun) (fun _ => nofun) (fun _ => nofun) (by obtain ⟨_, _, vs, _, o, _, _, e, _⟩ := I1.hok a _ ha; exact ⟨o, e⟩)
      exact ⟨σ1, _, J, q1 o⟩
  | ret u => exact hq
  | brk => exact hq
  | cont => exact hq
section
variable {X : Cx} {W W1 W2 : WX} {pos spos py : Pos} {elt tg iter : Expr} {ifs : List Expr} {scope : Scope} {own : List (Str × Nat)} {fi : EI} {g : DG} {tt : TG} {t : EB} {f : ET} {mk : MkT} {s : Stmt} {b : ST}
theorem s_setComp {i : Nat} {y : Str} (hm : MkOk X.K mk) (hc : X.calm = true) (hN : X.N.Nodup) (hy : X.N[i]? = some y) (hyl : X.env.scope.names.lookup y = some .local) (hsw : swapsWith (.ListComp elt [⟨tg, iter, ifs, 0⟩] scope pos) (some (.Name y py)) spos.line X.env = pure true)
    (hi : PI X tg iter (rdI X.K W fi)) (ok : BlkOk X.N X.env.scope scope own) (hmono : TgMono tt) (htg : TgOk X.K (own.map (·.2)) tt g)
    (hg : ∀ (s : Shared) (H : Hp) (C : Addr) (cl : List (Str × Addr)) (fp : List Addr), PG (X.blk s H scope (compEnvC scope cl C X.env) fp) tg tt) (ht : ∀ (s : Shared) (H : Hp) (C : Addr) (cl : List (Str × Addr)) (fp : List Addr), PTs (X.blk s H scope (compEnvC scope cl C X.env) fp) ifs (rdB X.K W1 t))
    (he : ∀ (s : Shared) (H : Hp) (C : Addr) (cl : List (Str × Addr)) (fp : List Addr), PE (X.blk s H scope (compEnvC scope cl C X.env) fp) elt (rdE X.K W2 f)) (hs : ∀ x, foldedSetIterable iter X.env x = pure x := by intro _; rfl) :
    PS X (.Assign [.Name y py] (.ListComp elt [⟨tg, iter, ifs, 0⟩] scope pos) spos) (rdS X.K W (dSet i (evComp mk fi g t f (own.map (·.2))))) :=
  PS_imp (ps_fz (ps_setLc hc hN hy hyl hsw hi ok hg ht he hs)) fun D σ H ⟨ρ, S, N, hρ, hS, hf, l⟩ => by
    have z := lc_rd (W1 := W1) (W2 := W2) hm hmono htg σ H (fun v H1 => D.nx (σ.set i (some v)) H1) ⟨ρ, S, _, _, hρ, hS, hf, fun d S1 v H1 e1 r1 q1 h1 => l.nx _ S1 _ H1 e1 r1 ((hρ.imm (e1.imm hS)).set q1 i) h1, l.lx hS hρ⟩
    refine lc_mono (Q' := fun x H1 => FzN D.nx (σ.set i (some x)) H1) (fun v H1 q => ?_) z fun R R' i ⟨ρ, S, Qd, Ed, a, b, c, d, e⟩ => ⟨ρ, S, Qd, Ed, a, b, c, fun ds S' J H' x1 x2 x3 x4 => i _ _ (d ds S' J H' x1 x2 x3 x4), e⟩
    rcases q with q | ⟨a, xs, rfl, ha, q⟩ | ⟨a, xs, rfl, ha, q⟩
    · exact Or.inl q
    · exact Or.inr (Or.inl ⟨a, xs, ha, q⟩)
    · exact Or.inr (Or.inr ⟨a, xs, ha, q⟩)
/-- the list in slot i is locked behind the statement -/
def fzv (i : Nat) (Q : Env → Store → Prop) : Env → Store → Prop := fun ρ S => match lk ρ i with
  | some (.ref a) => match S a with
    | some (.lst ds) => Q (st ρ i (some (.lst ds))) (S.del a)
    | some (.dct ks ds) => Q (st ρ i (some (.dct ks ds))) (S.del a)
    | _ => False
  | _ => Q ρ S
def dFzV (i : Nat) (g : ST) : ST := fun ρ S N => g ρ S { N with nx := fzv i N.nx }
end
theorem set_same {σ : L2.St} {i : Nat} {v : V} (h : σ[i]? = some (some v)) : σ.set i (some v) = σ := by
  apply List.ext_getElem?
  intro j
  by_cases e : i = j
  · subst e
    rw [List.getElem?_set_self (List.getElem?_eq_some_iff.mp h).1, h]
  · rw [List.getElem?_set_ne e]
theorem s_fzv {X : Cx} {W : WX} {s : Stmt} {g : ST} (i : Nat) (h : PS X s (rdS X.K W g)) : PS X s (rdS X.K W (dFzV i g)) :=
  PS_imp (ps_fz h) fun D σ H ⟨ρ, S, N, hρ, hS, hf, l⟩ => by
    refine ⟨ρ, S, _, hρ, hS, hf, ⟨fun ρ1 S1 σ1 H1 e1 r1 k1 h1 => ?_, l.rt, l.ex, l.bk, l.ct⟩⟩
    have h1 : fzv i N.nx ρ1 S1 := h1
    unfold fzv at h1
    split at h1
    · rename_i a ea
      obtain ⟨v, ev, rv⟩ := k1.get ea
      have ev' : v = .ref a := rv
      subst ev'
      split at h1
      · rename_i ds ed
        obtain ⟨xs, hx, rs⟩ := r1 a _ ed
        refine .inr (.inl ⟨a, xs, hx, fun o => ?_⟩)
        obtain ⟨im, r2⟩ := r1.frz (o := .frz o (.lst xs)) ed
        refine l.nx _ _ _ _ (e1.trans (evo_frz ed)) r2 ?_ h1
        have z := (k1.imm im).set (d := .lst ds) (v := .ref a) ⟨a, xs, rfl, ⟨o, upd_same⟩, Rels.imm im _ _ rs⟩ i
        rw [set_same ev] at z
        exact z
      · rename_i ks ds ed
        obtain ⟨xs, hx, hl, rs⟩ := r1 a _ ed
        refine .inr (.inr ⟨a, _, hx, fun o => ?_⟩)
        obtain ⟨im, r2⟩ := r1.frz (o := .frz o (.dK (ks.zip xs))) ed
        refine l.nx _ _ _ _ (e1.trans (evo_frz ed)) r2 ?_ h1
        have z := (k1.imm im).set (d := .dct ks ds) (v := .ref a) ⟨a, xs, rfl, ⟨o, upd_same⟩, hl, Rels.imm im _ _ rs⟩ i
        rw [set_same ev] at z
        exact z
      · exact h1.elim
    · exact .inl (l.nx _ _ _ _ e1 r1 k1 h1)
end MP

set_option Elab.async false
set_option linter.all false
set_option maxRecDepth 100000
set_option maxHeartbeats 2100000
/-! MPFn: a def's promise, calls, exceptions. -/
namespace MP
open PySem PyProof.Rows PySem.Spec L2

abbrev DF := List D → Store → Post → XPost → Prop
/-- a def's promise over data -/
def spM (K : PySem.W.Frag) (n : Nat) (F : DF) : Sp := fun vs H Q E => ∃ ds S Qd Ed, Rels K H ds vs ∧ SRel K S H ∧ ds.length = n ∧ F ds S Qd Ed ∧ LQ K S H Qd Q ∧ LX K S H Ed E
theorem spM_len {K : PySem.W.Frag} {n : Nat} {F : DF} (vs : List V) (H : Hp) (Q : VK) (E : XK) (h : spM K n F vs H Q E) : vs.length = n := by
  obtain ⟨ds, S, Qd, Ed, r, _, l, _⟩ := h
  rw [← r.length, l]
/-- the promise by another function that promises no more -/
theorem spM_imp {K : PySem.W.Frag} {n : Nat} {F G : DF} (i : ∀ ds S Q E, ds.length = n → G ds S Q E → F ds S Q E) (vs : List V) (H : Hp) (Q : VK) (E : XK) (h : spM K n G vs H Q E) : spM K n F vs H Q E := by
  obtain ⟨ds, S, Qd, Ed, r, hS, l, h, lq, lx⟩ := h
  exact ⟨ds, S, Qd, Ed, r, hS, l, i ds S Qd Ed l h, lq, lx⟩
/-- what is left behind in the store is forgotten: G says the end of a run of F that began at S -/
def Gc (F : DF) : DF := fun ds S Q E => F ds S (fun d S' => ∃ S'', Sub S'' S' ∧ Q d S'') (fun x S' => ∃ S'', Sub S'' S' ∧ E x S'')
def runF (m : Nat) (g : ST) : DF := fun ds S Q E => g (ds.map some ++ List.replicate (m - ds.length) none) S { nx := fun _ S' => Q .non S', rt := Q, ex := fun x _ S' => E x S' }
theorem Evo.sub {S S' S'' : Store} {H H' : Hp} (e : Evo S H S' H') (s : Sub S'' S') : Evo S H S'' H' := ⟨e.keep, fun a n n2 => e.new a n (by
  cases q : S'' a with
  | none => exact absurd q n2
  | some o => rw [s a o q]; exact fun z => nomatch z)⟩
theorem spM_gc {K : PySem.W.Frag} {n : Nat} {F : DF} (vs : List V) (H : Hp) (Q : VK) (E : XK) (h : spM K n (Gc F) vs H Q E) : spM K n F vs H Q E := by
  obtain ⟨ds, S, Qd, Ed, r, hS, l, h, lq, lx⟩ := h
  refine ⟨ds, S, _, _, r, hS, l, h, fun d S' v H' e r' q ⟨S'', s, z⟩ => ?_, fun x S' c dd H' e r' q ⟨S'', s, z⟩ => ?_⟩
  · exact lq d S'' v H' (e.sub s) (r'.sub s) q z
  · exact lx x S'' c dd H' (e.sub s) (r'.sub s) q z
section
variable {K : PySem.W.Frag} {base : Heap} {mg : Str → Option Value} {P : Program} {w : World}
/-- the wish about exceptions of a def's own body -/
abbrev Wd (E : XK) : WX := fun cls d _ H => E cls d H
theorem fn_ok {x qual : Str} {st : Stmt} {f : Addr} {fd : FuncData} {N ps : List Str} {k : Nat} {g : ST} (F : Fun K x qual st f fd) (Sc : FnScope N ps (defScope st))
    (hb : ∀ (cdv : Value) (A : Around) (outer : List PySem.Env) (s : Shared) (H : Hp) (E : XK), Room k (A.deeper (envOfC qual (defScope st) s.heap.objs.size f cdv)) →
      PSs (cxOf (L2.CX P w) P w K mg base N qual (defScope st) f cdv A outer s H E) (defBody st) (rdS K (Wd E) g)) : FnOk P w K mg base (L2.CX P w) (k + 1) f fd ps (spM K ps.length (runF N.length g)) := by
  refine F.okX Sc spM_len fun cdv A outer s H vs Q E hr h => ⟨_, hb cdv A outer s H E hr, ?_⟩
  obtain ⟨ds, S, Qd, Ed, r, hS, hl, hf, lq, lx⟩ := h
  refine ⟨_, S, _, ?_, hS, hf, ⟨fun ρ' S' σ' H' e r' k' h => lq .non S' .non H' e r' rfl h, lq, fun x ρ' S' c dd σ' H' e r' k' q h => lx x S' c dd H' e r' q h, fun _ _ _ _ _ _ _ h => h.elim, fun _ _ _ _ _ _ _ h => h.elim⟩⟩
  unfold L2.start
  rw [← r.length]
  exact EnvR.start _ r
theorem fn_imp {CX : CXT} {f : Addr} {fd : FuncData} {ps : List Str} {k : Nat} {F G : DF} (h : FnOk P w K mg base CX k f fd ps (spM K ps.length F)) (i : ∀ ds S Q E, ds.length = ps.length → G ds S Q E → F ds S Q E) : FnOk P w K mg base CX k f fd ps (spM K ps.length G) :=
  h.imp (spM_imp i)
theorem fn_gc {CX : CXT} {f : Addr} {fd : FuncData} {ps : List Str} {k : Nat} {F G : DF} (h : FnOk P w K mg base CX k f fd ps (spM K ps.length F)) (i : ∀ ds S Q E, ds.length = ps.length → G ds S Q E → Gc F ds S Q E) : FnOk P w K mg base CX k f fd ps (spM K ps.length G) :=
  h.imp fun vs H Q E z => spM_gc vs H Q E (spM_imp i vs H Q E z)
end

/-! ### calls -/
def evCall (F : DF) (fa : EA) : ET := fun ρ S Q E => fa ρ S (fun ds S1 => F ds S1 Q E) E
def evCall0 (F : DF) : ET := fun ρ S Q E => F [] S Q E
section
variable {X : Cx} {W : WX} {k : Nat} {f : Addr} {fd : FuncData} {ps : List Str} {F : DF} {x : Str} {p pos : Pos} {e : Expr} {es : List Expr} {fa : EA} {n : Nat}
theorem e_call (G : FnOk X.prog X.w X.K X.mg X.base (L2.CX X.prog X.w) k f fd ps (spM X.K n F)) (hr : Room k X.A) (hg : Gl X x) (hm : X.mg x = some (.ref f)) (hk : PySem.W.keepIn X.K (.ref f) = true) (hb : Binds X.K fd ps []) (tk : Takes X W)
    (ha : PA X (e :: es) (rdA X.K W n fa)) (noDbg : (x == ("__debug__" : Str)) = false := by decide) (hst : starEach (e :: es) X.env = (false, eval e X.env) :: starEach es X.env := by rfl) (noStar : (backTo pos (starEach es X.env)).any (·.1) = false := by rfl) :
    PE X (.Call (.Name x p) (e :: es) [] pos) (rdE X.K W (evCall F fa)) :=
  PE_imp (pe_callS G hr hg hm hk hb (fun σ => passAt tk σ) ha noDbg hst noStar) fun σ H Q ⟨ρ, S, Qd, Ed, hρ, hS, hf, lq, lx⟩ =>
    ⟨ρ, S, _, Ed, hρ, hS, hf, fun ds S1 vs H1 e1 r1 q1 hl h1 => ⟨ds, S1, Qd, Ed, q1, r1, hl, h1, lq.mono e1, lx.mono e1⟩, lx⟩
theorem pe_call0S {CX : CXT} {E : L2.St → XK} {sp : Sp} (F : FnOk X.prog X.w X.K X.mg X.base CX k f fd ps sp) (hr : Room k X.A) (hg : Gl X x) (hm : X.mg x = some (.ref f)) (hk : PySem.W.keepIn X.K (.ref f) = true) (hb : Binds X.K fd ps []) (hx : ∀ σ, PassesAt CX X σ (E σ))
    (noDbg : (x == ("__debug__" : Str)) = false := by decide) : PE X (.Call (.Name x p) [] [] pos) (fun σ H Q => sp [] H Q (E σ)) := by
  refine ⟨fun pnl s σ H Q I h => ?_⟩
  refine wpAny_Call_Name_kw (ld_glob I hg hm ?_ noDbg)
  exact PySem.W.callWith_K0 I.kIn hk (run_fnS (us := []) F hr hb (hx σ) I .nil h)
theorem e_call0 (G : FnOk X.prog X.w X.K X.mg X.base (L2.CX X.prog X.w) k f fd ps (spM X.K 0 F)) (hr : Room k X.A) (hg : Gl X x) (hm : X.mg x = some (.ref f)) (hk : PySem.W.keepIn X.K (.ref f) = true) (hb : Binds X.K fd ps []) (tk : Takes X W)
    (noDbg : (x == ("__debug__" : Str)) = false := by decide) : PE X (.Call (.Name x p) [] [] pos) (rdE X.K W (evCall0 F)) :=
  PE_imp (pe_call0S G hr hg hm hk hb (fun σ => passAt tk σ) noDbg) fun σ H Q ⟨ρ, S, Qd, Ed, hρ, hS, hf, lq, lx⟩ =>
    ⟨[], S, Qd, Ed, rfl, hS, rfl, hf, lq, lx⟩
end
/-! a call by keywords alone, or with arguments ahead of them -/
section
variable {X : Cx} {W : WX} {CX : CXT} {k : Nat} {f : Addr} {fd : FuncData} {ps ks : List Str} {sp : Sp} {E : L2.St → XK} {x : Str} {p pos kpos : Pos} {e : Expr} {es : List Expr} {kws : List Keyword} {t tk : TA} {g : List Value → List Value → List Value} {gV : List V → List V → List V}
theorem run_fnkS {pnl : List (Addr × Obj)} {σ : L2.St} {H : Hp} {s : Shared} {Q : VK} {us ws : List Value} {vs zs : List V} (F : FnOk X.prog X.w X.K X.mg X.base CX k f fd ps sp) (hr : Room k X.A) (hb : KBinds X.K fd ps ks g gV) (hx : PassesAt CX X σ (E σ))
    (I : Inv X pnl σ H s) (r : Vals vs us) (rz : Vals zs ws) (h : sp (gV vs zs) H Q (E σ)) : wpAny (model X.prog X.w) X.A (call (.ref f) us (ks.zip ws)) (EP X pnl σ Q) X.xe s := by
  have r2 := hb.rel r rz
  have hl : (g us ws).length = ps.length := r2.length.symm.trans (F.len _ _ _ _ h)
  refine wpAny_call (codeAny_mono (F.run X.A X.stack s H ⟨us, ks.zip ws⟩ (g us ws) (gV vs zs) Q (E σ) hr I.env0 (hb.to s us ws I.kIn hl) r2 h) fun r s' hq => ?_)
  cases r with
  | error e => exact hx pnl H s e s' I hq
  | ok fl =>
    cases fl with
    | ret u => exact I.after hq
    | next => exact False.elim hq
    | brk => exact False.elim hq
    | cont => exact False.elim hq
theorem pe_callKS (F : FnOk X.prog X.w X.K X.mg X.base CX k f fd ps sp) (hr : Room k X.A) (hg : Gl X x) (hm : X.mg x = some (.ref f)) (hk : PySem.W.keepIn X.K (.ref f) = true) (hb : KBinds X.K fd ps ks g gV) (hx : ∀ σ, PassesAt CX X σ (E σ))
    (ha : PA X (e :: es) t) (hkws : PK X kws tk) (hall : (backToKw pos (keywordEach kws X.env)).all (·.1.isSome) = true := by rfl) (hks : (backToKw pos (keywordEach kws X.env)).filterMap (·.1) = ks := by rfl)
    (noDbg : (x == ("__debug__" : Str)) = false := by decide) (hst : starEach (e :: es) X.env = (false, eval e X.env) :: starEach es X.env := by rfl)
    (noStar : ((backTo pos (starEach (e :: es) X.env)).any (·.1) || (backToKw pos (keywordEach kws X.env)).any (·.1.isNone)) = false := by rfl) :
    PE X (.Call (.Name x p) (e :: es) kws pos) (fun σ H Q => t σ H fun vs H1 => tk σ H1 fun zs H2 => sp (gV vs zs) H2 Q (E σ)) := by
  refine ⟨fun pnl s σ H Q I h => ?_⟩
  refine wpAny_Call_Name_kw (ld_glob I hg hm ?_ noDbg)
  refine PySem.W.callWith_KW (h₀ := X.base) I.ok.mod.kin hk hall (thn (ha.run pos pnl s σ H _ I h) fun us s1 ⟨vs, H1, I1, r, q⟩ => ?_) noStar hst
  refine thn (hkws.run pos pnl s1 σ H1 _ I1 q) fun ws s2 ⟨zs, H2, I2, rz, q2⟩ => ⟨I2.kIn, ?_⟩
  rw [hks]
  exact run_fnkS F hr hb (hx σ) I2 r rz q2
theorem pe_callKS0 (F : FnOk X.prog X.w X.K X.mg X.base CX k f fd ps sp) (hr : Room k X.A) (hg : Gl X x) (hm : X.mg x = some (.ref f)) (hk : PySem.W.keepIn X.K (.ref f) = true) (hb : KBinds X.K fd ps ks g gV) (hx : ∀ σ, PassesAt CX X σ (E σ))
    (hkws : PK X kws tk) (hall : (backToKw pos (keywordEach kws X.env)).all (·.1.isSome) = true := by rfl) (hks : (backToKw pos (keywordEach kws X.env)).filterMap (·.1) = ks := by rfl)
    (noDbg : (x == ("__debug__" : Str)) = false := by decide)
    (noStar : ((backTo pos (starEach [] X.env)).any (·.1) || (backToKw pos (keywordEach kws X.env)).any (·.1.isNone)) = false := by rfl) :
    PE X (.Call (.Name x p) [] kws pos) (fun σ H Q => tk σ H fun zs H2 => sp (gV [] zs) H2 Q (E σ)) := by
  refine ⟨fun pnl s σ H Q I h => ?_⟩
  refine wpAny_Call_Name_kw (ld_glob I hg hm ?_ noDbg)
  refine PySem.W.callWith_KW0 (h₀ := X.base) I.ok.mod.kin hk hall (thn (hkws.run pos pnl s σ H _ I h) fun ws s2 ⟨zs, H2, I2, rz, q2⟩ => ⟨I2.kIn, ?_⟩) noStar
  rw [hks]
  exact run_fnkS F hr hb (hx σ) I2 .nil rz q2
end
/-- the arguments in the parameters' order -/
def pickL (is : List Nat) {α : Type} (l : List α) : List α := is.filterMap fun i => l[i]?
theorem pick_length {α : Type} {l : List α} : ∀ {is : List Nat}, (∀ i ∈ is, i < l.length) → (pickL is l).length = is.length
  | [], _ => rfl
  | i :: r, h => by
    have hi : i < l.length := h i (by simp)
    unfold pickL
    rw [List.filterMap_cons, List.getElem?_eq_getElem hi]
    show (pickL r l).length + 1 = r.length + 1
    rw [pick_length fun j hj => h j (by simp [hj])]
def gK (n m : Nat) (is : List Nat) {α : Type} (us ws : List α) : List α := if us.length = n ∧ ws.length = m then pickL is (us ++ ws) else []
theorem Vals.pick {vs : List V} {us : List Value} (h : Vals vs us) : ∀ is : List Nat, Vals (pickL is vs) (pickL is us)
  | [] => .nil
  | i :: r => by
    unfold pickL
    rw [List.filterMap_cons, List.filterMap_cons]
    cases e : vs[i]? with
    | none => rw [Vals.none_of h e]; exact Vals.pick h r
    | some v =>
      obtain ⟨u, e2, q⟩ := Vals.get h e
      rw [e2]
      exact .cons q (Vals.pick h r)
theorem Rels.pick {K : PySem.W.Frag} {H : Hp} {ds : List D} {vs : List V} (h : Rels K H ds vs) : ∀ is : List Nat, Rels K H (pickL is ds) (pickL is vs)
  | [] => rfl
  | i :: r => by
    unfold pickL
    rw [List.filterMap_cons, List.filterMap_cons]
    cases e : ds[i]? with
    | none =>
      have e2 : vs[i]? = none := by
        rw [List.getElem?_eq_none_iff] at e ⊢
        rw [← h.length]; exact e
      rw [e2]; exact Rels.pick h r
    | some d =>
      obtain ⟨u, e2, q⟩ := Rels.get h e
      rw [e2]
      exact ⟨u, _, rfl, q, Rels.pick h r⟩
theorem gK_rel {n m : Nat} {is : List Nat} {vs : List V} {us : List Value} {zs : List V} {ws : List Value} (a : Vals vs us) (b : Vals zs ws) : Vals (gK n m is vs zs) (gK n m is us ws) := by
  unfold gK
  rw [Vals.length a, Vals.length b]
  split
  · exact Vals.pick (Vals.append a b) is
  · exact .nil
def evCallK (F : DF) (is : List Nat) (fa fk : EA) : ET := fun ρ S Q E => fa ρ S (fun ds S1 => fk ρ S1 (fun zs S2 => F (pickL is (ds ++ zs)) S2 Q E) E) E
section
variable {X : Cx} {W : WX} {k : Nat} {f : Addr} {fd : FuncData} {ps ks : List Str} {F : DF} {x : Str} {p pos kpos : Pos} {e : Expr} {es : List Expr} {fa fk : EA} {n m : Nat} {is : List Nat} {kws : List Keyword} {fe : ET} {nm : Option Str}
theorem k_nil : PK X [] (rdA X.K W 0 aNil) := ⟨fun pos pnl s σ H Q I h => pk_nil.run pos pnl s σ H Q I (let ⟨ρ, S, Qd, Ed, hρ, hS, hf, lq, _⟩ := h; lq [] S [] H (Evo.refl _ _) hS rfl rfl hf)⟩
theorem k_cons (he : PE X e (rdE X.K W fe)) (hr : PK X kws (rdA X.K W n fa)) : PK X (⟨nm, e, kpos⟩ :: kws) (rdA X.K W (n + 1) (aCons fe fa)) := by
  refine ⟨fun pos pnl s σ H Q I h => (pk_cons he hr).run pos pnl s σ H Q I ?_⟩
  obtain ⟨ρ, S, Qd, Ed, hρ, hS, hf, lq, lx⟩ := h
  refine ⟨ρ, S, _, Ed, hρ, hS, hf, fun d S1 v H1 e1 r1 q1 h1 => ?_, lx⟩
  refine ⟨ρ, S1, _, Ed, hρ.imm (e1.imm hS), r1, h1, fun ds S2 vs H2 e2 r2 q2 hl h2 => ?_, lx.mono e1⟩
  exact lq (d :: ds) S2 _ H2 (e1.trans e2) r2 ⟨v, vs, rfl, Rel.imm (e2.imm r1) _ _ q1, q2⟩ (by simp [hl]) h2
theorem e_callK0 (G : FnOk X.prog X.w X.K X.mg X.base (L2.CX X.prog X.w) k f fd ps (spM X.K is.length F)) (hr : Room k X.A) (hg : Gl X x) (hm : X.mg x = some (.ref f)) (hk : PySem.W.keepIn X.K (.ref f) = true) (hb : KBinds X.K fd ps ks (gK 0 m is) (gK 0 m is)) (tk : Takes X W)
    (hkws : PK X kws (rdA X.K W m fk)) (his : ∀ i ∈ is, i < m := by decide) (hall : (backToKw pos (keywordEach kws X.env)).all (·.1.isSome) = true := by rfl) (hks : (backToKw pos (keywordEach kws X.env)).filterMap (·.1) = ks := by rfl)
    (noDbg : (x == ("__debug__" : Str)) = false := by decide)
    (noStar : ((backTo pos (starEach [] X.env)).any (·.1) || (backToKw pos (keywordEach kws X.env)).any (·.1.isNone)) = false := by rfl) :
    PE X (.Call (.Name x p) [] kws pos) (rdE X.K W (evCallK F is aNil fk)) :=
  PE_imp (pe_callKS0 G hr hg hm hk hb (fun σ => passAt tk σ) hkws hall hks noDbg noStar) fun σ H Q ⟨ρ, S, Qd, Ed, hρ, hS, hf, lq, lx⟩ => by
    refine ⟨ρ, S, _, Ed, hρ, hS, hf, fun ds S1 vs H1 e1 r1 q1 hl h1 => ⟨pickL is ds, S1, Qd, Ed, ?_, r1, ?_, h1, lq.mono e1, lx.mono e1⟩, lx⟩
    · unfold gK
      rw [if_pos ⟨rfl, by rw [← q1.length, hl]⟩]
      exact Rels.pick q1 is
    · exact pick_length fun i hi => by rw [hl]; exact his i hi
theorem e_callK (G : FnOk X.prog X.w X.K X.mg X.base (L2.CX X.prog X.w) k f fd ps (spM X.K is.length F)) (hr : Room k X.A) (hg : Gl X x) (hm : X.mg x = some (.ref f)) (hk : PySem.W.keepIn X.K (.ref f) = true) (hb : KBinds X.K fd ps ks (gK n m is) (gK n m is)) (tk : Takes X W)
    (ha : PA X (e :: es) (rdA X.K W n fa)) (hkws : PK X kws (rdA X.K W m fk)) (his : ∀ i ∈ is, i < n + m := by decide) (hall : (backToKw pos (keywordEach kws X.env)).all (·.1.isSome) = true := by rfl) (hks : (backToKw pos (keywordEach kws X.env)).filterMap (·.1) = ks := by rfl)
    (noDbg : (x == ("__debug__" : Str)) = false := by decide) (hst : starEach (e :: es) X.env = (false, eval e X.env) :: starEach es X.env := by rfl)
    (noStar : ((backTo pos (starEach (e :: es) X.env)).any (·.1) || (backToKw pos (keywordEach kws X.env)).any (·.1.isNone)) = false := by rfl) :
    PE X (.Call (.Name x p) (e :: es) kws pos) (rdE X.K W (evCallK F is fa fk)) :=
  PE_imp (pe_callKS G hr hg hm hk hb (fun σ => passAt tk σ) ha hkws hall hks noDbg hst noStar) fun σ H Q ⟨ρ, S, Qd, Ed, hρ, hS, hf, lq, lx⟩ => by
    refine ⟨ρ, S, _, Ed, hρ, hS, hf, fun us S0 vs0 H0 e0 r0 q0 hl0 h0 => ⟨ρ, S0, _, Ed, hρ.imm (e0.imm hS), r0, h0, fun ds S1 vs H1 e1 r1 q1 hl h1 => ⟨pickL is (us ++ ds), S1, Qd, Ed, ?_, r1, ?_, h1, (lq.mono e0).mono e1, (lx.mono e0).mono e1⟩, lx.mono e0⟩, lx⟩
    · unfold gK
      rw [if_pos ⟨by rw [← q0.length, hl0], by rw [← q1.length, hl]⟩]
      exact Rels.pick (Rels.append (Rels.imm (e1.imm r0) _ _ q0) q1) is
    · exact pick_length fun i hi => by rw [List.length_append, hl0, hl]; exact his i hi
end

/-! ### raise -/
/-- raise C('..') of an own class -/
def dRaise (c : Value) : ST := fun ρ S N => N.ex { cls := c } ρ S
section
variable {X : Cx} {W : WX} {pos : Pos} {e : Expr} {c : Value}
theorem s_raise (hc : X.calm = true) (tk : Takes X W) (he : PMk X e (fun _ H Q => Q c none H)) : PS X (.Raise (some e) none pos) (rdS X.K W (dRaise c)) :=
  PS_imp (ps_raise hc tk he) fun D σ H ⟨ρ, S, N, hρ, hS, hf, l⟩ => l.ex { cls := c } ρ S c none σ H (Evo.refl _ _) hS hρ ⟨rfl, [], .inl ⟨rfl, rfl⟩, rfl, rfl⟩ hf
end

/-! ### try: .. except X as n: y = n -/
/-- an object of ours, younger than the entry, is tracked from now on -/
theorem Inv.track {X : Cx} {pnl : List (Addr × Obj)} {σ : L2.St} {H : Hp} {s : Shared} {a : Addr} {o : HO} (I : Inv X pnl σ H s) (hn : H a = none) (h0 : X.s_0.heap.get? a = none) (hp : ∀ p ∈ X.pn ++ pnl, p.1 ≠ a) (hl : a ≠ X.env.locals)
    (hc : ∀ x c, X.env.cells.lookup x = some c → c ≠ a) (new : ObjOk X.prog X.w (upd H a o) s.heap a o) : Inv X pnl σ (upd H a o) s := by
  have ne : ∀ b ob, X.s_0.heap.get? b = some ob → b ≠ a := fun b ob e z => by rw [z, h0] at e; cases e
  refine ⟨I.ok, I.os, I.bare, ⟨I.base.keep, I.base.slot, fun b ob e n hx => ?_, I.base.there, fun b xs e => ?_, fun b ob w e => ?_, fun b ps e => ?_⟩, I.loc, I.cell, ?_, fun x c e => ?_, fun p q => ?_, fun b u e => ?_, I.len⟩
  · rw [upd_ne (ne b ob e)]; exact I.base.free b ob e n hx
  · have z := I.base.tups b xs e
    rw [upd_ne (ne_of_none z hn)]; exact z
  · have z := I.base.frzs b ob w e
    rw [upd_ne (ne_of_none z hn)]; exact z
  · obtain ⟨m, z⟩ := I.base.tbls b ps e
    exact ⟨m, by rw [upd_ne (ne_of_none z hn)]; exact z⟩
  · rw [upd_ne (Ne.symm hl)]; exact I.free
  · rw [upd_ne (hc x c e)]; exact I.freeC x c e
  · obtain ⟨e, n, r⟩ := I.pin p q
    exact ⟨e, by rw [upd_ne (hp p q)]; exact n, r⟩
  · by_cases hb : b = a
    · subst hb; rw [upd_same] at e; exact Option.some.inj e ▸ new
    · rw [upd_ne hb] at e
      exact (I.hok b u e).stay (fun _ _ _ q => q) (fun c q => by rw [upd_ne (ne_of_none q hn)]; exact q) fun c xs q => by rw [upd_ne (ne_of_none q hn)]; exact q
/-- the clause keeps the exception in slot j -/
def wKeep (K : PySem.W.Frag) (c : Value) (i j : Nat) (Wout : WX) (D : Ends) : WX := fun cls d σ H =>
  ∃ b, PySem.W.exmOne K cls c = some b ∧ (b = true → ∀ a, H a = none → D.nx (((σ.set i (some (.ref a))).set j (some (.ref a))).set i none) (upd H a (exT cls d a))) ∧ (b = false → Wout cls d σ H)
section
variable {X : Cx} {x n y : Str} {c : Value} {i j : Nat} {body : List Stmt} {np pos pos' py pn2 ps2 : Pos} {tb : WX → TS} {Wout : WX}
/-- an object with fields is no frame that flies with it -/
theorem off_frames {B h : Heap} {es : List PySem.Env} {a : Addr} {ob : Obj} {fv : Array Value} (ff : h.FunFrames B es) (e : h.get? a = some ob) (dd : ob.data = .fields fv) : a ∉ frs es := fun m =>
  let ⟨_, _, e2, no⟩ := ff.mem m
  no _ (by rw [e] at e2; cases e2; exact dd)
/-- none of the frames: not this one's names, not the others' -/
theorem off_here (hf : X.env.frame = some X.env.locals) {a : Addr} (o : a ∉ frs (X.env :: X.outer)) : a ≠ X.env.locals ∧ a ∉ X.fs := by
  constructor
  · rintro rfl
    exact o (List.mem_filterMap.mpr ⟨_, .head _, hf⟩)
  · intro m
    have ⟨e, me, fe⟩ := List.mem_filterMap.mp m
    exact o (List.mem_filterMap.mpr ⟨e, .tail _ me, fe⟩)
/-- .. so it is younger than the suite's entry, and than the def's -/
theorem young_in {pnl : List (Addr × Obj)} {σ : L2.St} {H : Hp} {sB : Shared} {B : Heap} {a : Addr} (J : Inv X pnl σ H sB) (hex : X.ex = []) (keep : ∀ b ob, sB.heap.get? b = some ob → b ∉ frs (X.env :: X.outer) → B.get? b = some ob) (o : a ∉ frs (X.env :: X.outer)) (fresh : B.get? a = none) :
    sB.heap.get? a = none ∧ X.s_0.heap.get? a = none := by
  have y : sB.heap.get? a = none := Option.eq_none_iff_forall_ne_some.mpr fun ob e => by
    have z := keep a ob e o
    rw [fresh] at z
    exact nomatch z
  refine ⟨y, Option.eq_none_iff_forall_ne_some.mpr fun ob e => ?_⟩
  have ⟨_, z⟩ := J.base.there a ob e (by rw [hex]; intro w; cases w)
  rw [y] at z
  exact nomatch z
theorem ps_try_keep (hs : X.stack = X.env :: X.outer) (hf : X.env.frame = some X.env.locals) (hN : X.N.Nodup) (hi : X.N[i]? = some n) (hln : X.env.kindOf n = some .local) (hj : X.N[j]? = some y) (hyl : X.env.scope.names.lookup y = some .local) (hij : i ≠ j) (hc : Names X x c) (tk : Takes X Wout)
    (hb : ∀ (W : WX) (pn : List (Addr × Obj)) (xe : Value → Shared → Prop) , Takes (X.tr pn xe) W → PassesOwn (model X.prog X.w) X.A X.env xe → PSs (X.tr pn xe) body (tb W))
    (hdn : (n == ("__debug__" : Str)) = false := by decide) (hdc : (n == ("__classdict__" : Str)) = false := by decide)
    (hsw : swapsWith (.Name n pn2) (some (.Name y py)) ps2.line X.env = pure false := by rfl) (hex : X.ex = [] := by rfl) :
    PS X (.Try body [.ExceptHandler (some (.Name x np)) (some n) [.Assign [.Name y py] (.Name n pn2) ps2] pos'] [] [] pos) (fun D σ H => tb (wKeep X.K c i j Wout D) D σ H) := by
  refine ⟨fun pnl s σ H D I h => ?_⟩
  have ok := I.ok
  have frA : X.A.frames = some (X.env :: X.outer) := by rw [ok.frames, hs]
  have locN : Loc X.env.scope n := .inl hln
  refine wpAny_Try_except ?_
  refine wpAny_mono ((hb (wKeep X.K c i j Wout D) (X.pn ++ pnl) (fun e s₁ => wpAny (model X.prog X.w) X.A (noteFrame e X.env) (fun _ s₂ => wpAny (model X.prog X.w) X.A (setFlight e none) (fun _ s₃ =>
    wpAny (model X.prog X.w) X.A (handleBy e X.env [.ExceptHandler (some (.Name x np)) (some n) [.Assign [.Name y py] (.Name n pn2) ps2] pos']) (SP X pnl D) X.xe s₃) X.xe s₂) X.xe s₁) (fun u sE xx => ?_) PassesOwn.looking).run [] s σ H D (I.toTry _) h) (fun f s1 done => ?_) (fun e s1 he => he)
  · -- the catch
    obtain ⟨a, B, sB, pins', σ', H', cls, d, rfl, J', nb, uB, sky, off, os, ag, b, hbm, hyes, hno⟩ := xx
    have J : Inv X pnl σ' H' sB := J'.ofTry ok
    have skyX : Sky B (X.env :: X.outer) a (Zc cls d) X.env.locals sE.heap := by rw [← hs]; exact sky
    have ba : B.get? a = none := by
      rcases sky with z | z | z
      · exact z.2.1
      · exact z.2.1
      · exact z.2.1
    show wpAny _ X.A (noteFrame (.ref a) X.env) _ _ _
    refine Sky.land Zc.steady frA hf skyX fun hx fly ux => ?_
    have jx : Inv X pnl σ' H' { sE with heap := hx } := J.landed nb fly.1 (uB.trans ux) os ag
    obtain ⟨ob, fv, at_a, is_z, fds⟩ := fly.there
    have nfr := off_frames fly.2.2.1 at_a fds
    have ⟨nL, nF⟩ := off_here hf nfr
    have ⟨nI, n0⟩ := young_in J hex (fun b ob e o => nb b ob e (by rw [hs]; exact o)) nfr ba
    have stx := jx.suite at_a fds off nL nF
    refine wpAny_handleBy_cons (codeAny_handlers_test ?_) fun q => nomatch q
    have ofTy : PySem.W.Looks (model X.prog X.w) hx (typeOf (.ref a)) cls := fun A Q E s k q => wpAny_typeOf_ref (k _ _ at_a) (by rw [is_z.1]; exact q)
    have mat := PySem.W.exm_one (M := model X.prog X.w) (jx.kIn) ofTy hbm
    have test : ∀ {Q : Value → Shared → Prop} {E : Value → Shared → Prop}, Q c { sE with heap := hx } → wpAny (model X.prog X.w) (X.A.mark (some (.ref a))) (eval (.Name x np) X.env) Q E { sE with heap := hx } := fun {Q E} q => by
      obtain ⟨gl, ndbg, mm | ⟨mm, bv, nn⟩⟩ := hc
      · exact ld_glob (X := X.suite a ((a, ob) :: (X.pn ++ pnl))) stx gl mm q ndbg
      · exact ld_blt (X := X.suite a ((a, ob) :: (X.pn ++ pnl))) stx gl mm bv q nn ndbg
    refine test (mat.here ?_)
    cases b with
    | true =>
      refine codeAny_handlers_suite_as (?_)
      refine HandSPX.lands_againZ fly fun hy flz uy => ?_
      have jy : Inv X pnl σ' H' { sE with heap := hy } := J.landed nb flz.1 ((uB.trans ux).trans uy) os ag
      obtain ⟨oc, fw, at_c, is_y, fdc⟩ := flz.there
      have sty := jy.suite at_c fdc off nL nF
      refine store_ok (X := X.suite a ((a, oc) :: (X.pn ++ pnl))) (v := .ref a) sty hN hi locN rfl (fun s5 S5 => ?_) (.inr hln)
      have hsuite : PSs (X.suite a ((a, oc) :: (X.pn ++ pnl))) [.Assign [.Name y py] (.Name n pn2) ps2] (tAsg (tVar i) (gName j)) :=
        pss_one (ps_set (X := X.suite a ((a, oc) :: (X.pn ++ pnl))) (i := j) hN hj (.inl hyl) (pe_var (X := X.suite a ((a, oc) :: (X.pn ++ pnl))) (i := i) hi (.inl hln) hdn hdc) hsw (.inr hyl))
      have len : i < σ'.length := by rw [J.len]; exact (List.getElem?_eq_some_iff.mp hi).1
      refine wpAny_mono (hsuite.run [] s5 _ H' { nx := fun σ2 H2 => σ2 = (σ'.set i (some (.ref a))).set j (some (.ref a)) ∧ H2 = H', rt := fun _ _ => False } S5 ⟨.ref a, by rw [List.getElem?_set_self len], rfl, rfl⟩) (fun f s6 done => ?_) (fun _ _ z => False.elim z)
      cases f with
      | next =>
        obtain ⟨τ6, H6, S6, e6, eH⟩ := done
        subst e6 eH
        have J6 : Inv X ((a, oc) :: pnl) ((σ'.set i (some (.ref a))).set j (some (.ref a))) H6 s6 := (S6.unsuite ok).pins_of fun p hp => by
          rcases List.mem_cons.1 hp with e | hp
          · rw [e]; exact S6.pin (a, oc) (List.mem_append_left _ List.mem_cons_self)
          · exact S6.pin p (List.mem_append_left _ (List.mem_cons_of_mem _ (List.mem_append_right _ hp)))
        refine gone_ok J6 hN hi hln fun s7 J7 => ?_
        obtain ⟨ha7, _⟩ := J7.pin (a, oc) (List.mem_append_right _ List.mem_cons_self)
        have J8 : Inv X pnl (((σ'.set i (some (.ref a))).set j (some (.ref a))).set i none) H6 s7 := J7.pins_of fun p hp => J7.pin p (List.mem_append_right _ (List.mem_cons_of_mem _ hp))
        refine ⟨_, _, Inv.track (o := exT cls d a) J8 off n0 (fun p hp z => ?_) nL (fun x' c' e z => ?_) ?_, hyes rfl a off⟩
        · have := (J.pin p hp).1
          rw [z, nI] at this; cases this
        · obtain ⟨v', q⟩ := J.cell x' c' e
          obtain ⟨o', q', _⟩ := q
          rw [z, nI] at q'; cases q'
        · exact ⟨⟨oc, fw, ha7, is_y, fdc⟩, ⟨oc, ha7⟩, fun _ _ ⟨o, v, q, r⟩ k => ⟨o, v, k o q, r⟩⟩
      | brk => exact done.elim fun _ z => z.elim fun _ z => z.2.elim
      | cont => exact done.elim fun _ z => z.elim fun _ z => z.2.elim
      | ret u => exact done.elim fun _ z => z.elim fun _ z => z.elim fun _ z => z.2.2.elim
    | false =>
      refine wpAny_handleBy_nil ?_
      obtain ⟨k1, k2, k3, oe, vs, T, oT, ts', he, hz, hd, h1, hr⟩ := id fly
      unfold PySem.passOn
      have seen : ¬ ((Value.ref T == Value.none) = true) := by simp
      refine wpAny_bind (wpAny_field he hd h1 (?_))
      rw [if_neg seen]
      have out : wpAny (model X.prog X.w) X.A (setFlight (.ref a) X.env.frame) (fun _ s4 => wpAny (model X.prog X.w) X.A (throw (.ref a) : Sem Flow) (SP X pnl D) X.xe s4) X.xe { sE with heap := hx } := by
        rw [hf]
        refine HandSPX.setFlight_upZ fly fun hy gy uy => wpAny_throw (tk _ _ ?_)
        exact ⟨a, B, sB, pnl, σ', H', cls, d, rfl, J, nb, (uB.trans ux).trans uy, .inr (.inr (by rw [hs]; exact gy)), off, os, ag, hno rfl⟩
      first
        | exact wpAny_bind (wpAny_pure (wpAny_bind out))
        | exact wpAny_bind out
  · -- the suite's own ends
    cases f with
    | next => exact done.elim fun τ z => z.elim fun G z => wpAny_execs_nil ⟨τ, G, z.1.ofTry ok, z.2⟩
    | brk => exact done.elim fun τ z => z.elim fun G z => ⟨τ, G, z.1.ofTry ok, z.2⟩
    | cont => exact done.elim fun τ z => z.elim fun G z => ⟨τ, G, z.1.ofTry ok, z.2⟩
    | ret u => exact done.elim fun w z => z.elim fun τ z => z.elim fun G z => ⟨w, τ, G, z.1.ofTry ok, z.2⟩
end
/-- catch: what the clause answers of a class -/
def dTryKeep (catch_ : Value → Option Bool) (i j : Nat) (g : ST) : ST := fun ρ S N => g ρ S { N with ex := fun x ρ' S' => match catch_ x.cls with
  | some true => ∀ a, N.nx (st (st ρ' j (some (.exn x.cls a x.ks x.xs))) i none) S'
  | some false => N.ex x ρ' S'
  | none => False }
section
variable {X : Cx} {x n y : Str} {c : Value} {i j : Nat} {body : List Stmt} {np pos pos' py pn2 ps2 : Pos} {g : ST} {Wout : WX} {catch_ : Value → Option Bool}
theorem s_try_keep (hs : X.stack = X.env :: X.outer) (hf : X.env.frame = some X.env.locals) (hN : X.N.Nodup) (hi : X.N[i]? = some n) (hln : X.env.kindOf n = some .local) (hj : X.N[j]? = some y) (hyl : X.env.scope.names.lookup y = some .local) (hij : i ≠ j) (hc : Names X x c) (tk : Takes X Wout)
    (hcatch : ∀ cls b, catch_ cls = some b → PySem.W.exmOne X.K cls c = some b)
    (hb : ∀ (W : WX) (pn : List (Addr × Obj)) (xe : Value → Shared → Prop) , Takes (X.tr pn xe) W → PassesOwn (model X.prog X.w) X.A X.env xe → PSs (X.tr pn xe) body (rdS X.K W g))
    (hdn : (n == ("__debug__" : Str)) = false := by decide) (hdc : (n == ("__classdict__" : Str)) = false := by decide)
    (hsw : swapsWith (.Name n pn2) (some (.Name y py)) ps2.line X.env = pure false := by rfl) (hex : X.ex = [] := by rfl) :
    PS X (.Try body [.ExceptHandler (some (.Name x np)) (some n) [.Assign [.Name y py] (.Name n pn2) ps2] pos'] [] [] pos) (rdS X.K Wout (dTryKeep catch_ i j g)) :=
  PS_imp (ps_try_keep hs hf hN hi hln hj hyl hij hc tk hb hdn hdc hsw hex) fun D σ H ⟨ρ, S, N, hρ, hS, hf, l⟩ => by
    refine ⟨ρ, S, _, hρ, hS, hf, ⟨l.nx, l.rt, fun x ρ' S' c' dd σ' H' e r k q h => ?_, l.bk, l.ct⟩⟩
    dsimp only at h
    obtain ⟨ec, vs, xd, hl, rs⟩ := q
    split at h
    · rename_i eq
      refine ⟨true, hcatch _ _ (by rw [ec]; exact eq), fun _ a ha => ?_, fun z => nomatch z⟩
      have im : Imm H' (upd H' a (exT c' dd a)) := upd_imm ha
      have hset : ((σ'.set i (some (.ref a))).set j (some (.ref a))).set i none = (σ'.set j (some (.ref a))).set i none := by
        rw [List.set_comm _ _ hij, List.set_set]
      rw [hset]
      refine l.nx _ S' _ _ (e.trans (evo_new ha)) (r.upd_new ha) (EnvR.gone i none (EnvR.set ?_ j (k.imm im))) (h a)
      exact ⟨rfl, dd, vs, by rw [← ec]; exact upd_same, im.xd xd, hl, Rels.imm im _ _ rs⟩
    · rename_i eq
      exact ⟨false, hcatch _ _ (by rw [ec]; exact eq), (fun z => nomatch z), fun _ => l.ex x ρ' S' c' dd σ' H' e r k ⟨ec, vs, xd, hl, rs⟩ h⟩
    · exact h.elim
end
end MP

set_option Elab.async false
set_option linter.all false
set_option maxRecDepth 100000
set_option maxHeartbeats 2100000
/-! MPOps: operators, comparisons, subscripts, built-ins over data. -/
namespace MP
open PySem PyProof.Rows PySem.Spec L2

/-! ### a value as it is read: a list or a dict of the store by what it holds -/
def vw (d : D) (S : Store) : D := match d with
  | .ref a => match S a with
    | some (.lst ds) => .lst ds
    | some (.dct ks ds) => .dct ks ds
    | _ => .ref a
  | d => d
/-- a list that is read: tracked, or locked -/
def RdL (K : PySem.W.Frag) (H : Hp) (ds : List D) (v : V) : Prop := ∃ a xs, v = .ref a ∧ Rd H a (.lst xs) ∧ Rels K H ds xs
def RdK (K : PySem.W.Frag) (H : Hp) (ds : List D) (v : V) : Prop := ∃ a xs, v = .ref a ∧ SqL K H a xs ∧ Rels K H ds xs
def RdT (K : PySem.W.Frag) (H : Hp) (ds : List D) (v : V) : Prop := ∃ a xs, v = .ref a ∧ SqT K H a xs ∧ Rels K H ds xs
def RdD (K : PySem.W.Frag) (H : Hp) (ks : List Key) (ds : List D) (v : V) : Prop := ∃ a xs, v = .ref a ∧ Rd H a (.dK (ks.zip xs)) ∧ ks.length = ds.length ∧ Rels K H ds xs
theorem RdL.k {K : PySem.W.Frag} {H : Hp} {ds : List D} {v : V} (h : RdL K H ds v) : RdK K H ds v := let ⟨a, xs, e, q, r⟩ := h; ⟨a, xs, e, .inl q, r⟩
/-- what a viewed value says -/
def RelW (K : PySem.W.Frag) (H : Hp) : D → V → Prop
  | .lst ds, v => RdL K H ds v
  | .kls ds, v => RdK K H ds v
  | .dct ks ds, v => RdD K H ks ds v
  | d, v => Rel K H d v
theorem vw_rel {K : PySem.W.Frag} {S : Store} {H : Hp} {d : D} {v : V} (hS : SRel K S H) (r : Rel K H d v) : RelW K H (vw d S) v := by
  cases d with
  | ref a =>
    have e : v = .ref a := r
    subst e
    unfold vw
    dsimp only
    split
    · rename_i ds q
      obtain ⟨xs, h, rs⟩ := hS a _ q
      exact ⟨a, xs, rfl, .inl h, rs⟩
    · rename_i ks ds q
      obtain ⟨xs, h, l, rs⟩ := hS a _ q
      exact ⟨a, xs, rfl, .inl h, l, rs⟩
    · exact rfl
  | lst ds => obtain ⟨a, xs, e, h, rs⟩ := r; exact ⟨a, xs, e, .inr h, rs⟩
  | kls ds => obtain ⟨a, xs, e, h, rs⟩ := r; exact ⟨a, xs, e, h.seq, rs⟩
  | dct ks ds => obtain ⟨a, xs, e, ⟨o, h⟩, l, rs⟩ := r; exact ⟨a, xs, e, .inr ⟨o, h⟩, l, rs⟩
  | _ => exact r
section
variable {K : PySem.W.Frag} {S : Store} {H : Hp} {d : D} {v : V}
theorem vw_lst {ds : List D} (hS : SRel K S H) (r : Rel K H d v) (e : vw d S = .lst ds) : RdL K H ds v := by have z := vw_rel hS r; rw [e] at z; exact z
theorem vw_kls {ds : List D} (hS : SRel K S H) (r : Rel K H d v) (e : vw d S = .kls ds) : RdK K H ds v := by have z := vw_rel hS r; rw [e] at z; exact z
theorem vw_dct {ks : List Key} {ds : List D} (hS : SRel K S H) (r : Rel K H d v) (e : vw d S = .dct ks ds) : RdD K H ks ds v := by have z := vw_rel hS r; rw [e] at z; exact z
theorem vw_tup {ds : List D} (hS : SRel K S H) (r : Rel K H d v) (e : vw d S = .tup ds) : RdT K H ds v := by have z := vw_rel hS r; rw [e] at z; exact z
theorem vw_int {i : Int} (hS : SRel K S H) (r : Rel K H d v) (e : vw d S = .int i) : v = .int i := by have z := vw_rel hS r; rw [e] at z; exact z
theorem vw_str {i : Str} (hS : SRel K S H) (r : Rel K H d v) (e : vw d S = .str i) : v = .str i := by have z := vw_rel hS r; rw [e] at z; exact z
theorem vw_bl {i : Bool} (hS : SRel K S H) (r : Rel K H d v) (e : vw d S = .bl i) : v = .bl i := by have z := vw_rel hS r; rw [e] at z; exact z
theorem vw_non (hS : SRel K S H) (r : Rel K H d v) (e : vw d S = .non) : v = .non := by have z := vw_rel hS r; rw [e] at z; exact z
theorem LQ.here {Qd : Post} {Q : VK} (l : LQ K S H Qd Q) (hS : SRel K S H) {d : D} {v : V} (r : Rel K H d v) (q : Qd d S) : Q v H := l d S v H (Evo.refl _ _) hS r q
theorem LQ.fz {Qd : Post} {Q : VK} (l : LQ K S H Qd Q) (hS : SRel K S H) {d : D} {v : V} (r : Rel K H d v) (q : Qd d S) : FzQ Q v H := .inl (l.here hS r q)
end

/-! ### numbers -/
def g2i (C : Int → Int → Prop) (g : Int → Int → D) : G2 := fun x y S Q => match x, y with
  | .int i, .int j => C i j ∧ Q (g i j) S
  | _, _ => False
def gI (g : Int → Int → D) : G2 := fun x y S Q => match x, y with
  | .int i, .int j => Q (g i j) S
  | _, _ => False
theorem opd_rI {K : PySem.W.Frag} {C : Int → Int → Prop} {g : Int → Int → D} {gv : Int → Int → V} (h : ∀ i j H, Rel K H (g i j) (gv i j)) : OpD K (rI C gv) (g2i C g) := by
  intro x y S H dx dy Qd Q hS rx ry q l
  unfold g2i at q
  split at q
  · exact ⟨_, _, rx, ry, q.1, l.fz hS (h _ _ _) q.2⟩
  · exact q.elim
theorem opd_rI0 {K : PySem.W.Frag} {g : Int → Int → D} {gv : Int → Int → V} (h : ∀ i j H, Rel K H (g i j) (gv i j)) : OpD K (rI0 gv) (gI g) := by
  intro x y S H dx dy Qd Q hS rx ry q l
  unfold gI at q
  split at q
  · exact ⟨_, _, rx, ry, l.fz hS (h _ _ _) q⟩
  · exact q.elim
def gSub : G2 := gI fun i j => .int (i - j)
def gMul : G2 := g2i CMul fun i j => .int (i * j)
def gDiv : G2 := g2i CDiv fun i j => .int (i / j)
def gMod : G2 := g2i (fun _ j => 0 < j) fun i j => .int (i % j)
def gPow : G2 := g2i CPow fun i j => .int (i ^ j.toNat)
def gShr : G2 := g2i (fun _ j => 0 ≤ j) fun i j => .int (i / 2 ^ j.toNat)
def gShl : G2 := g2i CPow fun i j => .int (i * 2 ^ j.toNat)
def gNeg : G1 := fun x S Q => match x with
  | .int i => Q (.int (-i)) S
  | _ => False
section
variable {K : PySem.W.Frag}
theorem d_sub : OpD K (rI0 fun i j => .int (i - j)) gSub := opd_rI0 fun _ _ _ => rfl
theorem d_mul : OpD K (rI CMul fun i j => .int (i * j)) gMul := opd_rI fun _ _ _ => rfl
theorem d_div : OpD K (rI CDiv fun i j => .int (i / j)) gDiv := opd_rI fun _ _ _ => rfl
theorem d_mod : OpD K (rI (fun _ j => 0 < j) fun i j => .int (i % j)) gMod := opd_rI fun _ _ _ => rfl
theorem d_pow : OpD K (rI CPow fun i j => .int (i ^ j.toNat)) gPow := opd_rI fun _ _ _ => rfl
theorem d_shr : OpD K (rI (fun _ j => 0 ≤ j) fun i j => .int (i / 2 ^ j.toNat)) gShr := opd_rI fun _ _ _ => rfl
theorem d_shl : OpD K (rI CPow fun i j => .int (i * 2 ^ j.toNat)) gShl := opd_rI fun _ _ _ => rfl
theorem d_neg : UnD K (rU fun i => .int (-i)) gNeg := by
  intro x S H dx Qd Q hS rx q l
  unfold gNeg at q
  split at q
  · exact ⟨_, rx, l.here hS (d := .int (-_)) rfl q⟩
  · exact q.elim
end

/-! ### + -/
def rCatS : R2 := fun x y H Q => ∃ l b xs zs, x = .ref l ∧ y = .ref b ∧ Rd H l (.lst xs) ∧ Rd H b (.lst zs) ∧ xs.length + zs.length ≤ sizeLine ∧ ∀ p, H p = none → Q (.ref p) (upd H p (.lst (xs ++ zs)))
theorem op_catS {X : Cx} : OpR X (binaryOp .Add) rCatS := by
  intro pins s σ H x y v u Q I rx ry ⟨l, b, xs, zs, ex, ey, hl, hb, hz, q⟩
  subst ex ey
  cases rx
  cases ry
  obtain ⟨_, i1, n1, r1, o1⟩ := hl.ok I.hok
  obtain ⟨_, i2, n2, r2, o2⟩ := hb.ok I.hok
  have l1 := Vals.length r1
  have l2 := Vals.length r2
  refine PySem.P.add_list o1 o2 ?_ (by rw [List.size_toArray, List.size_toArray]; omega)
  rw [show i1.toArray ++ i2.toArray = (i1 ++ i2).toArray by simp]
  exact ⟨.ref s.heap.objs.size, _, I.lnew (t' := s.toks) (Vals.append r1 r2) (by simp only [List.length_append]; exact hz), rfl, q _ I.fresh⟩
def rAddAll (K : PySem.W.Frag) : R2 := fun x y H Q => (∃ i j, x = .int i ∧ y = .int j ∧ Q (.int (i + j)) H) ∨ (∃ i j, x = .str i ∧ y = .str j ∧ i.length + j.length ≤ sizeLine ∧ Q (.str (i ++ j)) H) ∨ rCatT K x y H Q ∨ rCatS x y H Q
theorem op_addAll {X : Cx} : OpR X (binaryOp .Add) (rAddAll X.K) := OpR.or op_add (OpR.or op_add_str (OpR.or op_catT op_catS))
def gAdd (mk : MkT) : G2 := fun x y S Q => match vw x S, vw y S with
  | .int i, .int j => Q (.int (i + j)) S
  | .str i, .str j => i.length + j.length ≤ sizeLine ∧ Q (.str (i ++ j)) S
  | .tup i, .tup j => i ≠ [] ∧ i.length + j.length ≤ sizeLine ∧ Q (.tup (i ++ j)) S
  | .lst i, .lst j => i.length + j.length ≤ sizeLine ∧ mk (i ++ j) S Q
  | _, _ => False
theorem d_add {K : PySem.W.Frag} {mk : MkT} (hm : MkOk K mk) : OpD K (rAddAll K) (gAdd mk) := by
  intro x y S H dx dy Qd Q hS rx ry q l
  unfold gAdd at q
  split at q
  · rename_i i j e1 e2
    exact .inl ⟨i, j, vw_int hS rx e1, vw_int hS ry e2, l.fz hS (d := .int (i + j)) rfl q⟩
  · rename_i i j e1 e2
    exact .inr (.inl ⟨i, j, vw_str hS rx e1, vw_str hS ry e2, q.1, l.fz hS (d := .str (i ++ j)) rfl q.2⟩)
  · rename_i i j e1 e2
    obtain ⟨a, xs, ea, ha, ra⟩ := vw_tup hS rx e1
    obtain ⟨b, ys, eb, hb, rb⟩ := vw_tup hS ry e2
    refine .inr (.inr (.inl ⟨a, b, xs, ys, ea, eb, ha, hb, ?_, ?_, ?_⟩))
    · intro z; subst z; have := ra.length; cases i with
      | nil => exact q.1 rfl
      | cons _ _ => simp at this
    · rw [← ra.length, ← rb.length]; exact q.2.1
    · refine ⟨fun hy => ?_, fun hy => ?_⟩
      · subst hy
        have ej : j = [] := by have := rb.length; cases j with
          | nil => rfl
          | cons _ _ => simp at this
        subst ej
        rw [List.append_nil] at q
        exact l.fz hS (d := .tup i) ⟨a, xs, rfl, ha, ra⟩ q.2.2
      · exact fun p hp => .inl (new_tup hS hp (Rels.append ra rb) q.2.2 l)
  · rename_i i j e1 e2
    obtain ⟨a, xs, ea, ha, ra⟩ := vw_lst hS rx e1
    obtain ⟨b, ys, eb, hb, rb⟩ := vw_lst hS ry e2
    exact .inr (.inr (.inr ⟨a, b, xs, ys, ea, eb, ha, hb, by rw [← ra.length, ← rb.length]; exact q.1, fun p hp => hm _ _ _ _ _ _ _ hS hp (Rels.append ra rb) q.2 l⟩))
  · exact q.elim

/-! ### == and != -/
mutual
def toPy : D → Option PyData
  | .non => some .none
  | .bl b => some (.bool b)
  | .int i => some (.int i)
  | .str x => some (.str x)
  | .tup xs => (toPys xs).map .tuple
  | .lst xs => (toPys xs).map .list
  | .kls xs => (toPys xs).map .list
  | .ty _ => none
  | .ref _ => none
  | .exn _ _ _ _ => none
  | .dct _ _ => none
def toPys : List D → Option (List PyData)
  | [] => some []
  | d :: ds => (toPy d).bind fun p => (toPys ds).map fun ps => p :: ps
end
mutual
theorem toPy_dp {K : PySem.W.Frag} {H : Hp} : ∀ (d : D) (v : V) (p : PyData), Rel K H d v → toPy d = some p → Dp K H v p
  | .non, _, _, r, e => by cases e; have z : _ = V.non := r; subst z; exact .non
  | .bl b, _, _, r, e => by cases e; have z : _ = V.bl b := r; subst z; exact .bl b
  | .int i, _, _, r, e => by cases e; have z : _ = V.int i := r; subst z; exact .int i
  | .str x, _, _, r, e => by cases e; have z : _ = V.str x := r; subst z; exact .str x
  | .tup xs, _, _, ⟨a, vs, e1, h, rs⟩, e => by
    obtain ⟨ps, e2, e3⟩ := Option.map_eq_some_iff.mp e
    subst e1 e3
    exact .tup h (toPys_dp xs vs ps rs e2)
  | .lst xs, _, _, ⟨a, vs, e1, h, rs⟩, e => by
    obtain ⟨ps, e2, e3⟩ := Option.map_eq_some_iff.mp e
    subst e1 e3
    exact .lst h.seq (toPys_dp xs vs ps rs e2)
  | .kls xs, _, _, ⟨a, vs, e1, h, rs⟩, e => by
    obtain ⟨ps, e2, e3⟩ := Option.map_eq_some_iff.mp e
    subst e1 e3
    exact .lst h.seq (toPys_dp xs vs ps rs e2)
  | .ty _, _, _, _, e => nomatch e
  | .ref _, _, _, _, e => nomatch e
  | .exn _ _ _ _, _, _, _, e => nomatch e
  | .dct _ _, _, _, _, e => nomatch e
theorem toPys_dp {K : PySem.W.Frag} {H : Hp} : ∀ (ds : List D) (vs : List V) (ps : List PyData), Rels K H ds vs → toPys ds = some ps → DpAll K H vs ps
  | [], _, _, r, e => by cases e; have z : _ = [] := r; subst z; exact .nil
  | d :: ds, _, _, ⟨v, r, e1, h, t⟩, e => by
    subst e1
    obtain ⟨p, e2, e3⟩ := Option.bind_eq_some_iff.mp e
    obtain ⟨qs, e4, e5⟩ := Option.map_eq_some_iff.mp e3
    subst e5
    exact .cons (toPy_dp d v p h e2) (toPys_dp ds r qs t e4)
end
theorem toPy_vw {K : PySem.W.Frag} {S : Store} {H : Hp} {d : D} {v : V} {p : PyData} (hS : SRel K S H) (r : Rel K H d v) (e : toPy (vw d S) = some p) : Dp K H v p := by
  cases hd : vw d S with
  | lst xs =>
    rw [hd] at e
    obtain ⟨a, vs, e1, h, rs⟩ := vw_lst hS r hd
    obtain ⟨ps, e2, e3⟩ := Option.map_eq_some_iff.mp e
    subst e1 e3
    exact .lst (.inl h) (toPys_dp xs vs ps rs e2)
  | kls xs =>
    rw [hd] at e
    obtain ⟨a, vs, e1, h, rs⟩ := vw_kls hS r hd
    obtain ⟨ps, e2, e3⟩ := Option.map_eq_some_iff.mp e
    subst e1 e3
    exact .lst h (toPys_dp xs vs ps rs e2)
  | dct ks xs => rw [hd] at e; cases e
  | ref a => rw [hd] at e; cases e
  | ty n => rw [hd] at e; cases e
  | exn c a ks xs => rw [hd] at e; cases e
  | _ => have z := vw_rel hS r; rw [hd] at z e; exact toPy_dp _ _ _ z e
/-- two values compared: texts by themselves, else data of a shape -/
def eqG (f : Bool → Bool) : G2 := fun x y S Q => match x, y with
  | .str a, .str b => Q (.bl (f (a == b))) S
  | x, y => match toPy (vw x S), toPy (vw y S) with
    | some d, some e => SeqAt.shaped d = true ∧ SeqAt.shaped e = true ∧ Q (.bl (f (PyData.eqv d e))) S
    | _, _ => False
def gEq : G2 := eqG fun b => b
def gNe : G2 := eqG fun b => !b
def rEqA (K : PySem.W.Frag) : R2 := fun x y H Q => rEq x y H Q ∨ rEqD K x y H Q
def rNeA (K : PySem.W.Frag) : R2 := fun x y H Q => rNe x y H Q ∨ rNeD K x y H Q
theorem op_eqA {X : Cx} (hu : X.A.units + 64 < cLine) : OpR X (compareOp .Eq) (rEqA X.K) := OpR.or op_eq (op_eqD hu)
theorem op_neA {X : Cx} (hu : X.A.units + 64 < cLine) : OpR X (compareOp .NotEq) (rNeA X.K) := OpR.or op_ne (op_neD hu)
theorem d_eq {K : PySem.W.Frag} : OpD K (rEqA K) gEq := by
  intro x y S H dx dy Qd Q hS rx ry q l
  unfold gEq eqG at q
  split at q
  · rename_i a b
    have e1 : x = V.str a := rx
    have e2 : y = V.str b := ry
    subst e1 e2
    exact .inl ⟨rfl, by rw [dec_str]; exact l.fz hS (d := .bl (a == b)) rfl q⟩
  · split at q
    · rename_i d e h1 h2
      exact .inr ⟨d, e, toPy_vw hS rx h1, toPy_vw hS ry h2, q.1, q.2.1, l.fz hS (d := .bl _) rfl q.2.2⟩
    · exact q.elim
theorem d_ne {K : PySem.W.Frag} : OpD K (rNeA K) gNe := by
  intro x y S H dx dy Qd Q hS rx ry q l
  unfold gNe eqG at q
  split at q
  · rename_i a b
    have e1 : x = V.str a := rx
    have e2 : y = V.str b := ry
    subst e1 e2
    exact .inl ⟨rfl, by rw [dec_str]; exact l.fz hS (d := .bl (!(a == b))) rfl q⟩
  · split at q
    · rename_i d e h1 h2
      exact .inr ⟨d, e, toPy_vw hS rx h1, toPy_vw hS ry h2, q.1, q.2.1, l.fz hS (d := .bl _) rfl q.2.2⟩
    · exact q.elim
/-- a bool stays where it is -/
theorem fz_bl {Q : VK} {b : Bool} {H : Hp} (h : FzQ Q (.bl b) H) : Q (.bl b) H := by
  rcases h with h | ⟨a, xs, e, _⟩ | ⟨a, xs, e, _⟩
  · exact h
  · cases e
  · cases e
theorem bools_eq {K : PySem.W.Frag} : Bools (rEqA K) := fun x y H Q h => h.elim (fun ⟨a, b⟩ => .inl ⟨a, fz_bl b⟩) fun ⟨d, e, a, b, c, f, g⟩ => .inr ⟨d, e, a, b, c, f, fz_bl g⟩
theorem bools_ne {K : PySem.W.Frag} : Bools (rNeA K) := fun x y H Q h => h.elim (fun ⟨a, b⟩ => .inl ⟨a, fz_bl b⟩) fun ⟨d, e, a, b, c, f, g⟩ => .inr ⟨d, e, a, b, c, f, fz_bl g⟩

/-! ### < <= > >= -/
def rOrd (p : Int → Int → Bool) (q : List Nat → List Nat → Bool) : R2 := fun x y H Q => (∃ i j, x = .int i ∧ y = .int j ∧ Q (.bl (p i j)) H) ∨ ∃ i j, x = .str i ∧ y = .str j ∧ Q (.bl (q i.cps.toList j.cps.toList)) H
def gOrd (p : Int → Int → Bool) (q : List Nat → List Nat → Bool) : G2 := fun x y S Q => match x, y with
  | .int i, .int j => Q (.bl (p i j)) S
  | .str i, .str j => Q (.bl (q i.cps.toList j.cps.toList)) S
  | _, _ => False
theorem d_ord {K : PySem.W.Frag} {p : Int → Int → Bool} {q : List Nat → List Nat → Bool} : OpD K (rOrd p q) (gOrd p q) := by
  intro x y S H dx dy Qd Q hS rx ry h l
  unfold gOrd at h
  split at h
  · exact .inl ⟨_, _, rx, ry, l.fz hS (d := .bl _) rfl h⟩
  · exact .inr ⟨_, _, rx, ry, l.fz hS (d := .bl _) rfl h⟩
  · exact h.elim
theorem bools_ord {p : Int → Int → Bool} {q : List Nat → List Nat → Bool} : Bools (rOrd p q) := fun x y H Q h => h.elim (fun ⟨i, j, a, b, c⟩ => .inl ⟨i, j, a, b, fz_bl c⟩) fun ⟨i, j, a, b, c⟩ => .inr ⟨i, j, a, b, fz_bl c⟩
abbrev gLt : G2 := gOrd (fun i j => decide (i < j)) (fun i j => decide (i < j))
abbrev gLe : G2 := gOrd (fun i j => decide (i ≤ j)) (fun i j => !decide (j < i))
abbrev gGt : G2 := gOrd (fun i j => decide (j < i)) (fun i j => decide (j < i))
abbrev gGe : G2 := gOrd (fun i j => decide (j ≤ i)) (fun i j => !decide (i < j))
section
variable {X : Cx}
theorem op_ltA : OpR X (compareOp .Lt) (rOrd (fun i j => decide (i < j)) (fun i j => decide (i < j))) := OpR.or op_lt op_lt_str
theorem op_leA : OpR X (compareOp .LtE) (rOrd (fun i j => decide (i ≤ j)) (fun i j => !decide (j < i))) := OpR.or op_le op_le_str
theorem op_gtA : OpR X (compareOp .Gt) (rOrd (fun i j => decide (j < i)) (fun i j => decide (j < i))) := OpR.or op_gt op_gt_str
theorem op_geA : OpR X (compareOp .GtE) (rOrd (fun i j => decide (j ≤ i)) (fun i j => !decide (i < j))) := OpR.or op_ge op_ge_str
end

/-! ### is None, is not None -/
def isNon : D → Bool
  | .non => true
  | _ => false
theorem isNon_rel {K : PySem.W.Frag} {H : Hp} {d : D} {v : V} (r : Rel K H d v) : decide (v = .non) = isNon d := by
  cases d with
  | non => have e : v = _ := r; subst e; rfl
  | bl b => have e : v = _ := r; subst e; rfl
  | int i => have e : v = _ := r; subst e; rfl
  | str x => have e : v = _ := r; subst e; rfl
  | ty n => have e : v = _ := r; subst e; rfl
  | ref a => have e : v = _ := r; subst e; rfl
  | exn c a ks xs => obtain ⟨e, _⟩ := r; subst e; rfl
  | tup xs => obtain ⟨a, ys, e, _⟩ := r; subst e; rfl
  | lst xs => obtain ⟨a, ys, e, _⟩ := r; subst e; rfl
  | kls xs => obtain ⟨a, ys, e, _⟩ := r; subst e; rfl
  | dct ks xs => obtain ⟨a, ys, e, _⟩ := r; subst e; rfl
def rIsN : R2 := fun v y H Q => y = .non ∧ Q (.bl (decide (v = .non))) H
def rIsnN : R2 := fun x y H Q => y = .non ∧ Q (.bl (!decide (x = .non))) H
def gIs : G2 := fun x y S Q => match y with
  | .non => Q (.bl (isNon x)) S
  | _ => False
def gIsn : G2 := fun x y S Q => match y with
  | .non => Q (.bl (!isNon x)) S
  | _ => False
theorem d_is {K : PySem.W.Frag} : OpD K rIsN gIs := by
  intro x y S H dx dy Qd Q hS rx ry h l
  unfold gIs at h
  split at h
  · exact ⟨ry, by rw [isNon_rel rx]; exact l.fz hS (d := .bl _) rfl h⟩
  · exact h.elim
theorem d_isn {K : PySem.W.Frag} : OpD K rIsnN gIsn := by
  intro x y S H dx dy Qd Q hS rx ry h l
  unfold gIsn at h
  split at h
  · exact ⟨ry, by rw [isNon_rel rx]; exact l.fz hS (d := .bl _) rfl h⟩
  · exact h.elim
theorem bools_is : Bools rIsN := fun x y H Q h => ⟨h.1, fz_bl h.2⟩
theorem bools_isn : Bools rIsnN := fun x y H Q h => ⟨h.1, fz_bl h.2⟩
theorem op_isA {X : Cx} : OpR X (compareOp .Is) rIsN := op_isN
theorem op_isnA {X : Cx} : OpR X (compareOp .IsNot) rIsnN := op_notN

/-! ### in, not in: a list, a tuple of flat things; a sign in a text -/
def flatD : D → Bool
  | .non => true
  | .bl _ => true
  | .int _ => true
  | .str _ => true
  | _ => false
def eqF : D → D → Bool
  | .non, .non => true
  | .bl a, .bl b => a == b
  | .bl p, .int b => (if p then 1 else 0) == b
  | .int a, .bl p => a == (if p then 1 else 0)
  | .int a, .int b => a == b
  | .str a, .str b => a == b
  | _, _ => false
theorem flatD_rel {K : PySem.W.Frag} {H : Hp} {d : D} {v : V} (r : Rel K H d v) (h : flatD d = true) : flatV v = true := by
  cases d with
  | non => have e : v = _ := r; subst e; rfl
  | bl b => have e : v = _ := r; subst e; rfl
  | int i => have e : v = _ := r; subst e; rfl
  | str x => have e : v = _ := r; subst e; rfl
  | _ => cases h
theorem eqF_rel {K : PySem.W.Frag} {H : Hp} {d e : D} {v u : V} (r : Rel K H d v) (q : Rel K H e u) (h : flatD d = true) (k : flatD e = true) : eqV v u = eqF d e := by
  cases d <;> first
    | cases h; done
    | (have e1 := r
       cases e <;> first
         | cases k; done
         | (have e2 := q
            cases e1
            cases e2
            rfl))
def inD (x : D) (ys : List D) : Bool := ys.any fun y => eqF y x
theorem inD_rel {K : PySem.W.Frag} {H : Hp} {d : D} {v : V} (r : Rel K H d v) (h : flatD d = true) : ∀ {ds : List D} {vs : List V}, Rels K H ds vs → ds.all flatD = true → vs.all flatV = true ∧ inV v vs = inD d ds
  | [], _, e, _ => by have z : _ = [] := e; subst z; exact ⟨rfl, rfl⟩
  | y :: ds, _, ⟨u, us, e, h1, t⟩, f => by
    subst e
    rw [List.all_cons, Bool.and_eq_true_iff] at f
    obtain ⟨a, b⟩ := inD_rel r h t f.2
    refine ⟨by rw [List.all_cons, flatD_rel h1 f.1, a]; rfl, ?_⟩
    show (eqV u v || inV v us) = (eqF y d || inD d ds)
    rw [eqF_rel h1 r f.1 h, b]
def signOf : D → Option Nat
  | .str x => match x.cps.toList with
    | [c] => some c
    | _ => none
  | _ => none
def rInA (K : PySem.W.Frag) (neg : Bool) : R2 := fun x y H Q => rIn K neg x y H Q ∨ ∃ (c : Nat) (z : Str), x = .str ⟨#[c]⟩ ∧ y = .str z ∧ Q (.bl (if neg then !decide (c ∈ z.cps.toList) else decide (c ∈ z.cps.toList))) H
def gIn (neg : Bool) : G2 := fun x y S Q => match vw y S with
  | .lst ys => flatD x = true ∧ ys.all flatD = true ∧ Q (.bl (if neg then !inD x ys else inD x ys)) S
  | .tup ys => flatD x = true ∧ ys.all flatD = true ∧ Q (.bl (if neg then !inD x ys else inD x ys)) S
  | .str z => match signOf x with
    | some c => Q (.bl (if neg then !decide (c ∈ z.cps.toList) else decide (c ∈ z.cps.toList))) S
    | none => False
  | _ => False
theorem op_inA {X : Cx} : OpR X (compareOp .In) (rInA X.K false) := OpR.or op_in_seq op_in_sign
theorem op_notInA {X : Cx} : OpR X (compareOp .NotIn) (rInA X.K true) := OpR.or op_notIn_seq op_notIn_sign
theorem sign_rel {K : PySem.W.Frag} {H : Hp} {d : D} {v : V} {c : Nat} (r : Rel K H d v) (h : signOf d = some c) : v = .str ⟨#[c]⟩ := by
  cases d with
  | str x =>
    have e : v = _ := r
    subst e
    unfold signOf at h
    dsimp only at h
    split at h
    · rename_i c' e'
      cases h
      obtain ⟨⟨l⟩⟩ := x
      simp only at e'
      subst e'
      rfl
    · cases h
  | _ => cases h
theorem d_in {K : PySem.W.Frag} {neg : Bool} : OpD K (rInA K neg) (gIn neg) := by
  intro x y S H dx dy Qd Q hS rx ry h l
  unfold gIn at h
  split at h
  · rename_i ys e
    obtain ⟨a, vs, ea, ha, rs⟩ := vw_lst hS ry e
    obtain ⟨f, g⟩ := inD_rel rx h.1 rs h.2.1
    exact .inl ⟨a, vs, ea, .inl (.inl ha), flatD_rel rx h.1, f, by rw [g]; exact l.fz hS (d := .bl _) rfl h.2.2⟩
  · rename_i ys e
    obtain ⟨a, vs, ea, ha, rs⟩ := vw_tup hS ry e
    obtain ⟨f, g⟩ := inD_rel rx h.1 rs h.2.1
    exact .inl ⟨a, vs, ea, .inr ha, flatD_rel rx h.1, f, by rw [g]; exact l.fz hS (d := .bl _) rfl h.2.2⟩
  · rename_i z e
    split at h
    · rename_i c ec
      exact .inr ⟨c, z, sign_rel rx ec, vw_str hS ry e, l.fz hS (d := .bl _) rfl h⟩
    · exact h.elim
  · exact h.elim
theorem bools_in {K : PySem.W.Frag} {neg : Bool} : Bools (rInA K neg) := fun x y H Q h => h.elim (fun ⟨a, b, c, d, e, f, g⟩ => .inl ⟨a, b, c, d, e, f, fz_bl g⟩) fun ⟨a, b, c, d, g⟩ => .inr ⟨a, b, c, d, fz_bl g⟩

/-! ### subscripts -/
def dlook (ks : List Key) (ds : List D) (k : Key) : Option D := match ks, ds with
  | j :: ks, d :: ds => if j = k then some d else dlook ks ds k
  | _, _ => none
def keyD : D → Option Key
  | .int i => some (.inl i)
  | .str x => some (.inr x)
  | _ => none
theorem keyD_rel {K : PySem.W.Frag} {H : Hp} {d : D} {v : V} {k : Key} (r : Rel K H d v) (h : keyD d = some k) : v = kV k := by
  cases d with
  | int i => cases h; exact r
  | str x => cases h; exact r
  | _ => cases h
theorem dlook_rel {K : PySem.W.Frag} {H : Hp} (k : Key) : ∀ {ks : List Key} {ds : List D} {vs : List V}, Rels K H ds vs → ks.length = ds.length →
    (dlook ks ds k = none ∧ valV (ks.zip vs) k = none) ∨ ∃ d v, dlook ks ds k = some d ∧ valV (ks.zip vs) k = some v ∧ Rel K H d v
  | [], _, _, _, _ => .inl ⟨by unfold dlook; rfl, rfl⟩
  | j :: ks, [], _, _, l => by cases l
  | j :: ks, d :: ds, _, ⟨v, r, e, h, t⟩, l => by
    subst e
    by_cases hj : j = k
    · exact .inr ⟨d, v, by unfold dlook; rw [if_pos hj], by rw [List.zip_cons_cons, valV_pos hj], h⟩
    · have ih := dlook_rel k t (by simpa using l)
      unfold dlook
      rw [if_neg hj, List.zip_cons_cons, valV_neg hj]
      exact ih
def rIxD : R2 := fun x y H Q => ∃ a v, x = .ref a ∧ DGet H a y (some v) ∧ Q v H
theorem ix_dict {X : Cx} (hu : X.A.units + 1 < cLine) : IxR X rIxD := by
  intro value slice pins s σ H x y v u Q I rx ry ⟨a, z, ex, g, q⟩ hs
  subst ex
  cases rx
  exact tail_any (dict_typeIs I g) PySem.F.slot_dict_getitem.lookup (d_getItem hu I g ry fun w s' J rw' => ⟨z, H, J, rw', q⟩) hs
def rIxA (K : PySem.W.Frag) : R2 := fun x y H Q => rIx K x y H Q ∨ rIxD x y H Q
theorem ix_all {X : Cx} (hu : X.A.units + 1 < cLine) : IxR X (rIxA X.K) := IxR.or ix_seq (ix_dict hu)
def gIx : G2 := fun x y S Q => match vw x S with
  | .lst ds => match y with
    | .int i => match atI ds i with
      | some d => Q d S
      | none => False
    | _ => False
  | .tup ds => match y with
    | .int i => match atI ds i with
      | some d => Q d S
      | none => False
    | _ => False
  | .str z => match y with
    | .int i => z.length ≤ sizeLine ∧ match atI z.cps.toList i with
      | some c => Q (.str ⟨#[c]⟩) S
      | none => False
    | _ => False
  | .dct ks ds => match keyD y with
    | some k => match dlook ks ds k with
      | some d => Q d S
      | none => False
    | none => False
  | _ => False
theorem atI_rel {K : PySem.W.Frag} {H : Hp} {ds : List D} {vs : List V} {i : Int} {d : D} (r : Rels K H ds vs) (h : atI ds i = some d) : ∃ v, atI vs i = some v ∧ Rel K H d v := by
  unfold atI at h ⊢
  rw [← r.length]
  obtain ⟨j, e, h2⟩ := Option.bind_eq_some_iff.mp h
  obtain ⟨v, a, b⟩ := r.get h2
  exact ⟨v, by rw [e]; exact a, b⟩
theorem d_ix {K : PySem.W.Frag} : OpD K (rIxA K) gIx := by
  intro x y S H dx dy Qd Q hS rx ry h l
  unfold gIx at h
  split at h
  · rename_i ds e
    obtain ⟨a, vs, ea, ha, rs⟩ := vw_lst hS rx e
    split at h
    · rename_i i
      split at h
      · rename_i d ed
        obtain ⟨v, ev, rv⟩ := atI_rel rs ed
        exact .inl (.inl ⟨a, vs, i, v, ea, ry, .inl ha, ev, l.fz hS rv h⟩)
      · exact h.elim
    · exact h.elim
  · rename_i ds e
    obtain ⟨a, vs, ea, ha, rs⟩ := vw_tup hS rx e
    split at h
    · rename_i i
      split at h
      · rename_i d ed
        obtain ⟨v, ev, rv⟩ := atI_rel rs ed
        exact .inl (.inr (.inl ⟨a, vs, i, v, ea, ry, ha, ev, l.fz hS rv h⟩))
      · exact h.elim
    · exact h.elim
  · rename_i z e
    split at h
    · rename_i i
      obtain ⟨hz, h⟩ := h
      split at h
      · rename_i c ec
        exact .inl (.inr (.inr ⟨z, i, c, vw_str hS rx e, ry, hz, ec, l.fz hS (d := .str ⟨#[c]⟩) rfl h⟩))
      · exact h.elim
    · exact h.elim
  · rename_i ks ds e
    obtain ⟨a, vs, ea, ha, hl, rs⟩ := vw_dct hS rx e
    split at h
    · rename_i k ek
      split at h
      · rename_i d ed
        rcases dlook_rel k rs hl with ⟨z, _⟩ | ⟨d', v, z1, z2, z3⟩
        · rw [ed] at z; cases z
        · rw [ed] at z1; cases z1
          exact .inr ⟨a, v, ea, .inl ⟨_, k, ha, keyD_rel ry ek, z2.symm⟩, l.fz hS z3 h⟩
      · exact h.elim
    · exact h.elim
  · exact h.elim

/-! ### built-in functions and types -/
abbrev GA := List D → Store → Post → Prop
def CallD (K : PySem.W.Frag) (r : List V → Hp → VK → Prop) (g : GA) : Prop := ∀ xs S H ds Qd Q, SRel K S H → Rels K H ds xs → g ds S Qd → LQ K S H Qd Q → r xs H (FzQ Q)
def evB (g : GA) (fa : EA) : ET := fun ρ S Q E => fa ρ S (fun ds S1 => g ds S1 Q) E
section
variable {X : Cx} {W : WX} {r : List V → Hp → VK → Prop} {g : GA} {x : Str} {id T : String} {e : Expr} {es : List Expr} {fa : EA} {n : Nat} {p pos : Pos}
theorem e_callB (hc : CallR X (.builtin id) r) (hg : CallD X.K r g) (gl : Gl X x) (hm : X.mg x = none) (hv : bootBuiltins x = some (.builtin id)) (ha : PA X (e :: es) (rdA X.K W n fa)) (hn : x ≠ "__name__" := by decide) (hdb : (x == ("__debug__" : Str)) = false := by decide)
    (he : starEach (e :: es) X.env = (false, eval e X.env) :: starEach es X.env := by rfl) (hpl : (backTo pos (starEach es X.env)).any (·.1) = false := by rfl) : PE X (.Call (.Name x p) (e :: es) [] pos) (rdE X.K W (evB g fa)) :=
  PE_imp (pe_fz (pe_callB hc gl hm hv ha hn hdb he hpl)) fun σ H Q ⟨ρ, S, Qd, Ed, hρ, hS, hf, lq, lx⟩ =>
    ⟨ρ, S, _, Ed, hρ, hS, hf, fun ds S1 vs H1 e1 r1 q1 hl h1 => hg _ _ _ _ _ _ r1 q1 h1 (lq.mono e1), lx⟩
theorem e_callTy (hc : CallR X (.type T) r) (hg : CallD X.K r g) (gl : Gl X x) (hm : X.mg x = none) (hv : bootBuiltins x = some (.type T)) (ha : PA X (e :: es) (rdA X.K W n fa)) (hn : x ≠ "__name__" := by decide) (hdb : (x == ("__debug__" : Str)) = false := by decide)
    (he : starEach (e :: es) X.env = (false, eval e X.env) :: starEach es X.env := by rfl) (hpl : (backTo pos (starEach es X.env)).any (·.1) = false := by rfl) : PE X (.Call (.Name x p) (e :: es) [] pos) (rdE X.K W (evB g fa)) :=
  PE_imp (pe_fz (pe_callTy hc gl hm hv ha hn hdb he hpl)) fun σ H Q ⟨ρ, S, Qd, Ed, hρ, hS, hf, lq, lx⟩ =>
    ⟨ρ, S, _, Ed, hρ, hS, hf, fun ds S1 vs H1 e1 r1 q1 hl h1 => hg _ _ _ _ _ _ r1 q1 h1 (lq.mono e1), lx⟩
end
end MP

set_option Elab.async false
set_option linter.all false
set_option maxRecDepth 100000
set_option maxHeartbeats 2100000
/-! MPBuilt: built-ins, methods, dict displays, stores, what is walked. -/
namespace MP
open PySem PyProof.Rows PySem.Spec L2

/-! ### len, int, abs, min, max -/
def gLen : GA := fun ds S Q => match ds with
  | [d] => match vw d S with
    | .lst xs => Q (.int xs.length) S
    | .kls xs => Q (.int xs.length) S
    | .tup xs => Q (.int xs.length) S
    | .dct ks _ => Q (.int ks.length) S
    | .str z => z.length ≤ sizeLine ∧ Q (.int z.length) S
    | _ => False
  | _ => False
def rLenD : List V → Hp → VK → Prop := fun xs H Q => ∃ a kvs, xs = [.ref a] ∧ Rd H a (.dK kvs) ∧ Q (.int kvs.length) H
theorem call_lenRd {X : Cx} : CallR X (.builtin "len") rLenD := by
  intro pins s σ H xs us Q I r ⟨a, kvs, e, h, q⟩
  subst e
  have ⟨u, eu, ru⟩ := vals1 r; subst eu
  cases ru
  exact d_len I h fun t s' J => ⟨.int kvs.length, H, J, ⟨t, rfl⟩, q⟩
def rLenA (K : PySem.W.Frag) : List V → Hp → VK → Prop := fun xs H Q => (∃ p ys, xs = [.ref p] ∧ (SqL K H p ys ∨ SqT K H p ys) ∧ Q (.int ys.length) H) ∨ (∃ z, xs = [.str z] ∧ z.length ≤ sizeLine ∧ Q (.int z.length) H) ∨ rLenD xs H Q
theorem call_lenA {X : Cx} : CallR X (.builtin "len") (rLenA X.K) := CallR.or call_len_seq (CallR.or call_len_str call_lenRd)
section
variable {K : PySem.W.Frag}
theorem rels1 {H : Hp} {d : D} {xs : List V} (r : Rels K H [d] xs) : ∃ v, xs = [v] ∧ Rel K H d v := Rels.one r
theorem rels2 {H : Hp} {d e : D} {xs : List V} (r : Rels K H [d, e] xs) : ∃ v u, xs = [v, u] ∧ Rel K H d v ∧ Rel K H e u := by
  obtain ⟨v, r', rfl, h, t⟩ := r
  obtain ⟨u, rfl, h2⟩ := Rels.one t
  exact ⟨v, u, rfl, h, h2⟩
theorem d_len_ : CallD K (rLenA K) gLen := by
  intro xs S H ds Qd Q hS r h l
  unfold gLen at h
  split at h
  · obtain ⟨v, rfl, rv⟩ := rels1 r
    split at h
    · rename_i ys e
      obtain ⟨a, vs, ea, ha, rs⟩ := vw_lst hS rv e
      exact .inl ⟨a, vs, by rw [ea], .inl (.inl ha), by rw [← rs.length]; exact l.fz hS (d := .int _) rfl h⟩
    · rename_i ys e
      obtain ⟨a, vs, ea, ha, rs⟩ := vw_kls hS rv e
      exact .inl ⟨a, vs, by rw [ea], .inl ha, by rw [← rs.length]; exact l.fz hS (d := .int _) rfl h⟩
    · rename_i ys e
      obtain ⟨a, vs, ea, ha, rs⟩ := vw_tup hS rv e
      exact .inl ⟨a, vs, by rw [ea], .inr ha, by rw [← rs.length]; exact l.fz hS (d := .int _) rfl h⟩
    · rename_i ks ys e
      obtain ⟨a, vs, ea, ha, hl, rs⟩ := vw_dct hS rv e
      refine .inr (.inr ⟨a, _, by rw [ea], ha, ?_⟩)
      rw [show (ks.zip vs).length = ks.length by rw [List.length_zip, ← rs.length, hl, Nat.min_self]]
      exact l.fz hS (d := .int _) rfl h
    · rename_i z e
      exact .inr (.inl ⟨z, by rw [vw_str hS rv e], h.1, l.fz hS (d := .int _) rfl h.2⟩)
    · exact h.elim
  · exact h.elim
def gInt : GA := fun ds S Q => match ds with
  | [.int i] => Q (.int i) S
  | [.bl b] => Q (.int (if b then 1 else 0)) S
  | _ => False
theorem d_int : CallD K (fun xs H Q => (∃ i, xs = [.int i] ∧ Q (.int i) H) ∨ ∃ k, xs = [.bl k] ∧ Q (.int (if k then 1 else 0)) H) gInt := by
  intro xs S H ds Qd Q hS r h l
  unfold gInt at h
  split at h
  · obtain ⟨v, rfl, rv⟩ := rels1 r
    have e : v = _ := rv
    subst e
    exact .inl ⟨_, rfl, l.fz hS (d := .int _) rfl h⟩
  · obtain ⟨v, rfl, rv⟩ := rels1 r
    have e : v = _ := rv
    subst e
    exact .inr ⟨_, rfl, l.fz hS (d := .int _) rfl h⟩
  · exact h.elim
def gAbs : GA := fun ds S Q => match ds with
  | [.int i] => Q (.int (if i < 0 then -i else i)) S
  | _ => False
theorem d_abs : CallD K (fun xs H Q => ∃ i, xs = [.int i] ∧ Q (.int (if i < 0 then -i else i)) H) gAbs := by
  intro xs S H ds Qd Q hS r h l
  unfold gAbs at h
  split at h
  · obtain ⟨v, rfl, rv⟩ := rels1 r
    have e : v = _ := rv
    subst e
    exact ⟨_, rfl, l.fz hS (d := .int _) rfl h⟩
  · exact h.elim
/-- min, max of two ints, or of a list of ints -/
def ints? : List D → Option (List Int)
  | [] => some []
  | .int i :: r => (ints? r).map (i :: ·)
  | _ => none
theorem ints_rel {H : Hp} : ∀ {ds : List D} {vs : List V} {ns : List Int}, Rels K H ds vs → ints? ds = some ns → vs = ns.map V.int
  | [], _, _, r, e => by cases e; exact r
  | d :: ds, _, _, ⟨v, r, e1, h, t⟩, e => by
    cases d with
    | int i =>
      obtain ⟨ns, e2, e3⟩ := Option.map_eq_some_iff.mp e
      subst e1 e3
      have ev : v = _ := h
      subst ev
      rw [ints_rel t e2]
      rfl
    | _ => cases e
def gExt (better : Int → Int → Bool) : GA := fun ds S Q => match ds with
  | [.int i, .int j] => Q (.int (if better j i then j else i)) S
  | [d] => match vw d S with
    | .lst xs => match ints? xs with
      | some ns => 0 < ns.length ∧ ∀ m, m ∈ ns → (∀ y, y ∈ ns → better y m = false) → Q (.int m) S
      | none => False
    | _ => False
  | _ => False
def rMaxA (K : PySem.W.Frag) : List V → Hp → VK → Prop := fun xs H Q => (∃ i j, xs = [.int i, .int j] ∧ Q (.int (if j > i then j else i)) H) ∨ rMax K xs H Q
def rMinA (K : PySem.W.Frag) : List V → Hp → VK → Prop := fun xs H Q => (∃ i j, xs = [.int i, .int j] ∧ Q (.int (if j < i then j else i)) H) ∨ rMin K xs H Q
theorem call_maxA {X : Cx} (hc : X.calm = true) : CallR X (.builtin "max") (rMaxA X.K) := CallR.or (call_max2 hc) (cr_max hc)
theorem call_minA {X : Cx} (hc : X.calm = true) : CallR X (.builtin "min") (rMinA X.K) := CallR.or (call_min2 hc) (cr_min hc)
def gMax : GA := gExt fun y m => decide (m < y)
def gMin : GA := gExt fun y m => decide (y < m)
theorem d_max : CallD K (rMaxA K) gMax := by
  intro xs S H ds Qd Q hS r h l
  unfold gMax gExt at h
  split at h
  · rename_i i j
    obtain ⟨v, u, rfl, rv, ru⟩ := rels2 r
    have e : v = _ := rv
    have e2 : u = _ := ru
    subst e e2
    refine .inl ⟨i, j, rfl, l.fz hS (d := .int (if j > i then j else i)) rfl ?_⟩
    by_cases c : i < j
    · rw [if_pos (decide_eq_true c)] at h; rw [if_pos (show j > i from c)]; exact h
    · rw [if_neg (by simpa using c)] at h; rw [if_neg (show ¬ j > i from c)]; exact h
  · obtain ⟨v, rfl, rv⟩ := rels1 r
    split at h
    · rename_i ys e
      obtain ⟨a, vs, ea, ha, rs⟩ := vw_lst hS rv e
      split at h
      · rename_i ns en
        have ev := ints_rel rs en
        subst ev
        exact .inr ⟨a, ns, by rw [ea], .inl ha, h.1, fun m hm hle => l.fz hS (d := .int m) rfl (h.2 m hm fun y hy => decide_eq_false (by have := hle y hy; omega))⟩
      · exact h.elim
    · exact h.elim
  · exact h.elim
theorem d_min : CallD K (rMinA K) gMin := by
  intro xs S H ds Qd Q hS r h l
  unfold gMin gExt at h
  split at h
  · rename_i i j
    obtain ⟨v, u, rfl, rv, ru⟩ := rels2 r
    have e : v = _ := rv
    have e2 : u = _ := ru
    subst e e2
    refine .inl ⟨i, j, rfl, l.fz hS (d := .int (if j < i then j else i)) rfl ?_⟩
    by_cases c : j < i
    · rw [if_pos (decide_eq_true c)] at h; rw [if_pos c]; exact h
    · rw [if_neg (by simpa using c)] at h; rw [if_neg c]; exact h
  · obtain ⟨v, rfl, rv⟩ := rels1 r
    split at h
    · rename_i ys e
      obtain ⟨a, vs, ea, ha, rs⟩ := vw_lst hS rv e
      split at h
      · rename_i ns en
        have ev := ints_rel rs en
        subst ev
        exact .inr ⟨a, ns, by rw [ea], .inl ha, h.1, fun m hm hle => l.fz hS (d := .int m) rfl (h.2 m hm fun y hy => decide_eq_false (by have := hle y hy; omega))⟩
      · exact h.elim
    · exact h.elim
  · exact h.elim
/-! any, all of a list of bools -/
def bls? : List D → Option (List Bool)
  | [] => some []
  | .bl i :: r => (bls? r).map (i :: ·)
  | _ => none
theorem bls_rel {H : Hp} : ∀ {ds : List D} {vs : List V} {ns : List Bool}, Rels K H ds vs → bls? ds = some ns → vs = ns.map V.bl
  | [], _, _, r, e => by cases e; exact r
  | d :: ds, _, _, ⟨v, r, e1, h, t⟩, e => by
    cases d with
    | bl i =>
      obtain ⟨ns, e2, e3⟩ := Option.map_eq_some_iff.mp e
      subst e1 e3
      have ev : v = _ := h
      subst ev
      rw [bls_rel t e2]
      rfl
    | _ => cases e
def gBls (f : List Bool → Bool) : GA := fun ds S Q => match ds with
  | [d] => match vw d S with
    | .lst xs => match bls? xs with
      | some bs => Q (.bl (f bs)) S
      | none => False
    | _ => False
  | _ => False
def gAny : GA := gBls fun bs => bs.any id
def gAll : GA := gBls fun bs => bs.all id
theorem d_any : CallD K (rAny K) gAny := by
  intro xs S H ds Qd Q hS r h l
  unfold gAny gBls at h
  split at h
  · obtain ⟨v, rfl, rv⟩ := rels1 r
    split at h
    · rename_i ys e
      obtain ⟨a, vs, ea, ha, rs⟩ := vw_lst hS rv e
      split at h
      · rename_i ns en
        have ev := bls_rel rs en
        subst ev
        exact ⟨a, ns, by rw [ea], .inl ha, l.fz hS (d := .bl _) rfl h⟩
      · exact h.elim
    · exact h.elim
  · exact h.elim
theorem d_all : CallD K (rAll K) gAll := by
  intro xs S H ds Qd Q hS r h l
  unfold gAll gBls at h
  split at h
  · obtain ⟨v, rfl, rv⟩ := rels1 r
    split at h
    · rename_i ys e
      obtain ⟨a, vs, ea, ha, rs⟩ := vw_lst hS rv e
      split at h
      · rename_i ns en
        have ev := bls_rel rs en
        subst ev
        exact ⟨a, ns, by rw [ea], .inl ha, l.fz hS (d := .bl _) rfl h⟩
      · exact h.elim
    · exact h.elim
  · exact h.elim
/-! list(x), tuple(x) -/
def seqW (d : D) : Option (List D) := match d with
  | .lst xs => some xs
  | .kls xs => some xs
  | .tup xs => some xs
  | _ => none
theorem seqW_rel {S : Store} {H : Hp} {d : D} {v : V} {xs : List D} (hS : SRel K S H) (r : Rel K H d v) (e : seqW (vw d S) = some xs) : ∃ a vs, v = .ref a ∧ (SqL K H a vs ∨ SqT K H a vs) ∧ Rels K H xs vs := by
  unfold seqW at e
  split at e
  · rename_i ys ey
    cases e
    obtain ⟨a, vs, ea, ha, rs⟩ := vw_lst hS r ey
    exact ⟨a, vs, ea, .inl (.inl ha), rs⟩
  · rename_i ys ey
    cases e
    obtain ⟨a, vs, ea, ha, rs⟩ := vw_kls hS r ey
    exact ⟨a, vs, ea, .inl ha, rs⟩
  · rename_i ys ey
    cases e
    obtain ⟨a, vs, ea, ha, rs⟩ := vw_tup hS r ey
    exact ⟨a, vs, ea, .inr ha, rs⟩
  · cases e
def gList (mk : MkT) : GA := fun ds S Q => match ds with
  | [d] => match seqW (vw d S) with
    | some xs => mk xs S Q
    | none => False
  | _ => False
def rListA (K : PySem.W.Frag) : List V → Hp → VK → Prop := fun xs H Q => ∃ p ys, xs = [.ref p] ∧ (SqL K H p ys ∨ SqT K H p ys) ∧ ∀ l, H l = none → Q (.ref l) (upd H l (.lst ys))
theorem d_list {mk : MkT} (hm : MkOk K mk) : CallD K (rListA K) (gList mk) := by
  intro xs S H ds Qd Q hS r h l
  unfold gList at h
  split at h
  · obtain ⟨v, rfl, rv⟩ := rels1 r
    split at h
    · rename_i ys e
      obtain ⟨a, vs, ea, ha, rs⟩ := seqW_rel hS rv e
      exact ⟨a, vs, by rw [ea], ha, fun p hp => hm _ _ _ _ _ _ _ hS hp rs h l⟩
    · exact h.elim
  · exact h.elim
def gTuple : GA := fun ds S Q => match ds with
  | [d] => match seqW (vw d S) with
    | some xs => Q (.tup xs) S
    | none => False
  | _ => False
def rTupleA (K : PySem.W.Frag) : List V → Hp → VK → Prop := fun xs H Q => ∃ p ys, xs = [.ref p] ∧ ((SqL K H p ys ∧ ∀ l, H l = none → Q (.ref l) (upd H l (.tup ys))) ∨ (SqT K H p ys ∧ Q (.ref p) H))
theorem d_tuple : CallD K (rTupleA K) gTuple := by
  intro xs S H ds Qd Q hS r h l
  unfold gTuple at h
  split at h
  · obtain ⟨v, rfl, rv⟩ := rels1 r
    split at h
    · rename_i ys e
      obtain ⟨a, vs, ea, ha, rs⟩ := seqW_rel hS rv e
      refine ⟨a, vs, by rw [ea], ?_⟩
      rcases ha with ha | ha
      · exact .inl ⟨ha, fun p hp => .inl (new_tup hS hp rs h l)⟩
      · exact .inr ⟨ha, l.fz hS (d := .tup ys) ⟨a, vs, rfl, ha, rs⟩ h⟩
    · exact h.elim
  · exact h.elim
end
theorem call_listA {X : Cx} : CallR X (.type "list") (rListA X.K) := call_list_of
theorem call_tupleA {X : Cx} : CallR X (.type "tuple") (rTupleA X.K) := call_tuple_of

/-! ### isinstance -/
/-- the class of a value -/
def tyD (d : D) : Option Value := match d with
  | .non => some (.type "NoneType")
  | .bl _ => some (.type "bool")
  | .int _ => some (.type "int")
  | .str _ => some (.type "str")
  | .tup _ => some (.type "tuple")
  | .lst _ => some (.type "list")
  | .dct _ _ => some (.type "dict")
  | _ => none
def clsD : D → Option Value
  | .ty n => some (.type n)
  | .ref C => some (.ref C)
  | _ => none
theorem tyD_rel {K : PySem.W.Frag} {S : Store} {H : Hp} {d : D} {v : V} {t : Value} (hS : SRel K S H) (r : Rel K H d v) (h : tyD (vw d S) = some t) : TyX K H v t := by
  unfold tyD at h
  split at h
  · rename_i e; cases h; rw [vw_non hS r e]; exact .base .non
  · rename_i b e; cases h; rw [vw_bl hS r e]; exact .base (.bl b)
  · rename_i i e; cases h; rw [vw_int hS r e]; exact .base (.int i)
  · rename_i x e; cases h; rw [vw_str hS r e]; exact .base (.str x)
  · rename_i xs e
    cases h
    obtain ⟨a, vs, ea, ha, rs⟩ := vw_tup hS r e
    subst ea
    rcases ha with (ha | ⟨o, ha⟩) | ⟨o, its, n, hk, hc, _⟩
    · exact .base (.tup ha)
    · exact .fTuple ha
    · exact .kTuple hk hc
  · rename_i xs e
    cases h
    obtain ⟨a, vs, ea, ha, rs⟩ := vw_lst hS r e
    subst ea
    rcases ha with ha | ⟨o, ha⟩
    · exact .base (.lst ha)
    · exact .base (.frz ha)
  · rename_i ks xs e
    cases h
    obtain ⟨a, vs, ea, ha, hl, rs⟩ := vw_dct hS r e
    subst ea
    rcases ha with ha | ⟨o, ha⟩
    · exact .base (.dK ha)
    · exact .fDict ha
  · cases h
/-- isinstance's answer among written types; of the classes of the text by the table sub -/
def isiV (sub : Value → Value → Option Bool) (t c : Value) : Option Bool := match t, c with
  | .type a, .type b => kitB a b
  | t, c => sub t c
def isiA (sub : Value → Value → Option Bool) (t : Value) : List Value → Option Bool
  | [] => some false
  | c :: r => match isiV sub t c with
    | some true => some true
    | some false => isiA sub t r
    | none => none
/-- what the table must say -/
def SubOk (K : PySem.W.Frag) (sub : Value → Value → Option Bool) : Prop := ∀ t c b, sub t c = some b → PySem.W.kitOne K t c = some b
theorem isiV_ok {K : PySem.W.Frag} {sub : Value → Value → Option Bool} (hs : SubOk K sub) {t c : Value} {b : Bool} (h : isiV sub t c = some b) : PySem.W.kitOne K t c = some b := by
  unfold isiV at h
  split at h
  · exact kit_ty h
  · exact hs _ _ _ h
theorem isiA_ok {K : PySem.W.Frag} {sub : Value → Value → Option Bool} (hs : SubOk K sub) {t : Value} : ∀ {cs : List Value} {b : Bool}, isiA sub t cs = some b → PySem.W.kitAny K t cs = some b
  | [], _, h => h
  | c :: r, b, h => by
    unfold isiA at h
    unfold PySem.W.kitAny
    split at h
    · rename_i e; rw [isiV_ok hs e]; exact h
    · rename_i e; rw [isiV_ok hs e]; exact isiA_ok hs h
    · cases h
def clss? : List D → Option (List Value)
  | [] => some []
  | d :: r => (clsD d).bind fun c => (clss? r).map (c :: ·)
theorem clsD_rel {K : PySem.W.Frag} {H : Hp} {d : D} {v : V} {c : Value} (r : Rel K H d v) (h : clsD d = some c) : ClsV v c := by
  cases d with
  | ty n => cases h; have e : v = _ := r; subst e; exact .ty n
  | ref C => cases h; have e : v = _ := r; subst e; exact .own C
  | _ => cases h
theorem clss_rel {K : PySem.W.Frag} {H : Hp} : ∀ {ds : List D} {vs : List V} {cs : List Value}, Rels K H ds vs → clss? ds = some cs → Paired ClsV vs cs
  | [], _, _, r, e => by cases e; have z : _ = [] := r; subst z; exact .nil
  | d :: ds, _, _, ⟨v, r, e1, h, t⟩, e => by
    obtain ⟨c, e2, e3⟩ := Option.bind_eq_some_iff.mp e
    obtain ⟨cs, e4, e5⟩ := Option.map_eq_some_iff.mp e3
    subst e1 e5
    exact .cons (clsD_rel h e2) (clss_rel t e4)
/-- an exception that is held: its class -/
def excD : D → Option Addr
  | .exn (.ref C) _ _ _ => some C
  | _ => none
def gIsi (sub : Value → Value → Option Bool) (ex : Addr → Bool) : GA := fun ds S Q => match ds with
  | [x, .tup cs] => match tyD (vw x S), clss? cs with
    | some t, some us => match isiA sub t us with
      | some b => Q (.bl b) S
      | none => False
    | _, _ => False
  | [x, c] => match excD x with
    | some C => match clsD c with
      | some u => ex C = true ∧ match sub (.ref C) u with
        | some b => Q (.bl b) S
        | none => False
      | none => False
    | none => match tyD (vw x S), clsD c with
      | some t, some u => match isiV sub t u with
        | some b => Q (.bl b) S
        | none => False
      | _, _ => False
  | _ => False
section
open PySem.W PySem.Calls
/-- what a kept exception says when it is asked for its class, whether it has a dict or none -/
theorem exc_class {prog : Program} {w : World} {A : Around} {E : Value → Shared → Prop} {Q : Option Value → Shared → Prop} {s : Shared} {K : Frag} {x D : Addr} {ox : Obj} {od : Option Obj} (C : ExcC K D) (X : K.In s.heap) (I : InstAt s.heap x ox D od)
    (h : Q (some (.ref D)) { s with toks := s.toks + 1 }) : wpAny (model prog w) A (getAttr? (.ref x) "__class__") Q E s := by
  have hf : findObj K D od "__class__" = some (.bind (.builtin "getset_descriptor.__get__") (.builtin "object.__class__")) := by
    obtain ⟨cd, hc, _⟩ := any_some C.hd
    have ha := C.ha
    have hn := C.hn
    have ht := C.ht
    unfold findObj
    rw [hc, Option.bind_some, ha, Option.bind_some]
    simp [hn, ht]
  obtain ⟨hp, g, d, t, os⟩ := s
  have t0 := I.type (M := model prog w)
  have t1 := looks_findIn (M := model prog w) X C.hg
  have t2 := looks_findIn (M := model prog w) X C.hk
  have t3 := looks_find (M := model prog w) X I hf
  have up : W.Looks (model prog w) hp (isInstance (.ref x) (.type "BaseException")) true := t0.andThen (looks_subIn X C.hs)
  have no0 : (false && onTheHeap (Value.builtin "BaseException.__getattribute__")) = false := rfl
  have no2 : (Value.builtin "BaseException.__getattribute__" == Value.builtin "object.__getattribute__") = false := by decide +kernel
  have no1 : (onTheHeap (Value.ref D) && Value.builtin "BaseException.__getattribute__" == Value.builtin "object.__getattribute__") = false := by rw [no2]; rfl
  unfold getAttr? getAttrBy? getAttrBy
  refine wpAny_bind (wpAny_mkText (wpAny_bind (wpAny_attempt (wpAny_holding (wpAny_bind (t0.at (wpAny_bind (t1.at ?_))))))))
  show wpAny _ _ (if (onTheHeap (Value.ref D) && Value.builtin "BaseException.__getattribute__" == Value.builtin "object.__getattribute__") = true then _ else _) _ _ _
  rw [no1, if_neg Bool.false_ne_true]
  unfold getAttrByItsOwn hookBefore
  refine wpAny_bind ?_
  rw [if_pos (show onTheHeap (Value.ref D) = true from rfl)]
  refine t2.at ?_
  refine wpAny_bind (wpAny_attempt (wpAny_holding ?_))
  unfold callGetattribute
  rw [no0, if_neg Bool.false_ne_true]
  unfold boundAndCalled
  rw [PySem.F.excAttr_ValueError.ga.bind (.ref x)]
  refine wpAny_bind (wpAny_pure ?_)
  show wpAny _ _ (call (.builtin "BaseException.__getattribute__") [.ref x, .str "__class__" t]) _ _ _
  refine wpAny_call (codeAny_call_builtin PySem.F.excAttr_ValueError.ga.plain PySem.F.entry_bexc_ga ?_)
  refine @check_slot (model prog w) _ _ ⟨hp, g, d, t + 1, os⟩ "BaseException.__getattribute__" "BaseException" "__getattribute__" (.ref x) [.str "__class__" t] [] _ (by decide +kernel) (by decide +kernel) up (PySem.F.args_bexc_ga (.ref x) (.str "__class__" t)) ?_
  unfold Builtin.«object.__getattribute__»
  refine wpAny_bind (wpAny_of_eq (a := ((Value.ref x : Value), [Value.str "__class__" t])) (by first | rfl | (simp only [slotArgs]; rfl)) ?_)
  refine wpAny_bind (wpAny_pure (wpAny_bind (t0.at (wpAny_bind (t3.at ?_)))))
  show wpAny _ _ (holding [Value.builtin "object.__class__"] (call (.builtin "getset_descriptor.__get__") [.builtin "object.__class__", .ref x, .ref D]) >>= ret) _ _ _
  refine wpAny_bind (wpAny_holding (wpAny_call (class_get (s := ⟨hp, g, d, t + 1, os⟩) (ox := ox) (od := od) X I C.hm ?_)))
  refine wpAny_pure ?_
  show wpAny _ _ (handedOut (.ref D)) _ _ _
  rw [handedOut_of (v := .ref D) rfl]
  first
    | exact wpAny_pure (wpAny_pure h)
    | exact wpAny_pure h
    | exact wpAny_pure (wpAny_bind (wpAny_pure (wpAny_pure h)))
theorem kit_exc {K : Frag} {x D : Addr} {ox : Obj} (C : ExcC K D) : KitX K (.ref x) (.ref D) (fun h => ∃ od, InstAt h x ox D od) where
  ty := fun _ _ _ ⟨_, I⟩ => I.type
  it := fun _ _ X _ => by
    obtain ⟨cdD, hcD, _⟩ := any_some C.hd
    unfold clsIn at hcD
    split at hcD
    · rename_i c' d' cd' sl' ho
      intro A' Q' E' s' k q
      unfold isType loadHead
      exact wpAny_bind (wpAny_loadPart (k _ _ (X _ _ ho)) (wpAny_pure q))
    · cases hcD
  ne := (handS_kitx_exc (x := x) (ox := ox) C.hg C.hk C.hs C.hd C.ha C.hn C.ht C.hm).ne
  ca := fun X ⟨_, I⟩ k => exc_class C X I k
end
/-- of a kept exception -/
def rIsX (K : PySem.W.Frag) : List V → Hp → VK → Prop := fun xs H Q => ∃ (a D : Addr) (c : V) (u : Value) (b : Bool) (d : Option Addr) (ks : List Str) (ws : List V), xs = [.ref a, c] ∧ H a = some (exT (.ref D) d a) ∧ XdAt H ks d ws ∧ ExcC K D ∧ ClsV c u ∧ PySem.W.kitOne K (.ref D) u = some b ∧ Q (.bl b) H
theorem call_isX {X : Cx} : CallR X (.builtin "isinstance") (rIsX X.K) := by
  intro pins s σ H xs us Q I r ⟨a, D, c, u, b, d, ks, ws, e, ha, hxd, C, k, ek, q⟩
  subst e
  have ⟨u1, u2, eu, r1, r2⟩ := vals2 r; subst eu
  cases r1
  have e2 := k.eq r2
  subst e2
  obtain ⟨⟨oe, vs, h1, h2, h3⟩, _⟩ := I.hok a _ ha
  have J : ∃ od, PySem.W.InstAt s.heap a oe D od := by
    obtain ⟨ocl, odi, oda, osl⟩ := oe
    obtain ⟨z1, z2⟩ := h2
    dsimp only at z1 z2 h3
    subst z1 z2 h3
    rcases hxd with ⟨_, z⟩ | ⟨dd, z, _, hd⟩
    · subst z
      exact ⟨none, h1, rfl, rfl, trivial⟩
    · subst z
      have hx : ObjOk X.prog X.w H s.heap dd (.xd (ks.zip ws)) := I.hok dd _ hd
      obtain ⟨mA, ⟨o, es, ep, ho, _⟩, _⟩ := hx
      exact ⟨some o, h1, rfl, rfl, ho⟩
  exact PySem.W.kia_one (kit_exc C) I.kIn J ek (fun z => nomatch z) fun tk => ⟨.bl b, H, I.kept (t' := tk) fun _ _ z => z, rfl, q⟩
/-- a tuple of classes, wherever it stands -/
def rIsiS (K : PySem.W.Frag) : List V → Hp → VK → Prop := fun xs H Q => ∃ (x : V) (tp : Addr) (cs : List V) (t : Value) (us : List Value) (b : Bool), xs = [x, .ref tp] ∧ SqT K H tp cs ∧ Paired ClsV cs us ∧ TyX K H x t ∧ PySem.W.kitAny K t us = some b ∧ Q (.bl b) H
theorem call_isiS {X : Cx} : CallR X (.builtin "isinstance") (rIsiS X.K) := by
  intro pins s σ H xs us Q I r ⟨x, tp, cs, t, ws, b, ex, hT, k, ty, e, q⟩
  subst ex
  have ⟨u1, u2, eu, r1, r2⟩ := vals2 r; subst eu
  obtain rfl : u2 = Value.ref tp := r2
  have ⟨P, Z, p, hx⟩ := kit_of I r1 ty
  obtain ⟨its, rv, ⟨⟨oc, od, dt, sl⟩, g1, g2, n, g3⟩, _⟩ := I.tuple hT
  obtain rfl : its = ws := ClsV.all k rv
  dsimp only at g2 g3
  subst g2 g3
  exact PySem.W.kia_tup Z I.kIn p g1 e hx fun tk => ⟨.bl b, H, I.tok tk, rfl, q⟩
def rIsiAll (K : PySem.W.Frag) : List V → Hp → VK → Prop := fun xs H Q => rIsi K xs H Q ∨ rIsiS K xs H Q ∨ rIsX K xs H Q
theorem call_isiA {X : Cx} : CallR X (.builtin "isinstance") (rIsiAll X.K) := CallR.or call_isi (CallR.or call_isiS call_isX)
end MP

set_option Elab.async false
set_option linter.all false
set_option maxRecDepth 100000
set_option maxHeartbeats 2100000
/-! MPMore: isinstance, methods, dict displays, stores, what is walked. -/
namespace MP
open PySem PyProof.Rows PySem.Spec L2

theorem d_isi {K : PySem.W.Frag} {sub : Value → Value → Option Bool} {ex : Addr → Bool} (hs : SubOk K sub) (hx : ∀ C, ex C = true → ExcC K C) : CallD K (rIsiAll K) (gIsi sub ex) := by
  intro xs S H ds Qd Q hS r h l
  unfold gIsi at h
  split at h
  · rename_i x cs
    obtain ⟨v, u, rfl, rv, ru⟩ := rels2 r
    obtain ⟨a, vs, rfl, ha, rs⟩ := ru
    split at h
    · rename_i t us et eu
      split at h
      · rename_i b eb
        exact .inr (.inl ⟨v, a, vs, t, us, b, rfl, ha, clss_rel rs eu, tyD_rel hS rv et, isiA_ok hs eb, l.fz hS (d := .bl b) rfl h⟩)
      · exact h.elim
    · exact h.elim
  · rename_i x c hn
    obtain ⟨v, u, rfl, rv, ru⟩ := rels2 r
    split at h
    · rename_i C eC
      split at h
      · rename_i w ew
        obtain ⟨hC, h⟩ := h
        split at h
        · rename_i b eb
          obtain ⟨a, e1, d, ks, ws, hd, xd⟩ : ∃ a, v = .ref a ∧ ∃ d ks ws, H a = some (exT (.ref C) d a) ∧ XdAt H ks d ws := by
            unfold excD at eC
            split at eC
            · rename_i C' a' ks' xs'
              cases eC
              obtain ⟨e1, d, ws, hd, xd, _⟩ := rv
              exact ⟨a', e1, d, ks', ws, hd, xd⟩
            · cases eC
          exact .inr (.inr ⟨a, C, u, w, b, d, ks, ws, by rw [e1], hd, xd, hx C hC, clsD_rel ru ew, hs _ _ _ eb, l.fz hS (d := .bl b) rfl h⟩)
        · exact h.elim
      · exact h.elim
    · split at h
      · rename_i t w et ew
        split at h
        · rename_i b eb
          exact .inl ⟨v, u, t, w, b, rfl, clsD_rel ru ew, tyD_rel hS rv et, isiV_ok hs eb, l.fz hS (d := .bl b) rfl h⟩
        · exact h.elim
      · exact h.elim
  · exact h.elim

/-! ### methods of lists and dicts of the store -/
abbrev GM := D → List D → Store → Post → Prop
def MtD (K : PySem.W.Frag) (r : V → List V → Hp → VK → Prop) (g : GM) : Prop := ∀ x xs S H d ds Qd Q, SRel K S H → Rel K H d x → Rels K H ds xs → g d ds S Qd → LQ K S H Qd Q → r x xs H (FzQ Q)
def mty : D → Option String
  | .str _ => some "str"
  | .int _ => some "int"
  | .lst _ => some "list"
  | .kls _ => some "list"
  | _ => none
theorem mty_rel {K : PySem.W.Frag} {S : Store} {H : Hp} {d : D} {v : V} {T : String} (hS : SRel K S H) (r : Rel K H d v) (h : mty (vw d S) = some T) : tyV K T v H := by
  unfold mty at h
  split at h
  · cases h; rename_i b e; rw [vw_str hS r e]; rfl
  · cases h; rename_i b e; rw [vw_int hS r e]; rfl
  · cases h
    rename_i xs e
    obtain ⟨a, vs, ea, ha, rs⟩ := vw_lst hS r e
    subst ea
    exact .inl ⟨rfl, vs, .inl ha⟩
  · cases h
    rename_i xs e
    obtain ⟨a, vs, ea, ha, rs⟩ := vw_kls hS r e
    subst ea
    exact .inl ⟨rfl, vs, ha⟩
  · cases h
/-- o.m(..) of a built-in type T -/
def evM (T : String) (g : GM) (f : ET) (fa : EA) : ET := fun ρ S Q E => f ρ S (fun d S1 => mty (vw d S1) = some T ∧ fa ρ S1 (fun ds S2 => g d ds S2 Q) E) E
def evM0 (T : String) (g : GM) (f : ET) : ET := fun ρ S Q E => f ρ S (fun d S1 => mty (vw d S1) = some T ∧ g d [] S1 Q) E
section
variable {X : Cx} {W : WX} {o e : Expr} {es : List Expr} {f : ET} {fa : EA} {n : Nat} {name : Str} {apos cpos : Pos} {T id : String} {r : V → List V → Hp → VK → Prop} {g : GM}
theorem e_bm0 (pa : PlainAttrs T) (slot : Slot T name id) (hty : typeOf (.builtin id) = pure (.type "method_descriptor")) (hm : MtR X id r) (hg : MtD X.K r g) (ho : PE X o (rdE X.K W f))
    (hBase : attributeBase o name X.env (eval o X.env) = eval o X.env := by rfl) (hLine : (apos.endLine == cpos.line) = true := by rfl) : PE X (.Call (.Attribute o name apos) [] [] cpos) (rdE X.K W (evM0 T g f)) :=
  PE_imp (pe_fz (pe_bm0 pa slot hty hm ho hBase hLine)) fun σ H Q ⟨ρ, S, Qd, Ed, hρ, hS, hf, lq, lx⟩ =>
    ⟨ρ, S, _, Ed, hρ, hS, hf, fun d S1 v H1 e1 r1 q1 h1 => ⟨mty_rel r1 q1 h1.1, hg v [] S1 H1 d [] _ Q r1 q1 rfl h1.2 (lq.mono e1)⟩, lx⟩
theorem e_bm (pa : PlainAttrs T) (slot : Slot T name id) (hty : typeOf (.builtin id) = pure (.type "method_descriptor")) (hm : MtR X id r) (hg : MtD X.K r g) (ho : PE X o (rdE X.K W f)) (ha : PA X (e :: es) (rdA X.K W n fa))
    (hBase : attributeBase o name X.env (eval o X.env) = eval o X.env := by rfl)
    (hFew : ((backTo cpos (starEach (e :: es) X.env)).all (fun x => !x.1) && (backToKw cpos (keywordEach [] X.env)).all (fun x => x.1.isSome) && decide ((e :: es).length + ([] : List Keyword).length + (if ([] : List Keyword).isEmpty then 0 else 1) < 30)) = true := by rfl)
    (hLine : (apos.endLine == cpos.line) = true := by rfl) (hs : starEach (e :: es) X.env = (false, eval e X.env) :: starEach es X.env := by rfl) (hplain : (backTo cpos (starEach es X.env)).any (·.1) = false := by rfl) :
    PE X (.Call (.Attribute o name apos) (e :: es) [] cpos) (rdE X.K W (evM T g f fa)) :=
  PE_imp (pe_fz (pe_bm pa slot hty hm ho ha hBase hFew hLine hs hplain)) fun σ H Q ⟨ρ, S, Qd, Ed, hρ, hS, hf, lq, lx⟩ =>
    ⟨ρ, S, _, Ed, hρ, hS, hf, fun d S1 v H1 e1 r1 q1 h1 => ⟨mty_rel r1 q1 h1.1, ρ, S1, _, Ed, hρ.imm (e1.imm hS), r1, h1.2, fun ds S2 vs H2 e2 r2 q2 hl h2 => hg _ _ _ _ _ _ _ _ r2 (Rel.imm (e2.imm r1) _ _ q1) q2 h2 ((lq.mono e1).mono e2), lx.mono e1⟩, lx⟩
end
/-- the store's list at a receiver -/
def onL (x : D) (S : Store) (k : Addr → List D → Prop) : Prop := match x with
  | .ref a => match S a with
    | some (.lst xs) => k a xs
    | _ => False
  | _ => False
theorem onL_rel {K : PySem.W.Frag} {S : Store} {H : Hp} {d : D} {v : V} {k : Addr → List D → Prop} (hS : SRel K S H) (r : Rel K H d v) (h : onL d S k) : ∃ a ds xs, v = .ref a ∧ S a = some (.lst ds) ∧ H a = some (.lst xs) ∧ Rels K H ds xs ∧ k a ds := by
  unfold onL at h
  split at h
  · rename_i a
    split at h
    · rename_i ds e
      obtain ⟨xs, hx, rs⟩ := hS a _ e
      exact ⟨a, ds, xs, r, e, hx, rs, h⟩
    · exact h.elim
  · exact h.elim
theorem lset {K : PySem.W.Frag} {S : Store} {H : Hp} {a : Addr} {ds ds' : List D} {xs' : List V} {Qd : Post} {Q : VK} {d : D} {v : V} (hS : SRel K S H) (e : S a = some (.lst ds)) (rs : Imm H (upd H a (.lst xs')) → Rels K (upd H a (.lst xs')) ds' xs')
    (rv : Imm H (upd H a (.lst xs')) → Rel K (upd H a (.lst xs')) d v) (l : LQ K S H Qd Q) (q : Qd d (S.set a (.lst ds'))) : FzQ Q v (upd H a (.lst xs')) := by
  obtain ⟨o', e', m⟩ := (hS a _ e).mut
  have i : Imm H (upd H a (.lst xs')) := upd_immS e' m
  exact .inl (l d (S.set a (.lst ds')) v _ (evo_setS e) (hS.setS (u := .lst ds') e fun _ => ⟨xs', upd_same, rs i⟩) (rv i) q)
def mAppend : GM := fun x ds S Q => match ds with
  | [y] => onL x S fun a xs => xs.length < sizeLine ∧ Q .non (S.set a (.lst (xs ++ [y])))
  | _ => False
def mPopAt : GM := fun x ds S Q => match ds with
  | [.int i] => onL x S fun a xs => -(2 ^ 63) ≤ i ∧ i < 2 ^ 63 ∧ match seqIndex? i xs.length with
    | some k => match xs[k]? with
      | some y => Q y (S.set a (.lst (xs.eraseIdx k)))
      | none => False
    | none => False
  | _ => False
def mPop : GM := fun x ds S Q => match ds with
  | [] => onL x S fun a xs => match xs[xs.length - 1]? with
    | some y => Q y (S.set a (.lst xs.dropLast))
    | none => False
  | _ => False
def mInsert : GM := fun x ds S Q => match ds with
  | [.int i, y] => onL x S fun a xs => xs.length < sizeLine ∧ 0 ≤ i ∧ i < 2 ^ 63 ∧ Q .non (S.set a (.lst (xs.take i.toNat ++ [y] ++ xs.drop i.toNat)))
  | _ => False
section
variable {K : PySem.W.Frag}
theorem m_append : MtD K rAppend mAppend := by
  intro x xs S H d ds Qd Q hS rx rs h l
  unfold mAppend at h
  split at h
  · obtain ⟨v, rfl, rv⟩ := rels1 rs
    obtain ⟨a, es, ys, ea, eS, hH, re, hz, q⟩ := onL_rel hS rx h
    exact ⟨a, ys, v, ea, rfl, hH, by rw [← re.length]; exact hz, lset hS eS (fun i => Rels.append (Rels.imm i _ _ re) (Rels.mk1 (Rel.imm i _ _ rv))) (d := .non) (fun _ => rfl) l q⟩
  · exact h.elim
theorem m_popAt : MtD K rPopAt mPopAt := by
  intro x xs S H d ds Qd Q hS rx rs h l
  unfold mPopAt at h
  split at h
  · rename_i i
    obtain ⟨v, rfl, rv⟩ := rels1 rs
    have ev : v = _ := rv
    subst ev
    obtain ⟨a, es, ys, ea, eS, hH, re, h1, h2, q⟩ := onL_rel hS rx h
    rw [re.length] at q
    split at q
    · rename_i k ek
      split at q
      · rename_i y ey
        obtain ⟨u, eu, ru⟩ := re.get ey
        exact ⟨a, ys, i, k, u, ea, rfl, hH, h1, h2, ek, eu, lset hS eS (fun i => Rels.eraseIdx k (Rels.imm i _ _ re)) (fun i => Rel.imm i _ _ ru) l q⟩
      · exact q.elim
    · exact q.elim
  · exact h.elim
theorem Rels.dropLast {H : Hp} {ds : List D} {vs : List V} (r : Rels K H ds vs) : Rels K H ds.dropLast vs.dropLast := by
  rw [List.dropLast_eq_take, List.dropLast_eq_take, r.length]
  exact Rels.take _ r
theorem m_pop : MtD K rPop mPop := by
  intro x xs S H d ds Qd Q hS rx rs h l
  unfold mPop at h
  split at h
  · have e0 : xs = [] := rs
    subst e0
    obtain ⟨a, es, ys, ea, eS, hH, re, q⟩ := onL_rel hS rx h
    rw [re.length] at q
    split at q
    · rename_i y ey
      obtain ⟨u, eu, ru⟩ := re.get ey
      exact ⟨a, ys, u, ea, rfl, hH, eu, lset hS eS (fun i => (Rels.imm i _ _ re).dropLast) (fun i => Rel.imm i _ _ ru) l q⟩
    · exact q.elim
  · exact h.elim
def rInsert : V → List V → Hp → VK → Prop := fun x vs H Q => ∃ (l : Addr) (xs : List V) (i : Int) (y : V), x = .ref l ∧ vs = [.int i, y] ∧ H l = some (.lst xs) ∧ xs.length < sizeLine ∧ 0 ≤ i ∧ i < 2 ^ 63 ∧
  Q .non (upd H l (.lst (xs.take i.toNat ++ [y] ++ xs.drop i.toNat)))
theorem m_insert : MtD K rInsert mInsert := by
  intro x xs S H d ds Qd Q hS rx rs h l
  unfold mInsert at h
  split at h
  · obtain ⟨v, u, rfl, rv, ru⟩ := rels2 rs
    have ev : v = _ := rv
    subst ev
    obtain ⟨a, es, ys, ea, eS, hH, re, hz, h0, h1, q⟩ := onL_rel hS rx h
    exact ⟨a, ys, _, u, ea, rfl, hH, by rw [← re.length]; exact hz, h0, h1, lset hS eS (fun i => Rels.append (Rels.append (Rels.take _ (Rels.imm i _ _ re)) (Rels.mk1 (Rel.imm i _ _ ru))) (Rels.drop _ (Rels.imm i _ _ re))) (d := .non) (fun _ => rfl) l q⟩
  · exact h.elim
end

/-! ### displays of dicts with written keys -/
/-- the values of a display, from the left -/
structure DP (X : Cx) (pos : Pos) (keys : List (Option Expr)) (values : List Expr) (W : WX) (ks : List Key) (fa : EA) : Prop where
  ex : ∃ trs, PPs X pos keys values trs ∧ ∀ σ H Q, rdA X.K W ks.length fa σ H (fun vs H' => vs.length = ks.length → Q ((ks.map kV).zip vs) H') → tPairs trs σ H Q
section
variable {X : Cx} {W : WX} {pos : Pos} {keys : List (Option Expr)} {values : List Expr} {ks : List Key} {fa : EA} {k v : Expr} {f : ET}
theorem dp_nil : DP X pos [] [] W [] aNil := ⟨[], pps_nil, fun σ H Q ⟨ρ, S, Qd, Ed, hρ, hS, hf, lq, _⟩ => lq [] S [] H (Evo.refl _ _) hS rfl rfl hf rfl⟩
theorem dp_cons (j : Key) (hk : PE X k (tC (kV j))) (hv : PE X v (rdE X.K W f)) (hr : DP X pos keys values W ks fa) : DP X pos (some k :: keys) (v :: values) W (j :: ks) (aCons f fa) := by
  obtain ⟨trs, h1, h2⟩ := hr.ex
  refine ⟨_, pps_cons hk hv h1, fun σ H Q ⟨ρ, S, Qd, Ed, hρ, hS, hf, lq, lx⟩ => ?_⟩
  refine ⟨ρ, S, _, Ed, hρ, hS, hf, fun d S1 w H1 e1 r1 q1 g1 => ?_, lx⟩
  refine h2 σ H1 _ ⟨ρ, S1, _, Ed, hρ.imm (e1.imm hS), r1, g1, fun ds S2 vs H2 e2 r2 q2 hl g2 hn => ?_, lx.mono e1⟩
  exact lq (d :: ds) S2 (w :: vs) H2 (e1.trans e2) r2 ⟨w, vs, rfl, Rel.imm (e2.imm r1) _ _ q1, q2⟩ (by simp [hl]) g2 (by simp [hn])
end
theorem unhide {K : PySem.W.Frag} {S : Store} {H : Hp} {p : Addr} {o : HO} (r : SRel K S H) (n : S p = none) (e : H p = some o) (m : mutb o = true) : Imm H (delH' H p) ∧ SRel K S (delH' H p) := by
  have i : Imm H (delH' H p) := fun b u q mq => by
    have hb : b ≠ p := fun z => by subst z; rw [e] at q; cases q; rw [m] at mq; cases mq
    exact (if_neg hb : delH' H p b = H b).trans q
  exact ⟨i, fun b u q => by
    have hb : b ≠ p := fun z => by subst z; rw [n] at q; cases q
    exact (r b u q).imm i fun w q => (if_neg hb : delH' H p b = H b).trans q⟩
theorem evo_unhide {S0 S : Store} {H0 H : Hp} {p : Addr} (e : Evo S0 H0 S H) (h0 : H0 p = none) : Evo S0 H0 S (delH' H p) := ⟨fun b o q n nt => by
  have hb : b ≠ p := fun z => by subst z; rw [h0] at q; cases q
  exact (if_neg hb : delH' H p b = H b).trans (e.keep b o q n nt), e.new⟩
theorem evo_from {S0 S : Store} {H0 H : Hp} {p : Addr} {o : HO} (h0 : H0 p = none) (e : Evo S0 (upd H0 p o) S H) : Evo S0 H0 S H := ⟨fun b u q n nt => e.keep b u (by rw [upd_ne (ne_of_none q h0)]; exact q) n nt, fun b n n2 o2 e2 nt => by
  by_cases hb : b = p
  · rw [hb, h0] at e2; cases e2
  · exact e.new b n n2 o2 (by rw [upd_ne hb]; exact e2) nt⟩
theorem mergeK_new : ∀ (more kvs : List (Key × V)), ((kvs ++ more).map (·.1)).Nodup → mergeK kvs more = kvs ++ more
  | [], kvs, _ => by rw [List.append_nil]; rfl
  | p :: r, kvs, h => by
    have hn : valV kvs p.1 = none := by
      cases e : valV kvs p.1 with
      | none => rfl
      | some v =>
        have hs : (valV kvs p.1).isSome = true := by rw [e]; rfl
        rw [← valV_any, List.any_eq_true] at hs
        obtain ⟨q, hq, eq⟩ := hs
        have eq' := of_decide_eq_true eq
        rw [List.map_append, List.nodup_append] at h
        exact absurd eq' (h.2.2 q.1 (List.mem_map_of_mem hq) p.1 (by simp))
    show mergeK (putK kvs p.1 p.2) r = kvs ++ p :: r
    rw [putK_new p.2 hn, mergeK_new r (kvs ++ [(p.1, p.2)]) (by simpa using h)]
    simp
theorem map_zip_key : ∀ (ks : List Key) (vs : List V), (ks.map kV).zip vs = (ks.zip vs).map fun kv => (kV kv.1, kv.2)
  | [], _ => rfl
  | _ :: _, [] => rfl
  | k :: ks, v :: vs => by
    show (kV k, v) :: (ks.map kV).zip vs = (kV k, v) :: (ks.zip vs).map _
    rw [map_zip_key ks vs]
def evDisp (mk : MkDT) (ks : List Key) (fa : EA) : ET := fun ρ S Q E => fa ρ S (fun ds S1 => mk ks ds S1 Q) E
section
variable {X : Cx} {W : WX} {pos : Pos} {keys : List (Option Expr)} {values : List Expr} {ks : List Key} {fa : EA} {mk : MkDT}
theorem e_disp (hm : MkDOk X.K mk) (h : DP X pos keys values W ks fa) (nd : ks.Nodup) (hall : keys.all (·.isSome) = true := by rfl) (hl : keys.length = values.length := by rfl) (h0 : keys ≠ [] := by exact fun z => by cases z) (h15 : keys.length ≤ 15 := by decide) (h15' : ks.length ≤ 15 := by decide) : PE X (.Dict keys values pos) (rdE X.K W (evDisp mk ks fa)) := by
  obtain ⟨trs, h1, h2⟩ := h.ex
  refine PE_imp (pe_fz (pe_disp h1 hall hl h0 h15)) fun σ H Q ⟨ρ, S, Qd, Ed, hρ, hS, hf, lq, lx⟩ => ?_
  intro p hp
  have rS : SRel X.K S (upd H p (.dK [])) := hS.upd_new hp
  have Sp : S p = none := hS.free hp
  refine h2 σ _ _ ⟨ρ, S, _, Ed, hρ.imm (upd_imm hp), rS, hf, fun ds S1 vs H1 e1 r1 q1 hl1 g1 hn => ?_, lx.mono (evo_new hp)⟩
  have hp1 : H1 p = some (.dK []) := e1.keep p _ upd_same Sp (fun _ z => nomatch z)
  have Sp1 : S1 p = none := by
    cases q : S1 p with
    | none => rfl
    | some u => exact (e1.new p Sp (by rw [q]; exact fun z => nomatch z) _ upd_same (fun _ z => nomatch z)).elim
  refine ⟨hp1, ks.zip vs, ?_, ?_, ?_⟩
  · exact map_zip_key ks vs
  · rw [List.length_zip]; exact Nat.le_trans (Nat.min_le_left _ _) h15'
  · have hm1 : mergeK [] (ks.zip vs) = ks.zip vs := by
      rw [mergeK_new _ _ (by rw [List.nil_append, List.map_fst_zip (by omega)]; exact nd)]
      rfl
    rw [hm1]
    obtain ⟨i, r2⟩ := unhide r1 Sp1 hp1 rfl
    have fin := hm S1 (delH' H1 p) ks ds vs p Qd Q r2 (if_pos rfl) (by rw [hl1]) (Rels.imm i _ _ q1) g1 (lq.mono (evo_unhide (evo_from hp e1) hp))
    rw [show upd (delH' H1 p) p (.dK (ks.zip vs)) = upd H1 p (.dK (ks.zip vs)) from by
      rw [← delH'_upd (o := .dK []) hp1, upd_upd, delH'_upd hp1]] at fin
    exact fin
end
/-- a new empty dict -/
def evDict0 (mk : MkDT) : ET := fun _ S Q _ => mk [] [] S Q
section
variable {X : Cx} {W : WX} {pos : Pos} {mk : MkDT}
theorem e_dict0 (hm : MkDOk X.K mk) : PE X (.Dict [] [] pos) (rdE X.K W (evDict0 mk)) :=
  PE_imp (pe_fz pe_dnewK) fun _ H _ ⟨_, S, Qd, _, _, hS, hf, lq, _⟩ p hp => hm S H [] [] [] p Qd _ hS hp rfl rfl hf lq
end
end MP

set_option Elab.async false
set_option linter.all false
set_option maxRecDepth 100000
set_option maxHeartbeats 2100000
/-! MPWalk: stores to an item; what is walked: lists, tuples, texts, ranges. -/
namespace MP
open PySem PyProof.Rows PySem.Spec L2

/-! ### o[i] = v -/
def hasK (ks : List Key) (k : Key) : Bool := ks.any fun j => decide (j = k)
def putKs (ks : List Key) (k : Key) : List Key := if hasK ks k = true then ks else ks ++ [k]
def putVs {α : Type} (ks : List Key) (xs : List α) (k : Key) (v : α) : List α := if hasK ks k = true then ks.zipWith (fun j x => if j = k then v else x) xs else xs ++ [v]
theorem zip_any (k : Key) : ∀ (ks : List Key) (xs : List V), ks.length = xs.length → ((ks.zip xs).any fun kv => decide (kv.1 = k)) = hasK ks k
  | [], _, _ => rfl
  | _ :: _, [], h => by cases h
  | j :: ks, x :: xs, h => by
    show (decide (j = k) || (ks.zip xs).any _) = (decide (j = k) || hasK ks k)
    rw [zip_any k ks xs (by simpa using h)]
theorem zip_map (k : Key) (v : V) : ∀ (ks : List Key) (xs : List V), ((ks.zip xs).map fun kv => if kv.1 = k then (kv.1, v) else kv) = ks.zip (ks.zipWith (fun j x => if j = k then v else x) xs)
  | [], _ => rfl
  | _ :: _, [] => rfl
  | j :: ks, x :: xs => by
    rw [List.zip_cons_cons, List.map_cons, List.zipWith_cons_cons, List.zip_cons_cons, zip_map k v ks xs]
    by_cases e : j = k
    · rw [if_pos e, if_pos e]
    · rw [if_neg e, if_neg e]
theorem put_zip {ks : List Key} {xs : List V} (k : Key) (v : V) (h : ks.length = xs.length) : putK (ks.zip xs) k v = (putKs ks k).zip (putVs ks xs k v) := by
  unfold putK putKs putVs
  rw [zip_any k ks xs h]
  by_cases c : hasK ks k = true
  · rw [if_pos c, if_pos c, if_pos c, zip_map]
  · rw [if_neg c, if_neg c, if_neg c, List.zip_append h]
    rfl
theorem put_len {α : Type} {ks : List Key} {xs : List α} (k : Key) (v : α) (h : ks.length = xs.length) : (putKs ks k).length = (putVs ks xs k v).length := by
  unfold putKs putVs
  split
  · rw [List.length_zipWith, h, Nat.min_self]
  · rw [List.length_append, List.length_append, h]; rfl
theorem put_rel {K : PySem.W.Frag} {H : Hp} {k : Key} {d : D} {v : V} (rv : Rel K H d v) {ks : List Key} {ds : List D} {vs : List V} (r : Rels K H ds vs) : Rels K H (putVs ks ds k d) (putVs ks vs k v) := by
  unfold putVs
  split
  · have go : ∀ (ks : List Key) (ds : List D) (vs : List V), Rels K H ds vs → Rels K H (ks.zipWith (fun j x => if j = k then d else x) ds) (ks.zipWith (fun j x => if j = k then v else x) vs) := by
      intro ks
      induction ks with
      | nil => intro ds vs _; rfl
      | cons j ks ih =>
        intro ds vs r
        cases ds with
        | nil => have e : vs = [] := r; subst e; rfl
        | cons x ds =>
          obtain ⟨u, us, rfl, h, t⟩ := r
          refine ⟨if j = k then v else u, _, rfl, ?_, ih ds us t⟩
          show Rel K H (if j = k then d else x) (if j = k then v else u)
          by_cases e : j = k
          · rw [if_pos e, if_pos e]; exact rv
          · rw [if_neg e, if_neg e]; exact h
    exact go ks ds vs r
  · exact Rels.append r (Rels.mk1 rv)
def rSetA : TSet := fun o i v H Q => rSetL o i v H Q ∨ rSetD o i v H Q
theorem set_all {X : Cx} (hu : X.A.units + 1 < cLine) : PSet X rSetA := fun pins s σ H o i v ov iv u Q I ro ri rv h =>
  h.elim (set_list pins s σ H o i v ov iv u Q I ro ri rv) (set_dict hu pins s σ H o i v ov iv u Q I ro ri rv)
def setD (x y d : D) (S : Store) (Q : Store → Prop) : Prop := match x with
  | .ref a => match S a with
    | some (.lst xs) => match y with
      | .int i => match ixN xs.length i with
        | some j => Q (S.set a (.lst (xs.set j d)))
        | none => False
      | _ => False
    | some (.dct ks ds) => match keyD y with
      | some k => ks.length < sizeLine ∧ Q (S.set a (.dct (putKs ks k) (putVs ks ds k d)))
      | none => False
    | _ => False
  | _ => False
theorem setD_rd {K : PySem.W.Frag} {S : Store} {H : Hp} {x y d : D} {o i v : V} {Qd : Store → Prop} {Q : Hp → Prop} (hS : SRel K S H) (rx : Rel K H x o) (ry : Rel K H y i) (rd : Rel K H d v) (h : setD x y d S Qd)
    (l : ∀ S' H', Evo S H S' H' → SRel K S' H' → Qd S' → Q H') : rSetA o i v H Q := by
  unfold setD at h
  split at h
  · rename_i a
    split at h
    · rename_i xs e
      obtain ⟨ys, hx, rs⟩ := hS a _ e
      split at h
      · rename_i j
        split at h
        · rename_i n en
          refine .inl ⟨a, ys, j, n, rx, ry, hx, by rw [← rs.length]; exact en, ?_⟩
          obtain ⟨o', e', m⟩ := (hS a _ e).mut
          have im : Imm H (upd H a (.lst (ys.set n v))) := upd_immS e' m
          exact l _ _ (evo_setS e) (hS.setS (u := .lst (xs.set n d)) e fun _ => ⟨_, upd_same, Rels.set (Rel.imm im _ _ rd) n (Rels.imm im _ _ rs)⟩) h
        · exact h.elim
      · exact h.elim
    · rename_i ks ds e
      obtain ⟨ys, hx, hl, rs⟩ := hS a _ e
      have hl' : ks.length = ys.length := by rw [hl, rs.length]
      split at h
      · rename_i k ek
        have ei := keyD_rel ry ek
        refine .inr ⟨a, _, rx, .inl ⟨_, k, hx, ei, by rw [List.length_zip, ← hl', Nat.min_self]; exact h.1, rfl⟩, ?_⟩
        rw [put_zip k v hl']
        obtain ⟨o', e', m⟩ := (hS a _ e).mut
        have im : Imm H (upd H a (.dK ((putKs ks k).zip (putVs ks ys k v)))) := upd_immS e' m
        exact l _ _ (evo_setS e) (hS.setS (u := .dct (putKs ks k) (putVs ks ds k d)) e fun _ => ⟨_, upd_same, put_len k d hl, put_rel (Rel.imm im _ _ rd) (Rels.imm im _ _ rs)⟩) h.2
      · exact h.elim
    · exact h.elim
  · exact h.elim
def dgSub (fo fi : ET) : DG := fun d ρ S Q => fo ρ S (fun x S1 => fi ρ S1 (fun y S2 => setD x y d S2 (fun S3 => Q ρ S3)) (fun _ _ => False)) (fun _ _ => False)
section
variable {X : Cx} {W : WX} {o i : Expr} {fo fi : ET} {pos : Pos}
theorem g_sub (hu : X.A.units + 1 < cLine) (ho : PE X o (rdE X.K W fo)) (hi : PE X i (rdE X.K W fi))
    (hAs : ∀ v, assign (.Subscript o i pos) X.env v = (do
      let w1 ← holding [v] (eval o X.env)
      let w2 ← holding [v, w1] (eval i X.env)
      standAt pos
      holding [v, w1, w2] (setItem w1 w2 v)
      release [v, w1, w2] []) := by intro _; rfl) : PG X (.Subscript o i pos) (rdG X.K (dgSub fo fi)) :=
  PG_imp (pg_sub ho hi (set_all hu) hAs) fun v σ H Q ⟨ρ, S, d, Qd, hρ, hS, hd, hg, l⟩ => by
    refine ⟨ρ, S, _, _, hρ, hS, hg, fun x S1 vx H1 e1 r1 q1 h1 => ?_, fun _ _ _ _ _ _ _ _ z => z.elim⟩
    refine ⟨ρ, S1, _, _, hρ.imm (e1.imm hS), r1, h1, fun y S2 vy H2 e2 r2 q2 h2 => ?_, fun _ _ _ _ _ _ _ _ z => z.elim⟩
    have i12 := e2.imm r1
    refine setD_rd r2 (Rel.imm i12 _ _ q1) q2 (Rel.imm ((e1.trans e2).imm hS) _ _ hd) h2 fun S3 H3 e3 r3 h3 => ?_
    have e := (e1.trans e2).trans e3
    exact l ρ S3 σ H3 e r3 (hρ.imm (e.imm hS)) h3
end

/-! ### what is walked -/
def iSeqV (K : PySem.W.Frag) (tl : TE) : TI := fun σ H R => tl σ H fun x H1 => (∃ a xs, x = .ref a ∧ SqL K H1 a xs ∧ R (Itl K a) H1) ∨ ∃ a xs, x = .ref a ∧ SqT K H1 a xs ∧ R (Itt K a) H1
theorem pi_seq {X : Cx} {tg l : Expr} {tl : TE} (hl : PE X l tl) : PI X tg l (iSeqV X.K tl) := by
  constructor
  intro pins s σ H R I h
  refine thn (hl.run pins s σ H _ I h) ?_
  rintro v s1 ⟨x, H1, J, r1, hx⟩
  have old : ∀ (ob : Obj) b o, s1.heap.get? b = some o → (s1.heap.push ob).get? b = some o := fun ob b o e => Heap.get?_push_of_some ob e
  have young : ∀ b, b ∈ [s1.heap.objs.size] → FpOk X pins H1 b := fun b hb => by
    obtain rfl : b = s1.heap.objs.size := by simpa using hb
    exact J.fpOk (Nat.le_refl _) J.fresh
  rcases hx with ⟨a, xs, rfl, hq, q⟩ | ⟨a, xs, rfl, hq, q⟩
  · obtain rfl : v = Value.ref a := r1
    obtain ⟨_, _, pl, _⟩ := J.list hq
    exact wpAny_pyIter_list pl.isList ⟨s1.heap.objs.size, [s1.heap.objs.size], _, _, H1, rfl, J.kept (t' := s1.toks) (old _), turn_list a _, ⟨_, Heap.get?_push_size _ rfl, rfl, rfl⟩, young, q⟩
  · obtain rfl : v = Value.ref a := r1
    obtain ⟨its, _, pl, _⟩ := J.tuple hq
    exact wpAny_pyIter_tuple (items := its.toArray) pl ⟨s1.heap.objs.size, [s1.heap.objs.size], _, _, H1, rfl, J.kept (t' := s1.toks) (old _), turn_tuple a _, ⟨_, Heap.get?_push_size _ rfl, rfl, rfl⟩, young, q⟩
def iSeq (f : ET) : EI := fun ρ S Q E => f ρ S (fun d S1 => match d with
  | .lst ds => Q ds S1
  | .kls ds => Q ds S1
  | .tup ds => Q ds S1
  | _ => False) E
theorem yields_list {K : PySem.W.Frag} {H : Hp} {a : Addr} {ds : List D} {vs : List V} (st : ∀ H', Imm H H' → SqL K H' a vs) (uq : ∀ H' ys, Imm H H' → SqL K H' a ys → True) (rs : Rels K H ds vs) : Yields K (Itl K a) ds H where
  go := fun i H' hi im => by
    obtain ⟨v, ev, _⟩ := rs.get (i := i) (List.getElem?_eq_getElem hi)
    exact ⟨vs, v, st H' im, ev⟩
  stop := fun H' im => ⟨vs, st H' im, by rw [rs.length]; exact Nat.le_refl _⟩
  yld := fun i H' x H2 d ed im ⟨e, hx⟩ => by
    obtain ⟨v, ev, rv⟩ := rs.get ed
    have e2 := hx vs (st H' im)
    rw [ev] at e2
    cases (Option.some.inj e2)
    subst e
    exact ⟨.inl rfl, Rel.imm im _ _ rv⟩
theorem yields_tup {K : PySem.W.Frag} {H : Hp} {a : Addr} {ds : List D} {vs : List V} (h : SqT K H a vs) (rs : Rels K H ds vs) : Yields K (Itt K a) ds H where
  go := fun i H' hi im => by
    obtain ⟨v, ev, _⟩ := rs.get (i := i) (List.getElem?_eq_getElem hi)
    exact ⟨vs, v, im.sqT h, ev⟩
  stop := fun H' im => ⟨vs, im.sqT h, by rw [rs.length]; exact Nat.le_refl _⟩
  yld := fun i H' x H2 d ed im ⟨e, hx⟩ => by
    obtain ⟨v, ev, rv⟩ := rs.get ed
    have e2 := hx vs (im.sqT h)
    rw [ev] at e2
    cases (Option.some.inj e2)
    subst e
    exact ⟨.inl rfl, Rel.imm im _ _ rv⟩
theorem i_seq {X : Cx} {W : WX} {tg l : Expr} {f : ET} (hl : PE X l (rdE X.K W f)) : PI X tg l (rdI X.K W (iSeq f)) :=
  PI_imp (pi_seq hl) fun σ H R ⟨ρ, S, Qd, Ed, hρ, hS, hf, y, lx⟩ => by
    refine ⟨ρ, S, _, Ed, hρ, hS, hf, fun d S1 v H1 e1 r1 q1 h1 => ?_, lx⟩
    cases d with
    | lst ds =>
      obtain ⟨a, vs, rfl, ha, rs⟩ := q1
      exact .inl ⟨a, vs, rfl, ha.seq, y ds S1 _ H1 e1 r1 (yields_list (fun H' im => (im.fzL ha).seq) (fun _ _ _ _ => trivial) rs) h1⟩
    | kls ds =>
      obtain ⟨a, vs, rfl, ha, rs⟩ := q1
      exact .inl ⟨a, vs, rfl, ha.seq, y ds S1 _ H1 e1 r1 (yields_list (fun H' im => (im.ksL ha).seq) (fun _ _ _ _ => trivial) rs) h1⟩
    | tup ds =>
      obtain ⟨a, vs, rfl, ha, rs⟩ := q1
      exact .inr ⟨a, vs, rfl, ha, y ds S1 _ H1 e1 r1 (yields_tup ha rs) h1⟩
    | _ => exact h1.elim
/-! ranges -/
def rangeD (lo : Int) (n : Nat) : List D := (List.range n).map fun (k : Nat) => .int (lo + k)
theorem yields_range {K : PySem.W.Frag} {H : Hp} (lo : Int) (n : Nat) : Yields K (Itr lo n) (rangeD lo n) H where
  go := fun i H' hi _ => by
    show i < n
    simpa [rangeD] using hi
  stop := fun H' _ => by
    show n ≤ (rangeD lo n).length
    simp [rangeD]
  yld := fun i H' x H2 d ed im ⟨e, hx⟩ => by
    subst e hx
    have h : i < n := by
      have := (List.getElem?_eq_some_iff.mp ed).1
      simpa [rangeD] using this
    have e2 : d = .int (lo + i) := by
      have : (rangeD lo n)[i]? = some (.int (lo + i)) := by simp [rangeD, h]
      rw [this] at ed
      exact (Option.some.inj ed).symm
    subst e2
    exact ⟨.inl rfl, rfl⟩
def iRange1 (fa : EA) : EI := fun ρ S Q E => fa ρ S (fun ds S1 => match ds with
  | [.int j] => -(2 ^ 62) ≤ j ∧ j < 2 ^ 62 ∧ Q (rangeD 0 j.toNat) S1
  | _ => False) E
def iRange2 (fa : EA) : EI := fun ρ S Q E => fa ρ S (fun ds S1 => match ds with
  | [.int i, .int j] => (-(2 ^ 62) ≤ i ∧ i < 2 ^ 62 ∧ -(2 ^ 62) ≤ j ∧ j < 2 ^ 62) ∧ Q (rangeD i (j - i).toNat) S1
  | _ => False) E
section
variable {X : Cx} {W : WX} {tg a b : Expr} {fa : EA} {p pos : Pos}
theorem i_range1 (hg : Gl X "range") (hm : X.mg "range" = none) (ha : PA X [a] (rdA X.K W 1 fa)) (hs : starEach [a] X.env = [(false, eval a X.env)] := by rfl) : PI X tg (.Call (.Name "range" p) [a] [] pos) (rdI X.K W (iRange1 fa)) :=
  PI_imp (pi_range1 hg hm ha hs) fun σ H R ⟨ρ, S, Qd, Ed, hρ, hS, hf, y, lx⟩ => by
    refine ⟨ρ, S, _, Ed, hρ, hS, hf, fun ds S1 vs H1 e1 r1 q1 hl h1 => ?_, lx⟩
    dsimp only at h1
    split at h1
    · rename_i j
      obtain ⟨v, rfl, rv⟩ := rels1 q1
      have ev : v = _ := rv
      subst ev
      exact ⟨j, rfl, h1.1, h1.2.1, y _ S1 _ H1 e1 r1 (yields_range 0 j.toNat) h1.2.2⟩
    · exact h1.elim
theorem i_range2 (hg : Gl X "range") (hm : X.mg "range" = none) (ha : PA X [a, b] (rdA X.K W 2 fa)) (hs : starEach [a, b] X.env = [(false, eval a X.env), (false, eval b X.env)] := by rfl) (hs2 : starEach [b] X.env = [(false, eval b X.env)] := by rfl) : PI X tg (.Call (.Name "range" p) [a, b] [] pos) (rdI X.K W (iRange2 fa)) :=
  PI_imp (pi_range2 hg hm ha hs hs2) fun σ H R ⟨ρ, S, Qd, Ed, hρ, hS, hf, y, lx⟩ => by
    refine ⟨ρ, S, _, Ed, hρ, hS, hf, fun ds S1 vs H1 e1 r1 q1 hl h1 => ?_, lx⟩
    dsimp only at h1
    split at h1
    · rename_i i j
      obtain ⟨v, u, rfl, rv, ru⟩ := rels2 q1
      have ev : v = _ := rv
      have eu : u = _ := ru
      subst ev eu
      exact ⟨i, j, rfl, h1.1, y _ S1 _ H1 e1 r1 (yields_range i (j - i).toNat) h1.2⟩
    · exact h1.elim
end
/-! list(range(..)) -/
theorem rg_rels {K : PySem.W.Frag} {H : Hp} (i : Int) : ∀ (l : List Nat), Rels K H (l.map fun (k : Nat) => D.int (i + k)) (l.map fun (k : Nat) => V.int (i + (k : Nat)))
  | [] => rfl
  | k :: l => ⟨_, _, rfl, rfl, rg_rels i l⟩
def evListRg1 (mk : MkT) (f : ET) : ET := fun ρ S Q E => f ρ S (fun x S1 => match x with
  | .int j => RgOk 0 j ∧ mk (rangeD 0 (j - 0).toNat) S1 Q
  | _ => False) E
def evListRg2 (mk : MkT) (f fb : ET) : ET := fun ρ S Q E => f ρ S (fun x S1 => fb ρ S1 (fun y S2 => match x, y with
  | .int i, .int j => RgOk i j ∧ mk (rangeD i (j - i).toNat) S2 Q
  | _, _ => False) E) E
section
variable {X : Cx} {W : WX} {a b : Expr} {f fb : ET} {p pos p2 pos2 : Pos} {mk : MkT}
theorem e_listRg1 (hm : MkOk X.K mk) (hc : X.calm = true) (gl : Gl X "list") (ml : X.mg "list" = none) (gr : Gl X "range") (mr : X.mg "range" = none) (ha : PE X a (rdE X.K W f))
    (na : starEach [a] X.env = (false, eval a X.env) :: starEach [] X.env := by rfl) (nl : starEach [.Call (.Name "range" p) [a] [] pos] X.env = (false, eval (.Call (.Name "range" p) [a] [] pos) X.env) :: starEach [] X.env := by rfl) :
    PE X (.Call (.Name "list" p2) [.Call (.Name "range" p) [a] [] pos] [] pos2) (rdE X.K W (evListRg1 mk f)) :=
  PE_imp (pe_fz (pe_listRg hc gl ml (prg_1 gr mr ha na) nl)) fun σ H Q ⟨ρ, S, Qd, Ed, hρ, hS, hf, lq, lx⟩ => by
    refine ⟨ρ, S, _, Ed, hρ, hS, hf, fun d1 S1 v1 H1 e1 r1 q1 h1 => ?_, lx⟩
    dsimp only at h1
    split at h1
    · exact ⟨_, q1, h1.1, fun q hq => hm _ _ _ _ _ _ _ r1 hq (rg_rels 0 _) h1.2 (lq.mono e1)⟩
    · exact h1.elim
theorem e_listRg2 (hm : MkOk X.K mk) (hc : X.calm = true) (gl : Gl X "list") (ml : X.mg "list" = none) (gr : Gl X "range") (mr : X.mg "range" = none) (ha : PE X a (rdE X.K W f)) (hb : PE X b (rdE X.K W fb))
    (na : starEach [a, b] X.env = (false, eval a X.env) :: starEach [b] X.env := by rfl) (nb : starEach [b] X.env = (false, eval b X.env) :: starEach [] X.env := by rfl) (hp : (backTo pos (starEach [b] X.env)).any (·.1) = false := by rfl)
    (nl : starEach [.Call (.Name "range" p) [a, b] [] pos] X.env = (false, eval (.Call (.Name "range" p) [a, b] [] pos) X.env) :: starEach [] X.env := by rfl) :
    PE X (.Call (.Name "list" p2) [.Call (.Name "range" p) [a, b] [] pos] [] pos2) (rdE X.K W (evListRg2 mk f fb)) :=
  PE_imp (pe_fz (pe_listRg hc gl ml (prg_2 gr mr ha hb na nb hp) nl)) fun σ H Q ⟨ρ, S, Qd, Ed, hρ, hS, hf, lq, lx⟩ => by
    refine ⟨ρ, S, _, Ed, hρ, hS, hf, fun d1 S1 v1 H1 e1 r1 q1 h1 => ?_, lx⟩
    refine ⟨ρ, S1, _, Ed, hρ.imm (e1.imm hS), r1, h1, fun d2 S2 v2 H2 e2 r2 q2 h2 => ?_, lx.mono e1⟩
    dsimp only at h2
    split at h2
    · exact ⟨_, _, q1, q2, h2.1, fun q hq => hm _ _ _ _ _ _ _ r2 hq (rg_rels _ _) h2.2 ((lq.mono e1).mono e2)⟩
    · exact h2.elim
end
end MP

set_option Elab.async false
set_option linter.all false
set_option maxRecDepth 100000
set_option maxHeartbeats 1100000
/-! MPStep: one lemma a combinator, to step through a mirror -/
namespace MP
open PySem PySem.Spec PyProof.Rows L2 MP
variable {ρ : Env} {S : Store} {N : DEnds} {Q : Post} {E : XPost} {d x y : D} {ds : List D} {i j : Int} {n m : Nat} {f f2 f3 : ET} {g h : ST} {fa fb : EA} {t u : EB} {QA : List D → Store → Prop} {QB : Bool → Store → Prop} {QE : Env → Store → Prop} {gg gh : DG} {gs : DGs} {o o2 : G2} {mk : MkT}
theorem runF_i (q : g (ds.map some ++ List.replicate (m - ds.length) none) S { nx := fun _ S' => Q .non S', rt := Q, ex := fun x _ S' => E x S' }) : runF m g ds S Q E := q
theorem dSeq_i (q : g ρ S { N with nx := fun ρ' S' => h ρ' S' N }) : dSeq g h ρ S N := q
theorem dNext_i (q : N.nx ρ S) : dNext ρ S N := q
theorem dExpr_i (q : f ρ S (fun _ S' => N.nx ρ S') (fun x S' => N.ex x ρ S')) : dExpr f ρ S N := q
theorem dRet_i (q : f ρ S N.rt (fun x S' => N.ex x ρ S')) : dRet f ρ S N := q
theorem dRetN_i (q : N.rt .non S) : dRetN ρ S N := q
theorem dBrk_i (q : N.bk ρ S) : dBrk ρ S N := q
theorem dCnt_i (q : N.ct ρ S) : dCnt ρ S N := q
theorem dIf_i (q : t ρ S (fun b S' => if b = true then g ρ S' N else h ρ S' N) (fun x S' => N.ex x ρ S')) : dIf t g h ρ S N := q
theorem dAsg_i (q : f ρ S (fun d S' => gg d ρ S' N.nx) (fun x S' => N.ex x ρ S')) : dAsg f gg ρ S N := q
theorem dSet_i (q : f ρ S (fun d S' => N.nx (st ρ n (some d)) S') (fun x S' => N.ex x ρ S')) : dSet n f ρ S N := q
theorem dPar_i (q : fa ρ S (fun ds S' => match ds with
  | [x, y] => N.nx (st (st ρ n (some x)) m (some y)) S'
  | _ => False) (fun x S' => N.ex x ρ S')) : dPar n m fa ρ S N := q
theorem dRaise_i {c : Value} (q : N.ex { cls := c } ρ S) : dRaise c ρ S N := q
theorem dgName_i (q : QE (st ρ n (some d)) S) : dgName n d ρ S QE := q
theorem dgNil_i (q : QE ρ S) : dgNil [] ρ S QE := q
theorem dgCons_i (q : gg d ρ S fun ρ1 S1 => gs ds ρ1 S1 QE) : dgCons gg gs (d :: ds) ρ S QE := q
theorem dgTup_i (e : ds.length = n) (q : gs ds ρ S QE) : dgTup n gs (.tup ds) ρ S QE := ⟨e, q⟩
theorem dgSub_i (q : f ρ S (fun x S1 => f2 ρ S1 (fun y S2 => setD x y d S2 (fun S3 => QE ρ S3)) (fun _ _ => False)) (fun _ _ => False)) : dgSub f f2 d ρ S QE := q
theorem evC_i (q : Q d S) : evC d ρ S Q E := q
theorem evV_i (e : lk ρ n = some d) (q : Q d S) : evV n ρ S Q E := by unfold evV; rw [e]; exact q
theorem aNil_i (q : QA [] S) : aNil ρ S QA E := q
theorem aCons_i (q : f ρ S (fun d S1 => fa ρ S1 (fun ds S2 => QA (d :: ds) S2) E) E) : aCons f fa ρ S QA E := q
theorem evTup_i (q : fa ρ S (fun ds S1 => Q (.tup ds) S1) E) : evTup fa ρ S Q E := q
theorem evLst_i (q : fa ρ S (fun ds S1 => mk ds S1 Q) E) : evLst mk fa ρ S Q E := q
theorem mkF_i (q : Q (.lst ds) S) : mkF ds S Q := q
theorem mkM_i (q : ∀ a, S a = none → Q (.ref a) (S.set a (.lst ds))) : mkM ds S Q := q
theorem mkDF_i {ks : List Key} (q : Q (.dct ks ds) S) : mkDF ks ds S Q := q
theorem mkDM_i {ks : List Key} (q : ∀ a, S a = none → Q (.ref a) (S.set a (.dct ks ds))) : mkDM ks ds S Q := q
theorem evDisp_i {mk : MkDT} {ks : List Key} (q : fa ρ S (fun ds S1 => mk ks ds S1 Q) E) : evDisp mk ks fa ρ S Q E := q
theorem evDict0_i {mk : MkDT} (q : mk [] [] S Q) : evDict0 mk ρ S Q E := q
theorem bin_i (q : f ρ S (fun x S1 => f2 ρ S1 (fun y S2 => o x y S2 Q) E) E) : bin o f f2 ρ S Q E := q
theorem una_i {o : G1} (q : f ρ S (fun x S1 => o x S1 Q) E) : una o f ρ S Q E := q
theorem evCall_i {F : DF} (q : fa ρ S (fun ds S1 => F ds S1 Q E) E) : evCall F fa ρ S Q E := q
theorem evCall0_i {F : DF} (q : F [] S Q E) : evCall0 F ρ S Q E := q
theorem evCallK_i {F : DF} {is : List Nat} (q : fa ρ S (fun ds S1 => fb ρ S1 (fun zs S2 => F (pickL is (ds ++ zs)) S2 Q E) E) E) : evCallK F is fa fb ρ S Q E := q
theorem evB_i {o : GA} (q : fa ρ S (fun ds S1 => o ds S1 Q) E) : evB o fa ρ S Q E := q
theorem evM_i {T : String} {o : GM} (q : f ρ S (fun d S1 => mty (vw d S1) = some T ∧ fa ρ S1 (fun ds S2 => o d ds S2 Q) E) E) : evM T o f fa ρ S Q E := q
theorem evM0_i {T : String} {o : GM} (q : f ρ S (fun d S1 => mty (vw d S1) = some T ∧ o d [] S1 Q) E) : evM0 T o f ρ S Q E := q
/-- a truth that is met -/
def onT (d : D) (S : Store) (k : Bool → Prop) : Prop := match tru d S with
  | some b => k b
  | none => False
theorem onT_bl {b : Bool} {k : Bool → Prop} (q : k b) : onT (.bl b) S k := q
theorem onT_non {k : Bool → Prop} (q : k false) : onT .non S k := q
theorem onT_i {b : Bool} {k : Bool → Prop} (e : tru d S = some b) (q : k b) : onT d S k := by unfold onT; rw [e]; exact q
theorem bV_i (q : f ρ S (fun d S1 => onT d S1 fun b => QB b S1) E) : bV f ρ S QB E := q
theorem bAnd_i (q : t ρ S (fun b S1 => if b = true then u ρ S1 QB E else QB false S1) E) : bAnd t u ρ S QB E := q
theorem bOr_i (q : t ρ S (fun b S1 => if b = true then QB true S1 else u ρ S1 QB E) E) : bOr t u ρ S QB E := q
theorem bNot_i (q : t ρ S (fun b S1 => QB (!b) S1) E) : bNot t ρ S QB E := q
theorem bYes_i (q : QB true S) : bYes ρ S QB E := q
def onBl (d : D) (k : Bool → Prop) : Prop := match d with
  | .bl b => k b
  | _ => False
theorem onBl_i {b : Bool} {k : Bool → Prop} (q : k b) : onBl (.bl b) k := q
theorem bB_i (q : f ρ S (fun d S1 => onBl d fun b => QB b S1) E) : bB f ρ S QB E := q
theorem eAnd_i (q : f ρ S (fun d S1 => onT d S1 fun b => if b = true then f2 ρ S1 Q E else Q d S1) E) : eAnd f f2 ρ S Q E := by
  unfold eAnd
  refine cast (congrArg (fun k => f ρ S k E) ?_) q
  funext d S1
  unfold onT
  cases tru d S1 with
  | none => rfl
  | some b => cases b <;> simp
theorem eOr_i (q : f ρ S (fun d S1 => onT d S1 fun b => if b = true then Q d S1 else f2 ρ S1 Q E) E) : eOr f f2 ρ S Q E := by
  unfold eOr
  refine cast (congrArg (fun k => f ρ S k E) ?_) q
  funext d S1
  unfold onT
  cases tru d S1 with
  | none => rfl
  | some b => cases b <;> simp
theorem eNot_i (q : f ρ S (fun d S1 => onT d S1 fun b => Q (.bl (!b)) S1) E) : eNot f ρ S Q E := q
theorem eIf_i (q : t ρ S (fun b S1 => if b = true then f ρ S1 Q E else f2 ρ S1 Q E) E) : eIf t f f2 ρ S Q E := q
theorem chn_i (q : f ρ S (fun x S1 => f2 ρ S1 (fun y S2 => o x y S2 fun z S3 => onBl z fun b => if b = true then f3 ρ S3 (fun w S4 => o2 y w S4 Q) E else Q (.bl false) S3) E) E) : chn o o2 f f2 f3 ρ S Q E := by
  unfold chn
  refine cast (congrArg (fun k => f ρ S k E) ?_) q
  funext x S1
  refine congrArg (fun k => f2 ρ S1 k E) ?_
  funext y S2
  refine congrArg (fun k => o x y S2 k) ?_
  funext z S3
  unfold onBl
  cases z with
  | bl b => cases b <;> simp
  | _ => rfl
theorem ite_t {p q : Prop} {b : Bool} (e : b = true) (h : p) : (if b = true then p else q) := by rw [if_pos e]; exact h
theorem ite_f {p q : Prop} {b : Bool} (e : b = false) (h : q) : (if b = true then p else q) := by rw [if_neg (by rw [e]; exact fun z => nomatch z)]; exact h
theorem ite_tt {p q : Prop} (h : p) : (if true = true then p else q) := by rw [if_pos rfl]; exact h
theorem ite_ff {p q : Prop} (h : q) : (if false = true then p else q) := by rw [if_neg (fun z => nomatch z)]; exact h
theorem ite_cc {p q : Prop} {b : Bool} (h1 : b = true → p) (h2 : b = false → q) : (if b = true then p else q) := by
  cases b with
  | true => exact ite_tt (h1 rfl)
  | false => exact ite_ff (h2 rfl)
/-! operators -/
theorem gSub_i (q : Q (.int (i - j)) S) : gSub (.int i) (.int j) S Q := q
theorem gAdd_i (q : Q (.int (i + j)) S) : gAdd mk (.int i) (.int j) S Q := q
theorem gAdd_l {xs ys : List D} (e : xs.length + ys.length ≤ sizeLine) (q : mk (xs ++ ys) S Q) : gAdd mk (.lst xs) (.lst ys) S Q := ⟨e, q⟩
theorem gMul_i (e : CMul i j) (q : Q (.int (i * j)) S) : gMul (.int i) (.int j) S Q := ⟨e, q⟩
theorem gDiv_i (e : CDiv i j) (q : Q (.int (i / j)) S) : gDiv (.int i) (.int j) S Q := ⟨e, q⟩
theorem gMod_i (e : 0 < j) (q : Q (.int (i % j)) S) : gMod (.int i) (.int j) S Q := ⟨e, q⟩
theorem gPow_i (e : CPow i j) (q : Q (.int (i ^ j.toNat)) S) : gPow (.int i) (.int j) S Q := ⟨e, q⟩
theorem gNeg_i (q : Q (.int (-i)) S) : gNeg (.int i) S Q := q
theorem gLe_i (q : Q (.bl (decide (i ≤ j))) S) : gOrd (fun i j => decide (i ≤ j)) (fun i j => !decide (j < i)) (.int i) (.int j) S Q := q
theorem gLt_i (q : Q (.bl (decide (i < j))) S) : gOrd (fun i j => decide (i < j)) (fun i j => decide (i < j)) (.int i) (.int j) S Q := q
theorem gGt_i (q : Q (.bl (decide (j < i))) S) : gOrd (fun i j => decide (j < i)) (fun i j => decide (j < i)) (.int i) (.int j) S Q := q
theorem gGe_i (q : Q (.bl (decide (j ≤ i))) S) : gOrd (fun i j => decide (j ≤ i)) (fun i j => !decide (i < j)) (.int i) (.int j) S Q := q
theorem gEq_i (q : Q (.bl (i == j)) S) : gEq (.int i) (.int j) S Q := ⟨rfl, rfl, q⟩
theorem gNe_i (q : Q (.bl (!(i == j))) S) : gNe (.int i) (.int j) S Q := ⟨rfl, rfl, q⟩
theorem gEq_b {a b : Bool} (q : Q (.bl (a == b)) S) : gEq (.bl a) (.bl b) S Q := ⟨rfl, rfl, q⟩
theorem gNe_b {a b : Bool} (q : Q (.bl (!(a == b))) S) : gNe (.bl a) (.bl b) S Q := ⟨rfl, rfl, q⟩
theorem gEq_s {a b : Str} (q : Q (.bl (a == b)) S) : gEq (.str a) (.str b) S Q := q
theorem gNe_s {a b : Str} (q : Q (.bl (!(a == b))) S) : gNe (.str a) (.str b) S Q := q
theorem gIs_i (q : Q (.bl (isNon x)) S) : gIs x .non S Q := q
theorem gIsn_i (q : Q (.bl (!isNon x)) S) : gIsn x .non S Q := q
theorem gIx_t {xs : List D} (e : atI xs i = some d) (q : Q d S) : gIx (.tup xs) (.int i) S Q := by unfold gIx; simp only [vw]; rw [e]; exact q
theorem gIx_l {xs : List D} (e : atI xs i = some d) (q : Q d S) : gIx (.lst xs) (.int i) S Q := by unfold gIx; simp only [vw]; rw [e]; exact q
theorem gLen_w {xs : List D} (e : seqW (vw d S) = some xs) (q : Q (.int xs.length) S) : gLen [d] S Q := by
  show (match vw d S with
    | .lst xs => Q (.int xs.length) S
    | .kls xs => Q (.int xs.length) S
    | .tup xs => Q (.int xs.length) S
    | .dct ks _ => Q (.int ks.length) S
    | .str z => z.length ≤ sizeLine ∧ Q (.int z.length) S
    | _ => False)
  revert e
  cases vw d S <;> intro e <;> first
    | (cases e; exact q)
    | exact nomatch e
theorem gInt_i (q : Q (.int i) S) : gInt [.int i] S Q := q
theorem gAbs_i (q : Q (.int (if i < 0 then -i else i)) S) : gAbs [.int i] S Q := q
theorem gMin2_i (q : Q (.int (if j < i then j else i)) S) : gMin [.int i, .int j] S Q := by
  show Q (.int (if decide (j < i) = true then j else i)) S
  simpa using q
theorem gList_i {xs : List D} (e : seqW (vw d S) = some xs) (q : mk xs S Q) : gList mk [d] S Q := by
  show (match seqW (vw d S) with
    | some xs => mk xs S Q
    | none => False)
  rw [e]; exact q
theorem gTuple_i {xs : List D} (e : seqW (vw d S) = some xs) (q : Q (.tup xs) S) : gTuple [d] S Q := by
  show (match seqW (vw d S) with
    | some xs => Q (.tup xs) S
    | none => False)
  rw [e]; exact q
theorem gIsi_t {sub : Value → Value → Option Bool} {ex : Addr → Bool} {n : String} {t : String} {b : Bool} (e0 : excD x = none) (e : tyD (vw x S) = some (.type t)) (eb : kitB t n = some b) (q : Q (.bl b) S) : gIsi sub ex [x, .ty n] S Q := by
  show (match excD x with
    | some C => match clsD (.ty n) with
      | some u => ex C = true ∧ match sub (.ref C) u with
        | some b => Q (.bl b) S
        | none => False
      | none => False
    | none => match tyD (vw x S), clsD (.ty n) with
      | some t, some u => match isiV sub t u with
        | some b => Q (.bl b) S
        | none => False
      | _, _ => False)
  rw [e0, e]
  show (match kitB t n with
        | some b => Q (.bl b) S
        | none => False)
  rw [eb]
  exact q
theorem comp_map {α : Type} {K : List D → Store → Prop} (enc : α → D) (p : α → Bool) (out : α → D) : ∀ (xs : List α) (acc : List D),
    (∀ x ∈ xs, ∀ k : Bool → Store → Prop, k (p x) S → t (st ρ n (some (enc x))) S k (fun _ _ => False)) →
    (∀ x ∈ xs, p x = true → ∀ k : Post, k (out x) S → f (st ρ n (some (enc x))) S k (fun _ _ => False)) →
    acc.length + xs.length ≤ sizeLine → K (acc ++ (xs.filter p).map out) S → comp (dgName n) t f K (xs.map enc) acc ρ S
  | [], acc, _, _, _, q => by
    show K acc S
    simpa using q
  | x :: xs, acc, h1, h2, hl, q => by
    refine h1 x List.mem_cons_self _ ?_
    have ih := fun acc => comp_map (K := K) enc p out xs acc (fun y hy => h1 y (List.mem_cons_of_mem _ hy)) (fun y hy => h2 y (List.mem_cons_of_mem _ hy))
    by_cases e : p x = true
    · refine ite_t e (h2 x List.mem_cons_self e _ ⟨by simp only [List.length_cons] at hl; omega, ih _ (by simp only [List.length_append, List.length_cons, List.length_nil] at hl ⊢; omega) ?_⟩)
      rw [List.filter_cons_of_pos e] at q
      simpa using q
    · refine ite_f (by simpa using e) (ih _ (by simp only [List.length_cons] at hl; omega) ?_)
      rw [List.filter_cons_of_neg e] at q
      exact q
theorem comp_all {α : Type} {K : List D → Store → Prop} (enc : α → D) (out : α → D) (xs : List α)
    (h : ∀ x ∈ xs, ∀ k : Post, k (out x) S → f (st ρ n (some (enc x))) S k (fun _ _ => False))
    (hl : xs.length ≤ sizeLine) (q : K (xs.map out) S) : comp (dgName n) bYes f K (xs.map enc) [] ρ S :=
  comp_map enc (fun _ => true) out xs [] (fun _ _ _ q => q) (fun x hx _ k q => h x hx k q) (by simpa using hl) (by rw [List.filter_eq_self.mpr (fun _ _ => rfl)]; exact q)
theorem evComp_i {fi : EI} {vs : List Nat} (q : fi ρ S (fun ds S1 => comp gg t f (fun acc S2 => mk acc S2 Q) ds [] (wipeD ρ vs) S1) E) : evComp mk fi gg t f vs ρ S Q E := q
theorem dFor_i {fi : EI} (q : fi ρ S (fun ds S1 => loop gg g N ds ρ S1) (fun x S' => N.ex x ρ S')) : dFor fi gg g ρ S N := q
def onSeq (d : D) (k : List D → Prop) : Prop := match d with
  | .lst ds => k ds
  | .kls ds => k ds
  | .tup ds => k ds
  | _ => False
theorem onSeq_l {k : List D → Prop} (q : k ds) : onSeq (.lst ds) k := q
theorem onSeq_k {k : List D → Prop} (q : k ds) : onSeq (.kls ds) k := q
theorem onSeq_t {k : List D → Prop} (q : k ds) : onSeq (.tup ds) k := q
theorem iSeq_i (q : f ρ S (fun d S1 => onSeq d fun ds => QA ds S1) E) : iSeq f ρ S QA E := q
theorem iRange1_i (q : fa ρ S (fun ds S1 => match ds with
  | [.int j] => -(2 ^ 62) ≤ j ∧ j < 2 ^ 62 ∧ QA (rangeD 0 j.toNat) S1
  | _ => False) E) : iRange1 fa ρ S QA E := q
theorem loop_cons (q : gg d ρ S fun ρ1 S1 => g ρ1 S1 { N with nx := loop gg g N ds, ct := loop gg g N ds, bk := N.nx }) : loop gg g N (d :: ds) ρ S := q
theorem loop_nil (q : N.nx ρ S) : loop gg g N [] ρ S := q
theorem loop_ind (I : List D → Env → Store → Prop) (hstep : ∀ d r ρ S, (∀ ρ' S', I r ρ' S' → loop gg g N r ρ' S') → I (d :: r) ρ S → gg d ρ S fun ρ1 S1 => g ρ1 S1 { N with nx := loop gg g N r, ct := loop gg g N r, bk := N.nx })
    (hend : ∀ ρ S, I [] ρ S → N.nx ρ S) : ∀ ds ρ S, I ds ρ S → loop gg g N ds ρ S
  | [], ρ, S, h => hend ρ S h
  | d :: r, ρ, S, h => hstep d r ρ S (fun ρ' S' => loop_ind I hstep hend r ρ' S') h
/-! least and greatest of ints -/
def mn : List Int → Int
  | [] => 0
  | [a] => a
  | a :: b :: r => if mn (b :: r) < a then mn (b :: r) else a
def mx : List Int → Int
  | [] => 0
  | [a] => a
  | a :: b :: r => if a < mx (b :: r) then mx (b :: r) else a
theorem mn_spec : ∀ (ns : List Int), ns ≠ [] → mn ns ∈ ns ∧ ∀ y ∈ ns, mn ns ≤ y
  | [], h => absurd rfl h
  | [a], _ => ⟨by simp [mn], fun y hy => by simp only [List.mem_singleton] at hy; subst hy; exact Int.le_refl _⟩
  | a :: b :: r, _ => by
    obtain ⟨h1, h2⟩ := mn_spec (b :: r) (by simp)
    by_cases c : mn (b :: r) < a
    · have e : mn (a :: b :: r) = mn (b :: r) := by show (if _ then _ else _) = _; rw [if_pos c]
      rw [e]
      exact ⟨List.mem_cons_of_mem _ h1, fun y hy => (List.mem_cons.mp hy).elim (fun z => by omega) (h2 y)⟩
    · have e : mn (a :: b :: r) = a := by show (if _ then _ else _) = _; rw [if_neg c]
      rw [e]
      exact ⟨List.mem_cons_self, fun y hy => (List.mem_cons.mp hy).elim (fun z => by omega) fun z => by have := h2 y z; omega⟩
theorem mx_spec : ∀ (ns : List Int), ns ≠ [] → mx ns ∈ ns ∧ ∀ y ∈ ns, y ≤ mx ns
  | [], h => absurd rfl h
  | [a], _ => ⟨by simp [mx], fun y hy => by simp only [List.mem_singleton] at hy; subst hy; exact Int.le_refl _⟩
  | a :: b :: r, _ => by
    obtain ⟨h1, h2⟩ := mx_spec (b :: r) (by simp)
    by_cases c : a < mx (b :: r)
    · have e : mx (a :: b :: r) = mx (b :: r) := by show (if _ then _ else _) = _; rw [if_pos c]
      rw [e]
      exact ⟨List.mem_cons_of_mem _ h1, fun y hy => (List.mem_cons.mp hy).elim (fun z => by omega) (h2 y)⟩
    · have e : mx (a :: b :: r) = a := by show (if _ then _ else _) = _; rw [if_neg c]
      rw [e]
      exact ⟨List.mem_cons_self, fun y hy => (List.mem_cons.mp hy).elim (fun z => by omega) fun z => by have := h2 y z; omega⟩
theorem ints_map : ∀ ns : List Int, ints? (ns.map D.int) = some ns
  | [] => rfl
  | n :: r => by
    show (ints? (r.map D.int)).map (n :: ·) = _
    rw [ints_map r]
    rfl
theorem bls_map : ∀ ns : List Bool, bls? (ns.map D.bl) = some ns
  | [] => rfl
  | n :: r => by
    show (bls? (r.map D.bl)).map (n :: ·) = _
    rw [bls_map r]
    rfl
theorem gExt_l {better : Int → Int → Bool} {ns : List Int} (m : Int) (e : vw d S = .lst (ns.map D.int)) (h : ns ≠ []) (u : ∀ k, k ∈ ns → (∀ y, y ∈ ns → better y k = false) → k = m) (q : Q (.int m) S) : gExt better [d] S Q := by
  have z : (match vw d S with
    | .lst xs => match ints? xs with
      | some ns => 0 < ns.length ∧ ∀ m, m ∈ ns → (∀ y, y ∈ ns → better y m = false) → Q (.int m) S
      | none => False
    | _ => False : Prop) := by
    rw [e]
    show (match ints? (ns.map D.int) with
      | some ns => 0 < ns.length ∧ ∀ m, m ∈ ns → (∀ y, y ∈ ns → better y m = false) → Q (.int m) S
      | none => False)
    rw [ints_map]
    exact ⟨List.length_pos_iff.mpr h, fun k hk hb => by rw [u k hk hb]; exact q⟩
  clear e
  cases d <;> exact z
theorem gMin_l {ns : List Int} (e : vw d S = .lst (ns.map D.int)) (h : ns ≠ []) (q : Q (.int (mn ns)) S) : gMin [d] S Q :=
  gExt_l (mn ns) e h (fun k hk hb => by
    have h1 := mn_spec ns h
    have h2 := of_decide_eq_false (hb _ h1.1)
    have h3 := h1.2 k hk
    omega) q
theorem gMax_l {ns : List Int} (e : vw d S = .lst (ns.map D.int)) (h : ns ≠ []) (q : Q (.int (mx ns)) S) : gMax [d] S Q :=
  gExt_l (mx ns) e h (fun k hk hb => by
    have h1 := mx_spec ns h
    have h2 := of_decide_eq_false (hb _ h1.1)
    have h3 := h1.2 k hk
    omega) q
theorem gBls_l {ff : List Bool → Bool} {bs : List Bool} (e : vw d S = .lst (bs.map D.bl)) (q : Q (.bl (ff bs)) S) : gBls ff [d] S Q := by
  show (match vw d S with
    | .lst xs => match bls? xs with
      | some bs => Q (.bl (ff bs)) S
      | none => False
    | _ => False : Prop)
  rw [e]
  show (match bls? (bs.map D.bl) with
      | some bs => Q (.bl (ff bs)) S
      | none => False : Prop)
  rw [bls_map]
  exact q
theorem gAny_l {bs : List Bool} (e : vw d S = .lst (bs.map D.bl)) (q : Q (.bl (bs.any id)) S) : gAny [d] S Q := gBls_l e q
theorem gAll_l {bs : List Bool} (e : vw d S = .lst (bs.map D.bl)) (q : Q (.bl (bs.all id)) S) : gAll [d] S Q := gBls_l e q
theorem gIn_bls {b : Bool} {bs : List Bool} (q : Q (.bl (bs.any fun c => c == b)) S) : gIn false (.bl b) (.lst (bs.map D.bl)) S Q := by
  refine ⟨rfl, ?_, ?_⟩
  · rw [List.all_map]; exact List.all_eq_true.mpr fun _ _ => rfl
  · have e : inD (.bl b) (bs.map D.bl) = bs.any fun c => c == b := by
      unfold inD
      rw [List.any_map]
      rfl
    show Q (.bl (if false = true then _ else inD (.bl b) (bs.map D.bl))) S
    rw [if_neg (by decide), e]
    exact q
/-! a list against the empty one -/
theorem toPys_map {α : Type} (enc : α → D) (pe : α → PyData) (h : ∀ x, toPy (enc x) = some (pe x)) : ∀ xs : List α, toPys (xs.map enc) = some (xs.map pe)
  | [] => rfl
  | x :: r => by
    show (toPy (enc x)).bind (fun p => (toPys (r.map enc)).map fun ps => p :: ps) = _
    rw [h, toPys_map enc pe h r]
    rfl
theorem lay_map {α : Type} (pe : α → PyData) (h : ∀ x, (pe x).canLay0 = true) : ∀ xs : List α, PyData.canLayAll0 (xs.map pe) = true
  | [] => (by simp [PyData.canLayAll0])
  | x :: r => by simp [PyData.canLayAll0, h x, lay_map pe h r]
theorem depth_map {α : Type} (pe : α → PyData) (h : ∀ x, (pe x).depth ≤ 8) : ∀ xs : List α, PyData.depthAll (xs.map pe) ≤ 8
  | [] => (by simp [PyData.depthAll])
  | x :: r => by
    have h1 := h x
    have h2 := depth_map pe h r
    simp only [PyData.depthAll, List.map_cons]
    omega
theorem eq_nil {α : Type} {f : Bool → Bool} (enc : α → D) (pe : α → PyData) (h : ∀ x, toPy (enc x) = some (pe x) ∧ (pe x).canLay0 = true ∧ (pe x).depth ≤ 8) {xs : List α} (e : vw d S = .lst (xs.map enc)) (hd : ∀ z, d ≠ .str z) (q : Q (.bl (f xs.isEmpty)) S) : eqG f d (.lst []) S Q := by
  unfold eqG
  split
  · rename_i a b e1 e2; cases e2
  · rw [e]
    have e1 : toPy (.lst (xs.map enc)) = some (.list (xs.map pe)) := by
      show (toPys (xs.map enc)).map PyData.list = _
      rw [toPys_map enc pe (fun x => (h x).1) xs]
      rfl
    rw [e1]
    refine ⟨?_, rfl, ?_⟩
    · show (PyData.canLay0 (.list (xs.map pe)) && decide (PyData.depth (.list (xs.map pe)) ≤ 64)) = true
      have hd := depth_map pe (fun x => (h x).2.2) xs
      rw [Bool.and_eq_true]
      exact ⟨by simp only [PyData.canLay0]; exact lay_map pe (fun x => (h x).2.1) xs, decide_eq_true (by simp only [PyData.depth]; omega)⟩
    · cases xs with
      | nil => exact q
      | cons x r => exact q
theorem int_lay (x : Int) : toPy (.int x) = some (.int x) ∧ (PyData.int x).canLay0 = true ∧ (PyData.int x).depth ≤ 8 := ⟨rfl, rfl, by simp [PyData.depth]⟩
/-! dicts of the store -/
theorem gIx_box {a : Addr} {ks : List Key} {k : Key} (h : S a = some (.dct ks ds)) (hk : keyD y = some k) (e : dlook ks ds k = some d) (q : Q d S) : gIx (.ref a) y S Q := by
  have hv : vw (.ref a) S = .dct ks ds := by unfold vw; simp only [h]
  unfold gIx
  rw [hv]
  simp only [hk, e]
  exact q
theorem setD_box {a : Addr} {ks ks' : List Key} {ds' : List D} {k : Key} {QS : Store → Prop} (h : S a = some (.dct ks ds)) (hk : keyD y = some k) (hl : ks.length < sizeLine) (e1 : putKs ks k = ks') (e2 : putVs ks ds k d = ds') (q : QS (S.set a (.dct ks' ds'))) : setD (.ref a) y d S QS := by
  unfold setD
  simp only [h, hk]
  exact ⟨hl, by rw [e1, e2]; exact q⟩
theorem vw_l {a : Addr} (h : S a = some (.lst ds)) : vw (.ref a) S = .lst ds := by unfold vw; simp only [h]
end MP

set_option Elab.async false
set_option linter.all false
set_option maxRecDepth 100000
set_option maxHeartbeats 2100000
/-! MPText: texts, slices, tuples joined, dicts asked. -/
namespace MP
open PySem PySem.Spec PyProof.Rows L2 MP
/-! ### the signs of a text -/
def signs (x : Str) : List D := x.cps.toList.map fun c => .str ⟨#[c]⟩
def onStr (d : D) (k : Str → Prop) : Prop := match d with
  | .str x => k x
  | _ => False
def iChars (f : ET) : EI := fun ρ S Q E => f ρ S (fun d S1 => onStr d fun x => Q (signs x) S1) E
theorem yields_str {K : PySem.W.Frag} {H : Hp} (x : Str) : Yields K (Its x) (signs x) H where
  go := fun i H' hi _ => by
    show i < x.cps.size
    simpa [signs] using hi
  stop := fun H' _ => by
    show x.cps.size ≤ (signs x).length
    simp [signs]
  yld := fun i H' v H2 d ed _ ⟨e, c, hc, hv⟩ => by
    subst e hv
    refine ⟨.inl rfl, ?_⟩
    have e2 : (signs x)[i]? = some (.str ⟨#[c]⟩) := by
      unfold signs
      rw [List.getElem?_map, Array.getElem?_toList, hc]
      rfl
    rw [e2] at ed
    cases ed
    rfl
theorem i_chars {X : Cx} {W : WX} {tg l : Expr} {f : ET} (hl : PE X l (rdE X.K W f)) : PI X tg l (rdI X.K W (iChars f)) :=
  PI_imp (pi_str hl) fun σ H R ⟨ρ, S, Qd, Ed, hρ, hS, hf, y, lx⟩ => by
    refine ⟨ρ, S, _, Ed, hρ, hS, hf, fun d S1 v H1 e1 r1 q1 h1 => ?_, lx⟩
    cases d with
    | str x => exact ⟨x, q1, y (signs x) S1 _ H1 e1 r1 (yields_str x) h1⟩
    | _ => exact h1.elim
theorem iChars_i {f : ET} {ρ : MP.Env} {S : Store} {Q : List D → Store → Prop} {E : XPost} (q : f ρ S (fun d S1 => onStr d fun x => Q (signs x) S1) E) : iChars f ρ S Q E := q
theorem onStr_i {x : Str} {k : Str → Prop} (q : k x) : onStr (.str x) k := q

/-! ### slices -/
abbrev EO := MP.Env → Store → (Option Int → Store → Prop) → XPost → Prop
def rdO (K : PySem.W.Frag) (W : WX) (f : EO) : TO := fun σ H Q => ∃ ρ S Qd Ed, EnvR K H ρ σ ∧ SRel K S H ∧ f ρ S Qd Ed ∧ (∀ o S' H', Evo S H S' H' → SRel K S' H' → Qd o S' → Q o H') ∧ LX K S H Ed (fun c dd H' => W c dd σ H')
def onInt (d : D) (k : Int → Prop) : Prop := match d with
  | .int i => k i
  | _ => False
theorem onInt_i {i : Int} {k : Int → Prop} (q : k i) : onInt (.int i) k := q
def oNo : EO := fun _ S Q _ => Q none S
def oPart (f : ET) : EO := fun ρ S Q E => f ρ S (fun d S1 => onInt d fun i => Q (some i) S1) E
theorem PO_imp {X : Cx} {e : Option Expr} {t t' : TO} (h : PO X e t) (i : ∀ σ H Q, t' σ H Q → t σ H Q) : PO X e t' := ⟨fun pins s σ H Q I q => h.run pins s σ H Q I (i σ H Q q)⟩
theorem o_none {X : Cx} {W : WX} : PO X none (rdO X.K W oNo) := PO_imp po_none fun σ H Q ⟨ρ, S, Qd, Ed, hρ, hS, hf, l, _⟩ => l none S H (Evo.refl _ _) hS hf
theorem o_some {X : Cx} {W : WX} {e : Expr} {f : ET} (h : PE X e (rdE X.K W f)) : PO X (some e) (rdO X.K W (oPart f)) :=
  PO_imp (po_some h) fun σ H Q ⟨ρ, S, Qd, Ed, hρ, hS, hf, l, lx⟩ => by
    refine ⟨ρ, S, _, Ed, hρ, hS, hf, fun d S1 v H1 e1 r1 q1 h1 => ?_, lx⟩
    cases d with
    | int i => exact ⟨i, q1, l (some i) S1 H1 e1 r1 h1⟩
    | _ => exact h1.elim
def cutL {α : Type} (xs : List α) (lo hi : Option Int) : List α := (xs.drop (HT.sIx xs.length 0 lo)).take (HT.sIx xs.length xs.length hi - HT.sIx xs.length 0 lo)
theorem Rels.cut {K : PySem.W.Frag} {H : Hp} {ds : List D} {vs : List V} (lo hi : Option Int) (r : Rels K H ds vs) : Rels K H (cutL ds lo hi) (cutV vs lo hi) := by
  unfold cutL cutV
  rw [r.length]
  exact Rels.take _ (Rels.drop _ r)
abbrev GS := D → Option Int → Option Int → Store → Post → Prop
def SlD (K : PySem.W.Frag) (r : V → Option Int → Option Int → Hp → VK → Prop) (g : GS) : Prop := ∀ x lo hi S H dx Qd Q, SRel K S H → Rel K H dx x → g dx lo hi S Qd → LQ K S H Qd Q → r x lo hi H (FzQ Q)
def rSlAll (K : PySem.W.Frag) : V → Option Int → Option Int → Hp → VK → Prop := fun x lo hi H Q => rSlA K x lo hi H Q ∨ rSlS x lo hi H Q ∨ rSlL K x lo hi H Q
theorem sl_all {X : Cx} : SlR X (rSlAll X.K) := SlR.or sl_tupA (SlR.or sl_str sl_list)
def gSl (mk : MkT) : GS := fun x lo hi S Q => match vw x S with
  | .tup xs => Q (.tup (cutL xs lo hi)) S
  | .str z => z.length ≤ sizeLine ∧ Q (.str (cutS z lo hi)) S
  | .lst xs => mk (cutL xs lo hi) S Q
  | _ => False
def evSl (g : GS) (f : ET) (fl fu : EO) : ET := fun ρ S Q E => f ρ S (fun d S1 => fl ρ S1 (fun lo S2 => fu ρ S2 (fun hi S3 => g d lo hi S3 Q) E) E) E
theorem cut_whole {α : Type} {xs : List α} {lo hi : Option Int} (h : HT.sIx xs.length 0 lo = 0 ∧ HT.sIx xs.length xs.length hi = xs.length) : cutL xs lo hi = xs := by
  unfold cutL
  rw [h.1, h.2]
  simp
theorem cutV_whole {xs : List V} {lo hi : Option Int} (h : HT.sIx xs.length 0 lo = 0 ∧ HT.sIx xs.length xs.length hi = xs.length) : cutV xs lo hi = xs := by
  unfold cutV
  rw [h.1, h.2]
  simp
theorem d_sl {K : PySem.W.Frag} {mk : MkT} (hm : MkOk K mk) : SlD K (rSlAll K) (gSl mk) := by
  intro x lo hi S H dx Qd Q hS rx h l
  unfold gSl at h
  split at h
  · rename_i xs e
    obtain ⟨a, vs, rfl, ht, rs⟩ := vw_tup hS rx e
    refine .inl ⟨a, vs, rfl, ht, fun w => ?_, fun w p hp => .inl (new_tup hS hp (Rels.cut lo hi rs) h l)⟩
    have rc := Rels.cut lo hi rs
    rw [cutV_whole w] at rc
    exact l.fz hS (d := .tup (cutL xs lo hi)) ⟨a, vs, rfl, ht, rc⟩ h
  · rename_i z e
    exact .inr (.inl ⟨z, vw_str hS rx e, h.1, l.fz hS (d := .str _) rfl h.2⟩)
  · rename_i xs e
    obtain ⟨a, vs, rfl, ht, rs⟩ := vw_lst hS rx e
    exact .inr (.inr ⟨a, vs, rfl, .inl ht, fun p hp => hm _ _ _ _ _ _ _ hS hp (Rels.cut lo hi rs) h l⟩)
  · exact h.elim
section
variable {X : Cx} {W : WX} {e : Expr} {lo hi : Option Expr} {f : ET} {fl fu : EO} {g : GS} {r : V → Option Int → Option Int → Hp → VK → Prop} {pos p2 : Pos}
theorem e_sl (hr : SlR X r) (hg : SlD X.K r g) (he : PE X e (rdE X.K W f)) (hl : PO X lo (rdO X.K W fl)) (hu : PO X hi (rdO X.K W fu)) : PE X (.Subscript e (.Slice lo hi none p2) pos) (rdE X.K W (evSl g f fl fu)) :=
  PE_imp (pe_fz (pe_slice hr he hl hu)) fun σ H Q ⟨ρ, S, Qd, Ed, hρ, hS, hf, lq, lx⟩ => by
    refine ⟨ρ, S, _, Ed, hρ, hS, hf, fun d S1 v H1 e1 r1 q1 h1 => ?_, lx⟩
    refine ⟨ρ, S1, _, Ed, hρ.imm (e1.imm hS), r1, h1, fun o S2 H2 e2 r2 h2 => ?_, lx.mono e1⟩
    refine ⟨ρ, S2, _, Ed, (hρ.imm (e1.imm hS)).imm (e2.imm r1), r2, h2, fun o2 S3 H3 e3 r3 h3 => ?_, (lx.mono e1).mono e2⟩
    exact hg _ _ _ _ _ _ _ _ r3 (Rel.imm (e3.imm r2) _ _ (Rel.imm (e2.imm r1) _ _ q1)) h3 (((lq.mono e1).mono e2).mono e3)
end
section
variable {ρ : MP.Env} {S : Store} {Q : Post} {E : XPost} {f : ET} {fl fu : EO} {g : GS} {mk : MkT} {lo hi : Option Int} {QO : Option Int → Store → Prop}
theorem evSl_i (q : f ρ S (fun d S1 => fl ρ S1 (fun lo S2 => fu ρ S2 (fun hi S3 => g d lo hi S3 Q) E) E) E) : evSl g f fl fu ρ S Q E := q
theorem oNo_i (q : QO none S) : oNo ρ S QO E := q
theorem oPart_i (q : f ρ S (fun d S1 => onInt d fun i => QO (some i) S1) E) : oPart f ρ S QO E := q
theorem gSl_t {xs : List D} (q : Q (.tup (cutL xs lo hi)) S) : gSl mk (.tup xs) lo hi S Q := q
theorem gSl_s {z : Str} (e : z.length ≤ sizeLine) (q : Q (.str (cutS z lo hi)) S) : gSl mk (.str z) lo hi S Q := ⟨e, q⟩
theorem gSl_l {xs : List D} (q : mk (cutL xs lo hi) S Q) : gSl mk (.lst xs) lo hi S Q := q
end

/-! ### tuples joined, any -/
def rAddT (K : PySem.W.Frag) : R2 := fun x y H Q => rAddAll K x y H Q ∨ rCatA K x y H Q
theorem op_addT {X : Cx} : OpR X (binaryOp .Add) (rAddT X.K) := OpR.or op_addAll op_catA
def gAddT (mk : MkT) : G2 := fun x y S Q => match vw x S, vw y S with
  | .tup i, .tup j => i.length + j.length ≤ sizeLine ∧ Q (.tup (i ++ j)) S
  | _, _ => gAdd mk x y S Q
theorem d_addT {K : PySem.W.Frag} {mk : MkT} (hm : MkOk K mk) : OpD K (rAddT K) (gAddT mk) := by
  intro x y S H dx dy Qd Q hS rx ry h l
  unfold gAddT at h
  split at h
  · rename_i i j e1 e2
    obtain ⟨a, xs, rfl, ha, rs⟩ := vw_tup hS rx e1
    obtain ⟨b, ys, rfl, hb, rt⟩ := vw_tup hS ry e2
    have ra := Rels.append rs rt
    refine .inr ⟨a, b, xs, ys, rfl, rfl, ha, hb, by rw [← rs.length, ← rt.length]; exact h.1, fun z => ?_, fun _ z => ?_, fun _ _ p hp => .inl (new_tup hS hp ra h.2 l)⟩
    · subst z
      exact l.fz hS (d := .tup (i ++ j)) ⟨b, ys, rfl, hb, ra⟩ h.2
    · subst z
      rw [List.append_nil] at ra
      exact l.fz hS (d := .tup (i ++ j)) ⟨a, xs, rfl, ha, ra⟩ h.2
  · exact .inl (d_add hm x y S H dx dy Qd Q hS rx ry h l)
theorem gAddT_t {mk : MkT} {S : Store} {Q : Post} {xs ys : List D} (e : xs.length + ys.length ≤ sizeLine) (q : Q (.tup (xs ++ ys)) S) : gAddT mk (.tup xs) (.tup ys) S Q := ⟨e, q⟩

/-! ### a text some times -/
def repS (x : Str) (n : Int) : Str := if n < 1 then Str.empty else if (n == 1 || x.length == 0) = true then x else ⟨(List.replicate n.toNat x.cps).foldl (· ++ ·) #[]⟩
def rRepS : R2 := fun x y H Q => ∃ (z : Str) (n : Int), x = .str z ∧ y = .int n ∧ z.length ≤ 1000 ∧ -1000 ≤ n ∧ n ≤ 1000 ∧ (repS z n).length ≤ sizeLine ∧ Q (.str (repS z n)) H
theorem op_repS {X : Cx} : OpR X (binaryOp .Mult) rRepS := by
  intro pnl s σ H x y v u Q I rx ry h
  obtain ⟨z, n, rfl, rfl, hz, n0, n1, hl, q⟩ := h
  obtain ⟨t, rfl⟩ := rx
  obtain ⟨t', rfl⟩ := ry
  have big : (z.length * n.toNat : Nat) ≤ 1000000 := by
    have h1 : n.toNat ≤ 1000 := by omega
    exact Nat.le_trans (Nat.mul_le_mul hz h1) (by decide)
  refine P.mul_str ?_ ?_ ?_ ?_
  · rw [decide_eq_false (by omega : ¬ n < -(2 ^ 63 : Int)), decide_eq_false (by omega : ¬ n ≥ 2 ^ 63)]
    rfl
  · intro h1 _ h3
    have h4 : (1000 : Int) ≤ (2 ^ 63 - 1) / n := by
      rw [Int.le_ediv_iff_mul_le (by omega)]
      omega
    omega
  · intro h1 _
    show decide (z.length * n.toNat > sizeLine) = false
    exact decide_eq_false (by show ¬ z.length * n.toNat > 2 ^ 24; omega)
  · unfold repS at hl q
    split
    · rename_i c
      rw [if_pos c] at hl q
      exact ⟨hl, .str Str.empty, H, I.tok _, ⟨_, rfl⟩, q⟩
    · rename_i c
      rw [if_neg c] at hl q
      split
      · rename_i c2
        rw [if_pos c2] at hl q
        exact ⟨.str z, H, I.tok _, ⟨_, rfl⟩, q⟩
      · rename_i c2
        rw [if_neg c2] at hl q
        exact And.intro hl ⟨.str _, H, I.tok _, ⟨_, rfl⟩, q⟩
def rMulA : R2 := fun x y H Q => (∃ i j, x = .int i ∧ y = .int j ∧ CMul i j ∧ Q (.int (i * j)) H) ∨ rRepS x y H Q
theorem op_mulA {X : Cx} : OpR X (binaryOp .Mult) rMulA := OpR.or op_mul op_repS
def gMulA : G2 := fun x y S Q => match x, y with
  | .int i, .int j => CMul i j ∧ Q (.int (i * j)) S
  | .str z, .int n => z.length ≤ 1000 ∧ -1000 ≤ n ∧ n ≤ 1000 ∧ (repS z n).length ≤ sizeLine ∧ Q (.str (repS z n)) S
  | _, _ => False
theorem d_mulA {K : PySem.W.Frag} : OpD K rMulA gMulA := by
  intro x y S H dx dy Qd Q hS rx ry h l
  unfold gMulA at h
  split at h
  · exact .inl ⟨_, _, rx, ry, h.1, l.fz hS (d := .int _) rfl h.2⟩
  · exact .inr ⟨_, _, rx, ry, h.1, h.2.1, h.2.2.1, h.2.2.2.1, l.fz hS (d := .str _) rfl h.2.2.2.2⟩
  · exact h.elim

/-! ### dicts asked -/
def rInDct (neg : Bool) : R2 := fun x y H Q => ∃ a o, y = .ref a ∧ DGet H a x o ∧ Q (.bl (if neg then !o.isSome else o.isSome)) H
theorem op_inDct {X : Cx} (hu : X.A.units + 1 < cLine) : OpR X (compareOp .In) (rInDct false) := by
  intro pins s σ H x y v u Q I rx ry ⟨a, o, ey, g, q⟩
  subst ey
  cases ry
  exact L2.d_in hu I g rx fun s' J => ⟨.bl o.isSome, H, J, rfl, q⟩
theorem op_notInDct {X : Cx} (hu : X.A.units + 1 < cLine) : OpR X (compareOp .NotIn) (rInDct true) := by
  intro pins s σ H x y v u Q I rx ry ⟨a, o, ey, g, q⟩
  subst ey
  cases ry
  exact L2.d_notIn hu I g rx fun s' J => ⟨.bl (!o.isSome), H, J, rfl, q⟩
def rInB (K : PySem.W.Frag) (neg : Bool) : R2 := fun x y H Q => rInA K neg x y H Q ∨ rInDct neg x y H Q
theorem op_inB {X : Cx} (hu : X.A.units + 1 < cLine) : OpR X (compareOp .In) (rInB X.K false) := OpR.or op_inA (op_inDct hu)
theorem op_notInB {X : Cx} (hu : X.A.units + 1 < cLine) : OpR X (compareOp .NotIn) (rInB X.K true) := OpR.or op_notInA (op_notInDct hu)
theorem dget_rel {K : PySem.W.Frag} {S : Store} {H : Hp} {d x : D} {v y : V} {ks : List Key} {ds : List D} {k : Key} (hS : SRel K S H) (rd : Rel K H d v) (rx : Rel K H x y) (e : vw d S = .dct ks ds) (hk : keyD x = some k) :
    ∃ a o, v = .ref a ∧ DGet H a y o ∧ ((dlook ks ds k = none ∧ o = none) ∨ ∃ d' v', dlook ks ds k = some d' ∧ o = some v' ∧ Rel K H d' v') := by
  obtain ⟨a, xs, rfl, hr, hl, rs⟩ := vw_dct hS rd e
  have ey := keyD_rel rx hk
  subst ey
  refine ⟨a, valV (ks.zip xs) k, rfl, .inl ⟨_, k, hr, rfl, rfl⟩, ?_⟩
  rcases dlook_rel k rs hl with ⟨h1, h2⟩ | ⟨d', v', h1, h2, h3⟩
  · exact .inl ⟨h1, h2⟩
  · exact .inr ⟨d', v', h1, h2, h3⟩
def gInB (neg : Bool) : G2 := fun x y S Q => match vw y S with
  | .dct ks ds => match keyD x with
    | some k => Q (.bl (if neg then !(dlook ks ds k).isSome else (dlook ks ds k).isSome)) S
    | none => False
  | _ => gIn neg x y S Q
theorem d_inB {K : PySem.W.Frag} {neg : Bool} : OpD K (rInB K neg) (gInB neg) := by
  intro x y S H dx dy Qd Q hS rx ry h l
  unfold gInB at h
  split at h
  · rename_i ks ds e
    split at h
    · rename_i k hk
      obtain ⟨a, o, ea, g, c⟩ := dget_rel hS ry rx e hk
      refine .inr ⟨a, o, ea, g, ?_⟩
      have eo : (dlook ks ds k).isSome = o.isSome := by
        rcases c with ⟨h1, h2⟩ | ⟨_, _, h1, h2, _⟩
        · rw [h1, h2]; rfl
        · rw [h1, h2]; rfl
      rw [eo] at h
      exact l.fz hS (d := .bl _) rfl h
    · exact h.elim
  · exact .inl (d_in x y S H dx dy Qd Q hS rx ry h l)
def isDct (d : D) : Prop := match d with
  | .dct _ _ => True
  | _ => False
def gGet (d y z : D) (S : Store) (Q : Post) : Prop := match vw d S with
  | .dct ks ds => match keyD y with
    | some k => Q ((dlook ks ds k).getD z) S
    | none => False
  | _ => False
def evGet2 (f fy fz : ET) : ET := fun ρ S Q E => f ρ S (fun d S1 => isDct (vw d S1) ∧ fy ρ S1 (fun y S2 => fz ρ S2 (fun z S3 => gGet d y z S3 Q) E) E) E
theorem isDct_rel {K : PySem.W.Frag} {S : Store} {H : Hp} {d : D} {v : V} (hS : SRel K S H) (r : Rel K H d v) (h : isDct (vw d S)) : ∃ a, v = .ref a ∧ IsD H a := by
  cases e : vw d S with
  | dct ks ds =>
    obtain ⟨a, xs, ea, hr, _⟩ := vw_dct hS r e
    exact ⟨a, ea, .inl ⟨_, hr⟩⟩
  | _ => rw [e] at h; exact h.elim
section
variable {X : Cx} {W : WX} {o a b : Expr} {f fy fz : ET} {apos cpos : Pos}
theorem e_get2 (hu : X.A.units + 1 < cLine) (ho : PE X o (rdE X.K W f)) (hy : PE X a (rdE X.K W fy)) (hz : PE X b (rdE X.K W fz)) (m : M2 X o "get" apos a b cpos) : PE X (.Call (.Attribute o "get" apos) [a, b] [] cpos) (rdE X.K W (evGet2 f fy fz)) :=
  PE_imp (pe_dget2 hu ho hy hz m) fun σ H Q ⟨ρ, S, Qd, Ed, hρ, hS, hf, lq, lx⟩ => by
    refine ⟨ρ, S, _, Ed, hρ, hS, hf, fun d S1 v H1 e1 r1 q1 h1 => ?_, lx⟩
    obtain ⟨p, ep, isd⟩ := isDct_rel r1 q1 h1.1
    refine ⟨p, ep, isd, ρ, S1, _, Ed, hρ.imm (e1.imm hS), r1, h1.2, fun y S2 vy H2 e2 r2 q2 h2 => ?_, lx.mono e1⟩
    refine ⟨ρ, S2, _, Ed, (hρ.imm (e1.imm hS)).imm (e2.imm r1), r2, h2, fun z S3 vz H3 e3 r3 q3 h3 => ?_, (lx.mono e1).mono e2⟩
    replace h3 : gGet d y z S3 Qd := h3
    unfold gGet at h3
    cases e : vw d S3 with
    | dct ks ds =>
      rw [e] at h3
      cases hk : keyD y with
      | none => rw [hk] at h3; exact h3.elim
      | some k =>
        rw [hk] at h3
        have h4 : Qd ((dlook ks ds k).getD z) S3 := h3
        have rd := Rel.imm (e3.imm r2) _ _ (Rel.imm (e2.imm r1) _ _ q1)
        obtain ⟨p', o, ep', g, c⟩ := dget_rel r3 rd (Rel.imm (e3.imm r2) _ _ q2) e hk
        rw [ep] at ep'
        cases ep'
        refine ⟨o, g, ?_⟩
        have l3 := ((lq.mono e1).mono e2).mono e3
        rcases c with ⟨c1, c2⟩ | ⟨d', v', c1, c2, c3⟩
        · rw [c1] at h4
          rw [c2]
          exact l3.here r3 q3 h4
        · rw [c1] at h4
          rw [c2]
          exact l3.here r3 c3 h4
    | _ => rw [e] at h3; exact h3.elim
end
theorem evGet2_i {f fy fz : ET} {ρ : MP.Env} {S : Store} {Q : Post} {E : XPost} (q : f ρ S (fun d S1 => isDct (vw d S1) ∧ fy ρ S1 (fun y S2 => fz ρ S2 (fun z S3 => gGet d y z S3 Q) E) E) E) : evGet2 f fy fz ρ S Q E := q

/-! ### deep «in» -/
def rInC (K : PySem.W.Frag) (neg : Bool) : R2 := fun x y H Q => rInB K neg x y H Q ∨ ∃ d ds, Dp K H x d ∧ Dp K H y (.list ds) ∧ SeqAt.shaped d = true ∧ SeqAt.shaped (.list ds) = true ∧ Q (.bl (if neg then !(ds.any fun z => PyData.eqv z d) else (ds.any fun z => PyData.eqv z d))) H
theorem op_inC {X : Cx} (hu : X.A.units + 65 < cLine) : OpR X (compareOp .In) (rInC X.K false) := OpR.or (op_inB (by omega)) (op_inD hu)
theorem op_notInC {X : Cx} (hu : X.A.units + 65 < cLine) : OpR X (compareOp .NotIn) (rInC X.K true) := OpR.or (op_notInB (by omega)) (op_notInD hu)
def gInC (neg : Bool) : G2 := fun x y S Q => gInB neg x y S Q ∨ match toPy (vw x S), toPy (vw y S) with
  | some d, some (.list ds) => SeqAt.shaped d = true ∧ SeqAt.shaped (.list ds) = true ∧ Q (.bl (if neg then !(ds.any fun z => PyData.eqv z d) else (ds.any fun z => PyData.eqv z d))) S
  | _, _ => False
theorem d_inC {K : PySem.W.Frag} {neg : Bool} : OpD K (rInC K neg) (gInC neg) := by
  intro x y S H dx dy Qd Q hS rx ry h l
  rcases h with h | h
  · exact .inl (d_inB x y S H dx dy Qd Q hS rx ry h l)
  · split at h
    · rename_i d ds h1 h2
      exact .inr ⟨d, ds, toPy_vw hS rx h1, toPy_vw hS ry h2, h.1, h.2.1, l.fz hS (d := .bl _) rfl h.2.2⟩
    · exact h.elim
end MP

set_option Elab.async false
set_option linter.all false
set_option maxRecDepth 100000
set_option maxHeartbeats 2100000
/-! MPGuard: the law's def is run by the caller alone, so nothing is being shown there; repr of data. -/
namespace MP
open PySem PySem.Spec PyProof.Rows L2 MP
section
variable {P : Program} {w : World} {K : PySem.W.Frag} {mg : Str → Option Value}
/-- a def's promise where it is called with nothing being shown -/
def Quiet (P : Program) (w : World) (K : PySem.W.Frag) (mg : Str → Option Value) (base : Heap) (CX : CXT) (k : Nat) (f : Addr) (fd : FuncData) (ps : List Str) (sp : L2.Sp) : Prop :=
  ∀ (A : Around), A.guards = some [] → ∀ (outer : List PySem.Env) (s : Shared) (H : Hp) (args : Args) (us : List Value) (vs : List V) (Q : VK) (E : XK), Room k A → Env0 P w K mg base A outer s H → BindsTo s fd args (ps.zip us) → Vals vs us → sp vs H Q E →
    codeAny (model P w) A (.call (.ref f) args) ((CR CX outer P w H s) Q E) s
theorem deeper_guards (A : Around) (env : PySem.Env) : (A.deeper env).guards = A.guards := by
  first | rfl | (unfold Around.deeper; rfl)
theorem quiet_of {x qual : Str} {st : Stmt} {f : Addr} {fd : FuncData} {N ps : List Str} {k : Nat} {g : ST} {base : Heap} (F : Fun K x qual st f fd) (Sc : FnScope N ps (defScope st))
    (hb : ∀ (cdv : Value) (A : Around) (outer : List PySem.Env) (s : Shared) (H : Hp) (E : XK), A.guards = some [] → Room k (A.deeper (envOfC qual (defScope st) s.heap.objs.size f cdv)) →
      PSs (cxOf (L2.CX P w) P w K mg base N qual (defScope st) f cdv A outer s H E) (defBody st) (rdS K (Wd E) g)) : Quiet P w K mg base (L2.CX P w) (k + 1) f fd ps (spM K ps.length (runF N.length g)) := by
  have ⟨oc, od, kV, doc, pm, an, cdv, ct, osl, ed, lk, hcd⟩ := F.ex
  subst ed
  intro A hg outer s H args us vs Q E hr e0 bd rv ⟨ds, S, Qd, Ed, rds, hS, hl, hf, lq, lx⟩
  have kin : K.In s.heap := e0.mod.kin.keeps fun b o e => (e0.bs b o e).1
  have slots : ∀ y ∈ ps.zip us, (defScope st).names.lookup y.1 = some .local ∨ ((defScope st).names.lookup y.1 = some .cell ∧ ((cellsFrom (s.heap.objs.size + 1) (defScope st).names []).lookup y.1).isSome = true) := by
    rintro ⟨n, v⟩ hy
    exact (Sc.par n (List.of_mem_zip hy).1).imp id fun q => ⟨q, PySem.W.cellsFrom_some _ _ _ (.inl q)⟩
  apply codeAny_call_function hr.depth (kin _ _ lk) rfl Sc.co Sc.gen rfl (PySem.W.codeRec_of kin hcd) (bd _ _ _ _ ?_)
  apply wpAny_newFunctionEnv_cells Sc.kind slots
  rintro env rfl s1 made
  have full : vs.length = ps.length := by rw [← rds.length]; exact hl
  refine ⟨(e0.mod.nolimit.keeps fun b o e => (e0.bs b o e).1).keeps made.toInCall.keep, codeAny_func ?_⟩
  have inv : Inv (cxOf (L2.CX P w) P w K mg base N qual (defScope st) f cdv A outer s H E) [] (L2.start N vs) H s1 := inv_start Sc hr.hd e0 full rv made
  have body := hb cdv A outer s H E hg (hr.deeper _)
  have goal : rdS K (Wd E) g { nx := fun _ H' => Q .non H', rt := Q } (L2.start N vs) H := by
    refine ⟨_, S, _, ?_, hS, hf, ⟨fun ρ' S' σ' H' e r' k' h => lq .non S' .non H' e r' rfl h, lq, fun x ρ' S' c dd σ' H' e r' k' q h => lx x S' c dd H' e r' q h, fun _ _ _ _ _ _ _ h => h.elim, fun _ _ _ _ _ _ _ h => h.elim⟩⟩
    unfold L2.start
    rw [← rds.length]
    exact EnvR.start _ rds
  refine wpAny_mono (body.run [] s1 _ H _ inv goal) (fun fl s' done => ?_) fun _ _ z => z
  cases fl with
  | ret u =>
    have ⟨v, σ', H', J, rv', q⟩ := done
    exact ⟨v, H', J.os, J.bare, J.base, J.hok, rv', q⟩
  | next =>
    have ⟨σ', H', J, q⟩ := done
    exact ⟨.non, H', J.os, J.bare, J.base, J.hok, rfl, q⟩
  | brk => exact done.elim fun _ z => z.elim fun _ z => z.2.elim
  | cont => exact done.elim fun _ z => z.elim fun _ z => z.2.elim
end
/-! ### the law's row, of a def that is quiet at the caller -/
section
variable {P : Program} {w : World} {K : PySem.W.Frag} {mg mb : Str → Option Value} {CX : CXT} {k : Nat} {fa a : Addr} {fd : FuncData} {x : Str} {sp : L2.Sp} {s1 : Shared} {vs : List Value} {ns : List Int}
/-- the heap as the law's def finds it: the script alone may be known -/
theorem begin_heap (P : Program) (w : World) (KX : K.In s1.heap) (ha : s1.heap.get? a = some { cls := .type "list", data := .seq vs.toArray }) (hi : IntsAre vs ns) (hl : ns.length ≤ sizeLine) :
    ∃ H : Hp, Only H ∧ SqL K H a (ns.map V.int) ∧ HOk P w H s1.heap ∧ (∀ b, H b ≠ none → b = a ∧ K.lookup a = none) := by
  have rv := vals_ints hi
  cases hk : K.lookup a with
  | some o =>
    have e := KX a o hk
    rw [ha] at e
    have eo := Option.some.inj e
    subst eo
    refine ⟨fun _ => none, fun _ => .inl rfl, .inr ⟨_, vs.toArray, _, hk, rfl, rfl, rfl, ?_, by simpa using rv⟩, ?_, ?_⟩
    · rw [List.size_toArray]
      exact hi.length.symm ▸ hl
    · intro b u z
      cases (z : (none : Option HO) = some u)
    · intro b z
      exact absurd rfl z
  | none =>
    let it : HO := .frz { cls := .type "list", data := .seq vs.toArray } (.lst (ns.map V.int))
    have at_a : (fun b => if b = a then some it else none : Hp) a = some it := if_pos rfl
    have off : ∀ b, b ≠ a → (fun b => if b = a then some it else none : Hp) b = none := fun b h => if_neg h
    refine ⟨fun b => if b = a then some it else none, fun b => ?_, .inl (.inr ⟨_, at_a⟩), fun b u z => ?_, fun b z => ⟨Classical.byContradiction fun h => z (off b h), rfl⟩⟩
    · by_cases h : b = a
      · exact .inr ⟨_, _, by rw [h]; exact at_a⟩
      · exact .inl (off b h)
    · by_cases h : b = a
      · subst h
        have eu := Option.some.inj (at_a.symm.trans z)
        subst eu
        exact ⟨ha, (List.length_map ..).symm ▸ hl, vs, _, rv, ha⟩
      · exact nomatch (off b h).symm.trans z
theorem quiet_call (KX : K.In s1.heap) (hns : s1.heap.Ns mainGlobals mg) (hb : s1.heap.Ns builtinsNs mb) (hbb : ∀ x : Str, x ≠ "__name__" → mb x = bootBuiltins x) (noLim : s1.heap.NoLimit) (noGen : s1.gens = #[])
    (ha : s1.heap.get? a = some { cls := .type "list", data := .seq vs.toArray }) (hi : IntsAre vs ns) (hl : ns.length ≤ sizeLine) (hr : Room k callerA)
    (F : ∀ base : Heap, K.In base → base.Ns mainGlobals mg → Quiet P w K mg base CX k fa fd [x] sp) (hbind : ∀ (s : Shared) (u : Value), BindsTo s fd ⟨[u], []⟩ [(x, u)])
    (holds : ∀ H : Hp, Only H → SqL K H a (ns.map V.int) → sp [.ref a] H (fun v _ => v = .bl true) fun _ _ _ => False)
    (hCX : ∀ H e s', CX [] H s1 (fun _ _ _ => False) e s' → False) :
    codeAny (model P w) callerA (.call (.ref fa) ⟨[.ref a], []⟩) (fun r s' => r = .ok (.ret (.bool true)) ∧ OldK s1.heap s'.heap ∧ s'.os = s1.os ∧ AllBare s'.gens) s1 := by
  obtain ⟨H, hO, hS, hok, hA⟩ := begin_heap P w KX ha hi hl
  have clear : ∀ {b : Addr} {o : Obj} {es : Array DictEntry} {ep : Nat}, s1.heap.get? b = some o → o.data = .dict es ep → H b = none := fun {b o es ep} e d => Classical.byContradiction fun z => by
    have eb := (hA b z).1
    subst eb
    rw [ha] at e
    cases e
    exact nomatch (d : Data.seq vs.toArray _ = Data.dict es ep)
  have nsB : ∀ {b : Addr} {m : Str → Option Value}, s1.heap.Ns b m → (hidT s1.heap H).Ns b m := fun ⟨o, es, ep, e, d, r⟩ => ⟨o, es, ep, hidT_get e (clear e d), d, r⟩
  have inB : K.In (hidT s1.heap H) := fun b o e => hidT_get (KX b o e) (Classical.byContradiction fun z => by
    have ⟨eb, en⟩ := hA b z
    subst eb
    rw [en] at e
    exact nomatch e)
  have md : Mod K mg (hidT s1.heap H) := ⟨inB, nsB hns, ⟨mb, nsB hb, hbb⟩, let ⟨mc, h1, h2⟩ := noLim; ⟨mc, nsB h1, h2⟩⟩
  have e0 : Env0 P w K mg (hidT s1.heap H) callerA [] s1 H := ⟨rfl, md, fun b o e => of_hidT e, Nat.le_of_eq (hidT_size _ _), trivial, (fun b hb => absurd (show b ∈ ([] : List Addr) from hb) List.not_mem_nil), hok, .of_eq noGen⟩
  apply codeAny_mono (F _ inB (nsB hns) callerA rfl [] s1 H ⟨[.ref a], []⟩ [.ref a] [.ref a] _ _ hr e0 (hbind s1 (.ref a)) (.cons rfl .nil) (holds H hO hS))
  intro r s' h
  match r, h with
  | .error e, h => exact (hCX H e s' h).elim
  | .ok .next, h => exact h.elim
  | .ok .brk, h => exact h.elim
  | .ok .cont, h => exact h.elim
  | .ok (.ret u), ⟨v, H', os, bare, un, hok', r', q⟩ =>
    have ev : v = .bl true := q
    subst ev
    have eu : u = Value.bool true := r'
    subst eu
    refine ⟨rfl, .of_keep fun b o e => ?_, os, bare⟩
    cases q : H b with
    | none => exact un.keep b o e q (fun z => by cases (z : b ∈ ([] : List Addr))) (fun z => by cases z)
    | some u =>
      rcases hO b with z | ⟨ob, ys, z⟩
      · rw [q] at z
        cases z
      · have ⟨e1, _⟩ := hok b _ z
        have ⟨e2, _⟩ := hok' b _ (un.frzs b ob _ z)
        rw [e] at e1
        rw [Option.some.inj e1]
        exact e2
end
/-- the goal that the head leaves, from a def that is quiet at the caller -/
theorem walk_quiet {l : PySem.W.OpenLaw} {n k : Nat} {q : Program} {loose : List Str} {XP : (Str → Option Value) → Heap → Prop} {YP : World → Heap → Prop} {d : DefRec} {K : Params → PySem.W.Frag} {CX : World → CXT} {sp : World → L2.Sp} {x : Str}
    (hn : l.most = some n) (hn2 : n ≤ sizeLine) (hdf : d.params.defaults = []) (hr : Room k callerA) (inK : ∀ (w : World) (h : Heap), YP w h → (K w.params).In h)
    (F : ∀ (w : World) (mg : Str → Option Value) (fa : Addr) (h : Heap), (K w.params).In h → h.Ns mainGlobals mg → mg d.name = some (.ref fa) → ∃ fd : FuncData, (∀ (s : Shared) (u : Value), BindsTo s fd ⟨[u], []⟩ [(x, u)]) ∧ ∀ base : Heap, (K w.params).In base → base.Ns mainGlobals mg → Quiet l.prog w (K w.params) mg base (CX w) k fa fd [x] (sp w))
    (holds : ∀ (w : World) (H : Hp) (a : Addr) (ns : List Int), ns.length ≤ n → Only H → SqL (K w.params) H a (ns.map V.int) → sp w [.ref a] H (fun v _ => v = .bl true) fun _ _ _ => False)
    (noX : ∀ (w : World) (H : Hp) (s : Shared) (e : Value) (s' : Shared), CX w [] H s (fun _ _ _ => False) e s' → False) : PySem.W.WalkO q loose XP YP (l.row.toRowW) d [] (fun f vs => PySem.call f vs) := by
  apply Att.attach_call hn hdf
  intro w s₀ s₁ mg mb fa o pm cd doc a vs ns G Y ho hd hcd hmg hobj hints hlen hg
  have KX := inK w _ Y
  have ⟨fd, hb, hF⟩ := F w mg fa _ KX G.T.g hmg
  exact quiet_call KX G.T.g G.T.b G.T.builtins G.T.nolimit hg hobj hints (Nat.le_trans hlen hn2) hr hF hb (fun H hO hS => holds w H a ns hlen hO hS) fun H e s' => noX w H s₁ e s'
/-! ### repr of data -/
def rRepr (K : PySem.W.Frag) : List V → Hp → VK → Prop := fun xs H Q => ∃ v p, xs = [v] ∧ Dp K H v p ∧ p.showable = true ∧ p.hasDict = false ∧ p.depth ≤ 64 ∧ p.shown.length ≤ sizeLine ∧ Q (.str p.shown) H
theorem call_repr {X : Cx} (quiet : X.A.guards = some []) (hu : X.A.units + 66 < cLine) : CallR X (.builtin "repr") (rRepr X.K) := by
  intro pnl s σ H xs us Q I r ⟨v, p, ex, hd, show1, noD, dep, hz, q⟩
  subst ex
  obtain ⟨u, rfl, ru⟩ : ∃ u, us = [u] ∧ RelV v u := by
    cases r with
    | cons h t => cases t; exact ⟨_, rfl, h⟩
  obtain ⟨as, rd⟩ := Dp.reads I p v u hd ru
  cases v with
  | ref a =>
    cases ru
    exact repr_of_reads' rd show1 (PyData.noDict_hsm noD) quiet (by omega) (fun b o e => e) (fun h' t tk keep => ⟨.str p.shown, H, I.kept (t' := tk) keep, ⟨_, rfl⟩, q⟩) hz
  | non =>
    cases hd
    cases ru
    exact PySem.P.repr_of_none ⟨.str _, H, I.tok _, ⟨_, rfl⟩, q⟩
  | bl b =>
    cases hd
    cases ru
    exact PySem.P.repr_of_bool ⟨.str _, H, I.tok _, ⟨_, rfl⟩, q⟩
  | int i =>
    cases hd
    obtain ⟨t, rfl⟩ := ru
    exact PySem.P.repr_of_int (of_decide_eq_true show1) ⟨.str _, H, I.tok _, ⟨_, rfl⟩, q⟩
  | str x =>
    cases hd
    obtain ⟨t, rfl⟩ := ru
    exact PySem.P.repr_of_str ⟨.str _, H, I.tok _, ⟨_, rfl⟩, q⟩ hz
  | _ => cases hd
def gRepr : GA := fun ds S Q => match ds with
  | [d] => match toPy (vw d S) with
    | some p => p.showable = true ∧ p.hasDict = false ∧ p.depth ≤ 64 ∧ p.shown.length ≤ sizeLine ∧ Q (.str p.shown) S
    | none => False
  | _ => False
theorem d_repr {K : PySem.W.Frag} : CallD K (rRepr K) gRepr := by
  intro xs S H ds Qd Q hS r h l
  unfold gRepr at h
  split at h
  · obtain ⟨v, rfl, rv⟩ := rels1 r
    split at h
    · rename_i p e
      exact ⟨v, p, rfl, toPy_vw hS rv e, h.1, h.2.1, h.2.2.1, h.2.2.2.1, l.fz hS (d := .str _) rfl h.2.2.2.2⟩
    · exact h.elim
  · exact h.elim
theorem gRepr_i {d : D} {p : PyData} {S : Store} {Q : Post} (e : toPy (vw d S) = some p) (h1 : p.showable = true) (h2 : p.hasDict = false) (h3 : p.depth ≤ 64) (h4 : p.shown.length ≤ sizeLine) (q : Q (.str p.shown) S) : gRepr [d] S Q := by
  show (match toPy (vw d S) with
    | some p => p.showable = true ∧ p.hasDict = false ∧ p.depth ≤ 64 ∧ p.shown.length ≤ sizeLine ∧ Q (.str p.shown) S
    | none => False)
  rw [e]
  exact ⟨h1, h2, h3, h4, q⟩
end MP

set_option Elab.async false
set_option linter.all false
set_option maxRecDepth 100000
set_option maxHeartbeats 2100000
/-! MPEnum: enumerate over a tuple or a list; target tuples; three targets. -/
namespace MP
open PySem PySem.Spec PyProof.Rows L2 MP
/-! ### enumerate(t) -/
theorem meets_enum1 {v : Value} {o : Obj} {G : Heap → Prop} (B : Begins v o G) :
    Meets (Builtin.«enumerate.__new__» ⟨[.type "enumerate", v], []⟩) (fun _ R s => G s.heap ∧
      R (.ok (.ret (.ref (s.heap.push o).objs.size))) { s with heap := (s.heap.push o).push { cls := .type "enumerate", data := .fields #[.none, .bool false, .ref s.heap.objs.size, rawInt 0, .none, .none] } }) :=
  .of_wp fun prog w A R s ⟨g0, h⟩ => by
    obtain ⟨hp, gn, d, tk, os⟩ := s
    have hsub := sub_enumerate
    have walk : ∀ {A' : Around} {E : Value → Shared → Prop} {Q : Value → Shared → Prop}, Q (.ref hp.objs.size) ⟨hp.push o, gn, d, tk, os⟩ → wpAny (model prog w) A' (pyIter v) Q E ⟨hp, gn, d, tk, os⟩ :=
      fun q => B.iter prog w _ _ ⟨hp, gn, d, tk, os⟩ _ g0 q
    wp_walk using walk
    refine wpAny_stack_any fun _ => wpAny_pure ?_
    split
    · rename_i c _ _ _ _ _
      cases (c == Value.type "enumerate") <;> (wp_walk using walk; exact ⟨_, rfl, h⟩)
    · wp_walk using walk
      exact ⟨_, rfl, h⟩
theorem enum_one {prog : Program} {w : World} {A : Around} {E : Value → Shared → Prop} {s : Shared} {v : Value} {o : Obj} {G : Heap → Prop} {Q : Value → Shared → Prop} (B : Begins v o G) (g0 : G s.heap)
    (h : ∀ h', IsEnum h' (s.heap.objs.size + 1) s.heap.objs.size 0 .none → h'.get? s.heap.objs.size = some o → (∀ b ob, s.heap.get? b = some ob → h'.get? b = some ob) → Q (.ref (s.heap.objs.size + 1)) { s with heap := h' }) :
    wpAny (model prog w) A (call (.type "enumerate") [v]) Q E s := by
  apply callType_new F.called_enumerate (by decide) (F.typeCall_enumerate_1 _) (F.newCall_enumerate_1 _) (fun obj => F.args_object_init_2 obj _) F.entry_enumerate_new (meets_enum1 B)
  have sz : (s.heap.push o).objs.size = s.heap.objs.size + 1 := Heap.size_push ..
  have at2 := Heap.get?_push_size (s.heap.push o) (o := { cls := .type "enumerate", data := .fields #[.none, .bool false, .ref s.heap.objs.size, rawInt 0, .none, .none] }) rfl
  rw [sz] at at2
  refine ⟨g0, ?_⟩
  show _ ∧ _
  rw [sz]
  exact ⟨⟨_, at2, rfl⟩, h _ at2 (Heap.get?_push_of_some _ (Heap.get?_push_size _ B.free)) fun b ob x => Heap.get?_push_of_some _ (Heap.get?_push_of_some _ x)⟩
def IteT (K : PySem.W.Frag) (a : Addr) : It :=
  ⟨fun i H => ∃ (xs : List V) (x : V), SqT K H a xs ∧ xs[i]? = some x, fun i H v H' => ∃ T x, v = .ref T ∧ H T = none ∧ H' = upd H T (.tup [.int (i : Nat), x]) ∧ ∀ xs, SqT K H a xs → xs[i]? = some x, fun i H => ∃ xs : List V, SqT K H a xs ∧ xs.length = i⟩
theorem turn_enumT {P : Program} {w : World} {K : PySem.W.Frag} {elts : List Expr} {kk : Nat} {tpos : Pos} (a e it : Addr) :
    Turn P w K (.Tuple elts kk tpos) (IteT K a) [e, it] e (fun i h => (∃ old, IsEnum h e it ((i : Nat) : Int) old) ∧ h.IsTupleIter it a i ∧ e ≠ it ∧ a ≠ it ∧ a ≠ e) where
  mem := by simp
  obj := by
    rintro i h ⟨⟨old, he⟩, ⟨o, ho, hc, hd⟩, -⟩ b hb
    rcases (by simpa using hb : b = e ∨ b = it) with rfl | rfl
    · exact ⟨_, he, nofun⟩
    · exact ⟨o, ho, fun v q => (by rw [hd] at q; cases q)⟩
  keep := fun i h h' ⟨⟨old, he⟩, hi, ne⟩ k => ⟨⟨old, k e (by simp) _ he⟩, hi.at fun o q => k it (by simp) o q, ne⟩
  item := by
    intro X hP hw hK calm i pnl s σ H E I free ⟨⟨old, he⟩, hit, n1, n2, n3⟩ ⟨xs, x, hq, hx⟩
    subst hP hw hK
    have ⟨its, rv, p, hz⟩ := I.tuple hq
    have ⟨u, hu, ru⟩ := rv.get hx
    have lt : i < its.toArray.size := by
      have := (List.getElem?_eq_some_iff.mp hu).1
      simpa using this
    have le : e < s.heap.objs.size := Heap.lt_size he
    have li : it < s.heap.objs.size := let ⟨_, q, _⟩ := hit; Heap.lt_size q
    have D := Draws.tuple (prog := X.prog) (w := X.w) (A := X.A.in1) (I.ok.hd calm) it a n2 its.toArray
    apply wpAny_pyNext_enum_itemD D he ⟨hit, p⟩ lt n1 (by simp [n1, Ne.symm n3])
    intro y h' tk py out st hT hsz keep
    have ey : y = u := by
      have py' : its.toArray[i]? = some y := py
      have z : its[i]? = some y := by simpa using py'
      rw [hu] at z
      exact (Option.some.inj z).symm
    subst ey
    refine ⟨_, rfl, wpAny_letOwnedTupleGo_enum (s := { s with heap := h', toks := tk + 1 }) out fun h'' he' sb => ?_⟩
    have at3 : h''.get? s.heap.objs.size = some { cls := .type "tuple", data := .seq #[.int i tk, y] } := (sb.2 _ (Nat.ne_of_gt le)).trans hT
    have new : ObjOk X.prog X.w (upd H s.heap.objs.size (.tup [.int (i : Nat), x])) h'' s.heap.objs.size ((.tup [.int (i : Nat), x])) :=
      ⟨by show 2 ≤ sizeLine; decide, [.int i tk, y], .cons ⟨_, rfl⟩ (.cons ru .nil), ⟨_, at3, rfl, _, rfl⟩⟩
    have J : Inv X pnl σ (upd H s.heap.objs.size (.tup [.int (i : Nat), x])) { s with heap := h'', toks := tk + 1 } :=
      I.turnedNew (ch := [e, it]) (fun b ob hb q => (sb.2 b (fun z => hb (by simp [z]))).trans (keep b ob (fun z => hb (by simp [z])) (fun z => hb (by simp [z])) q)) free (Nat.le_refl _) new
    refine ⟨.ref s.heap.objs.size, _, J, rfl, ⟨_, x, rfl, I.hok.fresh (Nat.le_refl _), rfl, fun ys hy => ?_⟩, ⟨⟨y, ?_⟩, st.1.at fun o q => (sb.2 it (Ne.symm n1)).trans q, n1, n2, n3⟩, fun b hb => ?_⟩
    · rw [I.tuple_inj hy hq]
      exact hx
    · rw [show ((i + 1 : Nat) : Int) = (i : Int) + 1 by omega]
      exact he'
    · have lb : b < s.heap.objs.size := by
        rcases (by simpa using hb : b = e ∨ b = it) with rfl | rfl
        · exact le
        · exact li
      rw [upd_ne (Nat.ne_of_lt lb)]
      exact (free b hb).1
  done := by
    intro X hP hw hK calm i pnl s σ H E I free ⟨⟨old, he⟩, hit, n1, n2, n3⟩ ⟨xs, hq, hx⟩
    subst hP hw hK
    have ⟨its, rv, p, hz⟩ := I.tuple hq
    have ⟨f0, f1, f2, f3, f4, f5⟩ := free it (by simp)
    have all : its.toArray.size = i := by rw [List.size_toArray, ← rv.length]; exact hx
    have D := Draws.tuple (prog := X.prog) (w := X.w) (A := X.A.in1) (I.ok.hd calm) it a n2 its.toArray
    subst all
    exact wpAny_pyNext_enum_endD D he ⟨hit, p⟩ fun h' eb => ⟨rfl, I.turned (t' := s.toks) (fun b o hb q => eb b o hb q) f0 f1 f3 f4 f5⟩
  self := fun A i s Q E ⟨⟨_, he⟩, _⟩ h => wpAny_pyIter_enum he h
def iEnumV (K : PySem.W.Frag) (ta : TA) : TI := fun σ H R => ta σ H fun vs H1 => ∃ a xs, vs = [.ref a] ∧ SqT K H1 a xs ∧ R (IteT K a) H1
theorem pi_enumT {X : Cx} {e : Expr} {ta : TA} {p pos tpos : Pos} {elts : List Expr} {kk : Nat} (hg : Gl X "enumerate") (hm : X.mg "enumerate" = none) (ha : PA X [e] ta) (hs : starEach [e] X.env = [(false, eval e X.env)] := by rfl) :
    PI X (.Tuple elts kk tpos) (.Call (.Name "enumerate" p) [e] [] pos) (iEnumV X.K ta) := by
  constructor
  intro pnl s σ H R I h
  refine Call_ (ld_blt I hg hm boot_enumerate (PyProof.Rows.callWith_type1 (thn (ha.run pos pnl s σ H _ I h) ?_) hs rfl))
  rintro us s1 ⟨vs, H1, I1, r1, a, xs, rfl, hq, q⟩
  cases r1 with
  | cons r rr =>
    cases rr
    cases r
    have ⟨its, rv, tp, hz⟩ := I1.tuple hq
    have ⟨oa, ea, _⟩ := id tp
    have la : a < s1.heap.objs.size := Heap.lt_size ea
    apply enum_one (begins_tuple a its.toArray) tp
    intro h' he hi keep
    apply wpAny_pyIter_enum he
    have I2 : Inv X pnl σ H1 { s1 with heap := h' } := I1.kept (t' := s1.toks) keep
    refine ⟨s1.heap.objs.size + 1, [s1.heap.objs.size + 1, s1.heap.objs.size], _, _, H1, rfl, I2, turn_enumT a (s1.heap.objs.size + 1) s1.heap.objs.size, ⟨⟨.none, he⟩, ⟨_, hi, rfl, rfl⟩, Nat.succ_ne_self _, Nat.ne_of_lt la, Nat.ne_of_lt (Nat.lt_succ_of_lt la)⟩, fun b hb => ?_, q⟩
    have le : s1.heap.objs.size ≤ b := by
      rcases (by simpa using hb : b = s1.heap.objs.size + 1 ∨ b = s1.heap.objs.size) with rfl | rfl
      · exact Nat.le_succ _
      · exact Nat.le_refl _
    exact I1.fpOk le (I1.hok.fresh le)
def enumD (k : Nat) : List D → List D
  | [] => []
  | d :: r => .tup [.int (k : Nat), d] :: enumD (k + 1) r
theorem enumD_len (k : Nat) : ∀ ds : List D, (enumD k ds).length = ds.length
  | [] => rfl
  | d :: r => congrArg (· + 1) (enumD_len (k + 1) r)
theorem enumD_get (k : Nat) : ∀ (ds : List D) (i : Nat) (d : D), (enumD k ds)[i]? = some d → ∃ x, ds[i]? = some x ∧ d = .tup [.int ((k + i : Nat) : Int), x]
  | [], i, d, h => by cases i <;> cases h
  | x :: r, 0, d, h => ⟨x, rfl, (Option.some.inj h).symm⟩
  | x :: r, i + 1, d, h => by
    have ⟨y, e1, e2⟩ := enumD_get (k + 1) r i d h
    exact ⟨y, e1, by rw [e2, show k + 1 + i = k + (i + 1) by omega]⟩
theorem yields_enum {K : PySem.W.Frag} {H : Hp} {a : Addr} {ds : List D} {vs : List V} (h : SqT K H a vs) (rs : Rels K H ds vs) : Yields K (IteT K a) (enumD 0 ds) H where
  go := fun i H' hi im => by
    rw [enumD_len] at hi
    have ⟨v, ev, _⟩ := rs.get (i := i) (List.getElem?_eq_getElem hi)
    exact ⟨vs, v, im.sqT h, ev⟩
  stop := fun H' im => ⟨vs, im.sqT h, by rw [enumD_len, rs.length]⟩
  yld := fun i H' x H2 d ed im ⟨T, y, ex, hT, eH, hx⟩ => by
    have ⟨dx, edx, e⟩ := enumD_get 0 ds i d ed
    subst e ex eH
    have ⟨v, ev, rv⟩ := rs.get edx
    have e2 := hx vs (im.sqT h)
    rw [ev] at e2
    cases (Option.some.inj e2)
    refine ⟨.inr ⟨T, _, hT, rfl⟩, T, _, rfl, .inl (.inl upd_same), .int (i : Nat), [y], rfl, ?_, y, [], rfl, Rel.imm (im.trans (upd_imm hT)) _ _ rv, rfl⟩
    show V.int (i : Nat) = V.int ((0 + i : Nat) : Int)
    rw [Nat.zero_add]
def onTup (d : D) (k : List D → Prop) : Prop := match d with
  | .tup ds => k ds
  | _ => False
def iEnumD (fa : EA) : EI := fun ρ S Q E => fa ρ S (fun ds S1 => match ds with
  | [d] => onTup d fun xs => Q (enumD 0 xs) S1
  | _ => False) E
theorem i_enumT {X : Cx} {W : WX} {e : Expr} {fa : EA} {p pos tpos : Pos} {elts : List Expr} {kk : Nat} (hg : Gl X "enumerate") (hm : X.mg "enumerate" = none) (ha : PA X [e] (rdA X.K W 1 fa)) (hs : starEach [e] X.env = [(false, eval e X.env)] := by rfl) :
    PI X (.Tuple elts kk tpos) (.Call (.Name "enumerate" p) [e] [] pos) (rdI X.K W (iEnumD fa)) :=
  PI_imp (pi_enumT hg hm ha hs) fun σ H R ⟨ρ, S, Qd, Ed, hρ, hS, hf, y, lx⟩ => by
    refine ⟨ρ, S, _, Ed, hρ, hS, hf, fun ds S1 vs H1 e1 r1 q1 hl h1 => ?_, lx⟩
    dsimp only at h1
    split at h1
    · rename_i d
      obtain ⟨v, rfl, rv⟩ := Rels.one q1
      cases d with
      | tup xs =>
        obtain ⟨a, ws, rfl, ht, rs⟩ := rv
        exact ⟨a, ws, rfl, ht, y (enumD 0 xs) S1 _ H1 e1 r1 (yields_enum ht rs) h1⟩
      | _ => exact h1.elim
    · exact h1.elim

/-! ### target tuples in a comprehension -/
def TgsMono (t : TGs) : Prop := ∀ vs σ H Q Q', (∀ σ' H', Q σ' H' → Q' σ' H') → t vs σ H Q → t vs σ H Q'
theorem monos_nil : TgsMono gNil := fun vs σ H Q Q' i h => ⟨h.1, i _ _ h.2⟩
theorem monos_cons {t : TG} {u : TGs} (m : TgMono t) (n : TgsMono u) : TgsMono (gCons t u) := fun vs σ H Q Q' i ⟨v, r, e, h⟩ => ⟨v, r, e, m v σ H _ _ (fun σ' H' => n r σ' H' Q Q' i) h⟩
theorem mono_tup {K : PySem.W.Frag} {n : Nat} {t : TGs} (m : TgsMono t) : TgMono (gTup K n t) := fun v σ H Q Q' i ⟨a, xs, e, hq, hl, h⟩ => ⟨a, xs, e, hq, hl, m xs σ H Q Q' i h⟩
end MP

set_option Elab.async false
set_option linter.all false
set_option maxRecDepth 100000
set_option maxHeartbeats 2100000
/-! MPVar: a local name that holds a def is called; three targets; defs that call themselves. -/
namespace MP
open PySem PySem.Spec PyProof.Rows L2 MP
/-! ### a local name that holds a def -/
def onRef (o : Option D) (TB : Addr → Option DF) (k : DF → Prop) : Prop := match o with
  | some (.ref a) => (match TB a with
    | some F => k F
    | none => False)
  | _ => False
theorem onRef_i {o : Option D} {TB : Addr → Option DF} {k : DF → Prop} {a : Addr} {F : DF} (e : o = some (.ref a)) (h : TB a = some F) (q : k F) : onRef o TB k := by
  subst e
  show (match TB a with
    | some F => k F
    | none => False)
  rw [h]
  exact q
theorem onRef_inv {o : Option D} {TB : Addr → Option DF} {k : DF → Prop} (h : onRef o TB k) : ∃ a F, o = some (.ref a) ∧ TB a = some F ∧ k F := by
  unfold onRef at h
  split at h
  · rename_i a
    split at h
    · rename_i F e
      exact ⟨a, F, rfl, e, h⟩
    · exact h.elim
  · exact h.elim
def evCallV (TB : Addr → Option DF) (i : Nat) (fa : EA) : ET := fun ρ S Q E => onRef (lk ρ i) TB fun F => fa ρ S (fun ds S1 => F ds S1 Q E) E
theorem evCallV_i {TB : Addr → Option DF} {i : Nat} {fa : EA} {ρ : MP.Env} {S : Store} {Q : Post} {E : XPost} (q : onRef (lk ρ i) TB fun F => fa ρ S (fun ds S1 => F ds S1 Q E) E) : evCallV TB i fa ρ S Q E := q
section
variable {X : Cx} {W : WX} {i n : Nat} {x : Str} {p pos : Pos} {e : Expr} {es : List Expr} {kws : List Keyword} {fa : EA} {t : TA} {TB : Addr → Option DF} {E : L2.St → XK} {ps ks : List Str} {is : List Nat}
/-- each def of the table keeps its promise here -/
def TabOk (X : Cx) (n : Nat) (TB : Addr → Option DF) : Prop := ∀ f F, TB f = some F → ∃ (k : Nat) (fd : FuncData) (ps : List Str), FnOk X.prog X.w X.K X.mg X.base (L2.CX X.prog X.w) k f fd ps (spM X.K n F) ∧ Room k X.A ∧ PySem.W.keepIn X.K (.ref f) = true ∧ Binds X.K fd ps []
theorem pe_held (T : TabOk X n TB) (hN : X.N[i]? = some x) (hv : Vis X.env.scope x) (hx : ∀ σ, PassesAt (L2.CX X.prog X.w) X σ (E σ)) (ha : PA X (e :: es) t)
    (noDbg : (x == ("__debug__" : Str)) = false := by decide) (noCd : (x == ("__classdict__" : Str)) = false := by decide)
    (hst : starEach (e :: es) X.env = (false, eval e X.env) :: starEach es X.env := by rfl) (noStar : (backTo pos (starEach es X.env)).any (·.1) = false := by rfl) :
    PE X (.Call (.Name x p) (e :: es) [] pos) (fun σ H Q => ∃ f F, σ[i]? = some (some (.ref f)) ∧ TB f = some F ∧ t σ H fun vs H1 => spM X.K n F vs H1 Q (E σ)) := by
  constructor
  intro pnl s σ H Q I ⟨f, F, at_i, inT, ht⟩
  have ⟨k, fd, ps, ok, room, kp, bd⟩ := T f F inT
  apply wpAny_Call_Name_kw
  apply thn ((pe_var (pos := p) hN hv noDbg noCd).run pnl s σ H (fun v H1 => v = .ref f ∧ H1 = H) I ⟨.ref f, at_i, rfl, rfl⟩)
  rintro u s1 ⟨v, H1, I1, r1, rfl, rfl⟩
  cases r1
  refine PySem.W.callWith_K (h₀ := X.base) I.ok.mod.kin kp (thn (ha.run pos pnl s1 σ _ _ I1 ht) ?_) hst noStar
  rintro us s2 ⟨vs, H2, I2, r, q⟩
  exact ⟨I2.kIn, run_fnS ok room bd (hx σ) I2 r q⟩
theorem e_callV (T : TabOk X n TB) (hN : X.N[i]? = some x) (hv : Vis X.env.scope x) (tk : Takes X W) (ha : PA X (e :: es) (rdA X.K W n fa))
    (noDbg : (x == ("__debug__" : Str)) = false := by decide) (noCd : (x == ("__classdict__" : Str)) = false := by decide)
    (hst : starEach (e :: es) X.env = (false, eval e X.env) :: starEach es X.env := by rfl) (noStar : (backTo pos (starEach es X.env)).any (·.1) = false := by rfl) :
    PE X (.Call (.Name x p) (e :: es) [] pos) (rdE X.K W (evCallV TB i fa)) :=
  PE_imp (pe_held T hN hv (fun σ => passAt tk σ) ha noDbg noCd hst noStar) fun σ H Q ⟨ρ, S, Qd, Ed, hρ, hS, hf, lq, lx⟩ => by
    obtain ⟨a, F, ea, eF, hk⟩ := onRef_inv hf
    have ⟨v, ev, rv⟩ := hρ.get ea
    have e2 : v = .ref a := rv
    subst e2
    exact ⟨a, F, ev, eF, ρ, S, _, Ed, hρ, hS, hk, fun ds S1 vs H1 e1 r1 q1 hl h1 => ⟨ds, S1, Qd, Ed, q1, r1, hl, h1, lq.mono e1, lx.mono e1⟩, lx⟩
/-- .. by keywords alone -/
def TabOkK (X : Cx) (n m : Nat) (ks : List Str) (is : List Nat) (TB : Addr → Option DF) : Prop := ∀ f F, TB f = some F → ∃ (k : Nat) (fd : FuncData) (ps : List Str), FnOk X.prog X.w X.K X.mg X.base (L2.CX X.prog X.w) k f fd ps (spM X.K n F) ∧ Room k X.A ∧ PySem.W.keepIn X.K (.ref f) = true ∧ KBinds X.K fd ps ks (gK 0 m is) (gK 0 m is)
theorem pe_heldK {m : Nat} {tk : TA} (T : TabOkK X n m ks is TB) (hN : X.N[i]? = some x) (hv : Vis X.env.scope x) (hx : ∀ σ, PassesAt (L2.CX X.prog X.w) X σ (E σ)) (hkws : PK X kws tk)
    (hall : (backToKw pos (keywordEach kws X.env)).all (·.1.isSome) = true := by rfl) (hks : (backToKw pos (keywordEach kws X.env)).filterMap (·.1) = ks := by rfl)
    (noDbg : (x == ("__debug__" : Str)) = false := by decide) (noCd : (x == ("__classdict__" : Str)) = false := by decide)
    (noStar : ((backTo pos (starEach [] X.env)).any (·.1) || (backToKw pos (keywordEach kws X.env)).any (·.1.isNone)) = false := by rfl) :
    PE X (.Call (.Name x p) [] kws pos) (fun σ H Q => ∃ f F, σ[i]? = some (some (.ref f)) ∧ TB f = some F ∧ tk σ H fun zs H1 => spM X.K n F (gK 0 m is [] zs) H1 Q (E σ)) := by
  constructor
  intro pnl s σ H Q I ⟨f, F, at_i, inT, ht⟩
  have ⟨k, fd, ps, ok, room, kp, bd⟩ := T f F inT
  apply wpAny_Call_Name_kw
  apply thn ((pe_var (pos := p) hN hv noDbg noCd).run pnl s σ H (fun v H1 => v = .ref f ∧ H1 = H) I ⟨.ref f, at_i, rfl, rfl⟩)
  rintro u s1 ⟨v, H1, I1, r1, rfl, rfl⟩
  cases r1
  refine PySem.W.callWith_KW0 (h₀ := X.base) I.ok.mod.kin kp hall (thn (hkws.run pos pnl s1 σ _ _ I1 ht) ?_) noStar
  rintro ws s2 ⟨zs, H2, I2, rz, q⟩
  refine ⟨I2.kIn, ?_⟩
  rw [hks]
  exact run_fnkS ok room bd (hx σ) I2 .nil rz q
def evCallVK (TB : Addr → Option DF) (i : Nat) (is : List Nat) (fk : EA) : ET := fun ρ S Q E => onRef (lk ρ i) TB fun F => fk ρ S (fun zs S1 => F (pickL is zs) S1 Q E) E
theorem evCallVK_i {TB : Addr → Option DF} {is : List Nat} {fk : EA} {ρ : MP.Env} {S : Store} {Q : Post} {E : XPost} (q : onRef (lk ρ i) TB fun F => fk ρ S (fun zs S1 => F (pickL is zs) S1 Q E) E) : evCallVK TB i is fk ρ S Q E := q
theorem e_callVK {m : Nat} {fk : EA} (T : TabOkK X is.length m ks is TB) (hN : X.N[i]? = some x) (hv : Vis X.env.scope x) (tk : Takes X W) (hkws : PK X kws (rdA X.K W m fk)) (his : ∀ i ∈ is, i < m := by decide)
    (hall : (backToKw pos (keywordEach kws X.env)).all (·.1.isSome) = true := by rfl) (hks : (backToKw pos (keywordEach kws X.env)).filterMap (·.1) = ks := by rfl)
    (noDbg : (x == ("__debug__" : Str)) = false := by decide) (noCd : (x == ("__classdict__" : Str)) = false := by decide)
    (noStar : ((backTo pos (starEach [] X.env)).any (·.1) || (backToKw pos (keywordEach kws X.env)).any (·.1.isNone)) = false := by rfl) :
    PE X (.Call (.Name x p) [] kws pos) (rdE X.K W (evCallVK TB i is fk)) :=
  PE_imp (pe_heldK T hN hv (fun σ => passAt tk σ) hkws hall hks noDbg noCd noStar) fun σ H Q ⟨ρ, S, Qd, Ed, hρ, hS, hf, lq, lx⟩ => by
    obtain ⟨a, F, ea, eF, hk⟩ := onRef_inv hf
    have ⟨v, ev, rv⟩ := hρ.get ea
    have e2 : v = .ref a := rv
    subst e2
    refine ⟨a, F, ev, eF, ρ, S, _, Ed, hρ, hS, hk, fun ds S1 vs H1 e1 r1 q1 hl h1 => ⟨pickL is ds, S1, Qd, Ed, ?_, r1, ?_, h1, lq.mono e1, lx.mono e1⟩, lx⟩
    · unfold gK
      rw [if_pos ⟨rfl, by rw [← q1.length, hl]⟩]
      exact Rels.pick q1 is
    · exact pick_length fun i hi => by rw [hl]; exact his i hi
end
/-! ### three targets -/
def dPar3 (i j l : Nat) (fa : EA) : ST := fun ρ S N => fa ρ S (fun ds S' => match ds with
  | [x, y, z] => N.nx (st (st (st ρ i (some x)) j (some y)) l (some z)) S'
  | _ => False) (fun x S' => N.ex x ρ S')
theorem dPar3_i {i j l : Nat} {fa : EA} {ρ : MP.Env} {S : Store} {N : DEnds} (q : fa ρ S (fun ds S' => match ds with
  | [x, y, z] => N.nx (st (st (st ρ i (some x)) j (some y)) l (some z)) S'
  | _ => False) (fun x S' => N.ex x ρ S')) : dPar3 i j l fa ρ S N := q
theorem s_par3 {X : Cx} {W : WX} {fa : EA} {i j l : Nat} {x y z : Str} {a b c : Expr} {px py pz pt pos : Pos} {kt k2 pt2} (hc : X.calm = true) (hN : X.N.Nodup) (hi : X.N[i]? = some x) (hj : X.N[j]? = some y) (hl : X.N[l]? = some z) (hij : i ≠ j) (hil : i ≠ l) (hjl : j ≠ l)
    (hx : X.env.scope.names.lookup x = some .local) (hy : X.env.scope.names.lookup y = some .local) (hz : X.env.scope.names.lookup z = some .local) (ha : PA X [a, b, c] (rdA X.K W 3 fa))
    (hSw : swappedStores [.Tuple [.Name x px, .Name y py, .Name z pz] kt pt] (.Tuple [a, b, c] k2 pt2) X.env = pure (some [x, y, z]))
    (hSole : swapsWithSole [.Tuple [.Name x px, .Name y py, .Name z pz] kt pt] (.Tuple [a, b, c] k2 pt2) pos.line X.env = pure false := by rfl) :
    PS X (.Assign [.Tuple [.Name x px, .Name y py, .Name z pz] kt pt] (.Tuple [a, b, c] k2 pt2) pos) (rdS X.K W (dPar3 i j l fa)) :=
  PS_imp (ps_par3 hc hN hi hj hl hij hil hjl hx hy hz ha hSw hSole) fun D σ H ⟨ρ, S, N, hρ, hS, hf, ln⟩ => by
    refine ⟨ρ, S, _, _, hρ, hS, hf, fun ds S1 vs H1 e1 r1 q1 hl h1 => ?_, ln.lx hS hρ⟩
    dsimp only at h1
    split at h1
    · rename_i x1 y1 z1
      obtain ⟨v, r, rfl, k1, v2, r2, rfl, k2, v3, r3, rfl, k3, w⟩ := q1
      have w' : r3 = [] := w
      subst w'
      exact ⟨v, v2, v3, rfl, ln.nx _ S1 _ H1 e1 r1 ((((hρ.imm (e1.imm hS)).set k1 i).set k2 j).set k3 l) h1⟩
    · exact h1.elim
/-! ### defs that call themselves: out of fuel nothing is promised -/
def dNone : DF := fun _ _ _ _ => False
theorem fn_none {P : Program} {w : World} {K : PySem.W.Frag} {mg : Str → Option Value} {base : Heap} {CX : CXT} {k n : Nat} {f : Addr} {fd : FuncData} {ps : List Str} (h : ps.length = n) : FnOk P w K mg base CX k f fd ps (spM K n dNone) where
  len := fun vs H Q E ⟨ds, S, Qd, Ed, r, hS, hl, hf, _⟩ => hf.elim
  run := fun A outer s H args us vs Q E hr e0 bd rv ⟨ds, S, Qd, Ed, r, hS, hl, hf, _⟩ => hf.elim
/-! ### the module's constants; room -/
theorem e_glob {X : Cx} {W : WX} {x : Str} {d : D} {pos : Pos} (hg : Gl X x) (h : ∃ u v, X.mg x = some u ∧ RelV v u ∧ ∀ H, Rel X.K H d v) (noDbg : (x == ("__debug__" : Str)) = false := by decide) : PE X (.Name x pos) (rdE X.K W (evC d)) :=
  let ⟨_, _, hm, r, rel⟩ := h
  e_const (pe_glob hg hm r noDbg) rel
theorem hu65 {A : Around} {k : Nat} (hr : Room k A) : A.units + 65 < cLine := by have := hr.un; omega
theorem hu66 {A : Around} {k : Nat} (hr : Room k A) : A.units + 66 < cLine := by have := hr.un; omega
theorem bools_inC {K : PySem.W.Frag} {neg : Bool} : Bools (rInC K neg) := by
  intro x y H Q h
  rcases h with (h | ⟨a, o, e, g, q⟩) | ⟨d, ds, h1, h2, h3, h4, q⟩
  · exact .inl (.inl (bools_in x y H Q h))
  · exact .inl (.inr ⟨a, o, e, g, fz_bl q⟩)
  · exact .inr ⟨d, ds, h1, h2, h3, h4, fz_bl q⟩
end MP

set_option Elab.async false
set_option linter.all false
set_option maxRecDepth 100000
set_option maxHeartbeats 2100000
/-! MPLive: a list of the store times a number; a list of the store that is walked while nobody changes it. -/
namespace MP
open PySem PySem.Spec PyProof.Rows L2 MP
theorem Rels.flat {K : PySem.W.Frag} {H : Hp} {ds : List D} {vs : List V} (r : Rels K H ds vs) : ∀ n : Nat, Rels K H (List.replicate n ds).flatten (List.replicate n vs).flatten
  | 0 => rfl
  | n + 1 => by
    rw [List.replicate_succ, List.replicate_succ, List.flatten_cons, List.flatten_cons]
    exact Rels.append r (Rels.flat r n)
def rMulB : R2 := fun x y H Q => rMulA x y H Q ∨ rRep x y H Q
theorem op_mulB {X : Cx} : OpR X (binaryOp .Mult) rMulB := OpR.or op_mulA op_rep
def gMulB (mk : MkT) : G2 := fun x y S Q => gMulA x y S Q ∨ match y with
  | .int k => onL x S fun _ xs => -(2 ^ 63) ≤ k ∧ k < 2 ^ 63 ∧ xs.length * k.toNat ≤ sizeLine ∧ mk (List.replicate k.toNat xs).flatten S Q
  | _ => False
theorem d_mulB {K : PySem.W.Frag} {mk : MkT} (hm : MkOk K mk) : OpD K rMulB (gMulB mk) := by
  intro x y S H dx dy Qd Q hS rx ry h l
  rcases h with h | h
  · exact .inl (d_mulA x y S H dx dy Qd Q hS rx ry h l)
  · split at h
    · rename_i k
      obtain ⟨a, ds, xs, ea, e1, e2, rs, h1, h2, h3, h4⟩ := onL_rel hS rx h
      exact .inr ⟨a, k, xs, ea, ry, e2, h1, h2, by rw [← rs.length]; exact h3, fun p hp => hm _ _ _ _ _ _ _ hS hp (Rels.flat rs _) h4 l⟩
    · exact h.elim
theorem gMulB_l {mk : MkT} {a : Addr} {k : Int} {xs : List D} {S : Store} {Q : Post} (h : S a = some (.lst xs)) (h1 : -(2 ^ 63) ≤ k) (h2 : k < 2 ^ 63) (h3 : xs.length * k.toNat ≤ sizeLine) (q : mk (List.replicate k.toNat xs).flatten S Q) : gMulB mk (.ref a) (.int k) S Q := by
  refine .inr ?_
  show onL (.ref a) S _
  unfold onL
  simp only [h]
  exact ⟨h1, h2, h3, q⟩
theorem gMulB_i {mk : MkT} {i j : Int} {S : Store} {Q : Post} (e : CMul i j) (q : Q (.int (i * j)) S) : gMulB mk (.int i) (.int j) S Q := .inl ⟨e, q⟩
/-! ### a list of the store, walked while it stays as it is -/
def live (L : Addr) (all : List D) (g : DG) (t : EB) (f : ET) (Q : List D → Store → Prop) : List D → List D → MP.Env → Store → Prop
  | [], acc, _, S => S L = some (.lst all) ∧ Q acc S
  | d :: ds, acc, ρ, S => S L = some (.lst all) ∧ g d ρ S fun ρ1 S1 => t ρ1 S1 (fun b S2 => if b = true then f ρ1 S2 (fun y S3 => acc.length < sizeLine ∧ live L all g t f Q ds (acc ++ [y]) ρ S3) (fun _ _ => False) else live L all g t f Q ds acc ρ S2) (fun _ _ => False)
def evLive (mk : MkT) (j : Nat) (g : DG) (t : EB) (f : ET) (vs : List Nat) : ET := fun ρ S Q _ => match lk ρ j with
  | some (.ref a) => (match S a with
    | some (.lst ds) => live a ds g t f (fun acc S2 => mk acc S2 Q) ds [] (wipeD ρ vs) S
    | _ => False)
  | _ => False
theorem live_inv {mk : MkT} {j : Nat} {g : DG} {t : EB} {f : ET} {vs : List Nat} {ρ : MP.Env} {S : Store} {Q : Post} {E : XPost} (h : evLive mk j g t f vs ρ S Q E) : ∃ a ds, lk ρ j = some (.ref a) ∧ S a = some (.lst ds) ∧ live a ds g t f (fun acc S2 => mk acc S2 Q) ds [] (wipeD ρ vs) S := by
  unfold evLive at h
  cases e : lk ρ j with
  | none => rw [e] at h; exact h.elim
  | some d =>
    rw [e] at h
    cases d with
    | ref a =>
      replace h : (match S a with
        | some (.lst ds) => live a ds g t f (fun acc S2 => mk acc S2 Q) ds [] (wipeD ρ vs) S
        | _ => False) := h
      cases e2 : S a with
      | none => rw [e2] at h; exact h.elim
      | some o =>
        rw [e2] at h
        cases o with
        | lst ds => exact ⟨a, ds, rfl, e2, h⟩
        | _ => exact h.elim
    | _ => exact h.elim
theorem evLive_i {mk : MkT} {j : Nat} {g : DG} {t : EB} {f : ET} {vs : List Nat} {ρ : MP.Env} {S : Store} {Q : Post} {E : XPost} {a : Addr} {ds : List D} (e : lk ρ j = some (.ref a)) (h : S a = some (.lst ds)) (q : live a ds g t f (fun acc S2 => mk acc S2 Q) ds [] (wipeD ρ vs) S) : evLive mk j g t f vs ρ S Q E := by
  unfold evLive
  rw [e]
  show (match S a with
    | some (.lst ds) => live a ds g t f (fun acc S2 => mk acc S2 Q) ds [] (wipeD ρ vs) S
    | _ => False)
  rw [h]
  exact q
theorem lc_live {K : PySem.W.Frag} {W W1 W2 : WX} {mk : MkT} {j : Nat} (hm : MkOk K mk) {g : DG} {tg : TG} {t : EB} {f : ET} {vs : List Nat} (hmono : TgMono tg) (htg : TgOk K vs tg g) (σ : L2.St) (H : Hp) (Q : VK)
    (h : rdE K W (evLive mk j g t f vs) σ H Q) : tFz (tLc (iSeqV K (tVar j)) tg (rdB K W1 t) (rdE K W2 f) vs) σ H Q := by
  obtain ⟨ρ, S1, Qd, Ed, hρ, r1, hf, lq, lx⟩ := h
  obtain ⟨L, ds, eL, sL, h1⟩ := live_inv hf
  have ⟨vL, aL, rL⟩ := hρ.get eL
  have eV : vL = .ref L := rL
  subst eV
  have atL : ∀ {S' : Store} {H' : Hp}, SRel K S' H' → S' L = some (.lst ds) → ∃ xs, SqL K H' L xs ∧ Rels K H' ds xs := fun r e => let ⟨xs, hx, rs⟩ := r L _ e; ⟨xs, .inl (.inl hx), rs⟩
  have hS := r1
  have e1 : Evo S1 H S1 H := Evo.refl _ _
  obtain ⟨xs0, q0, rs0⟩ := atL r1 sL
  refine ⟨.ref L, aL, .inl ⟨L, xs0, rfl, q0, ?_⟩⟩
  intro D hD
  have iD : ∀ o, Imm H (upd H D o) := fun o => upd_imm hD
  have hρ1 : EnvR K H (wipeD ρ vs) (L2.wipe σ vs) := (hρ.imm (e1.imm hS)).wipe vs
  have lq1 := lq.mono e1
  refine ⟨fun i m H' => m = ds.length - i ∧ i ≤ ds.length ∧ ∃ S' acc accV, SRel K S' H' ∧ Evo S1 H S' H' ∧ S' D = none ∧ H' D = some (.lst accV) ∧ Rels K H' acc accV ∧ live L ds g t f (fun acc S2 => mk acc S2 Qd) (ds.drop i) acc (wipeD ρ vs) S',
    ⟨ds.length, by simp, Nat.zero_le _, S1, [], [], r1.upd_new hD, evo_new hD, r1.free hD, upd_same, rfl, h1⟩, ?_⟩
  rintro i m H' ⟨rfl, hle, S', acc, accV, r', e', nD, eD, ra, h'⟩
  have im : Imm H H' := e'.imm r1
  by_cases hlt : i < ds.length
  · rw [drop_cons hlt] at h'
    obtain ⟨sl, h'⟩ := h'
    obtain ⟨xs', q', rs'⟩ := atL r' sl
    have ⟨v0, ev0, rv0⟩ := rs'.get (i := i) (List.getElem?_eq_getElem hlt)
    refine .inr ⟨⟨xs', v0, q', ev0⟩, _, fun H2 z => ⟨ds.length - (i + 1), by omega, rfl, hlt, z⟩, fun x H2 hy => ?_⟩
    obtain ⟨ex, rx⟩ : Ext H' H2 ∧ Rel K H2 ds[i] x := by
      obtain ⟨e, hx⟩ := hy
      have e2 := hx xs' q'
      rw [ev0] at e2
      cases Option.some.inj e2
      subst e
      exact ⟨.inl rfl, rv0⟩
    have e2 := ex.evo S'
    have r2 := ex.srel r'
    have z := htg x (L2.wipe σ vs) H2 (wipeD ρ vs) S' ds[i] _ (hρ1.imm ((e'.trans e2).imm r1)) rx h'
    refine hmono _ _ _ _ _ (fun σ3 H3 z => ?_) z
    obtain ⟨rfl, w, ρ3, k3, q3⟩ := z
    refine ⟨w.trans (wipe_idem _ _), ρ3, S', _, _, k3, r2, q3, fun b S4 H4 e4 r4 h4 => ?_, fun _ _ _ _ _ _ _ _ z => z.elim⟩
    have D2 : H3 D = some (.lst accV) := e2.keep D _ eD nD (fun _ z => nomatch z)
    have D4 : H4 D = some (.lst accV) := e4.keep D _ D2 nD (fun _ z => nomatch z)
    have nD4 : S4 D = none := by
      cases q : S4 D with
      | none => rfl
      | some u => exact (e4.new D nD (by rw [q]; exact fun z => nomatch z) _ D2 (fun _ z => nomatch z)).elim
    have e14 := (e'.trans e2).trans e4
    cases b with
    | false =>
      rw [if_neg Bool.false_ne_true] at h4
      refine L2.iteF ?_
      exact ⟨S4, acc, accV, r4, e14, nD4, D4, Rels.imm ((e2.trans e4).imm r') _ _ ra, h4⟩
    | true =>
      rw [if_pos rfl] at h4
      refine L2.iteT ?_
      refine ⟨ρ3, S4, _, _, k3.imm (e4.imm r2), r4, h4, fun d S5 v H5 e5 r5 q5 h5 => ?_, fun _ _ _ _ _ _ _ _ z => z.elim⟩
      have D5 : H5 D = some (.lst accV) := e5.keep D _ D4 nD4 (fun _ z => nomatch z)
      have nD5 : S5 D = none := by
        cases q : S5 D with
        | none => rfl
        | some u => exact (e5.new D nD4 (by rw [q]; exact fun z => nomatch z) _ D4 (fun _ z => nomatch z)).elim
      have ra5 : Rels K H5 acc accV := Rels.imm (((e2.trans e4).trans e5).imm r') _ _ ra
      have iU : Imm H5 (upd H5 D (.lst (accV ++ [v]))) := upd_immS D5 rfl
      refine ⟨accV, D5, by rw [← ra5.length]; exact h5.1, S5, acc ++ [d], accV ++ [v], fun b u q => ?_, ⟨fun b o q n nt => ?_, (e14.trans e5).new⟩, nD5, upd_same, Rels.append (Rels.imm iU _ _ ra5) (Rels.mk1 (Rel.imm iU _ _ q5)), h5.2⟩
      · have hb : b ≠ D := fun z => by subst z; rw [nD5] at q; cases q
        exact (r5 b u q).imm iU fun w q => by rw [upd_ne hb]; exact q
      · have hb : b ≠ D := fun z => by subst z; rw [hD] at q; cases q
        rw [upd_ne hb]
        exact (e14.trans e5).keep b o q n nt
  · have ei : i = ds.length := by omega
    subst ei
    rw [List.drop_length] at h'
    obtain ⟨sl, h'⟩ := h'
    obtain ⟨xs', q', rs'⟩ := atL r' sl
    refine .inl ⟨⟨xs', q', by rw [rs'.length]; exact Nat.le_refl _⟩, ?_⟩
    have id : Imm H' (delH' H' D) := fun b o q mq => by
      have hb : b ≠ D := fun z => by subst z; rw [eD] at q; cases q; cases mq
      exact (if_neg hb : delH' H' D b = H' b).trans q
    have rd : SRel K S' (delH' H' D) := fun b u q => by
      have hb : b ≠ D := fun z => by subst z; rw [nD] at q; cases q
      exact (r' b u q).imm id fun w q => (if_neg hb : delH' H' D b = H' b).trans q
    have ed : Evo S1 H S' (delH' H' D) := ⟨fun b o q n nt => by
      have hb : b ≠ D := fun z => by subst z; rw [hD] at q; cases q
      exact (if_neg hb : delH' H' D b = H' b).trans (e'.keep b o q n nt), e'.new⟩
    have fin := hm S' (delH' H' D) acc accV D Qd Q rd (if_pos rfl) (Rels.imm id _ _ ra) h' (lq1.mono ed)
    rw [delH'_upd eD] at fin
    exact fin
section
variable {X : Cx} {W W1 W2 : WX} {pos : Pos} {elt tg : Expr} {ifs : List Expr} {scope : Scope} {own : List (Str × Nat)} {g : DG} {tt : TG} {t : EB} {f : ET} {mk : MkT}
theorem e_live {j : Nat} {x : Str} {px : Pos} (hm : MkOk X.K mk) (hc : X.calm = true) (hN : X.N.Nodup) (hv : PE X (.Name x px) (tVar j)) (ok : BlkOk X.N X.env.scope scope own) (hmono : TgMono tt) (htg : TgOk X.K (own.map (·.2)) tt g)
    (hg : ∀ (s : Shared) (H : Hp) (C : Addr) (cl : List (Str × Addr)) (fp : List Addr), PG (X.blk s H scope (compEnvC scope cl C X.env) fp) tg tt) (ht : ∀ (s : Shared) (H : Hp) (C : Addr) (cl : List (Str × Addr)) (fp : List Addr), PTs (X.blk s H scope (compEnvC scope cl C X.env) fp) ifs (rdB X.K W1 t))
    (he : ∀ (s : Shared) (H : Hp) (C : Addr) (cl : List (Str × Addr)) (fp : List Addr), PE (X.blk s H scope (compEnvC scope cl C X.env) fp) elt (rdE X.K W2 f)) (hs : ∀ y, foldedSetIterable (.Name x px) X.env y = pure y := by intro _; rfl) :
    PE X (.ListComp elt [⟨tg, .Name x px, ifs, 0⟩] scope pos) (rdE X.K W (evLive mk j g t f (own.map (·.2)))) :=
  PE_imp (pe_fz (pe_lc hc hN (pi_seq hv) ok hg ht he hs)) (lc_live hm hmono htg)
end
end MP

set_option Elab.async false
set_option linter.all false
set_option maxRecDepth 100000
set_option maxHeartbeats 2100000
/-! MPStepB: more lemmas to step through a mirror. -/
namespace MP
open PySem PySem.Spec PyProof.Rows L2 MP
variable {ρ : MP.Env} {S : Store} {Q : Post} {E : XPost} {d x y : D} {i j : Int} {mk : MkT}
theorem gAddT_i (q : Q (.int (i + j)) S) : gAddT mk (.int i) (.int j) S Q := q
theorem gAddT_s {a b : Str} (e : a.length + b.length ≤ sizeLine) (q : Q (.str (a ++ b)) S) : gAddT mk (.str a) (.str b) S Q := ⟨e, q⟩
theorem gAddT_l {a b : List D} (e : a.length + b.length ≤ sizeLine) (q : mk (a ++ b) S Q) : gAddT mk (.lst a) (.lst b) S Q := ⟨e, q⟩
theorem gLen_s {z : Str} (e : z.length ≤ sizeLine) (q : Q (.int z.length) S) : gLen [.str z] S Q := ⟨e, q⟩
/-- a value without a thing of the store or of the module at its head -/
def tyN : D → String
  | .non => "NoneType"
  | .bl _ => "bool"
  | .int _ => "int"
  | .str _ => "str"
  | .tup _ => "tuple"
  | .lst _ => "list"
  | .dct _ _ => "dict"
  | _ => ""
def Val : D → Prop
  | .non => True
  | .bl _ => True
  | .int _ => True
  | .str _ => True
  | .tup _ => True
  | .lst _ => True
  | .dct _ _ => True
  | _ => False
theorem Val.vw (h : Val d) : vw d S = d := by cases d <;> first | exact h.elim | rfl
theorem isi_v {sub : Value → Value → Option Bool} {ex : Addr → Bool} {n : String} {b : Bool} (h : Val d) (eb : kitB (tyN d) n = some b) (q : Q (.bl b) S) : gIsi sub ex [d, .ty n] S Q := by
  cases d <;> first | exact h.elim | exact gIsi_t rfl rfl eb q
def isStr : D → Bool
  | .str _ => true
  | _ => false
def isTup : D → Bool
  | .tup _ => true
  | _ => false
def isLst : D → Bool
  | .lst _ => true
  | _ => false
def isBl : D → Bool
  | .bl _ => true
  | _ => false
def isNum : D → Bool
  | .int _ => true
  | .bl _ => true
  | _ => false
theorem isi_str {sub : Value → Value → Option Bool} {ex : Addr → Bool} (h : Val d) (q : Q (.bl (isStr d)) S) : gIsi sub ex [d, .ty "str"] S Q := by
  cases d <;> first | exact h.elim | exact isi_v h rfl q
theorem isi_tup {sub : Value → Value → Option Bool} {ex : Addr → Bool} (h : Val d) (q : Q (.bl (isTup d)) S) : gIsi sub ex [d, .ty "tuple"] S Q := by
  cases d <;> first | exact h.elim | exact isi_v h rfl q
theorem isi_lst {sub : Value → Value → Option Bool} {ex : Addr → Bool} (h : Val d) (q : Q (.bl (isLst d)) S) : gIsi sub ex [d, .ty "list"] S Q := by
  cases d <;> first | exact h.elim | exact isi_v h rfl q
theorem isi_bl {sub : Value → Value → Option Bool} {ex : Addr → Bool} (h : Val d) (q : Q (.bl (isBl d)) S) : gIsi sub ex [d, .ty "bool"] S Q := by
  cases d <;> first | exact h.elim | exact isi_v h rfl q
theorem isi_int {sub : Value → Value → Option Bool} {ex : Addr → Bool} (h : Val d) (q : Q (.bl (isNum d)) S) : gIsi sub ex [d, .ty "int"] S Q := by
  cases d <;> first | exact h.elim | exact isi_v h rfl q
/-! «in» -/
theorem inC_lst {neg : Bool} {ys : List D} (h1 : flatD x = true) (h2 : ys.all flatD = true) (q : Q (.bl (if neg then !inD x ys else inD x ys)) S) : gInC neg x (.lst ys) S Q := .inl ⟨h1, h2, q⟩
theorem inC_tup {neg : Bool} {ys : List D} (h1 : flatD x = true) (h2 : ys.all flatD = true) (q : Q (.bl (if neg then !inD x ys else inD x ys)) S) : gInC neg x (.tup ys) S Q := .inl ⟨h1, h2, q⟩
theorem inC_sign {neg : Bool} {c : Nat} {z : Str} (q : Q (.bl (if neg then !decide (c ∈ z.cps.toList) else decide (c ∈ z.cps.toList))) S) : gInC neg (.str ⟨#[c]⟩) (.str z) S Q := .inl q
theorem inC_dct {neg : Bool} {ks : List Key} {ds : List D} {k : Key} (e : vw y S = .dct ks ds) (hk : keyD x = some k) (q : Q (.bl (if neg then !(dlook ks ds k).isSome else (dlook ks ds k).isSome)) S) : gInC neg x y S Q := by
  refine .inl ?_
  unfold gInB
  rw [e]
  show (match keyD x with
    | some k => Q (.bl (if neg then !(dlook ks ds k).isSome else (dlook ks ds k).isSome)) S
    | none => False)
  rw [hk]
  exact q
theorem gGet_i {ks : List Key} {ds : List D} {k : Key} {z r : D} (e : vw d S = .dct ks ds) (hk : keyD y = some k) (er : (dlook ks ds k).getD z = r) (q : Q r S) : gGet d y z S Q := by
  unfold gGet
  rw [e]
  show (match keyD y with
    | some k => Q ((dlook ks ds k).getD z) S
    | none => False)
  rw [hk]
  show Q ((dlook ks ds k).getD z) S
  rw [er]
  exact q
theorem signs_enc (x : Str) : signs x = x.cps.toList.map fun c => D.str ⟨#[c]⟩ := rfl
theorem sign_lay (c : Nat) (h : c < 0x110000) : True := trivial
/-! ### a list against the empty one, whatever it holds -/
def rNil (K : PySem.W.Frag) (neg : Bool) : R2 := fun x y H Q => ∃ a b xs, x = .ref a ∧ y = .ref b ∧ SqL K H a xs ∧ SqL K H b [] ∧ Q (.bl (if neg then !xs.isEmpty else xs.isEmpty)) H
theorem op_eqNil {X : Cx} (hu : X.A.units < cLine) : OpR X (compareOp .Eq) (rNil X.K false) := by
  intro pnl s σ H x y v u Q I rx ry ⟨a, b, xs, ex, ey, ha, hb, q⟩
  subst ex ey
  cases rx
  cases ry
  have ⟨i1, r1, p1, _⟩ := I.list ha
  have ⟨i2, r2, p2, _⟩ := I.list hb
  cases r2
  cases xs with
  | nil =>
    cases r1
    exact SeqAt.eq_listAt (e := fun _ => true) p1.isList p2.isList rfl hu (fun j h1 => by cases h1) ⟨.bl true, H, I, rfl, q⟩
  | cons z r =>
    cases r1
    exact SeqAt.eq_list_lengthsAt p1.isList p2.isList (by simp) hu ⟨.bl false, H, I, rfl, q⟩
theorem op_neNil {X : Cx} (hu : X.A.units < cLine) : OpR X (compareOp .NotEq) (rNil X.K true) := by
  intro pnl s σ H x y v u Q I rx ry ⟨a, b, xs, ex, ey, ha, hb, q⟩
  subst ex ey
  cases rx
  cases ry
  have ⟨i1, r1, p1, _⟩ := I.list ha
  have ⟨i2, r2, p2, _⟩ := I.list hb
  cases r2
  cases xs with
  | nil =>
    cases r1
    exact SeqAt.RcNeAt.lists (e := fun _ => true) p1.isList p2.isList rfl hu (fun j h1 => by cases h1) X.prog X.w _ _ ⟨.bl false, H, I, rfl, q⟩
  | cons z r =>
    cases r1
    exact SeqAt.RcNeAt.lists_lengths p1.isList p2.isList (by simp) hu X.prog X.w _ _ ⟨.bl true, H, I, rfl, q⟩
def gNil (g : G2) (neg : Bool) : G2 := fun x y S Q => g x y S Q ∨ ∃ xs, vw x S = .lst xs ∧ vw y S = .lst [] ∧ Q (.bl (if neg then !xs.isEmpty else xs.isEmpty)) S
theorem d_nil {K : PySem.W.Frag} {r : R2} {g : G2} {neg : Bool} (h : OpD K r g) : OpD K (fun x y H Q => r x y H Q ∨ rNil K neg x y H Q) (gNil g neg) := by
  intro x y S H dx dy Qd Q hS rx ry hg l
  rcases hg with hg | ⟨xs, e1, e2, q⟩
  · exact .inl (h x y S H dx dy Qd Q hS rx ry hg l)
  · obtain ⟨a, vs, rfl, ha, rs⟩ := vw_lst hS rx e1
    obtain ⟨b, ws, rfl, hb, rt⟩ := vw_lst hS ry e2
    have ew : ws = [] := rt
    subst ew
    have ei : xs.isEmpty = vs.isEmpty := by
      have := rs.length
      cases xs <;> cases vs <;> first | rfl | cases this
    rw [ei] at q
    exact .inr ⟨a, b, vs, rfl, rfl, .inl ha, .inl hb, l.fz hS (d := .bl _) rfl q⟩
abbrev gEqE : G2 := gNil gEq false
abbrev gNeE : G2 := gNil gNe true
theorem op_eqE {X : Cx} (hu : X.A.units + 64 < cLine) : OpR X (compareOp .Eq) (fun x y H Q => rEqA X.K x y H Q ∨ rNil X.K false x y H Q) := OpR.or (op_eqA hu) (op_eqNil (by omega))
theorem op_neE {X : Cx} (hu : X.A.units + 64 < cLine) : OpR X (compareOp .NotEq) (fun x y H Q => rNeA X.K x y H Q ∨ rNil X.K true x y H Q) := OpR.or (op_neA hu) (op_neNil (by omega))
theorem bools_nil {K : PySem.W.Frag} {r : R2} {neg : Bool} (h : Bools r) : Bools (fun x y H Q => r x y H Q ∨ rNil K neg x y H Q) := fun x y H Q z => z.elim (fun z => .inl (h x y H Q z)) fun ⟨a, b, xs, e1, e2, h1, h2, q⟩ => .inr ⟨a, b, xs, e1, e2, h1, h2, fz_bl q⟩
theorem gEqE_nil {xs : List D} (e : vw d S = .lst xs) (q : Q (.bl xs.isEmpty) S) : gEqE d (.lst []) S Q := .inr ⟨xs, e, rfl, q⟩
theorem gNeE_nil {xs : List D} (e : vw d S = .lst xs) (q : Q (.bl (!xs.isEmpty)) S) : gNeE d (.lst []) S Q := .inr ⟨xs, e, rfl, q⟩
theorem gEqE_i (q : Q (.bl (i == j)) S) : gEqE (.int i) (.int j) S Q := .inl ⟨rfl, rfl, q⟩
theorem gNeE_i (q : Q (.bl (!(i == j))) S) : gNeE (.int i) (.int j) S Q := .inl ⟨rfl, rfl, q⟩
theorem gEqE_s {a b : Str} (q : Q (.bl (a == b)) S) : gEqE (.str a) (.str b) S Q := .inl q
theorem gNeE_s {a b : Str} (q : Q (.bl (!(a == b))) S) : gNeE (.str a) (.str b) S Q := .inl q
end MP

set_option Elab.async false
set_option linter.all false
set_option maxRecDepth 100000
set_option maxHeartbeats 2100000
/-! MPLam: a lambda handed to a def that calls it in a try and keeps the exception. -/
namespace MP
open PySem PySem.Spec PyProof.Rows L2 MP LamX
/-- an exception is met where the frame has its whole length -/
theorem takes_len {X : Cx} {W : WX} (t : Takes X W) : Takes X (fun c d σ H => σ.length = X.N.length → W c d σ H) := fun u s' ⟨a, B, sI, pins, σ, H, cls, d, e, I, nb, up, sky, na, os, ag, w⟩ =>
  t u s' ⟨a, B, sI, pins, σ, H, cls, d, e, I, nb, up, sky, na, os, ag, w I.len⟩
/-- what such a def makes of the lambda's reading -/
def TKept (K : PySem.W.Frag) (c : Value) : (XK → Hp → VK → Prop) → Hp → VK → Prop := fun tl H Q =>
  tl (fun cls d H' => ∃ b, PySem.W.exmOne K cls c = some b ∧ (b = true → ∀ a, H' a = none → Q (.ref a) (upd H' a (exT cls d a))) ∧ (b = false → False)) H fun _ H' => Q .non H'
theorem kept_gives {X : Cx} {Ng : List Str} {x a e y xs q : Str} {sg : Scope} {g : Addr} {c cdg : Value} {i j k : Nat} {p1 p2 p3 p4 p5 p6 p7 p8 p9 p10 p11 p12 p13 p14 : Pos} (hN : Ng.Nodup) (hi : Ng[i]? = some e) (hj : Ng[j]? = some y) (hij : i ≠ j) (h0j : 0 ≠ j) (hl0 : 0 < Ng.length)
    (he : sg.names.lookup e = some .local) (hy : sg.names.lookup y = some .local) (hx : sg.names.lookup xs = some .globalImplicit) (hmx : X.mg xs = some c) (hdx : (xs == ("__debug__" : Str)) = false := by decide)
    (hde : (e == ("__debug__" : Str)) = false := by decide) (hdc : (e == ("__classdict__" : Str)) = false := by decide) (hdy : (y == ("__debug__" : Str)) = false := by decide) (hdyc : (y == ("__classdict__" : Str)) = false := by decide) :
    GivesTo X Ng x sg g cdg [.Assign [.Name y p1] (.Constant .none k p2) p3, .Try [.Expr (.Call (.Name a p4) [] [] p5) p6] [.ExceptHandler (some (.Name xs p7)) (some e) [.Assign [.Name y p8] (.Name e p9) p10] p11] [] [] p12, .Return (some (.Name y p13)) p14] a q (TKept X.K c) := by
  intro f c' s H Q tl act hc h
  let Z := (cxOf C8.CX0 X.prog X.w X.K X.mg X.base Ng x sg g cdg X.A X.stack s H C8.E0).nox
  have hgl : Gl Z xs := hx
  have gt : ∀ (l : L2.St), l.length = Ng.length → ∀ v : V, (((l.set i (some v)).set j (some v)).set i none)[j]? = some (some v) := fun l hl v => by
    have hjl : j < l.length := by rw [hl]; exact (List.getElem?_eq_some_iff.mp hj).1
    rw [List.getElem?_set_ne hij, List.getElem?_set_self (by simpa using hjl)]
  refine ⟨_, pss_cons (ps_set (X := Z) (i := j) hN hj (Or.inl hy) pe_non (hf := .inr hy)) (pss_cons (ps_try_keep (X := Z) (i := i) (j := j) (c := c)
      (tb := fun W D σ H => ∃ Ech : XK, (∀ cls d σ' H', Ech cls d H' → σ'.length = Ng.length → W cls d σ' H') ∧ σ[0]? = some (some (.ref f)) ∧ H c' = some (CodeO c' q) ∧ tl Ech H fun _ H' => D.nx σ H')
      rfl rfl hN hi he hj hy hij ⟨hgl, hdx, .inl hmx⟩ LamX.takes0 (fun W pn xe tk _ => ?_) hde hdc) (pss_one (ps_ret (pe_var (i := j) hj (.inl hy) hdy hdyc)))), ?_⟩
  · refine ⟨fun pins s' σ H' D I h' => ?_⟩
    obtain ⟨Ech, hW, h1, h2, h3⟩ := h'
    have hp := act (fun cls d σ' H' => σ'.length = Ng.length → W cls d σ' H') pn xe Ech p4 p5 (takes_len tk) hW
    have hq := pss_one (ps_expr (pos := p6) hp)
    exact hq.run pins s' σ H' D I ⟨h1, h2, h3⟩
  · have hjl : j < (L2.start Ng [V.ref f]).length := by
      have h1 := (List.getElem?_eq_some_iff.mp hj).1
      have h2 : (L2.start Ng [V.ref f]).length = Ng.length := by
        show (([V.ref f]).map some ++ List.replicate (Ng.length - 1) none).length = _
        simp
        omega
      omega
    have eQ : (fun (_ : V) (H' : Hp) => tRet (tVar j) { nx := fun _ H' => Q .non H', rt := Q } ((L2.start Ng [V.ref f]).set j (some V.non)) H') = fun _ H' => Q .non H' := by
      funext v H'
      apply propext
      show (∃ v, ((L2.start Ng [V.ref f]).set j (some V.non))[j]? = some (some v) ∧ Q v H') ↔ _
      rw [List.getElem?_set_self hjl]
      exact ⟨fun ⟨v, e, z⟩ => by cases e; exact z, fun z => ⟨_, rfl, z⟩⟩
    have h' : tl (fun cls d H' => ∃ b, PySem.W.exmOne X.K cls c = some b ∧ (b = true → ∀ a, H' a = none → Q (.ref a) (upd H' a (exT cls d a))) ∧ (b = false → False)) H fun _ H' => Q .non H' := h
    rw [← eQ] at h'
    refine ⟨_, fun cls d σ' H' z hl => ?_, ?_, hc, h'⟩
    · obtain ⟨b, e1, e2, e3⟩ := z
      exact ⟨b, e1, fun hb a' ha => ⟨_, gt σ' hl _, e2 hb a' ha⟩, fun hb => e3 hb⟩
    · show ((L2.start Ng [V.ref f]).set j (some V.non))[0]? = _
      rw [List.getElem?_set_ne (Ne.symm h0j)]
      rfl
def evLam (P : Addr) (q : Str) (catch_ : Value → Option Bool) (f : ET) : ET := fun ρ S Q _ => S P = some (.tab q) ∧ f ρ S (fun _ S' => Q .non S') fun x S' => match catch_ x.cls with
  | some true => ∀ a, Q (.exn x.cls a x.ks x.xs) S'
  | _ => False
theorem e_lam {X : Cx} {W : WX} {x a : Str} {g cc P : Addr} {c : Value} {k : Nat} {pg : Arguments} {bg : List Stmt} {sg : Scope} {dV kV doc pm cdv ct oc : Value} {an od : Option Addr} {osl : Array (Option Value)} {Ng : List Str} {catch_ : Value → Option Bool} {f : ET}
    {params : Arguments} {body : Expr} {scope : Scope} {p lpos pos : Pos} (hg : Gl X x) (hm : X.mg x = some (.ref g)) (hk : PySem.W.keepIn X.K (.ref g) = true)
    (lk : X.K.lookup g = some ⟨oc, od, .func (PySem.W.fnOf x x pg bg sg dV kV doc pm an cdv ct), osl⟩) (hcg : PySem.W.codeIn X.K cdv x = true) (hb : L2.Binds X.K (PySem.W.fnOf x x pg bg sg dV kV doc pm an cdv ct) [a] []) (Sg : FnScope Ng [a] sg) (hNg : Ng[0]? = some a) (hva : Vis sg a)
    (hG : GivesTo X Ng x sg g cdv bg a (X.env.qual ++ "<lambda>") (TKept X.K c)) (hcatch : ∀ cls b, catch_ cls = some b → PySem.W.exmOne X.K cls c = some b)
    (TB : TabB X.base X.mg cc P) (hcode : X.env.code = .ref cc) (hr : Room (k + 2) X.A) (L : LamS X.env.scope scope) (hdef : defaultsOf params X.env = ([], []))
    (hbind : ∀ (q : Str) (cl : List (Str × Addr)) (pm cv ctv : Value), bindArgs (PySem.W.kla_fn "<lambda>" q params body scope cl pm cv ctv) ⟨[], []⟩ = pure [])
    (hbody : ∀ (A : Around) (outer : List PySem.Env) (s : Shared) (H : Hp) (E : XK) (fl c' : Addr), Room k (A.deeper (lamEnv X scope s.heap.objs.size fl c')) → PE (lamCx X A outer s H E scope fl c') body (rdE X.K (fun cls d _ H => E cls d H) f))
    (hdb : (x == ("__debug__" : Str)) = false := by decide) (hd : (a == ("__debug__" : Str)) = false := by decide) (hcd : (a == ("__classdict__" : Str)) = false := by decide) :
    PE X (.Call (.Name x p) [.Lambda params body scope lpos] [] pos) (rdE X.K W (evLam P (X.env.qual ++ "<lambda>") catch_ f)) := by
  refine ⟨fun pins s σ H Q I h => ?_⟩
  obtain ⟨ρ, S, Qd, Ed, hρ, hS, ⟨hP, hf⟩, lq, -⟩ := h
  let T : List (Addr × Str) := (List.range s.heap.objs.size).filterMap fun b => match S b with
    | some (.tab q) => some (b, q)
    | _ => none
  have inT : ∀ b q, S b = some (.tab q) → (b, q) ∈ T := fun b q e => by
    obtain ⟨ps, e1, -⟩ := hS b _ e
    have e2 : s.heap.get? b = some { cls := .none, data := .fields ps } := I.hok b _ e1
    exact List.mem_filterMap.mpr ⟨b, List.mem_range.mpr (Heap.lt_size e2), by simp only [e]⟩
  have ofT : ∀ z ∈ T, S z.1 = some (.tab z.2) := fun z hz => by
    obtain ⟨b, -, e⟩ := List.mem_filterMap.mp hz
    split at e
    · rename_i q eq
      cases e
      exact eq
    · cases e
  refine (pe_lamcall (T := T) (t := fun E => rdE X.K (fun cls d _ H => E cls d H) f) hg hm hk lk hcg hb Sg hNg hva hG TB hcode (inT P _ hP) (fun z hz e => ?_) hr L hdef hbind hbody hdb hd hcd).run pins s σ H Q I ⟨fun z hz => hS z.1 _ (ofT z hz), fun H1 eN T1 => ?_⟩
  · have h1 := ofT z hz
    rw [e, hP] at h1
    injection h1 with h1
    injection h1 with h1
    exact h1.symm
  have i1 : Imm H H1 := fun b o e m => eN b o e (nt_of m)
  have r1 : SRel X.K S H1 := fun b o e => by
    have z := hS b o e
    cases o with
    | tab q => exact T1 (b, q) (inT b q e)
    | lst ds => obtain ⟨xs, e1, rs⟩ := z; exact ⟨xs, eN b _ e1 (fun _ z => nomatch z), Rels.imm i1 _ _ rs⟩
    | dct ks ds => obtain ⟨xs, e1, l, rs⟩ := z; exact ⟨xs, eN b _ e1 (fun _ z => nomatch z), l, Rels.imm i1 _ _ rs⟩
    | ins C ks ds => obtain ⟨dx, xs, e1, e2, l, rs⟩ := z; exact ⟨dx, xs, eN b _ e1 (fun _ z => nomatch z), eN dx _ e2 (fun _ z => nomatch z), l, Rels.imm i1 _ _ rs⟩
  have ev : Evo S H S H1 := ⟨fun b o h _ nt => eN b o h nt, fun b n n2 => absurd n n2⟩
  refine ⟨ρ, S, fun _ S' => Qd .non S', _, hρ.imm i1, r1, hf, fun d S' v H' e r _ q => lq .non S' .non H' (ev.trans e) r rfl q, ?_⟩
  intro y S' cl dd H' e r ⟨ecl, vs, xa, l, rs⟩ q
  subst ecl
  cases ec : catch_ y.cls with
  | none => rw [ec] at q; exact q.elim
  | some bb =>
    rw [ec] at q
    cases bb with
    | false => exact q.elim
    | true =>
      refine ⟨true, hcatch _ _ ec, fun _ b hb => ?_, fun z => nomatch z⟩
      exact lq (.exn y.cls b y.ks y.xs) S' (.ref b) _ ((ev.trans e).trans (evo_new hb)) (r.upd_new hb) ⟨rfl, dd, vs, upd_same, (upd_imm hb).xd xa, l, Rels.imm (upd_imm hb) _ _ rs⟩ (q b)
theorem evLam_i {P : Addr} {qn : Str} {catch_ : Value → Option Bool} {f : ET} {ρ : MP.Env} {S : Store} {Q : Post} {E : XPost} (h : S P = some (.tab qn)) (q : f ρ S (fun _ S' => Q .non S') (fun x S' => match catch_ x.cls with
  | some true => ∀ a, Q (.exn x.cls a x.ks x.xs) S'
  | _ => False)) : evLam P qn catch_ f ρ S Q E := ⟨h, q⟩
end MP

set_option Elab.async false
set_option linter.all false
set_option maxRecDepth 100000
set_option maxHeartbeats 2100000
/-! MPSup: a class of errors whose __init__ says super().__init__(text), then sets fields. -/
namespace MP
open PySem PySem.Spec PySem.Calls PyProof.Rows L2 MP NdefX
/-- what the written part says of such a class -/
structure SupF (P : Program) (K : PySem.W.Frag) (cda cc C : Addr) : Prop where
  code : ∃ cl d vs sl file tf, K.lookup cda = some ⟨cl, d, .fields vs, sl⟩ ∧ vs[2]? = some (.str file tf) ∧ ((P.main.file : Str) == file) = true
  cell : ∃ cl d sl, K.lookup cc = some ⟨cl, d, .cell (some (.ref C)), sl⟩
  own : PySem.W.mroIn K C (.ref C) = some true
  top : (P.main.scope.names.lookup ("super" : Str)).isSome = false
  opq : PySem.W.nsIn K cStatics "thirdparty.any" = some none
  sup : PySem.W.ks_superIn K C C "__init__" = some (some (.builtin "ValueError.__init__"))
  ve : PySem.W.subIn K (.ref C) (.type "ValueError") = some true
/-- the bound __init__ called -/
theorem call_mw {X : Cx} {pins : List (Addr × Obj)} {σ : L2.St} {H : Hp} {s : Shared} {a C u : Addr} {us : List Value} {Q : Value → Shared → Prop} {E : Value → Shared → Prop} {A : Around} (T : OexC X.K C) (I : Inv X pins σ H s)
    (e : H a = some (exo a C none)) (hu : s.heap.get? u = some (PySem.W.kxs_mw "ValueError.__init__" a)) (hl : us.length ≤ sizeLine) (h : ∀ s', Inv X pins σ H s' → Q .none s') : wpAny (model X.prog X.w) A (call (.ref u) us) Q E s := by
  obtain ⟨nm, q, N, bs, bm, sn, sub, ab, col, dd, k0, k1, k2, k3, k5, hC, hbm⟩ := T.cls
  obtain ⟨t1, ho⟩ := exo_at I.hok e
  obtain ⟨hp, g, d, t, os⟩ := s
  refine wpAny_call (codeAny_of_tree ?_)
  show wpAny _ A.in1 (callAny (.ref u) ⟨us, []⟩) _ _ _
  simp only [callAny]
  refine wpAny_bind (wpAny_load hu ?_)
  simp only [PySem.W.kxs_mw, show (Value.type "method-wrapper" == Value.type "method" || Value.type "method-wrapper" == Value.type "builtin_function_or_method" || Value.type "method-wrapper" == Value.type "method-wrapper") = true by decide, if_true]
  refine PySem.W.KFB.if_so (by decide) ?_
  refine wpAny_bind (PySem.W.check_bound_init F.excBase_ValueError.toExcCallFacts (I.kIn _ _ hC) ho rfl ?_)
  refine wpAny_bind (wpAny_pure (wpAny_pure ?_))
  refine ⟨plainId_quiet F.excBase_ValueError.init.plain _, codeAny_builtin F.excBase_ValueError.initEntry ?_⟩
  rw [Around.under_plainId F.excBase_ValueError.init.plain _]
  wp_walk
  have eu : upd H a (exo a C none) = H := by
    funext b
    by_cases hb : b = a
    · rw [hb, upd_same, e]
    · rw [upd_ne hb]
  have fin : ∀ h' t2, (∀ b o, b ≠ a → hp.get? b = some o → h'.get? b = some o) → h'.get? a = some (PySem.HandSPX.excO C t2) → Q .none ⟨h', g, d, t, os⟩ := fun h' t2 k hx => by
    have J := I.write (t' := t) (x := a) (e := a) (o := exo a C none) (by rw [e]; exact True.intro) (.inl rfl) k ⟨_, hx⟩ (exo_ok hx)
    rw [eu] at J
    exact h _ J
  refine fin _ hp.objs.size (fun b o hb hbo => ?_) ?_
  · rw [Heap.get?_update_other _ _ (Ne.symm hb)]
    exact Heap.get?_push_of_some _ hbo
  · rw [Heap.get?_update_self _ (Heap.get?_push_of_some _ ho) rfl]
    rfl
/-- the statement super().__init__('text') -/
theorem sup_step {X : Cx} {pins : List (Addr × Obj)} {σ : L2.St} {H : Hp} {s : Shared} {q : Str} {scope : Scope} {L f cda cc C a : Addr} {body : List Stmt} {o : Obj} {fd : FuncData} {ar : Arg} {text : Str} {j : Nat} {p0 p1 p2 p3 p4 p5 : Pos}
    (hX : X.env = PySem.W.ksEnv q scope L f (.ref cda) cc) (I : Inv X pins σ H s) (T : OexC X.K C) (G : SupF X.prog X.K cda cc C) (lk : X.K.lookup f = some o) (hfd : o.data = .func fd) (hp : (fd.params.posonlyargs ++ fd.params.args).head? = some ar)
    (hm : X.mg "super" = none) (hk : scope.kind = .function) (hks : scope.names.lookup ("super" : Str) = some .globalImplicit) (hkc : scope.names.lookup ("__class__" : Str) = some .free) (hka : scope.names.lookup ar.arg = some .local)
    (hN : X.N[0]? = some ar.arg) (hσ : σ[0]? = some (some (.ref a))) (ha : H a = some (exo a C none)) {pl : Sem Bool}
    (he : eval (.Call (.Attribute (.Call (.Name "super" p0) [] [] p1) "__init__" p2) [.Constant (.str text) j p3] [] p4) (PySem.W.ksEnv q scope L f (.ref cda) cc) = (do
      let ov ← attributeBase (.Call (.Name "super" p0) [] [] p1) "__init__" (PySem.W.ksEnv q scope L f (.ref cda) cc) (eval (.Call (.Name "super" p0) [] [] p1) (PySem.W.ksEnv q scope L f (.ref cda) cc))
      standAt p2.atName
      let (ff, first) ← holding [ov] (getMethod ov "__init__" pl)
      callWith p4 ff first (backTo p4 (starEach [.Constant (.str text) j p3] (PySem.W.ksEnv q scope L f (.ref cda) cc))) []) := by rfl) :
    _root_.PySem.wpAt (model X.prog X.w) X.A (.func body (PySem.W.ksEnv q scope L f (.ref cda) cc)) (exec (.Expr (.Call (.Attribute (.Call (.Name "super" p0) [] [] p1) "__init__" p2) [.Constant (.str text) j p3] [] p4) p5) (PySem.W.ksEnv q scope L f (.ref cda) cc))
      (fun fl s' => fl = .next ∧ Inv X pins σ H s') X.xe s := by
  obtain ⟨ccl, cdd, vs, ccs, file, tf, hcode, hvs, hfile⟩ := G.code
  obtain ⟨cl, cld, csl, hcell⟩ := G.cell
  obtain ⟨nm, qq, NN, bs, bm, sn, sub, ab, col, dd, k0, k1, k2, k3, k5, hC, hbm⟩ := T.cls
  have hcl : PySem.W.clsIn X.K C = some { name := nm, bases := bs, mro := .ref C :: bm, ns := NN, qualname := qq, hasDict := true, slotNames := sn, subclasses := sub, abstract := ab, collection := col, hasDel := false } := by unfold PySem.W.clsIn; rw [hC] <;> rfl
  have KX := I.kIn
  obtain ⟨mb, hb1, hb2⟩ := I.mod.blt
  obtain ⟨m, hns, hloc⟩ := I.loc
  rw [hX] at hns hloc
  obtain ⟨u0, ru, hu⟩ := hloc 0 ar.arg (.ref a) hN hσ (.inl hka)
  obtain rfl : u0 = Value.ref a := ru
  have hma : m ar.arg = some (.ref a) := by
    rcases hu with ⟨_, z⟩ | ⟨z, _⟩
    · exact z
    · have z1 : scope.names.lookup ar.arg = some .cell ∨ scope.names.lookup ar.arg = some .free := z
      rw [hka] at z1
      rcases z1 with z1 | z1 <;> cases z1
  have hq := I.quiet
  rw [hX] at hq
  refine ks_wpAt_Expr_any (hi := hq) (ks_wpAt_MethodCall (he := he) (ks_wpAt_super_base (env := PySem.W.ksEnv q scope L f (.ref cda) cc) hks hkc rfl rfl (KX _ _ lk) hfd hp rfl (KX _ _ hcode) rfl hvs hfile G.top ?_))
  refine PySem.W.ks_loadName_global hk hks (Calls.loadGlobal_builtin (env := PySem.W.ksEnv q scope L f (.ref cda) cc) (I.mod.glob.keeps I.bk) hm (hb1.keeps I.bk) ((hb2 "super" (by decide)).trans (show bootBuiltins "super" = some (.type "super") from by decide +kernel)) ⟨rfl, ?_⟩)
  refine wpAny_loadName_free hk hkc rfl ⟨_, KX _ _ hcell, rfl⟩ ?_
  refine wpAny_loadName_local hk hka hns hma ?_
  obtain ⟨t1, ho⟩ := exo_at I.hok ha
  refine ks_wpAny_isType_cls (KX _ _ hC) rfl ⟨rfl, ?_⟩
  obtain ⟨hh, g, d, t, os⟩ := s
  refine ks_wpAny_call_super (KX _ _ hC) rfl ho rfl (fun c z => by cases z) (PySem.W.looks_mroIn KX G.own) (fun h1 e1 k1 => ?_)
  have I1 : Inv X pins σ H ⟨h1, g, d, t, os⟩ := I.kept (t' := t) k1
  have ho1 := k1 _ _ ho
  have KX1 := I1.kIn
  have hI : PySem.W.Looks (model X.prog X.w) h1 (isInstance (.ref a) (.type "ValueError")) true :=
    PySem.W.InstAt.type (ox := { cls := .ref C, dict := none, data := .fields #[.ref t1, .none, .none, .none, .bool false, .none] }) (od := none) ⟨ho1, rfl, rfl, trivial⟩ |>.andThen (PySem.W.looks_subIn KX1 G.ve)
  have hne : a ≠ C := PySem.W.ks_ne KX1 (ox := { cls := .ref C, dict := none, data := .fields #[.ref t1, .none, .none, .none, .bool false, .none] }) (odx := none) ⟨ho1, rfl, rfl, trivial⟩ hcl
  have hsp : PySem.W.alongIn X.K "__init__" (((Value.ref C :: bm).dropWhile (· != .ref C)).drop 1) = some (some (.builtin "ValueError.__init__")) := by
    have z := G.sup
    unfold PySem.W.ks_superIn at z
    rw [hcl] at z
    exact z
  refine PySem.W.kxs_getMethod PySem.W.kxs_ValueError e1 (PySem.W.looks_opaque KX1 G.opq) (l₀ := .ref C :: bm) (fun A Q E s k q => wpAny_bind ((PySem.W.looks_clsIn KX1 hcl) A _ E s k (wpAny_pure q))) rfl KX1 hsp hI hne rfl ?_
  have I2 : Inv X pins σ H ⟨h1.push (PySem.W.kxs_mw "ValueError.__init__" a), g, d, t + 1, os⟩ := I1.kept (t' := t + 1) fun b u e => Heap.get?_push_of_some _ e
  have hget : (h1.push (PySem.W.kxs_mw "ValueError.__init__" a)).get? h1.objs.size = some (PySem.W.kxs_mw "ValueError.__init__" a) := Heap.get?_push_at rfl rfl
  have I3 : Inv X ((h1.objs.size, PySem.W.kxs_mw "ValueError.__init__" a) :: pins) σ H ⟨h1.push (PySem.W.kxs_mw "ValueError.__init__" a), g, d, t + 1, os⟩ := I2.pins_of fun p hp => by
    rcases List.mem_cons.mp hp with rfl | hp
    · exact ⟨hget, I1.hok.fresh (Nat.le_refl _), fun z => absurd I1.lt (by rw [← z]; exact Nat.lt_irrefl _), I1.nofs (Nat.le_refl _), fun v z => by cases z⟩
    · exact I2.pin p (List.mem_append_right _ hp)
  show wpAny _ _ (callWith p4 (Value.ref h1.objs.size) [] (backTo p4 (starEach [Expr.Constant (.str text) j p3] (PySem.W.ksEnv q scope L f (.ref cda) cc))) []) _ _ _
  have pa : PA X [Expr.Constant (.str text) j p3] (tCons (tC (.str text)) tNil) := pa_cons pe_str pa_nil
  refine PySem.W.kxs_callWith (i := "ValueError.__init__") (x := a) rfl ?_
  have run := pa.run p4 _ _ σ H (fun vs H' => H' = H ∧ vs.length = 1) I3 ⟨rfl, rfl⟩
  rw [hX] at run
  refine evalArgs_plain (thn run fun us s4 ⟨vs, H4, I4, r4, e4, l4⟩ => ?_)
  subst e4
  obtain ⟨hu4, _⟩ := I4.pin (h1.objs.size, PySem.W.kxs_mw "ValueError.__init__" a) (List.mem_append_right _ List.mem_cons_self)
  refine ⟨hu4, call_mw T I4 ha hu4 (by show us.length ≤ sizeLine; rw [← Paired.length r4, l4, sizeLine_eq]; decide) fun s5 I5 => ⟨rfl, I5.pins_of fun p hp => I5.pin p (List.mem_append_right _ (List.mem_cons_of_mem _ ?_))⟩⟩
  exact hp
/-- self.f = f, for the parameters in their order from the i-th on -/
inductive Sets (me : Str) (N : List Str) (sc : Scope) : Nat → List Stmt → List Str → Prop
  | nil {i : Nat} : Sets me N sc i [] []
  | cons {i : Nat} {f y : Str} {r : List Stmt} {fs : List Str} {q1 q2 q3 q4 : Pos} (hy : N[i]? = some y) (hl : sc.names.lookup y = some .local) (h1 : (y == ("__debug__" : Str)) = false) (h2 : (y == ("__classdict__" : Str)) = false) (t : Sets me N sc (i + 1) r fs) :
    Sets me N sc i (.Assign [.Attribute (.Name me q1) f q2] (.Name y q3) q4 :: r) (f :: fs)
theorem upd_ba {H : Hp} {a d : Addr} {o1 o2 o3 : HO} (h : d ≠ a) : upd (upd (upd H d o1) a o2) d o3 = upd (upd H d o3) a o2 := by
  funext b
  by_cases hb : b = d
  · subst hb
    rw [upd_same, upd_ne h, upd_same]
  · by_cases hc : b = a
    · subst hc
      rw [upd_ne hb, upd_same, upd_same]
    · rw [upd_ne hb, upd_ne hc, upd_ne hb, upd_ne hc, upd_ne hb]
/-- what is wanted of the fields' statements: at first, and behind the first one -/
def tSets (C a : Addr) (H0 : Hp) (zs : List (Str × V)) (D : Ends) (σ : L2.St) (H : Hp) : Prop :=
  (∃ l d, H0 d = none ∧ d ≠ a ∧ H = upd (upd H0 d (exd d l)) a (exo a C (some d)) ∧ l.length + zs.length ≤ 900 ∧ D.nx σ (upd (upd H0 d (exd d (zs.reverse ++ l))) a (exo a C (some d)))) ∨
  (zs ≠ [] ∧ zs.length ≤ 900 ∧ H = H0 ∧ H0 a = some (exo a C none) ∧ ∀ d, H0 d = none → d ≠ a → D.nx σ (upd (upd H0 d (exd d zs.reverse)) a (exo a C (some d))))
theorem sets_ok {X : Cx} {me : Str} {C a : Addr} {H0 : Hp} (T : OexC X.K C) (hme : X.N[0]? = some me) (hml : X.env.scope.names.lookup me = some .local) (hm1 : (me == ("__debug__" : Str)) = false) (hm2 : (me == ("__classdict__" : Str)) = false) :
    ∀ {i : Nat} {r : List Stmt} {fs : List Str}, Sets me X.N X.env.scope i r fs → (∀ f ∈ fs, PySem.W.findIn X.K (.ref C) f = some none) →
      PSs X r (fun D σ H => ∃ ys, ys.length = fs.length ∧ σ[0]? = some (some (.ref a)) ∧ (∀ (k : Nat) (y : V), ys[k]? = some y → σ[i + k]? = some (some y)) ∧ tSets C a H0 (fs.zip ys) D σ H)
  | i, _, _, .nil, _ => PSs_imp pss_nil fun D σ H ⟨ys, hl, h0, hk, h⟩ => by
    rcases h with ⟨l, d, hd, hne, e, _, q⟩ | ⟨h, _⟩
    · subst e
      exact q
    · exact absurd rfl h
  | i, _, _, .cons (f := f) (y := y) (fs := fs) hy hl h1 h2 t, hno => by
    refine PSs_imp (pss_cons (ps_ost (pe_var (X := X) (i := 0) hme (.inl hml) hm1 hm2) (pe_var (X := X) (i := i) hy (.inl hl) h1 h2)) (sets_ok (a := a) (H0 := H0) T hme hml hm1 hm2 t fun g hg => hno g (List.mem_cons_of_mem _ hg))) fun D σ H ⟨ys, hl, h0, hk, h⟩ => ?_
    cases ys with
    | nil => cases hl
    | cons y0 ys =>
    have hl' : ys.length = fs.length := by simpa using hl
    have hk' : ∀ (k : Nat) (y : V), ys[k]? = some y → σ[i + 1 + k]? = some (some y) := fun k y e => by
      have z := hk (k + 1) y (by simpa using e)
      rw [show i + (k + 1) = i + 1 + k by omega] at z
      exact z
    have hy0 : σ[i]? = some (some y0) := hk 0 y0 rfl
    refine ⟨y0, hy0, .ref a, h0, a, C, rfl, T, hno f List.mem_cons_self, ?_⟩
    have hz : (f :: fs).zip (y0 :: ys) = (f, y0) :: fs.zip ys := rfl
    rw [hz] at h
    rcases h with ⟨l, d, hd, hne, e, hle, q⟩ | ⟨_, hle, e, ha, q⟩
    · subst e
      refine .inr ⟨d, l, upd_same, by rw [upd_ne hne, upd_same], by simp at hle; omega, ys, hl', h0, hk', .inl ⟨(f, y0) :: l, d, hd, hne, ?_, by simp at hle ⊢; omega, ?_⟩⟩
      · exact upd_ba hne
      · rw [List.reverse_cons, List.append_assoc] at q
        exact q
    · subst e
      refine .inl ⟨ha, fun d hd hne => ⟨ys, hl', h0, hk', .inl ⟨[(f, y0)], d, hd, hne, rfl, by simp at hle ⊢; omega, ?_⟩⟩⟩
      have z := q d hd hne
      rw [List.reverse_cons] at z
      exact z
/-- what C's __init__ keeps -/
def spSup (C : Addr) (fs : List Str) : Sp := fun vs H Q _ => ∃ a ys, vs = .ref a :: ys ∧ ys.length = fs.length ∧ H a = some (exo a C none) ∧ ∀ d, H d = none → d ≠ a → Q .non (upd (upd H d (exd d (fs.zip ys).reverse)) a (exo a C (some d)))
theorem sup_ok {CX : CXT} {P : Program} {w : World} {K : PySem.W.Frag} {mg : Str → Option Value} {base : Heap} {k : Nat} {f C cda cc : Addr} {name qual me text : Str} {params : Arguments} {rest : List Stmt} {scope : Scope} {dV kV doc pm ct oc : Value} {an od : Option Addr}
    {osl : Array (Option Value)} {N ps fs : List Str} {ar : Arg} {j : Nat} {p0 p1 p2 p3 p4 p5 : Pos} {pl : Sem Bool} {body : List Stmt}
    (lk : K.lookup f = some ⟨oc, od, .func (PySem.W.ksFn name qual params body scope dV kV doc pm an (.ref cda) ct cc), osl⟩)
    (hbd : body = .Expr (.Call (.Attribute (.Call (.Name "super" p0) [] [] p1) "__init__" p2) [.Constant (.str text) j p3] [] p4) p5 :: rest) (hcd : PySem.W.codeIn K (.ref cda) qual = true) (S : NScope N ps ["__class__"] scope)
    (T : OexC K C) (G : SupF P K cda cc C) (hm : mg "super" = none) (hks : scope.names.lookup ("super" : Str) = some .globalImplicit) (hp : (params.posonlyargs ++ params.args).head? = some ar) (har : ar.arg = me) (hme : N[0]? = some me) (hps : ps.length = fs.length + 1)
    (hm1 : (me == ("__debug__" : Str)) = false) (hm2 : (me == ("__classdict__" : Str)) = false) (hS : Sets me N scope 1 rest fs) (hno : ∀ f ∈ fs, PySem.W.findIn K (.ref C) f = some none) (hne : fs ≠ []) (hfl : fs.length ≤ 900)
    (he : ∀ env : PySem.Env, eval (.Call (.Attribute (.Call (.Name "super" p0) [] [] p1) "__init__" p2) [.Constant (.str text) j p3] [] p4) env = (do
      let ov ← attributeBase (.Call (.Name "super" p0) [] [] p1) "__init__" env (eval (.Call (.Name "super" p0) [] [] p1) env)
      standAt p2.atName
      let (ff, first) ← holding [ov] (getMethod ov "__init__" pl)
      callWith p4 ff first (backTo p4 (starEach [.Constant (.str text) j p3] env)) []) := by intros; rfl) :
    FnOk P w K mg base CX (k + 1) f (PySem.W.ksFn name qual params body scope dV kV doc pm an (.ref cda) ct cc) ps (spSup C fs) := by
  subst hbd
  refine ⟨fun vs H Q E ⟨a, ys, e, l, _⟩ => by subst e; rw [List.length_cons, l, hps], fun A outer s H args us vs Q E hr e0 hb r hsp => ?_⟩
  obtain ⟨a, ys, rfl, hl, ha, hq⟩ := hsp
  have KX : K.In s.heap := e0.mod.kin.keeps fun b o e => (e0.bs b o e).1
  have lim : s.heap.NoLimit := e0.mod.nolimit.keeps fun b o e => (e0.bs b o e).1
  have hpl : 0 < ps.length := by omega
  obtain ⟨cl, cld, csl, hcell⟩ := G.cell
  have hcb := e0.bs _ _ (e0.mod.kin _ _ hcell)
  let F : NF := { name := name, qual := qual, params := params, body := [], scope := scope, cl := [("__class__", cc)], c := cda }
  have hfc : ∀ {y : Str} {c : Addr}, ([(("__class__" : Str), cc)] : List (Str × Addr)).lookup y = some c → y = "__class__" ∧ c = cc := fun {y c} e => by
    have z := PySem.mem_of_lookup e
    simpa using z
  have CA : CellsAt F.cl ["__class__"] [some (.ref C)] s.heap H := {
    len := rfl
    all := fun y c e => by
      obtain ⟨_, rfl⟩ := hfc e
      exact ⟨hcb.2, _, _, hcb.1, rfl⟩
    inj := fun x y c e1 e2 => by rw [(hfc e1).1, (hfc e2).1]
    has := fun i y e => by
      cases i with
      | zero =>
        cases e
        exact ⟨cc, rfl, fun v z => by cases z; exact ⟨.ref C, rfl, _, hcb.1, rfl⟩⟩
      | succ i => simp at e }
  refine ks_codeAny_call_defAt (fd := PySem.W.ksFn name qual params _ scope dV kV doc pm an (.ref cda) ct cc) (binds := ps.zip us) hr.depth (KX _ _ lk) rfl lim (PySem.W.codeRec_of KX hcd) rfl hb S.nocell (fun ⟨n, _⟩ hy => S.par n (List.of_mem_zip hy).1) (fun h₁ hns kp => ?_) S.co S.gen S.kind
  have I : Inv (ncx CX P w K mg base N F f A outer s H E) [] (startF N (.ref a :: ys) [some (.ref C)]) H { s with heap := h₁, toks := s.toks + (ps.zip us).length } := inv_startN S hr.hd e0 (by rw [List.length_cons, hl, hps]) r CA hns kp
  have hka : scope.names.lookup me = some .local := by
    refine S.par me ?_
    have z : (N.take (ps.length + 1))[0]? = some me := by rw [List.getElem?_take_of_lt (by omega)]; exact hme
    have zp := S.pre
    rw [show (["__class__"] : List Str).length = 1 from rfl] at zp
    rw [zp, List.getElem?_append_left hpl] at z
    exact List.mem_of_getElem? z
  show _root_.PySem.wpAt (model P w) (A.deeper (PySem.W.ksEnv qual scope s.heap.objs.size f (.ref cda) cc)) (.func _ (PySem.W.ksEnv qual scope s.heap.objs.size f (.ref cda) cc)) (execs _ (PySem.W.ksEnv qual scope s.heap.objs.size f (.ref cda) cc)) _ _ _
  refine ks_wpAt_execs_cons (ks_wpAt_mono (sup_step (X := ncx CX P w K mg base N F f A outer s H E) (a := a) rfl I T G lk rfl hp hm S.kind hks (S.frk _ List.mem_cons_self) (by rw [har]; exact hka) (by rw [har]; exact hme) rfl ha (he := he _)) (fun fl s' ⟨e, J⟩ => ?_) fun _ _ z => z)
  subst e
  refine wpAt_of_wpAny ?_
  have body := sets_ok (X := ncx CX P w K mg base N F f A outer s H E) (a := a) (H0 := H) T hme hka hm1 hm2 hS hno
  refine wpAny_mono (body.run [] s' _ H { nx := fun _ H' => Q .non H', rt := Q } J ⟨ys, hl, rfl, fun k y e => ?_, .inr ⟨?_, ?_, rfl, ha, hq⟩⟩) (fun fl s2 hs => ?_) fun e s2 hs => hs
  · have hk : k < ys.length := (List.getElem?_eq_some_iff.mp e).1
    show (startF N (.ref a :: ys) [some (.ref C)])[1 + k]? = _
    unfold startF
    rw [List.getElem?_append_left (by rw [List.length_map, List.length_cons]; omega), List.getElem?_map, Nat.add_comm 1 k, List.getElem?_cons_succ, e]
    rfl
  · intro z
    cases fs with
    | nil => exact hne rfl
    | cons g gs =>
      cases ys with
      | nil => cases hl
      | cons y ys => cases z
  · rw [List.length_zip]; omega
  · cases fl with
    | ret u =>
      obtain ⟨v, σ', H', J2, rv, q⟩ := hs
      exact ⟨v, H', J2.os, J2.bare, J2.base, J2.hok, rv, q⟩
    | next =>
      obtain ⟨σ', H', J2, q⟩ := hs
      exact ⟨V.non, H', J2.os, J2.bare, J2.base, J2.hok, rfl, q⟩
    | brk =>
      obtain ⟨_, _, _, q⟩ := hs
      exact False.elim q
    | cont =>
      obtain ⟨_, _, _, q⟩ := hs
      exact False.elim q
theorem zip_rev {α β : Type} : ∀ {xs : List α} {ys : List β}, xs.length = ys.length → (xs.zip ys).reverse = xs.reverse.zip ys.reverse
  | [], [], _ => rfl
  | x :: xs, y :: ys, h => by
    have h1 : xs.length = ys.length := by simpa using h
    rw [List.zip_cons_cons, List.reverse_cons, List.reverse_cons, List.reverse_cons, zip_rev h1, List.zip_append (by simpa using h1)]
    rfl
theorem Rels.rev {K : PySem.W.Frag} {H : Hp} : ∀ {ds : List D} {vs : List V}, Rels K H ds vs → Rels K H ds.reverse vs.reverse
  | [], _, h => by have e : _ = [] := h; subst e; exact rfl
  | d :: ds, _, ⟨v, r, e, h, t⟩ => by
    subst e
    rw [List.reverse_cons, List.reverse_cons]
    exact Rels.append (Rels.rev t) (Rels.mk1 h)
/-- raise C(e, ..), C's __init__ keeping its parameters as fields (the last one first) -/
def dRaiseI (C : Addr) (fs : List Str) (fa : EA) : ST := fun ρ S N => fa ρ S (fun ds S' => N.ex { cls := .ref C, ks := fs.reverse, xs := ds.reverse } ρ S') (fun x S' => N.ex x ρ S')
theorem dRaiseI_i {C : Addr} {fs : List Str} {fa : EA} {ρ : MP.Env} {S : Store} {N : DEnds} (q : fa ρ S (fun ds S' => N.ex { cls := .ref C, ks := fs.reverse, xs := ds.reverse } ρ S') (fun x S' => N.ex x ρ S')) : dRaiseI C fs fa ρ S N := q
theorem s_raise_init {X : Cx} {W : WX} {x : Str} {C fI : Addr} {k n : Nat} {fd : FuncData} {ps fs : List Str} {e : Expr} {es : List Expr} {fa : EA} {p pos pos2 : Pos} (hc : X.calm = true) (tk : Takes X W) (T : OexC X.K C) (iC : PySem.W.findIn X.K (.ref C) "__init__" = some (some (.ref fI)))
    (tI : PySem.W.typeIn X.K (.ref fI) = some (.type "function")) (F1 : FnOk X.prog X.w X.K X.mg X.base (L2.CX X.prog X.w) k fI fd ps (spSup C fs)) (hr : Room (k + 1) X.A) (hb : Binds X.K fd ps []) (hg : Gl X x) (hm : X.mg x = some (.ref C))
    (ha : PA X (e :: es) (rdA X.K W n fa)) (hn : n = fs.length) (hfl : fs.length ≤ 900) (hne : fs ≠ []) (hdb : (x == ("__debug__" : Str)) = false := by decide) (he : starEach (e :: es) X.env = (false, eval e X.env) :: starEach es X.env := by rfl)
    (hpl : (backTo pos (starEach es X.env)).any (·.1) = false := by rfl) :
    PS X (.Raise (some (.Call (.Name x p) (e :: es) [] pos)) none pos2) (rdS X.K W (dRaiseI C fs fa)) :=
  PS_imp (ps_raise hc tk (pmk_oex (dvs := []) (ds := []) T iC tI F1 hr hb .nil (passes_call tk fun _ _ _ _ z => z.elim) hg hm ha hdb he hpl)) fun D σ H ⟨ρ, S, N, hρ, hS, hf, l⟩ => by
    refine ⟨ρ, S, _, _, hρ, hS, hf, fun ds S1 vs H1 e1 r1 q1 hl h1 => ?_, l.lx hS hρ⟩
    have hvl : vs.length = fs.length := by rw [← q1.length, hl, hn]
    refine ⟨by omega, fun a ha => ⟨a, vs, by rw [List.append_nil], hvl, upd_same, fun d hd hda => ?_⟩⟩
    have hd1 : H1 d = none := by rwa [upd_ne hda] at hd
    refine ⟨rfl, d, _, upd_same, by rw [upd_ne hda, upd_same], hd1, ?_⟩
    have eh : ∀ (o1 o2 o3 o4 : HO), upd (L2.del (upd (upd (upd H1 a o1) d o2) a o3) a) d o4 = upd H1 d o4 := fun o1 o2 o3 o4 => by
      funext b
      by_cases hb : b = d
      · rw [hb, upd_same, upd_same]
      · rw [upd_ne hb, upd_ne hb]
        by_cases hb2 : b = a
        · rw [hb2, del_same, ha]
        · rw [del_ne hb2, upd_ne hb2, upd_ne hb, upd_ne hb2]
    rw [eh]
    refine l.ex _ ρ S1 (.ref C) (some d) σ _ (e1.trans (evo_new hd1)) (r1.upd_new hd1) ((hρ.imm (e1.imm hS)).imm (upd_imm hd1)) ⟨rfl, vs.reverse, .inr ⟨d, rfl, ?_, ?_⟩, ?_, (Rels.imm (upd_imm hd1) _ _ q1).rev⟩ h1
    · intro z
      exact hne (by simpa using z)
    · rw [upd_same, zip_rev hvl.symm]
    · rw [List.length_reverse, List.length_reverse, hl, hn]
end MP

set_option Elab.async false
set_option linter.all false
set_option maxRecDepth 100000
set_option maxHeartbeats 2100000
/-! MPTab: the law's row where defs make lambdas: their code objects' tables are known to be empty at the start. -/
namespace MP
open PySem PySem.Spec PyProof.Rows L2 MP
/-- the script and the tables alone are known -/
def OnlyT (ps : List Addr) (H : Hp) : Prop := ∀ b, b ∉ ps → H b = none ∨ ∃ o xs, H b = some (.frz o (.lst xs))
abbrev noTab : Obj := { cls := .none, data := .fields #[] }
section
variable {P : Program} {w : World} {K : PySem.W.Frag} {mg mb : Str → Option Value} {CX : CXT} {k : Nat} {fa a : Addr} {fd : FuncData} {x : Str} {sp : L2.Sp} {s1 : Shared} {vs : List Value} {ns : List Int} {ts : List (Addr × Addr)}
theorem start_heap (P : Program) (w : World) (KX : K.In s1.heap) (ha : s1.heap.get? a = some { cls := .type "list", data := .seq vs.toArray }) (hi : IntsAre vs ns) (hl : ns.length ≤ sizeLine) (ps : List Addr) (hT : ∀ p ∈ ps, s1.heap.get? p = some noTab) :
    ∃ H : Hp, OnlyT ps H ∧ (∀ p ∈ ps, H p = some (.tbl #[])) ∧ SqL K H a (ns.map V.int) ∧ HOk P w H s1.heap ∧ (∀ b, H b ≠ none → (b = a ∧ K.lookup a = none) ∨ b ∈ ps) := by
  have rv := vals_ints hi
  have off : a ∉ ps := fun z => by
    have y := hT a z
    rw [ha] at y
    exact nomatch (congrArg Obj.data (Option.some.inj y) : Data.seq vs.toArray _ = Data.fields #[])
  cases hk : K.lookup a with
  | some o =>
    have e := KX a o hk
    rw [ha] at e
    have eo := Option.some.inj e
    subst eo
    refine ⟨fun b => if b ∈ ps then some (.tbl #[]) else none, fun b n => .inl (if_neg n), fun p h => if_pos h, .inr ⟨_, vs.toArray, _, hk, rfl, rfl, rfl, ?_, by simpa using rv⟩, ?_, ?_⟩
    · rw [List.size_toArray]
      exact hi.length.symm ▸ hl
    · intro b u z
      by_cases h : b ∈ ps
      · have z' := (if_pos h).symm.trans z
        have eu := Option.some.inj z'
        subst eu
        exact hT b h
      · exact nomatch (if_neg h).symm.trans z
    · intro b z
      by_cases h : b ∈ ps
      · exact .inr h
      · exact absurd (if_neg h) z
  | none =>
    let it : HO := .frz { cls := .type "list", data := .seq vs.toArray } (.lst (ns.map V.int))
    let H : Hp := fun b => if b ∈ ps then some (.tbl #[]) else if b = a then some it else none
    have at_a : H a = some it := (if_neg off).trans (if_pos rfl)
    have at_p : ∀ p ∈ ps, H p = some (.tbl #[]) := fun p h => if_pos h
    have at_n : ∀ b, b ∉ ps → b ≠ a → H b = none := fun b h1 h2 => (if_neg h1).trans (if_neg h2)
    refine ⟨H, fun b n => ?_, at_p, .inl (.inr ⟨_, at_a⟩), fun b u z => ?_, fun b z => ?_⟩
    · by_cases h : b = a
      · exact .inr ⟨_, _, by rw [h]; exact at_a⟩
      · exact .inl (at_n b n h)
    · by_cases h : b ∈ ps
      · have eu := Option.some.inj ((at_p b h).symm.trans z)
        subst eu
        exact hT b h
      · by_cases h2 : b = a
        · subst h2
          have eu := Option.some.inj (at_a.symm.trans z)
          subst eu
          exact ⟨ha, (List.length_map ..).symm ▸ hl, vs, _, rv, ha⟩
        · exact nomatch (at_n b h h2).symm.trans z
    · by_cases h : b ∈ ps
      · exact .inr h
      · by_cases h2 : b = a
        · exact .inl ⟨h2, rfl⟩
        · exact absurd (at_n b h h2) z
theorem quiet_callT (KX : K.In s1.heap) (hns : s1.heap.Ns mainGlobals mg) (hb : s1.heap.Ns builtinsNs mb) (hbb : ∀ x : Str, x ≠ "__name__" → mb x = bootBuiltins x) (noLim : s1.heap.NoLimit) (noGen : s1.gens = #[])
    (hT : ∀ p ∈ ts, s1.heap.get? p.2 = some noTab) (nT : ∀ p ∈ ts, K.lookup p.2 = none) (hC : ∀ p ∈ ts, PySem.W.CodeHd s1.heap p.1 p.2)
    (hbm : ∃ (bm : Addr) (ob : Obj), mg "__builtins__" = some (.ref bm) ∧ bm ≠ builtinsNs ∧ s1.heap.get? bm = some ob ∧ ob.cls = .type "module" ∧ ob.dict = some builtinsNs ∧ ob.data = .plain)
    (ha : s1.heap.get? a = some { cls := .type "list", data := .seq vs.toArray }) (hi : IntsAre vs ns) (hl : ns.length ≤ sizeLine) (hr : Room k callerA)
    (F : ∀ base : Heap, K.In base → base.Ns mainGlobals mg → (∀ p ∈ ts, LamX.TabB base mg p.1 p.2) → Quiet P w K mg base CX k fa fd [x] sp) (hbind : ∀ (s : Shared) (u : Value), BindsTo s fd ⟨[u], []⟩ [(x, u)])
    (holds : ∀ H : Hp, OnlyT (ts.map (·.2)) H → (∀ p ∈ ts, H p.2 = some (.tbl #[])) → SqL K H a (ns.map V.int) → sp [.ref a] H (fun v _ => v = .bl true) fun _ _ _ => False)
    (hCX : ∀ H e s', CX [] H s1 (fun _ _ _ => False) e s' → False) :
    codeAny (model P w) callerA (.call (.ref fa) ⟨[.ref a], []⟩) (fun r s' => r = .ok (.ret (.bool true)) ∧ OldK s1.heap s'.heap ∧ s'.os = s1.os ∧ AllBare s'.gens) s1 := by
  have toP : ∀ p ∈ ts, p.2 ∈ ts.map (·.2) := fun p hp => List.mem_map.mpr ⟨p, hp, rfl⟩
  have ofP : ∀ b ∈ ts.map (·.2), ∃ p ∈ ts, p.2 = b := fun b hb => let ⟨p, hp, e⟩ := List.mem_map.mp hb; ⟨p, hp, e⟩
  obtain ⟨H, hO, hP, hS, hok, hA⟩ := start_heap P w KX ha hi hl (ts.map (·.2)) fun b hb => let ⟨p, hp, e⟩ := ofP b hb; e ▸ hT p hp
  have hP2 : ∀ p ∈ ts, H p.2 = some (.tbl #[]) := fun p hp => hP _ (toP p hp)
  -- what is neither a list nor an empty record is in the base
  have free : ∀ {b : Addr} {o : Obj}, s1.heap.get? b = some o → (∀ vs n, o.data ≠ .seq vs n) → o.data ≠ .fields #[] → H b = none := fun {b o} e h1 h2 => Classical.byContradiction fun z => by
    rcases hA b z with ⟨eb, _⟩ | hb
    · subst eb
      rw [ha] at e
      cases e
      exact h1 _ _ rfl
    · obtain ⟨p, hp, e2⟩ := ofP b hb
      subst e2
      rw [hT p hp] at e
      cases e
      exact h2 rfl
  have nsB : ∀ {b : Addr} {m : Str → Option Value}, s1.heap.Ns b m → (hidT s1.heap H).Ns b m := fun ⟨o, es, ep, e, d, r⟩ => ⟨o, es, ep, hidT_get e (free e (fun vs n z => by rw [d] at z; cases z) fun z => by rw [d] at z; cases z), d, r⟩
  have inB : K.In (hidT s1.heap H) := fun b o e => hidT_get (KX b o e) (Classical.byContradiction fun z => by
    rcases hA b z with ⟨eb, en⟩ | hb
    · subst eb
      rw [en] at e
      exact nomatch e
    · obtain ⟨p, hp, e2⟩ := ofP b hb
      subst e2
      rw [nT p hp] at e
      exact nomatch e)
  have md : Mod K mg (hidT s1.heap H) := ⟨inB, nsB hns, ⟨mb, nsB hb, hbb⟩, let ⟨mc, h1, h2⟩ := noLim; ⟨mc, nsB h1, h2⟩⟩
  have tb : ∀ p ∈ ts, LamX.TabB (hidT s1.heap H) mg p.1 p.2 := fun p hp => by
    refine ⟨?_, ?_, fun z => ?_⟩
    · obtain ⟨o, us, file, tf, flags, tg, inF, text, tt, e1, r1, r2, r3, r⟩ := hC p hp
      refine ⟨o, us, file, tf, flags, tg, inF, text, tt, hidT_get e1 (free e1 (fun vs n z => ?_) fun z => ?_), r1, r2, r3, r⟩
      · rw [r2] at z; cases z
      · rw [r2] at z
        cases z
        simp at r3
    · obtain ⟨bm, ob, b1, b2, b3, b4, b5, b6⟩ := hbm
      refine ⟨bm, ob, b1, b2, fun q => ?_, fun q => ?_, hidT_get b3 (free b3 (fun vs n z => ?_) fun z => ?_), b4, b5, b6⟩
      · obtain ⟨o, es, ep, e, hd, _⟩ := hns
        rw [q, e] at b3
        cases b3
        rw [hd] at b6
        cases b6
      · rw [q, hT p hp] at b3
        cases b3
        cases b6
      · rw [b6] at z; cases z
      · rw [b6] at z; cases z
    · obtain ⟨o, es, ep, e, hd, _⟩ := hns
      rw [z, hT p hp] at e
      cases e
      cases hd
  have e0 : Env0 P w K mg (hidT s1.heap H) callerA [] s1 H := ⟨rfl, md, fun b o e => of_hidT e, Nat.le_of_eq (hidT_size _ _), trivial, (fun b hb => absurd (show b ∈ ([] : List Addr) from hb) List.not_mem_nil), hok, .of_eq noGen⟩
  apply codeAny_mono (F _ inB (nsB hns) tb callerA rfl [] s1 H ⟨[.ref a], []⟩ [.ref a] [.ref a] _ _ hr e0 (hbind s1 (.ref a)) (.cons rfl .nil) (holds H hO hP2 hS))
  intro r s' h
  match r, h with
  | .error e, h => exact (hCX H e s' h).elim
  | .ok .next, h => exact h.elim
  | .ok .brk, h => exact h.elim
  | .ok .cont, h => exact h.elim
  | .ok (.ret u), ⟨v, H', os, bare, un, hok', r', q⟩ =>
    have ev : v = .bl true := q
    subst ev
    have eu : u = Value.bool true := r'
    subst eu
    have same : ∀ b o, b ∉ ts.map (·.2) → s1.heap.get? b = some o → s'.heap.get? b = some o := fun b o nb e => by
      cases q : H b with
      | none => exact un.keep b o e q (fun z => by cases (z : b ∈ ([] : List Addr))) (fun z => by cases z)
      | some u =>
        rcases hO b nb with z | ⟨ob, ys, z⟩
        · rw [q] at z
          cases z
        · have ⟨e1, _⟩ := hok b _ z
          have ⟨e2, _⟩ := hok' b _ (un.frzs b ob _ z)
          rw [e] at e1
          rw [Option.some.inj e1]
          exact e2
    have more : ∀ p ∈ ts, ∃ ps : Array Value, s'.heap.get? p.2 = some { cls := .none, data := .fields ps } := fun p hp => by
      obtain ⟨m, z⟩ := un.tbls p.2 #[] (hP2 p hp)
      exact ⟨_, hok' p.2 _ z⟩
    refine ⟨rfl, ⟨fun b o e => ?_, fun b o e => ?_⟩, os, bare⟩
    · by_cases hb : b ∈ ts.map (·.2)
      · obtain ⟨p, hp, eb⟩ := ofP b hb
        subst eb
        obtain ⟨ps, hm⟩ := more p hp
        rw [hT p hp] at e
        cases e
        exact .inr (.inl ⟨((hC p hp).tab (hT p hp)).isCodeTable, rfl, #[], ps, rfl, by rw [Array.empty_append]; exact hm⟩)
      · exact .inl (same b o hb e)
    · by_cases hb : b ∈ ts.map (·.2)
      · obtain ⟨p, hp, eb⟩ := ofP b hb
        subst eb
        obtain ⟨ps, hm⟩ := more p hp
        exact ⟨_, hm⟩
      · exact ⟨o, same b o hb e⟩
end
/-- what the head knows of all defs' tables -/
def TabT (q : Program) (mg : Str → Option Value) (h : Heap) : Prop := ∀ d ∈ recsOf q, ∃ a o fd c P, mg d.name = some (.ref a) ∧ h.get? a = some o ∧ o.data = .func fd ∧ fd.code = .ref c ∧ h.IsCode c P #[] ∧ h.TableAt c P #[]
theorem tab_at {q : Program} {mg : Str → Option Value} {h : Heap} {K : PySem.W.Frag} {x : Str} {f c P : Addr} {oc e : Value} {od dd : Option Addr} {osl sl : Array (Option Value)} {fd : FuncData} {us : Array Value} (T : TabT q mg h) (X : K.In h) (hm : mg x = some (.ref f)) (hrec : ((recsOf q).any fun e => e.name == x) = true)
    (lk : K.lookup f = some ⟨oc, od, .func fd, osl⟩) (hcd : fd.code = .ref c) (lc : K.lookup c = some ⟨e, dd, .fields us, sl⟩) (hP : us[11]? = some (.ref P)) : PySem.W.CodeHd h c P ∧ h.get? P = some noTab := by
  obtain ⟨d, hd, hn⟩ := List.any_eq_true.mp hrec
  have hn2 : d.name = x := beq_iff_eq.mp hn
  obtain ⟨a', o', fd', c', P', h1, h2, h3, h4, h5, h6⟩ := T d hd
  rw [hn2, hm] at h1
  cases h1
  rw [X _ _ lk] at h2
  cases h2
  cases h3
  rw [hcd] at h4
  cases h4
  have h6' := h6
  obtain ⟨⟨oo, vc, e1, _, e3, e4⟩, hp⟩ := h6'
  rw [X _ _ lc] at e1
  cases e1
  cases e3
  rw [hP] at e4
  cases e4
  exact ⟨PySem.W.CodeHd.of h5 h6, hp⟩
/-- what the law's def must promise at the head's heap h -/
def LawQ (l : PySem.W.OpenLaw) (w : World) (K : PySem.W.Frag) (k n : Nat) (x : Str) (mg : Str → Option Value) (fa : Addr) (h : Heap) : Prop :=
  ∃ (fd : FuncData) (ts : List (Addr × Addr)) (sp : L2.Sp), (∀ p ∈ ts, PySem.W.CodeHd h p.1 p.2 ∧ h.get? p.2 = some noTab) ∧ (∀ p ∈ ts, K.lookup p.2 = none) ∧ (∀ (s : Shared) (u : Value), BindsTo s fd ⟨[u], []⟩ [(x, u)]) ∧
    (∀ (H : Hp) (a : Addr) (ns : List Int), ns.length ≤ n → (∀ z ∈ ns, Builtin.Int.intBits z ≤ 1048576) → OnlyT (ts.map (·.2)) H → (∀ p ∈ ts, H p.2 = some (.tbl #[])) → SqL K H a (ns.map V.int) → sp [.ref a] H (fun v _ => v = .bl true) fun _ _ _ => False) ∧
    ∀ base : Heap, K.In base → base.Ns mainGlobals mg → (∀ p ∈ ts, LamX.TabB base mg p.1 p.2) → Quiet l.prog w K mg base (L2.CX l.prog w) k fa fd [x] sp
theorem walk_quietT {l : PySem.W.OpenLaw} {n k : Nat} {q : Program} {loose : List Str} {XP : (Str → Option Value) → Heap → Prop} {YP : World → Heap → Prop} {d : DefRec} {K : Params → PySem.W.Frag} {x : Str}
    (hn : l.most = some n) (hn2 : n ≤ sizeLine) (hdf : d.params.defaults = []) (hr : Room k callerA) (inK : ∀ (w : World) (h : Heap), YP w h → (K w.params).In h)
    (F : ∀ (w : World) (mg : Str → Option Value) (fa : Addr) (h : Heap), (K w.params).In h → h.Ns mainGlobals mg → TabT q mg h → mg d.name = some (.ref fa) → LawQ l w (K w.params) k n x mg fa h) : PySem.W.WalkO q loose XP YP (l.row.toRowW) d [] (fun f vs => PySem.call f vs) := by
  refine Att.attach_callB hn hdf fun w s₀ s₁ mg mb fa o pm cd doc a vs ns G Y ho hd hcd hmg hobj hints hlen hbits hg => ?_
  have KX := inK w _ Y
  obtain ⟨fd, ts, sp, hC, nT, hb, hsp, hF⟩ := F w mg fa _ KX G.T.g G.T.tab hmg
  refine quiet_callT KX G.T.g G.T.b G.T.builtins G.T.nolimit hg (fun p hp => (hC p hp).2) nT (fun p hp => (hC p hp).1) G.T.bmain hobj hints (Nat.le_trans hlen hn2) hr hF hb (fun H hO hP hS => hsp H a ns hlen hbits hO hP hS) fun H e s' z => ?_
  obtain ⟨_, _, _, _, _, _, _, _, _, _, _, _, z⟩ := z
  exact z
/-- the store that shows the tables -/
def tabS (ts : List (Addr × Str)) : Store := fun a => (ts.lookup a).map SO.tab
theorem tab_mem {a : Addr} {q : Str} : ∀ {ts : List (Addr × Str)}, ts.lookup a = some q → (a, q) ∈ ts
  | [], h => nomatch h
  | (b, y) :: r, h => by
    by_cases e : a = b
    · subst e
      rw [List.lookup_cons_self] at h
      cases h
      exact List.mem_cons_self
    · have e2 : (a == b) = false := by simpa using e
      rw [List.lookup_cons, e2] at h
      exact List.mem_cons_of_mem _ (tab_mem h)
theorem tabS_rel {K : PySem.W.Frag} {H : Hp} {ts : List (Addr × Str)} (h : ∀ p ∈ ts, H p.1 = some (.tbl #[])) : SRel K (tabS ts) H := fun a o e => by
  obtain ⟨q, e1, e2⟩ := Option.map_eq_some_iff.mp e
  subst e2
  exact ⟨#[], h (a, q) (tab_mem e1), trivial, fun pos cv z => by simp [codeAmong] at z⟩
end MP

set_option Elab.async false
set_option linter.all false
set_option maxRecDepth 100000
set_option maxHeartbeats 2100000
/-! MPPlus: is of bools, sorted texts, join, name += e, a field of a kept error, a lambda's maker. -/
namespace MP
open PySem PySem.Spec PyProof.Rows L2 MP
/-! ### is, is not: None, bools -/
def isG (f : Bool → Bool) : G2 := fun x y S Q => match y with
  | .non => Q (.bl (f (isNon x))) S
  | .bl b => match x with
    | .bl a => Q (.bl (f (decide (a = b)))) S
    | _ => False
  | _ => False
def gIsA : G2 := isG fun b => b
def gIsnA : G2 := isG fun b => !b
def rIsA : R2 := fun x y H Q => rIsN x y H Q ∨ rIsB x y H Q
def rIsnA : R2 := fun x y H Q => rIsnN x y H Q ∨ rNotB x y H Q
theorem op_isAA {X : Cx} : OpR X (compareOp .Is) rIsA := OpR.or op_isN op_isBl
theorem op_isnAA {X : Cx} : OpR X (compareOp .IsNot) rIsnA := OpR.or op_notN op_notBl
theorem d_isAA {K : PySem.W.Frag} : OpD K rIsA gIsA := by
  intro x y S H dx dy Qd Q hS rx ry h l
  unfold gIsA isG at h
  split at h
  · exact .inl ⟨ry, by rw [isNon_rel rx]; exact l.fz hS (d := .bl _) rfl h⟩
  · split at h
    · exact .inr ⟨_, _, rx, ry, l.fz hS (d := .bl _) rfl h⟩
    · exact h.elim
  · exact h.elim
theorem d_isnAA {K : PySem.W.Frag} : OpD K rIsnA gIsnA := by
  intro x y S H dx dy Qd Q hS rx ry h l
  unfold gIsnA isG at h
  split at h
  · exact .inl ⟨ry, by rw [isNon_rel rx]; exact l.fz hS (d := .bl _) rfl h⟩
  · split at h
    · exact .inr ⟨_, _, rx, ry, l.fz hS (d := .bl _) rfl h⟩
    · exact h.elim
  · exact h.elim
theorem bools_isAA : Bools rIsA := fun x y H Q h => h.elim (fun z => .inl ⟨z.1, fz_bl z.2⟩) fun ⟨a, b, e1, e2, z⟩ => .inr ⟨a, b, e1, e2, fz_bl z⟩
theorem bools_isnAA : Bools rIsnA := fun x y H Q h => h.elim (fun z => .inl ⟨z.1, fz_bl z.2⟩) fun ⟨a, b, e1, e2, z⟩ => .inr ⟨a, b, e1, e2, fz_bl z⟩
/-! ### texts in a row -/
def strs? : List D → Option (List Str)
  | [] => some []
  | .str x :: r => (strs? r).map (x :: ·)
  | _ :: _ => none
theorem strs_map : ∀ zs : List Str, strs? (zs.map D.str) = some zs
  | [] => rfl
  | z :: r => by show (strs? (r.map D.str)).map (z :: ·) = _; rw [strs_map r]; rfl
theorem strs_cons {d : D} {ds : List D} {zs : List Str} (e : strs? (d :: ds) = some zs) : ∃ x us, d = .str x ∧ strs? ds = some us ∧ zs = x :: us := by
  unfold strs? at e
  split at e
  · rename_i h; cases h
  · rename_i x r h
    cases h
    obtain ⟨us, e2, e3⟩ := Option.map_eq_some_iff.mp e
    exact ⟨x, us, rfl, e2, e3.symm⟩
  · cases e
theorem strs_rel {K : PySem.W.Frag} {H : Hp} : ∀ {ds : List D} {vs : List V} {zs : List Str}, Rels K H ds vs → strs? ds = some zs → vs = zs.map V.str := by
  intro ds
  induction ds with
  | nil =>
    intro vs zs r e
    have e' : some [] = some zs := e
    cases e'
    exact r
  | cons d ds ih =>
    intro vs zs r e
    obtain ⟨x, us, rfl, e2, rfl⟩ := strs_cons e
    obtain ⟨v, r, e1, h, t⟩ := r
    subst e1
    have ev : v = V.str x := h
    rw [ev, ih t e2]
    rfl
theorem rels_strs {K : PySem.W.Frag} {H : Hp} : ∀ zs : List Str, Rels K H (zs.map D.str) (zs.map V.str)
  | [] => rfl
  | z :: r => ⟨.str z, r.map V.str, rfl, rfl, rels_strs r⟩
def lstW (d : D) : Option (List D) := match d with
  | .lst xs => some xs
  | .kls xs => some xs
  | _ => none
theorem lstW_rel {K : PySem.W.Frag} {S : Store} {H : Hp} {d : D} {v : V} {xs : List D} (hS : SRel K S H) (r : Rel K H d v) (e : lstW (vw d S) = some xs) : ∃ a vs, v = .ref a ∧ SqL K H a vs ∧ Rels K H xs vs := by
  unfold lstW at e
  split at e
  · rename_i ys ey
    cases e
    obtain ⟨a, vs, ea, ha, rs⟩ := vw_lst hS r ey
    exact ⟨a, vs, ea, .inl ha, rs⟩
  · rename_i ys ey
    cases e
    obtain ⟨a, vs, ea, ha, rs⟩ := vw_kls hS r ey
    exact ⟨a, vs, ea, ha, rs⟩
  · cases e
/-- sorted of a list of texts -/
def gSortS (mk : MkT) : GA := fun ds S Q => match ds with
  | [d] => match (lstW (vw d S)).bind strs? with
    | some zs => zs.length < 64 ∧ ∀ ys : List Str, ys.Perm zs → sortedS ys = true → mk (ys.map D.str) S Q
    | none => False
  | _ => False
theorem d_sortS {K : PySem.W.Frag} {mk : MkT} (hm : MkOk K mk) : CallD K (rSortedS K) (gSortS mk) := by
  intro xs S H ds Qd Q hS r h l
  unfold gSortS at h
  split at h
  · obtain ⟨v, rfl, rv⟩ := rels1 r
    split at h
    · rename_i zs e
      obtain ⟨ys, e1, e2⟩ := Option.bind_eq_some_iff.mp e
      obtain ⟨a, vs, ea, ha, rs⟩ := lstW_rel hS rv e1
      have ev := strs_rel rs e2
      subst ev
      exact ⟨a, zs, by rw [ea], ha, h.1, fun us p pm so hp => hm _ _ _ _ _ _ _ hS hp (rels_strs us) (h.2 us pm so) l⟩
    · exact h.elim
  · exact h.elim
/-- 'x'.join(texts) -/
def mJoin : GM := fun x ds S Q => match x, ds with
  | .str a, [d] => match (seqW (vw d S)).bind strs? with
    | some zs => (zs.map (·.length)).sum + zs.length * a.length ≤ 16777216 ∧ Q (.str (Txt.join a zs)) S
    | none => False
  | _, _ => False
def rJoin (K : PySem.W.Frag) : V → List V → Hp → VK → Prop := fun x xs H Q => ∃ a p, ∃ ys : List Str, x = .str a ∧ xs = [.ref p] ∧ (SqL K H p (ys.map V.str) ∨ SqT K H p (ys.map V.str)) ∧ (ys.map (·.length)).sum + ys.length * a.length ≤ 16777216 ∧ Q (.str (Txt.join a ys)) H
theorem m_join {K : PySem.W.Frag} : MtD K (rJoin K) mJoin := by
  intro x xs S H d ds Qd Q hS rx rs h l
  unfold mJoin at h
  split at h
  · rename_i a d1
    obtain ⟨v, rfl, rv⟩ := rels1 rs
    split at h
    · rename_i zs e
      obtain ⟨ys, e1, e2⟩ := Option.bind_eq_some_iff.mp e
      obtain ⟨p, vs, ea, ha, rs2⟩ := seqW_rel hS rv e1
      have ev := strs_rel rs2 e2
      subst ev
      exact ⟨a, p, zs, rx, by rw [ea], ha, h.1, l.fz hS (d := .str _) rfl h.2⟩
    · exact h.elim
  · exact h.elim
theorem mt_joinR {X : Cx} : MtR X "str.join" (rJoin X.K) := mt_join
/-! ### name += e, ints -/
def intK (k : Int → Store → Prop) : Post := fun d S => match d with
  | .int b => k b S
  | _ => False
theorem intK_i {k : Int → Store → Prop} {b : Int} {S : Store} (q : k b S) : intK k (.int b) S := q
def dAug (i : Nat) (f : ET) : ST := fun ρ S N => match lk ρ i with
  | some (.int a) => f ρ S (intK fun b S1 => N.nx (st ρ i (some (.int (a + b)))) S1) (fun x S1 => N.ex x ρ S1)
  | _ => False
theorem dAug_i {i : Nat} {f : ET} {ρ : MP.Env} {S : Store} {N : DEnds} {a : Int} (e : lk ρ i = some (.int a)) (q : f ρ S (intK fun b S1 => N.nx (st ρ i (some (.int (a + b)))) S1) (fun x S1 => N.ex x ρ S1)) : dAug i f ρ S N := by unfold dAug; rw [e]; exact q
theorem s_aug {X : Cx} {W : WX} {i : Nat} {x : Str} {e : Expr} {f : ET} {pos pos' : Pos} (hN : X.N.Nodup) (hi : X.N[i]? = some x) (hx : Loc X.env.scope x) (he : PE X e (rdE X.K W f)) (hf : X.fn x = true ∨ X.env.scope.names.lookup x = some .local := by first | exact .inl rfl | exact .inr rfl | assumption) :
    PS X (.AugAssign (.Name x pos') .Add e pos) (rdS X.K W (dAug i f)) :=
  PS_imp (ps_aug hN hi hx he ip_add hf) fun D σ H ⟨ρ, S, N, hρ, hS, h, l⟩ => by
    unfold dAug at h
    split at h
    · rename_i a ea
      obtain ⟨v, ev, rv⟩ := hρ.get ea
      have e1 : v = .int a := rv
      subst e1
      refine ⟨.int a, ev, ρ, S, _, _, hρ, hS, h, fun d S1 y H1 e1 r1 q1 h1 => ?_, l.lx hS hρ⟩
      unfold intK at h1
      split at h1
      · rename_i b
        have e2 : y = .int b := q1
        subst e2
        exact ⟨a, b, rfl, rfl, l.nx _ S1 _ H1 e1 r1 (EnvR.set (d := .int (a + b)) rfl i (hρ.imm (e1.imm hS))) h1⟩
      · exact h1.elim
    · exact h.elim
/-! ### a field of a kept error -/
def lkF (ks : List Str) (xs : List D) (n : Str) : Option D := match ks, xs with
  | k :: ks, x :: xs => if n = k then some x else lkF ks xs n
  | _, _ => none
theorem lkF_rel {K : PySem.W.Frag} {H : Hp} {n : Str} {x : D} : ∀ {ks : List Str} {xs : List D} {vs : List V}, Rels K H xs vs → lkF ks xs n = some x → ∃ v, (ks.zip vs).lookup n = some v ∧ Rel K H x v
  | [], _, _, _, e => by unfold lkF at e; cases e
  | k :: ks, [], _, _, e => by unfold lkF at e; cases e
  | k :: ks, y :: xs, _, ⟨v, r, e1, h, t⟩, e => by
    subst e1
    unfold lkF at e
    rw [List.zip_cons_cons, lookup_put]
    by_cases hn : n = k
    · rw [if_pos hn] at e ⊢
      cases e
      exact ⟨v, rfl, h⟩
    · rw [if_neg hn] at e ⊢
      exact lkF_rel t e
def xfK (fx : Addr → Str → Bool) (n : Str) (Q : Post) : Post := fun d S1 => match d with
  | .exn (.ref C) _ ks xs => fx C n = true ∧ match lkF ks xs n with
    | some x => Q x S1
    | none => False
  | _ => False
def evXf (fx : Addr → Str → Bool) (n : Str) (f : ET) : ET := fun ρ S Q E => f ρ S (xfK fx n Q) E
theorem evXf_i {fx : Addr → Str → Bool} {n : Str} {f : ET} {ρ : MP.Env} {S : Store} {Q : Post} {E : XPost} (q : f ρ S (xfK fx n Q) E) : evXf fx n f ρ S Q E := q
theorem e_xf {X : Cx} {W : WX} {e : Expr} {f : ET} {n : Str} {pos : Pos} {fx : Addr → Str → Bool} (hfx : ∀ C, fx C n = true → ExcC X.K C ∧ PySem.W.findIn X.K (.ref C) n = some none) (he : PE X e (rdE X.K W f)) (hb : attributeBase e n X.env (eval e X.env) = eval e X.env := by rfl) :
    PE X (.Attribute e n pos) (rdE X.K W (evXf fx n f)) := by
  refine ⟨fun pins s σ H Q I ⟨ρ, S, Qd, Ed, hρ, hS, hf, lq, lx⟩ => ?_⟩
  refine attr_of hb (thn (he.run pins s σ H (fun u H1 => ∃ (a C : Addr) (d : Option Addr) (ks : List Str) (ws : List V) (v : V), u = .ref a ∧ H1 a = some (exT (.ref C) d a) ∧ XdAt H1 ks d ws ∧ fx C n = true ∧ (ks.zip ws).lookup n = some v ∧ Q v H1) I ⟨ρ, S, _, Ed, hρ, hS, hf, fun d S1 v H1 e1 r1 q1 h1 => ?_, lx⟩) fun u s1 hh => ?_)
  · unfold xfK at h1
    split at h1
    · rename_i C a ks xs
      obtain ⟨h2, h3⟩ := h1
      split at h3
      · rename_i x ex
        obtain ⟨rfl, d, ws, ha, hx, hl, rs⟩ := q1
        obtain ⟨v, ev, rv⟩ := lkF_rel rs ex
        exact ⟨a, C, d, ks, ws, v, rfl, ha, hx, h2, ev, lq x S1 v H1 e1 r1 rv h3⟩
      · exact h3.elim
    · exact h1.elim
  · obtain ⟨x, H1, I1, rx, a, C, d, ks, ws, v, ex, ha, hxd, hC, hl, q⟩ := hh
    subst ex
    obtain rfl : u = Value.ref a := rx
    obtain ⟨T, hno⟩ := hfx C hC
    obtain ⟨⟨oe, vs, h1, h2, h3⟩, _⟩ := I1.hok a _ ha
    rcases hxd with ⟨z, _⟩ | ⟨dd, ed, _, hdd⟩
    · subst z
      simp at hl
    · subst ed
      have hx : ObjOk X.prog X.w H1 s1.heap dd (.xd (ks.zip ws)) := I1.hok dd _ hdd
      obtain ⟨mA, hns, hr⟩ := hx
      obtain ⟨od, ho, hlk⟩ := lookIn_ns hns
      obtain ⟨u, hu, ru⟩ := RelO.some_of (v := v) (o := mA n) (by rw [← hl]; exact hr n)
      have J : PySem.W.InstAt s1.heap a oe C (some od) := ⟨h1, h2.1, by unfold PySem.W.notCls; rw [h3] <;> rfl, by rw [h2.2]; exact ho⟩
      exact PySem.HandSPX.exc_get I1.kIn J T.hg T.hk T.hs (PySem.W.findObj_own T.hd hno rfl (by rw [hlk, hu])) (handed_of ru) ⟨v, H1, I1.tok _, ru, q⟩
/-! ### a def whose code object is known -/
structure FunC (K : PySem.W.Frag) (x qual : Str) (st : Stmt) (f c : Addr) (fd : FuncData) : Prop where
  ex : ∃ (oc : Value) (od : Option Addr) (kV doc pm : Value) (an : Option Addr) (ct : Value) (osl : Array (Option Value)),
    fd = PySem.W.fnOf x qual (defArgs st) (defBody st) (defScope st) .none kV doc pm an (.ref c) ct ∧ K.lookup f = some ⟨oc, od, .func fd, osl⟩ ∧ PySem.W.codeIn K (.ref c) qual = true
theorem fn_okC {P : Program} {w : World} {K : PySem.W.Frag} {mg : Str → Option Value} {base : Heap} {x qual : Str} {st : Stmt} {f c : Addr} {fd : FuncData} {N ps : List Str} {k : Nat} {g : ST} (F : FunC K x qual st f c fd) (Sc : FnScope N ps (defScope st))
    (hb : ∀ (A : Around) (outer : List PySem.Env) (s : Shared) (H : Hp) (E : XK), Room k (A.deeper (envOfC qual (defScope st) s.heap.objs.size f (.ref c))) →
      PSs (cxOf (L2.CX P w) P w K mg base N qual (defScope st) f (.ref c) A outer s H E) (defBody st) (rdS K (Wd E) g)) : FnOk P w K mg base (L2.CX P w) (k + 1) f fd ps (spM K ps.length (runF N.length g)) := by
  obtain ⟨oc, od, kV, doc, pm, an, ct, osl, rfl, lk, hcd⟩ := F.ex
  refine fn_of lk hcd Sc spM_len fun A outer s H vs Q E hr h => ⟨_, hb A outer s H E hr, ?_⟩
  obtain ⟨ds, S, Qd, Ed, r, hS, hl, hf, lq, lx⟩ := h
  refine ⟨_, S, _, ?_, hS, hf, ⟨fun ρ' S' σ' H' e r' k' h => lq .non S' .non H' e r' rfl h, lq, fun x ρ' S' c dd σ' H' e r' k' q h => lx x S' c dd H' e r' q h, fun _ _ _ _ _ _ _ h => h.elim, fun _ _ _ _ _ _ _ h => h.elim⟩⟩
  unfold L2.start
  rw [← r.length]
  exact EnvR.start _ r
section
variable {S : Store} {Q : Post}
theorem gInt_b {b : Bool} (q : Q (.int (if b then 1 else 0)) S) : gInt [.bl b] S Q := q
theorem gIsA_n {x : D} (q : Q (.bl (isNon x)) S) : gIsA x .non S Q := q
theorem gIsnA_n {x : D} (q : Q (.bl (!isNon x)) S) : gIsnA x .non S Q := q
theorem gIsA_b {a b : Bool} (q : Q (.bl (decide (a = b))) S) : gIsA (.bl a) (.bl b) S Q := q
theorem gIsnA_b {a b : Bool} (q : Q (.bl (!decide (a = b))) S) : gIsnA (.bl a) (.bl b) S Q := q
end
end MP

set_option Elab.async false
set_option linter.all false
set_option maxRecDepth 100000
set_option maxHeartbeats 4100000
/-! the mirrors of the defs -/
namespace K01
open PySem PySem.Spec PyProof.Rows L2 MP

/-- where things stand behind the top -/
structure Ad where
  f_is_name : Addr
  d_is_name : FuncData
  f_is_number_word : Addr
  d_is_number_word : FuncData
  f_is_text : Addr
  d_is_text : FuncData
  f_word_size : Addr
  d_word_size : FuncData
  f_cut : Addr
  d_cut : FuncData
  f_sort_told : Addr
  d_sort_told : FuncData
  f_sort_of : Addr
  d_sort_of : FuncData
  f_words_of : Addr
  d_words_of : FuncData
  f_law_begun : Addr
  d_law_begun : FuncData
  f_law_mixed : Addr
  d_law_mixed : FuncData
  f_law_take : Addr
  d_law_take : FuncData
  f_law_pick : Addr
  d_law_pick : FuncData
  f_law_caught : Addr
  d_law_caught : FuncData
  f_law_kept : Addr
  d_law_kept : FuncData
  f_law_is_small : Addr
  d_law_is_small : FuncData
  f_law_is_name : Addr
  d_law_is_name : FuncData
  f_law_sort : Addr
  d_law_sort : FuncData
  f_law_signs : Addr
  d_law_signs : FuncData
  f_law_inner : Addr
  d_law_inner : FuncData
  f_law_word_at : Addr
  d_law_word_at : FuncData
  f_law_cut : Addr
  d_law_cut : FuncData
  f_law_any_name : Addr
  d_law_any_name : FuncData
  f_law_refused_right : Addr
  d_law_refused_right : FuncData
  f_law : Addr
  d_law : FuncData
  c_law_refused_right : Addr
  t_law_refused_right : Addr
  i_BadText : Addr
  di_BadText : FuncData
  cls : Nat → Addr
  nm : Addr → Option Nat
/-- the classes by their places: which is below which -/
def below : Nat → List Nat := fun i => ([[0], [0, 1], [0, 2]] : List (List Nat)).getD i []
def subT (A : Ad) : Value → Value → Option Bool := fun t c => match t, c with
  | .ref a, .ref b => match A.nm a, A.nm b with
    | some i, some j => some ((below i).contains j)
    | _, _ => none
  | .ref a, .type n => if n = "ValueError" then (A.nm a).map fun _ => true else none
  | _, _ => none
def fxT (A : Ad) : Addr → Str → Bool := fun C n => (decide (C = A.cls 1) && (["line", "column", "wanted"] : List Str).any (fun f => decide (n = f)))
def exT_ (A : Ad) : Addr → Bool := fun a => (A.nm a).isSome
def catchT (A : Ad) (j : Nat) : Value → Option Bool := fun t => match t with
  | .ref a => (A.nm a).map fun i => (below i).contains j
  | _ => none
structure Ad.Ok (A : Ad) : Prop where
  nm : ∀ i, i < 3 → A.nm (A.cls i) = some i

def c_FIGURES : D := .str "0123456789"
def c_INNER : D := .str "abcdefghijklmnopqrstuvwxyzABCDEFGHIJKLMNOPQRSTUVWXYZ0123456789_"
def c_IN_NO_TEXT : D := .tup [.str "fork", .str "leaf"]
def c_KEPT : D := .tup [.str "and", .str "cases", .str "cell", .str "else", .str "fewest", .str "fork", .str "from", .str "greatest", .str "if", .str "input", .str "leaf", .str "least", .str "most", .str "not", .str "of", .str "or", .str "place", .str "row", .str "settle", .str "start", .str "sum", .str "then", .str "to"]
def c_SIGNS : D := .tup [.str "(", .str ")", .str "[", .str "]", .str "{", .str "}", .str ",", .str ":", .str "=", .str "+", .str "-", .str "*", .str "<", .str "<=", .str "=="]
def c_SMALL : D := .str "abcdefghijklmnopqrstuvwxyz"
def r_is_name (A : Ad) : DF := runF 2 (dSeq (dIf (bOr (bNot (bV (evB (gIsi (subT A) (exT_ A)) (aCons (evV 0) (aCons (evC (.ty "str")) (aNil)))))) (bOr (bNot (bB (chn gLe gLe (evC (.int 1)) (evB gLen (aCons (evV 0) (aNil))) (evC (.int 8))))) (bB (bin (gInC false) (evV 0) (evC c_KEPT))))) (dRet (evC (.bl false))) (dNext)) (dRet (bin gEqE (evComp mkF (iChars (evV 0)) (dgName 1) (bB (bin (gInC true) (evV 1) (evC c_SMALL))) (evV 1) [1]) (evLst mkF (aNil)))))
def r_is_number_word (A : Ad) : DF := runF 3 (dSeq (dSet 1 (eIf (bB (bin gEqE (evSl (gSl mkF) (evV 0) oNo (oPart (evC (.int 1)))) (evC (.str "-")))) (evSl (gSl mkF) (evV 0) (oPart (evC (.int 1))) oNo) (evV 0))) (dSeq (dIf (bOr (bNot (bB (chn gLe gLe (evC (.int 1)) (evB gLen (aCons (evV 1) (aNil))) (evC (.int 3))))) (bB (bin gNeE (evComp mkF (iChars (evV 1)) (dgName 2) (bB (bin (gInC true) (evV 2) (evC c_FIGURES))) (evV 2) [2]) (evLst mkF (aNil))))) (dRet (evC (.bl false))) (dNext)) (dRet (eOr (bin gEqE (evV 0) (evC (.str "0"))) (bin gNeE (bin gIx (evV 1) (evC (.int 0))) (evC (.str "0")))))))
def r_is_text (A : Ad) : DF := runF 2 (dSeq (dIf (bNot (bV (evB (gIsi (subT A) (exT_ A)) (aCons (evV 0) (aCons (evC (.ty "str")) (aNil)))))) (dRet (evC (.bl false))) (dNext)) (dRet (bin gEqE (evComp mkF (iChars (evV 0)) (dgName 1) (bAnd (bB (bin gNeE (evV 1) (evC (.str "\n")))) (bNot (bB (chn gLe gLe (evC (.str " ")) (evV 1) (evC (.str "~")))))) (evV 1) [1]) (evLst mkF (aNil)))))
def r_word_size (A : Ad) : DF := runF 4 (dSeq (dSet 2 (bin (gAddT mkF) (evV 1) (evB gInt (aCons (eAnd (bin gEqE (bin gIx (evV 0) (evV 1)) (evC (.str "-"))) (eAnd (bin gNeE (evSl (gSl mkF) (evV 0) (oPart (bin (gAddT mkF) (evV 1) (evC (.int 1)))) (oPart (bin (gAddT mkF) (evV 1) (evC (.int 2))))) (evC (.str ""))) (bin (gInC false) (bin gIx (evV 0) (bin (gAddT mkF) (evV 1) (evC (.int 1)))) (evC c_FIGURES)))) (aNil))))) (dSeq (dSet 3 (evV 2)) (dSeq (dWhile (bAnd (bB (bin gLt (evV 2) (evB gLen (aCons (evV 0) (aNil))))) (bB (bin (gInC false) (bin gIx (evV 0) (evV 2)) (evC c_INNER)))) (dAug 2 (evC (.int 1)))) (dSeq (dIf (bB (bin gGt (evV 2) (evV 3))) (dRet (bin gSub (evV 2) (evV 1))) (dNext)) (dRet (eIf (bB (bin (gInC false) (evSl (gSl mkF) (evV 0) (oPart (evV 1)) (oPart (bin (gAddT mkF) (evV 1) (evC (.int 2))))) (evTup (aCons (evC (.str "<=")) (aCons (evC (.str "==")) (aNil)))))) (evC (.int 2)) (evC (.int 1))))))))
def r_cut (A : Ad) : DF := runF 6 (dSeq (dAsg (evTup (aCons (evLst mkM (aNil)) (aCons (evC (.int 0)) (aCons (evC (.int 1)) (aCons (evC (.int 0)) (aNil)))))) (dgTup 4 (dgCons (dgName 1) (dgCons (dgName 2) (dgCons (dgName 3) (dgCons (dgName 4) (dgNil))))))) (dSeq (dWhile (bB (bin gLt (evV 2) (evB gLen (aCons (evV 0) (aNil))))) (dIf (bB (bin (gInC false) (bin gIx (evV 0) (evV 2)) (evC (.str " \n")))) (dSeq (dAug 2 (evC (.int 1))) (dIf (bB (bin gEqE (bin gIx (evV 0) (bin gSub (evV 2) (evC (.int 1)))) (evC (.str "\n")))) (dPar 3 4 (aCons (bin (gAddT mkF) (evV 3) (evC (.int 1))) (aCons (evV 2) (aNil)))) (dNext))) (dSeq (dSet 5 (evCall (r_word_size A) (aCons (evV 0) (aCons (evV 2) (aNil))))) (dSeq (dExpr (evM "list" mAppend (evV 1) (aCons (evTup (aCons (evSl (gSl mkF) (evV 0) (oPart (evV 2)) (oPart (bin (gAddT mkF) (evV 2) (evV 5)))) (aCons (evV 3) (aCons (bin (gAddT mkF) (bin gSub (evV 2) (evV 4)) (evC (.int 1))) (aNil))))) (aNil)))) (dAug 2 (evV 5)))))) (dRet (evV 1))))
def r_sort_told (A : Ad) : DF := runF 1 (dSeq (dIf (bB (bin (gInC false) (evV 0) (evC c_IN_NO_TEXT))) (dRet (evC (.str "strange"))) (dNext)) (dSeq (dIf (bOr (bB (bin (gInC false) (evV 0) (evC c_KEPT))) (bB (bin (gInC false) (evV 0) (evC c_SIGNS)))) (dRet (evV 0)) (dNext)) (dSeq (dIf (bV (evCall (r_is_number_word A) (aCons (evV 0) (aNil)))) (dRet (evC (.str "figures"))) (dNext)) (dRet (eIf (bV (evCall (r_is_name A) (aCons (evV 0) (aNil)))) (evC (.str "name")) (evC (.str "strange")))))))
def r_sort_of (A : Ad) : DF := runF 1 (dSeq (dIf (bOr (bNot (bV (evCall (r_is_text A) (aCons (evV 0) (aNil))))) (bB (bin gNeE (evCall (r_cut A) (aCons (evV 0) (aNil))) (evLst mkF (aCons (evTup (aCons (evV 0) (aCons (evC (.int 1)) (aCons (evC (.int 1)) (aNil))))) (aNil)))))) (dRaise (.ref (A.cls 2))) (dNext)) (dRet (evCall (r_sort_told A) (aCons (evV 0) (aNil)))))
def r_words_of (A : Ad) : DF := runF 1 (dSeq (dIf (bNot (bV (evCall (r_is_text A) (aCons (evV 0) (aNil))))) (dRaiseI (A.cls 1) ["line", "column", "wanted"] (aCons (evC .non) (aCons (evC .non) (aCons (evC .non) (aNil))))) (dNext)) (dRet (evCall (r_cut A) (aCons (evV 0) (aNil)))))
def r_law_begun (A : Ad) : DF := runF 3 (dSeq (dSet 1 (evComp mkM (iSeq (evV 0)) (dgName 2) (bB (bin gGe (evB gAbs (aCons (evV 2) (aNil))) (bin gPow (evC (.int 10)) (evC (.int 18))))) (bin gSub (evB gAbs (aCons (evV 2) (aNil))) (bin gPow (evC (.int 10)) (evC (.int 18)))) [2])) (dRet (evDisp mkDM [(.inr "wide"), (.inr "cells"), (.inr "rest"), (.inr "turn")] (aCons (evV 1) (aCons (evComp mkF (iSeq (evV 0)) (dgName 2) (bYes) (bin gMod (evB gInt (aCons (evB gAbs (aCons (evV 2) (aNil))) (aNil))) (evC (.int 2147483629))) [2]) (aCons (evC (.int 0)) (aCons (evC (.int 0)) (aNil))))))))
def r_law_mixed (A : Ad) : DF := runF 6 (dSeq (dPar 1 2 (aCons (bin (gAddT mkF) (bin gIx (evV 0) (evC (.str "turn"))) (evC (.int 1))) (aCons (evC (.int 0)) (aNil)))) (dSeq (dAsg (evV 1) (dgSub (evV 0) (evC (.str "turn")))) (dSeq (dFor (iSeq (evLst mkF (aCons (evC (.int 2147483647)) (aCons (evC (.int 2147483629)) (aCons (evC (.int 2147483587)) (aCons (evC (.int 2147483579)) (aNil))))))) (dgName 3) (dSeq (dSet 4 (bin (gAddT mkF) (bin gMul (evC (.int 48271)) (evV 1)) (bin gDiv (evV 3) (evC (.int 37))))) (dSeq (dFor (iSeq (bin gIx (evV 0) (evC (.str "cells")))) (dgName 5) (dSet 4 (bin gMod (evB gInt (aCons (bin (gAddT mkF) (bin (gAddT mkF) (bin gMul (evV 4) (evC (.int 69621))) (evV 5)) (evV 1)) (aNil))) (evV 3)))) (dSet 2 (bin (gAddT mkF) (bin gMul (evV 2) (evC (.int 2147483647))) (bin gMod (evB gInt (aCons (bin gPow (evV 4) (evC (.int 5))) (aNil))) (evV 3))))))) (dRet (evV 2)))))
def r_law_take (A : Ad) : DF := runF 3 (dSeq (dIf (bB (bin gEqE (bin gIx (evV 0) (evC (.str "rest"))) (evC (.int 0)))) (dAsg (eIf (bB (bin gNeE (bin gIx (evV 0) (evC (.str "wide"))) (evLst mkF (aNil)))) (evM "list" mPopAt (bin gIx (evV 0) (evC (.str "wide"))) (aCons (evC (.int 0)) (aNil))) (evCall (r_law_mixed A) (aCons (evV 0) (aNil)))) (dgSub (evV 0) (evC (.str "rest")))) (dNext)) (dSeq (dSet 2 (bin gMod (evB gInt (aCons (bin gIx (evV 0) (evC (.str "rest"))) (aNil))) (evV 1))) (dSeq (dAsg (bin gDiv (bin gIx (evV 0) (evC (.str "rest"))) (evV 1)) (dgSub (evV 0) (evC (.str "rest")))) (dRet (evV 2)))))
def r_law_pick (A : Ad) : DF := runF 2 (dRet (bin gIx (evV 1) (evCall (r_law_take A) (aCons (evV 0) (aCons (evB gLen (aCons (evV 1) (aNil))) (aNil))))))
def r_law_kept (A : Ad) : DF := runF 1 (dSeq (dSet 0 (evLst mkF (aCons (evC (.str "and")) (aCons (evC (.str "cases")) (aCons (evC (.str "cell")) (aCons (evC (.str "else")) (aCons (evC (.str "fewest")) (aCons (evC (.str "from")) (aCons (evC (.str "greatest")) (aCons (evC (.str "if")) (aCons (evC (.str "input")) (aCons (evC (.str "least")) (aCons (evC (.str "most")) (aCons (evC (.str "not")) (aCons (evC (.str "of")) (aNil)))))))))))))))) (dRet (bin (gAddT mkF) (evV 0) (evLst mkF (aCons (evC (.str "or")) (aCons (evC (.str "place")) (aCons (evC (.str "row")) (aCons (evC (.str "settle")) (aCons (evC (.str "start")) (aCons (evC (.str "sum")) (aCons (evC (.str "then")) (aCons (evC (.str "to")) (aNil)))))))))))))
def r_law_is_small (A : Ad) : DF := runF 2 (dRet (eAnd (bin gNeE (evV 0) (evC (.str ""))) (bin gEqE (evComp mkF (iChars (evV 0)) (dgName 1) (bNot (bB (chn gLe gLe (evC (.str "a")) (evV 1) (evC (.str "z"))))) (evV 1) [1]) (evLst mkF (aNil)))))
def r_law_is_name (A : Ad) : DF := runF 1 (dRet (eAnd (evB (gIsi (subT A) (exT_ A)) (aCons (evV 0) (aCons (evC (.ty "str")) (aNil)))) (eAnd (bin gLt (evB gLen (aCons (evV 0) (aNil))) (evC (.int 9))) (eAnd (evCall (r_law_is_small A) (aCons (evV 0) (aNil))) (bin (gInC true) (evV 0) (bin (gAddT mkF) (evCall0 (r_law_kept A)) (evLst mkF (aCons (evC (.str "fork")) (aCons (evC (.str "leaf")) (aNil))))))))))
def r_law_sort (A : Ad) : DF := runF 4 (dSeq (dIf (bOr (bB (bin (gInC false) (evV 0) (evCall0 (r_law_kept A)))) (bB (bin (gInC false) (evV 0) (evLst mkF (aCons (evC (.str "(")) (aCons (evC (.str ")")) (aCons (evC (.str "[")) (aCons (evC (.str "]")) (aCons (evC (.str "{")) (aCons (evC (.str "}")) (aCons (evC (.str ",")) (aCons (evC (.str ":")) (aCons (evC (.str "=")) (aCons (evC (.str "+")) (aCons (evC (.str "-")) (aCons (evC (.str "*")) (aCons (evC (.str "<")) (aCons (evC (.str "<=")) (aCons (evC (.str "==")) (aNil)))))))))))))))))))) (dRet (evV 0)) (dNext)) (dSeq (dIf (bV (evCall (r_law_is_name A) (aCons (evV 0) (aNil)))) (dRet (evC (.str "name"))) (dNext)) (dSeq (dSet 1 (eIf (bB (bin gEqE (evSl (gSl mkF) (evV 0) oNo (oPart (evC (.int 1)))) (evC (.str "-")))) (evSl (gSl mkF) (evV 0) (oPart (evC (.int 1))) oNo) (evV 0))) (dSeq (dSet 2 (eAnd (chn gLt gLt (evC (.int 0)) (evB gLen (aCons (evV 1) (aNil))) (evC (.int 4))) (bin gEqE (evComp mkF (iChars (evV 1)) (dgName 3) (bB (bin (gInC true) (evV 3) (evC (.str "0123456789")))) (evV 3) [3]) (evLst mkF (aNil))))) (dRet (eIf (bOr (bB (bin gEqE (evV 0) (evC (.str "0")))) (bAnd (bV (evV 2)) (bB (bin gNeE (bin gIx (evV 1) (evC (.int 0))) (evC (.str "0")))))) (evC (.str "figures")) (evC (.str "strange"))))))))
def r_law_signs (A : Ad) : DF := runF 0 (dRet (evC (.str " !\"#$&'()*+,-./0123456789:;<=>?@ABCDEFGHIJKLMNOPQRSTUVWXYZ[\\]^_`abcdefghijklmnopqrstuvwxyz{|}~")))
def r_law_inner (A : Ad) : DF := runF 1 (dRet (eOr (chn gLe gLe (evC (.str "a")) (evV 0) (evC (.str "z"))) (eOr (chn gLe gLe (evC (.str "A")) (evV 0) (evC (.str "Z"))) (eOr (chn gLe gLe (evC (.str "0")) (evV 0) (evC (.str "9"))) (bin gEqE (evV 0) (evC (.str "_")))))))
def r_law_word_at (A : Ad) : DF := runF 4 (dSeq (dSet 2 (bin (gAddT mkF) (evV 1) (evC (.int 1)))) (dSeq (dSet 3 (eOr (evCall (r_law_inner A) (aCons (bin gIx (evV 0) (evV 1)) (aNil))) (eAnd (bin gEqE (bin gIx (evV 0) (evV 1)) (evC (.str "-"))) (chn gLe gLe (evC (.str "0")) (evSl (gSl mkF) (evV 0) (oPart (bin (gAddT mkF) (evV 1) (evC (.int 1)))) (oPart (bin (gAddT mkF) (evV 1) (evC (.int 2))))) (evC (.str "9")))))) (dSeq (dWhile (bAnd (bV (evV 3)) (bAnd (bB (bin gLt (evV 2) (evB gLen (aCons (evV 0) (aNil))))) (bV (evCall (r_law_inner A) (aCons (bin gIx (evV 0) (evV 2)) (aNil)))))) (dSet 2 (bin (gAddT mkF) (evV 2) (evC (.int 1))))) (dRet (eIf (bAnd (bNot (bV (evV 3))) (bB (bin (gInC false) (evSl (gSl mkF) (evV 0) (oPart (evV 1)) (oPart (bin (gAddT mkF) (evV 1) (evC (.int 2))))) (evLst mkF (aCons (evC (.str "<=")) (aCons (evC (.str "==")) (aNil))))))) (evSl (gSl mkF) (evV 0) (oPart (evV 1)) (oPart (bin (gAddT mkF) (evV 1) (evC (.int 2))))) (evSl (gSl mkF) (evV 0) (oPart (evV 1)) (oPart (evV 2))))))))
def r_law_cut (A : Ad) : DF := runF 6 (dSeq (dAsg (evTup (aCons (evLst mkM (aNil)) (aCons (evC (.int 0)) (aCons (evC (.int 1)) (aCons (evC (.int 1)) (aNil)))))) (dgTup 4 (dgCons (dgName 1) (dgCons (dgName 2) (dgCons (dgName 3) (dgCons (dgName 4) (dgNil))))))) (dSeq (dWhile (bB (bin gLt (evV 2) (evB gLen (aCons (evV 0) (aNil))))) (dSeq (dSet 5 (evC (.int 1))) (dSeq (dIf (bB (bin (gInC true) (bin gIx (evV 0) (evV 2)) (evLst mkF (aCons (evC (.str " ")) (aCons (evC (.str "\n")) (aNil)))))) (dSeq (dExpr (evM "list" mAppend (evV 1) (aCons (evTup (aCons (evCall (r_law_word_at A) (aCons (evV 0) (aCons (evV 2) (aNil)))) (aCons (evV 3) (aCons (evV 4) (aNil))))) (aNil)))) (dSet 5 (evB gLen (aCons (bin gIx (bin gIx (evV 1) (una gNeg (evC (.int 1)))) (evC (.int 0))) (aNil))))) (dNext)) (dSeq (dPar 3 4 (aCons (bin (gAddT mkF) (evV 3) (evB gInt (aCons (bin gEqE (bin gIx (evV 0) (evV 2)) (evC (.str "\n"))) (aNil)))) (aCons (eIf (bB (bin gEqE (bin gIx (evV 0) (evV 2)) (evC (.str "\n")))) (evC (.int 1)) (bin (gAddT mkF) (evV 4) (evV 5))) (aNil)))) (dSet 2 (bin (gAddT mkF) (evV 2) (evV 5))))))) (dRet (evV 1))))
def r_law_any_name (A : Ad) : DF := runF 4 (dSeq (dSet 1 (evC (.str "abcdefghijklmnopqrstuvwxyz"))) (dSeq (dSet 2 (evM "str" mJoin (evC (.str "")) (aCons (evComp mkF (iRange1 (aCons (bin (gAddT mkF) (evC (.int 1)) (evCall (r_law_take A) (aCons (evV 0) (aCons (evC (.int 9)) (aNil))))) (aNil))) (dgName 3) (bYes) (bin gIx (evV 1) (evCall (r_law_take A) (aCons (evV 0) (aCons (evC (.int 26)) (aNil))))) [3]) (aNil)))) (dRet (eIf (bB (bin gGt (evCall (r_law_take A) (aCons (evV 0) (aCons (evC (.int 5)) (aNil)))) (evC (.int 0)))) (evV 2) (bin (gAddT mkF) (evV 2) (evCall (r_law_pick A) (aCons (evV 0) (aCons (evLst mkF (aCons (evC (.str "A")) (aCons (evC (.str "7")) (aCons (evC (.str "_")) (aCons (evC (.str "Z")) (aNil)))))) (aNil)))))))))
def r_law_refused_right (A : Ad) : DF := runF 10 (dSeq (dSet 2 (evLst mkF (aCons (evC (.str "")) (aCons (evC (.str " ")) (aCons (evC (.str "a b")) (aCons (evC (.str "a-b")) (aCons (evC (.str " a")) (aCons (evC (.str "a ")) (aCons (evC (.str "<= ")) (aCons (evC (.str "a(")) (aCons (evC (.str "()")) (aCons (evC (.str "-")) (aCons (evC (.str "- 1")) (aCons (evC (.str "1-")) (aCons (evC (.str "===")) (aCons (evC (.str "<==")) (aCons (evC (.str "[]")) (aCons (evC (.str "a\n")) (aNil))))))))))))))))))) (dSeq (dSet 3 (evCall (r_law_pick A) (aCons (evV 0) (aCons (bin (gAddT mkF) (bin (gAddT mkF) (evV 2) (evLst mkF (aCons (evC .non) (aCons (evC (.int 5)) (aCons (evC (.bl true)) (aCons (evLst mkF (aCons (evC (.str "a")) (aNil))) (aCons (evTup (aCons (evC (.str "a")) (aNil))) (aCons (evDict0 mkDF) (aNil))))))))) (evComp mkF (iSeq (evV 1)) (dgTup 3 (dgCons (dgName 4) (dgCons (dgName 5) (dgCons (dgName 6) (dgNil))))) (bYes) (bin (gAddT mkF) (evV 4) (evCall (r_law_pick A) (aCons (evV 0) (aCons (evLst mkF (aCons (evC (.str "(")) (aCons (evC (.str " ")) (aCons (evC (.str "\n")) (aCons (evC (.str "+1")) (aNil)))))) (aNil))))) [4, 5, 6])) (aNil))))) (dSeq (dSet 7 (evLst mkF (aCons (evC (.str "a	b")) (aCons (evC (.str "	")) (aCons (evC (.str "cell	a")) (aCons (evC (.str "a	")) (aNil))))))) (dSeq (dIf (bNot (bV (evB (gIsi (subT A) (exT_ A)) (aCons (evLam A.t_law_refused_right ("_law_refused_right.<locals>." ++ "<lambda>") (catchT A 0) (evCall (r_words_of A) (aCons (evCall (r_law_pick A) (aCons (evV 0) (aCons (bin (gAddT mkF) (evLst mkF (aCons (evC .non) (aCons (evC (.int 5)) (aCons (evC (.bl true)) (aCons (evLst mkF (aCons (evC (.str "a")) (aNil))) (aCons (evTup (aCons (evC (.str "sheet")) (aNil))) (aCons (evDict0 mkDF) (aNil)))))))) (evV 7)) (aNil)))) (aNil)))) (aCons (evC (.ref (A.cls 1))) (aNil)))))) (dRet (evC (.bl false))) (dNext)) (dSeq (dSet 8 (evLam A.t_law_refused_right ("_law_refused_right.<locals>." ++ "<lambda>") (catchT A 0) (evCallK (r_words_of A) [0] aNil (aCons (evC .non) (aNil))))) (dSeq (dIf (bOr (bNot (bV (evB (gIsi (subT A) (exT_ A)) (aCons (evV 8) (aCons (evC (.ref (A.cls 1))) (aNil)))))) (bB (bin gNeE (evLst mkF (aCons (evXf (fxT A) "line" (evV 8)) (aCons (evXf (fxT A) "column" (evV 8)) (aCons (evXf (fxT A) "wanted" (evV 8)) (aNil))))) (evLst mkF (aCons (evC .non) (aCons (evC .non) (aCons (evC .non) (aNil)))))))) (dRet (evC (.bl false))) (dNext)) (dSeq (dSet 9 (eAnd (evB (gIsi (subT A) (exT_ A)) (aCons (evV 3) (aCons (evC (.ty "str")) (aNil)))) (bin gEqE (evCall (r_law_cut A) (aCons (evV 3) (aNil))) (evLst mkF (aCons (evTup (aCons (evV 3) (aCons (evC (.int 1)) (aCons (evC (.int 1)) (aNil))))) (aNil)))))) (dSeq (dSet 8 (evLam A.t_law_refused_right ("_law_refused_right.<locals>." ++ "<lambda>") (catchT A 0) (evCall (r_sort_of A) (aCons (evV 3) (aNil))))) (dRet (eIf (bV (evV 9)) (bin gIsA (evV 8) (evC .non)) (eAnd (evB (gIsi (subT A) (exT_ A)) (aCons (evV 8) (aCons (evC (.ref (A.cls 2))) (aNil)))) (evB (gIsi (subT A) (exT_ A)) (aCons (evV 8) (aCons (evC (.ty "ValueError")) (aNil)))))))))))))))
def r_law (A : Ad) : DF := runF 15 (dSeq (dSet 1 (evCall (r_law_begun A) (aCons (evV 0) (aNil)))) (dSeq (dIf (bB (bin gNeE (evB gRepr (aCons (evC c_KEPT) (aNil))) (evB gRepr (aCons (evB gTuple (aCons (evB (gSortS mkF) (aCons (bin (gAddT mkF) (evCall0 (r_law_kept A)) (evLst mkF (aCons (evC (.str "fork")) (aCons (evC (.str "leaf")) (aNil))))) (aNil))) (aNil))) (aNil))))) (dRet (evC (.bl false))) (dNext)) (dSeq (dIf (bB (bin gNeE (evComp mkF (iSeq (bin (gAddT mkF) (evCall0 (r_law_kept A)) (evLst mkF (aCons (evC (.str "fork")) (aCons (evC (.str "leaf")) (aNil)))))) (dgName 2) (bOr (bB (bin gIsnA (evCall (r_is_name A) (aCons (evV 2) (aNil))) (evC (.bl false)))) (bB (bin gNeE (evCall (r_sort_of A) (aCons (evV 2) (aNil))) (evCall (r_law_sort A) (aCons (evV 2) (aNil)))))) (evV 2) [2]) (evLst mkF (aNil)))) (dRet (evC (.bl false))) (dNext)) (dSeq (dSet 3 (evLst mkF (aCons (evC (.str "a")) (aCons (evC (.str "b")) (aCons (evC (.str "z")) (aCons (evC (.str "if")) (aCons (evC (.str "cases")) (aCons (evC (.str "leaf")) (aCons (evC (.str "A")) (aCons (evC (.str "0")) (aCons (evC (.str "1")) (aCons (evC (.str "7")) (aCons (evC (.str "-")) (aCons (evC (.str "-")) (aCons (evC (.str "_")) (aCons (evC (.str "$")) (aCons (evC (.str "<")) (aCons (evC (.str "=")) (aCons (evC (.str "==")) (aCons (evC (.str "<=")) (aCons (evC (.str "(")) (aCons (evC (.str ")")) (aCons (evC (.str "[")) (aCons (evC (.str "]")) (aCons (evC (.str "{")) (aCons (evC (.str "}")) (aCons (evC (.str ",")) (aCons (evC (.str ":")) (aCons (evC (.str "+")) (aCons (evC (.str "*")) (aCons (evC (.str ".")) (aNil)))))))))))))))))))))))))))))))) (dSeq (dFor (iRange1 (aCons (bin (gAddT mkF) (evC (.int 4)) (evB gMin (aCons (evB gLen (aCons (evV 0) (aNil))) (aCons (evC (.int 20)) (aNil))))) (aNil))) (dgName 4) (dSeq (dSet 5 (evComp mkF (iRange1 (aCons (evC (.int 2)) (aNil))) (dgName 6) (bYes) (evCall (r_law_any_name A) (aCons (evV 1) (aNil))) [6])) (dSeq (dSet 7 (evLst mkM (aNil))) (dSeq (dFzV 7 (dFor (iRange1 (aCons (evCall (r_law_take A) (aCons (evV 1) (aCons (evC (.int 40)) (aNil)))) (aNil))) (dgName 6) (dSeq (dSet 8 (bin gIx (evCall0 (r_law_signs A)) (evCall (r_law_take A) (aCons (evV 1) (aCons (evC (.int 94)) (aNil)))))) (dExpr (evM "list" mAppend (evV 7) (aCons (evCall (r_law_pick A) (aCons (evV 1) (aCons (bin (gAddT mkF) (bin (gAddT mkF) (bin (gAddT mkF) (evV 3) (evV 5)) (evLst mkF (aCons (evC (.str " ")) (aCons (evC (.str " ")) (aCons (evC (.str "\n")) (aCons (evC (.str "  ")) (aCons (evC (.str "\n\n")) (aCons (evC (.str "fork")) (aCons (evC (.str "greatest")) (aNil)))))))))) (bin (gMulB mkF) (evLst mkM (aCons (evV 8) (aNil))) (evC (.int 9)))) (aNil)))) (aNil))))))) (dSeq (dSet 9 (evM "str" mJoin (evC (.str "")) (aCons (evV 7) (aNil)))) (dSeq (dFzV 10 (dSet 10 (evCall (r_law_cut A) (aCons (evV 9) (aNil))))) (dSeq (dSet 11 (evCall (r_words_of A) (aCons (evV 9) (aNil)))) (dSeq (dIf (bB (bin gNeE (evV 11) (evV 10))) (dRet (evC (.bl false))) (dNext)) (dSeq (dExpr (evM "list" mAppend (evV 11) (aCons (evC .non) (aNil)))) (dSeq (dIf (bB (bin gNeE (evCallK (r_words_of A) [0] aNil (aCons (evV 9) (aNil))) (evV 10))) (dRet (evC (.bl false))) (dNext)) (dSeq (dFor (iSeq (bin (gAddT mkF) (evV 10) (evComp mkF (iSeq (evV 5)) (dgName 14) (bYes) (evTup (aCons (evV 14) (aCons (evC (.int 1)) (aCons (evC (.int 1)) (aNil))))) [14]))) (dgTup 3 (dgCons (dgName 2) (dgCons (dgName 12) (dgCons (dgName 13) (dgNil))))) (dIf (bOr (bB (bin gNeE (evCall (r_sort_of A) (aCons (evV 2) (aNil))) (evCall (r_law_sort A) (aCons (evV 2) (aNil))))) (bOr (bB (bin gNeE (evCallK (r_sort_of A) [0] aNil (aCons (evV 2) (aNil))) (evCall (r_law_sort A) (aCons (evV 2) (aNil))))) (bB (bin gNeE (evB gRepr (aCons (evCall (r_is_name A) (aCons (evV 2) (aNil))) (aNil))) (evB gRepr (aCons (evCall (r_law_is_name A) (aCons (evV 2) (aNil))) (aNil))))))) (dRet (evC (.bl false))) (dNext))) (dIf (bNot (bV (evCall (r_law_refused_right A) (aCons (evV 1) (aCons (evV 10) (aNil)))))) (dRet (evC (.bl false))) (dNext))))))))))))) (dRet (bin gIsA (evCallK (r_is_name A) [0] aNil (aCons (evCall (r_law_pick A) (aCons (evV 1) (aCons (evLst mkF (aCons (evC .non) (aCons (evC (.int 5)) (aCons (evC (.bl true)) (aCons (evLst mkF (aCons (evC (.str "a")) (aNil))) (aCons (evC (.str "")) (aCons (evC (.str "abcdefghi")) (aCons (evC (.str "Z")) (aCons (evC (.str "a b")) (aCons (evTup (aCons (evC (.str "a")) (aNil))) (aNil))))))))))) (aNil)))) (aNil))) (evC (.bl false)))))))))
end K01

set_option Elab.async false
set_option linter.all false
set_option maxRecDepth 100000
set_option maxHeartbeats 4100000
/-! the walk -/
namespace K01
open PySem PySem.Spec PyProof.Rows L2 MP

abbrev W0 : WX := fun _ _ _ _ => False
def topS (i : Nat) : Stmt := PySem.Challenge.pw_whysheets_k01_words_of_texts.main.body.getD i (.Pass ⟨0, 0, 0, 0⟩)
abbrev s_is_name : Stmt := topS 11
theorem sc_is_name : FnScope ["thing", "letter"] ["thing"] (defScope s_is_name) := ⟨rfl, rfl, rfl, by decide +kernel, rfl, by decide +kernel, by decide +kernel⟩
abbrev s_is_number_word : Stmt := topS 12
theorem sc_is_number_word : FnScope ["word", "figures", "letter"] ["word"] (defScope s_is_number_word) := ⟨rfl, rfl, rfl, by decide +kernel, rfl, by decide +kernel, by decide +kernel⟩
abbrev s_is_text : Stmt := topS 13
theorem sc_is_text : FnScope ["thing", "letter"] ["thing"] (defScope s_is_text) := ⟨rfl, rfl, rfl, by decide +kernel, rfl, by decide +kernel, by decide +kernel⟩
abbrev s_word_size : Stmt := topS 14
theorem sc_word_size : FnScope ["text", "at", "end", "begin"] ["text", "at"] (defScope s_word_size) := ⟨rfl, rfl, rfl, by decide +kernel, rfl, by decide +kernel, by decide +kernel⟩
abbrev s_cut : Stmt := topS 15
theorem sc_cut : FnScope ["text", "found", "at", "line", "begin", "size"] ["text"] (defScope s_cut) := ⟨rfl, rfl, rfl, by decide +kernel, rfl, by decide +kernel, by decide +kernel⟩
abbrev s_sort_told : Stmt := topS 16
theorem sc_sort_told : FnScope ["word"] ["word"] (defScope s_sort_told) := ⟨rfl, rfl, rfl, by decide +kernel, rfl, by decide +kernel, by decide +kernel⟩
abbrev s_sort_of : Stmt := topS 17
theorem sc_sort_of : FnScope ["word"] ["word"] (defScope s_sort_of) := ⟨rfl, rfl, rfl, by decide +kernel, rfl, by decide +kernel, by decide +kernel⟩
abbrev s_words_of : Stmt := topS 19
theorem sc_words_of : FnScope ["text"] ["text"] (defScope s_words_of) := ⟨rfl, rfl, rfl, by decide +kernel, rfl, by decide +kernel, by decide +kernel⟩
abbrev s_law_begun : Stmt := topS 21
theorem sc_law_begun : FnScope ["script", "wide", "grain"] ["script"] (defScope s_law_begun) := ⟨rfl, rfl, rfl, by decide +kernel, rfl, by decide +kernel, by decide +kernel⟩
abbrev s_law_mixed : Stmt := topS 22
theorem sc_law_mixed : FnScope ["draw", "turn", "found", "prime", "blend", "grain"] ["draw"] (defScope s_law_mixed) := ⟨rfl, rfl, rfl, by decide +kernel, rfl, by decide +kernel, by decide +kernel⟩
abbrev s_law_take : Stmt := topS 23
theorem sc_law_take : FnScope ["draw", "many", "found"] ["draw", "many"] (defScope s_law_take) := ⟨rfl, rfl, rfl, by decide +kernel, rfl, by decide +kernel, by decide +kernel⟩
abbrev s_law_pick : Stmt := topS 24
theorem sc_law_pick : FnScope ["draw", "some"] ["draw", "some"] (defScope s_law_pick) := ⟨rfl, rfl, rfl, by decide +kernel, rfl, by decide +kernel, by decide +kernel⟩
abbrev s_law_caught : Stmt := topS 25
theorem sc_law_caught : FnScope ["work", "caught", "error"] ["work"] (defScope s_law_caught) := ⟨rfl, rfl, rfl, by decide +kernel, rfl, by decide +kernel, by decide +kernel⟩
abbrev s_law_kept : Stmt := topS 26
theorem sc_law_kept : FnScope ["found"] [] (defScope s_law_kept) := ⟨rfl, rfl, rfl, by decide +kernel, rfl, by decide +kernel, by decide +kernel⟩
abbrev s_law_is_small : Stmt := topS 27
theorem sc_law_is_small : FnScope ["word", "letter"] ["word"] (defScope s_law_is_small) := ⟨rfl, rfl, rfl, by decide +kernel, rfl, by decide +kernel, by decide +kernel⟩
abbrev s_law_is_name : Stmt := topS 28
theorem sc_law_is_name : FnScope ["matter"] ["matter"] (defScope s_law_is_name) := ⟨rfl, rfl, rfl, by decide +kernel, rfl, by decide +kernel, by decide +kernel⟩
abbrev s_law_sort : Stmt := topS 29
theorem sc_law_sort : FnScope ["word", "figures", "is_plain", "one"] ["word"] (defScope s_law_sort) := ⟨rfl, rfl, rfl, by decide +kernel, rfl, by decide +kernel, by decide +kernel⟩
abbrev s_law_signs : Stmt := topS 30
theorem sc_law_signs : FnScope [] [] (defScope s_law_signs) := ⟨rfl, rfl, rfl, by decide +kernel, rfl, by decide +kernel, by decide +kernel⟩
abbrev s_law_inner : Stmt := topS 31
theorem sc_law_inner : FnScope ["sign"] ["sign"] (defScope s_law_inner) := ⟨rfl, rfl, rfl, by decide +kernel, rfl, by decide +kernel, by decide +kernel⟩
abbrev s_law_word_at : Stmt := topS 32
theorem sc_law_word_at : FnScope ["text", "at", "end", "is_long"] ["text", "at"] (defScope s_law_word_at) := ⟨rfl, rfl, rfl, by decide +kernel, rfl, by decide +kernel, by decide +kernel⟩
abbrev s_law_cut : Stmt := topS 33
theorem sc_law_cut : FnScope ["text", "found", "at", "line", "column", "size"] ["text"] (defScope s_law_cut) := ⟨rfl, rfl, rfl, by decide +kernel, rfl, by decide +kernel, by decide +kernel⟩
abbrev s_law_any_name : Stmt := topS 34
theorem sc_law_any_name : FnScope ["draw", "letters", "found", "k"] ["draw"] (defScope s_law_any_name) := ⟨rfl, rfl, rfl, by decide +kernel, rfl, by decide +kernel, by decide +kernel⟩
abbrev s_law_refused_right : Stmt := topS 35
theorem sc_law_refused_right : FnScope ["draw", "words", "some", "odd", "word", "line", "column", "strange", "error", "is_word"] ["draw", "words"] (defScope s_law_refused_right) := ⟨rfl, rfl, rfl, by decide +kernel, rfl, by decide +kernel, by decide +kernel⟩
abbrev s_law : Stmt := topS 36
theorem sc_law : FnScope ["script", "draw", "word", "some", "turn", "names", "k", "pieces", "any_sign", "text", "due", "found", "line", "column", "name"] ["script"] (defScope s_law) := ⟨rfl, rfl, rfl, by decide +kernel, rfl, by decide +kernel, by decide +kernel⟩
theorem bt_ValueError : bootBuiltins "ValueError" = some (.type "ValueError") := by decide +kernel
theorem bt_abs : bootBuiltins "abs" = some (.builtin "abs") := by decide +kernel
theorem bt_int : bootBuiltins "int" = some (.type "int") := by decide +kernel
theorem bt_isinstance : bootBuiltins "isinstance" = some (.builtin "isinstance") := by decide +kernel
theorem bt_len : bootBuiltins "len" = some (.builtin "len") := by decide +kernel
theorem bt_min : bootBuiltins "min" = some (.builtin "min") := by decide +kernel
theorem bt_range : bootBuiltins "range" = some (.type "range") := by decide +kernel
theorem bt_repr : bootBuiltins "repr" = some (.builtin "repr") := by decide +kernel
theorem bt_sorted : bootBuiltins "sorted" = some (.builtin "sorted") := by decide +kernel
theorem bt_str : bootBuiltins "str" = some (.type "str") := by decide +kernel
theorem bt_tuple : bootBuiltins "tuple" = some (.type "tuple") := by decide +kernel
def clsBody : Stmt → List Stmt
  | .ClassDef _ _ _ b _ _ _ _ _ _ _ => b
  | _ => []
abbrev si_BadText : Stmt := (clsBody (topS 2)).getD 0 (.Pass ⟨0, 0, 0, 0⟩)
theorem nsc_BadText : NdefX.NScope ["self", "line", "column", "wanted", "__class__"] ["self", "line", "column", "wanted"] ["__class__"] (defScope si_BadText) := ⟨rfl, rfl, rfl, by decide +kernel, rfl, by decide +kernel, by decide +kernel, by decide +kernel, by decide +kernel⟩
/-- what the top has written -/
structure Txt (P : Program) (K : PySem.W.Frag) (base : Heap) (mg : Str → Option Value) (A : Ad) : Prop where
  F_is_name : Fun K "is_name" "is_name" s_is_name A.f_is_name A.d_is_name
  g_is_name : mg "is_name" = some (.ref A.f_is_name)
  b_is_name : Binds K A.d_is_name ["thing"] []
  F_is_number_word : Fun K "is_number_word" "is_number_word" s_is_number_word A.f_is_number_word A.d_is_number_word
  g_is_number_word : mg "is_number_word" = some (.ref A.f_is_number_word)
  b_is_number_word : Binds K A.d_is_number_word ["word"] []
  F_is_text : Fun K "is_text" "is_text" s_is_text A.f_is_text A.d_is_text
  g_is_text : mg "is_text" = some (.ref A.f_is_text)
  b_is_text : Binds K A.d_is_text ["thing"] []
  F_word_size : Fun K "word_size" "word_size" s_word_size A.f_word_size A.d_word_size
  g_word_size : mg "word_size" = some (.ref A.f_word_size)
  b_word_size : Binds K A.d_word_size ["text", "at"] []
  F_cut : Fun K "cut" "cut" s_cut A.f_cut A.d_cut
  g_cut : mg "cut" = some (.ref A.f_cut)
  b_cut : Binds K A.d_cut ["text"] []
  F_sort_told : Fun K "sort_told" "sort_told" s_sort_told A.f_sort_told A.d_sort_told
  g_sort_told : mg "sort_told" = some (.ref A.f_sort_told)
  b_sort_told : Binds K A.d_sort_told ["word"] []
  F_sort_of : Fun K "sort_of" "sort_of" s_sort_of A.f_sort_of A.d_sort_of
  g_sort_of : mg "sort_of" = some (.ref A.f_sort_of)
  b_sort_of : Binds K A.d_sort_of ["word"] []
  F_words_of : Fun K "words_of" "words_of" s_words_of A.f_words_of A.d_words_of
  g_words_of : mg "words_of" = some (.ref A.f_words_of)
  b_words_of : Binds K A.d_words_of ["text"] []
  F_law_begun : Fun K "_law_begun" "_law_begun" s_law_begun A.f_law_begun A.d_law_begun
  g_law_begun : mg "_law_begun" = some (.ref A.f_law_begun)
  b_law_begun : Binds K A.d_law_begun ["script"] []
  F_law_mixed : Fun K "_law_mixed" "_law_mixed" s_law_mixed A.f_law_mixed A.d_law_mixed
  g_law_mixed : mg "_law_mixed" = some (.ref A.f_law_mixed)
  b_law_mixed : Binds K A.d_law_mixed ["draw"] []
  F_law_take : Fun K "_law_take" "_law_take" s_law_take A.f_law_take A.d_law_take
  g_law_take : mg "_law_take" = some (.ref A.f_law_take)
  b_law_take : Binds K A.d_law_take ["draw", "many"] []
  F_law_pick : Fun K "_law_pick" "_law_pick" s_law_pick A.f_law_pick A.d_law_pick
  g_law_pick : mg "_law_pick" = some (.ref A.f_law_pick)
  b_law_pick : Binds K A.d_law_pick ["draw", "some"] []
  F_law_caught : Fun K "_law_caught" "_law_caught" s_law_caught A.f_law_caught A.d_law_caught
  g_law_caught : mg "_law_caught" = some (.ref A.f_law_caught)
  b_law_caught : Binds K A.d_law_caught ["work"] []
  F_law_kept : Fun K "_law_kept" "_law_kept" s_law_kept A.f_law_kept A.d_law_kept
  g_law_kept : mg "_law_kept" = some (.ref A.f_law_kept)
  b_law_kept : Binds K A.d_law_kept [] []
  F_law_is_small : Fun K "_law_is_small" "_law_is_small" s_law_is_small A.f_law_is_small A.d_law_is_small
  g_law_is_small : mg "_law_is_small" = some (.ref A.f_law_is_small)
  b_law_is_small : Binds K A.d_law_is_small ["word"] []
  F_law_is_name : Fun K "_law_is_name" "_law_is_name" s_law_is_name A.f_law_is_name A.d_law_is_name
  g_law_is_name : mg "_law_is_name" = some (.ref A.f_law_is_name)
  b_law_is_name : Binds K A.d_law_is_name ["matter"] []
  F_law_sort : Fun K "_law_sort" "_law_sort" s_law_sort A.f_law_sort A.d_law_sort
  g_law_sort : mg "_law_sort" = some (.ref A.f_law_sort)
  b_law_sort : Binds K A.d_law_sort ["word"] []
  F_law_signs : Fun K "_law_signs" "_law_signs" s_law_signs A.f_law_signs A.d_law_signs
  g_law_signs : mg "_law_signs" = some (.ref A.f_law_signs)
  b_law_signs : Binds K A.d_law_signs [] []
  F_law_inner : Fun K "_law_inner" "_law_inner" s_law_inner A.f_law_inner A.d_law_inner
  g_law_inner : mg "_law_inner" = some (.ref A.f_law_inner)
  b_law_inner : Binds K A.d_law_inner ["sign"] []
  F_law_word_at : Fun K "_law_word_at" "_law_word_at" s_law_word_at A.f_law_word_at A.d_law_word_at
  g_law_word_at : mg "_law_word_at" = some (.ref A.f_law_word_at)
  b_law_word_at : Binds K A.d_law_word_at ["text", "at"] []
  F_law_cut : Fun K "_law_cut" "_law_cut" s_law_cut A.f_law_cut A.d_law_cut
  g_law_cut : mg "_law_cut" = some (.ref A.f_law_cut)
  b_law_cut : Binds K A.d_law_cut ["text"] []
  F_law_any_name : Fun K "_law_any_name" "_law_any_name" s_law_any_name A.f_law_any_name A.d_law_any_name
  g_law_any_name : mg "_law_any_name" = some (.ref A.f_law_any_name)
  b_law_any_name : Binds K A.d_law_any_name ["draw"] []
  F_law_refused_right : FunC K "_law_refused_right" "_law_refused_right" s_law_refused_right A.f_law_refused_right A.c_law_refused_right A.d_law_refused_right
  g_law_refused_right : mg "_law_refused_right" = some (.ref A.f_law_refused_right)
  b_law_refused_right : Binds K A.d_law_refused_right ["draw", "words"] []
  kp_law_refused_right : PySem.W.keepIn K (.ref A.f_law_refused_right) = true
  tb_law_refused_right : LamX.TabB base mg A.c_law_refused_right A.t_law_refused_right
  F_law : Fun K "law" "law" s_law A.f_law A.d_law
  g_law : mg "law" = some (.ref A.f_law)
  b_law : Binds K A.d_law ["script"] []
  g_cls_SheetError : mg "SheetError" = some (.ref (A.cls 0))
  x_SheetError : PySem.W.excIn K (A.cls 0) [.type "ValueError", .type "Exception", .type "BaseException", .type "object"] "ValueError.__new__" = true
  k_SheetError : PySem.W.keepIn K (.ref (A.cls 0)) = true
  e_SheetError : PySem.W.subIn K (.ref (A.cls 0)) (.type "BaseException") = some true
  t_SheetError : PySem.W.typeIn K (.ref (A.cls 0)) = some (.type "type")
  g_cls_BadText : mg "BadText" = some (.ref (A.cls 1))
  O_BadText : OexC K (A.cls 1)
  iC_BadText : PySem.W.findIn K (.ref (A.cls 1)) "__init__" = some (some (.ref A.i_BadText))
  tI_BadText : PySem.W.typeIn K (.ref A.i_BadText) = some (.type "function")
  bI_BadText : Binds K A.di_BadText ["self", "line", "column", "wanted"] []
  F_init_BadText : ∃ dV kV doc pm an cda ct cc oc od osl, A.di_BadText = PySem.W.ksFn "__init__" "BadText.__init__" (defArgs si_BadText) (defBody si_BadText) (defScope si_BadText) dV kV doc pm an (.ref cda) ct cc ∧ K.lookup A.i_BadText = some ⟨oc, od, .func A.di_BadText, osl⟩ ∧ PySem.W.codeIn K (.ref cda) "BadText.__init__" = true ∧ SupF P K cda cc (A.cls 1)
  fn_BadText : ∀ f ∈ (["line", "column", "wanted"] : List Str), PySem.W.findIn K (.ref (A.cls 1)) f = some none
  g_cls_BadWord : mg "BadWord" = some (.ref (A.cls 2))
  x_BadWord : PySem.W.excIn K (A.cls 2) [.type "ValueError", .type "Exception", .type "BaseException", .type "object"] "ValueError.__new__" = true
  k_BadWord : PySem.W.keepIn K (.ref (A.cls 2)) = true
  e_BadWord : PySem.W.subIn K (.ref (A.cls 2)) (.type "BaseException") = some true
  t_BadWord : PySem.W.typeIn K (.ref (A.cls 2)) = some (.type "type")
  v_FIGURES : ∃ u v, mg "FIGURES" = some u ∧ RelV v u ∧ ∀ H, Rel K H c_FIGURES v
  v_INNER : ∃ u v, mg "INNER" = some u ∧ RelV v u ∧ ∀ H, Rel K H c_INNER v
  v_IN_NO_TEXT : ∃ u v, mg "IN_NO_TEXT" = some u ∧ RelV v u ∧ ∀ H, Rel K H c_IN_NO_TEXT v
  v_KEPT : ∃ u v, mg "KEPT" = some u ∧ RelV v u ∧ ∀ H, Rel K H c_KEPT v
  v_SIGNS : ∃ u v, mg "SIGNS" = some u ∧ RelV v u ∧ ∀ H, Rel K H c_SIGNS v
  v_SMALL : ∃ u v, mg "SMALL" = some u ∧ RelV v u ∧ ∀ H, Rel K H c_SMALL v
  m_ValueError : mg "ValueError" = none
  m_abs : mg "abs" = none
  m_int : mg "int" = none
  m_isinstance : mg "isinstance" = none
  m_len : mg "len" = none
  m_min : mg "min" = none
  m_range : mg "range" = none
  m_repr : mg "repr" = none
  m_sorted : mg "sorted" = none
  m_str : mg "str" = none
  m_super : mg "super" = none
  m_tuple : mg "tuple" = none
  ok : A.Ok
  fx_ok : ∀ C n, fxT A C n = true → ExcC K C ∧ PySem.W.findIn K (.ref C) n = some none
  sub_ok : SubOk K (subT A)
  ex_ok : ∀ C, exT_ A C = true → ExcC K C
  catch_ok : ∀ j cls b, j < 3 → catchT A j cls = some b → PySem.W.exmOne K cls (.ref (A.cls j)) = some b
theorem kb_0 {K : PySem.W.Frag} {f : Addr} {fd : FuncData} (F : Fun K "words_of" "words_of" s_words_of f fd) : KBinds K fd ["text"] ["text"] (gK 0 1 [0]) (gK 0 1 [0]) := by
  have ⟨oc, od, kV, doc, pm, an, cdv, ct, osl, ed, _, _⟩ := F.ex
  subst ed
  refine ⟨fun s us ws _ hl => ?_, fun a b => gK_rel a b⟩
  unfold gK at hl ⊢
  split at hl
  · rename_i h
    rw [if_pos h]
    obtain ⟨h1, h2⟩ := h
    match us, ws, h1, h2 with
    | [], [b0], _, _ => exact .of_eq rfl
  · cases hl
theorem kb_1 {K : PySem.W.Frag} {f : Addr} {fd : FuncData} (F : Fun K "is_name" "is_name" s_is_name f fd) : KBinds K fd ["thing"] ["thing"] (gK 0 1 [0]) (gK 0 1 [0]) := by
  have ⟨oc, od, kV, doc, pm, an, cdv, ct, osl, ed, _, _⟩ := F.ex
  subst ed
  refine ⟨fun s us ws _ hl => ?_, fun a b => gK_rel a b⟩
  unfold gK at hl ⊢
  split at hl
  · rename_i h
    rw [if_pos h]
    obtain ⟨h1, h2⟩ := h
    match us, ws, h1, h2 with
    | [], [b0], _, _ => exact .of_eq rfl
  · cases hl
theorem kb_2 {K : PySem.W.Frag} {f : Addr} {fd : FuncData} (F : Fun K "sort_of" "sort_of" s_sort_of f fd) : KBinds K fd ["word"] ["word"] (gK 0 1 [0]) (gK 0 1 [0]) := by
  have ⟨oc, od, kV, doc, pm, an, cdv, ct, osl, ed, _, _⟩ := F.ex
  subst ed
  refine ⟨fun s us ws _ hl => ?_, fun a b => gK_rel a b⟩
  unfold gK at hl ⊢
  split at hl
  · rename_i h
    rw [if_pos h]
    obtain ⟨h1, h2⟩ := h
    match us, ws, h1, h2 with
    | [], [b0], _, _ => exact .of_eq rfl
  · cases hl
section
variable {P : Program} {w : World} {K : PySem.W.Frag} {mg : Str → Option Value} {base : Heap} {A : Ad}
theorem ok_init_BadText (T : Txt P K base mg A) : FnOk P w K mg base (L2.CX P w) 1 A.i_BadText A.di_BadText ["self", "line", "column", "wanted"] (spSup (A.cls 1) ["line", "column", "wanted"]) := by
  have ⟨dV, kV, doc, pm, an, cda, ct, cc, oc, od, osl, ed, lk, hcd, G⟩ := T.F_init_BadText
  rw [ed] at lk ⊢
  exact sup_ok (N := ["self", "line", "column", "wanted", "__class__"]) (k := 0) lk rfl hcd nsc_BadText T.O_BadText G T.m_super rfl rfl rfl rfl rfl (by decide) (by decide) (.cons rfl rfl (by decide) (by decide) (.cons rfl rfl (by decide) (by decide) (.cons rfl rfl (by decide) (by decide) .nil))) T.fn_BadText (by decide) (by decide)
theorem ok_is_name (T : Txt P K base mg A) : FnOk P w K mg base (L2.CX P w) 1 A.f_is_name A.d_is_name ["thing"] (spM K 1 (r_is_name A)) := by
  refine fn_ok (k := 0) T.F_is_name sc_is_name fun cdv A' outer s H E hr => ?_
  have tk0 : Takes (cxOf (L2.CX P w) P w K mg base ["thing", "letter"] "is_name" (defScope s_is_name) A.f_is_name cdv A' outer s H E) (Wd E) := takes_of rfl rfl rfl rfl
  have po0 : PassesOwn (model P w) (cxOf (L2.CX P w) P w K mg base ["thing", "letter"] "is_name" (defScope s_is_name) A.f_is_name cdv A' outer s H E).A (cxOf (L2.CX P w) P w K mg base ["thing", "letter"] "is_name" (defScope s_is_name) A.f_is_name cdv A' outer s H E).env (cxOf (L2.CX P w) P w K mg base ["thing", "letter"] "is_name" (defScope s_is_name) A.f_is_name cdv A' outer s H E).xe := passes_of rfl
  exact (ss_cons (s_if (w_pt (w_or (t_not (t_val (e_callB call_isiA (d_isi T.sub_ok T.ex_ok) rfl T.m_isinstance bt_isinstance (a_cons (e_var (pv 0)) (a_cons (e_const (pe_bltn (v := .ty "str") rfl T.m_str bt_str rfl) fun _ => rfl) a_nil))))) (w_or (t_not (t_chain op_leA op_leA d_ord d_ord bools_ord bools_ord e_int (e_callB call_lenA d_len_ rfl T.m_len bt_len (a_cons (e_var (pv 0)) a_nil)) e_int)) (w_or1 (t_cmp (op_inC (hu65 hr)) d_inC bools_inC (e_var (pv 0)) (e_glob rfl T.v_KEPT)))))) (ss_one (s_ret e_bl)) ss_nil)
    (ss_one (s_ret (e_cmp (op_eqE hr.units) (d_nil d_eq) (e_comp (own := [("letter", 1)]) (mkF_ok _) rfl sc_is_name.nd (i_chars (e_var (pv 0))) (blkOk_by (own := [("letter", 1)]) (N := ["thing", "letter"]) (sc := defScope s_is_name) (by decide +kernel)) (mono_name) (tg_name) (fun _ _ _ _ _ => pg_name (i := 1) sc_is_name.nd rfl (Or.inl rfl)) (W1 := W0) (fun _ _ _ _ _ => (ts_one (t_cmp (op_notInC (hu65 hr)) d_inC bools_inC (e_var (pv 1)) (e_glob rfl T.v_SMALL)))) (W2 := W0) (fun _ _ _ _ _ => (e_var (pv 1)))) (e_lst (mkF_ok _) a_nil)))))
theorem ok_is_number_word (T : Txt P K base mg A) : FnOk P w K mg base (L2.CX P w) 1 A.f_is_number_word A.d_is_number_word ["word"] (spM K 1 (r_is_number_word A)) := by
  refine fn_ok (k := 0) T.F_is_number_word sc_is_number_word fun cdv A' outer s H E hr => ?_
  have tk0 : Takes (cxOf (L2.CX P w) P w K mg base ["word", "figures", "letter"] "is_number_word" (defScope s_is_number_word) A.f_is_number_word cdv A' outer s H E) (Wd E) := takes_of rfl rfl rfl rfl
  have po0 : PassesOwn (model P w) (cxOf (L2.CX P w) P w K mg base ["word", "figures", "letter"] "is_number_word" (defScope s_is_number_word) A.f_is_number_word cdv A' outer s H E).A (cxOf (L2.CX P w) P w K mg base ["word", "figures", "letter"] "is_number_word" (defScope s_is_number_word) A.f_is_number_word cdv A' outer s H E).env (cxOf (L2.CX P w) P w K mg base ["word", "figures", "letter"] "is_number_word" (defScope s_is_number_word) A.f_is_number_word cdv A' outer s H E).xe := passes_of rfl
  exact (ss_cons (s_set (i := 1) sc_is_number_word.nd rfl (Or.inl rfl) (e_if (t_cmp (op_eqE hr.units) (d_nil d_eq) (bools_nil bools_eq) (e_sl sl_all (d_sl (mkF_ok _)) (e_var (pv 0)) o_none (o_some e_int)) e_str) (e_sl sl_all (d_sl (mkF_ok _)) (e_var (pv 0)) (o_some e_int) o_none) (e_var (pv 0))))
    (ss_cons (s_if (w_pt (w_or (t_not (t_chain op_leA op_leA d_ord d_ord bools_ord bools_ord e_int (e_callB call_lenA d_len_ rfl T.m_len bt_len (a_cons (e_var (pv 1)) a_nil)) e_int)) (w_or1 (t_cmp (op_neE hr.units) (d_nil d_ne) (bools_nil bools_ne) (e_comp (own := [("letter", 2)]) (mkF_ok _) rfl sc_is_number_word.nd (i_chars (e_var (pv 1))) (blkOk_by (own := [("letter", 2)]) (N := ["word", "figures", "letter"]) (sc := defScope s_is_number_word) (by decide +kernel)) (mono_name) (tg_name) (fun _ _ _ _ _ => pg_name (i := 2) sc_is_number_word.nd rfl (Or.inl rfl)) (W1 := W0) (fun _ _ _ _ _ => (ts_one (t_cmp (op_notInC (hu65 hr)) d_inC bools_inC (e_var (pv 2)) (e_glob rfl T.v_FIGURES)))) (W2 := W0) (fun _ _ _ _ _ => (e_var (pv 2)))) (e_lst (mkF_ok _) a_nil))))) (ss_one (s_ret e_bl)) ss_nil)
    (ss_one (s_ret (e_or (e_cmp (op_eqE hr.units) (d_nil d_eq) (e_var (pv 0)) e_str) (e_one (e_cmp (op_neE hr.units) (d_nil d_ne) (e_ix (ix_all (hu_of hr)) d_ix (e_var (pv 1)) e_int) e_str)))))))
theorem ok_is_text (T : Txt P K base mg A) : FnOk P w K mg base (L2.CX P w) 1 A.f_is_text A.d_is_text ["thing"] (spM K 1 (r_is_text A)) := by
  refine fn_ok (k := 0) T.F_is_text sc_is_text fun cdv A' outer s H E hr => ?_
  have tk0 : Takes (cxOf (L2.CX P w) P w K mg base ["thing", "letter"] "is_text" (defScope s_is_text) A.f_is_text cdv A' outer s H E) (Wd E) := takes_of rfl rfl rfl rfl
  have po0 : PassesOwn (model P w) (cxOf (L2.CX P w) P w K mg base ["thing", "letter"] "is_text" (defScope s_is_text) A.f_is_text cdv A' outer s H E).A (cxOf (L2.CX P w) P w K mg base ["thing", "letter"] "is_text" (defScope s_is_text) A.f_is_text cdv A' outer s H E).env (cxOf (L2.CX P w) P w K mg base ["thing", "letter"] "is_text" (defScope s_is_text) A.f_is_text cdv A' outer s H E).xe := passes_of rfl
  exact (ss_cons (s_if (t_not (t_val (e_callB call_isiA (d_isi T.sub_ok T.ex_ok) rfl T.m_isinstance bt_isinstance (a_cons (e_var (pv 0)) (a_cons (e_const (pe_bltn (v := .ty "str") rfl T.m_str bt_str rfl) fun _ => rfl) a_nil))))) (ss_one (s_ret e_bl)) ss_nil)
    (ss_one (s_ret (e_cmp (op_eqE hr.units) (d_nil d_eq) (e_comp (own := [("letter", 1)]) (mkF_ok _) rfl sc_is_text.nd (i_chars (e_var (pv 0))) (blkOk_by (own := [("letter", 1)]) (N := ["thing", "letter"]) (sc := defScope s_is_text) (by decide +kernel)) (mono_name) (tg_name) (fun _ _ _ _ _ => pg_name (i := 1) sc_is_text.nd rfl (Or.inl rfl)) (W1 := W0) (fun _ _ _ _ _ => (ts_one (w_pt (w_and (t_cmp (op_neE hr.units) (d_nil d_ne) (bools_nil bools_ne) (e_var (pv 1)) e_str) (w_and1 (t_not (t_chain op_leA op_leA d_ord d_ord bools_ord bools_ord e_str (e_var (pv 1)) e_str))))))) (W2 := W0) (fun _ _ _ _ _ => (e_var (pv 1)))) (e_lst (mkF_ok _) a_nil)))))
theorem ok_word_size (T : Txt P K base mg A) : FnOk P w K mg base (L2.CX P w) 1 A.f_word_size A.d_word_size ["text", "at"] (spM K 2 (r_word_size A)) := by
  refine fn_ok (k := 0) T.F_word_size sc_word_size fun cdv A' outer s H E hr => ?_
  have tk0 : Takes (cxOf (L2.CX P w) P w K mg base ["text", "at", "end", "begin"] "word_size" (defScope s_word_size) A.f_word_size cdv A' outer s H E) (Wd E) := takes_of rfl rfl rfl rfl
  have po0 : PassesOwn (model P w) (cxOf (L2.CX P w) P w K mg base ["text", "at", "end", "begin"] "word_size" (defScope s_word_size) A.f_word_size cdv A' outer s H E).A (cxOf (L2.CX P w) P w K mg base ["text", "at", "end", "begin"] "word_size" (defScope s_word_size) A.f_word_size cdv A' outer s H E).env (cxOf (L2.CX P w) P w K mg base ["text", "at", "end", "begin"] "word_size" (defScope s_word_size) A.f_word_size cdv A' outer s H E).xe := passes_of rfl
  exact (ss_cons (s_set (i := 2) sc_word_size.nd rfl (Or.inl rfl) (e_op op_addT (d_addT (mkF_ok _)) (e_var (pv 1)) (e_callTy call_int1 d_int rfl T.m_int bt_int (a_cons (e_and (e_cmp (op_eqE hr.units) (d_nil d_eq) (e_ix (ix_all (hu_of hr)) d_ix (e_var (pv 0)) (e_var (pv 1))) e_str) (e_and (e_cmp (op_neE hr.units) (d_nil d_ne) (e_sl sl_all (d_sl (mkF_ok _)) (e_var (pv 0)) (o_some (e_op op_addT (d_addT (mkF_ok _)) (e_var (pv 1)) e_int)) (o_some (e_op op_addT (d_addT (mkF_ok _)) (e_var (pv 1)) e_int))) e_str) (e_one (e_cmp (op_inC (hu65 hr)) d_inC (e_ix (ix_all (hu_of hr)) d_ix (e_var (pv 0)) (e_op op_addT (d_addT (mkF_ok _)) (e_var (pv 1)) e_int)) (e_glob rfl T.v_FIGURES))))) a_nil))))
    (ss_cons (s_set (i := 3) sc_word_size.nd rfl (Or.inl rfl) (e_var (pv 2)))
    (ss_cons (s_while po0 (w_pt (w_and (t_cmp op_ltA d_ord bools_ord (e_var (pv 2)) (e_callB call_lenA d_len_ rfl T.m_len bt_len (a_cons (e_var (pv 0)) a_nil))) (w_and1 (t_cmp (op_inC (hu65 hr)) d_inC bools_inC (e_ix (ix_all (hu_of hr)) d_ix (e_var (pv 0)) (e_var (pv 2))) (e_glob rfl T.v_INNER))))) (ss_one (s_aug (i := 2) sc_word_size.nd rfl (Or.inl rfl) e_int)))
    (ss_cons (s_if (t_cmp op_gtA d_ord bools_ord (e_var (pv 2)) (e_var (pv 3))) (ss_one (s_ret (e_op op_sub d_sub (e_var (pv 2)) (e_var (pv 1))))) ss_nil)
    (ss_one (s_ret (e_if (t_cmp (op_inC (hu65 hr)) d_inC bools_inC (e_sl sl_all (d_sl (mkF_ok _)) (e_var (pv 0)) (o_some (e_var (pv 1))) (o_some (e_op op_addT (d_addT (mkF_ok _)) (e_var (pv 1)) e_int))) (e_tup (a_cons e_str (a_cons e_str a_nil)))) e_int e_int)))))))
theorem ok_cut (T : Txt P K base mg A) : FnOk P w K mg base (L2.CX P w) 2 A.f_cut A.d_cut ["text"] (spM K 1 (r_cut A)) := by
  refine fn_ok (k := 1) T.F_cut sc_cut fun cdv A' outer s H E hr => ?_
  have tk0 : Takes (cxOf (L2.CX P w) P w K mg base ["text", "found", "at", "line", "begin", "size"] "cut" (defScope s_cut) A.f_cut cdv A' outer s H E) (Wd E) := takes_of rfl rfl rfl rfl
  have po0 : PassesOwn (model P w) (cxOf (L2.CX P w) P w K mg base ["text", "found", "at", "line", "begin", "size"] "cut" (defScope s_cut) A.f_cut cdv A' outer s H E).A (cxOf (L2.CX P w) P w K mg base ["text", "found", "at", "line", "begin", "size"] "cut" (defScope s_cut) A.f_cut cdv A' outer s H E).env (cxOf (L2.CX P w) P w K mg base ["text", "found", "at", "line", "begin", "size"] "cut" (defScope s_cut) A.f_cut cdv A' outer s H E).xe := passes_of rfl
  exact (ss_cons (s_asg (e_tup (a_cons (e_lst (mkM_ok _) a_nil) (a_cons e_int (a_cons e_int (a_cons e_int a_nil))))) (g_tup rfl (gs_cons (g_name (pg_name (i := 1) sc_cut.nd rfl (Or.inl rfl))) (gs_cons (g_name (pg_name (i := 2) sc_cut.nd rfl (Or.inl rfl))) (gs_cons (g_name (pg_name (i := 3) sc_cut.nd rfl (Or.inl rfl))) (gs_cons (g_name (pg_name (i := 4) sc_cut.nd rfl (Or.inl rfl))) gs_nil))))))
    (ss_cons (s_while po0 (t_cmp op_ltA d_ord bools_ord (e_var (pv 2)) (e_callB call_lenA d_len_ rfl T.m_len bt_len (a_cons (e_var (pv 0)) a_nil))) (ss_one (s_if (t_cmp (op_inC (hu65 hr)) d_inC bools_inC (e_ix (ix_all (hu_of hr)) d_ix (e_var (pv 0)) (e_var (pv 2))) e_str) (ss_cons (s_aug (i := 2) sc_cut.nd rfl (Or.inl rfl) e_int)
    (ss_one (s_if (t_cmp (op_eqE hr.units) (d_nil d_eq) (bools_nil bools_eq) (e_ix (ix_all (hu_of hr)) d_ix (e_var (pv 0)) (e_op op_sub d_sub (e_var (pv 2)) e_int)) e_str) (ss_one (s_par (i := 3) (j := 4) rfl sc_cut.nd rfl rfl (by decide) rfl rfl (a_cons (e_op op_addT (d_addT (mkF_ok _)) (e_var (pv 3)) e_int) (a_cons (e_var (pv 2)) a_nil)) (by rfl))) ss_nil))) (ss_cons (s_set (i := 5) sc_cut.nd rfl (Or.inl rfl) (e_call (ok_word_size T) (hr.mono (by decide)) rfl T.g_word_size T.F_word_size.kp T.b_word_size tk0 (a_cons (e_var (pv 0)) (a_cons (e_var (pv 2)) a_nil))))
    (ss_cons (s_expr (e_bm PySem.F.plainAttrs_list PySem.F.slot_list_append PySem.F.type_list_append mt_append m_append (e_var (pv 1)) (a_cons (e_tup (a_cons (e_sl sl_all (d_sl (mkF_ok _)) (e_var (pv 0)) (o_some (e_var (pv 2))) (o_some (e_op op_addT (d_addT (mkF_ok _)) (e_var (pv 2)) (e_var (pv 5))))) (a_cons (e_var (pv 3)) (a_cons (e_op op_addT (d_addT (mkF_ok _)) (e_op op_sub d_sub (e_var (pv 2)) (e_var (pv 4))) e_int) a_nil)))) a_nil)))
    (ss_one (s_aug (i := 2) sc_cut.nd rfl (Or.inl rfl) (e_var (pv 5)))))))))
    (ss_one (s_ret (e_var (pv 1))))))
theorem ok_sort_told (T : Txt P K base mg A) : FnOk P w K mg base (L2.CX P w) 2 A.f_sort_told A.d_sort_told ["word"] (spM K 1 (r_sort_told A)) := by
  refine fn_ok (k := 1) T.F_sort_told sc_sort_told fun cdv A' outer s H E hr => ?_
  have tk0 : Takes (cxOf (L2.CX P w) P w K mg base ["word"] "sort_told" (defScope s_sort_told) A.f_sort_told cdv A' outer s H E) (Wd E) := takes_of rfl rfl rfl rfl
  have po0 : PassesOwn (model P w) (cxOf (L2.CX P w) P w K mg base ["word"] "sort_told" (defScope s_sort_told) A.f_sort_told cdv A' outer s H E).A (cxOf (L2.CX P w) P w K mg base ["word"] "sort_told" (defScope s_sort_told) A.f_sort_told cdv A' outer s H E).env (cxOf (L2.CX P w) P w K mg base ["word"] "sort_told" (defScope s_sort_told) A.f_sort_told cdv A' outer s H E).xe := passes_of rfl
  exact (ss_cons (s_if (t_cmp (op_inC (hu65 hr)) d_inC bools_inC (e_var (pv 0)) (e_glob rfl T.v_IN_NO_TEXT)) (ss_one (s_ret e_str)) ss_nil)
    (ss_cons (s_if (w_pt (w_or (t_cmp (op_inC (hu65 hr)) d_inC bools_inC (e_var (pv 0)) (e_glob rfl T.v_KEPT)) (w_or1 (t_cmp (op_inC (hu65 hr)) d_inC bools_inC (e_var (pv 0)) (e_glob rfl T.v_SIGNS))))) (ss_one (s_ret (e_var (pv 0)))) ss_nil)
    (ss_cons (s_if (t_val (e_call (ok_is_number_word T) (hr.mono (by decide)) rfl T.g_is_number_word T.F_is_number_word.kp T.b_is_number_word tk0 (a_cons (e_var (pv 0)) a_nil))) (ss_one (s_ret e_str)) ss_nil)
    (ss_one (s_ret (e_if (t_val (e_call (ok_is_name T) (hr.mono (by decide)) rfl T.g_is_name T.F_is_name.kp T.b_is_name tk0 (a_cons (e_var (pv 0)) a_nil))) e_str e_str))))))
theorem ok_sort_of (T : Txt P K base mg A) : FnOk P w K mg base (L2.CX P w) 3 A.f_sort_of A.d_sort_of ["word"] (spM K 1 (r_sort_of A)) := by
  refine fn_ok (k := 2) T.F_sort_of sc_sort_of fun cdv A' outer s H E hr => ?_
  have tk0 : Takes (cxOf (L2.CX P w) P w K mg base ["word"] "sort_of" (defScope s_sort_of) A.f_sort_of cdv A' outer s H E) (Wd E) := takes_of rfl rfl rfl rfl
  have po0 : PassesOwn (model P w) (cxOf (L2.CX P w) P w K mg base ["word"] "sort_of" (defScope s_sort_of) A.f_sort_of cdv A' outer s H E).A (cxOf (L2.CX P w) P w K mg base ["word"] "sort_of" (defScope s_sort_of) A.f_sort_of cdv A' outer s H E).env (cxOf (L2.CX P w) P w K mg base ["word"] "sort_of" (defScope s_sort_of) A.f_sort_of cdv A' outer s H E).xe := passes_of rfl
  exact (ss_cons (s_if (w_pt (w_or (t_not (t_val (e_call (ok_is_text T) (hr.mono (by decide)) rfl T.g_is_text T.F_is_text.kp T.b_is_text tk0 (a_cons (e_var (pv 0)) a_nil)))) (w_or1 (t_cmp (op_neE hr.units) (d_nil d_ne) (bools_nil bools_ne) (e_call (ok_cut T) (hr.mono (by decide)) rfl T.g_cut T.F_cut.kp T.b_cut tk0 (a_cons (e_var (pv 0)) a_nil)) (e_lst (mkF_ok _) (a_cons (e_tup (a_cons (e_var (pv 0)) (a_cons e_int (a_cons e_int a_nil)))) a_nil)))))) (ss_one (s_raise rfl tk0 (pmk_own PySem.F.excBase_ValueError T.x_BadWord T.g_cls_BadWord T.k_BadWord (raises_own T.e_BadWord T.t_BadWord) rfl))) ss_nil)
    (ss_one (s_ret (e_call (ok_sort_told T) (hr.mono (by decide)) rfl T.g_sort_told T.F_sort_told.kp T.b_sort_told tk0 (a_cons (e_var (pv 0)) a_nil)))))
theorem ok_words_of (T : Txt P K base mg A) : FnOk P w K mg base (L2.CX P w) 3 A.f_words_of A.d_words_of ["text"] (spM K 1 (r_words_of A)) := by
  refine fn_ok (k := 2) T.F_words_of sc_words_of fun cdv A' outer s H E hr => ?_
  have tk0 : Takes (cxOf (L2.CX P w) P w K mg base ["text"] "words_of" (defScope s_words_of) A.f_words_of cdv A' outer s H E) (Wd E) := takes_of rfl rfl rfl rfl
  have po0 : PassesOwn (model P w) (cxOf (L2.CX P w) P w K mg base ["text"] "words_of" (defScope s_words_of) A.f_words_of cdv A' outer s H E).A (cxOf (L2.CX P w) P w K mg base ["text"] "words_of" (defScope s_words_of) A.f_words_of cdv A' outer s H E).env (cxOf (L2.CX P w) P w K mg base ["text"] "words_of" (defScope s_words_of) A.f_words_of cdv A' outer s H E).xe := passes_of rfl
  exact (ss_cons (s_if (t_not (t_val (e_call (ok_is_text T) (hr.mono (by decide)) rfl T.g_is_text T.F_is_text.kp T.b_is_text tk0 (a_cons (e_var (pv 0)) a_nil)))) (ss_one (s_raise_init rfl tk0 T.O_BadText T.iC_BadText T.tI_BadText (ok_init_BadText T) (hr.mono (by decide)) T.bI_BadText rfl T.g_cls_BadText (a_cons e_non (a_cons e_non (a_cons e_non a_nil))) rfl (by decide) (by decide))) ss_nil)
    (ss_one (s_ret (e_call (ok_cut T) (hr.mono (by decide)) rfl T.g_cut T.F_cut.kp T.b_cut tk0 (a_cons (e_var (pv 0)) a_nil)))))
theorem ok_law_begun (T : Txt P K base mg A) : FnOk P w K mg base (L2.CX P w) 1 A.f_law_begun A.d_law_begun ["script"] (spM K 1 (r_law_begun A)) := by
  refine fn_ok (k := 0) T.F_law_begun sc_law_begun fun cdv A' outer s H E hr => ?_
  have tk0 : Takes (cxOf (L2.CX P w) P w K mg base ["script", "wide", "grain"] "_law_begun" (defScope s_law_begun) A.f_law_begun cdv A' outer s H E) (Wd E) := takes_of rfl rfl rfl rfl
  have po0 : PassesOwn (model P w) (cxOf (L2.CX P w) P w K mg base ["script", "wide", "grain"] "_law_begun" (defScope s_law_begun) A.f_law_begun cdv A' outer s H E).A (cxOf (L2.CX P w) P w K mg base ["script", "wide", "grain"] "_law_begun" (defScope s_law_begun) A.f_law_begun cdv A' outer s H E).env (cxOf (L2.CX P w) P w K mg base ["script", "wide", "grain"] "_law_begun" (defScope s_law_begun) A.f_law_begun cdv A' outer s H E).xe := passes_of rfl
  exact (ss_cons (s_setComp (i := 1) (own := [("grain", 2)]) (mkM_ok _) rfl sc_law_begun.nd rfl rfl (sw_true rfl rfl rfl (by decide +kernel)) (i_seq (e_var (pv 0))) (blkOk_by (own := [("grain", 2)]) (N := ["script", "wide", "grain"]) (sc := defScope s_law_begun) (by decide +kernel)) (mono_name) (tg_name) (fun _ _ _ _ _ => pg_name (i := 2) sc_law_begun.nd rfl (Or.inl rfl)) (W1 := W0) (fun _ _ _ _ _ => (ts_one (t_cmp op_geA d_ord bools_ord (e_callB call_abs d_abs rfl T.m_abs bt_abs (a_cons (e_var (pv 2)) a_nil)) (e_op op_pow d_pow e_int e_int)))) (W2 := W0) (fun _ _ _ _ _ => (e_op op_sub d_sub (e_callB call_abs d_abs rfl T.m_abs bt_abs (a_cons (e_var (pv 2)) a_nil)) (e_op op_pow d_pow e_int e_int))))
    (ss_one (s_ret (e_disp (mkDM_ok _) (dp_cons (.inr "wide") pe_str (e_var (pv 1)) (dp_cons (.inr "cells") pe_str (e_comp (own := [("grain", 2)]) (mkF_ok _) rfl sc_law_begun.nd (i_seq (e_var (pv 0))) (blkOk_by (own := [("grain", 2)]) (N := ["script", "wide", "grain"]) (sc := defScope s_law_begun) (by decide +kernel)) (mono_name) (tg_name) (fun _ _ _ _ _ => pg_name (i := 2) sc_law_begun.nd rfl (Or.inl rfl)) (W1 := W0) (fun _ _ _ _ _ => ts_nil) (W2 := W0) (fun _ _ _ _ _ => (e_op op_mod d_mod (e_callTy call_int1 d_int rfl T.m_int bt_int (a_cons (e_callB call_abs d_abs rfl T.m_abs bt_abs (a_cons (e_var (pv 2)) a_nil)) a_nil)) e_int))) (dp_cons (.inr "rest") pe_str e_int (dp_cons (.inr "turn") pe_str e_int dp_nil)))) (by decide)))))
theorem ok_law_mixed (T : Txt P K base mg A) : FnOk P w K mg base (L2.CX P w) 1 A.f_law_mixed A.d_law_mixed ["draw"] (spM K 1 (r_law_mixed A)) := by
  refine fn_ok (k := 0) T.F_law_mixed sc_law_mixed fun cdv A' outer s H E hr => ?_
  have tk0 : Takes (cxOf (L2.CX P w) P w K mg base ["draw", "turn", "found", "prime", "blend", "grain"] "_law_mixed" (defScope s_law_mixed) A.f_law_mixed cdv A' outer s H E) (Wd E) := takes_of rfl rfl rfl rfl
  have po0 : PassesOwn (model P w) (cxOf (L2.CX P w) P w K mg base ["draw", "turn", "found", "prime", "blend", "grain"] "_law_mixed" (defScope s_law_mixed) A.f_law_mixed cdv A' outer s H E).A (cxOf (L2.CX P w) P w K mg base ["draw", "turn", "found", "prime", "blend", "grain"] "_law_mixed" (defScope s_law_mixed) A.f_law_mixed cdv A' outer s H E).env (cxOf (L2.CX P w) P w K mg base ["draw", "turn", "found", "prime", "blend", "grain"] "_law_mixed" (defScope s_law_mixed) A.f_law_mixed cdv A' outer s H E).xe := passes_of rfl
  exact (ss_cons (s_par (i := 1) (j := 2) rfl sc_law_mixed.nd rfl rfl (by decide) rfl rfl (a_cons (e_op op_addT (d_addT (mkF_ok _)) (e_ix (ix_all (hu_of hr)) d_ix (e_var (pv 0)) e_str) e_int) (a_cons e_int a_nil)) (by rfl))
    (ss_cons (s_asg (e_var (pv 1)) (g_sub (W := W0) (hu_of hr) (e_var (pv 0)) e_str))
    (ss_cons (s_for po0 rfl (i_seq (e_lst (mkF_ok _) (a_cons e_int (a_cons e_int (a_cons e_int (a_cons e_int a_nil)))))) (g_name (pg_name (i := 3) sc_law_mixed.nd rfl (Or.inl rfl))) (ss_cons (s_set (i := 4) sc_law_mixed.nd rfl (Or.inl rfl) (e_op op_addT (d_addT (mkF_ok _)) (e_op op_mul d_mul e_int (e_var (pv 1))) (e_op op_fdiv d_div (e_var (pv 3)) e_int)))
    (ss_cons (s_for po0 rfl (i_seq (e_ix (ix_all (hu_of hr)) d_ix (e_var (pv 0)) e_str)) (g_name (pg_name (i := 5) sc_law_mixed.nd rfl (Or.inl rfl))) (ss_one (s_set (i := 4) sc_law_mixed.nd rfl (Or.inl rfl) (e_op op_mod d_mod (e_callTy call_int1 d_int rfl T.m_int bt_int (a_cons (e_op op_addT (d_addT (mkF_ok _)) (e_op op_addT (d_addT (mkF_ok _)) (e_op op_mul d_mul (e_var (pv 4)) e_int) (e_var (pv 5))) (e_var (pv 1))) a_nil)) (e_var (pv 3))))))
    (ss_one (s_set (i := 2) sc_law_mixed.nd rfl (Or.inl rfl) (e_op op_addT (d_addT (mkF_ok _)) (e_op op_mul d_mul (e_var (pv 2)) e_int) (e_op op_mod d_mod (e_callTy call_int1 d_int rfl T.m_int bt_int (a_cons (e_op op_pow d_pow (e_var (pv 4)) e_int) a_nil)) (e_var (pv 3)))))))))
    (ss_one (s_ret (e_var (pv 2)))))))
theorem ok_law_take (T : Txt P K base mg A) : FnOk P w K mg base (L2.CX P w) 2 A.f_law_take A.d_law_take ["draw", "many"] (spM K 2 (r_law_take A)) := by
  refine fn_ok (k := 1) T.F_law_take sc_law_take fun cdv A' outer s H E hr => ?_
  have tk0 : Takes (cxOf (L2.CX P w) P w K mg base ["draw", "many", "found"] "_law_take" (defScope s_law_take) A.f_law_take cdv A' outer s H E) (Wd E) := takes_of rfl rfl rfl rfl
  have po0 : PassesOwn (model P w) (cxOf (L2.CX P w) P w K mg base ["draw", "many", "found"] "_law_take" (defScope s_law_take) A.f_law_take cdv A' outer s H E).A (cxOf (L2.CX P w) P w K mg base ["draw", "many", "found"] "_law_take" (defScope s_law_take) A.f_law_take cdv A' outer s H E).env (cxOf (L2.CX P w) P w K mg base ["draw", "many", "found"] "_law_take" (defScope s_law_take) A.f_law_take cdv A' outer s H E).xe := passes_of rfl
  exact (ss_cons (s_if (t_cmp (op_eqE hr.units) (d_nil d_eq) (bools_nil bools_eq) (e_ix (ix_all (hu_of hr)) d_ix (e_var (pv 0)) e_str) e_int) (ss_one (s_asg (e_if (t_cmp (op_neE hr.units) (d_nil d_ne) (bools_nil bools_ne) (e_ix (ix_all (hu_of hr)) d_ix (e_var (pv 0)) e_str) (e_lst (mkF_ok _) a_nil)) (e_bm PySem.F.plainAttrs_list PySem.F.slot_list_pop PySem.F.type_list_pop mt_popAt m_popAt (e_ix (ix_all (hu_of hr)) d_ix (e_var (pv 0)) e_str) (a_cons e_int a_nil)) (e_call (ok_law_mixed T) (hr.mono (by decide)) rfl T.g_law_mixed T.F_law_mixed.kp T.b_law_mixed tk0 (a_cons (e_var (pv 0)) a_nil))) (g_sub (W := W0) (hu_of hr) (e_var (pv 0)) e_str))) ss_nil)
    (ss_cons (s_set (i := 2) sc_law_take.nd rfl (Or.inl rfl) (e_op op_mod d_mod (e_callTy call_int1 d_int rfl T.m_int bt_int (a_cons (e_ix (ix_all (hu_of hr)) d_ix (e_var (pv 0)) e_str) a_nil)) (e_var (pv 1))))
    (ss_cons (s_asg (e_op op_fdiv d_div (e_ix (ix_all (hu_of hr)) d_ix (e_var (pv 0)) e_str) (e_var (pv 1))) (g_sub (W := W0) (hu_of hr) (e_var (pv 0)) e_str))
    (ss_one (s_ret (e_var (pv 2)))))))
theorem ok_law_pick (T : Txt P K base mg A) : FnOk P w K mg base (L2.CX P w) 3 A.f_law_pick A.d_law_pick ["draw", "some"] (spM K 2 (r_law_pick A)) := by
  refine fn_ok (k := 2) T.F_law_pick sc_law_pick fun cdv A' outer s H E hr => ?_
  have tk0 : Takes (cxOf (L2.CX P w) P w K mg base ["draw", "some"] "_law_pick" (defScope s_law_pick) A.f_law_pick cdv A' outer s H E) (Wd E) := takes_of rfl rfl rfl rfl
  have po0 : PassesOwn (model P w) (cxOf (L2.CX P w) P w K mg base ["draw", "some"] "_law_pick" (defScope s_law_pick) A.f_law_pick cdv A' outer s H E).A (cxOf (L2.CX P w) P w K mg base ["draw", "some"] "_law_pick" (defScope s_law_pick) A.f_law_pick cdv A' outer s H E).env (cxOf (L2.CX P w) P w K mg base ["draw", "some"] "_law_pick" (defScope s_law_pick) A.f_law_pick cdv A' outer s H E).xe := passes_of rfl
  exact (ss_one (s_ret (e_ix (ix_all (hu_of hr)) d_ix (e_var (pv 1)) (e_call (ok_law_take T) (hr.mono (by decide)) rfl T.g_law_take T.F_law_take.kp T.b_law_take tk0 (a_cons (e_var (pv 0)) (a_cons (e_callB call_lenA d_len_ rfl T.m_len bt_len (a_cons (e_var (pv 1)) a_nil)) a_nil))))))
theorem ok_law_kept (T : Txt P K base mg A) : FnOk P w K mg base (L2.CX P w) 1 A.f_law_kept A.d_law_kept [] (spM K 0 (r_law_kept A)) := by
  refine fn_ok (k := 0) T.F_law_kept sc_law_kept fun cdv A' outer s H E hr => ?_
  have tk0 : Takes (cxOf (L2.CX P w) P w K mg base ["found"] "_law_kept" (defScope s_law_kept) A.f_law_kept cdv A' outer s H E) (Wd E) := takes_of rfl rfl rfl rfl
  have po0 : PassesOwn (model P w) (cxOf (L2.CX P w) P w K mg base ["found"] "_law_kept" (defScope s_law_kept) A.f_law_kept cdv A' outer s H E).A (cxOf (L2.CX P w) P w K mg base ["found"] "_law_kept" (defScope s_law_kept) A.f_law_kept cdv A' outer s H E).env (cxOf (L2.CX P w) P w K mg base ["found"] "_law_kept" (defScope s_law_kept) A.f_law_kept cdv A' outer s H E).xe := passes_of rfl
  exact (ss_cons (s_set (i := 0) sc_law_kept.nd rfl (Or.inl rfl) (e_lst (mkF_ok _) (a_cons e_str (a_cons e_str (a_cons e_str (a_cons e_str (a_cons e_str (a_cons e_str (a_cons e_str (a_cons e_str (a_cons e_str (a_cons e_str (a_cons e_str (a_cons e_str (a_cons e_str a_nil)))))))))))))))
    (ss_one (s_ret (e_op op_addT (d_addT (mkF_ok _)) (e_var (pv 0)) (e_lst (mkF_ok _) (a_cons e_str (a_cons e_str (a_cons e_str (a_cons e_str (a_cons e_str (a_cons e_str (a_cons e_str (a_cons e_str a_nil)))))))))))))
theorem ok_law_is_small (T : Txt P K base mg A) : FnOk P w K mg base (L2.CX P w) 1 A.f_law_is_small A.d_law_is_small ["word"] (spM K 1 (r_law_is_small A)) := by
  refine fn_ok (k := 0) T.F_law_is_small sc_law_is_small fun cdv A' outer s H E hr => ?_
  have tk0 : Takes (cxOf (L2.CX P w) P w K mg base ["word", "letter"] "_law_is_small" (defScope s_law_is_small) A.f_law_is_small cdv A' outer s H E) (Wd E) := takes_of rfl rfl rfl rfl
  have po0 : PassesOwn (model P w) (cxOf (L2.CX P w) P w K mg base ["word", "letter"] "_law_is_small" (defScope s_law_is_small) A.f_law_is_small cdv A' outer s H E).A (cxOf (L2.CX P w) P w K mg base ["word", "letter"] "_law_is_small" (defScope s_law_is_small) A.f_law_is_small cdv A' outer s H E).env (cxOf (L2.CX P w) P w K mg base ["word", "letter"] "_law_is_small" (defScope s_law_is_small) A.f_law_is_small cdv A' outer s H E).xe := passes_of rfl
  exact (ss_one (s_ret (e_and (e_cmp (op_neE hr.units) (d_nil d_ne) (e_var (pv 0)) e_str) (e_one (e_cmp (op_eqE hr.units) (d_nil d_eq) (e_comp (own := [("letter", 1)]) (mkF_ok _) rfl sc_law_is_small.nd (i_chars (e_var (pv 0))) (blkOk_by (own := [("letter", 1)]) (N := ["word", "letter"]) (sc := defScope s_law_is_small) (by decide +kernel)) (mono_name) (tg_name) (fun _ _ _ _ _ => pg_name (i := 1) sc_law_is_small.nd rfl (Or.inl rfl)) (W1 := W0) (fun _ _ _ _ _ => (ts_one (t_not (t_chain op_leA op_leA d_ord d_ord bools_ord bools_ord e_str (e_var (pv 1)) e_str)))) (W2 := W0) (fun _ _ _ _ _ => (e_var (pv 1)))) (e_lst (mkF_ok _) a_nil))))))
theorem ok_law_is_name (T : Txt P K base mg A) : FnOk P w K mg base (L2.CX P w) 2 A.f_law_is_name A.d_law_is_name ["matter"] (spM K 1 (r_law_is_name A)) := by
  refine fn_ok (k := 1) T.F_law_is_name sc_law_is_name fun cdv A' outer s H E hr => ?_
  have tk0 : Takes (cxOf (L2.CX P w) P w K mg base ["matter"] "_law_is_name" (defScope s_law_is_name) A.f_law_is_name cdv A' outer s H E) (Wd E) := takes_of rfl rfl rfl rfl
  have po0 : PassesOwn (model P w) (cxOf (L2.CX P w) P w K mg base ["matter"] "_law_is_name" (defScope s_law_is_name) A.f_law_is_name cdv A' outer s H E).A (cxOf (L2.CX P w) P w K mg base ["matter"] "_law_is_name" (defScope s_law_is_name) A.f_law_is_name cdv A' outer s H E).env (cxOf (L2.CX P w) P w K mg base ["matter"] "_law_is_name" (defScope s_law_is_name) A.f_law_is_name cdv A' outer s H E).xe := passes_of rfl
  exact (ss_one (s_ret (e_and (e_callB call_isiA (d_isi T.sub_ok T.ex_ok) rfl T.m_isinstance bt_isinstance (a_cons (e_var (pv 0)) (a_cons (e_const (pe_bltn (v := .ty "str") rfl T.m_str bt_str rfl) fun _ => rfl) a_nil))) (e_and (e_cmp op_ltA d_ord (e_callB call_lenA d_len_ rfl T.m_len bt_len (a_cons (e_var (pv 0)) a_nil)) e_int) (e_and (e_call (ok_law_is_small T) (hr.mono (by decide)) rfl T.g_law_is_small T.F_law_is_small.kp T.b_law_is_small tk0 (a_cons (e_var (pv 0)) a_nil)) (e_one (e_cmp (op_notInC (hu65 hr)) d_inC (e_var (pv 0)) (e_op op_addT (d_addT (mkF_ok _)) (e_call0 (ok_law_kept T) (hr.mono (by decide)) rfl T.g_law_kept T.F_law_kept.kp T.b_law_kept tk0) (e_lst (mkF_ok _) (a_cons e_str (a_cons e_str a_nil)))))))))))
theorem ok_law_sort (T : Txt P K base mg A) : FnOk P w K mg base (L2.CX P w) 3 A.f_law_sort A.d_law_sort ["word"] (spM K 1 (r_law_sort A)) := by
  refine fn_ok (k := 2) T.F_law_sort sc_law_sort fun cdv A' outer s H E hr => ?_
  have tk0 : Takes (cxOf (L2.CX P w) P w K mg base ["word", "figures", "is_plain", "one"] "_law_sort" (defScope s_law_sort) A.f_law_sort cdv A' outer s H E) (Wd E) := takes_of rfl rfl rfl rfl
  have po0 : PassesOwn (model P w) (cxOf (L2.CX P w) P w K mg base ["word", "figures", "is_plain", "one"] "_law_sort" (defScope s_law_sort) A.f_law_sort cdv A' outer s H E).A (cxOf (L2.CX P w) P w K mg base ["word", "figures", "is_plain", "one"] "_law_sort" (defScope s_law_sort) A.f_law_sort cdv A' outer s H E).env (cxOf (L2.CX P w) P w K mg base ["word", "figures", "is_plain", "one"] "_law_sort" (defScope s_law_sort) A.f_law_sort cdv A' outer s H E).xe := passes_of rfl
  exact (ss_cons (s_if (w_pt (w_or (t_cmp (op_inC (hu65 hr)) d_inC bools_inC (e_var (pv 0)) (e_call0 (ok_law_kept T) (hr.mono (by decide)) rfl T.g_law_kept T.F_law_kept.kp T.b_law_kept tk0)) (w_or1 (t_cmp (op_inC (hu65 hr)) d_inC bools_inC (e_var (pv 0)) (e_lst (mkF_ok _) (a_cons e_str (a_cons e_str (a_cons e_str (a_cons e_str (a_cons e_str (a_cons e_str (a_cons e_str (a_cons e_str (a_cons e_str (a_cons e_str (a_cons e_str (a_cons e_str (a_cons e_str (a_cons e_str (a_cons e_str a_nil)))))))))))))))))))) (ss_one (s_ret (e_var (pv 0)))) ss_nil)
    (ss_cons (s_if (t_val (e_call (ok_law_is_name T) (hr.mono (by decide)) rfl T.g_law_is_name T.F_law_is_name.kp T.b_law_is_name tk0 (a_cons (e_var (pv 0)) a_nil))) (ss_one (s_ret e_str)) ss_nil)
    (ss_cons (s_set (i := 1) sc_law_sort.nd rfl (Or.inl rfl) (e_if (t_cmp (op_eqE hr.units) (d_nil d_eq) (bools_nil bools_eq) (e_sl sl_all (d_sl (mkF_ok _)) (e_var (pv 0)) o_none (o_some e_int)) e_str) (e_sl sl_all (d_sl (mkF_ok _)) (e_var (pv 0)) (o_some e_int) o_none) (e_var (pv 0))))
    (ss_cons (s_set (i := 2) sc_law_sort.nd rfl (Or.inl rfl) (e_and (e_chain op_ltA op_ltA d_ord d_ord bools_ord bools_ord e_int (e_callB call_lenA d_len_ rfl T.m_len bt_len (a_cons (e_var (pv 1)) a_nil)) e_int) (e_one (e_cmp (op_eqE hr.units) (d_nil d_eq) (e_comp (own := [("one", 3)]) (mkF_ok _) rfl sc_law_sort.nd (i_chars (e_var (pv 1))) (blkOk_by (own := [("one", 3)]) (N := ["word", "figures", "is_plain", "one"]) (sc := defScope s_law_sort) (by decide +kernel)) (mono_name) (tg_name) (fun _ _ _ _ _ => pg_name (i := 3) sc_law_sort.nd rfl (Or.inl rfl)) (W1 := W0) (fun _ _ _ _ _ => (ts_one (t_cmp (op_notInC (hu65 hr)) d_inC bools_inC (e_var (pv 3)) e_str))) (W2 := W0) (fun _ _ _ _ _ => (e_var (pv 3)))) (e_lst (mkF_ok _) a_nil)))))
    (ss_one (s_ret (e_if (w_pt (w_or (t_cmp (op_eqE hr.units) (d_nil d_eq) (bools_nil bools_eq) (e_var (pv 0)) e_str) (w_or1 (w_pt (w_and (t_val (e_var (pv 2))) (w_and1 (t_cmp (op_neE hr.units) (d_nil d_ne) (bools_nil bools_ne) (e_ix (ix_all (hu_of hr)) d_ix (e_var (pv 1)) e_int) e_str))))))) e_str e_str)))))))
theorem ok_law_signs (T : Txt P K base mg A) : FnOk P w K mg base (L2.CX P w) 1 A.f_law_signs A.d_law_signs [] (spM K 0 (r_law_signs A)) := by
  refine fn_ok (k := 0) T.F_law_signs sc_law_signs fun cdv A' outer s H E hr => ?_
  have tk0 : Takes (cxOf (L2.CX P w) P w K mg base [] "_law_signs" (defScope s_law_signs) A.f_law_signs cdv A' outer s H E) (Wd E) := takes_of rfl rfl rfl rfl
  have po0 : PassesOwn (model P w) (cxOf (L2.CX P w) P w K mg base [] "_law_signs" (defScope s_law_signs) A.f_law_signs cdv A' outer s H E).A (cxOf (L2.CX P w) P w K mg base [] "_law_signs" (defScope s_law_signs) A.f_law_signs cdv A' outer s H E).env (cxOf (L2.CX P w) P w K mg base [] "_law_signs" (defScope s_law_signs) A.f_law_signs cdv A' outer s H E).xe := passes_of rfl
  exact (ss_one (s_ret e_str))
theorem ok_law_inner (T : Txt P K base mg A) : FnOk P w K mg base (L2.CX P w) 1 A.f_law_inner A.d_law_inner ["sign"] (spM K 1 (r_law_inner A)) := by
  refine fn_ok (k := 0) T.F_law_inner sc_law_inner fun cdv A' outer s H E hr => ?_
  have tk0 : Takes (cxOf (L2.CX P w) P w K mg base ["sign"] "_law_inner" (defScope s_law_inner) A.f_law_inner cdv A' outer s H E) (Wd E) := takes_of rfl rfl rfl rfl
  have po0 : PassesOwn (model P w) (cxOf (L2.CX P w) P w K mg base ["sign"] "_law_inner" (defScope s_law_inner) A.f_law_inner cdv A' outer s H E).A (cxOf (L2.CX P w) P w K mg base ["sign"] "_law_inner" (defScope s_law_inner) A.f_law_inner cdv A' outer s H E).env (cxOf (L2.CX P w) P w K mg base ["sign"] "_law_inner" (defScope s_law_inner) A.f_law_inner cdv A' outer s H E).xe := passes_of rfl
  exact (ss_one (s_ret (e_or (e_chain op_leA op_leA d_ord d_ord bools_ord bools_ord e_str (e_var (pv 0)) e_str) (e_or (e_chain op_leA op_leA d_ord d_ord bools_ord bools_ord e_str (e_var (pv 0)) e_str) (e_or (e_chain op_leA op_leA d_ord d_ord bools_ord bools_ord e_str (e_var (pv 0)) e_str) (e_one (e_cmp (op_eqE hr.units) (d_nil d_eq) (e_var (pv 0)) e_str)))))))
theorem ok_law_word_at (T : Txt P K base mg A) : FnOk P w K mg base (L2.CX P w) 2 A.f_law_word_at A.d_law_word_at ["text", "at"] (spM K 2 (r_law_word_at A)) := by
  refine fn_ok (k := 1) T.F_law_word_at sc_law_word_at fun cdv A' outer s H E hr => ?_
  have tk0 : Takes (cxOf (L2.CX P w) P w K mg base ["text", "at", "end", "is_long"] "_law_word_at" (defScope s_law_word_at) A.f_law_word_at cdv A' outer s H E) (Wd E) := takes_of rfl rfl rfl rfl
  have po0 : PassesOwn (model P w) (cxOf (L2.CX P w) P w K mg base ["text", "at", "end", "is_long"] "_law_word_at" (defScope s_law_word_at) A.f_law_word_at cdv A' outer s H E).A (cxOf (L2.CX P w) P w K mg base ["text", "at", "end", "is_long"] "_law_word_at" (defScope s_law_word_at) A.f_law_word_at cdv A' outer s H E).env (cxOf (L2.CX P w) P w K mg base ["text", "at", "end", "is_long"] "_law_word_at" (defScope s_law_word_at) A.f_law_word_at cdv A' outer s H E).xe := passes_of rfl
  exact (ss_cons (s_set (i := 2) sc_law_word_at.nd rfl (Or.inl rfl) (e_op op_addT (d_addT (mkF_ok _)) (e_var (pv 1)) e_int))
    (ss_cons (s_set (i := 3) sc_law_word_at.nd rfl (Or.inl rfl) (e_or (e_call (ok_law_inner T) (hr.mono (by decide)) rfl T.g_law_inner T.F_law_inner.kp T.b_law_inner tk0 (a_cons (e_ix (ix_all (hu_of hr)) d_ix (e_var (pv 0)) (e_var (pv 1))) a_nil)) (e_one (e_and (e_cmp (op_eqE hr.units) (d_nil d_eq) (e_ix (ix_all (hu_of hr)) d_ix (e_var (pv 0)) (e_var (pv 1))) e_str) (e_one (e_chain op_leA op_leA d_ord d_ord bools_ord bools_ord e_str (e_sl sl_all (d_sl (mkF_ok _)) (e_var (pv 0)) (o_some (e_op op_addT (d_addT (mkF_ok _)) (e_var (pv 1)) e_int)) (o_some (e_op op_addT (d_addT (mkF_ok _)) (e_var (pv 1)) e_int))) e_str))))))
    (ss_cons (s_while po0 (w_pt (w_and (t_val (e_var (pv 3))) (w_and (t_cmp op_ltA d_ord bools_ord (e_var (pv 2)) (e_callB call_lenA d_len_ rfl T.m_len bt_len (a_cons (e_var (pv 0)) a_nil))) (w_and1 (t_val (e_call (ok_law_inner T) (hr.mono (by decide)) rfl T.g_law_inner T.F_law_inner.kp T.b_law_inner tk0 (a_cons (e_ix (ix_all (hu_of hr)) d_ix (e_var (pv 0)) (e_var (pv 2))) a_nil))))))) (ss_one (s_set (i := 2) sc_law_word_at.nd rfl (Or.inl rfl) (e_op op_addT (d_addT (mkF_ok _)) (e_var (pv 2)) e_int))))
    (ss_one (s_ret (e_if (w_pt (w_and (t_not (t_val (e_var (pv 3)))) (w_and1 (t_cmp (op_inC (hu65 hr)) d_inC bools_inC (e_sl sl_all (d_sl (mkF_ok _)) (e_var (pv 0)) (o_some (e_var (pv 1))) (o_some (e_op op_addT (d_addT (mkF_ok _)) (e_var (pv 1)) e_int))) (e_lst (mkF_ok _) (a_cons e_str (a_cons e_str a_nil))))))) (e_sl sl_all (d_sl (mkF_ok _)) (e_var (pv 0)) (o_some (e_var (pv 1))) (o_some (e_op op_addT (d_addT (mkF_ok _)) (e_var (pv 1)) e_int))) (e_sl sl_all (d_sl (mkF_ok _)) (e_var (pv 0)) (o_some (e_var (pv 1))) (o_some (e_var (pv 2))))))))))
theorem ok_law_cut (T : Txt P K base mg A) : FnOk P w K mg base (L2.CX P w) 3 A.f_law_cut A.d_law_cut ["text"] (spM K 1 (r_law_cut A)) := by
  refine fn_ok (k := 2) T.F_law_cut sc_law_cut fun cdv A' outer s H E hr => ?_
  have tk0 : Takes (cxOf (L2.CX P w) P w K mg base ["text", "found", "at", "line", "column", "size"] "_law_cut" (defScope s_law_cut) A.f_law_cut cdv A' outer s H E) (Wd E) := takes_of rfl rfl rfl rfl
  have po0 : PassesOwn (model P w) (cxOf (L2.CX P w) P w K mg base ["text", "found", "at", "line", "column", "size"] "_law_cut" (defScope s_law_cut) A.f_law_cut cdv A' outer s H E).A (cxOf (L2.CX P w) P w K mg base ["text", "found", "at", "line", "column", "size"] "_law_cut" (defScope s_law_cut) A.f_law_cut cdv A' outer s H E).env (cxOf (L2.CX P w) P w K mg base ["text", "found", "at", "line", "column", "size"] "_law_cut" (defScope s_law_cut) A.f_law_cut cdv A' outer s H E).xe := passes_of rfl
  exact (ss_cons (s_asg (e_tup (a_cons (e_lst (mkM_ok _) a_nil) (a_cons e_int (a_cons e_int (a_cons e_int a_nil))))) (g_tup rfl (gs_cons (g_name (pg_name (i := 1) sc_law_cut.nd rfl (Or.inl rfl))) (gs_cons (g_name (pg_name (i := 2) sc_law_cut.nd rfl (Or.inl rfl))) (gs_cons (g_name (pg_name (i := 3) sc_law_cut.nd rfl (Or.inl rfl))) (gs_cons (g_name (pg_name (i := 4) sc_law_cut.nd rfl (Or.inl rfl))) gs_nil))))))
    (ss_cons (s_while po0 (t_cmp op_ltA d_ord bools_ord (e_var (pv 2)) (e_callB call_lenA d_len_ rfl T.m_len bt_len (a_cons (e_var (pv 0)) a_nil))) (ss_cons (s_set (i := 5) sc_law_cut.nd rfl (Or.inl rfl) e_int)
    (ss_cons (s_if (t_cmp (op_notInC (hu65 hr)) d_inC bools_inC (e_ix (ix_all (hu_of hr)) d_ix (e_var (pv 0)) (e_var (pv 2))) (e_lst (mkF_ok _) (a_cons e_str (a_cons e_str a_nil)))) (ss_cons (s_expr (e_bm PySem.F.plainAttrs_list PySem.F.slot_list_append PySem.F.type_list_append mt_append m_append (e_var (pv 1)) (a_cons (e_tup (a_cons (e_call (ok_law_word_at T) (hr.mono (by decide)) rfl T.g_law_word_at T.F_law_word_at.kp T.b_law_word_at tk0 (a_cons (e_var (pv 0)) (a_cons (e_var (pv 2)) a_nil))) (a_cons (e_var (pv 3)) (a_cons (e_var (pv 4)) a_nil)))) a_nil)))
    (ss_one (s_set (i := 5) sc_law_cut.nd rfl (Or.inl rfl) (e_callB call_lenA d_len_ rfl T.m_len bt_len (a_cons (e_ix (ix_all (hu_of hr)) d_ix (e_ix (ix_all (hu_of hr)) d_ix (e_var (pv 1)) (e_un un_neg d_neg e_int)) e_int) a_nil))))) ss_nil)
    (ss_cons (s_par (i := 3) (j := 4) rfl sc_law_cut.nd rfl rfl (by decide) rfl rfl (a_cons (e_op op_addT (d_addT (mkF_ok _)) (e_var (pv 3)) (e_callTy call_int1 d_int rfl T.m_int bt_int (a_cons (e_cmp (op_eqE hr.units) (d_nil d_eq) (e_ix (ix_all (hu_of hr)) d_ix (e_var (pv 0)) (e_var (pv 2))) e_str) a_nil))) (a_cons (e_if (t_cmp (op_eqE hr.units) (d_nil d_eq) (bools_nil bools_eq) (e_ix (ix_all (hu_of hr)) d_ix (e_var (pv 0)) (e_var (pv 2))) e_str) e_int (e_op op_addT (d_addT (mkF_ok _)) (e_var (pv 4)) (e_var (pv 5)))) a_nil)) (by rfl))
    (ss_one (s_set (i := 2) sc_law_cut.nd rfl (Or.inl rfl) (e_op op_addT (d_addT (mkF_ok _)) (e_var (pv 2)) (e_var (pv 5)))))))))
    (ss_one (s_ret (e_var (pv 1))))))
theorem ok_law_any_name (T : Txt P K base mg A) : FnOk P w K mg base (L2.CX P w) 4 A.f_law_any_name A.d_law_any_name ["draw"] (spM K 1 (r_law_any_name A)) := by
  refine fn_ok (k := 3) T.F_law_any_name sc_law_any_name fun cdv A' outer s H E hr => ?_
  have tk0 : Takes (cxOf (L2.CX P w) P w K mg base ["draw", "letters", "found", "k"] "_law_any_name" (defScope s_law_any_name) A.f_law_any_name cdv A' outer s H E) (Wd E) := takes_of rfl rfl rfl rfl
  have po0 : PassesOwn (model P w) (cxOf (L2.CX P w) P w K mg base ["draw", "letters", "found", "k"] "_law_any_name" (defScope s_law_any_name) A.f_law_any_name cdv A' outer s H E).A (cxOf (L2.CX P w) P w K mg base ["draw", "letters", "found", "k"] "_law_any_name" (defScope s_law_any_name) A.f_law_any_name cdv A' outer s H E).env (cxOf (L2.CX P w) P w K mg base ["draw", "letters", "found", "k"] "_law_any_name" (defScope s_law_any_name) A.f_law_any_name cdv A' outer s H E).xe := passes_of rfl
  exact (ss_cons (s_set (i := 1) sc_law_any_name.nd rfl (Or.inr rfl) e_str)
    (ss_cons (s_set (i := 2) sc_law_any_name.nd rfl (Or.inl rfl) (e_bm PySem.F.plainAttrs_str PySem.F.slot_str_join PySem.F.type_str_join mt_joinR m_join e_str (a_cons (e_comp (own := [("k", 3)]) (mkF_ok _) rfl sc_law_any_name.nd (i_range1 rfl T.m_range (a_cons (e_op op_addT (d_addT (mkF_ok _)) e_int (e_call (ok_law_take T) (hr.mono (by decide)) rfl T.g_law_take T.F_law_take.kp T.b_law_take tk0 (a_cons (e_var (pv 0)) (a_cons e_int a_nil)))) a_nil)) (blkOk_by (own := [("k", 3)]) (N := ["draw", "letters", "found", "k"]) (sc := defScope s_law_any_name) (by decide +kernel)) (mono_name) (tg_name) (fun _ _ _ _ _ => pg_name (i := 3) sc_law_any_name.nd rfl (Or.inl rfl)) (W1 := W0) (fun _ _ _ _ _ => ts_nil) (W2 := W0) (fun _ _ _ _ _ => (e_ix (ix_all (hu_of hr)) d_ix (e_var (pv 1)) (e_call (ok_law_take T) (hr.mono (by decide)) rfl T.g_law_take T.F_law_take.kp T.b_law_take takes0 (a_cons (e_var (pv 0)) (a_cons e_int a_nil)))))) a_nil)))
    (ss_one (s_ret (e_if (t_cmp op_gtA d_ord bools_ord (e_call (ok_law_take T) (hr.mono (by decide)) rfl T.g_law_take T.F_law_take.kp T.b_law_take tk0 (a_cons (e_var (pv 0)) (a_cons e_int a_nil))) e_int) (e_var (pv 2)) (e_op op_addT (d_addT (mkF_ok _)) (e_var (pv 2)) (e_call (ok_law_pick T) (hr.mono (by decide)) rfl T.g_law_pick T.F_law_pick.kp T.b_law_pick tk0 (a_cons (e_var (pv 0)) (a_cons (e_lst (mkF_ok _) (a_cons e_str (a_cons e_str (a_cons e_str (a_cons e_str a_nil))))) a_nil)))))))))
theorem ok_law_refused_right (T : Txt P K base mg A) : FnOk P w K mg base (L2.CX P w) 6 A.f_law_refused_right A.d_law_refused_right ["draw", "words"] (spM K 2 (r_law_refused_right A)) := by
  refine fn_okC (k := 5) T.F_law_refused_right sc_law_refused_right fun A' outer s H E hr => ?_
  have ⟨ocL, odL, kVL, docL, pmL, anL, cdvL, ctL, oslL, edL, lkL, hcL⟩ := T.F_law_caught.ex
  have bdL := T.b_law_caught
  rw [edL] at bdL lkL
  let cdv : Value := .ref A.c_law_refused_right
  have tk0 : Takes (cxOf (L2.CX P w) P w K mg base ["draw", "words", "some", "odd", "word", "line", "column", "strange", "error", "is_word"] "_law_refused_right" (defScope s_law_refused_right) A.f_law_refused_right cdv A' outer s H E) (Wd E) := takes_of rfl rfl rfl rfl
  have po0 : PassesOwn (model P w) (cxOf (L2.CX P w) P w K mg base ["draw", "words", "some", "odd", "word", "line", "column", "strange", "error", "is_word"] "_law_refused_right" (defScope s_law_refused_right) A.f_law_refused_right cdv A' outer s H E).A (cxOf (L2.CX P w) P w K mg base ["draw", "words", "some", "odd", "word", "line", "column", "strange", "error", "is_word"] "_law_refused_right" (defScope s_law_refused_right) A.f_law_refused_right cdv A' outer s H E).env (cxOf (L2.CX P w) P w K mg base ["draw", "words", "some", "odd", "word", "line", "column", "strange", "error", "is_word"] "_law_refused_right" (defScope s_law_refused_right) A.f_law_refused_right cdv A' outer s H E).xe := passes_of rfl
  exact (ss_cons (s_set (i := 2) sc_law_refused_right.nd rfl (Or.inl rfl) (e_lst (mkF_ok _) (a_cons e_str (a_cons e_str (a_cons e_str (a_cons e_str (a_cons e_str (a_cons e_str (a_cons e_str (a_cons e_str (a_cons e_str (a_cons e_str (a_cons e_str (a_cons e_str (a_cons e_str (a_cons e_str (a_cons e_str (a_cons e_str a_nil))))))))))))))))))
    (ss_cons (s_set (i := 3) sc_law_refused_right.nd rfl (Or.inr rfl) (e_call (ok_law_pick T) (hr.mono (by decide)) rfl T.g_law_pick T.F_law_pick.kp T.b_law_pick tk0 (a_cons (e_var (pv 0)) (a_cons (e_op op_addT (d_addT (mkF_ok _)) (e_op op_addT (d_addT (mkF_ok _)) (e_var (pv 2)) (e_lst (mkF_ok _) (a_cons e_non (a_cons e_int (a_cons e_bl (a_cons (e_lst (mkF_ok _) (a_cons e_str a_nil)) (a_cons (e_tup (a_cons e_str a_nil)) (a_cons (e_dict0 (mkDF_ok _)) a_nil)))))))) (e_comp (own := [("word", 4), ("line", 5), ("column", 6)]) (mkF_ok _) rfl sc_law_refused_right.nd (i_seq (e_var (pv 1))) (blkOk_by (own := [("word", 4), ("line", 5), ("column", 6)]) (N := ["draw", "words", "some", "odd", "word", "line", "column", "strange", "error", "is_word"]) (sc := defScope s_law_refused_right) (by decide +kernel)) (mono_tup (monos_cons (mono_name) (monos_cons (mono_name) (monos_cons (mono_name) (monos_nil))))) (tg_tup (tgs_cons (mono_name) (tg_name) (tgs_cons (mono_name) (tg_name) (tgs_cons (mono_name) (tg_name) (tgs_nil))))) (fun _ _ _ _ _ => pg_tup rfl (pgs_cons (pg_name (i := 4) sc_law_refused_right.nd rfl (Or.inl rfl)) (pgs_cons (pg_name (i := 5) sc_law_refused_right.nd rfl (Or.inl rfl)) (pgs_cons (pg_name (i := 6) sc_law_refused_right.nd rfl (Or.inl rfl)) (pgs_nil))))) (W1 := W0) (fun _ _ _ _ _ => ts_nil) (W2 := W0) (fun _ _ _ _ _ => (e_op op_addT (d_addT (mkF_ok _)) (e_var (pv 4)) (e_call (ok_law_pick T) (hr.mono (by decide)) rfl T.g_law_pick T.F_law_pick.kp T.b_law_pick takes0 (a_cons (e_var (pv 0)) (a_cons (e_lst (mkF_ok _) (a_cons e_str (a_cons e_str (a_cons e_str (a_cons e_str a_nil))))) a_nil))))))) a_nil))))
    (ss_cons (s_set (i := 7) sc_law_refused_right.nd rfl (Or.inr rfl) (e_lst (mkF_ok _) (a_cons e_str (a_cons e_str (a_cons e_str (a_cons e_str a_nil))))))
    (ss_cons (s_if (t_not (t_val (e_callB call_isiA (d_isi T.sub_ok T.ex_ok) rfl T.m_isinstance bt_isinstance (a_cons (e_lam (k := 3) rfl T.g_law_caught T.F_law_caught.kp lkL hcL bdL sc_law_caught rfl (by first | exact Or.inl rfl | exact Or.inr (Or.inl rfl)) (kept_gives (Ng := ["work", "caught", "error"]) (e := "error") (y := "caught") (xs := "SheetError") (i := 2) (j := 1) (by decide) rfl rfl (by decide) (by decide) (by decide) rfl rfl rfl T.g_cls_SheetError) (fun cls b => T.catch_ok 0 cls b (by decide)) T.tb_law_refused_right rfl (hr.mono (by decide)) (LamX.lamS_by (show LamX.lamSB (defScope s_law_refused_right) _ = true by decide +kernel)) rfl (fun _ _ _ _ _ => rfl) (fun A1 outer1 s1 H1 E1 fl1 c1 hr => (e_call (ok_words_of T) (hr.mono (by decide)) rfl T.g_words_of T.F_words_of.kp T.b_words_of (takes_of rfl rfl rfl rfl) (a_cons (e_call (ok_law_pick T) (hr.mono (by decide)) rfl T.g_law_pick T.F_law_pick.kp T.b_law_pick (takes_of rfl rfl rfl rfl) (a_cons (e_var (pv 0)) (a_cons (e_op op_addT (d_addT (mkF_ok _)) (e_lst (mkF_ok _) (a_cons e_non (a_cons e_int (a_cons e_bl (a_cons (e_lst (mkF_ok _) (a_cons e_str a_nil)) (a_cons (e_tup (a_cons e_str a_nil)) (a_cons (e_dict0 (mkDF_ok _)) a_nil))))))) (e_var (pv 7))) a_nil))) a_nil)))) (a_cons (e_const (pe_glob (v := .ref (A.cls 1)) rfl (T.g_cls_BadText) rfl) fun _ => rfl) a_nil))))) (ss_one (s_ret e_bl)) ss_nil)
    (ss_cons (s_set (i := 8) sc_law_refused_right.nd rfl (Or.inl rfl) (e_lam (k := 3) rfl T.g_law_caught T.F_law_caught.kp lkL hcL bdL sc_law_caught rfl (by first | exact Or.inl rfl | exact Or.inr (Or.inl rfl)) (kept_gives (Ng := ["work", "caught", "error"]) (e := "error") (y := "caught") (xs := "SheetError") (i := 2) (j := 1) (by decide) rfl rfl (by decide) (by decide) (by decide) rfl rfl rfl T.g_cls_SheetError) (fun cls b => T.catch_ok 0 cls b (by decide)) T.tb_law_refused_right rfl (hr.mono (by decide)) (LamX.lamS_by (show LamX.lamSB (defScope s_law_refused_right) _ = true by decide +kernel)) rfl (fun _ _ _ _ _ => rfl) (fun A1 outer1 s1 H1 E1 fl1 c1 hr => (e_callK0 (is := [0]) (ok_words_of T) (hr.mono (by decide)) rfl T.g_words_of T.F_words_of.kp (kb_0 T.F_words_of) (takes_of rfl rfl rfl rfl) (k_cons e_non k_nil)))))
    (ss_cons (s_if (w_pt (w_or (t_not (t_val (e_callB call_isiA (d_isi T.sub_ok T.ex_ok) rfl T.m_isinstance bt_isinstance (a_cons (e_var (pv 8)) (a_cons (e_const (pe_glob (v := .ref (A.cls 1)) rfl (T.g_cls_BadText) rfl) fun _ => rfl) a_nil))))) (w_or1 (t_cmp (op_neE hr.units) (d_nil d_ne) (bools_nil bools_ne) (e_lst (mkF_ok _) (a_cons (e_xf (fun C => T.fx_ok C _) (e_var (pv 8))) (a_cons (e_xf (fun C => T.fx_ok C _) (e_var (pv 8))) (a_cons (e_xf (fun C => T.fx_ok C _) (e_var (pv 8))) a_nil)))) (e_lst (mkF_ok _) (a_cons e_non (a_cons e_non (a_cons e_non a_nil)))))))) (ss_one (s_ret e_bl)) ss_nil)
    (ss_cons (s_set (i := 9) sc_law_refused_right.nd rfl (Or.inl rfl) (e_and (e_callB call_isiA (d_isi T.sub_ok T.ex_ok) rfl T.m_isinstance bt_isinstance (a_cons (e_var (pv 3)) (a_cons (e_const (pe_bltn (v := .ty "str") rfl T.m_str bt_str rfl) fun _ => rfl) a_nil))) (e_one (e_cmp (op_eqE hr.units) (d_nil d_eq) (e_call (ok_law_cut T) (hr.mono (by decide)) rfl T.g_law_cut T.F_law_cut.kp T.b_law_cut tk0 (a_cons (e_var (pv 3)) a_nil)) (e_lst (mkF_ok _) (a_cons (e_tup (a_cons (e_var (pv 3)) (a_cons e_int (a_cons e_int a_nil)))) a_nil))))))
    (ss_cons (s_set (i := 8) sc_law_refused_right.nd rfl (Or.inl rfl) (e_lam (k := 3) rfl T.g_law_caught T.F_law_caught.kp lkL hcL bdL sc_law_caught rfl (by first | exact Or.inl rfl | exact Or.inr (Or.inl rfl)) (kept_gives (Ng := ["work", "caught", "error"]) (e := "error") (y := "caught") (xs := "SheetError") (i := 2) (j := 1) (by decide) rfl rfl (by decide) (by decide) (by decide) rfl rfl rfl T.g_cls_SheetError) (fun cls b => T.catch_ok 0 cls b (by decide)) T.tb_law_refused_right rfl (hr.mono (by decide)) (LamX.lamS_by (show LamX.lamSB (defScope s_law_refused_right) _ = true by decide +kernel)) rfl (fun _ _ _ _ _ => rfl) (fun A1 outer1 s1 H1 E1 fl1 c1 hr => (e_call (ok_sort_of T) (hr.mono (by decide)) rfl T.g_sort_of T.F_sort_of.kp T.b_sort_of (takes_of rfl rfl rfl rfl) (a_cons (e_var (pv 3)) a_nil)))))
    (ss_one (s_ret (e_if (t_val (e_var (pv 9))) (e_cmp op_isAA d_isAA (e_var (pv 8)) e_non) (e_and (e_callB call_isiA (d_isi T.sub_ok T.ex_ok) rfl T.m_isinstance bt_isinstance (a_cons (e_var (pv 8)) (a_cons (e_const (pe_glob (v := .ref (A.cls 2)) rfl (T.g_cls_BadWord) rfl) fun _ => rfl) a_nil))) (e_one (e_callB call_isiA (d_isi T.sub_ok T.ex_ok) rfl T.m_isinstance bt_isinstance (a_cons (e_var (pv 8)) (a_cons (e_const (pe_bltn (v := .ty "ValueError") rfl T.m_ValueError bt_ValueError rfl) fun _ => rfl) a_nil))))))))))))))))
theorem ok_law (T : Txt P K base mg A) : Quiet P w K mg base (L2.CX P w) 7 A.f_law A.d_law ["script"] (spM K 1 (r_law A)) := by
  refine quiet_of (k := 6) T.F_law sc_law fun cdv A' outer s H E hq hr => ?_
  have tk0 : Takes (cxOf (L2.CX P w) P w K mg base ["script", "draw", "word", "some", "turn", "names", "k", "pieces", "any_sign", "text", "due", "found", "line", "column", "name"] "law" (defScope s_law) A.f_law cdv A' outer s H E) (Wd E) := takes_of rfl rfl rfl rfl
  have po0 : PassesOwn (model P w) (cxOf (L2.CX P w) P w K mg base ["script", "draw", "word", "some", "turn", "names", "k", "pieces", "any_sign", "text", "due", "found", "line", "column", "name"] "law" (defScope s_law) A.f_law cdv A' outer s H E).A (cxOf (L2.CX P w) P w K mg base ["script", "draw", "word", "some", "turn", "names", "k", "pieces", "any_sign", "text", "due", "found", "line", "column", "name"] "law" (defScope s_law) A.f_law cdv A' outer s H E).env (cxOf (L2.CX P w) P w K mg base ["script", "draw", "word", "some", "turn", "names", "k", "pieces", "any_sign", "text", "due", "found", "line", "column", "name"] "law" (defScope s_law) A.f_law cdv A' outer s H E).xe := passes_of rfl
  exact (ss_cons (s_set (i := 1) sc_law.nd rfl (Or.inr rfl) (e_call (ok_law_begun T) (hr.mono (by decide)) rfl T.g_law_begun T.F_law_begun.kp T.b_law_begun tk0 (a_cons (e_var (pv 0)) a_nil)))
    (ss_cons (s_if (t_cmp (op_neE hr.units) (d_nil d_ne) (bools_nil bools_ne) (e_callB (call_repr ((deeper_guards _ _).trans hq) (hu66 hr)) d_repr rfl T.m_repr bt_repr (a_cons (e_glob rfl T.v_KEPT) a_nil)) (e_callB (call_repr ((deeper_guards _ _).trans hq) (hu66 hr)) d_repr rfl T.m_repr bt_repr (a_cons (e_callTy call_tupleA d_tuple rfl T.m_tuple bt_tuple (a_cons (e_callB cr_sortedS (d_sortS (mkF_ok _)) rfl T.m_sorted bt_sorted (a_cons (e_op op_addT (d_addT (mkF_ok _)) (e_call0 (ok_law_kept T) (hr.mono (by decide)) rfl T.g_law_kept T.F_law_kept.kp T.b_law_kept tk0) (e_lst (mkF_ok _) (a_cons e_str (a_cons e_str a_nil)))) a_nil)) a_nil)) a_nil))) (ss_one (s_ret e_bl)) ss_nil)
    (ss_cons (s_if (t_cmp (op_neE hr.units) (d_nil d_ne) (bools_nil bools_ne) (e_comp (own := [("word", 2)]) (mkF_ok _) rfl sc_law.nd (i_seq (e_op op_addT (d_addT (mkF_ok _)) (e_call0 (ok_law_kept T) (hr.mono (by decide)) rfl T.g_law_kept T.F_law_kept.kp T.b_law_kept tk0) (e_lst (mkF_ok _) (a_cons e_str (a_cons e_str a_nil))))) (blkOk_by (own := [("word", 2)]) (N := ["script", "draw", "word", "some", "turn", "names", "k", "pieces", "any_sign", "text", "due", "found", "line", "column", "name"]) (sc := defScope s_law) (by decide +kernel)) (mono_name) (tg_name) (fun _ _ _ _ _ => pg_name (i := 2) sc_law.nd rfl (Or.inl rfl)) (W1 := W0) (fun _ _ _ _ _ => (ts_one (w_pt (w_or (t_cmp op_isnAA d_isnAA bools_isnAA (e_call (ok_is_name T) (hr.mono (by decide)) rfl T.g_is_name T.F_is_name.kp T.b_is_name takes0 (a_cons (e_var (pv 2)) a_nil)) e_bl) (w_or1 (t_cmp (op_neE hr.units) (d_nil d_ne) (bools_nil bools_ne) (e_call (ok_sort_of T) (hr.mono (by decide)) rfl T.g_sort_of T.F_sort_of.kp T.b_sort_of takes0 (a_cons (e_var (pv 2)) a_nil)) (e_call (ok_law_sort T) (hr.mono (by decide)) rfl T.g_law_sort T.F_law_sort.kp T.b_law_sort takes0 (a_cons (e_var (pv 2)) a_nil)))))))) (W2 := W0) (fun _ _ _ _ _ => (e_var (pv 2)))) (e_lst (mkF_ok _) a_nil)) (ss_one (s_ret e_bl)) ss_nil)
    (ss_cons (s_set (i := 3) sc_law.nd rfl (Or.inl rfl) (e_lst (mkF_ok _) (a_cons e_str (a_cons e_str (a_cons e_str (a_cons e_str (a_cons e_str (a_cons e_str (a_cons e_str (a_cons e_str (a_cons e_str (a_cons e_str (a_cons e_str (a_cons e_str (a_cons e_str (a_cons e_str (a_cons e_str (a_cons e_str (a_cons e_str (a_cons e_str (a_cons e_str (a_cons e_str (a_cons e_str (a_cons e_str (a_cons e_str (a_cons e_str (a_cons e_str (a_cons e_str (a_cons e_str (a_cons e_str (a_cons e_str a_nil)))))))))))))))))))))))))))))))
    (ss_cons (s_for po0 rfl (i_range1 rfl T.m_range (a_cons (e_op op_addT (d_addT (mkF_ok _)) e_int (e_callB (call_minA rfl) d_min rfl T.m_min bt_min (a_cons (e_callB call_lenA d_len_ rfl T.m_len bt_len (a_cons (e_var (pv 0)) a_nil)) (a_cons e_int a_nil)))) a_nil)) (g_name (pg_name (i := 4) sc_law.nd rfl (Or.inl rfl))) (ss_cons (s_setComp (i := 5) (own := [("k", 6)]) (mkF_ok _) rfl sc_law.nd rfl rfl (sw_true rfl rfl rfl (by decide +kernel)) (i_range1 rfl T.m_range (a_cons e_int a_nil)) (blkOk_by (own := [("k", 6)]) (N := ["script", "draw", "word", "some", "turn", "names", "k", "pieces", "any_sign", "text", "due", "found", "line", "column", "name"]) (sc := defScope s_law) (by decide +kernel)) (mono_name) (tg_name) (fun _ _ _ _ _ => pg_name (i := 6) sc_law.nd rfl (Or.inl rfl)) (W1 := W0) (fun _ _ _ _ _ => ts_nil) (W2 := W0) (fun _ _ _ _ _ => (e_call (ok_law_any_name T) (hr.mono (by decide)) rfl T.g_law_any_name T.F_law_any_name.kp T.b_law_any_name takes0 (a_cons (e_var (pv 1)) a_nil))))
    (ss_cons (s_set (i := 7) sc_law.nd rfl (Or.inl rfl) (e_lst (mkM_ok _) a_nil))
    (ss_cons (s_fzv 7 (s_for po0 rfl (i_range1 rfl T.m_range (a_cons (e_call (ok_law_take T) (hr.mono (by decide)) rfl T.g_law_take T.F_law_take.kp T.b_law_take tk0 (a_cons (e_var (pv 1)) (a_cons e_int a_nil))) a_nil)) (g_name (pg_name (i := 6) sc_law.nd rfl (Or.inl rfl))) (ss_cons (s_set (i := 8) sc_law.nd rfl (Or.inl rfl) (e_ix (ix_all (hu_of hr)) d_ix (e_call0 (ok_law_signs T) (hr.mono (by decide)) rfl T.g_law_signs T.F_law_signs.kp T.b_law_signs tk0) (e_call (ok_law_take T) (hr.mono (by decide)) rfl T.g_law_take T.F_law_take.kp T.b_law_take tk0 (a_cons (e_var (pv 1)) (a_cons e_int a_nil)))))
    (ss_one (s_expr (e_bm PySem.F.plainAttrs_list PySem.F.slot_list_append PySem.F.type_list_append mt_append m_append (e_var (pv 7)) (a_cons (e_call (ok_law_pick T) (hr.mono (by decide)) rfl T.g_law_pick T.F_law_pick.kp T.b_law_pick tk0 (a_cons (e_var (pv 1)) (a_cons (e_op op_addT (d_addT (mkF_ok _)) (e_op op_addT (d_addT (mkF_ok _)) (e_op op_addT (d_addT (mkF_ok _)) (e_var (pv 3)) (e_var (pv 5))) (e_lst (mkF_ok _) (a_cons e_str (a_cons e_str (a_cons e_str (a_cons e_str (a_cons e_str (a_cons e_str (a_cons e_str a_nil))))))))) (e_op op_mulB (d_mulB (mkF_ok _)) (e_lst (mkM_ok _) (a_cons (e_var (pv 8)) a_nil)) e_int)) a_nil))) a_nil)))))))
    (ss_cons (s_set (i := 9) sc_law.nd rfl (Or.inl rfl) (e_bm PySem.F.plainAttrs_str PySem.F.slot_str_join PySem.F.type_str_join mt_joinR m_join e_str (a_cons (e_var (pv 7)) a_nil)))
    (ss_cons (s_fzv 10 (s_set (i := 10) sc_law.nd rfl (Or.inl rfl) (e_call (ok_law_cut T) (hr.mono (by decide)) rfl T.g_law_cut T.F_law_cut.kp T.b_law_cut tk0 (a_cons (e_var (pv 9)) a_nil))))
    (ss_cons (s_set (i := 11) sc_law.nd rfl (Or.inl rfl) (e_call (ok_words_of T) (hr.mono (by decide)) rfl T.g_words_of T.F_words_of.kp T.b_words_of tk0 (a_cons (e_var (pv 9)) a_nil)))
    (ss_cons (s_if (t_cmp (op_neE hr.units) (d_nil d_ne) (bools_nil bools_ne) (e_var (pv 11)) (e_var (pv 10))) (ss_one (s_ret e_bl)) ss_nil)
    (ss_cons (s_expr (e_bm PySem.F.plainAttrs_list PySem.F.slot_list_append PySem.F.type_list_append mt_append m_append (e_var (pv 11)) (a_cons e_non a_nil)))
    (ss_cons (s_if (t_cmp (op_neE hr.units) (d_nil d_ne) (bools_nil bools_ne) (e_callK0 (is := [0]) (ok_words_of T) (hr.mono (by decide)) rfl T.g_words_of T.F_words_of.kp (kb_0 T.F_words_of) tk0 (k_cons (e_var (pv 9)) k_nil)) (e_var (pv 10))) (ss_one (s_ret e_bl)) ss_nil)
    (ss_cons (s_for po0 rfl (i_seq (e_op op_addT (d_addT (mkF_ok _)) (e_var (pv 10)) (e_comp (own := [("name", 14)]) (mkF_ok _) rfl sc_law.nd (i_seq (e_var (pv 5))) (blkOk_by (own := [("name", 14)]) (N := ["script", "draw", "word", "some", "turn", "names", "k", "pieces", "any_sign", "text", "due", "found", "line", "column", "name"]) (sc := defScope s_law) (by decide +kernel)) (mono_name) (tg_name) (fun _ _ _ _ _ => pg_name (i := 14) sc_law.nd rfl (Or.inl rfl)) (W1 := W0) (fun _ _ _ _ _ => ts_nil) (W2 := W0) (fun _ _ _ _ _ => (e_tup (a_cons (e_var (pv 14)) (a_cons e_int (a_cons e_int a_nil)))))))) (g_tup rfl (gs_cons (g_name (pg_name (i := 2) sc_law.nd rfl (Or.inl rfl))) (gs_cons (g_name (pg_name (i := 12) sc_law.nd rfl (Or.inl rfl))) (gs_cons (g_name (pg_name (i := 13) sc_law.nd rfl (Or.inl rfl))) gs_nil)))) (ss_one (s_if (w_pt (w_or (t_cmp (op_neE hr.units) (d_nil d_ne) (bools_nil bools_ne) (e_call (ok_sort_of T) (hr.mono (by decide)) rfl T.g_sort_of T.F_sort_of.kp T.b_sort_of tk0 (a_cons (e_var (pv 2)) a_nil)) (e_call (ok_law_sort T) (hr.mono (by decide)) rfl T.g_law_sort T.F_law_sort.kp T.b_law_sort tk0 (a_cons (e_var (pv 2)) a_nil))) (w_or (t_cmp (op_neE hr.units) (d_nil d_ne) (bools_nil bools_ne) (e_callK0 (is := [0]) (ok_sort_of T) (hr.mono (by decide)) rfl T.g_sort_of T.F_sort_of.kp (kb_2 T.F_sort_of) tk0 (k_cons (e_var (pv 2)) k_nil)) (e_call (ok_law_sort T) (hr.mono (by decide)) rfl T.g_law_sort T.F_law_sort.kp T.b_law_sort tk0 (a_cons (e_var (pv 2)) a_nil))) (w_or1 (t_cmp (op_neE hr.units) (d_nil d_ne) (bools_nil bools_ne) (e_callB (call_repr ((deeper_guards _ _).trans hq) (hu66 hr)) d_repr rfl T.m_repr bt_repr (a_cons (e_call (ok_is_name T) (hr.mono (by decide)) rfl T.g_is_name T.F_is_name.kp T.b_is_name tk0 (a_cons (e_var (pv 2)) a_nil)) a_nil)) (e_callB (call_repr ((deeper_guards _ _).trans hq) (hu66 hr)) d_repr rfl T.m_repr bt_repr (a_cons (e_call (ok_law_is_name T) (hr.mono (by decide)) rfl T.g_law_is_name T.F_law_is_name.kp T.b_law_is_name tk0 (a_cons (e_var (pv 2)) a_nil)) a_nil))))))) (ss_one (s_ret e_bl)) ss_nil)))
    (ss_one (s_if (t_not (t_val (e_call (ok_law_refused_right T) (hr.mono (by decide)) rfl T.g_law_refused_right T.kp_law_refused_right T.b_law_refused_right tk0 (a_cons (e_var (pv 1)) (a_cons (e_var (pv 10)) a_nil))))) (ss_one (s_ret e_bl)) ss_nil)))))))))))))
    (ss_one (s_ret (e_cmp op_isAA d_isAA (e_callK0 (is := [0]) (ok_is_name T) (hr.mono (by decide)) rfl T.g_is_name T.F_is_name.kp (kb_1 T.F_is_name) tk0 (k_cons (e_call (ok_law_pick T) (hr.mono (by decide)) rfl T.g_law_pick T.F_law_pick.kp T.b_law_pick tk0 (a_cons (e_var (pv 1)) (a_cons (e_lst (mkF_ok _) (a_cons e_non (a_cons e_int (a_cons e_bl (a_cons (e_lst (mkF_ok _) (a_cons e_str a_nil)) (a_cons e_str (a_cons e_str (a_cons e_str (a_cons e_str (a_cons (e_tup (a_cons e_str a_nil)) a_nil)))))))))) a_nil))) k_nil)) e_bl))))))))
end
end K01

set_option Elab.async false
set_option linter.all false
set_option maxRecDepth 100000
set_option maxHeartbeats 4100000
local macro_rules | `(tactic| walk_at "mp_s") => `(tactic| (repeat (first | (with_reducible refine MP.evV_i rfl ?_) | (with_reducible refine MP.dgTup_i rfl ?_) | (with_reducible refine MP.gIx_t rfl ?_) | (with_reducible refine MP.gIx_l rfl ?_) | (with_reducible refine MP.gLen_w rfl ?_) | (with_reducible refine MP.dAug_i rfl ?_) | (with_reducible refine MP.runF_i ?_) | (with_reducible refine MP.dSeq_i ?_) | (with_reducible refine MP.dSet_i ?_) | (with_reducible refine MP.dIf_i ?_) | (with_reducible refine MP.dRet_i ?_) | (with_reducible refine MP.dExpr_i ?_) | (with_reducible refine MP.dAsg_i ?_) | (with_reducible refine MP.dPar_i ?_) | (with_reducible refine MP.dRaise_i ?_) | (with_reducible refine MP.dNext_i ?_) | (with_reducible refine MP.dgName_i ?_) | (with_reducible refine MP.dgNil_i ?_) | (with_reducible refine MP.dgCons_i ?_) | (with_reducible refine MP.dgSub_i ?_) | (with_reducible refine MP.evC_i ?_) | (with_reducible refine MP.aNil_i ?_) | (with_reducible refine MP.aCons_i ?_) | (with_reducible refine MP.evTup_i ?_) | (with_reducible refine MP.evLst_i ?_) | (with_reducible refine MP.mkF_i ?_) | (with_reducible refine MP.mkDF_i ?_) | (with_reducible refine MP.evDisp_i ?_) | (with_reducible refine MP.evDict0_i ?_) | (with_reducible refine MP.bin_i ?_) | (with_reducible refine MP.una_i ?_) | (with_reducible refine MP.evCall_i ?_) | (with_reducible refine MP.evCall0_i ?_) | (with_reducible refine MP.evCallK_i ?_) | (with_reducible refine MP.evB_i ?_) | (with_reducible refine MP.onT_bl ?_) | (with_reducible refine MP.onT_non ?_) | (with_reducible refine MP.bV_i ?_) | (with_reducible refine MP.bAnd_i ?_) | (with_reducible refine MP.bOr_i ?_) | (with_reducible refine MP.bNot_i ?_) | (with_reducible refine MP.bYes_i ?_) | (with_reducible refine MP.onBl_i ?_) | (with_reducible refine MP.bB_i ?_) | (with_reducible refine MP.eAnd_i ?_) | (with_reducible refine MP.eOr_i ?_) | (with_reducible refine MP.eNot_i ?_) | (with_reducible refine MP.eIf_i ?_) | (with_reducible refine MP.chn_i ?_) | (with_reducible refine MP.ite_tt ?_) | (with_reducible refine MP.ite_ff ?_) | (with_reducible refine MP.gSub_i ?_) | (with_reducible refine MP.gAdd_i ?_) | (with_reducible refine MP.gNeg_i ?_) | (with_reducible refine MP.gLe_i ?_) | (with_reducible refine MP.gLt_i ?_) | (with_reducible refine MP.gGt_i ?_) | (with_reducible refine MP.gGe_i ?_) | (with_reducible refine MP.gEq_i ?_) | (with_reducible refine MP.gNe_i ?_) | (with_reducible refine MP.gEq_b ?_) | (with_reducible refine MP.gNe_b ?_) | (with_reducible refine MP.gEq_s ?_) | (with_reducible refine MP.gNe_s ?_) | (with_reducible refine MP.gIs_i ?_) | (with_reducible refine MP.gIsn_i ?_) | (with_reducible refine MP.gInt_i ?_) | (with_reducible refine MP.gAbs_i ?_) | (with_reducible refine MP.gMin2_i ?_) | (with_reducible refine MP.evComp_i ?_) | (with_reducible refine MP.dFor_i ?_) | (with_reducible refine MP.iSeq_i ?_) | (with_reducible refine MP.onSeq_l ?_) | (with_reducible refine MP.onSeq_k ?_) | (with_reducible refine MP.onSeq_t ?_) | (with_reducible refine MP.iChars_i ?_) | (with_reducible refine MP.onStr_i ?_) | (with_reducible refine MP.evSl_i ?_) | (with_reducible refine MP.oNo_i ?_) | (with_reducible refine MP.oPart_i ?_) | (with_reducible refine MP.onInt_i ?_) | (with_reducible refine MP.gSl_t ?_) | (with_reducible refine MP.dPar3_i ?_) | (with_reducible refine MP.gAddT_i ?_) | (with_reducible refine MP.gEqE_i ?_) | (with_reducible refine MP.gNeE_i ?_) | (with_reducible refine MP.gEqE_s ?_) | (with_reducible refine MP.gNeE_s ?_) | (with_reducible refine MP.intK_i ?_) | (with_reducible refine MP.gInt_b ?_) | (with_reducible refine MP.dRaiseI_i ?_) | (with_reducible refine MP.gIsA_n ?_) | (with_reducible refine MP.gIsnA_n ?_) | (with_reducible refine MP.gIsA_b ?_) | (with_reducible refine MP.gIsnA_b ?_) | ((with_reducible apply MP.gIsi_t); rfl; rfl; rfl) | ((with_reducible apply MP.onT_i); rfl) | ((with_reducible apply MP.ite_t); rfl) | ((with_reducible apply MP.ite_f); rfl) | ((with_reducible apply MP.gList_i); rfl) | ((with_reducible apply MP.gTuple_i); rfl))))
local macro_rules | `(tactic| walk_at "mp_1") => `(tactic| (first | (with_reducible refine MP.evV_i rfl ?_) | (with_reducible refine MP.dgTup_i rfl ?_) | (with_reducible refine MP.gIx_t rfl ?_) | (with_reducible refine MP.gIx_l rfl ?_) | (with_reducible refine MP.gLen_w rfl ?_) | (with_reducible refine MP.dAug_i rfl ?_) | (with_reducible refine MP.runF_i ?_) | (with_reducible refine MP.dSeq_i ?_) | (with_reducible refine MP.dSet_i ?_) | (with_reducible refine MP.dIf_i ?_) | (with_reducible refine MP.dRet_i ?_) | (with_reducible refine MP.dExpr_i ?_) | (with_reducible refine MP.dAsg_i ?_) | (with_reducible refine MP.dPar_i ?_) | (with_reducible refine MP.dRaise_i ?_) | (with_reducible refine MP.dNext_i ?_) | (with_reducible refine MP.dgName_i ?_) | (with_reducible refine MP.dgNil_i ?_) | (with_reducible refine MP.dgCons_i ?_) | (with_reducible refine MP.dgSub_i ?_) | (with_reducible refine MP.evC_i ?_) | (with_reducible refine MP.aNil_i ?_) | (with_reducible refine MP.aCons_i ?_) | (with_reducible refine MP.evTup_i ?_) | (with_reducible refine MP.evLst_i ?_) | (with_reducible refine MP.mkF_i ?_) | (with_reducible refine MP.mkDF_i ?_) | (with_reducible refine MP.evDisp_i ?_) | (with_reducible refine MP.evDict0_i ?_) | (with_reducible refine MP.bin_i ?_) | (with_reducible refine MP.una_i ?_) | (with_reducible refine MP.evCall_i ?_) | (with_reducible refine MP.evCall0_i ?_) | (with_reducible refine MP.evCallK_i ?_) | (with_reducible refine MP.evB_i ?_) | (with_reducible refine MP.onT_bl ?_) | (with_reducible refine MP.onT_non ?_) | (with_reducible refine MP.bV_i ?_) | (with_reducible refine MP.bAnd_i ?_) | (with_reducible refine MP.bOr_i ?_) | (with_reducible refine MP.bNot_i ?_) | (with_reducible refine MP.bYes_i ?_) | (with_reducible refine MP.onBl_i ?_) | (with_reducible refine MP.bB_i ?_) | (with_reducible refine MP.eAnd_i ?_) | (with_reducible refine MP.eOr_i ?_) | (with_reducible refine MP.eNot_i ?_) | (with_reducible refine MP.eIf_i ?_) | (with_reducible refine MP.chn_i ?_) | (with_reducible refine MP.ite_tt ?_) | (with_reducible refine MP.ite_ff ?_) | (with_reducible refine MP.gSub_i ?_) | (with_reducible refine MP.gAdd_i ?_) | (with_reducible refine MP.gNeg_i ?_) | (with_reducible refine MP.gLe_i ?_) | (with_reducible refine MP.gLt_i ?_) | (with_reducible refine MP.gGt_i ?_) | (with_reducible refine MP.gGe_i ?_) | (with_reducible refine MP.gEq_i ?_) | (with_reducible refine MP.gNe_i ?_) | (with_reducible refine MP.gEq_b ?_) | (with_reducible refine MP.gNe_b ?_) | (with_reducible refine MP.gEq_s ?_) | (with_reducible refine MP.gNe_s ?_) | (with_reducible refine MP.gIs_i ?_) | (with_reducible refine MP.gIsn_i ?_) | (with_reducible refine MP.gInt_i ?_) | (with_reducible refine MP.gAbs_i ?_) | (with_reducible refine MP.gMin2_i ?_) | (with_reducible refine MP.evComp_i ?_) | (with_reducible refine MP.dFor_i ?_) | (with_reducible refine MP.iSeq_i ?_) | (with_reducible refine MP.onSeq_l ?_) | (with_reducible refine MP.onSeq_k ?_) | (with_reducible refine MP.onSeq_t ?_) | (with_reducible refine MP.iChars_i ?_) | (with_reducible refine MP.onStr_i ?_) | (with_reducible refine MP.evSl_i ?_) | (with_reducible refine MP.oNo_i ?_) | (with_reducible refine MP.oPart_i ?_) | (with_reducible refine MP.onInt_i ?_) | (with_reducible refine MP.gSl_t ?_) | (with_reducible refine MP.dPar3_i ?_) | (with_reducible refine MP.gAddT_i ?_) | (with_reducible refine MP.gEqE_i ?_) | (with_reducible refine MP.gNeE_i ?_) | (with_reducible refine MP.gEqE_s ?_) | (with_reducible refine MP.gNeE_s ?_) | (with_reducible refine MP.intK_i ?_) | (with_reducible refine MP.gInt_b ?_) | (with_reducible refine MP.dRaiseI_i ?_) | (with_reducible refine MP.gIsA_n ?_) | (with_reducible refine MP.gIsnA_n ?_) | (with_reducible refine MP.gIsA_b ?_) | (with_reducible refine MP.gIsnA_b ?_) | ((with_reducible apply MP.gIsi_t); rfl; rfl; rfl) | ((with_reducible apply MP.onT_i); rfl) | ((with_reducible apply MP.ite_t); rfl) | ((with_reducible apply MP.ite_f); rfl) | ((with_reducible apply MP.gList_i); rfl) | ((with_reducible apply MP.gTuple_i); rfl)))
/-! what the mirrors compute: names -/
namespace K01
open PySem PySem.Spec PyProof.Rows L2 MP
variable {A : Ad} {S : Store} {Q : Post} {E : XPost}
/-! names -/
def keptD : List D := match c_KEPT with
  | .tup ys => ys
  | _ => []
def isKept (x : Str) : Bool := inD (.str x) keptD
def small26 (c : Nat) : Bool := decide (97 ≤ c) && decide (c ≤ 122)
def nameOk (x : Str) : Bool := decide ((1 : Int) ≤ x.length) && (decide ((x.length : Int) ≤ 8) && (!isKept x && x.cps.toList.all small26))
def isName : D → Bool
  | .str x => nameOk x
  | _ => false
def smallS : Str := match c_SMALL with
  | .str x => x
  | _ => ""
theorem small_mem (c : Nat) : decide (c ∈ smallS.cps.toList) = small26 c := by
  have e : smallS.cps.toList = [97, 98, 99, 100, 101, 102, 103, 104, 105, 106, 107, 108, 109, 110, 111, 112, 113, 114, 115, 116, 117, 118, 119, 120, 121, 122] := by decide +kernel
  rw [e]
  unfold small26
  rw [← Bool.decide_and]
  apply decide_eq_decide.mpr
  simp only [List.mem_cons, List.not_mem_nil, or_false]
  omega
/-- values that the law hands about: their depth, their sizes -/
def okD : Nat → D → Prop
  | _, .non => True
  | _, .bl _ => True
  | _, .int _ => True
  | _, .str x => x.length ≤ 1000
  | _, .dct ks xs => ks = [] ∧ xs = []
  | n + 1, .tup xs => xs.length ≤ 1000 ∧ ∀ x ∈ xs, okD n x
  | n + 1, .lst xs => xs.length ≤ 1000 ∧ ∀ x ∈ xs, okD n x
  | _, _ => False
theorem okD.val {n : Nat} {d : D} (h : okD n d) : Val d := by
  cases d <;> first | trivial | (cases n <;> exact h.elim)
theorem okD.mono : ∀ {n m : Nat} {d : D}, n ≤ m → okD n d → okD m d
  | n, m, .non, _, _ => by cases m <;> trivial
  | n, m, .bl _, _, _ => by cases m <;> trivial
  | n, m, .int _, _, _ => by cases m <;> trivial
  | n, m, .str x, _, h => by cases n <;> cases m <;> exact h
  | n, m, .dct ks xs, _, h => by cases n <;> cases m <;> exact h
  | 0, m, .tup xs, _, h => h.elim
  | 0, m, .lst xs, _, h => h.elim
  | n + 1, 0, .tup xs, l, h => by omega
  | n + 1, 0, .lst xs, l, h => by omega
  | n + 1, m + 1, .tup xs, l, h => ⟨h.1, fun x hx => okD.mono (by omega) (h.2 x hx)⟩
  | n + 1, m + 1, .lst xs, l, h => ⟨h.1, fun x hx => okD.mono (by omega) (h.2 x hx)⟩
  | n, m, .ref _, _, h => by cases n <;> exact h.elim
  | n, m, .ty _, _, h => by cases n <;> exact h.elim
  | n, m, .exn _ _ _ _, _, h => by cases n <;> exact h.elim
  | n, m, .kls _, _, h => by cases n <;> exact h.elim
theorem okD.str {n : Nat} {x : Str} (h : okD n (.str x)) : x.length ≤ 1000 := by cases n <;> exact h
theorem all_empty {α : Type} (p : α → Bool) (l : List α) : (l.filter fun x => !p x).isEmpty = l.all p := by
  induction l with
  | nil => rfl
  | cons a r ih =>
    rw [List.all_cons]
    cases h : p a with
    | true => rw [List.filter_cons_of_neg (by simp [h]), ih]; rfl
    | false => rw [List.filter_cons_of_pos (by simp [h])]; rfl
theorem le_line1 {n : Nat} (h : n ≤ 1000) : n ≤ sizeLine := Nat.le_trans h (by decide)
theorem is_name_str {x : Str} (hx : x.length ≤ 1000) (q : Q (.bl (nameOk x)) S) : r_is_name A [.str x] S Q E := by
  unfold r_is_name
  walk_at "mp_s"
  refine gLen_s (le_line1 hx) ?_
  walk_at "mp_s"
  have tail : Q (.bl (nameOk x)) S → ∀ b1 b2 b3 : Bool, b1 = decide ((1 : Int) ≤ x.length) → True := fun _ _ _ _ _ => trivial
  refine ite_cc (fun e1 => ?_) fun e1 => ?_
  · walk_at "mp_s"
    refine ite_cc (fun e2 => ?_) fun e2 => ?_
    · have e2' : decide ((x.length : Int) ≤ 8) = false := by simpa using e2
      have z : nameOk x = false := by unfold nameOk; rw [e2', Bool.false_and, Bool.and_false]
      rw [z] at q
      walk_at "mp_s"
      exact q
    · have e2' : decide ((x.length : Int) ≤ 8) = true := by simpa using e2
      refine bB_i (bin_i (evV_i rfl (evC_i ?_)))
      refine inC_tup rfl (by decide) ?_
      show onBl (.bl (isKept x)) _
      walk_at "mp_s"
      refine ite_cc (fun e3 => ?_) fun e3 => ?_
      · have z : nameOk x = false := by unfold nameOk; rw [e3, Bool.not_true, Bool.false_and, Bool.and_false, Bool.and_false]
        rw [z] at q
        walk_at "mp_s"
        exact q
      · have z : nameOk x = x.cps.toList.all small26 := by unfold nameOk; rw [e1, e2', e3]; rfl
        rw [z] at q
        walk_at "mp_s"
        rw [signs_enc]
        refine comp_map (fun c : Nat => D.str ⟨#[c]⟩) (fun c => !small26 c) (fun c => D.str ⟨#[c]⟩) x.cps.toList [] (fun c _ k hk => ?_) (fun c _ _ k hk => evV_i rfl hk) ?_ ?_
        · refine bB_i (bin_i (evV_i rfl (evC_i (inC_sign ?_))))
          show onBl (.bl (!decide (c ∈ smallS.cps.toList))) _
          rw [small_mem]
          exact hk
        · exact le_line1 (by have h : x.cps.size ≤ 1000 := hx; simpa using h)
        walk_at "mp_s"
        refine gEqE_nil rfl ?_
        rw [List.nil_append, List.isEmpty_map, all_empty]
        exact q
  · have z : nameOk x = false := by unfold nameOk; rw [e1, Bool.false_and]
    rw [z] at q
    walk_at "mp_s"
    exact q
theorem is_name_ok {n : Nat} {d : D} (h : okD n d) (q : Q (.bl (isName d)) S) : r_is_name A [d] S Q E := by
  have hv := h.val
  cases d with
  | str x => exact is_name_str h.str q
  | _ => first | exact hv.elim | (unfold r_is_name; walk_at "mp_s"; exact q)
/-! the law's own -/
theorem gLe_str {a b : Str} (q : Q (.bl (!decide (b.cps.toList < a.cps.toList))) S) : gOrd (fun i j => decide (i ≤ j)) (fun i j => !decide (j < i)) (.str a) (.str b) S Q := q
theorem cps_a : (Str.ofString "a").cps.toList = [97] := by decide +kernel
theorem cps_z : (Str.ofString "z").cps.toList = [122] := by decide +kernel
def law2 : List D := [.str "and", .str "cases", .str "cell", .str "else", .str "fewest", .str "from", .str "greatest", .str "if", .str "input", .str "least", .str "most", .str "not", .str "of", .str "or", .str "place", .str "row", .str "settle", .str "start", .str "sum", .str "then", .str "to", .str "fork", .str "leaf"]
theorem kept_same (x : Str) : inD (.str x) law2 = isKept x := by
  unfold isKept inD law2 keptD c_KEPT
  simp only [List.any_cons, List.any_nil, eqF, Bool.or_false]
  ac_rfl
theorem law_kept_ok (q : Q (.lst (law2.take 21)) S) : r_law_kept A [] S Q E := by
  unfold r_law_kept
  walk_at "mp_s"
  refine gAddT_l (by decide) ?_
  walk_at "mp_s"
  exact q
theorem le_sign (c : Nat) : (!decide ([c] < [97])) = decide (97 ≤ c) := by
  rw [← decide_not]
  apply decide_eq_decide.mpr
  simp only [List.cons_lt_cons_iff]
  simp
theorem le_sign2 (c : Nat) : (!decide ([122] < [c])) = decide (c ≤ 122) := by
  rw [← decide_not]
  apply decide_eq_decide.mpr
  simp only [List.cons_lt_cons_iff]
  simp
theorem law_small_ok {x : Str} (hx : x.length ≤ 1000) (q : Q (.bl (decide ((1 : Int) ≤ x.length) && x.cps.toList.all small26)) S) : r_law_is_small A [.str x] S Q E := by
  have e0 : (!(x == (Str.ofString ""))) = decide ((1 : Int) ≤ x.length) := by
    have e : (x == Str.ofString "") = decide (x.length = 0) := by
      show decide (x = Str.ofString "") = _
      apply decide_eq_decide.mpr
      constructor
      · intro h; subst h; rfl
      · intro h
        have h2 : x.cps.size = 0 := h
        obtain ⟨c⟩ := x
        have h3 : c = #[] := Array.eq_empty_of_size_eq_zero h2
        subst h3
        rfl
    rw [e, ← decide_not]
    apply decide_eq_decide.mpr
    omega
  unfold r_law_is_small
  walk_at "mp_s"
  rw [e0]
  refine ite_cc (fun e1 => ?_) fun e1 => ?_
  · rw [e1, Bool.true_and] at q
    walk_at "mp_s"
    rw [signs_enc]
    refine comp_map (fun c : Nat => D.str ⟨#[c]⟩) (fun c => !small26 c) (fun c => D.str ⟨#[c]⟩) x.cps.toList [] (fun c _ k hk => ?_) (fun c _ _ k hk => evV_i rfl hk) ?_ ?_
    · refine bNot_i (bB_i (chn_i (evC_i (evV_i rfl ?_))))
      refine gLe_str ?_
      rw [cps_a]
      show onBl (.bl (!decide ([c] < [97]))) _
      rw [le_sign]
      refine onBl_i (ite_cc (fun f1 => ?_) fun f1 => ?_)
      · refine evC_i ?_
        refine gLe_str ?_
        rw [cps_z]
        show onBl (.bl (!decide ([122] < [c]))) _
        rw [le_sign2]
        refine onBl_i ?_
        have z : small26 c = decide (c ≤ 122) := by unfold small26; rw [f1, Bool.true_and]
        rw [← z]
        exact hk
      · have z : small26 c = false := by unfold small26; rw [f1, Bool.false_and]
        rw [z] at hk
        exact hk
    · exact le_line1 (by have h : x.cps.size ≤ 1000 := hx; simpa using h)
    walk_at "mp_s"
    refine gEqE_nil rfl ?_
    rw [List.nil_append, List.isEmpty_map, all_empty]
    exact q
  · rw [e1, Bool.false_and] at q
    rw [e1]
    exact q
theorem law_is_name_ok {n : Nat} {d : D} (h : okD n d) (q : Q (.bl (isName d)) S) : r_law_is_name A [d] S Q E := by
  have hv := h.val
  cases d with
  | str x =>
    have hx := h.str
    unfold r_law_is_name
    walk_at "mp_s"
    refine gLen_s (le_line1 hx) ?_
    walk_at "mp_s"
    have lt8 : decide ((x.length : Int) < 9) = decide ((x.length : Int) ≤ 8) := decide_eq_decide.mpr (by omega)
    rw [lt8]
    refine ite_cc (fun e1 => ?_) fun e1 => ?_
    · walk_at "mp_s"
      refine law_small_ok hx ?_
      walk_at "mp_s"
      refine ite_cc (fun e2 => ?_) fun e2 => ?_
      · walk_at "mp_s"
        refine law_kept_ok ?_
        walk_at "mp_s"
        refine gAddT_l (by decide) ?_
        walk_at "mp_s"
        refine inC_lst rfl (by decide) ?_
        show Q (.bl (!inD (.str x) law2)) S
        rw [kept_same]
        have e3 : decide ((1 : Int) ≤ x.length) = true ∧ x.cps.toList.all small26 = true := by simpa using e2
        have z : nameOk x = !isKept x := by unfold nameOk; rw [e1, e3.1, e3.2]; simp
        have q' : Q (.bl (nameOk x)) S := q
        rw [z] at q'
        exact q'
      · have z : nameOk x = false := by
          unfold nameOk
          cases h1 : decide ((1 : Int) ≤ x.length) with
          | false => rfl
          | true =>
            rw [h1, Bool.true_and] at e2
            rw [e2]
            simp
        have q' : Q (.bl (nameOk x)) S := q
        rw [z] at q'
        rw [e2]
        exact q'
    · have z : nameOk x = false := by unfold nameOk; rw [e1]; simp
      have q' : Q (.bl (nameOk x)) S := q
      rw [z] at q'
      rw [e1]
      exact q'
  | _ => first | exact hv.elim | (unfold r_law_is_name; walk_at "mp_s"; exact q)
end K01

set_option Elab.async false
set_option linter.all false
set_option maxRecDepth 100000
set_option maxHeartbeats 4100000
/-! what the mirrors compute: the draws -/
namespace K01
open PySem PySem.Spec PyProof.Rows L2 MP
variable {A : Ad} {S : Store} {Q : Post} {E : XPost}
def dks : List Key := [.inr "wide", .inr "cells", .inr "rest", .inr "turn"]
def box (w : Addr) (cs : List Int) (rest turn : Int) : SO := .dct dks [.ref w, .lst (cs.map .int), .int rest, .int turn]
/-- a draw that stands at a, its wide numbers at w; n numbers at most were mixed -/
structure Dr (S : Store) (a w : Addr) (n : Nat) : Prop where
  ne : a ≠ w
  box : ∃ (cs : List Int) (rest turn : Int), S a = some (box w cs rest turn) ∧ (∀ c ∈ cs, 0 ≤ c ∧ c < 2147483629) ∧ 0 ≤ rest ∧ 0 ≤ turn ∧ turn ≤ n
  wide : ∃ ws : List Int, S w = some (.lst (ws.map .int)) ∧ ∀ x ∈ ws, 0 ≤ x
def Same (S S' : Store) (a w : Addr) : Prop := ∀ b, b ≠ a → b ≠ w → S' b = S b
theorem Same.refl (S : Store) (a w : Addr) : Same S S a w := fun _ _ _ => rfl
theorem Same.trans {S S1 S2 : Store} {a w : Addr} (h : Same S S1 a w) (k : Same S1 S2 a w) : Same S S2 a w := fun b x y => (k b x y).trans (h b x y)
theorem Dr.mono {S : Store} {a w : Addr} {n m : Nat} (h : Dr S a w n) (l : n ≤ m) : Dr S a w m := ⟨h.ne, by
  obtain ⟨cs, r, t, e, c, r0, t0, tn⟩ := h.box
  exact ⟨cs, r, t, e, c, r0, t0, by omega⟩, h.wide⟩
theorem set_at {S : Store} {a : Addr} {o : SO} : S.set a o a = some o := by unfold Store.set; rw [if_pos rfl]
theorem set_off {S : Store} {a b : Addr} {o : SO} (h : b ≠ a) : S.set a o b = S b := by unfold Store.set; rw [if_neg h]
theorem same_set {S S1 : Store} {a w : Addr} {o : SO} (h : Same S S1 a w) : Same S (S1.set a o) a w := fun b x y => by rw [set_off x, h b x y]
theorem same_setw {S S1 : Store} {a w : Addr} {o : SO} (h : Same S S1 a w) : Same S (S1.set w o) a w := fun b x y => by rw [set_off y, h b x y]
theorem bx_turn {S : Store} {a w : Addr} {cs : List Int} {r t : Int} (h : S a = some (box w cs r t)) (q : Q (.int t) S) : gIx (.ref a) (.str "turn") S Q :=
  gIx_box h (k := .inr "turn") rfl (d := .int t) (by rfl) q
theorem bx_rest {S : Store} {a w : Addr} {cs : List Int} {r t : Int} (h : S a = some (box w cs r t)) (q : Q (.int r) S) : gIx (.ref a) (.str "rest") S Q :=
  gIx_box h (k := .inr "rest") rfl (d := .int r) (by rfl) q
theorem bx_cells {S : Store} {a w : Addr} {cs : List Int} {r t : Int} (h : S a = some (box w cs r t)) (q : Q (.lst (cs.map .int)) S) : gIx (.ref a) (.str "cells") S Q :=
  gIx_box h (k := .inr "cells") rfl (d := .lst (cs.map .int)) (by rfl) q
theorem bx_wide {S : Store} {a w : Addr} {cs : List Int} {r t : Int} (h : S a = some (box w cs r t)) (q : Q (.ref w) S) : gIx (.ref a) (.str "wide") S Q :=
  gIx_box h (k := .inr "wide") rfl (d := .ref w) (by rfl) q
theorem st_turn {S : Store} {a w : Addr} {cs : List Int} {r t i : Int} {QS : Store → Prop} (h : S a = some (box w cs r t)) (q : QS (S.set a (box w cs r i))) : setD (.ref a) (.str "turn") (.int i) S QS :=
  setD_box h (k := .inr "turn") rfl (by decide) (ks' := dks) (by rfl) (ds' := [.ref w, .lst (cs.map .int), .int r, .int i]) (by rfl) q
theorem st_rest {S : Store} {a w : Addr} {cs : List Int} {r t i : Int} {QS : Store → Prop} (h : S a = some (box w cs r t)) (q : QS (S.set a (box w cs i t))) : setD (.ref a) (.str "rest") (.int i) S QS :=
  setD_box h (k := .inr "rest") rfl (by decide) (ks' := dks) (by rfl) (ds' := [.ref w, .lst (cs.map .int), .int i, .int t]) (by rfl) q
theorem mixed_ok {a w : Addr} {n : Nat} (h : Dr S a w n) (hn : n < 2 ^ 40) (q : ∀ r S', 0 ≤ r → Dr S' a w (n + 1) → Same S S' a w → Q (.int r) S') : r_law_mixed A [.ref a] S Q E := by
  obtain ⟨cs, r, t, e, hc, r0, t0, tn⟩ := h.box
  obtain ⟨ws, ew, hw⟩ := h.wide
  unfold r_law_mixed
  walk_at "mp_s"
  refine bx_turn e ?_
  walk_at "mp_s"
  refine st_turn e ?_
  walk_at "mp_s"
  have e1 : S.set a (box w cs r (t + 1)) a = some (box w cs r (t + 1)) := set_at
  have d1 : Dr (S.set a (box w cs r (t + 1))) a w (n + 1) := ⟨h.ne, ⟨cs, r, t + 1, e1, hc, r0, by omega, by omega⟩, ⟨ws, by rw [set_off h.ne.symm]; exact ew, hw⟩⟩
  have s1 : Same S (S.set a (box w cs r (t + 1))) a w := same_set (Same.refl S a w)
  generalize S.set a (box w cs r (t + 1)) = S1 at e1 d1 s1 ⊢
  refine loop_ind (fun ds ρ S' => S' = S1 ∧ (∀ d ∈ ds, ∃ p, d = .int p ∧ 0 < p ∧ p < 2147483648) ∧ ∃ f p b g, 0 ≤ f ∧ ρ = [some (.ref a), some (.int (t + 1)), some (.int f), p, b, g]) ?_ ?_ _ _ _ ⟨rfl, ?_, 0, none, none, none, by omega, rfl⟩
  · rintro d ds ρ S' ih ⟨rfl, hd, f, p, b, g, f0, rfl⟩
    obtain ⟨p, rfl, p0, p1⟩ := hd d List.mem_cons_self
    walk_at "mp_s"
    refine gMul_i (.inl ⟨by decide, by decide⟩) ?_
    walk_at "mp_s"
    refine gDiv_i ⟨by decide, by decide⟩ ?_
    walk_at "mp_s"
    refine bx_cells e1 ?_
    walk_at "mp_s"
    have b0 : 0 ≤ 48271 * (t + 1) + p / 37 ∧ 48271 * (t + 1) + p / 37 < 2 ^ 63 := by
      have : (n : Int) < 2 ^ 40 := by exact_mod_cast hn
      omega
    generalize 48271 * (t + 1) + p / 37 = b at b0
    refine loop_ind (fun ds ρ S'' => S'' = S' ∧ (∀ d ∈ ds, ∃ c, d = .int c ∧ 0 ≤ c) ∧ ∃ b g, 0 ≤ b ∧ b < 2 ^ 63 ∧ ρ = [some (.ref a), some (.int (t + 1)), some (.int f), some (.int p), some (.int b), g]) ?_ ?_ _ _ _ ⟨rfl, ?_, b, g, b0.1, b0.2, rfl⟩
    · rintro d2 ds2 ρ2 S2 ih2 ⟨rfl, hd2, b, g, b0, b1, rfl⟩
      obtain ⟨c, rfl, c0⟩ := hd2 d2 List.mem_cons_self
      walk_at "mp_s"
      refine gMul_i (.inr ⟨by decide, by decide⟩) ?_
      walk_at "mp_s"
      refine gMod_i p0 ?_
      walk_at "mp_s"
      refine ih2 _ _ ⟨rfl, fun d hd => hd2 d (List.mem_cons_of_mem _ hd), (b * 69621 + c + (t + 1)) % p, some (.int c), ?_, ?_, rfl⟩
      · exact Int.emod_nonneg _ (by omega)
      · have := Int.emod_lt_of_pos (b * 69621 + c + (t + 1)) p0
        omega
    · rintro ρ2 S2 ⟨rfl, -, b, g, b0, b1, rfl⟩
      walk_at "mp_s"
      refine gMul_i (.inr ⟨by decide, by decide⟩) ?_
      walk_at "mp_s"
      refine gPow_i ⟨by decide, by decide, by omega⟩ ?_
      walk_at "mp_s"
      refine gMod_i p0 ?_
      walk_at "mp_s"
      refine ih _ _ ⟨rfl, fun d hd' => hd d (List.mem_cons_of_mem _ hd'), f * 2147483647 + b ^ 5 % p, some (.int p), some (.int b), g, ?_, rfl⟩
      have := Int.emod_nonneg (b ^ 5) (show p ≠ 0 by omega)
      omega
    · intro d hd
      obtain ⟨c, hc', rfl⟩ := List.mem_map.mp hd
      exact ⟨c, rfl, (hc c hc').1⟩
  · rintro ρ S' ⟨rfl, -, f, p, b, g, f0, rfl⟩
    walk_at "mp_s"
    exact q f S' f0 d1 s1
  · intro d hd
    simp only [List.mem_cons, List.not_mem_nil, or_false] at hd
    rcases hd with rfl | rfl | rfl | rfl <;> exact ⟨_, rfl, by decide, by decide⟩
theorem pop_ok {w : Addr} {x : D} {xs : List D} (h : S w = some (.lst (x :: xs))) (q : Q x (S.set w (.lst xs))) : mPopAt (.ref w) [.int 0] S Q := by
  unfold mPopAt onL
  simp only [h]
  refine ⟨by decide, by decide, ?_⟩
  have e : seqIndex? 0 (x :: xs).length = some 0 := by
    unfold seqIndex?
    simp
  rw [e]
  exact q
theorem take_end {a w : Addr} {n : Nat} {many : Int} {ρ : MP.Env} {N : DEnds} (h : Dr S a w n) (hm : 0 < many) (hm2 : many < 1073741824) (e0 : ρ = [some (.ref a), some (.int many), none]) (q : ∀ r S', 0 ≤ r → r < many → Dr S' a w n → Same S S' a w → N.rt (.int r) S') :
    dSeq (dSet 2 (bin gMod (evB gInt (aCons (bin gIx (evV 0) (evC (.str "rest"))) (aNil))) (evV 1))) (dSeq (dAsg (bin gDiv (bin gIx (evV 0) (evC (.str "rest"))) (evV 1)) (dgSub (evV 0) (evC (.str "rest")))) (dRet (evV 2))) ρ S N := by
  obtain ⟨cs, r, t, e, hc, r0, t0, tn⟩ := h.box
  obtain ⟨ws, ew, hw⟩ := h.wide
  subst e0
  walk_at "mp_s"
  refine bx_rest e ?_
  walk_at "mp_s"
  refine gMod_i hm ?_
  walk_at "mp_s"
  refine bx_rest e ?_
  walk_at "mp_s"
  refine gDiv_i ⟨hm, hm2⟩ ?_
  walk_at "mp_s"
  refine st_rest e ?_
  walk_at "mp_s"
  exact q _ _ (Int.emod_nonneg _ (by omega)) (Int.emod_lt_of_pos _ hm) ⟨h.ne, ⟨cs, r / many, t, set_at, hc, Int.ediv_nonneg r0 (by omega), t0, tn⟩, ⟨ws, by rw [set_off h.ne.symm]; exact ew, hw⟩⟩ (same_set (Same.refl S a w))
theorem take_ok {a w : Addr} {n : Nat} {many : Int} (h : Dr S a w n) (hn : n < 2 ^ 40) (hm : 0 < many) (hm2 : many < 1073741824) (q : ∀ r S', 0 ≤ r → r < many → Dr S' a w (n + 1) → Same S S' a w → Q (.int r) S') : r_law_take A [.ref a, .int many] S Q E := by
  obtain ⟨cs, r, t, e, hc, r0, t0, tn⟩ := h.box
  obtain ⟨ws, ew, hw⟩ := h.wide
  unfold r_law_take
  walk_at "mp_s"
  refine bx_rest e ?_
  walk_at "mp_s"
  refine ite_cc (fun c => ?_) fun c => ?_
  · walk_at "mp_s"
    refine bx_wide e ?_
    walk_at "mp_s"
    refine gNeE_nil (vw_l ew) ?_
    walk_at "mp_s"
    cases ws with
    | nil =>
      walk_at "mp_s"
      refine mixed_ok h hn fun r1 S1 p1 d1 s1 => ?_
      walk_at "mp_s"
      obtain ⟨cs1, r2, t2, e2, hc2, r02, t02, tn2⟩ := d1.box
      refine st_rest e2 ?_
      refine take_end (a := a) (w := w) (n := n + 1) (many := many) ⟨h.ne, ⟨cs1, r1, t2, set_at, hc2, p1, t02, tn2⟩, ?_⟩ hm hm2 rfl fun r S' x0 x1 d2 s2 => q r S' x0 x1 d2 ((same_set s1).trans s2)
      obtain ⟨ws1, ew1, hw1⟩ := d1.wide
      exact ⟨ws1, by rw [set_off h.ne.symm]; exact ew1, hw1⟩
    | cons x xs =>
      refine ite_t rfl ?_
      refine evM_i ?_
      walk_at "mp_s"
      refine bx_wide e ?_
      refine ⟨by rw [vw_l ew]; rfl, ?_⟩
      walk_at "mp_s"
      refine pop_ok ew ?_
      walk_at "mp_s"
      have x0 : 0 ≤ x := hw x List.mem_cons_self
      refine st_rest (w := w) (cs := cs) (r := r) (t := t) (by rw [set_off h.ne]; exact e) ?_
      refine take_end (a := a) (w := w) (n := n + 1) (many := many) ⟨h.ne, ⟨cs, x, t, set_at, hc, x0, t0, by omega⟩, ⟨xs, by rw [set_off h.ne.symm, set_at], fun y hy => hw y (List.mem_cons_of_mem _ hy)⟩⟩ hm hm2 rfl fun r S' x0 x1 d2 s2 => q r S' x0 x1 d2 ((same_set (same_setw (Same.refl S a w))).trans s2)
  · walk_at "mp_s"
    exact take_end (h.mono (Nat.le_succ n)) hm hm2 rfl q
theorem atI_ok {xs : List D} {r : Int} (h0 : 0 ≤ r) (h1 : r < xs.length) : ∃ x, x ∈ xs ∧ atI xs r = some x := by
  have hl : r.toNat < xs.length := by omega
  refine ⟨xs[r.toNat], List.getElem_mem hl, ?_⟩
  unfold atI ixN
  rw [if_pos h0, if_pos h1]
  exact List.getElem?_eq_getElem hl
theorem pick_ok {a w : Addr} {n : Nat} {xs : List D} (h : Dr S a w n) (hn : n < 2 ^ 40) (h0 : xs ≠ []) (h1 : xs.length < 1073741824) (q : ∀ x S', x ∈ xs → Dr S' a w (n + 1) → Same S S' a w → Q x S') : r_law_pick A [.ref a, .lst xs] S Q E := by
  have l0 : 0 < xs.length := List.length_pos_iff.mpr h0
  unfold r_law_pick
  walk_at "mp_s"
  refine take_ok h hn (by omega) (by omega) fun r S' r0 r1 d1 s1 => ?_
  obtain ⟨x, hx, e⟩ := atI_ok r0 r1
  refine gIx_l e ?_
  exact q x S' hx d1 s1
def ab (x : Int) : Int := if x < 0 then -x else x
theorem ab0 (x : Int) : 0 ≤ ab x := by unfold ab; split <;> omega
theorem begun_ok {ns : List Int} (hl : ns.length ≤ 64) (q : ∀ a w S', Dr S' a w 0 → Same S S' a w → S a = none → S w = none → Q (.ref a) S') : r_law_begun A [.kls (ns.map .int)] S Q E := by
  have hz : ns.length ≤ sizeLine := Nat.le_trans hl (by decide)
  unfold r_law_begun
  walk_at "mp_s"
  refine comp_map D.int (fun x => decide ((10 : Int) ^ (18 : Int).toNat ≤ ab x)) (fun x => .int (ab x - (10 : Int) ^ (18 : Int).toNat)) ns [] (fun x hx k q => ?_) (fun x hx e k q => ?_) (by simpa using hz) ?_
  · walk_at "mp_s"
    refine gPow_i ⟨by decide, by decide, by decide⟩ ?_
    walk_at "mp_s"
    exact q
  · walk_at "mp_s"
    refine gPow_i ⟨by decide, by decide, by decide⟩ ?_
    walk_at "mp_s"
    exact q
  refine mkM_i fun w hw => ?_
  walk_at "mp_s"
  refine comp_all D.int (fun x => .int (ab x % 2147483629)) ns (fun x hx k q => ?_) hz ?_
  · walk_at "mp_s"
    refine gMod_i (by decide) ?_
    walk_at "mp_s"
    exact q
  walk_at "mp_s"
  refine mkDM_i fun a ha => ?_
  walk_at "mp_s"
  have ne : a ≠ w := fun z => by rw [z, set_at] at ha; cases ha
  rw [set_off ne] at ha
  refine q a w _ ⟨ne, ⟨ns.map fun x => ab x % 2147483629, 0, 0, ?_, ?_, by decide, by decide, by decide⟩, ⟨(ns.filter fun x => decide ((10 : Int) ^ (18 : Int).toNat ≤ ab x)).map fun x => ab x - (10 : Int) ^ (18 : Int).toNat, ?_, ?_⟩⟩ (same_set (same_setw (Same.refl S a w))) ha hw
  · rw [set_at]
    unfold box
    rw [List.map_map]
    rfl
  · intro c hc
    obtain ⟨x, -, rfl⟩ := List.mem_map.mp hc
    exact And.intro (Int.emod_nonneg _ (by decide)) (Int.emod_lt_of_pos _ (by decide))
  · rw [set_off ne.symm, set_at, List.map_map]
    rfl
  · intro c hc
    obtain ⟨x, hx, rfl⟩ := List.mem_map.mp hc
    have := of_decide_eq_true (List.mem_filter.mp hx).2
    omega
/-! .. with so many draws left -/
def Dg (S : Store) (a w : Addr) (b : Nat) : Prop := ∃ n, Dr S a w n ∧ n + b < 2 ^ 40
theorem Dg.mono {a w : Addr} {b c : Nat} (h : Dg S a w b) (l : c ≤ b) : Dg S a w c := let ⟨n, d, e⟩ := h; ⟨n, d, by omega⟩
theorem Dg.ne {a w : Addr} {b : Nat} (h : Dg S a w b) : a ≠ w := let ⟨_, d, _⟩ := h; d.ne
theorem Dg.at {a w : Addr} {b : Nat} (h : Dg S a w b) : S a ≠ none := let ⟨_, d, _⟩ := h; let ⟨_, _, _, e, _⟩ := d.box; by rw [e]; exact fun z => nomatch z
theorem Dg.wt {a w : Addr} {b : Nat} (h : Dg S a w b) : S w ≠ none := let ⟨_, d, _⟩ := h; let ⟨_, e, _⟩ := d.wide; by rw [e]; exact fun z => nomatch z
theorem Dg.set {a w c : Addr} {b : Nat} {o : SO} (h : Dg S a w b) (n1 : c ≠ a) (n2 : c ≠ w) : Dg (S.set c o) a w b := by
  obtain ⟨n, d, e⟩ := h
  refine ⟨n, ⟨d.ne, ?_, ?_⟩, e⟩
  · obtain ⟨cs, r, t, e, x⟩ := d.box
    exact ⟨cs, r, t, by rw [set_off (Ne.symm n1)]; exact e, x⟩
  · obtain ⟨ws, e, x⟩ := d.wide
    exact ⟨ws, by rw [set_off (Ne.symm n2)]; exact e, x⟩
theorem Dg.del {a w c : Addr} {b : Nat} (h : Dg S a w b) (n1 : c ≠ a) (n2 : c ≠ w) : Dg (S.del c) a w b := by
  obtain ⟨n, d, e⟩ := h
  refine ⟨n, ⟨d.ne, ?_, ?_⟩, e⟩
  · obtain ⟨cs, r, t, e, x⟩ := d.box
    exact ⟨cs, r, t, by rw [Store.del_ne (Ne.symm n1)]; exact e, x⟩
  · obtain ⟨ws, e, x⟩ := d.wide
    exact ⟨ws, by rw [Store.del_ne (Ne.symm n2)]; exact e, x⟩
/-- all else is kept -/
def Kp (S S' : Store) (a w : Addr) : Prop := ∀ b o, b ≠ a → b ≠ w → S b = some o → S' b = some o
theorem Same.kp {S S' : Store} {a w : Addr} (h : Same S S' a w) : Kp S S' a w := fun b o n1 n2 e => by rw [h b n1 n2]; exact e
theorem Kp.refl (S : Store) (a w : Addr) : Kp S S a w := fun _ _ _ _ e => e
theorem Kp.trans {S S1 S2 : Store} {a w : Addr} (h : Kp S S1 a w) (k : Kp S1 S2 a w) : Kp S S2 a w := fun b o x y e => k b o x y (h b o x y e)
/-- a place that is free behind was free ahead -/
theorem Kp.free {S S' : Store} {a w c : Addr} {b : Nat} (h : Kp S S' a w) (d : Dg S' a w b) (e : S' c = none) : S c = none ∧ c ≠ a ∧ c ≠ w := by
  have n1 : c ≠ a := fun z => d.at (by rw [← z]; exact e)
  have n2 : c ≠ w := fun z => d.wt (by rw [← z]; exact e)
  refine ⟨?_, n1, n2⟩
  cases q : S c with
  | none => rfl
  | some o => rw [h c o n1 n2 q] at e; cases e
theorem Kp.set {S S' : Store} {a w c : Addr} {o : SO} (h : Kp S S' a w) (e : S c = none) : Kp S (S'.set c o) a w := fun b u n1 n2 eb => by
  have nc : b ≠ c := fun z => by rw [z, e] at eb; cases eb
  rw [set_off nc]
  exact h b u n1 n2 eb
theorem Kp.del {S S' : Store} {a w c : Addr} (h : Kp S S' a w) (e : S c = none) : Kp S (S'.del c) a w := fun b u n1 n2 eb => by
  have nc : b ≠ c := fun z => by rw [z, e] at eb; cases eb
  rw [Store.del_ne nc]
  exact h b u n1 n2 eb
theorem take_g {a w : Addr} {b : Nat} {many : Int} (h : Dg S a w (b + 1)) (hm : 0 < many) (hm2 : many < 1073741824) (q : ∀ r S', 0 ≤ r → r < many → Dg S' a w b → Kp S S' a w → Q (.int r) S') : r_law_take A [.ref a, .int many] S Q E := by
  obtain ⟨n, d, e⟩ := h
  exact take_ok d (by omega) hm hm2 fun r S' r0 r1 d' s => q r S' r0 r1 ⟨n + 1, d', by omega⟩ s.kp
theorem pick_g {a w : Addr} {b : Nat} {xs : List D} (h : Dg S a w (b + 1)) (h0 : xs ≠ []) (h1 : xs.length < 1073741824) (q : ∀ x S', x ∈ xs → Dg S' a w b → Kp S S' a w → Q x S') : r_law_pick A [.ref a, .lst xs] S Q E := by
  obtain ⟨n, d, e⟩ := h
  exact pick_ok d (by omega) h0 h1 fun x S' hx d' s => q x S' hx ⟨n + 1, d', by omega⟩ s.kp
theorem begun_g {ns : List Int} {b : Nat} (hb : b < 2 ^ 40) (hl : ns.length ≤ 64) (q : ∀ a w S', Dg S' a w b → Kp S S' a w → Q (.ref a) S') : r_law_begun A [.kls (ns.map .int)] S Q E :=
  begun_ok hl fun a w S' d s ha hw => q a w S' ⟨0, d, by omega⟩ s.kp
end K01

set_option Elab.async false
set_option linter.all false
set_option maxRecDepth 100000
set_option maxHeartbeats 4100000
/-! what the mirrors compute: texts by their signs -/
namespace K01
open PySem PySem.Spec PyProof.Rows L2 MP
variable {A : Ad} {S : Store} {Q : Post} {E : XPost}
def tx (l : List Nat) : Str := ⟨l.toArray⟩
theorem tx_cps (l : List Nat) : (tx l).cps.toList = l := by unfold tx; simp
theorem tx_len (l : List Nat) : (tx l).length = l.length := by show l.toArray.size = _; simp
theorem tx_of (x : Str) : x = tx x.cps.toList := by
  obtain ⟨c⟩ := x
  unfold tx
  simp
theorem tx_inj {l m : List Nat} (h : tx l = tx m) : l = m := by rw [← tx_cps l, ← tx_cps m, h]
theorem tx_eq (l m : List Nat) : (tx l == tx m) = decide (l = m) := by
  show decide (tx l = tx m) = _
  apply decide_eq_decide.mpr
  exact ⟨tx_inj, fun h => by rw [h]⟩
theorem at_kn {α : Type} {xs : List α} {k : Nat} {x : α} (h : xs[k]? = some x) : atI xs (k : Nat) = some x := by
  have hk : k < xs.length := (List.getElem?_eq_some_iff.mp h).1
  unfold atI ixN
  rw [if_pos (by omega), if_pos (by omega)]
  exact h
theorem ix_x {l : List Nat} {k : Nat} {c : Nat} (h : l[k]? = some c) (hl : l.length ≤ 1000) (q : Q (.str ⟨#[c]⟩) S) : gIx (.str (tx l)) (.int k) S Q := by
  have hk : k < l.length := (List.getElem?_eq_some_iff.mp h).1
  show (tx l).length ≤ sizeLine ∧ match atI (tx l).cps.toList k with
      | some c => Q (.str ⟨#[c]⟩) S
      | none => False
  have e : atI (tx l).cps.toList (k : Nat) = some c := by
    rw [tx_cps]
    exact at_kn h
  rw [e]
  exact ⟨by rw [tx_len]; exact le_line1 hl, q⟩
theorem sl_x {mk : MkT} {l : List Nat} {i j : Nat} (hij : i ≤ j) (hl : l.length ≤ 1000) (q : Q (.str (tx ((l.drop i).take (j - i)))) S) : gSl mk (.str (tx l)) (some (i : Int)) (some (j : Int)) S Q := by
  refine gSl_s (by rw [tx_len]; exact le_line1 hl) ?_
  have e : cutS (tx l) (some (i : Int)) (some (j : Int)) = tx ((l.drop i).take (j - i)) := by
    unfold cutS
    rw [HT.sIx_nat, HT.sIx_nat, tx_len, tx_cps]
    show tx _ = _
    congr 1
    by_cases h : i ≤ l.length
    · rw [Nat.min_eq_left h]
      by_cases h2 : j ≤ l.length
      · rw [Nat.min_eq_left h2]
      · rw [Nat.min_eq_right (by omega), List.take_of_length_le (by rw [List.length_drop]; omega), List.take_of_length_le (by rw [List.length_drop]; omega)]
    · rw [Nat.min_eq_right (by omega), Nat.min_eq_right (by omega), List.drop_of_length_le (Nat.le_refl _), List.drop_of_length_le (i := i) (by omega)]
      simp
  rw [e]
  exact q
theorem sl_to {mk : MkT} {l : List Nat} {j : Nat} (hl : l.length ≤ 1000) (q : Q (.str (tx (l.take j))) S) : gSl mk (.str (tx l)) none (some (j : Int)) S Q := by
  refine gSl_s (by rw [tx_len]; exact le_line1 hl) ?_
  have e : cutS (tx l) none (some (j : Int)) = tx (l.take j) := by
    unfold cutS
    rw [HT.sIx_nat, tx_len, tx_cps]
    show tx _ = _
    congr 1
    show (l.drop 0).take (min j l.length - 0) = _
    rw [List.drop_zero, Nat.sub_zero]
    by_cases h2 : j ≤ l.length
    · rw [Nat.min_eq_left h2]
    · rw [Nat.min_eq_right (by omega), List.take_of_length_le (Nat.le_refl _), List.take_of_length_le (by omega)]
  rw [e]
  exact q
theorem sl_from {mk : MkT} {l : List Nat} {i : Nat} (hl : l.length ≤ 1000) (q : Q (.str (tx (l.drop i))) S) : gSl mk (.str (tx l)) (some (i : Int)) none S Q := by
  refine gSl_s (by rw [tx_len]; exact le_line1 hl) ?_
  have e : cutS (tx l) (some (i : Int)) none = tx (l.drop i) := by
    unfold cutS
    rw [HT.sIx_nat, tx_len, tx_cps]
    show tx _ = _
    congr 1
    show (l.drop (min i l.length)).take (l.length - min i l.length) = _
    by_cases h : i ≤ l.length
    · rw [Nat.min_eq_left h, List.take_of_length_le (by rw [List.length_drop]; omega)]
    · rw [Nat.min_eq_right (by omega), List.drop_of_length_le (Nat.le_refl _), List.drop_of_length_le (i := i) (by omega)]
      simp
  rw [e]
  exact q
theorem len_x {l : List Nat} (hl : l.length ≤ 1000) (q : Q (.int l.length) S) : gLen [.str (tx l)] S Q := by
  refine gLen_s (by rw [tx_len]; exact le_line1 hl) ?_
  rw [tx_len]
  exact q
theorem chars_x (l : List Nat) : MP.signs (tx l) = l.map fun c => D.str ⟨#[c]⟩ := by rw [signs_enc, tx_cps]
/-! kinds of signs -/
def big26 (c : Nat) : Bool := decide (65 ≤ c) && decide (c ≤ 90)
def fig10 (c : Nat) : Bool := decide (48 ≤ c) && decide (c ≤ 57)
def inner (c : Nat) : Bool := small26 c || (big26 c || (fig10 c || decide (c = 95)))
def plainS (c : Nat) : Bool := decide (32 ≤ c) && decide (c ≤ 126)
def strOf (d : D) : Str := match d with
  | .str x => x
  | _ => ""
theorem in_all {z : Str} {f : Nat → Bool} (h1 : ∀ c < 128, decide (c ∈ z.cps.toList) = f c) (h2 : ∀ c ∈ z.cps.toList, c < 128) (h3 : ∀ c, 128 ≤ c → f c = false) (c : Nat) : decide (c ∈ z.cps.toList) = f c := by
  by_cases h : c < 128
  · exact h1 c h
  · rw [h3 c (by omega)]
    exact decide_eq_false fun z => h (h2 c z)
theorem inner_hi (c : Nat) (h : 128 ≤ c) : inner c = false := by
  unfold inner small26 big26 fig10
  simp
  omega
theorem fig_hi (c : Nat) (h : 128 ≤ c) : fig10 c = false := by
  unfold fig10
  simp
  omega
theorem inner_mem (c : Nat) : decide (c ∈ (strOf c_INNER).cps.toList) = inner c := in_all (by decide +kernel) (by decide +kernel) inner_hi c
theorem fig_mem (c : Nat) : decide (c ∈ (strOf c_FIGURES).cps.toList) = fig10 c := in_all (by decide +kernel) (by decide +kernel) fig_hi c
theorem fig_mem2 (c : Nat) : decide (c ∈ (Str.ofString "0123456789").cps.toList) = fig10 c := in_all (by decide +kernel) (by decide +kernel) fig_hi c
theorem in_INNER {neg : Bool} {c : Nat} (q : Q (.bl (if neg then !inner c else inner c)) S) : gInC neg (.str ⟨#[c]⟩) c_INNER S Q := by
  refine inC_sign (z := strOf c_INNER) ?_
  rw [inner_mem]
  exact q
theorem in_FIG {neg : Bool} {c : Nat} (q : Q (.bl (if neg then !fig10 c else fig10 c)) S) : gInC neg (.str ⟨#[c]⟩) c_FIGURES S Q := by
  refine inC_sign (z := strOf c_FIGURES) ?_
  rw [fig_mem]
  exact q
theorem in_FIG2 {neg : Bool} {c : Nat} (q : Q (.bl (if neg then !fig10 c else fig10 c)) S) : gInC neg (.str ⟨#[c]⟩) (.str "0123456789") S Q := by
  refine inC_sign ?_
  rw [fig_mem2]
  exact q
theorem lt1 (a c : Nat) : (!decide ([c] < [a])) = decide (a ≤ c) := by
  rw [← decide_not]
  apply decide_eq_decide.mpr
  simp only [List.cons_lt_cons_iff]
  simp
/-- a ≤ x ≤ b, by one sign -/
theorem between {f : ET} {ρ : MP.Env} {a b c : Nat} {x y : Str} (hx : x.cps.toList = [a]) (hy : y.cps.toList = [b]) (hf : ∀ (Q : Post) (E : XPost), Q (.str ⟨#[c]⟩) S → f ρ S Q E) (q : Q (.bl (decide (a ≤ c) && decide (c ≤ b))) S) :
    chn (gOrd (fun i j => decide (i ≤ j)) (fun i j => !decide (j < i))) (gOrd (fun i j => decide (i ≤ j)) (fun i j => !decide (j < i))) (evC (.str x)) f (evC (.str y)) ρ S Q E := by
  refine chn_i (evC_i (hf _ _ ?_))
  refine gLe_str ?_
  rw [hx]
  show onBl (.bl (!decide ([c] < [a]))) _
  rw [lt1]
  refine onBl_i (ite_cc (fun f1 => ?_) fun f1 => ?_)
  · refine evC_i ?_
    refine gLe_str ?_
    rw [hy]
    show Q (.bl (!decide ([b] < [c]))) S
    rw [lt1]
    rw [f1, Bool.true_and] at q
    exact q
  · rw [f1, Bool.false_and] at q
    exact q
theorem between_v {ρ : MP.Env} {i a b c : Nat} {x y : Str} (hx : x.cps.toList = [a]) (hy : y.cps.toList = [b]) (e : lk ρ i = some (.str ⟨#[c]⟩)) (q : Q (.bl (decide (a ≤ c) && decide (c ≤ b))) S) :
    chn (gOrd (fun i j => decide (i ≤ j)) (fun i j => !decide (j < i))) (gOrd (fun i j => decide (i ≤ j)) (fun i j => !decide (j < i))) (evC (.str x)) (evV i) (evC (.str y)) ρ S Q E :=
  between hx hy (fun Q E k => evV_i e k) q
theorem cps_A : (Str.ofString "A").cps.toList = [65] := by decide +kernel
theorem cps_Z : (Str.ofString "Z").cps.toList = [90] := by decide +kernel
theorem cps_0 : (Str.ofString "0").cps.toList = [48] := by decide +kernel
theorem cps_9 : (Str.ofString "9").cps.toList = [57] := by decide +kernel
theorem cps_sp : (Str.ofString " ").cps.toList = [32] := by decide +kernel
theorem cps_ti : (Str.ofString "~").cps.toList = [126] := by decide +kernel
theorem sg_eq (c : Nat) (x : Str) (a : Nat) (h : x.cps.toList = [a]) : ((⟨#[c]⟩ : Str) == x) = decide (c = a) := by
  rw [tx_of x, h]
  show (tx [c] == tx [a]) = _
  rw [tx_eq]
  apply decide_eq_decide.mpr
  simp
theorem cps_us : (Str.ofString "_").cps.toList = [95] := by decide +kernel
theorem cps_nl : (Str.ofString "\n").cps.toList = [10] := by decide +kernel
theorem cps_mi : (Str.ofString "-").cps.toList = [45] := by decide +kernel
theorem law_inner_ok {c : Nat} (q : Q (.bl (inner c)) S) : r_law_inner A [.str ⟨#[c]⟩] S Q E := by
  unfold r_law_inner
  refine runF_i (dRet_i (eOr_i ?_))
  refine between_v cps_a cps_z rfl ?_
  refine onT_bl (ite_cc (fun e1 => ?_) fun e1 => ?_)
  · have z : inner c = true := by unfold inner small26; rw [e1]; rfl
    rw [z] at q
    rw [e1]
    exact q
  refine eOr_i (between_v cps_A cps_Z rfl ?_)
  refine onT_bl (ite_cc (fun e2 => ?_) fun e2 => ?_)
  · have z : inner c = true := by unfold inner big26; rw [e2]; simp
    rw [z] at q
    rw [e2]
    exact q
  refine eOr_i (between_v cps_0 cps_9 rfl ?_)
  refine onT_bl (ite_cc (fun e3 => ?_) fun e3 => ?_)
  · have z : inner c = true := by unfold inner fig10; rw [e3]; simp
    rw [z] at q
    rw [e3]
    exact q
  refine bin_i (evV_i rfl (evC_i ?_))
  refine gEqE_s ?_
  rw [sg_eq c _ _ cps_us]
  have z : inner c = decide (c = 95) := by unfold inner small26 big26 fig10; rw [e1, e2, e3]; rfl
  rw [z] at q
  exact q
/-! is_text -/
def signOk (c : Nat) : Bool := decide (c = 10) || plainS c
def textOk (l : List Nat) : Bool := l.all signOk
theorem is_text_str {l : List Nat} (hl : l.length ≤ 1000) (q : Q (.bl (textOk l)) S) : r_is_text A [.str (tx l)] S Q E := by
  unfold r_is_text
  walk_at "mp_s"
  rw [chars_x]
  refine comp_map (fun c : Nat => D.str ⟨#[c]⟩) (fun c => !signOk c) (fun c => D.str ⟨#[c]⟩) l [] (fun c _ k hk => ?_) (fun c _ _ k hk => evV_i rfl hk) ?_ ?_
  · refine bAnd_i (bB_i (bin_i (evV_i rfl (evC_i (gNeE_s (onBl_i ?_))))))
    rw [sg_eq c _ _ cps_nl]
    refine ite_cc (fun e1 => ?_) fun e1 => ?_
    · refine bNot_i (bB_i (between_v cps_sp cps_ti rfl (onBl_i ?_)))
      have e2 : decide (c = 10) = false := by simpa using e1
      have z : signOk c = plainS c := by unfold signOk; rw [e2]; rfl
      rw [z] at hk
      exact hk
    · have e2 : decide (c = 10) = true := by simpa using e1
      have z : signOk c = true := by unfold signOk; rw [e2]; rfl
      rw [z] at hk
      exact hk
  · exact le_line1 (by simpa using hl)
  walk_at "mp_s"
  refine gEqE_nil rfl ?_
  rw [List.nil_append, List.isEmpty_map, all_empty]
  exact q
def isText : D → Bool
  | .str x => textOk x.cps.toList
  | _ => false
theorem is_text_ok {n : Nat} {d : D} (h : okD n d) (q : Q (.bl (isText d)) S) : r_is_text A [d] S Q E := by
  have hv := h.val
  cases d with
  | str x =>
    rw [tx_of x]
    refine is_text_str (by have := h.str; simpa [Str.length] using this) ?_
    exact q
  | _ => first | exact hv.elim | (unfold r_is_text; walk_at "mp_s"; exact q)
end K01

set_option Elab.async false
set_option linter.all false
set_option maxRecDepth 100000
set_option maxHeartbeats 4100000
/-! what the mirrors compute: the size of a word -/
namespace K01
open PySem PySem.Spec PyProof.Rows L2 MP
variable {A : Ad} {S : Store} {Q : Post} {E : XPost}
theorem whN_i {t : EB} {b : MP.ST} {n : Nat} {ρ : MP.Env} {N : DEnds} (q : t ρ S (fun c S1 => if c = true then b ρ S1 { N with nx := fun ρ2 S2 => whN t b n ρ2 S2 N, ct := fun ρ2 S2 => whN t b n ρ2 S2 N, bk := N.nx } else N.nx ρ S1) (fun x S' => N.ex x ρ S')) : whN t b (n + 1) ρ S N := q
theorem ix_i {l : List Nat} {i : Int} {k c : Nat} (e : i = k) (h : l[k]? = some c) (hl : l.length ≤ 1000) (q : Q (.str ⟨#[c]⟩) S) : gIx (.str (tx l)) (.int i) S Q := by subst e; exact ix_x h hl q
theorem sl_i {mk : MkT} {l m : List Nat} {i j : Int} {a b : Nat} (e1 : i = a) (e2 : j = b) (hab : a ≤ b) (hl : l.length ≤ 1000) (em : (l.drop a).take (b - a) = m) (q : Q (.str (tx m)) S) : gSl mk (.str (tx l)) (some i) (some j) S Q := by
  subst e1 e2 em
  exact sl_x hab hl q
theorem at_drop {l r : List Nat} {i c : Nat} (h : l.drop i = c :: r) : i < l.length ∧ l[i]? = some c ∧ l.drop (i + 1) = r := by
  refine ⟨?_, ?_, ?_⟩
  · refine Classical.byContradiction fun z => ?_
    rw [List.drop_of_length_le (by omega)] at h
    cases h
  · have e := List.getElem?_drop (xs := l) (i := i) (j := 0)
    rw [h] at e
    simpa using e.symm
  · have e := List.drop_drop (i := 1) (j := i) (l := l)
    rw [h] at e
    simpa [Nat.add_comm] using e.symm
theorem drop_get {l : List Nat} {i : Nat} (h : i < l.length) : ∃ c r, l.drop i = c :: r := by
  cases e : l.drop i with
  | nil =>
    have := congrArg List.length e
    rw [List.length_drop] at this
    simp at this
    omega
  | cons c r => exact ⟨c, r, rfl⟩
def ifg : List Nat → Bool
  | d :: _ => fig10 d
  | [] => false
def neg1 : List Nat → Bool
  | c :: r => decide (c = 45) && ifg r
  | [] => false
theorem neg1_c (c : Nat) (r : List Nat) : neg1 (c :: r) = (decide (c = 45) && ifg r) := rfl
def run (l : List Nat) : Nat := (l.takeWhile inner).length
def two (l : List Nat) : Bool := decide (l.take 2 = [60, 61]) || decide (l.take 2 = [61, 61])
def size : List Nat → Nat
  | [] => 0
  | c :: r => if (neg1 (c :: r) || inner c) = true then 1 + run r else if two (c :: r) = true then 2 else 1
theorem size_c (c : Nat) (r : List Nat) : size (c :: r) = if (neg1 (c :: r) || inner c) = true then 1 + run r else if two (c :: r) = true then 2 else 1 := rfl
theorem run_in {c : Nat} {r : List Nat} (h : inner c = true) : run (c :: r) = 1 + run r := by
  unfold run
  rw [List.takeWhile_cons_of_pos h, List.length_cons]
  omega
theorem run_out {c : Nat} {r : List Nat} (h : inner c = false) : run (c :: r) = 0 := by
  unfold run
  rw [List.takeWhile_cons_of_neg (by simp [h])]
  rfl
theorem fig_inner {c : Nat} (h : fig10 c = true) : inner c = true := by unfold inner; rw [h]; simp
theorem run_fig {r : List Nat} (h : ifg r = true) : 0 < run r := by
  cases r with
  | nil => cases h
  | cons d t => rw [run_in (fig_inner h)]; omega
theorem empty_eq (m : List Nat) : (tx m == (Str.ofString "")) = m.isEmpty := by
  have e : Str.ofString "" = tx [] := by decide +kernel
  rw [e, tx_eq]
  cases m <;> simp
theorem neg_ok {l r : List Nat} {i c : Nat} {x2 x3 : Option D} (h : l.drop i = c :: r) (hl : l.length ≤ 1000) (q : Q (.bl (neg1 (c :: r))) S) :
    eAnd (bin gEqE (bin gIx (evV 0) (evV 1)) (evC (.str "-"))) (eAnd (bin gNeE (evSl (gSl mkF) (evV 0) (oPart (bin (gAddT mkF) (evV 1) (evC (.int 1)))) (oPart (bin (gAddT mkF) (evV 1) (evC (.int 2))))) (evC (.str ""))) (bin (gInC false) (bin gIx (evV 0) (bin (gAddT mkF) (evV 1) (evC (.int 1)))) (evC c_FIGURES))) [some (.str (tx l)), some (.int i), x2, x3] S Q E := by
  obtain ⟨hi, h0, h1⟩ := at_drop h
  walk_at "mp_s"
  refine ix_i rfl h0 hl ?_
  walk_at "mp_s"
  rw [sg_eq c _ _ cps_mi]
  refine ite_cc (fun f1 => ?_) fun f1 => ?_
  · walk_at "mp_s"
    refine sl_i (a := i + 1) (b := i + 2) (m := r.take 1) (by omega) (by omega) (by omega) hl (by rw [h1, show i + 2 - (i + 1) = 1 by omega]) ?_
    walk_at "mp_s"
    rw [empty_eq]
    cases r with
    | nil =>
      refine ite_f rfl ?_
      rw [neg1_c, f1] at q
      exact q
    | cons d t =>
      refine ite_t rfl ?_
      obtain ⟨_, h2, _⟩ := at_drop h1
      walk_at "mp_s"
      refine ix_i (k := i + 1) (by omega) h2 hl ?_
      walk_at "mp_s"
      refine in_FIG ?_
      rw [neg1_c, f1, Bool.true_and] at q
      exact q
  · rw [neg1_c, f1, Bool.false_and] at q
    rw [f1]
    exact q
theorem size_loop {l : List Nat} (hl : l.length ≤ 1000) {x1 x3 : Option D} {N : DEnds} : ∀ (m e : Nat), l.length - e ≤ m → N.nx [some (.str (tx l)), x1, some (.int ((e + run (l.drop e) : Nat) : Int)), x3] S →
    whN (bAnd (bB (bin (gOrd (fun i j => decide (i < j)) (fun i j => decide (i < j))) (evV 2) (evB gLen (aCons (evV 0) (aNil))))) (bB (bin (gInC false) (bin gIx (evV 0) (evV 2)) (evC c_INNER)))) (dAug 2 (evC (.int 1))) (m + 1) [some (.str (tx l)), x1, some (.int (e : Nat)), x3] S N := by
  intro m
  induction m with
  | zero =>
    intro e hm q
    refine whN_i ?_
    walk_at "mp_s"
    refine len_x hl ?_
    walk_at "mp_s"
    refine ite_f (decide_eq_false (by omega)) ?_
    rw [List.drop_of_length_le (by omega)] at q
    exact q
  | succ m ih =>
    intro e hm q
    refine whN_i ?_
    walk_at "mp_s"
    refine len_x hl ?_
    walk_at "mp_s"
    refine ite_cc (fun e1 => ?_) fun e1 => ?_
    · have hlt : e < l.length := by have := of_decide_eq_true e1; omega
      obtain ⟨d, t, hd⟩ := drop_get hlt
      obtain ⟨_, h0, h1⟩ := at_drop hd
      refine bB_i (bin_i (bin_i (evV_i rfl (evV_i rfl (ix_i rfl h0 hl (evC_i (in_INNER ?_)))))))
      show onBl (.bl (inner d)) _
      refine onBl_i (ite_cc (fun e2 => ?_) fun e2 => ?_)
      · walk_at "mp_s"
        refine ih (e + 1) (by omega) ?_
        rw [hd, run_in e2] at q
        rw [h1, show e + 1 + run t = e + (1 + run t) by omega]
        exact q
      · rw [hd, run_out e2] at q
        exact q
    · have hge : l.length ≤ e := by have := of_decide_eq_false e1; omega
      rw [List.drop_of_length_le hge] at q
      refine MP.ite_ff ?_
      exact q
theorem two_in (m : List Nat) : inD (.str (tx (m.take 2))) [.str "<=", .str "=="] = two m := by
  have e1 : Str.ofString "<=" = tx [60, 61] := by decide +kernel
  have e2 : Str.ofString "==" = tx [61, 61] := by decide +kernel
  show (Str.ofString "<=" == tx (m.take 2) || (Str.ofString "==" == tx (m.take 2) || false)) = _
  rw [e1, e2, tx_eq, tx_eq, Bool.or_false]
  unfold two
  congr 1 <;> exact decide_eq_decide.mpr eq_comm
theorem word_size_ok {l r : List Nat} {i c : Nat} (h : l.drop i = c :: r) (hl : l.length ≤ 1000) (q : Q (.int (size (c :: r))) S) : r_word_size A [.str (tx l), .int i] S Q E := by
  obtain ⟨hi, h0, h1⟩ := at_drop h
  unfold r_word_size
  refine runF_i (dSeq_i (dSet_i (bin_i (evV_i rfl (evB_i (aCons_i ?_))))))
  refine neg_ok h hl ?_
  walk_at "mp_s"
  have ke : ((i : Int) + (if neg1 (c :: r) = true then 1 else 0)) = ((i + (if neg1 (c :: r) = true then 1 else 0) : Nat) : Int) := by split <;> simp
  rw [ke]
  refine ⟨l.length + 1, size_loop hl l.length _ (by omega) ?_⟩
  walk_at "mp_s"
  have fin : ∀ (b : Nat) (R : Nat), size (c :: r) = b + R → b + R = b + R := fun _ _ _ => rfl
  cases hn : neg1 (c :: r) with
  | true =>
    have hr : 0 < run r := run_fig (by unfold neg1 at hn; simp at hn; exact hn.2)
    have z : size (c :: r) = 1 + run r := by rw [size_c, hn]; rfl
    rw [z] at q
    rw [if_pos rfl, h1]
    refine ite_t (decide_eq_true (by omega)) ?_
    walk_at "mp_s"
    rw [show (((i + 1 + run r : Nat) : Int) - i) = ((1 + run r : Nat) : Int) by omega]
    exact q
  | false =>
    rw [show (i + if false = true then 1 else 0) = i by simp, h]
    cases hc : inner c with
    | true =>
      have z : size (c :: r) = 1 + run r := by rw [size_c, hn, hc]; rfl
      rw [z] at q
      rw [run_in hc]
      refine ite_t (decide_eq_true (by omega)) ?_
      walk_at "mp_s"
      rw [show (((i + (1 + run r) : Nat) : Int) - i) = ((1 + run r : Nat) : Int) by omega]
      exact q
    | false =>
      rw [run_out hc]
      refine ite_f (decide_eq_false (by omega)) ?_
      walk_at "mp_s"
      refine sl_i (a := i) (b := i + 2) (m := (c :: r).take 2) rfl (by omega) (by omega) hl (by rw [h, show i + 2 - i = 2 by omega]) ?_
      walk_at "mp_s"
      refine inC_tup rfl (by decide) ?_
      rw [two_in]
      show onBl (.bl (two (c :: r))) _
      refine onBl_i ?_
      have z : size (c :: r) = if two (c :: r) = true then 2 else 1 := by rw [size_c, hn, hc]; rfl
      rw [z] at q
      refine ite_cc (fun e2 => ?_) fun e2 => ?_
      · rw [if_pos e2] at q
        exact q
      · rw [if_neg (by rw [e2]; decide)] at q
        exact q
/-! the law's own -/
theorem long_loop {l : List Nat} (hl : l.length ≤ 1000) {x1 : Option D} {N : DEnds} : ∀ (m e : Nat), l.length - e ≤ m → N.nx [some (.str (tx l)), x1, some (.int ((e + run (l.drop e) : Nat) : Int)), some (.bl true)] S →
    whN (bAnd (bV (evV 3)) (bAnd (bB (bin (gOrd (fun i j => decide (i < j)) (fun i j => decide (i < j))) (evV 2) (evB gLen (aCons (evV 0) (aNil))))) (bV (evCall (r_law_inner A) (aCons (bin gIx (evV 0) (evV 2)) (aNil)))))) (dSet 2 (bin (gAddT mkF) (evV 2) (evC (.int 1)))) (m + 1) [some (.str (tx l)), x1, some (.int (e : Nat)), some (.bl true)] S N := by
  intro m
  induction m with
  | zero =>
    intro e hm q
    refine whN_i ?_
    walk_at "mp_s"
    refine len_x hl ?_
    walk_at "mp_s"
    refine ite_f (decide_eq_false (by omega)) ?_
    rw [List.drop_of_length_le (by omega)] at q
    refine MP.ite_ff ?_
    exact q
  | succ m ih =>
    intro e hm q
    refine whN_i ?_
    walk_at "mp_s"
    refine len_x hl ?_
    walk_at "mp_s"
    refine ite_cc (fun e1 => ?_) fun e1 => ?_
    · have hlt : e < l.length := by have := of_decide_eq_true e1; omega
      obtain ⟨d, t, hd⟩ := drop_get hlt
      obtain ⟨_, h0, h1⟩ := at_drop hd
      walk_at "mp_s"
      refine ix_i rfl h0 hl ?_
      walk_at "mp_s"
      refine law_inner_ok ?_
      walk_at "mp_s"
      refine ite_cc (fun e2 => ?_) fun e2 => ?_
      · walk_at "mp_s"
        refine ih (e + 1) (by omega) ?_
        rw [hd, run_in e2] at q
        rw [h1, show e + 1 + run t = e + (1 + run t) by omega]
        exact q
      · rw [hd, run_out e2] at q
        exact q
    · have hge : l.length ≤ e := by have := of_decide_eq_false e1; omega
      rw [List.drop_of_length_le hge] at q
      refine MP.ite_ff ?_
      exact q
theorem size_le : ∀ (l : List Nat), l ≠ [] → 1 ≤ size l
  | [], h => absurd rfl h
  | c :: r, _ => by
    rw [size_c]
    split
    · omega
    · split <;> omega
theorem law_word_ok {l r : List Nat} {i c : Nat} (h : l.drop i = c :: r) (hl : l.length ≤ 1000) (q : Q (.str (tx ((c :: r).take (size (c :: r))))) S) : r_law_word_at A [.str (tx l), .int i] S Q E := by
  obtain ⟨hi, h0, h1⟩ := at_drop h
  unfold r_law_word_at
  walk_at "mp_s"
  refine ix_i rfl h0 hl ?_
  walk_at "mp_s"
  refine law_inner_ok ?_
  have rest : ∀ b : Bool, b = (neg1 (c :: r) || inner c) → (fun (d : D) (S' : Store) => dSeq (dWhile (bAnd (bV (evV 3)) (bAnd (bB (bin (gOrd (fun i j => decide (i < j)) (fun i j => decide (i < j))) (evV 2) (evB gLen (aCons (evV 0) (aNil))))) (bV (evCall (r_law_inner A) (aCons (bin gIx (evV 0) (evV 2)) (aNil)))))) (dSet 2 (bin (gAddT mkF) (evV 2) (evC (.int 1))))) (dRet (eIf (bAnd (bNot (bV (evV 3))) (bB (bin (gInC false) (evSl (gSl mkF) (evV 0) (oPart (evV 1)) (oPart (bin (gAddT mkF) (evV 1) (evC (.int 2))))) (evLst mkF (aCons (evC (.str "<=")) (aCons (evC (.str "==")) (aNil))))))) (evSl (gSl mkF) (evV 0) (oPart (evV 1)) (oPart (bin (gAddT mkF) (evV 1) (evC (.int 2))))) (evSl (gSl mkF) (evV 0) (oPart (evV 1)) (oPart (evV 2))))) [some (.str (tx l)), some (.int i), some (.int ((i : Int) + 1)), some d] S' { nx := fun _ S' => Q .non S', rt := Q, ex := fun x _ S' => E x S' }) (.bl b) S := by
    intro b hb
    cases b with
    | true =>
      refine dSeq_i ⟨l.length + 1, ?_⟩
      refine long_loop hl l.length (i + 1) (by omega) ?_
      rw [h1]
      walk_at "mp_s"
      refine sl_i (a := i) (b := i + 1 + run r) (m := (c :: r).take (1 + run r)) rfl rfl (by omega) hl (by rw [h, show i + 1 + run r - i = 1 + run r by omega]) ?_
      have z : size (c :: r) = 1 + run r := by rw [size_c, ← hb]; rfl
      rw [z] at q
      exact q
    | false =>
      refine dSeq_i ⟨1, whN_i ?_⟩
      walk_at "mp_s"
      refine sl_i (a := i) (b := i + 2) (m := (c :: r).take 2) rfl (by omega) (by omega) hl (by rw [h, show i + 2 - i = 2 by omega]) ?_
      walk_at "mp_s"
      refine inC_lst rfl (by decide) ?_
      rw [two_in]
      show onBl (.bl (two (c :: r))) _
      refine onBl_i ?_
      have z : size (c :: r) = if two (c :: r) = true then 2 else 1 := by rw [size_c, ← hb]; rfl
      rw [z] at q
      refine ite_cc (fun e2 => ?_) fun e2 => ?_
      · walk_at "mp_s"
        rw [if_pos e2] at q
        exact sl_i (a := i) (b := i + 2) (m := (c :: r).take 2) rfl (by omega) (by omega) hl (by rw [h, show i + 2 - i = 2 by omega]) q
      · walk_at "mp_s"
        rw [if_neg (by rw [e2]; decide)] at q
        exact sl_i (a := i) (b := i + 1) (m := (c :: r).take 1) rfl (by omega) (by omega) hl (by rw [h, show i + 1 - i = 1 by omega]) q
  refine onT_bl (ite_cc (fun e1 => ?_) fun e1 => ?_)
  · rw [e1]
    exact rest true (by rw [e1, Bool.or_true])
  walk_at "mp_s"
  refine ix_i rfl h0 hl ?_
  walk_at "mp_s"
  rw [sg_eq c _ _ cps_mi]
  refine ite_cc (fun e2 => ?_) fun e2 => ?_
  · have sl : ∀ (Q : Post) (E : XPost), Q (.str (tx (r.take 1))) S → evSl (gSl mkF) (evV 0) (oPart (bin (gAddT mkF) (evV 1) (evC (.int 1)))) (oPart (bin (gAddT mkF) (evV 1) (evC (.int 2)))) [some (.str (tx l)), some (.int i), some (.int ((i : Int) + 1)), none] S Q E := fun Q E k => by
      walk_at "mp_s"
      exact sl_i (a := i + 1) (b := i + 2) (m := r.take 1) (by omega) (by omega) (by omega) hl (by rw [h1, show i + 2 - (i + 1) = 1 by omega]) k
    cases r with
    | nil =>
      refine chn_i (evC_i (sl _ _ ?_))
      refine gLe_str ?_
      refine onBl_i (ite_f (by decide +kernel) ?_)
      refine rest false ?_
      rw [e1, Bool.or_false, neg1_c, e2]
      rfl
    | cons d t =>
      refine between cps_0 cps_9 sl ?_
      refine rest _ ?_
      rw [e1, Bool.or_false, neg1_c, e2]
      rfl
  · rw [e2]
    refine rest false ?_
    rw [e1, Bool.or_false, neg1_c, e2]
    rfl
end K01

set_option Elab.async false
set_option linter.all false
set_option maxRecDepth 100000
set_option maxHeartbeats 4100000
/-! what the mirrors compute: texts cut into words -/
namespace K01
open PySem PySem.Spec PyProof.Rows L2 MP
variable {A : Ad} {S : Store} {Q : Post} {E : XPost}
theorem run_le : ∀ l : List Nat, run l ≤ l.length := fun l => by
  unfold run
  exact (List.takeWhile_prefix inner).length_le
theorem size_len : ∀ l : List Nat, size l ≤ l.length
  | [] => Nat.le_refl _
  | c :: r => by
    rw [size_c]
    have := run_le r
    split
    · simp; omega
    · split
      · rename_i h
        unfold two at h
        cases r with
        | nil => simp at h
        | cons => simp
      · simp
def words : Nat → List Nat → Int → Int → List D
  | 0, _, _, _ => []
  | _, [], _, _ => []
  | n + 1, c :: r, ln, col => if decide (c = 10) = true then words n r (ln + 1) 1 else if decide (c = 32) = true then words n r ln (col + 1) else
    .tup [.str (tx ((c :: r).take (size (c :: r)))), .int ln, .int col] :: words n ((c :: r).drop (size (c :: r))) ln (col + size (c :: r))
theorem words_c (n c : Nat) (r : List Nat) (ln col : Int) : words (n + 1) (c :: r) ln col = if decide (c = 10) = true then words n r (ln + 1) 1 else if decide (c = 32) = true then words n r ln (col + 1) else
    .tup [.str (tx ((c :: r).take (size (c :: r)))), .int ln, .int col] :: words n ((c :: r).drop (size (c :: r))) ln (col + size (c :: r)) := rfl
theorem words_nil (n : Nat) (ln col : Int) : words n [] ln col = [] := by cases n <;> rfl
theorem append_ok {p : Addr} {y : D} {xs : List D} (h : S p = some (.lst xs)) (hl : xs.length < sizeLine) (q : Q .non (S.set p (.lst (xs ++ [y])))) : mAppend (.ref p) [y] S Q := by
  unfold mAppend onL
  simp only [h]
  exact ⟨hl, q⟩
/-- nothing but what stands at p is another thing -/
def But (S S' : Store) (p : Addr) : Prop := ∀ b, b ≠ p → S' b = S b
theorem But.set {S S' : Store} {p : Addr} {o : SO} (h : But (S.set p o) S' p) : But S S' p := fun b n => by rw [h b n, set_off n]
theorem blank_mem (c : Nat) : decide (c ∈ (Str.ofString " \n").cps.toList) = (decide (c = 32) || decide (c = 10)) := by
  have e : (Str.ofString " \n").cps.toList = [32, 10] := by decide +kernel
  rw [e]
  simp
theorem blank_in (c : Nat) : inD (.str ⟨#[c]⟩) [.str " ", .str "\n"] = (decide (c = 32) || decide (c = 10)) := by
  show (Str.ofString " " == (⟨#[c]⟩ : Str) || (Str.ofString "\n" == (⟨#[c]⟩ : Str) || false)) = _
  have e0 : ∀ a : Nat, (tx [a] == (⟨#[c]⟩ : Str)) = decide (c = a) := fun a => by
    show (tx [a] == tx [c]) = _
    rw [tx_eq]
    apply decide_eq_decide.mpr
    simp [eq_comm]
  have e1 : (Str.ofString " " == (⟨#[c]⟩ : Str)) = decide (c = 32) := by rw [show Str.ofString " " = tx [32] by decide +kernel, e0]
  have e2 : (Str.ofString "\n" == (⟨#[c]⟩ : Str)) = decide (c = 10) := by rw [show Str.ofString "\n" = tx [10] by decide +kernel, e0]
  rw [e1, e2, Bool.or_false]
def cutT : EB := bB (bin (gOrd (fun i j => decide (i < j)) (fun i j => decide (i < j))) (evV 2) (evB gLen (aCons (evV 0) (aNil))))
def cutB (A : Ad) : MP.ST := dIf (bB (bin (gInC false) (bin gIx (evV 0) (evV 2)) (evC (.str " \n")))) (dSeq (dAug 2 (evC (.int 1))) (dIf (bB (bin gEqE (bin gIx (evV 0) (bin gSub (evV 2) (evC (.int 1)))) (evC (.str "\n")))) (dPar 3 4 (aCons (bin (gAddT mkF) (evV 3) (evC (.int 1))) (aCons (evV 2) (aNil)))) (dNext))) (dSeq (dSet 5 (evCall (r_word_size A) (aCons (evV 0) (aCons (evV 2) (aNil))))) (dSeq (dExpr (evM "list" mAppend (evV 1) (aCons (evTup (aCons (evSl (gSl mkF) (evV 0) (oPart (evV 2)) (oPart (bin (gAddT mkF) (evV 2) (evV 5)))) (aCons (evV 3) (aCons (bin (gAddT mkF) (bin gSub (evV 2) (evV 4)) (evC (.int 1))) (aNil))))) (aNil)))) (dAug 2 (evV 5))))
theorem cut_eq : r_cut A = runF 6 (dSeq (dAsg (evTup (aCons (evLst mkM (aNil)) (aCons (evC (.int 0)) (aCons (evC (.int 1)) (aCons (evC (.int 0)) (aNil)))))) (dgTup 4 (dgCons (dgName 1) (dgCons (dgName 2) (dgCons (dgName 3) (dgCons (dgName 4) (dgNil))))))) (dSeq (dWhile cutT (cutB A)) (dRet (evV 1)))) := rfl
theorem cut_loop {l : List Nat} {p : Addr} (hl : l.length ≤ 1000) {N : DEnds} : ∀ (n i : Nat) (ln bg col : Int) (fs : List D) (S : Store) (x5 : Option D), l.length - i ≤ n → i ≤ l.length → fs.length ≤ i → col = (i : Int) - bg + 1 → S p = some (.lst fs) →
    (∀ (S' : Store) (y2 y3 y4 y5 : Option D), S' p = some (.lst (fs ++ words n (l.drop i) ln col)) → But S S' p → N.nx [some (.str (tx l)), some (.ref p), y2, y3, y4, y5] S') →
    whN cutT (cutB A) (n + 1) [some (.str (tx l)), some (.ref p), some (.int i), some (.int ln), some (.int bg), x5] S N := by
  intro n
  induction n with
  | zero =>
    intro i ln bg col fs S x5 hm hi hf hc hp q
    refine whN_i ?_
    unfold cutT
    walk_at "mp_s"
    refine len_x hl ?_
    walk_at "mp_s"
    refine ite_f (decide_eq_false (by omega)) ?_
    refine q S _ _ _ _ ?_ fun _ _ => rfl
    rw [List.drop_of_length_le (by omega), words_nil, List.append_nil]
    exact hp
  | succ n ih =>
    intro i ln bg col fs S x5 hm hi hf hc hp q
    refine whN_i ?_
    unfold cutT
    walk_at "mp_s"
    refine len_x hl ?_
    walk_at "mp_s"
    refine ite_cc (fun e1 => ?_) fun e1 => ?_
    · have hlt : i < l.length := by have := of_decide_eq_true e1; omega
      obtain ⟨c, r, hd⟩ := drop_get hlt
      obtain ⟨_, h0, h1⟩ := at_drop hd
      unfold cutB
      refine dIf_i (bB_i (bin_i (bin_i (evV_i rfl (evV_i rfl (ix_i rfl h0 hl (evC_i (inC_sign ?_))))))))
      rw [blank_mem]
      show onBl (.bl (decide (c = 32) || decide (c = 10))) _
      refine onBl_i (ite_cc (fun e2 => ?_) fun e2 => ?_)
      · walk_at "mp_s"
        refine ix_i (k := i) (by omega) h0 hl ?_
        walk_at "mp_s"
        rw [sg_eq c _ _ cps_nl]
        refine ite_cc (fun e3 => ?_) fun e3 => ?_
        · walk_at "mp_s"
          refine ih (i + 1) (ln + 1) ((i : Int) + 1) 1 fs S _ (by omega) (by omega) (by omega) (by omega) hp fun S' y2 y3 y4 y5 hp' hb => q S' y2 y3 y4 y5 ?_ hb
          rw [hd, words_c, if_pos e3]
          rw [h1] at hp'
          exact hp'
        · walk_at "mp_s"
          have e4 : decide (c = 32) = true := by rw [e3, Bool.or_false] at e2; exact e2
          refine ih (i + 1) ln bg (col + 1) fs S _ (by omega) (by omega) (by omega) (by omega) hp fun S' y2 y3 y4 y5 hp' hb => q S' y2 y3 y4 y5 ?_ hb
          rw [hd, words_c, if_neg (by rw [e3]; decide), if_pos e4]
          rw [h1] at hp'
          exact hp'
      · have e3 : decide (c = 32) = false ∧ decide (c = 10) = false := by simpa using e2
        walk_at "mp_s"
        refine word_size_ok hd hl ?_
        walk_at "mp_s"
        refine evM_i ?_
        walk_at "mp_s"
        refine ⟨by rw [vw_l hp]; rfl, ?_⟩
        walk_at "mp_s"
        have hs := size_len (c :: r)
        have hs1 := size_le (c :: r) (fun z => nomatch z)
        have hr : (c :: r).length = l.length - i := by rw [← hd, List.length_drop]
        refine sl_i (a := i) (b := i + size (c :: r)) (m := (c :: r).take (size (c :: r))) rfl (by omega) (by omega) hl (by rw [hd, show i + size (c :: r) - i = size (c :: r) by omega]) ?_
        walk_at "mp_s"
        refine append_ok hp (Nat.lt_of_le_of_lt (m := 1000) (by omega) (by decide)) ?_
        walk_at "mp_s"
        refine ih (i + size (c :: r)) ln bg (col + size (c :: r)) (fs ++ [.tup [.str (tx ((c :: r).take (size (c :: r)))), .int ln, .int ((i : Int) - bg + 1)]]) _ _ (by omega) (by omega) (by rw [List.length_append, List.length_singleton]; omega) (by omega) set_at fun S' y2 y3 y4 y5 hp' hb => q S' y2 y3 y4 y5 ?_ (But.set hb)
        have ed : l.drop (i + size (c :: r)) = (c :: r).drop (size (c :: r)) := by rw [← hd, List.drop_drop]
        rw [hd, words_c, if_neg (by rw [e3.2]; decide), if_neg (by rw [e3.1]; decide)]
        rw [ed, List.append_assoc, ← hc] at hp'
        exact hp'
    · have hge : l.length ≤ i := by have := of_decide_eq_false e1; omega
      refine q S _ _ _ _ ?_ fun _ _ => rfl
      rw [List.drop_of_length_le hge, words_nil, List.append_nil]
      exact hp
theorem cut_ok {l : List Nat} (hl : l.length ≤ 1000) (q : ∀ p S', S p = none → S' p = some (.lst (words l.length l 1 1)) → But S S' p → Q (.ref p) S') : r_cut A [.str (tx l)] S Q E := by
  rw [cut_eq]
  walk_at "mp_s"
  refine mkM_i fun p hp => ?_
  walk_at "mp_s"
  refine ⟨l.length + 1, ?_⟩
  refine cut_loop hl l.length 0 1 0 1 [] _ none (by omega) (by omega) (by simp) (by omega) set_at fun S' y2 y3 y4 y5 h hb => ?_
  walk_at "mp_s"
  exact q p S' hp (by simpa using h) (But.set hb)
def lawT_ (A : Ad) : EB := bB (bin (gOrd (fun i j => decide (i < j)) (fun i j => decide (i < j))) (evV 2) (evB gLen (aCons (evV 0) (aNil))))
def lawB_ (A : Ad) : MP.ST := dSeq (dSet 5 (evC (.int 1))) (dSeq (dIf (bB (bin (gInC true) (bin gIx (evV 0) (evV 2)) (evLst mkF (aCons (evC (.str " ")) (aCons (evC (.str "\n")) (aNil)))))) (dSeq (dExpr (evM "list" mAppend (evV 1) (aCons (evTup (aCons (evCall (r_law_word_at A) (aCons (evV 0) (aCons (evV 2) (aNil)))) (aCons (evV 3) (aCons (evV 4) (aNil))))) (aNil)))) (dSet 5 (evB gLen (aCons (bin gIx (bin gIx (evV 1) (una gNeg (evC (.int 1)))) (evC (.int 0))) (aNil))))) (dNext)) (dSeq (dPar 3 4 (aCons (bin (gAddT mkF) (evV 3) (evB gInt (aCons (bin gEqE (bin gIx (evV 0) (evV 2)) (evC (.str "\n"))) (aNil)))) (aCons (eIf (bB (bin gEqE (bin gIx (evV 0) (evV 2)) (evC (.str "\n")))) (evC (.int 1)) (bin (gAddT mkF) (evV 4) (evV 5))) (aNil)))) (dSet 2 (bin (gAddT mkF) (evV 2) (evV 5)))))
theorem law_cut_eq : r_law_cut A = runF 6 (dSeq (dAsg (evTup (aCons (evLst mkM (aNil)) (aCons (evC (.int 0)) (aCons (evC (.int 1)) (aCons (evC (.int 1)) (aNil)))))) (dgTup 4 (dgCons (dgName 1) (dgCons (dgName 2) (dgCons (dgName 3) (dgCons (dgName 4) (dgNil))))))) (dSeq (dWhile (lawT_ A) (lawB_ A)) (dRet (evV 1)))) := rfl
theorem ix_last {p : Addr} {y : D} {fs : List D} (h : S p = some (.lst (fs ++ [y]))) (q : Q y S) : gIx (.ref p) (.int (-1)) S Q := by
  have e : atI (fs ++ [y]) (-1) = some y := by
    unfold atI ixN
    rw [if_neg (by decide), if_pos (by simp; omega)]
    show (fs ++ [y])[(-1 + ((fs ++ [y]).length : Int)).toNat]? = some y
    rw [show (-1 + ((fs ++ [y]).length : Int)).toNat = fs.length by simp; omega]
    simp
  unfold gIx
  rw [vw_l h]
  show (match atI (fs ++ [y]) (-1) with
      | some d => Q d S
      | none => False)
  rw [e]
  exact q
theorem law_loop {l : List Nat} {p : Addr} (hl : l.length ≤ 1000) {N : DEnds} : ∀ (n i : Nat) (ln col : Int) (fs : List D) (S : Store) (x5 : Option D), l.length - i ≤ n → i ≤ l.length → fs.length ≤ i → S p = some (.lst fs) →
    (∀ (S' : Store) (y2 y3 y4 y5 : Option D), S' p = some (.lst (fs ++ words n (l.drop i) ln col)) → But S S' p → N.nx [some (.str (tx l)), some (.ref p), y2, y3, y4, y5] S') →
    whN (lawT_ A) (lawB_ A) (n + 1) [some (.str (tx l)), some (.ref p), some (.int i), some (.int ln), some (.int col), x5] S N := by
  intro n
  induction n with
  | zero =>
    intro i ln col fs S x5 hm hi hf hp q
    refine whN_i ?_
    unfold lawT_
    walk_at "mp_s"
    refine len_x hl ?_
    walk_at "mp_s"
    refine ite_f (decide_eq_false (by omega)) ?_
    refine q S _ _ _ _ ?_ fun _ _ => rfl
    rw [List.drop_of_length_le (by omega), words_nil, List.append_nil]
    exact hp
  | succ n ih =>
    intro i ln col fs S x5 hm hi hf hp q
    refine whN_i ?_
    unfold lawT_
    walk_at "mp_s"
    refine len_x hl ?_
    walk_at "mp_s"
    refine ite_cc (fun e1 => ?_) fun e1 => ?_
    · have hlt : i < l.length := by have := of_decide_eq_true e1; omega
      obtain ⟨c, r, hd⟩ := drop_get hlt
      obtain ⟨_, h0, h1⟩ := at_drop hd
      unfold lawB_
      walk_at "mp_s"
      refine ix_i rfl h0 hl ?_
      walk_at "mp_s"
      refine inC_lst rfl (by decide) ?_
      rw [blank_in]
      show onBl (.bl (!(decide (c = 32) || decide (c = 10)))) _
      refine onBl_i (ite_cc (fun e2 => ?_) fun e2 => ?_)
      · have e3 : decide (c = 32) = false ∧ decide (c = 10) = false := by simpa using e2
        walk_at "mp_s"
        refine evM_i ?_
        walk_at "mp_s"
        refine ⟨by rw [vw_l hp]; rfl, ?_⟩
        walk_at "mp_s"
        refine law_word_ok hd hl ?_
        walk_at "mp_s"
        refine append_ok hp (Nat.lt_of_le_of_lt (m := 1000) (by omega) (by decide)) ?_
        walk_at "mp_s"
        refine ix_last set_at ?_
        have hs := size_len (c :: r)
        have hs1 := size_le (c :: r) (fun z => nomatch z)
        have hr : (c :: r).length = l.length - i := by rw [← hd, List.length_drop]
        refine evC_i (gIx_t (at_kn (k := 0) rfl) ?_)
        walk_at "mp_s"
        refine len_x (by rw [List.length_take]; omega) ?_
        rw [List.length_take, Nat.min_eq_left hs]
        walk_at "mp_s"
        refine ix_i rfl h0 hl ?_
        walk_at "mp_s"
        refine ix_i rfl h0 hl ?_
        walk_at "mp_s"
        rw [sg_eq c _ _ cps_nl, e3.2]
        walk_at "mp_s"
        rw [show ln + (if false = true then (1 : Int) else 0) = ln by simp]
        refine ih (i + size (c :: r)) ln (col + size (c :: r)) (fs ++ [.tup [.str (tx ((c :: r).take (size (c :: r)))), .int ln, .int col]]) _ _ (by omega) (by omega) (by rw [List.length_append, List.length_singleton]; omega) set_at fun S' y2 y3 y4 y5 hp' hb => q S' y2 y3 y4 y5 ?_ (But.set hb)
        have ed : l.drop (i + size (c :: r)) = (c :: r).drop (size (c :: r)) := by rw [← hd, List.drop_drop]
        rw [hd, words_c, if_neg (by rw [e3.2]; decide), if_neg (by rw [e3.1]; decide)]
        rw [ed, List.append_assoc] at hp'
        exact hp'
      · walk_at "mp_s"
        refine ix_i rfl h0 hl ?_
        walk_at "mp_s"
        refine ix_i rfl h0 hl ?_
        walk_at "mp_s"
        rw [sg_eq c _ _ cps_nl]
        refine ite_cc (fun e3 => ?_) fun e3 => ?_
        · walk_at "mp_s"
          rw [e3, show (if true = true then (1 : Int) else 0) = 1 from rfl]
          refine ih (i + 1) (ln + 1) 1 fs S _ (by omega) (by omega) (by omega) hp fun S' y2 y3 y4 y5 hp' hb => q S' y2 y3 y4 y5 ?_ hb
          rw [hd, words_c, if_pos e3]
          rw [h1] at hp'
          exact hp'
        · walk_at "mp_s"
          rw [e3, show ln + (if false = true then (1 : Int) else 0) = ln by simp]
          have e4 : decide (c = 32) = true := by rw [e3, Bool.or_false] at e2; simpa using e2
          refine ih (i + 1) ln (col + 1) fs S _ (by omega) (by omega) (by omega) hp fun S' y2 y3 y4 y5 hp' hb => q S' y2 y3 y4 y5 ?_ hb
          rw [hd, words_c, if_neg (by rw [e3]; decide), if_pos e4]
          rw [h1] at hp'
          exact hp'
    · have hge : l.length ≤ i := by have := of_decide_eq_false e1; omega
      refine q S _ _ _ _ ?_ fun _ _ => rfl
      rw [List.drop_of_length_le hge, words_nil, List.append_nil]
      exact hp
theorem law_cut_ok {l : List Nat} (hl : l.length ≤ 1000) (q : ∀ p S', S p = none → S' p = some (.lst (words l.length l 1 1)) → But S S' p → Q (.ref p) S') : r_law_cut A [.str (tx l)] S Q E := by
  rw [law_cut_eq]
  walk_at "mp_s"
  refine mkM_i fun p hp => ?_
  walk_at "mp_s"
  refine ⟨l.length + 1, ?_⟩
  refine law_loop hl l.length 0 1 1 [] _ none (by omega) (by omega) (by simp) set_at fun S' y2 y3 y4 y5 h hb => ?_
  walk_at "mp_s"
  exact q p S' hp (by simpa using h) (But.set hb)
end K01

set_option Elab.async false
set_option linter.all false
set_option maxRecDepth 100000
set_option maxHeartbeats 4100000
/-! what the mirrors compute: the sort of a word -/
namespace K01
open PySem PySem.Spec PyProof.Rows L2 MP
variable {A : Ad} {S : Store} {Q : Post} {E : XPost}
def figs (l : List Nat) : List Nat := if decide (l.take 1 = [45]) = true then l.drop 1 else l
def figOk (f : List Nat) : Bool := (decide (1 ≤ f.length) && decide (f.length ≤ 3)) && f.all fig10
def first0 (f : List Nat) : Bool := decide (f.head? = some 48)
def numOk (l : List Nat) : Bool := figOk (figs l) && (decide (l = [48]) || !first0 (figs l))
theorem figs_len {l : List Nat} (hl : l.length ≤ 1000) : (figs l).length ≤ 1000 := by
  unfold figs
  split
  · rw [List.length_drop]; omega
  · exact hl
theorem mi_eq (l : List Nat) : (tx (l.take 1) == (Str.ofString "-")) = decide (l.take 1 = [45]) := by
  rw [show Str.ofString "-" = tx [45] by decide +kernel, tx_eq]
theorem zero_eq (l : List Nat) : (tx l == (Str.ofString "0")) = decide (l = [48]) := by
  rw [show Str.ofString "0" = tx [48] by decide +kernel, tx_eq]
theorem figs_comp {f : List Nat} {n : Nat} {ρ : MP.Env} {t : EB} {K : List D → Store → Prop} (hl : f.length ≤ 1000) (ht : ∀ c (k : Bool → Store → Prop), k (!fig10 c) S → t (st ρ n (some (.str ⟨#[c]⟩))) S k (fun _ _ => False)) (hn : ∀ d, lk (st ρ n (some d)) n = some d)
    (q : K (((f.filter fun c => !fig10 c).map fun c => D.str ⟨#[c]⟩)) S) : comp (dgName n) t (evV n) K (f.map fun c => D.str ⟨#[c]⟩) [] ρ S := by
  refine comp_map (fun c : Nat => D.str ⟨#[c]⟩) (fun c => !fig10 c) (fun c => D.str ⟨#[c]⟩) f [] (fun c _ k hk => ht c k hk) (fun c _ _ k hk => evV_i (hn _) hk) ?_ ?_
  · exact le_line1 (by simpa using hl)
  · rw [List.nil_append]; exact q
theorem first_ok {f : List Nat} (h : 1 ≤ f.length) (hl : f.length ≤ 1000) {Q : Post} (q : ∀ c r, f = c :: r → Q (.str ⟨#[c]⟩) S) : gIx (.str (tx f)) (.int 0) S Q := by
  cases f with
  | nil => simp at h
  | cons c r => exact ix_i (k := 0) rfl rfl hl (q c r rfl)
theorem first0_c (c : Nat) (r : List Nat) : first0 (c :: r) = decide (c = 48) := by
  unfold first0
  apply decide_eq_decide.mpr
  simp
theorem num_ok {l : List Nat} (hl : l.length ≤ 1000) (q : Q (.bl (numOk l)) S) : r_is_number_word A [.str (tx l)] S Q E := by
  have hf := figs_len hl
  unfold r_is_number_word
  walk_at "mp_s"
  refine sl_to (j := 1) hl ?_
  walk_at "mp_s"
  rw [mi_eq]
  have rest : ∀ f : List Nat, f = figs l → (fun (d : D) (S' : Store) => dSeq (dIf (bOr (bNot (bB (chn (gOrd (fun i j => decide (i ≤ j)) (fun i j => !decide (j < i))) (gOrd (fun i j => decide (i ≤ j)) (fun i j => !decide (j < i))) (evC (.int 1)) (evB gLen (aCons (evV 1) (aNil))) (evC (.int 3))))) (bB (bin gNeE (evComp mkF (iChars (evV 1)) (dgName 2) (bB (bin (gInC true) (evV 2) (evC c_FIGURES))) (evV 2) [2]) (evLst mkF (aNil))))) (dRet (evC (.bl false))) (dNext)) (dRet (eOr (bin gEqE (evV 0) (evC (.str "0"))) (bin gNeE (bin gIx (evV 1) (evC (.int 0))) (evC (.str "0"))))) [some (.str (tx l)), some d, none] S' { nx := fun _ S' => Q .non S', rt := Q, ex := fun x _ S' => E x S' }) (.str (tx f)) S := by
    intro f ef
    rw [← ef] at hf
    have q' : Q (.bl (figOk f && (decide (l = [48]) || !first0 f))) S := by rw [ef]; exact q
    show dSeq _ _ _ _ _
    walk_at "mp_s"
    refine len_x hf ?_
    walk_at "mp_s"
    refine ite_cc (fun e1 => ?_) fun e1 => ?_
    · have h1 : decide (1 ≤ f.length) = true := decide_eq_true (by have := of_decide_eq_true e1; omega)
      walk_at "mp_s"
      refine ite_cc (fun e2 => ?_) fun e2 => ?_
      · have h2 : decide (f.length ≤ 3) = false := decide_eq_false (by have := of_decide_eq_false (by simpa using e2 : decide ((f.length : Int) ≤ 3) = false); omega)
        have z : figOk f = false := by unfold figOk; rw [h2, Bool.and_false, Bool.false_and]
        rw [z, Bool.false_and] at q'
        walk_at "mp_s"
        exact q'
      · have h2 : decide (f.length ≤ 3) = true := decide_eq_true (by have := of_decide_eq_true (by simpa using e2 : decide ((f.length : Int) ≤ 3) = true); omega)
        walk_at "mp_s"
        rw [chars_x]
        refine figs_comp hf (fun c k hk => bB_i (bin_i (evV_i rfl (evC_i (in_FIG (onBl_i hk)))))) (fun _ => rfl) ?_
        walk_at "mp_s"
        refine gNeE_nil rfl ?_
        rw [List.isEmpty_map, all_empty]
        refine onBl_i (ite_cc (fun e3 => ?_) fun e3 => ?_)
        · have h3 : f.all fig10 = false := by simpa using e3
          have z : figOk f = false := by unfold figOk; rw [h3, Bool.and_false]
          rw [z, Bool.false_and] at q'
          walk_at "mp_s"
          exact q'
        · have h3 : f.all fig10 = true := by simpa using e3
          have z : figOk f = true := by unfold figOk; rw [h1, h2, h3]; rfl
          rw [z, Bool.true_and] at q'
          walk_at "mp_s"
          rw [zero_eq]
          refine ite_cc (fun e4 => ?_) fun e4 => ?_
          · rw [e4, Bool.true_or] at q'
            rw [e4]
            exact q'
          · rw [e4, Bool.false_or] at q'
            walk_at "mp_s"
            refine first_ok (of_decide_eq_true h1) hf fun c r ec => ?_
            walk_at "mp_s"
            rw [sg_eq c _ _ cps_0]
            rw [ec, first0_c] at q'
            exact q'
    · have h1 : decide (1 ≤ f.length) = false := decide_eq_false (by have := of_decide_eq_false e1; omega)
      have z : figOk f = false := by unfold figOk; rw [h1, Bool.false_and, Bool.false_and]
      rw [z, Bool.false_and] at q'
      walk_at "mp_s"
      exact q'
  refine ite_cc (fun e1 => ?_) fun e1 => ?_
  · walk_at "mp_s"
    refine sl_from (i := 1) hl ?_
    exact rest (l.drop 1) (by unfold figs; rw [if_pos e1])
  · exact evV_i rfl (rest l (by unfold figs; rw [if_neg (by rw [e1]; decide)]))
/-! sorts -/
def signD : List D := match c_SIGNS with
  | .tup ys => ys
  | _ => []
def isSign (x : Str) : Bool := inD (.str x) signD
def noText : List D := [.str "fork", .str "leaf"]
def isNo (x : Str) : Bool := inD (.str x) noText
def sortF (l : List Nat) : Str := if isNo (tx l) = true then "strange" else if (isKept (tx l) || isSign (tx l)) = true then tx l else if numOk l = true then "figures" else if nameOk (tx l) = true then "name" else "strange"
theorem tx_ok {l : List Nat} (hl : l.length ≤ 1000) : okD 1 (.str (tx l)) := by
  show (tx l).length ≤ 1000
  rw [tx_len]; exact hl
theorem sort_told_ok {l : List Nat} (hl : l.length ≤ 1000) (q : Q (.str (sortF l)) S) : r_sort_told A [.str (tx l)] S Q E := by
  unfold sortF at q
  unfold r_sort_told
  walk_at "mp_s"
  refine inC_tup rfl (by decide) ?_
  show onBl (.bl (isNo (tx l))) _
  refine onBl_i (ite_cc (fun e1 => ?_) fun e1 => ?_)
  · rw [if_pos e1] at q
    walk_at "mp_s"
    exact q
  rw [if_neg (by rw [e1]; decide)] at q
  walk_at "mp_s"
  refine inC_tup rfl (by decide) ?_
  show onBl (.bl (isKept (tx l))) _
  refine onBl_i (ite_cc (fun e2 => ?_) fun e2 => ?_)
  · rw [if_pos (by rw [e2]; rfl)] at q
    walk_at "mp_s"
    exact q
  walk_at "mp_s"
  refine inC_tup rfl (by decide) ?_
  show onBl (.bl (isSign (tx l))) _
  refine onBl_i (ite_cc (fun e3 => ?_) fun e3 => ?_)
  · rw [if_pos (by rw [e3, Bool.or_true])] at q
    walk_at "mp_s"
    exact q
  rw [if_neg (by rw [e2, e3]; decide)] at q
  walk_at "mp_s"
  refine num_ok hl ?_
  refine onT_bl (ite_cc (fun e4 => ?_) fun e4 => ?_)
  · rw [if_pos e4] at q
    walk_at "mp_s"
    exact q
  rw [if_neg (by rw [e4]; decide)] at q
  walk_at "mp_s"
  refine is_name_ok (tx_ok hl) ?_
  show onT (.bl (nameOk (tx l))) _ _
  refine onT_bl (ite_cc (fun e5 => ?_) fun e5 => ?_)
  · rw [if_pos e5] at q
    walk_at "mp_s"
    exact q
  rw [if_neg (by rw [e5]; decide)] at q
  walk_at "mp_s"
  exact q
theorem no_cases {x : Str} (h : isNo x = true) : x = "fork" ∨ x = "leaf" := by
  have h' : (Str.ofString "fork" == x || (Str.ofString "leaf" == x || false)) = true := h
  rw [Bool.or_false, Bool.or_eq_true] at h'
  rcases h' with h' | h'
  · exact .inl (eq_of_beq h').symm
  · exact .inr (eq_of_beq h').symm
theorem kept_split (x : Str) : isKept x = (inD (.str x) (law2.take 21) || isNo x) := by
  rw [← kept_same]
  show inD (.str x) (law2.take 21 ++ noText) = _
  unfold inD isNo inD
  rw [List.any_append]
theorem num_name {l : List Nat} (h : numOk l = true) : nameOk (tx l) = false := by
  cases hn : nameOk (tx l) with
  | false => rfl
  | true =>
    unfold nameOk at hn
    simp only [Bool.and_eq_true, tx_cps] at hn
    have ha := hn.2.2.2
    rw [List.all_eq_true] at ha
    unfold numOk figOk at h
    simp only [Bool.and_eq_true, decide_eq_true_eq] at h
    obtain ⟨⟨⟨h1, -⟩, h3⟩, -⟩ := h
    rw [List.all_eq_true] at h3
    have sub : ∀ c ∈ figs l, c ∈ l := fun c hc => by
      unfold figs at hc
      split at hc
      · exact List.mem_of_mem_drop hc
      · exact hc
    cases hf : figs l with
    | nil => rw [hf] at h1; simp at h1
    | cons c r =>
      have m1 : c ∈ figs l := by rw [hf]; exact List.mem_cons_self
      have a1 := ha c (sub c m1)
      have a2 := h3 c m1
      unfold small26 at a1
      unfold fig10 at a2
      simp only [Bool.and_eq_true, decide_eq_true_eq] at a1 a2
      omega
def sortL (l : List Nat) : Str := if (inD (.str (tx l)) (law2.take 21) || isSign (tx l)) = true then tx l else if nameOk (tx l) = true then "name" else if (decide (l = [48]) || (figOk (figs l) && !first0 (figs l))) = true then "figures" else "strange"
theorem figs0 : figs [48] = [48] := by decide
theorem num_alt (l : List Nat) : (decide (l = [48]) || (figOk (figs l) && !first0 (figs l))) = numOk l := by
  unfold numOk
  by_cases h : l = [48]
  · subst h
    decide +kernel
  · rw [decide_eq_false h, Bool.false_or, Bool.false_or]
theorem sort_same (l : List Nat) : sortL l = sortF l := by
  unfold sortL
  rw [num_alt]
  cases h : isNo (tx l) with
  | true =>
    unfold sortF
    rw [if_pos h]
    have hk : isKept (tx l) = true := by rw [kept_split, h, Bool.or_true]
    have hn : nameOk (tx l) = false := by unfold nameOk; rw [hk]; simp
    rcases no_cases h with e | e
    · have el : l = [102, 111, 114, 107] := tx_inj (e.trans (by decide +kernel))
      subst el
      decide +kernel
    · have el : l = [108, 101, 97, 102] := tx_inj (e.trans (by decide +kernel))
      subst el
      decide +kernel
  | false =>
    unfold sortF
    rw [kept_split, h, Bool.or_false, if_neg (fun z => nomatch z : ¬ false = true)]
    by_cases hk : (inD (.str (tx l)) (law2.take 21) || isSign (tx l)) = true
    · rw [if_pos hk, if_pos hk]
    rw [if_neg hk, if_neg hk]
    cases hn : numOk l <;> cases h5 : nameOk (tx l) <;> first | rfl | (rw [num_name hn] at h5; cases h5)
theorem law_sort_ok {l : List Nat} (hl : l.length ≤ 1000) (q : Q (.str (sortF l)) S) : r_law_sort A [.str (tx l)] S Q E := by
  have hf := figs_len hl
  rw [← sort_same] at q
  unfold sortL at q
  unfold r_law_sort
  walk_at "mp_s"
  refine law_kept_ok ?_
  refine inC_lst rfl (by decide) ?_
  show onBl (.bl (inD (.str (tx l)) (law2.take 21))) _
  refine onBl_i (ite_cc (fun e2 => ?_) fun e2 => ?_)
  · rw [if_pos (by rw [e2]; rfl)] at q
    walk_at "mp_s"
    exact q
  walk_at "mp_s"
  refine inC_lst rfl (by decide) ?_
  show onBl (.bl (isSign (tx l))) _
  refine onBl_i (ite_cc (fun e3 => ?_) fun e3 => ?_)
  · rw [if_pos (by rw [e3, Bool.or_true])] at q
    walk_at "mp_s"
    exact q
  rw [if_neg (by rw [e2, e3]; decide)] at q
  walk_at "mp_s"
  refine law_is_name_ok (tx_ok hl) ?_
  show onT (.bl (nameOk (tx l))) _ _
  refine onT_bl (ite_cc (fun e5 => ?_) fun e5 => ?_)
  · rw [if_pos e5] at q
    walk_at "mp_s"
    exact q
  rw [if_neg (by rw [e5]; decide)] at q
  walk_at "mp_s"
  refine sl_to (j := 1) hl ?_
  walk_at "mp_s"
  rw [mi_eq]
  have rest : ∀ f : List Nat, f = figs l → (fun (d : D) (S' : Store) => dSeq (dSet 2 (eAnd (chn (gOrd (fun i j => decide (i < j)) (fun i j => decide (i < j))) (gOrd (fun i j => decide (i < j)) (fun i j => decide (i < j))) (evC (.int 0)) (evB gLen (aCons (evV 1) (aNil))) (evC (.int 4))) (bin gEqE (evComp mkF (iChars (evV 1)) (dgName 3) (bB (bin (gInC true) (evV 3) (evC (.str "0123456789")))) (evV 3) [3]) (evLst mkF (aNil))))) (dRet (eIf (bOr (bB (bin gEqE (evV 0) (evC (.str "0")))) (bAnd (bV (evV 2)) (bB (bin gNeE (bin gIx (evV 1) (evC (.int 0))) (evC (.str "0")))))) (evC (.str "figures")) (evC (.str "strange")))) [some (.str (tx l)), some d, none, none] S' { nx := fun _ S' => Q .non S', rt := Q, ex := fun x _ S' => E x S' }) (.str (tx f)) S := by
    intro f ef
    rw [← ef] at hf q
    have fin : ∀ b : Bool, b = figOk f → dRet (eIf (bOr (bB (bin gEqE (evV 0) (evC (.str "0")))) (bAnd (bV (evV 2)) (bB (bin gNeE (bin gIx (evV 1) (evC (.int 0))) (evC (.str "0")))))) (evC (.str "figures")) (evC (.str "strange"))) [some (.str (tx l)), some (.str (tx f)), some (.bl b), none] S { nx := fun _ S' => Q .non S', rt := Q, ex := fun x _ S' => E x S' } := by
      intro b hb
      walk_at "mp_s"
      rw [zero_eq]
      refine ite_cc (fun e4 => ?_) fun e4 => ?_
      · rw [if_pos (by rw [e4]; rfl)] at q
        walk_at "mp_s"
        exact q
      rw [e4, Bool.false_or] at q
      walk_at "mp_s"
      refine ite_cc (fun e6 => ?_) fun e6 => ?_
      · walk_at "mp_s"
        have h1 : 1 ≤ f.length := by
          rw [hb] at e6
          unfold figOk at e6
          simp only [Bool.and_eq_true, decide_eq_true_eq] at e6
          exact e6.1.1
        refine first_ok h1 hf fun c r ec => ?_
        walk_at "mp_s"
        rw [sg_eq c _ _ cps_0]
        rw [← hb, e6, ec, first0_c, Bool.true_and] at q
        refine ite_cc (fun e7 => ?_) fun e7 => ?_
        · rw [if_pos e7] at q
          walk_at "mp_s"
          exact q
        · rw [if_neg (by rw [e7]; decide)] at q
          walk_at "mp_s"
          exact q
      · rw [← hb, e6, Bool.false_and, if_neg (by decide)] at q
        walk_at "mp_s"
        exact q
    show dSeq _ _ _ _ _
    walk_at "mp_s"
    refine len_x hf ?_
    walk_at "mp_s"
    refine ite_cc (fun e1 => ?_) fun e1 => ?_
    · have h1 : decide (1 ≤ f.length) = true := decide_eq_true (by have := of_decide_eq_true e1; omega)
      walk_at "mp_s"
      refine ite_cc (fun e6 => ?_) fun e6 => ?_
      · have h2 : decide (f.length ≤ 3) = true := decide_eq_true (by have := of_decide_eq_true e6; omega)
        walk_at "mp_s"
        rw [chars_x]
        refine figs_comp hf (fun c k hk => bB_i (bin_i (evV_i rfl (evC_i (in_FIG2 (onBl_i hk)))))) (fun _ => rfl) ?_
        walk_at "mp_s"
        refine gEqE_nil rfl ?_
        rw [List.isEmpty_map, all_empty]
        exact fin _ (by unfold figOk; rw [h1, h2]; rfl)
      · have h2 : decide (f.length ≤ 3) = false := decide_eq_false (by have := of_decide_eq_false e6; omega)
        rw [e6]
        exact fin _ (by unfold figOk; rw [h2, Bool.and_false, Bool.false_and])
    · have h1 : decide (1 ≤ f.length) = false := decide_eq_false (by have := of_decide_eq_false e1; omega)
      exact fin _ (by unfold figOk; rw [h1, Bool.false_and, Bool.false_and])
  refine ite_cc (fun e1 => ?_) fun e1 => ?_
  · walk_at "mp_s"
    refine sl_from (i := 1) hl ?_
    exact rest (l.drop 1) (by unfold figs; rw [if_pos e1])
  · exact evV_i rfl (rest l (by unfold figs; rw [if_neg (by rw [e1]; decide)]))
end K01

set_option Elab.async false
set_option linter.all false
set_option maxRecDepth 100000
set_option maxHeartbeats 4100000
/-! what the mirrors compute: single words, sort_of, words_of -/
namespace K01
open PySem PySem.Spec PyProof.Rows L2 MP
variable {A : Ad} {S : Store} {Q : Post} {E : XPost}
/-! data of a shape -/
def Pyd (b : Nat) (d : D) : Prop := ∃ p, toPy d = some p ∧ p.canLay0 = true ∧ p.depth ≤ b
theorem pyd_int {b : Nat} (i : Int) : Pyd b (.int i) := ⟨_, rfl, rfl, by simp [PyData.depth]⟩
theorem pyd_str {b : Nat} {x : Str} (h : PyData.strOk x = true) : Pyd b (.str x) := ⟨_, rfl, by simpa [PyData.canLay0] using h, by simp [PyData.depth]⟩
theorem pyds {b : Nat} : ∀ {xs : List D}, (∀ x ∈ xs, Pyd b x) → ∃ ps, toPys xs = some ps ∧ PyData.canLayAll0 ps = true ∧ PyData.depthAll ps ≤ b
  | [], _ => ⟨[], rfl, rfl, by simp [PyData.depthAll]⟩
  | x :: r, h => by
    obtain ⟨p, e1, e2, e3⟩ := h x List.mem_cons_self
    obtain ⟨ps, f1, f2, f3⟩ := pyds (xs := r) fun y hy => h y (List.mem_cons_of_mem _ hy)
    refine ⟨p :: ps, ?_, ?_, ?_⟩
    · unfold toPys; rw [e1, f1]; rfl
    · simp [PyData.canLayAll0, e2, f2]
    · simp only [PyData.depthAll]; omega
theorem pyd_tup {b : Nat} {xs : List D} (h : ∀ x ∈ xs, Pyd b x) : Pyd (b + 1) (.tup xs) := by
  obtain ⟨ps, f1, f2, f3⟩ := pyds h
  refine ⟨.tuple ps, ?_, ?_, ?_⟩
  · unfold toPy; rw [f1]; rfl
  · simpa [PyData.canLay0] using f2
  · simp only [PyData.depth]; omega
def lay (l : List Nat) : Prop := ∀ c ∈ l, c < 1114112
theorem lay_str {l : List Nat} (h : lay l) : PyData.strOk (tx l) = true := by
  unfold PyData.strOk
  rw [Array.all_eq_true']
  intro c hc
  have : c ∈ (tx l).cps.toList := by simpa using hc
  rw [tx_cps] at this
  exact decide_eq_true (h c this)
theorem text_lay {l : List Nat} (h : textOk l = true) : lay l := fun c hc => by
  unfold textOk at h
  rw [List.all_eq_true] at h
  have := h c hc
  unfold signOk plainS at this
  simp only [Bool.or_eq_true, Bool.and_eq_true, decide_eq_true_eq] at this
  omega
theorem text_app {l m : List Nat} (h1 : textOk l = true) (h2 : textOk m = true) : textOk (l ++ m) = true := by
  unfold textOk at *
  rw [List.all_append, h1, h2]
  rfl
theorem text_sub {l m : List Nat} (h : textOk l = true) (s : ∀ c ∈ m, c ∈ l) : textOk m = true := by
  unfold textOk at *
  rw [List.all_eq_true] at *
  exact fun c hc => h c (s c hc)
/-! the triples -/
def wt : Nat → List Nat → Int → Int → List (List Nat × Int × Int)
  | 0, _, _, _ => []
  | _, [], _, _ => []
  | n + 1, c :: r, ln, col => if decide (c = 10) = true then wt n r (ln + 1) 1 else if decide (c = 32) = true then wt n r ln (col + 1) else
    ((c :: r).take (size (c :: r)), ln, col) :: wt n ((c :: r).drop (size (c :: r))) ln (col + size (c :: r))
def encW (t : List Nat × Int × Int) : D := .tup [.str (tx t.1), .int t.2.1, .int t.2.2]
theorem words_wt : ∀ (n : Nat) (l : List Nat) (ln col : Int), words n l ln col = (wt n l ln col).map encW
  | 0, _, _, _ => rfl
  | n + 1, [], _, _ => rfl
  | n + 1, c :: r, ln, col => by
    rw [words_c]
    show _ = List.map encW (if decide (c = 10) = true then wt n r (ln + 1) 1 else if decide (c = 32) = true then wt n r ln (col + 1) else
      ((c :: r).take (size (c :: r)), ln, col) :: wt n ((c :: r).drop (size (c :: r))) ln (col + size (c :: r)))
    split
    · exact words_wt n r _ _
    · split
      · exact words_wt n r _ _
      · rw [List.map_cons, words_wt]
        rfl
/-- a word of a text, cut as told -/
structure Wd1 (w : List Nat) : Prop where
  ne : ∃ c r, w = c :: r ∧ decide (c = 10) = false ∧ decide (c = 32) = false
  sz : size w = w.length
theorem tw_ifg (r : List Nat) : ifg (r.takeWhile inner) = ifg r := by
  cases r with
  | nil => rfl
  | cons d t =>
    cases h : inner d with
    | true => rw [List.takeWhile_cons_of_pos h]; rfl
    | false =>
      rw [List.takeWhile_cons_of_neg (by simp [h])]
      cases h2 : fig10 d with
      | true => rw [fig_inner h2] at h; cases h
      | false => exact h2.symm
theorem tw_run (r : List Nat) : run (r.takeWhile inner) = run r := by
  unfold run
  congr 1
  induction r with
  | nil => rfl
  | cons d t ih =>
    cases h : inner d with
    | true => rw [List.takeWhile_cons_of_pos h, List.takeWhile_cons_of_pos h, ih]
    | false => rw [List.takeWhile_cons_of_neg (by simp [h])]; rfl
theorem take_run (r : List Nat) : r.take (run r) = r.takeWhile inner := by
  unfold run
  exact (List.prefix_iff_eq_take.mp (List.takeWhile_prefix inner)).symm
theorem size_take (c : Nat) (r : List Nat) : size ((c :: r).take (size (c :: r))) = size (c :: r) := by
  cases hb : (neg1 (c :: r) || inner c) with
  | true =>
    have z : size (c :: r) = 1 + run r := by rw [size_c, hb]; rfl
    rw [z, Nat.add_comm 1, List.take_succ_cons, take_run, size_c]
    have h2 : (neg1 (c :: r.takeWhile inner) || inner c) = true := by
      rw [neg1_c, tw_ifg, ← neg1_c]
      exact hb
    rw [h2, tw_run]
    simp only [if_true]
    omega
  | false =>
    have z : size (c :: r) = if two (c :: r) = true then 2 else 1 := by rw [size_c, hb]; rfl
    cases h2 : two (c :: r) with
    | true =>
      rw [h2, if_pos rfl] at z
      rw [z]
      unfold two at h2
      rw [Bool.or_eq_true] at h2
      rcases h2 with h2 | h2
      · rw [of_decide_eq_true h2]; decide
      · rw [of_decide_eq_true h2]; decide
    | false =>
      rw [h2, if_neg (by decide)] at z
      rw [z]
      show size [c] = 1
      rw [Bool.or_eq_false_iff] at hb
      rw [size_c, neg1_c, hb.2]
      show (if (decide (c = 45) && false || false) = true then _ else _) = _
      rw [Bool.and_false]
      show (if two [c] = true then 2 else 1) = 1
      rw [if_neg]
      unfold two
      simp
theorem wt_words : ∀ (n : Nat) (l : List Nat) (ln col : Int), ∀ t ∈ wt n l ln col, Wd1 t.1 ∧ ∀ c ∈ t.1, c ∈ l
  | 0, _, _, _, _, h => nomatch h
  | n + 1, [], _, _, _, h => nomatch h
  | n + 1, c :: r, ln, col, t, h => by
    have h' : t ∈ (if decide (c = 10) = true then wt n r (ln + 1) 1 else if decide (c = 32) = true then wt n r ln (col + 1) else
      ((c :: r).take (size (c :: r)), ln, col) :: wt n ((c :: r).drop (size (c :: r))) ln (col + size (c :: r))) := h
    split at h'
    · have z := wt_words n r _ _ t h'
      exact ⟨z.1, fun c hc => List.mem_cons_of_mem _ (z.2 c hc)⟩
    · rename_i e1
      split at h'
      · have z := wt_words n r _ _ t h'
        exact ⟨z.1, fun c hc => List.mem_cons_of_mem _ (z.2 c hc)⟩
      · rename_i e2
        rcases List.mem_cons.mp h' with e | h'
        · subst e
          refine ⟨⟨?_, ?_⟩, fun c hc => List.mem_of_mem_take hc⟩
          · have hs1 := size_le (c :: r) (fun z => nomatch z)
            obtain ⟨k, hk⟩ : ∃ k, size (c :: r) = k + 1 := ⟨size (c :: r) - 1, by omega⟩
            refine ⟨c, r.take k, ?_, by simpa using e1, by simpa using e2⟩
            rw [hk, List.take_succ_cons]
          · show size ((c :: r).take (size (c :: r))) = _
            rw [size_take, List.length_take, Nat.min_eq_left (size_len _)]
        · have z := wt_words n _ _ _ t h'
          exact ⟨z.1, fun c hc => List.mem_of_mem_drop (z.2 c hc)⟩
theorem wt_len : ∀ (n : Nat) (l : List Nat) (ln col : Int), (wt n l ln col).length ≤ n
  | 0, _, _, _ => Nat.le_refl _
  | n + 1, [], _, _ => Nat.zero_le _
  | n + 1, c :: r, ln, col => by
    show List.length (if decide (c = 10) = true then wt n r (ln + 1) 1 else if decide (c = 32) = true then wt n r ln (col + 1) else
      ((c :: r).take (size (c :: r)), ln, col) :: wt n ((c :: r).drop (size (c :: r))) ln (col + size (c :: r))) ≤ _
    split
    · exact Nat.le_succ_of_le (wt_len n r _ _)
    · split
      · exact Nat.le_succ_of_le (wt_len n r _ _)
      · rw [List.length_cons]
        exact Nat.succ_le_succ (wt_len n _ _ _)
theorem wd1_words {w : List Nat} (h : Wd1 w) : words w.length w 1 1 = [.tup [.str (tx w), .int 1, .int 1]] := by
  obtain ⟨c, r, e, h1, h2⟩ := h.ne
  subst e
  show words (r.length + 1) (c :: r) 1 1 = _
  rw [words_c, if_neg (by rw [h1]; decide), if_neg (by rw [h2]; decide), h.sz, List.take_length, List.drop_length, words_nil]
/-! lists of such values compared -/
theorem eqv_list (ps qs : List PyData) : PyData.eqv (.list ps) (.list qs) = PyData.eqvAll ps qs := by rw [PyData.eqv]
theorem shaped_list {ps : List PyData} (h1 : PyData.canLayAll0 ps = true) (h2 : PyData.depthAll ps ≤ 60) : SeqAt.shaped (.list ps) = true := by
  unfold SeqAt.shaped
  have e : (PyData.list ps).depth ≤ 64 := by simp only [PyData.depth]; omega
  rw [Bool.and_eq_true]
  exact ⟨by simpa [PyData.canLay0] using h1, decide_eq_true e⟩
theorem toPy_lst {xs : List D} {ps : List PyData} (h : toPys xs = some ps) : toPy (.lst xs) = some (.list ps) := by
  unfold toPy; rw [h]; rfl
theorem eqG_ref {f : Bool → Bool} {p : Addr} {y : D} {ds es : List D} {ps qs : List PyData} (h1 : S p = some (.lst ds)) (h2 : vw y S = .lst es) (p1 : toPys ds = some ps) (p2 : toPys es = some qs) (l1 : PyData.canLayAll0 ps = true) (l2 : PyData.canLayAll0 qs = true)
    (d1 : PyData.depthAll ps ≤ 60) (d2 : PyData.depthAll qs ≤ 60) (q : Q (.bl (f (PyData.eqvAll ps qs))) S) : eqG f (.ref p) y S Q := by
  show (match toPy (vw (.ref p) S), toPy (vw y S) with
    | some d, some e => SeqAt.shaped d = true ∧ SeqAt.shaped e = true ∧ Q (.bl (f (PyData.eqv d e))) S
    | _, _ => False)
  rw [vw_l h1, h2, toPy_lst p1, toPy_lst p2]
  exact ⟨shaped_list l1 d1, shaped_list l2 d2, by rw [eqv_list]; exact q⟩
theorem enc_pyd {t : List Nat × Int × Int} (h : lay t.1) : Pyd 10 (encW t) := by
  refine (pyd_tup (b := 9) fun x hx => ?_)
  simp only [List.mem_cons, List.not_mem_nil, or_false] at hx
  rcases hx with rfl | rfl | rfl
  · exact pyd_str (lay_str h)
  · exact pyd_int _
  · exact pyd_int _
theorem words_pyd {n : Nat} {l : List Nat} {ln col : Int} (h : lay l) : ∃ ps, toPys (words n l ln col) = some ps ∧ PyData.canLayAll0 ps = true ∧ PyData.depthAll ps ≤ 10 := by
  rw [words_wt]
  refine pyds fun x hx => ?_
  obtain ⟨t, ht, rfl⟩ := List.mem_map.mp hx
  exact enc_pyd fun c hc => h c ((wt_words n l ln col t ht).2 c hc)
def oneP (l : List Nat) : List PyData := [.tuple [.str (tx l), .int 1, .int 1]]
def oneW (l : List Nat) : Bool := match toPys (words l.length l 1 1) with
  | some ps => PyData.eqvAll ps (oneP l)
  | none => false
theorem one_py (l : List Nat) : toPys [.tup [.str (tx l), .int 1, .int 1]] = some (oneP l) := rfl
theorem one_lay {l : List Nat} (h : lay l) : PyData.canLayAll0 (oneP l) = true := by
  have := lay_str h
  simp [oneP, PyData.canLayAll0, PyData.canLay0, this]
theorem one_dep (l : List Nat) : PyData.depthAll (oneP l) ≤ 60 := by
  simp [oneP, PyData.depthAll, PyData.depth]
theorem wd1_one {w : List Nat} (h : Wd1 w) (hl : lay w) : oneW w = true := by
  unfold oneW
  rw [wd1_words h, one_py]
  exact SeqAt.eqvAll_refl _ (one_lay hl)
/-- all that stood stands -/
def Ext (S S' : Store) : Prop := ∀ b o, S b = some o → S' b = some o
theorem Ext.refl (S : Store) : Ext S S := fun _ _ e => e
theorem Ext.trans {S S1 S2 : Store} (h : Ext S S1) (k : Ext S1 S2) : Ext S S2 := fun b o e => k b o (h b o e)
theorem But.ext {S S' : Store} {p : Addr} (h : But S S' p) (n : S p = none) : Ext S S' := fun b o e => by
  rw [h b (fun z => by subst z; rw [n] at e; cases e)]
  exact e
theorem Ext.kp {S S' : Store} {a w : Addr} (h : Ext S S') : Kp S S' a w := fun b o _ _ e => h b o e
theorem Ext.dg {S S' : Store} {a w : Addr} {b : Nat} (k : Ext S S') (h : Dg S a w b) : Dg S' a w b := by
  obtain ⟨n, d, e⟩ := h
  refine ⟨n, ⟨d.ne, ?_, ?_⟩, e⟩
  · obtain ⟨cs, r, t, e, x⟩ := d.box
    exact ⟨cs, r, t, k _ _ e, x⟩
  · obtain ⟨ws, e, x⟩ := d.wide
    exact ⟨ws, k _ _ e, x⟩
theorem cut_x {l : List Nat} (hl : l.length ≤ 1000) (q : ∀ p S', S' p = some (.lst (words l.length l 1 1)) → Ext S S' → Q (.ref p) S') : r_cut A [.str (tx l)] S Q E :=
  cut_ok hl fun p S' n h b => q p S' h (b.ext n)
theorem law_cut_x {l : List Nat} (hl : l.length ≤ 1000) (q : ∀ p S', S' p = some (.lst (words l.length l 1 1)) → Ext S S' → Q (.ref p) S') : r_law_cut A [.str (tx l)] S Q E :=
  law_cut_ok hl fun p S' n h b => q p S' h (b.ext n)
theorem one_ne {p : Addr} {l : List Nat} (h : lay l) (hp : S p = some (.lst (words l.length l 1 1))) (q : Q (.bl (!oneW l)) S) : gNeE (.ref p) (.lst [.tup [.str (tx l), .int 1, .int 1]]) S Q := by
  obtain ⟨ps, p1, l1, d1⟩ := words_pyd (n := l.length) (ln := 1) (col := 1) h
  refine .inl (eqG_ref hp rfl p1 (one_py l) l1 (one_lay h) (by omega) (one_dep l) ?_)
  unfold oneW at q
  rw [p1] at q
  exact q
theorem one_eq {p : Addr} {l : List Nat} (h : lay l) (hp : S p = some (.lst (words l.length l 1 1))) (q : Q (.bl (oneW l)) S) : gEqE (.ref p) (.lst [.tup [.str (tx l), .int 1, .int 1]]) S Q := by
  obtain ⟨ps, p1, l1, d1⟩ := words_pyd (n := l.length) (ln := 1) (col := 1) h
  refine .inl (eqG_ref hp rfl p1 (one_py l) l1 (one_lay h) (by omega) (one_dep l) ?_)
  unfold oneW at q
  rw [p1] at q
  exact q
theorem same_ne {p : Addr} {y : D} {n : Nat} {l : List Nat} {ln col : Int} (h : lay l) (hp : S p = some (.lst (words n l ln col))) (hy : vw y S = .lst (words n l ln col)) (q : Q (.bl false) S) : gNeE (.ref p) y S Q := by
  obtain ⟨ps, p1, l1, d1⟩ := words_pyd (n := n) (ln := ln) (col := col) h
  refine .inl (eqG_ref hp hy p1 p1 l1 l1 (by omega) (by omega) ?_)
  rw [SeqAt.eqvAll_refl _ l1]
  exact q
/-! sort_of -/
theorem sort_of_str {l : List Nat} (hl : l.length ≤ 1000) (ht : textOk l = true) (q : oneW l = true → ∀ S', Ext S S' → Q (.str (sortF l)) S') (qe : oneW l = false → ∀ S', Ext S S' → E { cls := .ref (A.cls 2) } S') : r_sort_of A [.str (tx l)] S Q E := by
  unfold r_sort_of
  walk_at "mp_s"
  refine is_text_str hl ?_
  rw [ht]
  walk_at "mp_s"
  refine cut_x hl fun p S' hp hx => ?_
  walk_at "mp_s"
  refine one_ne (text_lay ht) hp ?_
  refine onBl_i (ite_cc (fun e1 => ?_) fun e1 => ?_)
  · walk_at "mp_s"
    exact qe (by simpa using e1) S' hx
  · walk_at "mp_s"
    exact sort_told_ok hl (q (by simpa using e1) S' hx)
theorem sort_of_odd {d : D} (hd : okD 2 d) (hs : isStr d = false) (qe : E { cls := .ref (A.cls 2) } S) : r_sort_of A [d] S Q E := by
  unfold r_sort_of
  walk_at "mp_s"
  refine is_text_ok hd ?_
  have z : isText d = false := by cases d <;> first | rfl | cases hs
  rw [z]
  walk_at "mp_s"
  exact qe
def badX (A : Ad) : Exn := { cls := .ref (A.cls 1), ks := ["wanted", "column", "line"], xs := [.non, .non, .non] }
theorem words_of_str {l : List Nat} (hl : l.length ≤ 1000) (ht : textOk l = true) (q : ∀ p S', S' p = some (.lst (words l.length l 1 1)) → Ext S S' → Q (.ref p) S') : r_words_of A [.str (tx l)] S Q E := by
  unfold r_words_of
  walk_at "mp_s"
  refine is_text_str hl ?_
  rw [ht]
  walk_at "mp_s"
  exact cut_x hl q
theorem words_of_bad {d : D} (hd : okD 2 d) (hs : isText d = false) (qe : E (badX A) S) : r_words_of A [d] S Q E := by
  unfold r_words_of
  walk_at "mp_s"
  refine is_text_ok hd ?_
  rw [hs]
  walk_at "mp_s"
  exact qe
end K01

set_option Elab.async false
set_option linter.all false
set_option maxRecDepth 100000
set_option maxHeartbeats 4100000
/-! what the mirrors compute: names, odd values, refusals -/
namespace K01
open PySem PySem.Spec PyProof.Rows L2 MP
variable {A : Ad} {S : Store} {Q : Post} {E : XPost}
theorem comp_gen {gg : DG} {f : ET} {K : List D → Store → Prop} {ρ : MP.Env} (I : List D → List D → Store → Prop)
    (step : ∀ d r acc S, I (d :: r) acc S → ∀ k : Post, (∀ y S', acc.length < sizeLine ∧ I r (acc ++ [y]) S' → k y S') → gg d ρ S fun ρ1 S1 => f ρ1 S1 k (fun _ _ => False))
    (fin : ∀ acc S, I [] acc S → K acc S) : ∀ ds acc S, I ds acc S → comp gg bYes f K ds acc ρ S
  | [], acc, S, h => fin acc S h
  | d :: r, acc, S, h => step d r acc S h (fun y S3 => acc.length < sizeLine ∧ comp gg bYes f K r (acc ++ [y]) ρ S3) fun y S' hy => ⟨hy.1, comp_gen I step fin r (acc ++ [y]) S' hy.2⟩
theorem tx_app (l m : List Nat) : tx l ++ tx m = tx (l ++ m) := by
  show (⟨l.toArray ++ m.toArray⟩ : Str) = ⟨(l ++ m).toArray⟩
  simp
theorem join_tx : ∀ zs : List (List Nat), Txt.join (Str.ofString "") (zs.map tx) = tx zs.flatten := fun zs => by
  show Builtin.Str.glued (Str.ofString "") (zs.map tx) = _
  rw [StrLaws.glued_eq_join]
  have e0 : Str.ofString "" = tx [] := by decide +kernel
  induction zs with
  | nil => rfl
  | cons z r ih =>
    cases r with
    | nil =>
      show tx z = tx (z ++ [])
      rw [List.append_nil]
    | cons y r =>
      show tx z ++ Str.ofString "" ++ Str.join (Str.ofString "") ((y :: r).map tx) = _
      rw [ih, e0, tx_app, tx_app, List.append_nil]
      rfl
theorem sum_len (zs : List (List Nat)) : ((zs.map tx).map (·.length)).sum = zs.flatten.length := by
  rw [List.length_flatten, List.map_map, show ((fun x : Str => x.length) ∘ tx) = List.length from funext fun z => tx_len z]
theorem join_x {zs : List (List Nat)} (hb : zs.flatten.length ≤ 1000) (q : Q (.str (tx zs.flatten)) S) : mJoin (.str "") [.lst (zs.map fun z => .str (tx z))] S Q := by
  have e : (seqW (vw (.lst (zs.map fun z => D.str (tx z))) S)).bind strs? = some (zs.map tx) := by
    show strs? (zs.map fun z => D.str (tx z)) = _
    rw [show (zs.map fun z => D.str (tx z)) = (zs.map tx).map D.str by rw [List.map_map]; rfl, MP.strs_map]
  show (match (seqW (vw (.lst (zs.map fun z => D.str (tx z))) S)).bind strs? with
    | some ys => (ys.map (·.length)).sum + ys.length * (Str.ofString "").length ≤ 16777216 ∧ Q (.str (Txt.join (Str.ofString "") ys)) S
    | none => False)
  rw [e]
  refine ⟨?_, by rw [join_tx]; exact q⟩
  rw [sum_len, show (Str.ofString "").length = 0 by decide +kernel, Nat.mul_zero]
  omega
/-! names -/
def nameL (l : List Nat) : Prop := ∃ c r, l = c :: r ∧ small26 c = true ∧ r.all inner = true ∧ l.length ≤ 10
theorem small_inner {c : Nat} (h : small26 c = true) : inner c = true := by unfold inner; rw [h]; rfl
theorem inner_ok {c : Nat} (h : inner c = true) : signOk c = true ∧ decide (c = 10) = false ∧ decide (c = 32) = false := by
  unfold inner small26 big26 fig10 at h
  unfold signOk plainS
  simp only [Bool.or_eq_true, Bool.and_eq_true, decide_eq_true_eq, decide_eq_false_iff_not] at *
  omega
theorem run_all {r : List Nat} (h : r.all inner = true) : run r = r.length := by
  unfold run
  congr 1
  induction r with
  | nil => rfl
  | cons d t ih =>
    rw [List.all_cons, Bool.and_eq_true] at h
    rw [List.takeWhile_cons_of_pos h.1, ih h.2]
theorem name_wd {l : List Nat} (h : nameL l) : Wd1 l := by
  obtain ⟨c, r, e, hc, hr, -⟩ := h
  subst e
  have hi := small_inner hc
  have z := inner_ok hi
  refine ⟨⟨c, r, rfl, z.2.1, z.2.2⟩, ?_⟩
  rw [size_c, hi, Bool.or_true, if_pos rfl, run_all hr, List.length_cons]
  omega
theorem name_text {l : List Nat} (h : nameL l) : textOk l = true := by
  obtain ⟨c, r, e, hc, hr, -⟩ := h
  subst e
  unfold textOk
  rw [List.all_eq_true] at hr ⊢
  intro d hd
  rcases List.mem_cons.mp hd with rfl | hd
  · exact (inner_ok (small_inner hc)).1
  · exact (inner_ok (hr d hd)).1
theorem name_len {l : List Nat} (h : nameL l) : l.length ≤ 10 := let ⟨_, _, _, _, _, e⟩ := h; e
theorem letter_at {k : Int} (h0 : 0 ≤ k) (h1 : k < 26) (q : ∀ c, small26 c = true → Q (.str ⟨#[c]⟩) S) : gIx (.str "abcdefghijklmnopqrstuvwxyz") (.int k) S Q := by
  have e : Str.ofString "abcdefghijklmnopqrstuvwxyz" = tx (List.range' 97 26) := by decide +kernel
  rw [e]
  have hk : k = (k.toNat : Int) := by omega
  refine ix_i (k := k.toNat) (c := 97 + k.toNat) hk ?_ (by decide) (q _ ?_)
  · rw [List.getElem?_range' (by omega)]
    simp
  · unfold small26
    simp only [Bool.and_eq_true, decide_eq_true_eq]
    omega
theorem any_name_ok {a w : Addr} {b : Nat} (h : Dg S a w (b + 12)) (q : ∀ l S', nameL l → Dg S' a w b → Kp S S' a w → Q (.str (tx l)) S') : r_law_any_name A [.ref a] S Q E := by
  unfold r_law_any_name
  walk_at "mp_s"
  refine evM_i ?_
  walk_at "mp_s"
  refine ⟨rfl, ?_⟩
  walk_at "mp_s"
  refine iRange1_i ?_
  walk_at "mp_s"
  refine take_g (b := b + 11) h (by decide) (by decide) fun r S1 r0 r1 d1 k1 => ?_
  walk_at "mp_s"
  refine ⟨by omega, by omega, ?_⟩
  have hm : (1 + r).toNat ≤ 9 ∧ 1 ≤ (1 + r).toNat := by omega
  generalize (1 + r).toNat = m at hm
  refine comp_gen (fun ds acc S' => ∃ cs : List Nat, acc = cs.map (fun c => D.str (tx [c])) ∧ cs.all small26 = true ∧ cs.length + ds.length = m ∧ Dg S' a w (b + 2 + ds.length) ∧ Kp S S' a w) ?_ ?_ _ _ _ ⟨[], rfl, rfl, by unfold rangeD; simp, by unfold rangeD; rw [List.length_map, List.length_range]; exact d1.mono (by omega), k1⟩
  · rintro d ds acc S2 ⟨cs, rfl, hc, hn, hg, hk⟩ k hq
    walk_at "mp_s"
    refine take_g (b := b + 2 + ds.length) hg (by decide) (by decide) fun t S3 t0 t1 d3 k3 => ?_
    walk_at "mp_s"
    refine letter_at t0 t1 fun c h26 => ?_
    refine hq _ S3 ⟨by rw [List.length_map]; exact Nat.lt_of_le_of_lt (m := 1000) (by simp only [List.length_cons] at hn; omega) (by decide), cs ++ [c], by rw [List.map_append]; rfl, by rw [List.all_append, hc]; simp [h26], by rw [List.length_append, List.length_singleton]; simp only [List.length_cons] at hn; omega, d3, hk.trans k3⟩
  · rintro acc S2 ⟨cs, rfl, hc, hn, hg, hk⟩
    have hn' : cs.length = m := by simpa using hn
    have hf : (cs.map fun c => [c]).flatten = cs := by
      clear hc hn hn' hm
      induction cs with
      | nil => rfl
      | cons c r ih => rw [List.map_cons, List.flatten_cons, ih]; rfl
    have hj : (cs.map fun c => D.str (tx [c])) = (cs.map fun c => [c]).map fun z => D.str (tx z) := by rw [List.map_map]; rfl
    walk_at "mp_s"
    rw [hj]
    refine join_x (by rw [hf]; omega) ?_
    rw [hf]
    walk_at "mp_s"
    refine take_g (b := b + 1) (by simpa using hg) (by decide) (by decide) fun t S3 t0 t1 d3 k3 => ?_
    obtain ⟨c, r2, rfl⟩ : ∃ c r2, cs = c :: r2 := by
      cases cs with
      | nil => simp at hn'; omega
      | cons c r2 => exact ⟨c, r2, rfl⟩
    have hcs : small26 c = true ∧ r2.all small26 = true := by simpa using hc
    have hin : r2.all inner = true := by
      rw [List.all_eq_true]
      exact fun d hd => small_inner (List.all_eq_true.mp hcs.2 d hd)
    have hl : r2.length + 1 = m := by simpa using hn'
    walk_at "mp_s"
    refine ite_cc (fun e1 => ?_) fun e1 => ?_
    · walk_at "mp_s"
      exact q _ S3 ⟨c, r2, rfl, hcs.1, hin, by rw [List.length_cons]; omega⟩ (d3.mono (by omega)) (hk.trans k3)
    · walk_at "mp_s"
      refine pick_g (b := b) (d3.mono (by omega)) (fun z => nomatch z) (by decide) fun x S4 hx d4 k4 => ?_
      have hx2 : ∃ c2, x = .str (tx [c2]) ∧ inner c2 = true := by
        simp only [List.mem_cons, List.not_mem_nil, or_false] at hx
        rcases hx with rfl | rfl | rfl | rfl
        · exact ⟨65, congrArg D.str (by decide +kernel), by decide⟩
        · exact ⟨55, congrArg D.str (by decide +kernel), by decide⟩
        · exact ⟨95, congrArg D.str (by decide +kernel), by decide⟩
        · exact ⟨90, congrArg D.str (by decide +kernel), by decide⟩
      obtain ⟨c2, rfl, hc2⟩ := hx2
      refine gAddT_s (by rw [tx_len, tx_len]; exact Nat.le_trans (show (c :: r2).length + 1 ≤ 100 by rw [List.length_cons]; omega) (by decide)) ?_
      rw [tx_app]
      exact q _ S4 ⟨c, r2 ++ [c2], rfl, hcs.1, by rw [List.all_append, hin]; simp [hc2], by rw [List.length_append, List.length_cons, List.length_singleton]; omega⟩ d4 ((hk.trans k3).trans k4)
/-! what is no word, and texts -/
def oddOk (d : D) : Prop := (∃ l, d = .str (tx l) ∧ l.length ≤ 900 ∧ textOk l = true) ∨ (isStr d = false ∧ okD 2 d)
theorem odd_str {x : Str} (h1 : x.length ≤ 900) (h2 : textOk x.cps.toList = true) : oddOk (.str x) := .inl ⟨x.cps.toList, by rw [← tx_of], by simpa [Str.length] using h1, h2⟩
theorem catch_1 (hA : A.Ok) {i : Nat} (hi : i < 3) : catchT A 0 (.ref (A.cls i)) = some ((below i).contains 0) := by
  show (A.nm (A.cls i)).map _ = _
  rw [hA.nm i hi]
  rfl
theorem isi_exn (hA : A.Ok) {i j : Nat} {a : Addr} {ks : List Str} {xs : List D} (hi : i < 3) (hj : j < 3) (q : Q (.bl ((below i).contains j)) S) : gIsi (subT A) (exT_ A) [.exn (.ref (A.cls i)) a ks xs, .ref (A.cls j)] S Q := by
  show exT_ A (A.cls i) = true ∧ match subT A (.ref (A.cls i)) (.ref (A.cls j)) with
    | some b => Q (.bl b) S
    | none => False
  have e : subT A (.ref (A.cls i)) (.ref (A.cls j)) = some ((below i).contains j) := by
    show (match A.nm (A.cls i), A.nm (A.cls j) with
      | some i, some j => some ((below i).contains j)
      | _, _ => none) = _
    rw [hA.nm i hi, hA.nm j hj]
  rw [e]
  exact ⟨by unfold exT_; rw [hA.nm i hi]; rfl, q⟩
theorem isi_val (hA : A.Ok) {i : Nat} {a : Addr} {ks : List Str} {xs : List D} (hi : i < 3) (q : Q (.bl true) S) : gIsi (subT A) (exT_ A) [.exn (.ref (A.cls i)) a ks xs, .ty "ValueError"] S Q := by
  show exT_ A (A.cls i) = true ∧ match subT A (.ref (A.cls i)) (.type "ValueError") with
    | some b => Q (.bl b) S
    | none => False
  have e : subT A (.ref (A.cls i)) (.type "ValueError") = some true := by
    show (if "ValueError" = "ValueError" then (A.nm (A.cls i)).map fun _ => true else none) = _
    rw [if_pos rfl, hA.nm i hi]
    rfl
  rw [e]
  exact ⟨by unfold exT_; rw [hA.nm i hi]; rfl, q⟩
theorem xf_bad {f : ET} {ρ : MP.Env} {n : Str} {a : Addr} (hn : n = "line" ∨ n = "column" ∨ n = "wanted") (hf : ∀ (Q : Post) (E : XPost), Q (.exn (.ref (A.cls 1)) a ["wanted", "column", "line"] [.non, .non, .non]) S → f ρ S Q E) (q : Q .non S) : evXf (fxT A) n f ρ S Q E := by
  refine evXf_i (hf _ _ ?_)
  show fxT A (A.cls 1) n = true ∧ match lkF ["wanted", "column", "line"] [.non, .non, .non] n with
    | some x => Q x S
    | none => False
  have e1 : fxT A (A.cls 1) n = true := by
    unfold fxT
    rw [decide_eq_true rfl, Bool.true_and]
    rcases hn with rfl | rfl | rfl <;> decide +kernel
  have e2 : lkF ["wanted", "column", "line"] [.non, .non, .non] n = some .non := by
    rcases hn with rfl | rfl | rfl <;> rfl
  rw [e2]
  exact ⟨e1, q⟩
theorem val_isi {d : D} (h : Val d) : isStr d = true → ∃ x, d = .str x := by
  cases d <;> intro e <;> first | exact ⟨_, rfl⟩ | cases e
def qual : Str := ("_law_refused_right.<locals>." ++ "<lambda>" : Str)
def refC (A : Ad) : MP.ST := dSeq (dSet 9 (eAnd (evB (gIsi (subT A) (exT_ A)) (aCons (evV 3) (aCons (evC (.ty "str")) (aNil)))) (bin gEqE (evCall (r_law_cut A) (aCons (evV 3) (aNil))) (evLst mkF (aCons (evTup (aCons (evV 3) (aCons (evC (.int 1)) (aCons (evC (.int 1)) (aNil))))) (aNil)))))) (dSeq (dSet 8 (evLam A.t_law_refused_right ("_law_refused_right.<locals>." ++ "<lambda>") (catchT A 0) (evCall (r_sort_of A) (aCons (evV 3) (aNil))))) (dRet (eIf (bV (evV 9)) (bin gIsA (evV 8) (evC .non)) (eAnd (evB (gIsi (subT A) (exT_ A)) (aCons (evV 8) (aCons (evC (.ref (A.cls 2))) (aNil)))) (evB (gIsi (subT A) (exT_ A)) (aCons (evV 8) (aCons (evC (.ty "ValueError")) (aNil))))))))
theorem refC_ok (hA : A.Ok) {d : D} {x0 x1 x2 x4 x5 x6 x7 x8 x9 : Option D} {N : DEnds} (hs : S A.t_law_refused_right = some (.tab ("_law_refused_right.<locals>." ++ "<lambda>"))) (hd : oddOk d) (q : ∀ S', Ext S S' → N.rt (.bl true) S') : refC A [x0, x1, x2, some d, x4, x5, x6, x7, x8, x9] S N := by
  unfold refC
  rcases hd with ⟨l, rfl, hl, ht⟩ | ⟨hs2, ho⟩
  · have hl' : l.length ≤ 1000 := by omega
    walk_at "mp_s"
    refine law_cut_x hl' fun p S1 hp hx => ?_
    walk_at "mp_s"
    refine one_eq (text_lay ht) hp ?_
    have hs1 := hx _ _ hs
    walk_at "mp_s"
    refine evLam_i hs1 ?_
    walk_at "mp_s"
    refine sort_of_str hl' ht (fun e1 S2 h2 => ?_) fun e1 S2 h2 => ?_
    · rw [e1]
      walk_at "mp_s"
      exact q S2 (hx.trans h2)
    · rw [e1]
      show (match catchT A 0 (.ref (A.cls 2)) with
        | some true => _
        | _ => False)
      rw [catch_1 hA (by decide)]
      intro a2
      walk_at "mp_s"
      refine isi_exn hA (by decide) (by decide) ?_
      walk_at "mp_s"
      refine isi_val hA (by decide) ?_
      exact q S2 (hx.trans h2)
  · have hv := ho.val
    walk_at "mp_s"
    refine isi_str hv ?_
    rw [hs2]
    walk_at "mp_s"
    refine evLam_i hs ?_
    walk_at "mp_s"
    refine sort_of_odd ho hs2 ?_
    show (match catchT A 0 (.ref (A.cls 2)) with
        | some true => _
        | _ => False)
    rw [catch_1 hA (by decide)]
    intro a2
    walk_at "mp_s"
    refine isi_exn hA (by decide) (by decide) ?_
    walk_at "mp_s"
    refine isi_val hA (by decide) ?_
    exact q S (Ext.refl S)
end K01

set_option Elab.async false
set_option linter.all false
set_option maxRecDepth 100000
set_option maxHeartbeats 4100000
/-! what the mirrors compute: what is refused rightly; one turn's parts -/
namespace K01
open PySem PySem.Spec PyProof.Rows L2 MP
variable {A : Ad} {S : Store} {Q : Post} {E : XPost}
def tabN : Str := ("_law_refused_right.<locals>." ++ "<lambda>" : Str)
theorem tab_dg {S S' : Store} {a w t : Addr} {b : Nat} {n : Str} (h : S t = some (.tab n)) (d : Dg S a w b) (k : Kp S S' a w) : S' t = some (.tab n) := by
  obtain ⟨m, dr, -⟩ := d
  obtain ⟨cs, r, tt, e, -⟩ := dr.box
  obtain ⟨ws, ew, -⟩ := dr.wide
  refine k t _ (fun z => ?_) (fun z => ?_) h
  · subst z; rw [h] at e; cases e
  · subst z; rw [h] at ew; cases ew
theorem wt_wlen : ∀ (n : Nat) (l : List Nat) (ln col : Int), ∀ t ∈ wt n l ln col, t.1.length ≤ l.length
  | 0, _, _, _, _, h => nomatch h
  | n + 1, [], _, _, _, h => nomatch h
  | n + 1, c :: r, ln, col, t, h => by
    have h' : t ∈ (if decide (c = 10) = true then wt n r (ln + 1) 1 else if decide (c = 32) = true then wt n r ln (col + 1) else
      ((c :: r).take (size (c :: r)), ln, col) :: wt n ((c :: r).drop (size (c :: r))) ln (col + size (c :: r))) := h
    split at h'
    · have := wt_wlen n r _ _ t h'
      rw [List.length_cons]; omega
    · split at h'
      · have := wt_wlen n r _ _ t h'
        rw [List.length_cons]; omega
      · rcases List.mem_cons.mp h' with e | h'
        · subst e
          exact List.length_take_le' _ _
        · have := wt_wlen n _ _ _ t h'
          rw [List.length_drop] at this
          omega
theorem none_ne (q : Q (.bl false) S) : gNeE (.lst [.non, .non, .non]) (.lst [.non, .non, .non]) S Q :=
  .inl ⟨by decide, by decide, by
    have e : PyData.eqv (.list [.none, .none, .none]) (.list [.none, .none, .none]) = true := SeqAt.eqv_refl _ (by decide)
    show Q (.bl (!PyData.eqv (.list [.none, .none, .none]) (.list [.none, .none, .none]))) S
    rw [e]
    exact q⟩
theorem small_x {x : D} {n : Nat} (h : ∃ y : Str, x = .str y ∧ y.length ≤ n ∧ textOk y.cps.toList = true) : ∃ m, x = .str (tx m) ∧ m.length ≤ n ∧ textOk m = true := by
  obtain ⟨y, rfl, h1, h2⟩ := h
  exact ⟨y.cps.toList, by rw [← tx_of], by simpa [Str.length] using h1, h2⟩
theorem odd_base : ∀ y ∈ ([.str "", .str " ", .str "a b", .str "a-b", .str " a", .str "a ", .str "<= ", .str "a(", .str "()", .str "-", .str "- 1", .str "1-", .str "===", .str "<==", .str "[]", .str "a\n"] ++ [.non, .int 5, .bl true, .lst [.str "a"], .tup [.str "a"], .dct [] []] : List D), oddOk y := by
  intro y hy
  simp only [List.cons_append, List.nil_append, List.mem_cons, List.not_mem_nil, or_false] at hy
  rcases hy with rfl | rfl | rfl | rfl | rfl | rfl | rfl | rfl | rfl | rfl | rfl | rfl | rfl | rfl | rfl | rfl | rfl | rfl | rfl | rfl | rfl | rfl
  all_goals first
    | exact odd_str (by decide +kernel) (by decide +kernel)
    | exact .inr ⟨rfl, trivial⟩
    | exact .inr ⟨rfl, rfl, rfl⟩
    | exact .inr ⟨rfl, by decide, fun x hx => by
        rw [List.mem_singleton] at hx
        subst hx
        show (Str.ofString "a").length ≤ 1000
        decide +kernel⟩
theorem bad_base : ∀ y ∈ ([.non, .int 5, .bl true, .lst [.str "a"], .tup [.str "sheet"], .dct [] []] ++ [.str "a\tb", .str "\t", .str "cell\ta", .str "a\t"] : List D), okD 2 y ∧ isText y = false := by
  intro y hy
  simp only [List.cons_append, List.nil_append, List.mem_cons, List.not_mem_nil, or_false] at hy
  rcases hy with rfl | rfl | rfl | rfl | rfl | rfl | rfl | rfl | rfl | rfl
  all_goals first
    | exact ⟨trivial, rfl⟩
    | exact ⟨⟨rfl, rfl⟩, rfl⟩
    | exact ⟨⟨by decide, fun x hx => by
        rw [List.mem_singleton] at hx
        subst hx
        show Str.length _ ≤ 1000
        decide +kernel⟩, rfl⟩
    | exact ⟨show Str.length _ ≤ 1000 by decide +kernel, by decide +kernel⟩
theorem refused_eq : r_law_refused_right A = runF 10 (dSeq (dSet 2 (evLst mkF (aCons (evC (.str "")) (aCons (evC (.str " ")) (aCons (evC (.str "a b")) (aCons (evC (.str "a-b")) (aCons (evC (.str " a")) (aCons (evC (.str "a ")) (aCons (evC (.str "<= ")) (aCons (evC (.str "a(")) (aCons (evC (.str "()")) (aCons (evC (.str "-")) (aCons (evC (.str "- 1")) (aCons (evC (.str "1-")) (aCons (evC (.str "===")) (aCons (evC (.str "<==")) (aCons (evC (.str "[]")) (aCons (evC (.str "a\n")) (aNil))))))))))))))))))) (dSeq (dSet 3 (evCall (r_law_pick A) (aCons (evV 0) (aCons (bin (gAddT mkF) (bin (gAddT mkF) (evV 2) (evLst mkF (aCons (evC .non) (aCons (evC (.int 5)) (aCons (evC (.bl true)) (aCons (evLst mkF (aCons (evC (.str "a")) (aNil))) (aCons (evTup (aCons (evC (.str "a")) (aNil))) (aCons (evDict0 mkDF) (aNil))))))))) (evComp mkF (iSeq (evV 1)) (dgTup 3 (dgCons (dgName 4) (dgCons (dgName 5) (dgCons (dgName 6) (dgNil))))) (bYes) (bin (gAddT mkF) (evV 4) (evCall (r_law_pick A) (aCons (evV 0) (aCons (evLst mkF (aCons (evC (.str "(")) (aCons (evC (.str " ")) (aCons (evC (.str "\n")) (aCons (evC (.str "+1")) (aNil)))))) (aNil))))) [4, 5, 6])) (aNil))))) (dSeq (dSet 7 (evLst mkF (aCons (evC (.str "a\tb")) (aCons (evC (.str "\t")) (aCons (evC (.str "cell\ta")) (aCons (evC (.str "a\t")) (aNil))))))) (dSeq (dIf (bNot (bV (evB (gIsi (subT A) (exT_ A)) (aCons (evLam A.t_law_refused_right ("_law_refused_right.<locals>." ++ "<lambda>") (catchT A 0) (evCall (r_words_of A) (aCons (evCall (r_law_pick A) (aCons (evV 0) (aCons (bin (gAddT mkF) (evLst mkF (aCons (evC .non) (aCons (evC (.int 5)) (aCons (evC (.bl true)) (aCons (evLst mkF (aCons (evC (.str "a")) (aNil))) (aCons (evTup (aCons (evC (.str "sheet")) (aNil))) (aCons (evDict0 mkDF) (aNil)))))))) (evV 7)) (aNil)))) (aNil)))) (aCons (evC (.ref (A.cls 1))) (aNil)))))) (dRet (evC (.bl false))) (dNext)) (dSeq (dSet 8 (evLam A.t_law_refused_right ("_law_refused_right.<locals>." ++ "<lambda>") (catchT A 0) (evCallK (r_words_of A) [0] aNil (aCons (evC .non) (aNil))))) (dSeq (dIf (bOr (bNot (bV (evB (gIsi (subT A) (exT_ A)) (aCons (evV 8) (aCons (evC (.ref (A.cls 1))) (aNil)))))) (bB (bin gNeE (evLst mkF (aCons (evXf (fxT A) "line" (evV 8)) (aCons (evXf (fxT A) "column" (evV 8)) (aCons (evXf (fxT A) "wanted" (evV 8)) (aNil))))) (evLst mkF (aCons (evC .non) (aCons (evC .non) (aCons (evC .non) (aNil)))))))) (dRet (evC (.bl false))) (dNext)) (refC A))))))) := rfl
theorem refused_ok (hA : A.Ok) {a w : Addr} {b n : Nat} {l : List Nat} (hg : Dg S a w (b + 1000)) (hs : S A.t_law_refused_right = some (.tab ("_law_refused_right.<locals>." ++ "<lambda>"))) (hl : l.length ≤ 500) (hn : n ≤ 500) (ht : textOk l = true)
    (q : ∀ S', Dg S' a w b → Kp S S' a w → Q (.bl true) S') : r_law_refused_right A [.ref a, .lst (words n l 1 1)] S Q E := by
  rw [refused_eq]
  walk_at "mp_s"
  refine gAddT_l (by decide) ?_
  walk_at "mp_s"
  rw [words_wt]
  refine comp_gen (fun ds acc S' => (∃ ts : List (List Nat × Int × Int), ds = ts.map encW ∧ ∀ t ∈ ts, textOk t.1 = true ∧ t.1.length ≤ 500) ∧ (∀ y ∈ acc, oddOk y) ∧ acc.length + ds.length ≤ 500 ∧ Dg S' a w (b + 400 + ds.length) ∧ Kp S S' a w) ?_ ?_ _ _ _ ⟨⟨_, rfl, fun t htm => ⟨text_sub ht ((wt_words n l 1 1 t htm).2), Nat.le_trans (wt_wlen n l 1 1 t htm) hl⟩⟩, fun _ z => (nomatch z), ?_, hg.mono ?_, Kp.refl S a w⟩
  · rintro d ds acc S2 ⟨⟨ts, e, hts⟩, hy, hn2, hg2, hk⟩ k hq
    cases ts with
    | nil => cases e
    | cons t ts =>
    rw [List.map_cons] at e
    injection e with e1 e2
    subst e1 e2
    obtain ⟨t1, t2⟩ := hts t List.mem_cons_self
    unfold encW
    walk_at "mp_s"
    refine pick_g (b := b + 400 + (ts.map encW).length) hg2 (fun z => nomatch z) (by decide) fun x S3 hx d3 k3 => ?_
    obtain ⟨m, rfl, hm, htm⟩ := small_x (x := x) (n := 2) (by
      simp only [List.mem_cons, List.not_mem_nil, or_false] at hx
      rcases hx with rfl | rfl | rfl | rfl <;> exact ⟨_, rfl, by decide +kernel, by decide +kernel⟩)
    refine gAddT_s (by rw [tx_len, tx_len]; exact Nat.le_trans (show t.1.length + m.length ≤ 1000 by omega) (by decide)) ?_
    rw [tx_app]
    refine hq _ S3 ⟨Nat.lt_of_le_of_lt (m := 500) (by simp only [List.length_cons] at hn2; omega) (by decide), ⟨ts, rfl, fun t h => hts t (List.mem_cons_of_mem _ h)⟩, fun y hy' => ?_, by rw [List.length_append, List.length_singleton]; simp only [List.length_cons] at hn2; omega, d3, hk.trans k3⟩
    rcases List.mem_append.1 hy' with hy' | hy'
    · exact hy y hy'
    · rw [List.mem_singleton] at hy'
      subst hy'
      exact .inl ⟨_, rfl, by rw [List.length_append]; omega, text_app t1 htm⟩
  · rintro acc S2 ⟨-, hy, hn2, hg2, hk⟩
    walk_at "mp_s"
    have ha : acc.length ≤ 500 := by simpa using hn2
    refine gAddT_l (Nat.le_trans (Nat.add_le_add (show _ ≤ 22 by decide) ha) (by decide)) ?_
    walk_at "mp_s"
    refine pick_g (b := b + 399) (hg2.mono (by simp)) (fun z => nomatch z) (by rw [List.length_append]; exact Nat.lt_of_le_of_lt (Nat.add_le_add (show _ ≤ 22 by decide) ha) (by decide)) fun x S3 hx d3 k3 => ?_
    have hodd : oddOk x := by
      rcases List.mem_append.1 hx with hx | hx
      · exact odd_base x hx
      · exact hy x hx
    have k4 := hk.trans k3
    have hs3 := tab_dg hs hg k4
    walk_at "mp_s"
    refine evLam_i hs3 ?_
    walk_at "mp_s"
    refine gAddT_l (by decide) ?_
    walk_at "mp_s"
    refine pick_g (b := b + 398) d3 (fun z => nomatch z) (by decide) fun y S4 hyb d4 k5 => ?_
    obtain ⟨o1, o2⟩ := bad_base y hyb
    have hs4 := tab_dg hs3 d3 k5
    walk_at "mp_s"
    refine words_of_bad o1 o2 ?_
    show (match catchT A 0 (.ref (A.cls 1)) with
        | some true => _
        | _ => False)
    rw [catch_1 hA (by decide)]
    intro a2
    walk_at "mp_s"
    refine isi_exn hA (by decide) (by decide) ?_
    walk_at "mp_s"
    refine evLam_i hs4 ?_
    walk_at "mp_s"
    show r_words_of A [.non] S4 _ _
    refine words_of_bad (d := .non) trivial rfl ?_
    show (match catchT A 0 (.ref (A.cls 1)) with
        | some true => _
        | _ => False)
    rw [catch_1 hA (by decide)]
    intro a3
    walk_at "mp_s"
    refine isi_exn hA (by decide) (by decide) ?_
    walk_at "mp_s"
    refine xf_bad (a := a3) (.inl rfl) (fun Q E k => evV_i rfl k) ?_
    walk_at "mp_s"
    refine xf_bad (a := a3) (.inr (.inl rfl)) (fun Q E k => evV_i rfl k) ?_
    walk_at "mp_s"
    refine xf_bad (a := a3) (.inr (.inr rfl)) (fun Q E k => evV_i rfl k) ?_
    walk_at "mp_s"
    refine none_ne ?_
    walk_at "mp_s"
    refine refC_ok hA hs4 hodd fun S5 h5 => ?_
    exact q S5 ((h5.dg d4).mono (by omega)) ((k4.trans k5).trans h5.kp)
  · rw [List.length_map]
    have := wt_len n l 1 1
    simp
    omega
  · rw [List.length_map]
    have := wt_len n l 1 1
    omega
end K01

set_option Elab.async false
set_option linter.all false
set_option maxRecDepth 100000
set_option maxHeartbeats 4100000
/-! the law -/
namespace K01
open PySem PySem.Spec PyProof.Rows L2 MP
variable {A : Ad} {S : Store} {Q : Post} {E : XPost}
theorem dFzV_i {i : Nat} {g : MP.ST} {ρ : MP.Env} {N : DEnds} (q : g ρ S { N with nx := fzv i N.nx }) : dFzV i g ρ S N := q
theorem fzv_l {i : Nat} {ρ : MP.Env} {p : Addr} {ds : List D} {QE : MP.Env → Store → Prop} (hi : lk ρ i = some (.ref p)) (hp : S p = some (.lst ds)) (q : QE (st ρ i (some (.lst ds))) (S.del p)) : fzv i QE ρ S := by
  unfold fzv
  simp only [hi, hp]
  exact q
def lawP (A : Ad) : MP.ST := dSeq (dSet 8 (bin gIx (evCall0 (r_law_signs A)) (evCall (r_law_take A) (aCons (evV 1) (aCons (evC (.int 94)) (aNil)))))) (dExpr (evM "list" mAppend (evV 7) (aCons (evCall (r_law_pick A) (aCons (evV 1) (aCons (bin (gAddT mkF) (bin (gAddT mkF) (bin (gAddT mkF) (evV 3) (evV 5)) (evLst mkF (aCons (evC (.str " ")) (aCons (evC (.str " ")) (aCons (evC (.str "\n")) (aCons (evC (.str "  ")) (aCons (evC (.str "\n\n")) (aCons (evC (.str "fork")) (aCons (evC (.str "greatest")) (aNil)))))))))) (bin (gMulB mkF) (evLst mkM (aCons (evV 8) (aNil))) (evC (.int 9)))) (aNil)))) (aNil))))
def lawW (A : Ad) : MP.ST := dIf (bOr (bB (bin gNeE (evCall (r_sort_of A) (aCons (evV 2) (aNil))) (evCall (r_law_sort A) (aCons (evV 2) (aNil))))) (bOr (bB (bin gNeE (evCallK (r_sort_of A) [0] aNil (aCons (evV 2) (aNil))) (evCall (r_law_sort A) (aCons (evV 2) (aNil))))) (bB (bin gNeE (evB gRepr (aCons (evCall (r_is_name A) (aCons (evV 2) (aNil))) (aNil))) (evB gRepr (aCons (evCall (r_law_is_name A) (aCons (evV 2) (aNil))) (aNil))))))) (dRet (evC (.bl false))) (dNext)
def lawR (A : Ad) : MP.ST := dSeq (dFzV 10 (dSet 10 (evCall (r_law_cut A) (aCons (evV 9) (aNil))))) (dSeq (dSet 11 (evCall (r_words_of A) (aCons (evV 9) (aNil)))) (dSeq (dIf (bB (bin gNeE (evV 11) (evV 10))) (dRet (evC (.bl false))) (dNext)) (dSeq (dExpr (evM "list" mAppend (evV 11) (aCons (evC .non) (aNil)))) (dSeq (dIf (bB (bin gNeE (evCallK (r_words_of A) [0] aNil (aCons (evV 9) (aNil))) (evV 10))) (dRet (evC (.bl false))) (dNext)) (dSeq (dFor (iSeq (bin (gAddT mkF) (evV 10) (evComp mkF (iSeq (evV 5)) (dgName 14) (bYes) (evTup (aCons (evV 14) (aCons (evC (.int 1)) (aCons (evC (.int 1)) (aNil))))) [14]))) (dgTup 3 (dgCons (dgName 2) (dgCons (dgName 12) (dgCons (dgName 13) (dgNil))))) (lawW A)) (dIf (bNot (bV (evCall (r_law_refused_right A) (aCons (evV 1) (aCons (evV 10) (aNil)))))) (dRet (evC (.bl false))) (dNext)))))))
def lawB (A : Ad) : MP.ST := dSeq (dSet 5 (evComp mkF (iRange1 (aCons (evC (.int 2)) (aNil))) (dgName 6) (bYes) (evCall (r_law_any_name A) (aCons (evV 1) (aNil))) [6])) (dSeq (dSet 7 (evLst mkM (aNil))) (dSeq (dFzV 7 (dFor (iRange1 (aCons (evCall (r_law_take A) (aCons (evV 1) (aCons (evC (.int 40)) (aNil)))) (aNil))) (dgName 6) (lawP A))) (dSeq (dSet 9 (evM "str" mJoin (evC (.str "")) (aCons (evV 7) (aNil)))) (lawR A))))
theorem law_eq : r_law A = runF 15 (dSeq (dSet 1 (evCall (r_law_begun A) (aCons (evV 0) (aNil)))) (dSeq (dIf (bB (bin gNeE (evB gRepr (aCons (evC c_KEPT) (aNil))) (evB gRepr (aCons (evB gTuple (aCons (evB (gSortS mkF) (aCons (bin (gAddT mkF) (evCall0 (r_law_kept A)) (evLst mkF (aCons (evC (.str "fork")) (aCons (evC (.str "leaf")) (aNil))))) (aNil))) (aNil))) (aNil))))) (dRet (evC (.bl false))) (dNext)) (dSeq (dIf (bB (bin gNeE (evComp mkF (iSeq (bin (gAddT mkF) (evCall0 (r_law_kept A)) (evLst mkF (aCons (evC (.str "fork")) (aCons (evC (.str "leaf")) (aNil)))))) (dgName 2) (bOr (bB (bin gIsnA (evCall (r_is_name A) (aCons (evV 2) (aNil))) (evC (.bl false)))) (bB (bin gNeE (evCall (r_sort_of A) (aCons (evV 2) (aNil))) (evCall (r_law_sort A) (aCons (evV 2) (aNil)))))) (evV 2) [2]) (evLst mkF (aNil)))) (dRet (evC (.bl false))) (dNext)) (dSeq (dSet 3 (evLst mkF (aCons (evC (.str "a")) (aCons (evC (.str "b")) (aCons (evC (.str "z")) (aCons (evC (.str "if")) (aCons (evC (.str "cases")) (aCons (evC (.str "leaf")) (aCons (evC (.str "A")) (aCons (evC (.str "0")) (aCons (evC (.str "1")) (aCons (evC (.str "7")) (aCons (evC (.str "-")) (aCons (evC (.str "-")) (aCons (evC (.str "_")) (aCons (evC (.str "$")) (aCons (evC (.str "<")) (aCons (evC (.str "=")) (aCons (evC (.str "==")) (aCons (evC (.str "<=")) (aCons (evC (.str "(")) (aCons (evC (.str ")")) (aCons (evC (.str "[")) (aCons (evC (.str "]")) (aCons (evC (.str "{")) (aCons (evC (.str "}")) (aCons (evC (.str ",")) (aCons (evC (.str ":")) (aCons (evC (.str "+")) (aCons (evC (.str "*")) (aCons (evC (.str ".")) (aNil)))))))))))))))))))))))))))))))) (dSeq (dFor (iRange1 (aCons (bin (gAddT mkF) (evC (.int 4)) (evB gMin (aCons (evB gLen (aCons (evV 0) (aNil))) (aCons (evC (.int 20)) (aNil))))) (aNil))) (dgName 4) (lawB A)) (dRet (bin gIsA (evCallK (r_is_name A) [0] aNil (aCons (evCall (r_law_pick A) (aCons (evV 1) (aCons (evLst mkF (aCons (evC .non) (aCons (evC (.int 5)) (aCons (evC (.bl true)) (aCons (evLst mkF (aCons (evC (.str "a")) (aNil))) (aCons (evC (.str "")) (aCons (evC (.str "abcdefghi")) (aCons (evC (.str "Z")) (aCons (evC (.str "a b")) (aCons (evTup (aCons (evC (.str "a")) (aNil))) (aNil))))))))))) (aNil)))) (aNil))) (evC (.bl false))))))))) := rfl
def someL : D := .lst [.str "a", .str "b", .str "z", .str "if", .str "cases", .str "leaf", .str "A", .str "0", .str "1", .str "7", .str "-", .str "-", .str "_", .str "$", .str "<", .str "=", .str "==", .str "<=", .str "(", .str ")", .str "[", .str "]", .str "{", .str "}", .str ",", .str ":", .str "+", .str "*", .str "."]
def piece (x : D) : Prop := ∃ m, x = .str (tx m) ∧ m.length ≤ 10 ∧ textOk m = true
def someXs : List D := match someL with
  | .lst xs => xs
  | _ => []
theorem piece_str {y : Str} (h1 : y.length ≤ 10) (h2 : textOk y.cps.toList = true) : piece (.str y) := small_x ⟨y, rfl, h1, h2⟩
theorem some_pieces : ∀ x ∈ someXs, piece x := by
  intro x hx
  have e : ∀ x ∈ someXs, ∃ y : Str, x = .str y ∧ y ∈ (["a", "b", "z", "if", "cases", "leaf", "A", "0", "1", "7", "-", "-", "_", "$", "<", "=", "==", "<=", "(", ")", "[", "]", "{", "}", ",", ":", "+", "*", "."] : List Str) := by
    intro x hx
    have hx' : x ∈ (["a", "b", "z", "if", "cases", "leaf", "A", "0", "1", "7", "-", "-", "_", "$", "<", "=", "==", "<=", "(", ")", "[", "]", "{", "}", ",", ":", "+", "*", "."] : List Str).map D.str := hx
    obtain ⟨y, hy, e⟩ := List.mem_map.mp hx'
    exact ⟨y, e.symm, hy⟩
  obtain ⟨y, rfl, hy⟩ := e x hx
  have z : (["a", "b", "z", "if", "cases", "leaf", "A", "0", "1", "7", "-", "-", "_", "$", "<", "=", "==", "<=", "(", ")", "[", "]", "{", "}", ",", ":", "+", "*", "."] : List Str).all (fun y => decide (y.length ≤ 10) && textOk y.cps.toList) = true := by decide +kernel
  have z2 := List.all_eq_true.mp z y hy
  rw [Bool.and_eq_true] at z2
  exact piece_str (of_decide_eq_true z2.1) z2.2
theorem sign_x {k : Int} (h0 : 0 ≤ k) (h1 : k < 94) (q : ∀ c, plainS c = true → Q (.str (tx [c])) S) : gIx (.str " !\"#$&'()*+,-./0123456789:;<=>?@ABCDEFGHIJKLMNOPQRSTUVWXYZ[\\]^_`abcdefghijklmnopqrstuvwxyz{|}~") (.int k) S Q := by
  have e : ∃ l : List Nat, Str.ofString " !\"#$&'()*+,-./0123456789:;<=>?@ABCDEFGHIJKLMNOPQRSTUVWXYZ[\\]^_`abcdefghijklmnopqrstuvwxyz{|}~" = tx l ∧ l.length = 94 ∧ l.all plainS = true := ⟨List.range' 32 5 ++ List.range' 38 89, by decide +kernel, by decide, by decide +kernel⟩
  obtain ⟨l, e1, e2, e3⟩ := e
  rw [e1]
  have hk : k.toNat < l.length := by omega
  refine ix_i (k := k.toNat) (by omega) (List.getElem?_eq_getElem hk) (by omega) (q _ ?_)
  exact List.all_eq_true.mp e3 _ (List.getElem_mem hk)
theorem lawP_ok {a w p7 : Addr} {b : Nat} {xs : List D} {zs : List (List Nat)} {S0 : Store} {x0 x2 x4 x6 x8 x9 x10 x11 x12 x13 x14 : Option D} {N : DEnds} (hxs : ∀ x ∈ xs, piece x) (hxl : xs.length ≤ 10) (h : Dg S a w (b + 2)) (k : Kp S0 S a w) (f7 : S0 p7 = none) (n7 : p7 ≠ a ∧ p7 ≠ w) (h7 : S p7 = some (.lst (zs.map fun z => .str (tx z)))) (hz : zs.length ≤ 100)
    (q : ∀ (m : List Nat) (y8 : Option D) (S' : Store), m.length ≤ 10 → textOk m = true → Dg S' a w b → Kp S0 S' a w → S' p7 = some (.lst ((zs ++ [m]).map fun z => .str (tx z))) → N.nx [x0, some (.ref a), x2, some someL, x4, some (.lst xs), x6, some (.ref p7), y8, x9, x10, x11, x12, x13, x14] S') :
    lawP A [x0, some (.ref a), x2, some someL, x4, some (.lst xs), x6, some (.ref p7), x8, x9, x10, x11, x12, x13, x14] S N := by
  unfold lawP someL
  walk_at "mp_s"
  unfold r_law_signs
  walk_at "mp_s"
  refine take_g (b := b + 1) h (by decide) (by decide) fun r S1 r0 r1 d1 k1 => ?_
  refine sign_x r0 r1 fun c hc => ?_
  have h71 := k1 _ _ n7.1 n7.2 h7
  walk_at "mp_s"
  refine evM_i ?_
  walk_at "mp_s"
  refine ⟨by rw [vw_l h71]; rfl, ?_⟩
  walk_at "mp_s"
  refine gAddT_l (Nat.le_trans (Nat.add_le_add (show _ ≤ 29 by decide) hxl) (by decide)) ?_
  walk_at "mp_s"
  refine gAddT_l (by rw [List.length_append]; exact Nat.le_trans (Nat.add_le_add (Nat.add_le_add (show _ ≤ 29 by decide) hxl) (show _ ≤ 7 by decide)) (by decide)) ?_
  walk_at "mp_s"
  refine mkM_i fun p hp => ?_
  have d2 := d1.set (c := p) (o := .lst [.str (tx [c])]) (fun z => by subst z; exact d1.at hp) (fun z => by subst z; exact d1.wt hp)
  have np : p ≠ p7 := fun z => by subst z; rw [h71] at hp; cases hp
  have h72 : (S1.set p (.lst [.str (tx [c])])) p7 = some (.lst (zs.map fun z => .str (tx z))) := by rw [set_off np.symm]; exact h71
  have k2 : Kp S0 (S1.set p (.lst [.str (tx [c])])) a w := fun b o n1 n2 e => by
    have z := k1 b o n1 n2 (k b o n1 n2 e)
    rw [set_off (fun e2 => by subst e2; rw [hp] at z; cases z)]
    exact z
  walk_at "mp_s"
  refine gMulB_l (xs := [.str (tx [c])]) set_at (by decide) (by decide) (show (1 : Nat) * 9 ≤ sizeLine by decide) ?_
  walk_at "mp_s"
  refine gAddT_l (by simp only [List.length_append]; exact Nat.le_trans (Nat.add_le_add (Nat.add_le_add (Nat.add_le_add (show _ ≤ 29 by decide) hxl) (show _ ≤ 7 by decide)) (show _ ≤ 9 from Nat.le_refl 9)) (by decide)) ?_
  walk_at "mp_s"
  refine pick_g (b := b) d2 (fun z => nomatch z) (by simp only [List.length_append]; exact Nat.lt_of_le_of_lt (Nat.add_le_add (Nat.add_le_add (Nat.add_le_add (show _ ≤ 29 by decide) hxl) (show _ ≤ 7 by decide)) (show _ ≤ 9 from Nat.le_refl 9)) (by decide)) fun x S3 hx d3 k3 => ?_
  have hpx : piece x := by
    rcases List.mem_append.1 hx with hx | hx
    · rcases List.mem_append.1 hx with hx | hx
      · rcases List.mem_append.1 hx with hx | hx
        · exact some_pieces x hx
        · exact hxs x hx
      · simp only [List.mem_cons, List.not_mem_nil, or_false] at hx
        rcases hx with rfl | rfl | rfl | rfl | rfl | rfl | rfl <;> exact piece_str (by decide +kernel) (by decide +kernel)
    · have hx' : x ∈ List.replicate 9 (D.str (tx [c])) := hx
      rw [(List.mem_replicate.mp hx').2]
      refine ⟨[c], rfl, show (1 : Nat) ≤ 10 by decide, ?_⟩
      unfold textOk signOk
      simp [hc]
  obtain ⟨m, rfl, hm, ht⟩ := hpx
  have h73 := k3 _ _ n7.1 n7.2 h72
  walk_at "mp_s"
  refine append_ok h73 (Nat.lt_of_le_of_lt (m := 100) (by rw [List.length_map]; omega) (by decide)) ?_
  walk_at "mp_s"
  refine q m _ _ hm ht (d3.set n7.1 n7.2) ((k2.trans k3).set f7) ?_
  rw [set_at, List.map_append]
  rfl
end K01

set_option Elab.async false
set_option linter.all false
set_option maxRecDepth 100000
set_option maxHeartbeats 4100000
/-! the law's turn -/
namespace K01
open PySem PySem.Spec PyProof.Rows L2 MP
variable {A : Ad} {S : Store} {Q : Post} {E : XPost}
/-- a word that is one by itself -/
structure Good (m : List Nat) : Prop where
  wd : Wd1 m
  tx : textOk m = true
  le : m.length ≤ 900
theorem repr_bl {b : Bool} {Q : Post} (q : Q (.str (PyData.bool b).shown) S) : gRepr [.bl b] S Q := by
  refine gRepr_i (p := .bool b) rfl ?_ ?_ ?_ ?_ q <;> cases b <;> decide +kernel
theorem lawW_ok {m : List Nat} (h : Good m) {x0 x1 x3 x4 x5 x6 x7 x8 x9 x10 x11 x12 x13 x14 : Option D} {N : DEnds} (q : ∀ S', Ext S S' → N.nx [x0, x1, some (.str (tx m)), x3, x4, x5, x6, x7, x8, x9, x10, x11, x12, x13, x14] S') :
    lawW A [x0, x1, some (.str (tx m)), x3, x4, x5, x6, x7, x8, x9, x10, x11, x12, x13, x14] S N := by
  have hl : m.length ≤ 1000 := by have := h.le; omega
  have h1 := wd1_one h.wd (text_lay h.tx)
  unfold lawW
  walk_at "mp_s"
  refine sort_of_str hl h.tx (fun _ S1 k1 => ?_) fun e => by rw [h1] at e; cases e
  walk_at "mp_s"
  refine law_sort_ok hl ?_
  walk_at "mp_s"
  rw [beq_self_eq_true]
  walk_at "mp_s"
  show r_sort_of A [.str (tx m)] S1 _ _
  refine sort_of_str hl h.tx (fun _ S2 k2 => ?_) fun e => by rw [h1] at e; cases e
  walk_at "mp_s"
  refine law_sort_ok hl ?_
  walk_at "mp_s"
  rw [beq_self_eq_true]
  walk_at "mp_s"
  refine is_name_ok (tx_ok hl) ?_
  walk_at "mp_s"
  refine repr_bl ?_
  walk_at "mp_s"
  refine law_is_name_ok (tx_ok hl) ?_
  walk_at "mp_s"
  refine repr_bl ?_
  walk_at "mp_s"
  rw [beq_self_eq_true]
  walk_at "mp_s"
  exact q S2 (k1.trans k2)
theorem words_of_fr {l : List Nat} (hl : l.length ≤ 1000) (ht : textOk l = true) (q : ∀ p S', S p = none → S' p = some (.lst (words l.length l 1 1)) → Ext S S' → Q (.ref p) S') : r_words_of A [.str (tx l)] S Q E := by
  unfold r_words_of
  walk_at "mp_s"
  refine is_text_str hl ?_
  rw [ht]
  walk_at "mp_s"
  exact cut_ok hl fun p S' n h b => q p S' n h (b.ext n)
theorem dg_free {a w p : Addr} {b : Nat} (d : Dg S a w b) (h : S p = none) : p ≠ a ∧ p ≠ w := ⟨fun z => by subst z; exact d.at h, fun z => by subst z; exact d.wt h⟩
theorem lawR_ok (hA : A.Ok) {a w : Addr} {b : Nat} {l : List Nat} {ns : List (List Nat)} {x0 x2 x3 x4 x6 x7 x8 x10 x11 x12 x13 x14 : Option D} {N : DEnds} (hg : Dg S a w (b + 1000)) (hs : S A.t_law_refused_right = some (.tab ("_law_refused_right.<locals>." ++ "<lambda>"))) (hl : l.length ≤ 400) (ht : textOk l = true) (hn : ∀ z ∈ ns, nameL z) (hnl : ns.length ≤ 10)
    (q : ∀ (S' : Store) (y2 y10 y11 y12 y13 y14 : Option D), Dg S' a w b → Kp S S' a w → N.nx [x0, some (.ref a), y2, x3, x4, some (.lst (ns.map fun z => .str (tx z))), x6, x7, x8, some (.str (tx l)), y10, y11, y12, y13, y14] S') :
    lawR A [x0, some (.ref a), x2, x3, x4, some (.lst (ns.map fun z => .str (tx z))), x6, x7, x8, some (.str (tx l)), x10, x11, x12, x13, x14] S N := by
  have hl' : l.length ≤ 1000 := by omega
  have hy := text_lay ht
  unfold lawR
  refine dSeq_i (dFzV_i ?_)
  walk_at "mp_s"
  refine law_cut_ok hl' fun p S1 hp h1 hb => ?_
  dsimp only []
  refine fzv_l (i := 10) (p := p) rfl h1 ?_
  have ⟨pa, pw⟩ := dg_free hg hp
  have xx1 := hb.ext hp
  have d1 : Dg (S1.del p) a w (b + 1000) := (xx1.dg hg).del pa pw
  have k1 : Kp S (S1.del p) a w := xx1.kp.del hp
  generalize S1.del p = S2 at d1 k1 ⊢
  walk_at "mp_s"
  refine words_of_fr hl' ht fun p2 S3 hp2 h2 xx2 => ?_
  walk_at "mp_s"
  refine same_ne hy h2 rfl ?_
  walk_at "mp_s"
  refine evM_i ?_
  walk_at "mp_s"
  refine ⟨by rw [vw_l h2]; rfl, ?_⟩
  walk_at "mp_s"
  have hwl : (words l.length l 1 1).length ≤ 400 := by
    rw [words_wt, List.length_map]
    exact Nat.le_trans (wt_len _ _ _ _) hl
  refine append_ok h2 (Nat.lt_of_le_of_lt hwl (by decide)) ?_
  have ⟨qa, qw⟩ := dg_free d1 hp2
  have d3 : Dg (S3.set p2 (.lst (words l.length l 1 1 ++ [.non]))) a w (b + 1000) := (xx2.dg d1).set qa qw
  have k3 : Kp S (S3.set p2 (.lst (words l.length l 1 1 ++ [.non]))) a w := fun c o n1 n2 e => by
    have z := k1 c o n1 n2 e
    have z2 := xx2 c o z
    rw [set_off (fun e2 => by subst e2; rw [hp2] at z; cases z)]
    exact z2
  generalize S3.set p2 (.lst (words l.length l 1 1 ++ [.non])) = S4 at d3 k3 ⊢
  walk_at "mp_s"
  show r_words_of A [.str (tx l)] S4 _ _
  refine words_of_fr hl' ht fun p3 S5 hp3 h3 xx3 => ?_
  walk_at "mp_s"
  refine same_ne hy h3 rfl ?_
  walk_at "mp_s"
  have d5 := xx3.dg d3
  have k5 : Kp S S5 a w := k3.trans xx3.kp
  have names : ∀ z ∈ ns, Good z := fun z hz => ⟨name_wd (hn z hz), name_text (hn z hz), by have := name_len (hn z hz); omega⟩
  refine comp_all (fun z => D.str (tx z)) (fun z => encW (z, 1, 1)) ns (fun z _ k hk => ?_) (Nat.le_trans hnl (by decide)) ?_
  · walk_at "mp_s"
    exact hk
  walk_at "mp_s"
  refine gAddT_l (by rw [List.length_map]; exact Nat.le_trans (Nat.add_le_add hwl hnl) (by decide)) ?_
  walk_at "mp_s"
  refine loop_ind (fun ds ρ S' => (∃ ts : List (List Nat × Int × Int), ds = ts.map encW ∧ ∀ t ∈ ts, Good t.1) ∧ Dg S' a w (b + 1000) ∧ Kp S S' a w ∧ ∃ y2 y12 y13 y14, ρ = [x0, some (.ref a), y2, x3, x4, some (.lst (ns.map fun z => .str (tx z))), x6, x7, x8, some (.str (tx l)), some (.lst (words l.length l 1 1)), some (.ref p2), y12, y13, y14]) ?_ ?_ _ _ _ ⟨⟨wt l.length l 1 1 ++ ns.map fun z => (z, 1, 1), ?_, fun t htm => ?_⟩, d5, k5, _, _, _, _, rfl⟩
  · rintro d ds ρ S6 ih ⟨⟨ts, e, hts⟩, d6, k6, y2, y12, y13, y14, rfl⟩
    cases ts with
    | nil => cases e
    | cons t ts =>
    rw [List.map_cons] at e
    injection e with e1 e2
    subst e1 e2
    unfold encW
    walk_at "mp_s"
    refine lawW_ok (hts t List.mem_cons_self) fun S7 xx7 => ?_
    exact ih _ _ ⟨⟨ts, rfl, fun t h => hts t (List.mem_cons_of_mem _ h)⟩, xx7.dg d6, k6.trans xx7.kp, _, _, _, _, rfl⟩
  · rintro ρ S6 ⟨-, d6, k6, y2, y12, y13, y14, rfl⟩
    walk_at "mp_s"
    refine refused_ok hA d6 (tab_dg hs hg k6) (by omega) (by omega) ht fun S7 d7 k7 => ?_
    walk_at "mp_s"
    exact q S7 _ _ _ _ _ _ d7 (k6.trans k7)
  · rw [words_wt, List.map_append, List.map_map]
    rfl
  · rcases List.mem_append.1 htm with h | h
    · obtain ⟨u1, u2⟩ := wt_words l.length l 1 1 t h
      exact ⟨u1, text_sub ht u2, by have := wt_wlen l.length l 1 1 t h; omega⟩
    · obtain ⟨z, hz, rfl⟩ := List.mem_map.mp h
      exact names z hz
theorem lawB_ok (hA : A.Ok) {a w : Addr} {b : Nat} {x0 x2 x4 x5 x6 x7 x8 x9 x10 x11 x12 x13 x14 : Option D} {N : DEnds} (hg : Dg S a w (b + 1200)) (hs : S A.t_law_refused_right = some (.tab ("_law_refused_right.<locals>." ++ "<lambda>")))
    (q : ∀ (S' : Store) (y2 y5 y6 y7 y8 y9 y10 y11 y12 y13 y14 : Option D), Dg S' a w b → Kp S S' a w → N.nx [x0, some (.ref a), y2, some someL, x4, y5, y6, y7, y8, y9, y10, y11, y12, y13, y14] S') :
    lawB A [x0, some (.ref a), x2, some someL, x4, x5, x6, x7, x8, x9, x10, x11, x12, x13, x14] S N := by
  unfold lawB
  walk_at "mp_s"
  refine iRange1_i ?_
  walk_at "mp_s"
  refine ⟨by decide, by decide, ?_⟩
  refine comp_gen (fun ds acc S' => ∃ ns : List (List Nat), acc = ns.map (fun z => D.str (tx z)) ∧ (∀ z ∈ ns, nameL z) ∧ ns.length + ds.length = 2 ∧ Dg S' a w (b + 1170 + 12 * ds.length) ∧ Kp S S' a w) ?_ ?_ _ _ _ ⟨[], rfl, (fun _ z => nomatch z), by decide, hg.mono (by rw [show (rangeD 0 (Int.toNat 2)).length = 2 by decide]; omega), Kp.refl S a w⟩
  · rintro d ds acc S1 ⟨ns, rfl, hn, hl, d1, k1⟩ k hq
    walk_at "mp_s"
    refine any_name_ok (b := b + 1170 + 12 * ds.length) (d1.mono (by simp only [List.length_cons]; omega)) fun z S2 hz d2 k2 => ?_
    refine hq _ S2 ⟨by rw [List.length_map]; exact Nat.lt_of_le_of_lt (m := 2) (by simp only [List.length_cons] at hl; omega) (by decide), ns ++ [z], by rw [List.map_append]; rfl, fun y hy => ?_, by rw [List.length_append, List.length_singleton]; simp only [List.length_cons] at hl; omega, d2, k1.trans k2⟩
    rcases List.mem_append.1 hy with hy | hy
    · exact hn y hy
    · rw [List.mem_singleton] at hy
      subst hy
      exact hz
  rintro acc S1 ⟨ns, rfl, hn, hl, d1, k1⟩
  have hl2 : ns.length = 2 := by simpa using hl
  walk_at "mp_s"
  refine mkM_i fun p7 hp7 => ?_
  have ⟨pa, pw⟩ := dg_free d1 hp7
  have f7 : S p7 = none := (k1.free d1 hp7).1
  have d2 : Dg (S1.set p7 (.lst [])) a w (b + 1170) := (d1.mono (by simp)).set pa pw
  have k2 : Kp S (S1.set p7 (.lst [])) a w := k1.set f7
  have h7 : (S1.set p7 (.lst [])) p7 = some (.lst (([] : List (List Nat)).map fun z => D.str (tx z))) := set_at
  generalize S1.set p7 (.lst []) = S2 at d2 k2 h7 ⊢
  walk_at "mp_s"
  refine dFzV_i ?_
  walk_at "mp_s"
  refine iRange1_i ?_
  walk_at "mp_s"
  refine take_g (b := b + 1169) d2 (by decide) (by decide) fun r S3 r0 r1 d3 k3 => ?_
  walk_at "mp_s"
  refine ⟨by omega, by omega, ?_⟩
  have hr : r.toNat ≤ 39 := by omega
  generalize r.toNat = n at hr
  have hxs : ∀ x ∈ ns.map (fun z => D.str (tx z)), piece x := fun x hx => by
    obtain ⟨z, hz, rfl⟩ := List.mem_map.mp hx
    exact ⟨z, rfl, name_len (hn z hz), name_text (hn z hz)⟩
  refine loop_ind (fun ds ρ S' => ∃ zs : List (List Nat), zs.length + ds.length = n ∧ zs.flatten.length ≤ 10 * zs.length ∧ textOk zs.flatten = true ∧ S' p7 = some (.lst (zs.map fun z => .str (tx z))) ∧ Dg S' a w (b + 1069 + 2 * ds.length) ∧ Kp S S' a w ∧ ∃ y6 y8, ρ = [x0, some (.ref a), x2, some someL, x4, some (.lst (ns.map fun z => .str (tx z))), y6, some (.ref p7), y8, x9, x10, x11, x12, x13, x14]) ?_ ?_ _ _ _ ⟨[], ?_, Nat.le_refl _, rfl, k3 _ _ pa pw h7, d3.mono ?_, k2.trans k3, _, _, rfl⟩
  · rintro d ds ρ S4 ih ⟨zs, hz, hf, ht, e7, d4, k4, y6, y8, rfl⟩
    walk_at "mp_s"
    refine lawP_ok (b := b + 1069 + 2 * ds.length) hxs (by rw [List.length_map]; omega) (d4.mono (by simp only [List.length_cons]; omega)) k4 f7 ⟨pa, pw⟩ e7 (by simp only [List.length_cons] at hz; omega) fun m z8 S5 hm hmt d5 k5 e5 => ?_
    refine ih _ _ ⟨zs ++ [m], by rw [List.length_append, List.length_singleton]; simp only [List.length_cons] at hz; omega, ?_, ?_, e5, d5, k5, _, _, rfl⟩
    · rw [List.flatten_append, List.length_append, List.length_append, List.flatten_singleton, List.length_singleton]
      omega
    · rw [List.flatten_append, List.flatten_singleton]
      exact text_app ht hmt
  · rintro ρ S4 ⟨zs, hz, hf, ht, e7, d4, k4, y6, y8, rfl⟩
    have hz' : zs.length = n := by simpa using hz
    dsimp only []
    refine fzv_l (i := 7) (p := p7) rfl e7 ?_
    have d5 : Dg (S4.del p7) a w (b + 1000) := (d4.mono (by omega)).del pa pw
    have k5 : Kp S (S4.del p7) a w := k4.del f7
    generalize S4.del p7 = S5 at d5 k5 ⊢
    walk_at "mp_s"
    refine evM_i ?_
    walk_at "mp_s"
    refine ⟨rfl, ?_⟩
    walk_at "mp_s"
    refine join_x (by omega) ?_
    walk_at "mp_s"
    refine lawR_ok hA (b := b) (ns := ns) (l := zs.flatten) d5 (tab_dg hs hg k5) (by omega) ht hn (by omega) fun S6 y2 y10 y11 y12 y13 y14 d6 k6 => ?_
    exact q S6 _ _ _ _ _ _ _ _ _ _ _ d6 (k5.trans k6)
  · unfold rangeD
    rw [List.length_map, List.length_range]
    simp
  · unfold rangeD
    rw [List.length_map, List.length_range]
    omega
end K01

set_option Elab.async false
set_option linter.all false
set_option maxRecDepth 100000
set_option maxHeartbeats 4100000
/-! the law holds -/
namespace K01
open PySem PySem.Spec PyProof.Rows L2 MP
variable {A : Ad} {S : Store} {Q : Post} {E : XPost}
def keptS : List Str := ["and", "cases", "cell", "else", "fewest", "fork", "from", "greatest", "if", "input", "leaf", "least", "most", "not", "of", "or", "place", "row", "settle", "start", "sum", "then", "to"]
def lawS : List Str := ["and", "cases", "cell", "else", "fewest", "from", "greatest", "if", "input", "least", "most", "not", "of", "or", "place", "row", "settle", "start", "sum", "then", "to", "fork", "leaf"]
def leS (a b : Str) : Prop := ltCps b.cps.toList a.cps.toList = false
theorem leS_iff {a b : Str} : leS a b ↔ a.cps.toList ≤ b.cps.toList := by
  unfold leS
  rw [ltCps_eq, decide_eq_false_iff_not, List.not_lt]
theorem leS_trans {a b c : Str} (h : leS a b) (k : leS b c) : leS a c := leS_iff.mpr (List.le_trans (leS_iff.mp h) (leS_iff.mp k))
theorem leS_anti {a b : Str} (h : leS a b) (k : leS b a) : a = b := by
  have e := List.le_antisymm (leS_iff.mp h) (leS_iff.mp k)
  rw [tx_of a, tx_of b, e]
theorem rising_pw : ∀ (l : List Str) (p : Str), risingS p l = true → (p :: l).Pairwise leS
  | [], p, _ => List.pairwise_singleton _ _
  | x :: r, p, h => by
    have h' : (!ltCps x.cps.toList p.cps.toList && risingS x r) = true := h
    rw [Bool.and_eq_true] at h'
    have ih := rising_pw r x h'.2
    have h1 : leS p x := by
      have z := h'.1
      rw [Bool.not_eq_true'] at z
      exact z
    refine List.pairwise_cons.mpr ⟨fun y hy => ?_, ih⟩
    rcases List.mem_cons.mp hy with rfl | hy
    · exact h1
    · exact leS_trans h1 ((List.pairwise_cons.mp ih).1 y hy)
theorem sorted_pw (l : List Str) (h : sortedS l = true) : l.Pairwise leS := by
  cases l with
  | nil => exact List.Pairwise.nil
  | cons x r => exact rising_pw r x h
theorem sorted_kept {ys : List Str} (p : ys.Perm lawS) (h : sortedS ys = true) : ys = keptS :=
  List.Perm.eq_of_pairwise (le := leS) (fun _ _ _ _ h k => leS_anti h k) (sorted_pw _ h) (sorted_pw _ (by decide +kernel)) (p.trans (by decide +kernel))
theorem sortS_i {mk : MkT} {d : D} {zs : List Str} (e : lstW (vw d S) = some (zs.map D.str)) (hl : zs.length < 64) (q : ∀ ys : List Str, ys.Perm zs → sortedS ys = true → mk (ys.map D.str) S Q) : gSortS mk [d] S Q := by
  show (match (lstW (vw d S)).bind MP.strs? with
    | some zs => zs.length < 64 ∧ ∀ ys : List Str, ys.Perm zs → sortedS ys = true → mk (ys.map D.str) S Q
    | none => False)
  rw [e, Option.bind_some, MP.strs_map]
  exact ⟨hl, q⟩
def keptP : PyData := .tuple (keptS.map .str)
theorem repr_kept {Q : Post} (q : Q (.str keptP.shown) S) : gRepr [.tup (keptS.map D.str)] S Q := by
  refine gRepr_i (p := keptP) rfl ?_ ?_ ?_ ?_ q <;> decide +kernel
/-- words of letters alone -/
def nameB (l : List Nat) : Bool := match l with
  | c :: r => small26 c && r.all inner && decide (l.length ≤ 10)
  | [] => false
theorem nameB_L {l : List Nat} (h : nameB l = true) : nameL l := by
  cases l with
  | nil => cases h
  | cons c r =>
    have h' : (small26 c && r.all inner && decide ((c :: r).length ≤ 10)) = true := h
    simp only [Bool.and_eq_true, decide_eq_true_eq] at h'
    exact ⟨c, r, rfl, h'.1.1, h'.1.2, h'.2⟩
theorem kept_all : ∀ x ∈ lawS, nameL x.cps.toList ∧ nameOk x = false := fun x hx => by
  have z : lawS.all (fun x => nameB x.cps.toList && !nameOk x) = true := by decide +kernel
  have z2 := List.all_eq_true.mp z x hx
  rw [Bool.and_eq_true] at z2
  exact ⟨nameB_L z2.1, by simpa using z2.2⟩
theorem comp_no {n : Nat} {t : EB} {f : ET} {K : List D → Store → Prop} {ρ : MP.Env} (I : Store → Prop) {ys : List D} (step : ∀ d ∈ ys, ∀ S, I S → ∀ k : Bool → Store → Prop, (∀ S', I S' → k false S') → t (st ρ n (some d)) S k (fun _ _ => False))
    (fin : ∀ S, I S → K [] S) : ∀ ds S, (∀ d ∈ ds, d ∈ ys) → I S → comp (dgName n) t f K ds [] ρ S
  | [], S, _, h => fin S h
  | d :: r, S, hd, h => step d (hd d List.mem_cons_self) S h _ fun S' h' => MP.ite_ff (comp_no I step fin r S' (fun x hx => hd x (List.mem_cons_of_mem _ hx)) h')
theorem last_all : ∀ y ∈ ([.non, .int 5, .bl true, .lst [.str "a"], .str "", .str "abcdefghi", .str "Z", .str "a b", .tup [.str "a"]] : List D), okD 2 y ∧ isName y = false := by
  intro y hy
  simp only [List.mem_cons, List.not_mem_nil, or_false] at hy
  rcases hy with rfl | rfl | rfl | rfl | rfl | rfl | rfl | rfl | rfl
  all_goals first
    | exact ⟨trivial, rfl⟩
    | exact ⟨⟨by decide, fun x hx => by
        rw [List.mem_singleton] at hx
        subst hx
        show Str.length _ ≤ 1000
        decide +kernel⟩, rfl⟩
    | exact ⟨show Str.length _ ≤ 1000 by decide +kernel, by decide +kernel⟩
theorem law_ok {ns : List Int} (hA : A.Ok) (hl : ns.length ≤ 63) (hs : S A.t_law_refused_right = some (.tab ("_law_refused_right.<locals>." ++ "<lambda>"))) (q : ∀ S', Q (.bl true) S') : r_law A [.kls (ns.map .int)] S Q E := by
  rw [law_eq]
  walk_at "mp_s"
  refine begun_ok (by omega) fun a w S1 dr sm ha hw => ?_
  have d1 : Dg S1 a w 40000 := ⟨0, dr, by decide⟩
  have hs1 : S1 A.t_law_refused_right = some (.tab ("_law_refused_right.<locals>." ++ "<lambda>")) := by
    rw [sm _ (fun z => by rw [z, ha] at hs; cases hs) (fun z => by rw [z, hw] at hs; cases hs)]
    exact hs
  clear dr sm ha hw
  walk_at "mp_s"
  show gRepr [.tup (keptS.map D.str)] S1 _
  refine repr_kept ?_
  walk_at "mp_s"
  refine law_kept_ok ?_
  walk_at "mp_s"
  refine gAddT_l (by decide) ?_
  walk_at "mp_s"
  refine sortS_i (zs := lawS) rfl (by decide) fun ys p so => ?_
  rw [sorted_kept p so]
  walk_at "mp_s"
  show gRepr [.tup (keptS.map D.str)] S1 _
  refine repr_kept ?_
  walk_at "mp_s"
  rw [beq_self_eq_true]
  walk_at "mp_s"
  refine law_kept_ok ?_
  walk_at "mp_s"
  refine gAddT_l (by decide) ?_
  walk_at "mp_s"
  refine comp_no (ys := lawS.map D.str) (fun S' => Dg S' a w 40000 ∧ S' A.t_law_refused_right = some (.tab ("_law_refused_right.<locals>." ++ "<lambda>"))) ?_ ?_ _ _ (fun d hd => hd) ⟨d1, hs1⟩
  · rintro d hd S2 ⟨d2, hs2⟩ k hk
    obtain ⟨x, hx, rfl⟩ := List.mem_map.mp hd
    obtain ⟨h1, h2⟩ := kept_all x hx
    have hlx : x.cps.toList.length ≤ 1000 := by have := name_len h1; omega
    have ex := tx_of x
    generalize x.cps.toList = m at ex h1 hlx
    subst ex
    walk_at "mp_s"
    refine is_name_ok (tx_ok hlx) ?_
    show _
    walk_at "mp_s"
    rw [show isName (.str (tx m)) = false from h2]
    walk_at "mp_s"
    refine sort_of_str hlx (name_text h1) (fun _ S3 k3 => ?_) fun e => by rw [wd1_one (name_wd h1) (text_lay (name_text h1))] at e; cases e
    walk_at "mp_s"
    refine law_sort_ok hlx ?_
    walk_at "mp_s"
    rw [beq_self_eq_true]
    walk_at "mp_s"
    exact hk S3 ⟨k3.dg d2, k3 _ _ hs2⟩
  rintro S2 ⟨d2, hs2⟩
  walk_at "mp_s"
  refine gNeE_nil rfl ?_
  walk_at "mp_s"
  refine iRange1_i ?_
  walk_at "mp_s"
  have hr : ∀ z : Int, 0 ≤ z → z ≤ 63 → 0 ≤ 4 + (if (20 : Int) < z then 20 else z) ∧ 4 + (if (20 : Int) < z then 20 else z) ≤ 24 := fun z h0 h1 => by split <;> omega
  obtain ⟨m0, m1⟩ := hr ((ns.map D.int).length : Int) (by omega) (by rw [List.length_map]; omega)
  generalize 4 + (if (20 : Int) < ((ns.map D.int).length : Int) then 20 else ((ns.map D.int).length : Int)) = m at m0 m1 ⊢
  refine ⟨by omega, by omega, ?_⟩
  refine loop_ind (fun ds ρ S' => Dg S' a w (100 + 1200 * ds.length) ∧ S' A.t_law_refused_right = some (.tab ("_law_refused_right.<locals>." ++ "<lambda>")) ∧ ∃ y2 y4 y5 y6 y7 y8 y9 y10 y11 y12 y13 y14, ρ = [some (.kls (ns.map .int)), some (.ref a), y2, some someL, y4, y5, y6, y7, y8, y9, y10, y11, y12, y13, y14]) ?_ ?_ _ _ _ ⟨?_, hs2, ?_⟩
  · rintro d ds ρ S3 ih ⟨d3, hs3, y2, y4, y5, y6, y7, y8, y9, y10, y11, y12, y13, y14, rfl⟩
    refine dgName_i ?_
    refine lawB_ok hA (b := 100 + 1200 * ds.length) (d3.mono (by simp only [List.length_cons]; omega)) hs3 fun S4 z2 z5 z6 z7 z8 z9 z10 z11 z12 z13 z14 d4 k4 => ?_
    exact ih _ _ ⟨d4, tab_dg hs3 d3 k4, _, _, _, _, _, _, _, _, _, _, _, _, rfl⟩
  · rintro ρ S3 ⟨d3, hs3, y2, y4, y5, y6, y7, y8, y9, y10, y11, y12, y13, y14, rfl⟩
    walk_at "mp_s"
    refine pick_g (b := 99) d3 (fun z => nomatch z) (by decide) fun x S4 hx d4 k4 => ?_
    obtain ⟨o1, o2⟩ := last_all x hx
    walk_at "mp_s"
    show r_is_name A [x] S4 _ _
    refine is_name_ok o1 ?_
    rw [o2]
    walk_at "mp_s"
    exact q _
  · unfold rangeD
    rw [List.length_map, List.length_range]
    exact d2.mono (by omega)
  · exact ⟨_, _, _, _, _, _, _, _, _, _, _, _, rfl⟩
end K01

set_option Elab.async false
set_option linter.all false
set_option maxRecDepth 100000
set_option maxHeartbeats 4100000
/-! the end -/
namespace K01
open PySem PySem.Spec PyProof.Rows L2 MP

theorem rels_ints {K : PySem.W.Frag} {H : Hp} : ∀ ns : List Int, Rels K H (ns.map D.int) (ns.map V.int)
  | [] => rfl
  | n :: r => ⟨.int n, r.map V.int, rfl, rfl, rels_ints r⟩
theorem kit_ve {K : PySem.W.Frag} {C : Addr} (h : PySem.W.subIn K (.ref C) (.type "ValueError") = some true) : PySem.W.kitOne K (.ref C) (.type "ValueError") = some true := by
  unfold PySem.W.kitOne
  split
  · rfl
  · show (if PySem.W.kitMeta "ValueError" = true then PySem.W.subIn K (.ref C) (.type "ValueError") else none) = some true
    rw [if_pos (by decide)]
    exact h
/-- what the head says of a class -/
structure ClsF (K : PySem.W.Frag) (C : Addr) : Prop where
  x : PySem.W.excIn K C [.type "ValueError", .type "Exception", .type "BaseException", .type "object"] "ValueError.__new__" = true
  k : PySem.W.keepIn K (.ref C) = true
  e : PySem.W.subIn K (.ref C) (.type "BaseException") = some true
  t : PySem.W.typeIn K (.ref C) = some (.type "type")
  i : PySem.W.isClsIn K C = true
  c : ExcC K C
theorem kit_own {K : PySem.W.Frag} {B C : Addr} {b : Bool} (hi : PySem.W.isClsIn K C = true) (ht : PySem.W.typeIn K (.ref C) = some (.type "type")) (hs : PySem.W.subIn K (.ref B) (.ref C) = some b) (hd : B = C → b = true) : PySem.W.kitOne K (.ref B) (.ref C) = some b ∧ PySem.W.kitCls K (.ref B) (.ref C) = some b := by
  have e2 : ((PySem.W.clsIn K C).isSome && PySem.W.typeIn K (.ref C) == some (.type "type")) = true := by
    have h2 : (PySem.W.clsIn K C).isSome = true := hi
    rw [h2, ht]
    rfl
  have z : PySem.W.kitCls K (.ref B) (.ref C) = some b := by
    show (if ((PySem.W.clsIn K C).isSome && PySem.W.typeIn K (.ref C) == some (.type "type")) = true then PySem.W.subIn K (.ref B) (.ref C) else none) = some b
    rw [if_pos e2, hs]
  refine ⟨?_, z⟩
  unfold PySem.W.kitOne
  split
  · rename_i h
    have h' := eq_of_beq h
    injection h' with h'
    rw [hd h']
  · exact z
theorem exm_own {K : PySem.W.Frag} {B C : Addr} {b : Bool} (he : PySem.W.subIn K (.ref C) (.type "BaseException") = some true) (h : PySem.W.kitCls K (.ref B) (.ref C) = some b) : PySem.W.exmOne K (.ref B) (.ref C) = some b := by
  unfold PySem.W.exmOne
  rw [he]
  exact h
theorem all_mk {l : PySem.W.OpenLaw} {q : Program} {w : World} {K : PySem.W.Frag} {h : Heap} {mg : Str → Option Value} {fa : Addr} (X : K.In h) (G : h.Ns mainGlobals mg) (TT : TabT q mg h) (hfa : mg "law" = some (.ref fa))
    {f_is_name : Addr} {oc_is_name kV_is_name dc_is_name pm_is_name cd_is_name ct_is_name : Value} {od_is_name an_is_name : Option Addr} {sl_is_name : Array (Option Value)}
    (a_is_name : PySem.W.nsIn K mainGlobals "is_name" = some (some (.ref f_is_name))) (l_is_name : K.lookup f_is_name = some ⟨oc_is_name, od_is_name, .func (PySem.W.fnOf "is_name" "is_name" (defArgs s_is_name) (defBody s_is_name) (defScope s_is_name) .none kV_is_name dc_is_name pm_is_name an_is_name cd_is_name ct_is_name), sl_is_name⟩) (c_is_name : PySem.W.codeIn K cd_is_name "is_name" = true) (k_is_name : PySem.W.keepIn K (.ref f_is_name) = true)
    {f_is_number_word : Addr} {oc_is_number_word kV_is_number_word dc_is_number_word pm_is_number_word cd_is_number_word ct_is_number_word : Value} {od_is_number_word an_is_number_word : Option Addr} {sl_is_number_word : Array (Option Value)}
    (a_is_number_word : PySem.W.nsIn K mainGlobals "is_number_word" = some (some (.ref f_is_number_word))) (l_is_number_word : K.lookup f_is_number_word = some ⟨oc_is_number_word, od_is_number_word, .func (PySem.W.fnOf "is_number_word" "is_number_word" (defArgs s_is_number_word) (defBody s_is_number_word) (defScope s_is_number_word) .none kV_is_number_word dc_is_number_word pm_is_number_word an_is_number_word cd_is_number_word ct_is_number_word), sl_is_number_word⟩) (c_is_number_word : PySem.W.codeIn K cd_is_number_word "is_number_word" = true) (k_is_number_word : PySem.W.keepIn K (.ref f_is_number_word) = true)
    {f_is_text : Addr} {oc_is_text kV_is_text dc_is_text pm_is_text cd_is_text ct_is_text : Value} {od_is_text an_is_text : Option Addr} {sl_is_text : Array (Option Value)}
    (a_is_text : PySem.W.nsIn K mainGlobals "is_text" = some (some (.ref f_is_text))) (l_is_text : K.lookup f_is_text = some ⟨oc_is_text, od_is_text, .func (PySem.W.fnOf "is_text" "is_text" (defArgs s_is_text) (defBody s_is_text) (defScope s_is_text) .none kV_is_text dc_is_text pm_is_text an_is_text cd_is_text ct_is_text), sl_is_text⟩) (c_is_text : PySem.W.codeIn K cd_is_text "is_text" = true) (k_is_text : PySem.W.keepIn K (.ref f_is_text) = true)
    {f_word_size : Addr} {oc_word_size kV_word_size dc_word_size pm_word_size cd_word_size ct_word_size : Value} {od_word_size an_word_size : Option Addr} {sl_word_size : Array (Option Value)}
    (a_word_size : PySem.W.nsIn K mainGlobals "word_size" = some (some (.ref f_word_size))) (l_word_size : K.lookup f_word_size = some ⟨oc_word_size, od_word_size, .func (PySem.W.fnOf "word_size" "word_size" (defArgs s_word_size) (defBody s_word_size) (defScope s_word_size) .none kV_word_size dc_word_size pm_word_size an_word_size cd_word_size ct_word_size), sl_word_size⟩) (c_word_size : PySem.W.codeIn K cd_word_size "word_size" = true) (k_word_size : PySem.W.keepIn K (.ref f_word_size) = true)
    {f_cut : Addr} {oc_cut kV_cut dc_cut pm_cut cd_cut ct_cut : Value} {od_cut an_cut : Option Addr} {sl_cut : Array (Option Value)}
    (a_cut : PySem.W.nsIn K mainGlobals "cut" = some (some (.ref f_cut))) (l_cut : K.lookup f_cut = some ⟨oc_cut, od_cut, .func (PySem.W.fnOf "cut" "cut" (defArgs s_cut) (defBody s_cut) (defScope s_cut) .none kV_cut dc_cut pm_cut an_cut cd_cut ct_cut), sl_cut⟩) (c_cut : PySem.W.codeIn K cd_cut "cut" = true) (k_cut : PySem.W.keepIn K (.ref f_cut) = true)
    {f_sort_told : Addr} {oc_sort_told kV_sort_told dc_sort_told pm_sort_told cd_sort_told ct_sort_told : Value} {od_sort_told an_sort_told : Option Addr} {sl_sort_told : Array (Option Value)}
    (a_sort_told : PySem.W.nsIn K mainGlobals "sort_told" = some (some (.ref f_sort_told))) (l_sort_told : K.lookup f_sort_told = some ⟨oc_sort_told, od_sort_told, .func (PySem.W.fnOf "sort_told" "sort_told" (defArgs s_sort_told) (defBody s_sort_told) (defScope s_sort_told) .none kV_sort_told dc_sort_told pm_sort_told an_sort_told cd_sort_told ct_sort_told), sl_sort_told⟩) (c_sort_told : PySem.W.codeIn K cd_sort_told "sort_told" = true) (k_sort_told : PySem.W.keepIn K (.ref f_sort_told) = true)
    {f_sort_of : Addr} {oc_sort_of kV_sort_of dc_sort_of pm_sort_of cd_sort_of ct_sort_of : Value} {od_sort_of an_sort_of : Option Addr} {sl_sort_of : Array (Option Value)}
    (a_sort_of : PySem.W.nsIn K mainGlobals "sort_of" = some (some (.ref f_sort_of))) (l_sort_of : K.lookup f_sort_of = some ⟨oc_sort_of, od_sort_of, .func (PySem.W.fnOf "sort_of" "sort_of" (defArgs s_sort_of) (defBody s_sort_of) (defScope s_sort_of) .none kV_sort_of dc_sort_of pm_sort_of an_sort_of cd_sort_of ct_sort_of), sl_sort_of⟩) (c_sort_of : PySem.W.codeIn K cd_sort_of "sort_of" = true) (k_sort_of : PySem.W.keepIn K (.ref f_sort_of) = true)
    {f_words_of : Addr} {oc_words_of kV_words_of dc_words_of pm_words_of cd_words_of ct_words_of : Value} {od_words_of an_words_of : Option Addr} {sl_words_of : Array (Option Value)}
    (a_words_of : PySem.W.nsIn K mainGlobals "words_of" = some (some (.ref f_words_of))) (l_words_of : K.lookup f_words_of = some ⟨oc_words_of, od_words_of, .func (PySem.W.fnOf "words_of" "words_of" (defArgs s_words_of) (defBody s_words_of) (defScope s_words_of) .none kV_words_of dc_words_of pm_words_of an_words_of cd_words_of ct_words_of), sl_words_of⟩) (c_words_of : PySem.W.codeIn K cd_words_of "words_of" = true) (k_words_of : PySem.W.keepIn K (.ref f_words_of) = true)
    {f_law_begun : Addr} {oc_law_begun kV_law_begun dc_law_begun pm_law_begun cd_law_begun ct_law_begun : Value} {od_law_begun an_law_begun : Option Addr} {sl_law_begun : Array (Option Value)}
    (a_law_begun : PySem.W.nsIn K mainGlobals "_law_begun" = some (some (.ref f_law_begun))) (l_law_begun : K.lookup f_law_begun = some ⟨oc_law_begun, od_law_begun, .func (PySem.W.fnOf "_law_begun" "_law_begun" (defArgs s_law_begun) (defBody s_law_begun) (defScope s_law_begun) .none kV_law_begun dc_law_begun pm_law_begun an_law_begun cd_law_begun ct_law_begun), sl_law_begun⟩) (c_law_begun : PySem.W.codeIn K cd_law_begun "_law_begun" = true) (k_law_begun : PySem.W.keepIn K (.ref f_law_begun) = true)
    {f_law_mixed : Addr} {oc_law_mixed kV_law_mixed dc_law_mixed pm_law_mixed cd_law_mixed ct_law_mixed : Value} {od_law_mixed an_law_mixed : Option Addr} {sl_law_mixed : Array (Option Value)}
    (a_law_mixed : PySem.W.nsIn K mainGlobals "_law_mixed" = some (some (.ref f_law_mixed))) (l_law_mixed : K.lookup f_law_mixed = some ⟨oc_law_mixed, od_law_mixed, .func (PySem.W.fnOf "_law_mixed" "_law_mixed" (defArgs s_law_mixed) (defBody s_law_mixed) (defScope s_law_mixed) .none kV_law_mixed dc_law_mixed pm_law_mixed an_law_mixed cd_law_mixed ct_law_mixed), sl_law_mixed⟩) (c_law_mixed : PySem.W.codeIn K cd_law_mixed "_law_mixed" = true) (k_law_mixed : PySem.W.keepIn K (.ref f_law_mixed) = true)
    {f_law_take : Addr} {oc_law_take kV_law_take dc_law_take pm_law_take cd_law_take ct_law_take : Value} {od_law_take an_law_take : Option Addr} {sl_law_take : Array (Option Value)}
    (a_law_take : PySem.W.nsIn K mainGlobals "_law_take" = some (some (.ref f_law_take))) (l_law_take : K.lookup f_law_take = some ⟨oc_law_take, od_law_take, .func (PySem.W.fnOf "_law_take" "_law_take" (defArgs s_law_take) (defBody s_law_take) (defScope s_law_take) .none kV_law_take dc_law_take pm_law_take an_law_take cd_law_take ct_law_take), sl_law_take⟩) (c_law_take : PySem.W.codeIn K cd_law_take "_law_take" = true) (k_law_take : PySem.W.keepIn K (.ref f_law_take) = true)
    {f_law_pick : Addr} {oc_law_pick kV_law_pick dc_law_pick pm_law_pick cd_law_pick ct_law_pick : Value} {od_law_pick an_law_pick : Option Addr} {sl_law_pick : Array (Option Value)}
    (a_law_pick : PySem.W.nsIn K mainGlobals "_law_pick" = some (some (.ref f_law_pick))) (l_law_pick : K.lookup f_law_pick = some ⟨oc_law_pick, od_law_pick, .func (PySem.W.fnOf "_law_pick" "_law_pick" (defArgs s_law_pick) (defBody s_law_pick) (defScope s_law_pick) .none kV_law_pick dc_law_pick pm_law_pick an_law_pick cd_law_pick ct_law_pick), sl_law_pick⟩) (c_law_pick : PySem.W.codeIn K cd_law_pick "_law_pick" = true) (k_law_pick : PySem.W.keepIn K (.ref f_law_pick) = true)
    {f_law_caught : Addr} {oc_law_caught kV_law_caught dc_law_caught pm_law_caught cd_law_caught ct_law_caught : Value} {od_law_caught an_law_caught : Option Addr} {sl_law_caught : Array (Option Value)}
    (a_law_caught : PySem.W.nsIn K mainGlobals "_law_caught" = some (some (.ref f_law_caught))) (l_law_caught : K.lookup f_law_caught = some ⟨oc_law_caught, od_law_caught, .func (PySem.W.fnOf "_law_caught" "_law_caught" (defArgs s_law_caught) (defBody s_law_caught) (defScope s_law_caught) .none kV_law_caught dc_law_caught pm_law_caught an_law_caught cd_law_caught ct_law_caught), sl_law_caught⟩) (c_law_caught : PySem.W.codeIn K cd_law_caught "_law_caught" = true) (k_law_caught : PySem.W.keepIn K (.ref f_law_caught) = true)
    {f_law_kept : Addr} {oc_law_kept kV_law_kept dc_law_kept pm_law_kept cd_law_kept ct_law_kept : Value} {od_law_kept an_law_kept : Option Addr} {sl_law_kept : Array (Option Value)}
    (a_law_kept : PySem.W.nsIn K mainGlobals "_law_kept" = some (some (.ref f_law_kept))) (l_law_kept : K.lookup f_law_kept = some ⟨oc_law_kept, od_law_kept, .func (PySem.W.fnOf "_law_kept" "_law_kept" (defArgs s_law_kept) (defBody s_law_kept) (defScope s_law_kept) .none kV_law_kept dc_law_kept pm_law_kept an_law_kept cd_law_kept ct_law_kept), sl_law_kept⟩) (c_law_kept : PySem.W.codeIn K cd_law_kept "_law_kept" = true) (k_law_kept : PySem.W.keepIn K (.ref f_law_kept) = true)
    {f_law_is_small : Addr} {oc_law_is_small kV_law_is_small dc_law_is_small pm_law_is_small cd_law_is_small ct_law_is_small : Value} {od_law_is_small an_law_is_small : Option Addr} {sl_law_is_small : Array (Option Value)}
    (a_law_is_small : PySem.W.nsIn K mainGlobals "_law_is_small" = some (some (.ref f_law_is_small))) (l_law_is_small : K.lookup f_law_is_small = some ⟨oc_law_is_small, od_law_is_small, .func (PySem.W.fnOf "_law_is_small" "_law_is_small" (defArgs s_law_is_small) (defBody s_law_is_small) (defScope s_law_is_small) .none kV_law_is_small dc_law_is_small pm_law_is_small an_law_is_small cd_law_is_small ct_law_is_small), sl_law_is_small⟩) (c_law_is_small : PySem.W.codeIn K cd_law_is_small "_law_is_small" = true) (k_law_is_small : PySem.W.keepIn K (.ref f_law_is_small) = true)
    {f_law_is_name : Addr} {oc_law_is_name kV_law_is_name dc_law_is_name pm_law_is_name cd_law_is_name ct_law_is_name : Value} {od_law_is_name an_law_is_name : Option Addr} {sl_law_is_name : Array (Option Value)}
    (a_law_is_name : PySem.W.nsIn K mainGlobals "_law_is_name" = some (some (.ref f_law_is_name))) (l_law_is_name : K.lookup f_law_is_name = some ⟨oc_law_is_name, od_law_is_name, .func (PySem.W.fnOf "_law_is_name" "_law_is_name" (defArgs s_law_is_name) (defBody s_law_is_name) (defScope s_law_is_name) .none kV_law_is_name dc_law_is_name pm_law_is_name an_law_is_name cd_law_is_name ct_law_is_name), sl_law_is_name⟩) (c_law_is_name : PySem.W.codeIn K cd_law_is_name "_law_is_name" = true) (k_law_is_name : PySem.W.keepIn K (.ref f_law_is_name) = true)
    {f_law_sort : Addr} {oc_law_sort kV_law_sort dc_law_sort pm_law_sort cd_law_sort ct_law_sort : Value} {od_law_sort an_law_sort : Option Addr} {sl_law_sort : Array (Option Value)}
    (a_law_sort : PySem.W.nsIn K mainGlobals "_law_sort" = some (some (.ref f_law_sort))) (l_law_sort : K.lookup f_law_sort = some ⟨oc_law_sort, od_law_sort, .func (PySem.W.fnOf "_law_sort" "_law_sort" (defArgs s_law_sort) (defBody s_law_sort) (defScope s_law_sort) .none kV_law_sort dc_law_sort pm_law_sort an_law_sort cd_law_sort ct_law_sort), sl_law_sort⟩) (c_law_sort : PySem.W.codeIn K cd_law_sort "_law_sort" = true) (k_law_sort : PySem.W.keepIn K (.ref f_law_sort) = true)
    {f_law_signs : Addr} {oc_law_signs kV_law_signs dc_law_signs pm_law_signs cd_law_signs ct_law_signs : Value} {od_law_signs an_law_signs : Option Addr} {sl_law_signs : Array (Option Value)}
    (a_law_signs : PySem.W.nsIn K mainGlobals "_law_signs" = some (some (.ref f_law_signs))) (l_law_signs : K.lookup f_law_signs = some ⟨oc_law_signs, od_law_signs, .func (PySem.W.fnOf "_law_signs" "_law_signs" (defArgs s_law_signs) (defBody s_law_signs) (defScope s_law_signs) .none kV_law_signs dc_law_signs pm_law_signs an_law_signs cd_law_signs ct_law_signs), sl_law_signs⟩) (c_law_signs : PySem.W.codeIn K cd_law_signs "_law_signs" = true) (k_law_signs : PySem.W.keepIn K (.ref f_law_signs) = true)
    {f_law_inner : Addr} {oc_law_inner kV_law_inner dc_law_inner pm_law_inner cd_law_inner ct_law_inner : Value} {od_law_inner an_law_inner : Option Addr} {sl_law_inner : Array (Option Value)}
    (a_law_inner : PySem.W.nsIn K mainGlobals "_law_inner" = some (some (.ref f_law_inner))) (l_law_inner : K.lookup f_law_inner = some ⟨oc_law_inner, od_law_inner, .func (PySem.W.fnOf "_law_inner" "_law_inner" (defArgs s_law_inner) (defBody s_law_inner) (defScope s_law_inner) .none kV_law_inner dc_law_inner pm_law_inner an_law_inner cd_law_inner ct_law_inner), sl_law_inner⟩) (c_law_inner : PySem.W.codeIn K cd_law_inner "_law_inner" = true) (k_law_inner : PySem.W.keepIn K (.ref f_law_inner) = true)
    {f_law_word_at : Addr} {oc_law_word_at kV_law_word_at dc_law_word_at pm_law_word_at cd_law_word_at ct_law_word_at : Value} {od_law_word_at an_law_word_at : Option Addr} {sl_law_word_at : Array (Option Value)}
    (a_law_word_at : PySem.W.nsIn K mainGlobals "_law_word_at" = some (some (.ref f_law_word_at))) (l_law_word_at : K.lookup f_law_word_at = some ⟨oc_law_word_at, od_law_word_at, .func (PySem.W.fnOf "_law_word_at" "_law_word_at" (defArgs s_law_word_at) (defBody s_law_word_at) (defScope s_law_word_at) .none kV_law_word_at dc_law_word_at pm_law_word_at an_law_word_at cd_law_word_at ct_law_word_at), sl_law_word_at⟩) (c_law_word_at : PySem.W.codeIn K cd_law_word_at "_law_word_at" = true) (k_law_word_at : PySem.W.keepIn K (.ref f_law_word_at) = true)
    {f_law_cut : Addr} {oc_law_cut kV_law_cut dc_law_cut pm_law_cut cd_law_cut ct_law_cut : Value} {od_law_cut an_law_cut : Option Addr} {sl_law_cut : Array (Option Value)}
    (a_law_cut : PySem.W.nsIn K mainGlobals "_law_cut" = some (some (.ref f_law_cut))) (l_law_cut : K.lookup f_law_cut = some ⟨oc_law_cut, od_law_cut, .func (PySem.W.fnOf "_law_cut" "_law_cut" (defArgs s_law_cut) (defBody s_law_cut) (defScope s_law_cut) .none kV_law_cut dc_law_cut pm_law_cut an_law_cut cd_law_cut ct_law_cut), sl_law_cut⟩) (c_law_cut : PySem.W.codeIn K cd_law_cut "_law_cut" = true) (k_law_cut : PySem.W.keepIn K (.ref f_law_cut) = true)
    {f_law_any_name : Addr} {oc_law_any_name kV_law_any_name dc_law_any_name pm_law_any_name cd_law_any_name ct_law_any_name : Value} {od_law_any_name an_law_any_name : Option Addr} {sl_law_any_name : Array (Option Value)}
    (a_law_any_name : PySem.W.nsIn K mainGlobals "_law_any_name" = some (some (.ref f_law_any_name))) (l_law_any_name : K.lookup f_law_any_name = some ⟨oc_law_any_name, od_law_any_name, .func (PySem.W.fnOf "_law_any_name" "_law_any_name" (defArgs s_law_any_name) (defBody s_law_any_name) (defScope s_law_any_name) .none kV_law_any_name dc_law_any_name pm_law_any_name an_law_any_name cd_law_any_name ct_law_any_name), sl_law_any_name⟩) (c_law_any_name : PySem.W.codeIn K cd_law_any_name "_law_any_name" = true) (k_law_any_name : PySem.W.keepIn K (.ref f_law_any_name) = true)
    {f_law_refused_right cc_law_refused_right P_law_refused_right : Addr} {oc_law_refused_right kV_law_refused_right dc_law_refused_right pm_law_refused_right ct_law_refused_right ec_law_refused_right : Value} {od_law_refused_right an_law_refused_right dd_law_refused_right : Option Addr} {sl_law_refused_right sk_law_refused_right : Array (Option Value)} {us_law_refused_right : Array Value}
    (a_law_refused_right : PySem.W.nsIn K mainGlobals "_law_refused_right" = some (some (.ref f_law_refused_right))) (l_law_refused_right : K.lookup f_law_refused_right = some ⟨oc_law_refused_right, od_law_refused_right, .func (PySem.W.fnOf "_law_refused_right" "_law_refused_right" (defArgs s_law_refused_right) (defBody s_law_refused_right) (defScope s_law_refused_right) .none kV_law_refused_right dc_law_refused_right pm_law_refused_right an_law_refused_right (.ref cc_law_refused_right) ct_law_refused_right), sl_law_refused_right⟩) (c_law_refused_right : PySem.W.codeIn K (.ref cc_law_refused_right) "_law_refused_right" = true) (k_law_refused_right : PySem.W.keepIn K (.ref f_law_refused_right) = true)
    (lc_law_refused_right : K.lookup cc_law_refused_right = some ⟨ec_law_refused_right, dd_law_refused_right, .fields us_law_refused_right, sk_law_refused_right⟩) (up_law_refused_right : us_law_refused_right[11]? = some (.ref P_law_refused_right)) (np_law_refused_right : K.lookup P_law_refused_right = none) (rc_law_refused_right : ((recsOf q).any fun e => e.name == "_law_refused_right") = true)
    {f_law : Addr} {oc_law kV_law dc_law pm_law cd_law ct_law : Value} {od_law an_law : Option Addr} {sl_law : Array (Option Value)}
    (a_law : PySem.W.nsIn K mainGlobals "law" = some (some (.ref f_law))) (l_law : K.lookup f_law = some ⟨oc_law, od_law, .func (PySem.W.fnOf "law" "law" (defArgs s_law) (defBody s_law) (defScope s_law) .none kV_law dc_law pm_law an_law cd_law ct_law), sl_law⟩) (c_law : PySem.W.codeIn K cd_law "law" = true) (k_law : PySem.W.keepIn K (.ref f_law) = true)
    {C0 : Addr} (aC0 : PySem.W.nsIn K mainGlobals "SheetError" = some (some (.ref C0))) (xC0 : PySem.W.excIn K C0 [.type "ValueError", .type "Exception", .type "BaseException", .type "object"] "ValueError.__new__" = true) (kC0 : PySem.W.keepIn K (.ref C0) = true) (eC0 : PySem.W.subIn K (.ref C0) (.type "BaseException") = some true) (tC0 : PySem.W.typeIn K (.ref C0) = some (.type "type")) (iC0 : PySem.W.isClsIn K C0 = true)
    (gC0 : PySem.W.findIn K (.ref C0) "__getattribute__" = some (some (.builtin "BaseException.__getattribute__"))) (hC0 : PySem.W.findIn K (.ref C0) "__getattr__" = some none) (dC0 : PySem.W.hasDictIn K C0 = true) (cC0 : PySem.W.findIn K (.ref C0) "__class__" = some (some (.builtin "object.__class__"))) (mC0 : PySem.W.mroIn K C0 (.type "object") = some true)
    (vE0 : PySem.W.subIn K (.ref C0) (.type "ValueError") = some true)
    {C1 fI1 cda1 cc1 : Addr} {nm1 q1 N1 bs1 bm1 sn1 sub1 ab1 col1 dd1 k01 k11 k21 k31 k51}
    (aC1 : PySem.W.nsIn K mainGlobals "BadText" = some (some (.ref C1))) (lk1 : K.lookup C1 = some (excClassObj nm1 q1 C1 N1 bs1 bm1 true sn1 sub1 ab1 col1 dd1 k01 k11 k21 k31 k51 "ValueError.__new__")) (rv1 : PySem.HandSPX.refsVE bm1 = true) (sa1 : PySem.W.findIn K (.ref C1) "__setattr__" = some (some (.builtin "object.__setattr__"))) (kC1 : PySem.W.keepIn K (.ref C1) = true) (eC1 : PySem.W.subIn K (.ref C1) (.type "BaseException") = some true) (tC1 : PySem.W.typeIn K (.ref C1) = some (.type "type")) (iC1 : PySem.W.isClsIn K C1 = true)
    (iI1 : PySem.W.findIn K (.ref C1) "__init__" = some (some (.ref fI1))) (tyI1 : PySem.W.typeIn K (.ref fI1) = some (.type "function")) {ocI1 kVI1 doI1 pmI1 ctI1 : Value} {odI1 anI1 : Option Addr} {slI1 : Array (Option Value)} (lI1 : K.lookup fI1 = some ⟨ocI1, odI1, .func (PySem.W.ksFn "__init__" "BadText.__init__" (defArgs si_BadText) (defBody si_BadText) (defScope si_BadText) .none kVI1 doI1 pmI1 anI1 (.ref cda1) ctI1 cc1), slI1⟩) (cI1 : PySem.W.codeIn K (.ref cda1) "BadText.__init__" = true)
    {clA1 clB1 : Value} {dA1 dB1 : Option Addr} {vsA1 : Array Value} {slA1 slB1 : Array (Option Value)} {fiA1} {tfA1} (lcd1 : K.lookup cda1 = some ⟨clA1, dA1, .fields vsA1, slA1⟩) (f21 : vsA1[2]? = some (.str fiA1 tfA1)) (ff1 : ((l.prog.main.file : Str) == fiA1) = true) (lcc1 : K.lookup cc1 = some ⟨clB1, dB1, .cell (some (.ref C1)), slB1⟩) (mo1 : PySem.W.mroIn K C1 (.ref C1) = some true) (tp1 : (l.prog.main.scope.names.lookup ("super" : Str)).isSome = false) (op1 : PySem.W.nsIn K cStatics "thirdparty.any" = some none) (su1 : PySem.W.ks_superIn K C1 C1 "__init__" = some (some (.builtin "ValueError.__init__"))) (vE1 : PySem.W.subIn K (.ref C1) (.type "ValueError") = some true)
    (fn1_0 : PySem.W.findIn K (.ref C1) "line" = some none) (fn1_1 : PySem.W.findIn K (.ref C1) "column" = some none) (fn1_2 : PySem.W.findIn K (.ref C1) "wanted" = some none)
    (gC1 : PySem.W.findIn K (.ref C1) "__getattribute__" = some (some (.builtin "BaseException.__getattribute__"))) (hC1 : PySem.W.findIn K (.ref C1) "__getattr__" = some none) (dC1 : PySem.W.hasDictIn K C1 = true) (cC1 : PySem.W.findIn K (.ref C1) "__class__" = some (some (.builtin "object.__class__"))) (mC1 : PySem.W.mroIn K C1 (.type "object") = some true)
    {C2 : Addr} (aC2 : PySem.W.nsIn K mainGlobals "BadWord" = some (some (.ref C2))) (xC2 : PySem.W.excIn K C2 [.type "ValueError", .type "Exception", .type "BaseException", .type "object"] "ValueError.__new__" = true) (kC2 : PySem.W.keepIn K (.ref C2) = true) (eC2 : PySem.W.subIn K (.ref C2) (.type "BaseException") = some true) (tC2 : PySem.W.typeIn K (.ref C2) = some (.type "type")) (iC2 : PySem.W.isClsIn K C2 = true)
    (gC2 : PySem.W.findIn K (.ref C2) "__getattribute__" = some (some (.builtin "BaseException.__getattribute__"))) (hC2 : PySem.W.findIn K (.ref C2) "__getattr__" = some none) (dC2 : PySem.W.hasDictIn K C2 = true) (cC2 : PySem.W.findIn K (.ref C2) "__class__" = some (some (.builtin "object.__class__"))) (mC2 : PySem.W.mroIn K C2 (.type "object") = some true)
    (vE2 : PySem.W.subIn K (.ref C2) (.type "ValueError") = some true)
    (s0_0 : PySem.W.subIn K (.ref C0) (.ref C0) = some true) (s0_1 : PySem.W.subIn K (.ref C0) (.ref C1) = some false) (s0_2 : PySem.W.subIn K (.ref C0) (.ref C2) = some false)
    (s1_0 : PySem.W.subIn K (.ref C1) (.ref C0) = some true) (s1_1 : PySem.W.subIn K (.ref C1) (.ref C1) = some true) (s1_2 : PySem.W.subIn K (.ref C1) (.ref C2) = some false)
    (s2_0 : PySem.W.subIn K (.ref C2) (.ref C0) = some true) (s2_1 : PySem.W.subIn K (.ref C2) (.ref C1) = some false) (s2_2 : PySem.W.subIn K (.ref C2) (.ref C2) = some true)
    (hn : PySem.W.specialIn K (.builtin "object.__class__") "__get__" = some (some (.builtin "getset_descriptor.__get__"))) (ht : PySem.W.takesIn K (.builtin "object.__class__") = some true) (nd : [C0, C1, C2].Nodup)
    {t_FIGURES : Value} (a_FIGURES : PySem.W.nsIn K mainGlobals "FIGURES" = some (some t_FIGURES)) (r_FIGURES : RelV (.str "0123456789") t_FIGURES)
    {t_INNER : Value} (a_INNER : PySem.W.nsIn K mainGlobals "INNER" = some (some t_INNER)) (r_INNER : RelV (.str "abcdefghijklmnopqrstuvwxyzABCDEFGHIJKLMNOPQRSTUVWXYZ0123456789_") t_INNER)
    {t_IN_NO_TEXT : Addr} {u_IN_NO_TEXT : Option Addr} {i_IN_NO_TEXT : Array Value} {n_IN_NO_TEXT : Nat} {sl_IN_NO_TEXT : Array (Option Value)} (a_IN_NO_TEXT : PySem.W.nsIn K mainGlobals "IN_NO_TEXT" = some (some (.ref t_IN_NO_TEXT))) (l_IN_NO_TEXT : K.lookup t_IN_NO_TEXT = some ⟨.type "tuple", u_IN_NO_TEXT, .seq i_IN_NO_TEXT n_IN_NO_TEXT, sl_IN_NO_TEXT⟩) (z_IN_NO_TEXT : Vals [.str "fork", .str "leaf"] i_IN_NO_TEXT.toList) (h_IN_NO_TEXT : i_IN_NO_TEXT.size ≤ 1000)
    {t_KEPT : Addr} {u_KEPT : Option Addr} {i_KEPT : Array Value} {n_KEPT : Nat} {sl_KEPT : Array (Option Value)} (a_KEPT : PySem.W.nsIn K mainGlobals "KEPT" = some (some (.ref t_KEPT))) (l_KEPT : K.lookup t_KEPT = some ⟨.type "tuple", u_KEPT, .seq i_KEPT n_KEPT, sl_KEPT⟩) (z_KEPT : Vals [.str "and", .str "cases", .str "cell", .str "else", .str "fewest", .str "fork", .str "from", .str "greatest", .str "if", .str "input", .str "leaf", .str "least", .str "most", .str "not", .str "of", .str "or", .str "place", .str "row", .str "settle", .str "start", .str "sum", .str "then", .str "to"] i_KEPT.toList) (h_KEPT : i_KEPT.size ≤ 1000)
    {t_SIGNS : Addr} {u_SIGNS : Option Addr} {i_SIGNS : Array Value} {n_SIGNS : Nat} {sl_SIGNS : Array (Option Value)} (a_SIGNS : PySem.W.nsIn K mainGlobals "SIGNS" = some (some (.ref t_SIGNS))) (l_SIGNS : K.lookup t_SIGNS = some ⟨.type "tuple", u_SIGNS, .seq i_SIGNS n_SIGNS, sl_SIGNS⟩) (z_SIGNS : Vals [.str "(", .str ")", .str "[", .str "]", .str "{", .str "}", .str ",", .str ":", .str "=", .str "+", .str "-", .str "*", .str "<", .str "<=", .str "=="] i_SIGNS.toList) (h_SIGNS : i_SIGNS.size ≤ 1000)
    {t_SMALL : Value} (a_SMALL : PySem.W.nsIn K mainGlobals "SMALL" = some (some t_SMALL)) (r_SMALL : RelV (.str "abcdefghijklmnopqrstuvwxyz") t_SMALL)
    (b_ValueError : PySem.W.nsIn K mainGlobals "ValueError" = some none)
    (b_abs : PySem.W.nsIn K mainGlobals "abs" = some none)
    (b_int : PySem.W.nsIn K mainGlobals "int" = some none)
    (b_isinstance : PySem.W.nsIn K mainGlobals "isinstance" = some none)
    (b_len : PySem.W.nsIn K mainGlobals "len" = some none)
    (b_min : PySem.W.nsIn K mainGlobals "min" = some none)
    (b_range : PySem.W.nsIn K mainGlobals "range" = some none)
    (b_repr : PySem.W.nsIn K mainGlobals "repr" = some none)
    (b_sorted : PySem.W.nsIn K mainGlobals "sorted" = some none)
    (b_str : PySem.W.nsIn K mainGlobals "str" = some none)
    (b_super : PySem.W.nsIn K mainGlobals "super" = some none)
    (b_tuple : PySem.W.nsIn K mainGlobals "tuple" = some none)
    : LawQ l w K 7 63 "script" mg fa h := by
  have e := hfa.symm.trans (PySem.W.mg_of X G a_law)
  cases e
  simp only [List.nodup_cons, List.mem_cons, List.not_mem_nil, or_false, not_or, not_false_eq_true, List.nodup_nil, and_true] at nd
  let A : Ad := {
    f_is_name := f_is_name
    d_is_name := PySem.W.fnOf "is_name" "is_name" (defArgs s_is_name) (defBody s_is_name) (defScope s_is_name) .none kV_is_name dc_is_name pm_is_name an_is_name cd_is_name ct_is_name
    f_is_number_word := f_is_number_word
    d_is_number_word := PySem.W.fnOf "is_number_word" "is_number_word" (defArgs s_is_number_word) (defBody s_is_number_word) (defScope s_is_number_word) .none kV_is_number_word dc_is_number_word pm_is_number_word an_is_number_word cd_is_number_word ct_is_number_word
    f_is_text := f_is_text
    d_is_text := PySem.W.fnOf "is_text" "is_text" (defArgs s_is_text) (defBody s_is_text) (defScope s_is_text) .none kV_is_text dc_is_text pm_is_text an_is_text cd_is_text ct_is_text
    f_word_size := f_word_size
    d_word_size := PySem.W.fnOf "word_size" "word_size" (defArgs s_word_size) (defBody s_word_size) (defScope s_word_size) .none kV_word_size dc_word_size pm_word_size an_word_size cd_word_size ct_word_size
    f_cut := f_cut
    d_cut := PySem.W.fnOf "cut" "cut" (defArgs s_cut) (defBody s_cut) (defScope s_cut) .none kV_cut dc_cut pm_cut an_cut cd_cut ct_cut
    f_sort_told := f_sort_told
    d_sort_told := PySem.W.fnOf "sort_told" "sort_told" (defArgs s_sort_told) (defBody s_sort_told) (defScope s_sort_told) .none kV_sort_told dc_sort_told pm_sort_told an_sort_told cd_sort_told ct_sort_told
    f_sort_of := f_sort_of
    d_sort_of := PySem.W.fnOf "sort_of" "sort_of" (defArgs s_sort_of) (defBody s_sort_of) (defScope s_sort_of) .none kV_sort_of dc_sort_of pm_sort_of an_sort_of cd_sort_of ct_sort_of
    f_words_of := f_words_of
    d_words_of := PySem.W.fnOf "words_of" "words_of" (defArgs s_words_of) (defBody s_words_of) (defScope s_words_of) .none kV_words_of dc_words_of pm_words_of an_words_of cd_words_of ct_words_of
    f_law_begun := f_law_begun
    d_law_begun := PySem.W.fnOf "_law_begun" "_law_begun" (defArgs s_law_begun) (defBody s_law_begun) (defScope s_law_begun) .none kV_law_begun dc_law_begun pm_law_begun an_law_begun cd_law_begun ct_law_begun
    f_law_mixed := f_law_mixed
    d_law_mixed := PySem.W.fnOf "_law_mixed" "_law_mixed" (defArgs s_law_mixed) (defBody s_law_mixed) (defScope s_law_mixed) .none kV_law_mixed dc_law_mixed pm_law_mixed an_law_mixed cd_law_mixed ct_law_mixed
    f_law_take := f_law_take
    d_law_take := PySem.W.fnOf "_law_take" "_law_take" (defArgs s_law_take) (defBody s_law_take) (defScope s_law_take) .none kV_law_take dc_law_take pm_law_take an_law_take cd_law_take ct_law_take
    f_law_pick := f_law_pick
    d_law_pick := PySem.W.fnOf "_law_pick" "_law_pick" (defArgs s_law_pick) (defBody s_law_pick) (defScope s_law_pick) .none kV_law_pick dc_law_pick pm_law_pick an_law_pick cd_law_pick ct_law_pick
    f_law_caught := f_law_caught
    d_law_caught := PySem.W.fnOf "_law_caught" "_law_caught" (defArgs s_law_caught) (defBody s_law_caught) (defScope s_law_caught) .none kV_law_caught dc_law_caught pm_law_caught an_law_caught cd_law_caught ct_law_caught
    f_law_kept := f_law_kept
    d_law_kept := PySem.W.fnOf "_law_kept" "_law_kept" (defArgs s_law_kept) (defBody s_law_kept) (defScope s_law_kept) .none kV_law_kept dc_law_kept pm_law_kept an_law_kept cd_law_kept ct_law_kept
    f_law_is_small := f_law_is_small
    d_law_is_small := PySem.W.fnOf "_law_is_small" "_law_is_small" (defArgs s_law_is_small) (defBody s_law_is_small) (defScope s_law_is_small) .none kV_law_is_small dc_law_is_small pm_law_is_small an_law_is_small cd_law_is_small ct_law_is_small
    f_law_is_name := f_law_is_name
    d_law_is_name := PySem.W.fnOf "_law_is_name" "_law_is_name" (defArgs s_law_is_name) (defBody s_law_is_name) (defScope s_law_is_name) .none kV_law_is_name dc_law_is_name pm_law_is_name an_law_is_name cd_law_is_name ct_law_is_name
    f_law_sort := f_law_sort
    d_law_sort := PySem.W.fnOf "_law_sort" "_law_sort" (defArgs s_law_sort) (defBody s_law_sort) (defScope s_law_sort) .none kV_law_sort dc_law_sort pm_law_sort an_law_sort cd_law_sort ct_law_sort
    f_law_signs := f_law_signs
    d_law_signs := PySem.W.fnOf "_law_signs" "_law_signs" (defArgs s_law_signs) (defBody s_law_signs) (defScope s_law_signs) .none kV_law_signs dc_law_signs pm_law_signs an_law_signs cd_law_signs ct_law_signs
    f_law_inner := f_law_inner
    d_law_inner := PySem.W.fnOf "_law_inner" "_law_inner" (defArgs s_law_inner) (defBody s_law_inner) (defScope s_law_inner) .none kV_law_inner dc_law_inner pm_law_inner an_law_inner cd_law_inner ct_law_inner
    f_law_word_at := f_law_word_at
    d_law_word_at := PySem.W.fnOf "_law_word_at" "_law_word_at" (defArgs s_law_word_at) (defBody s_law_word_at) (defScope s_law_word_at) .none kV_law_word_at dc_law_word_at pm_law_word_at an_law_word_at cd_law_word_at ct_law_word_at
    f_law_cut := f_law_cut
    d_law_cut := PySem.W.fnOf "_law_cut" "_law_cut" (defArgs s_law_cut) (defBody s_law_cut) (defScope s_law_cut) .none kV_law_cut dc_law_cut pm_law_cut an_law_cut cd_law_cut ct_law_cut
    f_law_any_name := f_law_any_name
    d_law_any_name := PySem.W.fnOf "_law_any_name" "_law_any_name" (defArgs s_law_any_name) (defBody s_law_any_name) (defScope s_law_any_name) .none kV_law_any_name dc_law_any_name pm_law_any_name an_law_any_name cd_law_any_name ct_law_any_name
    f_law_refused_right := f_law_refused_right
    d_law_refused_right := PySem.W.fnOf "_law_refused_right" "_law_refused_right" (defArgs s_law_refused_right) (defBody s_law_refused_right) (defScope s_law_refused_right) .none kV_law_refused_right dc_law_refused_right pm_law_refused_right an_law_refused_right (.ref cc_law_refused_right) ct_law_refused_right
    f_law := fa
    d_law := PySem.W.fnOf "law" "law" (defArgs s_law) (defBody s_law) (defScope s_law) .none kV_law dc_law pm_law an_law cd_law ct_law
    c_law_refused_right := cc_law_refused_right
    t_law_refused_right := P_law_refused_right
    i_BadText := fI1
    di_BadText := PySem.W.ksFn "__init__" "BadText.__init__" (defArgs si_BadText) (defBody si_BadText) (defScope si_BadText) .none kVI1 doI1 pmI1 anI1 (.ref cda1) ctI1 cc1
    cls := fun i => match i with
      | 0 => C0
      | 1 => C1
      | _ => C2
    nm := fun a => if a = C0 then some 0 else if a = C1 then some 1 else if a = C2 then some 2 else none }
  have nmC : ∀ i, i < 3 → A.nm (A.cls i) = some i := fun i hi => by
    match i, hi with
    | 0, _ => show (if C0 = C0 then some 0 else if C0 = C1 then some 1 else if C0 = C2 then some 2 else none : Option Nat) = some 0; grind
    | 1, _ => show (if C1 = C0 then some 0 else if C1 = C1 then some 1 else if C1 = C2 then some 2 else none : Option Nat) = some 1; grind
    | 2, _ => show (if C2 = C0 then some 0 else if C2 = C1 then some 1 else if C2 = C2 then some 2 else none : Option Nat) = some 2; grind
  have inv : ∀ a i, A.nm a = some i → i < 3 ∧ a = A.cls i := fun a i e => by
    have e' : (if a = C0 then some 0 else if a = C1 then some 1 else if a = C2 then some 2 else none : Option Nat) = some i := e
    by_cases h0 : a = C0
    · rw [if_pos h0] at e'; cases e'; exact ⟨by decide, h0⟩
    rw [if_neg h0] at e'
    by_cases h1 : a = C1
    · rw [if_pos h1] at e'; cases e'; exact ⟨by decide, h1⟩
    rw [if_neg h1] at e'
    by_cases h2 : a = C2
    · rw [if_pos h2] at e'; cases e'; exact ⟨by decide, h2⟩
    rw [if_neg h2] at e'
    cases e'
  have kit : ∀ i j, i < 3 → j < 3 → PySem.W.kitOne K (.ref (A.cls i)) (.ref (A.cls j)) = some ((below i).contains j) ∧ PySem.W.exmOne K (.ref (A.cls i)) (.ref (A.cls j)) = some ((below i).contains j) := fun i j hi hj => by
    match i, j, hi, hj with
    | 0, 0, _, _ => exact ⟨(kit_own iC0 tC0 s0_0 (fun _ => rfl)).1, exm_own eC0 (kit_own iC0 tC0 s0_0 (fun _ => rfl)).2⟩
    | 0, 1, _, _ => exact ⟨(kit_own iC1 tC1 s0_1 (fun z => absurd z (by grind))).1, exm_own eC1 (kit_own iC1 tC1 s0_1 (fun z => absurd z (by grind))).2⟩
    | 0, 2, _, _ => exact ⟨(kit_own iC2 tC2 s0_2 (fun z => absurd z (by grind))).1, exm_own eC2 (kit_own iC2 tC2 s0_2 (fun z => absurd z (by grind))).2⟩
    | 1, 0, _, _ => exact ⟨(kit_own iC0 tC0 s1_0 (fun _ => rfl)).1, exm_own eC0 (kit_own iC0 tC0 s1_0 (fun _ => rfl)).2⟩
    | 1, 1, _, _ => exact ⟨(kit_own iC1 tC1 s1_1 (fun _ => rfl)).1, exm_own eC1 (kit_own iC1 tC1 s1_1 (fun _ => rfl)).2⟩
    | 1, 2, _, _ => exact ⟨(kit_own iC2 tC2 s1_2 (fun z => absurd z (by grind))).1, exm_own eC2 (kit_own iC2 tC2 s1_2 (fun z => absurd z (by grind))).2⟩
    | 2, 0, _, _ => exact ⟨(kit_own iC0 tC0 s2_0 (fun _ => rfl)).1, exm_own eC0 (kit_own iC0 tC0 s2_0 (fun _ => rfl)).2⟩
    | 2, 1, _, _ => exact ⟨(kit_own iC1 tC1 s2_1 (fun z => absurd z (by grind))).1, exm_own eC1 (kit_own iC1 tC1 s2_1 (fun z => absurd z (by grind))).2⟩
    | 2, 2, _, _ => exact ⟨(kit_own iC2 tC2 s2_2 (fun _ => rfl)).1, exm_own eC2 (kit_own iC2 tC2 s2_2 (fun _ => rfl)).2⟩
  have fno1 : ∀ f ∈ (["line", "column", "wanted"] : List Str), PySem.W.findIn K (.ref C1) f = some none := by
    intro f hf
    rcases List.mem_cons.mp hf with rfl | hf
    · exact fn1_0
    rcases List.mem_cons.mp hf with rfl | hf
    · exact fn1_1
    rcases List.mem_cons.mp hf with rfl | hf
    · exact fn1_2
    cases hf
  have xc0 : ExcC K C0 := ⟨gC0, hC0, eC0, dC0, cC0, hn, ht, mC0⟩
  have xc1 : ExcC K C1 := ⟨gC1, hC1, eC1, dC1, cC1, hn, ht, mC1⟩
  have xc2 : ExcC K C2 := ⟨gC2, hC2, eC2, dC2, cC2, hn, ht, mC2⟩
  have T : ∀ base : Heap, (∀ p ∈ [(cc_law_refused_right, P_law_refused_right)], LamX.TabB base mg p.1 p.2) → Txt l.prog K base mg A := fun base TB => {
    F_is_name := fun_mk (st := s_is_name) l_is_name c_is_name k_is_name
    g_is_name := PySem.W.mg_of X G a_is_name
    b_is_name := (fun_mk (st := s_is_name) l_is_name c_is_name k_is_name).binds (ps := ["thing"]) fun _ _ _ _ _ _ us hl => match us, hl with | [_], _ => rfl
    F_is_number_word := fun_mk (st := s_is_number_word) l_is_number_word c_is_number_word k_is_number_word
    g_is_number_word := PySem.W.mg_of X G a_is_number_word
    b_is_number_word := (fun_mk (st := s_is_number_word) l_is_number_word c_is_number_word k_is_number_word).binds (ps := ["word"]) fun _ _ _ _ _ _ us hl => match us, hl with | [_], _ => rfl
    F_is_text := fun_mk (st := s_is_text) l_is_text c_is_text k_is_text
    g_is_text := PySem.W.mg_of X G a_is_text
    b_is_text := (fun_mk (st := s_is_text) l_is_text c_is_text k_is_text).binds (ps := ["thing"]) fun _ _ _ _ _ _ us hl => match us, hl with | [_], _ => rfl
    F_word_size := fun_mk (st := s_word_size) l_word_size c_word_size k_word_size
    g_word_size := PySem.W.mg_of X G a_word_size
    b_word_size := (fun_mk (st := s_word_size) l_word_size c_word_size k_word_size).binds (ps := ["text", "at"]) fun _ _ _ _ _ _ us hl => match us, hl with | [_, _], _ => rfl
    F_cut := fun_mk (st := s_cut) l_cut c_cut k_cut
    g_cut := PySem.W.mg_of X G a_cut
    b_cut := (fun_mk (st := s_cut) l_cut c_cut k_cut).binds (ps := ["text"]) fun _ _ _ _ _ _ us hl => match us, hl with | [_], _ => rfl
    F_sort_told := fun_mk (st := s_sort_told) l_sort_told c_sort_told k_sort_told
    g_sort_told := PySem.W.mg_of X G a_sort_told
    b_sort_told := (fun_mk (st := s_sort_told) l_sort_told c_sort_told k_sort_told).binds (ps := ["word"]) fun _ _ _ _ _ _ us hl => match us, hl with | [_], _ => rfl
    F_sort_of := fun_mk (st := s_sort_of) l_sort_of c_sort_of k_sort_of
    g_sort_of := PySem.W.mg_of X G a_sort_of
    b_sort_of := (fun_mk (st := s_sort_of) l_sort_of c_sort_of k_sort_of).binds (ps := ["word"]) fun _ _ _ _ _ _ us hl => match us, hl with | [_], _ => rfl
    F_words_of := fun_mk (st := s_words_of) l_words_of c_words_of k_words_of
    g_words_of := PySem.W.mg_of X G a_words_of
    b_words_of := (fun_mk (st := s_words_of) l_words_of c_words_of k_words_of).binds (ps := ["text"]) fun _ _ _ _ _ _ us hl => match us, hl with | [_], _ => rfl
    F_law_begun := fun_mk (st := s_law_begun) l_law_begun c_law_begun k_law_begun
    g_law_begun := PySem.W.mg_of X G a_law_begun
    b_law_begun := (fun_mk (st := s_law_begun) l_law_begun c_law_begun k_law_begun).binds (ps := ["script"]) fun _ _ _ _ _ _ us hl => match us, hl with | [_], _ => rfl
    F_law_mixed := fun_mk (st := s_law_mixed) l_law_mixed c_law_mixed k_law_mixed
    g_law_mixed := PySem.W.mg_of X G a_law_mixed
    b_law_mixed := (fun_mk (st := s_law_mixed) l_law_mixed c_law_mixed k_law_mixed).binds (ps := ["draw"]) fun _ _ _ _ _ _ us hl => match us, hl with | [_], _ => rfl
    F_law_take := fun_mk (st := s_law_take) l_law_take c_law_take k_law_take
    g_law_take := PySem.W.mg_of X G a_law_take
    b_law_take := (fun_mk (st := s_law_take) l_law_take c_law_take k_law_take).binds (ps := ["draw", "many"]) fun _ _ _ _ _ _ us hl => match us, hl with | [_, _], _ => rfl
    F_law_pick := fun_mk (st := s_law_pick) l_law_pick c_law_pick k_law_pick
    g_law_pick := PySem.W.mg_of X G a_law_pick
    b_law_pick := (fun_mk (st := s_law_pick) l_law_pick c_law_pick k_law_pick).binds (ps := ["draw", "some"]) fun _ _ _ _ _ _ us hl => match us, hl with | [_, _], _ => rfl
    F_law_caught := fun_mk (st := s_law_caught) l_law_caught c_law_caught k_law_caught
    g_law_caught := PySem.W.mg_of X G a_law_caught
    b_law_caught := (fun_mk (st := s_law_caught) l_law_caught c_law_caught k_law_caught).binds (ps := ["work"]) fun _ _ _ _ _ _ us hl => match us, hl with | [_], _ => rfl
    F_law_kept := fun_mk (st := s_law_kept) l_law_kept c_law_kept k_law_kept
    g_law_kept := PySem.W.mg_of X G a_law_kept
    b_law_kept := (fun_mk (st := s_law_kept) l_law_kept c_law_kept k_law_kept).binds (ps := []) fun _ _ _ _ _ _ us hl => match us, hl with | [], _ => rfl
    F_law_is_small := fun_mk (st := s_law_is_small) l_law_is_small c_law_is_small k_law_is_small
    g_law_is_small := PySem.W.mg_of X G a_law_is_small
    b_law_is_small := (fun_mk (st := s_law_is_small) l_law_is_small c_law_is_small k_law_is_small).binds (ps := ["word"]) fun _ _ _ _ _ _ us hl => match us, hl with | [_], _ => rfl
    F_law_is_name := fun_mk (st := s_law_is_name) l_law_is_name c_law_is_name k_law_is_name
    g_law_is_name := PySem.W.mg_of X G a_law_is_name
    b_law_is_name := (fun_mk (st := s_law_is_name) l_law_is_name c_law_is_name k_law_is_name).binds (ps := ["matter"]) fun _ _ _ _ _ _ us hl => match us, hl with | [_], _ => rfl
    F_law_sort := fun_mk (st := s_law_sort) l_law_sort c_law_sort k_law_sort
    g_law_sort := PySem.W.mg_of X G a_law_sort
    b_law_sort := (fun_mk (st := s_law_sort) l_law_sort c_law_sort k_law_sort).binds (ps := ["word"]) fun _ _ _ _ _ _ us hl => match us, hl with | [_], _ => rfl
    F_law_signs := fun_mk (st := s_law_signs) l_law_signs c_law_signs k_law_signs
    g_law_signs := PySem.W.mg_of X G a_law_signs
    b_law_signs := (fun_mk (st := s_law_signs) l_law_signs c_law_signs k_law_signs).binds (ps := []) fun _ _ _ _ _ _ us hl => match us, hl with | [], _ => rfl
    F_law_inner := fun_mk (st := s_law_inner) l_law_inner c_law_inner k_law_inner
    g_law_inner := PySem.W.mg_of X G a_law_inner
    b_law_inner := (fun_mk (st := s_law_inner) l_law_inner c_law_inner k_law_inner).binds (ps := ["sign"]) fun _ _ _ _ _ _ us hl => match us, hl with | [_], _ => rfl
    F_law_word_at := fun_mk (st := s_law_word_at) l_law_word_at c_law_word_at k_law_word_at
    g_law_word_at := PySem.W.mg_of X G a_law_word_at
    b_law_word_at := (fun_mk (st := s_law_word_at) l_law_word_at c_law_word_at k_law_word_at).binds (ps := ["text", "at"]) fun _ _ _ _ _ _ us hl => match us, hl with | [_, _], _ => rfl
    F_law_cut := fun_mk (st := s_law_cut) l_law_cut c_law_cut k_law_cut
    g_law_cut := PySem.W.mg_of X G a_law_cut
    b_law_cut := (fun_mk (st := s_law_cut) l_law_cut c_law_cut k_law_cut).binds (ps := ["text"]) fun _ _ _ _ _ _ us hl => match us, hl with | [_], _ => rfl
    F_law_any_name := fun_mk (st := s_law_any_name) l_law_any_name c_law_any_name k_law_any_name
    g_law_any_name := PySem.W.mg_of X G a_law_any_name
    b_law_any_name := (fun_mk (st := s_law_any_name) l_law_any_name c_law_any_name k_law_any_name).binds (ps := ["draw"]) fun _ _ _ _ _ _ us hl => match us, hl with | [_], _ => rfl
    F_law_refused_right := ⟨⟨oc_law_refused_right, od_law_refused_right, kV_law_refused_right, dc_law_refused_right, pm_law_refused_right, an_law_refused_right, ct_law_refused_right, sl_law_refused_right, rfl, l_law_refused_right, c_law_refused_right⟩⟩
    kp_law_refused_right := k_law_refused_right
    g_law_refused_right := PySem.W.mg_of X G a_law_refused_right
    b_law_refused_right := .all fun us hl => match us, hl with | [_, _], _ => rfl
    tb_law_refused_right := TB (cc_law_refused_right, P_law_refused_right) (by simp)
    F_law := fun_mk (st := s_law) l_law c_law k_law
    g_law := PySem.W.mg_of X G a_law
    b_law := (fun_mk (st := s_law) l_law c_law k_law).binds (ps := ["script"]) fun _ _ _ _ _ _ us hl => match us, hl with | [_], _ => rfl
    g_cls_SheetError := PySem.W.mg_of X G aC0
    x_SheetError := xC0
    k_SheetError := kC0
    e_SheetError := eC0
    t_SheetError := tC0
    g_cls_BadText := PySem.W.mg_of X G aC1
    O_BadText := ⟨⟨nm1, q1, N1, bs1, bm1, sn1, sub1, ab1, col1, dd1, k01, k11, k21, k31, k51, lk1, rv1⟩, sa1, eC1, tC1, kC1⟩
    iC_BadText := iI1
    tI_BadText := tyI1
    bI_BadText := .all fun us hl => match us, hl with | [_, _, _, _], _ => rfl
    F_init_BadText := ⟨.none, kVI1, doI1, pmI1, anI1, cda1, ctI1, cc1, ocI1, odI1, slI1, rfl, lI1, cI1, ⟨⟨clA1, dA1, vsA1, slA1, fiA1, tfA1, lcd1, f21, ff1⟩, ⟨clB1, dB1, slB1, lcc1⟩, mo1, tp1, op1, su1, vE1⟩⟩
    fn_BadText := fno1
    g_cls_BadWord := PySem.W.mg_of X G aC2
    x_BadWord := xC2
    k_BadWord := kC2
    e_BadWord := eC2
    t_BadWord := tC2
    m_ValueError := PySem.W.mg_none_of X G b_ValueError
    m_abs := PySem.W.mg_none_of X G b_abs
    m_int := PySem.W.mg_none_of X G b_int
    m_isinstance := PySem.W.mg_none_of X G b_isinstance
    m_len := PySem.W.mg_none_of X G b_len
    m_min := PySem.W.mg_none_of X G b_min
    m_range := PySem.W.mg_none_of X G b_range
    m_repr := PySem.W.mg_none_of X G b_repr
    m_sorted := PySem.W.mg_none_of X G b_sorted
    m_str := PySem.W.mg_none_of X G b_str
    m_super := PySem.W.mg_none_of X G b_super
    m_tuple := PySem.W.mg_none_of X G b_tuple
    v_FIGURES := ⟨t_FIGURES, .str "0123456789", PySem.W.mg_of X G a_FIGURES, r_FIGURES, fun _ => rfl⟩
    v_INNER := ⟨t_INNER, .str "abcdefghijklmnopqrstuvwxyzABCDEFGHIJKLMNOPQRSTUVWXYZ0123456789_", PySem.W.mg_of X G a_INNER, r_INNER, fun _ => rfl⟩
    v_IN_NO_TEXT := ⟨.ref t_IN_NO_TEXT, .ref t_IN_NO_TEXT, PySem.W.mg_of X G a_IN_NO_TEXT, rfl, fun H => ⟨t_IN_NO_TEXT, _, rfl, .inr ⟨_, i_IN_NO_TEXT, n_IN_NO_TEXT, l_IN_NO_TEXT, rfl, rfl, Nat.le_trans h_IN_NO_TEXT (by decide), z_IN_NO_TEXT⟩, ⟨_, _, rfl, rfl, ⟨_, _, rfl, rfl, rfl⟩⟩⟩⟩
    v_KEPT := ⟨.ref t_KEPT, .ref t_KEPT, PySem.W.mg_of X G a_KEPT, rfl, fun H => ⟨t_KEPT, _, rfl, .inr ⟨_, i_KEPT, n_KEPT, l_KEPT, rfl, rfl, Nat.le_trans h_KEPT (by decide), z_KEPT⟩, ⟨_, _, rfl, rfl, ⟨_, _, rfl, rfl, ⟨_, _, rfl, rfl, ⟨_, _, rfl, rfl, ⟨_, _, rfl, rfl, ⟨_, _, rfl, rfl, ⟨_, _, rfl, rfl, ⟨_, _, rfl, rfl, ⟨_, _, rfl, rfl, ⟨_, _, rfl, rfl, ⟨_, _, rfl, rfl, ⟨_, _, rfl, rfl, ⟨_, _, rfl, rfl, ⟨_, _, rfl, rfl, ⟨_, _, rfl, rfl, ⟨_, _, rfl, rfl, ⟨_, _, rfl, rfl, ⟨_, _, rfl, rfl, ⟨_, _, rfl, rfl, ⟨_, _, rfl, rfl, ⟨_, _, rfl, rfl, ⟨_, _, rfl, rfl, ⟨_, _, rfl, rfl, rfl⟩⟩⟩⟩⟩⟩⟩⟩⟩⟩⟩⟩⟩⟩⟩⟩⟩⟩⟩⟩⟩⟩⟩⟩⟩
    v_SIGNS := ⟨.ref t_SIGNS, .ref t_SIGNS, PySem.W.mg_of X G a_SIGNS, rfl, fun H => ⟨t_SIGNS, _, rfl, .inr ⟨_, i_SIGNS, n_SIGNS, l_SIGNS, rfl, rfl, Nat.le_trans h_SIGNS (by decide), z_SIGNS⟩, ⟨_, _, rfl, rfl, ⟨_, _, rfl, rfl, ⟨_, _, rfl, rfl, ⟨_, _, rfl, rfl, ⟨_, _, rfl, rfl, ⟨_, _, rfl, rfl, ⟨_, _, rfl, rfl, ⟨_, _, rfl, rfl, ⟨_, _, rfl, rfl, ⟨_, _, rfl, rfl, ⟨_, _, rfl, rfl, ⟨_, _, rfl, rfl, ⟨_, _, rfl, rfl, ⟨_, _, rfl, rfl, ⟨_, _, rfl, rfl, rfl⟩⟩⟩⟩⟩⟩⟩⟩⟩⟩⟩⟩⟩⟩⟩⟩⟩
    v_SMALL := ⟨t_SMALL, .str "abcdefghijklmnopqrstuvwxyz", PySem.W.mg_of X G a_SMALL, r_SMALL, fun _ => rfl⟩
    ok := ⟨nmC⟩
    fx_ok := fun C n e => by
      obtain ⟨e1, e2⟩ := Bool.and_eq_true_iff.mp e
      have h1 : C = C1 := of_decide_eq_true e1
      obtain ⟨f, hf, e3⟩ := List.any_eq_true.mp e2
      have h2 : n = f := of_decide_eq_true e3
      subst h1 h2
      exact ⟨xc1, fno1 _ hf⟩
    sub_ok := fun t c b e => by
      match t, c, e with
      | .ref x, .ref y, e =>
        have e' : (match A.nm x, A.nm y with
          | some i, some j => some ((below i).contains j)
          | _, _ => none) = some b := e
        cases e1 : A.nm x with
        | none => rw [e1] at e'; cases e'
        | some i =>
          cases e2 : A.nm y with
          | none => rw [e1, e2] at e'; cases e'
          | some j =>
            rw [e1, e2] at e'
            cases e'
            obtain ⟨hi, rfl⟩ := inv _ _ e1
            obtain ⟨hj, rfl⟩ := inv _ _ e2
            exact (kit i j hi hj).1
      | .ref x, .type n, e =>
        have e' : (if n = "ValueError" then (A.nm x).map fun _ => true else none) = some b := e
        by_cases hne : n = "ValueError"
        · subst hne
          rw [if_pos rfl] at e'
          obtain ⟨i, ei, eb⟩ := Option.map_eq_some_iff.mp e'
          cases eb
          obtain ⟨hi, rfl⟩ := inv _ _ ei
          match i, hi with
          | 0, _ => exact kit_ve vE0
          | 1, _ => exact kit_ve vE1
          | 2, _ => exact kit_ve vE2
        · rw [if_neg hne] at e'
          cases e'
    ex_ok := fun C e => by
      have e' : (A.nm C).isSome = true := e
      obtain ⟨i, ei⟩ := Option.isSome_iff_exists.mp e'
      obtain ⟨hi, rfl⟩ := inv _ _ ei
      match i, hi with
      | 0, _ => exact ⟨gC0, hC0, eC0, dC0, cC0, hn, ht, mC0⟩
      | 1, _ => exact ⟨gC1, hC1, eC1, dC1, cC1, hn, ht, mC1⟩
      | 2, _ => exact ⟨gC2, hC2, eC2, dC2, cC2, hn, ht, mC2⟩
    catch_ok := fun j cls b hj e => by
      match cls, e with
      | .ref x, e =>
        have e' : (A.nm x).map (fun i => (below i).contains j) = some b := e
        obtain ⟨i, ei, eb⟩ := Option.map_eq_some_iff.mp e'
        cases eb
        obtain ⟨hi, rfl⟩ := inv _ _ ei
        exact (kit i j hi hj).2 }
  have tt_law_refused_right := tab_at TT X (PySem.W.mg_of X G a_law_refused_right) rc_law_refused_right l_law_refused_right rfl lc_law_refused_right up_law_refused_right
  refine ⟨A.d_law, [(cc_law_refused_right, P_law_refused_right)], spM K 1 (r_law A), fun p hp => ?_, fun p hp => ?_, fun s u => .of_eq rfl, fun H a ns hl hb hO hP hS => ?_, fun base _ _ TB => ok_law (T base TB)⟩
  · rcases List.mem_cons.mp hp with rfl | hp
    · exact tt_law_refused_right
    cases hp
  · rcases List.mem_cons.mp hp with rfl | hp
    · exact np_law_refused_right
    cases hp
  · have offT : a ∉ ([(cc_law_refused_right, P_law_refused_right)] : List (Addr × Addr)).map (·.2) := fun z => by
      obtain ⟨p, hp, e⟩ := List.mem_map.mp z
      have e2 := hP p hp
      rw [e] at e2
      rcases hS with (hS | hS) | ⟨o, i, n, hS, _⟩
      · rw [e2] at hS; cases hS
      · obtain ⟨o, hS⟩ := hS
        rw [e2] at hS; cases hS
      · rcases List.mem_cons.mp hp with rfl | hp
        · rw [← e] at hS
          exact nomatch (np_law_refused_right.symm.trans hS)
        · cases hp
    have ks : KsL K H a (ns.map V.int) := by
      rcases hS with (hS | hS) | hS
      · rcases hO a offT with z | ⟨o, xs, z⟩
        · rw [z] at hS; cases hS
        · rw [z] at hS; cases hS
      · exact .inl hS
      · exact .inr hS
    refine ⟨[.kls (ns.map D.int)], tabS [(P_law_refused_right, ("_law_refused_right.<locals>." ++ "<lambda>"))], fun d _ => d = .bl true, fun _ _ => False, ⟨.ref a, [], rfl, ⟨a, ns.map V.int, rfl, ks, rels_ints ns⟩, rfl⟩, tabS_rel fun p hp => ?_, rfl, law_ok (A := A) ⟨nmC⟩ hl (by unfold tabS; rw [List.lookup_cons_self]; rfl) fun _ => rfl, ?_, ?_⟩
    · rcases List.mem_cons.mp hp with rfl | hp
      · exact hP (cc_law_refused_right, P_law_refused_right) (by simp)
      cases hp
    · rintro d S' v H' _ _ r rfl
      exact r
    · rintro x S' c dd H' _ _ _ h
      exact h.elim
/-- the law row's walk -/
theorem walk_law {l : PySem.W.OpenLaw} {q : Program} {loose : List Str} {XP : (Str → Option Value) → Heap → Prop} {YP : World → Heap → Prop} {d : DefRec} {K : Params → PySem.W.Frag} (hm : l.most = some 63) (hd : d.params.defaults = [])
    (inK : ∀ (w : World) (h : Heap), YP w h → (K w.params).In h) (F : ∀ (w : World) (mg : Str → Option Value) (fa : Addr) (h : Heap), (K w.params).In h → h.Ns mainGlobals mg → TabT q mg h → mg d.name = some (.ref fa) → LawQ l w (K w.params) 7 63 "script" mg fa h) :
    PySem.W.WalkO q loose XP YP (l.row.toRowW) d [] (fun f vs => PySem.call f vs) := walk_quietT hm (by decide) hd ⟨rfl, by decide, by decide⟩ inK F
end K01
open PySem.W PyProof.Rows PySem
theorem PySem.Challenge.cw_whysheets_k01_words_of_texts_holds : PySem.Challenge.rw_whysheets_k01_words_of_texts.Holds := by
  w_on; o_law; k_head
  (case hw => w_witness2)
  k_fill
  refine K01.walk_law (l := PySem.Challenge.rw_whysheets_k01_words_of_texts) rfl rfl (fun w h Y => PySem.W.km_in_of Y) ?F
  case F =>
    intro w mg fa h KX G TT hmg
    refine' K01.all_mk KX G TT hmg ?a_is_name ?l_is_name ?c_is_name ?k_is_name ?a_is_number_word ?l_is_number_word ?c_is_number_word ?k_is_number_word ?a_is_text ?l_is_text ?c_is_text ?k_is_text ?a_word_size ?l_word_size ?c_word_size ?k_word_size ?a_cut ?l_cut ?c_cut ?k_cut ?a_sort_told ?l_sort_told ?c_sort_told ?k_sort_told ?a_sort_of ?l_sort_of ?c_sort_of ?k_sort_of ?a_words_of ?l_words_of ?c_words_of ?k_words_of ?a_law_begun ?l_law_begun ?c_law_begun ?k_law_begun ?a_law_mixed ?l_law_mixed ?c_law_mixed ?k_law_mixed ?a_law_take ?l_law_take ?c_law_take ?k_law_take ?a_law_pick ?l_law_pick ?c_law_pick ?k_law_pick ?a_law_caught ?l_law_caught ?c_law_caught ?k_law_caught ?a_law_kept ?l_law_kept ?c_law_kept ?k_law_kept ?a_law_is_small ?l_law_is_small ?c_law_is_small ?k_law_is_small ?a_law_is_name ?l_law_is_name ?c_law_is_name ?k_law_is_name ?a_law_sort ?l_law_sort ?c_law_sort ?k_law_sort ?a_law_signs ?l_law_signs ?c_law_signs ?k_law_signs ?a_law_inner ?l_law_inner ?c_law_inner ?k_law_inner ?a_law_word_at ?l_law_word_at ?c_law_word_at ?k_law_word_at ?a_law_cut ?l_law_cut ?c_law_cut ?k_law_cut ?a_law_any_name ?l_law_any_name ?c_law_any_name ?k_law_any_name ?a_law_refused_right ?l_law_refused_right ?c_law_refused_right ?k_law_refused_right ?lc_law_refused_right ?up_law_refused_right ?np_law_refused_right ?rc_law_refused_right ?a_law ?l_law ?c_law ?k_law ?aC0 ?xC0 ?kC0 ?eC0 ?tC0 ?iC0 ?gC0 ?hC0 ?dC0 ?cC0 ?mC0 ?vE0 ?aC1 ?lk1 ?rv1 ?sa1 ?kC1 ?eC1 ?tC1 ?iC1 ?iI1 ?tyI1 ?lI1 ?cI1 ?lcd1 ?f21 ?ff1 ?lcc1 ?mo1 ?tp1 ?op1 ?su1 ?vE1 ?fn1_0 ?fn1_1 ?fn1_2 ?gC1 ?hC1 ?dC1 ?cC1 ?mC1 ?aC2 ?xC2 ?kC2 ?eC2 ?tC2 ?iC2 ?gC2 ?hC2 ?dC2 ?cC2 ?mC2 ?vE2 ?s0_0 ?s0_1 ?s0_2 ?s1_0 ?s1_1 ?s1_2 ?s2_0 ?s2_1 ?s2_2 ?hn ?ht ?nd ?a_FIGURES ?r_FIGURES ?a_INNER ?r_INNER ?a_IN_NO_TEXT ?l_IN_NO_TEXT ?z_IN_NO_TEXT ?h_IN_NO_TEXT ?a_KEPT ?l_KEPT ?z_KEPT ?h_KEPT ?a_SIGNS ?l_SIGNS ?z_SIGNS ?h_SIGNS ?a_SMALL ?r_SMALL ?b_ValueError ?b_abs ?b_int ?b_isinstance ?b_len ?b_min ?b_range ?b_repr ?b_sorted ?b_str ?b_super ?b_tuple
    (case a_is_name => k_is)
    (case l_is_name => k_is)
    (case c_is_name => k_is)
    (case k_is_name => k_is)
    (case a_is_number_word => k_is)
    (case l_is_number_word => k_is)
    (case c_is_number_word => k_is)
    (case k_is_number_word => k_is)
    (case a_is_text => k_is)
    (case l_is_text => k_is)
    (case c_is_text => k_is)
    (case k_is_text => k_is)
    (case a_word_size => k_is)
    (case l_word_size => k_is)
    (case c_word_size => k_is)
    (case k_word_size => k_is)
    (case a_cut => k_is)
    (case l_cut => k_is)
    (case c_cut => k_is)
    (case k_cut => k_is)
    (case a_sort_told => k_is)
    (case l_sort_told => k_is)
    (case c_sort_told => k_is)
    (case k_sort_told => k_is)
    (case a_sort_of => k_is)
    (case l_sort_of => k_is)
    (case c_sort_of => k_is)
    (case k_sort_of => k_is)
    (case a_words_of => k_is)
    (case l_words_of => k_is)
    (case c_words_of => k_is)
    (case k_words_of => k_is)
    (case a_law_begun => k_is)
    (case l_law_begun => k_is)
    (case c_law_begun => k_is)
    (case k_law_begun => k_is)
    (case a_law_mixed => k_is)
    (case l_law_mixed => k_is)
    (case c_law_mixed => k_is)
    (case k_law_mixed => k_is)
    (case a_law_take => k_is)
    (case l_law_take => k_is)
    (case c_law_take => k_is)
    (case k_law_take => k_is)
    (case a_law_pick => k_is)
    (case l_law_pick => k_is)
    (case c_law_pick => k_is)
    (case k_law_pick => k_is)
    (case a_law_caught => k_is)
    (case l_law_caught => k_is)
    (case c_law_caught => k_is)
    (case k_law_caught => k_is)
    (case a_law_kept => k_is)
    (case l_law_kept => k_is)
    (case c_law_kept => k_is)
    (case k_law_kept => k_is)
    (case a_law_is_small => k_is)
    (case l_law_is_small => k_is)
    (case c_law_is_small => k_is)
    (case k_law_is_small => k_is)
    (case a_law_is_name => k_is)
    (case l_law_is_name => k_is)
    (case c_law_is_name => k_is)
    (case k_law_is_name => k_is)
    (case a_law_sort => k_is)
    (case l_law_sort => k_is)
    (case c_law_sort => k_is)
    (case k_law_sort => k_is)
    (case a_law_signs => k_is)
    (case l_law_signs => k_is)
    (case c_law_signs => k_is)
    (case k_law_signs => k_is)
    (case a_law_inner => k_is)
    (case l_law_inner => k_is)
    (case c_law_inner => k_is)
    (case k_law_inner => k_is)
    (case a_law_word_at => k_is)
    (case l_law_word_at => k_is)
    (case c_law_word_at => k_is)
    (case k_law_word_at => k_is)
    (case a_law_cut => k_is)
    (case l_law_cut => k_is)
    (case c_law_cut => k_is)
    (case k_law_cut => k_is)
    (case a_law_any_name => k_is)
    (case l_law_any_name => k_is)
    (case c_law_any_name => k_is)
    (case k_law_any_name => k_is)
    (case a_law_refused_right => k_is)
    (case l_law_refused_right => k_is)
    (case c_law_refused_right => k_is)
    (case k_law_refused_right => k_is)
    (case lc_law_refused_right => k_is)
    (case up_law_refused_right => rfl)
    (case np_law_refused_right => (first | rfl | k_is))
    (case rc_law_refused_right => decide +kernel)
    (case a_law => k_is)
    (case l_law => k_is)
    (case c_law => k_is)
    (case k_law => k_is)
    (case aC0 => k_is)
    (case xC0 => k_exc)
    (case kC0 => k_is)
    (case eC0 => k_is)
    (case tC0 => k_is)
    (case iC0 => k_is)
    (case gC0 => k_is)
    (case hC0 => k_is)
    (case dC0 => k_is)
    (case cC0 => k_is)
    (case mC0 => k_is)
    (case vE0 => (first | rfl | k_is))
    (case aC1 => k_is)
    (case lk1 => k_is)
    (case rv1 => rfl)
    (case sa1 => k_is)
    (case kC1 => k_is)
    (case eC1 => k_is)
    (case tC1 => k_is)
    (case iC1 => k_is)
    (case iI1 => k_is)
    (case tyI1 => k_is)
    (case lI1 => k_is)
    (case cI1 => k_is)
    (case lcd1 => k_is)
    (case f21 => rfl)
    (case ff1 => (first | rfl | decide +kernel))
    (case lcc1 => k_is)
    (case mo1 => (first | rfl | k_is))
    (case tp1 => (first | rfl | decide +kernel))
    (case op1 => k_is)
    (case su1 => (first | rfl | k_is))
    (case vE1 => (first | rfl | k_is))
    (case fn1_0 => k_is)
    (case fn1_1 => k_is)
    (case fn1_2 => k_is)
    (case gC1 => k_is)
    (case hC1 => k_is)
    (case dC1 => k_is)
    (case cC1 => k_is)
    (case mC1 => k_is)
    (case aC2 => k_is)
    (case xC2 => k_exc)
    (case kC2 => k_is)
    (case eC2 => k_is)
    (case tC2 => k_is)
    (case iC2 => k_is)
    (case gC2 => k_is)
    (case hC2 => k_is)
    (case dC2 => k_is)
    (case cC2 => k_is)
    (case mC2 => k_is)
    (case vE2 => (first | rfl | k_is))
    (case s0_0 => (first | rfl | k_is))
    (case s0_1 => (first | rfl | k_is))
    (case s0_2 => (first | rfl | k_is))
    (case s1_0 => (first | rfl | k_is))
    (case s1_1 => (first | rfl | k_is))
    (case s1_2 => (first | rfl | k_is))
    (case s2_0 => (first | rfl | k_is))
    (case s2_1 => (first | rfl | k_is))
    (case s2_2 => (first | rfl | k_is))
    (case hn => k_is)
    (case ht => k_is)
    (case nd => decide)
    (case a_FIGURES => k_is)
    (case r_FIGURES => (first | exact rfl | exact ⟨_, rfl⟩))
    (case a_INNER => k_is)
    (case r_INNER => (first | exact rfl | exact ⟨_, rfl⟩))
    (case a_IN_NO_TEXT => k_is)
    (case l_IN_NO_TEXT => k_is)
    (case z_IN_NO_TEXT => (repeat (first | exact Paired.nil | refine Paired.cons ⟨_, rfl⟩ ?_ | refine Paired.cons rfl ?_)))
    (case h_IN_NO_TEXT => decide)
    (case a_KEPT => k_is)
    (case l_KEPT => k_is)
    (case z_KEPT => (repeat (first | exact Paired.nil | refine Paired.cons ⟨_, rfl⟩ ?_ | refine Paired.cons rfl ?_)))
    (case h_KEPT => decide)
    (case a_SIGNS => k_is)
    (case l_SIGNS => k_is)
    (case z_SIGNS => (repeat (first | exact Paired.nil | refine Paired.cons ⟨_, rfl⟩ ?_ | refine Paired.cons rfl ?_)))
    (case h_SIGNS => decide)
    (case a_SMALL => k_is)
    (case r_SMALL => (first | exact rfl | exact ⟨_, rfl⟩))
    (case b_ValueError => k_is)
    (case b_abs => k_is)
    (case b_int => k_is)
    (case b_isinstance => k_is)
    (case b_len => k_is)
    (case b_min => k_is)
    (case b_range => k_is)
    (case b_repr => k_is)
    (case b_sorted => k_is)
    (case b_str => k_is)
    (case b_super => k_is)
    (case b_tuple => k_is)

