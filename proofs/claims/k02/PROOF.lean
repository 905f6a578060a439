import PyProof.Rows.All
import Wide.All
import OpenK.AllK
import Wide.FinOn
import HandS.Base
import HandS.Call
import HandS.List
import HandS.Comp
import HandS.Dict
import HandS.Exc
import HandS.Iter
import HandS.Text
import HandS.Conv
import HandS.IsInst
import HandS.WordsExc
import HandS.TryOnly
import HandS.Zip
import HandS.Ends
import HandS.WordsList
import PySem.Challenge.RW_classtable_k02_cyclotomic_polynomials
set_option autoImplicit false

set_option Elab.async false
set_option linter.all false
set_option maxRecDepth 100000
namespace Z
open PySem PySem.Spec PyProof.Rows L2

/-! ### values as trees, objects by number, the outcome of a piece of code -/
inductive D where
  | non | bl (b : Bool) | int (i : Int) | str (x : Str) | ty (n : String)
  | tup (xs : List D)
  | ins (c : Nat) (xs : List D)
  | ref (n : Nat)
  | cls (k : Nat)
  | kl (xs : List D)
inductive AO where
  | lst (xs : List D)
  | dK (kvs : List (Key × D))
  | dT (kvs : List (List Key × D))
  | ob (c : Nat) (xs : List D)
  | st
  | junk
structure Exn where
  c : Nat
  fs : Option (List D)
abbrev Hs := List AO
inductive R (α : Type) where
  | ret (a : α) (h : Hs) | exc (e : Exn) (h : Hs) | fail | pick (n : Nat) (k : Nat → R α)
def R.bind {α β : Type} (r : R α) (f : α → Hs → R β) : R β :=
  match r with
  | .ret a h => f a h
  | .exc e h => .exc e h
  | .fail => .fail
  | .pick n k => .pick n fun i => (k i).bind f
def wp {α : Type} (r : R α) (Q : α → Hs → Prop) (E : Exn → Hs → Prop) : Prop :=
  match r with
  | .ret a h => Q a h
  | .exc e h => E e h
  | .fail => False
  | .pick n k => ∀ i, i < n → wp (k i) Q E
theorem wp_mono {α : Type} {Q Q' : α → Hs → Prop} {E E' : Exn → Hs → Prop} (hQ : ∀ a h, Q a h → Q' a h) (hE : ∀ e h, E e h → E' e h) : ∀ r : R α, wp r Q E → wp r Q' E'
  | .ret a h, q => hQ a h q
  | .exc e h, q => hE e h q
  | .fail, q => q
  | .pick n k, q => fun i hi => wp_mono hQ hE (k i) (q i hi)
theorem wp_bind {α β : Type} {f : α → Hs → R β} {Q : β → Hs → Prop} {E : Exn → Hs → Prop} : ∀ {r : R α}, wp (r.bind f) Q E → wp r (fun a h => wp (f a h) Q E) E
  | .ret a h, q => q
  | .exc e h, q => q
  | .fail, q => q
  | .pick n k, q => fun i hi => wp_bind (q i hi)
theorem wp_bind' {α β : Type} {f : α → Hs → R β} {Q : β → Hs → Prop} {E : Exn → Hs → Prop} : ∀ {r : R α}, wp r (fun a h => wp (f a h) Q E) E → wp (r.bind f) Q E
  | .ret a h, q => q
  | .exc e h, q => q
  | .fail, q => q
  | .pick n k, q => fun i hi => wp_bind' (q i hi)

/-! ### what they stand for -/
structure Tab where
  K : PySem.W.Frag
  cl : Nat → Addr
  fl : Nat → List Str
/-- a list that never changes: known to its object, or one of the module's -/
def FzL (K : PySem.W.Frag) (H : Hp) (a : Addr) (xs : List V) : Prop := (∃ o, H a = some (.frz o (.lst xs))) ∨
    ∃ (o : Obj) (its : Array Value) (n : Nat), K.lookup a = some o ∧ o.cls = .type "list" ∧ o.dict = none ∧ o.data = .seq its n ∧ its.size ≤ sizeLine ∧ Vals xs its.toList
theorem FzL.sq {K : PySem.W.Frag} {H : Hp} {a : Addr} {xs : List V} (h : FzL K H a xs) : SqL K H a xs := by
  rcases h with ⟨o, h⟩ | h
  · exact .inl (.inr ⟨o, h⟩)
  · exact .inr h
mutual
inductive Rep (T : Tab) (ρ : List Addr) (H : Hp) : D → V → Prop
  | non : Rep T ρ H .non .non
  | bl (b : Bool) : Rep T ρ H (.bl b) (.bl b)
  | int (i : Int) : Rep T ρ H (.int i) (.int i)
  | str (x : Str) : Rep T ρ H (.str x) (.str x)
  | ty (n : String) : Rep T ρ H (.ty n) (.ty n)
  | tup {ds : List D} {vs : List V} {a : Addr} : SqT T.K H a vs → RepL T ρ H ds vs → Rep T ρ H (.tup ds) (.ref a)
  | ins {c : Nat} {ds : List D} {vs : List V} {a dx : Addr} : a ∉ ρ → H a = some (.ins (T.cl c) dx ((T.fl c).zip vs)) → RepL T ρ H ds vs → Rep T ρ H (.ins c ds) (.ref a)
  | ref {n : Nat} {a : Addr} : ρ[n]? = some a → Rep T ρ H (.ref n) (.ref a)
  | cls (k : Nat) : Rep T ρ H (.cls k) (.ref (T.cl k))
  | kl {ds : List D} {vs : List V} {a : Addr} : FzL T.K H a vs → RepL T ρ H ds vs → Rep T ρ H (.kl ds) (.ref a)
inductive RepL (T : Tab) (ρ : List Addr) (H : Hp) : List D → List V → Prop
  | nil : RepL T ρ H [] []
  | cons {d : D} {v : V} {ds : List D} {vs : List V} : Rep T ρ H d v → RepL T ρ H ds vs → RepL T ρ H (d :: ds) (v :: vs)
end
/-- what lasts: all that is not ours, tuples, known things -/
structure Ex (ρ : List Addr) (H : Hp) (ρ' : List Addr) (H' : Hp) : Prop where
  pre : ρ <+: ρ'
  tup : ∀ a xs, H a = some (.tup xs) → H' a = some (.tup xs)
  frz : ∀ a o u, H a = some (.frz o u) → H' a = some (.frz o u)
  keep : ∀ a u, a ∉ ρ → H a = some u → H' a = some u ∧ a ∉ ρ'
theorem Ex.refl {ρ : List Addr} {H : Hp} : Ex ρ H ρ H := ⟨List.prefix_rfl, fun _ _ h => h, fun _ _ _ h => h, fun _ _ n h => ⟨h, n⟩⟩
theorem Ex.trans {ρ ρ1 ρ2 : List Addr} {H H1 H2 : Hp} (a : Ex ρ H ρ1 H1) (b : Ex ρ1 H1 ρ2 H2) : Ex ρ H ρ2 H2 :=
  ⟨a.pre.trans b.pre, fun c xs h => b.tup c xs (a.tup c xs h), fun c o u h => b.frz c o u (a.frz c o u h), fun c u n h => b.keep c u (a.keep c u n h).2 (a.keep c u n h).1⟩
/-- what values lean on -/
structure Ey (ρ : List Addr) (H : Hp) (ρ' : List Addr) (H' : Hp) : Prop where
  pre : ρ <+: ρ'
  tup : ∀ a xs, H a = some (.tup xs) → H' a = some (.tup xs)
  frz : ∀ a o u, H a = some (.frz o u) → H' a = some (.frz o u)
  ins : ∀ a C dx fs, a ∉ ρ → H a = some (.ins C dx fs) → H' a = some (.ins C dx fs) ∧ a ∉ ρ'
theorem Ex.y {ρ ρ' : List Addr} {H H' : Hp} (x : Ex ρ H ρ' H') : Ey ρ H ρ' H' := ⟨x.pre, x.tup, x.frz, fun a _ _ _ n e => x.keep a _ n e⟩
theorem Ey.sqT {K : PySem.W.Frag} {ρ ρ' : List Addr} {H H' : Hp} {a : Addr} {xs : List V} (x : Ey ρ H ρ' H') (h : SqT K H a xs) : SqT K H' a xs := by
  rcases h with (h | ⟨o, h⟩) | h
  · exact .inl (.inl (x.tup _ _ h))
  · exact .inl (.inr ⟨o, x.frz _ _ _ h⟩)
  · exact .inr h
theorem Ey.fz {K : PySem.W.Frag} {ρ ρ' : List Addr} {H H' : Hp} {a : Addr} {xs : List V} (x : Ey ρ H ρ' H') (h : FzL K H a xs) : FzL K H' a xs := by
  rcases h with ⟨o, h⟩ | h
  · exact .inl ⟨o, x.frz _ _ _ h⟩
  · exact .inr h
theorem pre_get {ρ ρ' : List Addr} (p : ρ <+: ρ') {n : Nat} {a : Addr} (h : ρ[n]? = some a) : ρ'[n]? = some a := by
  obtain ⟨t, rfl⟩ := p
  rw [List.getElem?_append_left (by obtain ⟨z, _⟩ := List.getElem?_eq_some_iff.mp h; exact z)]
  exact h
section
variable {T : Tab} {ρ ρ' : List Addr} {H H' : Hp}
mutual
theorem Rep.monoY (x : Ey ρ H ρ' H') : ∀ {d : D} {v : V}, Rep T ρ H d v → Rep T ρ' H' d v
  | _, _, .non => .non
  | _, _, .bl b => .bl b
  | _, _, .int b => .int b
  | _, _, .str b => .str b
  | _, _, .ty b => .ty b
  | _, _, .tup s r => .tup (x.sqT s) (RepL.monoY x r)
  | _, _, .ins n e r => .ins (x.ins _ _ _ _ n e).2 (x.ins _ _ _ _ n e).1 (RepL.monoY x r)
  | _, _, .ref e => .ref (pre_get x.pre e)
  | _, _, .cls k => .cls k
  | _, _, .kl s r => .kl (x.fz s) (RepL.monoY x r)
theorem RepL.monoY (x : Ey ρ H ρ' H') : ∀ {d : List D} {v : List V}, RepL T ρ H d v → RepL T ρ' H' d v
  | _, _, .nil => .nil
  | _, _, .cons r s => .cons (Rep.monoY x r) (RepL.monoY x s)
end
theorem Rep.mono (x : Ex ρ H ρ' H') {d : D} {v : V} (r : Rep T ρ H d v) : Rep T ρ' H' d v := r.monoY x.y
theorem RepL.mono (x : Ex ρ H ρ' H') {d : List D} {v : List V} (r : RepL T ρ H d v) : RepL T ρ' H' d v := r.monoY x.y
end
end Z

set_option Elab.async false
set_option linter.all false
set_option maxRecDepth 100000
namespace Z
open PySem PySem.Spec PyProof.Rows L2

/-! ### the abstract objects in the heap -/
inductive RepK (T : Tab) (ρ : List Addr) (H : Hp) {κ : Type} : List (κ × D) → List (κ × V) → Prop
  | nil : RepK T ρ H [] []
  | cons {k : κ} {d : D} {v : V} {ds : List (κ × D)} {vs : List (κ × V)} : Rep T ρ H d v → RepK T ρ H ds vs → RepK T ρ H ((k, d) :: ds) ((k, v) :: vs)
def RepO (T : Tab) (ρ : List Addr) (H : Hp) (a : Addr) : AO → Prop
  | .lst ds => ∃ vs, H a = some (.lst vs) ∧ RepL T ρ H ds vs
  | .dK ds => ∃ vs, H a = some (.dK vs) ∧ RepK T ρ H ds vs
  | .dT ds => ∃ vs, H a = some (.dT vs) ∧ RepK T ρ H ds vs
  | .ob c ds => ∃ dx vs, H a = some (.ins (T.cl c) dx ((T.fl c).zip vs)) ∧ ds.length ≤ (T.fl c).length ∧ RepL T ρ H ds vs
  | .st => ∃ s t : Int, H a = some (.lst [.int s, .int t])
  | .junk => ∃ u, H a = some u
structure RepH (T : Tab) (ρ : List Addr) (H : Hp) (h : Hs) : Prop where
  len : ρ.length = h.length
  nd : ρ.Nodup
  at_ : ∀ (n : Nat) (o : AO) (a : Addr), h[n]? = some o → ρ[n]? = some a → RepO T ρ H a o
section
variable {T : Tab} {ρ ρ' : List Addr} {H H' : Hp} {h h' : Hs} {a p : Addr} {n : Nat}
theorem RepK.monoY {κ : Type} (x : Ey ρ H ρ' H') : ∀ {d : List (κ × D)} {v : List (κ × V)}, RepK T ρ H d v → RepK T ρ' H' d v
  | _, _, .nil => .nil
  | _, _, .cons r s => .cons (r.monoY x) (RepK.monoY x s)
theorem RepK.mono {κ : Type} (x : Ex ρ H ρ' H') {d : List (κ × D)} {v : List (κ × V)} (r : RepK T ρ H d v) : RepK T ρ' H' d v := r.monoY x.y
theorem RepL.length : ∀ {ds : List D} {vs : List V}, RepL T ρ H ds vs → ds.length = vs.length
  | _, _, .nil => rfl
  | _, _, .cons _ s => by rw [List.length_cons, List.length_cons, RepL.length s]
theorem RepL.get : ∀ {ds : List D} {vs : List V} {i : Nat} {d : D}, RepL T ρ H ds vs → ds[i]? = some d → ∃ v, vs[i]? = some v ∧ Rep T ρ H d v
  | _, _, _, _, .nil, e => by simp at e
  | _, _, 0, _, .cons r _, e => by simp at e; subst e; exact ⟨_, rfl, r⟩
  | _, _, i + 1, d, .cons _ s, e => by
    obtain ⟨v, h1, h2⟩ := RepL.get (i := i) (d := d) s (by simpa using e)
    exact ⟨v, by simpa using h1, h2⟩
theorem RepL.append : ∀ {ds es : List D} {vs ws : List V}, RepL T ρ H ds vs → RepL T ρ H es ws → RepL T ρ H (ds ++ es) (vs ++ ws)
  | _, _, _, _, .nil, s => s
  | _, _, _, _, .cons r t, s => .cons r (RepL.append t s)
theorem RepL.set {d : D} {v : V} (r : Rep T ρ H d v) : ∀ {ds : List D} {vs : List V} (i : Nat), RepL T ρ H ds vs → RepL T ρ H (ds.set i d) (vs.set i v)
  | _, _, _, .nil => .nil
  | _, _, 0, .cons _ t => .cons r t
  | _, _, i + 1, .cons q t => .cons q (RepL.set r i t)
theorem RepL.take : ∀ {ds : List D} {vs : List V} (n : Nat), RepL T ρ H ds vs → RepL T ρ H (ds.take n) (vs.take n)
  | _, _, 0, _ => .nil
  | _, _, _ + 1, .nil => .nil
  | _, _, n + 1, .cons r t => .cons r (RepL.take n t)
theorem RepL.drop : ∀ {ds : List D} {vs : List V} (n : Nat), RepL T ρ H ds vs → RepL T ρ H (ds.drop n) (vs.drop n)
  | _, _, 0, r => r
  | _, _, _ + 1, .nil => .nil
  | _, _, n + 1, .cons _ t => RepL.drop n t
theorem RepL.reverse {ds : List D} {vs : List V} (r : RepL T ρ H ds vs) : RepL T ρ H ds.reverse vs.reverse := by
  induction ds generalizing vs with
  | nil => cases r; exact .nil
  | cons d ds ih =>
    cases r with
    | cons q t =>
      rw [List.reverse_cons, List.reverse_cons]
      exact (ih t).append (.cons q .nil)
theorem RepO.there {o : AO} (r : RepO T ρ H a o) : ∃ u, H a = some u := by
  cases o with
  | lst => obtain ⟨_, e, _⟩ := r; exact ⟨_, e⟩
  | dK => obtain ⟨_, e, _⟩ := r; exact ⟨_, e⟩
  | dT => obtain ⟨_, e, _⟩ := r; exact ⟨_, e⟩
  | ob => obtain ⟨_, _, e, _⟩ := r; exact ⟨_, e⟩
  | st => obtain ⟨_, _, e⟩ := r; exact ⟨_, e⟩
  | junk => exact r
theorem RepH.lt (r : RepH T ρ H h) {o : AO} (e : h[n]? = some o) : ∃ a, ρ[n]? = some a := by
  obtain ⟨z, _⟩ := List.getElem?_eq_some_iff.mp e
  exact ⟨ρ[n]'(by rw [r.len]; exact z), List.getElem?_eq_getElem _⟩
theorem RepH.there (r : RepH T ρ H h) (m : a ∈ ρ) : ∃ u, H a = some u := by
  obtain ⟨n, hn⟩ := List.getElem?_of_mem m
  obtain ⟨z, _⟩ := List.getElem?_eq_some_iff.mp hn
  exact (r.at_ n _ a (List.getElem?_eq_getElem (by rw [← r.len]; exact z)) hn).there
theorem RepH.fresh (r : RepH T ρ H h) (n : H p = none) : p ∉ ρ := fun m => by
  obtain ⟨u, e⟩ := r.there m
  rw [n] at e; cases e
/-- a tuple, an instance, any new thing that is no object of ours -/
theorem Ex.new {o : HO} (n : H p = none) : Ex ρ H ρ (upd H p o) :=
  ⟨List.prefix_rfl, fun b xs e => by rw [upd_ne (ne_of_none e n)]; exact e, fun b xs u e => by rw [upd_ne (ne_of_none e n)]; exact e, fun b u m e => ⟨by rw [upd_ne (ne_of_none e n)]; exact e, m⟩⟩
theorem RepO.atY {o : AO} (x : Ey ρ H ρ' H') (e : H' a = H a) (r : RepO T ρ H a o) : RepO T ρ' H' a o := by
  cases o with
  | lst => obtain ⟨vs, e1, q⟩ := r; exact ⟨vs, by rw [e]; exact e1, q.monoY x⟩
  | dK => obtain ⟨vs, e1, q⟩ := r; exact ⟨vs, by rw [e]; exact e1, q.monoY x⟩
  | dT => obtain ⟨vs, e1, q⟩ := r; exact ⟨vs, by rw [e]; exact e1, q.monoY x⟩
  | ob => obtain ⟨dx, vs, e1, l, q⟩ := r; exact ⟨dx, vs, by rw [e]; exact e1, l, q.monoY x⟩
  | st => obtain ⟨s, t, e1⟩ := r; exact ⟨s, t, by rw [e]; exact e1⟩
  | junk => obtain ⟨u, e1⟩ := r; exact ⟨u, by rw [e]; exact e1⟩
theorem RepO.at {o : AO} (x : Ex ρ H ρ' H') (e : H' a = H a) (r : RepO T ρ H a o) : RepO T ρ' H' a o := r.atY x.y e
theorem RepH.new {o : HO} (r : RepH T ρ H h) (n : H p = none) : RepH T ρ (upd H p o) h :=
  ⟨r.len, r.nd, fun m u a e1 e2 => (r.at_ m u a e1 e2).at (.new n) (upd_ne fun z => r.fresh n (z ▸ List.mem_of_getElem? e2))⟩
/-- a new object of ours -/
theorem Ex.alloc {o : HO} (n : H p = none) : Ex ρ H (ρ ++ [p]) (upd H p o) :=
  ⟨List.prefix_append _ _, fun b xs e => by rw [upd_ne (ne_of_none e n)]; exact e, fun b xs u e => by rw [upd_ne (ne_of_none e n)]; exact e, fun b u m e => ⟨by rw [upd_ne (ne_of_none e n)]; exact e, fun z => by
    rcases List.mem_append.mp z with z | z
    · exact m z
    · exact ne_of_none e n (by simpa using z)⟩⟩
theorem RepH.alloc {o : HO} {u : AO} (r : RepH T ρ H h) (n : H p = none) (q : RepO T (ρ ++ [p]) (upd H p o) p u) : RepH T (ρ ++ [p]) (upd H p o) (h ++ [u]) := by
  have f := r.fresh n
  refine ⟨by rw [List.length_append, List.length_append, r.len]; rfl, ?_, fun m x a e1 e2 => ?_⟩
  · rw [List.nodup_append]
    exact ⟨r.nd, by simp, fun b hb c hc z => f (by rw [List.mem_singleton] at hc; rw [← hc, ← z]; exact hb)⟩
  · by_cases hm : m < h.length
    · rw [List.getElem?_append_left hm] at e1
      rw [List.getElem?_append_left (by rw [r.len]; exact hm)] at e2
      exact (r.at_ m x a e1 e2).at (.alloc n) (upd_ne fun z => f (z ▸ List.mem_of_getElem? e2))
    · have e : m = h.length := by
        obtain ⟨z, _⟩ := List.getElem?_eq_some_iff.mp e1
        rw [List.length_append] at z
        have : [u].length = 1 := rfl
        omega
      subst e
      rw [List.getElem?_append_right (Nat.le_refl _), Nat.sub_self] at e1
      rw [← r.len, List.getElem?_append_right (Nat.le_refl _), Nat.sub_self] at e2
      cases e1; cases e2
      exact q
theorem Rep.last : Rep T (ρ ++ [p]) H (.ref ρ.length) (.ref p) := .ref (by rw [List.getElem?_append_right (Nat.le_refl _), Nat.sub_self]; rfl)
/-- what may be written -/
def MutO : HO → Bool
  | .lst _ => true
  | .dK _ => true
  | .dT _ => true
  | .ins _ _ _ => true
  | _ => false
theorem Ex.write {o o' : HO} (m : a ∈ ρ) (e : H a = some o) (mu : MutO o = true) : Ex ρ H ρ (upd H a o') := by
  refine ⟨List.prefix_rfl, fun b xs q => ?_, fun b x u q => ?_, fun b u nb q => ⟨?_, nb⟩⟩
  · rw [upd_ne fun z => ?_]; exact q
    rw [z, e] at q; cases q; cases mu
  · rw [upd_ne fun z => ?_]; exact q
    rw [z, e] at q; cases q; cases mu
  · rw [upd_ne fun z => ?_]; exact q
    rw [z] at nb; exact nb m
theorem nodup_ne : ∀ {ρ : List Addr}, ρ.Nodup → ∀ {i j : Nat} {a : Addr}, ρ[i]? = some a → ρ[j]? = some a → i = j
  | [], _, _, _, _, h, _ => by simp at h
  | _ :: _, _, 0, 0, _, _, _ => rfl
  | b :: r, nd, 0, j + 1, a, h1, h2 => by
    simp at h1 h2
    subst h1
    exact absurd (List.mem_of_getElem? h2) (List.nodup_cons.mp nd).1
  | b :: r, nd, i + 1, 0, a, h1, h2 => by
    simp at h1 h2
    subst h2
    exact absurd (List.mem_of_getElem? h1) (List.nodup_cons.mp nd).1
  | b :: r, nd, i + 1, j + 1, a, h1, h2 => by
    simp at h1 h2
    rw [nodup_ne (List.nodup_cons.mp nd).2 h1 h2]
theorem RepH.write {o o' : HO} {u : AO} (r : RepH T ρ H h) (e2 : ρ[n]? = some a) (e : H a = some o) (mu : MutO o = true) (q : RepO T ρ (upd H a o') a u) : RepH T ρ (upd H a o') (h.set n u) := by
  refine ⟨by rw [List.length_set]; exact r.len, r.nd, fun m x b q1 q2 => ?_⟩
  by_cases hm : n = m
  · subst hm
    rw [e2] at q2; cases q2
    rw [List.getElem?_set_self (by obtain ⟨z, _⟩ := List.getElem?_eq_some_iff.mp e2; rw [← r.len]; exact z)] at q1
    cases q1
    exact q
  · rw [List.getElem?_set_ne hm] at q1
    exact (r.at_ m x b q1 q2).at (.write (List.mem_of_getElem? e2) e mu) (upd_ne fun z => hm (nodup_ne r.nd e2 (z ▸ q2)))
end

/-! ### slots -/
abbrev Env' := List (Option D)
def RepE (T : Tab) (ρ : List Addr) (H : Hp) (env : Env') (σ : L2.St) : Prop := env.length = σ.length ∧ ∀ (i : Nat) (d : D), env[i]? = some (some d) → ∃ v, σ[i]? = some (some v) ∧ Rep T ρ H d v
section
variable {T : Tab} {ρ ρ' : List Addr} {H H' : Hp} {env : Env'} {σ : L2.St}
theorem RepE.mono (x : Ex ρ H ρ' H') (r : RepE T ρ H env σ) : RepE T ρ' H' env σ := ⟨r.1, fun i d e => by
  obtain ⟨v, e1, q⟩ := r.2 i d e
  exact ⟨v, e1, q.mono x⟩⟩
theorem RepE.set {i : Nat} {d : D} {v : V} (r : RepE T ρ H env σ) (q : Rep T ρ H d v) : RepE T ρ H (env.set i (some d)) (σ.set i (some v)) := by
  refine ⟨by rw [List.length_set, List.length_set]; exact r.1, fun j d' e => ?_⟩
  by_cases hj : i = j
  · subst hj
    by_cases hi : i < env.length
    · rw [List.getElem?_set_self hi] at e
      cases e
      exact ⟨v, List.getElem?_set_self (by have := r.1; omega), q⟩
    · rw [List.getElem?_eq_none (by rw [List.length_set]; omega)] at e
      cases e
  · rw [List.getElem?_set_ne hj] at e
    rw [List.getElem?_set_ne hj]
    exact r.2 j d' e
/-- a slot forgotten on both sides -/
theorem RepE.unset {i : Nat} (r : RepE T ρ H env σ) : RepE T ρ H (env.set i none) (σ.set i none) := by
  refine ⟨by rw [List.length_set, List.length_set]; exact r.1, fun j d' e => ?_⟩
  by_cases hj : i = j
  · subst hj
    by_cases hi : i < env.length
    · rw [List.getElem?_set_self hi] at e
      cases e
    · rw [List.getElem?_eq_none (by rw [List.length_set]; omega)] at e
      cases e
  · rw [List.getElem?_set_ne hj] at e
    rw [List.getElem?_set_ne hj]
    exact r.2 j d' e
def wipeE (env : Env') : List Nat → Env'
  | [] => env
  | v :: vs => (wipeE env vs).set v none
theorem RepE.wipe (r : RepE T ρ H env σ) : ∀ vs : List Nat, RepE T ρ H (wipeE env vs) (wipe σ vs)
  | [] => r
  | v :: vs => (RepE.wipe r vs).unset
end
def startE (n : Nat) (ds : List D) : Env' := ds.map some ++ List.replicate (n - ds.length) none
theorem RepE.start {T : Tab} {ρ : List Addr} {H : Hp} {N : List Str} {ds : List D} {vs : List V} (r : RepL T ρ H ds vs) : RepE T ρ H (startE N.length ds) (L2.start N vs) := by
  have e := r.length
  refine ⟨by unfold startE L2.start; rw [List.length_append, List.length_append, List.length_map, List.length_map, List.length_replicate, List.length_replicate, e], fun i d q => ?_⟩
  unfold startE at q
  by_cases hi : i < ds.length
  · rw [List.getElem?_append_left (by simpa using hi), List.getElem?_map] at q
    cases q1 : ds[i]? with
    | none => rw [q1] at q; cases q
    | some d' =>
      rw [q1] at q
      cases q
      obtain ⟨v, e1, q2⟩ := r.get q1
      exact ⟨v, by unfold L2.start; rw [List.getElem?_append_left (by rw [List.length_map, ← e]; exact hi), List.getElem?_map, e1]; rfl, q2⟩
  · rw [List.getElem?_append_right (by simpa using hi), List.getElem?_replicate] at q
    split at q <;> cases q

/-! ### the judgements -/
structure Ctx where
  P : Program
  w : World
  mg : Str → Option Value
  base : Heap
  T : Tab
  N : List Str
  sc : Scope
  k : Nat
  calm : Bool
  top : Bool
  fn : Str → Bool
structure CxOk (c : Ctx) (X : Cx) : Prop where
  prog : X.prog = c.P
  w : X.w = c.w
  K : X.K = c.T.K
  mg : X.mg = c.mg
  base : X.base = c.base
  N : X.N = c.N
  sc : X.env.scope = c.sc
  room : Room c.k X.A
  calm : X.calm = c.calm
  top : c.top = true → X.stack = X.env :: X.outer ∧ X.env.frame = some X.env.locals ∧ X.ex = []
  fn : ∀ x, c.fn x = true → X.fn x = true
def RepX (T : Tab) (ρ : List Addr) (H : Hp) (e : Exn) (cls : Value) (d : Option Addr) : Prop :=
  cls = .ref (T.cl e.c) ∧ ∀ ds, e.fs = some ds → ∃ a vs, d = some a ∧ H a = some (.xd ((T.fl e.c).zip vs)) ∧ RepL T ρ H ds vs
abbrev EF := Env' → Hs → R D
abbrev BF := Env' → Hs → R Bool
abbrev AF := Env' → Hs → R (List D)
inductive Out where
  | nx (env : Env') | rt (d : D) | bk (env : Env') | ct (env : Env') | ex (e : Exn) (env : Env')
abbrev SF := Env' → Hs → R Out
/-- what is wanted of an exception -/
def XW (T : Tab) (ρ : List Addr) (H : Hp) (W : WX) (σ : L2.St) (e : Exn) (h' : Hs) : Prop := ∀ ρ' H' cls d, Ex ρ H ρ' H' → RepH T ρ' H' h' → RepX T ρ' H' e cls d → W cls d σ H'
def tE (T : Tab) (W : WX) (f : EF) : TE := fun σ H Q => ∃ env h ρ, RepE T ρ H env σ ∧ RepH T ρ H h ∧
  wp (f env h) (fun d h' => ∀ ρ' v H', Ex ρ H ρ' H' → RepH T ρ' H' h' → Rep T ρ' H' d v → Q v H') (XW T ρ H W σ)
def tB' (T : Tab) (W : WX) (f : BF) : TT := fun σ H Q => ∃ env h ρ, RepE T ρ H env σ ∧ RepH T ρ H h ∧
  wp (f env h) (fun b h' => ∀ ρ' H', Ex ρ H ρ' H' → RepH T ρ' H' h' → Q b H') (XW T ρ H W σ)
def tA (T : Tab) (W : WX) (f : AF) : TA := fun σ H Q => ∃ env h ρ, RepE T ρ H env σ ∧ RepH T ρ H h ∧
  wp (f env h) (fun d h' => ∀ ρ' v H', Ex ρ H ρ' H' → RepH T ρ' H' h' → RepL T ρ' H' d v → Q v H') (XW T ρ H W σ)
/-- what is wanted of an end -/
def OW (T : Tab) (ρ : List Addr) (H : Hp) (W : WX) (D : Ends) (o : Out) (h' : Hs) : Prop := ∀ ρ' H', Ex ρ H ρ' H' → RepH T ρ' H' h' → match o with
  | .nx env => ∀ σ', RepE T ρ' H' env σ' → D.nx σ' H'
  | .bk env => ∀ σ', RepE T ρ' H' env σ' → D.bk σ' H'
  | .ct env => ∀ σ', RepE T ρ' H' env σ' → D.ct σ' H'
  | .rt d => ∀ v, Rep T ρ' H' d v → D.rt v H'
  | .ex e env => ∀ σ' cls d, RepE T ρ' H' env σ' → RepX T ρ' H' e cls d → W cls d σ' H'
def tS (T : Tab) (W : WX) (f : SF) : TS := fun D σ H => ∃ env h ρ, RepE T ρ H env σ ∧ RepH T ρ H h ∧ wp (f env h) (OW T ρ H W D) (fun _ _ => False)
def EV (c : Ctx) (e : Expr) (f : EF) : Prop := ∀ X, CxOk c X → ∀ W, Takes X W → PE X e (tE c.T W f)
def TV (c : Ctx) (e : Expr) (f : BF) : Prop := ∀ X, CxOk c X → ∀ W, Takes X W → PT X e (tB' c.T W f)
def AV (c : Ctx) (es : List Expr) (f : AF) : Prop := ∀ X, CxOk c X → ∀ W, Takes X W → PA X es (tA c.T W f)
def SV (c : Ctx) (s : Stmt) (f : SF) : Prop := ∀ X, CxOk c X → ∀ W, Takes X W → PassesOwn (model X.prog X.w) X.A X.env X.xe → PS X s (tS c.T W f)
def SsV (c : Ctx) (s : List Stmt) (f : SF) : Prop := ∀ X, CxOk c X → ∀ W, Takes X W → PassesOwn (model X.prog X.w) X.A X.env X.xe → PSs X s (tS c.T W f)
theorem _root_.L2.PE.zimp {X : Cx} {e : Expr} {t t' : TE} (h : PE X e t) (i : ∀ σ H Q, t' σ H Q → t σ H Q) : PE X e t' := ⟨fun pins s σ H Q I q => h.run pins s σ H Q I (i σ H Q q)⟩
theorem _root_.L2.PT.zimp {X : Cx} {e : Expr} {t t' : TT} (h : PT X e t) (i : ∀ σ H Q, t' σ H Q → t σ H Q) : PT X e t' := ⟨fun pins s σ H Q I q => h.run pins s σ H Q I (i σ H Q q)⟩
theorem _root_.L2.PA.zimp {X : Cx} {e : List Expr} {t t' : TA} (h : PA X e t) (i : ∀ σ H Q, t' σ H Q → t σ H Q) : PA X e t' := ⟨fun pos pins s σ H Q I q => h.run pos pins s σ H Q I (i σ H Q q)⟩
theorem _root_.L2.PS.zimp {X : Cx} {e : Stmt} {t t' : TS} (h : PS X e t) (i : ∀ D σ H, t' D σ H → t D σ H) : PS X e t' := ⟨fun pins s σ H D I q => h.run pins s σ H D I (i D σ H q)⟩
theorem _root_.L2.PSs.zimp {X : Cx} {e : List Stmt} {t t' : TS} (h : PSs X e t) (i : ∀ D σ H, t' D σ H → t D σ H) : PSs X e t' := ⟨fun pins s σ H D I q => h.run pins s σ H D I (i D σ H q)⟩
end Z

set_option Elab.async false
set_option linter.all false
set_option maxRecDepth 100000
set_option maxHeartbeats 1000000
namespace Z
open PySem PySem.Spec PyProof.Rows L2

section
variable {T : Tab} {ρ ρ1 ρ' : List Addr} {H H1 H' : Hp} {W : WX} {σ : L2.St} {c : Ctx}
/-- what is wanted of a value -/
def PostV (T : Tab) (ρ : List Addr) (H : Hp) (Q : VK) (d : D) (h' : Hs) : Prop := ∀ ρ' v H', Ex ρ H ρ' H' → RepH T ρ' H' h' → Rep T ρ' H' d v → Q v H'
def PostB (T : Tab) (ρ : List Addr) (H : Hp) (Q : Bool → Hp → Prop) (b : Bool) (h' : Hs) : Prop := ∀ ρ' H', Ex ρ H ρ' H' → RepH T ρ' H' h' → Q b H'
def PostL (T : Tab) (ρ : List Addr) (H : Hp) (Q : List V → Hp → Prop) (d : List D) (h' : Hs) : Prop := ∀ ρ' v H', Ex ρ H ρ' H' → RepH T ρ' H' h' → RepL T ρ' H' d v → Q v H'
theorem PostV.mono {Q : VK} (x : Ex ρ H ρ1 H1) {d : D} {h' : Hs} (p : PostV T ρ H Q d h') : PostV T ρ1 H1 Q d h' := fun ρ' v H' x' => p ρ' v H' (x.trans x')
theorem PostB.mono {Q : Bool → Hp → Prop} (x : Ex ρ H ρ1 H1) {d : Bool} {h' : Hs} (p : PostB T ρ H Q d h') : PostB T ρ1 H1 Q d h' := fun ρ' H' x' => p ρ' H' (x.trans x')
theorem PostL.mono {Q : List V → Hp → Prop} (x : Ex ρ H ρ1 H1) {d : List D} {h' : Hs} (p : PostL T ρ H Q d h') : PostL T ρ1 H1 Q d h' := fun ρ' v H' x' => p ρ' v H' (x.trans x')
theorem XW.mono (x : Ex ρ H ρ1 H1) {e : Exn} {h' : Hs} (p : XW T ρ H W σ e h') : XW T ρ1 H1 W σ e h' := fun ρ' H' cls d x' => p ρ' H' cls d (x.trans x')
theorem OW.mono {De : Ends} (x : Ex ρ H ρ1 H1) {o : Out} {h' : Hs} (p : OW T ρ H W De o h') : OW T ρ1 H1 W De o h' := fun ρ' H' x' => p ρ' H' (x.trans x')

/-- run a piece, then go on -/
theorem tE_then {f : EF} {env : Env'} {h : Hs} {β : Type} {k : D → Hs → R β} {QQ : β → Hs → Prop} {EE : Exn → Hs → Prop} {Q : VK} (re : RepE T ρ H env σ) (rh : RepH T ρ H h) (w : wp ((f env h).bind k) QQ EE)
    (hE : ∀ e h', EE e h' → XW T ρ H W σ e h')
    (fin : ∀ d h1 ρ1 v H1, Ex ρ H ρ1 H1 → RepE T ρ1 H1 env σ → RepH T ρ1 H1 h1 → Rep T ρ1 H1 d v → wp (k d h1) QQ EE → Q v H1) : tE T W f σ H Q :=
  ⟨env, h, ρ, re, rh, wp_mono (fun d h1 q ρ1 v H1 x r1 r2 => fin d h1 ρ1 v H1 x (re.mono x) r1 r2 q) hE _ (wp_bind w)⟩
theorem tB_then {f : BF} {env : Env'} {h : Hs} {β : Type} {k : Bool → Hs → R β} {QQ : β → Hs → Prop} {EE : Exn → Hs → Prop} {Q : Bool → Hp → Prop} (re : RepE T ρ H env σ) (rh : RepH T ρ H h) (w : wp ((f env h).bind k) QQ EE)
    (hE : ∀ e h', EE e h' → XW T ρ H W σ e h')
    (fin : ∀ d h1 ρ1 H1, Ex ρ H ρ1 H1 → RepE T ρ1 H1 env σ → RepH T ρ1 H1 h1 → wp (k d h1) QQ EE → Q d H1) : tB' T W f σ H Q :=
  ⟨env, h, ρ, re, rh, wp_mono (fun d h1 q ρ1 H1 x r1 => fin d h1 ρ1 H1 x (re.mono x) r1 q) hE _ (wp_bind w)⟩
theorem tA_then {f : AF} {env : Env'} {h : Hs} {β : Type} {k : List D → Hs → R β} {QQ : β → Hs → Prop} {EE : Exn → Hs → Prop} {Q : List V → Hp → Prop} (re : RepE T ρ H env σ) (rh : RepH T ρ H h) (w : wp ((f env h).bind k) QQ EE)
    (hE : ∀ e h', EE e h' → XW T ρ H W σ e h')
    (fin : ∀ d h1 ρ1 v H1, Ex ρ H ρ1 H1 → RepE T ρ1 H1 env σ → RepH T ρ1 H1 h1 → RepL T ρ1 H1 d v → wp (k d h1) QQ EE → Q v H1) : tA T W f σ H Q :=
  ⟨env, h, ρ, re, rh, wp_mono (fun d h1 q ρ1 v H1 x r1 r2 => fin d h1 ρ1 v H1 x (re.mono x) r1 r2 q) hE _ (wp_bind w)⟩

/-! ### names, constants -/
def fVar (i : Nat) : EF := fun env h => match env[i]? with
  | some (some d) => .ret d h
  | _ => .fail
def fC (d : D) : EF := fun _ h => .ret d h
theorem ev_var (i : Nat) {x : Str} {pos : Pos} (hN : c.N[i]? = some x) (hv : Vis c.sc x) (hd : (x == ("__debug__" : Str)) = false) (hcd : (x == ("__classdict__" : Str)) = false) : EV c (.Name x pos) (fVar i) := by
  intro X ok W tk
  refine (pe_var (i := i) (by rw [ok.N]; exact hN) (by rw [ok.sc]; exact hv) hd hcd).zimp fun σ H Q ⟨env, h, ρ, re, rh, w⟩ => ?_
  unfold fVar at w
  split at w
  · rename_i d e
    obtain ⟨v, e1, q⟩ := re.2 i d e
    exact ⟨v, e1, w ρ v H .refl rh q⟩
  · exact w.elim
theorem ev_const {e : Expr} {d : D} {v : V} (h : ∀ X, PE X e (tC v)) (r : ∀ T ρ H, Rep T ρ H d v) : EV c e (fC d) := fun X ok W tk =>
  (h X).zimp fun σ H Q ⟨env, h, ρ, re, rh, w⟩ => w ρ v H .refl rh (r _ _ _)
theorem ev_int {i : Int} {j : Nat} {pos : Pos} : EV c (.Constant (.int i) j pos) (fC (.int i)) := ev_const (fun _ => pe_int) fun _ _ _ => .int i
theorem ev_bl {b : Bool} {j : Nat} {pos : Pos} : EV c (.Constant (.bool b) j pos) (fC (.bl b)) := ev_const (fun _ => pe_bl) fun _ _ _ => .bl b
theorem ev_non {j : Nat} {pos : Pos} : EV c (.Constant .none j pos) (fC .non) := ev_const (fun _ => pe_non) fun _ _ _ => .non
theorem ev_str {x : Str} {j : Nat} {pos : Pos} : EV c (.Constant (.str x) j pos) (fC (.str x)) := ev_const (fun _ => pe_str) fun _ _ _ => .str x

/-! ### operations on values -/
abbrev G1 := D → Hs → R D
abbrev G2 := D → D → Hs → R D
abbrev GL := List D → Hs → R D
def NoX : Exn → Hs → Prop := fun _ _ => False
/-- a value rule and its function -/
def Lk2 (T : Tab) (r : R2) (g : G2) : Prop := ∀ (ρ : List Addr) (H : Hp) (h : Hs) (x y : D) (vx vy : V) (Q : VK) (E : Exn → Hs → Prop), RepH T ρ H h → Rep T ρ H x vx → Rep T ρ H y vy → wp (g x y h) (PostV T ρ H Q) E → r vx vy H Q
def Lk1 (T : Tab) (r : V → Hp → VK → Prop) (g : G1) : Prop := ∀ (ρ : List Addr) (H : Hp) (h : Hs) (x : D) (vx : V) (Q : VK) (E : Exn → Hs → Prop), RepH T ρ H h → Rep T ρ H x vx → wp (g x h) (PostV T ρ H Q) E → r vx H Q
def LkL (T : Tab) (r : List V → Hp → VK → Prop) (g : GL) : Prop := ∀ (ρ : List Addr) (H : Hp) (h : Hs) (x : List D) (vx : List V) (Q : VK) (E : Exn → Hs → Prop), RepH T ρ H h → RepL T ρ H x vx → wp (g x h) (PostV T ρ H Q) E → r vx H Q
def LkM (T : Tab) (r : V → List V → Hp → VK → Prop) (g : D → GL) : Prop := ∀ (ρ : List Addr) (H : Hp) (h : Hs) (o : D) (vo : V) (x : List D) (vx : List V) (Q : VK) (E : Exn → Hs → Prop), RepH T ρ H h → Rep T ρ H o vo → RepL T ρ H x vx → wp (g o x h) (PostV T ρ H Q) E → r vo vx H Q
def fBin (g : G2) (fa fb : EF) : EF := fun env h => (fa env h).bind fun x h1 => (fb env h1).bind fun y h2 => g x y h2
def fUn (g : G1) (fa : EF) : EF := fun env h => (fa env h).bind fun x h1 => g x h1
def fTest (fa : EF) : BF := fun env h => (fa env h).bind fun x h1 => match x with
  | .bl b => .ret b h1
  | _ => .fail
theorem bin_core {r : R2} {g : G2} {fa fb : EF} (lk : Lk2 T r g) {Q : VK} (q : tE T W (fBin g fa fb) σ H Q) : tOp r (tE T W fa) (tE T W fb) σ H Q := by
  obtain ⟨env, h, ρ, re, rh, w⟩ := q
  refine tE_then re rh w (fun _ _ e => e) fun x h1 ρ1 vx H1 x1 re1 rh1 r1 w1 => ?_
  refine tE_then re1 rh1 w1 (fun _ _ e => XW.mono x1 e) fun y h2 ρ2 vy H2 x2 re2 rh2 r2 w2 => ?_
  exact lk ρ2 H2 h2 x y vx vy Q _ rh2 (r1.mono x2) r2 (wp_mono (fun d h' p => PostV.mono (x1.trans x2) p) (fun _ _ e => e) _ w2)
theorem ev_bin {op : Operator} {r : R2} {g : G2} {a b : Expr} {fa fb : EF} {pos : Pos} (ho : ∀ X, CxOk c X → OpR X (binaryOp op) r) (lk : Lk2 c.T r g) (ha : EV c a fa) (hb : EV c b fb) : EV c (.BinOp a op b pos) (fBin g fa fb) := fun X ok W tk =>
  (pe_op (ho X ok) (ha X ok W tk) (hb X ok W tk)).zimp fun σ H Q q => bin_core lk q
theorem ev_cmp {op : CmpOp} {r : R2} {g : G2} {a b : Expr} {fa fb : EF} {pos : Pos} (ho : ∀ X, CxOk c X → OpR X (compareOp op) r) (lk : Lk2 c.T r g) (ha : EV c a fa) (hb : EV c b fb) (hm : behindInMarks op b = false) : EV c (.Compare a [op] [b] pos) (fBin g fa fb) := fun X ok W tk =>
  (pe_cmpR (ho X ok) (ha X ok W tk) (hb X ok W tk) hm).zimp fun σ H Q q => bin_core lk q
theorem test_core {f : EF} {t : TE} (imp : ∀ σ H Q, tE T W f σ H Q → t σ H Q) {Q : Bool → Hp → Prop} (q : tB' T W (fTest f) σ H Q) : tTest t σ H Q := by
  obtain ⟨env, h, ρ, re, rh, w⟩ := q
  refine imp _ _ _ (tE_then re rh w (fun _ _ e => e) fun x h1 ρ1 vx H1 x1 re1 rh1 r1 w1 => ?_)
  cases r1 with
  | bl b => exact ⟨b, rfl, w1 ρ1 H1 x1 rh1⟩
  | _ => exact w1.elim
theorem tv_cmp {op : CmpOp} {r : R2} {g : G2} {a b : Expr} {fa fb : EF} {pos : Pos} (ho : ∀ X, CxOk c X → OpR X (compareOp op) r) (lk : Lk2 c.T r g) (ha : EV c a fa) (hb : EV c b fb) (hm : behindInMarks op b = false) : TV c (.Compare a [op] [b] pos) (fTest (fBin g fa fb)) := fun X ok W tk =>
  (pt_cmpR (ho X ok) (ha X ok W tk) (hb X ok W tk) hm).zimp fun σ H Q q => test_core (fun σ H Q q => bin_core lk q) q
theorem tv_val {e : Expr} {f : EF} (he : ∀ env whole, isTrue e env whole = (do let v ← whole; standAt e.pos; holding [v] (truthy v))) (h : EV c e f) : TV c e (fTest f) := fun X ok W tk =>
  (pt_val (h X ok W tk) (he _)).zimp fun σ H Q q => test_core (fun σ H Q q => q) q
theorem ev_un {op : UnaryOp} {r : V → Hp → VK → Prop} {g : G1} {a : Expr} {fa : EF} {pos : Pos} (ho : ∀ X, CxOk c X → UnR X (unaryOp op) r) (lk : Lk1 c.T r g) (ha : EV c a fa) : EV c (.UnaryOp op a pos) (fUn g fa) := fun X ok W tk =>
  (pe_un (ho X ok) (ha X ok W tk)).zimp fun σ H Q ⟨env, h, ρ, re, rh, w⟩ => tE_then re rh w (fun _ _ e => e) fun x h1 ρ1 vx H1 x1 re1 rh1 r1 w1 =>
    lk ρ1 H1 h1 x vx Q _ rh1 r1 (wp_mono (fun d h' p => PostV.mono x1 p) (fun _ _ e => e) _ w1)

/-! ### and, or, not; a if t else b -/
def WV (c : Ctx) (e : Expr) (f : BF) : Prop := ∀ X, CxOk c X → ∀ W, Takes X W → PW X e (tB' c.T W f)
def fAnd (f g : BF) : BF := fun env h => (f env h).bind fun b h1 => match b with
  | true => g env h1
  | false => .ret false h1
def fOr (f g : BF) : BF := fun env h => (f env h).bind fun b h1 => match b with
  | true => .ret true h1
  | false => g env h1
def fNot (f : BF) : BF := fun env h => (f env h).bind fun b h1 => .ret (!b) h1
theorem _root_.L2.PW.zimp {X : Cx} {e : Expr} {t t' : TT} (h : PW X e t) (i : ∀ σ H Q, t' σ H Q → t σ H Q) : PW X e t' := ⟨fun wh pins s σ H Q I q => h.run wh pins s σ H Q I (i σ H Q q)⟩
theorem wv_and1 {a : Expr} {f : BF} {pos : Pos} (h : TV c a f) : WV c (.BoolOp .And [a] pos) f := fun X ok W tk => pw_and1 (h X ok W tk)
theorem wv_or1 {a : Expr} {f : BF} {pos : Pos} (h : TV c a f) : WV c (.BoolOp .Or [a] pos) f := fun X ok W tk => pw_or1 (h X ok W tk)
theorem wv_and {a b : Expr} {rest : List Expr} {f g : BF} {pos : Pos} (h : TV c a f) (h2 : WV c (.BoolOp .And (b :: rest) pos) g) : WV c (.BoolOp .And (a :: b :: rest) pos) (fAnd f g) := fun X ok W tk =>
  (pw_and (h X ok W tk) (h2 X ok W tk)).zimp fun σ H Q ⟨env, h, ρ, re, rh, w⟩ => tB_then re rh w (fun _ _ e => e) fun x h1 ρ1 H1 x1 re1 rh1 w1 => by
    cases x with
    | true => exact ⟨env, h1, ρ1, re1, rh1, wp_mono (fun d h' p => PostB.mono x1 p) (fun _ _ e => XW.mono x1 e) _ w1⟩
    | false => exact w1 ρ1 H1 x1 rh1
theorem wv_or {a b : Expr} {rest : List Expr} {f g : BF} {pos : Pos} (h : TV c a f) (h2 : WV c (.BoolOp .Or (b :: rest) pos) g) : WV c (.BoolOp .Or (a :: b :: rest) pos) (fOr f g) := fun X ok W tk =>
  (pw_or (h X ok W tk) (h2 X ok W tk)).zimp fun σ H Q ⟨env, h, ρ, re, rh, w⟩ => tB_then re rh w (fun _ _ e => e) fun x h1 ρ1 H1 x1 re1 rh1 w1 => by
    cases x with
    | false => exact ⟨env, h1, ρ1, re1, rh1, wp_mono (fun d h' p => PostB.mono x1 p) (fun _ _ e => XW.mono x1 e) _ w1⟩
    | true => exact w1 ρ1 H1 x1 rh1
theorem tv_w {e : Expr} {f : BF} (h : WV c e f) : TV c e f := fun X ok W tk => (h X ok W tk).pt
theorem tv_not {a : Expr} {f : BF} {pos : Pos} (h : TV c a f) : TV c (.UnaryOp .Not a pos) (fNot f) := fun X ok W tk =>
  (pt_not (h X ok W tk)).zimp fun σ H Q ⟨env, h, ρ, re, rh, w⟩ => tB_then re rh w (fun _ _ e => e) fun x h1 ρ1 H1 x1 re1 rh1 w1 => w1 ρ1 H1 x1 rh1
/-- as values: bools -/
def fAndV (f g : EF) : EF := fun env h => (f env h).bind fun b h1 => match b with
  | .bl true => g env h1
  | .bl false => .ret (.bl false) h1
  | _ => .fail
def fOrV (f g : EF) : EF := fun env h => (f env h).bind fun b h1 => match b with
  | .bl true => .ret (.bl true) h1
  | .bl false => g env h1
  | _ => .fail
def fNotV (f : EF) : EF := fun env h => (f env h).bind fun b h1 => match b with
  | .bl b => .ret (.bl !b) h1
  | _ => .fail
theorem ev_one {op : PySem.BoolOp} {a : Expr} {f : EF} {pos : Pos} (h : EV c a f) : EV c (.BoolOp op [a] pos) f := fun X ok W tk => pe_one (h X ok W tk)
theorem ev_and {a b : Expr} {rest : List Expr} {f g : EF} {pos : Pos} (h : EV c a f) (h2 : EV c (.BoolOp .And (b :: rest) pos) g) : EV c (.BoolOp .And (a :: b :: rest) pos) (fAndV f g) := fun X ok W tk =>
  (pe_and (h X ok W tk) (h2 X ok W tk)).zimp fun σ H Q ⟨env, h, ρ, re, rh, w⟩ => tE_then re rh w (fun _ _ e => e) fun x h1 ρ1 v1 H1 x1 re1 rh1 r1 w1 => by
    cases r1 with
    | bl b =>
      refine ⟨b, rfl, ?_⟩
      cases b with
      | true => exact ⟨env, h1, ρ1, re1, rh1, wp_mono (fun d h' p => PostV.mono x1 p) (fun _ _ e => XW.mono x1 e) _ w1⟩
      | false => exact w1 ρ1 _ H1 x1 rh1 (.bl false)
    | _ => exact w1.elim
theorem ev_or {a b : Expr} {rest : List Expr} {f g : EF} {pos : Pos} (h : EV c a f) (h2 : EV c (.BoolOp .Or (b :: rest) pos) g) : EV c (.BoolOp .Or (a :: b :: rest) pos) (fOrV f g) := fun X ok W tk =>
  (pe_or (h X ok W tk) (h2 X ok W tk)).zimp fun σ H Q ⟨env, h, ρ, re, rh, w⟩ => tE_then re rh w (fun _ _ e => e) fun x h1 ρ1 v1 H1 x1 re1 rh1 r1 w1 => by
    cases r1 with
    | bl b =>
      refine ⟨b, rfl, ?_⟩
      cases b with
      | false => exact ⟨env, h1, ρ1, re1, rh1, wp_mono (fun d h' p => PostV.mono x1 p) (fun _ _ e => XW.mono x1 e) _ w1⟩
      | true => exact w1 ρ1 _ H1 x1 rh1 (.bl true)
    | _ => exact w1.elim
theorem ev_not {a : Expr} {f : EF} {pos : Pos} (h : EV c a f) : EV c (.UnaryOp .Not a pos) (fNotV f) := fun X ok W tk =>
  (pe_not (h X ok W tk)).zimp fun σ H Q ⟨env, h, ρ, re, rh, w⟩ => tE_then re rh w (fun _ _ e => e) fun x h1 ρ1 v1 H1 x1 re1 rh1 r1 w1 => by
    cases r1 with
    | bl b => exact ⟨b, rfl, w1 ρ1 _ H1 x1 rh1 (.bl _)⟩
    | _ => exact w1.elim
def fIf (t : BF) (f g : EF) : EF := fun env h => (t env h).bind fun b h1 => match b with
  | true => f env h1
  | false => g env h1
theorem ev_if {t a b : Expr} {ft : BF} {fa fb : EF} {pos : Pos} (ht : TV c t ft) (ha : EV c a fa) (hb : EV c b fb) : EV c (.IfExp t a b pos) (fIf ft fa fb) := fun X ok W tk =>
  (pe_ifExp (ht X ok W tk) (ha X ok W tk) (hb X ok W tk)).zimp fun σ H Q ⟨env, h, ρ, re, rh, w⟩ => tB_then re rh w (fun _ _ e => e) fun x h1 ρ1 H1 x1 re1 rh1 w1 => by
    cases x with
    | true => exact ⟨env, h1, ρ1, re1, rh1, wp_mono (fun d h' p => PostV.mono x1 p) (fun _ _ e => XW.mono x1 e) _ w1⟩
    | false => exact ⟨env, h1, ρ1, re1, rh1, wp_mono (fun d h' p => PostV.mono x1 p) (fun _ _ e => XW.mono x1 e) _ w1⟩

/-! ### argument lists, displays, calls of built-ins, methods of built-in types -/
def fNil : AF := fun _ h => .ret [] h
def fCons (f : EF) (g : AF) : AF := fun env h => (f env h).bind fun x h1 => (g env h1).bind fun xs h2 => .ret (x :: xs) h2
theorem av_nil : AV c [] fNil := fun X ok W tk => pa_nil.zimp fun σ H Q ⟨env, h, ρ, re, rh, w⟩ => w ρ [] H .refl rh .nil
theorem av_cons {e : Expr} {es : List Expr} {f : EF} {g : AF} (h : EV c e f) (hs : AV c es g) (st : ∀ env, starEach (e :: es) env = (false, eval e env) :: starEach es env) : AV c (e :: es) (fCons f g) := fun X ok W tk =>
  (pa_cons (h X ok W tk) (hs X ok W tk) (st _)).zimp fun σ H Q ⟨env, h, ρ, re, rh, w⟩ => tE_then re rh w (fun _ _ e => e) fun x h1 ρ1 v1 H1 x1 re1 rh1 r1 w1 =>
    tA_then re1 rh1 w1 (fun _ _ e => XW.mono x1 e) fun xs h2 ρ2 vs H2 x2 re2 rh2 r2 w2 => w2 ρ2 _ H2 (x1.trans x2) rh2 (.cons (r1.mono x2) r2)
abbrev line : Nat := 16777216
theorem line_le {n : Nat} (h : n ≤ line) : n ≤ sizeLine := by rw [sizeLine_eq]; exact h
theorem line_lt {n : Nat} (h : n < line) : n < sizeLine := by rw [sizeLine_eq]; exact h
def short {α β : Type} (xs : List α) (r : R β) : R β := match Nat.ble xs.length line with
  | true => r
  | false => .fail
theorem short_wp {α β : Type} {xs : List α} {r : R β} {Q : β → Hs → Prop} {E : Exn → Hs → Prop} (w : wp (short xs r) Q E) : xs.length ≤ sizeLine ∧ wp r Q E := by
  unfold short at w
  split at w
  · rename_i e; exact ⟨line_le (Nat.le_of_ble_eq_true e), w⟩
  · exact w.elim
def fTup (g : AF) : EF := fun env h => (g env h).bind fun xs h1 => short xs (.ret (.tup xs) h1)
def newL (xs : List D) (h : Hs) : R D := .ret (.ref h.length) (h ++ [.lst xs])
def fLst (g : AF) : EF := fun env h => (g env h).bind fun xs h1 => short xs (newL xs h1)
theorem newL_ok {h : Hs} {xs : List D} {vs : List V} {Q : VK} {E : Exn → Hs → Prop} (rh : RepH T ρ H h) (r : RepL T ρ H xs vs) (w : wp (newL xs h) (PostV T ρ H Q) E) {p : Addr} (np : H p = none) : Q (.ref p) (upd H p (.lst vs)) := by
  have x : Ex ρ H (ρ ++ [p]) (upd H p (.lst vs)) := .alloc np
  refine w (ρ ++ [p]) (.ref p) _ x (rh.alloc np ⟨vs, upd_same, r.mono x⟩) ?_
  rw [← rh.len]
  exact Rep.last
theorem newT_ok {h : Hs} {xs : List D} {vs : List V} {Q : VK} (rh : RepH T ρ H h) (r : RepL T ρ H xs vs) (w : PostV T ρ H Q (.tup xs) h) {p : Addr} (np : H p = none) : Q (.ref p) (upd H p (.tup vs)) :=
  w ρ (.ref p) _ (.new np) (rh.new np) (.tup (.of upd_same) (r.mono (.new np)))
theorem ev_tup {es : List Expr} {k : Nat} {g : AF} {pos : Pos} (h : AV c es g) : EV c (.Tuple es k pos) (fTup g) := fun X ok W tk =>
  (pe_tup (h X ok W tk)).zimp fun σ H Q ⟨env, h, ρ, re, rh, w⟩ => tA_then re rh w (fun _ _ e => e) fun xs h1 ρ1 vs H1 x1 re1 rh1 r1 w1 => by
    obtain ⟨z, w1⟩ := short_wp w1
    exact ⟨by rw [← r1.length]; exact z, fun p np => newT_ok rh1 r1 (PostV.mono x1 w1) np⟩
theorem ev_lst {es : List Expr} {g : AF} {pos : Pos} (h : AV c es g) : EV c (.List es pos) (fLst g) := fun X ok W tk =>
  (pe_lst (h X ok W tk)).zimp fun σ H Q ⟨env, h, ρ, re, rh, w⟩ => tA_then re rh w (fun _ _ e => e) fun xs h1 ρ1 vs H1 x1 re1 rh1 r1 w1 => by
    obtain ⟨z, w1⟩ := short_wp w1
    exact ⟨by rw [← r1.length]; exact z, fun p np => newL_ok (E := XW c.T ρ H W σ) rh1 r1 (PostV.mono x1 w1) np⟩
def fCallL (g : GL) (f : AF) : EF := fun env h => (f env h).bind fun xs h1 => g xs h1
theorem callL_core {r : List V → Hp → VK → Prop} {g : GL} {f : AF} (lk : LkL T r g) {Q : VK} (q : tE T W (fCallL g f) σ H Q) : tCB r (tA T W f) σ H Q := by
  obtain ⟨env, h, ρ, re, rh, w⟩ := q
  exact tA_then re rh w (fun _ _ e => e) fun xs h1 ρ1 vs H1 x1 re1 rh1 r1 w1 => lk ρ1 H1 h1 xs vs Q _ rh1 r1 (wp_mono (fun d h' p => PostV.mono x1 p) (fun _ _ e => e) _ w1)
/-- how a name is read: a global -/
def GlC (c : Ctx) (x : Str) : Prop := c.sc.names.lookup x = some .globalImplicit
theorem GlC.gl {X : Cx} (ok : CxOk c X) {x : Str} (h : GlC c x) : Gl X x := by
  show X.env.scope.names.lookup x = some .globalImplicit
  rw [ok.sc]; exact h
theorem ev_callB {r : List V → Hp → VK → Prop} {g : GL} {id : String} {x : Str} {p pos : Pos} {e : Expr} {es : List Expr} {f : AF} (hc : ∀ X, CxOk c X → CallR X (.builtin id) r) (lk : LkL c.T r g) (hg : GlC c x) (hm : c.mg x = none) (hv : bootBuiltins x = some (.builtin id)) (ha : AV c (e :: es) f)
    (hn : x ≠ "__name__") (hdb : (x == ("__debug__" : Str)) = false) (he : ∀ env, starEach (e :: es) env = (false, eval e env) :: starEach es env) (hpl : ∀ env, (backTo pos (starEach es env)).any (·.1) = false) :
    EV c (.Call (.Name x p) (e :: es) [] pos) (fCallL g f) := fun X ok W tk =>
  (pe_callB (hc X ok) (hg.gl ok) (by rw [ok.mg]; exact hm) hv (ha X ok W tk) hn hdb (he _) (hpl _)).zimp fun σ H Q q => callL_core lk q
theorem ev_callTy {r : List V → Hp → VK → Prop} {g : GL} {id : String} {x : Str} {p pos : Pos} {e : Expr} {es : List Expr} {f : AF} (hc : ∀ X, CxOk c X → CallR X (.type id) r) (lk : LkL c.T r g) (hg : GlC c x) (hm : c.mg x = none) (hv : bootBuiltins x = some (.type id)) (ha : AV c (e :: es) f)
    (hn : x ≠ "__name__") (hdb : (x == ("__debug__" : Str)) = false) (he : ∀ env, starEach (e :: es) env = (false, eval e env) :: starEach es env) (hpl : ∀ env, (backTo pos (starEach es env)).any (·.1) = false) :
    EV c (.Call (.Name x p) (e :: es) [] pos) (fCallL g f) := fun X ok W tk =>
  (pe_callTy (hc X ok) (hg.gl ok) (by rw [ok.mg]; exact hm) hv (ha X ok W tk) hn hdb (he _) (hpl _)).zimp fun σ H Q q => callL_core lk q
end
end Z

set_option Elab.async false
set_option linter.all false
set_option maxRecDepth 100000
set_option maxHeartbeats 1000000
namespace Z
open PySem PySem.Spec PyProof.Rows L2

section
variable {T : Tab} {c : Ctx} {ρ : List Addr} {H : Hp}
theorem CxOk.mk' {X : Cx} (ok : CxOk c X) : X.K = c.T.K := ok.K
/-! ### reading objects -/
theorem RepH.lst {h : Hs} {n : Nat} {a : Addr} {xs : List D} (rh : RepH T ρ H h) (e : h[n]? = some (.lst xs)) (ea : ρ[n]? = some a) : ∃ vs, H a = some (.lst vs) ∧ RepL T ρ H xs vs := rh.at_ n _ a e ea
/-- a list, a list that never changes -/
def seqOf (h : Hs) (d : D) : Option (List D) := match d with
  | .ref n => match h[n]? with
    | some (.lst xs) => some xs
    | _ => none
  | .kl xs => some xs
  | _ => none
theorem RepH.seq {h : Hs} {d : D} {v : V} {xs : List D} (rh : RepH T ρ H h) (e : seqOf h d = some xs) (r : Rep T ρ H d v) : ∃ a vs, v = .ref a ∧ SqL T.K H a vs ∧ RepL T ρ H xs vs := by
  unfold seqOf at e
  cases r with
  | ref ea =>
    dsimp only at e
    split at e
    · rename_i q
      cases e
      obtain ⟨vs, e1, r⟩ := rh.at_ _ _ _ q ea
      exact ⟨_, vs, rfl, .of e1, r⟩
    · cases e
  | kl s q =>
    cases e
    exact ⟨_, _, rfl, s.sq, q⟩
  | _ => cases e
/-! ### ints -/
def gI2 (k : Int → Int → Bool) (f : Int → Int → D) : G2 := fun x y h => match x, y with
  | .int i, .int j => match k i j with
    | true => .ret (f i j) h
    | false => .fail
  | _, _ => .fail
theorem lk_I {C : Int → Int → Prop} {g : Int → Int → V} {k : Int → Int → Bool} {f : Int → Int → D} (hk : ∀ i j, k i j = true → C i j) (hf : ∀ T ρ H i j, Rep T ρ H (f i j) (g i j)) : Lk2 T (rI C g) (gI2 k f) := by
  intro ρ H h x y vx vy Q E rh rx ry w
  unfold gI2 at w
  split at w
  · cases rx; cases ry
    split at w
    · rename_i e
      exact ⟨_, _, rfl, rfl, hk _ _ e, w ρ _ H .refl rh (hf _ _ _ _ _)⟩
    · exact w.elim
  · exact w.elim
theorem lk_I0 {g : Int → Int → V} {f : Int → Int → D} (hf : ∀ T ρ H i j, Rep T ρ H (f i j) (g i j)) : Lk2 T (rI0 g) (gI2 (fun _ _ => true) f) := by
  intro ρ H h x y vx vy Q E rh rx ry w
  unfold gI2 at w
  split at w
  · cases rx; cases ry
    exact ⟨_, _, rfl, rfl, w ρ _ H .refl rh (hf _ _ _ _ _)⟩
  · exact w.elim
theorem Lk2.or {r r' : R2} {g g' : G2} {k : D → D → Bool} (a : Lk2 T r g) (b : Lk2 T r' g') : Lk2 T (fun x y H Q => r x y H Q ∨ r' x y H Q) (fun x y h => match k x y with | true => g x y h | false => g' x y h) := by
  intro ρ H h x y vx vy Q E rh rx ry w
  dsimp only at w
  split at w
  · exact .inl (a ρ H h x y vx vy Q E rh rx ry w)
  · exact .inr (b ρ H h x y vx vy Q E rh rx ry w)
/-- a number that fits a word -/
def w64 (i : Int) : Bool := Nat.blt i.natAbs 18446744073709551616
theorem w64_ok {i : Int} (h : w64 i = true) : -(2 ^ 64) < i ∧ i < 2 ^ 64 := by
  have h' : i.natAbs < 18446744073709551616 := by simpa [w64, Nat.blt_eq] using h
  omega
def isInt : D → Bool
  | .int _ => true
  | _ => false
def gAddI := gI2 (fun _ _ => true) fun i j => .int (i + j)
def gSubI := gI2 (fun _ _ => true) fun i j => .int (i - j)
def gMulI := gI2 (fun i j => w64 i || w64 j) fun i j => .int (i * j)
def gDivI := gI2 (fun i j => !(j == 0) && Nat.blt j.natAbs 1073741824) fun i j => .int (i.fdiv j)
def gModI := gI2 (fun i j => !(j == 0)) fun i j => .int (i.fmod j)
theorem lk_add : Lk2 T (rI0 fun i j => .int (i + j)) gAddI := lk_I0 fun _ _ _ _ _ => .int _
theorem lk_sub : Lk2 T (rI0 fun i j => .int (i - j)) gSubI := lk_I0 fun _ _ _ _ _ => .int _
theorem lk_mul : Lk2 T (rI CMul fun i j => .int (i * j)) gMulI := lk_I (fun i j h => by
  rcases Bool.or_eq_true_iff.mp h with h | h
  · exact .inl (w64_ok h)
  · exact .inr (w64_ok h)) fun _ _ _ _ _ => .int _
theorem lk_div : Lk2 T (rI CDivN fun i j => .int (i.fdiv j)) gDivI := lk_I (fun i j h => by
  obtain ⟨h1, h2⟩ := Bool.and_eq_true_iff.mp h
  exact ⟨by simpa using h1, by simpa [Nat.blt_eq] using h2⟩) fun _ _ _ _ _ => .int _
theorem lk_mod : Lk2 T (rI (fun _ j => j ≠ 0) fun i j => .int (i.fmod j)) gModI := lk_I (fun i j h => by simpa using h) fun _ _ _ _ _ => .int _
section
variable {a b : Expr} {fa fb : EF} {pos : Pos}
theorem ev_sub (ha : EV c a fa) (hb : EV c b fb) : EV c (.BinOp a .Sub b pos) (fBin gSubI fa fb) := ev_bin (fun _ _ => op_sub) lk_sub ha hb
theorem ev_mul (ha : EV c a fa) (hb : EV c b fb) : EV c (.BinOp a .Mult b pos) (fBin gMulI fa fb) := ev_bin (fun _ _ => op_mul) lk_mul ha hb
theorem ev_mod (ha : EV c a fa) (hb : EV c b fb) : EV c (.BinOp a .Mod b pos) (fBin gModI fa fb) := ev_bin (fun _ _ => op_modN) lk_mod ha hb
theorem ev_div (ha : EV c a fa) (hb : EV c b fb) : EV c (.BinOp a .FloorDiv b pos) (fBin gDivI fa fb) := ev_bin (fun _ _ => op_fdivN) lk_div ha hb
end
def gB2 (f : Int → Int → Bool) : G2 := gI2 (fun _ _ => true) fun i j => .bl (f i j)
def gLt := gB2 fun i j => decide (i < j)
def gLe := gB2 fun i j => decide (i ≤ j)
def gGt := gB2 fun i j => decide (j < i)
def gGe := gB2 fun i j => decide (j ≤ i)
section
variable {a b : Expr} {fa fb : EF} {pos : Pos}
theorem ev_lt (ha : EV c a fa) (hb : EV c b fb) : EV c (.Compare a [.Lt] [b] pos) (fBin gLt fa fb) := ev_cmp (fun _ _ => op_lt) (lk_I0 fun _ _ _ _ _ => .bl _) ha hb (nomark _)
theorem ev_le (ha : EV c a fa) (hb : EV c b fb) : EV c (.Compare a [.LtE] [b] pos) (fBin gLe fa fb) := ev_cmp (fun _ _ => op_le) (lk_I0 fun _ _ _ _ _ => .bl _) ha hb (nomark _)
theorem ev_gt (ha : EV c a fa) (hb : EV c b fb) : EV c (.Compare a [.Gt] [b] pos) (fBin gGt fa fb) := ev_cmp (fun _ _ => op_gt) (lk_I0 fun _ _ _ _ _ => .bl _) ha hb (nomark _)
theorem ev_ge (ha : EV c a fa) (hb : EV c b fb) : EV c (.Compare a [.GtE] [b] pos) (fBin gGe fa fb) := ev_cmp (fun _ _ => op_ge) (lk_I0 fun _ _ _ _ _ => .bl _) ha hb (nomark _)
theorem tv_lt (ha : EV c a fa) (hb : EV c b fb) : TV c (.Compare a [.Lt] [b] pos) (fTest (fBin gLt fa fb)) := tv_cmp (fun _ _ => op_lt) (lk_I0 fun _ _ _ _ _ => .bl _) ha hb (nomark _)
theorem tv_le (ha : EV c a fa) (hb : EV c b fb) : TV c (.Compare a [.LtE] [b] pos) (fTest (fBin gLe fa fb)) := tv_cmp (fun _ _ => op_le) (lk_I0 fun _ _ _ _ _ => .bl _) ha hb (nomark _)
theorem tv_gt (ha : EV c a fa) (hb : EV c b fb) : TV c (.Compare a [.Gt] [b] pos) (fTest (fBin gGt fa fb)) := tv_cmp (fun _ _ => op_gt) (lk_I0 fun _ _ _ _ _ => .bl _) ha hb (nomark _)
theorem tv_ge (ha : EV c a fa) (hb : EV c b fb) : TV c (.Compare a [.GtE] [b] pos) (fTest (fBin gGe fa fb)) := tv_cmp (fun _ _ => op_ge) (lk_I0 fun _ _ _ _ _ => .bl _) ha hb (nomark _)
end
def gNeg : G1 := fun x h => match x with
  | .int i => .ret (.int (-i)) h
  | _ => .fail
theorem ev_neg {a : Expr} {fa : EF} {pos : Pos} (ha : EV c a fa) : EV c (.UnaryOp .USub a pos) (fUn gNeg fa) := ev_un (r := rU fun i => .int (-i)) (fun _ _ => un_neg) (fun ρ H h x vx Q E rh rx w => by
  unfold gNeg at w
  split at w
  · cases rx
    exact ⟨_, rfl, w ρ _ H .refl rh (.int _)⟩
  · exact w.elim) ha

/-! ### + of ints, texts, lists, tuples -/
def gAdd : G2 := fun x y h => match x, y with
  | .int i, .int j => .ret (.int (i + j)) h
  | .str a, .str b => match Nat.ble (a.length + b.length) line with
    | true => .ret (.str (a ++ b)) h
    | false => .fail
  | .ref n, .ref m => match h[n]?, h[m]? with
    | some (.lst xs), some (.lst ys) => match Nat.ble (xs.length + ys.length) line with
      | true => newL (xs ++ ys) h
      | false => .fail
    | _, _ => .fail
  | .tup xs, .tup ys => match xs with
    | [] => .fail
    | _ :: _ => match Nat.ble (xs.length + ys.length) line with
      | true => .ret (.tup (xs ++ ys)) h
      | false => .fail
  | _, _ => .fail
def rAdd (K : PySem.W.Frag) : R2 := fun x y H Q => (∃ i j, x = .int i ∧ y = .int j ∧ Q (.int (i + j)) H) ∨ (∃ a b, x = .str a ∧ y = .str b ∧ a.length + b.length ≤ sizeLine ∧ Q (.str (a ++ b)) H) ∨ rCat x y H Q ∨ rCatT K x y H Q
theorem op_addAny {X : Cx} : OpR X (binaryOp .Add) (rAdd X.K) := by
  refine OpR.or op_add (OpR.or (r := fun x y H Q => ∃ a b, x = .str a ∧ y = .str b ∧ a.length + b.length ≤ sizeLine ∧ Q (.str (a ++ b)) H) ?_ (OpR.or op_cat op_catT))
  intro pins s σ H x y v u Q I rx ry q
  obtain ⟨a, b, e1, e2, z, q⟩ := q
  exact op_add_str pins s σ H x y v u Q I rx ry ⟨a, b, e1, e2, z, q⟩
theorem lk_addAny : Lk2 T (rAdd T.K) gAdd := by
  intro ρ H h x y vx vy Q E rh rx ry w
  unfold gAdd at w
  split at w
  · cases rx; cases ry
    exact .inl ⟨_, _, rfl, rfl, w ρ _ H .refl rh (.int _)⟩
  · split at w
    · rename_i z
      cases rx; cases ry
      exact .inr (.inl ⟨_, _, rfl, rfl, line_le (Nat.le_of_ble_eq_true z), w ρ _ H .refl rh (.str _)⟩)
    · exact w.elim
  · split at w
    · rename_i xs ys e1 e2
      split at w
      · rename_i z
        cases rx with
        | ref ea =>
          cases ry with
          | ref eb =>
            obtain ⟨vs, q1, r1⟩ := rh.at_ _ _ _ e1 ea
            obtain ⟨ws, q2, r2⟩ := rh.at_ _ _ _ e2 eb
            exact .inr (.inr (.inl ⟨_, _, vs, ws, rfl, rfl, q1, q2, by rw [← r1.length, ← r2.length]; exact line_le (Nat.le_of_ble_eq_true z), fun p np => newL_ok rh (r1.append r2) w np⟩))
      · exact w.elim
    · exact w.elim
  · split at w
    · exact w.elim
    · split at w
      · rename_i z
        cases rx with
        | tup s1 r1 =>
          cases ry with
          | tup s2 r2 =>
            rename_i x0 ys y1 xs1 vs a ws b
            refine .inr (.inr (.inr ⟨_, _, _, _, rfl, rfl, s1, s2, fun e => (by rw [e] at r1; cases r1), by rw [← r1.length, ← r2.length]; exact line_le (Nat.le_of_ble_eq_true z), fun e => ?_, fun e p np => newT_ok rh (r1.append r2) w np⟩))
            subst e
            cases r2
            rw [List.append_nil] at w
            exact w ρ _ H .refl rh (.tup s1 r1)
      · exact w.elim
  · exact w.elim
theorem ev_add {a b : Expr} {fa fb : EF} {pos : Pos} (ha : EV c a fa) (hb : EV c b fb) : EV c (.BinOp a .Add b pos) (fBin gAdd fa fb) := ev_bin (r := rAdd c.T.K) (fun X ok => by rw [← ok.K]; exact op_addAny) lk_addAny ha hb
end
end Z

set_option Elab.async false
set_option linter.all false
set_option maxRecDepth 100000
set_option maxHeartbeats 1000000
namespace Z
open PySem PySem.Spec PyProof.Rows L2

section
variable {T : Tab} {c : Ctx} {ρ : List Addr} {H : Hp}
/-! ### == -/
def mapO {α β : Type} (f : α → Option β) : List α → Option (List β)
  | [] => some []
  | x :: xs => match f x with
    | some y => match mapO f xs with
      | some ys => some (y :: ys)
      | none => none
    | none => none
def toPD (h : Hs) : Nat → D → Option PyData
  | 0, _ => none
  | _ + 1, .non => some .none
  | _ + 1, .bl b => some (.bool b)
  | _ + 1, .int i => some (.int i)
  | _ + 1, .str x => some (.str x)
  | f + 1, .tup xs => match mapO (toPD h f) xs with
    | some ys => some (.tuple ys)
    | none => none
  | f + 1, .ref n => match seqOf h (.ref n) with
    | some xs => match mapO (toPD h f) xs with
      | some ys => some (.list ys)
      | none => none
    | none => none
  | f + 1, .kl xs => match mapO (toPD h f) xs with
    | some ys => some (.list ys)
    | none => none
  | _ + 1, _ => none
theorem dpAll {f : D → Option PyData} (hf : ∀ d v p, Rep T ρ H d v → f d = some p → Dp T.K H v p) : ∀ {ds : List D} {vs : List V} {ps : List PyData}, RepL T ρ H ds vs → mapO f ds = some ps → DpAll T.K H vs ps
  | _, _, _, .nil, e => by cases e; exact .nil
  | _, _, _, .cons r s, e => by
    unfold mapO at e
    split at e
    · rename_i y e1
      split at e
      · rename_i ys e2
        cases e
        exact .cons (hf _ _ _ r e1) (dpAll hf s e2)
      · cases e
    · cases e
theorem dp_of {h : Hs} (rh : RepH T ρ H h) : ∀ (f : Nat) (d : D) (v : V) (p : PyData), Rep T ρ H d v → toPD h f d = some p → Dp T.K H v p
  | 0, _, _, _, _, e => by cases e
  | f + 1, d, v, p, r, e => by
    unfold toPD at e
    cases r with
    | non => cases e; exact .non
    | bl => cases e; exact .bl _
    | int => cases e; exact .int _
    | str => cases e; exact .str _
    | ty => cases e
    | ins => cases e
    | cls => cases e
    | tup s q =>
      dsimp only at e
      split at e
      · rename_i ys e1
        cases e
        exact .tup s (dpAll (fun d v p => dp_of rh f d v p) q e1)
      · cases e
    | ref ea =>
      dsimp only at e
      split at e
      · rename_i xs e0
        split at e
        · rename_i ys e1
          cases e
          obtain ⟨a, vs, ev, s, q⟩ := rh.seq e0 (.ref ea)
          cases ev
          exact .lst s (dpAll (fun d v p => dp_of rh f d v p) q e1)
        · cases e
      · cases e
    | kl s q =>
      dsimp only at e
      split at e
      · rename_i ys e1
        cases e
        exact .lst s.sq (dpAll (fun d v p => dp_of rh f d v p) q e1)
      · cases e
/-- == as the layer has it: flat values, or data of any depth -/
def eqFlat : D → D → Option Bool
  | .int i, .int j => some (i == j)
  | .str x, .str y => some (x.cps.toList == y.cps.toList)
  | .bl x, .bl y => some (x == y)
  | .non, .non => some true
  | .non, .int _ => some false | .int _, .non => some false | .non, .bl _ => some false | .bl _, .non => some false | .non, .str _ => some false | .str _, .non => some false
  | .int _, .str _ => some false | .str _, .int _ => some false | .bl _, .str _ => some false | .str _, .bl _ => some false
  | _, _ => none
def eqD (h : Hs) (x y : D) : Option Bool := match eqFlat x y with
  | some b => some b
  | none => match toPD h 9 x, toPD h 9 y with
    | some p, some q => match SeqAt.shaped p, SeqAt.shaped q with
      | true, true => some (PyData.eqv p q)
      | _, _ => none
    | _, _ => none
def gEq : G2 := fun x y h => match eqD h x y with
  | some b => .ret (.bl b) h
  | none => .fail
def gNe : G2 := fun x y h => match eqD h x y with
  | some b => .ret (.bl (!b)) h
  | none => .fail
theorem str_eq {x y : Str} : (x.cps.toList == y.cps.toList) = decide (V.str x = V.str y) := by
  rw [Bool.eq_iff_iff]
  cases x; cases y
  simp
theorem eqFlat_ok {x y : D} {vx vy : V} {b : Bool} (rx : Rep T ρ H x vx) (ry : Rep T ρ H y vy) (e : eqFlat x y = some b) : scal vx vy = true ∧ decide (vx = vy) = b := by
  unfold eqFlat at e
  split at e <;> first
    | (cases e; cases rx; cases ry; first | exact ⟨rfl, dec_int⟩ | exact ⟨rfl, dec_bl⟩ | exact ⟨rfl, str_eq.symm⟩ | exact ⟨rfl, by simp⟩)
    | cases e
theorem eqD_ok {h : Hs} {x y : D} {vx vy : V} {b : Bool} (rh : RepH T ρ H h) (rx : Rep T ρ H x vx) (ry : Rep T ρ H y vy) (e : eqD h x y = some b) :
    (scal vx vy = true ∧ decide (vx = vy) = b) ∨ ∃ d e, Dp T.K H vx d ∧ Dp T.K H vy e ∧ SeqAt.shaped d = true ∧ SeqAt.shaped e = true ∧ PyData.eqv d e = b := by
  unfold eqD at e
  split at e
  · rename_i b' e1
    cases e
    exact .inl (eqFlat_ok rx ry e1)
  · split at e
    · rename_i p q e1 e2
      split at e
      · rename_i s1 s2
        cases e
        exact .inr ⟨p, q, dp_of rh _ _ _ _ rx e1, dp_of rh _ _ _ _ ry e2, s1, s2, rfl⟩
      · cases e
    · cases e
def rEqA (K : PySem.W.Frag) : R2 := fun x y H Q => rEq x y H Q ∨ rEqD K x y H Q
def rNeA (K : PySem.W.Frag) : R2 := fun x y H Q => rNe x y H Q ∨ rNeD K x y H Q
theorem op_eqA {X : Cx} (ok : CxOk c X) : OpR X (compareOp .Eq) (rEqA c.T.K) := by rw [← ok.K]; exact op_eq.or (op_eqD ok.room.units)
theorem op_neA {X : Cx} (ok : CxOk c X) : OpR X (compareOp .NotEq) (rNeA c.T.K) := by rw [← ok.K]; exact op_ne.or (op_neD ok.room.units)
theorem lk_eq : Lk2 T (rEqA T.K) gEq := by
  intro ρ H h x y vx vy Q E rh rx ry w
  unfold gEq at w
  split at w
  · rename_i b e
    rcases eqD_ok rh rx ry e with ⟨h1, h2⟩ | ⟨d, e, h1, h2, h3, h4, h5⟩
    · exact .inl ⟨h1, by rw [h2]; exact w ρ _ H .refl rh (.bl _)⟩
    · exact .inr ⟨d, e, h1, h2, h3, h4, by rw [h5]; exact w ρ _ H .refl rh (.bl _)⟩
  · exact w.elim
theorem lk_ne : Lk2 T (rNeA T.K) gNe := by
  intro ρ H h x y vx vy Q E rh rx ry w
  unfold gNe at w
  split at w
  · rename_i b e
    rcases eqD_ok rh rx ry e with ⟨h1, h2⟩ | ⟨d, e, h1, h2, h3, h4, h5⟩
    · exact .inl ⟨h1, by rw [h2]; exact w ρ _ H .refl rh (.bl _)⟩
    · exact .inr ⟨d, e, h1, h2, h3, h4, by rw [h5]; exact w ρ _ H .refl rh (.bl _)⟩
  · exact w.elim
section
variable {a b : Expr} {fa fb : EF} {pos : Pos}
theorem ev_eq (ha : EV c a fa) (hb : EV c b fb) : EV c (.Compare a [.Eq] [b] pos) (fBin gEq fa fb) := ev_cmp (fun _ ok => op_eqA ok) lk_eq ha hb (nomark _)
theorem ev_ne (ha : EV c a fa) (hb : EV c b fb) : EV c (.Compare a [.NotEq] [b] pos) (fBin gNe fa fb) := ev_cmp (fun _ ok => op_neA ok) lk_ne ha hb (nomark _)
theorem tv_eq (ha : EV c a fa) (hb : EV c b fb) : TV c (.Compare a [.Eq] [b] pos) (fTest (fBin gEq fa fb)) := tv_cmp (fun _ ok => op_eqA ok) lk_eq ha hb (nomark _)
theorem tv_ne (ha : EV c a fa) (hb : EV c b fb) : TV c (.Compare a [.NotEq] [b] pos) (fTest (fBin gNe fa fb)) := tv_cmp (fun _ ok => op_neA ok) lk_ne ha hb (nomark _)
end

/-! ### subscripts, slices -/
theorem RepL.atI {xs : List D} {vs : List V} {i : Int} {d : D} (r : RepL T ρ H xs vs) (e : atI xs i = some d) : ∃ v, L2.atI vs i = some v ∧ Rep T ρ H d v := by
  unfold L2.atI at e ⊢
  rw [r.length] at e
  cases q : ixN vs.length i with
  | none => rw [q] at e; cases e
  | some j =>
    rw [q] at e
    obtain ⟨v, e1, q1⟩ := r.get (show xs[j]? = some d from e)
    exact ⟨v, e1, q1⟩
def gIx : G2 := fun x y h => match y with
  | .int i => match x with
    | .tup xs => match atI xs i with
      | some d => .ret d h
      | none => .fail
    | .str z => match Nat.ble z.length line with
      | true => match atI z.cps.toList i with
        | some c => .ret (.str ⟨#[c]⟩) h
        | none => .fail
      | false => .fail
    | _ => match seqOf h x with
      | some xs => match atI xs i with
        | some d => .ret d h
        | none => .fail
      | none => .fail
  | _ => .fail
theorem lk_ix : Lk2 T (rIx T.K) gIx := by
  intro ρ H h x y vx vy Q E rh rx ry w
  unfold gIx at w
  split at w
  · cases ry
    split at w
    · split at w
      · rename_i d e
        cases rx with
        | tup s r =>
          obtain ⟨v, e1, q1⟩ := r.atI e
          exact .inr (.inl ⟨_, _, _, _, rfl, rfl, s, e1, w ρ _ H .refl rh q1⟩)
      · exact w.elim
    · split at w
      · rename_i z0
        split at w
        · rename_i d e
          cases rx
          exact .inr (.inr ⟨_, _, _, rfl, rfl, line_le (Nat.le_of_ble_eq_true z0), e, w ρ _ H .refl rh (.str _)⟩)
        · exact w.elim
      · exact w.elim
    · split at w
      · rename_i xs e0
        split at w
        · rename_i d e
          obtain ⟨a, vs, rfl, s, r⟩ := rh.seq e0 rx
          obtain ⟨v, e1, q1⟩ := r.atI e
          exact .inl ⟨_, _, _, _, rfl, rfl, s, e1, w ρ _ H .refl rh q1⟩
        · exact w.elim
      · exact w.elim
  · exact w.elim
theorem ev_ix {a b : Expr} {fa fb : EF} {pos : Pos} (ha : EV c a fa) (hb : EV c b fb) (hs : PlainIx b) : EV c (.Subscript a b pos) (fBin gIx fa fb) := fun X ok W tk =>
  (pe_ix (r := rIx c.T.K) (by rw [← ok.K]; exact ix_seq) (ha X ok W tk) (hb X ok W tk) hs).zimp fun σ H Q q => bin_core lk_ix q
abbrev OF := Env' → Hs → R (Option Int)
def PostO (T : Tab) (ρ : List Addr) (H : Hp) (Q : Option Int → Hp → Prop) (b : Option Int) (h' : Hs) : Prop := ∀ ρ' H', Ex ρ H ρ' H' → RepH T ρ' H' h' → Q b H'
def tO (T : Tab) (W : WX) (f : OF) : TO := fun σ H Q => ∃ env h ρ, RepE T ρ H env σ ∧ RepH T ρ H h ∧ wp (f env h) (PostO T ρ H Q) (XW T ρ H W σ)
def OV (c : Ctx) (e : Option Expr) (f : OF) : Prop := ∀ X, CxOk c X → ∀ W, Takes X W → PO X e (tO c.T W f)
def fNoP : OF := fun _ h => .ret none h
def fPart (f : EF) : OF := fun env h => (f env h).bind fun x h1 => match x with
  | .int i => .ret (some i) h1
  | _ => .fail
theorem _root_.L2.PO.zimp {X : Cx} {e : Option Expr} {t t' : TO} (h : PO X e t) (i : ∀ σ H Q, t' σ H Q → t σ H Q) : PO X e t' := ⟨fun pins s σ H Q I q => h.run pins s σ H Q I (i σ H Q q)⟩
theorem ov_none : OV c none fNoP := fun X ok W tk => po_none.zimp fun σ H Q ⟨env, h, ρ, re, rh, w⟩ => w ρ H .refl rh
theorem ov_some {e : Expr} {f : EF} (he : EV c e f) : OV c (some e) (fPart f) := fun X ok W tk => (po_some (he X ok W tk)).zimp fun σ H Q ⟨env, h, ρ, re, rh, w⟩ =>
  tE_then re rh w (fun _ _ e => e) fun x h1 ρ1 v1 H1 x1 re1 rh1 r1 w1 => by
    cases r1 with
    | int i => exact ⟨i, rfl, w1 ρ1 H1 x1 rh1⟩
    | _ => exact w1.elim
def cutD {α : Type} (xs : List α) (lo hi : Option Int) : List α := (xs.drop (HT.sIx xs.length 0 lo)).take (HT.sIx xs.length xs.length hi - HT.sIx xs.length 0 lo)
theorem RepL.cut {xs : List D} {vs : List V} {lo hi : Option Int} (r : RepL T ρ H xs vs) : RepL T ρ H (cutD xs lo hi) (cutV vs lo hi) := by
  unfold cutD cutV
  rw [r.length]
  exact (r.drop _).take _
def gSl (x : D) (lo hi : Option Int) : Hs → R D := fun h => match x with
  | .tup xs => match (HT.sIx xs.length 0 lo == 0) && (HT.sIx xs.length xs.length hi == xs.length) with
    | true => .fail
    | false => .ret (.tup (cutD xs lo hi)) h
  | .str z => match Nat.ble z.length line with
    | true => .ret (.str (cutS z lo hi)) h
    | false => .fail
  | _ => match seqOf h x with
    | some xs => newL (cutD xs lo hi) h
    | none => .fail
def rSlA (K : PySem.W.Frag) : V → Option Int → Option Int → Hp → VK → Prop := fun x lo hi H Q => rSlL K x lo hi H Q ∨ rSlT K x lo hi H Q ∨ rSlS x lo hi H Q
def fSl (f : EF) (lo hi : OF) : EF := fun env h => (f env h).bind fun x h1 => (lo env h1).bind fun l h2 => (hi env h2).bind fun u h3 => gSl x l u h3
theorem sl_ok {h : Hs} {x : D} {vx : V} {lo hi : Option Int} {Q : VK} {E : Exn → Hs → Prop} (rh : RepH T ρ H h) (rx : Rep T ρ H x vx) (w : wp (gSl x lo hi h) (PostV T ρ H Q) E) : rSlA T.K vx lo hi H Q := by
  unfold gSl at w
  split at w
  · split at w
    · exact w.elim
    · rename_i z
      cases rx with
      | tup s r =>
        refine .inr (.inl ⟨_, _, rfl, s, fun ⟨e1, e2⟩ => ?_, fun p np => newT_ok rh r.cut w np⟩)
        rw [← r.length] at e1 e2
        rw [e1, e2] at z
        simp at z
  · split at w
    · rename_i z
      cases rx
      exact .inr (.inr ⟨_, rfl, line_le (Nat.le_of_ble_eq_true z), w ρ _ H .refl rh (.str _)⟩)
    · exact w.elim
  · split at w
    · rename_i xs e0
      obtain ⟨a, vs, rfl, s, r⟩ := rh.seq e0 rx
      exact .inl ⟨_, _, rfl, s, fun p np => newL_ok rh r.cut w np⟩
    · exact w.elim
theorem ev_sl {e : Expr} {lo hi : Option Expr} {f : EF} {fl fh : OF} {pos p2 : Pos} (he : EV c e f) (hl : OV c lo fl) (hh : OV c hi fh) : EV c (.Subscript e (.Slice lo hi none p2) pos) (fSl f fl fh) := fun X ok W tk =>
  (pe_slice (r := rSlA c.T.K) (by rw [← ok.K]; exact sl_list.or (sl_tup.or sl_str)) (he X ok W tk) (hl X ok W tk) (hh X ok W tk)).zimp fun σ H Q ⟨env, h, ρ, re, rh, w⟩ =>
    tE_then re rh w (fun _ _ e => e) fun x h1 ρ1 vx H1 x1 re1 rh1 r1 w1 =>
      ⟨env, h1, ρ1, re1, rh1, wp_mono (fun l h2 w2 ρ2 H2 x2 rh2 => ⟨env, h2, ρ2, re1.mono x2, rh2, wp_mono (fun u h3 w3 ρ3 H3 x3 rh3 =>
        sl_ok (E := XW c.T ρ H W σ) rh3 (r1.mono (x2.trans x3)) (wp_mono (fun d h' p => PostV.mono (x1.trans (x2.trans x3)) p) (fun _ _ e => e) _ w3)) (fun _ _ e => XW.mono (x1.trans x2) e) _ (wp_bind w2)⟩) (fun _ _ e => XW.mono x1 e) _ (wp_bind w1)⟩
end
end Z

set_option Elab.async false
set_option linter.all false
set_option maxRecDepth 100000
set_option maxHeartbeats 1000000
namespace Z
open PySem PySem.Spec PyProof.Rows L2

section
variable {T : Tab} {c : Ctx} {ρ : List Addr} {H : Hp}
/-! ### built-in functions -/
def gLen : GL := fun xs h => match xs with
  | [.tup ys] => .ret (.int ys.length) h
  | [.str z] => match Nat.ble z.length line with
    | true => .ret (.int z.length) h
    | false => .fail
  | [x] => match seqOf h x with
    | some ys => .ret (.int ys.length) h
    | none => .fail
  | _ => .fail
def rLenA (K : PySem.W.Frag) : List V → Hp → VK → Prop := fun xs H Q => ∃ x n, xs = [x] ∧ LenV K x H n ∧ Q (.int n) H
theorem lk_len : LkL T (rLenA T.K) gLen := by
  intro ρ H h x vx Q E rh rx w
  unfold gLen at w
  split at w
  · cases rx with
    | cons r s =>
      cases s
      cases r with
      | tup s r => exact ⟨_, _, rfl, .inr ⟨_, s, rfl⟩, by rw [← r.length]; exact w ρ _ H .refl rh (.int _)⟩
  · split at w
    · rename_i z
      cases rx with
      | cons r s =>
        cases s
        cases r
        exact ⟨_, _, rfl, ⟨line_le (Nat.le_of_ble_eq_true z), rfl⟩, w ρ _ H .refl rh (.int _)⟩
    · exact w.elim
  · split at w
    · rename_i ys e0
      cases rx with
      | cons r s =>
        cases s
        obtain ⟨a, vs, rfl, s, r⟩ := rh.seq e0 r
        exact ⟨_, _, rfl, .inl ⟨_, s, rfl⟩, by rw [← r.length]; exact w ρ _ H .refl rh (.int _)⟩
    · exact w.elim
  · exact w.elim
theorem seq_args {h : Hs} {x : D} {ys : List D} {vx : List V} (rh : RepH T ρ H h) (e0 : seqOf h x = some ys) (rx : RepL T ρ H [x] vx) : ∃ a vs, vx = [.ref a] ∧ SqL T.K H a vs ∧ RepL T ρ H ys vs := by
  cases rx with
  | cons r s =>
    cases s
    obtain ⟨a, vs, rfl, s, r⟩ := rh.seq e0 r
    exact ⟨a, vs, rfl, s, r⟩
theorem tup_args {ys : List D} {vx : List V} (rx : RepL T ρ H [.tup ys] vx) : ∃ a vs, vx = [.ref a] ∧ SqT T.K H a vs ∧ RepL T ρ H ys vs := by
  cases rx with
  | cons r s =>
    cases s
    cases r with
    | tup s r => exact ⟨_, _, rfl, s, r⟩
def gTuple : GL := fun xs h => match xs with
  | [.tup ys] => .ret (.tup ys) h
  | [x] => match seqOf h x with
    | some ys => .ret (.tup ys) h
    | none => .fail
  | _ => .fail
theorem lk_tuple : LkL T (fun xs H Q => ∃ p ys, xs = [.ref p] ∧ ((SqL T.K H p ys ∧ ∀ l, H l = none → Q (.ref l) (upd H l (.tup ys))) ∨ (SqT T.K H p ys ∧ Q (.ref p) H))) gTuple := by
  intro ρ H h x vx Q E rh rx w
  unfold gTuple at w
  split at w
  · obtain ⟨a, vs, e, s, r⟩ := tup_args rx
    exact ⟨a, vs, e, .inr ⟨s, w ρ _ H .refl rh (.tup s r)⟩⟩
  · split at w
    · rename_i ys e0
      obtain ⟨a, vs, e, s, r⟩ := seq_args rh e0 rx
      exact ⟨a, vs, e, .inl ⟨s, fun p np => newT_ok rh r w np⟩⟩
    · exact w.elim
  · exact w.elim
def gList : GL := fun xs h => match xs with
  | [.tup ys] => newL ys h
  | [x] => match seqOf h x with
    | some ys => newL ys h
    | none => .fail
  | _ => .fail
theorem lk_list : LkL T (fun xs H Q => ∃ p ys, xs = [.ref p] ∧ (SqL T.K H p ys ∨ SqT T.K H p ys) ∧ ∀ l, H l = none → Q (.ref l) (upd H l (.lst ys))) gList := by
  intro ρ H h x vx Q E rh rx w
  unfold gList at w
  split at w
  · obtain ⟨a, vs, e, s, r⟩ := tup_args rx
    exact ⟨a, vs, e, .inr s, fun p np => newL_ok rh r w np⟩
  · split at w
    · rename_i ys e0
      obtain ⟨a, vs, e, s, r⟩ := seq_args rh e0 rx
      exact ⟨a, vs, e, .inl s, fun p np => newL_ok rh r w np⟩
    · exact w.elim
  · exact w.elim
def gMax2 : GL := fun xs h => match xs with
  | [.int i, .int j] => .ret (.int (if j > i then j else i)) h
  | _ => .fail
def gMin2 : GL := fun xs h => match xs with
  | [.int i, .int j] => .ret (.int (if j < i then j else i)) h
  | _ => .fail
def gAbs : GL := fun xs h => match xs with
  | [.int i] => .ret (.int (if i < 0 then -i else i)) h
  | _ => .fail
def gInt : GL := fun xs h => match xs with
  | [.int i] => .ret (.int i) h
  | [.bl k] => .ret (.int (if k then 1 else 0)) h
  | _ => .fail
theorem two_args {i j : Int} {vx : List V} (rx : RepL T ρ H [.int i, .int j] vx) : vx = [.int i, .int j] := by
  cases rx with
  | cons r s =>
    cases s with
    | cons r2 s =>
      cases s; cases r; cases r2; rfl
theorem one_int {i : Int} {vx : List V} (rx : RepL T ρ H [.int i] vx) : vx = [.int i] := by
  cases rx with
  | cons r s => cases s; cases r; rfl
theorem one_bl {i : Bool} {vx : List V} (rx : RepL T ρ H [.bl i] vx) : vx = [.bl i] := by
  cases rx with
  | cons r s => cases s; cases r; rfl
theorem lk_max2 : LkL T (fun xs H Q => ∃ i j, xs = [.int i, .int j] ∧ Q (.int (if j > i then j else i)) H) gMax2 := by
  intro ρ H h x vx Q E rh rx w
  unfold gMax2 at w
  split at w
  · exact ⟨_, _, two_args rx, w ρ _ H .refl rh (.int _)⟩
  · exact w.elim
theorem lk_min2 : LkL T (fun xs H Q => ∃ i j, xs = [.int i, .int j] ∧ Q (.int (if j < i then j else i)) H) gMin2 := by
  intro ρ H h x vx Q E rh rx w
  unfold gMin2 at w
  split at w
  · exact ⟨_, _, two_args rx, w ρ _ H .refl rh (.int _)⟩
  · exact w.elim
theorem lk_abs : LkL T (fun xs H Q => ∃ i, xs = [.int i] ∧ Q (.int (if i < 0 then -i else i)) H) gAbs := by
  intro ρ H h x vx Q E rh rx w
  unfold gAbs at w
  split at w
  · exact ⟨_, one_int rx, w ρ _ H .refl rh (.int _)⟩
  · exact w.elim
theorem lk_int : LkL T (fun xs H Q => (∃ i, xs = [.int i] ∧ Q (.int i) H) ∨ ∃ k, xs = [.bl k] ∧ Q (.int (if k then 1 else 0)) H) gInt := by
  intro ρ H h x vx Q E rh rx w
  unfold gInt at w
  split at w
  · exact .inl ⟨_, one_int rx, w ρ _ H .refl rh (.int _)⟩
  · exact .inr ⟨_, one_bl rx, w ρ _ H .refl rh (.int _)⟩
  · exact w.elim
/-- the intsD of a list -/
def intsD : List D → Option (List Int)
  | [] => some []
  | .int i :: xs => match intsD xs with
    | some r => some (i :: r)
    | none => none
  | _ => none
theorem ints_ok : ∀ {xs : List D} {vs : List V} {ns : List Int}, RepL T ρ H xs vs → intsD xs = some ns → vs = ns.map V.int
  | _, _, _, .nil, e => by cases e; rfl
  | _, _, _, .cons r s, e => by
    unfold intsD at e
    split at e
    · rename_i h; cases h
    · rename_i i xs h
      cases h
      split at e
      · rename_i q e1
        cases e
        cases r
        rw [ints_ok s e1]; rfl
      · cases e
    · cases e
def bls : List D → Option (List Bool)
  | [] => some []
  | .bl i :: xs => match bls xs with
    | some r => some (i :: r)
    | none => none
  | _ => none
theorem bls_ok : ∀ {xs : List D} {vs : List V} {ns : List Bool}, RepL T ρ H xs vs → bls xs = some ns → vs = ns.map V.bl
  | _, _, _, .nil, e => by cases e; rfl
  | _, _, _, .cons r s, e => by
    unfold bls at e
    split at e
    · rename_i h; cases h
    · rename_i i xs h
      cases h
      split at e
      · rename_i q e1
        cases e
        cases r
        rw [bls_ok s e1]; rfl
      · cases e
    · cases e
def sumI : List Int → Int
  | [] => 0
  | i :: r => i + sumI r
theorem sumI_eq : ∀ l : List Int, sumI l = l.sum
  | [] => rfl
  | i :: r => by rw [sumI, sumI_eq r, List.sum_cons]
def gSum : GL := fun xs h => match xs with
  | [x] => match seqOf h x with
    | some ys => match intsD ys with
      | some ns => .ret (.int (sumI ns)) h
      | none => .fail
    | none => .fail
  | _ => .fail
theorem lk_sum : LkL T (rSum T.K) gSum := by
  intro ρ H h x vx Q E rh rx w
  unfold gSum at w
  split at w
  · split at w
    · rename_i ys e0
      split at w
      · rename_i ns e1
        obtain ⟨a, vs, e, s, r⟩ := seq_args rh e0 rx
        rw [ints_ok r e1] at s
        rw [sumI_eq] at w
        exact ⟨a, ns, e, s, w ρ _ H .refl rh (.int _)⟩
      · exact w.elim
    · exact w.elim
  · exact w.elim
def anyB : List Bool → Bool
  | [] => false
  | true :: _ => true
  | false :: r => anyB r
def allB : List Bool → Bool
  | [] => true
  | false :: _ => false
  | true :: r => allB r
theorem anyB_eq : ∀ l : List Bool, anyB l = l.any id
  | [] => rfl
  | true :: r => rfl
  | false :: r => by rw [anyB, anyB_eq r]; rfl
theorem allB_eq : ∀ l : List Bool, allB l = l.all id
  | [] => rfl
  | false :: r => rfl
  | true :: r => by rw [allB, allB_eq r]; rfl
def gAny : GL := fun xs h => match xs with
  | [x] => match seqOf h x with
    | some ys => match bls ys with
      | some ns => .ret (.bl (anyB ns)) h
      | none => .fail
    | none => .fail
  | _ => .fail
def gAll : GL := fun xs h => match xs with
  | [x] => match seqOf h x with
    | some ys => match bls ys with
      | some ns => .ret (.bl (allB ns)) h
      | none => .fail
    | none => .fail
  | _ => .fail
theorem lk_any : LkL T (rAny T.K) gAny := by
  intro ρ H h x vx Q E rh rx w
  unfold gAny at w
  split at w
  · split at w
    · rename_i ys e0
      split at w
      · rename_i ns e1
        obtain ⟨a, vs, e, s, r⟩ := seq_args rh e0 rx
        rw [bls_ok r e1] at s
        rw [anyB_eq] at w
        exact ⟨a, ns, e, s, w ρ _ H .refl rh (.bl _)⟩
      · exact w.elim
    · exact w.elim
  · exact w.elim
theorem lk_all : LkL T (rAll T.K) gAll := by
  intro ρ H h x vx Q E rh rx w
  unfold gAll at w
  split at w
  · split at w
    · rename_i ys e0
      split at w
      · rename_i ns e1
        obtain ⟨a, vs, e, s, r⟩ := seq_args rh e0 rx
        rw [bls_ok r e1] at s
        rw [allB_eq] at w
        exact ⟨a, ns, e, s, w ρ _ H .refl rh (.bl _)⟩
      · exact w.elim
    · exact w.elim
  · exact w.elim
section
variable {x : Str} {p pos : Pos} {e e2 : Expr} {es : List Expr} {f : AF}
abbrev St1 (es : List Expr) : Prop := ∀ env, match es with
  | [] => True
  | e :: es => starEach (e :: es) env = (false, eval e env) :: starEach es env
abbrev Pl (pos : Pos) (es : List Expr) : Prop := ∀ env, (backTo pos (starEach es env)).any (·.1) = false
theorem ev_len (hg : GlC c "len") (hm : c.mg "len" = none) (ha : AV c (e :: es) f) (he : St1 (e :: es)) (hpl : Pl pos es) : EV c (.Call (.Name "len" p) (e :: es) [] pos) (fCallL gLen f) :=
  ev_callB (r := rLenA c.T.K) (fun X ok => by rw [← ok.K]; exact call_len) lk_len hg hm PySem.boot_len ha (by decide) (by decide) he hpl
theorem ev_tuple (hg : GlC c "tuple") (hm : c.mg "tuple" = none) (ha : AV c (e :: es) f) (he : St1 (e :: es)) (hpl : Pl pos es) : EV c (.Call (.Name "tuple" p) (e :: es) [] pos) (fCallL gTuple f) :=
  ev_callTy (fun X ok => by rw [← ok.K]; exact call_tuple_of) lk_tuple hg hm boot_tuple ha (by decide) (by decide) he hpl
theorem ev_list (hg : GlC c "list") (hm : c.mg "list" = none) (ha : AV c (e :: es) f) (he : St1 (e :: es)) (hpl : Pl pos es) : EV c (.Call (.Name "list" p) (e :: es) [] pos) (fCallL gList f) :=
  ev_callTy (fun X ok => by rw [← ok.K]; exact call_list_of) lk_list hg hm boot_list ha (by decide) (by decide) he hpl
theorem ev_int1 (hg : GlC c "int") (hm : c.mg "int" = none) (ha : AV c (e :: es) f) (he : St1 (e :: es)) (hpl : Pl pos es) : EV c (.Call (.Name "int" p) (e :: es) [] pos) (fCallL gInt f) :=
  ev_callTy (fun X ok => call_int1) lk_int hg hm boot_int ha (by decide) (by decide) he hpl
theorem ev_abs (hg : GlC c "abs") (hm : c.mg "abs" = none) (ha : AV c (e :: es) f) (he : St1 (e :: es)) (hpl : Pl pos es) : EV c (.Call (.Name "abs" p) (e :: es) [] pos) (fCallL gAbs f) :=
  ev_callB (fun X ok => call_abs) lk_abs hg hm boot_abs ha (by decide) (by decide) he hpl
theorem ev_max2 (hc : c.calm = true) (hg : GlC c "max") (hm : c.mg "max" = none) (ha : AV c (e :: es) f) (he : St1 (e :: es)) (hpl : Pl pos es) : EV c (.Call (.Name "max" p) (e :: es) [] pos) (fCallL gMax2 f) :=
  ev_callB (fun X ok => call_max2 (ok.calm.trans hc)) lk_max2 hg hm (by decide +kernel) ha (by decide) (by decide) he hpl
theorem ev_min2 (hc : c.calm = true) (hg : GlC c "min") (hm : c.mg "min" = none) (ha : AV c (e :: es) f) (he : St1 (e :: es)) (hpl : Pl pos es) : EV c (.Call (.Name "min" p) (e :: es) [] pos) (fCallL gMin2 f) :=
  ev_callB (fun X ok => call_min2 (ok.calm.trans hc)) lk_min2 hg hm (by decide +kernel) ha (by decide) (by decide) he hpl
theorem ev_sum (hc : c.calm = true) (hg : GlC c "sum") (hm : c.mg "sum" = none) (ha : AV c (e :: es) f) (he : St1 (e :: es)) (hpl : Pl pos es) : EV c (.Call (.Name "sum" p) (e :: es) [] pos) (fCallL gSum f) :=
  ev_callB (r := rSum c.T.K) (fun X ok => by rw [← ok.K]; exact cr_sum (ok.calm.trans hc)) lk_sum hg hm (by decide +kernel) ha (by decide) (by decide) he hpl
theorem ev_any (hc : c.calm = true) (hg : GlC c "any") (hm : c.mg "any" = none) (ha : AV c (e :: es) f) (he : St1 (e :: es)) (hpl : Pl pos es) : EV c (.Call (.Name "any" p) (e :: es) [] pos) (fCallL gAny f) :=
  ev_callB (r := rAny c.T.K) (fun X ok => by rw [← ok.K]; exact cr_any (ok.calm.trans hc)) lk_any hg hm (by decide +kernel) ha (by decide) (by decide) he hpl
theorem ev_all (hc : c.calm = true) (hg : GlC c "all") (hm : c.mg "all" = none) (ha : AV c (e :: es) f) (he : St1 (e :: es)) (hpl : Pl pos es) : EV c (.Call (.Name "all" p) (e :: es) [] pos) (fCallL gAll f) :=
  ev_callB (r := rAll c.T.K) (fun X ok => by rw [← ok.K]; exact cr_all (ok.calm.trans hc)) lk_all hg hm (by decide +kernel) ha (by decide) (by decide) he hpl
end

/-! ### isinstance with a built-in class -/
/-- the class of a value: 0 None, 1 bool, 2 int, 3 str, 4 tuple, 5 list, 6 dict -/
def tyC (h : Hs) : D → Option Nat
  | .non => some 0
  | .bl _ => some 1
  | .int _ => some 2
  | .str _ => some 3
  | .tup _ => some 4
  | .ref n => match h[n]? with
    | some (.lst _) => some 5
    | some (.dK _) => some 6
    | some (.dT _) => some 6
    | _ => none
  | .kl _ => some 5
  | _ => none
def tyN : Nat → String
  | 0 => "NoneType" | 1 => "bool" | 2 => "int" | 3 => "str" | 4 => "tuple" | 5 => "list" | _ => "dict"
def kitC : Nat → Nat → Bool
  | 0, 0 => true | 1, 1 => true | 1, 2 => true | 2, 2 => true | 3, 3 => true | 4, 4 => true | 5, 5 => true | 6, 6 => true
  | _, _ => false
theorem kitC_all : ∀ a < 7, ∀ b < 7, kitB (tyN a) (tyN b) = some (kitC a b) := by decide +kernel
theorem tyC_lt {h : Hs} {d : D} {n : Nat} (e : tyC h d = some n) : n < 7 := by
  unfold tyC at e
  split at e <;> first
    | (cases e; decide)
    | (split at e <;> first | (cases e; decide) | cases e)
    | cases e
theorem tyC_ok {h : Hs} {d : D} {v : V} {n : Nat} (rh : RepH T ρ H h) (r : Rep T ρ H d v) (e : tyC h d = some n) : TyX T.K H v (.type (tyN n)) := by
  unfold tyC at e
  cases r with
  | non => cases e; exact .base .non
  | bl => cases e; exact .base (.bl _)
  | int => cases e; exact .base (.int _)
  | str => cases e; exact .base (.str _)
  | ty => cases e
  | ins => cases e
  | cls => cases e
  | tup s q =>
    cases e
    rcases s with (s | ⟨o, s⟩) | ⟨o, its, n, hk, hc, _⟩
    · exact .base (.tup s)
    · exact .fTuple s
    · exact .kTuple hk hc
  | kl s q =>
    cases e
    rcases s with ⟨o, s⟩ | ⟨o, its, n, hk, hc, _⟩
    · exact .base (.frz s)
    · exact .kList hk hc
  | ref ea =>
    dsimp only at e
    split at e
    · rename_i q; cases e
      obtain ⟨vs, q1, _⟩ := rh.at_ _ _ _ q ea
      exact .base (.lst q1)
    · rename_i q; cases e
      obtain ⟨vs, q1, _⟩ := rh.at_ _ _ _ q ea
      exact .base (.dK q1)
    · rename_i q; cases e
      obtain ⟨vs, q1, _⟩ := rh.at_ _ _ _ q ea
      exact .base (.dT q1)
    · cases e
/-- isinstance(x, T), T the built-in class k -/
def fIs (k : Nat) (f : EF) : EF := fun env h => (f env h).bind fun x h1 => match tyC h1 x with
  | some a => .ret (.bl (kitC a k)) h1
  | none => .fail
theorem ev_isTy {k : Nat} {x : Str} {p p2 pos : Pos} {e : Expr} {f : EF} (hk : k < 7) (hg : GlC c "isinstance") (hm : c.mg "isinstance" = none) (hg2 : GlC c x) (hm2 : c.mg x = none) (hv : bootBuiltins x = some (.type (tyN k))) (hn : x ≠ "__name__") (hd : (x == ("__debug__" : Str)) = false)
    (ha : EV c e f) (he : St1 [e, .Name x p2]) (hpl : Pl pos [.Name x p2]) : EV c (.Call (.Name "isinstance" p) [e, .Name x p2] [] pos) (fIs k f) := by
  intro X ok W tk
  have h2 : PA X [.Name x p2] (tCons (tC (.ty (tyN k))) tNil) := pa_cons (pe_bltn (v := .ty (tyN k)) (hg2.gl ok) (by rw [ok.mg]; exact hm2) hv rfl hn hd) pa_nil
  refine (pe_callB (r := rIsi c.T.K) (by rw [← ok.K]; exact call_isi) (hg.gl ok) (by rw [ok.mg]; exact hm) boot_isinstance (pa_cons (ha X ok W tk) h2 (he X.env)) (by decide) (by decide) (he X.env) (hpl X.env)).zimp fun σ H Q ⟨env, h, ρ, re, rh, w⟩ => ?_
  refine tE_then re rh w (fun _ _ e => e) fun x h1 ρ1 v1 H1 x1 re1 rh1 r1 w1 => ?_
  split at w1
  · rename_i a e1
    exact ⟨_, _, _, _, _, rfl, .ty _, tyC_ok rh1 r1 e1, kit_ty (kitC_all a (tyC_lt e1) k hk), w1 ρ1 _ H1 x1 rh1 (.bl _)⟩
  · exact w1.elim
/-- a built-in class's name as a value -/
theorem ev_tyName {x : Str} {n : String} {p : Pos} (hg : GlC c x) (hm : c.mg x = none) (hv : bootBuiltins x = some (.type n)) (hn : x ≠ "__name__") (hd : (x == ("__debug__" : Str)) = false) : EV c (.Name x p) (fC (.ty n)) := fun X ok W tk =>
  (pe_bltn (v := .ty n) (hg.gl ok) (by rw [ok.mg]; exact hm) hv rfl hn hd).zimp fun σ H Q ⟨env, h, ρ, re, rh, w⟩ => w ρ (.ty n) H .refl rh (.ty n)

/-! ### in, not in: over lists and tuples of flat values -/
def flatD : D → Bool
  | .non => true | .bl _ => true | .int _ => true | .str _ => true
  | _ => false
def eqF : D → D → Bool
  | .non, .non => true
  | .bl a, .bl b => a == b
  | .bl a, .int b => (if a then 1 else 0) == b
  | .int a, .bl b => a == (if b then 1 else 0)
  | .int a, .int b => a == b
  | .str a, .str b => a.cps.toList == b.cps.toList
  | _, _ => false
theorem str_beq {x y : Str} : (x.cps.toList == y.cps.toList) = (x == y) := by rw [str_eq, dec_str]
theorem flat_ok {d : D} {v : V} (r : Rep T ρ H d v) (f : flatD d = true) : flatV v = true := by
  cases r <;> first | rfl | cases f
theorem eqF_ok {d e : D} {v u : V} (r : Rep T ρ H d v) (q : Rep T ρ H e u) (f : flatD d = true) (g : flatD e = true) : eqV v u = eqF d e := by
  cases r <;> first
    | (cases q <;> first | rfl | exact str_beq.symm | cases g)
    | cases f
theorem RepL.flats : ∀ {xs : List D} {vs : List V}, RepL T ρ H xs vs → xs.all flatD = true → vs.all flatV = true
  | _, _, .nil, _ => rfl
  | _, _, .cons r s, f => by
    rw [List.all_cons, Bool.and_eq_true] at f
    rw [List.all_cons, flat_ok r f.1, RepL.flats s f.2]; rfl
theorem RepL.anyEq {x : D} {vx : V} (rx : Rep T ρ H x vx) (fx : flatD x = true) : ∀ {xs : List D} {vs : List V}, RepL T ρ H xs vs → xs.all flatD = true → inV vx vs = xs.any fun y => eqF y x
  | _, _, .nil, _ => rfl
  | _, _, .cons r s, f => by
    rw [List.all_cons, Bool.and_eq_true] at f
    have ih := RepL.anyEq rx fx s f.2
    unfold inV at ih ⊢
    rw [List.any_cons, List.any_cons, ih, eqF_ok r rx f.1 fx]
/-- an own any, all: the first that tells ends it -/
def anyL {α : Type} (p : α → Bool) : List α → Bool
  | [] => false
  | x :: xs => match p x with
    | true => true
    | false => anyL p xs
def allL {α : Type} (p : α → Bool) : List α → Bool
  | [] => true
  | x :: xs => match p x with
    | true => allL p xs
    | false => false
theorem anyL_eq {α : Type} (p : α → Bool) : ∀ xs : List α, anyL p xs = xs.any p
  | [] => rfl
  | x :: xs => by
    unfold anyL
    rw [List.any_cons]
    cases p x with
    | true => rfl
    | false => exact (anyL_eq p xs).trans (Bool.false_or _).symm
theorem allL_eq {α : Type} (p : α → Bool) : ∀ xs : List α, allL p xs = xs.all p
  | [] => rfl
  | x :: xs => by
    unfold allL
    rw [List.all_cons]
    cases p x with
    | true => exact (allL_eq p xs).trans (Bool.true_and _).symm
    | false => rfl
def gIn (neg : Bool) : G2 := fun x y h => match flatD x with
  | false => .fail
  | true => match (match y with
      | .tup xs => some xs
      | _ => seqOf h y) with
    | some xs => match allL flatD xs with
      | true => .ret (.bl (if neg then !anyL (fun y => eqF y x) xs else anyL (fun y => eqF y x) xs)) h
      | false => .fail
    | none => .fail
theorem lk_in (neg : Bool) : Lk2 T (rIn T.K neg) (gIn neg) := by
  intro ρ H h x y vx vy Q E rh rx ry w
  unfold gIn at w
  split at w
  · exact w.elim
  · rename_i fx
    split at w
    · rename_i xs e0
      split at w
      · rename_i fs
        rw [allL_eq] at fs
        rw [anyL_eq] at w
        have key : ∀ {p vs}, vy = .ref p → (SqL T.K H p vs ∨ SqT T.K H p vs) → RepL T ρ H xs vs → rIn T.K neg vx vy H Q := fun {p vs} e s r =>
          ⟨p, vs, e, s, flat_ok rx fx, r.flats fs, by rw [r.anyEq rx fx fs]; exact w ρ _ H .refl rh (.bl _)⟩
        cases ry with
        | tup s r => cases e0; exact key rfl (.inr s) r
        | ref ea =>
          obtain ⟨a, vs, ev, s, r⟩ := rh.seq e0 (.ref ea)
          exact key ev (.inl s) r
        | kl s r =>
          obtain ⟨a, vs, ev, s, r⟩ := rh.seq e0 (.kl s r)
          exact key ev (.inl s) r
        | _ => cases e0
      · exact w.elim
    · exact w.elim
section
variable {a b : Expr} {fa fb : EF} {pos : Pos}
theorem ev_in (ha : EV c a fa) (hb : EV c b fb) (hm : behindInMarks .In b = false) : EV c (.Compare a [.In] [b] pos) (fBin (gIn false) fa fb) := ev_cmp (r := rIn c.T.K false) (fun _ ok => by rw [← ok.K]; exact op_in_seq) (lk_in _) ha hb hm
theorem ev_nin (ha : EV c a fa) (hb : EV c b fb) (hm : behindInMarks .NotIn b = false) : EV c (.Compare a [.NotIn] [b] pos) (fBin (gIn true) fa fb) := ev_cmp (r := rIn c.T.K true) (fun _ ok => by rw [← ok.K]; exact op_notIn_seq) (lk_in _) ha hb hm
theorem tv_in (ha : EV c a fa) (hb : EV c b fb) (hm : behindInMarks .In b = false) : TV c (.Compare a [.In] [b] pos) (fTest (fBin (gIn false) fa fb)) := tv_cmp (r := rIn c.T.K false) (fun _ ok => by rw [← ok.K]; exact op_in_seq) (lk_in _) ha hb hm
theorem tv_nin (ha : EV c a fa) (hb : EV c b fb) (hm : behindInMarks .NotIn b = false) : TV c (.Compare a [.NotIn] [b] pos) (fTest (fBin (gIn true) fa fb)) := tv_cmp (r := rIn c.T.K true) (fun _ ok => by rw [← ok.K]; exact op_notIn_seq) (lk_in _) ha hb hm
end

/-! ### methods of lists -/
/-- the receiver's class: 3 str, 5 list, 6 dict -/
def recv (k : Nat) (h : Hs) (o : D) : Bool := match tyC h o with
  | some n => (n == k) && !(n == 4)
  | none => false
theorem recv_ok {k : Nat} {h : Hs} {o : D} {v : V} (rh : RepH T ρ H h) (r : Rep T ρ H o v) (hk : k = 3 ∨ k = 5 ∨ k = 6) (e : recv k h o = true) : tyV T.K (tyN k) v H := by
  unfold recv at e
  split at e
  · rename_i n e1
    rw [Bool.and_eq_true] at e
    have en : n = k := by simpa using e.1
    subst en
    unfold tyC at e1
    cases r with
    | non => cases e1; simp at hk
    | bl => cases e1; simp at hk
    | int => cases e1; simp at hk
    | str => cases e1; rfl
    | ty => cases e1
    | ins => cases e1
    | cls => cases e1
    | tup s q => cases e1; simp at hk
    | kl s q => cases e1; exact .inl ⟨rfl, _, s.sq⟩
    | ref ea =>
      dsimp only at e1
      split at e1
      · rename_i q; cases e1
        obtain ⟨vs, q1, _⟩ := rh.at_ _ _ _ q ea
        exact .inl ⟨rfl, _, .of q1⟩
      · rename_i q; cases e1
        obtain ⟨vs, q1, _⟩ := rh.at_ _ _ _ q ea
        exact .inr (.inr (.inl ⟨rfl, .inl ⟨_, q1⟩⟩))
      · rename_i q; cases e1
        obtain ⟨vs, q1, _⟩ := rh.at_ _ _ _ q ea
        exact .inr (.inr (.inl ⟨rfl, .inr ⟨_, q1⟩⟩))
      · cases e1
  · cases e
def fMeth (k : Nat) (g : D → GL) (fo : EF) (fa : AF) : EF := fun env h => (fo env h).bind fun o h1 => match recv k h1 o with
  | true => (fa env h1).bind fun xs h2 => g o xs h2
  | false => .fail
def fMeth0 (k : Nat) (g : D → GL) (fo : EF) : EF := fun env h => (fo env h).bind fun o h1 => match recv k h1 o with
  | true => g o [] h1
  | false => .fail
section
variable {o e : Expr} {es : List Expr} {fo : EF} {fa : AF} {name : Str} {apos cpos : Pos} {id : String} {r : V → List V → Hp → VK → Prop} {g : D → GL} {k : Nat}
theorem ev_meth (hk : k = 3 ∨ k = 5 ∨ k = 6) (pa : PlainAttrs (tyN k)) (slot : Slot (tyN k) name id) (hty : typeOf (.builtin id) = pure (.type "method_descriptor")) (hm : ∀ X, CxOk c X → MtR X id r) (lk : LkM c.T r g) (ho : EV c o fo) (ha : AV c (e :: es) fa)
    (hbase : ∀ env, attributeBase o name env (eval o env) = eval o env)
    (hfew : ∀ env, ((backTo cpos (starEach (e :: es) env)).all (fun x => !x.1) && (backToKw cpos (keywordEach [] env)).all (fun x => x.1.isSome)
      && decide ((e :: es).length + ([] : List Keyword).length + (if ([] : List Keyword).isEmpty then 0 else 1) < 30)) = true)
    (hline : (apos.endLine == cpos.line) = true) (hs : St1 (e :: es)) (hplain : Pl cpos es) : EV c (.Call (.Attribute o name apos) (e :: es) [] cpos) (fMeth k g fo fa) := fun X ok W tk =>
  (pe_bm pa slot hty (hm X ok) (ho X ok W tk) (ha X ok W tk) (hbase _) (hfew _) hline (hs _) (hplain _)).zimp fun σ H Q ⟨env, h, ρ, re, rh, w⟩ =>
    tE_then re rh w (fun _ _ e => e) fun x h1 ρ1 vx H1 x1 re1 rh1 r1 w1 => by
      split at w1
      · rename_i e1
        refine ⟨by rw [ok.K]; exact recv_ok rh1 r1 hk e1, ?_⟩
        exact tA_then re1 rh1 w1 (fun _ _ e => XW.mono x1 e) fun xs h2 ρ2 vs H2 x2 re2 rh2 r2 w2 => lk ρ2 H2 h2 x vx xs vs Q _ rh2 (r1.mono x2) r2 (wp_mono (fun d h' p => PostV.mono (x1.trans x2) p) (fun _ _ e => e) _ w2)
      · exact w1.elim
theorem ev_meth0 (hk : k = 3 ∨ k = 5 ∨ k = 6) (pa : PlainAttrs (tyN k)) (slot : Slot (tyN k) name id) (hty : typeOf (.builtin id) = pure (.type "method_descriptor")) (hm : ∀ X, CxOk c X → MtR X id r) (lk : LkM c.T r g) (ho : EV c o fo)
    (hbase : ∀ env, attributeBase o name env (eval o env) = eval o env) (hline : (apos.endLine == cpos.line) = true) : EV c (.Call (.Attribute o name apos) [] [] cpos) (fMeth0 k g fo) := fun X ok W tk =>
  (pe_bm0 pa slot hty (hm X ok) (ho X ok W tk) (hbase _) hline).zimp fun σ H Q ⟨env, h, ρ, re, rh, w⟩ =>
    tE_then re rh w (fun _ _ e => e) fun x h1 ρ1 vx H1 x1 re1 rh1 r1 w1 => by
      split at w1
      · rename_i e1
        exact ⟨by rw [ok.K]; exact recv_ok rh1 r1 hk e1, lk ρ1 H1 h1 x vx [] [] Q _ rh1 r1 .nil (wp_mono (fun d h' p => PostV.mono x1 p) (fun _ _ e => e) _ w1)⟩
      · exact w1.elim
end
def gAppend : D → GL := fun o xs h => match o, xs with
  | .ref n, [x] => match h[n]? with
    | some (.lst ys) => match Nat.blt ys.length line with
      | true => .ret .non (h.set n (.lst (ys ++ [x])))
      | false => .fail
    | _ => .fail
  | _, _ => .fail
theorem lk_append : LkM T rAppend gAppend := by
  intro ρ H h o vo x vx Q E rh ro rx w
  unfold gAppend at w
  split at w
  · split at w
    · rename_i ys e0
      split at w
      · rename_i z
        cases ro with
        | ref ea =>
          cases rx with
          | cons r s =>
            cases s
            obtain ⟨vs, q1, r1⟩ := rh.at_ _ _ _ e0 ea
            refine ⟨_, vs, _, rfl, rfl, q1, by rw [← r1.length]; exact line_lt (by simpa [Nat.blt_eq] using z), ?_⟩
            rename_i v
            have x1 : Ex ρ H ρ (upd H _ (.lst (vs ++ [v]))) := Ex.write (List.mem_of_getElem? ea) q1 rfl
            exact w ρ _ _ x1 (rh.write ea q1 rfl ⟨_, upd_same, (r1.append (.cons r .nil)).mono x1⟩) .non
      · exact w.elim
    · exact w.elim
  · exact w.elim
def gExtend : D → GL := fun o xs h => match o, xs with
  | .ref n, [.ref m] => match h[n]?, h[m]? with
    | some (.lst ys), some (.lst zs) => match Nat.ble (ys.length + zs.length) line with
      | true => .ret .non (h.set n (.lst (ys ++ zs)))
      | false => .fail
    | _, _ => .fail
  | _, _ => .fail
theorem lk_extend : LkM T rExtend gExtend := by
  intro ρ H h o vo x vx Q E rh ro rx w
  unfold gExtend at w
  split at w
  · split at w
    · rename_i ys zs e0 e1
      split at w
      · rename_i z
        cases ro with
        | ref ea =>
          cases rx with
          | cons r s =>
            cases s
            cases r with
            | ref eb =>
              obtain ⟨vs, q1, r1⟩ := rh.at_ _ _ _ e0 ea
              obtain ⟨ws, q2, r2⟩ := rh.at_ _ _ _ e1 eb
              refine ⟨_, _, vs, ws, rfl, rfl, q1, q2, by rw [← r1.length, ← r2.length]; exact line_le (Nat.le_of_ble_eq_true z), ?_⟩
              have x1 : Ex ρ H ρ (upd H _ (.lst (vs ++ ws))) := Ex.write (List.mem_of_getElem? ea) q1 rfl
              exact w ρ _ _ x1 (rh.write ea q1 rfl ⟨_, upd_same, (r1.append r2).mono x1⟩) .non
      · exact w.elim
    · exact w.elim
  · exact w.elim
section
variable {o e : Expr} {es : List Expr} {fo : EF} {fa : AF} {apos cpos : Pos}
abbrev Few (cpos : Pos) (es : List Expr) : Prop := ∀ env, ((backTo cpos (starEach es env)).all (fun x => !x.1) && (backToKw cpos (keywordEach [] env)).all (fun x => x.1.isSome)
      && decide (es.length + ([] : List Keyword).length + (if ([] : List Keyword).isEmpty then 0 else 1) < 30)) = true
abbrev Base (o : Expr) (name : Str) : Prop := ∀ env, attributeBase o name env (eval o env) = eval o env
theorem ev_append (ho : EV c o fo) (ha : AV c (e :: es) fa) (hb : Base o "append") (hf : Few cpos (e :: es)) (hl : (apos.endLine == cpos.line) = true) (hs : St1 (e :: es)) (hp : Pl cpos es) : EV c (.Call (.Attribute o "append" apos) (e :: es) [] cpos) (fMeth 5 gAppend fo fa) :=
  ev_meth (.inr (.inl rfl)) PySem.F.plainAttrs_list PySem.F.slot_list_append PySem.F.type_list_append (fun X ok => mt_append) lk_append ho ha hb hf hl hs hp
theorem ev_extend (ho : EV c o fo) (ha : AV c (e :: es) fa) (hb : Base o "extend") (hf : Few cpos (e :: es)) (hl : (apos.endLine == cpos.line) = true) (hs : St1 (e :: es)) (hp : Pl cpos es) : EV c (.Call (.Attribute o "extend" apos) (e :: es) [] cpos) (fMeth 5 gExtend fo fa) :=
  ev_meth (.inr (.inl rfl)) PySem.F.plainAttrs_list PySem.F.slot_list_extend PySem.F.type_list_extend (fun X ok => mt_extend) lk_extend ho ha hb hf hl hs hp
end
end
end Z

set_option Elab.async false
set_option linter.all false
set_option maxRecDepth 100000
set_option maxHeartbeats 1000000
namespace Z
open PySem PySem.Spec PyProof.Rows L2

/-- a piece's exception as a statement's end -/
def R.catch {α : Type} (r : R α) (env : Env') (k : α → Hs → R Out) : R Out :=
  match r with
  | .ret a h => k a h
  | .exc e h => .ret (.ex e env) h
  | .fail => .fail
  | .pick n f => .pick n fun i => (f i).catch env k
theorem wp_catch {α : Type} {env : Env'} {k : α → Hs → R Out} {Q : Out → Hs → Prop} {E : Exn → Hs → Prop} : ∀ {r : R α}, wp (r.catch env k) Q E → wp r (fun a h => wp (k a h) Q E) (fun e h => Q (.ex e env) h)
  | .ret a h, q => q
  | .exc e h, q => q
  | .fail, q => q
  | .pick n f, q => fun i hi => wp_catch (q i hi)
/-- what may not raise -/
def R.nox {α : Type} (r : R α) : R α :=
  match r with
  | .ret a h => .ret a h
  | .exc _ _ => .fail
  | .fail => .fail
  | .pick n f => .pick n fun i => (f i).nox
theorem wp_nox {α : Type} {Q : α → Hs → Prop} {E E' : Exn → Hs → Prop} : ∀ {r : R α}, wp r.nox Q E → wp r Q E'
  | .ret a h, q => q
  | .exc e h, q => q.elim
  | .fail, q => q
  | .pick n f, q => fun i hi => wp_nox (q i hi)

section
variable {T : Tab} {c : Ctx} {ρ : List Addr} {H : Hp} {W : WX} {σ : L2.St} {De : Ends}
theorem OW.ex {e : Exn} {env : Env'} {h' : Hs} (re : RepE T ρ H env σ) (q : OW T ρ H W De (.ex e env) h') : XW T ρ H W σ e h' := fun ρ' H' cls d x rh rx => q ρ' H' x rh σ cls d (re.mono x) rx
theorem tE_catch {f : EF} {env : Env'} {h : Hs} {k : D → Hs → R Out} {Q : VK} (re : RepE T ρ H env σ) (rh : RepH T ρ H h) (w : wp ((f env h).catch env k) (OW T ρ H W De) NoX)
    (fin : ∀ d h1 ρ1 v H1, Ex ρ H ρ1 H1 → RepE T ρ1 H1 env σ → RepH T ρ1 H1 h1 → Rep T ρ1 H1 d v → wp (k d h1) (OW T ρ1 H1 W De) NoX → Q v H1) : tE T W f σ H Q :=
  ⟨env, h, ρ, re, rh, wp_mono (fun d h1 q ρ1 v H1 x r1 r2 => fin d h1 ρ1 v H1 x (re.mono x) r1 r2 (wp_mono (fun o h' p => OW.mono x p) (fun _ _ e => e) _ q)) (fun e h' q => OW.ex re q) _ (wp_catch w)⟩
theorem tB_catch {f : BF} {env : Env'} {h : Hs} {k : Bool → Hs → R Out} {Q : Bool → Hp → Prop} (re : RepE T ρ H env σ) (rh : RepH T ρ H h) (w : wp ((f env h).catch env k) (OW T ρ H W De) NoX)
    (fin : ∀ d h1 ρ1 H1, Ex ρ H ρ1 H1 → RepE T ρ1 H1 env σ → RepH T ρ1 H1 h1 → wp (k d h1) (OW T ρ1 H1 W De) NoX → Q d H1) : tB' T W f σ H Q :=
  ⟨env, h, ρ, re, rh, wp_mono (fun d h1 q ρ1 H1 x r1 => fin d h1 ρ1 H1 x (re.mono x) r1 (wp_mono (fun o h' p => OW.mono x p) (fun _ _ e => e) _ q)) (fun e h' q => OW.ex re q) _ (wp_catch w)⟩
theorem tA_catch {f : AF} {env : Env'} {h : Hs} {k : List D → Hs → R Out} {Q : List V → Hp → Prop} (re : RepE T ρ H env σ) (rh : RepH T ρ H h) (w : wp ((f env h).catch env k) (OW T ρ H W De) NoX)
    (fin : ∀ d h1 ρ1 v H1, Ex ρ H ρ1 H1 → RepE T ρ1 H1 env σ → RepH T ρ1 H1 h1 → RepL T ρ1 H1 d v → wp (k d h1) (OW T ρ1 H1 W De) NoX → Q v H1) : tA T W f σ H Q :=
  ⟨env, h, ρ, re, rh, wp_mono (fun d h1 q ρ1 v H1 x r1 r2 => fin d h1 ρ1 v H1 x (re.mono x) r1 r2 (wp_mono (fun o h' p => OW.mono x p) (fun _ _ e => e) _ q)) (fun e h' q => OW.ex re q) _ (wp_catch w)⟩

/-! ### blocks, small statements -/
def sNil : SF := fun env h => .ret (.nx env) h
def seqK (g : SF) : Out → Hs → R Out := fun o h1 => match o with
  | .nx env1 => g env1 h1
  | .rt d => .ret (.rt d) h1
  | .bk e => .ret (.bk e) h1
  | .ct e => .ret (.ct e) h1
  | .ex e env => .ret (.ex e env) h1
def sSeq (f g : SF) : SF := fun env h => (f env h).bind (seqK g)
theorem sv_nil : SsV c [] sNil := fun X ok W tk po => pss_nil.zimp fun De σ H ⟨env, h, ρ, re, rh, w⟩ => w ρ H .refl rh σ re
theorem seq_core {f g : SF} (q : tS T W (sSeq f g) De σ H) : tSeq (tS T W f) (tS T W g) De σ H := by
  obtain ⟨env, h, ρ, re, rh, w⟩ := q
  refine ⟨env, h, ρ, re, rh, wp_mono (fun o h1 q ρ1 H1 x r1 => ?_) (fun _ _ e => e) _ (wp_bind w)⟩
  cases o with
  | nx env1 => exact fun σ1 re1 => ⟨env1, h1, ρ1, re1, r1, wp_mono (fun o h' p => OW.mono x p) (fun _ _ e => e) _ q⟩
  | rt d => exact q ρ1 H1 x r1
  | bk e => exact q ρ1 H1 x r1
  | ct e => exact q ρ1 H1 x r1
  | ex e env => exact q ρ1 H1 x r1
theorem sv_cons {s : Stmt} {ss : List Stmt} {f g : SF} (h1 : SV c s f) (h2 : SsV c ss g) : SsV c (s :: ss) (sSeq f g) := fun X ok W tk po =>
  (pss_cons (h1 X ok W tk po) (h2 X ok W tk po)).zimp fun De σ H q => seq_core q
theorem sv_one {s : Stmt} {f : SF} (h1 : SV c s f) : SsV c [s] f := fun X ok W tk po => pss_one (h1 X ok W tk po)
def sExpr (f : EF) : SF := fun env h => (f env h).catch env fun _ h1 => .ret (.nx env) h1
def sRet (f : EF) : SF := fun env h => (f env h).catch env fun d h1 => .ret (.rt d) h1
def sRetN : SF := fun _ h => .ret (.rt .non) h
def sIf (t : BF) (f g : SF) : SF := fun env h => (t env h).catch env fun b h1 => match b with
  | true => f env h1
  | false => g env h1
section
variable {e : Expr} {f : EF} {pos : Pos}
theorem sv_expr (he : EV c e f) (hs : ∀ env, swapsWith e none pos.line env = pure false) : SV c (.Expr e pos) (sExpr f) := fun X ok W tk po =>
  (ps_expr (he X ok W tk) (hs _)).zimp fun De σ H ⟨env, h, ρ, re, rh, w⟩ => tE_catch re rh w fun d h1 ρ1 v H1 x re1 rh1 r1 w1 => w1 ρ1 H1 .refl rh1 σ re1
theorem sv_ret (he : EV c e f) : SV c (.Return (some e) pos) (sRet f) := fun X ok W tk po =>
  (ps_ret (he X ok W tk)).zimp fun De σ H ⟨env, h, ρ, re, rh, w⟩ => tE_catch re rh w fun d h1 ρ1 v H1 x re1 rh1 r1 w1 => w1 ρ1 H1 .refl rh1 v r1
theorem sv_retN : SV c (.Return none pos) sRetN := fun X ok W tk po => ps_retN.zimp fun De σ H ⟨env, h, ρ, re, rh, w⟩ => w ρ H .refl rh .non .non
theorem sv_pass : SV c (.Pass pos) sNil := fun X ok W tk po => ps_pass.zimp fun De σ H ⟨env, h, ρ, re, rh, w⟩ => w ρ H .refl rh σ re
def sBreak : SF := fun env h => .ret (.bk env) h
def sCont : SF := fun env h => .ret (.ct env) h
theorem sv_break : SV c (.Break pos) sBreak := fun X ok W tk po => ps_break.zimp fun De σ H ⟨env, h, ρ, re, rh, w⟩ => w ρ H .refl rh σ re
theorem sv_cont : SV c (.Continue pos) sCont := fun X ok W tk po => ps_continue.zimp fun De σ H ⟨env, h, ρ, re, rh, w⟩ => w ρ H .refl rh σ re
theorem sv_if {t : Expr} {ft : BF} {a b : List Stmt} {fa fb : SF} (ht : TV c t ft) (ha : SsV c a fa) (hb : SsV c b fb) : SV c (.If t a b pos) (sIf ft fa fb) := fun X ok W tk po =>
  (ps_if (ht X ok W tk) (ha X ok W tk po) (hb X ok W tk po)).zimp fun De σ H ⟨env, h, ρ, re, rh, w⟩ => tB_catch re rh w fun d h1 ρ1 H1 x re1 rh1 w1 => by
    cases d with
    | true => exact ⟨env, h1, ρ1, re1, rh1, w1⟩
    | false => exact ⟨env, h1, ρ1, re1, rh1, w1⟩
end

/-! ### targets -/
/-- alike but for the slots S -/
def Off (S : List Nat) (σ σ' : L2.St) : Prop := σ'.length = σ.length ∧ ∀ i, i ∉ S → σ'[i]? = σ[i]?
theorem Off.refl {S : List Nat} {σ : L2.St} : Off S σ σ := ⟨rfl, fun _ _ => rfl⟩
theorem Off.set {i : Nat} {v : Option V} : Off [i] σ (σ.set i v) := ⟨List.length_set, fun j hj => List.getElem?_set_ne fun e => hj (by simp [e])⟩
theorem Off.trans {S S' : List Nat} {σ σ1 σ2 : L2.St} (a : Off S σ σ1) (b : Off S' σ1 σ2) : Off (S ++ S') σ σ2 :=
  ⟨b.1.trans a.1, fun i hi => (b.2 i fun m => hi (List.mem_append_right _ m)).trans (a.2 i fun m => hi (List.mem_append_left _ m))⟩
theorem wipe_in {σ : L2.St} {i : Nat} : ∀ {vs : List Nat}, i ∈ vs → i < σ.length → (wipe σ vs)[i]? = some none
  | v :: vs, m, l => by
    unfold wipe
    by_cases e : v = i
    · subst e
      exact List.getElem?_set_self (by rw [wipe_length]; exact l)
    · rw [List.getElem?_set_ne e]
      exact wipe_in ((List.mem_cons.mp m).resolve_left fun z => e z.symm) l
theorem Off.wipe {S vs : List Nat} {σ σ' : L2.St} (o : Off S σ σ') (hs : ∀ i ∈ S, i ∈ vs) : wipe σ' vs = wipe σ vs := by
  refine List.ext_getElem? fun i => ?_
  by_cases hm : i ∈ vs
  · by_cases hl : i < σ.length
    · rw [wipe_in hm hl, wipe_in hm (by rw [o.1]; exact hl)]
    · rw [List.getElem?_eq_none (by rw [wipe_length, o.1]; omega), List.getElem?_eq_none (by rw [wipe_length]; omega)]
  · rw [wipe_out hm, wipe_out hm, o.2 i fun m => hm (hs i m)]
abbrev GF := D → Env' → Hs → R Env'
abbrev GsF := List D → Env' → Hs → R Env'
def PostG (T : Tab) (ρ : List Addr) (H : Hp) (S : List Nat) (σ : L2.St) (Q : L2.St → Hp → Prop) (env : Env') (h' : Hs) : Prop := ∀ ρ' H', Ex ρ H ρ' H' → RepH T ρ' H' h' → ∀ σ', RepE T ρ' H' env σ' → Off S σ σ' → Q σ' H'
def tG (T : Tab) (W : WX) (S : List Nat) (f : GF) : TG := fun v σ H Q => ∃ d env h ρ, Rep T ρ H d v ∧ RepE T ρ H env σ ∧ RepH T ρ H h ∧ wp (f d env h) (PostG T ρ H S σ Q) (XW T ρ H W σ)
def tGs (T : Tab) (W : WX) (S : List Nat) (f : GsF) : TGs := fun v σ H Q => ∃ d env h ρ, RepL T ρ H d v ∧ RepE T ρ H env σ ∧ RepH T ρ H h ∧ wp (f d env h) (PostG T ρ H S σ Q) NoX
def GV (c : Ctx) (e : Expr) (S : List Nat) (f : GF) : Prop := ∀ X, CxOk c X → ∀ W, Takes X W → PG X e (tG c.T W S f)
def GsV (c : Ctx) (es : List Expr) (S : List Nat) (f : GsF) : Prop := ∀ X, CxOk c X → ∀ W, Takes X W → PGs X es (tGs c.T W S f)
theorem _root_.L2.PG.zimp {X : Cx} {e : Expr} {t t' : TG} (h : PG X e t) (i : ∀ v σ H Q, t' v σ H Q → t v σ H Q) : PG X e t' := ⟨fun pins s σ H v u Q I r q => h.run pins s σ H v u Q I r (i v σ H Q q)⟩
theorem _root_.L2.PGs.zimp {X : Cx} {e : List Expr} {t t' : TGs} (h : PGs X e t) (i : ∀ v σ H Q, t' v σ H Q → t v σ H Q) : PGs X e t' := ⟨fun pins s σ H v u Q I r q => h.run pins s σ H v u Q I r (i v σ H Q q)⟩
def gtN (i : Nat) : GF := fun d env h => .ret (env.set i (some d)) h
/-- how a name is stored -/
def LocC (c : Ctx) (x : Str) : Prop := c.sc.names.lookup x = some .local ∨ (c.sc.names.lookup x = some .cell ∧ c.fn x = true)
theorem LocC.loc {X : Cx} (ok : CxOk c X) {x : Str} (h : LocC c x) : Loc X.env.scope x ∧ (X.fn x = true ∨ X.env.scope.names.lookup x = some .local) := by
  rw [ok.sc]
  rcases h with h | ⟨h, h2⟩
  · exact ⟨.inl h, .inr h⟩
  · exact ⟨.inr h, .inl (ok.fn x h2)⟩
theorem gv_name (i : Nat) {x : Str} {pos : Pos} (nd : c.N.Nodup) (hi : c.N[i]? = some x) (hx : LocC c x) : GV c (.Name x pos) [i] (gtN i) := fun X ok W tk =>
  (pg_name (i := i) (by rw [ok.N]; exact nd) (by rw [ok.N]; exact hi) (hx.loc ok).1 (hx.loc ok).2).zimp fun v σ H Q ⟨d, env, h, ρ, r, re, rh, w⟩ => w ρ H .refl rh _ (re.set r) .set
def gtNil : GsF := fun ds env h => match ds with
  | [] => .ret env h
  | _ => .fail
def gtCons (f : GF) (g : GsF) : GsF := fun ds env h => match ds with
  | d :: r => (f d env h).nox.bind fun env1 h1 => g r env1 h1
  | _ => .fail
theorem gsv_nil : GsV c [] [] gtNil := fun X ok W tk => pgs_nil.zimp fun v σ H Q ⟨d, env, h, ρ, r, re, rh, w⟩ => by
  unfold gtNil at w
  split at w
  · cases r; exact ⟨rfl, w ρ H .refl rh _ re .refl⟩
  · exact w.elim
theorem gsv_cons {e : Expr} {es : List Expr} {S S' : List Nat} {f : GF} {g : GsF} (h1 : GV c e S f) (h2 : GsV c es S' g) (hs : ∀ env, (assignEach (e :: es) env).map (·.2) = assign e env :: (assignEach es env).map (·.2)) : GsV c (e :: es) (S ++ S') (gtCons f g) := fun X ok W tk =>
  (pgs_cons (h1 X ok W tk) (h2 X ok W tk) (hs _)).zimp fun v σ H Q ⟨d, env, h, ρ, r, re, rh, w⟩ => by
    unfold gtCons at w
    split at w
    · cases r with
      | cons r1 rs =>
        refine ⟨_, _, rfl, _, env, h, ρ, r1, re, rh, wp_mono (fun env1 h1 w1 ρ1 H1 x1 rh1 σ1 re1 o1 => ?_) (fun _ _ e => e) _ (wp_nox (wp_bind w))⟩
        exact ⟨_, env1, h1, ρ1, rs.mono x1, re1, rh1, wp_mono (fun env2 h2 w2 ρ2 H2 x2 rh2 σ2 re2 o2 => w2 ρ2 H2 (x1.trans x2) rh2 σ2 re2 (o1.trans o2)) (fun _ _ e => e) _ w1⟩
    · exact w.elim
def gtTup (n : Nat) (g : GsF) : GF := fun d env h => match d with
  | .tup ds => match ds.length == n with
    | true => (g ds env h).nox
    | false => .fail
  | _ => .fail
theorem gv_tup {es : List Expr} {k n : Nat} {pos : Pos} {S : List Nat} {g : GsF} (hc : c.calm = true) (h : GsV c es S g) (hn : ∀ env, (assignEach es env).length = n) (hst : ∀ env, (assignEach es env).findIdx? (·.1) = none) : GV c (.Tuple es k pos) S (gtTup n g) := fun X ok W tk =>
  (pg_tup (ok.calm.trans hc) (h X ok W tk) (hn _) (hst _)).zimp fun v σ H Q ⟨d, env, h, ρ, r, re, rh, w⟩ => by
    unfold gtTup at w
    split at w
    · split at w
      · rename_i e
        cases r with
        | tup s r => exact ⟨_, _, rfl, by rw [ok.K]; exact s, by rw [← r.length]; simpa using e, _, env, h, ρ, r, re, rh, wp_nox w⟩
      · exact w.elim
    · exact w.elim
def gtLst (n : Nat) (g : GsF) : GF := fun d env h => match seqOf h d with
  | some ds => match ds.length == n with
    | true => (g ds env h).nox
    | false => .fail
  | none => .fail
theorem gv_lst {es : List Expr} {k n : Nat} {pos : Pos} {S : List Nat} {g : GsF} (hc : c.calm = true) (h : GsV c es S g) (hn : ∀ env, (assignEach es env).length = n) (hst : ∀ env, (assignEach es env).findIdx? (·.1) = none) : GV c (.Tuple es k pos) S (gtLst n g) := fun X ok W tk =>
  (pg_lst (ok.calm.trans hc) (h X ok W tk) (hn _) (hst _)).zimp fun v σ H Q ⟨d, env, h, ρ, r, re, rh, w⟩ => by
    unfold gtLst at w
    split at w
    · rename_i e0
      split at w
      · rename_i e
        obtain ⟨a, vs, rfl, s, r⟩ := rh.seq e0 r
        exact ⟨_, _, rfl, by rw [ok.K]; exact s, by rw [← r.length]; simpa using e, _, env, h, ρ, r, re, rh, wp_nox w⟩
      · exact w.elim
    · exact w.elim
/-- o[i] = v -/
def LkS (T : Tab) (t : TSet) (g : D → D → D → Hs → R Unit) : Prop := ∀ (ρ : List Addr) (H : Hp) (h : Hs) (o i v : D) (vo vi vv : V) (Q : Hp → Prop) (E : Exn → Hs → Prop), RepH T ρ H h → Rep T ρ H o vo → Rep T ρ H i vi → Rep T ρ H v vv →
  wp (g o i v h) (fun _ h' => ∀ ρ' H', Ex ρ H ρ' H' → RepH T ρ' H' h' → Q H') E → t vo vi vv H Q
def gtSub (g : D → D → D → Hs → R Unit) (fo fi : EF) : GF := fun d env h => (fo env h).bind fun o h1 => (fi env h1).bind fun i h2 => (g o i d h2).bind fun _ h3 => .ret env h3
theorem gv_sub {o i : Expr} {fo fi : EF} {t : TSet} {g : D → D → D → Hs → R Unit} {pos : Pos} (ho : EV c o fo) (hi : EV c i fi) (hs : ∀ X, CxOk c X → PSet X t) (lk : LkS c.T t g)
    (ha : ∀ env v, assign (.Subscript o i pos) env v = (do
      let ov ← holding [v] (eval o env)
      let iv ← holding [v, ov] (eval i env)
      standAt pos
      holding [v, ov, iv] (setItem ov iv v)
      release [v, ov, iv] [])) : GV c (.Subscript o i pos) [] (gtSub g fo fi) := fun X ok W tk =>
  (pg_sub (ho X ok W tk) (hi X ok W tk) (hs X ok) (ha _)).zimp fun v σ H Q ⟨d, env, h, ρ, r, re, rh, w⟩ =>
    tE_then re rh w (fun _ _ e => e) fun o h1 ρ1 vo H1 x1 re1 rh1 ro w1 => tE_then re1 rh1 w1 (fun _ _ e => XW.mono x1 e) fun i h2 ρ2 vi H2 x2 re2 rh2 ri w2 =>
      lk ρ2 H2 h2 o i d vo vi v _ _ rh2 (ro.mono x2) ri (r.mono (x1.trans x2)) (wp_mono (fun _ h3 q ρ3 H3 x3 rh3 => q ρ3 H3 (x1.trans (x2.trans x3)) rh3 σ (re2.mono x3) .refl) (fun _ _ e => e) _ (wp_bind w2))
def gSet : D → D → D → Hs → R Unit := fun o i v h => match o, i with
  | .ref n, .int k => match h[n]? with
    | some (.lst xs) => match ixN xs.length k with
      | some j => .ret () (h.set n (.lst (xs.set j v)))
      | none => .fail
    | _ => .fail
  | _, _ => .fail
theorem lk_set : LkS T rSetL gSet := by
  intro ρ H h o i v vo vi vv Q E rh ro ri rv w
  unfold gSet at w
  split at w
  · split at w
    · rename_i xs e0
      split at w
      · rename_i j ej
        cases ro with
        | ref ea =>
          cases ri
          obtain ⟨vs, q1, r1⟩ := rh.at_ _ _ _ e0 ea
          refine ⟨_, vs, _, j, rfl, rfl, q1, by rw [← r1.length]; exact ej, ?_⟩
          have x1 : Ex ρ H ρ (upd H _ (.lst (vs.set j vv))) := Ex.write (List.mem_of_getElem? ea) q1 rfl
          exact w ρ _ x1 (rh.write ea q1 rfl ⟨_, upd_same, (RepL.set rv j r1).mono x1⟩)
      · exact w.elim
    · exact w.elim
  · exact w.elim
/-- assignments -/
def sAsg (f : EF) (g : GF) : SF := fun env h => (f env h).catch env fun d h1 => (g d env h1).catch env fun env1 h2 => .ret (.nx env1) h2
def sSet (f : EF) (i : Nat) : SF := fun env h => (f env h).catch env fun d h1 => .ret (.nx (env.set i (some d))) h1
theorem sv_asg {tg e : Expr} {f : EF} {g : GF} {S : List Nat} {pos : Pos} (he : EV c e f) (hg : GV c tg S g) (hs : ∀ env, swapsWithSole [tg] e pos.line env = pure false) (hw : ∀ env, swappedStores [tg] e env = pure none)
    (h1 : ∀ env, (assignEach [tg] env).map (·.2) = [assign tg env]) : SV c (.Assign [tg] e pos) (sAsg f g) := fun X ok W tk po =>
  (ps_asg (he X ok W tk) (hg X ok W tk) (hs _) (hw _) (h1 _)).zimp fun De σ H ⟨env, h, ρ, re, rh, w⟩ => tE_catch re rh w fun d h1 ρ1 v H1 x re1 rh1 r1 w1 =>
    ⟨d, env, h1, ρ1, r1, re1, rh1, wp_mono (fun env1 h2 q ρ2 H2 x2 rh2 σ2 re2 _ => q ρ2 H2 x2 rh2 σ2 re2) (fun e h' q => OW.ex re1 q) _ (wp_catch w1)⟩
theorem sv_set (i : Nat) {x : Str} {e : Expr} {f : EF} {pos pos' : Pos} (nd : c.N.Nodup) (hi : c.N[i]? = some x) (hx : LocC c x) (he : EV c e f) (hs : ∀ env, swapsWith e (some (.Name x pos')) pos.line env = pure false) : SV c (.Assign [.Name x pos'] e pos) (sSet f i) := fun X ok W tk po =>
  (ps_set (i := i) (by rw [ok.N]; exact nd) (by rw [ok.N]; exact hi) (hx.loc ok).1 (he X ok W tk) (hs _) (hx.loc ok).2).zimp fun De σ H ⟨env, h, ρ, re, rh, w⟩ => tE_catch re rh w fun d h1 ρ1 v H1 x re1 rh1 r1 w1 => w1 ρ1 H1 .refl rh1 _ (re1.set r1)
/-- a, b = x, y -/
def sPar (i j : Nat) (fa : AF) : SF := fun env h => (fa env h).catch env fun ds h1 => match ds with
  | [x, y] => .ret (.nx ((env.set i (some x)).set j (some y))) h1
  | _ => .fail
theorem sv_par (i j : Nat) {x y : Str} {a b : Expr} {fa : AF} {px py pt pos : Pos} {kt k2 : Nat} {pt2 : Pos} (hc : c.calm = true) (nd : c.N.Nodup) (hi : c.N[i]? = some x) (hj : c.N[j]? = some y) (hij : i ≠ j)
    (hx : c.sc.names.lookup x = some .local) (hy : c.sc.names.lookup y = some .local) (ha : AV c [a, b] fa)
    (hw : ∀ env, env.scope = c.sc → swappedStores [.Tuple [.Name x px, .Name y py] kt pt] (.Tuple [a, b] k2 pt2) env = pure (some [x, y]))
    (hs : ∀ env, swapsWithSole [.Tuple [.Name x px, .Name y py] kt pt] (.Tuple [a, b] k2 pt2) pos.line env = pure false) :
    SV c (.Assign [.Tuple [.Name x px, .Name y py] kt pt] (.Tuple [a, b] k2 pt2) pos) (sPar i j fa) := fun X ok W tk po =>
  (ps_par (i := i) (j := j) (ok.calm.trans hc) (by rw [ok.N]; exact nd) (by rw [ok.N]; exact hi) (by rw [ok.N]; exact hj) hij (by rw [ok.sc]; exact hx) (by rw [ok.sc]; exact hy) (ha X ok W tk) (hw _ ok.sc) (hs _)).zimp fun De σ H ⟨env, h, ρ, re, rh, w⟩ =>
    tA_catch re rh w fun ds h1 ρ1 vs H1 x re1 rh1 r1 w1 => by
      split at w1
      · cases r1 with
        | cons r1 s =>
          cases s with
          | cons r2 s =>
            cases s
            exact ⟨_, _, rfl, w1 ρ1 H1 .refl rh1 _ ((re1.set r1).set r2)⟩
      · exact w1.elim
/-- x op= e -/
def sAug (i : Nat) (g : G2) (f : EF) : SF := fun env h => match env[i]? with
  | some (some x) => (f env h).catch env fun y h1 => (g x y h1).catch env fun z h2 => .ret (.nx (env.set i (some z))) h2
  | _ => .fail
theorem sv_aug (i : Nat) {x : Str} {e : Expr} {op : Operator} {ti : TIp} {g : G2} {f : EF} {pos pos' : Pos} (nd : c.N.Nodup) (hi : c.N[i]? = some x) (hx : LocC c x) (he : EV c e f) (ho : ∀ X, CxOk c X → PIp X op ti) (lk : Lk2 c.T ti g) : SV c (.AugAssign (.Name x pos') op e pos) (sAug i g f) := fun X ok W tk po =>
  (ps_aug (i := i) (by rw [ok.N]; exact nd) (by rw [ok.N]; exact hi) (hx.loc ok).1 (he X ok W tk) (ho X ok) (hx.loc ok).2).zimp fun De σ H ⟨env, h, ρ, re, rh, w⟩ => by
    unfold sAug at w
    split at w
    · rename_i x e0
      obtain ⟨v, e1, q⟩ := re.2 _ _ e0
      refine ⟨v, e1, tE_catch re rh w fun d h1 ρ1 u H1 x re1 rh1 r1 w1 => ?_⟩
      exact lk ρ1 H1 h1 _ d v u _ _ rh1 (q.mono x) r1 (wp_mono (fun z h2 q2 => by
        intro ρ2 vz H2 x2 rh2 rz
        exact q2 ρ2 H2 x2 rh2 _ ((re1.mono x2).set rz)) (fun _ _ q => q) _ (wp_catch w1))
    · exact w.elim
def gAddI' := gI2 (fun _ _ => true) fun i j => .int (i + j)
theorem lk_ipadd : Lk2 T (ipI fun i j => i + j) gAddI' := lk_I0 fun _ _ _ _ _ => .int _
theorem sv_augAdd (i : Nat) {x : Str} {e : Expr} {f : EF} {pos pos' : Pos} (nd : c.N.Nodup) (hi : c.N[i]? = some x) (hx : LocC c x) (he : EV c e f) : SV c (.AugAssign (.Name x pos') .Add e pos) (sAug i gAddI' f) := sv_aug i nd hi hx he (fun _ _ => ip_add) lk_ipadd

/-! ### while -/
/-- behind a body: again, or out -/
def againK (f : Env' → Hs → R Out) : Out → Hs → R Out := fun o h2 => match o with
  | .nx env1 => f env1 h2
  | .ct env1 => f env1 h2
  | .bk env1 => .ret (.nx env1) h2
  | .rt d => .ret (.rt d) h2
  | .ex e env1 => .ret (.ex e env1) h2
theorem again_core {fb : SF} {f : Env' → Hs → R Out} {env : Env'} {h : Hs} {N : L2.St → Hp → Prop} (re : RepE T ρ H env σ) (rh : RepH T ρ H h) (w : wp ((fb env h).bind (againK f)) (OW T ρ H W De) NoX)
    (hN : ∀ ρ' H' env' h' σ', Ex ρ H ρ' H' → RepE T ρ' H' env' σ' → RepH T ρ' H' h' → wp (f env' h') (OW T ρ' H' W De) NoX → N σ' H') : tS T W fb { De with nx := N, ct := N, bk := De.nx } σ H := by
  refine ⟨env, h, ρ, re, rh, wp_mono (fun o h1 q ρ1 H1 x r1 => ?_) (fun _ _ e => e) _ (wp_bind w)⟩
  cases o with
  | nx env1 => exact fun σ1 re1 => hN ρ1 H1 env1 h1 σ1 x re1 r1 (wp_mono (fun o h' p => OW.mono x p) (fun _ _ e => e) _ q)
  | ct env1 => exact fun σ1 re1 => hN ρ1 H1 env1 h1 σ1 x re1 r1 (wp_mono (fun o h' p => OW.mono x p) (fun _ _ e => e) _ q)
  | bk env1 => exact q ρ1 H1 x r1
  | rt d => exact q ρ1 H1 x r1
  | ex e env => exact q ρ1 H1 x r1
def whileL (t : BF) (b : SF) : Nat → Env' → Hs → R Out
  | 0 => fun _ _ => .fail
  | n + 1 => fun env h => (t env h).catch env fun k h1 => match k with
    | true => (b env h1).bind (againK (whileL t b n))
    | false => .ret (.nx env) h1
def sWhile (n : Nat) (t : BF) (b : SF) : SF := fun env h => whileL t b n env h
theorem sv_while (n : Nat) {t : Expr} {body : List Stmt} {ft : BF} {fb : SF} {pos : Pos} (ht : TV c t ft) (hb : SsV c body fb) : SV c (.While t body [] pos) (sWhile n ft fb) := fun X ok W tk po =>
  (ps_while po (ht X ok W tk) (hb X ok W tk po)).zimp fun De σ H ⟨env, h, ρ, re, rh, w⟩ => by
    refine ⟨fun m σ1 H1 => ∃ env1 h1 ρ1, RepE c.T ρ1 H1 env1 σ1 ∧ RepH c.T ρ1 H1 h1 ∧ wp (whileL ft fb m env1 h1) (OW c.T ρ1 H1 W De) NoX, ⟨n, env, h, ρ, re, rh, w⟩, ?_⟩
    rintro m σ1 H1 ⟨env1, h1, ρ1, re1, rh1, w1⟩
    cases m with
    | zero => exact w1.elim
    | succ m =>
      refine tB_catch re1 rh1 w1 fun k h2 ρ2 H2 x2 re2 rh2 w2 => ?_
      cases k with
      | false => exact w2 ρ2 H2 .refl rh2 σ1 re2
      | true =>
        rw [if_pos rfl]
        exact ⟨fun σ' H' => ∃ env' h' ρ', RepE c.T ρ' H' env' σ' ∧ RepH c.T ρ' H' h' ∧ wp (whileL ft fb m env' h') (OW c.T ρ' H' W De) NoX, fun σ' H' q => ⟨m, Nat.lt_succ_self _, q⟩,
          again_core re2 rh2 w2 fun ρ' H' env' h' σ' _ re' rh' w' => ⟨env', h', ρ', re', rh', w'⟩⟩

/-! ### what is walked -/
/-- the item at a turn: none: it fails; some none: the end -/
abbrev Nxt := Nat → Hs → Option (Option D)
def ItOk (T : Tab) (ρ : List Addr) (H : Hp) (J : It) (nxt : Nxt) : Prop := ∀ ρ' H' h i, Ex ρ H ρ' H' → RepH T ρ' H' h → match nxt i h with
  | none => True
  | some none => J.stop i H'
  | some (some d) => J.go i H' ∧ ∀ x H2, J.yld i H' x H2 → Ex ρ' H' ρ' H2 ∧ RepH T ρ' H2 h ∧ Rep T ρ' H2 d x
theorem ItOk.mono {ρ' : List Addr} {H' : Hp} {J : It} {nxt : Nxt} (x : Ex ρ H ρ' H') (k : ItOk T ρ H J nxt) : ItOk T ρ' H' J nxt := fun ρ2 H2 h i x2 rh => k ρ2 H2 h i (x.trans x2) rh
abbrev IF := Env' → Hs → R Nxt
def tI (T : Tab) (W : WX) (f : IF) : TI := fun σ H Q => ∃ env h ρ, RepE T ρ H env σ ∧ RepH T ρ H h ∧
  wp (f env h) (fun nxt h' => ∀ ρ' H' J, Ex ρ H ρ' H' → RepH T ρ' H' h' → ItOk T ρ' H' J nxt → Q J H') (XW T ρ H W σ)
def IV (c : Ctx) (tg e : Expr) (f : IF) : Prop := ∀ X, CxOk c X → ∀ W, Takes X W → PI X tg e (tI c.T W f)
theorem _root_.L2.PI.zimp {X : Cx} {tg e : Expr} {t t' : TI} (h : PI X tg e t) (i : ∀ σ H Q, t' σ H Q → t σ H Q) : PI X tg e t' := ⟨fun pins s σ H R I q => h.run pins s σ H R I (i σ H R q)⟩
def nxL (n : D) : Nxt := fun i h => match seqOf h n with
  | some xs => match xs[i]? with
    | some d => some (some d)
    | none => some none
  | none => none
def nxT (xs : List D) : Nxt := fun i _ => match xs[i]? with
  | some d => some (some d)
  | none => some none
def nxR (lo : Int) (n : Nat) : Nxt := fun i _ => match Nat.blt i n with
  | true => some (some (.int (lo + i)))
  | false => some none
/-- a list or a tuple, by its value -/
def fIter (f : EF) : IF := fun env h => (f env h).bind fun d h1 => match d with
  | .tup xs => .ret (nxT xs) h1
  | _ => match seqOf h1 d with
    | some _ => .ret (nxL d) h1
    | none => .fail
def iAny (K : PySem.W.Frag) (tl : TE) : TI := fun σ H R => tl σ H fun x H1 => ∃ a, x = .ref a ∧ (((∃ xs, SqL K H1 a xs) ∧ R (Itl K a) H1) ∨ ((∃ xs, SqT K H1 a xs) ∧ R (Itt K a) H1))
/-- a new iterator over a sequence stands behind all that stood -/
theorem PIE.fresh {X : Cx} {pins : List (Addr × Obj)} {σ : L2.St} {tg : Expr} {R : It → Hp → Prop} {H1 : Hp} {s1 : Shared} {ob : Obj} {J : It} {tn : Nat → Heap → Prop} (I1 : Inv X pins σ H1 s1) (tu : Turn X.prog X.w X.K tg J [s1.heap.objs.size] s1.heap.objs.size tn)
    (t0 : tn 0 (s1.heap.push ob)) (q : R J H1) : PIE X pins σ tg R (.ref s1.heap.objs.size) { s1 with heap := s1.heap.push ob } := by
  have Ik : Inv X pins σ H1 { s1 with heap := s1.heap.push ob } := I1.kept (t' := s1.toks) fun c oc hc => Heap.get?_push_of_some _ hc
  exact ⟨_, _, _, _, H1, rfl, Ik, tu, t0, fun c hc => by
    rw [List.mem_singleton] at hc
    exact hc ▸ I1.fpOk (Nat.le_refl _) (I1.hok.fresh (Nat.le_refl _)), q⟩
theorem pi_any {X : Cx} {tg l : Expr} {tl : TE} (hl : PE X l tl) : PI X tg l (iAny X.K tl) := ⟨fun pins s σ H R I h => thn (hl.run pins s σ H _ I h) fun v s1 ⟨x, H1, I1, r1, q1⟩ => by
  obtain ⟨a, rfl, q⟩ := q1
  obtain rfl : v = Value.ref a := r1
  rcases q with ⟨⟨xs, hq⟩, q⟩ | ⟨⟨xs, hq⟩, q⟩
  · obtain ⟨its, -, p, -⟩ := I1.list hq
    exact wpAny_pyIter_list p.isList (PIE.fresh I1 (turn_list a _) ⟨_, Heap.get?_push_size _ rfl, rfl, rfl⟩ q)
  · obtain ⟨its, -, p, -⟩ := I1.tuple hq
    exact wpAny_pyIter_tuple (show s1.heap.IsTuple a its.toArray from p) (PIE.fresh I1 (turn_tuple a _) ⟨_, Heap.get?_push_size _ rfl, rfl, rfl⟩ q)⟩
theorem itl_ok {n : D} {a : Addr} (e : Rep T ρ H n (.ref a)) : ItOk T ρ H (Itl T.K a) (nxL n) := by
  intro ρ' H' h i x rh
  unfold nxL
  split
  · trivial
  · rename_i q
    split at q
    · rename_i xs e0
      obtain ⟨a', vs, ev, s, r⟩ := rh.seq e0 (e.mono x)
      cases ev
      split at q
      · cases q
      · rename_i e1
        refine ⟨vs, s, ?_⟩
        rw [← r.length]
        exact List.getElem?_eq_none_iff.mp e1
    · cases q
  · rename_i d q
    split at q
    · rename_i xs e0
      obtain ⟨a', vs, ev, s, r⟩ := rh.seq e0 (e.mono x)
      cases ev
      split at q
      · rename_i e1
        cases q
        obtain ⟨v, e2, rd⟩ := r.get e1
        refine ⟨⟨vs, v, s, e2⟩, fun y H2 hy => ?_⟩
        obtain ⟨rfl, hy⟩ := hy
        have e3 := hy vs s
        rw [e2] at e3
        cases e3
        exact ⟨.refl, rh, rd⟩
      · cases q
    · cases q
theorem itt_ok {xs : List D} {a : Addr} {vs : List V} (s : SqT T.K H a vs) (r : RepL T ρ H xs vs) : ItOk T ρ H (Itt T.K a) (nxT xs) := by
  intro ρ' H' h i x rh
  have s' := x.y.sqT s
  have r' := r.mono x
  unfold nxT
  split
  · trivial
  · rename_i q
    split at q
    · cases q
    · rename_i e1
      refine ⟨vs, s', ?_⟩
      rw [← r'.length]
      exact List.getElem?_eq_none_iff.mp e1
  · rename_i d q
    split at q
    · rename_i e1
      cases q
      obtain ⟨v, e2, rd⟩ := r'.get e1
      refine ⟨⟨vs, v, s', e2⟩, fun y H2 hy => ?_⟩
      obtain ⟨rfl, hy⟩ := hy
      have e3 := hy vs s'
      rw [e2] at e3
      cases e3
      exact ⟨.refl, rh, rd⟩
    · cases q
theorem itr_ok {lo : Int} {n : Nat} : ItOk T ρ H (Itr lo n) (nxR lo n) := by
  intro ρ' H' h i x rh
  unfold nxR
  cases e : Nat.blt i n with
  | true =>
    refine ⟨(by have h : i < n := by simpa [Nat.blt_eq] using e
                exact h), fun y H2 hy => ?_⟩
    obtain ⟨rfl, rfl⟩ := hy
    exact ⟨.refl, rh, .int _⟩
  | false =>
    have h : ¬ i < n := fun z => by
      have := (Nat.blt_eq (x := i) (y := n)).mpr z
      rw [e] at this
      cases this
    exact Nat.le_of_not_lt h
theorem iv_any {tg e : Expr} {f : EF} (he : EV c e f) : IV c tg e (fIter f) := fun X ok W tk =>
  (pi_any (he X ok W tk)).zimp fun σ H Q ⟨env, h, ρ, re, rh, w⟩ => by
    rw [ok.K]
    refine tE_then re rh w (fun _ _ e => e) fun d h1 ρ1 v H1 x1 re1 rh1 r1 w1 => ?_
    split at w1
    · cases r1 with
      | tup s r => exact ⟨_, rfl, .inr ⟨⟨_, s⟩, w1 ρ1 H1 _ x1 rh1 (itt_ok s r)⟩⟩
    · split at w1
      · rename_i e0
        obtain ⟨a, vs, rfl, s, r⟩ := rh1.seq e0 r1
        exact ⟨_, rfl, .inl ⟨⟨vs, s⟩, w1 ρ1 H1 _ x1 rh1 (itl_ok r1)⟩⟩
      · exact w1.elim
def i62 (i : Int) : Bool := Nat.blt i.natAbs 4611686018427387904
theorem i62_ok {i : Int} (h : i62 i = true) : -(2 ^ 62) ≤ i ∧ i < 2 ^ 62 := by
  have h' : i.natAbs < 4611686018427387904 := by simpa [i62, Nat.blt_eq] using h
  omega
def fRng1 (f : AF) : IF := fun env h => (f env h).bind fun ds h1 => match ds with
  | [.int j] => match i62 j with
    | true => .ret (nxR 0 j.toNat) h1
    | false => .fail
  | _ => .fail
def fRng2 (f : AF) : IF := fun env h => (f env h).bind fun ds h1 => match ds with
  | [.int i, .int j] => match i62 i && i62 j with
    | true => .ret (nxR i (j - i).toNat) h1
    | false => .fail
  | _ => .fail
theorem iv_rng1 {tg a : Expr} {p pos : Pos} {f : AF} (hg : GlC c "range") (hm : c.mg "range" = none) (ha : AV c [a] f) (hs : ∀ env, starEach [a] env = [(false, eval a env)]) : IV c tg (.Call (.Name "range" p) [a] [] pos) (fRng1 f) := fun X ok W tk =>
  (pi_range1 (hg.gl ok) (by rw [ok.mg]; exact hm) (ha X ok W tk) (hs _)).zimp fun σ H Q ⟨env, h, ρ, re, rh, w⟩ => by
    refine tA_then re rh w (fun _ _ e => e) fun ds h1 ρ1 v H1 x1 re1 rh1 r1 w1 => ?_
    split at w1
    · split at w1
      · rename_i z
        obtain ⟨z1, z2⟩ := i62_ok z
        exact ⟨_, one_int r1, z1, z2, w1 ρ1 H1 _ x1 rh1 itr_ok⟩
      · exact w1.elim
    · exact w1.elim
theorem iv_rng2 {tg a b : Expr} {p pos : Pos} {f : AF} (hg : GlC c "range") (hm : c.mg "range" = none) (ha : AV c [a, b] f) (hs : ∀ env, starEach [a, b] env = [(false, eval a env), (false, eval b env)]) (hs2 : ∀ env, starEach [b] env = [(false, eval b env)]) : IV c tg (.Call (.Name "range" p) [a, b] [] pos) (fRng2 f) := fun X ok W tk =>
  (pi_range2 (hg.gl ok) (by rw [ok.mg]; exact hm) (ha X ok W tk) (hs _) (hs2 _)).zimp fun σ H Q ⟨env, h, ρ, re, rh, w⟩ => by
    refine tA_then re rh w (fun _ _ e => e) fun ds h1 ρ1 v H1 x1 re1 rh1 r1 w1 => ?_
    split at w1
    · split at w1
      · rename_i z
        obtain ⟨z1, z2⟩ := Bool.and_eq_true_iff.mp z
        obtain ⟨a1, a2⟩ := i62_ok z1
        obtain ⟨b1, b2⟩ := i62_ok z2
        exact ⟨_, _, two_args r1, ⟨a1, a2, b1, b2⟩, w1 ρ1 H1 _ x1 rh1 itr_ok⟩
      · exact w1.elim
    · exact w1.elim

/-! ### for -/
def forL (nxt : Nxt) (g : GF) (b : SF) : Nat → Nat → Env' → Hs → R Out
  | 0 => fun _ _ _ => .fail
  | n + 1 => fun i env h => match nxt i h with
    | none => .fail
    | some none => .ret (.nx env) h
    | some (some d) => (g d env h).catch env fun env1 h1 => (b env1 h1).bind (againK (forL nxt g b n (i + 1)))
def sFor (n : Nat) (it : IF) (g : GF) (b : SF) : SF := fun env h => (it env h).catch env fun nxt h1 => forL nxt g b n 0 env h1
theorem sv_for (n : Nat) {tg iter : Expr} {body : List Stmt} {fi : IF} {S : List Nat} {g : GF} {fb : SF} {pos : Pos} (hc : c.calm = true) (hi : IV c tg iter fi) (hg : GV c tg S g) (hb : SsV c body fb) (hs : ∀ env x, foldedSetIterable iter env x = pure x) : SV c (.For tg iter body [] pos) (sFor n fi g fb) := fun X ok W tk po =>
  (ps_for po (ok.calm.trans hc) (hi X ok W tk) (hg X ok W tk) (hb X ok W tk po) (hs _)).zimp fun De σ H ⟨env, h, ρ, re, rh, w⟩ => by
    refine ⟨env, h, ρ, re, rh, wp_mono (fun nxt h1 q ρ1 H1 J x1 rh1 k => ?_) (fun e h' q => OW.ex re q) _ (wp_catch w)⟩
    refine ⟨fun i m σ2 H2 => ∃ env2 h2 ρ2, Ex ρ1 H1 ρ2 H2 ∧ RepE c.T ρ2 H2 env2 σ2 ∧ RepH c.T ρ2 H2 h2 ∧ wp (forL nxt g fb m i env2 h2) (OW c.T ρ2 H2 W De) NoX, ⟨n, env, h1, ρ1, .refl, re.mono x1, rh1, wp_mono (fun o h' p => OW.mono x1 p) (fun _ _ e => e) _ q⟩, ?_⟩
    rintro i m σ2 H2 ⟨env2, h2, ρ2, x2, re2, rh2, w2⟩
    cases m with
    | zero => exact w2.elim
    | succ m =>
      have kk := k ρ2 H2 h2 i x2 rh2
      unfold forL at w2
      split at w2
      · exact w2.elim
      · rename_i e0
        rw [e0] at kk
        exact .inl ⟨kk, w2 ρ2 H2 .refl rh2 σ2 re2⟩
      · rename_i d e0
        rw [e0] at kk
        refine .inr ⟨kk.1, fun σ' H' => ∃ env' h' ρ', Ex ρ1 H1 ρ' H' ∧ RepE c.T ρ' H' env' σ' ∧ RepH c.T ρ' H' h' ∧ wp (forL nxt g fb m (i + 1) env' h') (OW c.T ρ' H' W De) NoX, fun σ' H' q => ⟨m, Nat.lt_succ_self _, q⟩, fun y H3 hy => ?_⟩
        obtain ⟨x3, rh3, rd⟩ := kk.2 y H3 hy
        refine ⟨d, env2, h2, ρ2, rd, re2.mono x3, rh3, wp_mono (fun env4 h4 q4 ρ4 H4 x4 rh4 σ4 re4 _ => ?_) (fun e h' q => XW.mono x3 (OW.ex re2 q)) _ (wp_catch w2)⟩
        exact again_core re4 rh4 (wp_mono (fun o h' p => OW.mono (x3.trans x4) p) (fun _ _ e => e) _ q4) fun ρ' H' env' h' σ' x' re' rh' w' => ⟨env', h', ρ', x2.trans (x3.trans (x4.trans x')), re', rh', w'⟩
end
end Z

set_option Elab.async false
set_option linter.all false
set_option maxRecDepth 100000
set_option maxHeartbeats 1000000
namespace Z
open PySem PySem.Spec PyProof.Rows L2

section
variable {T : Tab} {c : Ctx} {ρ : List Addr} {H : Hp} {W : WX} {σ : L2.St} {De : Ends}
/-! ### range(a, b, c), enumerate, zip -/
def nxC (lo c : Int) (n : Nat) : Nxt := fun i _ => match Nat.blt i n with
  | true => some (some (.int (lo + (i : Int) * c)))
  | false => some none
theorem itc_ok {lo k : Int} {n : Nat} : ItOk T ρ H (Itc lo k n) (nxC lo k n) := by
  intro ρ' H' h i x rh
  unfold nxC
  cases e : Nat.blt i n with
  | true =>
    refine ⟨(by have h : i < n := by simpa [Nat.blt_eq] using e
                exact h), fun y H2 hy => ?_⟩
    obtain ⟨rfl, rfl⟩ := hy
    exact ⟨.refl, rh, .int _⟩
  | false =>
    have h : ¬ i < n := fun z => by
      have := (Nat.blt_eq (x := i) (y := n)).mpr z
      rw [e] at this
      cases this
    exact Nat.le_of_not_lt h
def fRng3 (f : AF) : IF := fun env h => (f env h).bind fun ds h1 => match ds with
  | [.int i, .int j, .int c] => match i62 i && i62 j && (c == -1) with
    | true => .ret (nxC i (-1) (i - j).toNat) h1
    | false => match !(c == 0) && Nat.blt c.natAbs 1073741824 && Builtin.Range.small i j c && decide (0 ≤ Builtin.Range.rangeSize i j c) with
      | true => .ret (nxC i c (Builtin.Range.rangeSize i j c).toNat) h1
      | false => .fail
  | _ => .fail
theorem three_args {i j k : Int} {vx : List V} (rx : RepL T ρ H [.int i, .int j, .int k] vx) : vx = [.int i, .int j, .int k] := by
  cases rx with
  | cons r s =>
    cases s with
    | cons r2 s =>
      cases s with
      | cons r3 s => cases s; cases r; cases r2; cases r3; rfl
theorem iv_rng3 {tg a b d : Expr} {p pos : Pos} {f : AF} (hg : GlC c "range") (hm : c.mg "range" = none) (ha : AV c [a, b, d] f) (hs : St1 [a, b, d]) (hpl : Pl pos [b, d]) : IV c tg (.Call (.Name "range" p) [a, b, d] [] pos) (fRng3 f) := fun X ok W tk =>
  (pi_range3 (hg.gl ok) (by rw [ok.mg]; exact hm) (ha X ok W tk) (hs _) (hpl _)).zimp fun σ H Q ⟨env, h, ρ, re, rh, w⟩ => by
    refine tA_then re rh w (fun _ _ e => e) fun ds h1 ρ1 v H1 x1 re1 rh1 r1 w1 => ?_
    split at w1
    · split at w1
      · rename_i z
        rw [Bool.and_eq_true, Bool.and_eq_true] at z
        obtain ⟨⟨z1, z2⟩, z3⟩ := z
        have e3 := eq_of_beq z3
        subst e3
        obtain ⟨a1, a2⟩ := i62_ok z1
        obtain ⟨b1, b2⟩ := i62_ok z2
        exact ⟨_, _, _, _, three_args r1, RgC.neg a1 a2 b1 b2, w1 ρ1 H1 _ x1 rh1 itc_ok⟩
      · split at w1
        · rename_i z
          rw [Bool.and_eq_true, Bool.and_eq_true, Bool.and_eq_true] at z
          obtain ⟨⟨⟨z1, z2⟩, z3⟩, z4⟩ := z
          refine ⟨_, _, _, _, three_args r1, ⟨by simpa using z1, by simpa [Nat.blt_eq] using z2, z3, ?_⟩, w1 ρ1 H1 _ x1 rh1 itc_ok⟩
          have := of_decide_eq_true z4
          omega
        · exact w1.elim
    · exact w1.elim
def nxE (n : D) : Nxt := fun i h => match seqOf h n with
  | some xs => match xs[i]? with
    | some d => some (some (.tup [.int i, d]))
    | none => some none
  | none => none
theorem ite_ok {n : D} {a : Addr} (e : Rep T ρ H n (.ref a)) : ItOk T ρ H (Ite T.K a) (nxE n) := by
  intro ρ' H' h i x rh
  unfold nxE
  split
  · trivial
  · rename_i q
    split at q
    · rename_i xs e0
      obtain ⟨a', vs, ev, s, r⟩ := rh.seq e0 (e.mono x)
      cases ev
      split at q
      · cases q
      · rename_i e1
        refine ⟨vs, s, ?_⟩
        rw [← r.length]
        exact List.getElem?_eq_none_iff.mp e1
    · cases q
  · rename_i d q
    split at q
    · rename_i xs e0
      obtain ⟨a', vs, ev, s, r⟩ := rh.seq e0 (e.mono x)
      cases ev
      split at q
      · rename_i e1
        cases q
        obtain ⟨v, e2, rd⟩ := r.get e1
        refine ⟨⟨vs, v, s, e2⟩, fun y H2 hy => ?_⟩
        obtain ⟨T', x', rfl, nT, rfl, hy⟩ := hy
        have e3 := hy vs s
        rw [e2] at e3
        cases e3
        exact ⟨.new nT, rh.new nT, .tup (.of upd_same) (.cons (.int _) (.cons (rd.mono (.new nT)) .nil))⟩
      · cases q
    · cases q
def fEnum (f : EF) : IF := fun env h => (f env h).bind fun d h1 => match seqOf h1 d with
  | some _ => .ret (nxE d) h1
  | none => .fail
theorem iv_enum {e : Expr} {p pos tpos : Pos} {elts : List Expr} {kk : Nat} {f : EF} (hg : GlC c "enumerate") (hm : c.mg "enumerate" = none) (he : EV c e f) (hs : ∀ env, starEach [e] env = [(false, eval e env)]) (hs1 : St1 [e]) : IV c (.Tuple elts kk tpos) (.Call (.Name "enumerate" p) [e] [] pos) (fEnum f) := fun X ok W tk =>
  (pi_enum (hg.gl ok) (by rw [ok.mg]; exact hm) (pa_cons (he X ok W tk) pa_nil (hs1 X.env)) (hs _)).zimp fun σ H Q ⟨env, h, ρ, re, rh, w⟩ => by
    rw [ok.K]
    refine tE_then re rh w (fun _ _ e => e) fun d h1 ρ1 v H1 x1 re1 rh1 r1 w1 => ?_
    split at w1
    · rename_i e0
      obtain ⟨a, vs, rfl, s, r⟩ := rh1.seq e0 r1
      exact ⟨_, vs, rfl, s, w1 ρ1 H1 _ x1 rh1 (ite_ok r1)⟩
    · exact w1.elim
def nxZ (n m : D) : Nxt := fun i h => match seqOf h n, seqOf h m with
  | some xs, some ys => match xs[i]?, ys[i]? with
    | some d, some e => some (some (.tup [d, e]))
    | none, _ => some none
    | _, none => some none
  | _, _ => none
def nxZT (xs ys : List D) : Nxt := fun i h => match xs[i]?, ys[i]? with
  | some d, some e => some (some (.tup [d, e]))
  | none, _ => some none
  | _, none => some none
theorem itz_ok {n m : D} {a b : Addr} (ea : Rep T ρ H n (.ref a)) (eb : Rep T ρ H m (.ref b)) : ItOk T ρ H (L2.Itz T.K a b) (nxZ n m) := by
  intro ρ' H' h i x rh
  unfold nxZ
  cases e1 : seqOf h n with
  | none => trivial
  | some xs =>
    cases e2 : seqOf h m with
    | none => trivial
    | some ys =>
      obtain ⟨a', vs, ev, s, r⟩ := rh.seq e1 (ea.mono x)
      cases ev
      obtain ⟨b', ws, ev, s2, r2⟩ := rh.seq e2 (eb.mono x)
      cases ev
      dsimp only
      cases q1 : xs[i]? with
      | none =>
        refine ⟨vs, ws, s, s2, .inl ?_⟩
        rw [← r.length]
        exact List.getElem?_eq_none_iff.mp q1
      | some d =>
        cases q2 : ys[i]? with
        | none =>
          refine ⟨vs, ws, s, s2, .inr ?_⟩
          rw [← r2.length]
          exact List.getElem?_eq_none_iff.mp q2
        | some e =>
          obtain ⟨v, g1, rd⟩ := r.get q1
          obtain ⟨u, g2, re⟩ := r2.get q2
          refine ⟨⟨vs, ws, v, u, s, s2, g1, g2⟩, fun y H2 hy => ?_⟩
          obtain ⟨T', x', y', rfl, nT, rfl, h1, h2⟩ := hy
          have k1 := h1 vs s
          rw [g1] at k1; cases k1
          have k2 := h2 ws s2
          rw [g2] at k2; cases k2
          exact ⟨.new nT, rh.new nT, .tup (.of upd_same) (.cons (rd.mono (.new nT)) (.cons (re.mono (.new nT)) .nil))⟩
theorem itzT_ok {xs ys : List D} {a b : Addr} {vs ws : List V} (s : SqT T.K H a vs) (r : RepL T ρ H xs vs) (s2 : SqT T.K H b ws) (r2 : RepL T ρ H ys ws) : ItOk T ρ H (RZ.ItzT T.K a b) (nxZT xs ys) := by
  intro ρ' H' h i x rh
  have s := x.y.sqT s
  have s2 := x.y.sqT s2
  have r := r.mono x
  have r2 := r2.mono x
  unfold nxZT
  cases q1 : xs[i]? with
  | none =>
    refine ⟨vs, ws, s, s2, .inl ?_⟩
    rw [← r.length]
    exact List.getElem?_eq_none_iff.mp q1
  | some d =>
    cases q2 : ys[i]? with
    | none =>
      refine ⟨vs, ws, s, s2, .inr ?_⟩
      rw [← r2.length]
      exact List.getElem?_eq_none_iff.mp q2
    | some e =>
      obtain ⟨v, g1, rd⟩ := r.get q1
      obtain ⟨u, g2, re⟩ := r2.get q2
      refine ⟨⟨vs, ws, v, u, s, s2, g1, g2⟩, fun y H2 hy => ?_⟩
      obtain ⟨T', x', y', rfl, nT, rfl, h1, h2⟩ := hy
      have k1 := h1 vs s
      rw [g1] at k1; cases k1
      have k2 := h2 ws s2
      rw [g2] at k2; cases k2
      exact ⟨.new nT, rh.new nT, .tup (.of upd_same) (.cons (rd.mono (.new nT)) (.cons (re.mono (.new nT)) .nil))⟩
def fZip (f : AF) : IF := fun env h => (f env h).bind fun ds h1 => match ds with
  | [.tup xs, .tup ys] => .ret (nxZT xs ys) h1
  | [x, y] => match seqOf h1 x, seqOf h1 y with
    | some _, some _ => .ret (nxZ x y) h1
    | _, _ => .fail
  | _ => .fail
theorem iv_zip {e e2 : Expr} {p pos tpos : Pos} {elts : List Expr} {kk : Nat} {f : AF} (hg : GlC c "zip") (hm : c.mg "zip" = none) (ha : AV c [e, e2] f) (hs : St1 [e, e2]) (hpl : Pl pos [e2]) : IV c (.Tuple elts kk tpos) (.Call (.Name "zip" p) [e, e2] [] pos) (fZip f) := fun X ok W tk =>
  (RZ.pi_zipA (hg.gl ok) (by rw [ok.mg]; exact hm) (ha X ok W tk) (hs _) (hpl _)).zimp fun σ H Q ⟨env, h, ρ, re, rh, w⟩ => by
    rw [ok.K]
    refine tA_then re rh w (fun _ _ e => e) fun ds h1 ρ1 v H1 x1 re1 rh1 r1 w1 => ?_
    split at w1
    · cases r1 with
      | cons r1 rs =>
        cases rs with
        | cons r2 rs =>
          cases rs
          cases r1 with
          | tup s r =>
            cases r2 with
            | tup s2 r2 => exact ⟨_, _, _, _, rfl, .inr ⟨s, s2, w1 ρ1 H1 _ x1 rh1 (itzT_ok s r s2 r2)⟩⟩
    · split at w1
      · rename_i e0 e1
        cases r1 with
        | cons r1 rs =>
          cases rs with
          | cons r2 rs =>
            cases rs
            obtain ⟨a, vs, rfl, s, r⟩ := rh1.seq e0 r1
            obtain ⟨b, ws, rfl, s2, r3⟩ := rh1.seq e1 r2
            exact ⟨_, _, vs, ws, rfl, .inl ⟨s, s2, w1 ρ1 H1 _ x1 rh1 (itz_ok r1 r2)⟩⟩
      · exact w1.elim
    · exact w1.elim

/-! ### comprehensions -/
abbrev Ctx.blk (c : Ctx) (scope : Scope) : Ctx := { c with sc := relS scope c.sc, top := false, fn := fun x => scope.names.lookup x == some .cell }
theorem CxOk.blk {X : Cx} (ok : CxOk c X) (s : Shared) (H : Hp) (scope : Scope) (C : Addr) (cl : List (Str × Addr)) (fp : List Addr) : CxOk (c.blk scope) (X.blk s H scope (compEnvC scope cl C X.env) fp) :=
  ⟨ok.prog, ok.w, ok.K, ok.mg, ok.base, ok.N, by show relS scope X.env.scope = relS scope c.sc; rw [ok.sc], ok.room, ok.calm, fun z => (by cases z), fun x h => h⟩
def BsV (c : Ctx) (ifs : List Expr) (f : BF) : Prop := ∀ X, CxOk c X → ∀ W, Takes X W → PTs X ifs (tB' c.T W f)
def bYes : BF := fun _ h => .ret true h
theorem bsv_nil : BsV c [] bYes := fun X ok W tk => ⟨fun pins s σ H Q I ⟨env, h, ρ, re, rh, w⟩ => pts_nil.run pins s σ H Q I (w ρ H .refl rh)⟩
theorem bsv_one {t : Expr} {f : BF} (h : TV c t f) : BsV c [t] f := fun X ok W tk => pts_one (h X ok W tk)
def lcL (nxt : Nxt) (g : GF) (t : BF) (f : EF) (env : Env') : Nat → Nat → List D → Hs → R D
  | 0 => fun _ _ _ => .fail
  | n + 1 => fun i acc h => match nxt i h with
    | none => .fail
    | some none => newL acc.reverse h
    | some (some d) => (g d env h).nox.bind fun env1 h1 => (t env1 h1).nox.bind fun b h2 => match b with
      | true => (f env1 h2).nox.bind fun y h3 => match Nat.blt i line with
        | true => lcL nxt g t f env n (i + 1) (y :: acc) h3
        | false => .fail
      | false => lcL nxt g t f env n (i + 1) acc h2
def fLc (n : Nat) (vs : List Nat) (it : IF) (g : GF) (t : BF) (f : EF) : EF := fun env h => (it env h).bind fun nxt h1 => lcL nxt g t f (wipeE env vs) n 0 [] h1
/-- an object beside ours is changed -/
theorem Ey.aside {D' : Addr} {ρ : List Addr} {H : Hp} {vs ws : List V} (n : D' ∉ ρ) (e : H D' = some (.lst vs)) : Ey ρ H ρ (upd H D' (.lst ws)) := by
  refine ⟨List.prefix_rfl, fun b xs q => ?_, fun b o u q => ?_, fun b C dx fs nb q => ⟨?_, nb⟩⟩
  · rw [upd_ne fun z => by rw [z, e] at q; cases q]; exact q
  · rw [upd_ne fun z => by rw [z, e] at q; cases q]; exact q
  · rw [upd_ne fun z => by rw [z, e] at q; cases q]; exact q
theorem RepH.aside {D' : Addr} {ρ : List Addr} {H : Hp} {h : Hs} {vs ws : List V} (rh : RepH T ρ H h) (n : D' ∉ ρ) (e : H D' = some (.lst vs)) : RepH T ρ (upd H D' (.lst ws)) h :=
  ⟨rh.len, rh.nd, fun m u a e1 e2 => (rh.at_ m u a e1 e2).atY (.aside n e) (upd_ne fun z => n (z ▸ List.mem_of_getElem? e2))⟩
theorem Ex.aside {D' : Addr} {ρ ρ' : List Addr} {H H' : Hp} {o : HO} {vs : List V} (x : Ex ρ H ρ' H') (n : H D' = none) (e : H' D' = some (.lst vs)) : Ex ρ H ρ' (upd H' D' o) := by
  refine ⟨x.pre, fun b xs q => ?_, fun b o u q => ?_, fun b u nb q => ?_⟩
  · rw [upd_ne (ne_of_none q n)]; exact x.tup b xs q
  · rw [upd_ne (ne_of_none q n)]; exact x.frz b o u q
  · rw [upd_ne (ne_of_none q n)]; exact x.keep b u nb q
/-- an object beside ours becomes ours -/
theorem RepH.join {D' : Addr} {ρ : List Addr} {H : Hp} {h : Hs} {xs : List D} {vs : List V} (rh : RepH T ρ H h) (n : D' ∉ ρ) (e : H D' = some (.lst vs)) (r : RepL T ρ H xs vs) : RepH T (ρ ++ [D']) H (h ++ [.lst xs]) := by
  have y : Ey ρ H (ρ ++ [D']) H := ⟨List.prefix_append _ _, fun _ _ q => q, fun _ _ _ q => q, fun a C dx fs na q => ⟨q, fun z => by
    rcases List.mem_append.mp z with z | z
    · exact na z
    · have z' : a = D' := by simpa using z
      rw [z', e] at q; cases q⟩⟩
  refine ⟨by rw [List.length_append, List.length_append, rh.len]; rfl, ?_, fun m x a e1 e2 => ?_⟩
  · rw [List.nodup_append]
    exact ⟨rh.nd, by simp, fun b hb c hc z => n (by rw [List.mem_singleton] at hc; rw [← hc, ← z]; exact hb)⟩
  · by_cases hm : m < h.length
    · rw [List.getElem?_append_left hm] at e1
      rw [List.getElem?_append_left (by rw [rh.len]; exact hm)] at e2
      exact (rh.at_ m x a e1 e2).atY y rfl
    · have em : m = h.length := by
        obtain ⟨z, _⟩ := List.getElem?_eq_some_iff.mp e1
        rw [List.length_append] at z
        have : [AO.lst xs].length = 1 := rfl
        omega
      subst em
      rw [List.getElem?_append_right (Nat.le_refl _), Nat.sub_self] at e1
      rw [← rh.len, List.getElem?_append_right (Nat.le_refl _), Nat.sub_self] at e2
      cases e1; cases e2
      exact ⟨vs, e, r.monoY y⟩
theorem lc_imp (n : Nat) {scope : Scope} {vs : List Nat} {S : List Nat} {fi : IF} {g : GF} {t : BF} {f : EF} (hS : ∀ i ∈ S, i ∈ vs) {Q : VK} (q : tE T W (fLc n vs fi g t f) σ H Q) :
    tLc (tI T W fi) (tG T (fun _ _ _ _ => False) S g) (tB' T (fun _ _ _ _ => False) t) (tE T (fun _ _ _ _ => False) f) vs σ H Q := by
  obtain ⟨env, h, ρ, re, rh, w⟩ := q
  refine ⟨env, h, ρ, re, rh, wp_mono (fun nxt h1 q ρ1 H1 J x1 rh1 k D nD => ?_) (fun _ _ e => e) _ (wp_bind w)⟩
  have dρ : D ∉ ρ1 := rh1.fresh nD
  let Inv := fun (i m : Nat) (H2 : Hp) => ∃ h2 ρ2 acc vacc, Ex ρ1 H1 ρ2 H2 ∧ D ∉ ρ2 ∧ RepH T ρ2 H2 h2 ∧ H2 D = some (.lst vacc) ∧ RepL T ρ2 H2 acc.reverse vacc ∧ acc.length ≤ i ∧ wp (lcL nxt g t f (wipeE env vs) m i acc h2) (PostV T ρ H Q) (XW T ρ H W σ)
  refine ⟨Inv, ⟨n, h1, ρ1, [], [], .new nD, dρ, rh1.new nD, upd_same, .nil, Nat.le_refl _, q⟩, ?_⟩
  rintro i m H2 ⟨h2, ρ2, acc, vacc, x2, d2, rh2, eD, racc, hl, w2⟩
  cases m with
  | zero => exact w2.elim
  | succ m =>
    have kk := k ρ2 H2 h2 i x2 rh2
    have re2 : RepE T ρ2 H2 (wipeE env vs) (wipe σ vs) := (re.wipe vs).mono (x1.trans x2)
    unfold lcL at w2
    split at w2
    · exact w2.elim
    · rename_i e0
      rw [e0] at kk
      refine .inl ⟨kk, w2 (ρ2 ++ [D]) _ H2 (x1.trans ⟨x2.pre.trans (List.prefix_append _ _), x2.tup, x2.frz, fun a u na qa => ?_⟩) (rh2.join d2 eD racc) ?_⟩
      · obtain ⟨z1, z2⟩ := x2.keep a u na qa
        exact ⟨z1, fun z => by
          rcases List.mem_append.mp z with z | z
          · exact z2 z
          · have z' : a = D := by simpa using z
            rw [z', nD] at qa; cases qa⟩
      · rw [← rh2.len]; exact .last
    · rename_i d e0
      rw [e0] at kk
      refine .inr ⟨kk.1, Inv (i + 1) m, fun H' q => ⟨m, Nat.lt_succ_self _, q⟩, fun y H3 hy => ?_⟩
      obtain ⟨x3, rh3, rd⟩ := kk.2 y H3 hy
      refine ⟨d, wipeE env vs, h2, ρ2, rd, re2.mono x3, rh3, wp_mono (fun env4 h4 q4 ρ4 H4 x4 rh4 σ4 re4 o4 => ⟨?_, ?_⟩) (fun _ _ e => e) _ (wp_nox (wp_bind w2))⟩
      · rw [o4.wipe hS]
        refine List.ext_getElem? fun j => ?_
        by_cases hm : j ∈ vs
        · by_cases hl : j < σ.length
          · rw [wipe_in hm (by rw [wipe_length]; exact hl), wipe_in hm hl]
          · rw [List.getElem?_eq_none (by rw [wipe_length, wipe_length]; omega), List.getElem?_eq_none (by rw [wipe_length]; omega)]
        · rw [wipe_out hm]
      · refine ⟨env4, h4, ρ4, re4, rh4, wp_mono (fun b h5 q5 ρ5 H5 x5 rh5 => ?_) (fun _ _ e => e) _ (wp_nox (wp_bind q4))⟩
        have x25 := x3.trans (x4.trans x5)
        cases b with
        | false =>
          obtain ⟨z1, z2⟩ := x25.keep D _ d2 eD
          exact ⟨h5, ρ5, acc, vacc, x2.trans x25, z2, rh5, z1, racc.mono x25, Nat.le_succ_of_le hl, q5⟩
        | true =>
          dsimp only
          rw [if_pos rfl]
          refine ⟨env4, h5, ρ5, re4.mono x5, rh5, wp_mono (fun z h6 q6 ρ6 vz H6 x6 rh6 rz => ?_) (fun _ _ e => e) _ (wp_nox (wp_bind q5))⟩
          split at q6
          · rename_i zl
            have x26 := x25.trans x6
            obtain ⟨z1, z2⟩ := x26.keep D _ d2 eD
            have y7 : Ey ρ6 H6 ρ6 (upd H6 D (.lst (vacc ++ [vz]))) := .aside z2 z1
            refine ⟨vacc, z1, ?_, h6, ρ6, z :: acc, vacc ++ [vz], (x2.trans x26).aside nD z1, z2, rh6.aside z2 z1, upd_same, ?_, Nat.succ_le_succ hl, q6⟩
            · have zl' : i < line := by simpa [Nat.blt_eq] using zl
              have := racc.length
              rw [List.length_reverse] at this
              exact line_lt (by omega)
            · rw [List.reverse_cons]
              exact ((racc.mono x26).append (.cons rz .nil)).monoY y7
          · exact q6.elim
theorem ev_lc (n : Nat) {elt tg iter : Expr} {ifs : List Expr} {scope : Scope} {own : List (Str × Nat)} {pos : Pos} {fi : IF} {S : List Nat} {g : GF} {t : BF} {f : EF} (hc : c.calm = true) (nd : c.N.Nodup) (ok0 : BlkOk c.N c.sc scope own) (hS : ∀ i ∈ S, i ∈ own.map (·.2)) (hi : IV c tg iter fi)
    (hg : GV (c.blk scope) tg S g) (ht : BsV (c.blk scope) ifs t) (he : EV (c.blk scope) elt f) (hs : ∀ env x, foldedSetIterable iter env x = pure x) : EV c (.ListComp elt [⟨tg, iter, ifs, 0⟩] scope pos) (fLc n (own.map (·.2)) fi g t f) := fun X ok W tk =>
  (pe_lc (ok.calm.trans hc) (by rw [ok.N]; exact nd) (hi X ok W tk) (by rw [ok.N, ok.sc]; exact ok0) (fun s H C cl fp => hg _ (ok.blk s H scope C cl fp) _ takes0) (fun s H C cl fp => ht _ (ok.blk s H scope C cl fp) _ takes0)
    (fun s H C cl fp => he _ (ok.blk s H scope C cl fp) _ takes0) (hs _)).zimp fun σ H Q q => lc_imp n (scope := scope) hS q
/-- y = [..] -/
theorem sv_setLc (n i : Nat) {y : Str} {py : Pos} {elt tg iter : Expr} {ifs : List Expr} {scope : Scope} {own : List (Str × Nat)} {pos spos : Pos} {fi : IF} {S : List Nat} {g : GF} {t : BF} {f : EF} (hc : c.calm = true) (nd : c.N.Nodup) (hy : c.N[i]? = some y) (hyl : c.sc.names.lookup y = some .local) (hk : c.sc.kind = .function)
    (hl : (py.line == pos.line) = true) (hl2 : (spos.line == spos.line) = true) (ha : (scope.names.any fun (n, k) => n == y && (k == .local || k == .cell)) = false)
    (ok0 : BlkOk c.N c.sc scope own) (hS : ∀ i ∈ S, i ∈ own.map (·.2)) (hi : IV c tg iter fi)
    (hg : GV (c.blk scope) tg S g) (ht : BsV (c.blk scope) ifs t) (he : EV (c.blk scope) elt f) (hs : ∀ env x, foldedSetIterable iter env x = pure x) : SV c (.Assign [.Name y py] (.ListComp elt [⟨tg, iter, ifs, 0⟩] scope pos) spos) (sSet (fLc n (own.map (·.2)) fi g t f) i) := fun X ok W tk po =>
  (ps_setLc (i := i) (ok.calm.trans hc) (by rw [ok.N]; exact nd) (by rw [ok.N]; exact hy) (by rw [ok.sc]; exact hyl) (sw_true (by rw [ok.sc]; exact hk) (by rw [ok.sc]; exact hyl) hl ha) (hi X ok W tk) (by rw [ok.N, ok.sc]; exact ok0) (fun s H C cl fp => hg _ (ok.blk s H scope C cl fp) _ takes0) (fun s H C cl fp => ht _ (ok.blk s H scope C cl fp) _ takes0)
    (fun s H C cl fp => he _ (ok.blk s H scope C cl fp) _ takes0) (hs _)).zimp fun De σ H ⟨env, h, ρ, re, rh, w⟩ => by
      refine lc_imp n (scope := scope) hS (tE_catch re rh w fun d h1 ρ1 v H1 x re1 rh1 r1 w1 => ?_)
      exact w1 ρ1 H1 .refl rh1 _ (re1.set r1)

/-! ### a def's promise, a def's body, calls -/
abbrev FF := List D → Hs → R D
def Pr (T : Tab) (F : FF) : Sp := fun vs H Q E => ∃ ds h ρ, RepL T ρ H ds vs ∧ RepH T ρ H h ∧ wp (F ds h) (PostV T ρ H Q) (fun e h' => ∀ ρ' H' cls d, Ex ρ H ρ' H' → RepH T ρ' H' h' → RepX T ρ' H' e cls d → E cls d H')
def mkF (np n : Nat) (b : SF) : FF := fun ds h => match ds.length == np with
  | true => (b (startE n ds) h).nox.bind fun o h1 => match o with
    | .nx _ => .ret .non h1
    | .rt d => .ret d h1
    | .ex e _ => .exc e h1
    | _ => .fail
  | false => .fail
structure DefOk (P : Program) (w : World) (mg : Str → Option Value) (base : Heap) (T : Tab) (k : Nat) (x : Str) (np : Nat) (F : FF) : Prop where
  ex : ∃ (f : Addr) (fd : FuncData) (ps : List Str), FnOk P w T.K mg base (L2.CX P w) k f fd ps (Pr T F) ∧ ps.length = np ∧ mg x = some (.ref f) ∧ PySem.W.keepIn T.K (.ref f) = true ∧ Binds T.K fd ps []
end
abbrev cx0 (P : Program) (w : World) (mg : Str → Option Value) (base : Heap) (T : Tab) (N : List Str) (sc : Scope) (k : Nat) : Ctx := ⟨P, w, mg, base, T, N, sc, k, true, true, fun _ => true⟩
/-- a def of the text, by its body -/
theorem fn_ok {P : Program} {wd : World} {mg : Str → Option Value} {base : Heap} {T : Tab} {x qual : Str} {st : Stmt} {f : Addr} {fd : FuncData} {N ps : List Str} {k : Nat} {b : SF} (F : Fun T.K x qual st f fd) (S : FnScope N ps (defScope st))
    (hb : SsV (cx0 P wd mg base T N (defScope st) k) (defBody st) b) : FnOk P wd T.K mg base (L2.CX P wd) (k + 1) f fd ps (Pr T (mkF ps.length N.length b)) := by
  refine F.okX S (fun vs H Q E h => ?_) (fun cdv A outer s H vs Q E hr h => ?_)
  · obtain ⟨ds, h, ρ, r, rh, w⟩ := h
    rw [← r.length]
    unfold mkF at w
    split at w
    · rename_i e; simpa using e
    · exact w.elim
  · obtain ⟨ds, h, ρ, r, rh, w⟩ := h
    unfold mkF at w
    split at w
    · have ok : CxOk (cx0 P wd mg base T N (defScope st) k) (cxOf (L2.CX P wd) P wd T.K mg base N qual (defScope st) f cdv A outer s H E) := ⟨rfl, rfl, rfl, rfl, rfl, rfl, rfl, hr, rfl, fun (_ : true = true) => ⟨rfl, rfl, rfl⟩, fun (_ : Str) (_ : true = true) => rfl⟩
      have tk : Takes (cxOf (L2.CX P wd) P wd T.K mg base N qual (defScope st) f cdv A outer s H E) (fun cls d _ H => E cls d H) := takes_of rfl rfl rfl rfl
      refine ⟨_, hb _ ok _ tk (passes_of rfl), startE N.length ds, h, ρ, .start r, rh, ?_⟩
      refine wp_mono (fun o h1 q ρ' H' x rh' => ?_) (fun _ _ e => e) _ (wp_nox (wp_bind w))
      · cases o with
        | nx env => exact fun σ' _ => q ρ' _ H' x rh' .non
        | rt d => exact fun v rv => q ρ' v H' x rh' rv
        | bk env => exact q.elim
        | ct env => exact q.elim
        | ex e env => exact fun σ' cls d _ rx => q ρ' H' cls d x rh' rx
    · exact w.elim
theorem defOk {P : Program} {w : World} {mg : Str → Option Value} {base : Heap} {T : Tab} {x qual : Str} {st : Stmt} {f : Addr} {fd : FuncData} {N ps : List Str} {k : Nat} {b : SF} (F : Fun T.K x qual st f fd) (S : FnScope N ps (defScope st)) (hm : mg x = some (.ref f)) (hbd : Binds T.K fd ps [])
    (hb : SsV (cx0 P w mg base T N (defScope st) k) (defBody st) b) : DefOk P w mg base T (k + 1) x ps.length (mkF ps.length N.length b) := ⟨f, fd, ps, fn_ok F S hb, rfl, hm, F.kp, hbd⟩
/-- a def whose function is another one, that says no more -/
theorem DefOk.imp {P : Program} {w : World} {mg : Str → Option Value} {base : Heap} {T : Tab} {k np : Nat} {x : Str} {F G : FF} (d : DefOk P w mg base T k x np F) (h : ∀ ds hs Q E, wp (G ds hs) Q E → wp (F ds hs) Q E) : DefOk P w mg base T k x np G := by
  obtain ⟨f, fd, ps, ok, e, hm, kp, b⟩ := d.ex
  exact ⟨f, fd, ps, ok.imp fun vs H Q E ⟨ds, hs, ρ, r, rh, w⟩ => ⟨ds, hs, ρ, r, rh, h _ _ _ _ w⟩, e, hm, kp, b⟩
theorem DefOk.mono {P : Program} {w : World} {mg : Str → Option Value} {base : Heap} {T : Tab} {j k np : Nat} {x : Str} {F : FF} (d : DefOk P w mg base T j x np F) (h : j ≤ k) : DefOk P w mg base T k x np F := by
  obtain ⟨f, fd, ps, ok, e, hm, kp, b⟩ := d.ex
  exact ⟨f, fd, ps, ok.mono h, e, hm, kp, b⟩
section
variable {c : Ctx}
def fCall (F : FF) (fa : AF) : EF := fun env h => (fa env h).bind fun ds h1 => F ds h1
theorem ev_call {k np : Nat} {x : Str} {F : FF} {p pos : Pos} {e : Expr} {es : List Expr} {fa : AF} (d : DefOk c.P c.w c.mg c.base c.T k x np F) (hk : k ≤ c.k) (hg : GlC c x) (ha : AV c (e :: es) fa) (hdb : (x == ("__debug__" : Str)) = false) (he : St1 (e :: es)) (hpl : Pl pos es) :
    EV c (.Call (.Name x p) (e :: es) [] pos) (fCall F fa) := fun X ok W tk => by
  obtain ⟨f, fd, ps, fok, e, hm, kp, b⟩ := d.ex
  have e1 := ok.prog
  have e2 := ok.w
  have e3 := ok.K
  have e4 := ok.mg
  have e5 := ok.base
  have fok' : FnOk X.prog X.w X.K X.mg X.base (L2.CX X.prog X.w) k f fd ps (Pr c.T F) := by rw [e1, e2, e3, e4, e5]; exact fok
  refine (pe_callS (E := WE W) fok' (ok.room.mono hk) (hg.gl ok) (by rw [e4]; exact hm) (by rw [e3]; exact kp) (by rw [e3]; exact b) (fun σ => passAt tk σ) (ha X ok W tk) hdb (he _) (hpl _)).zimp fun σ H Q ⟨env, h, ρ, re, rh, w⟩ => ?_
  refine tA_then re rh w (fun _ _ e => e) fun ds h1 ρ1 v H1 x1 re1 rh1 r1 w1 => ?_
  exact ⟨ds, h1, ρ1, r1, rh1, wp_mono (fun d h' p => PostV.mono x1 p) (fun e h' p ρ' H' cls d x' => p ρ' H' cls d (x1.trans x')) _ w1⟩
/-- f() -/
theorem ev_call0 {k np : Nat} {x : Str} {F : FF} {p pos : Pos} (d : DefOk c.P c.w c.mg c.base c.T k x np F) (hk : k ≤ c.k) (hg : GlC c x) (hdb : (x == ("__debug__" : Str)) = false) : EV c (.Call (.Name x p) [] [] pos) (fCall F fNil) := fun X ok W tk => by
  obtain ⟨f, fd, ps, fok, e, hm, kp, b⟩ := d.ex
  have fok' : FnOk X.prog X.w X.K X.mg X.base (L2.CX X.prog X.w) k f fd ps (Pr c.T F) := by rw [ok.prog, ok.w, ok.K, ok.mg, ok.base]; exact fok
  refine ⟨fun pins s σ H Q I ⟨env, h, ρ, re, rh, w⟩ => ?_⟩
  refine wpAny_Call_Name_kw (ld_glob I (hg.gl ok) (by rw [ok.mg]; exact hm) ?_ hdb)
  refine PySem.W.callWith_K0 I.kIn (by rw [ok.K]; exact kp) (run_fnS (E := WE W) (us := []) (vs := []) fok' (ok.room.mono hk) (by rw [ok.K]; exact b) (passAt tk σ) I .nil ⟨[], h, ρ, .nil, rh, w⟩)
end
end Z

set_option Elab.async false
set_option linter.all false
set_option maxRecDepth 100000
set_option maxHeartbeats 1000000
namespace Z
open PySem PySem.Spec PyProof.Rows L2

/-! ### less is known -/
inductive Abs : AO → AO → Prop
  | rfl (a : AO) : Abs a a
  | st (s t : Int) : Abs (.lst [.int s, .int t]) .st
  | junk (a : AO) : Abs a .junk
def HAbs (h h' : Hs) : Prop := List.length h = List.length h' ∧ ∀ (n : Nat) (a b : AO), h[n]? = some a → h'[n]? = some b → Abs a b
theorem HAbs.refl {h : Hs} : HAbs h h := ⟨_root_.rfl, fun n a b e1 e2 => by rw [e1] at e2; cases e2; exact .rfl a⟩
section
variable {T : Tab} {ρ : List Addr} {H : Hp} {h h' : Hs}
theorem RepO.abs {a b : AO} {p : Addr} (x : Abs a b) (r : RepO T ρ H p a) : RepO T ρ H p b := by
  cases x with
  | rfl => exact r
  | st s t =>
    obtain ⟨vs, e, q⟩ := r
    cases q with
    | cons q1 q =>
      cases q with
      | cons q2 q =>
        cases q; cases q1; cases q2
        exact ⟨s, t, e⟩
  | junk => exact r.there
theorem RepH.abs (x : HAbs h h') (r : RepH T ρ H h) : RepH T ρ H h' := by
  refine ⟨r.len.trans x.1, r.nd, fun n o a e1 e2 => ?_⟩
  obtain ⟨z, _⟩ := List.getElem?_eq_some_iff.mp e1
  have e3 : h[n]? = some (h[n]'(by rw [x.1]; exact z)) := List.getElem?_eq_getElem _
  exact (r.at_ n _ a e3 e2).abs (x.2 n _ _ e3 e1)
theorem RepH.con {n : Nat} (r : RepH T ρ H h) (e : h[n]? = some .st) : ∃ s t : Int, RepH T ρ H (h.set n (.lst [.int s, .int t])) := by
  obtain ⟨a, ea⟩ := r.lt e
  obtain ⟨s, t, e1⟩ := r.at_ n _ a e ea
  refine ⟨s, t, by rw [List.length_set]; exact r.len, r.nd, fun m o b q1 q2 => ?_⟩
  by_cases hm : n = m
  · subst hm
    rw [List.getElem?_set_self (by obtain ⟨z, _⟩ := List.getElem?_eq_some_iff.mp e; exact z)] at q1
    cases q1
    rw [ea] at q2; cases q2
    exact ⟨_, e1, .cons (.int s) (.cons (.int t) .nil)⟩
  · rw [List.getElem?_set_ne hm] at q1
    exact r.at_ m o b q1 q2
theorem HAbs.st {n : Nat} {s t : Int} (e : h[n]? = some .st) : HAbs (h.set n (.lst [.int s, .int t])) h := by
  refine ⟨List.length_set, fun m a b e1 e2 => ?_⟩
  by_cases hm : n = m
  · subst hm
    rw [List.getElem?_set_self (by obtain ⟨z, _⟩ := List.getElem?_eq_some_iff.mp e; exact z)] at e1
    cases e1
    rw [e] at e2; cases e2
    exact .st s t
  · rw [List.getElem?_set_ne hm, e2] at e1
    cases e1; exact .rfl _
theorem HAbs.append {g g' : Hs} (x : HAbs h h') (y : HAbs g g') : HAbs (h ++ g) (h' ++ g') := by
  refine ⟨by rw [List.length_append, List.length_append, x.1, y.1], fun n a b e1 e2 => ?_⟩
  by_cases hn : n < h.length
  · rw [List.getElem?_append_left hn] at e1
    rw [List.getElem?_append_left (by rw [← x.1]; exact hn)] at e2
    exact x.2 n a b e1 e2
  · rw [List.getElem?_append_right (by omega)] at e1
    rw [List.getElem?_append_right (by rw [← x.1]; omega), ← x.1] at e2
    exact y.2 _ a b e1 e2
theorem PostV.abs {Q : VK} {d : D} (x : HAbs h h') (p : PostV T ρ H Q d h') : PostV T ρ H Q d h := fun ρ' v H' e r q => p ρ' v H' e (r.abs x) q
end

/-! ### the script's state: two ints; a draw -/
def gState : FF := fun ds h => match ds with
  | [.kl xs] => match Nat.ble xs.length 63, intsD xs with
    | true, some _ => .ret (.ref (h.length + 1)) (h ++ [.junk, .st])
    | _, _ => .fail
  | _ => .fail
def gTake : FF := fun ds h => match ds with
  | [.ref n, .int m] => match h[n]? with
    | some .st => match decide (0 < m) && Nat.blt m.natAbs 1073741824 with
      | true => .pick m.toNat fun i => .ret (.int i) h
      | false => .fail
    | _ => .fail
  | _ => .fail
/-- the text of _law_take -/
def bTake : SF :=
  sSeq (sIf (fTest (fBin gGt (fBin gIx (fVar 0) (fC (.int 0))) (fC (.int 0))))
      (sSeq (sSet (fBin gModI (fCallL gInt (fCons (fBin gIx (fVar 0) (fC (.int 0))) fNil)) (fVar 1)) 2)
      (sSeq (sAsg (fBin gDivI (fBin gIx (fVar 0) (fC (.int 0))) (fVar 1)) (gtSub gSet (fVar 0) (fC (.int 0))))
        (sRet (fVar 2)))) sNil)
  (sSeq (sAsg (fBin gModI (fCallL gInt (fCons (fBin gAdd (fBin gMulI (fBin gIx (fVar 0) (fC (.int 1))) (fC (.int 48271))) (fC (.int 11))) fNil)) (fC (.int 2147483647))) (gtSub gSet (fVar 0) (fC (.int 1))))
    (sRet (fBin gModI (fCallL gInt (fCons (fBin gDivI (fBin gIx (fVar 0) (fC (.int 1))) (fC (.int 7))) fNil)) (fVar 1))))
theorem take_run (n : Nat) (s t m : Int) (h : Hs) (e : h[n]? = some (.lst [.int s, .int t])) (hm : 0 < m) (hm2 : m.natAbs < 1073741824) :
    mkF 2 3 bTake [.ref n, .int m] h = if 0 < s then .ret (.int (s.fmod m)) (h.set n (.lst [.int (s.fdiv m), .int t]))
      else .ret (.int (Int.fmod (Int.fdiv (Int.fmod (t * 48271 + 11) 2147483647) 7) m)) (h.set n (.lst [.int s, .int (Int.fmod (t * 48271 + 11) 2147483647)])) := by
  have hl : n < h.length := by obtain ⟨z, _⟩ := List.getElem?_eq_some_iff.mp e; exact z
  have m0 : (m == 0) = false := by simp; omega
  have mb : Nat.blt m.natAbs 1073741824 = true := by simpa [Nat.blt_eq] using hm2
  have s0 : ∀ x : AO, (h.set n x)[n]? = some x := fun x => List.getElem?_set_self hl
  have a0 : ∀ {α : Type} (x y : α), atI [x, y] 0 = some x := fun x y => _root_.rfl
  have a1 : ∀ {α : Type} (x y : α), atI [x, y] 1 = some y := fun x y => _root_.rfl
  have i0 : ixN 2 0 = some 0 := _root_.rfl
  have i1 : ixN 2 1 = some 1 := _root_.rfl
  have w1 : w64 48271 = true := by decide
  have k7 : Nat.blt 7 1073741824 = true := by decide
  by_cases hs : 0 < s
  · rw [if_pos hs]
    simp [mkF, startE, bTake, sSeq, sIf, fTest, fBin, fVar, fC, gIx, gGt, gB2, gI2, R.bind, R.catch, R.nox, seqOf, e, a0, sSet, sAsg, gtSub, gSet, gModI, gDivI, fCallL, fCons, fNil, gInt, sRet, seqK, i0, m0, mb, hs]
  · rw [if_neg hs]
    simp [mkF, startE, bTake, sSeq, sIf, fTest, fBin, fVar, fC, gIx, gGt, gB2, gI2, R.bind, R.catch, R.nox, seqOf, e, a0, a1, sSet, sAsg, gtSub, gSet, gModI, gDivI, gMulI, gAdd, fCallL, fCons, fNil, gInt, sRet, seqK, i0, i1, m0, mb, hs, sNil, s0, w1, k7]
theorem toNat_fmod {x m : Int} (hm : 0 < m) : (x.fmod m).toNat < m.toNat ∧ ((x.fmod m).toNat : Int) = x.fmod m := by
  have h1 := Int.fmod_nonneg_of_pos x hm
  have h2 := Int.fmod_lt_of_pos x hm
  omega
theorem take_ok {P : Program} {w : World} {mg : Str → Option Value} {base : Heap} {T : Tab} {k : Nat} {x : Str} (d : DefOk P w mg base T k x 2 (mkF 2 3 bTake)) : DefOk P w mg base T k x 2 gTake := by
  obtain ⟨f, fd, ps, ok, e, hm, kp, b⟩ := d.ex
  refine ⟨f, fd, ps, ok.imp fun vs H Q E q => ?_, e, hm, kp, b⟩
  obtain ⟨ds, h, ρ, r, rh, q⟩ := q
  unfold gTake at q
  split at q
  · rename_i n m
    split at q
    · rename_i e1
      split at q
      · rename_i z
        rw [Bool.and_eq_true] at z
        have h0 : 0 < m := of_decide_eq_true z.1
        obtain ⟨s, t, rh'⟩ := rh.con e1
        have hl : n < h.length := by obtain ⟨z, _⟩ := List.getElem?_eq_some_iff.mp e1; exact z
        refine ⟨_, _, ρ, r, rh', ?_⟩
        rw [take_run n s t m _ (List.getElem?_set_self hl) h0 (by simpa [Nat.blt_eq] using z.2)]
        split
        · obtain ⟨k1, k2⟩ := toNat_fmod (x := s) h0
          have q1 : PostV T ρ H Q (.int ((Int.toNat _ : Nat) : Int)) h := q _ k1
          rw [k2] at q1
          exact PostV.abs (by rw [List.set_set]; exact .st e1) q1
        · obtain ⟨k1, k2⟩ := toNat_fmod (x := Int.fdiv (Int.fmod (t * 48271 + 11) 2147483647) 7) h0
          have q1 : PostV T ρ H Q (.int ((Int.toNat _ : Nat) : Int)) h := q _ k1
          rw [k2] at q1
          exact PostV.abs (by rw [List.set_set]; exact .st e1) q1
      · exact q.elim
    · exact q.elim
  · exact q.elim
/-- the text of _law_state -/
def bStateN (N : Nat) : SF :=
  sSeq (sSet (fC (.int 0)) 1) (sSeq (sSet (fC (.int 1)) 2)
  (sSeq (sFor N (fIter (fSl (fVar 0) fNoP (fPart (fC (.int 63))))) (gtN 3)
    (sSeq (sSet (fBin gAdd (fBin gMulI (fVar 1) (fC (.int 1000003))) (fCallL gAbs (fCons (fVar 3) fNil))) 1)
      (sSet (fBin gModI (fCallL gInt (fCons (fBin gAdd (fBin gMulI (fVar 2) (fC (.int 48271))) (fVar 3)) fNil)) (fC (.int 2147483647))) 2)))
  (sRet (fLst (fCons (fVar 1) (fCons (fVar 2) fNil))))))
abbrev bState : SF := bStateN 1000000
theorem state_turns (n : Nat) (x : D) (h : Hs) : ∀ (ys pre : List D), h[n]? = some (.lst (pre ++ ys)) → (∀ y ∈ ys, ∃ i, y = .int i) → ∀ (fuel : Nat), ys.length < fuel → ∀ (s t : Int) (v : Option D), ∃ s' t' v',
    forL (nxL (.ref n)) (gtN 3) (sSeq (sSet (fBin gAdd (fBin gMulI (fVar 1) (fC (.int 1000003))) (fCallL gAbs (fCons (fVar 3) fNil))) 1)
      (sSet (fBin gModI (fCallL gInt (fCons (fBin gAdd (fBin gMulI (fVar 2) (fC (.int 48271))) (fVar 3)) fNil)) (fC (.int 2147483647))) 2)) fuel pre.length [some x, some (.int s), some (.int t), v] h = .ret (.nx [some x, some (.int s'), some (.int t'), v']) h
  | [], pre, e, _, fuel + 1, _, s, t, v => ⟨s, t, v, by simp [forL, nxL, seqOf, e]⟩
  | y :: ys, pre, e, hy, fuel + 1, hf, s, t, v => by
    obtain ⟨i, rfl⟩ := hy y List.mem_cons_self
    have ih := state_turns n x h ys (pre ++ [.int i]) (by rw [List.append_assoc]; exact e) (fun z hz => hy z (List.mem_cons_of_mem _ hz)) fuel (by simp at hf; omega)
    have ex : (pre ++ D.int i :: ys)[pre.length]? = some (D.int i) := by rw [List.getElem?_append_right (Nat.le_refl _), Nat.sub_self]; rfl
    have w1 : w64 1000003 = true := by decide
    have w2 : w64 48271 = true := by decide
    obtain ⟨s', t', v', q⟩ := ih (s * 1000003 + (if i < 0 then -i else i)) ((t * 48271 + i).fmod 2147483647) (some (.int i))
    refine ⟨s', t', v', ?_⟩
    rw [← q]
    simp [forL, nxL, seqOf, e, ex, gtN, sSeq, sSet, fBin, fVar, fC, gAdd, gMulI, gModI, gI2, R.bind, R.catch, fCallL, fCons, fNil, gAbs, gInt, seqK, againK, w1, w2, List.append_assoc, List.length_append]
theorem intsD_all : ∀ {xs : List D} {ns : List Int}, intsD xs = some ns → ∀ y ∈ xs, ∃ i, y = D.int i
  | [], _, _, y, h => absurd h (by simp)
  | x :: xs, ns, e, y, h => by
    unfold intsD at e
    split at e
    · rename_i q; cases q
    · rename_i i xs' q
      cases q
      split at e
      · rename_i r e1
        rcases List.mem_cons.mp h with rfl | h
        · exact ⟨i, rfl⟩
        · exact intsD_all e1 y h
      · cases e
    · cases e
theorem seq_nx {f g : SF} {env env' : Env'} {h h' : Hs} (e : f env h = .ret (.nx env') h') : sSeq f g env h = g env' h' := by
  unfold sSeq; rw [e]; rfl
theorem state_run (N : Nat) (hN : 63 < N) (xs : List D) (h : Hs) (hx : ∀ y ∈ xs, ∃ i, y = D.int i) : ∃ l s t, mkF 1 4 (bStateN N) [.kl xs] h = .ret (.ref (h.length + 1)) (h ++ [l, .lst [.int s, .int t]]) := by
  have hc : ∀ y ∈ cutD xs none (some 63), ∃ i, y = D.int i := fun y hy => hx y (List.mem_of_mem_drop (List.mem_of_mem_take hy))
  have e1 : (h ++ [AO.lst (cutD xs none (some 63))])[h.length]? = some (.lst ([] ++ cutD xs none (some 63))) := by
    rw [List.getElem?_append_right (Nat.le_refl _), Nat.sub_self]; rfl
  have hl : (cutD xs none (some 63)).length < N := by
    unfold cutD
    rw [List.length_take]
    have : HT.sIx xs.length xs.length (some 63) ≤ 63 := by
      rw [show HT.sIx xs.length xs.length (some 63) = min 63 xs.length from HT.sIx_nat xs.length xs.length 63]
      exact Nat.min_le_left _ _
    omega
  obtain ⟨s, t, v, q⟩ := state_turns h.length (.kl xs) (h ++ [.lst (cutD xs none (some 63))]) (cutD xs none (some 63)) [] e1 hc N hl 0 1 none
  refine ⟨.lst (cutD xs none (some 63)), s, t, ?_⟩
  have e2 : seqOf (h ++ [AO.lst (cutD xs none (some 63))]) (.ref h.length) = some (cutD xs none (some 63)) := by
    unfold seqOf
    dsimp only
    rw [e1]; rfl
  have e3 : ∀ (env : Env'), env = startE 4 [D.kl xs] → (sFor N (fIter (fSl (fVar 0) fNoP (fPart (fC (.int 63))))) (gtN 3)
    (sSeq (sSet (fBin gAdd (fBin gMulI (fVar 1) (fC (.int 1000003))) (fCallL gAbs (fCons (fVar 3) fNil))) 1)
      (sSet (fBin gModI (fCallL gInt (fCons (fBin gAdd (fBin gMulI (fVar 2) (fC (.int 48271))) (fVar 3)) fNil)) (fC (.int 2147483647))) 2))) ((env.set 1 (some (.int 0))).set 2 (some (.int 1))) h = .ret (.nx [some (.kl xs), some (.int s), some (.int t), v]) (h ++ [.lst (cutD xs none (some 63))]) := by
    rintro env rfl
    rw [← q]
    unfold sFor
    have e4 : fIter (fSl (fVar 0) fNoP (fPart (fC (.int 63)))) (((startE 4 [D.kl xs]).set 1 (some (.int 0))).set 2 (some (.int 1))) h = .ret (nxL (.ref h.length)) (h ++ [.lst (cutD xs none (some 63))]) := by
      show (match seqOf (h ++ [AO.lst (cutD xs none (some 63))]) (.ref h.length) with
        | some _ => R.ret (nxL (.ref h.length)) (h ++ [AO.lst (cutD xs none (some 63))])
        | none => R.fail) = _
      rw [e2]
    rw [e4]
    rfl
  have e5 := e3 _ _root_.rfl
  have r1 : bStateN N (startE 4 [D.kl xs]) h = sRet (fLst (fCons (fVar 1) (fCons (fVar 2) fNil))) [some (.kl xs), some (.int s), some (.int t), v] (h ++ [.lst (cutD xs none (some 63))]) := by
    unfold bStateN
    rw [seq_nx (f := sSet (fC (.int 0)) 1) _root_.rfl, seq_nx (f := sSet (fC (.int 1)) 2) _root_.rfl, seq_nx e5]
  unfold mkF
  rw [r1]
  show R.ret (D.ref (List.length (h ++ [AO.lst (cutD xs none (some 63))]))) ((h ++ [AO.lst (cutD xs none (some 63))]) ++ [AO.lst [D.int s, D.int t]]) = _
  rw [List.length_append, List.append_assoc]
  rfl
theorem state_ok {P : Program} {w : World} {mg : Str → Option Value} {base : Heap} {T : Tab} {k : Nat} {x : Str} (d : DefOk P w mg base T k x 1 (mkF 1 4 bState)) : DefOk P w mg base T k x 1 gState := by
  obtain ⟨f, fd, ps, ok, e, hm, kp, b⟩ := d.ex
  refine ⟨f, fd, ps, ok.imp fun vs H Q E q => ?_, e, hm, kp, b⟩
  obtain ⟨ds, h, ρ, r, rh, q⟩ := q
  refine ⟨ds, h, ρ, r, rh, ?_⟩
  unfold gState at q
  split at q
  · rename_i xs
    split at q
    · rename_i ns e1 e2
      obtain ⟨l, s, t, e3⟩ := state_run 1000000 (by decide) xs h (intsD_all e2)
      rw [e3]
      have q1 : PostV T ρ H Q _ _ := q
      have hx : HAbs (h ++ [l, AO.lst [D.int s, D.int t]]) (h ++ [AO.junk, AO.st]) := HAbs.append .refl ⟨_root_.rfl, fun n a b h1 h2 => by
        match n with
        | 0 => simp at h1 h2; subst h1; subst h2; exact .junk _
        | 1 => simp at h1 h2; subst h1; subst h2; exact .st s t
        | n + 2 => simp at h1⟩
      exact PostV.abs hx q1
    · exact q.elim
  · exact q.elim
end Z

set_option Elab.async false
set_option linter.all false
set_option maxRecDepth 100000
set_option maxHeartbeats 1000000
namespace Z
open PySem PySem.Spec PyProof.Rows L2

/-! ### a slot forgotten behind a statement -/
def sForget (i : Nat) (f : SF) : SF := fun env h => (f env h).bind fun o h1 => match o with
  | .nx env1 => .ret (.nx (env1.set i none)) h1
  | o => .ret o h1
theorem sv_forget (i : Nat) {c : Ctx} {s : Stmt} {f : SF} (hs : SV c s f) : SV c s (sForget i f) := fun X ok W tk po =>
  (hs X ok W tk po).zimp fun De σ H ⟨env, h, ρ, re, rh, w⟩ => ⟨env, h, ρ, re, rh, wp_mono (fun o h1 q => by
    cases o with
    | nx env1 =>
      intro ρ' H' x rh' σ' re'
      refine q ρ' H' x rh' σ' ⟨by rw [List.length_set]; exact re'.1, fun j d e => ?_⟩
      by_cases hj : i = j
      · subst hj
        by_cases hl : i < env1.length
        · rw [List.getElem?_set_self hl] at e; cases e
        · rw [List.getElem?_eq_none (by rw [List.length_set]; omega)] at e; cases e
      · rw [List.getElem?_set_ne hj] at e
        exact re'.2 j d e
    | rt d => exact q
    | bk e => exact q
    | ct e => exact q
    | ex e env => exact q) (fun _ _ e => e) _ (wp_bind w)⟩

/-! ### the end -/
/-- a law's function gives True at every script -/
def Holds (F : FF) : Prop := ∀ ns : List Int, ns.length ≤ 63 → wp (F [.kl (ns.map D.int)] []) (fun d _ => d = .bl true) (fun _ _ => False)
theorem repL_ints {T : Tab} {ρ : List Addr} {H : Hp} : ∀ ns : List Int, RepL T ρ H (ns.map D.int) (ns.map V.int)
  | [] => .nil
  | n :: r => .cons (.int n) (repL_ints r)
theorem law_sp {T : Tab} {F : FF} (h : Holds F) (H : Hp) (a : Addr) (ns : List Int) (hl : ns.length ≤ 63) (ho : Only H) (s : SqL T.K H a (ns.map V.int)) : Pr T F [.ref a] H (fun v _ => v = .bl true) fun _ _ _ => False := by
  have fz : FzL T.K H a (ns.map V.int) := by
    rcases s with (s | ⟨o, s⟩) | s
    · rcases ho a with z | ⟨o, xs, z⟩
      · rw [z] at s; cases s
      · rw [z] at s; cases s
    · exact .inl ⟨o, s⟩
    · exact .inr s
  refine ⟨[.kl (ns.map D.int)], [], [], .cons (.kl fz (repL_ints ns)) .nil, ⟨rfl, List.nodup_nil, fun n o a e => by cases e⟩, wp_mono (fun d h' q => ?_) (fun _ _ q => q.elim) _ (h ns hl)⟩
  subst q
  intro ρ' v H' x rh r
  cases r
  rfl
theorem no_cx {P : Program} {w : World} {H : Hp} {s : Shared} {e : Value} {s' : Shared} (h : L2.CX P w [] H s (fun _ _ _ => False) e s') : False := by
  obtain ⟨_, _, _, _, _, _, _, _, _, _, _, _, z⟩ := h
  exact z

/-! ### the answer by computation: every draw is tried -/
def allN (f : Nat → Bool) : Nat → Bool
  | 0 => true
  | n + 1 => match f n with
    | true => allN f n
    | false => false
theorem allN_ok {f : Nat → Bool} : ∀ {n : Nat}, allN f n = true → ∀ i, i < n → f i = true
  | n + 1, h, i, hi => by
    unfold allN at h
    split at h
    · rename_i e
      by_cases z : i = n
      · rw [z]; exact e
      · exact allN_ok h i (by omega)
    · cases h
def check : R D → Bool
  | .ret (.bl true) _ => true
  | .pick n k => allN (fun i => check (k i)) n
  | _ => false
theorem check_ok : ∀ {r : R D}, check r = true → wp r (fun d _ => d = .bl true) (fun _ _ => False)
  | .ret d h, e => by
    unfold check at e
    split at e
    · rename_i q; cases q; rfl
    · rename_i q; cases q
    · cases e
  | .pick n k, e => fun i hi => check_ok (allN_ok (by simpa [check] using e) i hi)
  | .exc _ _, e => by simp [check] at e
  | .fail, e => by simp [check] at e
theorem intsD_map : ∀ ns : List Int, intsD (ns.map D.int) = some ns
  | [] => rfl
  | n :: r => by rw [List.map_cons, intsD, intsD_map r]
theorem gState_ok {ns : List Int} (h : ns.length ≤ 63) (hs : Hs) : gState [.kl (ns.map D.int)] hs = .ret (.ref (hs.length + 1)) (hs ++ [.junk, .st]) := by
  unfold gState
  have e1 : Nat.ble (ns.map D.int).length 63 = true := by rw [List.length_map]; exact Nat.ble_eq.mpr h
  simp only [e1, intsD_map]
/-- a draw, one value at a time -/
def pickSize : R D → Nat
  | .pick n _ => n
  | _ => 0
def checkAt (r : R D) (i : Nat) : Bool := match r with
  | .pick _ k => check (k i)
  | _ => false
theorem allN_of {f : Nat → Bool} : ∀ {n : Nat}, (∀ i, i < n → f i = true) → allN f n = true
  | 0, _ => rfl
  | n + 1, h => by
    unfold allN
    rw [h n (Nat.lt_succ_self n)]
    exact allN_of fun i hi => h i (Nat.lt_succ_of_lt hi)
theorem check_of {r : R D} {n : Nat} (h0 : pickSize r = n) (h1 : 0 < n) (h : ∀ i, i < n → checkAt r i = true) : check r = true := by
  cases r with
  | pick m k =>
    have e : m = n := h0
    subst e
    show allN (fun i => check (k i)) m = true
    exact allN_of h
  | _ => exact absurd (show 0 = n from h0) (by omega)
/-- the rest of a law behind its state -/
def lawR (n i : Nat) (rest : SF) : R D := ((rest (((List.replicate n none).set i (some (.ref 1))).set 0 none) [.junk, .st]).nox).bind fun o h1 => match o with
    | .nx _ => .ret .non h1
    | .rt d => .ret d h1
    | .ex e _ => .exc e h1
    | _ => .fail
/-- the law's function begins with the state; the script is forgotten -/
theorem holds_state {n i : Nat} {rest : SF} {F : FF} (hF : F = mkF 1 n (sSeq (sForget 0 (sSet (fCall gState (fCons (fVar 0) fNil)) i)) rest)) (hn : 0 < n)
    (h : check (lawR n i rest) = true) : Holds F := by
  intro ns hl
  subst hF
  unfold mkF
  have e0 : (startE n [D.kl (ns.map D.int)]).set 0 none = List.replicate n none := by
    obtain ⟨m, rfl⟩ : ∃ m, n = m + 1 := ⟨n - 1, by omega⟩
    rfl
  have e1 : sForget 0 (sSet (fCall gState (fCons (fVar 0) fNil)) i) (startE n [D.kl (ns.map D.int)]) [] = .ret (.nx (((List.replicate n none).set i (some (.ref 1))).set 0 none)) [.junk, .st] := by
    have e2 : sSet (fCall gState (fCons (fVar 0) fNil)) i (startE n [D.kl (ns.map D.int)]) [] = .ret (.nx ((startE n [D.kl (ns.map D.int)]).set i (some (.ref 1)))) [.junk, .st] := by
      show ((gState [D.kl (ns.map D.int)] []).catch _ _) = _
      rw [gState_ok hl]; rfl
    unfold sForget
    rw [e2]
    show R.ret (Out.nx (((startE n [D.kl (ns.map D.int)]).set i (some (.ref 1))).set 0 none)) _ = _
    by_cases hi : i = 0
    · subst hi; rw [List.set_set, List.set_set, e0]
      obtain ⟨m, rfl⟩ : ∃ m, n = m + 1 := ⟨n - 1, by omega⟩
      rfl
    · rw [List.set_comm _ _ hi, e0, List.set_comm _ _ hi]
      obtain ⟨m, rfl⟩ : ∃ m, n = m + 1 := ⟨n - 1, by omega⟩
      rfl
  rw [seq_nx e1]
  exact check_ok h
end Z

set_option Elab.async false
set_option linter.all false
set_option maxRecDepth 100000
set_option maxHeartbeats 1000000
/-! ZE: twins of the combinators that the kernel reckons quickly: what is handed on is written out. -/
namespace Z
open PySem PySem.Spec PyProof.Rows L2

noncomputable section
section
variable {α β γ : Type}
def nthR (xs : List α) : Nat → Option α := List.rec (motive := fun _ => Nat → Option α) (fun _ => none) (fun x _ ih n => Nat.casesOn n (some x) ih) xs
theorem nthR_eq : ∀ (xs : List α) (i : Nat), xs[i]? = nthR xs i
  | [], _ => rfl
  | x :: xs, 0 => rfl
  | x :: xs, i + 1 => by rw [List.getElem?_cons_succ]; exact nthR_eq xs i
def setR (xs : List α) : Nat → α → (List α → β) → β := List.rec (motive := fun _ => Nat → α → (List α → β) → β) (fun _ _ k => k []) (fun x xs ih n y k => Nat.casesOn n (k (y :: xs)) fun m => ih m y fun r => k (x :: r)) xs
theorem setR_eq : ∀ (xs : List α) (i : Nat) (y : α) (k : List α → β), setR xs i y k = k (xs.set i y)
  | [], _, _, _ => rfl
  | x :: xs, 0, _, _ => rfl
  | x :: xs, i + 1, y, k => setR_eq xs i y fun r => k (x :: r)
def snocR (xs : List α) : α → (List α → β) → β := List.rec (motive := fun _ => α → (List α → β) → β) (fun y k => k [y]) (fun x _ ih y k => ih y fun r => k (x :: r)) xs
theorem snocR_eq : ∀ (xs : List α) (y : α) (k : List α → β), snocR xs y k = k (xs ++ [y])
  | [], _, _ => rfl
  | x :: xs, y, k => snocR_eq xs y fun r => k (x :: r)
/-- a list written out (its items are) -/
def spine (xs : List α) : (List α → β) → β := List.rec (motive := fun _ => (List α → β) → β) (fun k => k []) (fun x _ ih k => ih fun r => k (x :: r)) xs
theorem spine_eq : ∀ (xs : List α) (k : List α → β), spine xs k = k xs
  | [], _ => rfl
  | x :: xs, k => spine_eq xs fun r => k (x :: r)
def appR (xs ys : List α) : (List α → β) → β := List.rec (motive := fun _ => (List α → β) → β) (fun k => spine ys k) (fun x _ ih k => ih fun r => k (x :: r)) xs
theorem appR_eq : ∀ (xs ys : List α) (k : List α → β), appR xs ys k = k (xs ++ ys)
  | [], ys, k => spine_eq ys k
  | x :: xs, ys, k => appR_eq xs ys fun r => k (x :: r)
def natR (n : Nat) (k : Nat → β) : β := Nat.casesOn n (k 0) fun m => k (Nat.succ m)
theorem natR_eq (n : Nat) (k : Nat → β) : natR n k = k n := by cases n <;> rfl
def lenR (xs : List α) : (Nat → β) → β := List.rec (motive := fun _ => (Nat → β) → β) (fun k => k 0) (fun _ _ ih k => ih fun n => k (Nat.succ n)) xs
theorem lenR_eq : ∀ (xs : List α) (k : Nat → β), lenR xs k = k xs.length
  | [], _ => rfl
  | _ :: xs, k => lenR_eq xs fun n => k (Nat.succ n)
def intR (i : Int) (k : Int → β) : β := Int.casesOn i (fun n => natR n fun n => k (Int.ofNat n)) fun n => natR n fun n => k (Int.negSucc n)
theorem intR_eq (i : Int) (k : Int → β) : intR i k = k i := by
  cases i with
  | ofNat n => exact natR_eq n fun n => k (Int.ofNat n)
  | negSucc n => exact natR_eq n fun n => k (Int.negSucc n)
end
def bindR {α β : Type} (r : R α) (f : α → Hs → R β) : R β := R.rec (motive := fun _ => R β) (fun a h => f a h) (fun e h => .exc e h) .fail (fun n _ ih => .pick n ih) r
theorem bindR_eq {α β : Type} (f : α → Hs → R β) : ∀ r : R α, r.bind f = bindR r f
  | .ret _ _ => rfl
  | .exc _ _ => rfl
  | .fail => rfl
  | .pick n k => by
    show R.pick n (fun i => (k i).bind f) = R.pick n (fun i => bindR (k i) f)
    congr 1; funext i; exact bindR_eq f (k i)
def catchR {α : Type} (r : R α) (env : Env') (f : α → Hs → R Out) : R Out := R.rec (motive := fun _ => R Out) (fun a h => f a h) (fun e h => .ret (.ex e env) h) .fail (fun n _ ih => .pick n ih) r
theorem catchR_eq {α : Type} (env : Env') (f : α → Hs → R Out) : ∀ r : R α, r.catch env f = catchR r env f
  | .ret _ _ => rfl
  | .exc _ _ => rfl
  | .fail => rfl
  | .pick n k => by
    show R.pick n (fun i => (k i).catch env f) = R.pick n (fun i => catchR (k i) env f)
    congr 1; funext i; exact catchR_eq env f (k i)
def noxR {α : Type} (r : R α) : R α := R.rec (motive := fun _ => R α) (fun a h => .ret a h) (fun _ _ => .fail) .fail (fun n _ ih => .pick n ih) r
theorem noxR_eq {α : Type} : ∀ r : R α, r.nox = noxR r
  | .ret _ _ => rfl
  | .exc _ _ => rfl
  | .fail => rfl
  | .pick n k => by
    show R.pick n (fun i => (k i).nox) = R.pick n (fun i => noxR (k i))
    congr 1; funext i; exact noxR_eq (k i)

/-! ### ints -/
def ltR (i j : Int) : Bool := Int.casesOn i (fun a => Int.casesOn j (fun b => Nat.ble (Nat.succ a) b) fun _ => false) fun a => Int.casesOn j (fun _ => true) fun b => Nat.ble (Nat.succ b) a
def leR (i j : Int) : Bool := Int.casesOn i (fun a => Int.casesOn j (fun b => Nat.ble a b) fun _ => false) fun a => Int.casesOn j (fun _ => true) fun b => Nat.ble b a
def eqR (i j : Int) : Bool := Int.casesOn i (fun a => Int.casesOn j (fun b => Nat.beq a b) fun _ => false) fun a => Int.casesOn j (fun _ => false) fun b => Nat.beq a b
theorem ble_dec (a b : Nat) : Nat.ble a b = decide (a ≤ b) := by
  rw [Bool.eq_iff_iff]; simp
theorem ltR_eq (i j : Int) : decide (i < j) = ltR i j := by
  cases i with
  | ofNat a => cases j with
    | ofNat b => show _ = Nat.ble (a + 1) b; rw [ble_dec]; exact decide_eq_decide.mpr ⟨fun h => by simp at h; omega, fun h => by simp; omega⟩
    | negSucc b => show _ = false; exact decide_eq_false (by intro h; have := Int.negSucc_lt_zero b; simp at h; omega)
  | negSucc a => cases j with
    | ofNat b => show _ = true; exact decide_eq_true (by have := Int.negSucc_lt_zero a; simp; omega)
    | negSucc b => show _ = Nat.ble (b + 1) a; rw [ble_dec]; exact decide_eq_decide.mpr (by omega)
theorem leR_eq (i j : Int) : decide (i ≤ j) = leR i j := by
  cases i with
  | ofNat a => cases j with
    | ofNat b => show _ = Nat.ble a b; rw [ble_dec]; exact decide_eq_decide.mpr ⟨fun h => by simp at h; omega, fun h => by simp; omega⟩
    | negSucc b => show _ = false; exact decide_eq_false (by intro h; have := Int.negSucc_lt_zero b; simp at h; omega)
  | negSucc a => cases j with
    | ofNat b => show _ = true; exact decide_eq_true (by have := Int.negSucc_lt_zero a; simp; omega)
    | negSucc b => show _ = Nat.ble b a; rw [ble_dec]; exact decide_eq_decide.mpr (by omega)
theorem natBeq (a b : Nat) : (a == b) = Nat.beq a b := by rw [Bool.eq_iff_iff, Nat.beq_eq]; simp
theorem eqR_eq (i j : Int) : (i == j) = eqR i j := by
  cases i with
  | ofNat a => cases j with
    | ofNat b => show _ = Nat.beq a b; rw [Bool.eq_iff_iff, Nat.beq_eq]; simp; omega
    | negSucc b => show _ = false; simp
  | negSucc a => cases j with
    | ofNat b => show _ = false; simp
    | negSucc b => show _ = Nat.beq a b; rw [Bool.eq_iff_iff, Nat.beq_eq]; simp
/-- the rest, the quotient: quick where both are not negative -/
def modR (i j : Int) : Int := Int.casesOn i (fun a => Int.casesOn j (fun b => Int.ofNat (Nat.mod a b)) fun b => Int.fmod (.ofNat a) (.negSucc b)) fun a => Int.fmod (.negSucc a) j
theorem modR_eq (i j : Int) : i.fmod j = modR i j := by
  cases i with
  | ofNat a => cases j with
    | ofNat b => show Int.fmod (Int.ofNat a) (Int.ofNat b) = Int.ofNat (a % b); rw [Int.fmod_eq_emod_of_nonneg _ (by simp)]; rfl
    | negSucc b => rfl
  | negSucc a => rfl
def divR (i j : Int) : Int := Int.casesOn i (fun a => Int.casesOn j (fun b => Int.ofNat (Nat.div a b)) fun b => Int.fdiv (.ofNat a) (.negSucc b)) fun a => Int.fdiv (.negSucc a) j
theorem divR_eq (i j : Int) : i.fdiv j = divR i j := by
  cases i with
  | ofNat a => cases j with
    | ofNat b => show Int.fdiv (Int.ofNat a) (Int.ofNat b) = Int.ofNat (a / b); rw [Int.fdiv_eq_ediv_of_nonneg _ (by simp)]; rfl
    | negSucc b => rfl
  | negSucc a => rfl
/-- an int out -/
def retI (i : Int) (h : Hs) : R D := intR i fun i => R.ret (D.int i) h
theorem retI_eq (i : Int) (h : Hs) : R.ret (.int i) h = retI i h := (intR_eq i fun i => R.ret (D.int i) h).symm

/-! ### the twins -/
def fVar' (i : Nat) : EF := fun env h => match nthR env i with
  | some (some d) => .ret d h
  | _ => .fail
theorem fVar_eq (i : Nat) : fVar i = fVar' i := by funext env h; unfold fVar fVar'; rw [nthR_eq] <;> rfl
def fBin' (g : G2) (fa fb : EF) : EF := fun env h => bindR (fa env h) fun x h1 => bindR (fb env h1) fun y h2 => g x y h2
theorem fBin_eq (g : G2) (fa fb : EF) : fBin g fa fb = fBin' g fa fb := by funext env h; unfold fBin fBin'; simp only [bindR_eq]
def fUn' (g : G1) (fa : EF) : EF := fun env h => bindR (fa env h) fun x h1 => g x h1
theorem fUn_eq (g : G1) (fa : EF) : fUn g fa = fUn' g fa := by funext env h; unfold fUn fUn'; simp only [bindR_eq]
def fTest' (fa : EF) : BF := fun env h => bindR (fa env h) fun x h1 => match x with
  | .bl b => .ret b h1
  | _ => .fail
theorem fTest_eq (fa : EF) : fTest fa = fTest' fa := by funext env h; unfold fTest fTest'; simp only [bindR_eq] <;> rfl
def fAnd' (f g : BF) : BF := fun env h => bindR (f env h) fun b h1 => match b with
  | true => g env h1
  | false => .ret false h1
theorem fAnd_eq (f g : BF) : fAnd f g = fAnd' f g := by funext env h; unfold fAnd fAnd'; simp only [bindR_eq] <;> rfl
def fOr' (f g : BF) : BF := fun env h => bindR (f env h) fun b h1 => match b with
  | true => .ret true h1
  | false => g env h1
theorem fOr_eq (f g : BF) : fOr f g = fOr' f g := by funext env h; unfold fOr fOr'; simp only [bindR_eq] <;> rfl
def fNot' (f : BF) : BF := fun env h => bindR (f env h) fun b h1 => match b with
  | true => .ret false h1
  | false => .ret true h1
theorem fNot_eq (f : BF) : fNot f = fNot' f := by
  funext env h; unfold fNot fNot'; simp only [bindR_eq]; congr 1; funext b h1; cases b <;> rfl
def fAndV' (f g : EF) : EF := fun env h => bindR (f env h) fun b h1 => match b with
  | .bl true => g env h1
  | .bl false => .ret (.bl false) h1
  | _ => .fail
theorem fAndV_eq (f g : EF) : fAndV f g = fAndV' f g := by funext env h; unfold fAndV fAndV'; simp only [bindR_eq] <;> rfl
def fOrV' (f g : EF) : EF := fun env h => bindR (f env h) fun b h1 => match b with
  | .bl true => .ret (.bl true) h1
  | .bl false => g env h1
  | _ => .fail
theorem fOrV_eq (f g : EF) : fOrV f g = fOrV' f g := by funext env h; unfold fOrV fOrV'; simp only [bindR_eq] <;> rfl
def fNotV' (f : EF) : EF := fun env h => bindR (f env h) fun b h1 => match b with
  | .bl true => .ret (.bl false) h1
  | .bl false => .ret (.bl true) h1
  | _ => .fail
theorem fNotV_eq (f : EF) : fNotV f = fNotV' f := by
  funext env h; unfold fNotV fNotV'; simp only [bindR_eq]; congr 1; funext b h1
  cases b with
  | bl b => cases b <;> rfl
  | _ => rfl
def fIf' (t : BF) (f g : EF) : EF := fun env h => bindR (t env h) fun b h1 => match b with
  | true => f env h1
  | false => g env h1
theorem fIf_eq (t : BF) (f g : EF) : fIf t f g = fIf' t f g := by funext env h; unfold fIf fIf'; simp only [bindR_eq] <;> rfl
def fCons' (f : EF) (g : AF) : AF := fun env h => bindR (f env h) fun x h1 => bindR (g env h1) fun xs h2 => .ret (x :: xs) h2
theorem fCons_eq (f : EF) (g : AF) : fCons f g = fCons' f g := by funext env h; unfold fCons fCons'; simp only [bindR_eq]
def newL' (xs : List D) (h : Hs) : R D := lenR h fun n => snocR h (.lst xs) fun h1 => .ret (.ref n) h1
theorem newL_eq (xs : List D) (h : Hs) : newL xs h = newL' xs h := by unfold newL newL'; rw [lenR_eq, snocR_eq]
def fTup' (g : AF) : EF := fun env h => bindR (g env h) fun xs h1 => short xs (.ret (.tup xs) h1)
theorem fTup_eq (g : AF) : fTup g = fTup' g := by funext env h; unfold fTup fTup'; simp only [bindR_eq]
def fLst' (g : AF) : EF := fun env h => bindR (g env h) fun xs h1 => short xs (newL' xs h1)
theorem fLst_eq (g : AF) : fLst g = fLst' g := by funext env h; unfold fLst fLst'; simp only [bindR_eq, newL_eq]
def fCallL' (g : GL) (f : AF) : EF := fun env h => bindR (f env h) fun xs h1 => g xs h1
theorem fCallL_eq (g : GL) (f : AF) : fCallL g f = fCallL' g f := by funext env h; unfold fCallL fCallL'; simp only [bindR_eq]
def fCall' (g : FF) (f : AF) : EF := fun env h => bindR (f env h) fun xs h1 => g xs h1
theorem fCall_eq (g : FF) (f : AF) : fCall g f = fCall' g f := by funext env h; unfold fCall fCall'; simp only [bindR_eq]
def seqO (h : Hs) (d : D) : Option (List D) := match d with
  | .ref n => match nthR h n with
    | some (.lst xs) => some xs
    | _ => none
  | .kl xs => some xs
  | _ => none
theorem seqOf_eq (h : Hs) (d : D) : seqOf h d = seqO h d := by unfold seqOf seqO; simp only [nthR_eq] <;> rfl
/-- what two ints give -/
def gSubI' : G2 := fun x y h => match x, y with
  | .int i, .int j => retI (Int.sub i j) h
  | _, _ => .fail
theorem gSubI_eq : gSubI = gSubI' := by
  funext x y h
  cases x with
  | int i => cases y with
    | int j =>
      exact retI_eq _ _
    | _ => rfl
  | _ => rfl
def gMulI' : G2 := fun x y h => match x, y with
  | .int i, .int j => match or (w64 i) (w64 j) with
    | true => retI (Int.mul i j) h
    | false => .fail
  | _, _ => .fail
theorem gMulI_eq : gMulI = gMulI' := by
  funext x y h
  cases x with
  | int i => cases y with
    | int j =>
      show (match (w64 i || w64 j) with | true => R.ret _ h | false => R.fail) = (match (w64 i || w64 j) with | true => retI _ h | false => R.fail)
      split
      · exact retI_eq _ _
      · rfl
    | _ => rfl
  | _ => rfl
def gDivI' : G2 := fun x y h => match x, y with
  | .int i, .int j => match and (not (eqR j 0)) (Nat.ble (Nat.succ (Int.natAbs j)) 1073741824) with
    | true => retI (divR i j) h
    | false => .fail
  | _, _ => .fail
theorem gDivI_eq : gDivI = gDivI' := by
  funext x y h
  cases x with
  | int i => cases y with
    | int j =>
      show (match (!(j == (0 : Int)) && Nat.blt j.natAbs 1073741824) with | true => R.ret (.int (i.fdiv j)) h | false => R.fail) = (match (!(eqR j 0) && Nat.blt j.natAbs 1073741824) with | true => retI (divR i j) h | false => R.fail)
      rw [← eqR_eq]
      split
      · rw [← divR_eq]; exact retI_eq _ _
      · rfl
    | _ => rfl
  | _ => rfl
def gModI' : G2 := fun x y h => match x, y with
  | .int i, .int j => match eqR j 0 with
    | false => retI (modR i j) h
    | true => .fail
  | _, _ => .fail
theorem gModI_eq : gModI = gModI' := by
  funext x y h
  cases x with
  | int i => cases y with
    | int j =>
      show (match !(j == (0 : Int)) with | true => R.ret (.int (i.fmod j)) h | false => R.fail) = (match eqR j 0 with | false => retI (modR i j) h | true => R.fail)
      rw [← eqR_eq]
      cases (j == (0 : Int)) with
      | true => rfl
      | false => rw [← modR_eq]; exact retI_eq _ _
    | _ => rfl
  | _ => rfl
def gCmp' (f : Int → Int → Bool) : G2 := fun x y h => match x, y with
  | .int i, .int j => match f i j with
    | true => .ret (.bl true) h
    | false => .ret (.bl false) h
  | _, _ => .fail
theorem gCmp_eq {f g : Int → Int → Bool} (e : ∀ i j, f i j = g i j) : gB2 f = gCmp' g := by
  funext x y h
  cases x with
  | int i => cases y with
    | int j =>
      show R.ret (D.bl (f i j)) h = (match g i j with | true => R.ret (D.bl true) h | false => R.ret (D.bl false) h)
      rw [e]
      cases g i j <;> rfl
    | _ => rfl
  | _ => rfl
def gLt' : G2 := gCmp' ltR
def gLe' : G2 := gCmp' leR
def gGt' : G2 := gCmp' fun i j => ltR j i
def gGe' : G2 := gCmp' fun i j => leR j i
theorem gLt_eq : gLt = gLt' := gCmp_eq ltR_eq
theorem gLe_eq : gLe = gLe' := gCmp_eq leR_eq
theorem gGt_eq : gGt = gGt' := gCmp_eq fun i j => ltR_eq j i
theorem gGe_eq : gGe = gGe' := gCmp_eq fun i j => leR_eq j i
def gNeg' : G1 := fun x h => match x with
  | .int i => retI (Int.neg i) h
  | _ => .fail
theorem gNeg_eq : gNeg = gNeg' := by
  funext x h
  cases x with
  | int i => exact retI_eq _ _
  | _ => rfl
def gAdd' : G2 := fun x y h => match x, y with
  | .int i, .int j => retI (Int.add i j) h
  | .str a, .str b => match Nat.ble (a.length + b.length) line with
    | true => .ret (.str (a ++ b)) h
    | false => .fail
  | .ref n, .ref m => match nthR h n, nthR h m with
    | some (.lst xs), some (.lst ys) => match Nat.ble (xs.length + ys.length) line with
      | true => appR xs ys fun zs => newL' zs h
      | false => .fail
    | _, _ => .fail
  | .tup xs, .tup ys => match xs with
    | [] => .fail
    | _ :: _ => match Nat.ble (xs.length + ys.length) line with
      | true => appR xs ys fun zs => .ret (.tup zs) h
      | false => .fail
  | _, _ => .fail
theorem gAdd_eq : gAdd = gAdd' := by
  funext x y h
  cases x <;> cases y <;> first
    | rfl
    | exact retI_eq _ _
    | (simp only [gAdd, gAdd', nthR_eq, appR_eq, newL_eq] <;> rfl)
    | (simp only [gAdd, gAdd', appR_eq] <;> rfl)
def gAddI'' : G2 := fun x y h => match x, y with
  | .int i, .int j => retI (Int.add i j) h
  | _, _ => .fail
theorem gAddIp_eq : gAddI' = gAddI'' := by
  funext x y h
  cases x with
  | int i => cases y with
    | int j =>
      exact retI_eq _ _
    | _ => rfl
  | _ => rfl
/-- an index: from the front, or from behind -/
def atR {α : Type} (xs : List α) (i : Int) : Option α := Int.casesOn i (fun n => nthR xs n) fun n => nthR xs.reverse n
theorem atR_eq {α : Type} (xs : List α) (i : Int) : atI xs i = atR xs i := by
  unfold atI ixN
  cases i with
  | ofNat n =>
    show (if (0 : Int) ≤ (n : Int) then if (n : Int) < xs.length then some (n : Int).toNat else none else _).bind _ = nthR xs n
    rw [if_pos (by omega), ← nthR_eq]
    by_cases h : n < xs.length
    · rw [if_pos (by omega)]; rfl
    · rw [if_neg (by omega), List.getElem?_eq_none (by omega)]; rfl
  | negSucc n =>
    show (if (0 : Int) ≤ Int.negSucc n then _ else if -(xs.length : Int) ≤ Int.negSucc n then some (Int.negSucc n + xs.length).toNat else none).bind _ = nthR xs.reverse n
    rw [if_neg (by have := Int.negSucc_lt_zero n; omega), ← nthR_eq]
    by_cases h : n < xs.length
    · rw [if_pos (by omega)]
      show xs[(Int.negSucc n + xs.length).toNat]? = _
      rw [List.getElem?_reverse h]
      congr 1
      omega
    · rw [if_neg (by omega), List.getElem?_eq_none (by rw [List.length_reverse]; omega)]; rfl
def gIx' : G2 := fun x y h => match y with
  | .int i => match x with
    | .tup xs => match atR xs i with
      | some d => .ret d h
      | none => .fail
    | .str z => match Nat.ble z.length line with
      | true => match atI z.cps.toList i with
        | some c => .ret (.str ⟨#[c]⟩) h
        | none => .fail
      | false => .fail
    | _ => match seqO h x with
      | some xs => match atR xs i with
        | some d => .ret d h
        | none => .fail
      | none => .fail
  | _ => .fail
theorem gIx_eq : gIx = gIx' := by
  funext x y h; unfold gIx gIx'
  simp only [atR_eq, seqOf_eq] <;> rfl
def eqFlat' : D → D → Option Bool
  | .int i, .int j => match eqR i j with
    | true => some true
    | false => some false
  | x, y => eqFlat x y
theorem eqFlat_eq (x y : D) : eqFlat x y = eqFlat' x y := by
  unfold eqFlat'
  split
  · show some (_ == _) = _
    rw [eqR_eq]
    split <;> (rename_i e; rw [e])
  · rfl
def eqD' (h : Hs) (x y : D) : Option Bool := match eqFlat' x y with
  | some b => some b
  | none => eqD h x y
theorem eqD_eq (h : Hs) (x y : D) : eqD h x y = eqD' h x y := by
  unfold eqD'
  rw [← eqFlat_eq]
  split
  · rename_i b e; unfold eqD; rw [e]
  · rfl
def gEq' : G2 := fun x y h => match eqD' h x y with
  | some true => .ret (.bl true) h
  | some false => .ret (.bl false) h
  | none => .fail
theorem gEq_eq : gEq = gEq' := by
  funext x y h; unfold gEq gEq'; rw [eqD_eq]
  cases eqD' h x y with
  | none => rfl
  | some b => cases b <;> rfl
def gNe' : G2 := fun x y h => match eqD' h x y with
  | some true => .ret (.bl false) h
  | some false => .ret (.bl true) h
  | none => .fail
theorem gNe_eq : gNe = gNe' := by
  funext x y h; unfold gNe gNe'; rw [eqD_eq]
  cases eqD' h x y with
  | none => rfl
  | some b => cases b <;> rfl
/-! statements -/
def seqK' (g : SF) : Out → Hs → R Out := fun o h1 => Out.rec (motive := fun _ => R Out) (fun env1 => g env1 h1) (fun d => .ret (.rt d) h1) (fun e => .ret (.bk e) h1) (fun e => .ret (.ct e) h1) (fun e env => .ret (.ex e env) h1) o
theorem seqK_eq (g : SF) (o : Out) (h : Hs) : seqK g o h = seqK' g o h := by cases o <;> rfl
def sSeq' (f g : SF) : SF := fun env h => bindR (f env h) (seqK' g)
theorem sSeq_eq (f g : SF) : sSeq f g = sSeq' f g := by
  funext env h; unfold sSeq sSeq'; rw [bindR_eq]; congr 1; funext o h1; exact seqK_eq g o h1
def sExpr' (f : EF) : SF := fun env h => catchR (f env h) env fun _ h1 => .ret (.nx env) h1
theorem sExpr_eq (f : EF) : sExpr f = sExpr' f := by funext env h; unfold sExpr sExpr'; rw [catchR_eq]
def sRet' (f : EF) : SF := fun env h => catchR (f env h) env fun d h1 => .ret (.rt d) h1
theorem sRet_eq (f : EF) : sRet f = sRet' f := by funext env h; unfold sRet sRet'; rw [catchR_eq]
def sIf' (t : BF) (f g : SF) : SF := fun env h => catchR (t env h) env fun b h1 => match b with
  | true => f env h1
  | false => g env h1
theorem sIf_eq (t : BF) (f g : SF) : sIf t f g = sIf' t f g := by funext env h; unfold sIf sIf'; rw [catchR_eq] <;> rfl
def sSet' (f : EF) (i : Nat) : SF := fun env h => catchR (f env h) env fun d h1 => setR env i (some d) fun env1 => .ret (.nx env1) h1
theorem sSet_eq (f : EF) (i : Nat) : sSet f i = sSet' f i := by funext env h; unfold sSet sSet'; rw [catchR_eq]; simp only [setR_eq]
def gtN' (i : Nat) : GF := fun d env h => setR env i (some d) fun env1 => .ret env1 h
theorem gtN_eq (i : Nat) : gtN i = gtN' i := by funext d env h; unfold gtN gtN'; rw [setR_eq]
def sAsg' (f : EF) (g : GF) : SF := fun env h => catchR (f env h) env fun d h1 => catchR (g d env h1) env fun env1 h2 => .ret (.nx env1) h2
theorem sAsg_eq (f : EF) (g : GF) : sAsg f g = sAsg' f g := by funext env h; unfold sAsg sAsg'; simp only [catchR_eq]
def gtCons' (f : GF) (g : GsF) : GsF := fun ds env h => match ds with
  | d :: r => bindR (noxR (f d env h)) fun env1 h1 => g r env1 h1
  | _ => .fail
theorem gtCons_eq (f : GF) (g : GsF) : gtCons f g = gtCons' f g := by funext ds env h; unfold gtCons gtCons'; simp only [bindR_eq, noxR_eq] <;> rfl
def gtTup' (n : Nat) (g : GsF) : GF := fun d env h => match d with
  | .tup ds => match Nat.beq ds.length n with
    | true => noxR (g ds env h)
    | false => .fail
  | _ => .fail
theorem gtTup_eq (n : Nat) (g : GsF) : gtTup n g = gtTup' n g := by funext d env h; unfold gtTup gtTup'; simp only [noxR_eq, natBeq] <;> rfl
def gtLst' (n : Nat) (g : GsF) : GF := fun d env h => match seqO h d with
  | some ds => match Nat.beq ds.length n with
    | true => noxR (g ds env h)
    | false => .fail
  | none => .fail
theorem gtLst_eq (n : Nat) (g : GsF) : gtLst n g = gtLst' n g := by funext d env h; unfold gtLst gtLst'; simp only [noxR_eq, seqOf_eq, natBeq] <;> rfl
def ixR (n : Nat) (i : Int) : Option Nat := Int.casesOn i (fun k => match Nat.ble (Nat.succ k) n with | true => some k | false => none) fun _ => ixN n i
theorem ixR_eq (n : Nat) (i : Int) : ixN n i = ixR n i := by
  cases i with
  | ofNat k =>
    show _ = match Nat.ble (k + 1) n with | true => some k | false => none
    unfold ixN
    rw [if_pos (by simp), ble_dec]
    by_cases h : k < n
    · rw [if_pos (by simp; omega), decide_eq_true (by omega)]; rfl
    · rw [if_neg (by simp; omega), decide_eq_false (by omega)]
  | negSucc k => rfl
/-- an item put at a place, if it is there -/
def putR {α β : Type} (xs : List α) : Nat → α → (List α → R β) → R β := List.rec (motive := fun _ => Nat → α → (List α → R β) → R β) (fun _ _ _ => .fail) (fun x xs ih n y k => Nat.rec (k (y :: xs)) (fun m _ => ih m y fun r => k (x :: r)) n) xs
theorem putR_eq {α β : Type} : ∀ (xs : List α) (i : Nat) (y : α) (k : List α → R β), putR xs i y k = if i < xs.length then k (xs.set i y) else .fail
  | [], i, _, _ => by rw [if_neg (by simp)]; rfl
  | x :: xs, 0, _, _ => by rw [if_pos (by simp)]; rfl
  | x :: xs, i + 1, y, k => by
    show putR xs i y (fun r => k (x :: r)) = _
    rw [putR_eq xs i y]
    by_cases h : i < xs.length
    · rw [if_pos h, if_pos (by simp; omega)]; rfl
    · rw [if_neg h, if_neg (by simp; omega)]
def gSet' : D → D → D → Hs → R Unit := fun o i v h => match o, i with
  | .ref n, .int k => match nthR h n with
    | some (.lst xs) => match k with
      | .ofNat j => putR xs j v fun ys => setR h n (.lst ys) fun h1 => .ret () h1
      | .negSucc _ => match ixN xs.length k with
        | some j => setR xs j v fun ys => setR h n (.lst ys) fun h1 => .ret () h1
        | none => .fail
    | _ => .fail
  | _, _ => .fail
theorem gSet_eq : gSet = gSet' := by
  funext o i v h; unfold gSet gSet'
  simp only [nthR_eq]
  cases o <;> try rfl
  cases i <;> try rfl
  rename_i n k
  dsimp only
  cases nthR h n with
  | none => rfl
  | some a =>
    cases a <;> try rfl
    rename_i xs
    dsimp only
    cases k with
    | negSucc k => simp only [setR_eq] <;> rfl
    | ofNat j =>
      dsimp only
      rw [putR_eq]
      unfold ixN
      rw [if_pos (by simp)]
      by_cases hj : j < xs.length
      · rw [if_pos (by simp; omega), if_pos hj]; simp only [setR_eq] <;> rfl
      · rw [if_neg (by simp; omega), if_neg hj]
def gtSub' (g : D → D → D → Hs → R Unit) (fo fi : EF) : GF := fun d env h => bindR (fo env h) fun o h1 => bindR (fi env h1) fun i h2 => bindR (g o i d h2) fun _ h3 => .ret env h3
theorem gtSub_eq (g : D → D → D → Hs → R Unit) (fo fi : EF) : gtSub g fo fi = gtSub' g fo fi := by funext d env h; unfold gtSub gtSub'; simp only [bindR_eq]
def sPar' (i j : Nat) (fa : AF) : SF := fun env h => catchR (fa env h) env fun ds h1 => match ds with
  | [x, y] => setR env i (some x) fun env1 => setR env1 j (some y) fun env2 => .ret (.nx env2) h1
  | _ => .fail
theorem sPar_eq (i j : Nat) (fa : AF) : sPar i j fa = sPar' i j fa := by funext env h; unfold sPar sPar'; rw [catchR_eq]; simp only [setR_eq] <;> rfl
def sAug' (i : Nat) (g : G2) (f : EF) : SF := fun env h => match nthR env i with
  | some (some x) => catchR (f env h) env fun y h1 => catchR (g x y h1) env fun z h2 => setR env i (some z) fun env1 => .ret (.nx env1) h2
  | _ => .fail
theorem sAug_eq (i : Nat) (g : G2) (f : EF) : sAug i g f = sAug' i g f := by funext env h; unfold sAug sAug'; simp only [catchR_eq, nthR_eq, setR_eq] <;> rfl
def againK' (f : Env' → Hs → R Out) : Out → Hs → R Out := fun o h2 => Out.rec (motive := fun _ => R Out) (fun env1 => f env1 h2) (fun d => .ret (.rt d) h2) (fun env1 => .ret (.nx env1) h2) (fun env1 => f env1 h2) (fun e env1 => .ret (.ex e env1) h2) o
theorem againK_eq (f : Env' → Hs → R Out) (o : Out) (h : Hs) : againK f o h = againK' f o h := by cases o <;> rfl
def whileL' (t : BF) (b : SF) (n : Nat) : Env' → Hs → R Out := Nat.rec (motive := fun _ => Env' → Hs → R Out) (fun _ _ => .fail) (fun _ ih env h => catchR (t env h) env fun k h1 => match k with
    | true => bindR (b env h1) (againK' ih)
    | false => .ret (.nx env) h1) n
theorem whileL_eq (t : BF) (b : SF) : ∀ n, whileL t b n = whileL' t b n
  | 0 => rfl
  | n + 1 => by
    funext env h
    unfold whileL
    rw [catchR_eq, whileL_eq t b n]
    show catchR (t env h) env _ = catchR (t env h) env _
    congr 1; funext k h1
    cases k with
    | true =>
      show (b env h1).bind _ = bindR (b env h1) _
      rw [bindR_eq]; congr 1; funext o h2; exact againK_eq _ o h2
    | false => rfl
def sWhile' (n : Nat) (t : BF) (b : SF) : SF := fun env h => whileL' t b n env h
theorem sWhile_eq (n : Nat) (t : BF) (b : SF) : sWhile n t b = sWhile' n t b := by funext env h; unfold sWhile sWhile'; rw [whileL_eq]
def forL' (nxt : Nxt) (g : GF) (b : SF) (n : Nat) : Nat → Env' → Hs → R Out := Nat.rec (motive := fun _ => Nat → Env' → Hs → R Out) (fun _ _ _ => .fail) (fun _ ih i env h => match nxt i h with
    | none => .fail
    | some none => .ret (.nx env) h
    | some (some d) => catchR (g d env h) env fun env1 h1 => natR (Nat.succ i) fun i1 => bindR (b env1 h1) (againK' (ih i1))) n
theorem forL_eq (nxt : Nxt) (g : GF) (b : SF) : ∀ n, forL nxt g b n = forL' nxt g b n
  | 0 => rfl
  | n + 1 => by
    funext i env h
    unfold forL
    rw [forL_eq nxt g b n]
    show _ = (match nxt i h with
      | none => R.fail
      | some none => R.ret (Out.nx env) h
      | some (some d) => catchR (g d env h) env fun env1 h1 => natR (Nat.succ i) fun i1 => bindR (b env1 h1) (againK' (forL' nxt g b n i1)))
    generalize nxt i h = z
    match z with
    | none => rfl
    | some none => rfl
    | some (some d) =>
      dsimp only
      rw [catchR_eq]
      congr 1; funext env1 h1
      rw [natR_eq, bindR_eq]; congr 1; funext o h2; exact againK_eq _ o h2
def sFor' (n : Nat) (it : IF) (g : GF) (b : SF) : SF := fun env h => catchR (it env h) env fun nxt h1 => forL' nxt g b n 0 env h1
theorem sFor_eq (n : Nat) (it : IF) (g : GF) (b : SF) : sFor n it g b = sFor' n it g b := by funext env h; unfold sFor sFor'; rw [catchR_eq]; simp only [forL_eq]
/-! what is walked -/
def nxL' (n : D) : Nxt := fun i h => match seqO h n with
  | some xs => match nthR xs i with
    | some d => some (some d)
    | none => some none
  | none => none
theorem nxL_eq (n : D) : nxL n = nxL' n := by funext i h; unfold nxL nxL'; simp only [seqOf_eq, nthR_eq] <;> rfl
def nxT' (xs : List D) : Nxt := fun i _ => match nthR xs i with
  | some d => some (some d)
  | none => some none
theorem nxT_eq (xs : List D) : nxT xs = nxT' xs := by funext i h; unfold nxT nxT'; simp only [nthR_eq] <;> rfl
def fIter' (f : EF) : IF := fun env h => bindR (f env h) fun d h1 => match d with
  | .tup xs => .ret (nxT' xs) h1
  | _ => match seqO h1 d with
    | some _ => .ret (nxL' d) h1
    | none => .fail
theorem fIter_eq (f : EF) : fIter f = fIter' f := by funext env h; unfold fIter fIter'; simp only [bindR_eq, seqOf_eq, nxT_eq, nxL_eq] <;> rfl
def nxR' (lo : Int) (n : Nat) : Nxt := fun i _ => match Nat.ble (Nat.succ i) n with
  | true => intR (Int.add lo (Int.ofNat i)) fun j => some (some (.int j))
  | false => some none
theorem nxR_eq (lo : Int) (n : Nat) : nxR lo n = nxR' lo n := by funext i h; unfold nxR nxR'; simp only [intR_eq] <;> rfl
def fRng1' (f : AF) : IF := fun env h => bindR (f env h) fun ds h1 => match ds with
  | [.int j] => match i62 j with
    | true => natR j.toNat fun n => .ret (nxR' 0 n) h1
    | false => .fail
  | _ => .fail
theorem fRng1_eq (f : AF) : fRng1 f = fRng1' f := by funext env h; unfold fRng1 fRng1'; simp only [bindR_eq, natR_eq, nxR_eq] <;> rfl
def fRng2' (f : AF) : IF := fun env h => bindR (f env h) fun ds h1 => match ds with
  | [.int i, .int j] => match and (i62 i) (i62 j) with
    | true => natR (Int.sub j i).toNat fun n => .ret (nxR' i n) h1
    | false => .fail
  | _ => .fail
theorem fRng2_eq (f : AF) : fRng2 f = fRng2' f := by funext env h; unfold fRng2 fRng2'; simp only [bindR_eq, natR_eq, nxR_eq] <;> rfl
def nxC' (lo c : Int) (n : Nat) : Nxt := fun i _ => match Nat.ble (Nat.succ i) n with
  | true => intR (Int.add lo (Int.mul (Int.ofNat i) c)) fun j => some (some (.int j))
  | false => some none
theorem nxC_eq (lo c : Int) (n : Nat) : nxC lo c n = nxC' lo c n := by funext i h; unfold nxC nxC'; simp only [intR_eq] <;> rfl
def fRng3' (f : AF) : IF := fun env h => bindR (f env h) fun ds h1 => match ds with
  | [.int i, .int j, .int c] => match i62 i && i62 j && (c == -1) with
    | true => natR (i - j).toNat fun n => .ret (nxC' i (-1) n) h1
    | false => match !(c == 0) && Nat.blt c.natAbs 1073741824 && Builtin.Range.small i j c && decide (0 ≤ Builtin.Range.rangeSize i j c) with
      | true => natR (Builtin.Range.rangeSize i j c).toNat fun n => .ret (nxC' i c n) h1
      | false => .fail
  | _ => .fail
theorem fRng3_eq (f : AF) : fRng3 f = fRng3' f := by funext env h; unfold fRng3 fRng3'; simp only [bindR_eq, natR_eq, nxC_eq] <;> rfl
def nxE' (n : D) : Nxt := fun i h => match seqO h n with
  | some xs => match nthR xs i with
    | some d => some (some (.tup [.int (Int.ofNat i), d]))
    | none => some none
  | none => none
theorem nxE_eq (n : D) : nxE n = nxE' n := by funext i h; unfold nxE nxE'; simp only [seqOf_eq, nthR_eq] <;> rfl
def fEnum' (f : EF) : IF := fun env h => bindR (f env h) fun d h1 => match seqO h1 d with
  | some _ => .ret (nxE' d) h1
  | none => .fail
theorem fEnum_eq (f : EF) : fEnum f = fEnum' f := by funext env h; unfold fEnum fEnum'; simp only [bindR_eq, seqOf_eq, nxE_eq] <;> rfl
def revR {α β : Type} (xs : List α) : List α → (List α → β) → β := List.rec (motive := fun _ => List α → (List α → β) → β) (fun acc k => k acc) (fun x _ ih acc k => ih (x :: acc) k) xs
theorem revR_eq {α β : Type} : ∀ (xs acc : List α) (k : List α → β), revR xs acc k = k (xs.reverse ++ acc)
  | [], _, _ => rfl
  | x :: xs, acc, k => by
    show revR xs (x :: acc) k = _
    rw [revR_eq xs, List.reverse_cons, List.append_assoc]; rfl
def lcL' (nxt : Nxt) (g : GF) (t : BF) (f : EF) (env : Env') (n : Nat) : Nat → List D → Hs → R D := Nat.rec (motive := fun _ => Nat → List D → Hs → R D) (fun _ _ _ => .fail) (fun _ ih i acc h => match nxt i h with
    | none => .fail
    | some none => revR acc [] fun xs => newL' xs h
    | some (some d) => bindR (noxR (g d env h)) fun env1 h1 => bindR (noxR (t env1 h1)) fun b h2 => natR (Nat.succ i) fun i1 => match b with
      | true => bindR (noxR (f env1 h2)) fun y h3 => match Nat.ble i1 line with
        | true => ih i1 (y :: acc) h3
        | false => .fail
      | false => ih i1 acc h2) n
theorem lcL_eq (nxt : Nxt) (g : GF) (t : BF) (f : EF) (env : Env') : ∀ n, lcL nxt g t f env n = lcL' nxt g t f env n
  | 0 => rfl
  | n + 1 => by
    funext i acc h
    unfold lcL
    rw [lcL_eq nxt g t f env n]
    show _ = (match nxt i h with
      | none => R.fail
      | some none => revR acc [] fun xs => newL' xs h
      | some (some d) => bindR (noxR (g d env h)) fun env1 h1 => bindR (noxR (t env1 h1)) fun b h2 => natR (Nat.succ i) fun i1 => match b with
        | true => bindR (noxR (f env1 h2)) fun y h3 => match Nat.ble i1 line with
          | true => lcL' nxt g t f env n i1 (y :: acc) h3
          | false => .fail
        | false => lcL' nxt g t f env n i1 acc h2)
    generalize nxt i h = z
    match z with
    | none => rfl
    | some none => simp only [revR_eq, List.append_nil, newL_eq]
    | some (some d) =>
      simp only [bindR_eq, noxR_eq, natR_eq] <;> rfl
def fLc' (n : Nat) (vs : List Nat) (it : IF) (g : GF) (t : BF) (f : EF) : EF := fun env h => bindR (it env h) fun nxt h1 => spine (wipeE env vs) fun env1 => lcL' nxt g t f env1 n 0 [] h1
theorem fLc_eq (n : Nat) (vs : List Nat) (it : IF) (g : GF) (t : BF) (f : EF) : fLc n vs it g t f = fLc' n vs it g t f := by
  funext env h; unfold fLc fLc'; simp only [bindR_eq, spine_eq, lcL_eq]
def mkF' (np n : Nat) (b : SF) : FF := fun ds h => match Nat.beq ds.length np with
  | true => spine (startE n ds) fun env => bindR (noxR (b env h)) fun o h1 => match o with
    | .nx _ => .ret .non h1
    | .rt d => .ret d h1
    | .ex e _ => .exc e h1
    | _ => .fail
  | false => .fail
theorem mkF_eq (np n : Nat) (b : SF) : mkF np n b = mkF' np n b := by funext ds h; unfold mkF mkF'; simp only [bindR_eq, noxR_eq, spine_eq, natBeq] <;> rfl
/-! built-ins -/
def gMax2' : GL := fun xs h => match gMax2 xs h with
  | .ret (.int i) h1 => retI i h1
  | r => r
theorem gMax2_eq : gMax2 = gMax2' := by
  funext xs h; unfold gMax2'
  split
  · rename_i i h1 e; rw [e]; exact retI_eq _ _
  · rfl
def gMin2' : GL := fun xs h => match gMin2 xs h with
  | .ret (.int i) h1 => retI i h1
  | r => r
theorem gMin2_eq : gMin2 = gMin2' := by
  funext xs h; unfold gMin2'
  split
  · rename_i i h1 e; rw [e]; exact retI_eq _ _
  · rfl
def gAbs' : GL := fun xs h => match gAbs xs h with
  | .ret (.int i) h1 => retI i h1
  | r => r
theorem gAbs_eq : gAbs = gAbs' := by
  funext xs h; unfold gAbs'
  split
  · rename_i i h1 e; rw [e]; exact retI_eq _ _
  · rfl
def gInt' : GL := fun xs h => match gInt xs h with
  | .ret (.int i) h1 => retI i h1
  | r => r
theorem gInt_eq : gInt = gInt' := by
  funext xs h; unfold gInt'
  split
  · rename_i i h1 e; rw [e]; exact retI_eq _ _
  · rfl
def gSum' : GL := fun xs h => match gSum xs h with
  | .ret (.int i) h1 => retI i h1
  | r => r
theorem gSum_eq : gSum = gSum' := by
  funext xs h; unfold gSum'
  split
  · rename_i i h1 e; rw [e]; exact retI_eq _ _
  · rfl
def gIn' (neg : Bool) : G2 := fun x y h => match gIn neg x y h with
  | .ret (.bl true) h1 => .ret (.bl true) h1
  | .ret (.bl false) h1 => .ret (.bl false) h1
  | r => r
theorem gIn_eq (neg : Bool) : gIn neg = gIn' neg := by
  funext x y h; unfold gIn'
  split
  · rename_i e; rw [e]
  · rename_i e; rw [e]
  · rfl
def gAny' : GL := fun xs h => match gAny xs h with
  | .ret (.bl true) h1 => .ret (.bl true) h1
  | .ret (.bl false) h1 => .ret (.bl false) h1
  | r => r
theorem gAny_eq : gAny = gAny' := by
  funext xs h; unfold gAny'
  split
  · rename_i e; rw [e]
  · rename_i e; rw [e]
  · rfl
def gAll' : GL := fun xs h => match gAll xs h with
  | .ret (.bl true) h1 => .ret (.bl true) h1
  | .ret (.bl false) h1 => .ret (.bl false) h1
  | r => r
theorem gAll_eq : gAll = gAll' := by
  funext xs h; unfold gAll'
  split
  · rename_i e; rw [e]
  · rename_i e; rw [e]
  · rfl
def gLen' : GL := fun xs h => match xs with
  | [.tup ys] => lenR ys fun n => .ret (.int (Int.ofNat n)) h
  | [.str z] => match Nat.ble z.length line with
    | true => .ret (.int z.length) h
    | false => .fail
  | [x] => match seqO h x with
    | some ys => lenR ys fun n => .ret (.int (Int.ofNat n)) h
    | none => .fail
  | _ => .fail
theorem gLen_eq : gLen = gLen' := by funext xs h; unfold gLen gLen'; simp only [lenR_eq, seqOf_eq] <;> rfl
def gTuple' : GL := fun xs h => match xs with
  | [.tup ys] => .ret (.tup ys) h
  | [x] => match seqO h x with
    | some ys => .ret (.tup ys) h
    | none => .fail
  | _ => .fail
theorem gTuple_eq : gTuple = gTuple' := by funext xs h; unfold gTuple gTuple'; simp only [seqOf_eq] <;> rfl
def gList' : GL := fun xs h => match xs with
  | [.tup ys] => newL' ys h
  | [x] => match seqO h x with
    | some ys => newL' ys h
    | none => .fail
  | _ => .fail
theorem gList_eq : gList = gList' := by funext xs h; unfold gList gList'; simp only [seqOf_eq, newL_eq] <;> rfl
def gAppend' : D → GL := fun o xs h => match o, xs with
  | .ref n, [x] => match nthR h n with
    | some (.lst ys) => match Nat.ble (Nat.succ ys.length) line with
      | true => snocR ys x fun zs => setR h n (.lst zs) fun h1 => .ret .non h1
      | false => .fail
    | _ => .fail
  | _, _ => .fail
theorem gAppend_eq : gAppend = gAppend' := by funext o xs h; unfold gAppend gAppend'; simp only [nthR_eq, snocR_eq, setR_eq] <;> rfl
def gExtend' : D → GL := fun o xs h => match o, xs with
  | .ref n, [.ref m] => match nthR h n, nthR h m with
    | some (.lst ys), some (.lst zs) => match Nat.ble (ys.length + zs.length) line with
      | true => appR ys zs fun ws => setR h n (.lst ws) fun h1 => .ret .non h1
      | false => .fail
    | _, _ => .fail
  | _, _ => .fail
theorem gExtend_eq : gExtend = gExtend' := by funext o xs h; unfold gExtend gExtend'; simp only [nthR_eq, appR_eq, setR_eq] <;> rfl
def fMeth' (k : Nat) (g : D → GL) (fo : EF) (fa : AF) : EF := fun env h => bindR (fo env h) fun o h1 => match recv k h1 o with
  | true => bindR (fa env h1) fun xs h2 => g o xs h2
  | false => .fail
theorem fMeth_eq (k : Nat) (g : D → GL) (fo : EF) (fa : AF) : fMeth k g fo fa = fMeth' k g fo fa := by funext env h; unfold fMeth fMeth'; simp only [bindR_eq] <;> rfl
def fMeth0' (k : Nat) (g : D → GL) (fo : EF) : EF := fun env h => bindR (fo env h) fun o h1 => match recv k h1 o with
  | true => g o [] h1
  | false => .fail
theorem fMeth0_eq (k : Nat) (g : D → GL) (fo : EF) : fMeth0 k g fo = fMeth0' k g fo := by funext env h; unfold fMeth0 fMeth0'; simp only [bindR_eq] <;> rfl
def fIs' (k : Nat) (f : EF) : EF := fun env h => bindR (f env h) fun x h1 => match tyC h1 x with
  | some a => match kitC a k with
    | true => .ret (.bl true) h1
    | false => .ret (.bl false) h1
  | none => .fail
theorem fIs_eq (k : Nat) (f : EF) : fIs k f = fIs' k f := by
  funext env h; unfold fIs fIs'; simp only [bindR_eq]; congr 1; funext x h1
  cases tyC h1 x with
  | none => rfl
  | some a =>
    dsimp only
    cases kitC a k <;> rfl
def fPart' (f : EF) : OF := fun env h => bindR (f env h) fun x h1 => match x with
  | .int i => .ret (some i) h1
  | _ => .fail
theorem fPart_eq (f : EF) : fPart f = fPart' f := by funext env h; unfold fPart fPart'; simp only [bindR_eq] <;> rfl
def gSl' (x : D) (lo hi : Option Int) : Hs → R D := fun h => match x with
  | .tup xs => match (HT.sIx xs.length 0 lo == 0) && (HT.sIx xs.length xs.length hi == xs.length) with
    | true => .fail
    | false => spine (cutD xs lo hi) fun ys => .ret (.tup ys) h
  | .str z => match Nat.ble z.length line with
    | true => .ret (.str (cutS z lo hi)) h
    | false => .fail
  | _ => match seqO h x with
    | some xs => spine (cutD xs lo hi) fun ys => newL' ys h
    | none => .fail
theorem gSl_eq (x : D) (lo hi : Option Int) : gSl x lo hi = gSl' x lo hi := by funext h; unfold gSl gSl'; simp only [spine_eq, seqOf_eq, newL_eq] <;> rfl
def fSl' (f : EF) (lo hi : OF) : EF := fun env h => bindR (f env h) fun x h1 => bindR (lo env h1) fun l h2 => bindR (hi env h2) fun u h3 => gSl' x l u h3
theorem fSl_eq (f : EF) (lo hi : OF) : fSl f lo hi = fSl' f lo hi := by funext env h; unfold fSl fSl'; simp only [bindR_eq, gSl_eq]
def sForget' (i : Nat) (f : SF) : SF := sForget i f
def lawR' (n i : Nat) (rest : SF) : R D := bindR (noxR (rest (((List.replicate n none).set i (some (.ref 1))).set 0 none) [.junk, .st])) fun o h1 => match o with
    | .nx _ => .ret .non h1
    | .rt d => .ret d h1
    | .ex e _ => .exc e h1
    | _ => .fail
theorem lawR_eq (n i : Nat) (rest : SF) : lawR n i rest = lawR' n i rest := by unfold lawR lawR'; simp only [bindR_eq, noxR_eq] <;> rfl
end
end Z

set_option Elab.async false
set_option linter.all false
set_option maxRecDepth 100000
set_option maxHeartbeats 4000000
namespace KG
open PySem PySem.Spec PyProof.Rows L2 Z
def tab (K : PySem.W.Frag) : Tab := ⟨K, fun _ => 0, fun _ => []⟩
def topS (i : Nat) : Stmt := PySem.Challenge.pw_classtable_k02_cyclotomic_polynomials.main.body.getD i (.Pass ⟨0, 0, 0, 0⟩)
section
variable {P : Program} {w : World} {mg : Str → Option Value} {base : Heap} {T : Tab}
abbrev s_prime_powers : Stmt := topS 1
abbrev N_prime_powers : List Str := ["n", "found", "p", "k"]
theorem sc_prime_powers : FnScope N_prime_powers ["n"] (defScope s_prime_powers) := ⟨rfl, rfl, rfl, by decide +kernel, rfl, by decide +kernel, by decide +kernel⟩
def b_prime_powers : SF := sSeq (sSet (fLst (fNil)) 1) (sSeq (sSet (fC (.int 2)) 2) (sSeq (sWhile 1000000 (fTest (fBin gLe (fBin gMulI (fVar 2) (fVar 2)) (fVar 0))) (sSeq (sSet (fC (.int 0)) 3) (sSeq (sWhile 1000000 (fTest (fBin gEq (fBin gModI (fVar 0) (fVar 2)) (fC (.int 0)))) (sSeq (sSet (fBin gDivI (fVar 0) (fVar 2)) 0) (sSet (fBin gAdd (fVar 3) (fC (.int 1))) 3))) (sSeq (sIf (fTest (fBin gGt (fVar 3) (fC (.int 0)))) (sExpr (fMeth 5 gAppend (fVar 1) (fCons (fTup (fCons (fVar 2) (fCons (fVar 3) (fNil)))) (fNil)))) (sNil)) (sSet (fBin gAdd (fVar 2) (fC (.int 1))) 2))))) (sSeq (sIf (fTest (fBin gGt (fVar 0) (fC (.int 1)))) (sExpr (fMeth 5 gAppend (fVar 1) (fCons (fTup (fCons (fVar 0) (fCons (fC (.int 1)) (fNil)))) (fNil)))) (sNil)) (sRet (fCallL gTuple (fCons (fVar 1) (fNil)))))))
theorem sv_prime_powers (m_tuple : mg "tuple" = none) : SsV (cx0 P w mg base T N_prime_powers (defScope s_prime_powers) 0) (defBody s_prime_powers) b_prime_powers := by
  have nd : N_prime_powers.Nodup := sc_prime_powers.nd
  exact (sv_cons (sv_set 1 nd rfl (by first | exact Or.inl rfl | exact Or.inr ⟨rfl, rfl⟩) (ev_lst av_nil) (fun _ => rfl)) (sv_cons (sv_set 2 nd rfl (by first | exact Or.inl rfl | exact Or.inr ⟨rfl, rfl⟩) ev_int (fun _ => rfl)) (sv_cons (sv_while 1000000 (tv_le (ev_mul (ev_var 2 rfl (by first | exact Or.inl rfl | exact Or.inr (Or.inl rfl) | exact Or.inr (Or.inr rfl)) (by decide) (by decide)) (ev_var 2 rfl (by first | exact Or.inl rfl | exact Or.inr (Or.inl rfl) | exact Or.inr (Or.inr rfl)) (by decide) (by decide))) (ev_var 0 rfl (by first | exact Or.inl rfl | exact Or.inr (Or.inl rfl) | exact Or.inr (Or.inr rfl)) (by decide) (by decide))) (sv_cons (sv_set 3 nd rfl (by first | exact Or.inl rfl | exact Or.inr ⟨rfl, rfl⟩) ev_int (fun _ => rfl)) (sv_cons (sv_while 1000000 (tv_eq (ev_mod (ev_var 0 rfl (by first | exact Or.inl rfl | exact Or.inr (Or.inl rfl) | exact Or.inr (Or.inr rfl)) (by decide) (by decide)) (ev_var 2 rfl (by first | exact Or.inl rfl | exact Or.inr (Or.inl rfl) | exact Or.inr (Or.inr rfl)) (by decide) (by decide))) ev_int) (sv_cons (sv_set 0 nd rfl (by first | exact Or.inl rfl | exact Or.inr ⟨rfl, rfl⟩) (ev_div (ev_var 0 rfl (by first | exact Or.inl rfl | exact Or.inr (Or.inl rfl) | exact Or.inr (Or.inr rfl)) (by decide) (by decide)) (ev_var 2 rfl (by first | exact Or.inl rfl | exact Or.inr (Or.inl rfl) | exact Or.inr (Or.inr rfl)) (by decide) (by decide))) (fun _ => rfl)) (sv_one (sv_set 3 nd rfl (by first | exact Or.inl rfl | exact Or.inr ⟨rfl, rfl⟩) (ev_add (ev_var 3 rfl (by first | exact Or.inl rfl | exact Or.inr (Or.inl rfl) | exact Or.inr (Or.inr rfl)) (by decide) (by decide)) ev_int) (fun _ => rfl))))) (sv_cons (sv_if (tv_gt (ev_var 3 rfl (by first | exact Or.inl rfl | exact Or.inr (Or.inl rfl) | exact Or.inr (Or.inr rfl)) (by decide) (by decide)) ev_int) (sv_one (sv_expr (ev_append (ev_var 1 rfl (by first | exact Or.inl rfl | exact Or.inr (Or.inl rfl) | exact Or.inr (Or.inr rfl)) (by decide) (by decide)) (av_cons (ev_tup (av_cons (ev_var 2 rfl (by first | exact Or.inl rfl | exact Or.inr (Or.inl rfl) | exact Or.inr (Or.inr rfl)) (by decide) (by decide)) (av_cons (ev_var 3 rfl (by first | exact Or.inl rfl | exact Or.inr (Or.inl rfl) | exact Or.inr (Or.inr rfl)) (by decide) (by decide)) av_nil (fun _ => rfl)) (fun _ => rfl))) av_nil (fun _ => rfl)) (fun _ => rfl) (fun _ => rfl) rfl (fun _ => rfl) (fun _ => rfl)) (fun _ => rfl))) sv_nil) (sv_one (sv_set 2 nd rfl (by first | exact Or.inl rfl | exact Or.inr ⟨rfl, rfl⟩) (ev_add (ev_var 2 rfl (by first | exact Or.inl rfl | exact Or.inr (Or.inl rfl) | exact Or.inr (Or.inr rfl)) (by decide) (by decide)) ev_int) (fun _ => rfl))))))) (sv_cons (sv_if (tv_gt (ev_var 0 rfl (by first | exact Or.inl rfl | exact Or.inr (Or.inl rfl) | exact Or.inr (Or.inr rfl)) (by decide) (by decide)) ev_int) (sv_one (sv_expr (ev_append (ev_var 1 rfl (by first | exact Or.inl rfl | exact Or.inr (Or.inl rfl) | exact Or.inr (Or.inr rfl)) (by decide) (by decide)) (av_cons (ev_tup (av_cons (ev_var 0 rfl (by first | exact Or.inl rfl | exact Or.inr (Or.inl rfl) | exact Or.inr (Or.inr rfl)) (by decide) (by decide)) (av_cons ev_int av_nil (fun _ => rfl)) (fun _ => rfl))) av_nil (fun _ => rfl)) (fun _ => rfl) (fun _ => rfl) rfl (fun _ => rfl) (fun _ => rfl)) (fun _ => rfl))) sv_nil) (sv_one (sv_ret (ev_tuple rfl m_tuple (av_cons (ev_var 1 rfl (by first | exact Or.inl rfl | exact Or.inr (Or.inl rfl) | exact Or.inr (Or.inr rfl)) (by decide) (by decide)) av_nil (fun _ => rfl)) (fun _ => rfl) (fun _ => rfl))))))))
def F_prime_powers : FF := mkF 1 4 b_prime_powers
abbrev s_spread : Stmt := topS 3
abbrev N_spread : List Str := ["poly", "p", "found", "k", "_"]
theorem sc_spread : FnScope N_spread ["poly", "p"] (defScope s_spread) := ⟨rfl, rfl, rfl, by decide +kernel, rfl, by decide +kernel, by decide +kernel⟩
def b_spread : SF := sSeq (sSet (fLc 1000000 [4] (fRng1 (fCons (fBin gAdd (fBin gMulI (fBin gSubI (fCallL gLen (fCons (fVar 0) (fNil))) (fC (.int 1))) (fVar 1)) (fC (.int 1))) (fNil))) (gtN 4) (bYes) (fC (.int 0))) 2) (sSeq (sFor 1000000 (fRng1 (fCons (fCallL gLen (fCons (fVar 0) (fNil))) (fNil))) (gtN 3) (sAsg (fBin gIx (fVar 0) (fVar 3)) (gtSub gSet (fVar 2) (fBin gMulI (fVar 3) (fVar 1))))) (sRet (fVar 2)))
theorem sv_spread (m_len : mg "len" = none) (m_range : mg "range" = none) : SsV (cx0 P w mg base T N_spread (defScope s_spread) 0) (defBody s_spread) b_spread := by
  have nd : N_spread.Nodup := sc_spread.nd
  exact (sv_cons (sv_setLc 1000000 2 (own := [("_", 4)]) rfl nd rfl rfl rfl rfl rfl (by decide +kernel) (blkOk_by rfl) (by decide) (iv_rng1 rfl m_range (av_cons (ev_add (ev_mul (ev_sub (ev_len rfl m_len (av_cons (ev_var 0 rfl (by first | exact Or.inl rfl | exact Or.inr (Or.inl rfl) | exact Or.inr (Or.inr rfl)) (by decide) (by decide)) av_nil (fun _ => rfl)) (fun _ => rfl) (fun _ => rfl)) ev_int) (ev_var 1 rfl (by first | exact Or.inl rfl | exact Or.inr (Or.inl rfl) | exact Or.inr (Or.inr rfl)) (by decide) (by decide))) ev_int) av_nil (fun _ => rfl)) (fun _ => rfl)) (gv_name 4 nd rfl (by first | exact Or.inl rfl | exact Or.inr ⟨rfl, rfl⟩)) bsv_nil ev_int (fun _ _ => rfl)) (sv_cons (sv_for 1000000 rfl (iv_rng1 rfl m_range (av_cons (ev_len rfl m_len (av_cons (ev_var 0 rfl (by first | exact Or.inl rfl | exact Or.inr (Or.inl rfl) | exact Or.inr (Or.inr rfl)) (by decide) (by decide)) av_nil (fun _ => rfl)) (fun _ => rfl) (fun _ => rfl)) av_nil (fun _ => rfl)) (fun _ => rfl)) (gv_name 3 nd rfl (by first | exact Or.inl rfl | exact Or.inr ⟨rfl, rfl⟩)) (sv_one (sv_asg (ev_ix (ev_var 0 rfl (by first | exact Or.inl rfl | exact Or.inr (Or.inl rfl) | exact Or.inr (Or.inr rfl)) (by decide) (by decide)) (ev_var 3 rfl (by first | exact Or.inl rfl | exact Or.inr (Or.inl rfl) | exact Or.inr (Or.inr rfl)) (by decide) (by decide)) (fun _ _ => rfl)) (gv_sub (ev_var 2 rfl (by first | exact Or.inl rfl | exact Or.inr (Or.inl rfl) | exact Or.inr (Or.inr rfl)) (by decide) (by decide)) (ev_mul (ev_var 3 rfl (by first | exact Or.inl rfl | exact Or.inr (Or.inl rfl) | exact Or.inr (Or.inr rfl)) (by decide) (by decide)) (ev_var 1 rfl (by first | exact Or.inl rfl | exact Or.inr (Or.inl rfl) | exact Or.inr (Or.inr rfl)) (by decide) (by decide))) (fun _ _ => set_list) lk_set (fun _ _ => rfl)) (fun _ => rfl) (fun _ => rfl) (fun _ => rfl))) (fun _ _ => rfl)) (sv_one (sv_ret (ev_var 2 rfl (by first | exact Or.inl rfl | exact Or.inr (Or.inl rfl) | exact Or.inr (Or.inr rfl)) (by decide) (by decide))))))
def F_spread : FF := mkF 2 5 b_spread
abbrev s_divided : Stmt := topS 4
abbrev N_divided : List Str := ["poly", "by", "rest", "size", "quotient", "k", "c", "j", "_"]
theorem sc_divided : FnScope N_divided ["poly", "by"] (defScope s_divided) := ⟨rfl, rfl, rfl, by decide +kernel, rfl, by decide +kernel, by decide +kernel⟩
def b_divided : SF := sSeq (sSet (fCallL gList (fCons (fVar 0) (fNil))) 2) (sSeq (sSet (fBin gSubI (fCallL gLen (fCons (fVar 1) (fNil))) (fC (.int 1))) 3) (sSeq (sSet (fLc 1000000 [8] (fRng1 (fCons (fCallL gMax2 (fCons (fBin gSubI (fCallL gLen (fCons (fVar 2) (fNil))) (fVar 3)) (fCons (fC (.int 0)) (fNil)))) (fNil))) (gtN 8) (bYes) (fC (.int 0))) 4) (sSeq (sFor 1000000 (fRng3 (fCons (fBin gSubI (fCallL gLen (fCons (fVar 4) (fNil))) (fC (.int 1))) (fCons (fUn gNeg (fC (.int 1))) (fCons (fUn gNeg (fC (.int 1))) (fNil))))) (gtN 5) (sSeq (sSet (fBin gIx (fVar 2) (fBin gAdd (fVar 5) (fVar 3))) 6) (sSeq (sAsg (fVar 6) (gtSub gSet (fVar 4) (fVar 5))) (sIf (fTest (fBin gNe (fVar 6) (fC (.int 0)))) (sFor 1000000 (fRng1 (fCons (fBin gAdd (fVar 3) (fC (.int 1))) (fNil))) (gtN 7) (sAsg (fBin gSubI (fBin gIx (fVar 2) (fBin gAdd (fVar 5) (fVar 7))) (fBin gMulI (fVar 6) (fBin gIx (fVar 1) (fVar 7)))) (gtSub gSet (fVar 2) (fBin gAdd (fVar 5) (fVar 7))))) (sNil))))) (sRet (fTup (fCons (fVar 4) (fCons (fSl (fVar 2) (fNoP) (fPart (fVar 3))) (fNil))))))))
theorem sv_divided (m_len : mg "len" = none) (m_list : mg "list" = none) (m_max : mg "max" = none) (m_range : mg "range" = none) : SsV (cx0 P w mg base T N_divided (defScope s_divided) 0) (defBody s_divided) b_divided := by
  have nd : N_divided.Nodup := sc_divided.nd
  exact (sv_cons (sv_set 2 nd rfl (by first | exact Or.inl rfl | exact Or.inr ⟨rfl, rfl⟩) (ev_list rfl m_list (av_cons (ev_var 0 rfl (by first | exact Or.inl rfl | exact Or.inr (Or.inl rfl) | exact Or.inr (Or.inr rfl)) (by decide) (by decide)) av_nil (fun _ => rfl)) (fun _ => rfl) (fun _ => rfl)) (fun _ => rfl)) (sv_cons (sv_set 3 nd rfl (by first | exact Or.inl rfl | exact Or.inr ⟨rfl, rfl⟩) (ev_sub (ev_len rfl m_len (av_cons (ev_var 1 rfl (by first | exact Or.inl rfl | exact Or.inr (Or.inl rfl) | exact Or.inr (Or.inr rfl)) (by decide) (by decide)) av_nil (fun _ => rfl)) (fun _ => rfl) (fun _ => rfl)) ev_int) (fun _ => rfl)) (sv_cons (sv_setLc 1000000 4 (own := [("_", 8)]) rfl nd rfl rfl rfl rfl rfl (by decide +kernel) (blkOk_by rfl) (by decide) (iv_rng1 rfl m_range (av_cons (ev_max2 rfl rfl m_max (av_cons (ev_sub (ev_len rfl m_len (av_cons (ev_var 2 rfl (by first | exact Or.inl rfl | exact Or.inr (Or.inl rfl) | exact Or.inr (Or.inr rfl)) (by decide) (by decide)) av_nil (fun _ => rfl)) (fun _ => rfl) (fun _ => rfl)) (ev_var 3 rfl (by first | exact Or.inl rfl | exact Or.inr (Or.inl rfl) | exact Or.inr (Or.inr rfl)) (by decide) (by decide))) (av_cons ev_int av_nil (fun _ => rfl)) (fun _ => rfl)) (fun _ => rfl) (fun _ => rfl)) av_nil (fun _ => rfl)) (fun _ => rfl)) (gv_name 8 nd rfl (by first | exact Or.inl rfl | exact Or.inr ⟨rfl, rfl⟩)) bsv_nil ev_int (fun _ _ => rfl)) (sv_cons (sv_for 1000000 rfl (iv_rng3 rfl m_range (av_cons (ev_sub (ev_len rfl m_len (av_cons (ev_var 4 rfl (by first | exact Or.inl rfl | exact Or.inr (Or.inl rfl) | exact Or.inr (Or.inr rfl)) (by decide) (by decide)) av_nil (fun _ => rfl)) (fun _ => rfl) (fun _ => rfl)) ev_int) (av_cons (ev_neg ev_int) (av_cons (ev_neg ev_int) av_nil (fun _ => rfl)) (fun _ => rfl)) (fun _ => rfl)) (fun _ => rfl) (fun _ => rfl)) (gv_name 5 nd rfl (by first | exact Or.inl rfl | exact Or.inr ⟨rfl, rfl⟩)) (sv_cons (sv_set 6 nd rfl (by first | exact Or.inl rfl | exact Or.inr ⟨rfl, rfl⟩) (ev_ix (ev_var 2 rfl (by first | exact Or.inl rfl | exact Or.inr (Or.inl rfl) | exact Or.inr (Or.inr rfl)) (by decide) (by decide)) (ev_add (ev_var 5 rfl (by first | exact Or.inl rfl | exact Or.inr (Or.inl rfl) | exact Or.inr (Or.inr rfl)) (by decide) (by decide)) (ev_var 3 rfl (by first | exact Or.inl rfl | exact Or.inr (Or.inl rfl) | exact Or.inr (Or.inr rfl)) (by decide) (by decide))) (fun _ _ => rfl)) (fun _ => rfl)) (sv_cons (sv_asg (ev_var 6 rfl (by first | exact Or.inl rfl | exact Or.inr (Or.inl rfl) | exact Or.inr (Or.inr rfl)) (by decide) (by decide)) (gv_sub (ev_var 4 rfl (by first | exact Or.inl rfl | exact Or.inr (Or.inl rfl) | exact Or.inr (Or.inr rfl)) (by decide) (by decide)) (ev_var 5 rfl (by first | exact Or.inl rfl | exact Or.inr (Or.inl rfl) | exact Or.inr (Or.inr rfl)) (by decide) (by decide)) (fun _ _ => set_list) lk_set (fun _ _ => rfl)) (fun _ => rfl) (fun _ => rfl) (fun _ => rfl)) (sv_one (sv_if (tv_ne (ev_var 6 rfl (by first | exact Or.inl rfl | exact Or.inr (Or.inl rfl) | exact Or.inr (Or.inr rfl)) (by decide) (by decide)) ev_int) (sv_one (sv_for 1000000 rfl (iv_rng1 rfl m_range (av_cons (ev_add (ev_var 3 rfl (by first | exact Or.inl rfl | exact Or.inr (Or.inl rfl) | exact Or.inr (Or.inr rfl)) (by decide) (by decide)) ev_int) av_nil (fun _ => rfl)) (fun _ => rfl)) (gv_name 7 nd rfl (by first | exact Or.inl rfl | exact Or.inr ⟨rfl, rfl⟩)) (sv_one (sv_asg (ev_sub (ev_ix (ev_var 2 rfl (by first | exact Or.inl rfl | exact Or.inr (Or.inl rfl) | exact Or.inr (Or.inr rfl)) (by decide) (by decide)) (ev_add (ev_var 5 rfl (by first | exact Or.inl rfl | exact Or.inr (Or.inl rfl) | exact Or.inr (Or.inr rfl)) (by decide) (by decide)) (ev_var 7 rfl (by first | exact Or.inl rfl | exact Or.inr (Or.inl rfl) | exact Or.inr (Or.inr rfl)) (by decide) (by decide))) (fun _ _ => rfl)) (ev_mul (ev_var 6 rfl (by first | exact Or.inl rfl | exact Or.inr (Or.inl rfl) | exact Or.inr (Or.inr rfl)) (by decide) (by decide)) (ev_ix (ev_var 1 rfl (by first | exact Or.inl rfl | exact Or.inr (Or.inl rfl) | exact Or.inr (Or.inr rfl)) (by decide) (by decide)) (ev_var 7 rfl (by first | exact Or.inl rfl | exact Or.inr (Or.inl rfl) | exact Or.inr (Or.inr rfl)) (by decide) (by decide)) (fun _ _ => rfl)))) (gv_sub (ev_var 2 rfl (by first | exact Or.inl rfl | exact Or.inr (Or.inl rfl) | exact Or.inr (Or.inr rfl)) (by decide) (by decide)) (ev_add (ev_var 5 rfl (by first | exact Or.inl rfl | exact Or.inr (Or.inl rfl) | exact Or.inr (Or.inr rfl)) (by decide) (by decide)) (ev_var 7 rfl (by first | exact Or.inl rfl | exact Or.inr (Or.inl rfl) | exact Or.inr (Or.inr rfl)) (by decide) (by decide))) (fun _ _ => set_list) lk_set (fun _ _ => rfl)) (fun _ => rfl) (fun _ => rfl) (fun _ => rfl))) (fun _ _ => rfl))) sv_nil)))) (fun _ _ => rfl)) (sv_one (sv_ret (ev_tup (av_cons (ev_var 4 rfl (by first | exact Or.inl rfl | exact Or.inr (Or.inl rfl) | exact Or.inr (Or.inr rfl)) (by decide) (by decide)) (av_cons (ev_sl (ev_var 2 rfl (by first | exact Or.inl rfl | exact Or.inr (Or.inl rfl) | exact Or.inr (Or.inr rfl)) (by decide) (by decide)) ov_none (ov_some (ev_var 3 rfl (by first | exact Or.inl rfl | exact Or.inr (Or.inl rfl) | exact Or.inr (Or.inr rfl)) (by decide) (by decide)))) av_nil (fun _ => rfl)) (fun _ => rfl)))))))))
def F_divided : FF := mkF 2 9 b_divided
abbrev s_cyclotomic : Stmt := topS 5
abbrev N_cyclotomic : List Str := ["e", "poly", "p", "k", "_"]
theorem sc_cyclotomic : FnScope N_cyclotomic ["e"] (defScope s_cyclotomic) := ⟨rfl, rfl, rfl, by decide +kernel, rfl, by decide +kernel, by decide +kernel⟩
def b_cyclotomic : SF := sSeq (sSet (fLst (fCons (fUn gNeg (fC (.int 1))) (fCons (fC (.int 1)) (fNil)))) 1) (sSeq (sFor 1000000 (fIter (fCall F_prime_powers (fCons (fVar 0) (fNil)))) (gtTup 2 (gtCons (gtN 2) (gtCons (gtN 3) (gtNil)))) (sSeq (sSet (fBin gIx (fCall F_divided (fCons (fCall F_spread (fCons (fVar 1) (fCons (fVar 2) (fNil)))) (fCons (fVar 1) (fNil)))) (fC (.int 0))) 1) (sFor 1000000 (fRng1 (fCons (fBin gSubI (fVar 3) (fC (.int 1))) (fNil))) (gtN 4) (sSet (fCall F_spread (fCons (fVar 1) (fCons (fVar 2) (fNil)))) 1)))) (sRet (fCallL gTuple (fCons (fVar 1) (fNil)))))
theorem sv_cyclotomic (d_divided : DefOk P w mg base T 1 "divided" 2 F_divided) (d_prime_powers : DefOk P w mg base T 1 "prime_powers" 1 F_prime_powers) (d_spread : DefOk P w mg base T 1 "spread" 2 F_spread) (m_range : mg "range" = none) (m_tuple : mg "tuple" = none) : SsV (cx0 P w mg base T N_cyclotomic (defScope s_cyclotomic) 1) (defBody s_cyclotomic) b_cyclotomic := by
  have nd : N_cyclotomic.Nodup := sc_cyclotomic.nd
  exact (sv_cons (sv_set 1 nd rfl (by first | exact Or.inl rfl | exact Or.inr ⟨rfl, rfl⟩) (ev_lst (av_cons (ev_neg ev_int) (av_cons ev_int av_nil (fun _ => rfl)) (fun _ => rfl))) (fun _ => rfl)) (sv_cons (sv_for 1000000 rfl (iv_any (ev_call d_prime_powers (Nat.le_of_ble_eq_true rfl) rfl (av_cons (ev_var 0 rfl (by first | exact Or.inl rfl | exact Or.inr (Or.inl rfl) | exact Or.inr (Or.inr rfl)) (by decide) (by decide)) av_nil (fun _ => rfl)) (by decide) (fun _ => rfl) (fun _ => rfl))) (gv_tup rfl (gsv_cons (gv_name 2 nd rfl (by first | exact Or.inl rfl | exact Or.inr ⟨rfl, rfl⟩)) (gsv_cons (gv_name 3 nd rfl (by first | exact Or.inl rfl | exact Or.inr ⟨rfl, rfl⟩)) gsv_nil (fun _ => rfl)) (fun _ => rfl)) (fun _ => rfl) (fun _ => rfl)) (sv_cons (sv_set 1 nd rfl (by first | exact Or.inl rfl | exact Or.inr ⟨rfl, rfl⟩) (ev_ix (ev_call d_divided (Nat.le_of_ble_eq_true rfl) rfl (av_cons (ev_call d_spread (Nat.le_of_ble_eq_true rfl) rfl (av_cons (ev_var 1 rfl (by first | exact Or.inl rfl | exact Or.inr (Or.inl rfl) | exact Or.inr (Or.inr rfl)) (by decide) (by decide)) (av_cons (ev_var 2 rfl (by first | exact Or.inl rfl | exact Or.inr (Or.inl rfl) | exact Or.inr (Or.inr rfl)) (by decide) (by decide)) av_nil (fun _ => rfl)) (fun _ => rfl)) (by decide) (fun _ => rfl) (fun _ => rfl)) (av_cons (ev_var 1 rfl (by first | exact Or.inl rfl | exact Or.inr (Or.inl rfl) | exact Or.inr (Or.inr rfl)) (by decide) (by decide)) av_nil (fun _ => rfl)) (fun _ => rfl)) (by decide) (fun _ => rfl) (fun _ => rfl)) ev_int (fun _ _ => rfl)) (fun _ => rfl)) (sv_one (sv_for 1000000 rfl (iv_rng1 rfl m_range (av_cons (ev_sub (ev_var 3 rfl (by first | exact Or.inl rfl | exact Or.inr (Or.inl rfl) | exact Or.inr (Or.inr rfl)) (by decide) (by decide)) ev_int) av_nil (fun _ => rfl)) (fun _ => rfl)) (gv_name 4 nd rfl (by first | exact Or.inl rfl | exact Or.inr ⟨rfl, rfl⟩)) (sv_one (sv_set 1 nd rfl (by first | exact Or.inl rfl | exact Or.inr ⟨rfl, rfl⟩) (ev_call d_spread (Nat.le_of_ble_eq_true rfl) rfl (av_cons (ev_var 1 rfl (by first | exact Or.inl rfl | exact Or.inr (Or.inl rfl) | exact Or.inr (Or.inr rfl)) (by decide) (by decide)) (av_cons (ev_var 2 rfl (by first | exact Or.inl rfl | exact Or.inr (Or.inl rfl) | exact Or.inr (Or.inr rfl)) (by decide) (by decide)) av_nil (fun _ => rfl)) (fun _ => rfl)) (by decide) (fun _ => rfl) (fun _ => rfl)) (fun _ => rfl))) (fun _ _ => rfl)))) (fun _ _ => rfl)) (sv_one (sv_ret (ev_tuple rfl m_tuple (av_cons (ev_var 1 rfl (by first | exact Or.inl rfl | exact Or.inr (Or.inl rfl) | exact Or.inr (Or.inr rfl)) (by decide) (by decide)) av_nil (fun _ => rfl)) (fun _ => rfl) (fun _ => rfl))))))
def F_cyclotomic : FF := mkF 1 5 b_cyclotomic
abbrev s__law_state : Stmt := topS 7
abbrev N__law_state : List Str := ["_law_script", "_law_seed", "_law_total", "_law_cell"]
theorem sc__law_state : FnScope N__law_state ["_law_script"] (defScope s__law_state) := ⟨rfl, rfl, rfl, by decide +kernel, rfl, by decide +kernel, by decide +kernel⟩
def b__law_state : SF := sSeq (sSet (fC (.int 0)) 1) (sSeq (sSet (fC (.int 1)) 2) (sSeq (sFor 1000000 (fIter (fSl (fVar 0) (fNoP) (fPart (fC (.int 63))))) (gtN 3) (sSeq (sSet (fBin gAdd (fBin gMulI (fVar 1) (fC (.int 1000003))) (fCallL gAbs (fCons (fVar 3) (fNil)))) 1) (sSet (fBin gModI (fCallL gInt (fCons (fBin gAdd (fBin gMulI (fVar 2) (fC (.int 48271))) (fVar 3)) (fNil))) (fC (.int 2147483647))) 2))) (sRet (fLst (fCons (fVar 1) (fCons (fVar 2) (fNil)))))))
theorem sv__law_state (m_abs : mg "abs" = none) (m_int : mg "int" = none) : SsV (cx0 P w mg base T N__law_state (defScope s__law_state) 0) (defBody s__law_state) b__law_state := by
  have nd : N__law_state.Nodup := sc__law_state.nd
  exact (sv_cons (sv_set 1 nd rfl (by first | exact Or.inl rfl | exact Or.inr ⟨rfl, rfl⟩) ev_int (fun _ => rfl)) (sv_cons (sv_set 2 nd rfl (by first | exact Or.inl rfl | exact Or.inr ⟨rfl, rfl⟩) ev_int (fun _ => rfl)) (sv_cons (sv_for 1000000 rfl (iv_any (ev_sl (ev_var 0 rfl (by first | exact Or.inl rfl | exact Or.inr (Or.inl rfl) | exact Or.inr (Or.inr rfl)) (by decide) (by decide)) ov_none (ov_some ev_int))) (gv_name 3 nd rfl (by first | exact Or.inl rfl | exact Or.inr ⟨rfl, rfl⟩)) (sv_cons (sv_set 1 nd rfl (by first | exact Or.inl rfl | exact Or.inr ⟨rfl, rfl⟩) (ev_add (ev_mul (ev_var 1 rfl (by first | exact Or.inl rfl | exact Or.inr (Or.inl rfl) | exact Or.inr (Or.inr rfl)) (by decide) (by decide)) ev_int) (ev_abs rfl m_abs (av_cons (ev_var 3 rfl (by first | exact Or.inl rfl | exact Or.inr (Or.inl rfl) | exact Or.inr (Or.inr rfl)) (by decide) (by decide)) av_nil (fun _ => rfl)) (fun _ => rfl) (fun _ => rfl))) (fun _ => rfl)) (sv_one (sv_set 2 nd rfl (by first | exact Or.inl rfl | exact Or.inr ⟨rfl, rfl⟩) (ev_mod (ev_int1 rfl m_int (av_cons (ev_add (ev_mul (ev_var 2 rfl (by first | exact Or.inl rfl | exact Or.inr (Or.inl rfl) | exact Or.inr (Or.inr rfl)) (by decide) (by decide)) ev_int) (ev_var 3 rfl (by first | exact Or.inl rfl | exact Or.inr (Or.inl rfl) | exact Or.inr (Or.inr rfl)) (by decide) (by decide))) av_nil (fun _ => rfl)) (fun _ => rfl) (fun _ => rfl)) ev_int) (fun _ => rfl)))) (fun _ _ => rfl)) (sv_one (sv_ret (ev_lst (av_cons (ev_var 1 rfl (by first | exact Or.inl rfl | exact Or.inr (Or.inl rfl) | exact Or.inr (Or.inr rfl)) (by decide) (by decide)) (av_cons (ev_var 2 rfl (by first | exact Or.inl rfl | exact Or.inr (Or.inl rfl) | exact Or.inr (Or.inr rfl)) (by decide) (by decide)) av_nil (fun _ => rfl)) (fun _ => rfl))))))))
abbrev F__law_state : FF := gState
abbrev s__law_take : Stmt := topS 8
abbrev N__law_take : List Str := ["_law_state_here", "_law_m", "_law_value"]
theorem sc__law_take : FnScope N__law_take ["_law_state_here", "_law_m"] (defScope s__law_take) := ⟨rfl, rfl, rfl, by decide +kernel, rfl, by decide +kernel, by decide +kernel⟩
def b__law_take : SF := sSeq (sIf (fTest (fBin gGt (fBin gIx (fVar 0) (fC (.int 0))) (fC (.int 0)))) (sSeq (sSet (fBin gModI (fCallL gInt (fCons (fBin gIx (fVar 0) (fC (.int 0))) (fNil))) (fVar 1)) 2) (sSeq (sAsg (fBin gDivI (fBin gIx (fVar 0) (fC (.int 0))) (fVar 1)) (gtSub gSet (fVar 0) (fC (.int 0)))) (sRet (fVar 2)))) (sNil)) (sSeq (sAsg (fBin gModI (fCallL gInt (fCons (fBin gAdd (fBin gMulI (fBin gIx (fVar 0) (fC (.int 1))) (fC (.int 48271))) (fC (.int 11))) (fNil))) (fC (.int 2147483647))) (gtSub gSet (fVar 0) (fC (.int 1)))) (sRet (fBin gModI (fCallL gInt (fCons (fBin gDivI (fBin gIx (fVar 0) (fC (.int 1))) (fC (.int 7))) (fNil))) (fVar 1))))
theorem sv__law_take (m_int : mg "int" = none) : SsV (cx0 P w mg base T N__law_take (defScope s__law_take) 0) (defBody s__law_take) b__law_take := by
  have nd : N__law_take.Nodup := sc__law_take.nd
  exact (sv_cons (sv_if (tv_gt (ev_ix (ev_var 0 rfl (by first | exact Or.inl rfl | exact Or.inr (Or.inl rfl) | exact Or.inr (Or.inr rfl)) (by decide) (by decide)) ev_int (fun _ _ => rfl)) ev_int) (sv_cons (sv_set 2 nd rfl (by first | exact Or.inl rfl | exact Or.inr ⟨rfl, rfl⟩) (ev_mod (ev_int1 rfl m_int (av_cons (ev_ix (ev_var 0 rfl (by first | exact Or.inl rfl | exact Or.inr (Or.inl rfl) | exact Or.inr (Or.inr rfl)) (by decide) (by decide)) ev_int (fun _ _ => rfl)) av_nil (fun _ => rfl)) (fun _ => rfl) (fun _ => rfl)) (ev_var 1 rfl (by first | exact Or.inl rfl | exact Or.inr (Or.inl rfl) | exact Or.inr (Or.inr rfl)) (by decide) (by decide))) (fun _ => rfl)) (sv_cons (sv_asg (ev_div (ev_ix (ev_var 0 rfl (by first | exact Or.inl rfl | exact Or.inr (Or.inl rfl) | exact Or.inr (Or.inr rfl)) (by decide) (by decide)) ev_int (fun _ _ => rfl)) (ev_var 1 rfl (by first | exact Or.inl rfl | exact Or.inr (Or.inl rfl) | exact Or.inr (Or.inr rfl)) (by decide) (by decide))) (gv_sub (ev_var 0 rfl (by first | exact Or.inl rfl | exact Or.inr (Or.inl rfl) | exact Or.inr (Or.inr rfl)) (by decide) (by decide)) ev_int (fun _ _ => set_list) lk_set (fun _ _ => rfl)) (fun _ => rfl) (fun _ => rfl) (fun _ => rfl)) (sv_one (sv_ret (ev_var 2 rfl (by first | exact Or.inl rfl | exact Or.inr (Or.inl rfl) | exact Or.inr (Or.inr rfl)) (by decide) (by decide)))))) sv_nil) (sv_cons (sv_asg (ev_mod (ev_int1 rfl m_int (av_cons (ev_add (ev_mul (ev_ix (ev_var 0 rfl (by first | exact Or.inl rfl | exact Or.inr (Or.inl rfl) | exact Or.inr (Or.inr rfl)) (by decide) (by decide)) ev_int (fun _ _ => rfl)) ev_int) ev_int) av_nil (fun _ => rfl)) (fun _ => rfl) (fun _ => rfl)) ev_int) (gv_sub (ev_var 0 rfl (by first | exact Or.inl rfl | exact Or.inr (Or.inl rfl) | exact Or.inr (Or.inr rfl)) (by decide) (by decide)) ev_int (fun _ _ => set_list) lk_set (fun _ _ => rfl)) (fun _ => rfl) (fun _ => rfl) (fun _ => rfl)) (sv_one (sv_ret (ev_mod (ev_int1 rfl m_int (av_cons (ev_div (ev_ix (ev_var 0 rfl (by first | exact Or.inl rfl | exact Or.inr (Or.inl rfl) | exact Or.inr (Or.inr rfl)) (by decide) (by decide)) ev_int (fun _ _ => rfl)) ev_int) av_nil (fun _ => rfl)) (fun _ => rfl) (fun _ => rfl)) (ev_var 1 rfl (by first | exact Or.inl rfl | exact Or.inr (Or.inl rfl) | exact Or.inr (Or.inr rfl)) (by decide) (by decide)))))))
abbrev F__law_take : FF := gTake
abbrev s__law_gcd : Stmt := topS 9
abbrev N__law_gcd : List Str := ["_law_a", "_law_b"]
theorem sc__law_gcd : FnScope N__law_gcd ["_law_a", "_law_b"] (defScope s__law_gcd) := ⟨rfl, rfl, rfl, by decide +kernel, rfl, by decide +kernel, by decide +kernel⟩
def b__law_gcd : SF := sSeq (sSet (fCallL gAbs (fCons (fVar 0) (fNil))) 0) (sSeq (sSet (fCallL gAbs (fCons (fVar 1) (fNil))) 1) (sSeq (sWhile 1000000 (fTest (fBin gNe (fVar 1) (fC (.int 0)))) (sPar 0 1 (fCons (fVar 1) (fCons (fBin gModI (fCallL gInt (fCons (fVar 0) (fNil))) (fVar 1)) (fNil))))) (sRet (fVar 0))))
theorem sv__law_gcd (m_abs : mg "abs" = none) (m_int : mg "int" = none) : SsV (cx0 P w mg base T N__law_gcd (defScope s__law_gcd) 0) (defBody s__law_gcd) b__law_gcd := by
  have nd : N__law_gcd.Nodup := sc__law_gcd.nd
  exact (sv_cons (sv_set 0 nd rfl (by first | exact Or.inl rfl | exact Or.inr ⟨rfl, rfl⟩) (ev_abs rfl m_abs (av_cons (ev_var 0 rfl (by first | exact Or.inl rfl | exact Or.inr (Or.inl rfl) | exact Or.inr (Or.inr rfl)) (by decide) (by decide)) av_nil (fun _ => rfl)) (fun _ => rfl) (fun _ => rfl)) (fun _ => rfl)) (sv_cons (sv_set 1 nd rfl (by first | exact Or.inl rfl | exact Or.inr ⟨rfl, rfl⟩) (ev_abs rfl m_abs (av_cons (ev_var 1 rfl (by first | exact Or.inl rfl | exact Or.inr (Or.inl rfl) | exact Or.inr (Or.inr rfl)) (by decide) (by decide)) av_nil (fun _ => rfl)) (fun _ => rfl) (fun _ => rfl)) (fun _ => rfl)) (sv_cons (sv_while 1000000 (tv_ne (ev_var 1 rfl (by first | exact Or.inl rfl | exact Or.inr (Or.inl rfl) | exact Or.inr (Or.inr rfl)) (by decide) (by decide)) ev_int) (sv_one (sv_par 0 1 rfl nd rfl rfl (by decide) rfl rfl (av_cons (ev_var 1 rfl (by first | exact Or.inl rfl | exact Or.inr (Or.inl rfl) | exact Or.inr (Or.inr rfl)) (by decide) (by decide)) (av_cons (ev_mod (ev_int1 rfl m_int (av_cons (ev_var 0 rfl (by first | exact Or.inl rfl | exact Or.inr (Or.inl rfl) | exact Or.inr (Or.inr rfl)) (by decide) (by decide)) av_nil (fun _ => rfl)) (fun _ => rfl) (fun _ => rfl)) (ev_var 1 rfl (by first | exact Or.inl rfl | exact Or.inr (Or.inl rfl) | exact Or.inr (Or.inr rfl)) (by decide) (by decide))) av_nil (fun _ => rfl)) (fun _ => rfl)) (fun env h => by obtain ⟨⟩ := env; cases h; rfl) (fun _ => rfl)))) (sv_one (sv_ret (ev_var 0 rfl (by first | exact Or.inl rfl | exact Or.inr (Or.inl rfl) | exact Or.inr (Or.inr rfl)) (by decide) (by decide)))))))
def F__law_gcd : FF := mkF 2 2 b__law_gcd
abbrev s_law : Stmt := topS 10
abbrev N_law : List Str := ["_law_script", "_law_state_here", "_law_e", "_law_total", "_law_d", "_law_p", "_law_out", "_law_i", "_law_j", "_law_k"]
theorem sc_law : FnScope N_law ["_law_script"] (defScope s_law) := ⟨rfl, rfl, rfl, by decide +kernel, rfl, by decide +kernel, by decide +kernel⟩
def b_law_rest : SF := sSeq (sSet (fBin gAdd (fC (.int 1)) (fCall F__law_take (fCons (fVar 1) (fCons (fC (.int 60)) (fNil))))) 2) (sSeq (sSet (fLst (fCons (fC (.int 1)) (fNil))) 3) (sSeq (sFor 1000000 (fRng2 (fCons (fC (.int 1)) (fCons (fBin gAdd (fVar 2) (fC (.int 1))) (fNil)))) (gtN 4) (sIf (fTest (fBin gEq (fBin gModI (fVar 2) (fVar 4)) (fC (.int 0)))) (sSeq (sSet (fCall F_cyclotomic (fCons (fVar 4) (fNil))) 5) (sSeq (sIf (fOr (fNot (fTest (fIs 4 (fVar 5)))) (fTest (fBin gNe (fBin gIx (fVar 5) (fUn gNeg (fC (.int 1)))) (fC (.int 1))))) (sRet (fC (.bl false))) (sNil)) (sSeq (sIf (fTest (fBin gNe (fCallL gLen (fCons (fVar 5) (fNil))) (fBin gAdd (fC (.int 1)) (fCallL gLen (fCons (fLc 1000000 [9] (fRng2 (fCons (fC (.int 1)) (fCons (fBin gAdd (fVar 4) (fC (.int 1))) (fNil)))) (gtN 9) (fTest (fBin gEq (fCall F__law_gcd (fCons (fVar 9) (fCons (fVar 4) (fNil)))) (fC (.int 1)))) (fVar 9)) (fNil)))))) (sRet (fC (.bl false))) (sNil)) (sSeq (sSet (fLc 1000000 [9] (fRng1 (fCons (fBin gSubI (fBin gAdd (fCallL gLen (fCons (fVar 3) (fNil))) (fCallL gLen (fCons (fVar 5) (fNil)))) (fC (.int 1))) (fNil))) (gtN 9) (bYes) (fC (.int 0))) 6) (sSeq (sFor 1000000 (fRng1 (fCons (fCallL gLen (fCons (fVar 3) (fNil))) (fNil))) (gtN 7) (sFor 1000000 (fRng1 (fCons (fCallL gLen (fCons (fVar 5) (fNil))) (fNil))) (gtN 8) (sAsg (fBin gAdd (fBin gIx (fVar 6) (fBin gAdd (fVar 7) (fVar 8))) (fBin gMulI (fBin gIx (fVar 3) (fVar 7)) (fBin gIx (fVar 5) (fVar 8)))) (gtSub gSet (fVar 6) (fBin gAdd (fVar 7) (fVar 8)))))) (sSet (fCallL gList (fCons (fVar 6) (fNil))) 3)))))) (sNil))) (sRet (fBin gEq (fVar 3) (fBin gAdd (fBin gAdd (fLst (fCons (fUn gNeg (fC (.int 1))) (fNil))) (fLc 1000000 [9] (fRng1 (fCons (fBin gSubI (fVar 2) (fC (.int 1))) (fNil))) (gtN 9) (bYes) (fC (.int 0)))) (fLst (fCons (fC (.int 1)) (fNil))))))))
def b_law : SF := sSeq (sForget 0 (sSet (fCall F__law_state (fCons (fVar 0) (fNil))) 1)) (b_law_rest)
theorem sv_law (d__law_gcd : DefOk P w mg base T 1 "_law_gcd" 2 F__law_gcd) (d__law_state : DefOk P w mg base T 1 "_law_state" 1 F__law_state) (d__law_take : DefOk P w mg base T 1 "_law_take" 2 F__law_take) (d_cyclotomic : DefOk P w mg base T 2 "cyclotomic" 1 F_cyclotomic) (m_isinstance : mg "isinstance" = none) (m_len : mg "len" = none) (m_list : mg "list" = none) (m_range : mg "range" = none) (m_tuple : mg "tuple" = none) : SsV (cx0 P w mg base T N_law (defScope s_law) 2) (defBody s_law) b_law := by
  have nd : N_law.Nodup := sc_law.nd
  exact (sv_cons (sv_forget 0 (sv_set 1 nd rfl (by first | exact Or.inl rfl | exact Or.inr ⟨rfl, rfl⟩) (ev_call d__law_state (Nat.le_of_ble_eq_true rfl) rfl (av_cons (ev_var 0 rfl (by first | exact Or.inl rfl | exact Or.inr (Or.inl rfl) | exact Or.inr (Or.inr rfl)) (by decide) (by decide)) av_nil (fun _ => rfl)) (by decide) (fun _ => rfl) (fun _ => rfl)) (fun _ => rfl))) (sv_cons (sv_set 2 nd rfl (by first | exact Or.inl rfl | exact Or.inr ⟨rfl, rfl⟩) (ev_add ev_int (ev_call d__law_take (Nat.le_of_ble_eq_true rfl) rfl (av_cons (ev_var 1 rfl (by first | exact Or.inl rfl | exact Or.inr (Or.inl rfl) | exact Or.inr (Or.inr rfl)) (by decide) (by decide)) (av_cons ev_int av_nil (fun _ => rfl)) (fun _ => rfl)) (by decide) (fun _ => rfl) (fun _ => rfl))) (fun _ => rfl)) (sv_cons (sv_set 3 nd rfl (by first | exact Or.inl rfl | exact Or.inr ⟨rfl, rfl⟩) (ev_lst (av_cons ev_int av_nil (fun _ => rfl))) (fun _ => rfl)) (sv_cons (sv_for 1000000 rfl (iv_rng2 rfl m_range (av_cons ev_int (av_cons (ev_add (ev_var 2 rfl (by first | exact Or.inl rfl | exact Or.inr (Or.inl rfl) | exact Or.inr (Or.inr rfl)) (by decide) (by decide)) ev_int) av_nil (fun _ => rfl)) (fun _ => rfl)) (fun _ => rfl) (fun _ => rfl)) (gv_name 4 nd rfl (by first | exact Or.inl rfl | exact Or.inr ⟨rfl, rfl⟩)) (sv_one (sv_if (tv_eq (ev_mod (ev_var 2 rfl (by first | exact Or.inl rfl | exact Or.inr (Or.inl rfl) | exact Or.inr (Or.inr rfl)) (by decide) (by decide)) (ev_var 4 rfl (by first | exact Or.inl rfl | exact Or.inr (Or.inl rfl) | exact Or.inr (Or.inr rfl)) (by decide) (by decide))) ev_int) (sv_cons (sv_set 5 nd rfl (by first | exact Or.inl rfl | exact Or.inr ⟨rfl, rfl⟩) (ev_call d_cyclotomic (Nat.le_of_ble_eq_true rfl) rfl (av_cons (ev_var 4 rfl (by first | exact Or.inl rfl | exact Or.inr (Or.inl rfl) | exact Or.inr (Or.inr rfl)) (by decide) (by decide)) av_nil (fun _ => rfl)) (by decide) (fun _ => rfl) (fun _ => rfl)) (fun _ => rfl)) (sv_cons (sv_if (tv_w (wv_or (tv_not (tv_val (fun _ _ => rfl) (ev_isTy (k := 4) (by decide) rfl m_isinstance rfl m_tuple (by decide +kernel) (by decide) (by decide) (ev_var 5 rfl (by first | exact Or.inl rfl | exact Or.inr (Or.inl rfl) | exact Or.inr (Or.inr rfl)) (by decide) (by decide)) (fun _ => rfl) (fun _ => rfl)))) (wv_or1 (tv_ne (ev_ix (ev_var 5 rfl (by first | exact Or.inl rfl | exact Or.inr (Or.inl rfl) | exact Or.inr (Or.inr rfl)) (by decide) (by decide)) (ev_neg ev_int) (fun _ _ => rfl)) ev_int)))) (sv_one (sv_ret ev_bl)) sv_nil) (sv_cons (sv_if (tv_ne (ev_len rfl m_len (av_cons (ev_var 5 rfl (by first | exact Or.inl rfl | exact Or.inr (Or.inl rfl) | exact Or.inr (Or.inr rfl)) (by decide) (by decide)) av_nil (fun _ => rfl)) (fun _ => rfl) (fun _ => rfl)) (ev_add ev_int (ev_len rfl m_len (av_cons (ev_lc 1000000 (own := [("_law_k", 9)]) rfl nd (blkOk_by rfl) (by decide) (iv_rng2 rfl m_range (av_cons ev_int (av_cons (ev_add (ev_var 4 rfl (by first | exact Or.inl rfl | exact Or.inr (Or.inl rfl) | exact Or.inr (Or.inr rfl)) (by decide) (by decide)) ev_int) av_nil (fun _ => rfl)) (fun _ => rfl)) (fun _ => rfl) (fun _ => rfl)) (gv_name 9 nd rfl (by first | exact Or.inl rfl | exact Or.inr ⟨rfl, rfl⟩)) (bsv_one (tv_eq (ev_call d__law_gcd (Nat.le_of_ble_eq_true rfl) rfl (av_cons (ev_var 9 rfl (by first | exact Or.inl rfl | exact Or.inr (Or.inl rfl) | exact Or.inr (Or.inr rfl)) (by decide) (by decide)) (av_cons (ev_var 4 rfl (by first | exact Or.inl rfl | exact Or.inr (Or.inl rfl) | exact Or.inr (Or.inr rfl)) (by decide) (by decide)) av_nil (fun _ => rfl)) (fun _ => rfl)) (by decide) (fun _ => rfl) (fun _ => rfl)) ev_int)) (ev_var 9 rfl (by first | exact Or.inl rfl | exact Or.inr (Or.inl rfl) | exact Or.inr (Or.inr rfl)) (by decide) (by decide)) (fun _ _ => rfl)) av_nil (fun _ => rfl)) (fun _ => rfl) (fun _ => rfl)))) (sv_one (sv_ret ev_bl)) sv_nil) (sv_cons (sv_setLc 1000000 6 (own := [("_law_k", 9)]) rfl nd rfl rfl rfl rfl rfl (by decide +kernel) (blkOk_by rfl) (by decide) (iv_rng1 rfl m_range (av_cons (ev_sub (ev_add (ev_len rfl m_len (av_cons (ev_var 3 rfl (by first | exact Or.inl rfl | exact Or.inr (Or.inl rfl) | exact Or.inr (Or.inr rfl)) (by decide) (by decide)) av_nil (fun _ => rfl)) (fun _ => rfl) (fun _ => rfl)) (ev_len rfl m_len (av_cons (ev_var 5 rfl (by first | exact Or.inl rfl | exact Or.inr (Or.inl rfl) | exact Or.inr (Or.inr rfl)) (by decide) (by decide)) av_nil (fun _ => rfl)) (fun _ => rfl) (fun _ => rfl))) ev_int) av_nil (fun _ => rfl)) (fun _ => rfl)) (gv_name 9 nd rfl (by first | exact Or.inl rfl | exact Or.inr ⟨rfl, rfl⟩)) bsv_nil ev_int (fun _ _ => rfl)) (sv_cons (sv_for 1000000 rfl (iv_rng1 rfl m_range (av_cons (ev_len rfl m_len (av_cons (ev_var 3 rfl (by first | exact Or.inl rfl | exact Or.inr (Or.inl rfl) | exact Or.inr (Or.inr rfl)) (by decide) (by decide)) av_nil (fun _ => rfl)) (fun _ => rfl) (fun _ => rfl)) av_nil (fun _ => rfl)) (fun _ => rfl)) (gv_name 7 nd rfl (by first | exact Or.inl rfl | exact Or.inr ⟨rfl, rfl⟩)) (sv_one (sv_for 1000000 rfl (iv_rng1 rfl m_range (av_cons (ev_len rfl m_len (av_cons (ev_var 5 rfl (by first | exact Or.inl rfl | exact Or.inr (Or.inl rfl) | exact Or.inr (Or.inr rfl)) (by decide) (by decide)) av_nil (fun _ => rfl)) (fun _ => rfl) (fun _ => rfl)) av_nil (fun _ => rfl)) (fun _ => rfl)) (gv_name 8 nd rfl (by first | exact Or.inl rfl | exact Or.inr ⟨rfl, rfl⟩)) (sv_one (sv_asg (ev_add (ev_ix (ev_var 6 rfl (by first | exact Or.inl rfl | exact Or.inr (Or.inl rfl) | exact Or.inr (Or.inr rfl)) (by decide) (by decide)) (ev_add (ev_var 7 rfl (by first | exact Or.inl rfl | exact Or.inr (Or.inl rfl) | exact Or.inr (Or.inr rfl)) (by decide) (by decide)) (ev_var 8 rfl (by first | exact Or.inl rfl | exact Or.inr (Or.inl rfl) | exact Or.inr (Or.inr rfl)) (by decide) (by decide))) (fun _ _ => rfl)) (ev_mul (ev_ix (ev_var 3 rfl (by first | exact Or.inl rfl | exact Or.inr (Or.inl rfl) | exact Or.inr (Or.inr rfl)) (by decide) (by decide)) (ev_var 7 rfl (by first | exact Or.inl rfl | exact Or.inr (Or.inl rfl) | exact Or.inr (Or.inr rfl)) (by decide) (by decide)) (fun _ _ => rfl)) (ev_ix (ev_var 5 rfl (by first | exact Or.inl rfl | exact Or.inr (Or.inl rfl) | exact Or.inr (Or.inr rfl)) (by decide) (by decide)) (ev_var 8 rfl (by first | exact Or.inl rfl | exact Or.inr (Or.inl rfl) | exact Or.inr (Or.inr rfl)) (by decide) (by decide)) (fun _ _ => rfl)))) (gv_sub (ev_var 6 rfl (by first | exact Or.inl rfl | exact Or.inr (Or.inl rfl) | exact Or.inr (Or.inr rfl)) (by decide) (by decide)) (ev_add (ev_var 7 rfl (by first | exact Or.inl rfl | exact Or.inr (Or.inl rfl) | exact Or.inr (Or.inr rfl)) (by decide) (by decide)) (ev_var 8 rfl (by first | exact Or.inl rfl | exact Or.inr (Or.inl rfl) | exact Or.inr (Or.inr rfl)) (by decide) (by decide))) (fun _ _ => set_list) lk_set (fun _ _ => rfl)) (fun _ => rfl) (fun _ => rfl) (fun _ => rfl))) (fun _ _ => rfl))) (fun _ _ => rfl)) (sv_one (sv_set 3 nd rfl (by first | exact Or.inl rfl | exact Or.inr ⟨rfl, rfl⟩) (ev_list rfl m_list (av_cons (ev_var 6 rfl (by first | exact Or.inl rfl | exact Or.inr (Or.inl rfl) | exact Or.inr (Or.inr rfl)) (by decide) (by decide)) av_nil (fun _ => rfl)) (fun _ => rfl) (fun _ => rfl)) (fun _ => rfl)))))))) sv_nil)) (fun _ _ => rfl)) (sv_one (sv_ret (ev_eq (ev_var 3 rfl (by first | exact Or.inl rfl | exact Or.inr (Or.inl rfl) | exact Or.inr (Or.inr rfl)) (by decide) (by decide)) (ev_add (ev_add (ev_lst (av_cons (ev_neg ev_int) av_nil (fun _ => rfl))) (ev_lc 1000000 (own := [("_law_k", 9)]) rfl nd (blkOk_by rfl) (by decide) (iv_rng1 rfl m_range (av_cons (ev_sub (ev_var 2 rfl (by first | exact Or.inl rfl | exact Or.inr (Or.inl rfl) | exact Or.inr (Or.inr rfl)) (by decide) (by decide)) ev_int) av_nil (fun _ => rfl)) (fun _ => rfl)) (gv_name 9 nd rfl (by first | exact Or.inl rfl | exact Or.inr ⟨rfl, rfl⟩)) bsv_nil ev_int (fun _ _ => rfl))) (ev_lst (av_cons ev_int av_nil (fun _ => rfl)))))))))))
def F_law : FF := mkF 1 10 b_law
end
theorem all_mk {l : PySem.W.OpenLaw} {w : World} {K : PySem.W.Frag} {h : Heap} {mg : Str → Option Value} {fa f1 f3 f4 f5 f7 f8 f9 f10 : Addr} (X : K.In h) (G : h.Ns mainGlobals mg) (hfa : mg "law" = some (.ref fa))
    {od1 an1 : Option Addr} {sl1 : Array (Option Value)} {oc1 kV1 dc1 pm1 cd1 ct1 : Value} (a1 : PySem.W.nsIn K mainGlobals "prime_powers" = some (some (.ref f1)))
    (l1 : K.lookup f1 = some ⟨oc1, od1, .func (PySem.W.fnOf "prime_powers" "prime_powers" (defArgs s_prime_powers) (defBody s_prime_powers) (defScope s_prime_powers) .none kV1 dc1 pm1 an1 cd1 ct1), sl1⟩) (c1 : PySem.W.codeIn K cd1 "prime_powers" = true) (k1 : PySem.W.keepIn K (.ref f1) = true)
    {od3 an3 : Option Addr} {sl3 : Array (Option Value)} {oc3 kV3 dc3 pm3 cd3 ct3 : Value} (a3 : PySem.W.nsIn K mainGlobals "spread" = some (some (.ref f3)))
    (l3 : K.lookup f3 = some ⟨oc3, od3, .func (PySem.W.fnOf "spread" "spread" (defArgs s_spread) (defBody s_spread) (defScope s_spread) .none kV3 dc3 pm3 an3 cd3 ct3), sl3⟩) (c3 : PySem.W.codeIn K cd3 "spread" = true) (k3 : PySem.W.keepIn K (.ref f3) = true)
    {od4 an4 : Option Addr} {sl4 : Array (Option Value)} {oc4 kV4 dc4 pm4 cd4 ct4 : Value} (a4 : PySem.W.nsIn K mainGlobals "divided" = some (some (.ref f4)))
    (l4 : K.lookup f4 = some ⟨oc4, od4, .func (PySem.W.fnOf "divided" "divided" (defArgs s_divided) (defBody s_divided) (defScope s_divided) .none kV4 dc4 pm4 an4 cd4 ct4), sl4⟩) (c4 : PySem.W.codeIn K cd4 "divided" = true) (k4 : PySem.W.keepIn K (.ref f4) = true)
    {od5 an5 : Option Addr} {sl5 : Array (Option Value)} {oc5 kV5 dc5 pm5 cd5 ct5 : Value} (a5 : PySem.W.nsIn K mainGlobals "cyclotomic" = some (some (.ref f5)))
    (l5 : K.lookup f5 = some ⟨oc5, od5, .func (PySem.W.fnOf "cyclotomic" "cyclotomic" (defArgs s_cyclotomic) (defBody s_cyclotomic) (defScope s_cyclotomic) .none kV5 dc5 pm5 an5 cd5 ct5), sl5⟩) (c5 : PySem.W.codeIn K cd5 "cyclotomic" = true) (k5 : PySem.W.keepIn K (.ref f5) = true)
    {od7 an7 : Option Addr} {sl7 : Array (Option Value)} {oc7 kV7 dc7 pm7 cd7 ct7 : Value} (a7 : PySem.W.nsIn K mainGlobals "_law_state" = some (some (.ref f7)))
    (l7 : K.lookup f7 = some ⟨oc7, od7, .func (PySem.W.fnOf "_law_state" "_law_state" (defArgs s__law_state) (defBody s__law_state) (defScope s__law_state) .none kV7 dc7 pm7 an7 cd7 ct7), sl7⟩) (c7 : PySem.W.codeIn K cd7 "_law_state" = true) (k7 : PySem.W.keepIn K (.ref f7) = true)
    {od8 an8 : Option Addr} {sl8 : Array (Option Value)} {oc8 kV8 dc8 pm8 cd8 ct8 : Value} (a8 : PySem.W.nsIn K mainGlobals "_law_take" = some (some (.ref f8)))
    (l8 : K.lookup f8 = some ⟨oc8, od8, .func (PySem.W.fnOf "_law_take" "_law_take" (defArgs s__law_take) (defBody s__law_take) (defScope s__law_take) .none kV8 dc8 pm8 an8 cd8 ct8), sl8⟩) (c8 : PySem.W.codeIn K cd8 "_law_take" = true) (k8 : PySem.W.keepIn K (.ref f8) = true)
    {od9 an9 : Option Addr} {sl9 : Array (Option Value)} {oc9 kV9 dc9 pm9 cd9 ct9 : Value} (a9 : PySem.W.nsIn K mainGlobals "_law_gcd" = some (some (.ref f9)))
    (l9 : K.lookup f9 = some ⟨oc9, od9, .func (PySem.W.fnOf "_law_gcd" "_law_gcd" (defArgs s__law_gcd) (defBody s__law_gcd) (defScope s__law_gcd) .none kV9 dc9 pm9 an9 cd9 ct9), sl9⟩) (c9 : PySem.W.codeIn K cd9 "_law_gcd" = true) (k9 : PySem.W.keepIn K (.ref f9) = true)
    {od10 an10 : Option Addr} {sl10 : Array (Option Value)} {oc10 kV10 dc10 pm10 cd10 ct10 : Value} (a10 : PySem.W.nsIn K mainGlobals "law" = some (some (.ref f10)))
    (l10 : K.lookup f10 = some ⟨oc10, od10, .func (PySem.W.fnOf "law" "law" (defArgs s_law) (defBody s_law) (defScope s_law) .none kV10 dc10 pm10 an10 cd10 ct10), sl10⟩) (c10 : PySem.W.codeIn K cd10 "law" = true) (k10 : PySem.W.keepIn K (.ref f10) = true)
    (z_abs : PySem.W.nsIn K mainGlobals "abs" = some none)
    (z_int : PySem.W.nsIn K mainGlobals "int" = some none)
    (z_isinstance : PySem.W.nsIn K mainGlobals "isinstance" = some none)
    (z_len : PySem.W.nsIn K mainGlobals "len" = some none)
    (z_list : PySem.W.nsIn K mainGlobals "list" = some none)
    (z_max : PySem.W.nsIn K mainGlobals "max" = some none)
    (z_range : PySem.W.nsIn K mainGlobals "range" = some none)
    (z_tuple : PySem.W.nsIn K mainGlobals "tuple" = some none)
    : ∃ fd : FuncData, (∀ (s : Shared) (v : Value), BindsTo s fd ⟨[v], []⟩ [("_law_script", v)]) ∧ ∀ base : Heap, K.In base → base.Ns mainGlobals mg → FnOk l.prog w K mg base (L2.CX l.prog w) 3 fa fd ["_law_script"] (Pr (tab K) F_law) := by
  have e := hfa.symm.trans (PySem.W.mg_of X G a10)
  cases e
  have m_abs := PySem.W.mg_none_of X G z_abs
  have m_int := PySem.W.mg_none_of X G z_int
  have m_isinstance := PySem.W.mg_none_of X G z_isinstance
  have m_len := PySem.W.mg_none_of X G z_len
  have m_list := PySem.W.mg_none_of X G z_list
  have m_max := PySem.W.mg_none_of X G z_max
  have m_range := PySem.W.mg_none_of X G z_range
  have m_tuple := PySem.W.mg_none_of X G z_tuple
  have F1 := fun_mk (st := s_prime_powers) l1 c1 k1
  have b1 := F1.binds (ps := ["n"]) fun _ _ _ _ _ _ us hl => match us, hl with | [_], _ => rfl
  have F3 := fun_mk (st := s_spread) l3 c3 k3
  have b3 := F3.binds (ps := ["poly", "p"]) fun _ _ _ _ _ _ us hl => match us, hl with | [_, _], _ => rfl
  have F4 := fun_mk (st := s_divided) l4 c4 k4
  have b4 := F4.binds (ps := ["poly", "by"]) fun _ _ _ _ _ _ us hl => match us, hl with | [_, _], _ => rfl
  have F5 := fun_mk (st := s_cyclotomic) l5 c5 k5
  have b5 := F5.binds (ps := ["e"]) fun _ _ _ _ _ _ us hl => match us, hl with | [_], _ => rfl
  have F7 := fun_mk (st := s__law_state) l7 c7 k7
  have b7 := F7.binds (ps := ["_law_script"]) fun _ _ _ _ _ _ us hl => match us, hl with | [_], _ => rfl
  have F8 := fun_mk (st := s__law_take) l8 c8 k8
  have b8 := F8.binds (ps := ["_law_state_here", "_law_m"]) fun _ _ _ _ _ _ us hl => match us, hl with | [_, _], _ => rfl
  have F9 := fun_mk (st := s__law_gcd) l9 c9 k9
  have b9 := F9.binds (ps := ["_law_a", "_law_b"]) fun _ _ _ _ _ _ us hl => match us, hl with | [_, _], _ => rfl
  have F10 := fun_mk (st := s_law) l10 c10 k10
  have b10 := F10.binds (ps := ["_law_script"]) fun _ _ _ _ _ _ us hl => match us, hl with | [_], _ => rfl
  refine ⟨PySem.W.fnOf "law" "law" (defArgs s_law) (defBody s_law) (defScope s_law) .none kV10 dc10 pm10 an10 cd10 ct10, fun s v => .of_eq rfl, fun base _ _ => ?_⟩
  have d_prime_powers : DefOk l.prog w mg base (tab K) 1 "prime_powers" 1 F_prime_powers := defOk (P := l.prog) (w := w) (base := base) (T := tab K) F1 sc_prime_powers (PySem.W.mg_of X G a1) b1 (sv_prime_powers m_tuple)
  have d_spread : DefOk l.prog w mg base (tab K) 1 "spread" 2 F_spread := defOk (P := l.prog) (w := w) (base := base) (T := tab K) F3 sc_spread (PySem.W.mg_of X G a3) b3 (sv_spread m_len m_range)
  have d_divided : DefOk l.prog w mg base (tab K) 1 "divided" 2 F_divided := defOk (P := l.prog) (w := w) (base := base) (T := tab K) F4 sc_divided (PySem.W.mg_of X G a4) b4 (sv_divided m_len m_list m_max m_range)
  have d__law_state : DefOk l.prog w mg base (tab K) 1 "_law_state" 1 F__law_state := state_ok (show DefOk l.prog w mg base (tab K) 1 "_law_state" 1 (mkF 1 4 bState) from defOk (P := l.prog) (w := w) (base := base) (T := tab K) F7 sc__law_state (PySem.W.mg_of X G a7) b7 (sv__law_state m_abs m_int))
  have d__law_take : DefOk l.prog w mg base (tab K) 1 "_law_take" 2 F__law_take := take_ok (show DefOk l.prog w mg base (tab K) 1 "_law_take" 2 (mkF 2 3 bTake) from defOk (P := l.prog) (w := w) (base := base) (T := tab K) F8 sc__law_take (PySem.W.mg_of X G a8) b8 (sv__law_take m_int))
  have d__law_gcd : DefOk l.prog w mg base (tab K) 1 "_law_gcd" 2 F__law_gcd := defOk (P := l.prog) (w := w) (base := base) (T := tab K) F9 sc__law_gcd (PySem.W.mg_of X G a9) b9 (sv__law_gcd m_abs m_int)
  have d_cyclotomic : DefOk l.prog w mg base (tab K) 2 "cyclotomic" 1 F_cyclotomic := defOk (P := l.prog) (w := w) (base := base) (T := tab K) F5 sc_cyclotomic (PySem.W.mg_of X G a5) b5 (sv_cyclotomic d_divided d_prime_powers d_spread m_range m_tuple)
  exact fn_ok (T := tab K) F10 sc_law (sv_law d__law_gcd d__law_state d__law_take d_cyclotomic m_isinstance m_len m_list m_range m_tuple)
noncomputable section
def b_prime_powers' : SF := sSeq' (sSet' (fLst' (fNil)) 1) (sSeq' (sSet' (fC (.int 2)) 2) (sSeq' (sWhile' 1000000 (fTest' (fBin' gLe' (fBin' gMulI' (fVar' 2) (fVar' 2)) (fVar' 0))) (sSeq' (sSet' (fC (.int 0)) 3) (sSeq' (sWhile' 1000000 (fTest' (fBin' gEq' (fBin' gModI' (fVar' 0) (fVar' 2)) (fC (.int 0)))) (sSeq' (sSet' (fBin' gDivI' (fVar' 0) (fVar' 2)) 0) (sSet' (fBin' gAdd' (fVar' 3) (fC (.int 1))) 3))) (sSeq' (sIf' (fTest' (fBin' gGt' (fVar' 3) (fC (.int 0)))) (sExpr' (fMeth' 5 gAppend' (fVar' 1) (fCons' (fTup' (fCons' (fVar' 2) (fCons' (fVar' 3) (fNil)))) (fNil)))) (sNil)) (sSet' (fBin' gAdd' (fVar' 2) (fC (.int 1))) 2))))) (sSeq' (sIf' (fTest' (fBin' gGt' (fVar' 0) (fC (.int 1)))) (sExpr' (fMeth' 5 gAppend' (fVar' 1) (fCons' (fTup' (fCons' (fVar' 0) (fCons' (fC (.int 1)) (fNil)))) (fNil)))) (sNil)) (sRet' (fCallL' gTuple' (fCons' (fVar' 1) (fNil)))))))
def F_prime_powers' : FF := mkF' 1 4 b_prime_powers'
theorem F_prime_powers_eq : F_prime_powers = F_prime_powers' := by
  unfold F_prime_powers F_prime_powers' b_prime_powers b_prime_powers'; simp only [fBin_eq, fCallL_eq, fCons_eq, fLst_eq, fMeth_eq, fTest_eq, fTup_eq, fVar_eq, gAdd_eq, gAppend_eq, gDivI_eq, gEq_eq, gGt_eq, gLe_eq, gModI_eq, gMulI_eq, gTuple_eq, sExpr_eq, sIf_eq, sRet_eq, sSeq_eq, sSet_eq, sWhile_eq, mkF_eq]
def b_spread' : SF := sSeq' (sSet' (fLc' 1000000 [4] (fRng1' (fCons' (fBin' gAdd' (fBin' gMulI' (fBin' gSubI' (fCallL' gLen' (fCons' (fVar' 0) (fNil))) (fC (.int 1))) (fVar' 1)) (fC (.int 1))) (fNil))) (gtN' 4) (bYes) (fC (.int 0))) 2) (sSeq' (sFor' 1000000 (fRng1' (fCons' (fCallL' gLen' (fCons' (fVar' 0) (fNil))) (fNil))) (gtN' 3) (sAsg' (fBin' gIx' (fVar' 0) (fVar' 3)) (gtSub' gSet' (fVar' 2) (fBin' gMulI' (fVar' 3) (fVar' 1))))) (sRet' (fVar' 2)))
def F_spread' : FF := mkF' 2 5 b_spread'
theorem F_spread_eq : F_spread = F_spread' := by
  unfold F_spread F_spread' b_spread b_spread'; simp only [fBin_eq, fCallL_eq, fCons_eq, fLc_eq, fRng1_eq, fVar_eq, gAdd_eq, gIx_eq, gLen_eq, gMulI_eq, gSet_eq, gSubI_eq, gtN_eq, gtSub_eq, sAsg_eq, sFor_eq, sRet_eq, sSeq_eq, sSet_eq, mkF_eq]
def b_divided' : SF := sSeq' (sSet' (fCallL' gList' (fCons' (fVar' 0) (fNil))) 2) (sSeq' (sSet' (fBin' gSubI' (fCallL' gLen' (fCons' (fVar' 1) (fNil))) (fC (.int 1))) 3) (sSeq' (sSet' (fLc' 1000000 [8] (fRng1' (fCons' (fCallL' gMax2' (fCons' (fBin' gSubI' (fCallL' gLen' (fCons' (fVar' 2) (fNil))) (fVar' 3)) (fCons' (fC (.int 0)) (fNil)))) (fNil))) (gtN' 8) (bYes) (fC (.int 0))) 4) (sSeq' (sFor' 1000000 (fRng3' (fCons' (fBin' gSubI' (fCallL' gLen' (fCons' (fVar' 4) (fNil))) (fC (.int 1))) (fCons' (fUn' gNeg' (fC (.int 1))) (fCons' (fUn' gNeg' (fC (.int 1))) (fNil))))) (gtN' 5) (sSeq' (sSet' (fBin' gIx' (fVar' 2) (fBin' gAdd' (fVar' 5) (fVar' 3))) 6) (sSeq' (sAsg' (fVar' 6) (gtSub' gSet' (fVar' 4) (fVar' 5))) (sIf' (fTest' (fBin' gNe' (fVar' 6) (fC (.int 0)))) (sFor' 1000000 (fRng1' (fCons' (fBin' gAdd' (fVar' 3) (fC (.int 1))) (fNil))) (gtN' 7) (sAsg' (fBin' gSubI' (fBin' gIx' (fVar' 2) (fBin' gAdd' (fVar' 5) (fVar' 7))) (fBin' gMulI' (fVar' 6) (fBin' gIx' (fVar' 1) (fVar' 7)))) (gtSub' gSet' (fVar' 2) (fBin' gAdd' (fVar' 5) (fVar' 7))))) (sNil))))) (sRet' (fTup' (fCons' (fVar' 4) (fCons' (fSl' (fVar' 2) (fNoP) (fPart' (fVar' 3))) (fNil))))))))
def F_divided' : FF := mkF' 2 9 b_divided'
theorem F_divided_eq : F_divided = F_divided' := by
  unfold F_divided F_divided' b_divided b_divided'; simp only [fBin_eq, fCallL_eq, fCons_eq, fLc_eq, fPart_eq, fRng1_eq, fRng3_eq, fSl_eq, fTest_eq, fTup_eq, fUn_eq, fVar_eq, gAdd_eq, gIx_eq, gLen_eq, gList_eq, gMax2_eq, gMulI_eq, gNe_eq, gNeg_eq, gSet_eq, gSubI_eq, gtN_eq, gtSub_eq, sAsg_eq, sFor_eq, sIf_eq, sRet_eq, sSeq_eq, sSet_eq, mkF_eq]
def b_cyclotomic' : SF := sSeq' (sSet' (fLst' (fCons' (fUn' gNeg' (fC (.int 1))) (fCons' (fC (.int 1)) (fNil)))) 1) (sSeq' (sFor' 1000000 (fIter' (fCall' F_prime_powers' (fCons' (fVar' 0) (fNil)))) (gtTup' 2 (gtCons' (gtN' 2) (gtCons' (gtN' 3) (gtNil)))) (sSeq' (sSet' (fBin' gIx' (fCall' F_divided' (fCons' (fCall' F_spread' (fCons' (fVar' 1) (fCons' (fVar' 2) (fNil)))) (fCons' (fVar' 1) (fNil)))) (fC (.int 0))) 1) (sFor' 1000000 (fRng1' (fCons' (fBin' gSubI' (fVar' 3) (fC (.int 1))) (fNil))) (gtN' 4) (sSet' (fCall' F_spread' (fCons' (fVar' 1) (fCons' (fVar' 2) (fNil)))) 1)))) (sRet' (fCallL' gTuple' (fCons' (fVar' 1) (fNil)))))
def F_cyclotomic' : FF := mkF' 1 5 b_cyclotomic'
theorem F_cyclotomic_eq : F_cyclotomic = F_cyclotomic' := by
  unfold F_cyclotomic F_cyclotomic' b_cyclotomic b_cyclotomic'; simp only [F_divided_eq, F_prime_powers_eq, F_spread_eq, fBin_eq, fCallL_eq, fCall_eq, fCons_eq, fIter_eq, fLst_eq, fRng1_eq, fUn_eq, fVar_eq, gIx_eq, gNeg_eq, gSubI_eq, gTuple_eq, gtCons_eq, gtN_eq, gtTup_eq, sFor_eq, sRet_eq, sSeq_eq, sSet_eq, mkF_eq]
def b__law_gcd' : SF := sSeq' (sSet' (fCallL' gAbs' (fCons' (fVar' 0) (fNil))) 0) (sSeq' (sSet' (fCallL' gAbs' (fCons' (fVar' 1) (fNil))) 1) (sSeq' (sWhile' 1000000 (fTest' (fBin' gNe' (fVar' 1) (fC (.int 0)))) (sPar' 0 1 (fCons' (fVar' 1) (fCons' (fBin' gModI' (fCallL' gInt' (fCons' (fVar' 0) (fNil))) (fVar' 1)) (fNil))))) (sRet' (fVar' 0))))
def F__law_gcd' : FF := mkF' 2 2 b__law_gcd'
theorem F__law_gcd_eq : F__law_gcd = F__law_gcd' := by
  unfold F__law_gcd F__law_gcd' b__law_gcd b__law_gcd'; simp only [fBin_eq, fCallL_eq, fCons_eq, fTest_eq, fVar_eq, gAbs_eq, gInt_eq, gModI_eq, gNe_eq, sPar_eq, sRet_eq, sSeq_eq, sSet_eq, sWhile_eq, mkF_eq]
def b_law_rest' : SF := sSeq' (sSet' (fBin' gAdd' (fC (.int 1)) (fCall' F__law_take (fCons' (fVar' 1) (fCons' (fC (.int 60)) (fNil))))) 2) (sSeq' (sSet' (fLst' (fCons' (fC (.int 1)) (fNil))) 3) (sSeq' (sFor' 1000000 (fRng2' (fCons' (fC (.int 1)) (fCons' (fBin' gAdd' (fVar' 2) (fC (.int 1))) (fNil)))) (gtN' 4) (sIf' (fTest' (fBin' gEq' (fBin' gModI' (fVar' 2) (fVar' 4)) (fC (.int 0)))) (sSeq' (sSet' (fCall' F_cyclotomic' (fCons' (fVar' 4) (fNil))) 5) (sSeq' (sIf' (fOr' (fNot' (fTest' (fIs' 4 (fVar' 5)))) (fTest' (fBin' gNe' (fBin' gIx' (fVar' 5) (fUn' gNeg' (fC (.int 1)))) (fC (.int 1))))) (sRet' (fC (.bl false))) (sNil)) (sSeq' (sIf' (fTest' (fBin' gNe' (fCallL' gLen' (fCons' (fVar' 5) (fNil))) (fBin' gAdd' (fC (.int 1)) (fCallL' gLen' (fCons' (fLc' 1000000 [9] (fRng2' (fCons' (fC (.int 1)) (fCons' (fBin' gAdd' (fVar' 4) (fC (.int 1))) (fNil)))) (gtN' 9) (fTest' (fBin' gEq' (fCall' F__law_gcd' (fCons' (fVar' 9) (fCons' (fVar' 4) (fNil)))) (fC (.int 1)))) (fVar' 9)) (fNil)))))) (sRet' (fC (.bl false))) (sNil)) (sSeq' (sSet' (fLc' 1000000 [9] (fRng1' (fCons' (fBin' gSubI' (fBin' gAdd' (fCallL' gLen' (fCons' (fVar' 3) (fNil))) (fCallL' gLen' (fCons' (fVar' 5) (fNil)))) (fC (.int 1))) (fNil))) (gtN' 9) (bYes) (fC (.int 0))) 6) (sSeq' (sFor' 1000000 (fRng1' (fCons' (fCallL' gLen' (fCons' (fVar' 3) (fNil))) (fNil))) (gtN' 7) (sFor' 1000000 (fRng1' (fCons' (fCallL' gLen' (fCons' (fVar' 5) (fNil))) (fNil))) (gtN' 8) (sAsg' (fBin' gAdd' (fBin' gIx' (fVar' 6) (fBin' gAdd' (fVar' 7) (fVar' 8))) (fBin' gMulI' (fBin' gIx' (fVar' 3) (fVar' 7)) (fBin' gIx' (fVar' 5) (fVar' 8)))) (gtSub' gSet' (fVar' 6) (fBin' gAdd' (fVar' 7) (fVar' 8)))))) (sSet' (fCallL' gList' (fCons' (fVar' 6) (fNil))) 3)))))) (sNil))) (sRet' (fBin' gEq' (fVar' 3) (fBin' gAdd' (fBin' gAdd' (fLst' (fCons' (fUn' gNeg' (fC (.int 1))) (fNil))) (fLc' 1000000 [9] (fRng1' (fCons' (fBin' gSubI' (fVar' 2) (fC (.int 1))) (fNil))) (gtN' 9) (bYes) (fC (.int 0)))) (fLst' (fCons' (fC (.int 1)) (fNil))))))))
theorem b_law_rest_eq : b_law_rest = b_law_rest' := by
  unfold b_law_rest b_law_rest'; simp only [F__law_gcd_eq, F_cyclotomic_eq, fBin_eq, fCallL_eq, fCall_eq, fCons_eq, fIs_eq, fLc_eq, fLst_eq, fNot_eq, fOr_eq, fRng1_eq, fRng2_eq, fTest_eq, fUn_eq, fVar_eq, gAdd_eq, gEq_eq, gIx_eq, gLen_eq, gList_eq, gModI_eq, gMulI_eq, gNe_eq, gNeg_eq, gSet_eq, gSubI_eq, gtN_eq, gtSub_eq, sAsg_eq, sFor_eq, sIf_eq, sRet_eq, sSeq_eq, sSet_eq]
end
end KG

set_option Elab.async false
set_option linter.all false
set_option maxRecDepth 1000000
set_option maxHeartbeats 0
namespace KG
open PySem PySem.Spec PyProof.Rows L2 Z
theorem p_sz : pickSize (lawR' 10 1 b_law_rest') = 60 := by decide +kernel
theorem p_0 : checkAt (lawR' 10 1 b_law_rest') 0 = true := by decide +kernel
theorem p_1 : checkAt (lawR' 10 1 b_law_rest') 1 = true := by decide +kernel
theorem p_2 : checkAt (lawR' 10 1 b_law_rest') 2 = true := by decide +kernel
theorem p_3 : checkAt (lawR' 10 1 b_law_rest') 3 = true := by decide +kernel
theorem p_4 : checkAt (lawR' 10 1 b_law_rest') 4 = true := by decide +kernel
theorem p_5 : checkAt (lawR' 10 1 b_law_rest') 5 = true := by decide +kernel
theorem p_6 : checkAt (lawR' 10 1 b_law_rest') 6 = true := by decide +kernel
theorem p_7 : checkAt (lawR' 10 1 b_law_rest') 7 = true := by decide +kernel
theorem p_8 : checkAt (lawR' 10 1 b_law_rest') 8 = true := by decide +kernel
theorem p_9 : checkAt (lawR' 10 1 b_law_rest') 9 = true := by decide +kernel
theorem p_10 : checkAt (lawR' 10 1 b_law_rest') 10 = true := by decide +kernel
theorem p_11 : checkAt (lawR' 10 1 b_law_rest') 11 = true := by decide +kernel
theorem p_12 : checkAt (lawR' 10 1 b_law_rest') 12 = true := by decide +kernel
theorem p_13 : checkAt (lawR' 10 1 b_law_rest') 13 = true := by decide +kernel
theorem p_14 : checkAt (lawR' 10 1 b_law_rest') 14 = true := by decide +kernel
theorem p_15 : checkAt (lawR' 10 1 b_law_rest') 15 = true := by decide +kernel
theorem p_16 : checkAt (lawR' 10 1 b_law_rest') 16 = true := by decide +kernel
theorem p_17 : checkAt (lawR' 10 1 b_law_rest') 17 = true := by decide +kernel
theorem p_18 : checkAt (lawR' 10 1 b_law_rest') 18 = true := by decide +kernel
theorem p_19 : checkAt (lawR' 10 1 b_law_rest') 19 = true := by decide +kernel
theorem p_20 : checkAt (lawR' 10 1 b_law_rest') 20 = true := by decide +kernel
theorem p_21 : checkAt (lawR' 10 1 b_law_rest') 21 = true := by decide +kernel
theorem p_22 : checkAt (lawR' 10 1 b_law_rest') 22 = true := by decide +kernel
theorem p_23 : checkAt (lawR' 10 1 b_law_rest') 23 = true := by decide +kernel
theorem p_24 : checkAt (lawR' 10 1 b_law_rest') 24 = true := by decide +kernel
theorem p_25 : checkAt (lawR' 10 1 b_law_rest') 25 = true := by decide +kernel
theorem p_26 : checkAt (lawR' 10 1 b_law_rest') 26 = true := by decide +kernel
theorem p_27 : checkAt (lawR' 10 1 b_law_rest') 27 = true := by decide +kernel
theorem p_28 : checkAt (lawR' 10 1 b_law_rest') 28 = true := by decide +kernel
theorem p_29 : checkAt (lawR' 10 1 b_law_rest') 29 = true := by decide +kernel
theorem p_30 : checkAt (lawR' 10 1 b_law_rest') 30 = true := by decide +kernel
theorem p_31 : checkAt (lawR' 10 1 b_law_rest') 31 = true := by decide +kernel
theorem p_32 : checkAt (lawR' 10 1 b_law_rest') 32 = true := by decide +kernel
theorem p_33 : checkAt (lawR' 10 1 b_law_rest') 33 = true := by decide +kernel
theorem p_34 : checkAt (lawR' 10 1 b_law_rest') 34 = true := by decide +kernel
theorem p_35 : checkAt (lawR' 10 1 b_law_rest') 35 = true := by decide +kernel
theorem p_36 : checkAt (lawR' 10 1 b_law_rest') 36 = true := by decide +kernel
theorem p_37 : checkAt (lawR' 10 1 b_law_rest') 37 = true := by decide +kernel
theorem p_38 : checkAt (lawR' 10 1 b_law_rest') 38 = true := by decide +kernel
theorem p_39 : checkAt (lawR' 10 1 b_law_rest') 39 = true := by decide +kernel
theorem p_40 : checkAt (lawR' 10 1 b_law_rest') 40 = true := by decide +kernel
theorem p_41 : checkAt (lawR' 10 1 b_law_rest') 41 = true := by decide +kernel
theorem p_42 : checkAt (lawR' 10 1 b_law_rest') 42 = true := by decide +kernel
theorem p_43 : checkAt (lawR' 10 1 b_law_rest') 43 = true := by decide +kernel
theorem p_44 : checkAt (lawR' 10 1 b_law_rest') 44 = true := by decide +kernel
theorem p_45 : checkAt (lawR' 10 1 b_law_rest') 45 = true := by decide +kernel
theorem p_46 : checkAt (lawR' 10 1 b_law_rest') 46 = true := by decide +kernel
theorem p_47 : checkAt (lawR' 10 1 b_law_rest') 47 = true := by decide +kernel
theorem p_48 : checkAt (lawR' 10 1 b_law_rest') 48 = true := by decide +kernel
theorem p_49 : checkAt (lawR' 10 1 b_law_rest') 49 = true := by decide +kernel
theorem p_50 : checkAt (lawR' 10 1 b_law_rest') 50 = true := by decide +kernel
theorem p_51 : checkAt (lawR' 10 1 b_law_rest') 51 = true := by decide +kernel
theorem p_52 : checkAt (lawR' 10 1 b_law_rest') 52 = true := by decide +kernel
theorem p_53 : checkAt (lawR' 10 1 b_law_rest') 53 = true := by decide +kernel
theorem p_54 : checkAt (lawR' 10 1 b_law_rest') 54 = true := by decide +kernel
theorem p_55 : checkAt (lawR' 10 1 b_law_rest') 55 = true := by decide +kernel
theorem p_56 : checkAt (lawR' 10 1 b_law_rest') 56 = true := by decide +kernel
theorem p_57 : checkAt (lawR' 10 1 b_law_rest') 57 = true := by decide +kernel
theorem p_58 : checkAt (lawR' 10 1 b_law_rest') 58 = true := by decide +kernel
theorem p_59 : checkAt (lawR' 10 1 b_law_rest') 59 = true := by decide +kernel
theorem p_all : ∀ i, i < 60 → checkAt (lawR' 10 1 b_law_rest') i = true
  | 0, _ => p_0
  | 1, _ => p_1
  | 2, _ => p_2
  | 3, _ => p_3
  | 4, _ => p_4
  | 5, _ => p_5
  | 6, _ => p_6
  | 7, _ => p_7
  | 8, _ => p_8
  | 9, _ => p_9
  | 10, _ => p_10
  | 11, _ => p_11
  | 12, _ => p_12
  | 13, _ => p_13
  | 14, _ => p_14
  | 15, _ => p_15
  | 16, _ => p_16
  | 17, _ => p_17
  | 18, _ => p_18
  | 19, _ => p_19
  | 20, _ => p_20
  | 21, _ => p_21
  | 22, _ => p_22
  | 23, _ => p_23
  | 24, _ => p_24
  | 25, _ => p_25
  | 26, _ => p_26
  | 27, _ => p_27
  | 28, _ => p_28
  | 29, _ => p_29
  | 30, _ => p_30
  | 31, _ => p_31
  | 32, _ => p_32
  | 33, _ => p_33
  | 34, _ => p_34
  | 35, _ => p_35
  | 36, _ => p_36
  | 37, _ => p_37
  | 38, _ => p_38
  | 39, _ => p_39
  | 40, _ => p_40
  | 41, _ => p_41
  | 42, _ => p_42
  | 43, _ => p_43
  | 44, _ => p_44
  | 45, _ => p_45
  | 46, _ => p_46
  | 47, _ => p_47
  | 48, _ => p_48
  | 49, _ => p_49
  | 50, _ => p_50
  | 51, _ => p_51
  | 52, _ => p_52
  | 53, _ => p_53
  | 54, _ => p_54
  | 55, _ => p_55
  | 56, _ => p_56
  | 57, _ => p_57
  | 58, _ => p_58
  | 59, _ => p_59
  | n + 60, h => absurd h (by omega)
theorem holds : Holds F_law := holds_state (rest := b_law_rest) rfl (by decide) (by
  rw [lawR_eq, b_law_rest_eq]
  exact check_of p_sz (by decide) p_all)
end KG

set_option Elab.async false
set_option linter.all false
set_option maxRecDepth 100000
open PySem PySem.W PyProof.Rows
set_option maxHeartbeats 0 in
theorem PySem.Challenge.cw_classtable_k02_cyclotomic_polynomials_holds : PySem.Challenge.rw_classtable_k02_cyclotomic_polynomials.Holds := by
  w_on; o_law; k_head; (case hw => w_witness2)
  k_fill
  refine L2.walk_of (l := PySem.Challenge.rw_classtable_k02_cyclotomic_polynomials) (n := 63) (k := 3) (x := "_law_script") (CX := fun w => L2.CX PySem.Challenge.rw_classtable_k02_cyclotomic_polynomials.prog w) (sp := fun w => Z.Pr (KG.tab _) KG.F_law) rfl (by decide) rfl ⟨rfl, by decide, by decide⟩ (fun w h Y => PySem.W.kIn_of Y) ?F (fun _ _ a ns hl ho hS => Z.law_sp KG.holds _ _ _ hl ho hS) (fun _ _ _ _ _ h => Z.no_cx h)
  case F =>
    intro w mg fa h KX G hmg
    refine' KG.all_mk KX G hmg ?a1 ?l1 ?c1 ?k1 ?a3 ?l3 ?c3 ?k3 ?a4 ?l4 ?c4 ?k4 ?a5 ?l5 ?c5 ?k5 ?a7 ?l7 ?c7 ?k7 ?a8 ?l8 ?c8 ?k8 ?a9 ?l9 ?c9 ?k9 ?a10 ?l10 ?c10 ?k10 ?z_abs ?z_int ?z_isinstance ?z_len ?z_list ?z_max ?z_range ?z_tuple
    (case a1 => k_is); (case l1 => k_is); (case c1 => k_is); (case k1 => k_is); (case a3 => k_is); (case l3 => k_is); (case c3 => k_is); (case k3 => k_is); (case a4 => k_is); (case l4 => k_is); (case c4 => k_is); (case k4 => k_is); (case a5 => k_is); (case l5 => k_is); (case c5 => k_is); (case k5 => k_is); (case a7 => k_is); (case l7 => k_is); (case c7 => k_is); (case k7 => k_is); (case a8 => k_is); (case l8 => k_is); (case c8 => k_is); (case k8 => k_is); (case a9 => k_is); (case l9 => k_is); (case c9 => k_is); (case k9 => k_is); (case a10 => k_is); (case l10 => k_is); (case c10 => k_is); (case k10 => k_is); (case z_abs => k_is); (case z_int => k_is); (case z_isinstance => k_is); (case z_len => k_is); (case z_list => k_is); (case z_max => k_is); (case z_range => k_is); (case z_tuple => k_is)
