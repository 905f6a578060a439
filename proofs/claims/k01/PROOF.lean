import PyProof.Rows.All
import Wide.All
import OpenK.AllK
import Wide.FinOn
import HandS.Base
import HandS.Call
import HandS.List
import HandS.Comp
import HandS.Dict
import HandS.Exc
import HandS.Iter
import HandS.Text
import HandS.Conv
import HandS.IsInst
import HandS.WordsExc
import HandS.TryOnly
import HandS.Zip
import HandS.Ends
import HandS.WordsList
import HandS.ExcOwn
import HandS.ExcIs
import HandS.TryMany
import PySem.Challenge.RW_classtable_k01_modulo_a_prime
set_option autoImplicit false

set_option Elab.async false
set_option linter.all false
set_option maxRecDepth 100000
namespace Z
open PySem PySem.Spec PyProof.Rows L2

/-! ### values as trees, objects by number, the outcome of a piece of code -/
inductive D where
  | non | bl (b : Bool) | int (i : Int) | str (x : Str) | ty (n : String)
  | tup (xs : List D)
  | ins (c : Nat) (xs : List D)
  | ref (n : Nat)
  | cls (k : Nat)
  | kl (xs : List D)
  | xn (c : Nat) (xs : List D)
inductive AO where
  | lst (xs : List D)
  | dK (kvs : List (Key × D))
  | dT (kvs : List (List Key × D))
  | ob (c : Nat) (xs : List D)
  | st
  | junk
structure Exn where
  c : Nat
  fs : Option (List D)
abbrev Hs := List AO
inductive R (α : Type) where
  | ret (a : α) (h : Hs) | exc (e : Exn) (h : Hs) | fail | pick (n : Nat) (k : Nat → R α)
def R.bind {α β : Type} (r : R α) (f : α → Hs → R β) : R β :=
  match r with
  | .ret a h => f a h
  | .exc e h => .exc e h
  | .fail => .fail
  | .pick n k => .pick n fun i => (k i).bind f
def wp {α : Type} (r : R α) (Q : α → Hs → Prop) (E : Exn → Hs → Prop) : Prop :=
  match r with
  | .ret a h => Q a h
  | .exc e h => E e h
  | .fail => False
  | .pick n k => ∀ i, i < n → wp (k i) Q E
theorem wp_mono {α : Type} {Q Q' : α → Hs → Prop} {E E' : Exn → Hs → Prop} (hQ : ∀ a h, Q a h → Q' a h) (hE : ∀ e h, E e h → E' e h) : ∀ r : R α, wp r Q E → wp r Q' E'
  | .ret a h, q => hQ a h q
  | .exc e h, q => hE e h q
  | .fail, q => q
  | .pick n k, q => fun i hi => wp_mono hQ hE (k i) (q i hi)
theorem wp_bind {α β : Type} {f : α → Hs → R β} {Q : β → Hs → Prop} {E : Exn → Hs → Prop} : ∀ {r : R α}, wp (r.bind f) Q E → wp r (fun a h => wp (f a h) Q E) E
  | .ret a h, q => q
  | .exc e h, q => q
  | .fail, q => q
  | .pick n k, q => fun i hi => wp_bind (q i hi)
theorem wp_bind' {α β : Type} {f : α → Hs → R β} {Q : β → Hs → Prop} {E : Exn → Hs → Prop} : ∀ {r : R α}, wp r (fun a h => wp (f a h) Q E) E → wp (r.bind f) Q E
  | .ret a h, q => q
  | .exc e h, q => q
  | .fail, q => q
  | .pick n k, q => fun i hi => wp_bind' (q i hi)

/-! ### what they stand for -/
structure Tab where
  K : PySem.W.Frag
  cl : Nat → Addr
  fl : Nat → List Str
  /-- the exception that an except clause has named: its object, its dict, its class -/
  xo : Option (Addr × Option Addr × Nat)
/-- a list that never changes: known to its object, or one of the module's -/
def FzL (K : PySem.W.Frag) (H : Hp) (a : Addr) (xs : List V) : Prop := (∃ o, H a = some (.frz o (.lst xs))) ∨
    ∃ (o : Obj) (its : Array Value) (n : Nat), K.lookup a = some o ∧ o.cls = .type "list" ∧ o.dict = none ∧ o.data = .seq its n ∧ its.size ≤ sizeLine ∧ Vals xs its.toList
theorem FzL.sq {K : PySem.W.Frag} {H : Hp} {a : Addr} {xs : List V} (h : FzL K H a xs) : SqL K H a xs := by
  rcases h with ⟨o, h⟩ | h
  · exact .inl (.inr ⟨o, h⟩)
  · exact .inr h
mutual
inductive Rep (T : Tab) (ρ : List Addr) (H : Hp) : D → V → Prop
  | non : Rep T ρ H .non .non
  | bl (b : Bool) : Rep T ρ H (.bl b) (.bl b)
  | int (i : Int) : Rep T ρ H (.int i) (.int i)
  | str (x : Str) : Rep T ρ H (.str x) (.str x)
  | ty (n : String) : Rep T ρ H (.ty n) (.ty n)
  | tup {ds : List D} {vs : List V} {a : Addr} : SqT T.K H a vs → RepL T ρ H ds vs → Rep T ρ H (.tup ds) (.ref a)
  | ins {c : Nat} {ds : List D} {vs : List V} {a dx : Addr} : a ∉ ρ → H a = some (.ins (T.cl c) dx ((T.fl c).zip vs)) → RepL T ρ H ds vs → Rep T ρ H (.ins c ds) (.ref a)
  | ref {n : Nat} {a : Addr} : ρ[n]? = some a → Rep T ρ H (.ref n) (.ref a)
  | cls (k : Nat) : Rep T ρ H (.cls k) (.ref (T.cl k))
  | kl {ds : List D} {vs : List V} {a : Addr} : FzL T.K H a vs → RepL T ρ H ds vs → Rep T ρ H (.kl ds) (.ref a)
  | xn0 {c : Nat} {a : Addr} : T.xo = some (a, none, c) → Rep T ρ H (.xn c []) (.ref a)
  | xn {c : Nat} {ds : List D} {vs : List V} {a d : Addr} : T.xo = some (a, some d, c) → ds ≠ [] → d ∉ ρ → H d = some (.xd ((T.fl c).zip vs)) → RepL T ρ H ds vs → Rep T ρ H (.xn c ds) (.ref a)
inductive RepL (T : Tab) (ρ : List Addr) (H : Hp) : List D → List V → Prop
  | nil : RepL T ρ H [] []
  | cons {d : D} {v : V} {ds : List D} {vs : List V} : Rep T ρ H d v → RepL T ρ H ds vs → RepL T ρ H (d :: ds) (v :: vs)
end
/-- what lasts: all that is not ours, tuples, known things -/
structure Ex (ρ : List Addr) (H : Hp) (ρ' : List Addr) (H' : Hp) : Prop where
  pre : ρ <+: ρ'
  tup : ∀ a xs, H a = some (.tup xs) → H' a = some (.tup xs)
  frz : ∀ a o u, H a = some (.frz o u) → H' a = some (.frz o u)
  keep : ∀ a u, a ∉ ρ → H a = some u → H' a = some u ∧ a ∉ ρ'
theorem Ex.refl {ρ : List Addr} {H : Hp} : Ex ρ H ρ H := ⟨List.prefix_rfl, fun _ _ h => h, fun _ _ _ h => h, fun _ _ n h => ⟨h, n⟩⟩
theorem Ex.trans {ρ ρ1 ρ2 : List Addr} {H H1 H2 : Hp} (a : Ex ρ H ρ1 H1) (b : Ex ρ1 H1 ρ2 H2) : Ex ρ H ρ2 H2 :=
  ⟨a.pre.trans b.pre, fun c xs h => b.tup c xs (a.tup c xs h), fun c o u h => b.frz c o u (a.frz c o u h), fun c u n h => b.keep c u (a.keep c u n h).2 (a.keep c u n h).1⟩
/-- what values lean on -/
structure Ey (ρ : List Addr) (H : Hp) (ρ' : List Addr) (H' : Hp) : Prop where
  pre : ρ <+: ρ'
  tup : ∀ a xs, H a = some (.tup xs) → H' a = some (.tup xs)
  frz : ∀ a o u, H a = some (.frz o u) → H' a = some (.frz o u)
  ins : ∀ a C dx fs, a ∉ ρ → H a = some (.ins C dx fs) → H' a = some (.ins C dx fs) ∧ a ∉ ρ'
  xd : ∀ a fs, a ∉ ρ → H a = some (.xd fs) → H' a = some (.xd fs) ∧ a ∉ ρ'
theorem Ex.y {ρ ρ' : List Addr} {H H' : Hp} (x : Ex ρ H ρ' H') : Ey ρ H ρ' H' := ⟨x.pre, x.tup, x.frz, fun a _ _ _ n e => x.keep a _ n e, fun a _ n e => x.keep a _ n e⟩
theorem Ey.sqT {K : PySem.W.Frag} {ρ ρ' : List Addr} {H H' : Hp} {a : Addr} {xs : List V} (x : Ey ρ H ρ' H') (h : SqT K H a xs) : SqT K H' a xs := by
  rcases h with (h | ⟨o, h⟩) | h
  · exact .inl (.inl (x.tup _ _ h))
  · exact .inl (.inr ⟨o, x.frz _ _ _ h⟩)
  · exact .inr h
theorem Ey.fz {K : PySem.W.Frag} {ρ ρ' : List Addr} {H H' : Hp} {a : Addr} {xs : List V} (x : Ey ρ H ρ' H') (h : FzL K H a xs) : FzL K H' a xs := by
  rcases h with ⟨o, h⟩ | h
  · exact .inl ⟨o, x.frz _ _ _ h⟩
  · exact .inr h
theorem pre_get {ρ ρ' : List Addr} (p : ρ <+: ρ') {n : Nat} {a : Addr} (h : ρ[n]? = some a) : ρ'[n]? = some a := by
  obtain ⟨t, rfl⟩ := p
  rw [List.getElem?_append_left (by obtain ⟨z, _⟩ := List.getElem?_eq_some_iff.mp h; exact z)]
  exact h
section
variable {T : Tab} {ρ ρ' : List Addr} {H H' : Hp}
mutual
theorem Rep.monoY (x : Ey ρ H ρ' H') : ∀ {d : D} {v : V}, Rep T ρ H d v → Rep T ρ' H' d v
  | _, _, .non => .non
  | _, _, .bl b => .bl b
  | _, _, .int b => .int b
  | _, _, .str b => .str b
  | _, _, .ty b => .ty b
  | _, _, .tup s r => .tup (x.sqT s) (RepL.monoY x r)
  | _, _, .ins n e r => .ins (x.ins _ _ _ _ n e).2 (x.ins _ _ _ _ n e).1 (RepL.monoY x r)
  | _, _, .ref e => .ref (pre_get x.pre e)
  | _, _, .cls k => .cls k
  | _, _, .kl s r => .kl (x.fz s) (RepL.monoY x r)
  | _, _, .xn0 e => .xn0 e
  | _, _, .xn e ne n h r => .xn e ne (x.xd _ _ n h).2 (x.xd _ _ n h).1 (RepL.monoY x r)
theorem RepL.monoY (x : Ey ρ H ρ' H') : ∀ {d : List D} {v : List V}, RepL T ρ H d v → RepL T ρ' H' d v
  | _, _, .nil => .nil
  | _, _, .cons r s => .cons (Rep.monoY x r) (RepL.monoY x s)
end
theorem Rep.mono (x : Ex ρ H ρ' H') {d : D} {v : V} (r : Rep T ρ H d v) : Rep T ρ' H' d v := r.monoY x.y
theorem RepL.mono (x : Ex ρ H ρ' H') {d : List D} {v : List V} (r : RepL T ρ H d v) : RepL T ρ' H' d v := r.monoY x.y
end
end Z

set_option Elab.async false
set_option linter.all false
set_option maxRecDepth 100000
namespace Z
open PySem PySem.Spec PyProof.Rows L2

/-! ### the abstract objects in the heap -/
inductive RepK (T : Tab) (ρ : List Addr) (H : Hp) {κ : Type} : List (κ × D) → List (κ × V) → Prop
  | nil : RepK T ρ H [] []
  | cons {k : κ} {d : D} {v : V} {ds : List (κ × D)} {vs : List (κ × V)} : Rep T ρ H d v → RepK T ρ H ds vs → RepK T ρ H ((k, d) :: ds) ((k, v) :: vs)
def RepO (T : Tab) (ρ : List Addr) (H : Hp) (a : Addr) : AO → Prop
  | .lst ds => ∃ vs, H a = some (.lst vs) ∧ RepL T ρ H ds vs
  | .dK ds => ∃ vs, H a = some (.dK vs) ∧ RepK T ρ H ds vs
  | .dT ds => ∃ vs, H a = some (.dT vs) ∧ RepK T ρ H ds vs
  | .ob c ds => ∃ dx vs, H a = some (.ins (T.cl c) dx ((T.fl c).zip vs)) ∧ ds.length ≤ (T.fl c).length ∧ RepL T ρ H ds vs
  | .st => ∃ s t : Int, H a = some (.lst [.int s, .int t])
  | .junk => ∃ u, H a = some u
structure RepH (T : Tab) (ρ : List Addr) (H : Hp) (h : Hs) : Prop where
  len : ρ.length = h.length
  nd : ρ.Nodup
  at_ : ∀ (n : Nat) (o : AO) (a : Addr), h[n]? = some o → ρ[n]? = some a → RepO T ρ H a o
section
variable {T : Tab} {ρ ρ' : List Addr} {H H' : Hp} {h h' : Hs} {a p : Addr} {n : Nat}
theorem RepK.monoY {κ : Type} (x : Ey ρ H ρ' H') : ∀ {d : List (κ × D)} {v : List (κ × V)}, RepK T ρ H d v → RepK T ρ' H' d v
  | _, _, .nil => .nil
  | _, _, .cons r s => .cons (r.monoY x) (RepK.monoY x s)
theorem RepK.mono {κ : Type} (x : Ex ρ H ρ' H') {d : List (κ × D)} {v : List (κ × V)} (r : RepK T ρ H d v) : RepK T ρ' H' d v := r.monoY x.y
theorem RepL.length : ∀ {ds : List D} {vs : List V}, RepL T ρ H ds vs → ds.length = vs.length
  | _, _, .nil => rfl
  | _, _, .cons _ s => by rw [List.length_cons, List.length_cons, RepL.length s]
theorem RepL.get : ∀ {ds : List D} {vs : List V} {i : Nat} {d : D}, RepL T ρ H ds vs → ds[i]? = some d → ∃ v, vs[i]? = some v ∧ Rep T ρ H d v
  | _, _, _, _, .nil, e => by simp at e
  | _, _, 0, _, .cons r _, e => by simp at e; subst e; exact ⟨_, rfl, r⟩
  | _, _, i + 1, d, .cons _ s, e => by
    obtain ⟨v, h1, h2⟩ := RepL.get (i := i) (d := d) s (by simpa using e)
    exact ⟨v, by simpa using h1, h2⟩
theorem RepL.append : ∀ {ds es : List D} {vs ws : List V}, RepL T ρ H ds vs → RepL T ρ H es ws → RepL T ρ H (ds ++ es) (vs ++ ws)
  | _, _, _, _, .nil, s => s
  | _, _, _, _, .cons r t, s => .cons r (RepL.append t s)
theorem RepL.set {d : D} {v : V} (r : Rep T ρ H d v) : ∀ {ds : List D} {vs : List V} (i : Nat), RepL T ρ H ds vs → RepL T ρ H (ds.set i d) (vs.set i v)
  | _, _, _, .nil => .nil
  | _, _, 0, .cons _ t => .cons r t
  | _, _, i + 1, .cons q t => .cons q (RepL.set r i t)
theorem RepL.take : ∀ {ds : List D} {vs : List V} (n : Nat), RepL T ρ H ds vs → RepL T ρ H (ds.take n) (vs.take n)
  | _, _, 0, _ => .nil
  | _, _, _ + 1, .nil => .nil
  | _, _, n + 1, .cons r t => .cons r (RepL.take n t)
theorem RepL.drop : ∀ {ds : List D} {vs : List V} (n : Nat), RepL T ρ H ds vs → RepL T ρ H (ds.drop n) (vs.drop n)
  | _, _, 0, r => r
  | _, _, _ + 1, .nil => .nil
  | _, _, n + 1, .cons _ t => RepL.drop n t
theorem RepL.reverse {ds : List D} {vs : List V} (r : RepL T ρ H ds vs) : RepL T ρ H ds.reverse vs.reverse := by
  induction ds generalizing vs with
  | nil => cases r; exact .nil
  | cons d ds ih =>
    cases r with
    | cons q t =>
      rw [List.reverse_cons, List.reverse_cons]
      exact (ih t).append (.cons q .nil)
theorem RepO.there {o : AO} (r : RepO T ρ H a o) : ∃ u, H a = some u := by
  cases o with
  | lst => obtain ⟨_, e, _⟩ := r; exact ⟨_, e⟩
  | dK => obtain ⟨_, e, _⟩ := r; exact ⟨_, e⟩
  | dT => obtain ⟨_, e, _⟩ := r; exact ⟨_, e⟩
  | ob => obtain ⟨_, _, e, _⟩ := r; exact ⟨_, e⟩
  | st => obtain ⟨_, _, e⟩ := r; exact ⟨_, e⟩
  | junk => exact r
theorem RepH.lt (r : RepH T ρ H h) {o : AO} (e : h[n]? = some o) : ∃ a, ρ[n]? = some a := by
  obtain ⟨z, _⟩ := List.getElem?_eq_some_iff.mp e
  exact ⟨ρ[n]'(by rw [r.len]; exact z), List.getElem?_eq_getElem _⟩
theorem RepH.there (r : RepH T ρ H h) (m : a ∈ ρ) : ∃ u, H a = some u := by
  obtain ⟨n, hn⟩ := List.getElem?_of_mem m
  obtain ⟨z, _⟩ := List.getElem?_eq_some_iff.mp hn
  exact (r.at_ n _ a (List.getElem?_eq_getElem (by rw [← r.len]; exact z)) hn).there
theorem RepH.fresh (r : RepH T ρ H h) (n : H p = none) : p ∉ ρ := fun m => by
  obtain ⟨u, e⟩ := r.there m
  rw [n] at e; cases e
/-- a tuple, an instance, any new thing that is no object of ours -/
theorem Ex.new {o : HO} (n : H p = none) : Ex ρ H ρ (upd H p o) :=
  ⟨List.prefix_rfl, fun b xs e => by rw [upd_ne (ne_of_none e n)]; exact e, fun b xs u e => by rw [upd_ne (ne_of_none e n)]; exact e, fun b u m e => ⟨by rw [upd_ne (ne_of_none e n)]; exact e, m⟩⟩
theorem RepO.atY {o : AO} (x : Ey ρ H ρ' H') (e : H' a = H a) (r : RepO T ρ H a o) : RepO T ρ' H' a o := by
  cases o with
  | lst => obtain ⟨vs, e1, q⟩ := r; exact ⟨vs, by rw [e]; exact e1, q.monoY x⟩
  | dK => obtain ⟨vs, e1, q⟩ := r; exact ⟨vs, by rw [e]; exact e1, q.monoY x⟩
  | dT => obtain ⟨vs, e1, q⟩ := r; exact ⟨vs, by rw [e]; exact e1, q.monoY x⟩
  | ob => obtain ⟨dx, vs, e1, l, q⟩ := r; exact ⟨dx, vs, by rw [e]; exact e1, l, q.monoY x⟩
  | st => obtain ⟨s, t, e1⟩ := r; exact ⟨s, t, by rw [e]; exact e1⟩
  | junk => obtain ⟨u, e1⟩ := r; exact ⟨u, by rw [e]; exact e1⟩
theorem RepO.at {o : AO} (x : Ex ρ H ρ' H') (e : H' a = H a) (r : RepO T ρ H a o) : RepO T ρ' H' a o := r.atY x.y e
theorem RepH.new {o : HO} (r : RepH T ρ H h) (n : H p = none) : RepH T ρ (upd H p o) h :=
  ⟨r.len, r.nd, fun m u a e1 e2 => (r.at_ m u a e1 e2).at (.new n) (upd_ne fun z => r.fresh n (z ▸ List.mem_of_getElem? e2))⟩
/-- a new object of ours -/
theorem Ex.alloc {o : HO} (n : H p = none) : Ex ρ H (ρ ++ [p]) (upd H p o) :=
  ⟨List.prefix_append _ _, fun b xs e => by rw [upd_ne (ne_of_none e n)]; exact e, fun b xs u e => by rw [upd_ne (ne_of_none e n)]; exact e, fun b u m e => ⟨by rw [upd_ne (ne_of_none e n)]; exact e, fun z => by
    rcases List.mem_append.mp z with z | z
    · exact m z
    · exact ne_of_none e n (by simpa using z)⟩⟩
theorem RepH.alloc {o : HO} {u : AO} (r : RepH T ρ H h) (n : H p = none) (q : RepO T (ρ ++ [p]) (upd H p o) p u) : RepH T (ρ ++ [p]) (upd H p o) (h ++ [u]) := by
  have f := r.fresh n
  refine ⟨by rw [List.length_append, List.length_append, r.len]; rfl, ?_, fun m x a e1 e2 => ?_⟩
  · rw [List.nodup_append]
    exact ⟨r.nd, by simp, fun b hb c hc z => f (by rw [List.mem_singleton] at hc; rw [← hc, ← z]; exact hb)⟩
  · by_cases hm : m < h.length
    · rw [List.getElem?_append_left hm] at e1
      rw [List.getElem?_append_left (by rw [r.len]; exact hm)] at e2
      exact (r.at_ m x a e1 e2).at (.alloc n) (upd_ne fun z => f (z ▸ List.mem_of_getElem? e2))
    · have e : m = h.length := by
        obtain ⟨z, _⟩ := List.getElem?_eq_some_iff.mp e1
        rw [List.length_append] at z
        have : [u].length = 1 := rfl
        omega
      subst e
      rw [List.getElem?_append_right (Nat.le_refl _), Nat.sub_self] at e1
      rw [← r.len, List.getElem?_append_right (Nat.le_refl _), Nat.sub_self] at e2
      cases e1; cases e2
      exact q
theorem Rep.last : Rep T (ρ ++ [p]) H (.ref ρ.length) (.ref p) := .ref (by rw [List.getElem?_append_right (Nat.le_refl _), Nat.sub_self]; rfl)
/-- what may be written -/
def MutO : HO → Bool
  | .lst _ => true
  | .dK _ => true
  | .dT _ => true
  | .ins _ _ _ => true
  | _ => false
theorem Ex.write {o o' : HO} (m : a ∈ ρ) (e : H a = some o) (mu : MutO o = true) : Ex ρ H ρ (upd H a o') := by
  refine ⟨List.prefix_rfl, fun b xs q => ?_, fun b x u q => ?_, fun b u nb q => ⟨?_, nb⟩⟩
  · rw [upd_ne fun z => ?_]; exact q
    rw [z, e] at q; cases q; cases mu
  · rw [upd_ne fun z => ?_]; exact q
    rw [z, e] at q; cases q; cases mu
  · rw [upd_ne fun z => ?_]; exact q
    rw [z] at nb; exact nb m
theorem nodup_ne : ∀ {ρ : List Addr}, ρ.Nodup → ∀ {i j : Nat} {a : Addr}, ρ[i]? = some a → ρ[j]? = some a → i = j
  | [], _, _, _, _, h, _ => by simp at h
  | _ :: _, _, 0, 0, _, _, _ => rfl
  | b :: r, nd, 0, j + 1, a, h1, h2 => by
    simp at h1 h2
    subst h1
    exact absurd (List.mem_of_getElem? h2) (List.nodup_cons.mp nd).1
  | b :: r, nd, i + 1, 0, a, h1, h2 => by
    simp at h1 h2
    subst h2
    exact absurd (List.mem_of_getElem? h1) (List.nodup_cons.mp nd).1
  | b :: r, nd, i + 1, j + 1, a, h1, h2 => by
    simp at h1 h2
    rw [nodup_ne (List.nodup_cons.mp nd).2 h1 h2]
theorem RepH.write {o o' : HO} {u : AO} (r : RepH T ρ H h) (e2 : ρ[n]? = some a) (e : H a = some o) (mu : MutO o = true) (q : RepO T ρ (upd H a o') a u) : RepH T ρ (upd H a o') (h.set n u) := by
  refine ⟨by rw [List.length_set]; exact r.len, r.nd, fun m x b q1 q2 => ?_⟩
  by_cases hm : n = m
  · subst hm
    rw [e2] at q2; cases q2
    rw [List.getElem?_set_self (by obtain ⟨z, _⟩ := List.getElem?_eq_some_iff.mp e2; rw [← r.len]; exact z)] at q1
    cases q1
    exact q
  · rw [List.getElem?_set_ne hm] at q1
    exact (r.at_ m x b q1 q2).at (.write (List.mem_of_getElem? e2) e mu) (upd_ne fun z => hm (nodup_ne r.nd e2 (z ▸ q2)))
end

/-! ### slots -/
abbrev Env' := List (Option D)
def RepE (T : Tab) (ρ : List Addr) (H : Hp) (env : Env') (σ : L2.St) : Prop := env.length = σ.length ∧ ∀ (i : Nat) (d : D), env[i]? = some (some d) → ∃ v, σ[i]? = some (some v) ∧ Rep T ρ H d v
section
variable {T : Tab} {ρ ρ' : List Addr} {H H' : Hp} {env : Env'} {σ : L2.St}
theorem RepE.mono (x : Ex ρ H ρ' H') (r : RepE T ρ H env σ) : RepE T ρ' H' env σ := ⟨r.1, fun i d e => by
  obtain ⟨v, e1, q⟩ := r.2 i d e
  exact ⟨v, e1, q.mono x⟩⟩
theorem RepE.set {i : Nat} {d : D} {v : V} (r : RepE T ρ H env σ) (q : Rep T ρ H d v) : RepE T ρ H (env.set i (some d)) (σ.set i (some v)) := by
  refine ⟨by rw [List.length_set, List.length_set]; exact r.1, fun j d' e => ?_⟩
  by_cases hj : i = j
  · subst hj
    by_cases hi : i < env.length
    · rw [List.getElem?_set_self hi] at e
      cases e
      exact ⟨v, List.getElem?_set_self (by have := r.1; omega), q⟩
    · rw [List.getElem?_eq_none (by rw [List.length_set]; omega)] at e
      cases e
  · rw [List.getElem?_set_ne hj] at e
    rw [List.getElem?_set_ne hj]
    exact r.2 j d' e
/-- a slot forgotten on both sides -/
theorem RepE.unset {i : Nat} (r : RepE T ρ H env σ) : RepE T ρ H (env.set i none) (σ.set i none) := by
  refine ⟨by rw [List.length_set, List.length_set]; exact r.1, fun j d' e => ?_⟩
  by_cases hj : i = j
  · subst hj
    by_cases hi : i < env.length
    · rw [List.getElem?_set_self hi] at e
      cases e
    · rw [List.getElem?_eq_none (by rw [List.length_set]; omega)] at e
      cases e
  · rw [List.getElem?_set_ne hj] at e
    rw [List.getElem?_set_ne hj]
    exact r.2 j d' e
def wipeE (env : Env') : List Nat → Env'
  | [] => env
  | v :: vs => (wipeE env vs).set v none
theorem RepE.wipe (r : RepE T ρ H env σ) : ∀ vs : List Nat, RepE T ρ H (wipeE env vs) (wipe σ vs)
  | [] => r
  | v :: vs => (RepE.wipe r vs).unset
end
def startE (n : Nat) (ds : List D) : Env' := ds.map some ++ List.replicate (n - ds.length) none
theorem RepE.start {T : Tab} {ρ : List Addr} {H : Hp} {N : List Str} {ds : List D} {vs : List V} (r : RepL T ρ H ds vs) : RepE T ρ H (startE N.length ds) (L2.start N vs) := by
  have e := r.length
  refine ⟨by unfold startE L2.start; rw [List.length_append, List.length_append, List.length_map, List.length_map, List.length_replicate, List.length_replicate, e], fun i d q => ?_⟩
  unfold startE at q
  by_cases hi : i < ds.length
  · rw [List.getElem?_append_left (by simpa using hi), List.getElem?_map] at q
    cases q1 : ds[i]? with
    | none => rw [q1] at q; cases q
    | some d' =>
      rw [q1] at q
      cases q
      obtain ⟨v, e1, q2⟩ := r.get q1
      exact ⟨v, by unfold L2.start; rw [List.getElem?_append_left (by rw [List.length_map, ← e]; exact hi), List.getElem?_map, e1]; rfl, q2⟩
  · rw [List.getElem?_append_right (by simpa using hi), List.getElem?_replicate] at q
    split at q <;> cases q

/-! ### the judgements -/
structure Ctx where
  P : Program
  w : World
  mg : Str → Option Value
  base : Heap
  T : Tab
  N : List Str
  sc : Scope
  k : Nat
  calm : Bool
  top : Bool
  fn : Str → Bool
  hot : Bool
structure CxOk (c : Ctx) (X : Cx) : Prop where
  prog : X.prog = c.P
  w : X.w = c.w
  K : X.K = c.T.K
  mg : X.mg = c.mg
  base : X.base = c.base
  N : X.N = c.N
  sc : X.env.scope = c.sc
  room : c.calm = true → Room c.k X.A
  calm : X.calm = c.calm
  top : c.top = true → X.stack = X.env :: X.outer ∧ X.env.frame = some X.env.locals ∧ X.ex = []
  fn : ∀ x, c.fn x = true → X.fn x = true
  un : X.A.units + 64 < cLine
  xo : c.hot = true → ∀ a d k, c.T.xo = some (a, d, k) → ∃ oe, (a, oe) ∈ X.pn ∧ Zc (.ref (c.T.cl k)) d oe ∧ ∃ vs, oe.data = .fields vs
def RepX (T : Tab) (ρ : List Addr) (H : Hp) (e : Exn) (cls : Value) (d : Option Addr) : Prop :=
  cls = .ref (T.cl e.c) ∧ (e.fs = none → d = none) ∧ ∀ ds, e.fs = some ds → ds ≠ [] ∧ ∃ a vs, d = some a ∧ a ∉ ρ ∧ H a = some (.xd ((T.fl e.c).zip vs)) ∧ RepL T ρ H ds vs
abbrev EF := Env' → Hs → R D
abbrev BF := Env' → Hs → R Bool
abbrev AF := Env' → Hs → R (List D)
inductive Out where
  | nx (env : Env') | rt (d : D) | bk (env : Env') | ct (env : Env') | ex (e : Exn) (env : Env')
abbrev SF := Env' → Hs → R Out
/-- what is wanted of an exception -/
def XW (T : Tab) (ρ : List Addr) (H : Hp) (W : WX) (σ : L2.St) (e : Exn) (h' : Hs) : Prop := ∀ ρ' H' cls d, Ex ρ H ρ' H' → RepH T ρ' H' h' → RepX T ρ' H' e cls d → W cls d σ H'
def tE (T : Tab) (W : WX) (f : EF) : TE := fun σ H Q => ∃ env h ρ, RepE T ρ H env σ ∧ RepH T ρ H h ∧
  wp (f env h) (fun d h' => ∀ ρ' v H', Ex ρ H ρ' H' → RepH T ρ' H' h' → Rep T ρ' H' d v → Q v H') (XW T ρ H W σ)
def tB' (T : Tab) (W : WX) (f : BF) : TT := fun σ H Q => ∃ env h ρ, RepE T ρ H env σ ∧ RepH T ρ H h ∧
  wp (f env h) (fun b h' => ∀ ρ' H', Ex ρ H ρ' H' → RepH T ρ' H' h' → Q b H') (XW T ρ H W σ)
def tA (T : Tab) (W : WX) (f : AF) : TA := fun σ H Q => ∃ env h ρ, RepE T ρ H env σ ∧ RepH T ρ H h ∧
  wp (f env h) (fun d h' => ∀ ρ' v H', Ex ρ H ρ' H' → RepH T ρ' H' h' → RepL T ρ' H' d v → Q v H') (XW T ρ H W σ)
/-- what is wanted of an end -/
def OW (T : Tab) (ρ : List Addr) (H : Hp) (W : WX) (D : Ends) (o : Out) (h' : Hs) : Prop := ∀ ρ' H', Ex ρ H ρ' H' → RepH T ρ' H' h' → match o with
  | .nx env => ∀ σ', RepE T ρ' H' env σ' → D.nx σ' H'
  | .bk env => ∀ σ', RepE T ρ' H' env σ' → D.bk σ' H'
  | .ct env => ∀ σ', RepE T ρ' H' env σ' → D.ct σ' H'
  | .rt d => ∀ v, Rep T ρ' H' d v → D.rt v H'
  | .ex e env => ∀ σ' cls d, RepE T ρ' H' env σ' → RepX T ρ' H' e cls d → W cls d σ' H'
def tS (T : Tab) (W : WX) (f : SF) : TS := fun D σ H => ∃ env h ρ, RepE T ρ H env σ ∧ RepH T ρ H h ∧ wp (f env h) (OW T ρ H W D) (fun _ _ => False)
def EV (c : Ctx) (e : Expr) (f : EF) : Prop := ∀ X, CxOk c X → ∀ W, Takes X W → PE X e (tE c.T W f)
def TV (c : Ctx) (e : Expr) (f : BF) : Prop := ∀ X, CxOk c X → ∀ W, Takes X W → PT X e (tB' c.T W f)
def AV (c : Ctx) (es : List Expr) (f : AF) : Prop := ∀ X, CxOk c X → ∀ W, Takes X W → PA X es (tA c.T W f)
def SV (c : Ctx) (s : Stmt) (f : SF) : Prop := ∀ X, CxOk c X → ∀ W, Takes X W → PassesOwn (model X.prog X.w) X.A X.env X.xe → PS X s (tS c.T W f)
def SsV (c : Ctx) (s : List Stmt) (f : SF) : Prop := ∀ X, CxOk c X → ∀ W, Takes X W → PassesOwn (model X.prog X.w) X.A X.env X.xe → PSs X s (tS c.T W f)
theorem _root_.L2.PE.zimp {X : Cx} {e : Expr} {t t' : TE} (h : PE X e t) (i : ∀ σ H Q, t' σ H Q → t σ H Q) : PE X e t' := ⟨fun pins s σ H Q I q => h.run pins s σ H Q I (i σ H Q q)⟩
theorem _root_.L2.PT.zimp {X : Cx} {e : Expr} {t t' : TT} (h : PT X e t) (i : ∀ σ H Q, t' σ H Q → t σ H Q) : PT X e t' := ⟨fun pins s σ H Q I q => h.run pins s σ H Q I (i σ H Q q)⟩
theorem _root_.L2.PA.zimp {X : Cx} {e : List Expr} {t t' : TA} (h : PA X e t) (i : ∀ σ H Q, t' σ H Q → t σ H Q) : PA X e t' := ⟨fun pos pins s σ H Q I q => h.run pos pins s σ H Q I (i σ H Q q)⟩
theorem _root_.L2.PS.zimp {X : Cx} {e : Stmt} {t t' : TS} (h : PS X e t) (i : ∀ D σ H, t' D σ H → t D σ H) : PS X e t' := ⟨fun pins s σ H D I q => h.run pins s σ H D I (i D σ H q)⟩
theorem _root_.L2.PSs.zimp {X : Cx} {e : List Stmt} {t t' : TS} (h : PSs X e t) (i : ∀ D σ H, t' D σ H → t D σ H) : PSs X e t' := ⟨fun pins s σ H D I q => h.run pins s σ H D I (i D σ H q)⟩
end Z

set_option Elab.async false
set_option linter.all false
set_option maxRecDepth 100000
set_option maxHeartbeats 1000000
namespace Z
open PySem PySem.Spec PyProof.Rows L2

section
variable {T : Tab} {ρ ρ1 ρ' : List Addr} {H H1 H' : Hp} {W : WX} {σ : L2.St} {c : Ctx}
/-- what is wanted of a value -/
def PostV (T : Tab) (ρ : List Addr) (H : Hp) (Q : VK) (d : D) (h' : Hs) : Prop := ∀ ρ' v H', Ex ρ H ρ' H' → RepH T ρ' H' h' → Rep T ρ' H' d v → Q v H'
def PostB (T : Tab) (ρ : List Addr) (H : Hp) (Q : Bool → Hp → Prop) (b : Bool) (h' : Hs) : Prop := ∀ ρ' H', Ex ρ H ρ' H' → RepH T ρ' H' h' → Q b H'
def PostL (T : Tab) (ρ : List Addr) (H : Hp) (Q : List V → Hp → Prop) (d : List D) (h' : Hs) : Prop := ∀ ρ' v H', Ex ρ H ρ' H' → RepH T ρ' H' h' → RepL T ρ' H' d v → Q v H'
theorem PostV.mono {Q : VK} (x : Ex ρ H ρ1 H1) {d : D} {h' : Hs} (p : PostV T ρ H Q d h') : PostV T ρ1 H1 Q d h' := fun ρ' v H' x' => p ρ' v H' (x.trans x')
theorem PostB.mono {Q : Bool → Hp → Prop} (x : Ex ρ H ρ1 H1) {d : Bool} {h' : Hs} (p : PostB T ρ H Q d h') : PostB T ρ1 H1 Q d h' := fun ρ' H' x' => p ρ' H' (x.trans x')
theorem PostL.mono {Q : List V → Hp → Prop} (x : Ex ρ H ρ1 H1) {d : List D} {h' : Hs} (p : PostL T ρ H Q d h') : PostL T ρ1 H1 Q d h' := fun ρ' v H' x' => p ρ' v H' (x.trans x')
theorem XW.mono (x : Ex ρ H ρ1 H1) {e : Exn} {h' : Hs} (p : XW T ρ H W σ e h') : XW T ρ1 H1 W σ e h' := fun ρ' H' cls d x' => p ρ' H' cls d (x.trans x')
theorem OW.mono {De : Ends} (x : Ex ρ H ρ1 H1) {o : Out} {h' : Hs} (p : OW T ρ H W De o h') : OW T ρ1 H1 W De o h' := fun ρ' H' x' => p ρ' H' (x.trans x')

/-- run a piece, then go on -/
theorem tE_then {f : EF} {env : Env'} {h : Hs} {β : Type} {k : D → Hs → R β} {QQ : β → Hs → Prop} {EE : Exn → Hs → Prop} {Q : VK} (re : RepE T ρ H env σ) (rh : RepH T ρ H h) (w : wp ((f env h).bind k) QQ EE)
    (hE : ∀ e h', EE e h' → XW T ρ H W σ e h')
    (fin : ∀ d h1 ρ1 v H1, Ex ρ H ρ1 H1 → RepE T ρ1 H1 env σ → RepH T ρ1 H1 h1 → Rep T ρ1 H1 d v → wp (k d h1) QQ EE → Q v H1) : tE T W f σ H Q :=
  ⟨env, h, ρ, re, rh, wp_mono (fun d h1 q ρ1 v H1 x r1 r2 => fin d h1 ρ1 v H1 x (re.mono x) r1 r2 q) hE _ (wp_bind w)⟩
theorem tB_then {f : BF} {env : Env'} {h : Hs} {β : Type} {k : Bool → Hs → R β} {QQ : β → Hs → Prop} {EE : Exn → Hs → Prop} {Q : Bool → Hp → Prop} (re : RepE T ρ H env σ) (rh : RepH T ρ H h) (w : wp ((f env h).bind k) QQ EE)
    (hE : ∀ e h', EE e h' → XW T ρ H W σ e h')
    (fin : ∀ d h1 ρ1 H1, Ex ρ H ρ1 H1 → RepE T ρ1 H1 env σ → RepH T ρ1 H1 h1 → wp (k d h1) QQ EE → Q d H1) : tB' T W f σ H Q :=
  ⟨env, h, ρ, re, rh, wp_mono (fun d h1 q ρ1 H1 x r1 => fin d h1 ρ1 H1 x (re.mono x) r1 q) hE _ (wp_bind w)⟩
theorem tA_then {f : AF} {env : Env'} {h : Hs} {β : Type} {k : List D → Hs → R β} {QQ : β → Hs → Prop} {EE : Exn → Hs → Prop} {Q : List V → Hp → Prop} (re : RepE T ρ H env σ) (rh : RepH T ρ H h) (w : wp ((f env h).bind k) QQ EE)
    (hE : ∀ e h', EE e h' → XW T ρ H W σ e h')
    (fin : ∀ d h1 ρ1 v H1, Ex ρ H ρ1 H1 → RepE T ρ1 H1 env σ → RepH T ρ1 H1 h1 → RepL T ρ1 H1 d v → wp (k d h1) QQ EE → Q v H1) : tA T W f σ H Q :=
  ⟨env, h, ρ, re, rh, wp_mono (fun d h1 q ρ1 v H1 x r1 r2 => fin d h1 ρ1 v H1 x (re.mono x) r1 r2 q) hE _ (wp_bind w)⟩

/-! ### names, constants -/
def fVar (i : Nat) : EF := fun env h => match env[i]? with
  | some (some d) => .ret d h
  | _ => .fail
def fC (d : D) : EF := fun _ h => .ret d h
theorem ev_var (i : Nat) {x : Str} {pos : Pos} (hN : c.N[i]? = some x) (hv : Vis c.sc x) (hd : (x == ("__debug__" : Str)) = false) (hcd : (x == ("__classdict__" : Str)) = false) : EV c (.Name x pos) (fVar i) := by
  intro X ok W tk
  refine (pe_var (i := i) (by rw [ok.N]; exact hN) (by rw [ok.sc]; exact hv) hd hcd).zimp fun σ H Q ⟨env, h, ρ, re, rh, w⟩ => ?_
  unfold fVar at w
  split at w
  · rename_i d e
    obtain ⟨v, e1, q⟩ := re.2 i d e
    exact ⟨v, e1, w ρ v H .refl rh q⟩
  · exact w.elim
theorem ev_const {e : Expr} {d : D} {v : V} (h : ∀ X, PE X e (tC v)) (r : ∀ T ρ H, Rep T ρ H d v) : EV c e (fC d) := fun X ok W tk =>
  (h X).zimp fun σ H Q ⟨env, h, ρ, re, rh, w⟩ => w ρ v H .refl rh (r _ _ _)
theorem ev_int {i : Int} {j : Nat} {pos : Pos} : EV c (.Constant (.int i) j pos) (fC (.int i)) := ev_const (fun _ => pe_int) fun _ _ _ => .int i
theorem ev_bl {b : Bool} {j : Nat} {pos : Pos} : EV c (.Constant (.bool b) j pos) (fC (.bl b)) := ev_const (fun _ => pe_bl) fun _ _ _ => .bl b
theorem ev_non {j : Nat} {pos : Pos} : EV c (.Constant .none j pos) (fC .non) := ev_const (fun _ => pe_non) fun _ _ _ => .non
theorem ev_str {x : Str} {j : Nat} {pos : Pos} : EV c (.Constant (.str x) j pos) (fC (.str x)) := ev_const (fun _ => pe_str) fun _ _ _ => .str x

/-! ### operations on values -/
abbrev G1 := D → Hs → R D
abbrev G2 := D → D → Hs → R D
abbrev GL := List D → Hs → R D
def NoX : Exn → Hs → Prop := fun _ _ => False
/-- a value rule and its function -/
def Lk2 (T : Tab) (r : R2) (g : G2) : Prop := ∀ (ρ : List Addr) (H : Hp) (h : Hs) (x y : D) (vx vy : V) (Q : VK) (E : Exn → Hs → Prop), RepH T ρ H h → Rep T ρ H x vx → Rep T ρ H y vy → wp (g x y h) (PostV T ρ H Q) E → r vx vy H Q
def Lk1 (T : Tab) (r : V → Hp → VK → Prop) (g : G1) : Prop := ∀ (ρ : List Addr) (H : Hp) (h : Hs) (x : D) (vx : V) (Q : VK) (E : Exn → Hs → Prop), RepH T ρ H h → Rep T ρ H x vx → wp (g x h) (PostV T ρ H Q) E → r vx H Q
def LkL (T : Tab) (r : List V → Hp → VK → Prop) (g : GL) : Prop := ∀ (ρ : List Addr) (H : Hp) (h : Hs) (x : List D) (vx : List V) (Q : VK) (E : Exn → Hs → Prop), RepH T ρ H h → RepL T ρ H x vx → wp (g x h) (PostV T ρ H Q) E → r vx H Q
def LkM (T : Tab) (r : V → List V → Hp → VK → Prop) (g : D → GL) : Prop := ∀ (ρ : List Addr) (H : Hp) (h : Hs) (o : D) (vo : V) (x : List D) (vx : List V) (Q : VK) (E : Exn → Hs → Prop), RepH T ρ H h → Rep T ρ H o vo → RepL T ρ H x vx → wp (g o x h) (PostV T ρ H Q) E → r vo vx H Q
def fBin (g : G2) (fa fb : EF) : EF := fun env h => (fa env h).bind fun x h1 => (fb env h1).bind fun y h2 => g x y h2
def fUn (g : G1) (fa : EF) : EF := fun env h => (fa env h).bind fun x h1 => g x h1
def fTest (fa : EF) : BF := fun env h => (fa env h).bind fun x h1 => match x with
  | .bl b => .ret b h1
  | _ => .fail
theorem bin_core {r : R2} {g : G2} {fa fb : EF} (lk : Lk2 T r g) {Q : VK} (q : tE T W (fBin g fa fb) σ H Q) : tOp r (tE T W fa) (tE T W fb) σ H Q := by
  obtain ⟨env, h, ρ, re, rh, w⟩ := q
  refine tE_then re rh w (fun _ _ e => e) fun x h1 ρ1 vx H1 x1 re1 rh1 r1 w1 => ?_
  refine tE_then re1 rh1 w1 (fun _ _ e => XW.mono x1 e) fun y h2 ρ2 vy H2 x2 re2 rh2 r2 w2 => ?_
  exact lk ρ2 H2 h2 x y vx vy Q _ rh2 (r1.mono x2) r2 (wp_mono (fun d h' p => PostV.mono (x1.trans x2) p) (fun _ _ e => e) _ w2)
theorem ev_bin {op : Operator} {r : R2} {g : G2} {a b : Expr} {fa fb : EF} {pos : Pos} (ho : ∀ X, CxOk c X → OpR X (binaryOp op) r) (lk : Lk2 c.T r g) (ha : EV c a fa) (hb : EV c b fb) : EV c (.BinOp a op b pos) (fBin g fa fb) := fun X ok W tk =>
  (pe_op (ho X ok) (ha X ok W tk) (hb X ok W tk)).zimp fun σ H Q q => bin_core lk q
theorem ev_cmp {op : CmpOp} {r : R2} {g : G2} {a b : Expr} {fa fb : EF} {pos : Pos} (ho : ∀ X, CxOk c X → OpR X (compareOp op) r) (lk : Lk2 c.T r g) (ha : EV c a fa) (hb : EV c b fb) (hm : behindInMarks op b = false) : EV c (.Compare a [op] [b] pos) (fBin g fa fb) := fun X ok W tk =>
  (pe_cmpR (ho X ok) (ha X ok W tk) (hb X ok W tk) hm).zimp fun σ H Q q => bin_core lk q
theorem test_core {f : EF} {t : TE} (imp : ∀ σ H Q, tE T W f σ H Q → t σ H Q) {Q : Bool → Hp → Prop} (q : tB' T W (fTest f) σ H Q) : tTest t σ H Q := by
  obtain ⟨env, h, ρ, re, rh, w⟩ := q
  refine imp _ _ _ (tE_then re rh w (fun _ _ e => e) fun x h1 ρ1 vx H1 x1 re1 rh1 r1 w1 => ?_)
  cases r1 with
  | bl b => exact ⟨b, rfl, w1 ρ1 H1 x1 rh1⟩
  | _ => exact w1.elim
theorem tv_cmp {op : CmpOp} {r : R2} {g : G2} {a b : Expr} {fa fb : EF} {pos : Pos} (ho : ∀ X, CxOk c X → OpR X (compareOp op) r) (lk : Lk2 c.T r g) (ha : EV c a fa) (hb : EV c b fb) (hm : behindInMarks op b = false) : TV c (.Compare a [op] [b] pos) (fTest (fBin g fa fb)) := fun X ok W tk =>
  (pt_cmpR (ho X ok) (ha X ok W tk) (hb X ok W tk) hm).zimp fun σ H Q q => test_core (fun σ H Q q => bin_core lk q) q
theorem tv_val {e : Expr} {f : EF} (he : ∀ env whole, isTrue e env whole = (do let v ← whole; standAt e.pos; holding [v] (truthy v))) (h : EV c e f) : TV c e (fTest f) := fun X ok W tk =>
  (pt_val (h X ok W tk) (he _)).zimp fun σ H Q q => test_core (fun σ H Q q => q) q
theorem ev_un {op : UnaryOp} {r : V → Hp → VK → Prop} {g : G1} {a : Expr} {fa : EF} {pos : Pos} (ho : ∀ X, CxOk c X → UnR X (unaryOp op) r) (lk : Lk1 c.T r g) (ha : EV c a fa) : EV c (.UnaryOp op a pos) (fUn g fa) := fun X ok W tk =>
  (pe_un (ho X ok) (ha X ok W tk)).zimp fun σ H Q ⟨env, h, ρ, re, rh, w⟩ => tE_then re rh w (fun _ _ e => e) fun x h1 ρ1 vx H1 x1 re1 rh1 r1 w1 =>
    lk ρ1 H1 h1 x vx Q _ rh1 r1 (wp_mono (fun d h' p => PostV.mono x1 p) (fun _ _ e => e) _ w1)

/-! ### and, or, not; a if t else b -/
def WV (c : Ctx) (e : Expr) (f : BF) : Prop := ∀ X, CxOk c X → ∀ W, Takes X W → PW X e (tB' c.T W f)
def fAnd (f g : BF) : BF := fun env h => (f env h).bind fun b h1 => match b with
  | true => g env h1
  | false => .ret false h1
def fOr (f g : BF) : BF := fun env h => (f env h).bind fun b h1 => match b with
  | true => .ret true h1
  | false => g env h1
def fNot (f : BF) : BF := fun env h => (f env h).bind fun b h1 => .ret (!b) h1
theorem _root_.L2.PW.zimp {X : Cx} {e : Expr} {t t' : TT} (h : PW X e t) (i : ∀ σ H Q, t' σ H Q → t σ H Q) : PW X e t' := ⟨fun wh pins s σ H Q I q => h.run wh pins s σ H Q I (i σ H Q q)⟩
theorem wv_and1 {a : Expr} {f : BF} {pos : Pos} (h : TV c a f) : WV c (.BoolOp .And [a] pos) f := fun X ok W tk => pw_and1 (h X ok W tk)
theorem wv_or1 {a : Expr} {f : BF} {pos : Pos} (h : TV c a f) : WV c (.BoolOp .Or [a] pos) f := fun X ok W tk => pw_or1 (h X ok W tk)
theorem wv_and {a b : Expr} {rest : List Expr} {f g : BF} {pos : Pos} (h : TV c a f) (h2 : WV c (.BoolOp .And (b :: rest) pos) g) : WV c (.BoolOp .And (a :: b :: rest) pos) (fAnd f g) := fun X ok W tk =>
  (pw_and (h X ok W tk) (h2 X ok W tk)).zimp fun σ H Q ⟨env, h, ρ, re, rh, w⟩ => tB_then re rh w (fun _ _ e => e) fun x h1 ρ1 H1 x1 re1 rh1 w1 => by
    cases x with
    | true => exact ⟨env, h1, ρ1, re1, rh1, wp_mono (fun d h' p => PostB.mono x1 p) (fun _ _ e => XW.mono x1 e) _ w1⟩
    | false => exact w1 ρ1 H1 x1 rh1
theorem wv_or {a b : Expr} {rest : List Expr} {f g : BF} {pos : Pos} (h : TV c a f) (h2 : WV c (.BoolOp .Or (b :: rest) pos) g) : WV c (.BoolOp .Or (a :: b :: rest) pos) (fOr f g) := fun X ok W tk =>
  (pw_or (h X ok W tk) (h2 X ok W tk)).zimp fun σ H Q ⟨env, h, ρ, re, rh, w⟩ => tB_then re rh w (fun _ _ e => e) fun x h1 ρ1 H1 x1 re1 rh1 w1 => by
    cases x with
    | false => exact ⟨env, h1, ρ1, re1, rh1, wp_mono (fun d h' p => PostB.mono x1 p) (fun _ _ e => XW.mono x1 e) _ w1⟩
    | true => exact w1 ρ1 H1 x1 rh1
theorem tv_w {e : Expr} {f : BF} (h : WV c e f) : TV c e f := fun X ok W tk => (h X ok W tk).pt
theorem tv_not {a : Expr} {f : BF} {pos : Pos} (h : TV c a f) : TV c (.UnaryOp .Not a pos) (fNot f) := fun X ok W tk =>
  (pt_not (h X ok W tk)).zimp fun σ H Q ⟨env, h, ρ, re, rh, w⟩ => tB_then re rh w (fun _ _ e => e) fun x h1 ρ1 H1 x1 re1 rh1 w1 => w1 ρ1 H1 x1 rh1
/-- as values: bools -/
def fAndV (f g : EF) : EF := fun env h => (f env h).bind fun b h1 => match b with
  | .bl true => g env h1
  | .bl false => .ret (.bl false) h1
  | _ => .fail
def fOrV (f g : EF) : EF := fun env h => (f env h).bind fun b h1 => match b with
  | .bl true => .ret (.bl true) h1
  | .bl false => g env h1
  | _ => .fail
def fNotV (f : EF) : EF := fun env h => (f env h).bind fun b h1 => match b with
  | .bl b => .ret (.bl !b) h1
  | _ => .fail
theorem ev_one {op : PySem.BoolOp} {a : Expr} {f : EF} {pos : Pos} (h : EV c a f) : EV c (.BoolOp op [a] pos) f := fun X ok W tk => pe_one (h X ok W tk)
theorem ev_and {a b : Expr} {rest : List Expr} {f g : EF} {pos : Pos} (h : EV c a f) (h2 : EV c (.BoolOp .And (b :: rest) pos) g) : EV c (.BoolOp .And (a :: b :: rest) pos) (fAndV f g) := fun X ok W tk =>
  (pe_and (h X ok W tk) (h2 X ok W tk)).zimp fun σ H Q ⟨env, h, ρ, re, rh, w⟩ => tE_then re rh w (fun _ _ e => e) fun x h1 ρ1 v1 H1 x1 re1 rh1 r1 w1 => by
    cases r1 with
    | bl b =>
      refine ⟨b, rfl, ?_⟩
      cases b with
      | true => exact ⟨env, h1, ρ1, re1, rh1, wp_mono (fun d h' p => PostV.mono x1 p) (fun _ _ e => XW.mono x1 e) _ w1⟩
      | false => exact w1 ρ1 _ H1 x1 rh1 (.bl false)
    | _ => exact w1.elim
theorem ev_or {a b : Expr} {rest : List Expr} {f g : EF} {pos : Pos} (h : EV c a f) (h2 : EV c (.BoolOp .Or (b :: rest) pos) g) : EV c (.BoolOp .Or (a :: b :: rest) pos) (fOrV f g) := fun X ok W tk =>
  (pe_or (h X ok W tk) (h2 X ok W tk)).zimp fun σ H Q ⟨env, h, ρ, re, rh, w⟩ => tE_then re rh w (fun _ _ e => e) fun x h1 ρ1 v1 H1 x1 re1 rh1 r1 w1 => by
    cases r1 with
    | bl b =>
      refine ⟨b, rfl, ?_⟩
      cases b with
      | false => exact ⟨env, h1, ρ1, re1, rh1, wp_mono (fun d h' p => PostV.mono x1 p) (fun _ _ e => XW.mono x1 e) _ w1⟩
      | true => exact w1 ρ1 _ H1 x1 rh1 (.bl true)
    | _ => exact w1.elim
theorem ev_not {a : Expr} {f : EF} {pos : Pos} (h : EV c a f) : EV c (.UnaryOp .Not a pos) (fNotV f) := fun X ok W tk =>
  (pe_not (h X ok W tk)).zimp fun σ H Q ⟨env, h, ρ, re, rh, w⟩ => tE_then re rh w (fun _ _ e => e) fun x h1 ρ1 v1 H1 x1 re1 rh1 r1 w1 => by
    cases r1 with
    | bl b => exact ⟨b, rfl, w1 ρ1 _ H1 x1 rh1 (.bl _)⟩
    | _ => exact w1.elim
def fIf (t : BF) (f g : EF) : EF := fun env h => (t env h).bind fun b h1 => match b with
  | true => f env h1
  | false => g env h1
theorem ev_if {t a b : Expr} {ft : BF} {fa fb : EF} {pos : Pos} (ht : TV c t ft) (ha : EV c a fa) (hb : EV c b fb) : EV c (.IfExp t a b pos) (fIf ft fa fb) := fun X ok W tk =>
  (pe_ifExp (ht X ok W tk) (ha X ok W tk) (hb X ok W tk)).zimp fun σ H Q ⟨env, h, ρ, re, rh, w⟩ => tB_then re rh w (fun _ _ e => e) fun x h1 ρ1 H1 x1 re1 rh1 w1 => by
    cases x with
    | true => exact ⟨env, h1, ρ1, re1, rh1, wp_mono (fun d h' p => PostV.mono x1 p) (fun _ _ e => XW.mono x1 e) _ w1⟩
    | false => exact ⟨env, h1, ρ1, re1, rh1, wp_mono (fun d h' p => PostV.mono x1 p) (fun _ _ e => XW.mono x1 e) _ w1⟩

/-! ### argument lists, displays, calls of built-ins, methods of built-in types -/
def fNil : AF := fun _ h => .ret [] h
def fCons (f : EF) (g : AF) : AF := fun env h => (f env h).bind fun x h1 => (g env h1).bind fun xs h2 => .ret (x :: xs) h2
theorem av_nil : AV c [] fNil := fun X ok W tk => pa_nil.zimp fun σ H Q ⟨env, h, ρ, re, rh, w⟩ => w ρ [] H .refl rh .nil
theorem av_cons {e : Expr} {es : List Expr} {f : EF} {g : AF} (h : EV c e f) (hs : AV c es g) (st : ∀ env, starEach (e :: es) env = (false, eval e env) :: starEach es env) : AV c (e :: es) (fCons f g) := fun X ok W tk =>
  (pa_cons (h X ok W tk) (hs X ok W tk) (st _)).zimp fun σ H Q ⟨env, h, ρ, re, rh, w⟩ => tE_then re rh w (fun _ _ e => e) fun x h1 ρ1 v1 H1 x1 re1 rh1 r1 w1 =>
    tA_then re1 rh1 w1 (fun _ _ e => XW.mono x1 e) fun xs h2 ρ2 vs H2 x2 re2 rh2 r2 w2 => w2 ρ2 _ H2 (x1.trans x2) rh2 (.cons (r1.mono x2) r2)
abbrev line : Nat := 16777216
theorem line_le {n : Nat} (h : n ≤ line) : n ≤ sizeLine := by rw [sizeLine_eq]; exact h
theorem line_lt {n : Nat} (h : n < line) : n < sizeLine := by rw [sizeLine_eq]; exact h
def short {α β : Type} (xs : List α) (r : R β) : R β := match Nat.ble xs.length line with
  | true => r
  | false => .fail
theorem short_wp {α β : Type} {xs : List α} {r : R β} {Q : β → Hs → Prop} {E : Exn → Hs → Prop} (w : wp (short xs r) Q E) : xs.length ≤ sizeLine ∧ wp r Q E := by
  unfold short at w
  split at w
  · rename_i e; exact ⟨line_le (Nat.le_of_ble_eq_true e), w⟩
  · exact w.elim
def fTup (g : AF) : EF := fun env h => (g env h).bind fun xs h1 => short xs (.ret (.tup xs) h1)
def newL (xs : List D) (h : Hs) : R D := .ret (.ref h.length) (h ++ [.lst xs])
def fLst (g : AF) : EF := fun env h => (g env h).bind fun xs h1 => short xs (newL xs h1)
theorem newL_ok {h : Hs} {xs : List D} {vs : List V} {Q : VK} {E : Exn → Hs → Prop} (rh : RepH T ρ H h) (r : RepL T ρ H xs vs) (w : wp (newL xs h) (PostV T ρ H Q) E) {p : Addr} (np : H p = none) : Q (.ref p) (upd H p (.lst vs)) := by
  have x : Ex ρ H (ρ ++ [p]) (upd H p (.lst vs)) := .alloc np
  refine w (ρ ++ [p]) (.ref p) _ x (rh.alloc np ⟨vs, upd_same, r.mono x⟩) ?_
  rw [← rh.len]
  exact Rep.last
theorem newT_ok {h : Hs} {xs : List D} {vs : List V} {Q : VK} (rh : RepH T ρ H h) (r : RepL T ρ H xs vs) (w : PostV T ρ H Q (.tup xs) h) {p : Addr} (np : H p = none) : Q (.ref p) (upd H p (.tup vs)) :=
  w ρ (.ref p) _ (.new np) (rh.new np) (.tup (.of upd_same) (r.mono (.new np)))
theorem ev_tup {es : List Expr} {k : Nat} {g : AF} {pos : Pos} (h : AV c es g) : EV c (.Tuple es k pos) (fTup g) := fun X ok W tk =>
  (pe_tup (h X ok W tk)).zimp fun σ H Q ⟨env, h, ρ, re, rh, w⟩ => tA_then re rh w (fun _ _ e => e) fun xs h1 ρ1 vs H1 x1 re1 rh1 r1 w1 => by
    obtain ⟨z, w1⟩ := short_wp w1
    exact ⟨by rw [← r1.length]; exact z, fun p np => newT_ok rh1 r1 (PostV.mono x1 w1) np⟩
theorem ev_lst {es : List Expr} {g : AF} {pos : Pos} (h : AV c es g) : EV c (.List es pos) (fLst g) := fun X ok W tk =>
  (pe_lst (h X ok W tk)).zimp fun σ H Q ⟨env, h, ρ, re, rh, w⟩ => tA_then re rh w (fun _ _ e => e) fun xs h1 ρ1 vs H1 x1 re1 rh1 r1 w1 => by
    obtain ⟨z, w1⟩ := short_wp w1
    exact ⟨by rw [← r1.length]; exact z, fun p np => newL_ok (E := XW c.T ρ H W σ) rh1 r1 (PostV.mono x1 w1) np⟩
def fCallL (g : GL) (f : AF) : EF := fun env h => (f env h).bind fun xs h1 => g xs h1
theorem callL_core {r : List V → Hp → VK → Prop} {g : GL} {f : AF} (lk : LkL T r g) {Q : VK} (q : tE T W (fCallL g f) σ H Q) : tCB r (tA T W f) σ H Q := by
  obtain ⟨env, h, ρ, re, rh, w⟩ := q
  exact tA_then re rh w (fun _ _ e => e) fun xs h1 ρ1 vs H1 x1 re1 rh1 r1 w1 => lk ρ1 H1 h1 xs vs Q _ rh1 r1 (wp_mono (fun d h' p => PostV.mono x1 p) (fun _ _ e => e) _ w1)
/-- how a name is read: a global -/
def GlC (c : Ctx) (x : Str) : Prop := c.sc.names.lookup x = some .globalImplicit
theorem GlC.gl {X : Cx} (ok : CxOk c X) {x : Str} (h : GlC c x) : Gl X x := by
  show X.env.scope.names.lookup x = some .globalImplicit
  rw [ok.sc]; exact h
theorem ev_callB {r : List V → Hp → VK → Prop} {g : GL} {id : String} {x : Str} {p pos : Pos} {e : Expr} {es : List Expr} {f : AF} (hc : ∀ X, CxOk c X → CallR X (.builtin id) r) (lk : LkL c.T r g) (hg : GlC c x) (hm : c.mg x = none) (hv : bootBuiltins x = some (.builtin id)) (ha : AV c (e :: es) f)
    (hn : x ≠ "__name__") (hdb : (x == ("__debug__" : Str)) = false) (he : ∀ env, starEach (e :: es) env = (false, eval e env) :: starEach es env) (hpl : ∀ env, (backTo pos (starEach es env)).any (·.1) = false) :
    EV c (.Call (.Name x p) (e :: es) [] pos) (fCallL g f) := fun X ok W tk =>
  (pe_callB (hc X ok) (hg.gl ok) (by rw [ok.mg]; exact hm) hv (ha X ok W tk) hn hdb (he _) (hpl _)).zimp fun σ H Q q => callL_core lk q
theorem ev_callTy {r : List V → Hp → VK → Prop} {g : GL} {id : String} {x : Str} {p pos : Pos} {e : Expr} {es : List Expr} {f : AF} (hc : ∀ X, CxOk c X → CallR X (.type id) r) (lk : LkL c.T r g) (hg : GlC c x) (hm : c.mg x = none) (hv : bootBuiltins x = some (.type id)) (ha : AV c (e :: es) f)
    (hn : x ≠ "__name__") (hdb : (x == ("__debug__" : Str)) = false) (he : ∀ env, starEach (e :: es) env = (false, eval e env) :: starEach es env) (hpl : ∀ env, (backTo pos (starEach es env)).any (·.1) = false) :
    EV c (.Call (.Name x p) (e :: es) [] pos) (fCallL g f) := fun X ok W tk =>
  (pe_callTy (hc X ok) (hg.gl ok) (by rw [ok.mg]; exact hm) hv (ha X ok W tk) hn hdb (he _) (hpl _)).zimp fun σ H Q q => callL_core lk q
end
end Z

set_option Elab.async false
set_option linter.all false
set_option maxRecDepth 100000
set_option maxHeartbeats 1000000
namespace Z
open PySem PySem.Spec PyProof.Rows L2

section
variable {T : Tab} {c : Ctx} {ρ : List Addr} {H : Hp}
theorem CxOk.mk' {X : Cx} (ok : CxOk c X) : X.K = c.T.K := ok.K
/-! ### reading objects -/
theorem RepH.lst {h : Hs} {n : Nat} {a : Addr} {xs : List D} (rh : RepH T ρ H h) (e : h[n]? = some (.lst xs)) (ea : ρ[n]? = some a) : ∃ vs, H a = some (.lst vs) ∧ RepL T ρ H xs vs := rh.at_ n _ a e ea
/-- a list, a list that never changes -/
def seqOf (h : Hs) (d : D) : Option (List D) := match d with
  | .ref n => match h[n]? with
    | some (.lst xs) => some xs
    | _ => none
  | .kl xs => some xs
  | _ => none
theorem RepH.seq {h : Hs} {d : D} {v : V} {xs : List D} (rh : RepH T ρ H h) (e : seqOf h d = some xs) (r : Rep T ρ H d v) : ∃ a vs, v = .ref a ∧ SqL T.K H a vs ∧ RepL T ρ H xs vs := by
  unfold seqOf at e
  cases r with
  | ref ea =>
    dsimp only at e
    split at e
    · rename_i q
      cases e
      obtain ⟨vs, e1, r⟩ := rh.at_ _ _ _ q ea
      exact ⟨_, vs, rfl, .of e1, r⟩
    · cases e
  | kl s q =>
    cases e
    exact ⟨_, _, rfl, s.sq, q⟩
  | _ => cases e
/-! ### ints -/
def gI2 (k : Int → Int → Bool) (f : Int → Int → D) : G2 := fun x y h => match x, y with
  | .int i, .int j => match k i j with
    | true => .ret (f i j) h
    | false => .fail
  | _, _ => .fail
theorem lk_I {C : Int → Int → Prop} {g : Int → Int → V} {k : Int → Int → Bool} {f : Int → Int → D} (hk : ∀ i j, k i j = true → C i j) (hf : ∀ T ρ H i j, Rep T ρ H (f i j) (g i j)) : Lk2 T (rI C g) (gI2 k f) := by
  intro ρ H h x y vx vy Q E rh rx ry w
  unfold gI2 at w
  split at w
  · cases rx; cases ry
    split at w
    · rename_i e
      exact ⟨_, _, rfl, rfl, hk _ _ e, w ρ _ H .refl rh (hf _ _ _ _ _)⟩
    · exact w.elim
  · exact w.elim
theorem lk_I0 {g : Int → Int → V} {f : Int → Int → D} (hf : ∀ T ρ H i j, Rep T ρ H (f i j) (g i j)) : Lk2 T (rI0 g) (gI2 (fun _ _ => true) f) := by
  intro ρ H h x y vx vy Q E rh rx ry w
  unfold gI2 at w
  split at w
  · cases rx; cases ry
    exact ⟨_, _, rfl, rfl, w ρ _ H .refl rh (hf _ _ _ _ _)⟩
  · exact w.elim
theorem Lk2.or {r r' : R2} {g g' : G2} {k : D → D → Bool} (a : Lk2 T r g) (b : Lk2 T r' g') : Lk2 T (fun x y H Q => r x y H Q ∨ r' x y H Q) (fun x y h => match k x y with | true => g x y h | false => g' x y h) := by
  intro ρ H h x y vx vy Q E rh rx ry w
  dsimp only at w
  split at w
  · exact .inl (a ρ H h x y vx vy Q E rh rx ry w)
  · exact .inr (b ρ H h x y vx vy Q E rh rx ry w)
/-- a number that fits a word -/
def w64 (i : Int) : Bool := Nat.blt i.natAbs 18446744073709551616
theorem w64_ok {i : Int} (h : w64 i = true) : -(2 ^ 64) < i ∧ i < 2 ^ 64 := by
  have h' : i.natAbs < 18446744073709551616 := by simpa [w64, Nat.blt_eq] using h
  omega
def isInt : D → Bool
  | .int _ => true
  | _ => false
def gAddI := gI2 (fun _ _ => true) fun i j => .int (i + j)
def gSubI := gI2 (fun _ _ => true) fun i j => .int (i - j)
def gMulI := gI2 (fun i j => w64 i || w64 j) fun i j => .int (i * j)
def gDivI := gI2 (fun i j => !(j == 0) && Nat.blt j.natAbs 1073741824) fun i j => .int (i.fdiv j)
def gModI := gI2 (fun i j => !(j == 0)) fun i j => .int (i.fmod j)
theorem lk_add : Lk2 T (rI0 fun i j => .int (i + j)) gAddI := lk_I0 fun _ _ _ _ _ => .int _
theorem lk_sub : Lk2 T (rI0 fun i j => .int (i - j)) gSubI := lk_I0 fun _ _ _ _ _ => .int _
theorem lk_mul : Lk2 T (rI CMul fun i j => .int (i * j)) gMulI := lk_I (fun i j h => by
  rcases Bool.or_eq_true_iff.mp h with h | h
  · exact .inl (w64_ok h)
  · exact .inr (w64_ok h)) fun _ _ _ _ _ => .int _
theorem lk_div : Lk2 T (rI CDivN fun i j => .int (i.fdiv j)) gDivI := lk_I (fun i j h => by
  obtain ⟨h1, h2⟩ := Bool.and_eq_true_iff.mp h
  exact ⟨by simpa using h1, by simpa [Nat.blt_eq] using h2⟩) fun _ _ _ _ _ => .int _
theorem lk_mod : Lk2 T (rI (fun _ j => j ≠ 0) fun i j => .int (i.fmod j)) gModI := lk_I (fun i j h => by simpa using h) fun _ _ _ _ _ => .int _
section
variable {a b : Expr} {fa fb : EF} {pos : Pos}
theorem ev_sub (ha : EV c a fa) (hb : EV c b fb) : EV c (.BinOp a .Sub b pos) (fBin gSubI fa fb) := ev_bin (fun _ _ => op_sub) lk_sub ha hb
theorem ev_mul (ha : EV c a fa) (hb : EV c b fb) : EV c (.BinOp a .Mult b pos) (fBin gMulI fa fb) := ev_bin (fun _ _ => op_mul) lk_mul ha hb
theorem ev_mod (ha : EV c a fa) (hb : EV c b fb) : EV c (.BinOp a .Mod b pos) (fBin gModI fa fb) := ev_bin (fun _ _ => op_modN) lk_mod ha hb
theorem ev_div (ha : EV c a fa) (hb : EV c b fb) : EV c (.BinOp a .FloorDiv b pos) (fBin gDivI fa fb) := ev_bin (fun _ _ => op_fdivN) lk_div ha hb
end
def gB2 (f : Int → Int → Bool) : G2 := gI2 (fun _ _ => true) fun i j => .bl (f i j)
def gLt := gB2 fun i j => decide (i < j)
def gLe := gB2 fun i j => decide (i ≤ j)
def gGt := gB2 fun i j => decide (j < i)
def gGe := gB2 fun i j => decide (j ≤ i)
section
variable {a b : Expr} {fa fb : EF} {pos : Pos}
theorem ev_lt (ha : EV c a fa) (hb : EV c b fb) : EV c (.Compare a [.Lt] [b] pos) (fBin gLt fa fb) := ev_cmp (fun _ _ => op_lt) (lk_I0 fun _ _ _ _ _ => .bl _) ha hb (nomark _)
theorem ev_le (ha : EV c a fa) (hb : EV c b fb) : EV c (.Compare a [.LtE] [b] pos) (fBin gLe fa fb) := ev_cmp (fun _ _ => op_le) (lk_I0 fun _ _ _ _ _ => .bl _) ha hb (nomark _)
theorem ev_gt (ha : EV c a fa) (hb : EV c b fb) : EV c (.Compare a [.Gt] [b] pos) (fBin gGt fa fb) := ev_cmp (fun _ _ => op_gt) (lk_I0 fun _ _ _ _ _ => .bl _) ha hb (nomark _)
theorem ev_ge (ha : EV c a fa) (hb : EV c b fb) : EV c (.Compare a [.GtE] [b] pos) (fBin gGe fa fb) := ev_cmp (fun _ _ => op_ge) (lk_I0 fun _ _ _ _ _ => .bl _) ha hb (nomark _)
theorem tv_lt (ha : EV c a fa) (hb : EV c b fb) : TV c (.Compare a [.Lt] [b] pos) (fTest (fBin gLt fa fb)) := tv_cmp (fun _ _ => op_lt) (lk_I0 fun _ _ _ _ _ => .bl _) ha hb (nomark _)
theorem tv_le (ha : EV c a fa) (hb : EV c b fb) : TV c (.Compare a [.LtE] [b] pos) (fTest (fBin gLe fa fb)) := tv_cmp (fun _ _ => op_le) (lk_I0 fun _ _ _ _ _ => .bl _) ha hb (nomark _)
theorem tv_gt (ha : EV c a fa) (hb : EV c b fb) : TV c (.Compare a [.Gt] [b] pos) (fTest (fBin gGt fa fb)) := tv_cmp (fun _ _ => op_gt) (lk_I0 fun _ _ _ _ _ => .bl _) ha hb (nomark _)
theorem tv_ge (ha : EV c a fa) (hb : EV c b fb) : TV c (.Compare a [.GtE] [b] pos) (fTest (fBin gGe fa fb)) := tv_cmp (fun _ _ => op_ge) (lk_I0 fun _ _ _ _ _ => .bl _) ha hb (nomark _)
end
def gNeg : G1 := fun x h => match x with
  | .int i => .ret (.int (-i)) h
  | _ => .fail
theorem ev_neg {a : Expr} {fa : EF} {pos : Pos} (ha : EV c a fa) : EV c (.UnaryOp .USub a pos) (fUn gNeg fa) := ev_un (r := rU fun i => .int (-i)) (fun _ _ => un_neg) (fun ρ H h x vx Q E rh rx w => by
  unfold gNeg at w
  split at w
  · cases rx
    exact ⟨_, rfl, w ρ _ H .refl rh (.int _)⟩
  · exact w.elim) ha

/-! ### + of ints, texts, lists, tuples -/
def gAdd : G2 := fun x y h => match x, y with
  | .int i, .int j => .ret (.int (i + j)) h
  | .str a, .str b => match Nat.ble (a.length + b.length) line with
    | true => .ret (.str (a ++ b)) h
    | false => .fail
  | .ref n, .ref m => match h[n]?, h[m]? with
    | some (.lst xs), some (.lst ys) => match Nat.ble (xs.length + ys.length) line with
      | true => newL (xs ++ ys) h
      | false => .fail
    | _, _ => .fail
  | .tup xs, .tup ys => match xs with
    | [] => .fail
    | _ :: _ => match Nat.ble (xs.length + ys.length) line with
      | true => .ret (.tup (xs ++ ys)) h
      | false => .fail
  | _, _ => .fail
def rAdd (K : PySem.W.Frag) : R2 := fun x y H Q => (∃ i j, x = .int i ∧ y = .int j ∧ Q (.int (i + j)) H) ∨ (∃ a b, x = .str a ∧ y = .str b ∧ a.length + b.length ≤ sizeLine ∧ Q (.str (a ++ b)) H) ∨ rCat x y H Q ∨ rCatT K x y H Q
theorem op_addAny {X : Cx} : OpR X (binaryOp .Add) (rAdd X.K) := by
  refine OpR.or op_add (OpR.or (r := fun x y H Q => ∃ a b, x = .str a ∧ y = .str b ∧ a.length + b.length ≤ sizeLine ∧ Q (.str (a ++ b)) H) ?_ (OpR.or op_cat op_catT))
  intro pins s σ H x y v u Q I rx ry q
  obtain ⟨a, b, e1, e2, z, q⟩ := q
  exact op_add_str pins s σ H x y v u Q I rx ry ⟨a, b, e1, e2, z, q⟩
theorem lk_addAny : Lk2 T (rAdd T.K) gAdd := by
  intro ρ H h x y vx vy Q E rh rx ry w
  unfold gAdd at w
  split at w
  · cases rx; cases ry
    exact .inl ⟨_, _, rfl, rfl, w ρ _ H .refl rh (.int _)⟩
  · split at w
    · rename_i z
      cases rx; cases ry
      exact .inr (.inl ⟨_, _, rfl, rfl, line_le (Nat.le_of_ble_eq_true z), w ρ _ H .refl rh (.str _)⟩)
    · exact w.elim
  · split at w
    · rename_i xs ys e1 e2
      split at w
      · rename_i z
        cases rx with
        | ref ea =>
          cases ry with
          | ref eb =>
            obtain ⟨vs, q1, r1⟩ := rh.at_ _ _ _ e1 ea
            obtain ⟨ws, q2, r2⟩ := rh.at_ _ _ _ e2 eb
            exact .inr (.inr (.inl ⟨_, _, vs, ws, rfl, rfl, q1, q2, by rw [← r1.length, ← r2.length]; exact line_le (Nat.le_of_ble_eq_true z), fun p np => newL_ok rh (r1.append r2) w np⟩))
      · exact w.elim
    · exact w.elim
  · split at w
    · exact w.elim
    · split at w
      · rename_i z
        cases rx with
        | tup s1 r1 =>
          cases ry with
          | tup s2 r2 =>
            rename_i x0 ys y1 xs1 vs a ws b
            refine .inr (.inr (.inr ⟨_, _, _, _, rfl, rfl, s1, s2, fun e => (by rw [e] at r1; cases r1), by rw [← r1.length, ← r2.length]; exact line_le (Nat.le_of_ble_eq_true z), fun e => ?_, fun e p np => newT_ok rh (r1.append r2) w np⟩))
            subst e
            cases r2
            rw [List.append_nil] at w
            exact w ρ _ H .refl rh (.tup s1 r1)
      · exact w.elim
  · exact w.elim
theorem ev_add {a b : Expr} {fa fb : EF} {pos : Pos} (ha : EV c a fa) (hb : EV c b fb) : EV c (.BinOp a .Add b pos) (fBin gAdd fa fb) := ev_bin (r := rAdd c.T.K) (fun X ok => by rw [← ok.K]; exact op_addAny) lk_addAny ha hb
end
end Z

set_option Elab.async false
set_option linter.all false
set_option maxRecDepth 100000
set_option maxHeartbeats 1000000
namespace Z
open PySem PySem.Spec PyProof.Rows L2

section
variable {T : Tab} {c : Ctx} {ρ : List Addr} {H : Hp}
/-! ### == -/
def mapO {α β : Type} (f : α → Option β) : List α → Option (List β)
  | [] => some []
  | x :: xs => match f x with
    | some y => match mapO f xs with
      | some ys => some (y :: ys)
      | none => none
    | none => none
def toPD (h : Hs) : Nat → D → Option PyData
  | 0, _ => none
  | _ + 1, .non => some .none
  | _ + 1, .bl b => some (.bool b)
  | _ + 1, .int i => some (.int i)
  | _ + 1, .str x => some (.str x)
  | f + 1, .tup xs => match mapO (toPD h f) xs with
    | some ys => some (.tuple ys)
    | none => none
  | f + 1, .ref n => match seqOf h (.ref n) with
    | some xs => match mapO (toPD h f) xs with
      | some ys => some (.list ys)
      | none => none
    | none => none
  | f + 1, .kl xs => match mapO (toPD h f) xs with
    | some ys => some (.list ys)
    | none => none
  | _ + 1, _ => none
theorem dpAll {f : D → Option PyData} (hf : ∀ d v p, Rep T ρ H d v → f d = some p → Dp T.K H v p) : ∀ {ds : List D} {vs : List V} {ps : List PyData}, RepL T ρ H ds vs → mapO f ds = some ps → DpAll T.K H vs ps
  | _, _, _, .nil, e => by cases e; exact .nil
  | _, _, _, .cons r s, e => by
    unfold mapO at e
    split at e
    · rename_i y e1
      split at e
      · rename_i ys e2
        cases e
        exact .cons (hf _ _ _ r e1) (dpAll hf s e2)
      · cases e
    · cases e
theorem dp_of {h : Hs} (rh : RepH T ρ H h) : ∀ (f : Nat) (d : D) (v : V) (p : PyData), Rep T ρ H d v → toPD h f d = some p → Dp T.K H v p
  | 0, _, _, _, _, e => by cases e
  | f + 1, d, v, p, r, e => by
    unfold toPD at e
    cases r with
    | non => cases e; exact .non
    | bl => cases e; exact .bl _
    | int => cases e; exact .int _
    | str => cases e; exact .str _
    | ty => cases e
    | ins => cases e
    | cls => cases e
    | xn0 => cases e
    | xn => cases e
    | tup s q =>
      dsimp only at e
      split at e
      · rename_i ys e1
        cases e
        exact .tup s (dpAll (fun d v p => dp_of rh f d v p) q e1)
      · cases e
    | ref ea =>
      dsimp only at e
      split at e
      · rename_i xs e0
        split at e
        · rename_i ys e1
          cases e
          obtain ⟨a, vs, ev, s, q⟩ := rh.seq e0 (.ref ea)
          cases ev
          exact .lst s (dpAll (fun d v p => dp_of rh f d v p) q e1)
        · cases e
      · cases e
    | kl s q =>
      dsimp only at e
      split at e
      · rename_i ys e1
        cases e
        exact .lst s.sq (dpAll (fun d v p => dp_of rh f d v p) q e1)
      · cases e
/-- == as the layer has it: flat values, or data of any depth -/
def eqFlat : D → D → Option Bool
  | .int i, .int j => some (i == j)
  | .str x, .str y => some (x.cps.toList == y.cps.toList)
  | .bl x, .bl y => some (x == y)
  | .non, .non => some true
  | .non, .int _ => some false | .int _, .non => some false | .non, .bl _ => some false | .bl _, .non => some false | .non, .str _ => some false | .str _, .non => some false
  | .int _, .str _ => some false | .str _, .int _ => some false | .bl _, .str _ => some false | .str _, .bl _ => some false
  | _, _ => none
def eqD (h : Hs) (x y : D) : Option Bool := match eqFlat x y with
  | some b => some b
  | none => match toPD h 9 x, toPD h 9 y with
    | some p, some q => match SeqAt.shaped p, SeqAt.shaped q with
      | true, true => some (PyData.eqv p q)
      | _, _ => none
    | _, _ => none
def gEq : G2 := fun x y h => match eqD h x y with
  | some b => .ret (.bl b) h
  | none => .fail
def gNe : G2 := fun x y h => match eqD h x y with
  | some b => .ret (.bl (!b)) h
  | none => .fail
theorem str_eq {x y : Str} : (x.cps.toList == y.cps.toList) = decide (V.str x = V.str y) := by
  rw [Bool.eq_iff_iff]
  cases x; cases y
  simp
theorem eqFlat_ok {x y : D} {vx vy : V} {b : Bool} (rx : Rep T ρ H x vx) (ry : Rep T ρ H y vy) (e : eqFlat x y = some b) : scal vx vy = true ∧ decide (vx = vy) = b := by
  unfold eqFlat at e
  split at e <;> first
    | (cases e; cases rx; cases ry; first | exact ⟨rfl, dec_int⟩ | exact ⟨rfl, dec_bl⟩ | exact ⟨rfl, str_eq.symm⟩ | exact ⟨rfl, by simp⟩)
    | cases e
theorem eqD_ok {h : Hs} {x y : D} {vx vy : V} {b : Bool} (rh : RepH T ρ H h) (rx : Rep T ρ H x vx) (ry : Rep T ρ H y vy) (e : eqD h x y = some b) :
    (scal vx vy = true ∧ decide (vx = vy) = b) ∨ ∃ d e, Dp T.K H vx d ∧ Dp T.K H vy e ∧ SeqAt.shaped d = true ∧ SeqAt.shaped e = true ∧ PyData.eqv d e = b := by
  unfold eqD at e
  split at e
  · rename_i b' e1
    cases e
    exact .inl (eqFlat_ok rx ry e1)
  · split at e
    · rename_i p q e1 e2
      split at e
      · rename_i s1 s2
        cases e
        exact .inr ⟨p, q, dp_of rh _ _ _ _ rx e1, dp_of rh _ _ _ _ ry e2, s1, s2, rfl⟩
      · cases e
    · cases e
def rEqA (K : PySem.W.Frag) : R2 := fun x y H Q => rEq x y H Q ∨ rEqD K x y H Q
def rNeA (K : PySem.W.Frag) : R2 := fun x y H Q => rNe x y H Q ∨ rNeD K x y H Q
theorem op_eqA {X : Cx} (ok : CxOk c X) : OpR X (compareOp .Eq) (rEqA c.T.K) := by rw [← ok.K]; exact op_eq.or (op_eqD ok.un)
theorem op_neA {X : Cx} (ok : CxOk c X) : OpR X (compareOp .NotEq) (rNeA c.T.K) := by rw [← ok.K]; exact op_ne.or (op_neD ok.un)
theorem lk_eq : Lk2 T (rEqA T.K) gEq := by
  intro ρ H h x y vx vy Q E rh rx ry w
  unfold gEq at w
  split at w
  · rename_i b e
    rcases eqD_ok rh rx ry e with ⟨h1, h2⟩ | ⟨d, e, h1, h2, h3, h4, h5⟩
    · exact .inl ⟨h1, by rw [h2]; exact w ρ _ H .refl rh (.bl _)⟩
    · exact .inr ⟨d, e, h1, h2, h3, h4, by rw [h5]; exact w ρ _ H .refl rh (.bl _)⟩
  · exact w.elim
theorem lk_ne : Lk2 T (rNeA T.K) gNe := by
  intro ρ H h x y vx vy Q E rh rx ry w
  unfold gNe at w
  split at w
  · rename_i b e
    rcases eqD_ok rh rx ry e with ⟨h1, h2⟩ | ⟨d, e, h1, h2, h3, h4, h5⟩
    · exact .inl ⟨h1, by rw [h2]; exact w ρ _ H .refl rh (.bl _)⟩
    · exact .inr ⟨d, e, h1, h2, h3, h4, by rw [h5]; exact w ρ _ H .refl rh (.bl _)⟩
  · exact w.elim
section
variable {a b : Expr} {fa fb : EF} {pos : Pos}
theorem ev_eq (ha : EV c a fa) (hb : EV c b fb) : EV c (.Compare a [.Eq] [b] pos) (fBin gEq fa fb) := ev_cmp (fun _ ok => op_eqA ok) lk_eq ha hb (nomark _)
theorem ev_ne (ha : EV c a fa) (hb : EV c b fb) : EV c (.Compare a [.NotEq] [b] pos) (fBin gNe fa fb) := ev_cmp (fun _ ok => op_neA ok) lk_ne ha hb (nomark _)
theorem tv_eq (ha : EV c a fa) (hb : EV c b fb) : TV c (.Compare a [.Eq] [b] pos) (fTest (fBin gEq fa fb)) := tv_cmp (fun _ ok => op_eqA ok) lk_eq ha hb (nomark _)
theorem tv_ne (ha : EV c a fa) (hb : EV c b fb) : TV c (.Compare a [.NotEq] [b] pos) (fTest (fBin gNe fa fb)) := tv_cmp (fun _ ok => op_neA ok) lk_ne ha hb (nomark _)
end

/-! ### subscripts, slices -/
theorem RepL.atI {xs : List D} {vs : List V} {i : Int} {d : D} (r : RepL T ρ H xs vs) (e : atI xs i = some d) : ∃ v, L2.atI vs i = some v ∧ Rep T ρ H d v := by
  unfold L2.atI at e ⊢
  rw [r.length] at e
  cases q : ixN vs.length i with
  | none => rw [q] at e; cases e
  | some j =>
    rw [q] at e
    obtain ⟨v, e1, q1⟩ := r.get (show xs[j]? = some d from e)
    exact ⟨v, e1, q1⟩
def gIx : G2 := fun x y h => match y with
  | .int i => match x with
    | .tup xs => match atI xs i with
      | some d => .ret d h
      | none => .fail
    | .str z => match Nat.ble z.length line with
      | true => match atI z.cps.toList i with
        | some c => .ret (.str ⟨#[c]⟩) h
        | none => .fail
      | false => .fail
    | _ => match seqOf h x with
      | some xs => match atI xs i with
        | some d => .ret d h
        | none => .fail
      | none => .fail
  | _ => .fail
theorem lk_ix : Lk2 T (rIx T.K) gIx := by
  intro ρ H h x y vx vy Q E rh rx ry w
  unfold gIx at w
  split at w
  · cases ry
    split at w
    · split at w
      · rename_i d e
        cases rx with
        | tup s r =>
          obtain ⟨v, e1, q1⟩ := r.atI e
          exact .inr (.inl ⟨_, _, _, _, rfl, rfl, s, e1, w ρ _ H .refl rh q1⟩)
      · exact w.elim
    · split at w
      · rename_i z0
        split at w
        · rename_i d e
          cases rx
          exact .inr (.inr ⟨_, _, _, rfl, rfl, line_le (Nat.le_of_ble_eq_true z0), e, w ρ _ H .refl rh (.str _)⟩)
        · exact w.elim
      · exact w.elim
    · split at w
      · rename_i xs e0
        split at w
        · rename_i d e
          obtain ⟨a, vs, rfl, s, r⟩ := rh.seq e0 rx
          obtain ⟨v, e1, q1⟩ := r.atI e
          exact .inl ⟨_, _, _, _, rfl, rfl, s, e1, w ρ _ H .refl rh q1⟩
        · exact w.elim
      · exact w.elim
  · exact w.elim
theorem ev_ix {a b : Expr} {fa fb : EF} {pos : Pos} (ha : EV c a fa) (hb : EV c b fb) (hs : PlainIx b) : EV c (.Subscript a b pos) (fBin gIx fa fb) := fun X ok W tk =>
  (pe_ix (r := rIx c.T.K) (by rw [← ok.K]; exact ix_seq) (ha X ok W tk) (hb X ok W tk) hs).zimp fun σ H Q q => bin_core lk_ix q
abbrev OF := Env' → Hs → R (Option Int)
def PostO (T : Tab) (ρ : List Addr) (H : Hp) (Q : Option Int → Hp → Prop) (b : Option Int) (h' : Hs) : Prop := ∀ ρ' H', Ex ρ H ρ' H' → RepH T ρ' H' h' → Q b H'
def tO (T : Tab) (W : WX) (f : OF) : TO := fun σ H Q => ∃ env h ρ, RepE T ρ H env σ ∧ RepH T ρ H h ∧ wp (f env h) (PostO T ρ H Q) (XW T ρ H W σ)
def OV (c : Ctx) (e : Option Expr) (f : OF) : Prop := ∀ X, CxOk c X → ∀ W, Takes X W → PO X e (tO c.T W f)
def fNoP : OF := fun _ h => .ret none h
def fPart (f : EF) : OF := fun env h => (f env h).bind fun x h1 => match x with
  | .int i => .ret (some i) h1
  | _ => .fail
theorem _root_.L2.PO.zimp {X : Cx} {e : Option Expr} {t t' : TO} (h : PO X e t) (i : ∀ σ H Q, t' σ H Q → t σ H Q) : PO X e t' := ⟨fun pins s σ H Q I q => h.run pins s σ H Q I (i σ H Q q)⟩
theorem ov_none : OV c none fNoP := fun X ok W tk => po_none.zimp fun σ H Q ⟨env, h, ρ, re, rh, w⟩ => w ρ H .refl rh
theorem ov_some {e : Expr} {f : EF} (he : EV c e f) : OV c (some e) (fPart f) := fun X ok W tk => (po_some (he X ok W tk)).zimp fun σ H Q ⟨env, h, ρ, re, rh, w⟩ =>
  tE_then re rh w (fun _ _ e => e) fun x h1 ρ1 v1 H1 x1 re1 rh1 r1 w1 => by
    cases r1 with
    | int i => exact ⟨i, rfl, w1 ρ1 H1 x1 rh1⟩
    | _ => exact w1.elim
def cutD {α : Type} (xs : List α) (lo hi : Option Int) : List α := (xs.drop (HT.sIx xs.length 0 lo)).take (HT.sIx xs.length xs.length hi - HT.sIx xs.length 0 lo)
theorem RepL.cut {xs : List D} {vs : List V} {lo hi : Option Int} (r : RepL T ρ H xs vs) : RepL T ρ H (cutD xs lo hi) (cutV vs lo hi) := by
  unfold cutD cutV
  rw [r.length]
  exact (r.drop _).take _
def gSl (x : D) (lo hi : Option Int) : Hs → R D := fun h => match x with
  | .tup xs => match (HT.sIx xs.length 0 lo == 0) && (HT.sIx xs.length xs.length hi == xs.length) with
    | true => .fail
    | false => .ret (.tup (cutD xs lo hi)) h
  | .str z => match Nat.ble z.length line with
    | true => .ret (.str (cutS z lo hi)) h
    | false => .fail
  | _ => match seqOf h x with
    | some xs => newL (cutD xs lo hi) h
    | none => .fail
def rSlA (K : PySem.W.Frag) : V → Option Int → Option Int → Hp → VK → Prop := fun x lo hi H Q => rSlL K x lo hi H Q ∨ rSlT K x lo hi H Q ∨ rSlS x lo hi H Q
def fSl (f : EF) (lo hi : OF) : EF := fun env h => (f env h).bind fun x h1 => (lo env h1).bind fun l h2 => (hi env h2).bind fun u h3 => gSl x l u h3
theorem sl_ok {h : Hs} {x : D} {vx : V} {lo hi : Option Int} {Q : VK} {E : Exn → Hs → Prop} (rh : RepH T ρ H h) (rx : Rep T ρ H x vx) (w : wp (gSl x lo hi h) (PostV T ρ H Q) E) : rSlA T.K vx lo hi H Q := by
  unfold gSl at w
  split at w
  · split at w
    · exact w.elim
    · rename_i z
      cases rx with
      | tup s r =>
        refine .inr (.inl ⟨_, _, rfl, s, fun ⟨e1, e2⟩ => ?_, fun p np => newT_ok rh r.cut w np⟩)
        rw [← r.length] at e1 e2
        rw [e1, e2] at z
        simp at z
  · split at w
    · rename_i z
      cases rx
      exact .inr (.inr ⟨_, rfl, line_le (Nat.le_of_ble_eq_true z), w ρ _ H .refl rh (.str _)⟩)
    · exact w.elim
  · split at w
    · rename_i xs e0
      obtain ⟨a, vs, rfl, s, r⟩ := rh.seq e0 rx
      exact .inl ⟨_, _, rfl, s, fun p np => newL_ok rh r.cut w np⟩
    · exact w.elim
theorem ev_sl {e : Expr} {lo hi : Option Expr} {f : EF} {fl fh : OF} {pos p2 : Pos} (he : EV c e f) (hl : OV c lo fl) (hh : OV c hi fh) : EV c (.Subscript e (.Slice lo hi none p2) pos) (fSl f fl fh) := fun X ok W tk =>
  (pe_slice (r := rSlA c.T.K) (by rw [← ok.K]; exact sl_list.or (sl_tup.or sl_str)) (he X ok W tk) (hl X ok W tk) (hh X ok W tk)).zimp fun σ H Q ⟨env, h, ρ, re, rh, w⟩ =>
    tE_then re rh w (fun _ _ e => e) fun x h1 ρ1 vx H1 x1 re1 rh1 r1 w1 =>
      ⟨env, h1, ρ1, re1, rh1, wp_mono (fun l h2 w2 ρ2 H2 x2 rh2 => ⟨env, h2, ρ2, re1.mono x2, rh2, wp_mono (fun u h3 w3 ρ3 H3 x3 rh3 =>
        sl_ok (E := XW c.T ρ H W σ) rh3 (r1.mono (x2.trans x3)) (wp_mono (fun d h' p => PostV.mono (x1.trans (x2.trans x3)) p) (fun _ _ e => e) _ w3)) (fun _ _ e => XW.mono (x1.trans x2) e) _ (wp_bind w2)⟩) (fun _ _ e => XW.mono x1 e) _ (wp_bind w1)⟩
end
end Z

set_option Elab.async false
set_option linter.all false
set_option maxRecDepth 100000
set_option maxHeartbeats 1000000
namespace Z
open PySem PySem.Spec PyProof.Rows L2

section
variable {T : Tab} {c : Ctx} {ρ : List Addr} {H : Hp}
/-! ### built-in functions -/
def gLen : GL := fun xs h => match xs with
  | [.tup ys] => .ret (.int ys.length) h
  | [.str z] => match Nat.ble z.length line with
    | true => .ret (.int z.length) h
    | false => .fail
  | [x] => match seqOf h x with
    | some ys => .ret (.int ys.length) h
    | none => .fail
  | _ => .fail
def rLenA (K : PySem.W.Frag) : List V → Hp → VK → Prop := fun xs H Q => ∃ x n, xs = [x] ∧ LenV K x H n ∧ Q (.int n) H
theorem lk_len : LkL T (rLenA T.K) gLen := by
  intro ρ H h x vx Q E rh rx w
  unfold gLen at w
  split at w
  · cases rx with
    | cons r s =>
      cases s
      cases r with
      | tup s r => exact ⟨_, _, rfl, .inr ⟨_, s, rfl⟩, by rw [← r.length]; exact w ρ _ H .refl rh (.int _)⟩
  · split at w
    · rename_i z
      cases rx with
      | cons r s =>
        cases s
        cases r
        exact ⟨_, _, rfl, ⟨line_le (Nat.le_of_ble_eq_true z), rfl⟩, w ρ _ H .refl rh (.int _)⟩
    · exact w.elim
  · split at w
    · rename_i ys e0
      cases rx with
      | cons r s =>
        cases s
        obtain ⟨a, vs, rfl, s, r⟩ := rh.seq e0 r
        exact ⟨_, _, rfl, .inl ⟨_, s, rfl⟩, by rw [← r.length]; exact w ρ _ H .refl rh (.int _)⟩
    · exact w.elim
  · exact w.elim
theorem seq_args {h : Hs} {x : D} {ys : List D} {vx : List V} (rh : RepH T ρ H h) (e0 : seqOf h x = some ys) (rx : RepL T ρ H [x] vx) : ∃ a vs, vx = [.ref a] ∧ SqL T.K H a vs ∧ RepL T ρ H ys vs := by
  cases rx with
  | cons r s =>
    cases s
    obtain ⟨a, vs, rfl, s, r⟩ := rh.seq e0 r
    exact ⟨a, vs, rfl, s, r⟩
theorem tup_args {ys : List D} {vx : List V} (rx : RepL T ρ H [.tup ys] vx) : ∃ a vs, vx = [.ref a] ∧ SqT T.K H a vs ∧ RepL T ρ H ys vs := by
  cases rx with
  | cons r s =>
    cases s
    cases r with
    | tup s r => exact ⟨_, _, rfl, s, r⟩
def gTuple : GL := fun xs h => match xs with
  | [.tup ys] => .ret (.tup ys) h
  | [x] => match seqOf h x with
    | some ys => .ret (.tup ys) h
    | none => .fail
  | _ => .fail
theorem lk_tuple : LkL T (fun xs H Q => ∃ p ys, xs = [.ref p] ∧ ((SqL T.K H p ys ∧ ∀ l, H l = none → Q (.ref l) (upd H l (.tup ys))) ∨ (SqT T.K H p ys ∧ Q (.ref p) H))) gTuple := by
  intro ρ H h x vx Q E rh rx w
  unfold gTuple at w
  split at w
  · obtain ⟨a, vs, e, s, r⟩ := tup_args rx
    exact ⟨a, vs, e, .inr ⟨s, w ρ _ H .refl rh (.tup s r)⟩⟩
  · split at w
    · rename_i ys e0
      obtain ⟨a, vs, e, s, r⟩ := seq_args rh e0 rx
      exact ⟨a, vs, e, .inl ⟨s, fun p np => newT_ok rh r w np⟩⟩
    · exact w.elim
  · exact w.elim
def gList : GL := fun xs h => match xs with
  | [.tup ys] => newL ys h
  | [x] => match seqOf h x with
    | some ys => newL ys h
    | none => .fail
  | _ => .fail
theorem lk_list : LkL T (fun xs H Q => ∃ p ys, xs = [.ref p] ∧ (SqL T.K H p ys ∨ SqT T.K H p ys) ∧ ∀ l, H l = none → Q (.ref l) (upd H l (.lst ys))) gList := by
  intro ρ H h x vx Q E rh rx w
  unfold gList at w
  split at w
  · obtain ⟨a, vs, e, s, r⟩ := tup_args rx
    exact ⟨a, vs, e, .inr s, fun p np => newL_ok rh r w np⟩
  · split at w
    · rename_i ys e0
      obtain ⟨a, vs, e, s, r⟩ := seq_args rh e0 rx
      exact ⟨a, vs, e, .inl s, fun p np => newL_ok rh r w np⟩
    · exact w.elim
  · exact w.elim
def gMax2 : GL := fun xs h => match xs with
  | [.int i, .int j] => .ret (.int (if j > i then j else i)) h
  | _ => .fail
def gMin2 : GL := fun xs h => match xs with
  | [.int i, .int j] => .ret (.int (if j < i then j else i)) h
  | _ => .fail
def gAbs : GL := fun xs h => match xs with
  | [.int i] => .ret (.int (if i < 0 then -i else i)) h
  | _ => .fail
def gInt : GL := fun xs h => match xs with
  | [.int i] => .ret (.int i) h
  | [.bl k] => .ret (.int (if k then 1 else 0)) h
  | _ => .fail
theorem two_args {i j : Int} {vx : List V} (rx : RepL T ρ H [.int i, .int j] vx) : vx = [.int i, .int j] := by
  cases rx with
  | cons r s =>
    cases s with
    | cons r2 s =>
      cases s; cases r; cases r2; rfl
theorem one_int {i : Int} {vx : List V} (rx : RepL T ρ H [.int i] vx) : vx = [.int i] := by
  cases rx with
  | cons r s => cases s; cases r; rfl
theorem one_bl {i : Bool} {vx : List V} (rx : RepL T ρ H [.bl i] vx) : vx = [.bl i] := by
  cases rx with
  | cons r s => cases s; cases r; rfl
theorem lk_max2 : LkL T (fun xs H Q => ∃ i j, xs = [.int i, .int j] ∧ Q (.int (if j > i then j else i)) H) gMax2 := by
  intro ρ H h x vx Q E rh rx w
  unfold gMax2 at w
  split at w
  · exact ⟨_, _, two_args rx, w ρ _ H .refl rh (.int _)⟩
  · exact w.elim
theorem lk_min2 : LkL T (fun xs H Q => ∃ i j, xs = [.int i, .int j] ∧ Q (.int (if j < i then j else i)) H) gMin2 := by
  intro ρ H h x vx Q E rh rx w
  unfold gMin2 at w
  split at w
  · exact ⟨_, _, two_args rx, w ρ _ H .refl rh (.int _)⟩
  · exact w.elim
theorem lk_abs : LkL T (fun xs H Q => ∃ i, xs = [.int i] ∧ Q (.int (if i < 0 then -i else i)) H) gAbs := by
  intro ρ H h x vx Q E rh rx w
  unfold gAbs at w
  split at w
  · exact ⟨_, one_int rx, w ρ _ H .refl rh (.int _)⟩
  · exact w.elim
theorem lk_int : LkL T (fun xs H Q => (∃ i, xs = [.int i] ∧ Q (.int i) H) ∨ ∃ k, xs = [.bl k] ∧ Q (.int (if k then 1 else 0)) H) gInt := by
  intro ρ H h x vx Q E rh rx w
  unfold gInt at w
  split at w
  · exact .inl ⟨_, one_int rx, w ρ _ H .refl rh (.int _)⟩
  · exact .inr ⟨_, one_bl rx, w ρ _ H .refl rh (.int _)⟩
  · exact w.elim
/-- the intsD of a list -/
def intsD : List D → Option (List Int)
  | [] => some []
  | .int i :: xs => match intsD xs with
    | some r => some (i :: r)
    | none => none
  | _ => none
theorem ints_ok : ∀ {xs : List D} {vs : List V} {ns : List Int}, RepL T ρ H xs vs → intsD xs = some ns → vs = ns.map V.int
  | _, _, _, .nil, e => by cases e; rfl
  | _, _, _, .cons r s, e => by
    unfold intsD at e
    split at e
    · rename_i h; cases h
    · rename_i i xs h
      cases h
      split at e
      · rename_i q e1
        cases e
        cases r
        rw [ints_ok s e1]; rfl
      · cases e
    · cases e
def bls : List D → Option (List Bool)
  | [] => some []
  | .bl i :: xs => match bls xs with
    | some r => some (i :: r)
    | none => none
  | _ => none
theorem bls_ok : ∀ {xs : List D} {vs : List V} {ns : List Bool}, RepL T ρ H xs vs → bls xs = some ns → vs = ns.map V.bl
  | _, _, _, .nil, e => by cases e; rfl
  | _, _, _, .cons r s, e => by
    unfold bls at e
    split at e
    · rename_i h; cases h
    · rename_i i xs h
      cases h
      split at e
      · rename_i q e1
        cases e
        cases r
        rw [bls_ok s e1]; rfl
      · cases e
    · cases e
def sumI : List Int → Int
  | [] => 0
  | i :: r => i + sumI r
theorem sumI_eq : ∀ l : List Int, sumI l = l.sum
  | [] => rfl
  | i :: r => by rw [sumI, sumI_eq r, List.sum_cons]
def gSum : GL := fun xs h => match xs with
  | [x] => match seqOf h x with
    | some ys => match intsD ys with
      | some ns => .ret (.int (sumI ns)) h
      | none => .fail
    | none => .fail
  | _ => .fail
theorem lk_sum : LkL T (rSum T.K) gSum := by
  intro ρ H h x vx Q E rh rx w
  unfold gSum at w
  split at w
  · split at w
    · rename_i ys e0
      split at w
      · rename_i ns e1
        obtain ⟨a, vs, e, s, r⟩ := seq_args rh e0 rx
        rw [ints_ok r e1] at s
        rw [sumI_eq] at w
        exact ⟨a, ns, e, s, w ρ _ H .refl rh (.int _)⟩
      · exact w.elim
    · exact w.elim
  · exact w.elim
def anyB : List Bool → Bool
  | [] => false
  | true :: _ => true
  | false :: r => anyB r
def allB : List Bool → Bool
  | [] => true
  | false :: _ => false
  | true :: r => allB r
theorem anyB_eq : ∀ l : List Bool, anyB l = l.any id
  | [] => rfl
  | true :: r => rfl
  | false :: r => by rw [anyB, anyB_eq r]; rfl
theorem allB_eq : ∀ l : List Bool, allB l = l.all id
  | [] => rfl
  | false :: r => rfl
  | true :: r => by rw [allB, allB_eq r]; rfl
def gAny : GL := fun xs h => match xs with
  | [x] => match seqOf h x with
    | some ys => match bls ys with
      | some ns => .ret (.bl (anyB ns)) h
      | none => .fail
    | none => .fail
  | _ => .fail
def gAll : GL := fun xs h => match xs with
  | [x] => match seqOf h x with
    | some ys => match bls ys with
      | some ns => .ret (.bl (allB ns)) h
      | none => .fail
    | none => .fail
  | _ => .fail
theorem lk_any : LkL T (rAny T.K) gAny := by
  intro ρ H h x vx Q E rh rx w
  unfold gAny at w
  split at w
  · split at w
    · rename_i ys e0
      split at w
      · rename_i ns e1
        obtain ⟨a, vs, e, s, r⟩ := seq_args rh e0 rx
        rw [bls_ok r e1] at s
        rw [anyB_eq] at w
        exact ⟨a, ns, e, s, w ρ _ H .refl rh (.bl _)⟩
      · exact w.elim
    · exact w.elim
  · exact w.elim
theorem lk_all : LkL T (rAll T.K) gAll := by
  intro ρ H h x vx Q E rh rx w
  unfold gAll at w
  split at w
  · split at w
    · rename_i ys e0
      split at w
      · rename_i ns e1
        obtain ⟨a, vs, e, s, r⟩ := seq_args rh e0 rx
        rw [bls_ok r e1] at s
        rw [allB_eq] at w
        exact ⟨a, ns, e, s, w ρ _ H .refl rh (.bl _)⟩
      · exact w.elim
    · exact w.elim
  · exact w.elim
section
variable {x : Str} {p pos : Pos} {e e2 : Expr} {es : List Expr} {f : AF}
abbrev St1 (es : List Expr) : Prop := ∀ env, match es with
  | [] => True
  | e :: es => starEach (e :: es) env = (false, eval e env) :: starEach es env
abbrev Pl (pos : Pos) (es : List Expr) : Prop := ∀ env, (backTo pos (starEach es env)).any (·.1) = false
theorem ev_len (hg : GlC c "len") (hm : c.mg "len" = none) (ha : AV c (e :: es) f) (he : St1 (e :: es)) (hpl : Pl pos es) : EV c (.Call (.Name "len" p) (e :: es) [] pos) (fCallL gLen f) :=
  ev_callB (r := rLenA c.T.K) (fun X ok => by rw [← ok.K]; exact call_len) lk_len hg hm PySem.boot_len ha (by decide) (by decide) he hpl
theorem ev_tuple (hg : GlC c "tuple") (hm : c.mg "tuple" = none) (ha : AV c (e :: es) f) (he : St1 (e :: es)) (hpl : Pl pos es) : EV c (.Call (.Name "tuple" p) (e :: es) [] pos) (fCallL gTuple f) :=
  ev_callTy (fun X ok => by rw [← ok.K]; exact call_tuple_of) lk_tuple hg hm boot_tuple ha (by decide) (by decide) he hpl
theorem ev_list (hg : GlC c "list") (hm : c.mg "list" = none) (ha : AV c (e :: es) f) (he : St1 (e :: es)) (hpl : Pl pos es) : EV c (.Call (.Name "list" p) (e :: es) [] pos) (fCallL gList f) :=
  ev_callTy (fun X ok => by rw [← ok.K]; exact call_list_of) lk_list hg hm boot_list ha (by decide) (by decide) he hpl
theorem ev_int1 (hg : GlC c "int") (hm : c.mg "int" = none) (ha : AV c (e :: es) f) (he : St1 (e :: es)) (hpl : Pl pos es) : EV c (.Call (.Name "int" p) (e :: es) [] pos) (fCallL gInt f) :=
  ev_callTy (fun X ok => call_int1) lk_int hg hm boot_int ha (by decide) (by decide) he hpl
theorem ev_abs (hg : GlC c "abs") (hm : c.mg "abs" = none) (ha : AV c (e :: es) f) (he : St1 (e :: es)) (hpl : Pl pos es) : EV c (.Call (.Name "abs" p) (e :: es) [] pos) (fCallL gAbs f) :=
  ev_callB (fun X ok => call_abs) lk_abs hg hm boot_abs ha (by decide) (by decide) he hpl
theorem ev_max2 (hc : c.calm = true) (hg : GlC c "max") (hm : c.mg "max" = none) (ha : AV c (e :: es) f) (he : St1 (e :: es)) (hpl : Pl pos es) : EV c (.Call (.Name "max" p) (e :: es) [] pos) (fCallL gMax2 f) :=
  ev_callB (fun X ok => call_max2 (ok.calm.trans hc)) lk_max2 hg hm (by decide +kernel) ha (by decide) (by decide) he hpl
theorem ev_min2 (hc : c.calm = true) (hg : GlC c "min") (hm : c.mg "min" = none) (ha : AV c (e :: es) f) (he : St1 (e :: es)) (hpl : Pl pos es) : EV c (.Call (.Name "min" p) (e :: es) [] pos) (fCallL gMin2 f) :=
  ev_callB (fun X ok => call_min2 (ok.calm.trans hc)) lk_min2 hg hm (by decide +kernel) ha (by decide) (by decide) he hpl
theorem ev_sum (hc : c.calm = true) (hg : GlC c "sum") (hm : c.mg "sum" = none) (ha : AV c (e :: es) f) (he : St1 (e :: es)) (hpl : Pl pos es) : EV c (.Call (.Name "sum" p) (e :: es) [] pos) (fCallL gSum f) :=
  ev_callB (r := rSum c.T.K) (fun X ok => by rw [← ok.K]; exact cr_sum (ok.calm.trans hc)) lk_sum hg hm (by decide +kernel) ha (by decide) (by decide) he hpl
theorem ev_any (hc : c.calm = true) (hg : GlC c "any") (hm : c.mg "any" = none) (ha : AV c (e :: es) f) (he : St1 (e :: es)) (hpl : Pl pos es) : EV c (.Call (.Name "any" p) (e :: es) [] pos) (fCallL gAny f) :=
  ev_callB (r := rAny c.T.K) (fun X ok => by rw [← ok.K]; exact cr_any (ok.calm.trans hc)) lk_any hg hm (by decide +kernel) ha (by decide) (by decide) he hpl
theorem ev_all (hc : c.calm = true) (hg : GlC c "all") (hm : c.mg "all" = none) (ha : AV c (e :: es) f) (he : St1 (e :: es)) (hpl : Pl pos es) : EV c (.Call (.Name "all" p) (e :: es) [] pos) (fCallL gAll f) :=
  ev_callB (r := rAll c.T.K) (fun X ok => by rw [← ok.K]; exact cr_all (ok.calm.trans hc)) lk_all hg hm (by decide +kernel) ha (by decide) (by decide) he hpl
end

/-! ### isinstance with a built-in class -/
/-- the class of a value: 0 None, 1 bool, 2 int, 3 str, 4 tuple, 5 list, 6 dict -/
def tyC (h : Hs) : D → Option Nat
  | .non => some 0
  | .bl _ => some 1
  | .int _ => some 2
  | .str _ => some 3
  | .tup _ => some 4
  | .ref n => match h[n]? with
    | some (.lst _) => some 5
    | some (.dK _) => some 6
    | some (.dT _) => some 6
    | _ => none
  | .kl _ => some 5
  | _ => none
def tyN : Nat → String
  | 0 => "NoneType" | 1 => "bool" | 2 => "int" | 3 => "str" | 4 => "tuple" | 5 => "list" | _ => "dict"
def kitC : Nat → Nat → Bool
  | 0, 0 => true | 1, 1 => true | 1, 2 => true | 2, 2 => true | 3, 3 => true | 4, 4 => true | 5, 5 => true | 6, 6 => true
  | _, _ => false
theorem kitC_all : ∀ a < 7, ∀ b < 7, kitB (tyN a) (tyN b) = some (kitC a b) := by decide +kernel
theorem tyC_lt {h : Hs} {d : D} {n : Nat} (e : tyC h d = some n) : n < 7 := by
  unfold tyC at e
  split at e <;> first
    | (cases e; decide)
    | (split at e <;> first | (cases e; decide) | cases e)
    | cases e
theorem tyC_ok {h : Hs} {d : D} {v : V} {n : Nat} (rh : RepH T ρ H h) (r : Rep T ρ H d v) (e : tyC h d = some n) : TyX T.K H v (.type (tyN n)) := by
  unfold tyC at e
  cases r with
  | non => cases e; exact .base .non
  | bl => cases e; exact .base (.bl _)
  | int => cases e; exact .base (.int _)
  | str => cases e; exact .base (.str _)
  | ty => cases e
  | ins => cases e
  | cls => cases e
  | xn0 => cases e
  | xn => cases e
  | tup s q =>
    cases e
    rcases s with (s | ⟨o, s⟩) | ⟨o, its, n, hk, hc, _⟩
    · exact .base (.tup s)
    · exact .fTuple s
    · exact .kTuple hk hc
  | kl s q =>
    cases e
    rcases s with ⟨o, s⟩ | ⟨o, its, n, hk, hc, _⟩
    · exact .base (.frz s)
    · exact .kList hk hc
  | ref ea =>
    dsimp only at e
    split at e
    · rename_i q; cases e
      obtain ⟨vs, q1, _⟩ := rh.at_ _ _ _ q ea
      exact .base (.lst q1)
    · rename_i q; cases e
      obtain ⟨vs, q1, _⟩ := rh.at_ _ _ _ q ea
      exact .base (.dK q1)
    · rename_i q; cases e
      obtain ⟨vs, q1, _⟩ := rh.at_ _ _ _ q ea
      exact .base (.dT q1)
    · cases e
/-- isinstance(x, T), T the built-in class k -/
def fIs (k : Nat) (f : EF) : EF := fun env h => (f env h).bind fun x h1 => match tyC h1 x with
  | some a => .ret (.bl (kitC a k)) h1
  | none => .fail
theorem ev_isTy {k : Nat} {x : Str} {p p2 pos : Pos} {e : Expr} {f : EF} (hk : k < 7) (hg : GlC c "isinstance") (hm : c.mg "isinstance" = none) (hg2 : GlC c x) (hm2 : c.mg x = none) (hv : bootBuiltins x = some (.type (tyN k))) (hn : x ≠ "__name__") (hd : (x == ("__debug__" : Str)) = false)
    (ha : EV c e f) (he : St1 [e, .Name x p2]) (hpl : Pl pos [.Name x p2]) : EV c (.Call (.Name "isinstance" p) [e, .Name x p2] [] pos) (fIs k f) := by
  intro X ok W tk
  have h2 : PA X [.Name x p2] (tCons (tC (.ty (tyN k))) tNil) := pa_cons (pe_bltn (v := .ty (tyN k)) (hg2.gl ok) (by rw [ok.mg]; exact hm2) hv rfl hn hd) pa_nil
  refine (pe_callB (r := rIsi c.T.K) (by rw [← ok.K]; exact call_isi) (hg.gl ok) (by rw [ok.mg]; exact hm) boot_isinstance (pa_cons (ha X ok W tk) h2 (he X.env)) (by decide) (by decide) (he X.env) (hpl X.env)).zimp fun σ H Q ⟨env, h, ρ, re, rh, w⟩ => ?_
  refine tE_then re rh w (fun _ _ e => e) fun x h1 ρ1 v1 H1 x1 re1 rh1 r1 w1 => ?_
  split at w1
  · rename_i a e1
    exact ⟨_, _, _, _, _, rfl, .ty _, tyC_ok rh1 r1 e1, kit_ty (kitC_all a (tyC_lt e1) k hk), w1 ρ1 _ H1 x1 rh1 (.bl _)⟩
  · exact w1.elim
/-- a built-in class's name as a value -/
theorem ev_tyName {x : Str} {n : String} {p : Pos} (hg : GlC c x) (hm : c.mg x = none) (hv : bootBuiltins x = some (.type n)) (hn : x ≠ "__name__") (hd : (x == ("__debug__" : Str)) = false) : EV c (.Name x p) (fC (.ty n)) := fun X ok W tk =>
  (pe_bltn (v := .ty n) (hg.gl ok) (by rw [ok.mg]; exact hm) hv rfl hn hd).zimp fun σ H Q ⟨env, h, ρ, re, rh, w⟩ => w ρ (.ty n) H .refl rh (.ty n)

/-! ### in, not in: over lists and tuples of flat values -/
def flatD : D → Bool
  | .non => true | .bl _ => true | .int _ => true | .str _ => true
  | _ => false
def eqF : D → D → Bool
  | .non, .non => true
  | .bl a, .bl b => a == b
  | .bl a, .int b => (if a then 1 else 0) == b
  | .int a, .bl b => a == (if b then 1 else 0)
  | .int a, .int b => a == b
  | .str a, .str b => a.cps.toList == b.cps.toList
  | _, _ => false
theorem str_beq {x y : Str} : (x.cps.toList == y.cps.toList) = (x == y) := by rw [str_eq, dec_str]
theorem flat_ok {d : D} {v : V} (r : Rep T ρ H d v) (f : flatD d = true) : flatV v = true := by
  cases r <;> first | rfl | cases f
theorem eqF_ok {d e : D} {v u : V} (r : Rep T ρ H d v) (q : Rep T ρ H e u) (f : flatD d = true) (g : flatD e = true) : eqV v u = eqF d e := by
  cases r <;> first
    | (cases q <;> first | rfl | exact str_beq.symm | cases g)
    | cases f
theorem RepL.flats : ∀ {xs : List D} {vs : List V}, RepL T ρ H xs vs → xs.all flatD = true → vs.all flatV = true
  | _, _, .nil, _ => rfl
  | _, _, .cons r s, f => by
    rw [List.all_cons, Bool.and_eq_true] at f
    rw [List.all_cons, flat_ok r f.1, RepL.flats s f.2]; rfl
theorem RepL.anyEq {x : D} {vx : V} (rx : Rep T ρ H x vx) (fx : flatD x = true) : ∀ {xs : List D} {vs : List V}, RepL T ρ H xs vs → xs.all flatD = true → inV vx vs = xs.any fun y => eqF y x
  | _, _, .nil, _ => rfl
  | _, _, .cons r s, f => by
    rw [List.all_cons, Bool.and_eq_true] at f
    have ih := RepL.anyEq rx fx s f.2
    unfold inV at ih ⊢
    rw [List.any_cons, List.any_cons, ih, eqF_ok r rx f.1 fx]
/-- an own any, all: the first that tells ends it -/
def anyL {α : Type} (p : α → Bool) : List α → Bool
  | [] => false
  | x :: xs => match p x with
    | true => true
    | false => anyL p xs
def allL {α : Type} (p : α → Bool) : List α → Bool
  | [] => true
  | x :: xs => match p x with
    | true => allL p xs
    | false => false
theorem anyL_eq {α : Type} (p : α → Bool) : ∀ xs : List α, anyL p xs = xs.any p
  | [] => rfl
  | x :: xs => by
    unfold anyL
    rw [List.any_cons]
    cases p x with
    | true => rfl
    | false => exact (anyL_eq p xs).trans (Bool.false_or _).symm
theorem allL_eq {α : Type} (p : α → Bool) : ∀ xs : List α, allL p xs = xs.all p
  | [] => rfl
  | x :: xs => by
    unfold allL
    rw [List.all_cons]
    cases p x with
    | true => exact (allL_eq p xs).trans (Bool.true_and _).symm
    | false => rfl
def gIn (neg : Bool) : G2 := fun x y h => match flatD x with
  | false => .fail
  | true => match (match y with
      | .tup xs => some xs
      | _ => seqOf h y) with
    | some xs => match allL flatD xs with
      | true => .ret (.bl (if neg then !anyL (fun y => eqF y x) xs else anyL (fun y => eqF y x) xs)) h
      | false => .fail
    | none => .fail
theorem lk_in (neg : Bool) : Lk2 T (rIn T.K neg) (gIn neg) := by
  intro ρ H h x y vx vy Q E rh rx ry w
  unfold gIn at w
  split at w
  · exact w.elim
  · rename_i fx
    split at w
    · rename_i xs e0
      split at w
      · rename_i fs
        rw [allL_eq] at fs
        rw [anyL_eq] at w
        have key : ∀ {p vs}, vy = .ref p → (SqL T.K H p vs ∨ SqT T.K H p vs) → RepL T ρ H xs vs → rIn T.K neg vx vy H Q := fun {p vs} e s r =>
          ⟨p, vs, e, s, flat_ok rx fx, r.flats fs, by rw [r.anyEq rx fx fs]; exact w ρ _ H .refl rh (.bl _)⟩
        cases ry with
        | tup s r => cases e0; exact key rfl (.inr s) r
        | ref ea =>
          obtain ⟨a, vs, ev, s, r⟩ := rh.seq e0 (.ref ea)
          exact key ev (.inl s) r
        | kl s r =>
          obtain ⟨a, vs, ev, s, r⟩ := rh.seq e0 (.kl s r)
          exact key ev (.inl s) r
        | _ => cases e0
      · exact w.elim
    · exact w.elim
section
variable {a b : Expr} {fa fb : EF} {pos : Pos}
theorem ev_in (ha : EV c a fa) (hb : EV c b fb) (hm : behindInMarks .In b = false) : EV c (.Compare a [.In] [b] pos) (fBin (gIn false) fa fb) := ev_cmp (r := rIn c.T.K false) (fun _ ok => by rw [← ok.K]; exact op_in_seq) (lk_in _) ha hb hm
theorem ev_nin (ha : EV c a fa) (hb : EV c b fb) (hm : behindInMarks .NotIn b = false) : EV c (.Compare a [.NotIn] [b] pos) (fBin (gIn true) fa fb) := ev_cmp (r := rIn c.T.K true) (fun _ ok => by rw [← ok.K]; exact op_notIn_seq) (lk_in _) ha hb hm
theorem tv_in (ha : EV c a fa) (hb : EV c b fb) (hm : behindInMarks .In b = false) : TV c (.Compare a [.In] [b] pos) (fTest (fBin (gIn false) fa fb)) := tv_cmp (r := rIn c.T.K false) (fun _ ok => by rw [← ok.K]; exact op_in_seq) (lk_in _) ha hb hm
theorem tv_nin (ha : EV c a fa) (hb : EV c b fb) (hm : behindInMarks .NotIn b = false) : TV c (.Compare a [.NotIn] [b] pos) (fTest (fBin (gIn true) fa fb)) := tv_cmp (r := rIn c.T.K true) (fun _ ok => by rw [← ok.K]; exact op_notIn_seq) (lk_in _) ha hb hm
end

/-! ### methods of lists -/
/-- the receiver's class: 3 str, 5 list, 6 dict -/
def recv (k : Nat) (h : Hs) (o : D) : Bool := match tyC h o with
  | some n => (n == k) && !(n == 4)
  | none => false
theorem recv_ok {k : Nat} {h : Hs} {o : D} {v : V} (rh : RepH T ρ H h) (r : Rep T ρ H o v) (hk : k = 3 ∨ k = 5 ∨ k = 6) (e : recv k h o = true) : tyV T.K (tyN k) v H := by
  unfold recv at e
  split at e
  · rename_i n e1
    rw [Bool.and_eq_true] at e
    have en : n = k := by simpa using e.1
    subst en
    unfold tyC at e1
    cases r with
    | non => cases e1; simp at hk
    | bl => cases e1; simp at hk
    | int => cases e1; simp at hk
    | str => cases e1; rfl
    | ty => cases e1
    | ins => cases e1
    | cls => cases e1
    | xn0 => cases e1
    | xn => cases e1
    | tup s q => cases e1; simp at hk
    | kl s q => cases e1; exact .inl ⟨rfl, _, s.sq⟩
    | ref ea =>
      dsimp only at e1
      split at e1
      · rename_i q; cases e1
        obtain ⟨vs, q1, _⟩ := rh.at_ _ _ _ q ea
        exact .inl ⟨rfl, _, .of q1⟩
      · rename_i q; cases e1
        obtain ⟨vs, q1, _⟩ := rh.at_ _ _ _ q ea
        exact .inr (.inr (.inl ⟨rfl, .inl ⟨_, q1⟩⟩))
      · rename_i q; cases e1
        obtain ⟨vs, q1, _⟩ := rh.at_ _ _ _ q ea
        exact .inr (.inr (.inl ⟨rfl, .inr ⟨_, q1⟩⟩))
      · cases e1
  · cases e
def fMeth (k : Nat) (g : D → GL) (fo : EF) (fa : AF) : EF := fun env h => (fo env h).bind fun o h1 => match recv k h1 o with
  | true => (fa env h1).bind fun xs h2 => g o xs h2
  | false => .fail
def fMeth0 (k : Nat) (g : D → GL) (fo : EF) : EF := fun env h => (fo env h).bind fun o h1 => match recv k h1 o with
  | true => g o [] h1
  | false => .fail
section
variable {o e : Expr} {es : List Expr} {fo : EF} {fa : AF} {name : Str} {apos cpos : Pos} {id : String} {r : V → List V → Hp → VK → Prop} {g : D → GL} {k : Nat}
theorem ev_meth (hk : k = 3 ∨ k = 5 ∨ k = 6) (pa : PlainAttrs (tyN k)) (slot : Slot (tyN k) name id) (hty : typeOf (.builtin id) = pure (.type "method_descriptor")) (hm : ∀ X, CxOk c X → MtR X id r) (lk : LkM c.T r g) (ho : EV c o fo) (ha : AV c (e :: es) fa)
    (hbase : ∀ env, attributeBase o name env (eval o env) = eval o env)
    (hfew : ∀ env, ((backTo cpos (starEach (e :: es) env)).all (fun x => !x.1) && (backToKw cpos (keywordEach [] env)).all (fun x => x.1.isSome)
      && decide ((e :: es).length + ([] : List Keyword).length + (if ([] : List Keyword).isEmpty then 0 else 1) < 30)) = true)
    (hline : (apos.endLine == cpos.line) = true) (hs : St1 (e :: es)) (hplain : Pl cpos es) : EV c (.Call (.Attribute o name apos) (e :: es) [] cpos) (fMeth k g fo fa) := fun X ok W tk =>
  (pe_bm pa slot hty (hm X ok) (ho X ok W tk) (ha X ok W tk) (hbase _) (hfew _) hline (hs _) (hplain _)).zimp fun σ H Q ⟨env, h, ρ, re, rh, w⟩ =>
    tE_then re rh w (fun _ _ e => e) fun x h1 ρ1 vx H1 x1 re1 rh1 r1 w1 => by
      split at w1
      · rename_i e1
        refine ⟨by rw [ok.K]; exact recv_ok rh1 r1 hk e1, ?_⟩
        exact tA_then re1 rh1 w1 (fun _ _ e => XW.mono x1 e) fun xs h2 ρ2 vs H2 x2 re2 rh2 r2 w2 => lk ρ2 H2 h2 x vx xs vs Q _ rh2 (r1.mono x2) r2 (wp_mono (fun d h' p => PostV.mono (x1.trans x2) p) (fun _ _ e => e) _ w2)
      · exact w1.elim
theorem ev_meth0 (hk : k = 3 ∨ k = 5 ∨ k = 6) (pa : PlainAttrs (tyN k)) (slot : Slot (tyN k) name id) (hty : typeOf (.builtin id) = pure (.type "method_descriptor")) (hm : ∀ X, CxOk c X → MtR X id r) (lk : LkM c.T r g) (ho : EV c o fo)
    (hbase : ∀ env, attributeBase o name env (eval o env) = eval o env) (hline : (apos.endLine == cpos.line) = true) : EV c (.Call (.Attribute o name apos) [] [] cpos) (fMeth0 k g fo) := fun X ok W tk =>
  (pe_bm0 pa slot hty (hm X ok) (ho X ok W tk) (hbase _) hline).zimp fun σ H Q ⟨env, h, ρ, re, rh, w⟩ =>
    tE_then re rh w (fun _ _ e => e) fun x h1 ρ1 vx H1 x1 re1 rh1 r1 w1 => by
      split at w1
      · rename_i e1
        exact ⟨by rw [ok.K]; exact recv_ok rh1 r1 hk e1, lk ρ1 H1 h1 x vx [] [] Q _ rh1 r1 .nil (wp_mono (fun d h' p => PostV.mono x1 p) (fun _ _ e => e) _ w1)⟩
      · exact w1.elim
end
def gAppend : D → GL := fun o xs h => match o, xs with
  | .ref n, [x] => match h[n]? with
    | some (.lst ys) => match Nat.blt ys.length line with
      | true => .ret .non (h.set n (.lst (ys ++ [x])))
      | false => .fail
    | _ => .fail
  | _, _ => .fail
theorem lk_append : LkM T rAppend gAppend := by
  intro ρ H h o vo x vx Q E rh ro rx w
  unfold gAppend at w
  split at w
  · split at w
    · rename_i ys e0
      split at w
      · rename_i z
        cases ro with
        | ref ea =>
          cases rx with
          | cons r s =>
            cases s
            obtain ⟨vs, q1, r1⟩ := rh.at_ _ _ _ e0 ea
            refine ⟨_, vs, _, rfl, rfl, q1, by rw [← r1.length]; exact line_lt (by simpa [Nat.blt_eq] using z), ?_⟩
            rename_i v
            have x1 : Ex ρ H ρ (upd H _ (.lst (vs ++ [v]))) := Ex.write (List.mem_of_getElem? ea) q1 rfl
            exact w ρ _ _ x1 (rh.write ea q1 rfl ⟨_, upd_same, (r1.append (.cons r .nil)).mono x1⟩) .non
      · exact w.elim
    · exact w.elim
  · exact w.elim
def gExtend : D → GL := fun o xs h => match o, xs with
  | .ref n, [.ref m] => match h[n]?, h[m]? with
    | some (.lst ys), some (.lst zs) => match Nat.ble (ys.length + zs.length) line with
      | true => .ret .non (h.set n (.lst (ys ++ zs)))
      | false => .fail
    | _, _ => .fail
  | _, _ => .fail
theorem lk_extend : LkM T rExtend gExtend := by
  intro ρ H h o vo x vx Q E rh ro rx w
  unfold gExtend at w
  split at w
  · split at w
    · rename_i ys zs e0 e1
      split at w
      · rename_i z
        cases ro with
        | ref ea =>
          cases rx with
          | cons r s =>
            cases s
            cases r with
            | ref eb =>
              obtain ⟨vs, q1, r1⟩ := rh.at_ _ _ _ e0 ea
              obtain ⟨ws, q2, r2⟩ := rh.at_ _ _ _ e1 eb
              refine ⟨_, _, vs, ws, rfl, rfl, q1, q2, by rw [← r1.length, ← r2.length]; exact line_le (Nat.le_of_ble_eq_true z), ?_⟩
              have x1 : Ex ρ H ρ (upd H _ (.lst (vs ++ ws))) := Ex.write (List.mem_of_getElem? ea) q1 rfl
              exact w ρ _ _ x1 (rh.write ea q1 rfl ⟨_, upd_same, (r1.append r2).mono x1⟩) .non
      · exact w.elim
    · exact w.elim
  · exact w.elim
section
variable {o e : Expr} {es : List Expr} {fo : EF} {fa : AF} {apos cpos : Pos}
abbrev Few (cpos : Pos) (es : List Expr) : Prop := ∀ env, ((backTo cpos (starEach es env)).all (fun x => !x.1) && (backToKw cpos (keywordEach [] env)).all (fun x => x.1.isSome)
      && decide (es.length + ([] : List Keyword).length + (if ([] : List Keyword).isEmpty then 0 else 1) < 30)) = true
abbrev Base (o : Expr) (name : Str) : Prop := ∀ env, attributeBase o name env (eval o env) = eval o env
theorem ev_append (ho : EV c o fo) (ha : AV c (e :: es) fa) (hb : Base o "append") (hf : Few cpos (e :: es)) (hl : (apos.endLine == cpos.line) = true) (hs : St1 (e :: es)) (hp : Pl cpos es) : EV c (.Call (.Attribute o "append" apos) (e :: es) [] cpos) (fMeth 5 gAppend fo fa) :=
  ev_meth (.inr (.inl rfl)) PySem.F.plainAttrs_list PySem.F.slot_list_append PySem.F.type_list_append (fun X ok => mt_append) lk_append ho ha hb hf hl hs hp
theorem ev_extend (ho : EV c o fo) (ha : AV c (e :: es) fa) (hb : Base o "extend") (hf : Few cpos (e :: es)) (hl : (apos.endLine == cpos.line) = true) (hs : St1 (e :: es)) (hp : Pl cpos es) : EV c (.Call (.Attribute o "extend" apos) (e :: es) [] cpos) (fMeth 5 gExtend fo fa) :=
  ev_meth (.inr (.inl rfl)) PySem.F.plainAttrs_list PySem.F.slot_list_extend PySem.F.type_list_extend (fun X ok => mt_extend) lk_extend ho ha hb hf hl hs hp
end
end
end Z

set_option Elab.async false
set_option linter.all false
set_option maxRecDepth 100000
set_option maxHeartbeats 1000000
namespace Z
open PySem PySem.Spec PyProof.Rows L2

/-- a piece's exception as a statement's end -/
def R.catch {α : Type} (r : R α) (env : Env') (k : α → Hs → R Out) : R Out :=
  match r with
  | .ret a h => k a h
  | .exc e h => .ret (.ex e env) h
  | .fail => .fail
  | .pick n f => .pick n fun i => (f i).catch env k
theorem wp_catch {α : Type} {env : Env'} {k : α → Hs → R Out} {Q : Out → Hs → Prop} {E : Exn → Hs → Prop} : ∀ {r : R α}, wp (r.catch env k) Q E → wp r (fun a h => wp (k a h) Q E) (fun e h => Q (.ex e env) h)
  | .ret a h, q => q
  | .exc e h, q => q
  | .fail, q => q
  | .pick n f, q => fun i hi => wp_catch (q i hi)
/-- what may not raise -/
def R.nox {α : Type} (r : R α) : R α :=
  match r with
  | .ret a h => .ret a h
  | .exc _ _ => .fail
  | .fail => .fail
  | .pick n f => .pick n fun i => (f i).nox
theorem wp_nox {α : Type} {Q : α → Hs → Prop} {E E' : Exn → Hs → Prop} : ∀ {r : R α}, wp r.nox Q E → wp r Q E'
  | .ret a h, q => q
  | .exc e h, q => q.elim
  | .fail, q => q
  | .pick n f, q => fun i hi => wp_nox (q i hi)

section
variable {T : Tab} {c : Ctx} {ρ : List Addr} {H : Hp} {W : WX} {σ : L2.St} {De : Ends}
theorem OW.ex {e : Exn} {env : Env'} {h' : Hs} (re : RepE T ρ H env σ) (q : OW T ρ H W De (.ex e env) h') : XW T ρ H W σ e h' := fun ρ' H' cls d x rh rx => q ρ' H' x rh σ cls d (re.mono x) rx
theorem tE_catch {f : EF} {env : Env'} {h : Hs} {k : D → Hs → R Out} {Q : VK} (re : RepE T ρ H env σ) (rh : RepH T ρ H h) (w : wp ((f env h).catch env k) (OW T ρ H W De) NoX)
    (fin : ∀ d h1 ρ1 v H1, Ex ρ H ρ1 H1 → RepE T ρ1 H1 env σ → RepH T ρ1 H1 h1 → Rep T ρ1 H1 d v → wp (k d h1) (OW T ρ1 H1 W De) NoX → Q v H1) : tE T W f σ H Q :=
  ⟨env, h, ρ, re, rh, wp_mono (fun d h1 q ρ1 v H1 x r1 r2 => fin d h1 ρ1 v H1 x (re.mono x) r1 r2 (wp_mono (fun o h' p => OW.mono x p) (fun _ _ e => e) _ q)) (fun e h' q => OW.ex re q) _ (wp_catch w)⟩
theorem tB_catch {f : BF} {env : Env'} {h : Hs} {k : Bool → Hs → R Out} {Q : Bool → Hp → Prop} (re : RepE T ρ H env σ) (rh : RepH T ρ H h) (w : wp ((f env h).catch env k) (OW T ρ H W De) NoX)
    (fin : ∀ d h1 ρ1 H1, Ex ρ H ρ1 H1 → RepE T ρ1 H1 env σ → RepH T ρ1 H1 h1 → wp (k d h1) (OW T ρ1 H1 W De) NoX → Q d H1) : tB' T W f σ H Q :=
  ⟨env, h, ρ, re, rh, wp_mono (fun d h1 q ρ1 H1 x r1 => fin d h1 ρ1 H1 x (re.mono x) r1 (wp_mono (fun o h' p => OW.mono x p) (fun _ _ e => e) _ q)) (fun e h' q => OW.ex re q) _ (wp_catch w)⟩
theorem tA_catch {f : AF} {env : Env'} {h : Hs} {k : List D → Hs → R Out} {Q : List V → Hp → Prop} (re : RepE T ρ H env σ) (rh : RepH T ρ H h) (w : wp ((f env h).catch env k) (OW T ρ H W De) NoX)
    (fin : ∀ d h1 ρ1 v H1, Ex ρ H ρ1 H1 → RepE T ρ1 H1 env σ → RepH T ρ1 H1 h1 → RepL T ρ1 H1 d v → wp (k d h1) (OW T ρ1 H1 W De) NoX → Q v H1) : tA T W f σ H Q :=
  ⟨env, h, ρ, re, rh, wp_mono (fun d h1 q ρ1 v H1 x r1 r2 => fin d h1 ρ1 v H1 x (re.mono x) r1 r2 (wp_mono (fun o h' p => OW.mono x p) (fun _ _ e => e) _ q)) (fun e h' q => OW.ex re q) _ (wp_catch w)⟩

/-! ### blocks, small statements -/
def sNil : SF := fun env h => .ret (.nx env) h
def seqK (g : SF) : Out → Hs → R Out := fun o h1 => match o with
  | .nx env1 => g env1 h1
  | .rt d => .ret (.rt d) h1
  | .bk e => .ret (.bk e) h1
  | .ct e => .ret (.ct e) h1
  | .ex e env => .ret (.ex e env) h1
def sSeq (f g : SF) : SF := fun env h => (f env h).bind (seqK g)
theorem sv_nil : SsV c [] sNil := fun X ok W tk po => pss_nil.zimp fun De σ H ⟨env, h, ρ, re, rh, w⟩ => w ρ H .refl rh σ re
theorem seq_core {f g : SF} (q : tS T W (sSeq f g) De σ H) : tSeq (tS T W f) (tS T W g) De σ H := by
  obtain ⟨env, h, ρ, re, rh, w⟩ := q
  refine ⟨env, h, ρ, re, rh, wp_mono (fun o h1 q ρ1 H1 x r1 => ?_) (fun _ _ e => e) _ (wp_bind w)⟩
  cases o with
  | nx env1 => exact fun σ1 re1 => ⟨env1, h1, ρ1, re1, r1, wp_mono (fun o h' p => OW.mono x p) (fun _ _ e => e) _ q⟩
  | rt d => exact q ρ1 H1 x r1
  | bk e => exact q ρ1 H1 x r1
  | ct e => exact q ρ1 H1 x r1
  | ex e env => exact q ρ1 H1 x r1
theorem sv_cons {s : Stmt} {ss : List Stmt} {f g : SF} (h1 : SV c s f) (h2 : SsV c ss g) : SsV c (s :: ss) (sSeq f g) := fun X ok W tk po =>
  (pss_cons (h1 X ok W tk po) (h2 X ok W tk po)).zimp fun De σ H q => seq_core q
theorem sv_one {s : Stmt} {f : SF} (h1 : SV c s f) : SsV c [s] f := fun X ok W tk po => pss_one (h1 X ok W tk po)
def sExpr (f : EF) : SF := fun env h => (f env h).catch env fun _ h1 => .ret (.nx env) h1
def sRet (f : EF) : SF := fun env h => (f env h).catch env fun d h1 => .ret (.rt d) h1
def sRetN : SF := fun _ h => .ret (.rt .non) h
def sIf (t : BF) (f g : SF) : SF := fun env h => (t env h).catch env fun b h1 => match b with
  | true => f env h1
  | false => g env h1
section
variable {e : Expr} {f : EF} {pos : Pos}
theorem sv_expr (he : EV c e f) (hs : ∀ env, swapsWith e none pos.line env = pure false) : SV c (.Expr e pos) (sExpr f) := fun X ok W tk po =>
  (ps_expr (he X ok W tk) (hs _)).zimp fun De σ H ⟨env, h, ρ, re, rh, w⟩ => tE_catch re rh w fun d h1 ρ1 v H1 x re1 rh1 r1 w1 => w1 ρ1 H1 .refl rh1 σ re1
theorem sv_ret (he : EV c e f) : SV c (.Return (some e) pos) (sRet f) := fun X ok W tk po =>
  (ps_ret (he X ok W tk)).zimp fun De σ H ⟨env, h, ρ, re, rh, w⟩ => tE_catch re rh w fun d h1 ρ1 v H1 x re1 rh1 r1 w1 => w1 ρ1 H1 .refl rh1 v r1
theorem sv_retN : SV c (.Return none pos) sRetN := fun X ok W tk po => ps_retN.zimp fun De σ H ⟨env, h, ρ, re, rh, w⟩ => w ρ H .refl rh .non .non
theorem sv_pass : SV c (.Pass pos) sNil := fun X ok W tk po => ps_pass.zimp fun De σ H ⟨env, h, ρ, re, rh, w⟩ => w ρ H .refl rh σ re
def sBreak : SF := fun env h => .ret (.bk env) h
def sCont : SF := fun env h => .ret (.ct env) h
theorem sv_break : SV c (.Break pos) sBreak := fun X ok W tk po => ps_break.zimp fun De σ H ⟨env, h, ρ, re, rh, w⟩ => w ρ H .refl rh σ re
theorem sv_cont : SV c (.Continue pos) sCont := fun X ok W tk po => ps_continue.zimp fun De σ H ⟨env, h, ρ, re, rh, w⟩ => w ρ H .refl rh σ re
theorem sv_if {t : Expr} {ft : BF} {a b : List Stmt} {fa fb : SF} (ht : TV c t ft) (ha : SsV c a fa) (hb : SsV c b fb) : SV c (.If t a b pos) (sIf ft fa fb) := fun X ok W tk po =>
  (ps_if (ht X ok W tk) (ha X ok W tk po) (hb X ok W tk po)).zimp fun De σ H ⟨env, h, ρ, re, rh, w⟩ => tB_catch re rh w fun d h1 ρ1 H1 x re1 rh1 w1 => by
    cases d with
    | true => exact ⟨env, h1, ρ1, re1, rh1, w1⟩
    | false => exact ⟨env, h1, ρ1, re1, rh1, w1⟩
end

/-! ### targets -/
/-- alike but for the slots S -/
def Off (S : List Nat) (σ σ' : L2.St) : Prop := σ'.length = σ.length ∧ ∀ i, i ∉ S → σ'[i]? = σ[i]?
theorem Off.refl {S : List Nat} {σ : L2.St} : Off S σ σ := ⟨rfl, fun _ _ => rfl⟩
theorem Off.set {i : Nat} {v : Option V} : Off [i] σ (σ.set i v) := ⟨List.length_set, fun j hj => List.getElem?_set_ne fun e => hj (by simp [e])⟩
theorem Off.trans {S S' : List Nat} {σ σ1 σ2 : L2.St} (a : Off S σ σ1) (b : Off S' σ1 σ2) : Off (S ++ S') σ σ2 :=
  ⟨b.1.trans a.1, fun i hi => (b.2 i fun m => hi (List.mem_append_right _ m)).trans (a.2 i fun m => hi (List.mem_append_left _ m))⟩
theorem wipe_in {σ : L2.St} {i : Nat} : ∀ {vs : List Nat}, i ∈ vs → i < σ.length → (wipe σ vs)[i]? = some none
  | v :: vs, m, l => by
    unfold wipe
    by_cases e : v = i
    · subst e
      exact List.getElem?_set_self (by rw [wipe_length]; exact l)
    · rw [List.getElem?_set_ne e]
      exact wipe_in ((List.mem_cons.mp m).resolve_left fun z => e z.symm) l
theorem Off.wipe {S vs : List Nat} {σ σ' : L2.St} (o : Off S σ σ') (hs : ∀ i ∈ S, i ∈ vs) : wipe σ' vs = wipe σ vs := by
  refine List.ext_getElem? fun i => ?_
  by_cases hm : i ∈ vs
  · by_cases hl : i < σ.length
    · rw [wipe_in hm hl, wipe_in hm (by rw [o.1]; exact hl)]
    · rw [List.getElem?_eq_none (by rw [wipe_length, o.1]; omega), List.getElem?_eq_none (by rw [wipe_length]; omega)]
  · rw [wipe_out hm, wipe_out hm, o.2 i fun m => hm (hs i m)]
abbrev GF := D → Env' → Hs → R Env'
abbrev GsF := List D → Env' → Hs → R Env'
def PostG (T : Tab) (ρ : List Addr) (H : Hp) (S : List Nat) (σ : L2.St) (Q : L2.St → Hp → Prop) (env : Env') (h' : Hs) : Prop := ∀ ρ' H', Ex ρ H ρ' H' → RepH T ρ' H' h' → ∀ σ', RepE T ρ' H' env σ' → Off S σ σ' → Q σ' H'
def tG (T : Tab) (W : WX) (S : List Nat) (f : GF) : TG := fun v σ H Q => ∃ d env h ρ, Rep T ρ H d v ∧ RepE T ρ H env σ ∧ RepH T ρ H h ∧ wp (f d env h) (PostG T ρ H S σ Q) (XW T ρ H W σ)
def tGs (T : Tab) (W : WX) (S : List Nat) (f : GsF) : TGs := fun v σ H Q => ∃ d env h ρ, RepL T ρ H d v ∧ RepE T ρ H env σ ∧ RepH T ρ H h ∧ wp (f d env h) (PostG T ρ H S σ Q) NoX
def GV (c : Ctx) (e : Expr) (S : List Nat) (f : GF) : Prop := ∀ X, CxOk c X → ∀ W, Takes X W → PG X e (tG c.T W S f)
def GsV (c : Ctx) (es : List Expr) (S : List Nat) (f : GsF) : Prop := ∀ X, CxOk c X → ∀ W, Takes X W → PGs X es (tGs c.T W S f)
theorem _root_.L2.PG.zimp {X : Cx} {e : Expr} {t t' : TG} (h : PG X e t) (i : ∀ v σ H Q, t' v σ H Q → t v σ H Q) : PG X e t' := ⟨fun pins s σ H v u Q I r q => h.run pins s σ H v u Q I r (i v σ H Q q)⟩
theorem _root_.L2.PGs.zimp {X : Cx} {e : List Expr} {t t' : TGs} (h : PGs X e t) (i : ∀ v σ H Q, t' v σ H Q → t v σ H Q) : PGs X e t' := ⟨fun pins s σ H v u Q I r q => h.run pins s σ H v u Q I r (i v σ H Q q)⟩
def gtN (i : Nat) : GF := fun d env h => .ret (env.set i (some d)) h
/-- how a name is stored -/
def LocC (c : Ctx) (x : Str) : Prop := c.sc.names.lookup x = some .local ∨ (c.sc.names.lookup x = some .cell ∧ c.fn x = true)
theorem LocC.loc {X : Cx} (ok : CxOk c X) {x : Str} (h : LocC c x) : Loc X.env.scope x ∧ (X.fn x = true ∨ X.env.scope.names.lookup x = some .local) := by
  rw [ok.sc]
  rcases h with h | ⟨h, h2⟩
  · exact ⟨.inl h, .inr h⟩
  · exact ⟨.inr h, .inl (ok.fn x h2)⟩
theorem gv_name (i : Nat) {x : Str} {pos : Pos} (nd : c.N.Nodup) (hi : c.N[i]? = some x) (hx : LocC c x) : GV c (.Name x pos) [i] (gtN i) := fun X ok W tk =>
  (pg_name (i := i) (by rw [ok.N]; exact nd) (by rw [ok.N]; exact hi) (hx.loc ok).1 (hx.loc ok).2).zimp fun v σ H Q ⟨d, env, h, ρ, r, re, rh, w⟩ => w ρ H .refl rh _ (re.set r) .set
def gtNil : GsF := fun ds env h => match ds with
  | [] => .ret env h
  | _ => .fail
def gtCons (f : GF) (g : GsF) : GsF := fun ds env h => match ds with
  | d :: r => (f d env h).nox.bind fun env1 h1 => g r env1 h1
  | _ => .fail
theorem gsv_nil : GsV c [] [] gtNil := fun X ok W tk => pgs_nil.zimp fun v σ H Q ⟨d, env, h, ρ, r, re, rh, w⟩ => by
  unfold gtNil at w
  split at w
  · cases r; exact ⟨rfl, w ρ H .refl rh _ re .refl⟩
  · exact w.elim
theorem gsv_cons {e : Expr} {es : List Expr} {S S' : List Nat} {f : GF} {g : GsF} (h1 : GV c e S f) (h2 : GsV c es S' g) (hs : ∀ env, (assignEach (e :: es) env).map (·.2) = assign e env :: (assignEach es env).map (·.2)) : GsV c (e :: es) (S ++ S') (gtCons f g) := fun X ok W tk =>
  (pgs_cons (h1 X ok W tk) (h2 X ok W tk) (hs _)).zimp fun v σ H Q ⟨d, env, h, ρ, r, re, rh, w⟩ => by
    unfold gtCons at w
    split at w
    · cases r with
      | cons r1 rs =>
        refine ⟨_, _, rfl, _, env, h, ρ, r1, re, rh, wp_mono (fun env1 h1 w1 ρ1 H1 x1 rh1 σ1 re1 o1 => ?_) (fun _ _ e => e) _ (wp_nox (wp_bind w))⟩
        exact ⟨_, env1, h1, ρ1, rs.mono x1, re1, rh1, wp_mono (fun env2 h2 w2 ρ2 H2 x2 rh2 σ2 re2 o2 => w2 ρ2 H2 (x1.trans x2) rh2 σ2 re2 (o1.trans o2)) (fun _ _ e => e) _ w1⟩
    · exact w.elim
def gtTup (n : Nat) (g : GsF) : GF := fun d env h => match d with
  | .tup ds => match ds.length == n with
    | true => (g ds env h).nox
    | false => .fail
  | _ => .fail
theorem gv_tup {es : List Expr} {k n : Nat} {pos : Pos} {S : List Nat} {g : GsF} (hc : c.calm = true) (h : GsV c es S g) (hn : ∀ env, (assignEach es env).length = n) (hst : ∀ env, (assignEach es env).findIdx? (·.1) = none) : GV c (.Tuple es k pos) S (gtTup n g) := fun X ok W tk =>
  (pg_tup (ok.calm.trans hc) (h X ok W tk) (hn _) (hst _)).zimp fun v σ H Q ⟨d, env, h, ρ, r, re, rh, w⟩ => by
    unfold gtTup at w
    split at w
    · split at w
      · rename_i e
        cases r with
        | tup s r => exact ⟨_, _, rfl, by rw [ok.K]; exact s, by rw [← r.length]; simpa using e, _, env, h, ρ, r, re, rh, wp_nox w⟩
      · exact w.elim
    · exact w.elim
def gtLst (n : Nat) (g : GsF) : GF := fun d env h => match seqOf h d with
  | some ds => match ds.length == n with
    | true => (g ds env h).nox
    | false => .fail
  | none => .fail
theorem gv_lst {es : List Expr} {k n : Nat} {pos : Pos} {S : List Nat} {g : GsF} (hc : c.calm = true) (h : GsV c es S g) (hn : ∀ env, (assignEach es env).length = n) (hst : ∀ env, (assignEach es env).findIdx? (·.1) = none) : GV c (.Tuple es k pos) S (gtLst n g) := fun X ok W tk =>
  (pg_lst (ok.calm.trans hc) (h X ok W tk) (hn _) (hst _)).zimp fun v σ H Q ⟨d, env, h, ρ, r, re, rh, w⟩ => by
    unfold gtLst at w
    split at w
    · rename_i e0
      split at w
      · rename_i e
        obtain ⟨a, vs, rfl, s, r⟩ := rh.seq e0 r
        exact ⟨_, _, rfl, by rw [ok.K]; exact s, by rw [← r.length]; simpa using e, _, env, h, ρ, r, re, rh, wp_nox w⟩
      · exact w.elim
    · exact w.elim
/-- o[i] = v -/
def LkS (T : Tab) (t : TSet) (g : D → D → D → Hs → R Unit) : Prop := ∀ (ρ : List Addr) (H : Hp) (h : Hs) (o i v : D) (vo vi vv : V) (Q : Hp → Prop) (E : Exn → Hs → Prop), RepH T ρ H h → Rep T ρ H o vo → Rep T ρ H i vi → Rep T ρ H v vv →
  wp (g o i v h) (fun _ h' => ∀ ρ' H', Ex ρ H ρ' H' → RepH T ρ' H' h' → Q H') E → t vo vi vv H Q
def gtSub (g : D → D → D → Hs → R Unit) (fo fi : EF) : GF := fun d env h => (fo env h).bind fun o h1 => (fi env h1).bind fun i h2 => (g o i d h2).bind fun _ h3 => .ret env h3
theorem gv_sub {o i : Expr} {fo fi : EF} {t : TSet} {g : D → D → D → Hs → R Unit} {pos : Pos} (ho : EV c o fo) (hi : EV c i fi) (hs : ∀ X, CxOk c X → PSet X t) (lk : LkS c.T t g)
    (ha : ∀ env v, assign (.Subscript o i pos) env v = (do
      let ov ← holding [v] (eval o env)
      let iv ← holding [v, ov] (eval i env)
      standAt pos
      holding [v, ov, iv] (setItem ov iv v)
      release [v, ov, iv] [])) : GV c (.Subscript o i pos) [] (gtSub g fo fi) := fun X ok W tk =>
  (pg_sub (ho X ok W tk) (hi X ok W tk) (hs X ok) (ha _)).zimp fun v σ H Q ⟨d, env, h, ρ, r, re, rh, w⟩ =>
    tE_then re rh w (fun _ _ e => e) fun o h1 ρ1 vo H1 x1 re1 rh1 ro w1 => tE_then re1 rh1 w1 (fun _ _ e => XW.mono x1 e) fun i h2 ρ2 vi H2 x2 re2 rh2 ri w2 =>
      lk ρ2 H2 h2 o i d vo vi v _ _ rh2 (ro.mono x2) ri (r.mono (x1.trans x2)) (wp_mono (fun _ h3 q ρ3 H3 x3 rh3 => q ρ3 H3 (x1.trans (x2.trans x3)) rh3 σ (re2.mono x3) .refl) (fun _ _ e => e) _ (wp_bind w2))
def gSet : D → D → D → Hs → R Unit := fun o i v h => match o, i with
  | .ref n, .int k => match h[n]? with
    | some (.lst xs) => match ixN xs.length k with
      | some j => .ret () (h.set n (.lst (xs.set j v)))
      | none => .fail
    | _ => .fail
  | _, _ => .fail
theorem lk_set : LkS T rSetL gSet := by
  intro ρ H h o i v vo vi vv Q E rh ro ri rv w
  unfold gSet at w
  split at w
  · split at w
    · rename_i xs e0
      split at w
      · rename_i j ej
        cases ro with
        | ref ea =>
          cases ri
          obtain ⟨vs, q1, r1⟩ := rh.at_ _ _ _ e0 ea
          refine ⟨_, vs, _, j, rfl, rfl, q1, by rw [← r1.length]; exact ej, ?_⟩
          have x1 : Ex ρ H ρ (upd H _ (.lst (vs.set j vv))) := Ex.write (List.mem_of_getElem? ea) q1 rfl
          exact w ρ _ x1 (rh.write ea q1 rfl ⟨_, upd_same, (RepL.set rv j r1).mono x1⟩)
      · exact w.elim
    · exact w.elim
  · exact w.elim
/-- assignments -/
def sAsg (f : EF) (g : GF) : SF := fun env h => (f env h).catch env fun d h1 => (g d env h1).catch env fun env1 h2 => .ret (.nx env1) h2
def sSet (f : EF) (i : Nat) : SF := fun env h => (f env h).catch env fun d h1 => .ret (.nx (env.set i (some d))) h1
theorem sv_asg {tg e : Expr} {f : EF} {g : GF} {S : List Nat} {pos : Pos} (he : EV c e f) (hg : GV c tg S g) (hs : ∀ env, swapsWithSole [tg] e pos.line env = pure false) (hw : ∀ env, swappedStores [tg] e env = pure none)
    (h1 : ∀ env, (assignEach [tg] env).map (·.2) = [assign tg env]) : SV c (.Assign [tg] e pos) (sAsg f g) := fun X ok W tk po =>
  (ps_asg (he X ok W tk) (hg X ok W tk) (hs _) (hw _) (h1 _)).zimp fun De σ H ⟨env, h, ρ, re, rh, w⟩ => tE_catch re rh w fun d h1 ρ1 v H1 x re1 rh1 r1 w1 =>
    ⟨d, env, h1, ρ1, r1, re1, rh1, wp_mono (fun env1 h2 q ρ2 H2 x2 rh2 σ2 re2 _ => q ρ2 H2 x2 rh2 σ2 re2) (fun e h' q => OW.ex re1 q) _ (wp_catch w1)⟩
theorem sv_set (i : Nat) {x : Str} {e : Expr} {f : EF} {pos pos' : Pos} (nd : c.N.Nodup) (hi : c.N[i]? = some x) (hx : LocC c x) (he : EV c e f) (hs : ∀ env, swapsWith e (some (.Name x pos')) pos.line env = pure false) : SV c (.Assign [.Name x pos'] e pos) (sSet f i) := fun X ok W tk po =>
  (ps_set (i := i) (by rw [ok.N]; exact nd) (by rw [ok.N]; exact hi) (hx.loc ok).1 (he X ok W tk) (hs _) (hx.loc ok).2).zimp fun De σ H ⟨env, h, ρ, re, rh, w⟩ => tE_catch re rh w fun d h1 ρ1 v H1 x re1 rh1 r1 w1 => w1 ρ1 H1 .refl rh1 _ (re1.set r1)
/-- a, b = x, y -/
def sPar (i j : Nat) (fa : AF) : SF := fun env h => (fa env h).catch env fun ds h1 => match ds with
  | [x, y] => .ret (.nx ((env.set i (some x)).set j (some y))) h1
  | _ => .fail
theorem sv_par (i j : Nat) {x y : Str} {a b : Expr} {fa : AF} {px py pt pos : Pos} {kt k2 : Nat} {pt2 : Pos} (hc : c.calm = true) (nd : c.N.Nodup) (hi : c.N[i]? = some x) (hj : c.N[j]? = some y) (hij : i ≠ j)
    (hx : c.sc.names.lookup x = some .local) (hy : c.sc.names.lookup y = some .local) (ha : AV c [a, b] fa)
    (hw : ∀ env, env.scope = c.sc → swappedStores [.Tuple [.Name x px, .Name y py] kt pt] (.Tuple [a, b] k2 pt2) env = pure (some [x, y]))
    (hs : ∀ env, swapsWithSole [.Tuple [.Name x px, .Name y py] kt pt] (.Tuple [a, b] k2 pt2) pos.line env = pure false) :
    SV c (.Assign [.Tuple [.Name x px, .Name y py] kt pt] (.Tuple [a, b] k2 pt2) pos) (sPar i j fa) := fun X ok W tk po =>
  (ps_par (i := i) (j := j) (ok.calm.trans hc) (by rw [ok.N]; exact nd) (by rw [ok.N]; exact hi) (by rw [ok.N]; exact hj) hij (by rw [ok.sc]; exact hx) (by rw [ok.sc]; exact hy) (ha X ok W tk) (hw _ ok.sc) (hs _)).zimp fun De σ H ⟨env, h, ρ, re, rh, w⟩ =>
    tA_catch re rh w fun ds h1 ρ1 vs H1 x re1 rh1 r1 w1 => by
      split at w1
      · cases r1 with
        | cons r1 s =>
          cases s with
          | cons r2 s =>
            cases s
            exact ⟨_, _, rfl, w1 ρ1 H1 .refl rh1 _ ((re1.set r1).set r2)⟩
      · exact w1.elim
/-- x op= e -/
def sAug (i : Nat) (g : G2) (f : EF) : SF := fun env h => match env[i]? with
  | some (some x) => (f env h).catch env fun y h1 => (g x y h1).catch env fun z h2 => .ret (.nx (env.set i (some z))) h2
  | _ => .fail
theorem sv_aug (i : Nat) {x : Str} {e : Expr} {op : Operator} {ti : TIp} {g : G2} {f : EF} {pos pos' : Pos} (nd : c.N.Nodup) (hi : c.N[i]? = some x) (hx : LocC c x) (he : EV c e f) (ho : ∀ X, CxOk c X → PIp X op ti) (lk : Lk2 c.T ti g) : SV c (.AugAssign (.Name x pos') op e pos) (sAug i g f) := fun X ok W tk po =>
  (ps_aug (i := i) (by rw [ok.N]; exact nd) (by rw [ok.N]; exact hi) (hx.loc ok).1 (he X ok W tk) (ho X ok) (hx.loc ok).2).zimp fun De σ H ⟨env, h, ρ, re, rh, w⟩ => by
    unfold sAug at w
    split at w
    · rename_i x e0
      obtain ⟨v, e1, q⟩ := re.2 _ _ e0
      refine ⟨v, e1, tE_catch re rh w fun d h1 ρ1 u H1 x re1 rh1 r1 w1 => ?_⟩
      exact lk ρ1 H1 h1 _ d v u _ _ rh1 (q.mono x) r1 (wp_mono (fun z h2 q2 => by
        intro ρ2 vz H2 x2 rh2 rz
        exact q2 ρ2 H2 x2 rh2 _ ((re1.mono x2).set rz)) (fun _ _ q => q) _ (wp_catch w1))
    · exact w.elim
def gAddI' := gI2 (fun _ _ => true) fun i j => .int (i + j)
theorem lk_ipadd : Lk2 T (ipI fun i j => i + j) gAddI' := lk_I0 fun _ _ _ _ _ => .int _
theorem sv_augAdd (i : Nat) {x : Str} {e : Expr} {f : EF} {pos pos' : Pos} (nd : c.N.Nodup) (hi : c.N[i]? = some x) (hx : LocC c x) (he : EV c e f) : SV c (.AugAssign (.Name x pos') .Add e pos) (sAug i gAddI' f) := sv_aug i nd hi hx he (fun _ _ => ip_add) lk_ipadd

/-! ### while -/
/-- behind a body: again, or out -/
def againK (f : Env' → Hs → R Out) : Out → Hs → R Out := fun o h2 => match o with
  | .nx env1 => f env1 h2
  | .ct env1 => f env1 h2
  | .bk env1 => .ret (.nx env1) h2
  | .rt d => .ret (.rt d) h2
  | .ex e env1 => .ret (.ex e env1) h2
theorem again_core {fb : SF} {f : Env' → Hs → R Out} {env : Env'} {h : Hs} {N : L2.St → Hp → Prop} (re : RepE T ρ H env σ) (rh : RepH T ρ H h) (w : wp ((fb env h).bind (againK f)) (OW T ρ H W De) NoX)
    (hN : ∀ ρ' H' env' h' σ', Ex ρ H ρ' H' → RepE T ρ' H' env' σ' → RepH T ρ' H' h' → wp (f env' h') (OW T ρ' H' W De) NoX → N σ' H') : tS T W fb { De with nx := N, ct := N, bk := De.nx } σ H := by
  refine ⟨env, h, ρ, re, rh, wp_mono (fun o h1 q ρ1 H1 x r1 => ?_) (fun _ _ e => e) _ (wp_bind w)⟩
  cases o with
  | nx env1 => exact fun σ1 re1 => hN ρ1 H1 env1 h1 σ1 x re1 r1 (wp_mono (fun o h' p => OW.mono x p) (fun _ _ e => e) _ q)
  | ct env1 => exact fun σ1 re1 => hN ρ1 H1 env1 h1 σ1 x re1 r1 (wp_mono (fun o h' p => OW.mono x p) (fun _ _ e => e) _ q)
  | bk env1 => exact q ρ1 H1 x r1
  | rt d => exact q ρ1 H1 x r1
  | ex e env => exact q ρ1 H1 x r1
def whileL (t : BF) (b : SF) : Nat → Env' → Hs → R Out
  | 0 => fun _ _ => .fail
  | n + 1 => fun env h => (t env h).catch env fun k h1 => match k with
    | true => (b env h1).bind (againK (whileL t b n))
    | false => .ret (.nx env) h1
def sWhile (n : Nat) (t : BF) (b : SF) : SF := fun env h => whileL t b n env h
theorem sv_while (n : Nat) {t : Expr} {body : List Stmt} {ft : BF} {fb : SF} {pos : Pos} (ht : TV c t ft) (hb : SsV c body fb) : SV c (.While t body [] pos) (sWhile n ft fb) := fun X ok W tk po =>
  (ps_while po (ht X ok W tk) (hb X ok W tk po)).zimp fun De σ H ⟨env, h, ρ, re, rh, w⟩ => by
    refine ⟨fun m σ1 H1 => ∃ env1 h1 ρ1, RepE c.T ρ1 H1 env1 σ1 ∧ RepH c.T ρ1 H1 h1 ∧ wp (whileL ft fb m env1 h1) (OW c.T ρ1 H1 W De) NoX, ⟨n, env, h, ρ, re, rh, w⟩, ?_⟩
    rintro m σ1 H1 ⟨env1, h1, ρ1, re1, rh1, w1⟩
    cases m with
    | zero => exact w1.elim
    | succ m =>
      refine tB_catch re1 rh1 w1 fun k h2 ρ2 H2 x2 re2 rh2 w2 => ?_
      cases k with
      | false => exact w2 ρ2 H2 .refl rh2 σ1 re2
      | true =>
        rw [if_pos rfl]
        exact ⟨fun σ' H' => ∃ env' h' ρ', RepE c.T ρ' H' env' σ' ∧ RepH c.T ρ' H' h' ∧ wp (whileL ft fb m env' h') (OW c.T ρ' H' W De) NoX, fun σ' H' q => ⟨m, Nat.lt_succ_self _, q⟩,
          again_core re2 rh2 w2 fun ρ' H' env' h' σ' _ re' rh' w' => ⟨env', h', ρ', re', rh', w'⟩⟩

/-! ### what is walked -/
/-- the item at a turn: none: it fails; some none: the end -/
abbrev Nxt := Nat → Hs → Option (Option D)
def ItOk (T : Tab) (ρ : List Addr) (H : Hp) (J : It) (nxt : Nxt) : Prop := ∀ ρ' H' h i, Ex ρ H ρ' H' → RepH T ρ' H' h → match nxt i h with
  | none => True
  | some none => J.stop i H'
  | some (some d) => J.go i H' ∧ ∀ x H2, J.yld i H' x H2 → Ex ρ' H' ρ' H2 ∧ RepH T ρ' H2 h ∧ Rep T ρ' H2 d x
theorem ItOk.mono {ρ' : List Addr} {H' : Hp} {J : It} {nxt : Nxt} (x : Ex ρ H ρ' H') (k : ItOk T ρ H J nxt) : ItOk T ρ' H' J nxt := fun ρ2 H2 h i x2 rh => k ρ2 H2 h i (x.trans x2) rh
abbrev IF := Env' → Hs → R Nxt
def tI (T : Tab) (W : WX) (f : IF) : TI := fun σ H Q => ∃ env h ρ, RepE T ρ H env σ ∧ RepH T ρ H h ∧
  wp (f env h) (fun nxt h' => ∀ ρ' H' J, Ex ρ H ρ' H' → RepH T ρ' H' h' → ItOk T ρ' H' J nxt → Q J H') (XW T ρ H W σ)
def IV (c : Ctx) (tg e : Expr) (f : IF) : Prop := ∀ X, CxOk c X → ∀ W, Takes X W → PI X tg e (tI c.T W f)
theorem _root_.L2.PI.zimp {X : Cx} {tg e : Expr} {t t' : TI} (h : PI X tg e t) (i : ∀ σ H Q, t' σ H Q → t σ H Q) : PI X tg e t' := ⟨fun pins s σ H R I q => h.run pins s σ H R I (i σ H R q)⟩
def nxL (n : D) : Nxt := fun i h => match seqOf h n with
  | some xs => match xs[i]? with
    | some d => some (some d)
    | none => some none
  | none => none
def nxT (xs : List D) : Nxt := fun i _ => match xs[i]? with
  | some d => some (some d)
  | none => some none
def nxR (lo : Int) (n : Nat) : Nxt := fun i _ => match Nat.blt i n with
  | true => some (some (.int (lo + i)))
  | false => some none
/-- a list or a tuple, by its value -/
def fIter (f : EF) : IF := fun env h => (f env h).bind fun d h1 => match d with
  | .tup xs => .ret (nxT xs) h1
  | _ => match seqOf h1 d with
    | some _ => .ret (nxL d) h1
    | none => .fail
def iAny (K : PySem.W.Frag) (tl : TE) : TI := fun σ H R => tl σ H fun x H1 => ∃ a, x = .ref a ∧ (((∃ xs, SqL K H1 a xs) ∧ R (Itl K a) H1) ∨ ((∃ xs, SqT K H1 a xs) ∧ R (Itt K a) H1))
/-- a new iterator over a sequence stands behind all that stood -/
theorem PIE.fresh {X : Cx} {pins : List (Addr × Obj)} {σ : L2.St} {tg : Expr} {R : It → Hp → Prop} {H1 : Hp} {s1 : Shared} {ob : Obj} {J : It} {tn : Nat → Heap → Prop} (I1 : Inv X pins σ H1 s1) (tu : Turn X.prog X.w X.K tg J [s1.heap.objs.size] s1.heap.objs.size tn)
    (t0 : tn 0 (s1.heap.push ob)) (q : R J H1) : PIE X pins σ tg R (.ref s1.heap.objs.size) { s1 with heap := s1.heap.push ob } := by
  have Ik : Inv X pins σ H1 { s1 with heap := s1.heap.push ob } := I1.kept (t' := s1.toks) fun c oc hc => Heap.get?_push_of_some _ hc
  exact ⟨_, _, _, _, H1, rfl, Ik, tu, t0, fun c hc => by
    rw [List.mem_singleton] at hc
    exact hc ▸ I1.fpOk (Nat.le_refl _) (I1.hok.fresh (Nat.le_refl _)), q⟩
theorem pi_any {X : Cx} {tg l : Expr} {tl : TE} (hl : PE X l tl) : PI X tg l (iAny X.K tl) := ⟨fun pins s σ H R I h => thn (hl.run pins s σ H _ I h) fun v s1 ⟨x, H1, I1, r1, q1⟩ => by
  obtain ⟨a, rfl, q⟩ := q1
  obtain rfl : v = Value.ref a := r1
  rcases q with ⟨⟨xs, hq⟩, q⟩ | ⟨⟨xs, hq⟩, q⟩
  · obtain ⟨its, -, p, -⟩ := I1.list hq
    exact wpAny_pyIter_list p.isList (PIE.fresh I1 (turn_list a _) ⟨_, Heap.get?_push_size _ rfl, rfl, rfl⟩ q)
  · obtain ⟨its, -, p, -⟩ := I1.tuple hq
    exact wpAny_pyIter_tuple (show s1.heap.IsTuple a its.toArray from p) (PIE.fresh I1 (turn_tuple a _) ⟨_, Heap.get?_push_size _ rfl, rfl, rfl⟩ q)⟩
theorem itl_ok {n : D} {a : Addr} (e : Rep T ρ H n (.ref a)) : ItOk T ρ H (Itl T.K a) (nxL n) := by
  intro ρ' H' h i x rh
  unfold nxL
  split
  · trivial
  · rename_i q
    split at q
    · rename_i xs e0
      obtain ⟨a', vs, ev, s, r⟩ := rh.seq e0 (e.mono x)
      cases ev
      split at q
      · cases q
      · rename_i e1
        refine ⟨vs, s, ?_⟩
        rw [← r.length]
        exact List.getElem?_eq_none_iff.mp e1
    · cases q
  · rename_i d q
    split at q
    · rename_i xs e0
      obtain ⟨a', vs, ev, s, r⟩ := rh.seq e0 (e.mono x)
      cases ev
      split at q
      · rename_i e1
        cases q
        obtain ⟨v, e2, rd⟩ := r.get e1
        refine ⟨⟨vs, v, s, e2⟩, fun y H2 hy => ?_⟩
        obtain ⟨rfl, hy⟩ := hy
        have e3 := hy vs s
        rw [e2] at e3
        cases e3
        exact ⟨.refl, rh, rd⟩
      · cases q
    · cases q
theorem itt_ok {xs : List D} {a : Addr} {vs : List V} (s : SqT T.K H a vs) (r : RepL T ρ H xs vs) : ItOk T ρ H (Itt T.K a) (nxT xs) := by
  intro ρ' H' h i x rh
  have s' := x.y.sqT s
  have r' := r.mono x
  unfold nxT
  split
  · trivial
  · rename_i q
    split at q
    · cases q
    · rename_i e1
      refine ⟨vs, s', ?_⟩
      rw [← r'.length]
      exact List.getElem?_eq_none_iff.mp e1
  · rename_i d q
    split at q
    · rename_i e1
      cases q
      obtain ⟨v, e2, rd⟩ := r'.get e1
      refine ⟨⟨vs, v, s', e2⟩, fun y H2 hy => ?_⟩
      obtain ⟨rfl, hy⟩ := hy
      have e3 := hy vs s'
      rw [e2] at e3
      cases e3
      exact ⟨.refl, rh, rd⟩
    · cases q
theorem itr_ok {lo : Int} {n : Nat} : ItOk T ρ H (Itr lo n) (nxR lo n) := by
  intro ρ' H' h i x rh
  unfold nxR
  cases e : Nat.blt i n with
  | true =>
    refine ⟨(by have h : i < n := by simpa [Nat.blt_eq] using e
                exact h), fun y H2 hy => ?_⟩
    obtain ⟨rfl, rfl⟩ := hy
    exact ⟨.refl, rh, .int _⟩
  | false =>
    have h : ¬ i < n := fun z => by
      have := (Nat.blt_eq (x := i) (y := n)).mpr z
      rw [e] at this
      cases this
    exact Nat.le_of_not_lt h
theorem iv_any {tg e : Expr} {f : EF} (he : EV c e f) : IV c tg e (fIter f) := fun X ok W tk =>
  (pi_any (he X ok W tk)).zimp fun σ H Q ⟨env, h, ρ, re, rh, w⟩ => by
    rw [ok.K]
    refine tE_then re rh w (fun _ _ e => e) fun d h1 ρ1 v H1 x1 re1 rh1 r1 w1 => ?_
    split at w1
    · cases r1 with
      | tup s r => exact ⟨_, rfl, .inr ⟨⟨_, s⟩, w1 ρ1 H1 _ x1 rh1 (itt_ok s r)⟩⟩
    · split at w1
      · rename_i e0
        obtain ⟨a, vs, rfl, s, r⟩ := rh1.seq e0 r1
        exact ⟨_, rfl, .inl ⟨⟨vs, s⟩, w1 ρ1 H1 _ x1 rh1 (itl_ok r1)⟩⟩
      · exact w1.elim
def i62 (i : Int) : Bool := Nat.blt i.natAbs 4611686018427387904
theorem i62_ok {i : Int} (h : i62 i = true) : -(2 ^ 62) ≤ i ∧ i < 2 ^ 62 := by
  have h' : i.natAbs < 4611686018427387904 := by simpa [i62, Nat.blt_eq] using h
  omega
def fRng1 (f : AF) : IF := fun env h => (f env h).bind fun ds h1 => match ds with
  | [.int j] => match i62 j with
    | true => .ret (nxR 0 j.toNat) h1
    | false => .fail
  | _ => .fail
def fRng2 (f : AF) : IF := fun env h => (f env h).bind fun ds h1 => match ds with
  | [.int i, .int j] => match i62 i && i62 j with
    | true => .ret (nxR i (j - i).toNat) h1
    | false => .fail
  | _ => .fail
theorem iv_rng1 {tg a : Expr} {p pos : Pos} {f : AF} (hg : GlC c "range") (hm : c.mg "range" = none) (ha : AV c [a] f) (hs : ∀ env, starEach [a] env = [(false, eval a env)]) : IV c tg (.Call (.Name "range" p) [a] [] pos) (fRng1 f) := fun X ok W tk =>
  (pi_range1 (hg.gl ok) (by rw [ok.mg]; exact hm) (ha X ok W tk) (hs _)).zimp fun σ H Q ⟨env, h, ρ, re, rh, w⟩ => by
    refine tA_then re rh w (fun _ _ e => e) fun ds h1 ρ1 v H1 x1 re1 rh1 r1 w1 => ?_
    split at w1
    · split at w1
      · rename_i z
        obtain ⟨z1, z2⟩ := i62_ok z
        exact ⟨_, one_int r1, z1, z2, w1 ρ1 H1 _ x1 rh1 itr_ok⟩
      · exact w1.elim
    · exact w1.elim
theorem iv_rng2 {tg a b : Expr} {p pos : Pos} {f : AF} (hg : GlC c "range") (hm : c.mg "range" = none) (ha : AV c [a, b] f) (hs : ∀ env, starEach [a, b] env = [(false, eval a env), (false, eval b env)]) (hs2 : ∀ env, starEach [b] env = [(false, eval b env)]) : IV c tg (.Call (.Name "range" p) [a, b] [] pos) (fRng2 f) := fun X ok W tk =>
  (pi_range2 (hg.gl ok) (by rw [ok.mg]; exact hm) (ha X ok W tk) (hs _) (hs2 _)).zimp fun σ H Q ⟨env, h, ρ, re, rh, w⟩ => by
    refine tA_then re rh w (fun _ _ e => e) fun ds h1 ρ1 v H1 x1 re1 rh1 r1 w1 => ?_
    split at w1
    · split at w1
      · rename_i z
        obtain ⟨z1, z2⟩ := Bool.and_eq_true_iff.mp z
        obtain ⟨a1, a2⟩ := i62_ok z1
        obtain ⟨b1, b2⟩ := i62_ok z2
        exact ⟨_, _, two_args r1, ⟨a1, a2, b1, b2⟩, w1 ρ1 H1 _ x1 rh1 itr_ok⟩
      · exact w1.elim
    · exact w1.elim

/-! ### for -/
def forL (nxt : Nxt) (g : GF) (b : SF) : Nat → Nat → Env' → Hs → R Out
  | 0 => fun _ _ _ => .fail
  | n + 1 => fun i env h => match nxt i h with
    | none => .fail
    | some none => .ret (.nx env) h
    | some (some d) => (g d env h).catch env fun env1 h1 => (b env1 h1).bind (againK (forL nxt g b n (i + 1)))
def sFor (n : Nat) (it : IF) (g : GF) (b : SF) : SF := fun env h => (it env h).catch env fun nxt h1 => forL nxt g b n 0 env h1
theorem sv_for (n : Nat) {tg iter : Expr} {body : List Stmt} {fi : IF} {S : List Nat} {g : GF} {fb : SF} {pos : Pos} (hc : c.calm = true) (hi : IV c tg iter fi) (hg : GV c tg S g) (hb : SsV c body fb) (hs : ∀ env x, foldedSetIterable iter env x = pure x) : SV c (.For tg iter body [] pos) (sFor n fi g fb) := fun X ok W tk po =>
  (ps_for po (ok.calm.trans hc) (hi X ok W tk) (hg X ok W tk) (hb X ok W tk po) (hs _)).zimp fun De σ H ⟨env, h, ρ, re, rh, w⟩ => by
    refine ⟨env, h, ρ, re, rh, wp_mono (fun nxt h1 q ρ1 H1 J x1 rh1 k => ?_) (fun e h' q => OW.ex re q) _ (wp_catch w)⟩
    refine ⟨fun i m σ2 H2 => ∃ env2 h2 ρ2, Ex ρ1 H1 ρ2 H2 ∧ RepE c.T ρ2 H2 env2 σ2 ∧ RepH c.T ρ2 H2 h2 ∧ wp (forL nxt g fb m i env2 h2) (OW c.T ρ2 H2 W De) NoX, ⟨n, env, h1, ρ1, .refl, re.mono x1, rh1, wp_mono (fun o h' p => OW.mono x1 p) (fun _ _ e => e) _ q⟩, ?_⟩
    rintro i m σ2 H2 ⟨env2, h2, ρ2, x2, re2, rh2, w2⟩
    cases m with
    | zero => exact w2.elim
    | succ m =>
      have kk := k ρ2 H2 h2 i x2 rh2
      unfold forL at w2
      split at w2
      · exact w2.elim
      · rename_i e0
        rw [e0] at kk
        exact .inl ⟨kk, w2 ρ2 H2 .refl rh2 σ2 re2⟩
      · rename_i d e0
        rw [e0] at kk
        refine .inr ⟨kk.1, fun σ' H' => ∃ env' h' ρ', Ex ρ1 H1 ρ' H' ∧ RepE c.T ρ' H' env' σ' ∧ RepH c.T ρ' H' h' ∧ wp (forL nxt g fb m (i + 1) env' h') (OW c.T ρ' H' W De) NoX, fun σ' H' q => ⟨m, Nat.lt_succ_self _, q⟩, fun y H3 hy => ?_⟩
        obtain ⟨x3, rh3, rd⟩ := kk.2 y H3 hy
        refine ⟨d, env2, h2, ρ2, rd, re2.mono x3, rh3, wp_mono (fun env4 h4 q4 ρ4 H4 x4 rh4 σ4 re4 _ => ?_) (fun e h' q => XW.mono x3 (OW.ex re2 q)) _ (wp_catch w2)⟩
        exact again_core re4 rh4 (wp_mono (fun o h' p => OW.mono (x3.trans x4) p) (fun _ _ e => e) _ q4) fun ρ' H' env' h' σ' x' re' rh' w' => ⟨env', h', ρ', x2.trans (x3.trans (x4.trans x')), re', rh', w'⟩
end
end Z

set_option Elab.async false
set_option linter.all false
set_option maxRecDepth 100000
set_option maxHeartbeats 1000000
namespace Z
open PySem PySem.Spec PyProof.Rows L2

section
variable {T : Tab} {c : Ctx} {ρ : List Addr} {H : Hp} {W : WX} {σ : L2.St} {De : Ends}
/-! ### range(a, b, c), enumerate, zip -/
def nxC (lo c : Int) (n : Nat) : Nxt := fun i _ => match Nat.blt i n with
  | true => some (some (.int (lo + (i : Int) * c)))
  | false => some none
theorem itc_ok {lo k : Int} {n : Nat} : ItOk T ρ H (Itc lo k n) (nxC lo k n) := by
  intro ρ' H' h i x rh
  unfold nxC
  cases e : Nat.blt i n with
  | true =>
    refine ⟨(by have h : i < n := by simpa [Nat.blt_eq] using e
                exact h), fun y H2 hy => ?_⟩
    obtain ⟨rfl, rfl⟩ := hy
    exact ⟨.refl, rh, .int _⟩
  | false =>
    have h : ¬ i < n := fun z => by
      have := (Nat.blt_eq (x := i) (y := n)).mpr z
      rw [e] at this
      cases this
    exact Nat.le_of_not_lt h
def fRng3 (f : AF) : IF := fun env h => (f env h).bind fun ds h1 => match ds with
  | [.int i, .int j, .int c] => match i62 i && i62 j && (c == -1) with
    | true => .ret (nxC i (-1) (i - j).toNat) h1
    | false => match !(c == 0) && Nat.blt c.natAbs 1073741824 && Builtin.Range.small i j c && decide (0 ≤ Builtin.Range.rangeSize i j c) with
      | true => .ret (nxC i c (Builtin.Range.rangeSize i j c).toNat) h1
      | false => .fail
  | _ => .fail
theorem three_args {i j k : Int} {vx : List V} (rx : RepL T ρ H [.int i, .int j, .int k] vx) : vx = [.int i, .int j, .int k] := by
  cases rx with
  | cons r s =>
    cases s with
    | cons r2 s =>
      cases s with
      | cons r3 s => cases s; cases r; cases r2; cases r3; rfl
theorem iv_rng3 {tg a b d : Expr} {p pos : Pos} {f : AF} (hg : GlC c "range") (hm : c.mg "range" = none) (ha : AV c [a, b, d] f) (hs : St1 [a, b, d]) (hpl : Pl pos [b, d]) : IV c tg (.Call (.Name "range" p) [a, b, d] [] pos) (fRng3 f) := fun X ok W tk =>
  (pi_range3 (hg.gl ok) (by rw [ok.mg]; exact hm) (ha X ok W tk) (hs _) (hpl _)).zimp fun σ H Q ⟨env, h, ρ, re, rh, w⟩ => by
    refine tA_then re rh w (fun _ _ e => e) fun ds h1 ρ1 v H1 x1 re1 rh1 r1 w1 => ?_
    split at w1
    · split at w1
      · rename_i z
        rw [Bool.and_eq_true, Bool.and_eq_true] at z
        obtain ⟨⟨z1, z2⟩, z3⟩ := z
        have e3 := eq_of_beq z3
        subst e3
        obtain ⟨a1, a2⟩ := i62_ok z1
        obtain ⟨b1, b2⟩ := i62_ok z2
        exact ⟨_, _, _, _, three_args r1, RgC.neg a1 a2 b1 b2, w1 ρ1 H1 _ x1 rh1 itc_ok⟩
      · split at w1
        · rename_i z
          rw [Bool.and_eq_true, Bool.and_eq_true, Bool.and_eq_true] at z
          obtain ⟨⟨⟨z1, z2⟩, z3⟩, z4⟩ := z
          refine ⟨_, _, _, _, three_args r1, ⟨by simpa using z1, by simpa [Nat.blt_eq] using z2, z3, ?_⟩, w1 ρ1 H1 _ x1 rh1 itc_ok⟩
          have := of_decide_eq_true z4
          omega
        · exact w1.elim
    · exact w1.elim
def nxE (n : D) : Nxt := fun i h => match seqOf h n with
  | some xs => match xs[i]? with
    | some d => some (some (.tup [.int i, d]))
    | none => some none
  | none => none
theorem ite_ok {n : D} {a : Addr} (e : Rep T ρ H n (.ref a)) : ItOk T ρ H (Ite T.K a) (nxE n) := by
  intro ρ' H' h i x rh
  unfold nxE
  split
  · trivial
  · rename_i q
    split at q
    · rename_i xs e0
      obtain ⟨a', vs, ev, s, r⟩ := rh.seq e0 (e.mono x)
      cases ev
      split at q
      · cases q
      · rename_i e1
        refine ⟨vs, s, ?_⟩
        rw [← r.length]
        exact List.getElem?_eq_none_iff.mp e1
    · cases q
  · rename_i d q
    split at q
    · rename_i xs e0
      obtain ⟨a', vs, ev, s, r⟩ := rh.seq e0 (e.mono x)
      cases ev
      split at q
      · rename_i e1
        cases q
        obtain ⟨v, e2, rd⟩ := r.get e1
        refine ⟨⟨vs, v, s, e2⟩, fun y H2 hy => ?_⟩
        obtain ⟨T', x', rfl, nT, rfl, hy⟩ := hy
        have e3 := hy vs s
        rw [e2] at e3
        cases e3
        exact ⟨.new nT, rh.new nT, .tup (.of upd_same) (.cons (.int _) (.cons (rd.mono (.new nT)) .nil))⟩
      · cases q
    · cases q
def fEnum (f : EF) : IF := fun env h => (f env h).bind fun d h1 => match seqOf h1 d with
  | some _ => .ret (nxE d) h1
  | none => .fail
theorem iv_enum {e : Expr} {p pos tpos : Pos} {elts : List Expr} {kk : Nat} {f : EF} (hg : GlC c "enumerate") (hm : c.mg "enumerate" = none) (he : EV c e f) (hs : ∀ env, starEach [e] env = [(false, eval e env)]) (hs1 : St1 [e]) : IV c (.Tuple elts kk tpos) (.Call (.Name "enumerate" p) [e] [] pos) (fEnum f) := fun X ok W tk =>
  (pi_enum (hg.gl ok) (by rw [ok.mg]; exact hm) (pa_cons (he X ok W tk) pa_nil (hs1 X.env)) (hs _)).zimp fun σ H Q ⟨env, h, ρ, re, rh, w⟩ => by
    rw [ok.K]
    refine tE_then re rh w (fun _ _ e => e) fun d h1 ρ1 v H1 x1 re1 rh1 r1 w1 => ?_
    split at w1
    · rename_i e0
      obtain ⟨a, vs, rfl, s, r⟩ := rh1.seq e0 r1
      exact ⟨_, vs, rfl, s, w1 ρ1 H1 _ x1 rh1 (ite_ok r1)⟩
    · exact w1.elim
def nxZ (n m : D) : Nxt := fun i h => match seqOf h n, seqOf h m with
  | some xs, some ys => match xs[i]?, ys[i]? with
    | some d, some e => some (some (.tup [d, e]))
    | none, _ => some none
    | _, none => some none
  | _, _ => none
def nxZT (xs ys : List D) : Nxt := fun i h => match xs[i]?, ys[i]? with
  | some d, some e => some (some (.tup [d, e]))
  | none, _ => some none
  | _, none => some none
theorem itz_ok {n m : D} {a b : Addr} (ea : Rep T ρ H n (.ref a)) (eb : Rep T ρ H m (.ref b)) : ItOk T ρ H (L2.Itz T.K a b) (nxZ n m) := by
  intro ρ' H' h i x rh
  unfold nxZ
  cases e1 : seqOf h n with
  | none => trivial
  | some xs =>
    cases e2 : seqOf h m with
    | none => trivial
    | some ys =>
      obtain ⟨a', vs, ev, s, r⟩ := rh.seq e1 (ea.mono x)
      cases ev
      obtain ⟨b', ws, ev, s2, r2⟩ := rh.seq e2 (eb.mono x)
      cases ev
      dsimp only
      cases q1 : xs[i]? with
      | none =>
        refine ⟨vs, ws, s, s2, .inl ?_⟩
        rw [← r.length]
        exact List.getElem?_eq_none_iff.mp q1
      | some d =>
        cases q2 : ys[i]? with
        | none =>
          refine ⟨vs, ws, s, s2, .inr ?_⟩
          rw [← r2.length]
          exact List.getElem?_eq_none_iff.mp q2
        | some e =>
          obtain ⟨v, g1, rd⟩ := r.get q1
          obtain ⟨u, g2, re⟩ := r2.get q2
          refine ⟨⟨vs, ws, v, u, s, s2, g1, g2⟩, fun y H2 hy => ?_⟩
          obtain ⟨T', x', y', rfl, nT, rfl, h1, h2⟩ := hy
          have k1 := h1 vs s
          rw [g1] at k1; cases k1
          have k2 := h2 ws s2
          rw [g2] at k2; cases k2
          exact ⟨.new nT, rh.new nT, .tup (.of upd_same) (.cons (rd.mono (.new nT)) (.cons (re.mono (.new nT)) .nil))⟩
theorem itzT_ok {xs ys : List D} {a b : Addr} {vs ws : List V} (s : SqT T.K H a vs) (r : RepL T ρ H xs vs) (s2 : SqT T.K H b ws) (r2 : RepL T ρ H ys ws) : ItOk T ρ H (RZ.ItzT T.K a b) (nxZT xs ys) := by
  intro ρ' H' h i x rh
  have s := x.y.sqT s
  have s2 := x.y.sqT s2
  have r := r.mono x
  have r2 := r2.mono x
  unfold nxZT
  cases q1 : xs[i]? with
  | none =>
    refine ⟨vs, ws, s, s2, .inl ?_⟩
    rw [← r.length]
    exact List.getElem?_eq_none_iff.mp q1
  | some d =>
    cases q2 : ys[i]? with
    | none =>
      refine ⟨vs, ws, s, s2, .inr ?_⟩
      rw [← r2.length]
      exact List.getElem?_eq_none_iff.mp q2
    | some e =>
      obtain ⟨v, g1, rd⟩ := r.get q1
      obtain ⟨u, g2, re⟩ := r2.get q2
      refine ⟨⟨vs, ws, v, u, s, s2, g1, g2⟩, fun y H2 hy => ?_⟩
      obtain ⟨T', x', y', rfl, nT, rfl, h1, h2⟩ := hy
      have k1 := h1 vs s
      rw [g1] at k1; cases k1
      have k2 := h2 ws s2
      rw [g2] at k2; cases k2
      exact ⟨.new nT, rh.new nT, .tup (.of upd_same) (.cons (rd.mono (.new nT)) (.cons (re.mono (.new nT)) .nil))⟩
def fZip (f : AF) : IF := fun env h => (f env h).bind fun ds h1 => match ds with
  | [.tup xs, .tup ys] => .ret (nxZT xs ys) h1
  | [x, y] => match seqOf h1 x, seqOf h1 y with
    | some _, some _ => .ret (nxZ x y) h1
    | _, _ => .fail
  | _ => .fail
theorem iv_zip {e e2 : Expr} {p pos tpos : Pos} {elts : List Expr} {kk : Nat} {f : AF} (hg : GlC c "zip") (hm : c.mg "zip" = none) (ha : AV c [e, e2] f) (hs : St1 [e, e2]) (hpl : Pl pos [e2]) : IV c (.Tuple elts kk tpos) (.Call (.Name "zip" p) [e, e2] [] pos) (fZip f) := fun X ok W tk =>
  (RZ.pi_zipA (hg.gl ok) (by rw [ok.mg]; exact hm) (ha X ok W tk) (hs _) (hpl _)).zimp fun σ H Q ⟨env, h, ρ, re, rh, w⟩ => by
    rw [ok.K]
    refine tA_then re rh w (fun _ _ e => e) fun ds h1 ρ1 v H1 x1 re1 rh1 r1 w1 => ?_
    split at w1
    · cases r1 with
      | cons r1 rs =>
        cases rs with
        | cons r2 rs =>
          cases rs
          cases r1 with
          | tup s r =>
            cases r2 with
            | tup s2 r2 => exact ⟨_, _, _, _, rfl, .inr ⟨s, s2, w1 ρ1 H1 _ x1 rh1 (itzT_ok s r s2 r2)⟩⟩
    · split at w1
      · rename_i e0 e1
        cases r1 with
        | cons r1 rs =>
          cases rs with
          | cons r2 rs =>
            cases rs
            obtain ⟨a, vs, rfl, s, r⟩ := rh1.seq e0 r1
            obtain ⟨b, ws, rfl, s2, r3⟩ := rh1.seq e1 r2
            exact ⟨_, _, vs, ws, rfl, .inl ⟨s, s2, w1 ρ1 H1 _ x1 rh1 (itz_ok r1 r2)⟩⟩
      · exact w1.elim
    · exact w1.elim

/-! ### comprehensions -/
abbrev Ctx.blk (c : Ctx) (scope : Scope) : Ctx := { c with sc := relS scope c.sc, top := false, fn := fun x => scope.names.lookup x == some .cell, hot := false }
theorem CxOk.blk {X : Cx} (ok : CxOk c X) (s : Shared) (H : Hp) (scope : Scope) (C : Addr) (cl : List (Str × Addr)) (fp : List Addr) : CxOk (c.blk scope) (X.blk s H scope (compEnvC scope cl C X.env) fp) :=
  ⟨ok.prog, ok.w, ok.K, ok.mg, ok.base, ok.N, by show relS scope X.env.scope = relS scope c.sc; rw [ok.sc], ok.room, ok.calm, fun z => (by cases z), fun x h => h, ok.un, fun z => (by cases z)⟩
def BsV (c : Ctx) (ifs : List Expr) (f : BF) : Prop := ∀ X, CxOk c X → ∀ W, Takes X W → PTs X ifs (tB' c.T W f)
def bYes : BF := fun _ h => .ret true h
theorem bsv_nil : BsV c [] bYes := fun X ok W tk => ⟨fun pins s σ H Q I ⟨env, h, ρ, re, rh, w⟩ => pts_nil.run pins s σ H Q I (w ρ H .refl rh)⟩
theorem bsv_one {t : Expr} {f : BF} (h : TV c t f) : BsV c [t] f := fun X ok W tk => pts_one (h X ok W tk)
def lcL (nxt : Nxt) (g : GF) (t : BF) (f : EF) (env : Env') : Nat → Nat → List D → Hs → R D
  | 0 => fun _ _ _ => .fail
  | n + 1 => fun i acc h => match nxt i h with
    | none => .fail
    | some none => newL acc.reverse h
    | some (some d) => (g d env h).nox.bind fun env1 h1 => (t env1 h1).nox.bind fun b h2 => match b with
      | true => (f env1 h2).nox.bind fun y h3 => match Nat.blt i line with
        | true => lcL nxt g t f env n (i + 1) (y :: acc) h3
        | false => .fail
      | false => lcL nxt g t f env n (i + 1) acc h2
def fLc (n : Nat) (vs : List Nat) (it : IF) (g : GF) (t : BF) (f : EF) : EF := fun env h => (it env h).bind fun nxt h1 => lcL nxt g t f (wipeE env vs) n 0 [] h1
/-- an object beside ours is changed -/
theorem Ey.aside {D' : Addr} {ρ : List Addr} {H : Hp} {vs ws : List V} (n : D' ∉ ρ) (e : H D' = some (.lst vs)) : Ey ρ H ρ (upd H D' (.lst ws)) := by
  refine ⟨List.prefix_rfl, fun b xs q => ?_, fun b o u q => ?_, fun b C dx fs nb q => ⟨?_, nb⟩, fun b fs nb q => ⟨?_, nb⟩⟩
  · rw [upd_ne fun z => by rw [z, e] at q; cases q]; exact q
  · rw [upd_ne fun z => by rw [z, e] at q; cases q]; exact q
  · rw [upd_ne fun z => by rw [z, e] at q; cases q]; exact q
  · rw [upd_ne fun z => by rw [z, e] at q; cases q]; exact q
theorem RepH.aside {D' : Addr} {ρ : List Addr} {H : Hp} {h : Hs} {vs ws : List V} (rh : RepH T ρ H h) (n : D' ∉ ρ) (e : H D' = some (.lst vs)) : RepH T ρ (upd H D' (.lst ws)) h :=
  ⟨rh.len, rh.nd, fun m u a e1 e2 => (rh.at_ m u a e1 e2).atY (.aside n e) (upd_ne fun z => n (z ▸ List.mem_of_getElem? e2))⟩
theorem Ex.aside {D' : Addr} {ρ ρ' : List Addr} {H H' : Hp} {o : HO} {vs : List V} (x : Ex ρ H ρ' H') (n : H D' = none) (e : H' D' = some (.lst vs)) : Ex ρ H ρ' (upd H' D' o) := by
  refine ⟨x.pre, fun b xs q => ?_, fun b o u q => ?_, fun b u nb q => ?_⟩
  · rw [upd_ne (ne_of_none q n)]; exact x.tup b xs q
  · rw [upd_ne (ne_of_none q n)]; exact x.frz b o u q
  · rw [upd_ne (ne_of_none q n)]; exact x.keep b u nb q
/-- an object beside ours becomes ours -/
theorem RepH.join {D' : Addr} {ρ : List Addr} {H : Hp} {h : Hs} {xs : List D} {vs : List V} (rh : RepH T ρ H h) (n : D' ∉ ρ) (e : H D' = some (.lst vs)) (r : RepL T ρ H xs vs) : RepH T (ρ ++ [D']) H (h ++ [.lst xs]) := by
  have y : Ey ρ H (ρ ++ [D']) H := ⟨List.prefix_append _ _, fun _ _ q => q, fun _ _ _ q => q, fun a C dx fs na q => ⟨q, fun z => by
    rcases List.mem_append.mp z with z | z
    · exact na z
    · have z' : a = D' := by simpa using z
      rw [z', e] at q; cases q⟩, fun a fs na q => ⟨q, fun z => by
    rcases List.mem_append.mp z with z | z
    · exact na z
    · have z' : a = D' := by simpa using z
      rw [z', e] at q; cases q⟩⟩
  refine ⟨by rw [List.length_append, List.length_append, rh.len]; rfl, ?_, fun m x a e1 e2 => ?_⟩
  · rw [List.nodup_append]
    exact ⟨rh.nd, by simp, fun b hb c hc z => n (by rw [List.mem_singleton] at hc; rw [← hc, ← z]; exact hb)⟩
  · by_cases hm : m < h.length
    · rw [List.getElem?_append_left hm] at e1
      rw [List.getElem?_append_left (by rw [rh.len]; exact hm)] at e2
      exact (rh.at_ m x a e1 e2).atY y rfl
    · have em : m = h.length := by
        obtain ⟨z, _⟩ := List.getElem?_eq_some_iff.mp e1
        rw [List.length_append] at z
        have : [AO.lst xs].length = 1 := rfl
        omega
      subst em
      rw [List.getElem?_append_right (Nat.le_refl _), Nat.sub_self] at e1
      rw [← rh.len, List.getElem?_append_right (Nat.le_refl _), Nat.sub_self] at e2
      cases e1; cases e2
      exact ⟨vs, e, r.monoY y⟩
theorem lc_imp (n : Nat) {scope : Scope} {vs : List Nat} {S : List Nat} {fi : IF} {g : GF} {t : BF} {f : EF} (hS : ∀ i ∈ S, i ∈ vs) {Q : VK} (q : tE T W (fLc n vs fi g t f) σ H Q) :
    tLc (tI T W fi) (tG T (fun _ _ _ _ => False) S g) (tB' T (fun _ _ _ _ => False) t) (tE T (fun _ _ _ _ => False) f) vs σ H Q := by
  obtain ⟨env, h, ρ, re, rh, w⟩ := q
  refine ⟨env, h, ρ, re, rh, wp_mono (fun nxt h1 q ρ1 H1 J x1 rh1 k D nD => ?_) (fun _ _ e => e) _ (wp_bind w)⟩
  have dρ : D ∉ ρ1 := rh1.fresh nD
  let Inv := fun (i m : Nat) (H2 : Hp) => ∃ h2 ρ2 acc vacc, Ex ρ1 H1 ρ2 H2 ∧ D ∉ ρ2 ∧ RepH T ρ2 H2 h2 ∧ H2 D = some (.lst vacc) ∧ RepL T ρ2 H2 acc.reverse vacc ∧ acc.length ≤ i ∧ wp (lcL nxt g t f (wipeE env vs) m i acc h2) (PostV T ρ H Q) (XW T ρ H W σ)
  refine ⟨Inv, ⟨n, h1, ρ1, [], [], .new nD, dρ, rh1.new nD, upd_same, .nil, Nat.le_refl _, q⟩, ?_⟩
  rintro i m H2 ⟨h2, ρ2, acc, vacc, x2, d2, rh2, eD, racc, hl, w2⟩
  cases m with
  | zero => exact w2.elim
  | succ m =>
    have kk := k ρ2 H2 h2 i x2 rh2
    have re2 : RepE T ρ2 H2 (wipeE env vs) (wipe σ vs) := (re.wipe vs).mono (x1.trans x2)
    unfold lcL at w2
    split at w2
    · exact w2.elim
    · rename_i e0
      rw [e0] at kk
      refine .inl ⟨kk, w2 (ρ2 ++ [D]) _ H2 (x1.trans ⟨x2.pre.trans (List.prefix_append _ _), x2.tup, x2.frz, fun a u na qa => ?_⟩) (rh2.join d2 eD racc) ?_⟩
      · obtain ⟨z1, z2⟩ := x2.keep a u na qa
        exact ⟨z1, fun z => by
          rcases List.mem_append.mp z with z | z
          · exact z2 z
          · have z' : a = D := by simpa using z
            rw [z', nD] at qa; cases qa⟩
      · rw [← rh2.len]; exact .last
    · rename_i d e0
      rw [e0] at kk
      refine .inr ⟨kk.1, Inv (i + 1) m, fun H' q => ⟨m, Nat.lt_succ_self _, q⟩, fun y H3 hy => ?_⟩
      obtain ⟨x3, rh3, rd⟩ := kk.2 y H3 hy
      refine ⟨d, wipeE env vs, h2, ρ2, rd, re2.mono x3, rh3, wp_mono (fun env4 h4 q4 ρ4 H4 x4 rh4 σ4 re4 o4 => ⟨?_, ?_⟩) (fun _ _ e => e) _ (wp_nox (wp_bind w2))⟩
      · rw [o4.wipe hS]
        refine List.ext_getElem? fun j => ?_
        by_cases hm : j ∈ vs
        · by_cases hl : j < σ.length
          · rw [wipe_in hm (by rw [wipe_length]; exact hl), wipe_in hm hl]
          · rw [List.getElem?_eq_none (by rw [wipe_length, wipe_length]; omega), List.getElem?_eq_none (by rw [wipe_length]; omega)]
        · rw [wipe_out hm]
      · refine ⟨env4, h4, ρ4, re4, rh4, wp_mono (fun b h5 q5 ρ5 H5 x5 rh5 => ?_) (fun _ _ e => e) _ (wp_nox (wp_bind q4))⟩
        have x25 := x3.trans (x4.trans x5)
        cases b with
        | false =>
          obtain ⟨z1, z2⟩ := x25.keep D _ d2 eD
          exact ⟨h5, ρ5, acc, vacc, x2.trans x25, z2, rh5, z1, racc.mono x25, Nat.le_succ_of_le hl, q5⟩
        | true =>
          dsimp only
          rw [if_pos rfl]
          refine ⟨env4, h5, ρ5, re4.mono x5, rh5, wp_mono (fun z h6 q6 ρ6 vz H6 x6 rh6 rz => ?_) (fun _ _ e => e) _ (wp_nox (wp_bind q5))⟩
          split at q6
          · rename_i zl
            have x26 := x25.trans x6
            obtain ⟨z1, z2⟩ := x26.keep D _ d2 eD
            have y7 : Ey ρ6 H6 ρ6 (upd H6 D (.lst (vacc ++ [vz]))) := .aside z2 z1
            refine ⟨vacc, z1, ?_, h6, ρ6, z :: acc, vacc ++ [vz], (x2.trans x26).aside nD z1, z2, rh6.aside z2 z1, upd_same, ?_, Nat.succ_le_succ hl, q6⟩
            · have zl' : i < line := by simpa [Nat.blt_eq] using zl
              have := racc.length
              rw [List.length_reverse] at this
              exact line_lt (by omega)
            · rw [List.reverse_cons]
              exact ((racc.mono x26).append (.cons rz .nil)).monoY y7
          · exact q6.elim
theorem ev_lc (n : Nat) {elt tg iter : Expr} {ifs : List Expr} {scope : Scope} {own : List (Str × Nat)} {pos : Pos} {fi : IF} {S : List Nat} {g : GF} {t : BF} {f : EF} (hc : c.calm = true) (nd : c.N.Nodup) (ok0 : BlkOk c.N c.sc scope own) (hS : ∀ i ∈ S, i ∈ own.map (·.2)) (hi : IV c tg iter fi)
    (hg : GV (c.blk scope) tg S g) (ht : BsV (c.blk scope) ifs t) (he : EV (c.blk scope) elt f) (hs : ∀ env x, foldedSetIterable iter env x = pure x) : EV c (.ListComp elt [⟨tg, iter, ifs, 0⟩] scope pos) (fLc n (own.map (·.2)) fi g t f) := fun X ok W tk =>
  (pe_lc (ok.calm.trans hc) (by rw [ok.N]; exact nd) (hi X ok W tk) (by rw [ok.N, ok.sc]; exact ok0) (fun s H C cl fp => hg _ (ok.blk s H scope C cl fp) _ takes0) (fun s H C cl fp => ht _ (ok.blk s H scope C cl fp) _ takes0)
    (fun s H C cl fp => he _ (ok.blk s H scope C cl fp) _ takes0) (hs _)).zimp fun σ H Q q => lc_imp n (scope := scope) hS q
/-- y = [..] -/
theorem sv_setLc (n i : Nat) {y : Str} {py : Pos} {elt tg iter : Expr} {ifs : List Expr} {scope : Scope} {own : List (Str × Nat)} {pos spos : Pos} {fi : IF} {S : List Nat} {g : GF} {t : BF} {f : EF} (hc : c.calm = true) (nd : c.N.Nodup) (hy : c.N[i]? = some y) (hyl : c.sc.names.lookup y = some .local) (hk : c.sc.kind = .function)
    (hl : (py.line == pos.line) = true) (hl2 : (spos.line == spos.line) = true) (ha : (scope.names.any fun (n, k) => n == y && (k == .local || k == .cell)) = false)
    (ok0 : BlkOk c.N c.sc scope own) (hS : ∀ i ∈ S, i ∈ own.map (·.2)) (hi : IV c tg iter fi)
    (hg : GV (c.blk scope) tg S g) (ht : BsV (c.blk scope) ifs t) (he : EV (c.blk scope) elt f) (hs : ∀ env x, foldedSetIterable iter env x = pure x) : SV c (.Assign [.Name y py] (.ListComp elt [⟨tg, iter, ifs, 0⟩] scope pos) spos) (sSet (fLc n (own.map (·.2)) fi g t f) i) := fun X ok W tk po =>
  (ps_setLc (i := i) (ok.calm.trans hc) (by rw [ok.N]; exact nd) (by rw [ok.N]; exact hy) (by rw [ok.sc]; exact hyl) (sw_true (by rw [ok.sc]; exact hk) (by rw [ok.sc]; exact hyl) hl ha) (hi X ok W tk) (by rw [ok.N, ok.sc]; exact ok0) (fun s H C cl fp => hg _ (ok.blk s H scope C cl fp) _ takes0) (fun s H C cl fp => ht _ (ok.blk s H scope C cl fp) _ takes0)
    (fun s H C cl fp => he _ (ok.blk s H scope C cl fp) _ takes0) (hs _)).zimp fun De σ H ⟨env, h, ρ, re, rh, w⟩ => by
      refine lc_imp n (scope := scope) hS (tE_catch re rh w fun d h1 ρ1 v H1 x re1 rh1 r1 w1 => ?_)
      exact w1 ρ1 H1 .refl rh1 _ (re1.set r1)

/-! ### a def's promise, a def's body, calls -/
abbrev FF := List D → Hs → R D
def Pr (T : Tab) (F : FF) : Sp := fun vs H Q E => ∃ ds h ρ, RepL T ρ H ds vs ∧ RepH T ρ H h ∧ wp (F ds h) (PostV T ρ H Q) (fun e h' => ∀ ρ' H' cls d, Ex ρ H ρ' H' → RepH T ρ' H' h' → RepX T ρ' H' e cls d → E cls d H')
def mkF (np n : Nat) (b : SF) : FF := fun ds h => match ds.length == np with
  | true => (b (startE n ds) h).nox.bind fun o h1 => match o with
    | .nx _ => .ret .non h1
    | .rt d => .ret d h1
    | .ex e _ => .exc e h1
    | _ => .fail
  | false => .fail
structure DefOk (P : Program) (w : World) (mg : Str → Option Value) (base : Heap) (T : Tab) (k : Nat) (x : Str) (np : Nat) (F : FF) : Prop where
  ex : ∃ (f : Addr) (fd : FuncData) (ps : List Str), FnOk P w T.K mg base (L2.CX P w) k f fd ps (Pr T F) ∧ ps.length = np ∧ mg x = some (.ref f) ∧ PySem.W.keepIn T.K (.ref f) = true ∧ Binds T.K fd ps []
end
abbrev cx0 (P : Program) (w : World) (mg : Str → Option Value) (base : Heap) (T : Tab) (N : List Str) (sc : Scope) (k : Nat) : Ctx := ⟨P, w, mg, base, T, N, sc, k, true, true, fun _ => true, false⟩
/-- a def of the text, by its body -/
theorem fn_ok {P : Program} {wd : World} {mg : Str → Option Value} {base : Heap} {T : Tab} {x qual : Str} {st : Stmt} {f : Addr} {fd : FuncData} {N ps : List Str} {k : Nat} {b : SF} (F : Fun T.K x qual st f fd) (S : FnScope N ps (defScope st))
    (hb : SsV (cx0 P wd mg base T N (defScope st) k) (defBody st) b) : FnOk P wd T.K mg base (L2.CX P wd) (k + 1) f fd ps (Pr T (mkF ps.length N.length b)) := by
  refine F.okX S (fun vs H Q E h => ?_) (fun cdv A outer s H vs Q E hr h => ?_)
  · obtain ⟨ds, h, ρ, r, rh, w⟩ := h
    rw [← r.length]
    unfold mkF at w
    split at w
    · rename_i e; simpa using e
    · exact w.elim
  · obtain ⟨ds, h, ρ, r, rh, w⟩ := h
    unfold mkF at w
    split at w
    · have ok : CxOk (cx0 P wd mg base T N (defScope st) k) (cxOf (L2.CX P wd) P wd T.K mg base N qual (defScope st) f cdv A outer s H E) := ⟨rfl, rfl, rfl, rfl, rfl, rfl, rfl, fun _ => hr, rfl, fun (_ : true = true) => ⟨rfl, rfl, rfl⟩, fun (_ : Str) (_ : true = true) => rfl, hr.units, fun z => (by cases z)⟩
      have tk : Takes (cxOf (L2.CX P wd) P wd T.K mg base N qual (defScope st) f cdv A outer s H E) (fun cls d _ H => E cls d H) := takes_of rfl rfl rfl rfl
      refine ⟨_, hb _ ok _ tk (passes_of rfl), startE N.length ds, h, ρ, .start r, rh, ?_⟩
      refine wp_mono (fun o h1 q ρ' H' x rh' => ?_) (fun _ _ e => e) _ (wp_nox (wp_bind w))
      · cases o with
        | nx env => exact fun σ' _ => q ρ' _ H' x rh' .non
        | rt d => exact fun v rv => q ρ' v H' x rh' rv
        | bk env => exact q.elim
        | ct env => exact q.elim
        | ex e env => exact fun σ' cls d _ rx => q ρ' H' cls d x rh' rx
    · exact w.elim
theorem defOk {P : Program} {w : World} {mg : Str → Option Value} {base : Heap} {T : Tab} {x qual : Str} {st : Stmt} {f : Addr} {fd : FuncData} {N ps : List Str} {k : Nat} {b : SF} (F : Fun T.K x qual st f fd) (S : FnScope N ps (defScope st)) (hm : mg x = some (.ref f)) (hbd : Binds T.K fd ps [])
    (hb : SsV (cx0 P w mg base T N (defScope st) k) (defBody st) b) : DefOk P w mg base T (k + 1) x ps.length (mkF ps.length N.length b) := ⟨f, fd, ps, fn_ok F S hb, rfl, hm, F.kp, hbd⟩
/-- a def whose function is another one, that says no more -/
theorem DefOk.imp {P : Program} {w : World} {mg : Str → Option Value} {base : Heap} {T : Tab} {k np : Nat} {x : Str} {F G : FF} (d : DefOk P w mg base T k x np F) (h : ∀ ds hs Q E, wp (G ds hs) Q E → wp (F ds hs) Q E) : DefOk P w mg base T k x np G := by
  obtain ⟨f, fd, ps, ok, e, hm, kp, b⟩ := d.ex
  exact ⟨f, fd, ps, ok.imp fun vs H Q E ⟨ds, hs, ρ, r, rh, w⟩ => ⟨ds, hs, ρ, r, rh, h _ _ _ _ w⟩, e, hm, kp, b⟩
theorem DefOk.mono {P : Program} {w : World} {mg : Str → Option Value} {base : Heap} {T : Tab} {j k np : Nat} {x : Str} {F : FF} (d : DefOk P w mg base T j x np F) (h : j ≤ k) : DefOk P w mg base T k x np F := by
  obtain ⟨f, fd, ps, ok, e, hm, kp, b⟩ := d.ex
  exact ⟨f, fd, ps, ok.mono h, e, hm, kp, b⟩
section
variable {c : Ctx}
def fCall (F : FF) (fa : AF) : EF := fun env h => (fa env h).bind fun ds h1 => F ds h1
theorem ev_call {k np : Nat} {x : Str} {F : FF} {p pos : Pos} {e : Expr} {es : List Expr} {fa : AF} (d : DefOk c.P c.w c.mg c.base c.T k x np F) (hk : k ≤ c.k) (hc : c.calm = true) (hg : GlC c x) (ha : AV c (e :: es) fa) (hdb : (x == ("__debug__" : Str)) = false) (he : St1 (e :: es)) (hpl : Pl pos es) :
    EV c (.Call (.Name x p) (e :: es) [] pos) (fCall F fa) := fun X ok W tk => by
  obtain ⟨f, fd, ps, fok, e, hm, kp, b⟩ := d.ex
  have e1 := ok.prog
  have e2 := ok.w
  have e3 := ok.K
  have e4 := ok.mg
  have e5 := ok.base
  have fok' : FnOk X.prog X.w X.K X.mg X.base (L2.CX X.prog X.w) k f fd ps (Pr c.T F) := by rw [e1, e2, e3, e4, e5]; exact fok
  refine (pe_callS (E := WE W) fok' ((ok.room hc).mono hk) (hg.gl ok) (by rw [e4]; exact hm) (by rw [e3]; exact kp) (by rw [e3]; exact b) (fun σ => passAt tk σ) (ha X ok W tk) hdb (he _) (hpl _)).zimp fun σ H Q ⟨env, h, ρ, re, rh, w⟩ => ?_
  refine tA_then re rh w (fun _ _ e => e) fun ds h1 ρ1 v H1 x1 re1 rh1 r1 w1 => ?_
  exact ⟨ds, h1, ρ1, r1, rh1, wp_mono (fun d h' p => PostV.mono x1 p) (fun e h' p ρ' H' cls d x' => p ρ' H' cls d (x1.trans x')) _ w1⟩
/-- f() -/
theorem ev_call0 {k np : Nat} {x : Str} {F : FF} {p pos : Pos} (d : DefOk c.P c.w c.mg c.base c.T k x np F) (hk : k ≤ c.k) (hc : c.calm = true) (hg : GlC c x) (hdb : (x == ("__debug__" : Str)) = false) : EV c (.Call (.Name x p) [] [] pos) (fCall F fNil) := fun X ok W tk => by
  obtain ⟨f, fd, ps, fok, e, hm, kp, b⟩ := d.ex
  have fok' : FnOk X.prog X.w X.K X.mg X.base (L2.CX X.prog X.w) k f fd ps (Pr c.T F) := by rw [ok.prog, ok.w, ok.K, ok.mg, ok.base]; exact fok
  refine ⟨fun pins s σ H Q I ⟨env, h, ρ, re, rh, w⟩ => ?_⟩
  refine wpAny_Call_Name_kw (ld_glob I (hg.gl ok) (by rw [ok.mg]; exact hm) ?_ hdb)
  refine PySem.W.callWith_K0 I.kIn (by rw [ok.K]; exact kp) (run_fnS (E := WE W) (us := []) (vs := []) fok' ((ok.room hc).mono hk) (by rw [ok.K]; exact b) (passAt tk σ) I .nil ⟨[], h, ρ, .nil, rh, w⟩)
end
end Z

set_option Elab.async false
set_option linter.all false
set_option maxRecDepth 100000
set_option maxHeartbeats 1000000
namespace Z
open PySem PySem.Spec PyProof.Rows L2

/-! ### less is known -/
inductive Abs : AO → AO → Prop
  | rfl (a : AO) : Abs a a
  | st (s t : Int) : Abs (.lst [.int s, .int t]) .st
  | junk (a : AO) : Abs a .junk
def HAbs (h h' : Hs) : Prop := List.length h = List.length h' ∧ ∀ (n : Nat) (a b : AO), h[n]? = some a → h'[n]? = some b → Abs a b
theorem HAbs.refl {h : Hs} : HAbs h h := ⟨_root_.rfl, fun n a b e1 e2 => by rw [e1] at e2; cases e2; exact .rfl a⟩
section
variable {T : Tab} {ρ : List Addr} {H : Hp} {h h' : Hs}
theorem RepO.abs {a b : AO} {p : Addr} (x : Abs a b) (r : RepO T ρ H p a) : RepO T ρ H p b := by
  cases x with
  | rfl => exact r
  | st s t =>
    obtain ⟨vs, e, q⟩ := r
    cases q with
    | cons q1 q =>
      cases q with
      | cons q2 q =>
        cases q; cases q1; cases q2
        exact ⟨s, t, e⟩
  | junk => exact r.there
theorem RepH.abs (x : HAbs h h') (r : RepH T ρ H h) : RepH T ρ H h' := by
  refine ⟨r.len.trans x.1, r.nd, fun n o a e1 e2 => ?_⟩
  obtain ⟨z, _⟩ := List.getElem?_eq_some_iff.mp e1
  have e3 : h[n]? = some (h[n]'(by rw [x.1]; exact z)) := List.getElem?_eq_getElem _
  exact (r.at_ n _ a e3 e2).abs (x.2 n _ _ e3 e1)
theorem RepH.con {n : Nat} (r : RepH T ρ H h) (e : h[n]? = some .st) : ∃ s t : Int, RepH T ρ H (h.set n (.lst [.int s, .int t])) := by
  obtain ⟨a, ea⟩ := r.lt e
  obtain ⟨s, t, e1⟩ := r.at_ n _ a e ea
  refine ⟨s, t, by rw [List.length_set]; exact r.len, r.nd, fun m o b q1 q2 => ?_⟩
  by_cases hm : n = m
  · subst hm
    rw [List.getElem?_set_self (by obtain ⟨z, _⟩ := List.getElem?_eq_some_iff.mp e; exact z)] at q1
    cases q1
    rw [ea] at q2; cases q2
    exact ⟨_, e1, .cons (.int s) (.cons (.int t) .nil)⟩
  · rw [List.getElem?_set_ne hm] at q1
    exact r.at_ m o b q1 q2
theorem HAbs.st {n : Nat} {s t : Int} (e : h[n]? = some .st) : HAbs (h.set n (.lst [.int s, .int t])) h := by
  refine ⟨List.length_set, fun m a b e1 e2 => ?_⟩
  by_cases hm : n = m
  · subst hm
    rw [List.getElem?_set_self (by obtain ⟨z, _⟩ := List.getElem?_eq_some_iff.mp e; exact z)] at e1
    cases e1
    rw [e] at e2; cases e2
    exact .st s t
  · rw [List.getElem?_set_ne hm, e2] at e1
    cases e1; exact .rfl _
theorem HAbs.append {g g' : Hs} (x : HAbs h h') (y : HAbs g g') : HAbs (h ++ g) (h' ++ g') := by
  refine ⟨by rw [List.length_append, List.length_append, x.1, y.1], fun n a b e1 e2 => ?_⟩
  by_cases hn : n < h.length
  · rw [List.getElem?_append_left hn] at e1
    rw [List.getElem?_append_left (by rw [← x.1]; exact hn)] at e2
    exact x.2 n a b e1 e2
  · rw [List.getElem?_append_right (by omega)] at e1
    rw [List.getElem?_append_right (by rw [← x.1]; omega), ← x.1] at e2
    exact y.2 _ a b e1 e2
theorem PostV.abs {Q : VK} {d : D} (x : HAbs h h') (p : PostV T ρ H Q d h') : PostV T ρ H Q d h := fun ρ' v H' e r q => p ρ' v H' e (r.abs x) q
end

/-! ### the script's state: two ints; a draw -/
def gState : FF := fun ds h => match ds with
  | [.kl xs] => match Nat.ble xs.length 63, intsD xs with
    | true, some _ => .ret (.ref (h.length + 1)) (h ++ [.junk, .st])
    | _, _ => .fail
  | _ => .fail
def gTake : FF := fun ds h => match ds with
  | [.ref n, .int m] => match h[n]? with
    | some .st => match decide (0 < m) && Nat.blt m.natAbs 1073741824 with
      | true => .pick m.toNat fun i => .ret (.int i) h
      | false => .fail
    | _ => .fail
  | _ => .fail
/-- the text of _law_take -/
def bTake : SF :=
  sSeq (sIf (fTest (fBin gGt (fBin gIx (fVar 0) (fC (.int 0))) (fC (.int 0))))
      (sSeq (sSet (fBin gModI (fCallL gInt (fCons (fBin gIx (fVar 0) (fC (.int 0))) fNil)) (fVar 1)) 2)
      (sSeq (sAsg (fBin gDivI (fBin gIx (fVar 0) (fC (.int 0))) (fVar 1)) (gtSub gSet (fVar 0) (fC (.int 0))))
        (sRet (fVar 2)))) sNil)
  (sSeq (sAsg (fBin gModI (fCallL gInt (fCons (fBin gAdd (fBin gMulI (fBin gIx (fVar 0) (fC (.int 1))) (fC (.int 48271))) (fC (.int 11))) fNil)) (fC (.int 2147483647))) (gtSub gSet (fVar 0) (fC (.int 1))))
    (sRet (fBin gModI (fCallL gInt (fCons (fBin gDivI (fBin gIx (fVar 0) (fC (.int 1))) (fC (.int 7))) fNil)) (fVar 1))))
theorem take_run (n : Nat) (s t m : Int) (h : Hs) (e : h[n]? = some (.lst [.int s, .int t])) (hm : 0 < m) (hm2 : m.natAbs < 1073741824) :
    mkF 2 3 bTake [.ref n, .int m] h = if 0 < s then .ret (.int (s.fmod m)) (h.set n (.lst [.int (s.fdiv m), .int t]))
      else .ret (.int (Int.fmod (Int.fdiv (Int.fmod (t * 48271 + 11) 2147483647) 7) m)) (h.set n (.lst [.int s, .int (Int.fmod (t * 48271 + 11) 2147483647)])) := by
  have hl : n < h.length := by obtain ⟨z, _⟩ := List.getElem?_eq_some_iff.mp e; exact z
  have m0 : (m == 0) = false := by simp; omega
  have mb : Nat.blt m.natAbs 1073741824 = true := by simpa [Nat.blt_eq] using hm2
  have s0 : ∀ x : AO, (h.set n x)[n]? = some x := fun x => List.getElem?_set_self hl
  have a0 : ∀ {α : Type} (x y : α), atI [x, y] 0 = some x := fun x y => _root_.rfl
  have a1 : ∀ {α : Type} (x y : α), atI [x, y] 1 = some y := fun x y => _root_.rfl
  have i0 : ixN 2 0 = some 0 := _root_.rfl
  have i1 : ixN 2 1 = some 1 := _root_.rfl
  have w1 : w64 48271 = true := by decide
  have k7 : Nat.blt 7 1073741824 = true := by decide
  by_cases hs : 0 < s
  · rw [if_pos hs]
    simp [mkF, startE, bTake, sSeq, sIf, fTest, fBin, fVar, fC, gIx, gGt, gB2, gI2, R.bind, R.catch, R.nox, seqOf, e, a0, sSet, sAsg, gtSub, gSet, gModI, gDivI, fCallL, fCons, fNil, gInt, sRet, seqK, i0, m0, mb, hs]
  · rw [if_neg hs]
    simp [mkF, startE, bTake, sSeq, sIf, fTest, fBin, fVar, fC, gIx, gGt, gB2, gI2, R.bind, R.catch, R.nox, seqOf, e, a0, a1, sSet, sAsg, gtSub, gSet, gModI, gDivI, gMulI, gAdd, fCallL, fCons, fNil, gInt, sRet, seqK, i0, i1, m0, mb, hs, sNil, s0, w1, k7]
theorem toNat_fmod {x m : Int} (hm : 0 < m) : (x.fmod m).toNat < m.toNat ∧ ((x.fmod m).toNat : Int) = x.fmod m := by
  have h1 := Int.fmod_nonneg_of_pos x hm
  have h2 := Int.fmod_lt_of_pos x hm
  omega
theorem take_ok {P : Program} {w : World} {mg : Str → Option Value} {base : Heap} {T : Tab} {k : Nat} {x : Str} (d : DefOk P w mg base T k x 2 (mkF 2 3 bTake)) : DefOk P w mg base T k x 2 gTake := by
  obtain ⟨f, fd, ps, ok, e, hm, kp, b⟩ := d.ex
  refine ⟨f, fd, ps, ok.imp fun vs H Q E q => ?_, e, hm, kp, b⟩
  obtain ⟨ds, h, ρ, r, rh, q⟩ := q
  unfold gTake at q
  split at q
  · rename_i n m
    split at q
    · rename_i e1
      split at q
      · rename_i z
        rw [Bool.and_eq_true] at z
        have h0 : 0 < m := of_decide_eq_true z.1
        obtain ⟨s, t, rh'⟩ := rh.con e1
        have hl : n < h.length := by obtain ⟨z, _⟩ := List.getElem?_eq_some_iff.mp e1; exact z
        refine ⟨_, _, ρ, r, rh', ?_⟩
        rw [take_run n s t m _ (List.getElem?_set_self hl) h0 (by simpa [Nat.blt_eq] using z.2)]
        split
        · obtain ⟨k1, k2⟩ := toNat_fmod (x := s) h0
          have q1 : PostV T ρ H Q (.int ((Int.toNat _ : Nat) : Int)) h := q _ k1
          rw [k2] at q1
          exact PostV.abs (by rw [List.set_set]; exact .st e1) q1
        · obtain ⟨k1, k2⟩ := toNat_fmod (x := Int.fdiv (Int.fmod (t * 48271 + 11) 2147483647) 7) h0
          have q1 : PostV T ρ H Q (.int ((Int.toNat _ : Nat) : Int)) h := q _ k1
          rw [k2] at q1
          exact PostV.abs (by rw [List.set_set]; exact .st e1) q1
      · exact q.elim
    · exact q.elim
  · exact q.elim
/-- the text of _law_state -/
def bStateN (N : Nat) : SF :=
  sSeq (sSet (fC (.int 0)) 1) (sSeq (sSet (fC (.int 1)) 2)
  (sSeq (sFor N (fIter (fSl (fVar 0) fNoP (fPart (fC (.int 63))))) (gtN 3)
    (sSeq (sSet (fBin gAdd (fBin gMulI (fVar 1) (fC (.int 1000003))) (fCallL gAbs (fCons (fVar 3) fNil))) 1)
      (sSet (fBin gModI (fCallL gInt (fCons (fBin gAdd (fBin gMulI (fVar 2) (fC (.int 48271))) (fVar 3)) fNil)) (fC (.int 2147483647))) 2)))
  (sRet (fLst (fCons (fVar 1) (fCons (fVar 2) fNil))))))
abbrev bState : SF := bStateN 1000000
theorem state_turns (n : Nat) (x : D) (h : Hs) : ∀ (ys pre : List D), h[n]? = some (.lst (pre ++ ys)) → (∀ y ∈ ys, ∃ i, y = .int i) → ∀ (fuel : Nat), ys.length < fuel → ∀ (s t : Int) (v : Option D), ∃ s' t' v',
    forL (nxL (.ref n)) (gtN 3) (sSeq (sSet (fBin gAdd (fBin gMulI (fVar 1) (fC (.int 1000003))) (fCallL gAbs (fCons (fVar 3) fNil))) 1)
      (sSet (fBin gModI (fCallL gInt (fCons (fBin gAdd (fBin gMulI (fVar 2) (fC (.int 48271))) (fVar 3)) fNil)) (fC (.int 2147483647))) 2)) fuel pre.length [some x, some (.int s), some (.int t), v] h = .ret (.nx [some x, some (.int s'), some (.int t'), v']) h
  | [], pre, e, _, fuel + 1, _, s, t, v => ⟨s, t, v, by simp [forL, nxL, seqOf, e]⟩
  | y :: ys, pre, e, hy, fuel + 1, hf, s, t, v => by
    obtain ⟨i, rfl⟩ := hy y List.mem_cons_self
    have ih := state_turns n x h ys (pre ++ [.int i]) (by rw [List.append_assoc]; exact e) (fun z hz => hy z (List.mem_cons_of_mem _ hz)) fuel (by simp at hf; omega)
    have ex : (pre ++ D.int i :: ys)[pre.length]? = some (D.int i) := by rw [List.getElem?_append_right (Nat.le_refl _), Nat.sub_self]; rfl
    have w1 : w64 1000003 = true := by decide
    have w2 : w64 48271 = true := by decide
    obtain ⟨s', t', v', q⟩ := ih (s * 1000003 + (if i < 0 then -i else i)) ((t * 48271 + i).fmod 2147483647) (some (.int i))
    refine ⟨s', t', v', ?_⟩
    rw [← q]
    simp [forL, nxL, seqOf, e, ex, gtN, sSeq, sSet, fBin, fVar, fC, gAdd, gMulI, gModI, gI2, R.bind, R.catch, fCallL, fCons, fNil, gAbs, gInt, seqK, againK, w1, w2, List.append_assoc, List.length_append]
theorem intsD_all : ∀ {xs : List D} {ns : List Int}, intsD xs = some ns → ∀ y ∈ xs, ∃ i, y = D.int i
  | [], _, _, y, h => absurd h (by simp)
  | x :: xs, ns, e, y, h => by
    unfold intsD at e
    split at e
    · rename_i q; cases q
    · rename_i i xs' q
      cases q
      split at e
      · rename_i r e1
        rcases List.mem_cons.mp h with rfl | h
        · exact ⟨i, rfl⟩
        · exact intsD_all e1 y h
      · cases e
    · cases e
theorem seq_nx {f g : SF} {env env' : Env'} {h h' : Hs} (e : f env h = .ret (.nx env') h') : sSeq f g env h = g env' h' := by
  unfold sSeq; rw [e]; rfl
theorem state_run (N : Nat) (hN : 63 < N) (xs : List D) (h : Hs) (hx : ∀ y ∈ xs, ∃ i, y = D.int i) : ∃ l s t, mkF 1 4 (bStateN N) [.kl xs] h = .ret (.ref (h.length + 1)) (h ++ [l, .lst [.int s, .int t]]) := by
  have hc : ∀ y ∈ cutD xs none (some 63), ∃ i, y = D.int i := fun y hy => hx y (List.mem_of_mem_drop (List.mem_of_mem_take hy))
  have e1 : (h ++ [AO.lst (cutD xs none (some 63))])[h.length]? = some (.lst ([] ++ cutD xs none (some 63))) := by
    rw [List.getElem?_append_right (Nat.le_refl _), Nat.sub_self]; rfl
  have hl : (cutD xs none (some 63)).length < N := by
    unfold cutD
    rw [List.length_take]
    have : HT.sIx xs.length xs.length (some 63) ≤ 63 := by
      rw [show HT.sIx xs.length xs.length (some 63) = min 63 xs.length from HT.sIx_nat xs.length xs.length 63]
      exact Nat.min_le_left _ _
    omega
  obtain ⟨s, t, v, q⟩ := state_turns h.length (.kl xs) (h ++ [.lst (cutD xs none (some 63))]) (cutD xs none (some 63)) [] e1 hc N hl 0 1 none
  refine ⟨.lst (cutD xs none (some 63)), s, t, ?_⟩
  have e2 : seqOf (h ++ [AO.lst (cutD xs none (some 63))]) (.ref h.length) = some (cutD xs none (some 63)) := by
    unfold seqOf
    dsimp only
    rw [e1]; rfl
  have e3 : ∀ (env : Env'), env = startE 4 [D.kl xs] → (sFor N (fIter (fSl (fVar 0) fNoP (fPart (fC (.int 63))))) (gtN 3)
    (sSeq (sSet (fBin gAdd (fBin gMulI (fVar 1) (fC (.int 1000003))) (fCallL gAbs (fCons (fVar 3) fNil))) 1)
      (sSet (fBin gModI (fCallL gInt (fCons (fBin gAdd (fBin gMulI (fVar 2) (fC (.int 48271))) (fVar 3)) fNil)) (fC (.int 2147483647))) 2))) ((env.set 1 (some (.int 0))).set 2 (some (.int 1))) h = .ret (.nx [some (.kl xs), some (.int s), some (.int t), v]) (h ++ [.lst (cutD xs none (some 63))]) := by
    rintro env rfl
    rw [← q]
    unfold sFor
    have e4 : fIter (fSl (fVar 0) fNoP (fPart (fC (.int 63)))) (((startE 4 [D.kl xs]).set 1 (some (.int 0))).set 2 (some (.int 1))) h = .ret (nxL (.ref h.length)) (h ++ [.lst (cutD xs none (some 63))]) := by
      show (match seqOf (h ++ [AO.lst (cutD xs none (some 63))]) (.ref h.length) with
        | some _ => R.ret (nxL (.ref h.length)) (h ++ [AO.lst (cutD xs none (some 63))])
        | none => R.fail) = _
      rw [e2]
    rw [e4]
    rfl
  have e5 := e3 _ _root_.rfl
  have r1 : bStateN N (startE 4 [D.kl xs]) h = sRet (fLst (fCons (fVar 1) (fCons (fVar 2) fNil))) [some (.kl xs), some (.int s), some (.int t), v] (h ++ [.lst (cutD xs none (some 63))]) := by
    unfold bStateN
    rw [seq_nx (f := sSet (fC (.int 0)) 1) _root_.rfl, seq_nx (f := sSet (fC (.int 1)) 2) _root_.rfl, seq_nx e5]
  unfold mkF
  rw [r1]
  show R.ret (D.ref (List.length (h ++ [AO.lst (cutD xs none (some 63))]))) ((h ++ [AO.lst (cutD xs none (some 63))]) ++ [AO.lst [D.int s, D.int t]]) = _
  rw [List.length_append, List.append_assoc]
  rfl
theorem state_ok {P : Program} {w : World} {mg : Str → Option Value} {base : Heap} {T : Tab} {k : Nat} {x : Str} (d : DefOk P w mg base T k x 1 (mkF 1 4 bState)) : DefOk P w mg base T k x 1 gState := by
  obtain ⟨f, fd, ps, ok, e, hm, kp, b⟩ := d.ex
  refine ⟨f, fd, ps, ok.imp fun vs H Q E q => ?_, e, hm, kp, b⟩
  obtain ⟨ds, h, ρ, r, rh, q⟩ := q
  refine ⟨ds, h, ρ, r, rh, ?_⟩
  unfold gState at q
  split at q
  · rename_i xs
    split at q
    · rename_i ns e1 e2
      obtain ⟨l, s, t, e3⟩ := state_run 1000000 (by decide) xs h (intsD_all e2)
      rw [e3]
      have q1 : PostV T ρ H Q _ _ := q
      have hx : HAbs (h ++ [l, AO.lst [D.int s, D.int t]]) (h ++ [AO.junk, AO.st]) := HAbs.append .refl ⟨_root_.rfl, fun n a b h1 h2 => by
        match n with
        | 0 => simp at h1 h2; subst h1; subst h2; exact .junk _
        | 1 => simp at h1 h2; subst h1; subst h2; exact .st s t
        | n + 2 => simp at h1⟩
      exact PostV.abs hx q1
    · exact q.elim
  · exact q.elim
end Z

set_option Elab.async false
set_option linter.all false
set_option maxRecDepth 100000
set_option maxHeartbeats 1000000
namespace Z
open PySem PySem.Spec PyProof.Rows L2

/-! ### a slot forgotten behind a statement -/
def sForget (i : Nat) (f : SF) : SF := fun env h => (f env h).bind fun o h1 => match o with
  | .nx env1 => .ret (.nx (env1.set i none)) h1
  | o => .ret o h1
theorem sv_forget (i : Nat) {c : Ctx} {s : Stmt} {f : SF} (hs : SV c s f) : SV c s (sForget i f) := fun X ok W tk po =>
  (hs X ok W tk po).zimp fun De σ H ⟨env, h, ρ, re, rh, w⟩ => ⟨env, h, ρ, re, rh, wp_mono (fun o h1 q => by
    cases o with
    | nx env1 =>
      intro ρ' H' x rh' σ' re'
      refine q ρ' H' x rh' σ' ⟨by rw [List.length_set]; exact re'.1, fun j d e => ?_⟩
      by_cases hj : i = j
      · subst hj
        by_cases hl : i < env1.length
        · rw [List.getElem?_set_self hl] at e; cases e
        · rw [List.getElem?_eq_none (by rw [List.length_set]; omega)] at e; cases e
      · rw [List.getElem?_set_ne hj] at e
        exact re'.2 j d e
    | rt d => exact q
    | bk e => exact q
    | ct e => exact q
    | ex e env => exact q) (fun _ _ e => e) _ (wp_bind w)⟩

/-! ### the end -/
/-- a law's function gives True at every script -/
def Holds (F : FF) : Prop := ∀ ns : List Int, ns.length ≤ 63 → wp (F [.kl (ns.map D.int)] []) (fun d _ => d = .bl true) (fun _ _ => False)
theorem repL_ints {T : Tab} {ρ : List Addr} {H : Hp} : ∀ ns : List Int, RepL T ρ H (ns.map D.int) (ns.map V.int)
  | [] => .nil
  | n :: r => .cons (.int n) (repL_ints r)
theorem law_sp {T : Tab} {F : FF} (h : Holds F) (H : Hp) (a : Addr) (ns : List Int) (hl : ns.length ≤ 63) (ho : Only H) (s : SqL T.K H a (ns.map V.int)) : Pr T F [.ref a] H (fun v _ => v = .bl true) fun _ _ _ => False := by
  have fz : FzL T.K H a (ns.map V.int) := by
    rcases s with (s | ⟨o, s⟩) | s
    · rcases ho a with z | ⟨o, xs, z⟩
      · rw [z] at s; cases s
      · rw [z] at s; cases s
    · exact .inl ⟨o, s⟩
    · exact .inr s
  refine ⟨[.kl (ns.map D.int)], [], [], .cons (.kl fz (repL_ints ns)) .nil, ⟨rfl, List.nodup_nil, fun n o a e => by cases e⟩, wp_mono (fun d h' q => ?_) (fun _ _ q => q.elim) _ (h ns hl)⟩
  subst q
  intro ρ' v H' x rh r
  cases r
  rfl
theorem no_cx {P : Program} {w : World} {H : Hp} {s : Shared} {e : Value} {s' : Shared} (h : L2.CX P w [] H s (fun _ _ _ => False) e s') : False := by
  obtain ⟨_, _, _, _, _, _, _, _, _, _, _, _, z⟩ := h
  exact z

/-! ### the answer by computation: every draw is tried -/
def allN (f : Nat → Bool) : Nat → Bool
  | 0 => true
  | n + 1 => match f n with
    | true => allN f n
    | false => false
theorem allN_ok {f : Nat → Bool} : ∀ {n : Nat}, allN f n = true → ∀ i, i < n → f i = true
  | n + 1, h, i, hi => by
    unfold allN at h
    split at h
    · rename_i e
      by_cases z : i = n
      · rw [z]; exact e
      · exact allN_ok h i (by omega)
    · cases h
def check : R D → Bool
  | .ret (.bl true) _ => true
  | .pick n k => allN (fun i => check (k i)) n
  | _ => false
theorem check_ok : ∀ {r : R D}, check r = true → wp r (fun d _ => d = .bl true) (fun _ _ => False)
  | .ret d h, e => by
    unfold check at e
    split at e
    · rename_i q; cases q; rfl
    · rename_i q; cases q
    · cases e
  | .pick n k, e => fun i hi => check_ok (allN_ok (by simpa [check] using e) i hi)
  | .exc _ _, e => by simp [check] at e
  | .fail, e => by simp [check] at e
theorem intsD_map : ∀ ns : List Int, intsD (ns.map D.int) = some ns
  | [] => rfl
  | n :: r => by rw [List.map_cons, intsD, intsD_map r]
theorem gState_ok {ns : List Int} (h : ns.length ≤ 63) (hs : Hs) : gState [.kl (ns.map D.int)] hs = .ret (.ref (hs.length + 1)) (hs ++ [.junk, .st]) := by
  unfold gState
  have e1 : Nat.ble (ns.map D.int).length 63 = true := by rw [List.length_map]; exact Nat.ble_eq.mpr h
  simp only [e1, intsD_map]
/-- a draw, one value at a time -/
def pickSize : R D → Nat
  | .pick n _ => n
  | _ => 0
def checkAt (r : R D) (i : Nat) : Bool := match r with
  | .pick _ k => check (k i)
  | _ => false
theorem allN_of {f : Nat → Bool} : ∀ {n : Nat}, (∀ i, i < n → f i = true) → allN f n = true
  | 0, _ => rfl
  | n + 1, h => by
    unfold allN
    rw [h n (Nat.lt_succ_self n)]
    exact allN_of fun i hi => h i (Nat.lt_succ_of_lt hi)
theorem check_of {r : R D} {n : Nat} (h0 : pickSize r = n) (h1 : 0 < n) (h : ∀ i, i < n → checkAt r i = true) : check r = true := by
  cases r with
  | pick m k =>
    have e : m = n := h0
    subst e
    show allN (fun i => check (k i)) m = true
    exact allN_of h
  | _ => exact absurd (show 0 = n from h0) (by omega)
/-- the rest of a law behind its state -/
def lawR (n i : Nat) (rest : SF) : R D := ((rest (((List.replicate n none).set i (some (.ref 1))).set 0 none) [.junk, .st]).nox).bind fun o h1 => match o with
    | .nx _ => .ret .non h1
    | .rt d => .ret d h1
    | .ex e _ => .exc e h1
    | _ => .fail
/-- the law's function begins with the state; the script is forgotten -/
theorem holds_state {n i : Nat} {rest : SF} {F : FF} (hF : F = mkF 1 n (sSeq (sForget 0 (sSet (fCall gState (fCons (fVar 0) fNil)) i)) rest)) (hn : 0 < n)
    (h : check (lawR n i rest) = true) : Holds F := by
  intro ns hl
  subst hF
  unfold mkF
  have e0 : (startE n [D.kl (ns.map D.int)]).set 0 none = List.replicate n none := by
    obtain ⟨m, rfl⟩ : ∃ m, n = m + 1 := ⟨n - 1, by omega⟩
    rfl
  have e1 : sForget 0 (sSet (fCall gState (fCons (fVar 0) fNil)) i) (startE n [D.kl (ns.map D.int)]) [] = .ret (.nx (((List.replicate n none).set i (some (.ref 1))).set 0 none)) [.junk, .st] := by
    have e2 : sSet (fCall gState (fCons (fVar 0) fNil)) i (startE n [D.kl (ns.map D.int)]) [] = .ret (.nx ((startE n [D.kl (ns.map D.int)]).set i (some (.ref 1)))) [.junk, .st] := by
      show ((gState [D.kl (ns.map D.int)] []).catch _ _) = _
      rw [gState_ok hl]; rfl
    unfold sForget
    rw [e2]
    show R.ret (Out.nx (((startE n [D.kl (ns.map D.int)]).set i (some (.ref 1))).set 0 none)) _ = _
    by_cases hi : i = 0
    · subst hi; rw [List.set_set, List.set_set, e0]
      obtain ⟨m, rfl⟩ : ∃ m, n = m + 1 := ⟨n - 1, by omega⟩
      rfl
    · rw [List.set_comm _ _ hi, e0, List.set_comm _ _ hi]
      obtain ⟨m, rfl⟩ : ∃ m, n = m + 1 := ⟨n - 1, by omega⟩
      rfl
  rw [seq_nx e1]
  exact check_ok h
end Z

set_option Elab.async false
set_option linter.all false
set_option maxRecDepth 100000
set_option maxHeartbeats 1000000
/-! ZE: twins of the combinators that the kernel reckons quickly: what is handed on is written out. -/
namespace Z
open PySem PySem.Spec PyProof.Rows L2

noncomputable section
section
variable {α β γ : Type}
def nthR (xs : List α) : Nat → Option α := List.rec (motive := fun _ => Nat → Option α) (fun _ => none) (fun x _ ih n => Nat.casesOn n (some x) ih) xs
theorem nthR_eq : ∀ (xs : List α) (i : Nat), xs[i]? = nthR xs i
  | [], _ => rfl
  | x :: xs, 0 => rfl
  | x :: xs, i + 1 => by rw [List.getElem?_cons_succ]; exact nthR_eq xs i
def setR (xs : List α) : Nat → α → (List α → β) → β := List.rec (motive := fun _ => Nat → α → (List α → β) → β) (fun _ _ k => k []) (fun x xs ih n y k => Nat.casesOn n (k (y :: xs)) fun m => ih m y fun r => k (x :: r)) xs
theorem setR_eq : ∀ (xs : List α) (i : Nat) (y : α) (k : List α → β), setR xs i y k = k (xs.set i y)
  | [], _, _, _ => rfl
  | x :: xs, 0, _, _ => rfl
  | x :: xs, i + 1, y, k => setR_eq xs i y fun r => k (x :: r)
def snocR (xs : List α) : α → (List α → β) → β := List.rec (motive := fun _ => α → (List α → β) → β) (fun y k => k [y]) (fun x _ ih y k => ih y fun r => k (x :: r)) xs
theorem snocR_eq : ∀ (xs : List α) (y : α) (k : List α → β), snocR xs y k = k (xs ++ [y])
  | [], _, _ => rfl
  | x :: xs, y, k => snocR_eq xs y fun r => k (x :: r)
/-- a list written out (its items are) -/
def spine (xs : List α) : (List α → β) → β := List.rec (motive := fun _ => (List α → β) → β) (fun k => k []) (fun x _ ih k => ih fun r => k (x :: r)) xs
theorem spine_eq : ∀ (xs : List α) (k : List α → β), spine xs k = k xs
  | [], _ => rfl
  | x :: xs, k => spine_eq xs fun r => k (x :: r)
def appR (xs ys : List α) : (List α → β) → β := List.rec (motive := fun _ => (List α → β) → β) (fun k => spine ys k) (fun x _ ih k => ih fun r => k (x :: r)) xs
theorem appR_eq : ∀ (xs ys : List α) (k : List α → β), appR xs ys k = k (xs ++ ys)
  | [], ys, k => spine_eq ys k
  | x :: xs, ys, k => appR_eq xs ys fun r => k (x :: r)
def natR (n : Nat) (k : Nat → β) : β := Nat.casesOn n (k 0) fun m => k (Nat.succ m)
theorem natR_eq (n : Nat) (k : Nat → β) : natR n k = k n := by cases n <;> rfl
def lenR (xs : List α) : (Nat → β) → β := List.rec (motive := fun _ => (Nat → β) → β) (fun k => k 0) (fun _ _ ih k => ih fun n => k (Nat.succ n)) xs
theorem lenR_eq : ∀ (xs : List α) (k : Nat → β), lenR xs k = k xs.length
  | [], _ => rfl
  | _ :: xs, k => lenR_eq xs fun n => k (Nat.succ n)
def intR (i : Int) (k : Int → β) : β := Int.casesOn i (fun n => natR n fun n => k (Int.ofNat n)) fun n => natR n fun n => k (Int.negSucc n)
theorem intR_eq (i : Int) (k : Int → β) : intR i k = k i := by
  cases i with
  | ofNat n => exact natR_eq n fun n => k (Int.ofNat n)
  | negSucc n => exact natR_eq n fun n => k (Int.negSucc n)
end
def bindR {α β : Type} (r : R α) (f : α → Hs → R β) : R β := R.rec (motive := fun _ => R β) (fun a h => f a h) (fun e h => .exc e h) .fail (fun n _ ih => .pick n ih) r
theorem bindR_eq {α β : Type} (f : α → Hs → R β) : ∀ r : R α, r.bind f = bindR r f
  | .ret _ _ => rfl
  | .exc _ _ => rfl
  | .fail => rfl
  | .pick n k => by
    show R.pick n (fun i => (k i).bind f) = R.pick n (fun i => bindR (k i) f)
    congr 1; funext i; exact bindR_eq f (k i)
def catchR {α : Type} (r : R α) (env : Env') (f : α → Hs → R Out) : R Out := R.rec (motive := fun _ => R Out) (fun a h => f a h) (fun e h => .ret (.ex e env) h) .fail (fun n _ ih => .pick n ih) r
theorem catchR_eq {α : Type} (env : Env') (f : α → Hs → R Out) : ∀ r : R α, r.catch env f = catchR r env f
  | .ret _ _ => rfl
  | .exc _ _ => rfl
  | .fail => rfl
  | .pick n k => by
    show R.pick n (fun i => (k i).catch env f) = R.pick n (fun i => catchR (k i) env f)
    congr 1; funext i; exact catchR_eq env f (k i)
def noxR {α : Type} (r : R α) : R α := R.rec (motive := fun _ => R α) (fun a h => .ret a h) (fun _ _ => .fail) .fail (fun n _ ih => .pick n ih) r
theorem noxR_eq {α : Type} : ∀ r : R α, r.nox = noxR r
  | .ret _ _ => rfl
  | .exc _ _ => rfl
  | .fail => rfl
  | .pick n k => by
    show R.pick n (fun i => (k i).nox) = R.pick n (fun i => noxR (k i))
    congr 1; funext i; exact noxR_eq (k i)

/-! ### ints -/
def ltR (i j : Int) : Bool := Int.casesOn i (fun a => Int.casesOn j (fun b => Nat.ble (Nat.succ a) b) fun _ => false) fun a => Int.casesOn j (fun _ => true) fun b => Nat.ble (Nat.succ b) a
def leR (i j : Int) : Bool := Int.casesOn i (fun a => Int.casesOn j (fun b => Nat.ble a b) fun _ => false) fun a => Int.casesOn j (fun _ => true) fun b => Nat.ble b a
def eqR (i j : Int) : Bool := Int.casesOn i (fun a => Int.casesOn j (fun b => Nat.beq a b) fun _ => false) fun a => Int.casesOn j (fun _ => false) fun b => Nat.beq a b
theorem ble_dec (a b : Nat) : Nat.ble a b = decide (a ≤ b) := by
  rw [Bool.eq_iff_iff]; simp
theorem ltR_eq (i j : Int) : decide (i < j) = ltR i j := by
  cases i with
  | ofNat a => cases j with
    | ofNat b => show _ = Nat.ble (a + 1) b; rw [ble_dec]; exact decide_eq_decide.mpr ⟨fun h => by simp at h; omega, fun h => by simp; omega⟩
    | negSucc b => show _ = false; exact decide_eq_false (by intro h; have := Int.negSucc_lt_zero b; simp at h; omega)
  | negSucc a => cases j with
    | ofNat b => show _ = true; exact decide_eq_true (by have := Int.negSucc_lt_zero a; simp; omega)
    | negSucc b => show _ = Nat.ble (b + 1) a; rw [ble_dec]; exact decide_eq_decide.mpr (by omega)
theorem leR_eq (i j : Int) : decide (i ≤ j) = leR i j := by
  cases i with
  | ofNat a => cases j with
    | ofNat b => show _ = Nat.ble a b; rw [ble_dec]; exact decide_eq_decide.mpr ⟨fun h => by simp at h; omega, fun h => by simp; omega⟩
    | negSucc b => show _ = false; exact decide_eq_false (by intro h; have := Int.negSucc_lt_zero b; simp at h; omega)
  | negSucc a => cases j with
    | ofNat b => show _ = true; exact decide_eq_true (by have := Int.negSucc_lt_zero a; simp; omega)
    | negSucc b => show _ = Nat.ble b a; rw [ble_dec]; exact decide_eq_decide.mpr (by omega)
theorem natBeq (a b : Nat) : (a == b) = Nat.beq a b := by rw [Bool.eq_iff_iff, Nat.beq_eq]; simp
theorem eqR_eq (i j : Int) : (i == j) = eqR i j := by
  cases i with
  | ofNat a => cases j with
    | ofNat b => show _ = Nat.beq a b; rw [Bool.eq_iff_iff, Nat.beq_eq]; simp; omega
    | negSucc b => show _ = false; simp
  | negSucc a => cases j with
    | ofNat b => show _ = false; simp
    | negSucc b => show _ = Nat.beq a b; rw [Bool.eq_iff_iff, Nat.beq_eq]; simp
/-- the rest, the quotient: quick where both are not negative -/
def modR (i j : Int) : Int := Int.casesOn i (fun a => Int.casesOn j (fun b => Int.ofNat (Nat.mod a b)) fun b => Int.fmod (.ofNat a) (.negSucc b)) fun a => Int.fmod (.negSucc a) j
theorem modR_eq (i j : Int) : i.fmod j = modR i j := by
  cases i with
  | ofNat a => cases j with
    | ofNat b => show Int.fmod (Int.ofNat a) (Int.ofNat b) = Int.ofNat (a % b); rw [Int.fmod_eq_emod_of_nonneg _ (by simp)]; rfl
    | negSucc b => rfl
  | negSucc a => rfl
def divR (i j : Int) : Int := Int.casesOn i (fun a => Int.casesOn j (fun b => Int.ofNat (Nat.div a b)) fun b => Int.fdiv (.ofNat a) (.negSucc b)) fun a => Int.fdiv (.negSucc a) j
theorem divR_eq (i j : Int) : i.fdiv j = divR i j := by
  cases i with
  | ofNat a => cases j with
    | ofNat b => show Int.fdiv (Int.ofNat a) (Int.ofNat b) = Int.ofNat (a / b); rw [Int.fdiv_eq_ediv_of_nonneg _ (by simp)]; rfl
    | negSucc b => rfl
  | negSucc a => rfl
/-- an int out -/
def retI (i : Int) (h : Hs) : R D := intR i fun i => R.ret (D.int i) h
theorem retI_eq (i : Int) (h : Hs) : R.ret (.int i) h = retI i h := (intR_eq i fun i => R.ret (D.int i) h).symm

/-! ### the twins -/
def fVar' (i : Nat) : EF := fun env h => match nthR env i with
  | some (some d) => .ret d h
  | _ => .fail
theorem fVar_eq (i : Nat) : fVar i = fVar' i := by funext env h; unfold fVar fVar'; rw [nthR_eq] <;> rfl
def fBin' (g : G2) (fa fb : EF) : EF := fun env h => bindR (fa env h) fun x h1 => bindR (fb env h1) fun y h2 => g x y h2
theorem fBin_eq (g : G2) (fa fb : EF) : fBin g fa fb = fBin' g fa fb := by funext env h; unfold fBin fBin'; simp only [bindR_eq]
def fUn' (g : G1) (fa : EF) : EF := fun env h => bindR (fa env h) fun x h1 => g x h1
theorem fUn_eq (g : G1) (fa : EF) : fUn g fa = fUn' g fa := by funext env h; unfold fUn fUn'; simp only [bindR_eq]
def fTest' (fa : EF) : BF := fun env h => bindR (fa env h) fun x h1 => match x with
  | .bl b => .ret b h1
  | _ => .fail
theorem fTest_eq (fa : EF) : fTest fa = fTest' fa := by funext env h; unfold fTest fTest'; simp only [bindR_eq] <;> rfl
def fAnd' (f g : BF) : BF := fun env h => bindR (f env h) fun b h1 => match b with
  | true => g env h1
  | false => .ret false h1
theorem fAnd_eq (f g : BF) : fAnd f g = fAnd' f g := by funext env h; unfold fAnd fAnd'; simp only [bindR_eq] <;> rfl
def fOr' (f g : BF) : BF := fun env h => bindR (f env h) fun b h1 => match b with
  | true => .ret true h1
  | false => g env h1
theorem fOr_eq (f g : BF) : fOr f g = fOr' f g := by funext env h; unfold fOr fOr'; simp only [bindR_eq] <;> rfl
def fNot' (f : BF) : BF := fun env h => bindR (f env h) fun b h1 => match b with
  | true => .ret false h1
  | false => .ret true h1
theorem fNot_eq (f : BF) : fNot f = fNot' f := by
  funext env h; unfold fNot fNot'; simp only [bindR_eq]; congr 1; funext b h1; cases b <;> rfl
def fAndV' (f g : EF) : EF := fun env h => bindR (f env h) fun b h1 => match b with
  | .bl true => g env h1
  | .bl false => .ret (.bl false) h1
  | _ => .fail
theorem fAndV_eq (f g : EF) : fAndV f g = fAndV' f g := by funext env h; unfold fAndV fAndV'; simp only [bindR_eq] <;> rfl
def fOrV' (f g : EF) : EF := fun env h => bindR (f env h) fun b h1 => match b with
  | .bl true => .ret (.bl true) h1
  | .bl false => g env h1
  | _ => .fail
theorem fOrV_eq (f g : EF) : fOrV f g = fOrV' f g := by funext env h; unfold fOrV fOrV'; simp only [bindR_eq] <;> rfl
def fNotV' (f : EF) : EF := fun env h => bindR (f env h) fun b h1 => match b with
  | .bl true => .ret (.bl false) h1
  | .bl false => .ret (.bl true) h1
  | _ => .fail
theorem fNotV_eq (f : EF) : fNotV f = fNotV' f := by
  funext env h; unfold fNotV fNotV'; simp only [bindR_eq]; congr 1; funext b h1
  cases b with
  | bl b => cases b <;> rfl
  | _ => rfl
def fIf' (t : BF) (f g : EF) : EF := fun env h => bindR (t env h) fun b h1 => match b with
  | true => f env h1
  | false => g env h1
theorem fIf_eq (t : BF) (f g : EF) : fIf t f g = fIf' t f g := by funext env h; unfold fIf fIf'; simp only [bindR_eq] <;> rfl
def fCons' (f : EF) (g : AF) : AF := fun env h => bindR (f env h) fun x h1 => bindR (g env h1) fun xs h2 => .ret (x :: xs) h2
theorem fCons_eq (f : EF) (g : AF) : fCons f g = fCons' f g := by funext env h; unfold fCons fCons'; simp only [bindR_eq]
def newL' (xs : List D) (h : Hs) : R D := lenR h fun n => snocR h (.lst xs) fun h1 => .ret (.ref n) h1
theorem newL_eq (xs : List D) (h : Hs) : newL xs h = newL' xs h := by unfold newL newL'; rw [lenR_eq, snocR_eq]
def fTup' (g : AF) : EF := fun env h => bindR (g env h) fun xs h1 => short xs (.ret (.tup xs) h1)
theorem fTup_eq (g : AF) : fTup g = fTup' g := by funext env h; unfold fTup fTup'; simp only [bindR_eq]
def fLst' (g : AF) : EF := fun env h => bindR (g env h) fun xs h1 => short xs (newL' xs h1)
theorem fLst_eq (g : AF) : fLst g = fLst' g := by funext env h; unfold fLst fLst'; simp only [bindR_eq, newL_eq]
def fCallL' (g : GL) (f : AF) : EF := fun env h => bindR (f env h) fun xs h1 => g xs h1
theorem fCallL_eq (g : GL) (f : AF) : fCallL g f = fCallL' g f := by funext env h; unfold fCallL fCallL'; simp only [bindR_eq]
def fCall' (g : FF) (f : AF) : EF := fun env h => bindR (f env h) fun xs h1 => g xs h1
theorem fCall_eq (g : FF) (f : AF) : fCall g f = fCall' g f := by funext env h; unfold fCall fCall'; simp only [bindR_eq]
def seqO (h : Hs) (d : D) : Option (List D) := match d with
  | .ref n => match nthR h n with
    | some (.lst xs) => some xs
    | _ => none
  | .kl xs => some xs
  | _ => none
theorem seqOf_eq (h : Hs) (d : D) : seqOf h d = seqO h d := by unfold seqOf seqO; simp only [nthR_eq] <;> rfl
/-- what two ints give -/
def gSubI' : G2 := fun x y h => match x, y with
  | .int i, .int j => retI (Int.sub i j) h
  | _, _ => .fail
theorem gSubI_eq : gSubI = gSubI' := by
  funext x y h
  cases x with
  | int i => cases y with
    | int j =>
      exact retI_eq _ _
    | _ => rfl
  | _ => rfl
def gMulI' : G2 := fun x y h => match x, y with
  | .int i, .int j => match or (w64 i) (w64 j) with
    | true => retI (Int.mul i j) h
    | false => .fail
  | _, _ => .fail
theorem gMulI_eq : gMulI = gMulI' := by
  funext x y h
  cases x with
  | int i => cases y with
    | int j =>
      show (match (w64 i || w64 j) with | true => R.ret _ h | false => R.fail) = (match (w64 i || w64 j) with | true => retI _ h | false => R.fail)
      split
      · exact retI_eq _ _
      · rfl
    | _ => rfl
  | _ => rfl
def gDivI' : G2 := fun x y h => match x, y with
  | .int i, .int j => match and (not (eqR j 0)) (Nat.ble (Nat.succ (Int.natAbs j)) 1073741824) with
    | true => retI (divR i j) h
    | false => .fail
  | _, _ => .fail
theorem gDivI_eq : gDivI = gDivI' := by
  funext x y h
  cases x with
  | int i => cases y with
    | int j =>
      show (match (!(j == (0 : Int)) && Nat.blt j.natAbs 1073741824) with | true => R.ret (.int (i.fdiv j)) h | false => R.fail) = (match (!(eqR j 0) && Nat.blt j.natAbs 1073741824) with | true => retI (divR i j) h | false => R.fail)
      rw [← eqR_eq]
      split
      · rw [← divR_eq]; exact retI_eq _ _
      · rfl
    | _ => rfl
  | _ => rfl
def gModI' : G2 := fun x y h => match x, y with
  | .int i, .int j => match eqR j 0 with
    | false => retI (modR i j) h
    | true => .fail
  | _, _ => .fail
theorem gModI_eq : gModI = gModI' := by
  funext x y h
  cases x with
  | int i => cases y with
    | int j =>
      show (match !(j == (0 : Int)) with | true => R.ret (.int (i.fmod j)) h | false => R.fail) = (match eqR j 0 with | false => retI (modR i j) h | true => R.fail)
      rw [← eqR_eq]
      cases (j == (0 : Int)) with
      | true => rfl
      | false => rw [← modR_eq]; exact retI_eq _ _
    | _ => rfl
  | _ => rfl
def gCmp' (f : Int → Int → Bool) : G2 := fun x y h => match x, y with
  | .int i, .int j => match f i j with
    | true => .ret (.bl true) h
    | false => .ret (.bl false) h
  | _, _ => .fail
theorem gCmp_eq {f g : Int → Int → Bool} (e : ∀ i j, f i j = g i j) : gB2 f = gCmp' g := by
  funext x y h
  cases x with
  | int i => cases y with
    | int j =>
      show R.ret (D.bl (f i j)) h = (match g i j with | true => R.ret (D.bl true) h | false => R.ret (D.bl false) h)
      rw [e]
      cases g i j <;> rfl
    | _ => rfl
  | _ => rfl
def gLt' : G2 := gCmp' ltR
def gLe' : G2 := gCmp' leR
def gGt' : G2 := gCmp' fun i j => ltR j i
def gGe' : G2 := gCmp' fun i j => leR j i
theorem gLt_eq : gLt = gLt' := gCmp_eq ltR_eq
theorem gLe_eq : gLe = gLe' := gCmp_eq leR_eq
theorem gGt_eq : gGt = gGt' := gCmp_eq fun i j => ltR_eq j i
theorem gGe_eq : gGe = gGe' := gCmp_eq fun i j => leR_eq j i
def gNeg' : G1 := fun x h => match x with
  | .int i => retI (Int.neg i) h
  | _ => .fail
theorem gNeg_eq : gNeg = gNeg' := by
  funext x h
  cases x with
  | int i => exact retI_eq _ _
  | _ => rfl
def gAdd' : G2 := fun x y h => match x, y with
  | .int i, .int j => retI (Int.add i j) h
  | .str a, .str b => match Nat.ble (a.length + b.length) line with
    | true => .ret (.str (a ++ b)) h
    | false => .fail
  | .ref n, .ref m => match nthR h n, nthR h m with
    | some (.lst xs), some (.lst ys) => match Nat.ble (xs.length + ys.length) line with
      | true => appR xs ys fun zs => newL' zs h
      | false => .fail
    | _, _ => .fail
  | .tup xs, .tup ys => match xs with
    | [] => .fail
    | _ :: _ => match Nat.ble (xs.length + ys.length) line with
      | true => appR xs ys fun zs => .ret (.tup zs) h
      | false => .fail
  | _, _ => .fail
theorem gAdd_eq : gAdd = gAdd' := by
  funext x y h
  cases x <;> cases y <;> first
    | rfl
    | exact retI_eq _ _
    | (simp only [gAdd, gAdd', nthR_eq, appR_eq, newL_eq] <;> rfl)
    | (simp only [gAdd, gAdd', appR_eq] <;> rfl)
def gAddI'' : G2 := fun x y h => match x, y with
  | .int i, .int j => retI (Int.add i j) h
  | _, _ => .fail
theorem gAddIp_eq : gAddI' = gAddI'' := by
  funext x y h
  cases x with
  | int i => cases y with
    | int j =>
      exact retI_eq _ _
    | _ => rfl
  | _ => rfl
/-- an index: from the front, or from behind -/
def atR {α : Type} (xs : List α) (i : Int) : Option α := Int.casesOn i (fun n => nthR xs n) fun n => nthR xs.reverse n
theorem atR_eq {α : Type} (xs : List α) (i : Int) : atI xs i = atR xs i := by
  unfold atI ixN
  cases i with
  | ofNat n =>
    show (if (0 : Int) ≤ (n : Int) then if (n : Int) < xs.length then some (n : Int).toNat else none else _).bind _ = nthR xs n
    rw [if_pos (by omega), ← nthR_eq]
    by_cases h : n < xs.length
    · rw [if_pos (by omega)]; rfl
    · rw [if_neg (by omega), List.getElem?_eq_none (by omega)]; rfl
  | negSucc n =>
    show (if (0 : Int) ≤ Int.negSucc n then _ else if -(xs.length : Int) ≤ Int.negSucc n then some (Int.negSucc n + xs.length).toNat else none).bind _ = nthR xs.reverse n
    rw [if_neg (by have := Int.negSucc_lt_zero n; omega), ← nthR_eq]
    by_cases h : n < xs.length
    · rw [if_pos (by omega)]
      show xs[(Int.negSucc n + xs.length).toNat]? = _
      rw [List.getElem?_reverse h]
      congr 1
      omega
    · rw [if_neg (by omega), List.getElem?_eq_none (by rw [List.length_reverse]; omega)]; rfl
def gIx' : G2 := fun x y h => match y with
  | .int i => match x with
    | .tup xs => match atR xs i with
      | some d => .ret d h
      | none => .fail
    | .str z => match Nat.ble z.length line with
      | true => match atI z.cps.toList i with
        | some c => .ret (.str ⟨#[c]⟩) h
        | none => .fail
      | false => .fail
    | _ => match seqO h x with
      | some xs => match atR xs i with
        | some d => .ret d h
        | none => .fail
      | none => .fail
  | _ => .fail
theorem gIx_eq : gIx = gIx' := by
  funext x y h; unfold gIx gIx'
  simp only [atR_eq, seqOf_eq] <;> rfl
def eqFlat' : D → D → Option Bool
  | .int i, .int j => match eqR i j with
    | true => some true
    | false => some false
  | x, y => eqFlat x y
theorem eqFlat_eq (x y : D) : eqFlat x y = eqFlat' x y := by
  unfold eqFlat'
  split
  · show some (_ == _) = _
    rw [eqR_eq]
    split <;> (rename_i e; rw [e])
  · rfl
def eqD' (h : Hs) (x y : D) : Option Bool := match eqFlat' x y with
  | some b => some b
  | none => eqD h x y
theorem eqD_eq (h : Hs) (x y : D) : eqD h x y = eqD' h x y := by
  unfold eqD'
  rw [← eqFlat_eq]
  split
  · rename_i b e; unfold eqD; rw [e]
  · rfl
def gEq' : G2 := fun x y h => match eqD' h x y with
  | some true => .ret (.bl true) h
  | some false => .ret (.bl false) h
  | none => .fail
theorem gEq_eq : gEq = gEq' := by
  funext x y h; unfold gEq gEq'; rw [eqD_eq]
  cases eqD' h x y with
  | none => rfl
  | some b => cases b <;> rfl
def gNe' : G2 := fun x y h => match eqD' h x y with
  | some true => .ret (.bl false) h
  | some false => .ret (.bl true) h
  | none => .fail
theorem gNe_eq : gNe = gNe' := by
  funext x y h; unfold gNe gNe'; rw [eqD_eq]
  cases eqD' h x y with
  | none => rfl
  | some b => cases b <;> rfl
/-! statements -/
def seqK' (g : SF) : Out → Hs → R Out := fun o h1 => Out.rec (motive := fun _ => R Out) (fun env1 => g env1 h1) (fun d => .ret (.rt d) h1) (fun e => .ret (.bk e) h1) (fun e => .ret (.ct e) h1) (fun e env => .ret (.ex e env) h1) o
theorem seqK_eq (g : SF) (o : Out) (h : Hs) : seqK g o h = seqK' g o h := by cases o <;> rfl
def sSeq' (f g : SF) : SF := fun env h => bindR (f env h) (seqK' g)
theorem sSeq_eq (f g : SF) : sSeq f g = sSeq' f g := by
  funext env h; unfold sSeq sSeq'; rw [bindR_eq]; congr 1; funext o h1; exact seqK_eq g o h1
def sExpr' (f : EF) : SF := fun env h => catchR (f env h) env fun _ h1 => .ret (.nx env) h1
theorem sExpr_eq (f : EF) : sExpr f = sExpr' f := by funext env h; unfold sExpr sExpr'; rw [catchR_eq]
def sRet' (f : EF) : SF := fun env h => catchR (f env h) env fun d h1 => .ret (.rt d) h1
theorem sRet_eq (f : EF) : sRet f = sRet' f := by funext env h; unfold sRet sRet'; rw [catchR_eq]
def sIf' (t : BF) (f g : SF) : SF := fun env h => catchR (t env h) env fun b h1 => match b with
  | true => f env h1
  | false => g env h1
theorem sIf_eq (t : BF) (f g : SF) : sIf t f g = sIf' t f g := by funext env h; unfold sIf sIf'; rw [catchR_eq] <;> rfl
def sSet' (f : EF) (i : Nat) : SF := fun env h => catchR (f env h) env fun d h1 => setR env i (some d) fun env1 => .ret (.nx env1) h1
theorem sSet_eq (f : EF) (i : Nat) : sSet f i = sSet' f i := by funext env h; unfold sSet sSet'; rw [catchR_eq]; simp only [setR_eq]
def gtN' (i : Nat) : GF := fun d env h => setR env i (some d) fun env1 => .ret env1 h
theorem gtN_eq (i : Nat) : gtN i = gtN' i := by funext d env h; unfold gtN gtN'; rw [setR_eq]
def sAsg' (f : EF) (g : GF) : SF := fun env h => catchR (f env h) env fun d h1 => catchR (g d env h1) env fun env1 h2 => .ret (.nx env1) h2
theorem sAsg_eq (f : EF) (g : GF) : sAsg f g = sAsg' f g := by funext env h; unfold sAsg sAsg'; simp only [catchR_eq]
def gtCons' (f : GF) (g : GsF) : GsF := fun ds env h => match ds with
  | d :: r => bindR (noxR (f d env h)) fun env1 h1 => g r env1 h1
  | _ => .fail
theorem gtCons_eq (f : GF) (g : GsF) : gtCons f g = gtCons' f g := by funext ds env h; unfold gtCons gtCons'; simp only [bindR_eq, noxR_eq] <;> rfl
def gtTup' (n : Nat) (g : GsF) : GF := fun d env h => match d with
  | .tup ds => match Nat.beq ds.length n with
    | true => noxR (g ds env h)
    | false => .fail
  | _ => .fail
theorem gtTup_eq (n : Nat) (g : GsF) : gtTup n g = gtTup' n g := by funext d env h; unfold gtTup gtTup'; simp only [noxR_eq, natBeq] <;> rfl
def gtLst' (n : Nat) (g : GsF) : GF := fun d env h => match seqO h d with
  | some ds => match Nat.beq ds.length n with
    | true => noxR (g ds env h)
    | false => .fail
  | none => .fail
theorem gtLst_eq (n : Nat) (g : GsF) : gtLst n g = gtLst' n g := by funext d env h; unfold gtLst gtLst'; simp only [noxR_eq, seqOf_eq, natBeq] <;> rfl
def ixR (n : Nat) (i : Int) : Option Nat := Int.casesOn i (fun k => match Nat.ble (Nat.succ k) n with | true => some k | false => none) fun _ => ixN n i
theorem ixR_eq (n : Nat) (i : Int) : ixN n i = ixR n i := by
  cases i with
  | ofNat k =>
    show _ = match Nat.ble (k + 1) n with | true => some k | false => none
    unfold ixN
    rw [if_pos (by simp), ble_dec]
    by_cases h : k < n
    · rw [if_pos (by simp; omega), decide_eq_true (by omega)]; rfl
    · rw [if_neg (by simp; omega), decide_eq_false (by omega)]
  | negSucc k => rfl
/-- an item put at a place, if it is there -/
def putR {α β : Type} (xs : List α) : Nat → α → (List α → R β) → R β := List.rec (motive := fun _ => Nat → α → (List α → R β) → R β) (fun _ _ _ => .fail) (fun x xs ih n y k => Nat.rec (k (y :: xs)) (fun m _ => ih m y fun r => k (x :: r)) n) xs
theorem putR_eq {α β : Type} : ∀ (xs : List α) (i : Nat) (y : α) (k : List α → R β), putR xs i y k = if i < xs.length then k (xs.set i y) else .fail
  | [], i, _, _ => by rw [if_neg (by simp)]; rfl
  | x :: xs, 0, _, _ => by rw [if_pos (by simp)]; rfl
  | x :: xs, i + 1, y, k => by
    show putR xs i y (fun r => k (x :: r)) = _
    rw [putR_eq xs i y]
    by_cases h : i < xs.length
    · rw [if_pos h, if_pos (by simp; omega)]; rfl
    · rw [if_neg h, if_neg (by simp; omega)]
def gSet' : D → D → D → Hs → R Unit := fun o i v h => match o, i with
  | .ref n, .int k => match nthR h n with
    | some (.lst xs) => match k with
      | .ofNat j => putR xs j v fun ys => setR h n (.lst ys) fun h1 => .ret () h1
      | .negSucc _ => match ixN xs.length k with
        | some j => setR xs j v fun ys => setR h n (.lst ys) fun h1 => .ret () h1
        | none => .fail
    | _ => .fail
  | _, _ => .fail
theorem gSet_eq : gSet = gSet' := by
  funext o i v h; unfold gSet gSet'
  simp only [nthR_eq]
  cases o <;> try rfl
  cases i <;> try rfl
  rename_i n k
  dsimp only
  cases nthR h n with
  | none => rfl
  | some a =>
    cases a <;> try rfl
    rename_i xs
    dsimp only
    cases k with
    | negSucc k => simp only [setR_eq] <;> rfl
    | ofNat j =>
      dsimp only
      rw [putR_eq]
      unfold ixN
      rw [if_pos (by simp)]
      by_cases hj : j < xs.length
      · rw [if_pos (by simp; omega), if_pos hj]; simp only [setR_eq] <;> rfl
      · rw [if_neg (by simp; omega), if_neg hj]
def gtSub' (g : D → D → D → Hs → R Unit) (fo fi : EF) : GF := fun d env h => bindR (fo env h) fun o h1 => bindR (fi env h1) fun i h2 => bindR (g o i d h2) fun _ h3 => .ret env h3
theorem gtSub_eq (g : D → D → D → Hs → R Unit) (fo fi : EF) : gtSub g fo fi = gtSub' g fo fi := by funext d env h; unfold gtSub gtSub'; simp only [bindR_eq]
def sPar' (i j : Nat) (fa : AF) : SF := fun env h => catchR (fa env h) env fun ds h1 => match ds with
  | [x, y] => setR env i (some x) fun env1 => setR env1 j (some y) fun env2 => .ret (.nx env2) h1
  | _ => .fail
theorem sPar_eq (i j : Nat) (fa : AF) : sPar i j fa = sPar' i j fa := by funext env h; unfold sPar sPar'; rw [catchR_eq]; simp only [setR_eq] <;> rfl
def sAug' (i : Nat) (g : G2) (f : EF) : SF := fun env h => match nthR env i with
  | some (some x) => catchR (f env h) env fun y h1 => catchR (g x y h1) env fun z h2 => setR env i (some z) fun env1 => .ret (.nx env1) h2
  | _ => .fail
theorem sAug_eq (i : Nat) (g : G2) (f : EF) : sAug i g f = sAug' i g f := by funext env h; unfold sAug sAug'; simp only [catchR_eq, nthR_eq, setR_eq] <;> rfl
def againK' (f : Env' → Hs → R Out) : Out → Hs → R Out := fun o h2 => Out.rec (motive := fun _ => R Out) (fun env1 => f env1 h2) (fun d => .ret (.rt d) h2) (fun env1 => .ret (.nx env1) h2) (fun env1 => f env1 h2) (fun e env1 => .ret (.ex e env1) h2) o
theorem againK_eq (f : Env' → Hs → R Out) (o : Out) (h : Hs) : againK f o h = againK' f o h := by cases o <;> rfl
def whileL' (t : BF) (b : SF) (n : Nat) : Env' → Hs → R Out := Nat.rec (motive := fun _ => Env' → Hs → R Out) (fun _ _ => .fail) (fun _ ih env h => catchR (t env h) env fun k h1 => match k with
    | true => bindR (b env h1) (againK' ih)
    | false => .ret (.nx env) h1) n
theorem whileL_eq (t : BF) (b : SF) : ∀ n, whileL t b n = whileL' t b n
  | 0 => rfl
  | n + 1 => by
    funext env h
    unfold whileL
    rw [catchR_eq, whileL_eq t b n]
    show catchR (t env h) env _ = catchR (t env h) env _
    congr 1; funext k h1
    cases k with
    | true =>
      show (b env h1).bind _ = bindR (b env h1) _
      rw [bindR_eq]; congr 1; funext o h2; exact againK_eq _ o h2
    | false => rfl
def sWhile' (n : Nat) (t : BF) (b : SF) : SF := fun env h => whileL' t b n env h
theorem sWhile_eq (n : Nat) (t : BF) (b : SF) : sWhile n t b = sWhile' n t b := by funext env h; unfold sWhile sWhile'; rw [whileL_eq]
def forL' (nxt : Nxt) (g : GF) (b : SF) (n : Nat) : Nat → Env' → Hs → R Out := Nat.rec (motive := fun _ => Nat → Env' → Hs → R Out) (fun _ _ _ => .fail) (fun _ ih i env h => match nxt i h with
    | none => .fail
    | some none => .ret (.nx env) h
    | some (some d) => catchR (g d env h) env fun env1 h1 => natR (Nat.succ i) fun i1 => bindR (b env1 h1) (againK' (ih i1))) n
theorem forL_eq (nxt : Nxt) (g : GF) (b : SF) : ∀ n, forL nxt g b n = forL' nxt g b n
  | 0 => rfl
  | n + 1 => by
    funext i env h
    unfold forL
    rw [forL_eq nxt g b n]
    show _ = (match nxt i h with
      | none => R.fail
      | some none => R.ret (Out.nx env) h
      | some (some d) => catchR (g d env h) env fun env1 h1 => natR (Nat.succ i) fun i1 => bindR (b env1 h1) (againK' (forL' nxt g b n i1)))
    generalize nxt i h = z
    match z with
    | none => rfl
    | some none => rfl
    | some (some d) =>
      dsimp only
      rw [catchR_eq]
      congr 1; funext env1 h1
      rw [natR_eq, bindR_eq]; congr 1; funext o h2; exact againK_eq _ o h2
def sFor' (n : Nat) (it : IF) (g : GF) (b : SF) : SF := fun env h => catchR (it env h) env fun nxt h1 => forL' nxt g b n 0 env h1
theorem sFor_eq (n : Nat) (it : IF) (g : GF) (b : SF) : sFor n it g b = sFor' n it g b := by funext env h; unfold sFor sFor'; rw [catchR_eq]; simp only [forL_eq]
/-! what is walked -/
def nxL' (n : D) : Nxt := fun i h => match seqO h n with
  | some xs => match nthR xs i with
    | some d => some (some d)
    | none => some none
  | none => none
theorem nxL_eq (n : D) : nxL n = nxL' n := by funext i h; unfold nxL nxL'; simp only [seqOf_eq, nthR_eq] <;> rfl
def nxT' (xs : List D) : Nxt := fun i _ => match nthR xs i with
  | some d => some (some d)
  | none => some none
theorem nxT_eq (xs : List D) : nxT xs = nxT' xs := by funext i h; unfold nxT nxT'; simp only [nthR_eq] <;> rfl
def fIter' (f : EF) : IF := fun env h => bindR (f env h) fun d h1 => match d with
  | .tup xs => .ret (nxT' xs) h1
  | _ => match seqO h1 d with
    | some _ => .ret (nxL' d) h1
    | none => .fail
theorem fIter_eq (f : EF) : fIter f = fIter' f := by funext env h; unfold fIter fIter'; simp only [bindR_eq, seqOf_eq, nxT_eq, nxL_eq] <;> rfl
def nxR' (lo : Int) (n : Nat) : Nxt := fun i _ => match Nat.ble (Nat.succ i) n with
  | true => intR (Int.add lo (Int.ofNat i)) fun j => some (some (.int j))
  | false => some none
theorem nxR_eq (lo : Int) (n : Nat) : nxR lo n = nxR' lo n := by funext i h; unfold nxR nxR'; simp only [intR_eq] <;> rfl
def fRng1' (f : AF) : IF := fun env h => bindR (f env h) fun ds h1 => match ds with
  | [.int j] => match i62 j with
    | true => natR j.toNat fun n => .ret (nxR' 0 n) h1
    | false => .fail
  | _ => .fail
theorem fRng1_eq (f : AF) : fRng1 f = fRng1' f := by funext env h; unfold fRng1 fRng1'; simp only [bindR_eq, natR_eq, nxR_eq] <;> rfl
def fRng2' (f : AF) : IF := fun env h => bindR (f env h) fun ds h1 => match ds with
  | [.int i, .int j] => match and (i62 i) (i62 j) with
    | true => natR (Int.sub j i).toNat fun n => .ret (nxR' i n) h1
    | false => .fail
  | _ => .fail
theorem fRng2_eq (f : AF) : fRng2 f = fRng2' f := by funext env h; unfold fRng2 fRng2'; simp only [bindR_eq, natR_eq, nxR_eq] <;> rfl
def nxC' (lo c : Int) (n : Nat) : Nxt := fun i _ => match Nat.ble (Nat.succ i) n with
  | true => intR (Int.add lo (Int.mul (Int.ofNat i) c)) fun j => some (some (.int j))
  | false => some none
theorem nxC_eq (lo c : Int) (n : Nat) : nxC lo c n = nxC' lo c n := by funext i h; unfold nxC nxC'; simp only [intR_eq] <;> rfl
def fRng3' (f : AF) : IF := fun env h => bindR (f env h) fun ds h1 => match ds with
  | [.int i, .int j, .int c] => match i62 i && i62 j && (c == -1) with
    | true => natR (i - j).toNat fun n => .ret (nxC' i (-1) n) h1
    | false => match !(c == 0) && Nat.blt c.natAbs 1073741824 && Builtin.Range.small i j c && decide (0 ≤ Builtin.Range.rangeSize i j c) with
      | true => natR (Builtin.Range.rangeSize i j c).toNat fun n => .ret (nxC' i c n) h1
      | false => .fail
  | _ => .fail
theorem fRng3_eq (f : AF) : fRng3 f = fRng3' f := by funext env h; unfold fRng3 fRng3'; simp only [bindR_eq, natR_eq, nxC_eq] <;> rfl
def nxE' (n : D) : Nxt := fun i h => match seqO h n with
  | some xs => match nthR xs i with
    | some d => some (some (.tup [.int (Int.ofNat i), d]))
    | none => some none
  | none => none
theorem nxE_eq (n : D) : nxE n = nxE' n := by funext i h; unfold nxE nxE'; simp only [seqOf_eq, nthR_eq] <;> rfl
def fEnum' (f : EF) : IF := fun env h => bindR (f env h) fun d h1 => match seqO h1 d with
  | some _ => .ret (nxE' d) h1
  | none => .fail
theorem fEnum_eq (f : EF) : fEnum f = fEnum' f := by funext env h; unfold fEnum fEnum'; simp only [bindR_eq, seqOf_eq, nxE_eq] <;> rfl
def revR {α β : Type} (xs : List α) : List α → (List α → β) → β := List.rec (motive := fun _ => List α → (List α → β) → β) (fun acc k => k acc) (fun x _ ih acc k => ih (x :: acc) k) xs
theorem revR_eq {α β : Type} : ∀ (xs acc : List α) (k : List α → β), revR xs acc k = k (xs.reverse ++ acc)
  | [], _, _ => rfl
  | x :: xs, acc, k => by
    show revR xs (x :: acc) k = _
    rw [revR_eq xs, List.reverse_cons, List.append_assoc]; rfl
def lcL' (nxt : Nxt) (g : GF) (t : BF) (f : EF) (env : Env') (n : Nat) : Nat → List D → Hs → R D := Nat.rec (motive := fun _ => Nat → List D → Hs → R D) (fun _ _ _ => .fail) (fun _ ih i acc h => match nxt i h with
    | none => .fail
    | some none => revR acc [] fun xs => newL' xs h
    | some (some d) => bindR (noxR (g d env h)) fun env1 h1 => bindR (noxR (t env1 h1)) fun b h2 => natR (Nat.succ i) fun i1 => match b with
      | true => bindR (noxR (f env1 h2)) fun y h3 => match Nat.ble i1 line with
        | true => ih i1 (y :: acc) h3
        | false => .fail
      | false => ih i1 acc h2) n
theorem lcL_eq (nxt : Nxt) (g : GF) (t : BF) (f : EF) (env : Env') : ∀ n, lcL nxt g t f env n = lcL' nxt g t f env n
  | 0 => rfl
  | n + 1 => by
    funext i acc h
    unfold lcL
    rw [lcL_eq nxt g t f env n]
    show _ = (match nxt i h with
      | none => R.fail
      | some none => revR acc [] fun xs => newL' xs h
      | some (some d) => bindR (noxR (g d env h)) fun env1 h1 => bindR (noxR (t env1 h1)) fun b h2 => natR (Nat.succ i) fun i1 => match b with
        | true => bindR (noxR (f env1 h2)) fun y h3 => match Nat.ble i1 line with
          | true => lcL' nxt g t f env n i1 (y :: acc) h3
          | false => .fail
        | false => lcL' nxt g t f env n i1 acc h2)
    generalize nxt i h = z
    match z with
    | none => rfl
    | some none => simp only [revR_eq, List.append_nil, newL_eq]
    | some (some d) =>
      simp only [bindR_eq, noxR_eq, natR_eq] <;> rfl
def fLc' (n : Nat) (vs : List Nat) (it : IF) (g : GF) (t : BF) (f : EF) : EF := fun env h => bindR (it env h) fun nxt h1 => spine (wipeE env vs) fun env1 => lcL' nxt g t f env1 n 0 [] h1
theorem fLc_eq (n : Nat) (vs : List Nat) (it : IF) (g : GF) (t : BF) (f : EF) : fLc n vs it g t f = fLc' n vs it g t f := by
  funext env h; unfold fLc fLc'; simp only [bindR_eq, spine_eq, lcL_eq]
def mkF' (np n : Nat) (b : SF) : FF := fun ds h => match Nat.beq ds.length np with
  | true => spine (startE n ds) fun env => bindR (noxR (b env h)) fun o h1 => match o with
    | .nx _ => .ret .non h1
    | .rt d => .ret d h1
    | .ex e _ => .exc e h1
    | _ => .fail
  | false => .fail
theorem mkF_eq (np n : Nat) (b : SF) : mkF np n b = mkF' np n b := by funext ds h; unfold mkF mkF'; simp only [bindR_eq, noxR_eq, spine_eq, natBeq] <;> rfl
/-! built-ins -/
def gMax2' : GL := fun xs h => match gMax2 xs h with
  | .ret (.int i) h1 => retI i h1
  | r => r
theorem gMax2_eq : gMax2 = gMax2' := by
  funext xs h; unfold gMax2'
  split
  · rename_i i h1 e; rw [e]; exact retI_eq _ _
  · rfl
def gMin2' : GL := fun xs h => match gMin2 xs h with
  | .ret (.int i) h1 => retI i h1
  | r => r
theorem gMin2_eq : gMin2 = gMin2' := by
  funext xs h; unfold gMin2'
  split
  · rename_i i h1 e; rw [e]; exact retI_eq _ _
  · rfl
def gAbs' : GL := fun xs h => match gAbs xs h with
  | .ret (.int i) h1 => retI i h1
  | r => r
theorem gAbs_eq : gAbs = gAbs' := by
  funext xs h; unfold gAbs'
  split
  · rename_i i h1 e; rw [e]; exact retI_eq _ _
  · rfl
def gInt' : GL := fun xs h => match gInt xs h with
  | .ret (.int i) h1 => retI i h1
  | r => r
theorem gInt_eq : gInt = gInt' := by
  funext xs h; unfold gInt'
  split
  · rename_i i h1 e; rw [e]; exact retI_eq _ _
  · rfl
def gSum' : GL := fun xs h => match gSum xs h with
  | .ret (.int i) h1 => retI i h1
  | r => r
theorem gSum_eq : gSum = gSum' := by
  funext xs h; unfold gSum'
  split
  · rename_i i h1 e; rw [e]; exact retI_eq _ _
  · rfl
def gIn' (neg : Bool) : G2 := fun x y h => match gIn neg x y h with
  | .ret (.bl true) h1 => .ret (.bl true) h1
  | .ret (.bl false) h1 => .ret (.bl false) h1
  | r => r
theorem gIn_eq (neg : Bool) : gIn neg = gIn' neg := by
  funext x y h; unfold gIn'
  split
  · rename_i e; rw [e]
  · rename_i e; rw [e]
  · rfl
def gAny' : GL := fun xs h => match gAny xs h with
  | .ret (.bl true) h1 => .ret (.bl true) h1
  | .ret (.bl false) h1 => .ret (.bl false) h1
  | r => r
theorem gAny_eq : gAny = gAny' := by
  funext xs h; unfold gAny'
  split
  · rename_i e; rw [e]
  · rename_i e; rw [e]
  · rfl
def gAll' : GL := fun xs h => match gAll xs h with
  | .ret (.bl true) h1 => .ret (.bl true) h1
  | .ret (.bl false) h1 => .ret (.bl false) h1
  | r => r
theorem gAll_eq : gAll = gAll' := by
  funext xs h; unfold gAll'
  split
  · rename_i e; rw [e]
  · rename_i e; rw [e]
  · rfl
def gLen' : GL := fun xs h => match xs with
  | [.tup ys] => lenR ys fun n => .ret (.int (Int.ofNat n)) h
  | [.str z] => match Nat.ble z.length line with
    | true => .ret (.int z.length) h
    | false => .fail
  | [x] => match seqO h x with
    | some ys => lenR ys fun n => .ret (.int (Int.ofNat n)) h
    | none => .fail
  | _ => .fail
theorem gLen_eq : gLen = gLen' := by funext xs h; unfold gLen gLen'; simp only [lenR_eq, seqOf_eq] <;> rfl
def gTuple' : GL := fun xs h => match xs with
  | [.tup ys] => .ret (.tup ys) h
  | [x] => match seqO h x with
    | some ys => .ret (.tup ys) h
    | none => .fail
  | _ => .fail
theorem gTuple_eq : gTuple = gTuple' := by funext xs h; unfold gTuple gTuple'; simp only [seqOf_eq] <;> rfl
def gList' : GL := fun xs h => match xs with
  | [.tup ys] => newL' ys h
  | [x] => match seqO h x with
    | some ys => newL' ys h
    | none => .fail
  | _ => .fail
theorem gList_eq : gList = gList' := by funext xs h; unfold gList gList'; simp only [seqOf_eq, newL_eq] <;> rfl
def gAppend' : D → GL := fun o xs h => match o, xs with
  | .ref n, [x] => match nthR h n with
    | some (.lst ys) => match Nat.ble (Nat.succ ys.length) line with
      | true => snocR ys x fun zs => setR h n (.lst zs) fun h1 => .ret .non h1
      | false => .fail
    | _ => .fail
  | _, _ => .fail
theorem gAppend_eq : gAppend = gAppend' := by funext o xs h; unfold gAppend gAppend'; simp only [nthR_eq, snocR_eq, setR_eq] <;> rfl
def gExtend' : D → GL := fun o xs h => match o, xs with
  | .ref n, [.ref m] => match nthR h n, nthR h m with
    | some (.lst ys), some (.lst zs) => match Nat.ble (ys.length + zs.length) line with
      | true => appR ys zs fun ws => setR h n (.lst ws) fun h1 => .ret .non h1
      | false => .fail
    | _, _ => .fail
  | _, _ => .fail
theorem gExtend_eq : gExtend = gExtend' := by funext o xs h; unfold gExtend gExtend'; simp only [nthR_eq, appR_eq, setR_eq] <;> rfl
def fMeth' (k : Nat) (g : D → GL) (fo : EF) (fa : AF) : EF := fun env h => bindR (fo env h) fun o h1 => match recv k h1 o with
  | true => bindR (fa env h1) fun xs h2 => g o xs h2
  | false => .fail
theorem fMeth_eq (k : Nat) (g : D → GL) (fo : EF) (fa : AF) : fMeth k g fo fa = fMeth' k g fo fa := by funext env h; unfold fMeth fMeth'; simp only [bindR_eq] <;> rfl
def fMeth0' (k : Nat) (g : D → GL) (fo : EF) : EF := fun env h => bindR (fo env h) fun o h1 => match recv k h1 o with
  | true => g o [] h1
  | false => .fail
theorem fMeth0_eq (k : Nat) (g : D → GL) (fo : EF) : fMeth0 k g fo = fMeth0' k g fo := by funext env h; unfold fMeth0 fMeth0'; simp only [bindR_eq] <;> rfl
def fIs' (k : Nat) (f : EF) : EF := fun env h => bindR (f env h) fun x h1 => match tyC h1 x with
  | some a => match kitC a k with
    | true => .ret (.bl true) h1
    | false => .ret (.bl false) h1
  | none => .fail
theorem fIs_eq (k : Nat) (f : EF) : fIs k f = fIs' k f := by
  funext env h; unfold fIs fIs'; simp only [bindR_eq]; congr 1; funext x h1
  cases tyC h1 x with
  | none => rfl
  | some a =>
    dsimp only
    cases kitC a k <;> rfl
def fPart' (f : EF) : OF := fun env h => bindR (f env h) fun x h1 => match x with
  | .int i => .ret (some i) h1
  | _ => .fail
theorem fPart_eq (f : EF) : fPart f = fPart' f := by funext env h; unfold fPart fPart'; simp only [bindR_eq] <;> rfl
def gSl' (x : D) (lo hi : Option Int) : Hs → R D := fun h => match x with
  | .tup xs => match (HT.sIx xs.length 0 lo == 0) && (HT.sIx xs.length xs.length hi == xs.length) with
    | true => .fail
    | false => spine (cutD xs lo hi) fun ys => .ret (.tup ys) h
  | .str z => match Nat.ble z.length line with
    | true => .ret (.str (cutS z lo hi)) h
    | false => .fail
  | _ => match seqO h x with
    | some xs => spine (cutD xs lo hi) fun ys => newL' ys h
    | none => .fail
theorem gSl_eq (x : D) (lo hi : Option Int) : gSl x lo hi = gSl' x lo hi := by funext h; unfold gSl gSl'; simp only [spine_eq, seqOf_eq, newL_eq] <;> rfl
def fSl' (f : EF) (lo hi : OF) : EF := fun env h => bindR (f env h) fun x h1 => bindR (lo env h1) fun l h2 => bindR (hi env h2) fun u h3 => gSl' x l u h3
theorem fSl_eq (f : EF) (lo hi : OF) : fSl f lo hi = fSl' f lo hi := by funext env h; unfold fSl fSl'; simp only [bindR_eq, gSl_eq]
def sForget' (i : Nat) (f : SF) : SF := sForget i f
def lawR' (n i : Nat) (rest : SF) : R D := bindR (noxR (rest (((List.replicate n none).set i (some (.ref 1))).set 0 none) [.junk, .st])) fun o h1 => match o with
    | .nx _ => .ret .non h1
    | .rt d => .ret d h1
    | .ex e _ => .exc e h1
    | _ => .fail
theorem lawR_eq (n i : Nat) (rest : SF) : lawR n i rest = lawR' n i rest := by unfold lawR lawR'; simp only [bindR_eq, noxR_eq] <;> rfl
end
end Z

set_option Elab.async false
set_option linter.all false
set_option maxRecDepth 100000
set_option maxHeartbeats 1000000
/-! ZS: loops by what they do to a state -/
namespace Z
open PySem PySem.Spec PyProof.Rows L2

/-! ### new objects that nothing leads to are forgotten -/
/-- no ref in it -/
def bare : D → Bool
  | .non => true | .bl _ => true | .int _ => true | .str _ => true | .ty _ => true | .cls _ => true
  | .tup xs => go xs
  | .kl xs => go xs
  | .ins _ xs => go xs
  | .ref _ => false
  | .xn _ _ => false
where go : List D → Bool
  | [] => true
  | x :: xs => bare x && go xs
section
variable {T : Tab} {ρ ρ' : List Addr} {H H' : Hp}
theorem Ey.back (p : ρ <+: ρ') : ∀ a C dx fs, a ∉ ρ' → H a = some (.ins C dx fs) → H a = some (.ins C dx fs) ∧ a ∉ ρ := fun a C dx fs n e => ⟨e, fun m => n (by obtain ⟨t, rfl⟩ := p; exact List.mem_append_left _ m)⟩
theorem notin_pre (p : ρ <+: ρ') {a : Addr} (n : a ∉ ρ') : a ∉ ρ := fun m => n (by obtain ⟨t, rfl⟩ := p; exact List.mem_append_left _ m)
mutual
theorem Rep.back (p : ρ <+: ρ') : ∀ {d : D} {v : V}, bare d = true → Rep T ρ' H d v → Rep T ρ H d v
  | _, _, _, .non => .non
  | _, _, _, .bl b => .bl b
  | _, _, _, .int b => .int b
  | _, _, _, .str b => .str b
  | _, _, _, .ty b => .ty b
  | _, _, b, .tup s r => .tup s (RepL.back p b r)
  | _, _, b, .ins n e r => .ins (Ey.back (H := H) p _ _ _ _ n e).2 e (RepL.back p b r)
  | _, _, b, .ref e => by cases b
  | _, _, _, .cls k => .cls k
  | _, _, b, .kl s r => .kl s (RepL.back p b r)
  | _, _, b, .xn0 _ => by cases b
  | _, _, b, .xn _ _ _ _ _ => by cases b
theorem RepL.back (p : ρ <+: ρ') : ∀ {d : List D} {v : List V}, bare.go d = true → RepL T ρ' H d v → RepL T ρ H d v
  | _, _, _, .nil => .nil
  | _, _, b, .cons r s => by
    have b' := Bool.and_eq_true_iff.mp (show (_ && _) = true from b)
    exact .cons (Rep.back p b'.1 r) (RepL.back p b'.2 s)
end
/-! what leads to ours alone, told by any heap in which it stood -/
mutual
theorem Rep.back2 (p : ρ <+: ρ') : ∀ {d : D} {v w : V}, Rep T ρ H d v → Rep T ρ' H' d w → Rep T ρ H' d w
  | _, _, _, .non, .non => .non
  | _, _, _, .bl b, .bl _ => .bl b
  | _, _, _, .int b, .int _ => .int b
  | _, _, _, .str b, .str _ => .str b
  | _, _, _, .ty b, .ty _ => .ty b
  | _, _, _, .tup _ q, .tup s r => .tup s (RepL.back2 p q r)
  | _, _, _, .ins _ _ q, .ins n e r => .ins (Ey.back (H := H') p _ _ _ _ n e).2 e (RepL.back2 p q r)
  | _, _, _, .ref e, .ref e' => by
    have e2 := pre_get p e
    rw [e'] at e2
    cases e2
    exact .ref e
  | _, _, _, .cls k, .cls _ => .cls k
  | _, _, _, .kl _ q, .kl s r => .kl s (RepL.back2 p q r)
  | _, _, _, .xn0 _, .xn0 e => .xn0 e
  | _, _, _, .xn0 _, .xn e ne n h r => absurd rfl ne
  | _, _, _, .xn _ _ _ _ _, .xn0 e => .xn0 e
  | _, _, _, .xn _ _ _ _ q, .xn e ne n h r => .xn e ne (notin_pre p n) h (RepL.back2 p q r)
theorem RepL.back2 (p : ρ <+: ρ') : ∀ {d : List D} {v w : List V}, RepL T ρ H d v → RepL T ρ' H' d w → RepL T ρ H' d w
  | _, _, _, .nil, .nil => .nil
  | _, _, _, .cons r s, .cons r' s' => .cons (Rep.back2 p r r') (RepL.back2 p s s')
end
theorem RepK.back2 {κ : Type} (p : ρ <+: ρ') : ∀ {d : List (κ × D)} {v w : List (κ × V)}, RepK T ρ H d v → RepK T ρ' H' d w → RepK T ρ H' d w
  | _, _, _, .nil, .nil => .nil
  | _, _, _, .cons r s, .cons r' s' => .cons (r.back2 p r') (RepK.back2 p s s')
theorem RepO.back2 (p : ρ <+: ρ') {a b : Addr} {o : AO} (q : RepO T ρ H a o) (r : RepO T ρ' H' b o) : RepO T ρ H' b o := by
  cases o with
  | lst => obtain ⟨_, _, q⟩ := q; obtain ⟨vs, e, r⟩ := r; exact ⟨vs, e, q.back2 p r⟩
  | dK => obtain ⟨_, _, q⟩ := q; obtain ⟨vs, e, r⟩ := r; exact ⟨vs, e, q.back2 p r⟩
  | dT => obtain ⟨_, _, q⟩ := q; obtain ⟨vs, e, r⟩ := r; exact ⟨vs, e, q.back2 p r⟩
  | ob => obtain ⟨_, _, _, _, q⟩ := q; obtain ⟨dx, vs, e, l, r⟩ := r; exact ⟨dx, vs, e, l, q.back2 p r⟩
  | st => exact r
  | junk => exact r
theorem RepH.back {h j : Hs} (p : ρ <+: ρ') (q : RepH T ρ H h) (r : RepH T ρ' H' (h ++ j)) : RepH T ρ H' h := by
  refine ⟨q.len, q.nd, fun n o a e1 e2 => ?_⟩
  refine (q.at_ n o a e1 e2).back2 p (r.at_ n o a ?_ (pre_get p e2))
  rw [List.getElem?_append_left (by obtain ⟨z, _⟩ := List.getElem?_eq_some_iff.mp e1; exact z)]
  exact e1
end
/-- a def that hands back a bare value, and changes nothing of ours -/
theorem DefOk.drop {P : Program} {w : World} {mg : Str → Option Value} {base : Heap} {T : Tab} {k np : Nat} {x : Str} {F : FF} (d : DefOk P w mg base T k x np F) (A : List D → Option D)
    (h : ∀ ds hs v, A ds = some v → bare v = true ∧ ∃ j, F ds hs = .ret v (hs ++ j)) : DefOk P w mg base T k x np (fun ds hs => match A ds with | some v => .ret v hs | none => F ds hs) := by
  obtain ⟨f, fd, ps, ok, e, hm, kp, b⟩ := d.ex
  refine ⟨f, fd, ps, ok.imp fun vs H Q E ⟨ds, hs, ρ, r, rh, q⟩ => ⟨ds, hs, ρ, r, rh, ?_⟩, e, hm, kp, b⟩
  dsimp only at q
  split at q
  · rename_i v ev
    obtain ⟨hb, j, ej⟩ := h ds hs v ev
    rw [ej]
    intro ρ' u H' x' rh' ru
    refine q ρ u H' ⟨List.prefix_rfl, x'.tup, x'.frz, fun a o na ea => ⟨(x'.keep a o na ea).1, na⟩⟩ (rh.back x'.pre rh') (ru.back x'.pre hb)
  · exact q

/-! ### loops -/
/-- at most n turns -/
def iter {S : Type} (c : S → Bool) (st : S → S) : Nat → S → Option S
  | 0, _ => none
  | n + 1, s => match c s with
    | true => iter c st n (st s)
    | false => some s
theorem while_run {S : Type} {t : BF} {b : SF} (E : S → Env') (G : S → Hs) (c : S → Bool) (st : S → S) (I : S → Prop) (ht : ∀ s, I s → t (E s) (G s) = .ret (c s) (G s))
    (hb : ∀ s, I s → c s = true → b (E s) (G s) = .ret (.nx (E (st s))) (G (st s)) ∧ I (st s)) : ∀ (n : Nat) (s s' : S), I s → iter c st n s = some s' → ∀ fuel, n ≤ fuel → whileL t b fuel (E s) (G s) = .ret (.nx (E s')) (G s') ∧ I s'
  | 0, s, s', _, h, _, _ => by cases h
  | n + 1, s, s', hi, h, fuel + 1, hf => by
    unfold iter at h
    unfold whileL
    rw [ht s hi]
    show (match c s with | true => _ | false => _) = _ ∧ _
    split at h
    · rename_i e
      try rw [e]
      obtain ⟨h1, h2⟩ := hb s hi e
      show (b (E s) (G s)).bind _ = _ ∧ _
      rw [h1]
      exact while_run E G c st I ht hb n (st s) s' h2 h fuel (Nat.le_of_succ_le_succ hf)
    · rename_i e
      try rw [e]
      cases h
      exact ⟨rfl, hi⟩
/-- over items, a turn that ends next -/
theorem for_run {S : Type} {nxt : Nxt} {g : GF} {b : SF} (E : S → Option D → Env') (G : S → Hs) (xs : List D) (st : S → D → S) (hn : ∀ (s : S) (i : Nat), nxt i (G s) = some xs[i]?)
    (hg : ∀ s o d, g d (E s o) (G s) = .ret (E s (some d)) (G s)) (hb : ∀ s d, d ∈ xs → b (E s (some d)) (G s) = .ret (.nx (E (st s d) (some d))) (G (st s d))) :
    ∀ (ys pre : List D), pre ++ ys = xs → ∀ (s : S) (o : Option D) (fuel : Nat), ys.length < fuel → ∃ o', forL nxt g b fuel pre.length (E s o) (G s) = .ret (.nx (E (ys.foldl st s) o')) (G (ys.foldl st s))
  | [], pre, e, s, o, fuel + 1, _ => by
    refine ⟨o, ?_⟩
    unfold forL
    rw [hn, ← e, List.append_nil, List.getElem?_eq_none (Nat.le_refl _)]
    rfl
  | y :: ys, pre, e, s, o, fuel + 1, hf => by
    have ey : xs[pre.length]? = some y := by rw [← e, List.getElem?_append_right (Nat.le_refl _), Nat.sub_self]; rfl
    obtain ⟨o', h⟩ := for_run E G xs st hn hg hb ys (pre ++ [y]) (by rw [List.append_assoc]; exact e) (st s y) (some y) fuel (by simp at hf; omega)
    refine ⟨o', ?_⟩
    unfold forL
    rw [hn, ey]
    show ((g y (E s o) (G s)).catch _ _) = _
    rw [hg]
    show ((b (E s (some y)) (G s)).bind _) = _
    rw [hb s y (List.mem_of_getElem? ey)]
    rw [List.length_append] at h
    exact h
theorem nxT_at (xs : List D) (i : Nat) (h : Hs) : nxT xs i h = some xs[i]? := by
  unfold nxT
  cases xs[i]? <;> rfl
theorem nxL_at {n : D} {xs : List D} {h : Hs} (e : seqOf h n = some xs) (i : Nat) : nxL n i h = some xs[i]? := by
  unfold nxL
  rw [e]
  dsimp only
  cases xs[i]? <;> rfl
/-- the ints of a range -/
def rangeD (lo : Int) (n : Nat) : List D := (List.range n).map fun i => .int (lo + (i : Nat))
theorem nxR_at (lo : Int) (n i : Nat) (h : Hs) : nxR lo n i h = some (rangeD lo n)[i]? := by
  unfold nxR rangeD
  rw [List.getElem?_map]
  by_cases hi : i < n
  · rw [List.getElem?_range hi]
    have : Nat.blt i n = true := by simpa [Nat.blt_eq] using hi
    rw [this]; rfl
  · rw [List.getElem?_eq_none (by rw [List.length_range]; omega)]
    have : Nat.blt i n = false := by
      cases e : Nat.blt i n with
      | false => rfl
      | true => exact absurd (by simpa [Nat.blt_eq] using e) hi
    rw [this]; rfl
/-- a comprehension over items: f some: kept -/
theorem lc_run {nxt : Nxt} {g : GF} {t : BF} {f : EF} {env : Env'} (h : Hs) (xs : List D) (k : D → Option D) (hn : ∀ i : Nat, nxt i h = some xs[i]?) (E : D → Env') (hg : ∀ d, d ∈ xs → g d env h = .ret (E d) h)
    (ht : ∀ d, d ∈ xs → t (E d) h = .ret (k d).isSome h) (hf : ∀ d y, d ∈ xs → k d = some y → f (E d) h = .ret y h) :
    ∀ (ys pre acc : List D), pre ++ ys = xs → ∀ fuel, ys.length < fuel → xs.length ≤ line → lcL nxt g t f env fuel pre.length acc h = newL (acc.reverse ++ ys.filterMap k) h
  | [], pre, acc, e, fuel + 1, _, _ => by
    unfold lcL
    rw [hn, ← e, List.append_nil, List.getElem?_eq_none (Nat.le_refl _)]
    simp
  | y :: ys, pre, acc, e, fuel + 1, hl, hx => by
    have ey : xs[pre.length]? = some y := by rw [← e, List.getElem?_append_right (Nat.le_refl _), Nat.sub_self]; rfl
    have hm := List.mem_of_getElem? ey
    have ih := fun acc => lc_run h xs k hn E hg ht hf ys (pre ++ [y]) acc (by rw [List.append_assoc]; exact e) fuel (by simp at hl; omega) hx
    unfold lcL
    rw [hn, ey]
    show (((g y env h).nox).bind _) = _
    rw [hg y hm]
    show (((t (E y) h).nox).bind _) = _
    rw [ht y hm]
    rw [List.length_append] at ih
    cases ek : k y with
    | none =>
      rw [List.filterMap_cons_none ek]
      exact ih acc
    | some z =>
      rw [List.filterMap_cons_some ek]
      show (((f (E y) h).nox).bind _) = _
      rw [hf y z hm ek]
      have hb : Nat.blt pre.length line = true := by
        have : pre.length < xs.length := by rw [← e, List.length_append, List.length_cons]; omega
        have h2 : pre.length < line := by omega
        simpa [Nat.blt_eq] using h2
      show (match Nat.blt pre.length line with | true => _ | false => _) = _
      rw [hb]
      have := ih (z :: acc)
      rw [List.reverse_cons, List.append_assoc] at this
      exact this
end Z

set_option Elab.async false
set_option linter.all false
set_option maxRecDepth 100000
set_option maxHeartbeats 1000000
/-! ZX: exceptions -/
namespace Z
open PySem PySem.Spec PyProof.Rows L2

/-! ### a class's name -/
def fCls (k : Nat) : EF := fun _ h => .ret (.cls k) h
theorem ev_cls {c : Ctx} {k : Nat} {x : Str} {pos : Pos} (hg : GlC c x) (hm : c.mg x = some (.ref (c.T.cl k))) (hd : (x == ("__debug__" : Str)) = false) : EV c (.Name x pos) (fCls k) := fun X ok W tk =>
  (pe_glob (v := .ref (c.T.cl k)) (hg.gl ok) (by rw [ok.mg]; exact hm) rfl hd).zimp fun σ H Q ⟨env, h, ρ, re, rh, w⟩ => w ρ _ H .refl rh (.cls k)

/-! ### raise X('..') -/
def sRaise0 (k : Nat) : SF := fun env h => .ret (.ex ⟨k, none⟩ env) h
theorem sv_raise0 {c : Ctx} {bmB : List Value} {B newId initId : String} {x m : Str} {j k : Nat} {p p2 pos pos2 : Pos} (hc : c.calm = true) (F : ExcBaseFacts B newId initId bmB) (q : PySem.W.excIn c.T.K (c.T.cl k) bmB newId = true) (gC : c.mg x = some (.ref (c.T.cl k)))
    (kC : PySem.W.keepIn c.T.K (.ref (c.T.cl k)) = true) (h1 : PySem.W.subIn c.T.K (.ref (c.T.cl k)) (.type "BaseException") = some true) (h2 : PySem.W.typeIn c.T.K (.ref (c.T.cl k)) = some (.type "type")) (hg : GlC c x) (hdb : (x == ("__debug__" : Str)) = false) :
    SV c (.Raise (some (.Call (.Name x p) [.Constant (.str m) j p2] [] pos)) none pos2) (sRaise0 k) := fun X ok W tk po =>
  (ps_raise (ok.calm.trans hc) tk (pmk_own F (by rw [ok.K]; exact q) (by rw [ok.mg]; exact gC) (by rw [ok.K]; exact kC) (raises_own (by rw [ok.K]; exact h1) (by rw [ok.K]; exact h2)) (hg.gl ok) hdb)).zimp fun De σ H ⟨env, h, ρ, re, rh, w⟩ =>
    w ρ H .refl rh σ _ none re ⟨rfl, fun _ => rfl, fun ds e => by cases e⟩

/-! ### values without a named exception -/
def noX : D → Bool
  | .tup xs => go xs
  | .kl xs => go xs
  | .ins _ xs => go xs
  | .xn _ _ => false
  | _ => true
where go : List D → Bool
  | [] => true
  | x :: xs => noX x && go xs
abbrev Tab.on (T : Tab) (z : Addr × Option Addr × Nat) : Tab := { T with xo := some z }
section
variable {T : Tab} {z : Addr × Option Addr × Nat} {ρ : List Addr} {H : Hp}
mutual
theorem Rep.onX (n : T.xo = none) : ∀ {d : D} {v : V}, Rep T ρ H d v → Rep (T.on z) ρ H d v
  | _, _, .non => .non
  | _, _, .bl b => .bl b
  | _, _, .int b => .int b
  | _, _, .str b => .str b
  | _, _, .ty b => .ty b
  | _, _, .tup s r => .tup s (RepL.onX n r)
  | _, _, .ins m e r => .ins m e (RepL.onX n r)
  | _, _, .ref e => .ref e
  | _, _, .cls k => .cls (T := T.on z) k
  | _, _, .kl s r => .kl s (RepL.onX n r)
  | _, _, .xn0 e => by rw [n] at e; cases e
  | _, _, .xn e _ _ _ _ => by rw [n] at e; cases e
theorem RepL.onX (n : T.xo = none) : ∀ {d : List D} {v : List V}, RepL T ρ H d v → RepL (T.on z) ρ H d v
  | _, _, .nil => .nil
  | _, _, .cons r s => .cons (Rep.onX n r) (RepL.onX n s)
end
mutual
theorem Rep.noX (n : T.xo = none) : ∀ {d : D} {v : V}, Rep T ρ H d v → noX d = true
  | _, _, .non => rfl
  | _, _, .bl b => rfl
  | _, _, .int b => rfl
  | _, _, .str b => rfl
  | _, _, .ty b => rfl
  | _, _, .tup s r => RepL.noX n r
  | _, _, .ins m e r => RepL.noX n r
  | _, _, .ref e => rfl
  | _, _, .cls k => rfl
  | _, _, .kl s r => RepL.noX n r
  | _, _, .xn0 e => by rw [n] at e; cases e
  | _, _, .xn e _ _ _ _ => by rw [n] at e; cases e
theorem RepL.noX (n : T.xo = none) : ∀ {d : List D} {v : List V}, RepL T ρ H d v → noX.go d = true
  | _, _, .nil => rfl
  | _, _, .cons r s => Bool.and_eq_true_iff.mpr ⟨Rep.noX n r, RepL.noX n s⟩
end
mutual
theorem Rep.offX : ∀ {d : D} {v : V}, Z.noX d = true → Rep (T.on z) ρ H d v → Rep T ρ H d v
  | _, _, _, .non => .non
  | _, _, _, .bl b => .bl b
  | _, _, _, .int b => .int b
  | _, _, _, .str b => .str b
  | _, _, _, .ty b => .ty b
  | _, _, q, .tup s r => .tup s (RepL.offX q r)
  | _, _, q, .ins m e r => .ins m e (RepL.offX q r)
  | _, _, _, .ref e => .ref e
  | _, _, _, .cls k => .cls (T := T) k
  | _, _, q, .kl s r => .kl s (RepL.offX q r)
  | _, _, q, .xn0 e => by cases q
  | _, _, q, .xn e _ _ _ _ => by cases q
theorem RepL.offX : ∀ {d : List D} {v : List V}, Z.noX.go d = true → RepL (T.on z) ρ H d v → RepL T ρ H d v
  | _, _, _, .nil => .nil
  | _, _, q, .cons r s => by
    have q' := Bool.and_eq_true_iff.mp (show (_ && _) = true from q)
    exact .cons (Rep.offX q'.1 r) (RepL.offX q'.2 s)
end
theorem RepK.onX {κ : Type} (n : T.xo = none) : ∀ {d : List (κ × D)} {v : List (κ × V)}, RepK T ρ H d v → RepK (T.on z) ρ H d v
  | _, _, .nil => .nil
  | _, _, .cons r s => .cons (r.onX n) (RepK.onX n s)
theorem RepK.offX {κ : Type} (n : T.xo = none) {ρ0 : List Addr} {H0 : Hp} : ∀ {d : List (κ × D)} {v w : List (κ × V)}, RepK T ρ0 H0 d w → RepK (T.on z) ρ H d v → RepK T ρ H d v
  | _, _, _, .nil, .nil => .nil
  | _, _, _, .cons r0 s0, .cons r s => .cons (r.offX (r0.noX n)) (RepK.offX n s0 s)
theorem RepO.onX (n : T.xo = none) {a : Addr} {o : AO} (r : RepO T ρ H a o) : RepO (T.on z) ρ H a o := by
  cases o with
  | lst => obtain ⟨vs, e, r⟩ := r; exact ⟨vs, e, r.onX n⟩
  | dK => obtain ⟨vs, e, r⟩ := r; exact ⟨vs, e, r.onX n⟩
  | dT => obtain ⟨vs, e, r⟩ := r; exact ⟨vs, e, r.onX n⟩
  | ob => obtain ⟨dx, vs, e, l, r⟩ := r; exact ⟨dx, vs, e, l, r.onX n⟩
  | st => exact r
  | junk => exact r
theorem RepO.offX (n : T.xo = none) {ρ0 : List Addr} {H0 : Hp} {a b : Addr} {o : AO} (q : RepO T ρ0 H0 b o) (r : RepO (T.on z) ρ H a o) : RepO T ρ H a o := by
  cases o with
  | lst => obtain ⟨_, _, q⟩ := q; obtain ⟨vs, e, r⟩ := r; exact ⟨vs, e, r.offX (q.noX n)⟩
  | dK => obtain ⟨_, _, q⟩ := q; obtain ⟨vs, e, r⟩ := r; exact ⟨vs, e, q.offX n r⟩
  | dT => obtain ⟨_, _, q⟩ := q; obtain ⟨vs, e, r⟩ := r; exact ⟨vs, e, q.offX n r⟩
  | ob => obtain ⟨_, _, _, _, q⟩ := q; obtain ⟨dx, vs, e, l, r⟩ := r; exact ⟨dx, vs, e, l, r.offX (q.noX n)⟩
  | st => exact r
  | junk => exact r
theorem RepH.onX (n : T.xo = none) {h : Hs} (r : RepH T ρ H h) : RepH (T.on z) ρ H h := ⟨r.len, r.nd, fun m o a e1 e2 => (r.at_ m o a e1 e2).onX n⟩
theorem RepH.offX (n : T.xo = none) {ρ0 : List Addr} {H0 : Hp} {h : Hs} (p : ρ0 <+: ρ) (q : RepH T ρ0 H0 h) (r : RepH (T.on z) ρ H h) : RepH T ρ H h :=
  ⟨r.len, r.nd, fun m o a e1 e2 => by
    obtain ⟨b, e3⟩ := q.lt e1
    exact (q.at_ m o b e1 e3).offX n (r.at_ m o a e1 e2)⟩
theorem RepE.onX (n : T.xo = none) {env : Env'} {σ : L2.St} (r : RepE T ρ H env σ) : RepE (T.on z) ρ H env σ := ⟨r.1, fun i d e => by
  obtain ⟨v, e1, q⟩ := r.2 i d e
  exact ⟨v, e1, q.onX n⟩⟩
end

/-! ### what leaves the heap alone -/
def Still {α : Type} (h : Hs) : R α → Prop
  | .ret _ h' => h' = h
  | .exc _ h' => h' = h
  | .fail => True
  | .pick n k => ∀ i, Still h (k i)
theorem Still.bind {α β : Type} {h : Hs} {f : α → Hs → R β} (hf : ∀ a, Still h (f a h)) : ∀ {r : R α}, Still h r → Still h (r.bind f)
  | .ret a h', e => by cases (show h' = h from e); exact hf a
  | .exc _ _, e => e
  | .fail, e => e
  | .pick n k, e => fun i => Still.bind hf (e i)
theorem Still.catch {α : Type} {h : Hs} {env : Env'} {f : α → Hs → R Out} (hf : ∀ a, Still h (f a h)) : ∀ {r : R α}, Still h r → Still h (r.catch env f)
  | .ret a h', e => by cases (show h' = h from e); exact hf a
  | .exc _ _, e => e
  | .fail, e => e
  | .pick n k, e => fun i => Still.catch hf (e i)
theorem Still.wp {α : Type} {h : Hs} {Q : α → Hs → Prop} {E : Exn → Hs → Prop} : ∀ {r : R α}, Still h r → wp r Q E → wp r (fun a h' => h' = h ∧ Q a h') E
  | .ret a h', e, q => ⟨e, q⟩
  | .exc _ _, _, q => q
  | .fail, _, q => q
  | .pick n k, e, q => fun i hi => Still.wp (e i) (q i hi)
abbrev StillE (f : EF) : Prop := ∀ env h, Still h (f env h)
abbrev StillB (f : BF) : Prop := ∀ env h, Still h (f env h)
abbrev StillA (f : AF) : Prop := ∀ env h, Still h (f env h)
abbrev StillS (f : SF) : Prop := ∀ env h, Still h (f env h)
theorem still_ret {f : EF} (h : StillE f) : StillS (sRet f) := fun env hs => Still.catch (f := fun d h1 => R.ret (Out.rt d) h1) (fun _ => rfl) (h env hs)
theorem still_C {d : D} : StillE (fC d) := fun _ _ => rfl
theorem still_cls {k : Nat} : StillE (fCls k) := fun _ _ => rfl

theorem still_var {i : Nat} : StillE (fVar i) := fun env h => by
  unfold fVar
  split
  · exact rfl
  · exact trivial

/-! ### try -/
def NoW : WX := fun _ _ _ _ => False
def outOff (i : Nat) : Out → Hs → R Out := fun o h => match o with
  | .nx _ => .fail
  | .rt d => match noX d with
    | true => .ret (.rt d) h
    | false => .fail
  | .bk _ => .fail
  | .ct _ => .fail
  | .ex _ _ => .fail
/-- except X as n: the suite hands back a value -/
def sTryAs (i : Nat) (m : Nat → Option Bool) (fb fs : SF) : SF := fun env h => (fb env h).bind fun o h1 => match o with
  | .ex e env1 => match m e.c with
    | some true => (fs (env1.set i (some (.xn e.c (e.fs.getD [])))) h1).bind (outOff i)
    | some false => .ret (.ex e env1) h1
    | none => .fail
  | o => .ret o h1
/-- except X: -/
def sTry (m : Nat → Option Bool) (fb fs : SF) : SF := fun env h => (fb env h).bind fun o h1 => match o with
  | .ex e env1 => match m e.c with
    | some true => (fs env1 h1).bind fun o h2 => match o with
      | .ex _ _ => .fail
      | o => .ret o h2
    | some false => .ret (.ex e env1) h1
    | none => .fail
  | o => .ret o h1
theorem PSs.exi {X : Cx} {ss : List Stmt} {α : Type} {p : α → Prop} {t : α → TS} (h : ∀ k, p k → PSs X ss (t k)) : PSs X ss (fun D σ H => ∃ k, p k ∧ t k D σ H) := ⟨fun pins s σ H D I ⟨k, hp, q⟩ => (h k hp).run pins s σ H D I q⟩
theorem takes_no {X : Cx} (h : ∀ e s, ¬ X.xe e s) {W : WX} (hW : ∀ a b c d, ¬ W a b c d) : Takes X W := fun u s' ⟨_, _, _, _, _, _, _, _, _, _, _, _, _, _, _, _, w⟩ => (hW _ _ _ _ w).elim
section
variable {c : Ctx} {x n : Str} {cv : Value} {i : Nat} {body suite : List Stmt} {b₀ : Stmt} {np pos pos' : Pos} {fb fs : SF} {m : Nat → Option Bool}
def NamesC (c : Ctx) (x : Str) (cv : Value) : Prop := GlC c x ∧ (x == ("__debug__" : Str)) = false ∧ (c.mg x = some cv ∨ (c.mg x = none ∧ bootBuiltins x = some cv ∧ x ≠ "__name__"))
abbrev Ctx.inS (c : Ctx) : Ctx := { c with calm := false, hot := false }
abbrev Ctx.inX (c : Ctx) (z : Addr × Option Addr × Nat) : Ctx := { c with T := c.T.on z, calm := false, hot := true }
theorem sv_try (hc : c.calm = true) (ht : c.top = true) (hh : c.hot = false) (hn : NamesC c x cv) (hm : ∀ k b, m k = some b → PySem.W.exmOne c.T.K (.ref (c.T.cl k)) cv = some b) (hb : SsV c body fb) (hs : SsV c.inS (b₀ :: suite) fs) :
    SV c (.Try body [.ExceptHandler (some (.Name x np)) none (b₀ :: suite) pos'] [] [] pos) (sTry m fb fs) := fun X ok W tk po => by
  have okT : ∀ pn xe, CxOk c (X.tr pn xe) := fun pn xe => ⟨ok.prog, ok.w, ok.K, ok.mg, ok.base, ok.N, ok.sc, ok.room, ok.calm, ok.top, ok.fn, ok.un, fun z => by rw [hh] at z; cases z⟩
  have okS : ∀ a pn, CxOk c.inS (X.suite a pn) := fun a pn => ⟨ok.prog, ok.w, ok.K, ok.mg, ok.base, ok.N, ok.sc, fun z => (by cases z), rfl, ok.top, ok.fn, ok.un, fun z => (by cases z)⟩
  refine (ps_try_only (Wout := W) (tb := fun W' => tS c.T W' fb) (ts := fun a cls d => tS c.T NoW fs) (c := cv) (ok.top ht).1 (ok.top ht).2.1 ⟨hn.1.gl ok, hn.2.1, by rw [ok.mg]; exact hn.2.2⟩ tk
    (fun W' pn xe tk' po' => hb _ (okT pn xe) _ tk' po') (fun a oe cls d pn _ _ => hs _ (okS a _) NoW (takes_no (fun _ _ z => z) fun _ _ _ _ z => z) PassesOwn.never)).zimp fun De σ H ⟨env, h, ρ, re, rh, w⟩ => ?_
  refine ⟨env, h, ρ, re, rh, wp_mono (fun o h1 q => ?_) (fun _ _ e => e) _ (wp_bind w)⟩
  cases o with
  | nx env1 => exact q
  | rt d => exact q
  | bk e => exact q
  | ct e => exact q
  | ex e env1 =>
    intro ρ' H' x1 rh1 σ' cls d re1 rx
    dsimp only at q
    split at q
    · rename_i em
      refine ⟨true, by rw [ok.K, rx.1]; exact hm _ _ em, fun _ a na => ?_, fun z => (by cases z)⟩
      refine ⟨env1, h1, ρ', re1, rh1, wp_mono (fun o2 h2 q2 => ?_) (fun _ _ e => e) _ (wp_bind q)⟩
      cases o2 with
      | nx env2 => exact OW.mono x1 q2
      | rt d2 => exact OW.mono x1 q2
      | bk e => exact OW.mono x1 q2
      | ct e => exact OW.mono x1 q2
      | ex e env => exact q2.elim
    · rename_i em
      exact ⟨false, by rw [ok.K, rx.1]; exact hm _ _ em, fun z => (by cases z), fun _ => q ρ' H' x1 rh1 σ' cls d re1 rx⟩
    · exact q.elim
theorem sv_tryAs (i : Nat) (hc : c.calm = true) (ht : c.top = true) (hh : c.hot = false) (hx : c.T.xo = none) (nd : c.N.Nodup) (hi : c.N[i]? = some n) (hl : c.sc.names.lookup n = some .local) (hn : NamesC c x cv) (hm : ∀ k b, m k = some b → PySem.W.exmOne c.T.K (.ref (c.T.cl k)) cv = some b)
    (hb : SsV c body fb) (hs : ∀ z, SsV (c.inX z) (b₀ :: suite) fs) (hq : StillS fs) :
    SV c (.Try body [.ExceptHandler (some (.Name x np)) (some n) (b₀ :: suite) pos'] [] [] pos) (sTryAs i m fb fs) := fun X ok W tk po => by
  have okT : ∀ pn xe, CxOk c (X.tr pn xe) := fun pn xe => ⟨ok.prog, ok.w, ok.K, ok.mg, ok.base, ok.N, ok.sc, ok.room, ok.calm, ok.top, ok.fn, ok.un, fun z => by rw [hh] at z; cases z⟩
  have okS : ∀ a d k oe pn, Zc (.ref (c.T.cl k)) d oe → (∃ vs, oe.data = .fields vs) → CxOk (c.inX (a, d, k)) (X.suite a ((a, oe) :: pn)) := fun a d k oe pn hz hf => ⟨ok.prog, ok.w, ok.K, ok.mg, ok.base, ok.N, ok.sc, fun z => (by cases z), rfl, ok.top, ok.fn, ok.un, fun _ a' d' k' e => by
    cases e
    exact ⟨oe, List.mem_cons_self, hz, hf⟩⟩
  refine (ps_try_as (Wout := W) (tb := fun W' => tS c.T W' fb) (ts := fun a cls d De σ H => ∃ k, cls = .ref (c.T.cl k) ∧ tS (c.T.on (a, d, k)) NoW fs De σ H) (c := cv) (i := i) (ok.top ht).1 (ok.top ht).2.1 (by rw [ok.N]; exact nd) (by rw [ok.N]; exact hi) (by show X.env.scope.names.lookup n = _; rw [ok.sc]; exact hl) ⟨hn.1.gl ok, hn.2.1, by rw [ok.mg]; exact hn.2.2⟩ tk
    (fun W' pn xe tk' po' => hb _ (okT pn xe) _ tk' po') (fun a oe cls d pn hz hf => PSs.exi fun k e => hs (a, d, k) _ (okS a d k oe pn (e ▸ hz) hf) NoW (takes_no (fun _ _ z => z) fun _ _ _ _ z => z) PassesOwn.never)).zimp fun De σ H ⟨env, h, ρ, re, rh, w⟩ => ?_
  refine ⟨env, h, ρ, re, rh, wp_mono (fun o h1 q => ?_) (fun _ _ e => e) _ (wp_bind w)⟩
  cases o with
  | nx env1 => exact q
  | rt d => exact q
  | bk e => exact q
  | ct e => exact q
  | ex e env1 =>
    intro ρ' H' x1 rh1 σ' cls d re1 rx
    dsimp only at q
    split at q
    · rename_i em
      refine ⟨true, by rw [ok.K, rx.1]; exact hm _ _ em, fun _ a na => ?_, fun z => (by cases z)⟩
      refine ⟨e.c, rx.1, _, h1, ρ', (re1.onX hx).set (i := i) (d := .xn e.c (e.fs.getD [])) ?_, rh1.onX hx, wp_mono (fun o2 h2 q2 => ?_) (fun _ _ e => e) _ (Still.wp (hq _ _) (wp_bind q))⟩
      · obtain ⟨_, rx1, rx2⟩ := rx
        cases ef : e.fs with
        | none => rw [rx1 ef]; exact .xn0 rfl
        | some ds =>
          obtain ⟨ne, a', vs, rfl, na', e1, r1⟩ := rx2 ds ef
          exact .xn rfl ne na' e1 (r1.onX hx)
      · obtain ⟨eh, q2⟩ := q2
        subst eh
        cases o2 with
        | rt d2 =>
          intro ρ'' H'' x2 rh2 v rv
          unfold outOff at q2
          dsimp only at q2
          split at q2
          · rename_i en
            exact q2 ρ'' H'' (x1.trans x2) (RepH.offX hx x2.pre rh1 rh2) v (rv.offX en)
          · exact q2.elim
        | nx env2 => exact q2.elim
        | bk e => exact q2.elim
        | ct e => exact q2.elim
        | ex e env => exact q2.elim
    · rename_i em
      exact ⟨false, by rw [ok.K, rx.1]; exact hm _ _ em, fun z => (by cases z), fun _ => q ρ' H' x1 rh1 σ' cls d re1 rx⟩
    · exact q.elim
end

/-! ### isinstance of a named exception without fields -/
def fIsX (m : Nat → Option Bool) (f : EF) : EF := fun env h => (f env h).bind fun x h1 => match x with
  | .xn c [] => match m c with
    | some b => .ret (.bl b) h1
    | none => .fail
  | _ => .fail
theorem still_isX {m : Nat → Option Bool} {f : EF} (h : StillE f) : StillE (fIsX m f) := fun env hs => Still.bind (fun a => by
  split
  · split
    · exact rfl
    · exact trivial
  · exact trivial) (h env hs)
/-- isinstance(e, c), e the exception that the suite holds -/
theorem call_isX {X : Cx} {a D : Addr} {oe : Obj} (C : ExcC X.K D) (hp : (a, oe) ∈ X.pn) (hz : Zc (.ref D) none oe) (hf : ∃ vs, oe.data = .fields vs) : CallR X (.builtin "isinstance") (rIsE X.K D a) := by
  intro pins s σ H xs us Q I r h
  obtain ⟨c, cv, b, rfl, hcv, e, q⟩ := h
  cases r with
  | cons rx rr =>
    cases rr with
    | cons rt rr =>
      cases rr
      cases rx
      have ec := hcv _ rt
      subst ec
      obtain ⟨hget, _⟩ := I.pin (a, oe) (List.mem_append.mpr (.inl hp))
      obtain ⟨vs, hv⟩ := hf
      have J : PySem.W.InstAt s.heap a oe D none := by
        obtain ⟨oc, od, oda, osl⟩ := oe
        obtain ⟨h1, h2⟩ := hz
        dsimp only at h1 h2 hv
        subst h1 h2 hv
        exact ⟨hget, rfl, rfl, trivial⟩
      exact PySem.W.kia_one (PySem.W.handS_kitx_exc C.hg C.hk C.hs C.hd C.ha C.hn C.ht C.hm) I.kIn J e (fun z => nomatch z) fun tk => ⟨.bl b, H, I.kept (t' := tk) fun _ _ z => z, rfl, q⟩
/-- isinstance(e, the class k): which exceptions e may be is known beforehand -/
def rIsX (T : Tab) (m : Nat → Option Bool) : List V → Hp → VK → Prop := fun xs H Q => ∃ (a : Addr) (k : Nat) (c : V) (b : Bool), T.xo = some (a, none, k) ∧ m k = some b ∧ rIsE T.K (T.cl k) a xs H Q
theorem ev_isX {c : Ctx} {k : Nat} {x : Str} {p p2 pos : Pos} {e : Expr} {f : EF} {m : Nat → Option Bool} (hh : c.hot = true) (hg : GlC c "isinstance") (hm : c.mg "isinstance" = none) (hg2 : GlC c x) (hm2 : c.mg x = some (.ref (c.T.cl k))) (hd : (x == ("__debug__" : Str)) = false)
    (hC : ∀ j b, m j = some b → ExcC c.T.K (c.T.cl j) ∧ PySem.W.kitOne c.T.K (.ref (c.T.cl j)) (.ref (c.T.cl k)) = some b) (ha : EV c e f) (he : St1 [e, .Name x p2]) (hpl : Pl pos [.Name x p2]) : EV c (.Call (.Name "isinstance" p) [e, .Name x p2] [] pos) (fIsX m f) := by
  intro X ok W tk
  have h2 : PA X [.Name x p2] (tCons (tC (.ref (c.T.cl k))) tNil) := pa_cons (pe_glob (v := .ref (c.T.cl k)) (hg2.gl ok) (by rw [ok.mg]; exact hm2) rfl hd) pa_nil
  have cr : CallR X (.builtin "isinstance") (rIsX c.T m) := by
    intro pins s σ H xs us Q I r ⟨a, j, _, b, e1, e2, q⟩
    obtain ⟨oe, hp, hz, hf⟩ := ok.xo hh _ _ _ e1
    have := call_isX (X := X) (by rw [ok.K]; exact (hC j b e2).1) hp hz hf
    rw [ok.K] at this
    exact this pins s σ H xs us Q I r q
  refine (pe_callB cr (hg.gl ok) (by rw [ok.mg]; exact hm) boot_isinstance (pa_cons (ha X ok W tk) h2 (he X.env)) (by decide) (by decide) (he X.env) (hpl X.env)).zimp fun σ H Q ⟨env, h, ρ, re, rh, w⟩ => ?_
  refine tE_then re rh w (fun _ _ e => e) fun y h1 ρ1 v1 H1 x1 re1 rh1 r1 w1 => ?_
  split at w1
  · rename_i j
    split at w1
    · rename_i b eb
      have fin : ∀ a, v1 = .ref a → c.T.xo = some (a, none, j) → rIsX c.T m [v1, .ref (c.T.cl k)] H1 Q := fun a ev ex => by
        subst ev
        exact ⟨a, j, .non, b, ex, eb, _, .ref (c.T.cl k), b, rfl, fun u r => by cases r; rfl, (hC j b eb).2, w1 ρ1 _ H1 x1 rh1 (.bl _)⟩
      cases r1 with
      | xn0 ex => exact fin _ rfl ex
      | xn ex ne => exact absurd rfl ne
    · exact w1.elim
  · exact w1.elim

/-! ### a op b op c -/
def fChain (g g' : G2) (fa fb fc : EF) : EF := fun env h => (fa env h).bind fun x h1 => (fb env h1).bind fun y h2 => (g x y h2).bind fun z h3 => match z with
  | .bl true => (fc env h3).bind fun w h4 => g' y w h4
  | .bl false => .ret (.bl false) h3
  | _ => .fail
def CmpOk (c : Ctx) (op : CmpOp) (g : G2) : Prop := ∃ r : R2, (∀ X, CxOk c X → OpR X (compareOp op) r) ∧ Lk2 c.T r g
section
variable {c : Ctx}
theorem cmp_lt : CmpOk c .Lt gLt := ⟨_, fun _ _ => op_lt, lk_I0 fun _ _ _ _ _ => .bl _⟩
theorem cmp_le : CmpOk c .LtE gLe := ⟨_, fun _ _ => op_le, lk_I0 fun _ _ _ _ _ => .bl _⟩
theorem cmp_gt : CmpOk c .Gt gGt := ⟨_, fun _ _ => op_gt, lk_I0 fun _ _ _ _ _ => .bl _⟩
theorem cmp_ge : CmpOk c .GtE gGe := ⟨_, fun _ _ => op_ge, lk_I0 fun _ _ _ _ _ => .bl _⟩
theorem cmp_in : CmpOk c .In (gIn false) := ⟨rIn c.T.K false, fun _ ok => by rw [← ok.K]; exact op_in_seq, lk_in _⟩
theorem cmp_eq : CmpOk c .Eq gEq := ⟨_, fun _ ok => op_eqA ok, lk_eq⟩
theorem cmp_ne : CmpOk c .NotEq gNe := ⟨_, fun _ ok => op_neA ok, lk_ne⟩
variable {op op' : CmpOp} {g g' : G2} {a b d : Expr} {fa fb fd : EF} {pos : Pos} {T : Tab} {W : WX} {σ : L2.St} {H : Hp}
theorem chain_core {r r' : R2} (lk : Lk2 T r g) (lk' : Lk2 T r' g') {Q : VK} (q : tE T W (fChain g g' fa fb fd) σ H Q) : tChain r r' (tE T W fa) (tE T W fb) (tE T W fd) σ H Q := by
  obtain ⟨env, h, ρ, re, rh, w⟩ := q
  refine tE_then re rh w (fun _ _ e => e) fun x h1 ρ1 vx H1 x1 re1 rh1 r1 w1 => ?_
  refine tE_then re1 rh1 w1 (fun _ _ e => XW.mono x1 e) fun y h2 ρ2 vy H2 x2 re2 rh2 r2 w2 => ?_
  refine lk ρ2 H2 h2 x y vx vy _ _ rh2 (r1.mono x2) r2 (wp_mono (fun z h3 p => ?_) (fun _ _ e => e) _ (wp_bind w2))
  intro ρ3 vz H3 x3 rh3 rz
  cases rz with
  | bl k =>
    refine ⟨k, rfl, ?_⟩
    cases k with
    | false => exact p ρ3 _ H3 (x1.trans (x2.trans x3)) rh3 (.bl _)
    | true =>
      refine tE_then ((re2).mono x3) rh3 p (fun _ _ e => XW.mono (x1.trans (x2.trans x3)) e) fun w' h4 ρ4 vw H4 x4 re4 rh4 r4 w4 => ?_
      exact lk' ρ4 H4 h4 y w' vy vw Q _ rh4 ((r2.mono x3).mono x4) r4 (wp_mono (fun d h' p => PostV.mono (x1.trans (x2.trans (x3.trans x4))) p) (fun _ _ e => e) _ w4)
  | _ => exact p.elim
theorem ev_chain (o : CmpOk c op g) (o' : CmpOk c op' g') (ha : EV c a fa) (hb : EV c b fb) (hd : EV c d fd) (hm : lastMarks [op, op'] [b, d] = false) : EV c (.Compare a [op, op'] [b, d] pos) (fChain g g' fa fb fd) := fun X ok W tk => by
  obtain ⟨r, ho, lk⟩ := o
  obtain ⟨r', ho', lk'⟩ := o'
  exact (pe_chain (ho X ok) (ho' X ok) (ha X ok W tk) (hb X ok W tk) (hd X ok W tk) hm).zimp fun σ H Q q => chain_core lk lk' q
theorem tv_chain (o : CmpOk c op g) (o' : CmpOk c op' g') (ha : EV c a fa) (hb : EV c b fb) (hd : EV c d fd) (hm : lastMarks [op, op'] [b, d] = false) : TV c (.Compare a [op, op'] [b, d] pos) (fTest (fChain g g' fa fb fd)) := fun X ok W tk => by
  obtain ⟨r, ho, lk⟩ := o
  obtain ⟨r', ho', lk'⟩ := o'
  exact (pt_chain (ho X ok) (ho' X ok) (ha X ok W tk) (hb X ok W tk) (hd X ok W tk) hm).zimp fun σ H Q q => test_core (fun σ H Q q => chain_core lk lk' q) q
end
/-! ### own exception classes without own __init__ -/
structure ExcK (mg : Str → Option Value) (T : Tab) (x : Str) (k : Nat) : Prop where
  g : mg x = some (.ref (T.cl k))
  q : PySem.W.excIn T.K (T.cl k) [.type "ValueError", .type "Exception", .type "BaseException", .type "object"] "ValueError.__new__" = true
  kp : PySem.W.keepIn T.K (.ref (T.cl k)) = true
  h1 : PySem.W.subIn T.K (.ref (T.cl k)) (.type "BaseException") = some true
  h2 : PySem.W.typeIn T.K (.ref (T.cl k)) = some (.type "type")
theorem sv_raiseK {c : Ctx} {x m : Str} {j k : Nat} {p p2 pos pos2 : Pos} (e : ExcK c.mg c.T x k) (hc : c.calm = true) (hg : GlC c x) (hdb : (x == ("__debug__" : Str)) = false) :
    SV c (.Raise (some (.Call (.Name x p) [.Constant (.str m) j p2] [] pos)) none pos2) (sRaise0 k) := sv_raise0 hc PySem.F.excBase_ValueError e.q e.g e.kp e.h1 e.h2 hg hdb

/-! ### tables -/
def tb1 (k : Nat) (b : Bool) (r : Nat → Option Bool) : Nat → Option Bool := fun j => match Nat.beq j k with
  | true => some b
  | false => r j
def tb0 : Nat → Option Bool := fun _ => none
theorem tb_nil {P : Nat → Bool → Prop} : ∀ j b, tb0 j = some b → P j b := fun _ _ e => by cases e
theorem tb_cons {P : Nat → Bool → Prop} {k : Nat} {b : Bool} {r : Nat → Option Bool} (h : P k b) (hr : ∀ j b, r j = some b → P j b) : ∀ j b', tb1 k b r j = some b' → P j b' := fun j b' e => by
  unfold tb1 at e
  split at e
  · rename_i q
    cases e
    rw [Nat.eq_of_beq_eq_true q]
    exact h
  · exact hr j b' e
theorem sw_folded {ts vs : List Expr} {k k2 : Nat} {p p2 : Pos} {env : Env} (h : vs.all (foldedForSure 8) = true) : swappedStores [.Tuple ts k p] (.Tuple vs k2 p2) env = pure none := by
  unfold swappedStores
  simp only [h, if_true]
  repeat' (first | rfl | split | (simp only [pure_bind, bind_pure]))

theorem kit_ref {K : PySem.W.Frag} {C : Addr} {t : Value} {b : Bool} (hd : PySem.W.hasDictIn K C = true) (ht : PySem.W.typeIn K (.ref C) = some (.type "type")) (h : PySem.W.subIn K t (.ref C) = some b) (hb : t = .ref C → b = true) : PySem.W.kitOne K t (.ref C) = some b := by
  obtain ⟨cd, hc, _⟩ := PySem.W.any_some hd
  have e2 : ((PySem.W.clsIn K C).isSome && PySem.W.typeIn K (.ref C) == some (.type "type")) = true := by rw [hc, ht] <;> rfl
  unfold PySem.W.kitOne
  split
  · rename_i e
    rw [hb (by simpa using e)]
  · show (if ((PySem.W.clsIn K C).isSome && PySem.W.typeIn K (.ref C) == some (.type "type")) = true then PySem.W.subIn K t (.ref C) else none) = some b
    rw [if_pos e2]
    exact h
end Z

set_option Elab.async false
set_option linter.all false
set_option maxRecDepth 100000
set_option maxHeartbeats 1000000
/-! ZU: defs by what they answer; a block whose objects are counted anew -/
namespace Z
open PySem PySem.Spec PyProof.Rows L2

/-- neither a ref nor an instance in it -/
def flat : D → Bool
  | .non => true | .bl _ => true | .int _ => true | .str _ => true | .ty _ => true | .cls _ => true
  | .tup xs => go xs
  | .kl xs => go xs
  | .ins _ _ => false
  | .ref _ => false
  | .xn _ _ => false
where go : List D → Bool
  | [] => true
  | x :: xs => flat x && go xs
section
variable {T : Tab} {ρ ρ' : List Addr} {H H' : Hp}
mutual
theorem Rep.flat : ∀ {d : D} {v : V}, Z.flat d = true → Rep T ρ H d v → Rep T ρ' H d v
  | _, _, _, .non => .non
  | _, _, _, .bl b => .bl b
  | _, _, _, .int b => .int b
  | _, _, _, .str b => .str b
  | _, _, _, .ty b => .ty b
  | _, _, b, .tup s r => .tup s (RepL.flat b r)
  | _, _, b, .ins n e r => by cases b
  | _, _, b, .ref e => by cases b
  | _, _, _, .cls k => .cls k
  | _, _, b, .kl s r => .kl s (RepL.flat b r)
  | _, _, b, .xn0 _ => by cases b
  | _, _, b, .xn _ _ _ _ _ => by cases b
theorem RepL.flat : ∀ {d : List D} {v : List V}, Z.flat.go d = true → RepL T ρ H d v → RepL T ρ' H d v
  | _, _, _, .nil => .nil
  | _, _, b, .cons r s => by
    have b' := Bool.and_eq_true_iff.mp (show (_ && _) = true from b)
    exact .cons (Rep.flat b'.1 r) (RepL.flat b'.2 s)
end
theorem repH_nil : RepH T [] H [] := ⟨rfl, List.nodup_nil, fun n o a e => by simp at e⟩
/-- from the empty count on: nothing of ours was touched -/
theorem Ex.nil_to {h : Hs} (rh : RepH T ρ H h) (x : Ex [] H ρ' H') : Ex ρ H ρ H' := ⟨List.prefix_rfl, x.tup, x.frz, fun a u n e => ⟨(x.keep a u (by simp) e).1, n⟩⟩
theorem RepH.nil_to {h : Hs} (rh : RepH T ρ H h) (x : Ex [] H ρ' H') : RepH T ρ H' h :=
  ⟨rh.len, rh.nd, fun n o a e1 e2 => by
    obtain ⟨u, eu⟩ := rh.there (List.mem_of_getElem? e2)
    exact (rh.at_ n o a e1 e2).at (x.nil_to rh) ((x.keep a u (by simp) eu).1.trans eu.symm)⟩
theorem fresh_of {h : Hs} {a : Addr} (rh : RepH T ρ H h) (x : Ex [] H ρ' H') (m : a ∈ ρ') : a ∉ ρ := fun m2 => by
  obtain ⟨u, eu⟩ := rh.there m2
  exact (x.keep a u (by simp) eu).2 m
theorem Ex.nil_add {h : Hs} {a : Addr} (rh : RepH T ρ H h) (x : Ex [] H ρ' H') (m : a ∈ ρ') : Ex ρ H (ρ ++ [a]) H' := ⟨List.prefix_append _ _, x.tup, x.frz, fun b u n e => ⟨(x.keep b u (by simp) e).1, fun z => by
    rcases List.mem_append.mp z with z | z
    · exact n z
    · have z' : b = a := by simpa using z
      subst z'
      exact (x.keep b u (by simp) e).2 m⟩⟩
theorem RepH.nil_add {h : Hs} {a : Addr} {xs : List D} {ws : List V} (rh : RepH T ρ H h) (x : Ex [] H ρ' H') (m : a ∈ ρ') (e : H' a = some (.lst ws)) (r : ∀ ρ'', RepL T ρ'' H' xs ws) : RepH T (ρ ++ [a]) H' (h ++ [.lst xs]) := by
  have f := fresh_of rh x m
  have y := x.nil_add rh m
  refine ⟨by rw [List.length_append, List.length_append, rh.len]; rfl, ?_, fun n u b e1 e2 => ?_⟩
  · rw [List.nodup_append]
    exact ⟨rh.nd, by simp, fun b hb c hc z => f (by rw [List.mem_singleton] at hc; rw [← hc, ← z]; exact hb)⟩
  · by_cases hm : n < h.length
    · rw [List.getElem?_append_left hm] at e1
      rw [List.getElem?_append_left (by rw [rh.len]; exact hm)] at e2
      obtain ⟨u', eu⟩ := rh.there (List.mem_of_getElem? e2)
      exact (rh.at_ n u b e1 e2).at y ((x.keep b u' (by simp) eu).1.trans eu.symm)
    · have el : n = h.length := by
        obtain ⟨z, _⟩ := List.getElem?_eq_some_iff.mp e1
        rw [List.length_append] at z
        have : [AO.lst xs].length = 1 := rfl
        omega
      subst el
      rw [List.getElem?_append_right (Nat.le_refl _), Nat.sub_self] at e1
      rw [← rh.len, List.getElem?_append_right (Nat.le_refl _), Nat.sub_self] at e2
      cases e1; cases e2
      exact ⟨ws, e, r _⟩
end
/-- what a def answers -/
inductive Sm where
  | val (v : D) | list (xs : List D) | exc (k : Nat)
def sumF (A : List D → Option Sm) (F : FF) : FF := fun ds hs => match A ds with
  | some (.val v) => .ret v hs
  | some (.list xs) => newL xs hs
  | some (.exc k) => .exc ⟨k, none⟩ hs
  | none => F ds hs
def SmOk (F : FF) (ds : List D) : Sm → Prop
  | .val v => flat.go ds = true ∧ flat v = true ∧ ∃ j, F ds [] = .ret v j
  | .list xs => flat.go ds = true ∧ flat.go xs = true ∧ ∃ n j, F ds [] = .ret (.ref n) j ∧ j[n]? = some (.lst xs)
  | .exc k => flat.go ds = true ∧ ∃ j, F ds [] = .exc ⟨k, none⟩ j
theorem DefOk.sum {P : Program} {w : World} {mg : Str → Option Value} {base : Heap} {T : Tab} {k np : Nat} {x : Str} {F : FF} (d : DefOk P w mg base T k x np F) (A : List D → Option Sm)
    (h : ∀ ds s, A ds = some s → SmOk F ds s) : DefOk P w mg base T k x np (sumF A F) := by
  obtain ⟨f, fd, ps, ok, e, hm, kp, b⟩ := d.ex
  refine ⟨f, fd, ps, ok.imp fun vs H Q E ⟨ds, hs, ρ, r, rh, q⟩ => ?_, e, hm, kp, b⟩
  unfold sumF at q
  split at q
  · rename_i v ev
    obtain ⟨h1, h2, j, h3⟩ := h _ _ ev
    refine ⟨ds, [], [], r.flat h1, repH_nil, ?_⟩
    rw [h3]
    intro ρ' u H' x' rh' ru
    exact q ρ u H' (x'.nil_to rh) (rh.nil_to x') (ru.flat h2)
  · rename_i xs ev
    obtain ⟨h1, h2, n, j, h3, h4⟩ := h _ _ ev
    refine ⟨ds, [], [], r.flat h1, repH_nil, ?_⟩
    rw [h3]
    intro ρ' u H' x' rh' ru
    cases ru with
    | ref ea =>
      rename_i a
      obtain ⟨ws, e1, r1⟩ := rh'.at_ _ _ _ h4 ea
      have m := List.mem_of_getElem? ea
      refine q (ρ ++ [a]) (.ref a) H' (x'.nil_add rh m) (rh.nil_add x' m e1 fun ρ'' => r1.flat h2) ?_
      rw [← rh.len]
      exact .last
  · rename_i k' ev
    obtain ⟨h1, j, h3⟩ := h _ _ ev
    refine ⟨ds, [], [], r.flat h1, repH_nil, ?_⟩
    rw [h3]
    intro ρ' H' cls d' x' rh' rx
    refine q ρ H' cls d' (x'.nil_to rh) (rh.nil_to x') ⟨rx.1, rx.2.1, fun ds e => by cases e⟩
  · exact ⟨ds, hs, ρ, r, rh, q⟩
end Z
namespace Z
open PySem PySem.Spec PyProof.Rows L2
/-! ### a block by what it leans on: its objects are counted anew -/
theorem set_same {α : Type} {l : List α} {i : Nat} {v : α} (h : l[i]? = some v) : l.set i v = l := by
  refine List.ext_getElem? fun j => ?_
  by_cases hj : i = j
  · subst hj
    obtain ⟨z, _⟩ := List.getElem?_eq_some_iff.mp h
    rw [List.getElem?_set_self z, h]
  · rw [List.getElem?_set_ne hj]
def idxN : List Nat → Nat → Nat → Option Nat
  | [], _, _ => none
  | x :: r, n, i => match Nat.beq x n with
    | true => some i
    | false => idxN r n (i + 1)
theorem idxN_some : ∀ {l : List Nat} {n i p : Nat}, idxN l n i = some p → ∃ q, p = i + q ∧ l[q]? = some n
  | x :: r, n, i, p, e => by
    unfold idxN at e
    split at e
    · rename_i q
      cases e
      exact ⟨0, rfl, by rw [Nat.eq_of_beq_eq_true q]; rfl⟩
    · obtain ⟨q, e1, e2⟩ := idxN_some e
      exact ⟨q + 1, by omega, by simpa using e2⟩
theorem idxN_none : ∀ {l : List Nat} {n i : Nat}, idxN l n i = none → n ∉ l
  | [], _, _, _ => by simp
  | x :: r, n, i, e => by
    unfold idxN at e
    split at e
    · cases e
    · rename_i q
      intro m
      rcases List.mem_cons.mp m with z | z
      · subst z
        rw [Nat.beq_refl] at q
        cases q
      · exact idxN_none e z
def okO (h : Hs) (n : Nat) : Option AO := match h[n]? with
  | some .st => some .st
  | some (.lst xs) => match flat.go xs with
    | true => some (.lst xs)
    | false => none
  | _ => none
def cutGo (env : Env') (h : Hs) : List Nat → Env' → Hs → List Nat → Option (Env' × Hs)
  | [], e, h', _ => some (e, h')
  | i :: r, e, h', sel => match env[i]? with
    | some (some (.ref n)) => match idxN sel n 0 with
      | some p => cutGo env h r (e.set i (some (.ref p))) h' sel
      | none => match okO h n with
        | some o => cutGo env h r (e.set i (some (.ref sel.length))) (h' ++ [o]) (sel ++ [n])
        | none => none
    | some (some d) => match flat d with
      | true => cutGo env h r (e.set i (some d)) h' sel
      | false => none
    | _ => none
def cut (vs : List Nat) (env : Env') (h : Hs) : Option (Env' × Hs) := cutGo env h vs (List.replicate env.length none) [] []
structure CutI (T : Tab) (ρ : List Addr) (H : Hp) (σ : L2.St) (e : Env') (h' : Hs) (sel : List Nat) (ρ' : List Addr) : Prop where
  re : RepE T ρ' H e σ
  rh : RepH T ρ' H h'
  len : sel.length = ρ'.length
  at_ : ∀ (p n : Nat), sel[p]? = some n → ∃ a, ρ[n]? = some a ∧ ρ'[p]? = some a
section
variable {T : Tab} {ρ : List Addr} {H : Hp} {σ : L2.St} {env : Env'} {h : Hs}
theorem _root_.Z.RepE.monoY {ρ1 : List Addr} {H1 : Hp} {e : Env'} (x : Ey ρ H ρ1 H1) (re : RepE T ρ H e σ) : RepE T ρ1 H1 e σ := ⟨re.1, fun i d q => by
  obtain ⟨v, e1, r⟩ := re.2 i d q
  exact ⟨v, e1, r.monoY x⟩⟩
theorem repE_of_same {ρ1 : List Addr} {e : Env'} (n : ∀ d : D, ∀ i : Nat, e[i]? = some (some d) → ∀ v, Rep T ρ H d v → Rep T ρ1 H d v) (re : RepE T ρ H e σ) : RepE T ρ1 H e σ := ⟨re.1, fun i d q => by
  obtain ⟨v, e1, r⟩ := re.2 i d q
  exact ⟨v, e1, n d i q v r⟩⟩
theorem Ex.same {ρ1 : List Addr} (p : ρ <+: ρ1) (k : ∀ a u, a ∉ ρ → H a = some u → a ∉ ρ1) : Ex ρ H ρ1 H := ⟨p, fun _ _ q => q, fun _ _ _ q => q, fun a u n q => ⟨q, k a u n q⟩⟩
theorem cut_go (re : RepE T ρ H env σ) (rh : RepH T ρ H h) : ∀ (vs : List Nat) (e : Env') (h' : Hs) (sel : List Nat) (ρ' : List Addr), CutI T ρ H σ e h' sel ρ' → ∀ e2 h2, cutGo env h vs e h' sel = some (e2, h2) → ∃ sel2 ρ2, CutI T ρ H σ e2 h2 sel2 ρ2
  | [], e, h', sel, ρ', I, e2, h2, q => by cases q; exact ⟨sel, ρ', I⟩
  | i :: r, e, h', sel, ρ', I, e2, h2, q => by
    unfold cutGo at q
    split at q
    · rename_i n en
      obtain ⟨v, ev, rv⟩ := re.2 i _ en
      cases rv with
      | ref ea =>
        rename_i a
        split at q
        · rename_i p ep
          obtain ⟨p', e1, e3⟩ := idxN_some ep
          rw [Nat.zero_add] at e1
          subst e1
          obtain ⟨a', ea', ep'⟩ := I.at_ _ _ e3
          rw [ea] at ea'
          cases ea'
          refine cut_go re rh r _ h' sel ρ' ⟨?_, I.rh, I.len, I.at_⟩ e2 h2 q
          have s := I.re.set (i := i) (d := .ref p) (v := .ref a) (.ref ep')
          rwa [show σ.set i (some (V.ref a)) = σ from set_same ev] at s
        · rename_i ep
          split at q
          · rename_i o eo
            have hn : a ∉ ρ' := fun m => by
              obtain ⟨p, hp⟩ := List.getElem?_of_mem m
              have hl : p < sel.length := by
                obtain ⟨z, _⟩ := List.getElem?_eq_some_iff.mp hp
                rw [I.len]; exact z
              obtain ⟨b, e4, e5⟩ := I.at_ p _ (List.getElem?_eq_getElem hl)
              rw [hp] at e5
              cases e5
              have := nodup_ne rh.nd e4 ea
              exact idxN_none ep (this ▸ List.getElem_mem hl)
            have ro : h[n]? = some o ∧ (o = .st ∨ ∃ xs, o = .lst xs ∧ flat.go xs = true) := by
              unfold okO at eo
              split at eo
              · rename_i z; cases eo; exact ⟨z, .inl rfl⟩
              · rename_i xs z
                split at eo
                · rename_i z2; cases eo; exact ⟨z, .inr ⟨xs, rfl, z2⟩⟩
                · cases eo
              · cases eo
            have ra := rh.at_ _ _ _ ro.1 ea
            have notins : ∀ C dx fs, H a ≠ some (.ins C dx fs) := fun C dx fs z => by
              rcases ro.2 with rfl | ⟨xs, rfl, _⟩
              · obtain ⟨s, t, z2⟩ := ra; rw [z] at z2; cases z2
              · obtain ⟨s, z2, _⟩ := ra; rw [z] at z2; cases z2
            have notxd : ∀ fs, H a ≠ some (.xd fs) := fun fs z => by
              rcases ro.2 with rfl | ⟨xs, rfl, _⟩
              · obtain ⟨s, t, z2⟩ := ra; rw [z] at z2; cases z2
              · obtain ⟨s, z2, _⟩ := ra; rw [z] at z2; cases z2
            have x : Ey ρ' H (ρ' ++ [a]) H := ⟨List.prefix_append _ _, fun _ _ z => z, fun _ _ _ z => z, fun b C dx fs nb z => ⟨z, fun m => by
              rcases List.mem_append.mp m with m | m
              · exact nb m
              · have : b = a := by simpa using m
                subst this; exact notins _ _ _ z⟩, fun b fs nb z => ⟨z, fun m => by
              rcases List.mem_append.mp m with m | m
              · exact nb m
              · have : b = a := by simpa using m
                subst this; exact notxd _ z⟩⟩
            refine cut_go re rh r _ _ _ (ρ' ++ [a]) ⟨?_, ?_, by rw [List.length_append, List.length_append, I.len]; rfl, ?_⟩ e2 h2 q
            · have s := (I.re.monoY x).set (i := i) (d := .ref sel.length) (v := .ref a) (by rw [I.len]; exact .last)
              rwa [show σ.set i (some (V.ref a)) = σ from set_same ev] at s
            · refine ⟨by rw [List.length_append, List.length_append, I.rh.len]; rfl, ?_, fun m u b e1 e3 => ?_⟩
              · rw [List.nodup_append]
                exact ⟨I.rh.nd, by simp, fun b hb c hc z => hn (by rw [List.mem_singleton] at hc; rw [← hc, ← z]; exact hb)⟩
              · by_cases hm : m < h'.length
                · rw [List.getElem?_append_left hm] at e1
                  rw [List.getElem?_append_left (by rw [I.rh.len]; exact hm)] at e3
                  exact (I.rh.at_ m u b e1 e3).atY x rfl
                · have el : m = h'.length := by
                    obtain ⟨z, _⟩ := List.getElem?_eq_some_iff.mp e1
                    rw [List.length_append] at z
                    have : [o].length = 1 := rfl
                    omega
                  subst el
                  rw [List.getElem?_append_right (Nat.le_refl _), Nat.sub_self] at e1
                  rw [← I.rh.len, List.getElem?_append_right (Nat.le_refl _), Nat.sub_self] at e3
                  cases e1; cases e3
                  rcases ro.2 with rfl | ⟨xs, rfl, fx⟩
                  · exact ra
                  · obtain ⟨ws, e5, r5⟩ := ra
                    exact ⟨ws, e5, r5.flat fx⟩
            · intro p m e4
              by_cases hp : p < sel.length
              · rw [List.getElem?_append_left hp] at e4
                obtain ⟨b, e5, e6⟩ := I.at_ p m e4
                exact ⟨b, e5, by rw [List.getElem?_append_left (by rw [← I.len]; exact hp)]; exact e6⟩
              · have el : p = sel.length := by
                  obtain ⟨z, _⟩ := List.getElem?_eq_some_iff.mp e4
                  rw [List.length_append] at z
                  have : [n].length = 1 := rfl
                  omega
                subst el
                rw [List.getElem?_append_right (Nat.le_refl _), Nat.sub_self] at e4
                cases e4
                exact ⟨a, ea, by rw [I.len, List.getElem?_append_right (Nat.le_refl _), Nat.sub_self]; rfl⟩
          · cases q
    · rename_i d _ ed
      split at q
      · rename_i fd
        obtain ⟨v, ev, rv⟩ := re.2 i _ ed
        refine cut_go re rh r _ h' sel ρ' ⟨?_, I.rh, I.len, I.at_⟩ e2 h2 q
        have s := I.re.set (i := i) (d := d) (v := v) (rv.flat fd)
        rwa [show σ.set i (some v) = σ from set_same ev] at s
      · cases q
    · cases q

theorem cut_ok (re : RepE T ρ H env σ) (rh : RepH T ρ H h) {vs : List Nat} {e2 : Env'} {h2 : Hs} (q : cut vs env h = some (e2, h2)) : ∃ ρ', RepE T ρ' H e2 σ ∧ RepH T ρ' H h2 ∧ ∀ a ∈ ρ', a ∈ ρ := by
  have I0 : CutI T ρ H σ (List.replicate env.length none) [] [] [] := ⟨⟨by rw [List.length_replicate]; exact re.1, fun i d e => by
    rw [List.getElem?_replicate] at e
    split at e <;> cases e⟩, repH_nil, rfl, fun p n e => by simp at e⟩
  obtain ⟨sel, ρ', I⟩ := cut_go re rh vs _ _ _ _ I0 _ _ q
  refine ⟨ρ', I.re, I.rh, fun a m => ?_⟩
  obtain ⟨p, hp⟩ := List.getElem?_of_mem m
  have hl : p < sel.length := by
    obtain ⟨z, _⟩ := List.getElem?_eq_some_iff.mp hp
    rw [I.len]; exact z
  obtain ⟨b, e4, e5⟩ := I.at_ p _ (List.getElem?_eq_getElem hl)
  rw [hp] at e5
  cases e5
  exact List.mem_of_getElem? e4
end
def cutK (h : Hs) : Out → Hs → R Out := fun o _ => match o with
  | .rt d => match flat d with
    | true => .ret (.rt d) (h.map fun _ => .junk)
    | false => .fail
  | _ => .fail
/-- the end of a def's body: it hands back a flat value, its objects are counted anew -/
def sCut (vs : List Nat) (f : SF) : SF := fun env h => match cut vs env h with
  | some (e2, h2) => (f e2 h2).bind (cutK h)
  | none => .fail
theorem ssv_cut {c : Ctx} {ss : List Stmt} {f : SF} (vs : List Nat) (hs : SsV c ss f) : SsV c ss (sCut vs f) := fun X ok W tk po =>
  (hs X ok W tk po).zimp fun De σ H ⟨env, h, ρ, re, rh, w⟩ => by
    unfold sCut at w
    split at w
    · rename_i e2 h2 q
      obtain ⟨ρ', re2, rh2, sub⟩ := cut_ok re rh q
      refine ⟨e2, h2, ρ', re2, rh2, wp_mono (fun o h3 p => ?_) (fun _ _ e => e) _ (wp_bind w)⟩
      unfold cutK at p
      cases o with
      | rt d =>
        dsimp only at p
        split at p
        · rename_i fd
          intro ρ2 H2 x2 rh3 v rv
          have x3 : Ex ρ H ρ H2 := ⟨List.prefix_rfl, x2.tup, x2.frz, fun a u n e => ⟨(x2.keep a u (fun m => n (sub a m)) e).1, n⟩⟩
          refine p ρ H2 x3 ⟨by rw [List.length_map]; exact rh.len, rh.nd, fun n u a e1 e2 => ?_⟩ v (rv.flat fd)
          rw [List.getElem?_map] at e1
          have hm := List.mem_of_getElem? e2
          have ex : ∃ u, H2 a = some u := by
            by_cases m : a ∈ ρ'
            · exact rh3.there (x2.pre.subset m)
            · obtain ⟨u, eu⟩ := rh.there hm
              exact ⟨u, (x2.keep a u m eu).1⟩
          cases e9 : h[n]? with
          | none => rw [e9] at e1; cases e1
          | some z => rw [e9] at e1; cases e1; exact ex
        · exact p.elim
      | nx => exact p.elim
      | bk => exact p.elim
      | ct => exact p.elim
      | ex => exact p.elim
    · exact w.elim

/-! ### a block that hands back True -/
structure Good (f : SF) (env : Env') (h : Hs) : Prop where
  w : wp (f env h) (fun o _ => o = .rt (.bl true)) NoX
theorem good_seq {f g : SF} {env : Env'} {h : Hs} (w : wp (f env h) (fun o h1 => ∃ env1, o = .nx env1 ∧ Good g env1 h1) NoX) : Good (sSeq f g) env h := by
  refine ⟨wp_bind' (wp_mono (fun o h1 q => ?_) (fun _ _ e => e) _ w)⟩
  obtain ⟨env1, rfl, q⟩ := q
  exact q.w
theorem good_nx {f g : SF} {env env1 : Env'} {h h1 : Hs} (e : f env h = .ret (.nx env1) h1) (q : Good g env1 h1) : Good (sSeq f g) env h := good_seq (by rw [e]; exact ⟨env1, rfl, q⟩)
theorem good_cut {f : SF} {vs : List Nat} {env e2 : Env'} {h h2 : Hs} (e : cut vs env h = some (e2, h2)) (q : Good f e2 h2) : Good (sCut vs f) env h := by
  constructor
  unfold sCut
  rw [e]
  refine wp_bind' (wp_mono (fun o h1 z => ?_) (fun _ _ e => e) _ q.w)
  subst z
  rfl
def goodC : R Out → Bool
  | .ret (.rt (.bl true)) _ => true
  | .pick n k => allN (fun i => goodC (k i)) n
  | _ => false
theorem goodC_ok : ∀ {r : R Out}, goodC r = true → wp r (fun o _ => o = .rt (.bl true)) NoX
  | .ret o h, e => by
    unfold goodC at e
    split at e
    · rename_i q; cases q; rfl
    · rename_i q; cases q
    · cases e
  | .pick n k, e => fun i hi => goodC_ok (allN_ok (by simpa [goodC] using e) i hi)
  | .exc _ _, e => by simp [goodC] at e
  | .fail, e => by simp [goodC] at e
theorem good_of {f : SF} {env : Env'} {h : Hs} (e : goodC (f env h) = true) : Good f env h := ⟨goodC_ok e⟩
theorem good_ret {f : SF} {env : Env'} {h h1 : Hs} (e : f env h = .ret (.rt (.bl true)) h1) : Good f env h := by
  constructor
  rw [e]
  rfl
/-- a law by its rest -/
theorem holds_good {n i : Nat} {rest : SF} {F : FF} (hF : F = mkF 1 n (sSeq (sForget 0 (sSet (fCall gState (fCons (fVar 0) fNil)) i)) rest)) (hn : 0 < n)
    (h : Good rest (((List.replicate n none).set i (some (.ref 1))).set 0 none) [.junk, .st]) : Holds F := by
  intro ns hl
  have e := gState_ok hl []
  subst hF
  unfold mkF
  have e0 : (startE n [D.kl (ns.map D.int)]).set 0 none = List.replicate n none := by
    obtain ⟨m, rfl⟩ : ∃ m, n = m + 1 := ⟨n - 1, by omega⟩
    rfl
  have e1 : sForget 0 (sSet (fCall gState (fCons (fVar 0) fNil)) i) (startE n [D.kl (ns.map D.int)]) [] = .ret (.nx (((List.replicate n none).set i (some (.ref 1))).set 0 none)) [.junk, .st] := by
    have e2 : sSet (fCall gState (fCons (fVar 0) fNil)) i (startE n [D.kl (ns.map D.int)]) [] = .ret (.nx ((startE n [D.kl (ns.map D.int)]).set i (some (.ref 1)))) [.junk, .st] := by
      show ((gState [D.kl (ns.map D.int)] []).catch _ _) = _
      rw [gState_ok hl]; rfl
    unfold sForget
    rw [e2]
    show R.ret (Out.nx (((startE n [D.kl (ns.map D.int)]).set i (some (.ref 1))).set 0 none)) _ = _
    by_cases hi : i = 0
    · subst hi; rw [List.set_set, List.set_set, e0]
      obtain ⟨m, rfl⟩ : ∃ m, n = m + 1 := ⟨n - 1, by omega⟩
      rfl
    · rw [List.set_comm _ _ hi, e0, List.set_comm _ _ hi]
      obtain ⟨m, rfl⟩ : ∃ m, n = m + 1 := ⟨n - 1, by omega⟩
      rfl
  rw [seq_nx e1]
  show wp (((rest _ _).nox).bind _) _ _
  refine wp_bind' ?_
  have key : ∀ {r : R Out}, wp r (fun o _ => o = .rt (.bl true)) NoX → wp r.nox (fun o h1 => wp ((match o with | .nx _ => .ret .non h1 | .rt d => .ret d h1 | .ex e _ => .exc e h1 | _ => .fail : R D)) (fun d _ => d = .bl true) (fun _ _ => False)) (fun _ _ => False) := by
    intro r
    induction r with
    | ret a h => intro q; cases (show a = _ from q); rfl
    | exc e h => intro q; exact q
    | fail => intro q; exact q
    | pick n k ih => intro q i hi; exact ih i (q i hi)
  exact key h.w
end Z

set_option Elab.async false
set_option linter.all false
set_option maxRecDepth 100000
set_option maxHeartbeats 1000000
/-! ZV: reaching a cut by computation -/
namespace Z
open PySem PySem.Spec PyProof.Rows L2
def beqD0 : D → D → Bool
  | .int i, .int j => decide (i = j)
  | .ref m, .ref n => Nat.beq m n
  | _, _ => false
theorem beqD0_eq : ∀ {a b : D}, beqD0 a b = true → a = b
  | .int i, .int j, e => by rw [show i = j from by simpa [beqD0] using e]
  | .ref m, .ref n, e => by rw [Nat.eq_of_beq_eq_true (show Nat.beq m n = true from e)]
def beqE : Env' → Env' → Bool
  | [], [] => true
  | none :: r, none :: s => beqE r s
  | some a :: r, some b :: s => match beqD0 a b with
    | true => beqE r s
    | false => false
  | _, _ => false
theorem beqE_eq : ∀ {a b : Env'}, beqE a b = true → a = b
  | [], [], _ => rfl
  | none :: r, none :: s, e => by rw [beqE_eq (show beqE r s = true from e)]
  | some a :: r, some b :: s, e => by
    unfold beqE at e
    split at e
    · rename_i q; rw [beqD0_eq q, beqE_eq e]
    · cases e
def isSt : Hs → Bool
  | [.st] => true
  | _ => false
theorem isSt_eq : ∀ {h : Hs}, isSt h = true → h = [.st] := by
  intro h e
  unfold isSt at e
  split at e
  · rfl
  · cases e
def atCut (vs : List Nat) (P : Env' → Hs → Bool) : R Out → Bool
  | .ret (.nx env) h => match cut vs env h with
    | some (e, h) => P e h
    | none => false
  | .pick n k => allN (fun i => atCut vs P (k i)) n
  | _ => false
theorem atCut_ok {vs : List Nat} {P : Env' → Hs → Bool} {t : SF} (ht : ∀ e h, P e h = true → Good t e h) : ∀ {r : R Out}, atCut vs P r = true → wp r (fun o h1 => ∃ env1, o = .nx env1 ∧ Good (sCut vs t) env1 h1) NoX
  | .ret (.nx env) h, q => by
    unfold atCut at q
    split at q
    · rename_i e h' ec
      exact ⟨env, rfl, good_cut ec (ht _ _ q)⟩
    · cases q
  | .pick n k, q => fun i hi => atCut_ok ht (allN_ok (by simpa [atCut] using q) i hi)
  | .ret (.rt _) _, q => by simp [atCut] at q
  | .ret (.bk _) _, q => by simp [atCut] at q
  | .ret (.ct _) _, q => by simp [atCut] at q
  | .ret (.ex _ _) _, q => by simp [atCut] at q
  | .exc _ _, q => by simp [atCut] at q
  | .fail, q => by simp [atCut] at q
theorem R.bind_bind {α β γ : Type} {f : α → Hs → R β} {g : β → Hs → R γ} : ∀ {r : R α}, (r.bind f).bind g = r.bind fun a h => (f a h).bind g
  | .ret _ _ => rfl
  | .exc _ _ => rfl
  | .fail => rfl
  | .pick n k => by
    show R.pick n _ = R.pick n _
    congr
    funext i
    exact R.bind_bind
theorem seq_assoc (a b d : SF) : sSeq a (sSeq b d) = sSeq (sSeq a b) d := by
  funext env h
  show (a env h).bind _ = ((a env h).bind _).bind _
  rw [R.bind_bind]
  congr
  funext o h1
  cases o <;> rfl
/-- one statement, two, three: then a cut -/
theorem good_reach1 {a t : SF} {vs : List Nat} {env : Env'} {h : Hs} (P : Env' → Hs → Bool) (q : atCut vs P (a env h) = true) (ht : ∀ e h, P e h = true → Good t e h) : Good (sSeq' a (sCut vs t)) env h := by
  rw [← sSeq_eq]
  exact good_seq (atCut_ok ht q)
theorem good_reach2 {a b t : SF} {vs : List Nat} {env : Env'} {h : Hs} (P : Env' → Hs → Bool) (q : atCut vs P (sSeq' a b env h) = true) (ht : ∀ e h, P e h = true → Good t e h) : Good (sSeq' a (sSeq' b (sCut vs t))) env h := by
  rw [← sSeq_eq] at q
  rw [← sSeq_eq, ← sSeq_eq, seq_assoc]
  exact good_seq (atCut_ok ht q)
def goodAt (r : R Out) (i : Nat) : Bool := match r with
  | .pick _ k => goodC (k i)
  | _ => false
def pickN : R Out → Nat
  | .pick n _ => n
  | _ => 0
theorem goodC_of {r : R Out} {n : Nat} (h0 : pickN r = n) (h1 : 0 < n) (h : ∀ i, i < n → goodAt r i = true) : goodC r = true := by
  cases r with
  | pick m k =>
    have e : m = n := h0
    subst e
    show allN (fun i => goodC (k i)) m = true
    exact allN_of h
  | _ => exact absurd (show 0 = n from h0) (by omega)
end Z

set_option Elab.async false
set_option linter.all false
namespace KG
open Z
/-- the greatest common divisor, as Euclid walks -/
def A__law_gcd : List D → Option Sm
  | [.int a, .int b] => match decide (-1000 < b ∧ b < 1000) with
    | true => some (.val (.int (Int.gcd a b)))
    | false => none
  | _ => none
def A_power_modulo : List D → Option Sm
  | [.int a, .int k, .int p] => match decide (0 < p ∧ p < 1000 ∧ 0 ≤ k ∧ k < 1000) with
    | true => some (.val (.int ((a ^ k.toNat) % p)))
    | false => none
  | _ => none
/-- Euclid with one factor -/
def euc : Nat → Int → Int → Int → Int → Option (Int × Int)
  | 0, _, _, _, _ => none
  | n + 1, old, new, u, v => match decide (new = 0) with
    | true => some (old, u)
    | false => euc n new (old - old.fdiv new * new) v (u - old.fdiv new * v)
def A_inverse_modulo : List D → Option Sm
  | [.int a, .int p] => match decide (0 < p ∧ p < 100) with
    | true => match euc 100 p (a.fmod p) 0 1 with
      | some (old, u) => match decide (old = 1) with
        | true => some (.val (.int (u.fmod p)))
        | false => some (.exc 1)
      | none => none
    | false => none
  | _ => none
def A__law_no_inverse : List D → Option Sm
  | [.int a, .int p] => match A_inverse_modulo [.int a, .int p] with
    | some (.val _) => some (.val (.bl false))
    | some (.exc _) => some (.val (.bl true))
    | _ => none
  | _ => none
end KG

set_option Elab.async false
set_option linter.all false
set_option maxRecDepth 100000
set_option maxHeartbeats 4000000
namespace KG
open PySem PySem.Spec PyProof.Rows L2 Z
def tab (K : PySem.W.Frag) (C0 : Addr) (C1 : Addr) : Tab := ⟨K, fun n => match n with | 0 => C0 | 1 => C1 | _ => 0, fun _ => [], none⟩
def topS (i : Nat) : Stmt := PySem.Challenge.pw_classtable_k01_modulo_a_prime.main.body.getD i (.Pass ⟨0, 0, 0, 0⟩)
section
variable {P : Program} {w : World} {mg : Str → Option Value} {base : Heap} {T : Tab}
abbrev s_prime_powers : Stmt := topS 4
abbrev N_prime_powers : List Str := ["n", "found", "p", "k"]
theorem sc_prime_powers : FnScope N_prime_powers ["n"] (defScope s_prime_powers) := ⟨rfl, rfl, rfl, by decide +kernel, rfl, by decide +kernel, by decide +kernel⟩
def b_prime_powers : SF := sSeq (sSet (fLst (fNil)) 1) (sSeq (sSet (fC (.int 2)) 2) (sSeq (sWhile 1000000 (fTest (fBin gLe (fBin gMulI (fVar 2) (fVar 2)) (fVar 0))) (sSeq (sSet (fC (.int 0)) 3) (sSeq (sWhile 1000000 (fTest (fBin gEq (fBin gModI (fVar 0) (fVar 2)) (fC (.int 0)))) (sSeq (sSet (fBin gDivI (fVar 0) (fVar 2)) 0) (sSet (fBin gAdd (fVar 3) (fC (.int 1))) 3))) (sSeq (sIf (fTest (fBin gGt (fVar 3) (fC (.int 0)))) (sExpr (fMeth 5 gAppend (fVar 1) (fCons (fTup (fCons (fVar 2) (fCons (fVar 3) (fNil)))) (fNil)))) (sNil)) (sSet (fBin gAdd (fVar 2) (fC (.int 1))) 2))))) (sSeq (sIf (fTest (fBin gGt (fVar 0) (fC (.int 1)))) (sExpr (fMeth 5 gAppend (fVar 1) (fCons (fTup (fCons (fVar 0) (fCons (fC (.int 1)) (fNil)))) (fNil)))) (sNil)) (sRet (fCallL gTuple (fCons (fVar 1) (fNil)))))))
theorem sv_prime_powers (m_tuple : mg "tuple" = none) : SsV (cx0 P w mg base T N_prime_powers (defScope s_prime_powers) 0) (defBody s_prime_powers) b_prime_powers := by
  have nd : N_prime_powers.Nodup := sc_prime_powers.nd
  exact (sv_cons (sv_set 1 nd rfl (by first | exact Or.inl rfl | exact Or.inr ⟨rfl, rfl⟩) (ev_lst av_nil) (fun _ => rfl)) (sv_cons (sv_set 2 nd rfl (by first | exact Or.inl rfl | exact Or.inr ⟨rfl, rfl⟩) ev_int (fun _ => rfl)) (sv_cons (sv_while 1000000 (tv_le (ev_mul (ev_var 2 rfl (by first | exact Or.inl rfl | exact Or.inr (Or.inl rfl) | exact Or.inr (Or.inr rfl)) (by decide) (by decide)) (ev_var 2 rfl (by first | exact Or.inl rfl | exact Or.inr (Or.inl rfl) | exact Or.inr (Or.inr rfl)) (by decide) (by decide))) (ev_var 0 rfl (by first | exact Or.inl rfl | exact Or.inr (Or.inl rfl) | exact Or.inr (Or.inr rfl)) (by decide) (by decide))) (sv_cons (sv_set 3 nd rfl (by first | exact Or.inl rfl | exact Or.inr ⟨rfl, rfl⟩) ev_int (fun _ => rfl)) (sv_cons (sv_while 1000000 (tv_eq (ev_mod (ev_var 0 rfl (by first | exact Or.inl rfl | exact Or.inr (Or.inl rfl) | exact Or.inr (Or.inr rfl)) (by decide) (by decide)) (ev_var 2 rfl (by first | exact Or.inl rfl | exact Or.inr (Or.inl rfl) | exact Or.inr (Or.inr rfl)) (by decide) (by decide))) ev_int) (sv_cons (sv_set 0 nd rfl (by first | exact Or.inl rfl | exact Or.inr ⟨rfl, rfl⟩) (ev_div (ev_var 0 rfl (by first | exact Or.inl rfl | exact Or.inr (Or.inl rfl) | exact Or.inr (Or.inr rfl)) (by decide) (by decide)) (ev_var 2 rfl (by first | exact Or.inl rfl | exact Or.inr (Or.inl rfl) | exact Or.inr (Or.inr rfl)) (by decide) (by decide))) (fun _ => rfl)) (sv_one (sv_set 3 nd rfl (by first | exact Or.inl rfl | exact Or.inr ⟨rfl, rfl⟩) (ev_add (ev_var 3 rfl (by first | exact Or.inl rfl | exact Or.inr (Or.inl rfl) | exact Or.inr (Or.inr rfl)) (by decide) (by decide)) ev_int) (fun _ => rfl))))) (sv_cons (sv_if (tv_gt (ev_var 3 rfl (by first | exact Or.inl rfl | exact Or.inr (Or.inl rfl) | exact Or.inr (Or.inr rfl)) (by decide) (by decide)) ev_int) (sv_one (sv_expr (ev_append (ev_var 1 rfl (by first | exact Or.inl rfl | exact Or.inr (Or.inl rfl) | exact Or.inr (Or.inr rfl)) (by decide) (by decide)) (av_cons (ev_tup (av_cons (ev_var 2 rfl (by first | exact Or.inl rfl | exact Or.inr (Or.inl rfl) | exact Or.inr (Or.inr rfl)) (by decide) (by decide)) (av_cons (ev_var 3 rfl (by first | exact Or.inl rfl | exact Or.inr (Or.inl rfl) | exact Or.inr (Or.inr rfl)) (by decide) (by decide)) av_nil (fun _ => rfl)) (fun _ => rfl))) av_nil (fun _ => rfl)) (fun _ => rfl) (fun _ => rfl) rfl (fun _ => rfl) (fun _ => rfl)) (fun _ => rfl))) sv_nil) (sv_one (sv_set 2 nd rfl (by first | exact Or.inl rfl | exact Or.inr ⟨rfl, rfl⟩) (ev_add (ev_var 2 rfl (by first | exact Or.inl rfl | exact Or.inr (Or.inl rfl) | exact Or.inr (Or.inr rfl)) (by decide) (by decide)) ev_int) (fun _ => rfl))))))) (sv_cons (sv_if (tv_gt (ev_var 0 rfl (by first | exact Or.inl rfl | exact Or.inr (Or.inl rfl) | exact Or.inr (Or.inr rfl)) (by decide) (by decide)) ev_int) (sv_one (sv_expr (ev_append (ev_var 1 rfl (by first | exact Or.inl rfl | exact Or.inr (Or.inl rfl) | exact Or.inr (Or.inr rfl)) (by decide) (by decide)) (av_cons (ev_tup (av_cons (ev_var 0 rfl (by first | exact Or.inl rfl | exact Or.inr (Or.inl rfl) | exact Or.inr (Or.inr rfl)) (by decide) (by decide)) (av_cons ev_int av_nil (fun _ => rfl)) (fun _ => rfl))) av_nil (fun _ => rfl)) (fun _ => rfl) (fun _ => rfl) rfl (fun _ => rfl) (fun _ => rfl)) (fun _ => rfl))) sv_nil) (sv_one (sv_ret (ev_tuple rfl m_tuple (av_cons (ev_var 1 rfl (by first | exact Or.inl rfl | exact Or.inr (Or.inl rfl) | exact Or.inr (Or.inr rfl)) (by decide) (by decide)) av_nil (fun _ => rfl)) (fun _ => rfl) (fun _ => rfl))))))))
def F_prime_powers : FF := mkF 1 4 b_prime_powers
abbrev s_is_prime : Stmt := topS 5
abbrev N_is_prime : List Str := ["n"]
theorem sc_is_prime : FnScope N_is_prime ["n"] (defScope s_is_prime) := ⟨rfl, rfl, rfl, by decide +kernel, rfl, by decide +kernel, by decide +kernel⟩
def b_is_prime : SF := sRet (fAndV (fBin gGt (fVar 0) (fC (.int 1))) (fBin gEq (fCall F_prime_powers (fCons (fVar 0) (fNil))) (fTup (fCons (fTup (fCons (fVar 0) (fCons (fC (.int 1)) (fNil)))) (fNil)))))
theorem sv_is_prime (d_prime_powers : DefOk P w mg base T 1 "prime_powers" 1 F_prime_powers) : SsV (cx0 P w mg base T N_is_prime (defScope s_is_prime) 1) (defBody s_is_prime) b_is_prime := by
  have nd : N_is_prime.Nodup := sc_is_prime.nd
  exact (sv_one (sv_ret (ev_and (ev_gt (ev_var 0 rfl (by first | exact Or.inl rfl | exact Or.inr (Or.inl rfl) | exact Or.inr (Or.inr rfl)) (by decide) (by decide)) ev_int) (ev_one (ev_eq (ev_call d_prime_powers (Nat.le_of_ble_eq_true rfl) rfl rfl (av_cons (ev_var 0 rfl (by first | exact Or.inl rfl | exact Or.inr (Or.inl rfl) | exact Or.inr (Or.inr rfl)) (by decide) (by decide)) av_nil (fun _ => rfl)) (by decide) (fun _ => rfl) (fun _ => rfl)) (ev_tup (av_cons (ev_tup (av_cons (ev_var 0 rfl (by first | exact Or.inl rfl | exact Or.inr (Or.inl rfl) | exact Or.inr (Or.inr rfl)) (by decide) (by decide)) (av_cons ev_int av_nil (fun _ => rfl)) (fun _ => rfl))) av_nil (fun _ => rfl))))))))
def F_is_prime : FF := mkF 1 1 b_is_prime
abbrev s_power_modulo : Stmt := topS 6
abbrev N_power_modulo : List Str := ["a", "k", "p", "total"]
theorem sc_power_modulo : FnScope N_power_modulo ["a", "k", "p"] (defScope s_power_modulo) := ⟨rfl, rfl, rfl, by decide +kernel, rfl, by decide +kernel, by decide +kernel⟩
def b_power_modulo : SF := sSeq (sSet (fBin gModI (fC (.int 1)) (fVar 2)) 3) (sSeq (sSet (fBin gModI (fVar 0) (fVar 2)) 0) (sSeq (sWhile 1000000 (fTest (fBin gGt (fVar 1) (fC (.int 0)))) (sSeq (sIf (fTest (fBin gEq (fBin gModI (fVar 1) (fC (.int 2))) (fC (.int 1)))) (sSet (fBin gModI (fBin gMulI (fVar 3) (fVar 0)) (fVar 2)) 3) (sNil)) (sSeq (sSet (fBin gModI (fBin gMulI (fVar 0) (fVar 0)) (fVar 2)) 0) (sSet (fBin gDivI (fVar 1) (fC (.int 2))) 1)))) (sRet (fVar 3))))
theorem sv_power_modulo  : SsV (cx0 P w mg base T N_power_modulo (defScope s_power_modulo) 0) (defBody s_power_modulo) b_power_modulo := by
  have nd : N_power_modulo.Nodup := sc_power_modulo.nd
  exact (sv_cons (sv_set 3 nd rfl (by first | exact Or.inl rfl | exact Or.inr ⟨rfl, rfl⟩) (ev_mod ev_int (ev_var 2 rfl (by first | exact Or.inl rfl | exact Or.inr (Or.inl rfl) | exact Or.inr (Or.inr rfl)) (by decide) (by decide))) (fun _ => rfl)) (sv_cons (sv_set 0 nd rfl (by first | exact Or.inl rfl | exact Or.inr ⟨rfl, rfl⟩) (ev_mod (ev_var 0 rfl (by first | exact Or.inl rfl | exact Or.inr (Or.inl rfl) | exact Or.inr (Or.inr rfl)) (by decide) (by decide)) (ev_var 2 rfl (by first | exact Or.inl rfl | exact Or.inr (Or.inl rfl) | exact Or.inr (Or.inr rfl)) (by decide) (by decide))) (fun _ => rfl)) (sv_cons (sv_while 1000000 (tv_gt (ev_var 1 rfl (by first | exact Or.inl rfl | exact Or.inr (Or.inl rfl) | exact Or.inr (Or.inr rfl)) (by decide) (by decide)) ev_int) (sv_cons (sv_if (tv_eq (ev_mod (ev_var 1 rfl (by first | exact Or.inl rfl | exact Or.inr (Or.inl rfl) | exact Or.inr (Or.inr rfl)) (by decide) (by decide)) ev_int) ev_int) (sv_one (sv_set 3 nd rfl (by first | exact Or.inl rfl | exact Or.inr ⟨rfl, rfl⟩) (ev_mod (ev_mul (ev_var 3 rfl (by first | exact Or.inl rfl | exact Or.inr (Or.inl rfl) | exact Or.inr (Or.inr rfl)) (by decide) (by decide)) (ev_var 0 rfl (by first | exact Or.inl rfl | exact Or.inr (Or.inl rfl) | exact Or.inr (Or.inr rfl)) (by decide) (by decide))) (ev_var 2 rfl (by first | exact Or.inl rfl | exact Or.inr (Or.inl rfl) | exact Or.inr (Or.inr rfl)) (by decide) (by decide))) (fun _ => rfl))) sv_nil) (sv_cons (sv_set 0 nd rfl (by first | exact Or.inl rfl | exact Or.inr ⟨rfl, rfl⟩) (ev_mod (ev_mul (ev_var 0 rfl (by first | exact Or.inl rfl | exact Or.inr (Or.inl rfl) | exact Or.inr (Or.inr rfl)) (by decide) (by decide)) (ev_var 0 rfl (by first | exact Or.inl rfl | exact Or.inr (Or.inl rfl) | exact Or.inr (Or.inr rfl)) (by decide) (by decide))) (ev_var 2 rfl (by first | exact Or.inl rfl | exact Or.inr (Or.inl rfl) | exact Or.inr (Or.inr rfl)) (by decide) (by decide))) (fun _ => rfl)) (sv_one (sv_set 1 nd rfl (by first | exact Or.inl rfl | exact Or.inr ⟨rfl, rfl⟩) (ev_div (ev_var 1 rfl (by first | exact Or.inl rfl | exact Or.inr (Or.inl rfl) | exact Or.inr (Or.inr rfl)) (by decide) (by decide)) ev_int) (fun _ => rfl)))))) (sv_one (sv_ret (ev_var 3 rfl (by first | exact Or.inl rfl | exact Or.inr (Or.inl rfl) | exact Or.inr (Or.inr rfl)) (by decide) (by decide)))))))
def F_power_modulo : FF := mkF 3 4 b_power_modulo
def G_power_modulo : FF := sumF A_power_modulo F_power_modulo
abbrev s_inverse_modulo : Stmt := topS 7
abbrev N_inverse_modulo : List Str := ["a", "p", "old", "new", "u", "v", "q"]
theorem sc_inverse_modulo : FnScope N_inverse_modulo ["a", "p"] (defScope s_inverse_modulo) := ⟨rfl, rfl, rfl, by decide +kernel, rfl, by decide +kernel, by decide +kernel⟩
def b_inverse_modulo : SF := sSeq (sPar 2 3 (fCons (fVar 1) (fCons (fBin gModI (fVar 0) (fVar 1)) (fNil)))) (sSeq (sAsg (fTup (fCons (fC (.int 0)) (fCons (fC (.int 1)) (fNil)))) (gtTup 2 (gtCons (gtN 4) (gtCons (gtN 5) (gtNil))))) (sSeq (sWhile 1000000 (fTest (fBin gNe (fVar 3) (fC (.int 0)))) (sSeq (sSet (fBin gDivI (fVar 2) (fVar 3)) 6) (sSeq (sPar 2 3 (fCons (fVar 3) (fCons (fBin gSubI (fVar 2) (fBin gMulI (fVar 6) (fVar 3))) (fNil)))) (sPar 4 5 (fCons (fVar 5) (fCons (fBin gSubI (fVar 4) (fBin gMulI (fVar 6) (fVar 5))) (fNil))))))) (sSeq (sIf (fTest (fBin gNe (fVar 2) (fC (.int 1)))) (sRaise0 1) (sNil)) (sRet (fBin gModI (fVar 4) (fVar 1))))))
theorem sv_inverse_modulo (e_1 : ExcK mg T "ZeroDivisor" 1) : SsV (cx0 P w mg base T N_inverse_modulo (defScope s_inverse_modulo) 0) (defBody s_inverse_modulo) b_inverse_modulo := by
  have nd : N_inverse_modulo.Nodup := sc_inverse_modulo.nd
  exact (sv_cons (sv_par 2 3 rfl nd rfl rfl (by decide) rfl rfl (av_cons (ev_var 1 rfl (by first | exact Or.inl rfl | exact Or.inr (Or.inl rfl) | exact Or.inr (Or.inr rfl)) (by decide) (by decide)) (av_cons (ev_mod (ev_var 0 rfl (by first | exact Or.inl rfl | exact Or.inr (Or.inl rfl) | exact Or.inr (Or.inr rfl)) (by decide) (by decide)) (ev_var 1 rfl (by first | exact Or.inl rfl | exact Or.inr (Or.inl rfl) | exact Or.inr (Or.inr rfl)) (by decide) (by decide))) av_nil (fun _ => rfl)) (fun _ => rfl)) (fun env h => by obtain ⟨⟩ := env; cases h; rfl) (fun _ => rfl)) (sv_cons (sv_asg (ev_tup (av_cons ev_int (av_cons ev_int av_nil (fun _ => rfl)) (fun _ => rfl))) (gv_tup rfl (gsv_cons (gv_name 4 nd rfl (by first | exact Or.inl rfl | exact Or.inr ⟨rfl, rfl⟩)) (gsv_cons (gv_name 5 nd rfl (by first | exact Or.inl rfl | exact Or.inr ⟨rfl, rfl⟩)) gsv_nil (fun _ => rfl)) (fun _ => rfl)) (fun _ => rfl) (fun _ => rfl)) (fun _ => rfl) (fun _ => sw_folded rfl) (fun _ => rfl)) (sv_cons (sv_while 1000000 (tv_ne (ev_var 3 rfl (by first | exact Or.inl rfl | exact Or.inr (Or.inl rfl) | exact Or.inr (Or.inr rfl)) (by decide) (by decide)) ev_int) (sv_cons (sv_set 6 nd rfl (by first | exact Or.inl rfl | exact Or.inr ⟨rfl, rfl⟩) (ev_div (ev_var 2 rfl (by first | exact Or.inl rfl | exact Or.inr (Or.inl rfl) | exact Or.inr (Or.inr rfl)) (by decide) (by decide)) (ev_var 3 rfl (by first | exact Or.inl rfl | exact Or.inr (Or.inl rfl) | exact Or.inr (Or.inr rfl)) (by decide) (by decide))) (fun _ => rfl)) (sv_cons (sv_par 2 3 rfl nd rfl rfl (by decide) rfl rfl (av_cons (ev_var 3 rfl (by first | exact Or.inl rfl | exact Or.inr (Or.inl rfl) | exact Or.inr (Or.inr rfl)) (by decide) (by decide)) (av_cons (ev_sub (ev_var 2 rfl (by first | exact Or.inl rfl | exact Or.inr (Or.inl rfl) | exact Or.inr (Or.inr rfl)) (by decide) (by decide)) (ev_mul (ev_var 6 rfl (by first | exact Or.inl rfl | exact Or.inr (Or.inl rfl) | exact Or.inr (Or.inr rfl)) (by decide) (by decide)) (ev_var 3 rfl (by first | exact Or.inl rfl | exact Or.inr (Or.inl rfl) | exact Or.inr (Or.inr rfl)) (by decide) (by decide)))) av_nil (fun _ => rfl)) (fun _ => rfl)) (fun env h => by obtain ⟨⟩ := env; cases h; rfl) (fun _ => rfl)) (sv_one (sv_par 4 5 rfl nd rfl rfl (by decide) rfl rfl (av_cons (ev_var 5 rfl (by first | exact Or.inl rfl | exact Or.inr (Or.inl rfl) | exact Or.inr (Or.inr rfl)) (by decide) (by decide)) (av_cons (ev_sub (ev_var 4 rfl (by first | exact Or.inl rfl | exact Or.inr (Or.inl rfl) | exact Or.inr (Or.inr rfl)) (by decide) (by decide)) (ev_mul (ev_var 6 rfl (by first | exact Or.inl rfl | exact Or.inr (Or.inl rfl) | exact Or.inr (Or.inr rfl)) (by decide) (by decide)) (ev_var 5 rfl (by first | exact Or.inl rfl | exact Or.inr (Or.inl rfl) | exact Or.inr (Or.inr rfl)) (by decide) (by decide)))) av_nil (fun _ => rfl)) (fun _ => rfl)) (fun env h => by obtain ⟨⟩ := env; cases h; rfl) (fun _ => rfl)))))) (sv_cons (sv_if (tv_ne (ev_var 2 rfl (by first | exact Or.inl rfl | exact Or.inr (Or.inl rfl) | exact Or.inr (Or.inr rfl)) (by decide) (by decide)) ev_int) (sv_one (sv_raiseK e_1 rfl rfl (by decide))) sv_nil) (sv_one (sv_ret (ev_mod (ev_var 4 rfl (by first | exact Or.inl rfl | exact Or.inr (Or.inl rfl) | exact Or.inr (Or.inr rfl)) (by decide) (by decide)) (ev_var 1 rfl (by first | exact Or.inl rfl | exact Or.inr (Or.inl rfl) | exact Or.inr (Or.inr rfl)) (by decide) (by decide)))))))))
def F_inverse_modulo : FF := mkF 2 7 b_inverse_modulo
def G_inverse_modulo : FF := sumF A_inverse_modulo F_inverse_modulo
abbrev s_generator_modulo : Stmt := topS 8
abbrev N_generator_modulo : List Str := ["p", "factors", "g", "q", "_"]
theorem sc_generator_modulo : FnScope N_generator_modulo ["p"] (defScope s_generator_modulo) := ⟨rfl, rfl, rfl, by decide +kernel, rfl, by decide +kernel, by decide +kernel⟩
def b_generator_modulo : SF := sSeq (sSet (fLc 1000000 [3, 4] (fIter (fCall F_prime_powers (fCons (fBin gSubI (fVar 0) (fC (.int 1))) (fNil)))) (gtTup 2 (gtCons (gtN 3) (gtCons (gtN 4) (gtNil)))) (bYes) (fVar 3)) 1) (sSeq (sSet (fC (.int 1)) 2) (sSeq (sWhile 1000000 (fAnd (fTest (fBin gGt (fVar 0) (fC (.int 2)))) (fTest (fCallL gAny (fCons (fLc 1000000 [3] (fIter (fVar 1)) (gtN 3) (bYes) (fBin gEq (fCall G_power_modulo (fCons (fVar 2) (fCons (fBin gDivI (fBin gSubI (fVar 0) (fC (.int 1))) (fVar 3)) (fCons (fVar 0) (fNil))))) (fC (.int 1)))) (fNil))))) (sSet (fBin gAdd (fVar 2) (fC (.int 1))) 2)) (sRet (fVar 2))))
theorem sv_generator_modulo (d_power_modulo : DefOk P w mg base T 1 "power_modulo" 3 G_power_modulo) (d_prime_powers : DefOk P w mg base T 1 "prime_powers" 1 F_prime_powers) (m_any : mg "any" = none) : SsV (cx0 P w mg base T N_generator_modulo (defScope s_generator_modulo) 1) (defBody s_generator_modulo) b_generator_modulo := by
  have nd : N_generator_modulo.Nodup := sc_generator_modulo.nd
  exact (sv_cons (sv_setLc 1000000 1 (own := [("q", 3), ("_", 4)]) rfl nd rfl rfl rfl rfl rfl (by decide +kernel) (blkOk_by rfl) (by decide) (iv_any (ev_call d_prime_powers (Nat.le_of_ble_eq_true rfl) rfl rfl (av_cons (ev_sub (ev_var 0 rfl (by first | exact Or.inl rfl | exact Or.inr (Or.inl rfl) | exact Or.inr (Or.inr rfl)) (by decide) (by decide)) ev_int) av_nil (fun _ => rfl)) (by decide) (fun _ => rfl) (fun _ => rfl))) (gv_tup rfl (gsv_cons (gv_name 3 nd rfl (by first | exact Or.inl rfl | exact Or.inr ⟨rfl, rfl⟩)) (gsv_cons (gv_name 4 nd rfl (by first | exact Or.inl rfl | exact Or.inr ⟨rfl, rfl⟩)) gsv_nil (fun _ => rfl)) (fun _ => rfl)) (fun _ => rfl) (fun _ => rfl)) bsv_nil (ev_var 3 rfl (by first | exact Or.inl rfl | exact Or.inr (Or.inl rfl) | exact Or.inr (Or.inr rfl)) (by decide) (by decide)) (fun _ _ => rfl)) (sv_cons (sv_set 2 nd rfl (by first | exact Or.inl rfl | exact Or.inr ⟨rfl, rfl⟩) ev_int (fun _ => rfl)) (sv_cons (sv_while 1000000 (tv_w (wv_and (tv_gt (ev_var 0 rfl (by first | exact Or.inl rfl | exact Or.inr (Or.inl rfl) | exact Or.inr (Or.inr rfl)) (by decide) (by decide)) ev_int) (wv_and1 (tv_val (fun _ _ => rfl) (ev_any rfl rfl m_any (av_cons (ev_lc 1000000 (own := [("q", 3)]) rfl nd (blkOk_by rfl) (by decide) (iv_any (ev_var 1 rfl (by first | exact Or.inl rfl | exact Or.inr (Or.inl rfl) | exact Or.inr (Or.inr rfl)) (by decide) (by decide))) (gv_name 3 nd rfl (by first | exact Or.inl rfl | exact Or.inr ⟨rfl, rfl⟩)) bsv_nil (ev_eq (ev_call d_power_modulo (Nat.le_of_ble_eq_true rfl) rfl rfl (av_cons (ev_var 2 rfl (by first | exact Or.inl rfl | exact Or.inr (Or.inl rfl) | exact Or.inr (Or.inr rfl)) (by decide) (by decide)) (av_cons (ev_div (ev_sub (ev_var 0 rfl (by first | exact Or.inl rfl | exact Or.inr (Or.inl rfl) | exact Or.inr (Or.inr rfl)) (by decide) (by decide)) ev_int) (ev_var 3 rfl (by first | exact Or.inl rfl | exact Or.inr (Or.inl rfl) | exact Or.inr (Or.inr rfl)) (by decide) (by decide))) (av_cons (ev_var 0 rfl (by first | exact Or.inl rfl | exact Or.inr (Or.inl rfl) | exact Or.inr (Or.inr rfl)) (by decide) (by decide)) av_nil (fun _ => rfl)) (fun _ => rfl)) (fun _ => rfl)) (by decide) (fun _ => rfl) (fun _ => rfl)) ev_int) (fun _ _ => rfl)) av_nil (fun _ => rfl)) (fun _ => rfl) (fun _ => rfl)))))) (sv_one (sv_set 2 nd rfl (by first | exact Or.inl rfl | exact Or.inr ⟨rfl, rfl⟩) (ev_add (ev_var 2 rfl (by first | exact Or.inl rfl | exact Or.inr (Or.inl rfl) | exact Or.inr (Or.inr rfl)) (by decide) (by decide)) ev_int) (fun _ => rfl)))) (sv_one (sv_ret (ev_var 2 rfl (by first | exact Or.inl rfl | exact Or.inr (Or.inl rfl) | exact Or.inr (Or.inr rfl)) (by decide) (by decide)))))))
def F_generator_modulo : FF := mkF 1 5 b_generator_modulo
abbrev s_prime_above : Stmt := topS 9
abbrev N_prime_above : List Str := ["e", "bound", "p"]
theorem sc_prime_above : FnScope N_prime_above ["e", "bound"] (defScope s_prime_above) := ⟨rfl, rfl, rfl, by decide +kernel, rfl, by decide +kernel, by decide +kernel⟩
def b_prime_above : SF := sSeq (sSet (fBin gAdd (fBin gMulI (fCallL gMax2 (fCons (fBin gDivI (fVar 1) (fVar 0)) (fCons (fC (.int 0)) (fNil)))) (fVar 0)) (fC (.int 1))) 2) (sSeq (sWhile 1000000 (fOr (fTest (fBin gLe (fVar 2) (fVar 1))) (fNot (fTest (fCall F_is_prime (fCons (fVar 2) (fNil)))))) (sSet (fBin gAdd (fVar 2) (fVar 0)) 2)) (sRet (fVar 2)))
theorem sv_prime_above (d_is_prime : DefOk P w mg base T 2 "is_prime" 1 F_is_prime) (m_max : mg "max" = none) : SsV (cx0 P w mg base T N_prime_above (defScope s_prime_above) 2) (defBody s_prime_above) b_prime_above := by
  have nd : N_prime_above.Nodup := sc_prime_above.nd
  exact (sv_cons (sv_set 2 nd rfl (by first | exact Or.inl rfl | exact Or.inr ⟨rfl, rfl⟩) (ev_add (ev_mul (ev_max2 rfl rfl m_max (av_cons (ev_div (ev_var 1 rfl (by first | exact Or.inl rfl | exact Or.inr (Or.inl rfl) | exact Or.inr (Or.inr rfl)) (by decide) (by decide)) (ev_var 0 rfl (by first | exact Or.inl rfl | exact Or.inr (Or.inl rfl) | exact Or.inr (Or.inr rfl)) (by decide) (by decide))) (av_cons ev_int av_nil (fun _ => rfl)) (fun _ => rfl)) (fun _ => rfl) (fun _ => rfl)) (ev_var 0 rfl (by first | exact Or.inl rfl | exact Or.inr (Or.inl rfl) | exact Or.inr (Or.inr rfl)) (by decide) (by decide))) ev_int) (fun _ => rfl)) (sv_cons (sv_while 1000000 (tv_w (wv_or (tv_le (ev_var 2 rfl (by first | exact Or.inl rfl | exact Or.inr (Or.inl rfl) | exact Or.inr (Or.inr rfl)) (by decide) (by decide)) (ev_var 1 rfl (by first | exact Or.inl rfl | exact Or.inr (Or.inl rfl) | exact Or.inr (Or.inr rfl)) (by decide) (by decide))) (wv_or1 (tv_not (tv_val (fun _ _ => rfl) (ev_call d_is_prime (Nat.le_of_ble_eq_true rfl) rfl rfl (av_cons (ev_var 2 rfl (by first | exact Or.inl rfl | exact Or.inr (Or.inl rfl) | exact Or.inr (Or.inr rfl)) (by decide) (by decide)) av_nil (fun _ => rfl)) (by decide) (fun _ => rfl) (fun _ => rfl))))))) (sv_one (sv_set 2 nd rfl (by first | exact Or.inl rfl | exact Or.inr ⟨rfl, rfl⟩) (ev_add (ev_var 2 rfl (by first | exact Or.inl rfl | exact Or.inr (Or.inl rfl) | exact Or.inr (Or.inr rfl)) (by decide) (by decide)) (ev_var 0 rfl (by first | exact Or.inl rfl | exact Or.inr (Or.inl rfl) | exact Or.inr (Or.inr rfl)) (by decide) (by decide))) (fun _ => rfl)))) (sv_one (sv_ret (ev_var 2 rfl (by first | exact Or.inl rfl | exact Or.inr (Or.inl rfl) | exact Or.inr (Or.inr rfl)) (by decide) (by decide))))))
def F_prime_above : FF := mkF 2 3 b_prime_above
abbrev s__law_state : Stmt := topS 11
abbrev N__law_state : List Str := ["_law_script", "_law_seed", "_law_total", "_law_cell"]
theorem sc__law_state : FnScope N__law_state ["_law_script"] (defScope s__law_state) := ⟨rfl, rfl, rfl, by decide +kernel, rfl, by decide +kernel, by decide +kernel⟩
def b__law_state : SF := sSeq (sSet (fC (.int 0)) 1) (sSeq (sSet (fC (.int 1)) 2) (sSeq (sFor 1000000 (fIter (fSl (fVar 0) (fNoP) (fPart (fC (.int 63))))) (gtN 3) (sSeq (sSet (fBin gAdd (fBin gMulI (fVar 1) (fC (.int 1000003))) (fCallL gAbs (fCons (fVar 3) (fNil)))) 1) (sSet (fBin gModI (fCallL gInt (fCons (fBin gAdd (fBin gMulI (fVar 2) (fC (.int 48271))) (fVar 3)) (fNil))) (fC (.int 2147483647))) 2))) (sRet (fLst (fCons (fVar 1) (fCons (fVar 2) (fNil)))))))
theorem sv__law_state (m_abs : mg "abs" = none) (m_int : mg "int" = none) : SsV (cx0 P w mg base T N__law_state (defScope s__law_state) 0) (defBody s__law_state) b__law_state := by
  have nd : N__law_state.Nodup := sc__law_state.nd
  exact (sv_cons (sv_set 1 nd rfl (by first | exact Or.inl rfl | exact Or.inr ⟨rfl, rfl⟩) ev_int (fun _ => rfl)) (sv_cons (sv_set 2 nd rfl (by first | exact Or.inl rfl | exact Or.inr ⟨rfl, rfl⟩) ev_int (fun _ => rfl)) (sv_cons (sv_for 1000000 rfl (iv_any (ev_sl (ev_var 0 rfl (by first | exact Or.inl rfl | exact Or.inr (Or.inl rfl) | exact Or.inr (Or.inr rfl)) (by decide) (by decide)) ov_none (ov_some ev_int))) (gv_name 3 nd rfl (by first | exact Or.inl rfl | exact Or.inr ⟨rfl, rfl⟩)) (sv_cons (sv_set 1 nd rfl (by first | exact Or.inl rfl | exact Or.inr ⟨rfl, rfl⟩) (ev_add (ev_mul (ev_var 1 rfl (by first | exact Or.inl rfl | exact Or.inr (Or.inl rfl) | exact Or.inr (Or.inr rfl)) (by decide) (by decide)) ev_int) (ev_abs rfl m_abs (av_cons (ev_var 3 rfl (by first | exact Or.inl rfl | exact Or.inr (Or.inl rfl) | exact Or.inr (Or.inr rfl)) (by decide) (by decide)) av_nil (fun _ => rfl)) (fun _ => rfl) (fun _ => rfl))) (fun _ => rfl)) (sv_one (sv_set 2 nd rfl (by first | exact Or.inl rfl | exact Or.inr ⟨rfl, rfl⟩) (ev_mod (ev_int1 rfl m_int (av_cons (ev_add (ev_mul (ev_var 2 rfl (by first | exact Or.inl rfl | exact Or.inr (Or.inl rfl) | exact Or.inr (Or.inr rfl)) (by decide) (by decide)) ev_int) (ev_var 3 rfl (by first | exact Or.inl rfl | exact Or.inr (Or.inl rfl) | exact Or.inr (Or.inr rfl)) (by decide) (by decide))) av_nil (fun _ => rfl)) (fun _ => rfl) (fun _ => rfl)) ev_int) (fun _ => rfl)))) (fun _ _ => rfl)) (sv_one (sv_ret (ev_lst (av_cons (ev_var 1 rfl (by first | exact Or.inl rfl | exact Or.inr (Or.inl rfl) | exact Or.inr (Or.inr rfl)) (by decide) (by decide)) (av_cons (ev_var 2 rfl (by first | exact Or.inl rfl | exact Or.inr (Or.inl rfl) | exact Or.inr (Or.inr rfl)) (by decide) (by decide)) av_nil (fun _ => rfl)) (fun _ => rfl))))))))
abbrev F__law_state : FF := gState
abbrev s__law_take : Stmt := topS 12
abbrev N__law_take : List Str := ["_law_state_here", "_law_m", "_law_value"]
theorem sc__law_take : FnScope N__law_take ["_law_state_here", "_law_m"] (defScope s__law_take) := ⟨rfl, rfl, rfl, by decide +kernel, rfl, by decide +kernel, by decide +kernel⟩
def b__law_take : SF := sSeq (sIf (fTest (fBin gGt (fBin gIx (fVar 0) (fC (.int 0))) (fC (.int 0)))) (sSeq (sSet (fBin gModI (fCallL gInt (fCons (fBin gIx (fVar 0) (fC (.int 0))) (fNil))) (fVar 1)) 2) (sSeq (sAsg (fBin gDivI (fBin gIx (fVar 0) (fC (.int 0))) (fVar 1)) (gtSub gSet (fVar 0) (fC (.int 0)))) (sRet (fVar 2)))) (sNil)) (sSeq (sAsg (fBin gModI (fCallL gInt (fCons (fBin gAdd (fBin gMulI (fBin gIx (fVar 0) (fC (.int 1))) (fC (.int 48271))) (fC (.int 11))) (fNil))) (fC (.int 2147483647))) (gtSub gSet (fVar 0) (fC (.int 1)))) (sRet (fBin gModI (fCallL gInt (fCons (fBin gDivI (fBin gIx (fVar 0) (fC (.int 1))) (fC (.int 7))) (fNil))) (fVar 1))))
theorem sv__law_take (m_int : mg "int" = none) : SsV (cx0 P w mg base T N__law_take (defScope s__law_take) 0) (defBody s__law_take) b__law_take := by
  have nd : N__law_take.Nodup := sc__law_take.nd
  exact (sv_cons (sv_if (tv_gt (ev_ix (ev_var 0 rfl (by first | exact Or.inl rfl | exact Or.inr (Or.inl rfl) | exact Or.inr (Or.inr rfl)) (by decide) (by decide)) ev_int (fun _ _ => rfl)) ev_int) (sv_cons (sv_set 2 nd rfl (by first | exact Or.inl rfl | exact Or.inr ⟨rfl, rfl⟩) (ev_mod (ev_int1 rfl m_int (av_cons (ev_ix (ev_var 0 rfl (by first | exact Or.inl rfl | exact Or.inr (Or.inl rfl) | exact Or.inr (Or.inr rfl)) (by decide) (by decide)) ev_int (fun _ _ => rfl)) av_nil (fun _ => rfl)) (fun _ => rfl) (fun _ => rfl)) (ev_var 1 rfl (by first | exact Or.inl rfl | exact Or.inr (Or.inl rfl) | exact Or.inr (Or.inr rfl)) (by decide) (by decide))) (fun _ => rfl)) (sv_cons (sv_asg (ev_div (ev_ix (ev_var 0 rfl (by first | exact Or.inl rfl | exact Or.inr (Or.inl rfl) | exact Or.inr (Or.inr rfl)) (by decide) (by decide)) ev_int (fun _ _ => rfl)) (ev_var 1 rfl (by first | exact Or.inl rfl | exact Or.inr (Or.inl rfl) | exact Or.inr (Or.inr rfl)) (by decide) (by decide))) (gv_sub (ev_var 0 rfl (by first | exact Or.inl rfl | exact Or.inr (Or.inl rfl) | exact Or.inr (Or.inr rfl)) (by decide) (by decide)) ev_int (fun _ _ => set_list) lk_set (fun _ _ => rfl)) (fun _ => rfl) (fun _ => rfl) (fun _ => rfl)) (sv_one (sv_ret (ev_var 2 rfl (by first | exact Or.inl rfl | exact Or.inr (Or.inl rfl) | exact Or.inr (Or.inr rfl)) (by decide) (by decide)))))) sv_nil) (sv_cons (sv_asg (ev_mod (ev_int1 rfl m_int (av_cons (ev_add (ev_mul (ev_ix (ev_var 0 rfl (by first | exact Or.inl rfl | exact Or.inr (Or.inl rfl) | exact Or.inr (Or.inr rfl)) (by decide) (by decide)) ev_int (fun _ _ => rfl)) ev_int) ev_int) av_nil (fun _ => rfl)) (fun _ => rfl) (fun _ => rfl)) ev_int) (gv_sub (ev_var 0 rfl (by first | exact Or.inl rfl | exact Or.inr (Or.inl rfl) | exact Or.inr (Or.inr rfl)) (by decide) (by decide)) ev_int (fun _ _ => set_list) lk_set (fun _ _ => rfl)) (fun _ => rfl) (fun _ => rfl) (fun _ => rfl)) (sv_one (sv_ret (ev_mod (ev_int1 rfl m_int (av_cons (ev_div (ev_ix (ev_var 0 rfl (by first | exact Or.inl rfl | exact Or.inr (Or.inl rfl) | exact Or.inr (Or.inr rfl)) (by decide) (by decide)) ev_int (fun _ _ => rfl)) ev_int) av_nil (fun _ => rfl)) (fun _ => rfl) (fun _ => rfl)) (ev_var 1 rfl (by first | exact Or.inl rfl | exact Or.inr (Or.inl rfl) | exact Or.inr (Or.inr rfl)) (by decide) (by decide)))))))
abbrev F__law_take : FF := gTake
abbrev s__law_gcd : Stmt := topS 13
abbrev N__law_gcd : List Str := ["_law_a", "_law_b"]
theorem sc__law_gcd : FnScope N__law_gcd ["_law_a", "_law_b"] (defScope s__law_gcd) := ⟨rfl, rfl, rfl, by decide +kernel, rfl, by decide +kernel, by decide +kernel⟩
def b__law_gcd : SF := sSeq (sSet (fCallL gAbs (fCons (fVar 0) (fNil))) 0) (sSeq (sSet (fCallL gAbs (fCons (fVar 1) (fNil))) 1) (sSeq (sWhile 1000000 (fTest (fBin gNe (fVar 1) (fC (.int 0)))) (sPar 0 1 (fCons (fVar 1) (fCons (fBin gModI (fCallL gInt (fCons (fVar 0) (fNil))) (fVar 1)) (fNil))))) (sRet (fVar 0))))
theorem sv__law_gcd (m_abs : mg "abs" = none) (m_int : mg "int" = none) : SsV (cx0 P w mg base T N__law_gcd (defScope s__law_gcd) 0) (defBody s__law_gcd) b__law_gcd := by
  have nd : N__law_gcd.Nodup := sc__law_gcd.nd
  exact (sv_cons (sv_set 0 nd rfl (by first | exact Or.inl rfl | exact Or.inr ⟨rfl, rfl⟩) (ev_abs rfl m_abs (av_cons (ev_var 0 rfl (by first | exact Or.inl rfl | exact Or.inr (Or.inl rfl) | exact Or.inr (Or.inr rfl)) (by decide) (by decide)) av_nil (fun _ => rfl)) (fun _ => rfl) (fun _ => rfl)) (fun _ => rfl)) (sv_cons (sv_set 1 nd rfl (by first | exact Or.inl rfl | exact Or.inr ⟨rfl, rfl⟩) (ev_abs rfl m_abs (av_cons (ev_var 1 rfl (by first | exact Or.inl rfl | exact Or.inr (Or.inl rfl) | exact Or.inr (Or.inr rfl)) (by decide) (by decide)) av_nil (fun _ => rfl)) (fun _ => rfl) (fun _ => rfl)) (fun _ => rfl)) (sv_cons (sv_while 1000000 (tv_ne (ev_var 1 rfl (by first | exact Or.inl rfl | exact Or.inr (Or.inl rfl) | exact Or.inr (Or.inr rfl)) (by decide) (by decide)) ev_int) (sv_one (sv_par 0 1 rfl nd rfl rfl (by decide) rfl rfl (av_cons (ev_var 1 rfl (by first | exact Or.inl rfl | exact Or.inr (Or.inl rfl) | exact Or.inr (Or.inr rfl)) (by decide) (by decide)) (av_cons (ev_mod (ev_int1 rfl m_int (av_cons (ev_var 0 rfl (by first | exact Or.inl rfl | exact Or.inr (Or.inl rfl) | exact Or.inr (Or.inr rfl)) (by decide) (by decide)) av_nil (fun _ => rfl)) (fun _ => rfl) (fun _ => rfl)) (ev_var 1 rfl (by first | exact Or.inl rfl | exact Or.inr (Or.inl rfl) | exact Or.inr (Or.inr rfl)) (by decide) (by decide))) av_nil (fun _ => rfl)) (fun _ => rfl)) (fun env h => by obtain ⟨⟩ := env; cases h; rfl) (fun _ => rfl)))) (sv_one (sv_ret (ev_var 0 rfl (by first | exact Or.inl rfl | exact Or.inr (Or.inl rfl) | exact Or.inr (Or.inr rfl)) (by decide) (by decide)))))))
def F__law_gcd : FF := mkF 2 2 b__law_gcd
def G__law_gcd : FF := sumF A__law_gcd F__law_gcd
abbrev s__law_primes : Stmt := topS 14
abbrev N__law_primes : List Str := ["_law_n", "_law_found", "_law_p", "_law_q"]
theorem sc__law_primes : FnScope N__law_primes ["_law_n"] (defScope s__law_primes) := ⟨rfl, rfl, rfl, by decide +kernel, rfl, by decide +kernel, by decide +kernel⟩
def b__law_primes : SF := sSeq (sSet (fLst (fNil)) 1) (sSeq (sFor 1000000 (fRng2 (fCons (fC (.int 2)) (fCons (fBin gAdd (fVar 0) (fC (.int 1))) (fNil)))) (gtN 2) (sIf (fAnd (fTest (fBin gEq (fBin gModI (fVar 0) (fVar 2)) (fC (.int 0)))) (fTest (fBin gEq (fCallL gLen (fCons (fLc 1000000 [3] (fIter (fVar 1)) (gtN 3) (fTest (fBin gEq (fBin gModI (fVar 2) (fVar 3)) (fC (.int 0)))) (fVar 3)) (fNil))) (fC (.int 0))))) (sExpr (fMeth 5 gAppend (fVar 1) (fCons (fVar 2) (fNil)))) (sNil))) (sRet (fVar 1)))
theorem sv__law_primes (m_len : mg "len" = none) (m_range : mg "range" = none) : SsV (cx0 P w mg base T N__law_primes (defScope s__law_primes) 0) (defBody s__law_primes) b__law_primes := by
  have nd : N__law_primes.Nodup := sc__law_primes.nd
  exact (sv_cons (sv_set 1 nd rfl (by first | exact Or.inl rfl | exact Or.inr ⟨rfl, rfl⟩) (ev_lst av_nil) (fun _ => rfl)) (sv_cons (sv_for 1000000 rfl (iv_rng2 rfl m_range (av_cons ev_int (av_cons (ev_add (ev_var 0 rfl (by first | exact Or.inl rfl | exact Or.inr (Or.inl rfl) | exact Or.inr (Or.inr rfl)) (by decide) (by decide)) ev_int) av_nil (fun _ => rfl)) (fun _ => rfl)) (fun _ => rfl) (fun _ => rfl)) (gv_name 2 nd rfl (by first | exact Or.inl rfl | exact Or.inr ⟨rfl, rfl⟩)) (sv_one (sv_if (tv_w (wv_and (tv_eq (ev_mod (ev_var 0 rfl (by first | exact Or.inl rfl | exact Or.inr (Or.inl rfl) | exact Or.inr (Or.inr rfl)) (by decide) (by decide)) (ev_var 2 rfl (by first | exact Or.inl rfl | exact Or.inr (Or.inl rfl) | exact Or.inr (Or.inr rfl)) (by decide) (by decide))) ev_int) (wv_and1 (tv_eq (ev_len rfl m_len (av_cons (ev_lc 1000000 (own := [("_law_q", 3)]) rfl nd (blkOk_by rfl) (by decide) (iv_any (ev_var 1 rfl (by first | exact Or.inl rfl | exact Or.inr (Or.inl rfl) | exact Or.inr (Or.inr rfl)) (by decide) (by decide))) (gv_name 3 nd rfl (by first | exact Or.inl rfl | exact Or.inr ⟨rfl, rfl⟩)) (bsv_one (tv_eq (ev_mod (ev_var 2 rfl (by first | exact Or.inl rfl | exact Or.inr (Or.inl rfl) | exact Or.inr (Or.inr rfl)) (by decide) (by decide)) (ev_var 3 rfl (by first | exact Or.inl rfl | exact Or.inr (Or.inl rfl) | exact Or.inr (Or.inr rfl)) (by decide) (by decide))) ev_int)) (ev_var 3 rfl (by first | exact Or.inl rfl | exact Or.inr (Or.inl rfl) | exact Or.inr (Or.inr rfl)) (by decide) (by decide)) (fun _ _ => rfl)) av_nil (fun _ => rfl)) (fun _ => rfl) (fun _ => rfl)) ev_int)))) (sv_one (sv_expr (ev_append (ev_var 1 rfl (by first | exact Or.inl rfl | exact Or.inr (Or.inl rfl) | exact Or.inr (Or.inr rfl)) (by decide) (by decide)) (av_cons (ev_var 2 rfl (by first | exact Or.inl rfl | exact Or.inr (Or.inl rfl) | exact Or.inr (Or.inr rfl)) (by decide) (by decide)) av_nil (fun _ => rfl)) (fun _ => rfl) (fun _ => rfl) rfl (fun _ => rfl) (fun _ => rfl)) (fun _ => rfl))) sv_nil)) (fun _ _ => rfl)) (sv_one (sv_ret (ev_var 1 rfl (by first | exact Or.inl rfl | exact Or.inr (Or.inl rfl) | exact Or.inr (Or.inr rfl)) (by decide) (by decide))))))
def F__law_primes : FF := mkF 1 4 b__law_primes
abbrev s__law_walk : Stmt := topS 15
abbrev N__law_walk : List Str := ["_law_g", "_law_p", "_law_found", "_law_x", "_law_turn"]
theorem sc__law_walk : FnScope N__law_walk ["_law_g", "_law_p"] (defScope s__law_walk) := ⟨rfl, rfl, rfl, by decide +kernel, rfl, by decide +kernel, by decide +kernel⟩
def b__law_walk : SF := sSeq (sSet (fLst (fNil)) 2) (sSeq (sSet (fC (.int 1)) 3) (sSeq (sFor 1000000 (fRng1 (fCons (fBin gSubI (fVar 1) (fC (.int 1))) (fNil))) (gtN 4) (sSeq (sSet (fBin gModI (fBin gMulI (fVar 3) (fVar 0)) (fVar 1)) 3) (sIf (fTest (fBin (gIn true) (fVar 3) (fVar 2))) (sExpr (fMeth 5 gAppend (fVar 2) (fCons (fVar 3) (fNil)))) (sNil)))) (sRet (fCallL gLen (fCons (fVar 2) (fNil))))))
theorem sv__law_walk (m_len : mg "len" = none) (m_range : mg "range" = none) : SsV (cx0 P w mg base T N__law_walk (defScope s__law_walk) 0) (defBody s__law_walk) b__law_walk := by
  have nd : N__law_walk.Nodup := sc__law_walk.nd
  exact (sv_cons (sv_set 2 nd rfl (by first | exact Or.inl rfl | exact Or.inr ⟨rfl, rfl⟩) (ev_lst av_nil) (fun _ => rfl)) (sv_cons (sv_set 3 nd rfl (by first | exact Or.inl rfl | exact Or.inr ⟨rfl, rfl⟩) ev_int (fun _ => rfl)) (sv_cons (sv_for 1000000 rfl (iv_rng1 rfl m_range (av_cons (ev_sub (ev_var 1 rfl (by first | exact Or.inl rfl | exact Or.inr (Or.inl rfl) | exact Or.inr (Or.inr rfl)) (by decide) (by decide)) ev_int) av_nil (fun _ => rfl)) (fun _ => rfl)) (gv_name 4 nd rfl (by first | exact Or.inl rfl | exact Or.inr ⟨rfl, rfl⟩)) (sv_cons (sv_set 3 nd rfl (by first | exact Or.inl rfl | exact Or.inr ⟨rfl, rfl⟩) (ev_mod (ev_mul (ev_var 3 rfl (by first | exact Or.inl rfl | exact Or.inr (Or.inl rfl) | exact Or.inr (Or.inr rfl)) (by decide) (by decide)) (ev_var 0 rfl (by first | exact Or.inl rfl | exact Or.inr (Or.inl rfl) | exact Or.inr (Or.inr rfl)) (by decide) (by decide))) (ev_var 1 rfl (by first | exact Or.inl rfl | exact Or.inr (Or.inl rfl) | exact Or.inr (Or.inr rfl)) (by decide) (by decide))) (fun _ => rfl)) (sv_one (sv_if (tv_nin (ev_var 3 rfl (by first | exact Or.inl rfl | exact Or.inr (Or.inl rfl) | exact Or.inr (Or.inr rfl)) (by decide) (by decide)) (ev_var 2 rfl (by first | exact Or.inl rfl | exact Or.inr (Or.inl rfl) | exact Or.inr (Or.inr rfl)) (by decide) (by decide)) rfl) (sv_one (sv_expr (ev_append (ev_var 2 rfl (by first | exact Or.inl rfl | exact Or.inr (Or.inl rfl) | exact Or.inr (Or.inr rfl)) (by decide) (by decide)) (av_cons (ev_var 3 rfl (by first | exact Or.inl rfl | exact Or.inr (Or.inl rfl) | exact Or.inr (Or.inr rfl)) (by decide) (by decide)) av_nil (fun _ => rfl)) (fun _ => rfl) (fun _ => rfl) rfl (fun _ => rfl) (fun _ => rfl)) (fun _ => rfl))) sv_nil))) (fun _ _ => rfl)) (sv_one (sv_ret (ev_len rfl m_len (av_cons (ev_var 2 rfl (by first | exact Or.inl rfl | exact Or.inr (Or.inl rfl) | exact Or.inr (Or.inr rfl)) (by decide) (by decide)) av_nil (fun _ => rfl)) (fun _ => rfl) (fun _ => rfl)))))))
def F__law_walk : FF := mkF 2 5 b__law_walk
abbrev s__law_no_inverse : Stmt := topS 16
abbrev N__law_no_inverse : List Str := ["_law_a", "_law_m", "bad"]
theorem sc__law_no_inverse : FnScope N__law_no_inverse ["_law_a", "_law_m"] (defScope s__law_no_inverse) := ⟨rfl, rfl, rfl, by decide +kernel, rfl, by decide +kernel, by decide +kernel⟩
def b__law_no_inverse : SF := sSeq (sTryAs 2 (tb1 1 true tb0) (sExpr (fCall G_inverse_modulo (fCons (fVar 0) (fCons (fVar 1) (fNil))))) (sRet (fIsX (tb1 1 true tb0) (fVar 2)))) (sRet (fC (.bl false)))
theorem sv__law_no_inverse (d_inverse_modulo : DefOk P w mg base T 1 "inverse_modulo" 2 G_inverse_modulo) (m_isinstance : mg "isinstance" = none) (C_1 : ExcC T.K (T.cl 1)) (g_0 : mg "Fault" = some (.ref (T.cl 0))) (g_1 : mg "ZeroDivisor" = some (.ref (T.cl 1))) (ko_1_0 : PySem.W.kitOne T.K (.ref (T.cl 1)) (.ref (T.cl 0)) = some true) (xm_1_1 : PySem.W.exmOne T.K (.ref (T.cl 1)) (.ref (T.cl 1)) = some true) (xo0 : T.xo = none) : SsV (cx0 P w mg base T N__law_no_inverse (defScope s__law_no_inverse) 1) (defBody s__law_no_inverse) b__law_no_inverse := by
  have nd : N__law_no_inverse.Nodup := sc__law_no_inverse.nd
  exact (sv_cons (sv_tryAs 2 rfl rfl rfl xo0 nd rfl rfl ⟨rfl, by decide, Or.inl g_1⟩ (tb_cons xm_1_1 tb_nil) (sv_one (sv_expr (ev_call d_inverse_modulo (Nat.le_of_ble_eq_true rfl) rfl rfl (av_cons (ev_var 0 rfl (by first | exact Or.inl rfl | exact Or.inr (Or.inl rfl) | exact Or.inr (Or.inr rfl)) (by decide) (by decide)) (av_cons (ev_var 1 rfl (by first | exact Or.inl rfl | exact Or.inr (Or.inl rfl) | exact Or.inr (Or.inr rfl)) (by decide) (by decide)) av_nil (fun _ => rfl)) (fun _ => rfl)) (by decide) (fun _ => rfl) (fun _ => rfl)) (fun _ => rfl))) (fun _ => (sv_one (sv_ret (ev_isX (k := 0) rfl rfl m_isinstance rfl g_0 (by decide) (tb_cons ⟨C_1, ko_1_0⟩ tb_nil) (ev_var 2 rfl (by first | exact Or.inl rfl | exact Or.inr (Or.inl rfl) | exact Or.inr (Or.inr rfl)) (by decide) (by decide)) (fun _ => rfl) (fun _ => rfl))))) (still_ret (still_isX still_var))) (sv_one (sv_ret ev_bl)))
def F__law_no_inverse : FF := mkF 2 3 b__law_no_inverse
def G__law_no_inverse : FF := sumF A__law_no_inverse F__law_no_inverse
abbrev s_law : Stmt := topS 17
abbrev N_law : List Str := ["_law_script", "_law_state_here", "_law_primes_here", "_law_p", "_law_a", "_law_k", "_law_due", "_law_turn", "_law_m", "_law_b", "_law_g", "_law_e", "_law_bound", "_law_found", "_law_q", "_law_x"]
theorem sc_law : FnScope N_law ["_law_script"] (defScope s_law) := ⟨rfl, rfl, rfl, by decide +kernel, rfl, by decide +kernel, by decide +kernel⟩
def b_law_u13 : SF := sSeq (sSet (fCall F_prime_above (fCons (fVar 11) (fCons (fVar 12) (fNil)))) 13) (sSeq (sIf (fOr (fTest (fBin gLe (fVar 13) (fVar 12))) (fOr (fTest (fBin gGt (fVar 13) (fC (.int 2000)))) (fOr (fTest (fBin gNe (fCall F__law_primes (fCons (fVar 13) (fNil))) (fLst (fCons (fVar 13) (fNil))))) (fTest (fBin gNe (fBin gModI (fBin gSubI (fVar 13) (fC (.int 1))) (fVar 11)) (fC (.int 0))))))) (sRet (fC (.bl false))) (sNil)) (sSeq (sFor 1000000 (fRng2 (fCons (fBin gAdd (fVar 12) (fC (.int 1))) (fCons (fVar 13) (fNil)))) (gtN 14) (sIf (fAnd (fTest (fBin gEq (fBin gModI (fBin gSubI (fVar 14) (fC (.int 1))) (fVar 11)) (fC (.int 0)))) (fAnd (fTest (fBin gGt (fVar 14) (fC (.int 1)))) (fTest (fBin gEq (fCall F__law_primes (fCons (fVar 14) (fNil))) (fLst (fCons (fVar 14) (fNil))))))) (sRet (fC (.bl false))) (sNil))) (sRet (fC (.bl true)))))
abbrev b_law_t13 : SF := sCut [11, 12] b_law_u13
def b_law_u12 : SF := sSeq (sPar 11 12 (fCons (fBin gAdd (fC (.int 1)) (fCall F__law_take (fCons (fVar 1) (fCons (fC (.int 12)) (fNil))))) (fCons (fCall F__law_take (fCons (fVar 1) (fCons (fC (.int 60)) (fNil)))) (fNil)))) (b_law_t13)
abbrev b_law_t12 : SF := sCut [1] b_law_u12
def b_law_u10 : SF := sSeq (sSet (fCall F_generator_modulo (fCons (fVar 3) (fNil))) 10) (sSeq (sIf (fOr (fTest (fBin gNe (fCall F__law_walk (fCons (fVar 10) (fCons (fVar 3) (fNil)))) (fBin gSubI (fVar 3) (fC (.int 1))))) (fTest (fBin gGt (fCallL gLen (fCons (fLc 1000000 [15] (fRng2 (fCons (fC (.int 1)) (fCons (fVar 10) (fNil)))) (gtN 15) (fTest (fBin gEq (fCall F__law_walk (fCons (fVar 15) (fCons (fVar 3) (fNil)))) (fBin gSubI (fVar 3) (fC (.int 1))))) (fVar 15)) (fNil))) (fC (.int 0))))) (sRet (fC (.bl false))) (sNil)) (b_law_t12))
abbrev b_law_t10 : SF := sCut [1, 3] b_law_u10
def b_law_u8 : SF := sSeq (sSet (fBin gAdd (fC (.int 1)) (fCall F__law_take (fCons (fVar 1) (fCons (fC (.int 60)) (fNil))))) 8) (sSeq (sIf (fTest (fBin gEq (fCall G__law_gcd (fCons (fVar 4) (fCons (fVar 8) (fNil)))) (fC (.int 1)))) (sSeq (sSet (fCall G_inverse_modulo (fCons (fVar 4) (fCons (fVar 8) (fNil)))) 9) (sIf (fOr (fNot (fTest (fChain gLe gLt (fC (.int 0)) (fVar 9) (fVar 8)))) (fTest (fBin gNe (fBin gModI (fBin gSubI (fBin gMulI (fVar 4) (fVar 9)) (fC (.int 1))) (fVar 8)) (fC (.int 0))))) (sRet (fC (.bl false))) (sNil))) (sIf (fNot (fTest (fCall G__law_no_inverse (fCons (fVar 4) (fCons (fVar 8) (fNil)))))) (sRet (fC (.bl false))) (sNil))) (b_law_t10))
abbrev b_law_t8 : SF := sCut [1, 3, 4] b_law_u8
def b_law_u3 : SF := sSeq (sSet (fBin gSubI (fCall F__law_take (fCons (fVar 1) (fCons (fC (.int 201)) (fNil)))) (fC (.int 100))) 4) (sSeq (sSet (fCall F__law_take (fCons (fVar 1) (fCons (fC (.int 31)) (fNil)))) 5) (sSeq (sSet (fBin gModI (fC (.int 1)) (fVar 3)) 6) (sSeq (sFor 1000000 (fRng1 (fCons (fVar 5) (fNil))) (gtN 7) (sSet (fBin gModI (fBin gMulI (fVar 6) (fVar 4)) (fVar 3)) 6)) (sSeq (sIf (fOr (fTest (fBin gNe (fCall G_power_modulo (fCons (fVar 4) (fCons (fVar 5) (fCons (fVar 3) (fNil))))) (fVar 6))) (fTest (fBin gNe (fCall G_power_modulo (fCons (fVar 4) (fCons (fC (.int 0)) (fCons (fC (.int 1)) (fNil))))) (fC (.int 0))))) (sRet (fC (.bl false))) (sNil)) (b_law_t8)))))
abbrev b_law_t3 : SF := sCut [1, 3] b_law_u3
def b_law_rest : SF := sSeq (sSet (fLc 1000000 [5] (fRng2 (fCons (fC (.int 2)) (fCons (fC (.int 62)) (fNil)))) (gtN 5) (fTest (fBin gEq (fCall F__law_primes (fCons (fVar 5) (fNil))) (fLst (fCons (fVar 5) (fNil))))) (fVar 5)) 2) (sSeq (sSet (fBin gIx (fVar 2) (fCall F__law_take (fCons (fVar 1) (fCons (fCallL gLen (fCons (fVar 2) (fNil))) (fNil))))) 3) (b_law_t3))
def b_law : SF := sSeq (sForget 0 (sSet (fCall F__law_state (fCons (fVar 0) (fNil))) 1)) (b_law_rest)
theorem sv_law (d__law_gcd : DefOk P w mg base T 1 "_law_gcd" 2 G__law_gcd) (d__law_no_inverse : DefOk P w mg base T 2 "_law_no_inverse" 2 G__law_no_inverse) (d__law_primes : DefOk P w mg base T 1 "_law_primes" 1 F__law_primes) (d__law_state : DefOk P w mg base T 1 "_law_state" 1 F__law_state) (d__law_take : DefOk P w mg base T 1 "_law_take" 2 F__law_take) (d__law_walk : DefOk P w mg base T 1 "_law_walk" 2 F__law_walk) (d_generator_modulo : DefOk P w mg base T 2 "generator_modulo" 1 F_generator_modulo) (d_inverse_modulo : DefOk P w mg base T 1 "inverse_modulo" 2 G_inverse_modulo) (d_power_modulo : DefOk P w mg base T 1 "power_modulo" 3 G_power_modulo) (d_prime_above : DefOk P w mg base T 3 "prime_above" 2 F_prime_above) (m_len : mg "len" = none) (m_range : mg "range" = none) : SsV (cx0 P w mg base T N_law (defScope s_law) 3) (defBody s_law) b_law := by
  have nd : N_law.Nodup := sc_law.nd
  exact (sv_cons (sv_forget 0 (sv_set 1 nd rfl (by first | exact Or.inl rfl | exact Or.inr ⟨rfl, rfl⟩) (ev_call d__law_state (Nat.le_of_ble_eq_true rfl) rfl rfl (av_cons (ev_var 0 rfl (by first | exact Or.inl rfl | exact Or.inr (Or.inl rfl) | exact Or.inr (Or.inr rfl)) (by decide) (by decide)) av_nil (fun _ => rfl)) (by decide) (fun _ => rfl) (fun _ => rfl)) (fun _ => rfl))) (sv_cons (sv_setLc 1000000 2 (own := [("_law_k", 5)]) rfl nd rfl rfl rfl rfl rfl (by decide +kernel) (blkOk_by rfl) (by decide) (iv_rng2 rfl m_range (av_cons ev_int (av_cons ev_int av_nil (fun _ => rfl)) (fun _ => rfl)) (fun _ => rfl) (fun _ => rfl)) (gv_name 5 nd rfl (by first | exact Or.inl rfl | exact Or.inr ⟨rfl, rfl⟩)) (bsv_one (tv_eq (ev_call d__law_primes (Nat.le_of_ble_eq_true rfl) rfl rfl (av_cons (ev_var 5 rfl (by first | exact Or.inl rfl | exact Or.inr (Or.inl rfl) | exact Or.inr (Or.inr rfl)) (by decide) (by decide)) av_nil (fun _ => rfl)) (by decide) (fun _ => rfl) (fun _ => rfl)) (ev_lst (av_cons (ev_var 5 rfl (by first | exact Or.inl rfl | exact Or.inr (Or.inl rfl) | exact Or.inr (Or.inr rfl)) (by decide) (by decide)) av_nil (fun _ => rfl))))) (ev_var 5 rfl (by first | exact Or.inl rfl | exact Or.inr (Or.inl rfl) | exact Or.inr (Or.inr rfl)) (by decide) (by decide)) (fun _ _ => rfl)) (sv_cons (sv_set 3 nd rfl (by first | exact Or.inl rfl | exact Or.inr ⟨rfl, rfl⟩) (ev_ix (ev_var 2 rfl (by first | exact Or.inl rfl | exact Or.inr (Or.inl rfl) | exact Or.inr (Or.inr rfl)) (by decide) (by decide)) (ev_call d__law_take (Nat.le_of_ble_eq_true rfl) rfl rfl (av_cons (ev_var 1 rfl (by first | exact Or.inl rfl | exact Or.inr (Or.inl rfl) | exact Or.inr (Or.inr rfl)) (by decide) (by decide)) (av_cons (ev_len rfl m_len (av_cons (ev_var 2 rfl (by first | exact Or.inl rfl | exact Or.inr (Or.inl rfl) | exact Or.inr (Or.inr rfl)) (by decide) (by decide)) av_nil (fun _ => rfl)) (fun _ => rfl) (fun _ => rfl)) av_nil (fun _ => rfl)) (fun _ => rfl)) (by decide) (fun _ => rfl) (fun _ => rfl)) (fun _ _ => rfl)) (fun _ => rfl)) (ssv_cut [1, 3] (sv_cons (sv_set 4 nd rfl (by first | exact Or.inl rfl | exact Or.inr ⟨rfl, rfl⟩) (ev_sub (ev_call d__law_take (Nat.le_of_ble_eq_true rfl) rfl rfl (av_cons (ev_var 1 rfl (by first | exact Or.inl rfl | exact Or.inr (Or.inl rfl) | exact Or.inr (Or.inr rfl)) (by decide) (by decide)) (av_cons ev_int av_nil (fun _ => rfl)) (fun _ => rfl)) (by decide) (fun _ => rfl) (fun _ => rfl)) ev_int) (fun _ => rfl)) (sv_cons (sv_set 5 nd rfl (by first | exact Or.inl rfl | exact Or.inr ⟨rfl, rfl⟩) (ev_call d__law_take (Nat.le_of_ble_eq_true rfl) rfl rfl (av_cons (ev_var 1 rfl (by first | exact Or.inl rfl | exact Or.inr (Or.inl rfl) | exact Or.inr (Or.inr rfl)) (by decide) (by decide)) (av_cons ev_int av_nil (fun _ => rfl)) (fun _ => rfl)) (by decide) (fun _ => rfl) (fun _ => rfl)) (fun _ => rfl)) (sv_cons (sv_set 6 nd rfl (by first | exact Or.inl rfl | exact Or.inr ⟨rfl, rfl⟩) (ev_mod ev_int (ev_var 3 rfl (by first | exact Or.inl rfl | exact Or.inr (Or.inl rfl) | exact Or.inr (Or.inr rfl)) (by decide) (by decide))) (fun _ => rfl)) (sv_cons (sv_for 1000000 rfl (iv_rng1 rfl m_range (av_cons (ev_var 5 rfl (by first | exact Or.inl rfl | exact Or.inr (Or.inl rfl) | exact Or.inr (Or.inr rfl)) (by decide) (by decide)) av_nil (fun _ => rfl)) (fun _ => rfl)) (gv_name 7 nd rfl (by first | exact Or.inl rfl | exact Or.inr ⟨rfl, rfl⟩)) (sv_one (sv_set 6 nd rfl (by first | exact Or.inl rfl | exact Or.inr ⟨rfl, rfl⟩) (ev_mod (ev_mul (ev_var 6 rfl (by first | exact Or.inl rfl | exact Or.inr (Or.inl rfl) | exact Or.inr (Or.inr rfl)) (by decide) (by decide)) (ev_var 4 rfl (by first | exact Or.inl rfl | exact Or.inr (Or.inl rfl) | exact Or.inr (Or.inr rfl)) (by decide) (by decide))) (ev_var 3 rfl (by first | exact Or.inl rfl | exact Or.inr (Or.inl rfl) | exact Or.inr (Or.inr rfl)) (by decide) (by decide))) (fun _ => rfl))) (fun _ _ => rfl)) (sv_cons (sv_if (tv_w (wv_or (tv_ne (ev_call d_power_modulo (Nat.le_of_ble_eq_true rfl) rfl rfl (av_cons (ev_var 4 rfl (by first | exact Or.inl rfl | exact Or.inr (Or.inl rfl) | exact Or.inr (Or.inr rfl)) (by decide) (by decide)) (av_cons (ev_var 5 rfl (by first | exact Or.inl rfl | exact Or.inr (Or.inl rfl) | exact Or.inr (Or.inr rfl)) (by decide) (by decide)) (av_cons (ev_var 3 rfl (by first | exact Or.inl rfl | exact Or.inr (Or.inl rfl) | exact Or.inr (Or.inr rfl)) (by decide) (by decide)) av_nil (fun _ => rfl)) (fun _ => rfl)) (fun _ => rfl)) (by decide) (fun _ => rfl) (fun _ => rfl)) (ev_var 6 rfl (by first | exact Or.inl rfl | exact Or.inr (Or.inl rfl) | exact Or.inr (Or.inr rfl)) (by decide) (by decide))) (wv_or1 (tv_ne (ev_call d_power_modulo (Nat.le_of_ble_eq_true rfl) rfl rfl (av_cons (ev_var 4 rfl (by first | exact Or.inl rfl | exact Or.inr (Or.inl rfl) | exact Or.inr (Or.inr rfl)) (by decide) (by decide)) (av_cons ev_int (av_cons ev_int av_nil (fun _ => rfl)) (fun _ => rfl)) (fun _ => rfl)) (by decide) (fun _ => rfl) (fun _ => rfl)) ev_int)))) (sv_one (sv_ret ev_bl)) sv_nil) (ssv_cut [1, 3, 4] (sv_cons (sv_set 8 nd rfl (by first | exact Or.inl rfl | exact Or.inr ⟨rfl, rfl⟩) (ev_add ev_int (ev_call d__law_take (Nat.le_of_ble_eq_true rfl) rfl rfl (av_cons (ev_var 1 rfl (by first | exact Or.inl rfl | exact Or.inr (Or.inl rfl) | exact Or.inr (Or.inr rfl)) (by decide) (by decide)) (av_cons ev_int av_nil (fun _ => rfl)) (fun _ => rfl)) (by decide) (fun _ => rfl) (fun _ => rfl))) (fun _ => rfl)) (sv_cons (sv_if (tv_eq (ev_call d__law_gcd (Nat.le_of_ble_eq_true rfl) rfl rfl (av_cons (ev_var 4 rfl (by first | exact Or.inl rfl | exact Or.inr (Or.inl rfl) | exact Or.inr (Or.inr rfl)) (by decide) (by decide)) (av_cons (ev_var 8 rfl (by first | exact Or.inl rfl | exact Or.inr (Or.inl rfl) | exact Or.inr (Or.inr rfl)) (by decide) (by decide)) av_nil (fun _ => rfl)) (fun _ => rfl)) (by decide) (fun _ => rfl) (fun _ => rfl)) ev_int) (sv_cons (sv_set 9 nd rfl (by first | exact Or.inl rfl | exact Or.inr ⟨rfl, rfl⟩) (ev_call d_inverse_modulo (Nat.le_of_ble_eq_true rfl) rfl rfl (av_cons (ev_var 4 rfl (by first | exact Or.inl rfl | exact Or.inr (Or.inl rfl) | exact Or.inr (Or.inr rfl)) (by decide) (by decide)) (av_cons (ev_var 8 rfl (by first | exact Or.inl rfl | exact Or.inr (Or.inl rfl) | exact Or.inr (Or.inr rfl)) (by decide) (by decide)) av_nil (fun _ => rfl)) (fun _ => rfl)) (by decide) (fun _ => rfl) (fun _ => rfl)) (fun _ => rfl)) (sv_one (sv_if (tv_w (wv_or (tv_not (tv_chain cmp_le cmp_lt ev_int (ev_var 9 rfl (by first | exact Or.inl rfl | exact Or.inr (Or.inl rfl) | exact Or.inr (Or.inr rfl)) (by decide) (by decide)) (ev_var 8 rfl (by first | exact Or.inl rfl | exact Or.inr (Or.inl rfl) | exact Or.inr (Or.inr rfl)) (by decide) (by decide)) (by with_unfolding_all rfl))) (wv_or1 (tv_ne (ev_mod (ev_sub (ev_mul (ev_var 4 rfl (by first | exact Or.inl rfl | exact Or.inr (Or.inl rfl) | exact Or.inr (Or.inr rfl)) (by decide) (by decide)) (ev_var 9 rfl (by first | exact Or.inl rfl | exact Or.inr (Or.inl rfl) | exact Or.inr (Or.inr rfl)) (by decide) (by decide))) ev_int) (ev_var 8 rfl (by first | exact Or.inl rfl | exact Or.inr (Or.inl rfl) | exact Or.inr (Or.inr rfl)) (by decide) (by decide))) ev_int)))) (sv_one (sv_ret ev_bl)) sv_nil))) (sv_one (sv_if (tv_not (tv_val (fun _ _ => rfl) (ev_call d__law_no_inverse (Nat.le_of_ble_eq_true rfl) rfl rfl (av_cons (ev_var 4 rfl (by first | exact Or.inl rfl | exact Or.inr (Or.inl rfl) | exact Or.inr (Or.inr rfl)) (by decide) (by decide)) (av_cons (ev_var 8 rfl (by first | exact Or.inl rfl | exact Or.inr (Or.inl rfl) | exact Or.inr (Or.inr rfl)) (by decide) (by decide)) av_nil (fun _ => rfl)) (fun _ => rfl)) (by decide) (fun _ => rfl) (fun _ => rfl)))) (sv_one (sv_ret ev_bl)) sv_nil))) (ssv_cut [1, 3] (sv_cons (sv_set 10 nd rfl (by first | exact Or.inl rfl | exact Or.inr ⟨rfl, rfl⟩) (ev_call d_generator_modulo (Nat.le_of_ble_eq_true rfl) rfl rfl (av_cons (ev_var 3 rfl (by first | exact Or.inl rfl | exact Or.inr (Or.inl rfl) | exact Or.inr (Or.inr rfl)) (by decide) (by decide)) av_nil (fun _ => rfl)) (by decide) (fun _ => rfl) (fun _ => rfl)) (fun _ => rfl)) (sv_cons (sv_if (tv_w (wv_or (tv_ne (ev_call d__law_walk (Nat.le_of_ble_eq_true rfl) rfl rfl (av_cons (ev_var 10 rfl (by first | exact Or.inl rfl | exact Or.inr (Or.inl rfl) | exact Or.inr (Or.inr rfl)) (by decide) (by decide)) (av_cons (ev_var 3 rfl (by first | exact Or.inl rfl | exact Or.inr (Or.inl rfl) | exact Or.inr (Or.inr rfl)) (by decide) (by decide)) av_nil (fun _ => rfl)) (fun _ => rfl)) (by decide) (fun _ => rfl) (fun _ => rfl)) (ev_sub (ev_var 3 rfl (by first | exact Or.inl rfl | exact Or.inr (Or.inl rfl) | exact Or.inr (Or.inr rfl)) (by decide) (by decide)) ev_int)) (wv_or1 (tv_gt (ev_len rfl m_len (av_cons (ev_lc 1000000 (own := [("_law_x", 15)]) rfl nd (blkOk_by rfl) (by decide) (iv_rng2 rfl m_range (av_cons ev_int (av_cons (ev_var 10 rfl (by first | exact Or.inl rfl | exact Or.inr (Or.inl rfl) | exact Or.inr (Or.inr rfl)) (by decide) (by decide)) av_nil (fun _ => rfl)) (fun _ => rfl)) (fun _ => rfl) (fun _ => rfl)) (gv_name 15 nd rfl (by first | exact Or.inl rfl | exact Or.inr ⟨rfl, rfl⟩)) (bsv_one (tv_eq (ev_call d__law_walk (Nat.le_of_ble_eq_true rfl) rfl rfl (av_cons (ev_var 15 rfl (by first | exact Or.inl rfl | exact Or.inr (Or.inl rfl) | exact Or.inr (Or.inr rfl)) (by decide) (by decide)) (av_cons (ev_var 3 rfl (by first | exact Or.inl rfl | exact Or.inr (Or.inl rfl) | exact Or.inr (Or.inr rfl)) (by decide) (by decide)) av_nil (fun _ => rfl)) (fun _ => rfl)) (by decide) (fun _ => rfl) (fun _ => rfl)) (ev_sub (ev_var 3 rfl (by first | exact Or.inl rfl | exact Or.inr (Or.inl rfl) | exact Or.inr (Or.inr rfl)) (by decide) (by decide)) ev_int))) (ev_var 15 rfl (by first | exact Or.inl rfl | exact Or.inr (Or.inl rfl) | exact Or.inr (Or.inr rfl)) (by decide) (by decide)) (fun _ _ => rfl)) av_nil (fun _ => rfl)) (fun _ => rfl) (fun _ => rfl)) ev_int)))) (sv_one (sv_ret ev_bl)) sv_nil) (ssv_cut [1] (sv_cons (sv_par 11 12 rfl nd rfl rfl (by decide) rfl rfl (av_cons (ev_add ev_int (ev_call d__law_take (Nat.le_of_ble_eq_true rfl) rfl rfl (av_cons (ev_var 1 rfl (by first | exact Or.inl rfl | exact Or.inr (Or.inl rfl) | exact Or.inr (Or.inr rfl)) (by decide) (by decide)) (av_cons ev_int av_nil (fun _ => rfl)) (fun _ => rfl)) (by decide) (fun _ => rfl) (fun _ => rfl))) (av_cons (ev_call d__law_take (Nat.le_of_ble_eq_true rfl) rfl rfl (av_cons (ev_var 1 rfl (by first | exact Or.inl rfl | exact Or.inr (Or.inl rfl) | exact Or.inr (Or.inr rfl)) (by decide) (by decide)) (av_cons ev_int av_nil (fun _ => rfl)) (fun _ => rfl)) (by decide) (fun _ => rfl) (fun _ => rfl)) av_nil (fun _ => rfl)) (fun _ => rfl)) (fun env h => by obtain ⟨⟩ := env; cases h; rfl) (fun _ => rfl)) (ssv_cut [11, 12] (sv_cons (sv_set 13 nd rfl (by first | exact Or.inl rfl | exact Or.inr ⟨rfl, rfl⟩) (ev_call d_prime_above (Nat.le_of_ble_eq_true rfl) rfl rfl (av_cons (ev_var 11 rfl (by first | exact Or.inl rfl | exact Or.inr (Or.inl rfl) | exact Or.inr (Or.inr rfl)) (by decide) (by decide)) (av_cons (ev_var 12 rfl (by first | exact Or.inl rfl | exact Or.inr (Or.inl rfl) | exact Or.inr (Or.inr rfl)) (by decide) (by decide)) av_nil (fun _ => rfl)) (fun _ => rfl)) (by decide) (fun _ => rfl) (fun _ => rfl)) (fun _ => rfl)) (sv_cons (sv_if (tv_w (wv_or (tv_le (ev_var 13 rfl (by first | exact Or.inl rfl | exact Or.inr (Or.inl rfl) | exact Or.inr (Or.inr rfl)) (by decide) (by decide)) (ev_var 12 rfl (by first | exact Or.inl rfl | exact Or.inr (Or.inl rfl) | exact Or.inr (Or.inr rfl)) (by decide) (by decide))) (wv_or (tv_gt (ev_var 13 rfl (by first | exact Or.inl rfl | exact Or.inr (Or.inl rfl) | exact Or.inr (Or.inr rfl)) (by decide) (by decide)) ev_int) (wv_or (tv_ne (ev_call d__law_primes (Nat.le_of_ble_eq_true rfl) rfl rfl (av_cons (ev_var 13 rfl (by first | exact Or.inl rfl | exact Or.inr (Or.inl rfl) | exact Or.inr (Or.inr rfl)) (by decide) (by decide)) av_nil (fun _ => rfl)) (by decide) (fun _ => rfl) (fun _ => rfl)) (ev_lst (av_cons (ev_var 13 rfl (by first | exact Or.inl rfl | exact Or.inr (Or.inl rfl) | exact Or.inr (Or.inr rfl)) (by decide) (by decide)) av_nil (fun _ => rfl)))) (wv_or1 (tv_ne (ev_mod (ev_sub (ev_var 13 rfl (by first | exact Or.inl rfl | exact Or.inr (Or.inl rfl) | exact Or.inr (Or.inr rfl)) (by decide) (by decide)) ev_int) (ev_var 11 rfl (by first | exact Or.inl rfl | exact Or.inr (Or.inl rfl) | exact Or.inr (Or.inr rfl)) (by decide) (by decide))) ev_int)))))) (sv_one (sv_ret ev_bl)) sv_nil) (sv_cons (sv_for 1000000 rfl (iv_rng2 rfl m_range (av_cons (ev_add (ev_var 12 rfl (by first | exact Or.inl rfl | exact Or.inr (Or.inl rfl) | exact Or.inr (Or.inr rfl)) (by decide) (by decide)) ev_int) (av_cons (ev_var 13 rfl (by first | exact Or.inl rfl | exact Or.inr (Or.inl rfl) | exact Or.inr (Or.inr rfl)) (by decide) (by decide)) av_nil (fun _ => rfl)) (fun _ => rfl)) (fun _ => rfl) (fun _ => rfl)) (gv_name 14 nd rfl (by first | exact Or.inl rfl | exact Or.inr ⟨rfl, rfl⟩)) (sv_one (sv_if (tv_w (wv_and (tv_eq (ev_mod (ev_sub (ev_var 14 rfl (by first | exact Or.inl rfl | exact Or.inr (Or.inl rfl) | exact Or.inr (Or.inr rfl)) (by decide) (by decide)) ev_int) (ev_var 11 rfl (by first | exact Or.inl rfl | exact Or.inr (Or.inl rfl) | exact Or.inr (Or.inr rfl)) (by decide) (by decide))) ev_int) (wv_and (tv_gt (ev_var 14 rfl (by first | exact Or.inl rfl | exact Or.inr (Or.inl rfl) | exact Or.inr (Or.inr rfl)) (by decide) (by decide)) ev_int) (wv_and1 (tv_eq (ev_call d__law_primes (Nat.le_of_ble_eq_true rfl) rfl rfl (av_cons (ev_var 14 rfl (by first | exact Or.inl rfl | exact Or.inr (Or.inl rfl) | exact Or.inr (Or.inr rfl)) (by decide) (by decide)) av_nil (fun _ => rfl)) (by decide) (fun _ => rfl) (fun _ => rfl)) (ev_lst (av_cons (ev_var 14 rfl (by first | exact Or.inl rfl | exact Or.inr (Or.inl rfl) | exact Or.inr (Or.inr rfl)) (by decide) (by decide)) av_nil (fun _ => rfl)))))))) (sv_one (sv_ret ev_bl)) sv_nil)) (fun _ _ => rfl)) (sv_one (sv_ret ev_bl)))))))))))))))))))))))
def F_law : FF := mkF 1 16 b_law
end
theorem all_mk {l : PySem.W.OpenLaw} {w : World} {K : PySem.W.Frag} {h : Heap} {mg : Str → Option Value} {fa f4 f5 f6 f7 f8 f9 f11 f12 f13 f14 f15 f16 f17 : Addr} (X : K.In h) (G : h.Ns mainGlobals mg) (hfa : mg "law" = some (.ref fa))
    {od4 an4 : Option Addr} {sl4 : Array (Option Value)} {oc4 kV4 dc4 pm4 cd4 ct4 : Value} (a4 : PySem.W.nsIn K mainGlobals "prime_powers" = some (some (.ref f4)))
    (l4 : K.lookup f4 = some ⟨oc4, od4, .func (PySem.W.fnOf "prime_powers" "prime_powers" (defArgs s_prime_powers) (defBody s_prime_powers) (defScope s_prime_powers) .none kV4 dc4 pm4 an4 cd4 ct4), sl4⟩) (c4 : PySem.W.codeIn K cd4 "prime_powers" = true) (k4 : PySem.W.keepIn K (.ref f4) = true)
    {od5 an5 : Option Addr} {sl5 : Array (Option Value)} {oc5 kV5 dc5 pm5 cd5 ct5 : Value} (a5 : PySem.W.nsIn K mainGlobals "is_prime" = some (some (.ref f5)))
    (l5 : K.lookup f5 = some ⟨oc5, od5, .func (PySem.W.fnOf "is_prime" "is_prime" (defArgs s_is_prime) (defBody s_is_prime) (defScope s_is_prime) .none kV5 dc5 pm5 an5 cd5 ct5), sl5⟩) (c5 : PySem.W.codeIn K cd5 "is_prime" = true) (k5 : PySem.W.keepIn K (.ref f5) = true)
    {od6 an6 : Option Addr} {sl6 : Array (Option Value)} {oc6 kV6 dc6 pm6 cd6 ct6 : Value} (a6 : PySem.W.nsIn K mainGlobals "power_modulo" = some (some (.ref f6)))
    (l6 : K.lookup f6 = some ⟨oc6, od6, .func (PySem.W.fnOf "power_modulo" "power_modulo" (defArgs s_power_modulo) (defBody s_power_modulo) (defScope s_power_modulo) .none kV6 dc6 pm6 an6 cd6 ct6), sl6⟩) (c6 : PySem.W.codeIn K cd6 "power_modulo" = true) (k6 : PySem.W.keepIn K (.ref f6) = true)
    {od7 an7 : Option Addr} {sl7 : Array (Option Value)} {oc7 kV7 dc7 pm7 cd7 ct7 : Value} (a7 : PySem.W.nsIn K mainGlobals "inverse_modulo" = some (some (.ref f7)))
    (l7 : K.lookup f7 = some ⟨oc7, od7, .func (PySem.W.fnOf "inverse_modulo" "inverse_modulo" (defArgs s_inverse_modulo) (defBody s_inverse_modulo) (defScope s_inverse_modulo) .none kV7 dc7 pm7 an7 cd7 ct7), sl7⟩) (c7 : PySem.W.codeIn K cd7 "inverse_modulo" = true) (k7 : PySem.W.keepIn K (.ref f7) = true)
    {od8 an8 : Option Addr} {sl8 : Array (Option Value)} {oc8 kV8 dc8 pm8 cd8 ct8 : Value} (a8 : PySem.W.nsIn K mainGlobals "generator_modulo" = some (some (.ref f8)))
    (l8 : K.lookup f8 = some ⟨oc8, od8, .func (PySem.W.fnOf "generator_modulo" "generator_modulo" (defArgs s_generator_modulo) (defBody s_generator_modulo) (defScope s_generator_modulo) .none kV8 dc8 pm8 an8 cd8 ct8), sl8⟩) (c8 : PySem.W.codeIn K cd8 "generator_modulo" = true) (k8 : PySem.W.keepIn K (.ref f8) = true)
    {od9 an9 : Option Addr} {sl9 : Array (Option Value)} {oc9 kV9 dc9 pm9 cd9 ct9 : Value} (a9 : PySem.W.nsIn K mainGlobals "prime_above" = some (some (.ref f9)))
    (l9 : K.lookup f9 = some ⟨oc9, od9, .func (PySem.W.fnOf "prime_above" "prime_above" (defArgs s_prime_above) (defBody s_prime_above) (defScope s_prime_above) .none kV9 dc9 pm9 an9 cd9 ct9), sl9⟩) (c9 : PySem.W.codeIn K cd9 "prime_above" = true) (k9 : PySem.W.keepIn K (.ref f9) = true)
    {od11 an11 : Option Addr} {sl11 : Array (Option Value)} {oc11 kV11 dc11 pm11 cd11 ct11 : Value} (a11 : PySem.W.nsIn K mainGlobals "_law_state" = some (some (.ref f11)))
    (l11 : K.lookup f11 = some ⟨oc11, od11, .func (PySem.W.fnOf "_law_state" "_law_state" (defArgs s__law_state) (defBody s__law_state) (defScope s__law_state) .none kV11 dc11 pm11 an11 cd11 ct11), sl11⟩) (c11 : PySem.W.codeIn K cd11 "_law_state" = true) (k11 : PySem.W.keepIn K (.ref f11) = true)
    {od12 an12 : Option Addr} {sl12 : Array (Option Value)} {oc12 kV12 dc12 pm12 cd12 ct12 : Value} (a12 : PySem.W.nsIn K mainGlobals "_law_take" = some (some (.ref f12)))
    (l12 : K.lookup f12 = some ⟨oc12, od12, .func (PySem.W.fnOf "_law_take" "_law_take" (defArgs s__law_take) (defBody s__law_take) (defScope s__law_take) .none kV12 dc12 pm12 an12 cd12 ct12), sl12⟩) (c12 : PySem.W.codeIn K cd12 "_law_take" = true) (k12 : PySem.W.keepIn K (.ref f12) = true)
    {od13 an13 : Option Addr} {sl13 : Array (Option Value)} {oc13 kV13 dc13 pm13 cd13 ct13 : Value} (a13 : PySem.W.nsIn K mainGlobals "_law_gcd" = some (some (.ref f13)))
    (l13 : K.lookup f13 = some ⟨oc13, od13, .func (PySem.W.fnOf "_law_gcd" "_law_gcd" (defArgs s__law_gcd) (defBody s__law_gcd) (defScope s__law_gcd) .none kV13 dc13 pm13 an13 cd13 ct13), sl13⟩) (c13 : PySem.W.codeIn K cd13 "_law_gcd" = true) (k13 : PySem.W.keepIn K (.ref f13) = true)
    {od14 an14 : Option Addr} {sl14 : Array (Option Value)} {oc14 kV14 dc14 pm14 cd14 ct14 : Value} (a14 : PySem.W.nsIn K mainGlobals "_law_primes" = some (some (.ref f14)))
    (l14 : K.lookup f14 = some ⟨oc14, od14, .func (PySem.W.fnOf "_law_primes" "_law_primes" (defArgs s__law_primes) (defBody s__law_primes) (defScope s__law_primes) .none kV14 dc14 pm14 an14 cd14 ct14), sl14⟩) (c14 : PySem.W.codeIn K cd14 "_law_primes" = true) (k14 : PySem.W.keepIn K (.ref f14) = true)
    {od15 an15 : Option Addr} {sl15 : Array (Option Value)} {oc15 kV15 dc15 pm15 cd15 ct15 : Value} (a15 : PySem.W.nsIn K mainGlobals "_law_walk" = some (some (.ref f15)))
    (l15 : K.lookup f15 = some ⟨oc15, od15, .func (PySem.W.fnOf "_law_walk" "_law_walk" (defArgs s__law_walk) (defBody s__law_walk) (defScope s__law_walk) .none kV15 dc15 pm15 an15 cd15 ct15), sl15⟩) (c15 : PySem.W.codeIn K cd15 "_law_walk" = true) (k15 : PySem.W.keepIn K (.ref f15) = true)
    {od16 an16 : Option Addr} {sl16 : Array (Option Value)} {oc16 kV16 dc16 pm16 cd16 ct16 : Value} (a16 : PySem.W.nsIn K mainGlobals "_law_no_inverse" = some (some (.ref f16)))
    (l16 : K.lookup f16 = some ⟨oc16, od16, .func (PySem.W.fnOf "_law_no_inverse" "_law_no_inverse" (defArgs s__law_no_inverse) (defBody s__law_no_inverse) (defScope s__law_no_inverse) .none kV16 dc16 pm16 an16 cd16 ct16), sl16⟩) (c16 : PySem.W.codeIn K cd16 "_law_no_inverse" = true) (k16 : PySem.W.keepIn K (.ref f16) = true)
    {od17 an17 : Option Addr} {sl17 : Array (Option Value)} {oc17 kV17 dc17 pm17 cd17 ct17 : Value} (a17 : PySem.W.nsIn K mainGlobals "law" = some (some (.ref f17)))
    (l17 : K.lookup f17 = some ⟨oc17, od17, .func (PySem.W.fnOf "law" "law" (defArgs s_law) (defBody s_law) (defScope s_law) .none kV17 dc17 pm17 an17 cd17 ct17), sl17⟩) (c17 : PySem.W.codeIn K cd17 "law" = true) (k17 : PySem.W.keepIn K (.ref f17) = true)
    (z_abs : PySem.W.nsIn K mainGlobals "abs" = some none)
    (z_any : PySem.W.nsIn K mainGlobals "any" = some none)
    (z_int : PySem.W.nsIn K mainGlobals "int" = some none)
    (z_isinstance : PySem.W.nsIn K mainGlobals "isinstance" = some none)
    (z_len : PySem.W.nsIn K mainGlobals "len" = some none)
    (z_max : PySem.W.nsIn K mainGlobals "max" = some none)
    (z_range : PySem.W.nsIn K mainGlobals "range" = some none)
    (z_tuple : PySem.W.nsIn K mainGlobals "tuple" = some none)
    {C0 C1 : Addr} (n0 : PySem.W.nsIn K mainGlobals "Fault" = some (some (.ref C0))) (n1 : PySem.W.nsIn K mainGlobals "ZeroDivisor" = some (some (.ref C1)))
    (Eg_1 : PySem.W.findIn K (.ref C1) "__getattribute__" = some (some (.builtin "BaseException.__getattribute__")))
    (Ek_1 : PySem.W.findIn K (.ref C1) "__getattr__" = some none)
    (Es_1 : PySem.W.subIn K (.ref C1) (.type "BaseException") = some true)
    (Ed_1 : PySem.W.hasDictIn K C1 = true)
    (Ea_1 : PySem.W.findIn K (.ref C1) "__class__" = some (some (.builtin "object.__class__")))
    (En_1 : PySem.W.specialIn K (.builtin "object.__class__") "__get__" = some (some (.builtin "getset_descriptor.__get__")))
    (Et_1 : PySem.W.takesIn K (.builtin "object.__class__") = some true)
    (Em_1 : PySem.W.mroIn K C1 (.type "object") = some true)
    (eq_1 : PySem.W.excIn K C1 [.type "ValueError", .type "Exception", .type "BaseException", .type "object"] "ValueError.__new__" = true)
    (ek_1 : PySem.W.keepIn K (.ref C1) = true)
    (eh_1 : PySem.W.subIn K (.ref C1) (.type "BaseException") = some true)
    (et_1 : PySem.W.typeIn K (.ref C1) = some (.type "type"))
    (Ed_0 : PySem.W.hasDictIn K C0 = true)
    (et_0 : PySem.W.typeIn K (.ref C0) = some (.type "type"))
    (es_1_0 : PySem.W.subIn K (.ref C1) (.ref C0) = some true)
    (es_1_1 : PySem.W.subIn K (.ref C1) (.ref C1) = some true)
    (sm_power_modulo : ∀ ds s, A_power_modulo ds = some s → SmOk F_power_modulo ds s)
    (sm_inverse_modulo : ∀ ds s, A_inverse_modulo ds = some s → SmOk F_inverse_modulo ds s)
    (sm__law_gcd : ∀ ds s, A__law_gcd ds = some s → SmOk F__law_gcd ds s)
    (sm__law_no_inverse : ∀ ds s, A__law_no_inverse ds = some s → SmOk F__law_no_inverse ds s)
    : ∃ fd : FuncData, (∀ (s : Shared) (v : Value), BindsTo s fd ⟨[v], []⟩ [("_law_script", v)]) ∧ ∀ base : Heap, K.In base → base.Ns mainGlobals mg → FnOk l.prog w K mg base (L2.CX l.prog w) 4 fa fd ["_law_script"] (Pr (tab K C0 C1) F_law) := by
  have e := hfa.symm.trans (PySem.W.mg_of X G a17)
  cases e
  have m_abs := PySem.W.mg_none_of X G z_abs
  have m_any := PySem.W.mg_none_of X G z_any
  have m_int := PySem.W.mg_none_of X G z_int
  have m_isinstance := PySem.W.mg_none_of X G z_isinstance
  have m_len := PySem.W.mg_none_of X G z_len
  have m_max := PySem.W.mg_none_of X G z_max
  have m_range := PySem.W.mg_none_of X G z_range
  have m_tuple := PySem.W.mg_none_of X G z_tuple
  have F4 := fun_mk (st := s_prime_powers) l4 c4 k4
  have b4 := F4.binds (ps := ["n"]) fun _ _ _ _ _ _ us hl => match us, hl with | [_], _ => rfl
  have F5 := fun_mk (st := s_is_prime) l5 c5 k5
  have b5 := F5.binds (ps := ["n"]) fun _ _ _ _ _ _ us hl => match us, hl with | [_], _ => rfl
  have F6 := fun_mk (st := s_power_modulo) l6 c6 k6
  have b6 := F6.binds (ps := ["a", "k", "p"]) fun _ _ _ _ _ _ us hl => match us, hl with | [_, _, _], _ => rfl
  have F7 := fun_mk (st := s_inverse_modulo) l7 c7 k7
  have b7 := F7.binds (ps := ["a", "p"]) fun _ _ _ _ _ _ us hl => match us, hl with | [_, _], _ => rfl
  have F8 := fun_mk (st := s_generator_modulo) l8 c8 k8
  have b8 := F8.binds (ps := ["p"]) fun _ _ _ _ _ _ us hl => match us, hl with | [_], _ => rfl
  have F9 := fun_mk (st := s_prime_above) l9 c9 k9
  have b9 := F9.binds (ps := ["e", "bound"]) fun _ _ _ _ _ _ us hl => match us, hl with | [_, _], _ => rfl
  have F11 := fun_mk (st := s__law_state) l11 c11 k11
  have b11 := F11.binds (ps := ["_law_script"]) fun _ _ _ _ _ _ us hl => match us, hl with | [_], _ => rfl
  have F12 := fun_mk (st := s__law_take) l12 c12 k12
  have b12 := F12.binds (ps := ["_law_state_here", "_law_m"]) fun _ _ _ _ _ _ us hl => match us, hl with | [_, _], _ => rfl
  have F13 := fun_mk (st := s__law_gcd) l13 c13 k13
  have b13 := F13.binds (ps := ["_law_a", "_law_b"]) fun _ _ _ _ _ _ us hl => match us, hl with | [_, _], _ => rfl
  have F14 := fun_mk (st := s__law_primes) l14 c14 k14
  have b14 := F14.binds (ps := ["_law_n"]) fun _ _ _ _ _ _ us hl => match us, hl with | [_], _ => rfl
  have F15 := fun_mk (st := s__law_walk) l15 c15 k15
  have b15 := F15.binds (ps := ["_law_g", "_law_p"]) fun _ _ _ _ _ _ us hl => match us, hl with | [_, _], _ => rfl
  have F16 := fun_mk (st := s__law_no_inverse) l16 c16 k16
  have b16 := F16.binds (ps := ["_law_a", "_law_m"]) fun _ _ _ _ _ _ us hl => match us, hl with | [_, _], _ => rfl
  have F17 := fun_mk (st := s_law) l17 c17 k17
  have b17 := F17.binds (ps := ["_law_script"]) fun _ _ _ _ _ _ us hl => match us, hl with | [_], _ => rfl
  refine ⟨PySem.W.fnOf "law" "law" (defArgs s_law) (defBody s_law) (defScope s_law) .none kV17 dc17 pm17 an17 cd17 ct17, fun s v => .of_eq rfl, fun base _ _ => ?_⟩
  have C_1 : ExcC (tab K C0 C1).K ((tab K C0 C1).cl 1) := ⟨Eg_1, Ek_1, Es_1, Ed_1, Ea_1, En_1, Et_1, Em_1⟩
  have e_1 : ExcK mg (tab K C0 C1) "ZeroDivisor" 1 := ⟨PySem.W.mg_of X G n1, eq_1, ek_1, eh_1, et_1⟩
  have g_0 : mg "Fault" = some (.ref ((tab K C0 C1).cl 0)) := (PySem.W.mg_of X G n0)
  have g_1 : mg "ZeroDivisor" = some (.ref ((tab K C0 C1).cl 1)) := (PySem.W.mg_of X G n1)
  have ko_1_0 : PySem.W.kitOne (tab K C0 C1).K (.ref ((tab K C0 C1).cl 1)) (.ref ((tab K C0 C1).cl 0)) = some true := (kit_ref Ed_0 et_0 es_1_0 fun _ => rfl)
  have xm_1_1 : PySem.W.exmOne (tab K C0 C1).K (.ref ((tab K C0 C1).cl 1)) (.ref ((tab K C0 C1).cl 1)) = some true := (PySem.W.exm_ref eh_1 Ed_1 et_1 es_1_1)
  have xo0 : (tab K C0 C1).xo = none := rfl
  have d_prime_powers : DefOk l.prog w mg base (tab K C0 C1) 1 "prime_powers" 1 F_prime_powers := defOk (P := l.prog) (w := w) (base := base) (T := (tab K C0 C1)) F4 sc_prime_powers (PySem.W.mg_of X G a4) b4 (sv_prime_powers m_tuple)
  have d_power_modulo : DefOk l.prog w mg base (tab K C0 C1) 1 "power_modulo" 3 G_power_modulo := DefOk.sum (defOk (P := l.prog) (w := w) (base := base) (T := (tab K C0 C1)) F6 sc_power_modulo (PySem.W.mg_of X G a6) b6 (sv_power_modulo )) A_power_modulo sm_power_modulo
  have d_inverse_modulo : DefOk l.prog w mg base (tab K C0 C1) 1 "inverse_modulo" 2 G_inverse_modulo := DefOk.sum (defOk (P := l.prog) (w := w) (base := base) (T := (tab K C0 C1)) F7 sc_inverse_modulo (PySem.W.mg_of X G a7) b7 (sv_inverse_modulo e_1)) A_inverse_modulo sm_inverse_modulo
  have d__law_state : DefOk l.prog w mg base (tab K C0 C1) 1 "_law_state" 1 F__law_state := state_ok (show DefOk l.prog w mg base (tab K C0 C1) 1 "_law_state" 1 (mkF 1 4 bState) from defOk (P := l.prog) (w := w) (base := base) (T := (tab K C0 C1)) F11 sc__law_state (PySem.W.mg_of X G a11) b11 (sv__law_state m_abs m_int))
  have d__law_take : DefOk l.prog w mg base (tab K C0 C1) 1 "_law_take" 2 F__law_take := take_ok (show DefOk l.prog w mg base (tab K C0 C1) 1 "_law_take" 2 (mkF 2 3 bTake) from defOk (P := l.prog) (w := w) (base := base) (T := (tab K C0 C1)) F12 sc__law_take (PySem.W.mg_of X G a12) b12 (sv__law_take m_int))
  have d__law_gcd : DefOk l.prog w mg base (tab K C0 C1) 1 "_law_gcd" 2 G__law_gcd := DefOk.sum (defOk (P := l.prog) (w := w) (base := base) (T := (tab K C0 C1)) F13 sc__law_gcd (PySem.W.mg_of X G a13) b13 (sv__law_gcd m_abs m_int)) A__law_gcd sm__law_gcd
  have d__law_primes : DefOk l.prog w mg base (tab K C0 C1) 1 "_law_primes" 1 F__law_primes := defOk (P := l.prog) (w := w) (base := base) (T := (tab K C0 C1)) F14 sc__law_primes (PySem.W.mg_of X G a14) b14 (sv__law_primes m_len m_range)
  have d__law_walk : DefOk l.prog w mg base (tab K C0 C1) 1 "_law_walk" 2 F__law_walk := defOk (P := l.prog) (w := w) (base := base) (T := (tab K C0 C1)) F15 sc__law_walk (PySem.W.mg_of X G a15) b15 (sv__law_walk m_len m_range)
  have d_is_prime : DefOk l.prog w mg base (tab K C0 C1) 2 "is_prime" 1 F_is_prime := defOk (P := l.prog) (w := w) (base := base) (T := (tab K C0 C1)) F5 sc_is_prime (PySem.W.mg_of X G a5) b5 (sv_is_prime d_prime_powers)
  have d_generator_modulo : DefOk l.prog w mg base (tab K C0 C1) 2 "generator_modulo" 1 F_generator_modulo := defOk (P := l.prog) (w := w) (base := base) (T := (tab K C0 C1)) F8 sc_generator_modulo (PySem.W.mg_of X G a8) b8 (sv_generator_modulo d_power_modulo d_prime_powers m_any)
  have d__law_no_inverse : DefOk l.prog w mg base (tab K C0 C1) 2 "_law_no_inverse" 2 G__law_no_inverse := DefOk.sum (defOk (P := l.prog) (w := w) (base := base) (T := (tab K C0 C1)) F16 sc__law_no_inverse (PySem.W.mg_of X G a16) b16 (sv__law_no_inverse d_inverse_modulo m_isinstance C_1 g_0 g_1 ko_1_0 xm_1_1 xo0)) A__law_no_inverse sm__law_no_inverse
  have d_prime_above : DefOk l.prog w mg base (tab K C0 C1) 3 "prime_above" 2 F_prime_above := defOk (P := l.prog) (w := w) (base := base) (T := (tab K C0 C1)) F9 sc_prime_above (PySem.W.mg_of X G a9) b9 (sv_prime_above d_is_prime m_max)
  exact fn_ok (T := (tab K C0 C1)) F17 sc_law (sv_law d__law_gcd d__law_no_inverse d__law_primes d__law_state d__law_take d__law_walk d_generator_modulo d_inverse_modulo d_power_modulo d_prime_above m_len m_range)
noncomputable section
def b_prime_powers' : SF := sSeq' (sSet' (fLst' (fNil)) 1) (sSeq' (sSet' (fC (.int 2)) 2) (sSeq' (sWhile' 1000000 (fTest' (fBin' gLe' (fBin' gMulI' (fVar' 2) (fVar' 2)) (fVar' 0))) (sSeq' (sSet' (fC (.int 0)) 3) (sSeq' (sWhile' 1000000 (fTest' (fBin' gEq' (fBin' gModI' (fVar' 0) (fVar' 2)) (fC (.int 0)))) (sSeq' (sSet' (fBin' gDivI' (fVar' 0) (fVar' 2)) 0) (sSet' (fBin' gAdd' (fVar' 3) (fC (.int 1))) 3))) (sSeq' (sIf' (fTest' (fBin' gGt' (fVar' 3) (fC (.int 0)))) (sExpr' (fMeth' 5 gAppend' (fVar' 1) (fCons' (fTup' (fCons' (fVar' 2) (fCons' (fVar' 3) (fNil)))) (fNil)))) (sNil)) (sSet' (fBin' gAdd' (fVar' 2) (fC (.int 1))) 2))))) (sSeq' (sIf' (fTest' (fBin' gGt' (fVar' 0) (fC (.int 1)))) (sExpr' (fMeth' 5 gAppend' (fVar' 1) (fCons' (fTup' (fCons' (fVar' 0) (fCons' (fC (.int 1)) (fNil)))) (fNil)))) (sNil)) (sRet' (fCallL' gTuple' (fCons' (fVar' 1) (fNil)))))))
def F_prime_powers' : FF := mkF' 1 4 b_prime_powers'
theorem F_prime_powers_eq : F_prime_powers = F_prime_powers' := by
  unfold F_prime_powers F_prime_powers' b_prime_powers b_prime_powers'; simp only [fBin_eq, fCallL_eq, fCons_eq, fLst_eq, fMeth_eq, fTest_eq, fTup_eq, fVar_eq, gAdd_eq, gAppend_eq, gDivI_eq, gEq_eq, gGt_eq, gLe_eq, gModI_eq, gMulI_eq, gTuple_eq, sExpr_eq, sIf_eq, sRet_eq, sSeq_eq, sSet_eq, sWhile_eq, mkF_eq]
def b_is_prime' : SF := sRet' (fAndV' (fBin' gGt' (fVar' 0) (fC (.int 1))) (fBin' gEq' (fCall' F_prime_powers' (fCons' (fVar' 0) (fNil))) (fTup' (fCons' (fTup' (fCons' (fVar' 0) (fCons' (fC (.int 1)) (fNil)))) (fNil)))))
def F_is_prime' : FF := mkF' 1 1 b_is_prime'
theorem F_is_prime_eq : F_is_prime = F_is_prime' := by
  unfold F_is_prime F_is_prime' b_is_prime b_is_prime'; simp only [F_prime_powers_eq, fAndV_eq, fBin_eq, fCall_eq, fCons_eq, fTup_eq, fVar_eq, gEq_eq, gGt_eq, sRet_eq, mkF_eq]
def b_power_modulo' : SF := sSeq' (sSet' (fBin' gModI' (fC (.int 1)) (fVar' 2)) 3) (sSeq' (sSet' (fBin' gModI' (fVar' 0) (fVar' 2)) 0) (sSeq' (sWhile' 1000000 (fTest' (fBin' gGt' (fVar' 1) (fC (.int 0)))) (sSeq' (sIf' (fTest' (fBin' gEq' (fBin' gModI' (fVar' 1) (fC (.int 2))) (fC (.int 1)))) (sSet' (fBin' gModI' (fBin' gMulI' (fVar' 3) (fVar' 0)) (fVar' 2)) 3) (sNil)) (sSeq' (sSet' (fBin' gModI' (fBin' gMulI' (fVar' 0) (fVar' 0)) (fVar' 2)) 0) (sSet' (fBin' gDivI' (fVar' 1) (fC (.int 2))) 1)))) (sRet' (fVar' 3))))
def F_power_modulo' : FF := mkF' 3 4 b_power_modulo'
theorem F_power_modulo_eq : F_power_modulo = F_power_modulo' := by
  unfold F_power_modulo F_power_modulo' b_power_modulo b_power_modulo'; simp only [fBin_eq, fTest_eq, fVar_eq, gDivI_eq, gEq_eq, gGt_eq, gModI_eq, gMulI_eq, sIf_eq, sRet_eq, sSeq_eq, sSet_eq, sWhile_eq, mkF_eq]
def G_power_modulo' : FF := sumF A_power_modulo F_power_modulo'
theorem G_power_modulo_eq : G_power_modulo = G_power_modulo' := by
  unfold G_power_modulo G_power_modulo'; rw [F_power_modulo_eq]
def b_inverse_modulo' : SF := sSeq' (sPar' 2 3 (fCons' (fVar' 1) (fCons' (fBin' gModI' (fVar' 0) (fVar' 1)) (fNil)))) (sSeq' (sAsg' (fTup' (fCons' (fC (.int 0)) (fCons' (fC (.int 1)) (fNil)))) (gtTup' 2 (gtCons' (gtN' 4) (gtCons' (gtN' 5) (gtNil))))) (sSeq' (sWhile' 1000000 (fTest' (fBin' gNe' (fVar' 3) (fC (.int 0)))) (sSeq' (sSet' (fBin' gDivI' (fVar' 2) (fVar' 3)) 6) (sSeq' (sPar' 2 3 (fCons' (fVar' 3) (fCons' (fBin' gSubI' (fVar' 2) (fBin' gMulI' (fVar' 6) (fVar' 3))) (fNil)))) (sPar' 4 5 (fCons' (fVar' 5) (fCons' (fBin' gSubI' (fVar' 4) (fBin' gMulI' (fVar' 6) (fVar' 5))) (fNil))))))) (sSeq' (sIf' (fTest' (fBin' gNe' (fVar' 2) (fC (.int 1)))) (sRaise0 1) (sNil)) (sRet' (fBin' gModI' (fVar' 4) (fVar' 1))))))
def F_inverse_modulo' : FF := mkF' 2 7 b_inverse_modulo'
theorem F_inverse_modulo_eq : F_inverse_modulo = F_inverse_modulo' := by
  unfold F_inverse_modulo F_inverse_modulo' b_inverse_modulo b_inverse_modulo'; simp only [fBin_eq, fCons_eq, fTest_eq, fTup_eq, fVar_eq, gDivI_eq, gModI_eq, gMulI_eq, gNe_eq, gSubI_eq, gtCons_eq, gtN_eq, gtTup_eq, sAsg_eq, sIf_eq, sPar_eq, sRet_eq, sSeq_eq, sSet_eq, sWhile_eq, mkF_eq]
def G_inverse_modulo' : FF := sumF A_inverse_modulo F_inverse_modulo'
theorem G_inverse_modulo_eq : G_inverse_modulo = G_inverse_modulo' := by
  unfold G_inverse_modulo G_inverse_modulo'; rw [F_inverse_modulo_eq]
def b_generator_modulo' : SF := sSeq' (sSet' (fLc' 1000000 [3, 4] (fIter' (fCall' F_prime_powers' (fCons' (fBin' gSubI' (fVar' 0) (fC (.int 1))) (fNil)))) (gtTup' 2 (gtCons' (gtN' 3) (gtCons' (gtN' 4) (gtNil)))) (bYes) (fVar' 3)) 1) (sSeq' (sSet' (fC (.int 1)) 2) (sSeq' (sWhile' 1000000 (fAnd' (fTest' (fBin' gGt' (fVar' 0) (fC (.int 2)))) (fTest' (fCallL' gAny' (fCons' (fLc' 1000000 [3] (fIter' (fVar' 1)) (gtN' 3) (bYes) (fBin' gEq' (fCall' G_power_modulo' (fCons' (fVar' 2) (fCons' (fBin' gDivI' (fBin' gSubI' (fVar' 0) (fC (.int 1))) (fVar' 3)) (fCons' (fVar' 0) (fNil))))) (fC (.int 1)))) (fNil))))) (sSet' (fBin' gAdd' (fVar' 2) (fC (.int 1))) 2)) (sRet' (fVar' 2))))
def F_generator_modulo' : FF := mkF' 1 5 b_generator_modulo'
theorem F_generator_modulo_eq : F_generator_modulo = F_generator_modulo' := by
  unfold F_generator_modulo F_generator_modulo' b_generator_modulo b_generator_modulo'; simp only [F_prime_powers_eq, G_power_modulo_eq, fAnd_eq, fBin_eq, fCallL_eq, fCall_eq, fCons_eq, fIter_eq, fLc_eq, fTest_eq, fVar_eq, gAdd_eq, gAny_eq, gDivI_eq, gEq_eq, gGt_eq, gSubI_eq, gtCons_eq, gtN_eq, gtTup_eq, sRet_eq, sSeq_eq, sSet_eq, sWhile_eq, mkF_eq]
def b_prime_above' : SF := sSeq' (sSet' (fBin' gAdd' (fBin' gMulI' (fCallL' gMax2' (fCons' (fBin' gDivI' (fVar' 1) (fVar' 0)) (fCons' (fC (.int 0)) (fNil)))) (fVar' 0)) (fC (.int 1))) 2) (sSeq' (sWhile' 1000000 (fOr' (fTest' (fBin' gLe' (fVar' 2) (fVar' 1))) (fNot' (fTest' (fCall' F_is_prime' (fCons' (fVar' 2) (fNil)))))) (sSet' (fBin' gAdd' (fVar' 2) (fVar' 0)) 2)) (sRet' (fVar' 2)))
def F_prime_above' : FF := mkF' 2 3 b_prime_above'
theorem F_prime_above_eq : F_prime_above = F_prime_above' := by
  unfold F_prime_above F_prime_above' b_prime_above b_prime_above'; simp only [F_is_prime_eq, fBin_eq, fCallL_eq, fCall_eq, fCons_eq, fNot_eq, fOr_eq, fTest_eq, fVar_eq, gAdd_eq, gDivI_eq, gLe_eq, gMax2_eq, gMulI_eq, sRet_eq, sSeq_eq, sSet_eq, sWhile_eq, mkF_eq]
def b__law_gcd' : SF := sSeq' (sSet' (fCallL' gAbs' (fCons' (fVar' 0) (fNil))) 0) (sSeq' (sSet' (fCallL' gAbs' (fCons' (fVar' 1) (fNil))) 1) (sSeq' (sWhile' 1000000 (fTest' (fBin' gNe' (fVar' 1) (fC (.int 0)))) (sPar' 0 1 (fCons' (fVar' 1) (fCons' (fBin' gModI' (fCallL' gInt' (fCons' (fVar' 0) (fNil))) (fVar' 1)) (fNil))))) (sRet' (fVar' 0))))
def F__law_gcd' : FF := mkF' 2 2 b__law_gcd'
theorem F__law_gcd_eq : F__law_gcd = F__law_gcd' := by
  unfold F__law_gcd F__law_gcd' b__law_gcd b__law_gcd'; simp only [fBin_eq, fCallL_eq, fCons_eq, fTest_eq, fVar_eq, gAbs_eq, gInt_eq, gModI_eq, gNe_eq, sPar_eq, sRet_eq, sSeq_eq, sSet_eq, sWhile_eq, mkF_eq]
def G__law_gcd' : FF := sumF A__law_gcd F__law_gcd'
theorem G__law_gcd_eq : G__law_gcd = G__law_gcd' := by
  unfold G__law_gcd G__law_gcd'; rw [F__law_gcd_eq]
def b__law_primes' : SF := sSeq' (sSet' (fLst' (fNil)) 1) (sSeq' (sFor' 1000000 (fRng2' (fCons' (fC (.int 2)) (fCons' (fBin' gAdd' (fVar' 0) (fC (.int 1))) (fNil)))) (gtN' 2) (sIf' (fAnd' (fTest' (fBin' gEq' (fBin' gModI' (fVar' 0) (fVar' 2)) (fC (.int 0)))) (fTest' (fBin' gEq' (fCallL' gLen' (fCons' (fLc' 1000000 [3] (fIter' (fVar' 1)) (gtN' 3) (fTest' (fBin' gEq' (fBin' gModI' (fVar' 2) (fVar' 3)) (fC (.int 0)))) (fVar' 3)) (fNil))) (fC (.int 0))))) (sExpr' (fMeth' 5 gAppend' (fVar' 1) (fCons' (fVar' 2) (fNil)))) (sNil))) (sRet' (fVar' 1)))
def F__law_primes' : FF := mkF' 1 4 b__law_primes'
theorem F__law_primes_eq : F__law_primes = F__law_primes' := by
  unfold F__law_primes F__law_primes' b__law_primes b__law_primes'; simp only [fAnd_eq, fBin_eq, fCallL_eq, fCons_eq, fIter_eq, fLc_eq, fLst_eq, fMeth_eq, fRng2_eq, fTest_eq, fVar_eq, gAdd_eq, gAppend_eq, gEq_eq, gLen_eq, gModI_eq, gtN_eq, sExpr_eq, sFor_eq, sIf_eq, sRet_eq, sSeq_eq, sSet_eq, mkF_eq]
def b__law_walk' : SF := sSeq' (sSet' (fLst' (fNil)) 2) (sSeq' (sSet' (fC (.int 1)) 3) (sSeq' (sFor' 1000000 (fRng1' (fCons' (fBin' gSubI' (fVar' 1) (fC (.int 1))) (fNil))) (gtN' 4) (sSeq' (sSet' (fBin' gModI' (fBin' gMulI' (fVar' 3) (fVar' 0)) (fVar' 1)) 3) (sIf' (fTest' (fBin' (gIn' true) (fVar' 3) (fVar' 2))) (sExpr' (fMeth' 5 gAppend' (fVar' 2) (fCons' (fVar' 3) (fNil)))) (sNil)))) (sRet' (fCallL' gLen' (fCons' (fVar' 2) (fNil))))))
def F__law_walk' : FF := mkF' 2 5 b__law_walk'
theorem F__law_walk_eq : F__law_walk = F__law_walk' := by
  unfold F__law_walk F__law_walk' b__law_walk b__law_walk'; simp only [fBin_eq, fCallL_eq, fCons_eq, fLst_eq, fMeth_eq, fRng1_eq, fTest_eq, fVar_eq, gAppend_eq, gIn_eq, gLen_eq, gModI_eq, gMulI_eq, gSubI_eq, gtN_eq, sExpr_eq, sFor_eq, sIf_eq, sRet_eq, sSeq_eq, sSet_eq, mkF_eq]
def b__law_no_inverse' : SF := sSeq' (sTryAs 2 (tb1 1 true tb0) (sExpr' (fCall' G_inverse_modulo' (fCons' (fVar' 0) (fCons' (fVar' 1) (fNil))))) (sRet' (fIsX (tb1 1 true tb0) (fVar' 2)))) (sRet' (fC (.bl false)))
def F__law_no_inverse' : FF := mkF' 2 3 b__law_no_inverse'
theorem F__law_no_inverse_eq : F__law_no_inverse = F__law_no_inverse' := by
  unfold F__law_no_inverse F__law_no_inverse' b__law_no_inverse b__law_no_inverse'; simp only [G_inverse_modulo_eq, fCall_eq, fCons_eq, fVar_eq, sExpr_eq, sRet_eq, sSeq_eq, mkF_eq]
def G__law_no_inverse' : FF := sumF A__law_no_inverse F__law_no_inverse'
theorem G__law_no_inverse_eq : G__law_no_inverse = G__law_no_inverse' := by
  unfold G__law_no_inverse G__law_no_inverse'; rw [F__law_no_inverse_eq]
def b_law_u13' : SF := sSeq' (sSet' (fCall' F_prime_above' (fCons' (fVar' 11) (fCons' (fVar' 12) (fNil)))) 13) (sSeq' (sIf' (fOr' (fTest' (fBin' gLe' (fVar' 13) (fVar' 12))) (fOr' (fTest' (fBin' gGt' (fVar' 13) (fC (.int 2000)))) (fOr' (fTest' (fBin' gNe' (fCall' F__law_primes' (fCons' (fVar' 13) (fNil))) (fLst' (fCons' (fVar' 13) (fNil))))) (fTest' (fBin' gNe' (fBin' gModI' (fBin' gSubI' (fVar' 13) (fC (.int 1))) (fVar' 11)) (fC (.int 0))))))) (sRet' (fC (.bl false))) (sNil)) (sSeq' (sFor' 1000000 (fRng2' (fCons' (fBin' gAdd' (fVar' 12) (fC (.int 1))) (fCons' (fVar' 13) (fNil)))) (gtN' 14) (sIf' (fAnd' (fTest' (fBin' gEq' (fBin' gModI' (fBin' gSubI' (fVar' 14) (fC (.int 1))) (fVar' 11)) (fC (.int 0)))) (fAnd' (fTest' (fBin' gGt' (fVar' 14) (fC (.int 1)))) (fTest' (fBin' gEq' (fCall' F__law_primes' (fCons' (fVar' 14) (fNil))) (fLst' (fCons' (fVar' 14) (fNil))))))) (sRet' (fC (.bl false))) (sNil))) (sRet' (fC (.bl true)))))
abbrev b_law_t13' : SF := sCut [11, 12] b_law_u13'
theorem b_law_u13_eq : b_law_u13 = b_law_u13' := by
  unfold b_law_u13 b_law_u13'; simp only [F__law_primes_eq, F_prime_above_eq, fAnd_eq, fBin_eq, fCall_eq, fCons_eq, fLst_eq, fOr_eq, fRng2_eq, fTest_eq, fVar_eq, gAdd_eq, gEq_eq, gGt_eq, gLe_eq, gModI_eq, gNe_eq, gSubI_eq, gtN_eq, sFor_eq, sIf_eq, sRet_eq, sSeq_eq, sSet_eq]
theorem b_law_t13_eq : b_law_t13 = b_law_t13' := by
  unfold b_law_t13 b_law_t13'; rw [b_law_u13_eq]
def b_law_u12' : SF := sSeq' (sPar' 11 12 (fCons' (fBin' gAdd' (fC (.int 1)) (fCall' F__law_take (fCons' (fVar' 1) (fCons' (fC (.int 12)) (fNil))))) (fCons' (fCall' F__law_take (fCons' (fVar' 1) (fCons' (fC (.int 60)) (fNil)))) (fNil)))) (b_law_t13')
abbrev b_law_t12' : SF := sCut [1] b_law_u12'
theorem b_law_u12_eq : b_law_u12 = b_law_u12' := by
  unfold b_law_u12 b_law_u12'; simp only [b_law_t13_eq, fBin_eq, fCall_eq, fCons_eq, fVar_eq, gAdd_eq, sPar_eq, sSeq_eq]
theorem b_law_t12_eq : b_law_t12 = b_law_t12' := by
  unfold b_law_t12 b_law_t12'; rw [b_law_u12_eq]
def b_law_u10' : SF := sSeq' (sSet' (fCall' F_generator_modulo' (fCons' (fVar' 3) (fNil))) 10) (sSeq' (sIf' (fOr' (fTest' (fBin' gNe' (fCall' F__law_walk' (fCons' (fVar' 10) (fCons' (fVar' 3) (fNil)))) (fBin' gSubI' (fVar' 3) (fC (.int 1))))) (fTest' (fBin' gGt' (fCallL' gLen' (fCons' (fLc' 1000000 [15] (fRng2' (fCons' (fC (.int 1)) (fCons' (fVar' 10) (fNil)))) (gtN' 15) (fTest' (fBin' gEq' (fCall' F__law_walk' (fCons' (fVar' 15) (fCons' (fVar' 3) (fNil)))) (fBin' gSubI' (fVar' 3) (fC (.int 1))))) (fVar' 15)) (fNil))) (fC (.int 0))))) (sRet' (fC (.bl false))) (sNil)) (b_law_t12'))
abbrev b_law_t10' : SF := sCut [1, 3] b_law_u10'
theorem b_law_u10_eq : b_law_u10 = b_law_u10' := by
  unfold b_law_u10 b_law_u10'; simp only [F__law_walk_eq, F_generator_modulo_eq, b_law_t12_eq, fBin_eq, fCallL_eq, fCall_eq, fCons_eq, fLc_eq, fOr_eq, fRng2_eq, fTest_eq, fVar_eq, gEq_eq, gGt_eq, gLen_eq, gNe_eq, gSubI_eq, gtN_eq, sIf_eq, sRet_eq, sSeq_eq, sSet_eq]
theorem b_law_t10_eq : b_law_t10 = b_law_t10' := by
  unfold b_law_t10 b_law_t10'; rw [b_law_u10_eq]
def b_law_u8' : SF := sSeq' (sSet' (fBin' gAdd' (fC (.int 1)) (fCall' F__law_take (fCons' (fVar' 1) (fCons' (fC (.int 60)) (fNil))))) 8) (sSeq' (sIf' (fTest' (fBin' gEq' (fCall' G__law_gcd' (fCons' (fVar' 4) (fCons' (fVar' 8) (fNil)))) (fC (.int 1)))) (sSeq' (sSet' (fCall' G_inverse_modulo' (fCons' (fVar' 4) (fCons' (fVar' 8) (fNil)))) 9) (sIf' (fOr' (fNot' (fTest' (fChain gLe' gLt' (fC (.int 0)) (fVar' 9) (fVar' 8)))) (fTest' (fBin' gNe' (fBin' gModI' (fBin' gSubI' (fBin' gMulI' (fVar' 4) (fVar' 9)) (fC (.int 1))) (fVar' 8)) (fC (.int 0))))) (sRet' (fC (.bl false))) (sNil))) (sIf' (fNot' (fTest' (fCall' G__law_no_inverse' (fCons' (fVar' 4) (fCons' (fVar' 8) (fNil)))))) (sRet' (fC (.bl false))) (sNil))) (b_law_t10'))
abbrev b_law_t8' : SF := sCut [1, 3, 4] b_law_u8'
theorem b_law_u8_eq : b_law_u8 = b_law_u8' := by
  unfold b_law_u8 b_law_u8'; simp only [G__law_gcd_eq, G__law_no_inverse_eq, G_inverse_modulo_eq, b_law_t10_eq, fBin_eq, fCall_eq, fCons_eq, fNot_eq, fOr_eq, fTest_eq, fVar_eq, gAdd_eq, gEq_eq, gLe_eq, gLt_eq, gModI_eq, gMulI_eq, gNe_eq, gSubI_eq, sIf_eq, sRet_eq, sSeq_eq, sSet_eq]
theorem b_law_t8_eq : b_law_t8 = b_law_t8' := by
  unfold b_law_t8 b_law_t8'; rw [b_law_u8_eq]
def b_law_u3' : SF := sSeq' (sSet' (fBin' gSubI' (fCall' F__law_take (fCons' (fVar' 1) (fCons' (fC (.int 201)) (fNil)))) (fC (.int 100))) 4) (sSeq' (sSet' (fCall' F__law_take (fCons' (fVar' 1) (fCons' (fC (.int 31)) (fNil)))) 5) (sSeq' (sSet' (fBin' gModI' (fC (.int 1)) (fVar' 3)) 6) (sSeq' (sFor' 1000000 (fRng1' (fCons' (fVar' 5) (fNil))) (gtN' 7) (sSet' (fBin' gModI' (fBin' gMulI' (fVar' 6) (fVar' 4)) (fVar' 3)) 6)) (sSeq' (sIf' (fOr' (fTest' (fBin' gNe' (fCall' G_power_modulo' (fCons' (fVar' 4) (fCons' (fVar' 5) (fCons' (fVar' 3) (fNil))))) (fVar' 6))) (fTest' (fBin' gNe' (fCall' G_power_modulo' (fCons' (fVar' 4) (fCons' (fC (.int 0)) (fCons' (fC (.int 1)) (fNil))))) (fC (.int 0))))) (sRet' (fC (.bl false))) (sNil)) (b_law_t8')))))
abbrev b_law_t3' : SF := sCut [1, 3] b_law_u3'
theorem b_law_u3_eq : b_law_u3 = b_law_u3' := by
  unfold b_law_u3 b_law_u3'; simp only [G_power_modulo_eq, b_law_t8_eq, fBin_eq, fCall_eq, fCons_eq, fOr_eq, fRng1_eq, fTest_eq, fVar_eq, gModI_eq, gMulI_eq, gNe_eq, gSubI_eq, gtN_eq, sFor_eq, sIf_eq, sRet_eq, sSeq_eq, sSet_eq]
theorem b_law_t3_eq : b_law_t3 = b_law_t3' := by
  unfold b_law_t3 b_law_t3'; rw [b_law_u3_eq]
def b_law_rest' : SF := sSeq' (sSet' (fLc' 1000000 [5] (fRng2' (fCons' (fC (.int 2)) (fCons' (fC (.int 62)) (fNil)))) (gtN' 5) (fTest' (fBin' gEq' (fCall' F__law_primes' (fCons' (fVar' 5) (fNil))) (fLst' (fCons' (fVar' 5) (fNil))))) (fVar' 5)) 2) (sSeq' (sSet' (fBin' gIx' (fVar' 2) (fCall' F__law_take (fCons' (fVar' 1) (fCons' (fCallL' gLen' (fCons' (fVar' 2) (fNil))) (fNil))))) 3) (b_law_t3'))
theorem b_law_rest_eq : b_law_rest = b_law_rest' := by
  unfold b_law_rest b_law_rest'; simp only [F__law_primes_eq, b_law_t3_eq, fBin_eq, fCallL_eq, fCall_eq, fCons_eq, fLc_eq, fLst_eq, fRng2_eq, fTest_eq, fVar_eq, gEq_eq, gIx_eq, gLen_eq, gtN_eq, sSeq_eq, sSet_eq]
end
end KG

set_option Elab.async false
set_option linter.all false
set_option maxRecDepth 100000
set_option maxHeartbeats 4000000
namespace KG
open PySem PySem.Spec PyProof.Rows L2 Z
theorem w64_lt {i : Int} (h0 : 0 ≤ i) (h : i < 1000000) : w64 i = true := by
  unfold w64
  rw [Nat.blt_eq]
  omega
/-! power_modulo -/
def pS (p : Int) : Int × Int × Int → Int × Int × Int := fun s => (if s.2.2.fmod 2 == 1 then (s.1 * s.2.1).fmod p else s.1, (s.2.1 * s.2.1).fmod p, s.2.2.fdiv 2)
def pE (p : Int) (s : Int × Int × Int) : Env' := [some (.int s.2.1), some (.int s.2.2), some (.int p), some (.int s.1)]
def pB : SF := (sSeq
          (sIf (fTest (fBin gEq (fBin gModI (fVar 1) (fC (D.int 2))) (fC (D.int 1))))
            (sSet (fBin gModI (fBin gMulI (fVar 3) (fVar 0)) (fVar 2)) 3) sNil)
          (sSeq (sSet (fBin gModI (fBin gMulI (fVar 0) (fVar 0)) (fVar 2)) 0)
            (sSet (fBin gDivI (fVar 1) (fC (D.int 2))) 1)))
def pI (p : Int) (s : Int × Int × Int) : Prop := 0 ≤ s.1 ∧ s.1 < 1000 ∧ 0 ≤ s.2.1 ∧ s.2.1 < 1000 ∧ 0 ≤ s.2.2
theorem pB_ok {p : Int} (hp : 0 < p) (hp2 : p < 1000) (s : Int × Int × Int) (hs : pI p s) : pB (pE p s) [] = .ret (.nx (pE p (pS p s))) [] ∧ pI p (pS p s) := by
  obtain ⟨t, a, k⟩ := s
  obtain ⟨h1, h2, h3, h4, h5⟩ := hs
  dsimp only at h1 h2 h3 h4 h5
  have w1 := w64_lt h1 (by omega)
  have w3 := w64_lt h3 (by omega)
  have hp0 : (p == 0) = false := by simp; omega
  have m1 : ∀ x : Int, 0 ≤ x.fmod p ∧ x.fmod p < p := fun x => ⟨Int.fmod_nonneg_of_pos _ hp, Int.fmod_lt_of_pos _ hp⟩
  constructor
  · cases hb : (k.fmod 2 == 1) <;> simp [pB, pE, pS, sSeq, sIf, sSet, sNil, fTest, fBin, fVar, fC, R.bind, R.catch, seqK, gModI, gI2, gEq, eqD, eqFlat, gMulI, gDivI, hp0, w1, w3, hb] <;> rfl
  · have := m1 (t * a)
    have := m1 (a * a)
    refine ⟨?_, ?_, ?_, ?_, ?_⟩ <;> dsimp only [pS] <;> (try split) <;> first | omega | (rw [Int.fdiv_eq_ediv_of_nonneg _ (by decide)]; omega)
theorem powmod (x p : Int) : ∀ n : Nat, (x % p) ^ n % p = x ^ n % p
  | 0 => by rw [Int.pow_zero, Int.pow_zero]
  | n + 1 => by rw [Int.pow_succ, Int.pow_succ, Int.mul_emod, powmod x p n, ← Int.mul_emod, Int.mul_emod, Int.emod_emod_of_dvd _ (Int.dvd_refl p), ← Int.mul_emod]
theorem pow_iter {p : Int} (hp : 0 < p) : ∀ (n : Nat) (t a k : Int), k.toNat < n → 0 ≤ k → 0 ≤ t → t < p → ∃ s', iter (fun s : Int × Int × Int => decide (0 < s.2.2)) (pS p) n (t, a, k) = some s' ∧ s'.1 = (t * a ^ k.toNat) % p
  | n + 1, t, a, k, hn, hk, ht, ht2 => by
    unfold iter
    by_cases h0 : 0 < k
    · have e : decide (0 < ((t, a, k) : Int × Int × Int).2.2) = true := by simpa using h0
      rw [e]
      dsimp only [pS]
      have hk2 : k.fdiv 2 = k / 2 := Int.fdiv_eq_ediv_of_nonneg _ (by decide)
      have hm2 : k.fmod 2 = k % 2 := Int.fmod_eq_emod_of_nonneg _ (by decide)
      have hmp : ∀ x : Int, x.fmod p = x % p := fun x => Int.fmod_eq_emod_of_nonneg _ (by omega)
      rw [hk2, hm2, hmp, hmp]
      have hr : 0 ≤ (if (k % 2 == 1) = true then t * a % p else t) ∧ (if (k % 2 == 1) = true then t * a % p else t) < p := by
        split
        · exact ⟨Int.emod_nonneg _ (by omega), Int.emod_lt_of_pos _ hp⟩
        · exact ⟨ht, ht2⟩
      obtain ⟨s', e1, e2⟩ := pow_iter hp n (if (k % 2 == 1) = true then t * a % p else t) (a * a % p) (k / 2) (by omega) (by omega) hr.1 hr.2
      refine ⟨s', e1, ?_⟩
      rw [e2]
      have hpow : ∀ T : Int, (T * (a * a % p) ^ (k / 2).toNat) % p = (T * a ^ (2 * (k / 2).toNat)) % p := fun T => by
        rw [Int.mul_emod, powmod, ← Int.mul_emod, Int.pow_mul, Int.pow_succ, Int.pow_succ, Int.pow_zero, Int.one_mul]
      rw [hpow]
      by_cases ho : k % 2 = 1
      · have hb : (k % 2 == 1) = true := by simpa using ho
        rw [if_pos hb]
        have hk3 : k.toNat = 2 * (k / 2).toNat + 1 := by omega
        rw [hk3, Int.pow_succ, Int.mul_emod, Int.emod_emod_of_dvd _ (Int.dvd_refl p), ← Int.mul_emod, Int.mul_assoc, Int.mul_comm a]
      · have hb : ¬ (k % 2 == 1) = true := by simpa using ho
        rw [if_neg hb]
        have hk3 : k.toNat = 2 * (k / 2).toNat := by omega
        rw [hk3]
    · have e : decide (0 < ((t, a, k) : Int × Int × Int).2.2) = false := by simpa using h0
      rw [e]
      refine ⟨_, rfl, ?_⟩
      have : k.toNat = 0 := by omega
      rw [this, Int.pow_zero, Int.mul_one]
      exact (Int.emod_eq_of_lt ht ht2).symm

theorem sm_power_modulo : ∀ ds s, A_power_modulo ds = some s → SmOk F_power_modulo ds s := by
  intro ds s e
  unfold A_power_modulo at e
  split at e
  · rename_i a k p
    split at e
    · rename_i q
      cases e
      obtain ⟨h1, h2, h3, h4⟩ := of_decide_eq_true q
      refine ⟨rfl, rfl, [], ?_⟩
      have hp0 : (p == 0) = false := by simp; omega
      have m1 : ∀ x : Int, 0 ≤ x.fmod p ∧ x.fmod p < p := fun x => ⟨Int.fmod_nonneg_of_pos _ h1, Int.fmod_lt_of_pos _ h1⟩
      have ma := m1 a
      have mo := m1 1
      obtain ⟨s', e1, e2⟩ := pow_iter h1 1001 ((1 : Int).fmod p) (a.fmod p) k (by omega) h3 mo.1 mo.2
      have w := (while_run (t := fTest (fBin gGt (fVar 1) (fC (.int 0)))) (b := pB) (pE p) (fun _ => []) (fun s => decide (0 < s.2.2)) (pS p) (pI p) (fun s _ => rfl) (fun s hs _ => pB_ok h1 h2 s hs) 1001 _ s' ⟨mo.1, by dsimp only; omega, ma.1, by dsimp only; omega, h3⟩ e1 1000000 (by decide)).1
      have hv : s'.1 = a ^ k.toNat % p := by
        rw [e2, Int.fmod_eq_emod_of_nonneg _ (by omega), Int.fmod_eq_emod_of_nonneg _ (by omega), Int.mul_emod, powmod, Int.emod_emod_of_dvd _ (Int.dvd_refl p), ← Int.mul_emod, Int.one_mul]
      rw [← hv]
      show mkF 3 4 (sSeq (sSet (fBin gModI (fC (D.int 1)) (fVar 2)) 3) (sSeq (sSet (fBin gModI (fVar 0) (fVar 2)) 0) (sSeq (sWhile 1000000 (fTest (fBin gGt (fVar 1) (fC (D.int 0)))) pB) (sRet (fVar 3))))) _ _ = _
      have w' : sWhile 1000000 (fTest (fBin gGt (fVar 1) (fC (D.int 0)))) pB [some (.int (a.fmod p)), some (.int k), some (.int p), some (.int ((1 : Int).fmod p))] [] = .ret (.nx (pE p s')) [] := w
      simp [mkF, startE, sSeq, sSet, fBin, fVar, fC, R.bind, R.catch, seqK, gModI, gI2, hp0, w', sRet, R.nox, pE]
    · cases e
  · cases e
end KG

set_option Elab.async false
set_option linter.all false
set_option maxRecDepth 100000
set_option maxHeartbeats 4000000
namespace KG
open PySem PySem.Spec PyProof.Rows L2 Z
/-! inverse_modulo -/
structure IS where
  old : Int
  new : Int
  u : Int
  v : Int
  q : Option D
def iS (s : IS) : IS := ⟨s.new, s.old - s.old.fdiv s.new * s.new, s.v, s.u - s.old.fdiv s.new * s.v, some (.int (s.old.fdiv s.new))⟩
def iE (a p : Int) (s : IS) : Env' := [some (.int a), some (.int p), some (.int s.old), some (.int s.new), some (.int s.u), some (.int s.v), s.q]
def iB : SF := (sSeq (sSet (fBin gDivI (fVar 2) (fVar 3)) 6) (sSeq (sPar 2 3 (fCons (fVar 3) (fCons (fBin gSubI (fVar 2) (fBin gMulI (fVar 6) (fVar 3))) (fNil)))) (sPar 4 5 (fCons (fVar 5) (fCons (fBin gSubI (fVar 4) (fBin gMulI (fVar 6) (fVar 5))) (fNil))))))
def iI (s : IS) : Prop := 0 ≤ s.old ∧ s.old < 1000 ∧ 0 ≤ s.new ∧ s.new < 1000
theorem iB_ok (a p : Int) (s : IS) (hs : iI s) (hc : decide (¬ s.new = 0) = true) : iB (iE a p s) [] = .ret (.nx (iE a p (iS s))) [] ∧ iI (iS s) := by
  obtain ⟨old, new, u, v, q⟩ := s
  obtain ⟨h1, h2, h3, h4⟩ := hs
  dsimp only at h1 h2 h3 h4 hc
  have hn : ¬ new = 0 := by simpa using hc
  have hn0 : (new == 0) = false := by simpa using hn
  have hq : old.fdiv new = old / new := Int.fdiv_eq_ediv_of_nonneg _ h3
  have hq0 : 0 ≤ old / new := Int.ediv_nonneg h1 h3
  have hq1 : old / new ≤ old := Int.ediv_le_self _ h1
  have hm := Int.emod_add_mul_ediv old new
  have hm1 := Int.emod_nonneg old hn
  have hm2 := Int.emod_lt_of_pos old (show 0 < new by omega)
  have w : w64 (old.fdiv new) = true := by rw [hq]; exact w64_lt hq0 (by omega)
  have hb : Nat.blt new.natAbs 1073741824 = true := by rw [Nat.blt_eq]; omega
  constructor
  · simp [iB, iE, iS, sSeq, sSet, sPar, fBin, fVar, fC, fCons, fNil, R.bind, R.catch, seqK, gI2, gMulI, gDivI, gSubI, hn0, w, hb]
  · refine ⟨h3, h4, ?_, ?_⟩ <;> dsimp only [iS] <;> rw [hq, Int.mul_comm] <;> omega
theorem i_iter : ∀ (n : Nat) (s : IS) (r : Int × Int), euc n s.old s.new s.u s.v = some r → ∃ s', iter (fun s : IS => decide (¬ s.new = 0)) iS n s = some s' ∧ s'.old = r.1 ∧ s'.u = r.2
  | n + 1, s, r, e => by
    unfold euc at e
    unfold iter
    by_cases h : s.new = 0
    · have e1 : decide (¬ s.new = 0) = false := by simpa using h
      have e2 : decide (s.new = 0) = true := by simpa using h
      rw [e1]
      rw [e2] at e
      cases e
      exact ⟨s, rfl, rfl, rfl⟩
    · have e1 : decide (¬ s.new = 0) = true := by simpa using h
      have e2 : decide (s.new = 0) = false := by simpa using h
      rw [e1]
      rw [e2] at e
      exact i_iter n (iS s) r e

theorem i_all (a p : Int) (h1 : 0 < p) (h2 : p < 100) {r : Int × Int} (e : euc 100 p (a.fmod p) 0 1 = some r) :
    F_inverse_modulo [.int a, .int p] [] = if r.1 = 1 then .ret (.int (r.2.fmod p)) [] else .exc ⟨1, none⟩ [] := by
  have hp0 : (p == 0) = false := by simp; omega
  have m0 := Int.fmod_nonneg_of_pos a h1
  have m1 := Int.fmod_lt_of_pos a h1
  obtain ⟨s', e1, e2, e3⟩ := i_iter 100 ⟨p, a.fmod p, 0, 1, none⟩ r e
  have w := (while_run (t := fTest (fBin gNe (fVar 3) (fC (.int 0)))) (b := iB) (iE a p) (fun _ => []) (fun s => decide (¬ s.new = 0)) iS iI (fun s _ => by
    show R.ret (!(s.new == 0)) [] = _
    congr 1
    by_cases h : s.new = 0 <;> simp [h]) (fun s hs hc => iB_ok a p s hs hc) 100 _ s' ⟨by dsimp only; omega, by dsimp only; omega, m0, by dsimp only; omega⟩ e1 1000000 (by decide)).1
  have w' : sWhile 1000000 (fTest (fBin gNe (fVar 3) (fC (D.int 0)))) iB [some (.int a), some (.int p), some (.int p), some (.int (a.fmod p)), some (.int 0), some (.int 1), none] [] = .ret (.nx (iE a p s')) [] := w
  show mkF 2 7 (sSeq (sPar 2 3 (fCons (fVar 1) (fCons (fBin gModI (fVar 0) (fVar 1)) (fNil)))) (sSeq (sAsg (fTup (fCons (fC (.int 0)) (fCons (fC (.int 1)) (fNil)))) (gtTup 2 (gtCons (gtN 4) (gtCons (gtN 5) (gtNil))))) (sSeq (sWhile 1000000 (fTest (fBin gNe (fVar 3) (fC (.int 0)))) iB) (sSeq (sIf (fTest (fBin gNe (fVar 2) (fC (.int 1)))) (sRaise0 1) (sNil)) (sRet (fBin gModI (fVar 4) (fVar 1))))))) _ _ = _
  rw [← e2, ← e3]
  by_cases h : s'.old = 1
  · have hb : (s'.old == 1) = true := by simpa using h
    simp [mkF, startE, sSeq, sPar, sAsg, fTup, short, gtTup, gtCons, gtNil, gtN, sIf, fTest, fCons, fNil, fBin, fVar, fC, R.bind, R.catch, seqK, gModI, gI2, hp0, w', sRet, R.nox, iE, gNe, eqD, eqFlat, sNil, sRaise0, h]
  · have hb : (s'.old == 1) = false := by simpa using h
    simp [mkF, startE, sSeq, sPar, sAsg, fTup, short, gtTup, gtCons, gtNil, gtN, sIf, fTest, fCons, fNil, fBin, fVar, fC, R.bind, R.catch, seqK, gModI, gI2, hp0, w', sRet, R.nox, iE, gNe, eqD, eqFlat, sNil, sRaise0, h, hb]
theorem sm_inverse_modulo : ∀ ds s, A_inverse_modulo ds = some s → SmOk F_inverse_modulo ds s := by
  intro ds s e
  unfold A_inverse_modulo at e
  split at e
  · rename_i a p
    split at e
    · rename_i q
      obtain ⟨h1, h2⟩ := of_decide_eq_true q
      split at e
      · rename_i old u er
        have f := i_all a p h1 h2 er
        split at e
        · rename_i q2
          cases e
          refine ⟨rfl, rfl, [], ?_⟩
          rw [f, if_pos (of_decide_eq_true q2)]
        · rename_i q2
          cases e
          refine ⟨rfl, [], ?_⟩
          rw [f, if_neg (of_decide_eq_false q2)]
      · cases e
    · cases e
  · cases e
end KG

set_option Elab.async false
set_option linter.all false
set_option maxRecDepth 100000
set_option maxHeartbeats 4000000
namespace KG
open PySem PySem.Spec PyProof.Rows L2 Z
/-! _law_gcd -/
def gS (s : Int × Int) : Int × Int := (s.2, s.1.fmod s.2)
def gE (s : Int × Int) : Env' := [some (.int s.1), some (.int s.2)]
def gB' : SF := (sPar 0 1 (fCons (fVar 1) (fCons (fBin gModI (fCallL gInt (fCons (fVar 0) (fNil))) (fVar 1)) (fNil))))
theorem gB_ok (s : Int × Int) (hc : decide (¬ s.2 = 0) = true) : gB' (gE s) [] = .ret (.nx (gE (gS s))) [] := by
  obtain ⟨a, b⟩ := s
  have hn : ¬ b = 0 := by simpa using hc
  have hn0 : (b == 0) = false := by simpa using hn
  simp [gB', gE, gS, sPar, fBin, fVar, fC, fCons, fNil, fCallL, gInt, R.bind, R.catch, gI2, gModI, hn0]
theorem g_iter : ∀ (n : Nat) (a b : Int), b.toNat < n → 0 ≤ a → 0 ≤ b → ∃ s', iter (fun s : Int × Int => decide (¬ s.2 = 0)) gS n (a, b) = some s' ∧ s'.1 = Int.gcd a b
  | n + 1, a, b, hn, ha, hb => by
    unfold iter
    by_cases h : b = 0
    · subst h
      refine ⟨(a, 0), rfl, ?_⟩
      show a = _
      rw [Int.gcd_zero_right]
      omega
    · have e1 : decide (¬ ((a, b) : Int × Int).2 = 0) = true := by simpa using h
      rw [e1]
      have hm : a.fmod b = a % b := Int.fmod_eq_emod_of_nonneg _ hb
      have m1 := Int.emod_nonneg a h
      have m2 := Int.emod_lt_of_pos a (show 0 < b by omega)
      obtain ⟨s', e2, e3⟩ := g_iter n b (a.fmod b) (by rw [hm]; omega) hb (by rw [hm]; exact m1)
      refine ⟨s', e2, ?_⟩
      rw [e3, hm]
      obtain ⟨m, rfl⟩ := Int.eq_ofNat_of_zero_le ha
      obtain ⟨k, rfl⟩ := Int.eq_ofNat_of_zero_le hb
      rw [← Int.natCast_emod, Int.gcd_natCast_natCast, Int.gcd_natCast_natCast, Nat.gcd_comm, ← Nat.gcd_rec, Nat.gcd_comm]
end KG

set_option Elab.async false
set_option linter.all false
set_option maxRecDepth 100000
set_option maxHeartbeats 4000000
namespace KG
open PySem PySem.Spec PyProof.Rows L2 Z
theorem sm__law_gcd : ∀ ds s, A__law_gcd ds = some s → SmOk F__law_gcd ds s := by
  intro ds s e
  unfold A__law_gcd at e
  split at e
  · rename_i a b
    split at e
    · rename_i q
      cases e
      obtain ⟨h1, h2⟩ := of_decide_eq_true q
      refine ⟨rfl, rfl, [], ?_⟩
      obtain ⟨s', e1, e2⟩ := g_iter 1001 (if a < 0 then -a else a) (if b < 0 then -b else b) (by split <;> omega) (by split <;> omega) (by split <;> omega)
      have w := (while_run (t := fTest (fBin gNe (fVar 1) (fC (.int 0)))) (b := gB') gE (fun _ => []) (fun s => decide (¬ s.2 = 0)) gS (fun _ => True) (fun s _ => by
        show R.ret (!(s.2 == 0)) [] = _
        congr 1
        by_cases h : s.2 = 0 <;> simp [h]) (fun s _ hc => ⟨gB_ok s hc, trivial⟩) 1001 _ s' trivial e1 1000000 (by decide)).1
      have w' : sWhile 1000000 (fTest (fBin gNe (fVar 1) (fC (D.int 0)))) gB' [some (.int (if a < 0 then -a else a)), some (.int (if b < 0 then -b else b))] [] = .ret (.nx (gE s')) [] := w
      have hg : (Int.gcd a b : Int) = s'.1 := by
        rw [e2]
        congr 1
        show a.natAbs.gcd b.natAbs = (Int.natAbs _).gcd (Int.natAbs _)
        congr 1 <;> split <;> simp
      show mkF 2 2 (sSeq (sSet (fCallL gAbs (fCons (fVar 0) (fNil))) 0) (sSeq (sSet (fCallL gAbs (fCons (fVar 1) (fNil))) 1) (sSeq (sWhile 1000000 (fTest (fBin gNe (fVar 1) (fC (.int 0)))) gB') (sRet (fVar 0))))) _ _ = _
      rw [hg]
      simp [mkF, startE, sSeq, sSet, fCallL, gAbs, fCons, fNil, fVar, fC, R.bind, R.catch, seqK, w', sRet, R.nox, gE]
    · cases e
  · cases e
theorem sm__law_no_inverse : ∀ ds s, A__law_no_inverse ds = some s → SmOk F__law_no_inverse ds s := by
  intro ds s e
  unfold A__law_no_inverse at e
  split at e
  · rename_i a p
    split at e
    · rename_i v ev
      cases e
      refine ⟨rfl, rfl, [], ?_⟩
      show mkF 2 3 (sSeq (sTryAs 2 (tb1 1 true tb0) (sExpr (fCall G_inverse_modulo (fCons (fVar 0) (fCons (fVar 1) (fNil))))) (sRet (fIsX (tb1 1 true tb0) (fVar 2)))) (sRet (fC (.bl false)))) _ _ = _
      have g : G_inverse_modulo [.int a, .int p] [] = .ret v [] := by
        unfold G_inverse_modulo sumF
        rw [ev]
      simp [mkF, startE, sSeq, sTryAs, sExpr, fCall, fCons, fNil, fVar, fC, R.bind, R.catch, seqK, g, sRet, R.nox]
    · rename_i k ev
      cases e
      refine ⟨rfl, rfl, [], ?_⟩
      show mkF 2 3 (sSeq (sTryAs 2 (tb1 1 true tb0) (sExpr (fCall G_inverse_modulo (fCons (fVar 0) (fCons (fVar 1) (fNil))))) (sRet (fIsX (tb1 1 true tb0) (fVar 2)))) (sRet (fC (.bl false)))) _ _ = _
      have hk : k = 1 := by
        unfold A_inverse_modulo at ev
        dsimp only at ev
        split at ev
        · split at ev
          · split at ev <;> cases ev <;> rfl
          · cases ev
        · cases ev
      subst hk
      have g : G_inverse_modulo [.int a, .int p] [] = .exc ⟨1, none⟩ [] := by
        unfold G_inverse_modulo sumF
        rw [ev]
      simp [mkF, startE, sSeq, sTryAs, sExpr, fCall, fCons, fNil, fVar, fC, R.bind, R.catch, seqK, g, sRet, R.nox, outOff, fIsX, tb1, noX]
    · cases e
  · cases e
end KG

set_option Elab.async false
set_option linter.all false
set_option maxRecDepth 1000000
set_option maxHeartbeats 4000000
namespace KG
open PySem PySem.Spec PyProof.Rows L2 Z
def e12 : Env' := [none, some (.ref 0), none, none, none, none, none, none, none, none, none, none, none, none, none, none]
def e3 (p : Int) : Env' := [none, some (.ref 0), none, some (.int p), none, none, none, none, none, none, none, none, none, none, none, none]
def primesL : List Int := [2, 3, 5, 7, 11, 13, 17, 19, 23, 29, 31, 37, 41, 43, 47, 53, 59, 61]
def P12 (e : Env') (h : Hs) : Bool := beqE e e12 && isSt h
def getP (e : Env') : Int := match e with
  | _ :: _ :: _ :: some (.int p) :: _ => p
  | _ => 0
def P3 (e : Env') (h : Hs) : Bool := beqE e (e3 (getP e)) && isSt h && primesL.any fun q => decide (q = getP e)
theorem p12_0 : goodAt (b_law_u12' e12 [.st]) 0 = true := by decide +kernel
theorem p12_1 : goodAt (b_law_u12' e12 [.st]) 1 = true := by decide +kernel
theorem p12_2 : goodAt (b_law_u12' e12 [.st]) 2 = true := by decide +kernel
theorem p12_3 : goodAt (b_law_u12' e12 [.st]) 3 = true := by decide +kernel
theorem p12_4 : goodAt (b_law_u12' e12 [.st]) 4 = true := by decide +kernel
theorem p12_5 : goodAt (b_law_u12' e12 [.st]) 5 = true := by decide +kernel
theorem p12_6 : goodAt (b_law_u12' e12 [.st]) 6 = true := by decide +kernel
theorem p12_7 : goodAt (b_law_u12' e12 [.st]) 7 = true := by decide +kernel
theorem p12_8 : goodAt (b_law_u12' e12 [.st]) 8 = true := by decide +kernel
theorem p12_9 : goodAt (b_law_u12' e12 [.st]) 9 = true := by decide +kernel
theorem p12_10 : goodAt (b_law_u12' e12 [.st]) 10 = true := by decide +kernel
theorem p12_11 : goodAt (b_law_u12' e12 [.st]) 11 = true := by decide +kernel
theorem good12 : Good b_law_u12 e12 [.st] := by
  rw [b_law_u12_eq]
  refine good_of (goodC_of (n := 12) (by decide +kernel) (by decide) fun i hi => ?_)
  match i, hi with
  | 0, _ => exact p12_0
  | 1, _ => exact p12_1
  | 2, _ => exact p12_2
  | 3, _ => exact p12_3
  | 4, _ => exact p12_4
  | 5, _ => exact p12_5
  | 6, _ => exact p12_6
  | 7, _ => exact p12_7
  | 8, _ => exact p12_8
  | 9, _ => exact p12_9
  | 10, _ => exact p12_10
  | 11, _ => exact p12_11
theorem g12 : ∀ e h, P12 e h = true → Good b_law_u12 e h := fun e h q => by
  have q' := Bool.and_eq_true_iff.mp q
  rw [beqE_eq q'.1, isSt_eq q'.2]
  exact good12
theorem mem_primes {p : Int} (h : (primesL.any fun q => decide (q = p)) = true) : p = 2 ∨ p = 3 ∨ p = 5 ∨ p = 7 ∨ p = 11 ∨ p = 13 ∨ p = 17 ∨ p = 19 ∨ p = 23 ∨ p = 29 ∨ p = 31 ∨ p = 37 ∨ p = 41 ∨ p = 43 ∨ p = 47 ∨ p = 53 ∨ p = 59 ∨ p = 61 := by
  simp only [primesL, List.any_cons, List.any_nil, Bool.or_eq_true, decide_eq_true_eq, Bool.false_eq_true, or_false] at h
  omega
theorem good10 {p : Int} (h : (primesL.any fun q => decide (q = p)) = true) : Good b_law_u10 (e3 p) [.st] := by
  have g := fun e h q => (b_law_u12_eq ▸ g12 e h q : Good b_law_u12' e h)
  rw [b_law_u10_eq]
  unfold b_law_u10'
  rcases mem_primes h with rfl | rfl | rfl | rfl | rfl | rfl | rfl | rfl | rfl | rfl | rfl | rfl | rfl | rfl | rfl | rfl | rfl | rfl
  all_goals exact good_reach2 P12 (by decide +kernel) g
theorem g10 : ∀ e h, P3 e h = true → Good b_law_u10 e h := fun e h q => by
  have q1 := Bool.and_eq_true_iff.mp q
  have q2 := Bool.and_eq_true_iff.mp q1.1
  rw [beqE_eq q2.1, isSt_eq q2.2]
  exact good10 q1.2
/-- the list of primes, the prime drawn -/
theorem reachR : atCut [1, 3] P3 ((sSeq' (sSet' (fLc' 1000000 [5] (fRng2' (fCons' (fC (.int 2)) (fCons' (fC (.int 62)) (fNil)))) (gtN' 5) (fTest' (fBin' gEq' (fCall' F__law_primes' (fCons' (fVar' 5) (fNil))) (fLst' (fCons' (fVar' 5) (fNil))))) (fVar' 5)) 2) (sSet' (fBin' gIx' (fVar' 2) (fCall' F__law_take (fCons' (fVar' 1) (fCons' (fCallL' gLen' (fCons' (fVar' 2) (fNil))) (fNil))))) 3)) (((List.replicate 16 none).set 1 (some (.ref 1))).set 0 none) [.junk, .st]) = true := by decide +kernel
end KG

set_option Elab.async false
set_option linter.all false
set_option maxRecDepth 100000
set_option maxHeartbeats 4000000
namespace KG
open PySem PySem.Spec PyProof.Rows L2 Z
/-! what Euclid with one factor finds -/
theorem euc_inv (a p : Int) : ∀ (n : Nat) (old new u v : Int), 0 ≤ old → 0 ≤ new → new.toNat < n → p ∣ u * a - old → p ∣ v * a - new →
    ∃ g x, euc n old new u v = some (g, x) ∧ 0 ≤ g ∧ g = Int.gcd old new ∧ p ∣ x * a - g
  | n + 1, old, new, u, v, h0, h1, hn, d1, d2 => by
    unfold euc
    by_cases h : new = 0
    · subst h
      refine ⟨old, u, rfl, h0, ?_, d1⟩
      rw [Int.gcd_zero_right]
      omega
    · have e2 : decide (new = 0) = false := by simpa using h
      rw [e2]
      have hq : old.fdiv new = old / new := Int.fdiv_eq_ediv_of_nonneg _ h1
      have hm := Int.emod_add_mul_ediv old new
      have hm1 := Int.emod_nonneg old h
      have hm2 := Int.emod_lt_of_pos old (show 0 < new by omega)
      have er : old - old / new * new = old % new := by rw [Int.mul_comm]; omega
      dsimp only
      rw [hq, er]
      have d3 : p ∣ (u - old / new * v) * a - old % new := by
        have e : (u - old / new * v) * a - old % new = (u * a - old) - old / new * (v * a - new) := by
          rw [← er, Int.sub_mul, Int.mul_sub, Int.mul_assoc]; omega
        rw [e]
        exact Int.dvd_sub d1 (Int.dvd_mul_of_dvd_right d2)
      obtain ⟨g, x, e1, e2, e3, e4⟩ := euc_inv a p n new (old % new) v (u - old / new * v) h1 hm1 (by omega) d2 d3
      refine ⟨g, x, e1, e2, ?_, e4⟩
      rw [e3]
      obtain ⟨m, rfl⟩ := Int.eq_ofNat_of_zero_le h0
      obtain ⟨k, rfl⟩ := Int.eq_ofNat_of_zero_le h1
      rw [← Int.natCast_emod, Int.gcd_natCast_natCast, Int.gcd_natCast_natCast, Nat.gcd_comm, ← Nat.gcd_rec, Nat.gcd_comm]
theorem gcd_fmod (a p : Int) (h : 0 < p) : Int.gcd p (a.fmod p) = Int.gcd a p := by
  have e : a = a.fmod p + p * (a / p) := by
    rw [Int.fmod_eq_emod_of_nonneg _ (by omega)]
    exact (Int.emod_add_mul_ediv a p).symm
  rw [Int.gcd_comm]
  conv => rhs; rw [e]
  exact (Int.gcd_add_mul_left_left _ _ _).symm
theorem inv_yes (a m : Int) (h1 : 0 < m) (h2 : m < 100) (hg : Int.gcd a m = 1) : ∃ b, A_inverse_modulo [.int a, .int m] = some (.val (.int b)) ∧ 0 ≤ b ∧ b < m ∧ (a * b - 1).fmod m = 0 := by
  have m0 := Int.fmod_nonneg_of_pos a h1
  have m1 := Int.fmod_lt_of_pos a h1
  have hf : a.fmod m = a % m := Int.fmod_eq_emod_of_nonneg _ (by omega)
  obtain ⟨g, x, e1, e2, e3, e4⟩ := euc_inv a m 100 m (a.fmod m) 0 1 (by omega) m0 (by omega) (by rw [Int.zero_mul, Int.zero_sub]; exact Int.dvd_neg.mpr (Int.dvd_refl m)) (by
    rw [Int.one_mul, hf]
    exact ⟨a / m, by have := Int.emod_add_mul_ediv a m; omega⟩)
  rw [gcd_fmod _ _ h1, hg] at e3
  have e3' : g = 1 := e3
  subst e3'
  refine ⟨x.fmod m, ?_, Int.fmod_nonneg_of_pos x h1, Int.fmod_lt_of_pos x h1, ?_⟩
  · unfold A_inverse_modulo
    dsimp only
    rw [decide_eq_true (show 0 < m ∧ m < 100 from ⟨h1, h2⟩)]
    dsimp only
    rw [e1]
    rfl
  · rw [Int.fmod_eq_emod_of_nonneg _ (by omega), Int.fmod_eq_emod_of_nonneg _ (by omega)]
    apply Int.emod_eq_zero_of_dvd
    obtain ⟨k, hk⟩ := e4
    have := Int.emod_add_mul_ediv x m
    refine ⟨k - a * (x / m), ?_⟩
    have e5 : x % m = x - m * (x / m) := by omega
    rw [e5, Int.mul_sub, Int.mul_sub, ← hk, Int.mul_comm x a, ← Int.mul_assoc, ← Int.mul_assoc, Int.mul_comm a m]
    omega
theorem inv_no (a m : Int) (h1 : 0 < m) (h2 : m < 100) (hg : Int.gcd a m ≠ 1) : A__law_no_inverse [.int a, .int m] = some (.val (.bl true)) := by
  have m0 := Int.fmod_nonneg_of_pos a h1
  have m1 := Int.fmod_lt_of_pos a h1
  have hf : a.fmod m = a % m := Int.fmod_eq_emod_of_nonneg _ (by omega)
  obtain ⟨g, x, e1, e2, e3, e4⟩ := euc_inv a m 100 m (a.fmod m) 0 1 (by omega) m0 (by omega) (by rw [Int.zero_mul, Int.zero_sub]; exact Int.dvd_neg.mpr (Int.dvd_refl m)) (by
    rw [Int.one_mul, hf]
    exact ⟨a / m, by have := Int.emod_add_mul_ediv a m; omega⟩)
  rw [gcd_fmod _ _ h1] at e3
  have h3 : ¬ g = 1 := by omega
  have : A_inverse_modulo [.int a, .int m] = some (.exc 1) := by
    unfold A_inverse_modulo
    dsimp only
    rw [decide_eq_true (show 0 < m ∧ m < 100 from ⟨h1, h2⟩)]
    dsimp only
    rw [e1]
    dsimp only
    rw [decide_eq_false h3]
  unfold A__law_no_inverse
  dsimp only
  rw [this]
/-! the tail behind a, k -/
def e8 (p a : Int) : Env' := [none, some (.ref 0), none, some (.int p), some (.int a), none, none, none, none, none, none, none, none, none, none, none]
theorem bbool (x y : Int) : (x == y) = decide (x = y) := by
  by_cases h : x = y <;> simp [h]
theorem good8 {p a : Int} (hp : (primesL.any fun q => decide (q = p)) = true) (ha : -100 ≤ a) (ha2 : a ≤ 100) : Good b_law_u8 (e8 p a) [.st] := by
  unfold b_law_u8
  refine good_seq ?_
  have e1 : sSet (fBin gAdd (fC (.int 1)) (fCall F__law_take (fCons (fVar 1) (fCons (fC (.int 60)) (fNil))))) 8 (e8 p a) [.st] = .pick 60 (fun i => .ret (.nx ((e8 p a).set 8 (some (.int (1 + (i : Int)))))) [.st]) := rfl
  rw [e1]
  intro i hi
  refine ⟨_, rfl, ?_⟩
  obtain ⟨m, hm⟩ : ∃ m : Int, m = 1 + (i : Int) := ⟨_, rfl⟩
  rw [← hm]
  have h1 : 0 < m := by omega
  have h2 : m < 100 := by omega
  have g10' := good10 hp
  have hc : ∀ x : Option D, cut [1, 3] (((e8 p a).set 8 (some (.int m))).set 9 x) [.st] = some (e3 p, [.st]) := fun x => rfl
  have hc0 : cut [1, 3] ((e8 p a).set 8 (some (.int m))) [.st] = some (e3 p, [.st]) := rfl
  have hg : ∀ h, G__law_gcd [.int a, .int m] h = .ret (.int (Int.gcd a m)) h := fun h => by
    unfold G__law_gcd sumF A__law_gcd
    dsimp only
    rw [decide_eq_true (show -1000 < m ∧ m < 1000 by omega)]
  have v4 : fVar 4 ((e8 p a).set 8 (some (.int m))) [.st] = .ret (.int a) [.st] := rfl
  have v8 : fVar 8 ((e8 p a).set 8 (some (.int m))) [.st] = .ret (.int m) [.st] := rfl
  by_cases h : Int.gcd a m = 1
  · obtain ⟨b, e2, b0, b1, b2⟩ := inv_yes a m h1 h2 h
    have hi : ∀ hh, G_inverse_modulo [.int a, .int m] hh = .ret (.int b) hh := fun hh => by
      unfold G_inverse_modulo sumF
      rw [e2]
    refine good_nx (env1 := ((e8 p a).set 8 (some (.int m))).set 9 (some (.int b))) (h1 := [.st]) ?_ (good_cut (hc _) g10')
    have w1 : w64 a = true := by unfold w64; rw [Nat.blt_eq]; omega
    have hm0 : (m == 0) = false := by simp; omega
    have v4' : ∀ x, fVar 4 (((e8 p a).set 8 (some (.int m))).set 9 x) [.st] = .ret (.int a) [.st] := fun _ => rfl
    have v8' : ∀ x, fVar 8 (((e8 p a).set 8 (some (.int m))).set 9 x) [.st] = .ret (.int m) [.st] := fun _ => rfl
    have v9' : ∀ x, fVar 9 (((e8 p a).set 8 (some (.int m))).set 9 (some x)) [.st] = .ret x [.st] := fun _ => rfl
    have c1 : (0 : Int) ≤ b := b0
    simp [sIf, sSeq, sSet, sNil, fTest, fBin, fCall, fCons, fNil, v4, v8, v4', v8', v9', fC, hg, hi, h, R.bind, R.catch, seqK, gEq, gNe, eqD, eqFlat, fOr, fNot, fChain, gLe, gLt, gB2, gI2, c1, b1, gModI, gSubI, gMulI, w1, hm0, b2]
  · have hi : ∀ hh, G__law_no_inverse [.int a, .int m] hh = .ret (.bl true) hh := fun hh => by
      unfold G__law_no_inverse sumF
      rw [inv_no a m h1 h2 h]
    have h' : ¬ ((Int.gcd a m : Int) = 1) := by omega
    refine good_nx (env1 := ((e8 p a).set 8 (some (.int m)))) (h1 := [.st]) ?_ (good_cut hc0 g10')
    have hb : ((Int.gcd a m : Int) == 1) = false := by simpa using h'
    simp [sIf, sSeq, sSet, sNil, fTest, fBin, fCall, fCons, fNil, v4, v8, fC, hg, hi, hb, R.bind, R.catch, seqK, gEq, gNe, eqD, eqFlat, fOr, fNot]
/-! the tail behind p -/
def e3l (p a k : Int) (t : Int) (o : Option D) : Env' := [none, some (.ref 0), none, some (.int p), some (.int a), some (.int k), some (.int t), o, none, none, none, none, none, none, none, none]
theorem pow_fold (p a : Int) (hp : 0 < p) : ∀ (n : Nat) (t : Int) (ds : List D), ds.length = n → 0 ≤ t → t < p → ds.foldl (fun s (_ : D) => (s * a).fmod p) t = (t * a ^ n) % p
  | 0, t, [], _, h0, h1 => by rw [Int.pow_zero, Int.mul_one]; exact (Int.emod_eq_of_lt h0 h1).symm
  | n + 1, t, d :: ds, h, h0, h1 => by
    rw [List.foldl_cons, pow_fold p a hp n _ ds (by simpa using h) (Int.fmod_nonneg_of_pos _ hp) (Int.fmod_lt_of_pos _ hp), Int.fmod_eq_emod_of_nonneg _ (by omega), Int.mul_emod, Int.emod_emod_of_dvd _ (Int.dvd_refl p), ← Int.mul_emod, Int.mul_assoc, Int.pow_succ, Int.mul_comm (a ^ n)]
theorem good3 {p : Int} (hp : (primesL.any fun q => decide (q = p)) = true) : Good b_law_u3 (e3 p) [.st] := by
  have hp' := mem_primes hp
  have p0 : 0 < p := by omega
  have p1 : p < 1000 := by omega
  unfold b_law_u3
  refine good_seq ?_
  have e1 : sSet (fBin gSubI (fCall F__law_take (fCons (fVar 1) (fCons (fC (.int 201)) (fNil)))) (fC (.int 100))) 4 (e3 p) [.st] = .pick 201 (fun i => .ret (.nx ((e3 p).set 4 (some (.int ((i : Int) - 100))))) [.st]) := rfl
  rw [e1]
  intro i hi
  refine ⟨_, rfl, ?_⟩
  obtain ⟨a, ha⟩ : ∃ a : Int, a = (i : Int) - 100 := ⟨_, rfl⟩
  rw [← ha]
  refine good_seq ?_
  have e2 : sSet (fCall F__law_take (fCons (fVar 1) (fCons (fC (.int 31)) (fNil)))) 5 ((e3 p).set 4 (some (.int a))) [.st] = .pick 31 (fun i => .ret (.nx (((e3 p).set 4 (some (.int a))).set 5 (some (.int (i : Int))))) [.st]) := rfl
  rw [e2]
  intro j hj
  refine ⟨_, rfl, ?_⟩
  have hp0 : (p == 0) = false := by simp; omega
  refine good_nx (env1 := e3l p a j ((1 : Int).fmod p) none) (h1 := [.st]) ?_ ?_
  · have v3 : fVar 3 (((e3 p).set 4 (some (.int a))).set 5 (some (.int (j : Int)))) [.st] = .ret (.int p) [.st] := rfl
    simp only [sSet, fBin, fC, R.bind, R.catch, v3, gModI, gI2, hp0]
    rfl
  have hf1 := Int.fmod_nonneg_of_pos 1 p0
  have hf2 := Int.fmod_lt_of_pos 1 p0
  have wa : w64 a = true := by unfold w64; rw [Nat.blt_eq]; omega
  obtain ⟨o', hloop⟩ := for_run (S := Int) (nxt := nxR 0 j) (g := gtN 7) (b := sSet (fBin gModI (fBin gMulI (fVar 6) (fVar 4)) (fVar 3)) 6) (fun t o => e3l p a j t o) (fun _ => [.st]) (rangeD 0 j) (fun s _ => (s * a).fmod p)
    (fun s i => nxR_at 0 j i _) (fun s o d => rfl) (fun s d hd => by
      have v6 : fVar 6 (e3l p a j s (some d)) [.st] = .ret (.int s) [.st] := rfl
      have v4 : fVar 4 (e3l p a j s (some d)) [.st] = .ret (.int a) [.st] := rfl
      have v3 : fVar 3 (e3l p a j s (some d)) [.st] = .ret (.int p) [.st] := rfl
      simp only [sSet, fBin, R.bind, R.catch, v3, v4, v6, gModI, gMulI, gI2, hp0, wa, Bool.or_true, Bool.not_false]
      rfl) (rangeD 0 j) [] rfl ((1 : Int).fmod p) none 1000000 (by unfold rangeD; simp; omega)
  rw [pow_fold p a p0 j _ (rangeD 0 j) (by unfold rangeD; simp) hf1 hf2] at hloop
  have hpw : ((1 : Int).fmod p * a ^ j) % p = a ^ j % p := by
    rw [Int.fmod_eq_emod_of_nonneg _ (by omega), Int.mul_emod, Int.emod_emod_of_dvd _ (Int.dvd_refl p), ← Int.mul_emod, Int.one_mul]
  rw [hpw] at hloop
  refine good_nx (env1 := e3l p a j (a ^ j % p) o') (h1 := [.st]) ?_ ?_
  · have it : fRng1 (fCons (fVar 5) fNil) (e3l p a j ((1 : Int).fmod p) none) [.st] = .ret (nxR 0 j) [.st] := by
      have v5 : fVar 5 (e3l p a j ((1 : Int).fmod p) none) [.st] = .ret (.int (j : Int)) [.st] := rfl
      have hj62 : i62 (j : Int) = true := by
        unfold i62
        simp
        omega
      simp only [fRng1, fCons, fNil, v5, R.bind, hj62]
      rfl
    simp only [List.length_nil] at hloop
    simp only [sFor, it, R.catch]
    exact hloop
  refine good_nx (env1 := e3l p a j (a ^ j % p) o') (h1 := [.st]) ?_ ?_
  · have g1 : ∀ h, G_power_modulo [.int a, .int (j : Int), .int p] h = .ret (.int (a ^ j % p)) h := fun h => by
      unfold G_power_modulo sumF A_power_modulo
      dsimp only
      rw [decide_eq_true (show 0 < p ∧ p < 1000 ∧ 0 ≤ (j : Int) ∧ (j : Int) < 1000 by omega)]
      rfl
    have g2 : ∀ h, G_power_modulo [.int a, .int 0, .int 1] h = .ret (.int 0) h := fun h => by
      unfold G_power_modulo sumF A_power_modulo
      dsimp only
      rw [decide_eq_true (by decide)]
      dsimp only
      rw [show (a ^ Int.toNat 0) % 1 = 0 from Int.emod_one _]
    have v5 : fVar 5 (e3l p a j (a ^ j % p) o') [.st] = .ret (.int (j : Int)) [.st] := rfl
    have v6 : fVar 6 (e3l p a j (a ^ j % p) o') [.st] = .ret (.int (a ^ j % p)) [.st] := rfl
    have v4 : fVar 4 (e3l p a j (a ^ j % p) o') [.st] = .ret (.int a) [.st] := rfl
    have v3 : fVar 3 (e3l p a j (a ^ j % p) o') [.st] = .ret (.int p) [.st] := rfl
    simp [sIf, sNil, fOr, fTest, fBin, fCall, fCons, fNil, v3, v4, v5, v6, fC, g1, g2, R.bind, R.catch, gNe, eqD, eqFlat]
  have hc : cut [1, 3, 4] (e3l p a j (a ^ j % p) o') [.st] = some (e8 p a, [.st]) := rfl
  exact good_cut hc (good8 hp (by omega) (by omega))
theorem g3 : ∀ e h, P3 e h = true → Good b_law_u3 e h := fun e h q => by
  have q1 := Bool.and_eq_true_iff.mp q
  have q2 := Bool.and_eq_true_iff.mp q1.1
  rw [beqE_eq q2.1, isSt_eq q2.2]
  exact good3 q1.2
theorem holds : Holds F_law := by
  have g := fun e h q => (b_law_u3_eq ▸ g3 e h q : Good b_law_u3' e h)
  refine holds_good (n := 16) (i := 1) (rest := b_law_rest) rfl (by decide) ?_
  rw [b_law_rest_eq]
  unfold b_law_rest'
  exact good_reach2 P3 reachR g
end KG

set_option Elab.async false
set_option linter.all false
set_option maxRecDepth 100000
open PySem PySem.W PyProof.Rows
set_option maxHeartbeats 0 in
theorem PySem.Challenge.cw_classtable_k01_modulo_a_prime_holds : PySem.Challenge.rw_classtable_k01_modulo_a_prime.Holds := by
  w_on; o_law; k_head; (case hw => w_witness2)
  k_fill
  refine L2.walk_of (l := PySem.Challenge.rw_classtable_k01_modulo_a_prime) (n := 63) (k := 4) (x := "_law_script") (CX := fun w => L2.CX PySem.Challenge.rw_classtable_k01_modulo_a_prime.prog w) (sp := fun w => Z.Pr (KG.tab _ 24 37) KG.F_law) rfl (by decide) rfl ⟨rfl, by decide, by decide⟩ (fun w h Y => PySem.W.kIn_of Y) ?F (fun _ _ a ns hl ho hS => Z.law_sp KG.holds _ _ _ hl ho hS) (fun _ _ _ _ _ h => Z.no_cx h)
  case F =>
    intro w mg fa h KX G hmg
    refine' KG.all_mk KX G hmg ?a4 ?l4 ?c4 ?k4 ?a5 ?l5 ?c5 ?k5 ?a6 ?l6 ?c6 ?k6 ?a7 ?l7 ?c7 ?k7 ?a8 ?l8 ?c8 ?k8 ?a9 ?l9 ?c9 ?k9 ?a11 ?l11 ?c11 ?k11 ?a12 ?l12 ?c12 ?k12 ?a13 ?l13 ?c13 ?k13 ?a14 ?l14 ?c14 ?k14 ?a15 ?l15 ?c15 ?k15 ?a16 ?l16 ?c16 ?k16 ?a17 ?l17 ?c17 ?k17 ?z_abs ?z_any ?z_int ?z_isinstance ?z_len ?z_max ?z_range ?z_tuple ?n0 ?n1 ?Eg_1 ?Ek_1 ?Es_1 ?Ed_1 ?Ea_1 ?En_1 ?Et_1 ?Em_1 ?eq_1 ?ek_1 ?eh_1 ?et_1 ?Ed_0 ?et_0 ?es_1_0 ?es_1_1 ?sm_power_modulo ?sm_inverse_modulo ?sm__law_gcd ?sm__law_no_inverse
    (case a4 => k_is); (case l4 => k_is); (case c4 => k_is); (case k4 => k_is); (case a5 => k_is); (case l5 => k_is); (case c5 => k_is); (case k5 => k_is); (case a6 => k_is); (case l6 => k_is); (case c6 => k_is); (case k6 => k_is); (case a7 => k_is); (case l7 => k_is); (case c7 => k_is); (case k7 => k_is); (case a8 => k_is); (case l8 => k_is); (case c8 => k_is); (case k8 => k_is); (case a9 => k_is); (case l9 => k_is); (case c9 => k_is); (case k9 => k_is); (case a11 => k_is); (case l11 => k_is); (case c11 => k_is); (case k11 => k_is); (case a12 => k_is); (case l12 => k_is); (case c12 => k_is); (case k12 => k_is); (case a13 => k_is); (case l13 => k_is); (case c13 => k_is); (case k13 => k_is); (case a14 => k_is); (case l14 => k_is); (case c14 => k_is); (case k14 => k_is); (case a15 => k_is); (case l15 => k_is); (case c15 => k_is); (case k15 => k_is); (case a16 => k_is); (case l16 => k_is); (case c16 => k_is); (case k16 => k_is); (case a17 => k_is); (case l17 => k_is); (case c17 => k_is); (case k17 => k_is); (case z_abs => k_is); (case z_any => k_is); (case z_int => k_is); (case z_isinstance => k_is); (case z_len => k_is); (case z_max => k_is); (case z_range => k_is); (case z_tuple => k_is); (case n0 => k_is); (case n1 => k_is); (case Eg_1 => k_is); (case Ek_1 => k_is); (case Es_1 => k_is); (case Ed_1 => k_is); (case Ea_1 => k_is); (case En_1 => k_is); (case Et_1 => k_is); (case Em_1 => k_is); (case eq_1 => k_exc); (case ek_1 => k_is); (case eh_1 => k_is); (case et_1 => k_is); (case Ed_0 => k_is); (case et_0 => k_is); (case es_1_0 => k_is); (case es_1_1 => k_is); (case sm_power_modulo => exact KG.sm_power_modulo); (case sm_inverse_modulo => exact KG.sm_inverse_modulo); (case sm__law_gcd => exact KG.sm__law_gcd); (case sm__law_no_inverse => exact KG.sm__law_no_inverse)
