import PyProof.Rows.All
import Wide.All
import OpenK.AllK
import Wide.FinOn
import HandS.ForMost
import HandS.Exc
import HandS.DictComp
import HandS.SortKw
import HandS.Conv
import HandS.DeepEq
import HandS.Deep
import HandS.Wide
import HandS.TupAny
import HandS.EndBits
import KE.KEqNest
import KE.SortKeyHeap
import HandS.TupMul
import PyProof.NeKinds
import KE.DataCmp
import KE.DataMinMax
import KE.SortData
import PyProof.TupleOfSeq
import HandS.IsInst
import HandS.TupLen
import HandS.Style
import HandS.Zip
import HandS.Words
import HandS.Codes
import HandS.Star
import HandS.Small
import HandS.SetFor
import HandS.SetKeys
import KE.KDictWalk
import HandS.DictTup
import PyProof.Rows.TupDisplay
import KE.GoesEnum
import KE.GoesMore
import PySem.Challenge.RW_callforpapers_k58_known_markets
set_option Elab.async false
set_option linter.all false
set_option maxRecDepth 100000
/-! Den1: pure data, what represents it in the abstract heap, owned slots. -/
namespace Den
open PySem L2

/-- a pure value -/
inductive PV where
  | non | bl (b : Bool) | int (i : Int) | str (x : Str) | tup (l : List PV) | lst (l : List PV) | dct (l : List (PV × PV))
deriving Inhabited

def keyPV : Key → PV
  | .inl i => .int i
  | .inr x => .str x

/-- u is to be seen at a: it stands there, or (a list never) locked -/
def Se (H : Hp) (a : Addr) (u : HO) : Prop := H a = some u ∨ ((∀ vs, u ≠ .lst vs) ∧ ∃ o, H a = some (.frz o u))
theorem Se.rd {H : Hp} {a : Addr} {u : HO} (h : Se H a u) : Rd H a u := h.imp id And.right
theorem Se.lst {H : Hp} {a : Addr} {vs : List V} (h : Se H a (.lst vs)) : H a = some (.lst vs) := h.elim id fun z => (z.1 vs rfl).elim
theorem Se.of {H : Hp} {a : Addr} {u : HO} (h : Rd H a u) (n : ∀ vs, u ≠ .lst vs) : Se H a u := h.imp id fun z => ⟨n, z⟩
theorem Se.tup {H : Hp} {a : Addr} {vs : List V} (h : Rd H a (.tup vs)) : Se H a (.tup vs) := .of h fun _ e => nomatch e
theorem Se.dK {H : Hp} {a : Addr} {vs : List (Key × V)} (h : Rd H a (.dK vs)) : Se H a (.dK vs) := .of h fun _ e => nomatch e
theorem Se.dT {H : Hp} {a : Addr} {vs : List (List Key × V)} (h : Rd H a (.dT vs)) : Se H a (.dT vs) := .of h fun _ e => nomatch e

/-- v stands for a pure value in H; its objects are none of T (those that somebody owns and may change) -/
inductive Rep (K : PySem.W.Frag) (T : Addr → Prop) (H : Hp) : V → PV → Prop
  | non : Rep K T H .non .non
  | bl (b : Bool) : Rep K T H (.bl b) (.bl b)
  | int (i : Int) : Rep K T H (.int i) (.int i)
  | str (x : Str) : Rep K T H (.str x) (.str x)
  | tup {a : Addr} {vs : List V} {l : List PV} : H a = some (.tup vs) → vs.length = l.length → (∀ (i : Nat) v p, vs[i]? = some v → l[i]? = some p → Rep K T H v p) → Rep K T H (.ref a) (.tup l)
  | lst {a : Addr} {vs : List V} {l : List PV} : ¬ T a → H a = some (.lst vs) → vs.length = l.length → (∀ (i : Nat) v p, vs[i]? = some v → l[i]? = some p → Rep K T H v p) → Rep K T H (.ref a) (.lst l)
  | dctK {a : Addr} {kvs : List (Key × V)} {l : List (PV × PV)} : ¬ T a → Rd H a (.dK kvs) → kvs.length = l.length →
      (∀ (i : Nat) kv p, kvs[i]? = some kv → l[i]? = some p → p.1 = keyPV kv.1) → (∀ (i : Nat) kv p, kvs[i]? = some kv → l[i]? = some p → Rep K T H kv.2 p.2) → Rep K T H (.ref a) (.dct l)
  | dctT {a : Addr} {kvs : List (List Key × V)} {l : List (PV × PV)} : ¬ T a → Rd H a (.dT kvs) → l ≠ [] → kvs.length = l.length →
      (∀ (i : Nat) kv p, kvs[i]? = some kv → l[i]? = some p → p.1 = .tup (kv.1.map keyPV)) → (∀ (i : Nat) kv p, kvs[i]? = some kv → l[i]? = some p → Rep K T H kv.2 p.2) → Rep K T H (.ref a) (.dct l)

def RepL (K : PySem.W.Frag) (T : Addr → Prop) (H : Hp) (vs : List V) (l : List PV) : Prop :=
  vs.length = l.length ∧ ∀ (i : Nat) v p, vs[i]? = some v → l[i]? = some p → Rep K T H v p
def RepK (K : PySem.W.Frag) (T : Addr → Prop) (H : Hp) (kvs : List (Key × V)) (l : List (PV × PV)) : Prop :=
  kvs.length = l.length ∧ (∀ (i : Nat) kv p, kvs[i]? = some kv → l[i]? = some p → p.1 = keyPV kv.1) ∧ (∀ (i : Nat) kv p, kvs[i]? = some kv → l[i]? = some p → Rep K T H kv.2 p.2)
def RepT (K : PySem.W.Frag) (T : Addr → Prop) (H : Hp) (kvs : List (List Key × V)) (l : List (PV × PV)) : Prop :=
  kvs.length = l.length ∧ (∀ (i : Nat) kv p, kvs[i]? = some kv → l[i]? = some p → p.1 = .tup (kv.1.map keyPV)) ∧ (∀ (i : Nat) kv p, kvs[i]? = some kv → l[i]? = some p → Rep K T H kv.2 p.2)

/-- owned objects are lists and dicts that nobody has locked -/
def TOk (T : Addr → Prop) (H : Hp) : Prop := ∀ a, T a → Mut (H a)
theorem TOk.no {T : Addr → Prop} {H : Hp} (t : TOk T H) {a : Addr} {u : HO} (h : H a = some u) (n : ¬ Mut (some u)) : ¬ T a := fun z => n (h ▸ t a z)
theorem TOk.none {T : Addr → Prop} {H : Hp} (t : TOk T H) {a : Addr} (h : H a = none) : ¬ T a := fun z => by have q := t a z; rw [h] at q; exact q
theorem TOk.tup {T : Addr → Prop} {H : Hp} (t : TOk T H) {a : Addr} {vs : List V} (h : Rd H a (.tup vs)) : ¬ T a := by
  rcases h with h | ⟨o, h⟩
  · exact t.no h (fun z => z)
  · exact t.no h (fun z => z)

/-- an object that nobody changes any more -/
def Fx : HO → Prop
  | .tup _ => True
  | .frz _ _ => True
  | _ => False
def FxAt (H : Hp) (a : Addr) (u : HO) : Prop := H a = some u ∧ Fx u
/-- what was read stands, what was not owned is not owned -/
structure Keeps (T T' : Addr → Prop) (H H' : Hp) : Prop where
  mu : TOk T H
  rd : ∀ a u, ¬ T a → Se H a u → Se H' a u
  nt : ∀ a u, ¬ T a → Se H a u → ¬ T' a
  tl : ∀ a u, FxAt H a u → FxAt H' a u
section
variable {K : PySem.W.Frag} {T T' T'' : Addr → Prop} {H H' H'' : Hp}
theorem Keeps.refl (t : TOk T H) : Keeps T T H H := ⟨t, fun _ _ _ h => h, fun _ _ h _ => h, fun _ _ h => h⟩
theorem Keeps.trans (a : Keeps T T' H H') (b : Keeps T' T'' H' H'') : Keeps T T'' H H'' :=
  ⟨a.mu, fun x u n h => b.rd x u (a.nt x u n h) (a.rd x u n h), fun x u n h => b.nt x u (a.nt x u n h) (a.rd x u n h), fun x vs h => b.tl x vs (a.tl x vs h)⟩
theorem Rep.keep (k : Keeps T T' H H') {v : V} {p : PV} (r : Rep K T H v p) : Rep K T' H' v p := by
  induction r with
  | non => exact .non
  | bl b => exact .bl b
  | int i => exact .int i
  | str x => exact .str x
  | tup h e _ ih =>
    exact .tup (k.tl _ _ ⟨h, trivial⟩).1 e ih
  | lst n h e _ ih => exact .lst (k.nt _ _ n (.inl h)) (k.rd _ _ n (.inl h)).lst e ih
  | dctK n h e hk _ ih => exact .dctK (k.nt _ _ n (.dK h)) (k.rd _ _ n (.dK h)).rd e hk ih
  | dctT n h ne e hk _ ih => exact .dctT (k.nt _ _ n (.dT h)) (k.rd _ _ n (.dT h)).rd ne e hk ih
theorem RepL.keep (k : Keeps T T' H H') {vs : List V} {l : List PV} (r : RepL K T H vs l) : RepL K T' H' vs l := ⟨r.1, fun i v p a b => (r.2 i v p a b).keep k⟩
theorem RepK.keep (k : Keeps T T' H H') {vs : List (Key × V)} {l : List (PV × PV)} (r : RepK K T H vs l) : RepK K T' H' vs l := ⟨r.1, r.2.1, fun i v p a b => (r.2.2 i v p a b).keep k⟩
theorem RepT.keep (k : Keeps T T' H H') {vs : List (List Key × V)} {l : List (PV × PV)} (r : RepT K T H vs l) : RepT K T' H' vs l := ⟨r.1, r.2.1, fun i v p a b => (r.2.2 i v p a b).keep k⟩

theorem RepL.nil : RepL K T H [] [] := ⟨rfl, fun i v p h => by simp at h⟩
theorem RepL.cons {v : V} {p : PV} {vs : List V} {l : List PV} (h : Rep K T H v p) (r : RepL K T H vs l) : RepL K T H (v :: vs) (p :: l) := by
  refine ⟨by simp [r.1], fun i v' p' a b => ?_⟩
  cases i with
  | zero => simp at a b; subst a; subst b; exact h
  | succ i => exact r.2 i v' p' (by simpa using a) (by simpa using b)
theorem RepL.head {v : V} {p : PV} {vs : List V} {l : List PV} (r : RepL K T H (v :: vs) (p :: l)) : Rep K T H v p := r.2 0 v p rfl rfl
theorem RepL.tail {v : V} {p : PV} {vs : List V} {l : List PV} (r : RepL K T H (v :: vs) (p :: l)) : RepL K T H vs l :=
  ⟨by simpa using r.1, fun i v' p' a b => r.2 (i + 1) v' p' (by simpa using a) (by simpa using b)⟩
theorem RepL.get {vs : List V} {l : List PV} (r : RepL K T H vs l) {i : Nat} {p : PV} (h : l[i]? = some p) : ∃ v, vs[i]? = some v ∧ Rep K T H v p := by
  have hi : i < vs.length := by rw [r.1]; exact (List.getElem?_eq_some_iff.mp h).1
  exact ⟨vs[i], List.getElem?_eq_getElem hi, r.2 i _ _ (List.getElem?_eq_getElem hi) h⟩
theorem RepL.get' {vs : List V} {l : List PV} (r : RepL K T H vs l) {i : Nat} {v : V} (h : vs[i]? = some v) : ∃ p, l[i]? = some p ∧ Rep K T H v p := by
  have hi : i < l.length := by rw [← r.1]; exact (List.getElem?_eq_some_iff.mp h).1
  exact ⟨l[i], List.getElem?_eq_getElem hi, r.2 i _ _ h (List.getElem?_eq_getElem hi)⟩
theorem RepL.inv_nil {vs : List V} (r : RepL K T H vs []) : vs = [] := List.eq_nil_of_length_eq_zero (by simpa using r.1)
theorem RepL.inv_cons {vs : List V} {p : PV} {l : List PV} (r : RepL K T H vs (p :: l)) : ∃ v vs', vs = v :: vs' ∧ Rep K T H v p ∧ RepL K T H vs' l := by
  cases vs with
  | nil => exact absurd r.1 (by simp)
  | cons v vs' => exact ⟨v, vs', rfl, r.head, r.tail⟩
theorem RepL.append : ∀ {vs ws : List V} {l m : List PV}, RepL K T H vs l → RepL K T H ws m → RepL K T H (vs ++ ws) (l ++ m)
  | [], _, l, _, r, q => by
    have e : l = [] := List.eq_nil_of_length_eq_zero (by simpa using r.1.symm)
    subst e; exact q
  | v :: vs, ws, [], m, r, q => absurd r.1 (by simp)
  | v :: vs, ws, p :: l, m, r, q => RepL.cons r.head (RepL.append r.tail q)
theorem RepL.take : ∀ {vs : List V} {l : List PV} (n : Nat), RepL K T H vs l → RepL K T H (vs.take n) (l.take n)
  | _, _, 0, _ => by simp only [List.take_zero]; exact RepL.nil
  | [], l, n + 1, r => by
    have e : l = [] := List.eq_nil_of_length_eq_zero (by simpa using r.1.symm)
    subst e; exact RepL.nil
  | v :: vs, [], n + 1, r => absurd r.1 (by simp)
  | v :: vs, p :: l, n + 1, r => RepL.cons r.head (RepL.take n r.tail)
theorem RepL.drop : ∀ {vs : List V} {l : List PV} (n : Nat), RepL K T H vs l → RepL K T H (vs.drop n) (l.drop n)
  | _, _, 0, r => r
  | [], l, n + 1, r => by
    have e : l = [] := List.eq_nil_of_length_eq_zero (by simpa using r.1.symm)
    subst e; exact RepL.nil
  | v :: vs, [], n + 1, r => absurd r.1 (by simp)
  | v :: vs, p :: l, n + 1, r => RepL.drop n r.tail
theorem RepL.reverse : ∀ {vs : List V} {l : List PV}, RepL K T H vs l → RepL K T H vs.reverse l.reverse
  | [], l, r => by
    have e : l = [] := List.eq_nil_of_length_eq_zero (by simpa using r.1.symm)
    subst e; exact RepL.nil
  | v :: vs, [], r => absurd r.1 (by simp)
  | v :: vs, p :: l, r => by
    rw [List.reverse_cons, List.reverse_cons]
    exact RepL.append (RepL.reverse r.tail) (RepL.cons r.head RepL.nil)
theorem RepL.set {vs : List V} {l : List PV} (r : RepL K T H vs l) (i : Nat) {v : V} {p : PV} (h : Rep K T H v p) : RepL K T H (vs.set i v) (l.set i p) := by
  refine ⟨by simp [r.1], fun j v' p' a b => ?_⟩
  by_cases hj : i = j
  · subst hj
    have hi : i < vs.length := by have := (List.getElem?_eq_some_iff.mp a).1; simpa using this
    rw [List.getElem?_set_self hi] at a
    rw [List.getElem?_set_self (by rw [← r.1]; exact hi)] at b
    cases a; cases b; exact h
  · rw [List.getElem?_set_ne hj] at a b
    exact r.2 j v' p' a b
/-- the representation is a function of the heap -/
theorem RepL.of_inj {vs : List V} {l m : List PV} (h1 : vs.length = l.length) (h2 : vs.length = m.length) (h : ∀ (i : Nat) v p q, vs[i]? = some v → l[i]? = some p → m[i]? = some q → p = q) : l = m := by
  refine List.ext_getElem? fun i => ?_
  by_cases hi : i < vs.length
  · have e1 : l[i]? = some l[i] := List.getElem?_eq_getElem (by omega)
    have e2 : m[i]? = some m[i] := List.getElem?_eq_getElem (by omega)
    rw [e1, e2, h i _ _ _ (List.getElem?_eq_getElem hi) e1 e2]
  · rw [List.getElem?_eq_none (by omega), List.getElem?_eq_none (by omega)]
end
end Den
set_option Elab.async false
set_option linter.all false
set_option maxRecDepth 100000
/-! Den2: slots, states, steps, what a denotation means. -/
namespace Den
open PySem L2

/-- what an expression brings: a value that may be shared, or a new list or dict that nobody else knows -/
inductive RV where
  | val (p : PV) | fresh (p : PV)
deriving Inhabited
def RV.pv : RV → PV
  | .val p => p
  | .fresh p => p
/-- a name's place: nothing, a value, an own list or dict (io: the caller's, handed in to be changed; lk: being walked) -/
inductive Slot where
  | un | val (p : PV) | own (io lk : Bool) (p : PV)
deriving Inhabited
abbrev AS := List Slot
inductive R (α : Type) where
  | ok (a : α) (S : AS) | exc (c : Str) (p : PV) (S : AS) | bad

/-- the run's constants -/
structure Wd where
  P : Program
  w : World
  K : PySem.W.Frag
  mg : Str → Option Value
  base : Heap

def ObR (K : PySem.W.Frag) (T : Addr → Prop) (H : Hp) (a : Addr) : PV → Prop
  | .lst l => ∃ vs, H a = some (.lst vs) ∧ RepL K T H vs l
  | .dct l => (∃ kvs, H a = some (.dK kvs) ∧ RepK K T H kvs l) ∨ (∃ kvs, H a = some (.dT kvs) ∧ l ≠ [] ∧ RepT K T H kvs l)
  | _ => False
def Own (S : AS) (σ : L2.St) : Addr → Prop := fun a => ∃ (i : Nat) (io lk : Bool) (p : PV), S[i]? = some (.own io lk p) ∧ σ[i]? = some (some (.ref a))
def Tot (O : Addr → Prop) (S : AS) (σ : L2.St) : Addr → Prop := fun a => O a ∨ Own S σ a
def Oadd (O : Addr → Prop) (p : Addr) : Addr → Prop := fun a => O a ∨ a = p

structure SRel (K : PySem.W.Frag) (O : Addr → Prop) (S : AS) (σ : L2.St) (H : Hp) : Prop where
  len : S.length = σ.length
  ot : TOk O H
  val : ∀ (i : Nat) p, S[i]? = some (.val p) → ∃ v, σ[i]? = some (some v) ∧ Rep K (Tot O S σ) H v p
  own : ∀ (i : Nat) io lk p, S[i]? = some (.own io lk p) → ∃ a, σ[i]? = some (some (.ref a)) ∧ ¬ O a ∧ ObR K (Tot O S σ) H a p
  inj : ∀ (i j : Nat) a io lk p io' lk' p', S[i]? = some (.own io lk p) → S[j]? = some (.own io' lk' p') → σ[i]? = some (some (.ref a)) → σ[j]? = some (some (.ref a)) → i = j

section
variable {K : PySem.W.Frag} {T T' O O' : Addr → Prop} {H H' H1 H2 : Hp} {S S' S1 S2 : AS} {σ σ' : L2.St} {a : Addr} {p : PV} {v : V}
theorem ObR.mut (h : ObR K T H a p) : Mut (H a) := by
  cases p with
  | lst l => obtain ⟨vs, e, _⟩ := h; rw [e]; trivial
  | dct l =>
    rcases h with ⟨vs, e, _⟩ | ⟨vs, e, _⟩
    · rw [e]; trivial
    · rw [e]; trivial
  | _ => exact h.elim
theorem ObR.keep (k : Keeps T T' H H') (e : H' a = H a) (h : ObR K T H a p) : ObR K T' H' a p := by
  cases p with
  | lst l => obtain ⟨vs, q, r⟩ := h; exact ⟨vs, e.trans q, r.keep k⟩
  | dct l =>
    rcases h with ⟨vs, q, r⟩ | ⟨vs, q, ne, r⟩
    · exact .inl ⟨vs, e.trans q, r.keep k⟩
    · exact .inr ⟨vs, e.trans q, ne, r.keep k⟩
  | _ => exact h.elim
theorem ObR.rep (h : ObR K T H a p) (n : ¬ T a) : Rep K T H (.ref a) p := by
  cases p with
  | lst l => obtain ⟨vs, q, r⟩ := h; exact .lst n q r.1 r.2
  | dct l =>
    rcases h with ⟨vs, q, r⟩ | ⟨vs, q, ne, r⟩
    · exact .dctK n (.of q) r.1 r.2.1 r.2.2
    · exact .dctT n (.of q) ne r.1 r.2.1 r.2.2
  | _ => exact h.elim
theorem SRel.tok (s : SRel K O S σ H) : TOk (Tot O S σ) H := by
  rintro a (h | ⟨i, io, lk, p, e1, e2⟩)
  · exact s.ot a h
  · obtain ⟨b, q1, _, q2⟩ := s.own i io lk p e1
    rw [e2] at q1
    cases q1
    exact q2.mut
/-- fewer outer owners -/
theorem SRel.shrink (s : SRel K O S σ H) (h : ∀ a, O' a → O a) : SRel K O' S σ H := by
  have k : Keeps (Tot O S σ) (Tot O' S σ) H H := ⟨s.tok, fun _ _ _ r => r, fun a u n _ z => n (z.imp (h a) id), fun _ _ h => h⟩
  exact ⟨s.len, fun a z => s.ot a (h a z), fun i p e => let ⟨v, q, r⟩ := s.val i p e; ⟨v, q, r.keep k⟩,
    fun i io lk p e => let ⟨a, q, n, r⟩ := s.own i io lk p e; ⟨a, q, fun z => n (h a z), r.keep k rfl⟩, s.inj⟩

/-- from one state of the same slots to another: what is read stands, the outer owners' objects stand, no new owner -/
structure Step (O : Addr → Prop) (S S' : AS) (σ : L2.St) (H H' : Hp) : Prop where
  rd : ∀ a u, ¬ Own S σ a → Se H a u → Se H' a u
  oo : ∀ a, O a → H' a = H a
  sub : ∀ a, Own S' σ a → Own S σ a
  io : ∀ (i : Nat) lk p, S[i]? = some (.own true lk p) → ∃ lk' p', S'[i]? = some (.own true lk' p')
  lk : ∀ (i : Nat) io p, S[i]? = some (.own io true p) → S'[i]? = some (.own io true p)
  th : ∀ a, H a ≠ none → H' a ≠ none
  tl : ∀ a u, FxAt H a u → FxAt H' a u
theorem Step.refl : Step O S S σ H H := ⟨fun _ _ _ h => h, fun _ _ => rfl, fun _ h => h, fun i lk p h => ⟨lk, p, h⟩, fun _ _ _ h => h, fun _ h => h, fun _ _ h => h⟩
theorem Step.trans (a : Step O S S1 σ H H1) (b : Step O S1 S2 σ H1 H2) : Step O S S2 σ H H2 :=
  ⟨fun x u n h => b.rd x u (fun z => n (a.sub x z)) (a.rd x u n h), fun x h => (b.oo x h).trans (a.oo x h), fun x h => a.sub x (b.sub x h),
    fun i lk p h => let ⟨lk', p', q⟩ := a.io i lk p h; b.io i lk' p' q, fun i io p h => b.lk i io p (a.lk i io p h), fun x h => b.th x (a.th x h), fun x vs h => b.tl x vs (a.tl x vs h)⟩
theorem Step.keeps (s : SRel K O S σ H) (a : Step O S S' σ H H') : Keeps (Tot O S σ) (Tot O S' σ) H H' :=
  ⟨s.tok, fun x u n h => a.rd x u (fun z => n (.inr z)) h, fun x u n _ z => n (z.imp id (a.sub x)), a.tl⟩
theorem Step.shrink (a : Step O S S' σ H H') (h : ∀ a, O' a → O a) : Step O' S S' σ H H' := ⟨a.rd, fun x z => a.oo x (h x z), a.sub, a.io, a.lk, a.th, a.tl⟩
/-- only new objects -/
theorem Step.ext (e : ∀ a u, H a = some u → H' a = some u) (s : SRel K O S σ H) : Step O S S σ H H' where
  rd := fun a u _ h => by
    rcases h with h | ⟨z, o, h⟩
    · exact .inl (e _ _ h)
    · exact .inr ⟨z, o, e _ _ h⟩
  oo := fun a h => by
    have q := s.ot a h
    cases z : H a with
    | none => rw [z] at q; exact q.elim
    | some u => exact e _ _ z
  sub := fun _ h => h
  io := fun i lk p h => ⟨lk, p, h⟩
  lk := fun _ _ _ h => h
  th := fun a h => by
    cases z : H a with
    | none => exact (h z).elim
    | some u => rw [e _ _ z]; exact fun q => nomatch q
  tl := fun a vs h => ⟨e _ _ h.1, h.2⟩

/-- what an expression's result is -/
def Res (K : PySem.W.Frag) (O : Addr → Prop) (S' : AS) (σ : L2.St) (H H' : Hp) : RV → V → Prop
  | .val p, v => SRel K O S' σ H' ∧ Rep K (Tot O S' σ) H' v p
  | .fresh p, v => ∃ a, v = .ref a ∧ H a = none ∧ SRel K (Oadd O a) S' σ H' ∧ ObR K (Tot (Oadd O a) S' σ) H' a p
theorem own_some (s : SRel K O S σ H) {a : Addr} (h : Own S σ a) : H a ≠ none := fun z => s.tok.none z (.inr h)
/-- a new object given away -/
theorem Res.toVal {r : RV} (s : SRel K O S σ H) (st : Step O S S' σ H H') (h : Res K O S' σ H H' r v) : SRel K O S' σ H' ∧ Rep K (Tot O S' σ) H' v r.pv := by
  cases r with
  | val p => exact h
  | fresh p =>
    obtain ⟨a, rfl, hn, s', ob⟩ := h
    have k : Keeps (Tot (Oadd O a) S' σ) (Tot O S' σ) H' H' := ⟨s'.tok, fun _ _ _ r => r, fun x u n _ z => n (z.imp .inl id), fun _ _ h => h⟩
    refine ⟨s'.shrink fun x z => .inl z, (ob.keep k rfl).rep ?_⟩
    rintro (z | z)
    · exact s.ot.none hn z
    · exact own_some s (st.sub a z) hn
/-- an exception out of code: its class by name, the one field that it bears -/
def ExcRel (G : Wd) (T : Addr → Prop) (H' : Hp) (c : Str) (p : PV) (cls : Value) (dd : Option Addr) : Prop :=
  (∃ C, G.mg c = some (.ref C) ∧ cls = .ref C) ∧ ∃ d f v, dd = some d ∧ H' d = some (.xd [(f, v)]) ∧ Rep G.K T H' v p
end

/-- the reading that a denotation is: d's result at S, wherever S stands for the slots and the heap -/
def tSem (G : Wd) (W : WX) (d : AS → R RV) : TE := fun σ H Q => ∃ O S, SRel G.K O S σ H ∧
  match d S with
  | .ok r S' => ∀ v H', Step O S S' σ H H' → Res G.K O S' σ H H' r v → Q v H'
  | .exc c p S' => ∀ cls dd H', Step O S S' σ H H' → SRel G.K O S' σ H' → ExcRel G (Tot O S' σ) H' c p cls dd → W cls dd σ H'
  | .bad => False
def tSemT (G : Wd) (W : WX) (d : AS → R Bool) : L2.TT := fun σ H Q => ∃ O S, SRel G.K O S σ H ∧
  match d S with
  | .ok b S' => ∀ H', Step O S S' σ H H' → SRel G.K O S' σ H' → Q b H'
  | .exc c p S' => ∀ cls dd H', Step O S S' σ H H' → SRel G.K O S' σ H' → ExcRel G (Tot O S' σ) H' c p cls dd → W cls dd σ H'
  | .bad => False

section
variable {G : Wd} {W : WX} {σ : L2.St} {H : Hp} {Q : VK} {O : Addr → Prop} {S : AS} {d : AS → R RV}
/-- to be shown, by cases of d S -/
theorem tSem.mk (s : SRel G.K O S σ H) (hok : ∀ r S', d S = .ok r S' → ∀ v H', Step O S S' σ H H' → Res G.K O S' σ H H' r v → Q v H')
    (hex : ∀ c p S', d S = .exc c p S' → ∀ cls dd H', Step O S S' σ H H' → SRel G.K O S' σ H' → ExcRel G (Tot O S' σ) H' c p cls dd → W cls dd σ H') (hb : d S ≠ .bad) : tSem G W d σ H Q := by
  refine ⟨O, S, s, ?_⟩
  cases e : d S with
  | ok r S' => exact hok r S' e
  | exc c p S' => exact hex c p S' e
  | bad => exact hb e
theorem tSemT.mk {d : AS → R Bool} {Q : Bool → Hp → Prop} (s : SRel G.K O S σ H) (hok : ∀ r S', d S = .ok r S' → ∀ H', Step O S S' σ H H' → SRel G.K O S' σ H' → Q r H')
    (hex : ∀ c p S', d S = .exc c p S' → ∀ cls dd H', Step O S S' σ H H' → SRel G.K O S' σ H' → ExcRel G (Tot O S' σ) H' c p cls dd → W cls dd σ H') (hb : d S ≠ .bad) : tSemT G W d σ H Q := by
  refine ⟨O, S, s, ?_⟩
  cases e : d S with
  | ok r S' => exact hok r S' e
  | exc c p S' => exact hex c p S' e
  | bad => exact hb e
/-- weaken a reading -/
theorem pe_of {X : Cx} {e : Expr} {t t' : TE} (h : PE X e t) (i : ∀ σ H Q, t' σ H Q → t σ H Q) : PE X e t' := ⟨fun pins s σ H Q I z => h.run pins s σ H Q I (i σ H Q z)⟩
theorem pt_of {X : Cx} {e : Expr} {t t' : L2.TT} (h : PT X e t) (i : ∀ σ H Q, t' σ H Q → t σ H Q) : PT X e t' := ⟨fun pins s σ H Q I z => h.run pins s σ H Q I (i σ H Q z)⟩
theorem ps_of {X : Cx} {e : Stmt} {t t' : TS} (h : PS X e t) (i : ∀ D σ H, t' D σ H → t D σ H) : PS X e t' := ⟨fun pins s σ H D I z => h.run pins s σ H D I (i D σ H z)⟩
theorem pss_of {X : Cx} {e : List Stmt} {t t' : TS} (h : PSs X e t) (i : ∀ D σ H, t' D σ H → t D σ H) : PSs X e t' := ⟨fun pins s σ H D I z => h.run pins s σ H D I (i D σ H z)⟩
end
end Den
set_option Elab.async false
set_option linter.all false
set_option maxRecDepth 100000
/-! Den3: contexts, names, constants, operands, operations on values. -/
namespace Den
open PySem L2

section
variable {K : PySem.W.Frag} {T T' O O' : Addr → Prop} {H H' H1 H2 : Hp} {S S' S1 S2 : AS} {σ σ' : L2.St} {a : Addr} {p : PV} {v : V}
abbrev Ext (H H' : Hp) : Prop := ∀ a u, H a = some u → H' a = some u
theorem Ext.rd (e : Ext H H') {a : Addr} {u : HO} (h : Se H a u) : Se H' a u := by
  rcases h with h | ⟨n, o, h⟩
  · exact .inl (e _ _ h)
  · exact .inr ⟨n, o, e _ _ h⟩
theorem Ext.new {o : HO} (h : H a = none) : Ext H (upd H a o) := fun b u q => by
  rw [upd_ne (ne_of_none q h)]
  exact q
theorem rd_some {u : HO} (h : Se H a u) : H a ≠ none := by
  rcases h with h | ⟨_, o, h⟩ <;> (rw [h]; exact fun z => nomatch z)
theorem Keeps.ext (t : TOk T H) (e : Ext H H') : Keeps T T H H' := ⟨t, fun _ _ _ h => e.rd h, fun _ _ n _ => n, fun _ _ h => ⟨e _ _ h.1, h.2⟩⟩
theorem Keeps.extAdd (t : TOk T H) (e : Ext H H') (n : H a = none) : Keeps T (Oadd T a) H H' :=
  ⟨t, fun _ _ _ h => e.rd h, fun x u nx h z => z.elim nx fun q => rd_some h (q ▸ n), fun _ _ h => ⟨e _ _ h.1, h.2⟩⟩
theorem TOk.ext (t : TOk T H) (e : Ext H H') : TOk T H' := fun x z => by
  have q := t x z
  cases h : H x with
  | none => rw [h] at q; exact q.elim
  | some u => rw [h] at q; rw [e x u h]; exact q
theorem tot_add : ∀ x, Tot (Oadd O a) S σ x ↔ Oadd (Tot O S σ) a x := fun x => by
  unfold Tot Oadd
  constructor
  · rintro ((h | h) | h)
    · exact .inl (.inl h)
    · exact .inr h
    · exact .inl (.inr h)
  · rintro ((h | h) | h)
    · exact .inl (.inl h)
    · exact .inr h
    · exact .inl (.inr h)
theorem ob_eq (e : ∀ a u, H a = some u → H' a = some u) {p : PV} (ob : ObR K T H a p) : H' a = H a := by
  cases z : H a with
  | none => have q := ob.mut; rw [z] at q; exact q.elim
  | some u => exact e _ _ z
theorem SRel.ext (s : SRel K O S σ H) (e : Ext H H') : SRel K O S σ H' := by
  have k : Keeps (Tot O S σ) (Tot O S σ) H H' := .ext s.tok e
  exact ⟨s.len, s.ot.ext e, fun i p h => let ⟨v, q, r⟩ := s.val i p h; ⟨v, q, r.keep k⟩,
    fun i io lk p h => let ⟨a, q, n, r⟩ := s.own i io lk p h; ⟨a, q, n, r.keep k (ob_eq e r)⟩, s.inj⟩
theorem SRel.extAdd (s : SRel K O S σ H) (e : Ext H H') (n : H a = none) (m : Mut (H' a)) : SRel K (Oadd O a) S σ H' := by
  have k : Keeps (Tot O S σ) (Tot (Oadd O a) S σ) H H' := ⟨s.tok, fun _ _ _ h => e.rd h, fun x u nx h z => ((tot_add x).mp z).elim nx fun q => rd_some h (q ▸ n), fun _ _ h => ⟨e _ _ h.1, h.2⟩⟩
  refine ⟨s.len, fun x z => z.elim (s.ot.ext e x) fun q => q ▸ m, fun i p h => let ⟨v, q, r⟩ := s.val i p h; ⟨v, q, r.keep k⟩,
    fun i io lk p h => ?_, s.inj⟩
  obtain ⟨b, q, nb, r⟩ := s.own i io lk p h
  refine ⟨b, q, fun z => z.elim nb fun q => ?_, r.keep k (ob_eq e r)⟩
  have := r.mut
  rw [q, n] at this
  exact this

/-- an own list or dict is an ordinary value from here on -/
theorem SRel.freeze {i : Nat} {io lk : Bool} (s : SRel K O S σ H) (h : S[i]? = some (.own io lk p)) : SRel K O (S.set i (.val p)) σ H ∧ (∀ a, Own (S.set i (.val p)) σ a → Own S σ a) := by
  have hi : i < S.length := (List.getElem?_eq_some_iff.mp h).1
  have sub : ∀ a, Own (S.set i (.val p)) σ a → Own S σ a := by
    rintro a ⟨j, io', lk', p', e1, e2⟩
    by_cases hj : i = j
    · subst hj
      rw [List.getElem?_set_self hi] at e1
      cases e1
    · rw [List.getElem?_set_ne hj] at e1
      exact ⟨j, io', lk', p', e1, e2⟩
  have k : Keeps (Tot O S σ) (Tot O (S.set i (.val p)) σ) H H := ⟨s.tok, fun _ _ _ r => r, fun x u n _ z => n (z.imp id (sub x)), fun _ _ h => h⟩
  refine ⟨⟨by simp [s.len], s.ot, fun j q e => ?_, fun j io' lk' q e => ?_, fun j j' a io1 lk1 p1 io2 lk2 p2 e1 e2 => ?_⟩, sub⟩
  · by_cases hj : i = j
    · subst hj
      rw [List.getElem?_set_self hi] at e
      cases e
      obtain ⟨a, e1, n, r⟩ := s.own i io lk p h
      refine ⟨_, e1, (r.keep k rfl).rep ?_⟩
      rintro (z | ⟨j, io', lk', p', q1, q2⟩)
      · exact n z
      · by_cases hj : i = j
        · subst hj
          rw [List.getElem?_set_self hi] at q1
          cases q1
        · rw [List.getElem?_set_ne hj] at q1
          exact hj (s.inj i j a _ _ _ _ _ _ h q1 e1 q2)
    · rw [List.getElem?_set_ne hj] at e
      obtain ⟨v, e1, r⟩ := s.val j q e
      exact ⟨v, e1, r.keep k⟩
  · by_cases hj : i = j
    · subst hj
      rw [List.getElem?_set_self hi] at e
      cases e
    · rw [List.getElem?_set_ne hj] at e
      obtain ⟨a, e1, n, r⟩ := s.own j io' lk' q e
      exact ⟨a, e1, n, r.keep k rfl⟩
  · have f : ∀ {j : Nat} {io' lk' q}, (S.set i (.val p))[j]? = some (.own io' lk' q) → S[j]? = some (.own io' lk' q) := fun {j io' lk' q} e => by
      by_cases hj : i = j
      · subst hj
        rw [List.getElem?_set_self hi] at e
        cases e
      · rw [List.getElem?_set_ne hj] at e
        exact e
    exact s.inj j j' a io1 lk1 p1 io2 lk2 p2 (f e1) (f e2)

/-- read at its place: like Rep, whoever owns the object itself -/
def PRep (K : PySem.W.Frag) (T : Addr → Prop) (H : Hp) (v : V) : PV → Prop
  | .non => v = .non
  | .bl b => v = .bl b
  | .int i => v = .int i
  | .str x => v = .str x
  | .tup l => ∃ a vs, v = .ref a ∧ H a = some (.tup vs) ∧ RepL K T H vs l
  | .lst l => ∃ a vs, v = .ref a ∧ H a = some (.lst vs) ∧ RepL K T H vs l
  | .dct l => ∃ a, v = .ref a ∧ ((∃ kvs, Rd H a (.dK kvs) ∧ RepK K T H kvs l) ∨ (∃ kvs, Rd H a (.dT kvs) ∧ l ≠ [] ∧ RepT K T H kvs l))
theorem Rep.pr (h : Rep K T H v p) : PRep K T H v p := by
  cases h with
  | non => rfl
  | bl => rfl
  | int => rfl
  | str => rfl
  | tup h e r => exact ⟨_, _, rfl, h, e, r⟩
  | lst n h e r => exact ⟨_, _, rfl, h, e, r⟩
  | dctK n h e hk r => exact ⟨_, rfl, .inl ⟨_, h, e, hk, r⟩⟩
  | dctT n h ne e hk r => exact ⟨_, rfl, .inr ⟨_, h, ne, e, hk, r⟩⟩
theorem ObR.pr (h : ObR K T H a p) : PRep K T H (.ref a) p := by
  cases p with
  | lst l => obtain ⟨vs, e, r⟩ := h; exact ⟨_, _, rfl, e, r⟩
  | dct l =>
    rcases h with ⟨vs, e, r⟩ | ⟨vs, e, r⟩
    · exact ⟨_, rfl, .inl ⟨_, .of e, r⟩⟩
    · exact ⟨_, rfl, .inr ⟨_, .of e, r⟩⟩
  | _ => exact h.elim
def PRepL (K : PySem.W.Frag) (T : Addr → Prop) (H : Hp) : List V → List PV → Prop
  | [], [] => True
  | v :: vs, p :: ps => PRep K T H v p ∧ PRepL K T H vs ps
  | _, _ => False
theorem RepL.prl : ∀ {vs : List V} {l : List PV}, RepL K T H vs l → PRepL K T H vs l
  | [], [], _ => trivial
  | _ :: _, _ :: _, r => ⟨r.head.pr, RepL.prl r.tail⟩
  | [], _ :: _, r => absurd r.1 (by simp)
  | _ :: _, [], r => absurd r.1 (by simp)
def peek (S : AS) (i : Nat) : Option PV :=
  match S[i]? with
  | some (.val p) => some p
  | some (.own _ _ p) => some p
  | _ => none
theorem SRel.peek {i : Nat} (s : SRel K O S σ H) (h : peek S i = some p) : ∃ v, σ[i]? = some (some v) ∧ PRep K (Tot O S σ) H v p := by
  unfold Den.peek at h
  split at h
  · rename_i q e
    cases h
    obtain ⟨v, e1, r⟩ := s.val i _ e
    exact ⟨v, e1, r.pr⟩
  · rename_i io lk q e
    cases h
    obtain ⟨a, e1, _, r⟩ := s.own i _ _ _ e
    exact ⟨_, e1, r.pr⟩
  · cases h
end

/-! ### contexts -/
structure Cs where
  N : List Str
  sc : Scope
  fn : Str → Bool
abbrev wd (X : Cx) : Wd := ⟨X.prog, X.w, X.K, X.mg, X.base⟩
structure Good (G : Wd) (c : Cs) (k : Nat) (X : Cx) : Prop where
  hw : wd X = G
  hN : X.N = c.N
  hs : X.env.scope = c.sc
  hf : X.fn = c.fn
  calm : X.calm = true
  room : Room k X.A
  nd : c.N.Nodup
  po : PySem.PassesOwn (model X.prog X.w) X.A X.env X.xe
def SE (G : Wd) (c : Cs) (k : Nat) (e : Expr) (d : AS → R RV) : Prop := ∀ X W, Good G c k X → Takes X W → PE X e (tSem G W d)
def ST (G : Wd) (c : Cs) (k : Nat) (e : Expr) (d : AS → R Bool) : Prop := ∀ X W, Good G c k X → Takes X W → PT X e (tSemT G W d)

inductive Opd where
  | nm (i : Nat) | tm (d : AS → R RV)
def tOpd (G : Wd) (W : WX) : Opd → TE
  | .nm i => tVar i
  | .tm d => tSem G W d
def tOpds (G : Wd) (W : WX) : List Opd → TA
  | [] => tNil
  | o :: r => tCons (tOpd G W o) (tOpds G W r)
def SO (G : Wd) (c : Cs) (k : Nat) (e : Expr) (o : Opd) : Prop := ∀ X W, Good G c k X → Takes X W → PE X e (tOpd G W o)
def SA (G : Wd) (c : Cs) (k : Nat) (es : List Expr) (o : List Opd) : Prop := ∀ X W, Good G c k X → Takes X W → PA X es (tOpds G W o)
def evs : List Opd → AS → R (List PV)
  | [], S => .ok [] S
  | .nm i :: r, S => match peek S i with
    | none => .bad
    | some _ => match evs r S with
      | .ok ps S' => match peek S' i with
        | some p => .ok (p :: ps) S'
        | none => .bad
      | .exc c p S' => .exc c p S'
      | .bad => .bad
  | .tm d :: r, S => match d S with
    | .ok rv S1 => match evs r S1 with
      | .ok ps S' => .ok (rv.pv :: ps) S'
      | .exc c p S' => .exc c p S'
      | .bad => .bad
    | .exc c p S' => .exc c p S'
    | .bad => .bad
section
variable {G : Wd} {c : Cs} {k : Nat} {W : WX} {O : Addr → Prop} {σ : L2.St}
/-- operands, one after another -/
theorem opds_ok : ∀ (ops : List Opd) (S : AS) (H : Hp) (Q : List V → Hp → Prop), SRel G.K O S σ H →
    (∀ ps S', evs ops S = .ok ps S' → ∀ vs H', Step O S S' σ H H' → SRel G.K O S' σ H' → PRepL G.K (Tot O S' σ) H' vs ps → Q vs H') →
    (∀ x p S', evs ops S = .exc x p S' → ∀ cls dd H', Step O S S' σ H H' → SRel G.K O S' σ H' → ExcRel G (Tot O S' σ) H' x p cls dd → W cls dd σ H') → evs ops S ≠ .bad → tOpds G W ops σ H Q
  | [], S, H, Q, s, hok, _, _ => hok [] S rfl [] H .refl s trivial
  | .nm i :: r, S, H, Q, s, hok, hex, hb => by
    unfold evs at hok hex hb
    cases e0 : peek S i with
    | none => rw [e0] at hb; exact (hb rfl).elim
    | some p0 =>
      rw [e0] at hok hex hb
      obtain ⟨v, ev, _⟩ := s.peek e0
      refine ⟨v, ev, opds_ok r S H _ s (fun ps S' e vs H' st s' rl => ?_) (fun x p S' e => ?_) (fun e => ?_)⟩
      · simp only [e] at hok hb
        cases e1 : peek S' i with
        | none => rw [e1] at hb; exact (hb rfl).elim
        | some p =>
          rw [e1] at hok
          obtain ⟨v', ev', pr⟩ := s'.peek e1
          rw [ev] at ev'
          cases ev'
          exact hok _ _ rfl _ _ st s' ⟨pr, rl⟩
      · simp only [e] at hex
        exact hex x p S' rfl
      · simp only [e] at hb
        exact hb rfl
  | .tm d :: r, S, H, Q, s, hok, hex, hb => by
    unfold evs at hok hex hb
    refine tSem.mk s (fun rv S1 e v H1 st res => ?_) (fun x p S' e => ?_) (fun e => ?_)
    · simp only [e] at hok hex hb
      obtain ⟨s1, rp⟩ := res.toVal s st
      refine opds_ok r S1 H1 _ s1 (fun ps S' e1 vs H' st1 s' rl => ?_) (fun x p S' e1 cls dd H' st1 => ?_) (fun e1 => ?_)
      · simp only [e1] at hok
        exact hok _ _ rfl _ _ (st.trans st1) s' ⟨(rp.keep (st1.keeps s1)).pr, rl⟩
      · simp only [e1] at hex
        exact hex x p S' rfl cls dd H' (st.trans st1)
      · simp only [e1] at hb
        exact hb rfl
    · simp only [e] at hex
      exact hex x p S' rfl
    · simp only [e] at hb
      exact hb rfl
end
/-! ### operations on values -/
def OpRes (K : PySem.W.Frag) (T : Addr → Prop) (H H' : Hp) : RV → V → Prop
  | .val p, v => Rep K T H' v p
  | .fresh p, v => ∃ a, v = .ref a ∧ H a = none ∧ ObR K (Oadd T a) H' a p
def OpS (K : PySem.W.Frag) (r : List V → Hp → VK → Prop) (f : List PV → Option RV) : Prop :=
  ∀ (T : Addr → Prop) (H : Hp) (vs : List V) (ps : List PV) (rv : RV) (Q : VK), TOk T H → PRepL K T H vs ps → f ps = some rv → (∀ v H', Ext H H' → OpRes K T H H' rv v → Q v H') → r vs H Q
def dOp (f : List PV → Option RV) (ops : List Opd) : AS → R RV := fun S => match evs ops S with
  | .ok ps S' => match f ps with
    | some rv => .ok rv S'
    | none => .bad
  | .exc c p S' => .exc c p S'
  | .bad => .bad
section
variable {G : Wd} {c : Cs} {k : Nat} {W : WX} {O : Addr → Prop} {σ : L2.St} {S S' : AS} {H H1 H' : Hp}
/-- an operation's result in the state -/
theorem OpRes.res {rv : RV} {v : V} (s : SRel G.K O S' σ H1) (st : Step O S S' σ H H1) (s0 : SRel G.K O S σ H) (e : Ext H1 H') (r : OpRes G.K (Tot O S' σ) H1 H' rv v) : Step O S S' σ H H' ∧ Res G.K O S' σ H H' rv v := by
  refine ⟨st.trans (Step.ext e s), ?_⟩
  cases rv with
  | val p => exact ⟨s.ext e, r⟩
  | fresh p =>
    obtain ⟨a, rfl, hn, ob⟩ := r
    have hn0 : H a = none := by
      cases z : H a with
      | none => rfl
      | some u => exact (st.th a (by rw [z]; exact fun q => nomatch q) hn).elim
    refine ⟨a, rfl, hn0, s.extAdd e hn ob.mut, ?_⟩
    have k : Keeps (Oadd (Tot O S' σ) a) (Tot (Oadd O a) S' σ) H' H' := ⟨fun x z => z.elim (s.tok.ext e x) fun q => q ▸ ob.mut, fun _ _ _ h => h, fun x u n _ z => n ((tot_add x).mp z), fun _ _ h => h⟩
    exact ob.keep k rfl
end
end Den
set_option Elab.async false
set_option linter.all false
set_option maxRecDepth 100000
set_option maxHeartbeats 1000000
/-! Den4: operations on pure values: arithmetic, joining, items, slices, sizes. -/
namespace Den
open PySem L2 PyProof.Rows

/-- an operation by what its operands stand for -/
def rP (K : PySem.W.Frag) (g : List PV → Option RV) : List V → Hp → VK → Prop := fun vs H Q =>
  ∃ (T : Addr → Prop) (ps : List PV) (rv : RV), TOk T H ∧ PRepL K T H vs ps ∧ g ps = some rv ∧ ∀ v H', Ext H H' → OpRes K T H H' rv v → Q v H'
abbrev rP2 (K : PySem.W.Frag) (g : List PV → Option RV) : R2 := fun x y H Q => rP K g [x, y] H Q
theorem OpS.rp (K : PySem.W.Frag) (g : List PV → Option RV) : OpS K (rP K g) g := fun T H vs ps rv Q t h e q => ⟨T, ps, rv, t, h, e, q⟩

def LINE : Nat := 16777216
theorem line_eq : (sizeLine : Nat) = LINE := by rw [sizeLine_eq]; rfl
section
variable {K : PySem.W.Frag} {T : Addr → Prop} {H : Hp} {v : V}
theorem PRep.lst' {l : List PV} (h : PRep K T H v (.lst l)) : ∃ a vs, v = .ref a ∧ H a = some (.lst vs) ∧ RepL K T H vs l := h
theorem PRep.tup' {l : List PV} (h : PRep K T H v (.tup l)) : ∃ a vs, v = .ref a ∧ H a = some (.tup vs) ∧ RepL K T H vs l := h
theorem PRep.seqL {l : List PV} (h : PRep K T H v (.lst l)) : ∃ a vs, v = .ref a ∧ SqL K H a vs ∧ RepL K T H vs l := let ⟨a, vs, e, r, q⟩ := h; ⟨a, vs, e, .of r, q⟩
theorem fin_tup {xs : List V} {l : List PV} {p : Addr} (t : TOk T H) (hp : H p = none) (r : RepL K T H xs l) : OpRes K T H (upd H p (.tup xs)) (.val (.tup l)) (.ref p) :=
  have r' := r.keep (Keeps.ext t (Ext.new (o := .tup xs) hp))
  .tup upd_same r'.1 r'.2
theorem fin_lst {xs : List V} {l : List PV} {p : Addr} (t : TOk T H) (hp : H p = none) (r : RepL K T H xs l) : OpRes K T H (upd H p (.lst xs)) (.fresh (.lst l)) (.ref p) :=
  ⟨p, rfl, hp, xs, upd_same, r.keep (Keeps.extAdd t (Ext.new (o := .lst xs) hp) hp)⟩
end

/-! ### + -/
def addP : List PV → Option RV
  | [.int i, .int j] => some (.val (.int (i + j)))
  | [.str x, .str y] => if x.length + y.length ≤ LINE then some (.val (.str (x ++ y))) else none
  | [.tup l, .tup m] => if l.length + m.length ≤ LINE then some (.val (.tup (l ++ m))) else none
  | [.lst l, .lst m] => if l.length + m.length ≤ LINE then some (.fresh (.lst (l ++ m))) else none
  | _ => none
section
variable {X : Cx}
theorem op_addP : OpR X (binaryOp .Add) (rP2 X.K addP) := by
  intro pins s σ H x y v u Q I rx ry h
  obtain ⟨T, ps, rv, t, hp, hg, q⟩ := h
  unfold addP at hg
  split at hg
  · obtain ⟨rfl, rfl, _⟩ := hp
    cases hg
    exact op_add pins s σ H _ _ v u Q I rx ry ⟨_, _, rfl, rfl, q _ H (fun _ _ e => e) (.int _)⟩
  · obtain ⟨rfl, rfl, _⟩ := hp
    split at hg
    · rename_i hl
      cases hg
      exact op_add_str pins s σ H _ _ v u Q I rx ry ⟨_, _, rfl, rfl, by rw [line_eq]; exact hl, q _ H (fun _ _ e => e) (.str _)⟩
    · cases hg
  · obtain ⟨h1, h2, _⟩ := hp
    obtain ⟨a, vs, rfl, h1, r1⟩ := h1.tup'
    obtain ⟨b, ws, rfl, h2, r2⟩ := h2.tup'
    split at hg
    · rename_i hl
      cases hg
      refine op_catA pins s σ H _ _ v u Q I rx ry ⟨_, _, _, _, rfl, rfl, .of h1, .of h2, by rw [line_eq, r1.1, r2.1]; exact hl, fun e => ?_, fun _ e => ?_, fun _ _ p hn => ?_⟩
      · subst e
        have e2 := List.eq_nil_of_length_eq_zero (r1.1.symm)
        subst e2
        exact q _ H (fun _ _ e => e) (.tup h2 r2.1 r2.2)
      · subst e
        have e2 := List.eq_nil_of_length_eq_zero (r2.1.symm)
        subst e2
        rw [List.append_nil] at q
        exact q _ H (fun _ _ e => e) (.tup h1 r1.1 r1.2)
      · exact q _ _ (Ext.new hn) (fin_tup t hn (r1.append r2))
    · cases hg
  · obtain ⟨h1, h2, _⟩ := hp
    obtain ⟨a, vs, rfl, h1, r1⟩ := h1.lst'
    obtain ⟨b, ws, rfl, h2, r2⟩ := h2.lst'
    split at hg
    · rename_i hl
      cases hg
      exact op_cat pins s σ H _ _ v u Q I rx ry ⟨_, _, _, _, rfl, rfl, h1, h2, by rw [line_eq, r1.1, r2.1]; exact hl, fun p hn => q _ _ (Ext.new hn) (fin_lst t hn (r1.append r2))⟩
    · cases hg
  · cases hg

/-! ### the other arithmetic -/
def subP : List PV → Option RV
  | [.int i, .int j] => some (.val (.int (i - j)))
  | _ => none
theorem op_subP : OpR X (binaryOp .Sub) (rP2 X.K subP) := by
  intro pins s σ H x y v u Q I rx ry h
  obtain ⟨T, ps, rv, t, hp, hg, q⟩ := h
  unfold subP at hg
  split at hg
  · obtain ⟨rfl, rfl, _⟩ := hp
    cases hg
    exact op_sub pins s σ H _ _ v u Q I rx ry ⟨_, _, rfl, rfl, q _ H (fun _ _ e => e) (.int _)⟩
  · cases hg
/-- n // d, n % d for 0 < d (d below 2 ^ 2000) -/
def fdivP : List PV → Option RV
  | [.int i, .int j] => if 0 < j ∧ j < 2 ^ 2000 then some (.val (.int (i / j))) else none
  | _ => none
theorem natAbs_lt2000 {j : Int} (h0 : 0 < j) (h1 : j < 2 ^ 2000) : j.natAbs < 2 ^ 2000 := by
  have e : ((j.natAbs : Nat) : Int) = j := Int.natAbs_of_nonneg (by omega)
  have e2 : (((2 : Nat) ^ 2000 : Nat) : Int) = (2 : Int) ^ 2000 := by norm_cast
  generalize (2 : Int) ^ 2000 = m at *
  generalize (2 : Nat) ^ 2000 = m' at *
  omega
theorem op_fdivP : OpR X (binaryOp .FloorDiv) (rP2 X.K fdivP) := by
  intro pins s σ H x y v u Q I rx ry h
  obtain ⟨T, ps, rv, t, hp, hg, q⟩ := h
  unfold fdivP at hg
  split at hg
  · obtain ⟨rfl, rfl, _⟩ := hp
    split at hg
    · rename_i i j hl
      cases hg
      refine op_fdivW pins s σ H _ _ v u Q I rx ry ⟨_, _, rfl, rfl, wide_div (b := 2000) hl.1 ?_ (by decide) (by decide), q _ H (fun _ _ e => e) (.int _)⟩
      exact natAbs_lt2000 hl.1 hl.2
    · cases hg
  · cases hg
def modP : List PV → Option RV
  | [.int i, .int j] => if 0 < j then some (.val (.int (i % j))) else none
  | _ => none
theorem op_modP : OpR X (binaryOp .Mod) (rP2 X.K modP) := by
  intro pins s σ H x y v u Q I rx ry h
  obtain ⟨T, ps, rv, t, hp, hg, q⟩ := h
  unfold modP at hg
  split at hg
  · obtain ⟨rfl, rfl, _⟩ := hp
    split at hg
    · rename_i hl
      cases hg
      exact op_mod pins s σ H _ _ v u Q I rx ry ⟨_, _, rfl, rfl, hl, q _ H (fun _ _ e => e) (.int _)⟩
    · cases hg
  · cases hg
def powP : List PV → Option RV
  | [.int i, .int j] => if 0 ≤ j ∧ j ≤ 1000 ∧ 0 ≤ i ∧ i < 2 ^ 64 then some (.val (.int (i ^ j.toNat))) else none
  | _ => none
theorem op_powP : OpR X (binaryOp .Pow) (rP2 X.K powP) := by
  intro pins s σ H x y v u Q I rx ry h
  obtain ⟨T, ps, rv, t, hp, hg, q⟩ := h
  unfold powP at hg
  split at hg
  · obtain ⟨rfl, rfl, _⟩ := hp
    split at hg
    · rename_i i j hl
      cases hg
      exact op_pow pins s σ H _ _ v u Q I rx ry ⟨_, _, rfl, rfl, ⟨hl.1, by omega, by omega⟩, q _ H (fun _ _ e => e) (.int _)⟩
    · cases hg
  · cases hg
/-- a product of ints: one factor below 2 ^ 64; a list or a tuple some times -/
def mulP : List PV → Option RV
  | [.int i, .int j] => if (-(2 ^ 64) < i ∧ i < 2 ^ 64) ∨ (-(2 ^ 64) < j ∧ j < 2 ^ 64) then some (.val (.int (i * j))) else none
  | [.lst l, .int k] => if -(2 ^ 63) ≤ k ∧ k < 2 ^ 63 ∧ l.length * k.toNat ≤ LINE then some (.fresh (.lst (List.replicate k.toNat l).flatten)) else none
  | [.tup l, .int k] => if l ≠ [] ∧ 2 ≤ k ∧ k ≤ 1000 ∧ l.length ≤ 1000 then some (.val (.tup (List.replicate k.toNat l).flatten)) else if k = 1 then some (.val (.tup l)) else none
  | _ => none
theorem tuple_mul1 (l : Addr) (items : Array Value) (n : Nat) (dd : Option Addr) (sl : Array (Option Value)) (u : Tok) :
    Meets (Builtin.«tuple.__mul__» ⟨[.ref l, .int 1 u], []⟩) (fun _ R s => s.heap.get? l = some { cls := .type "tuple", dict := dd, data := .seq items n, slots := sl } ∧ R (.ok (.ret (Value.ref l))) s) :=
  .of_wp fun prog w A R s h => by
    obtain ⟨hp, g, d, tk, os⟩ := s
    obtain ⟨hl, h⟩ := h
    have f1 := AutoSeq1.idx_int
    have c1 : (items.isEmpty || (1 : Int) == 1) = true := by rw [show ((1 : Int) == 1) = true from rfl, Bool.or_true]
    wp_walk using wpAny_loadPart' hl
    repeat (first
      | (refine wpAny_ite_false (decide_eq_false (by decide)) ?_; wp_walk using wpAny_loadPart' hl)
      | (refine wpAny_ite_true (decide_eq_true (by rw [c1])) ?_; wp_walk using wpAny_loadPart' hl))
    exact ⟨_, rfl, h⟩
theorem op_repT1 : OpR X (binaryOp .Mult) (fun x y H Q => ∃ l xs, x = .ref l ∧ y = .int 1 ∧ SqT X.K H l xs ∧ Q (.ref l) H) := by
  intro pins s σ H x y v u Q I rx ry h
  obtain ⟨l, xs, rfl, rfl, hT, q⟩ := h
  cases rx
  obtain ⟨t, rfl⟩ := ry
  obtain ⟨its, r, ⟨⟨cls, dd, data, sl⟩, ho, hc, n, hd⟩, hs⟩ := I.tuple hT
  simp only at hc hd
  subst hc hd
  refine wpAny_binaryOp_repeat_ref (T := "tuple") (U := "int") (by decide) ⟨_, ho, rfl⟩ (fun s' => typeIs_int s' 1 t) noFill_tuple_mul F.fills_int_mul F.slot_int_rmul repeat_tuple F.slot_int_index.lookup
    (call_meets F.slot_int_rmul (typeIs_int s 1 t) F.entry_int_rmul (F.args_int_rmul_2 _ _) (int_rmul_tuple 1 t l its.toArray n dd sl)
      ⟨ho, rfl, ⟨_, ho, rfl⟩, call_meets F.slot_tuple_mul ⟨_, ho, rfl⟩ F.entry_tuple_mul (F.args_tuple_mul_2 _ _) (tuple_mul1 l its.toArray n dd sl t) ⟨ho, ?_⟩⟩)
  exact ⟨.ref l, H, I, rfl, q⟩
theorem RepL.rep {K : PySem.W.Frag} {T : Addr → Prop} {H : Hp} {vs : List V} {l : List PV} (r : RepL K T H vs l) : ∀ n : Nat, RepL K T H (List.replicate n vs).flatten (List.replicate n l).flatten
  | 0 => RepL.nil
  | n + 1 => by
    rw [List.replicate_succ, List.replicate_succ, List.flatten_cons, List.flatten_cons]
    exact r.append (RepL.rep r n)
theorem op_mulP : OpR X (binaryOp .Mult) (rP2 X.K mulP) := by
  intro pins s σ H x y v u Q I rx ry h
  obtain ⟨T, ps, rv, t, hp, hg, q⟩ := h
  unfold mulP at hg
  split at hg
  · obtain ⟨rfl, rfl, _⟩ := hp
    split at hg
    · rename_i hl
      cases hg
      exact op_mul pins s σ H _ _ v u Q I rx ry ⟨_, _, rfl, rfl, hl, q _ H (fun _ _ e => e) (.int _)⟩
    · cases hg
  · obtain ⟨h1, rfl, _⟩ := hp
    obtain ⟨a, vs, rfl, h1, r1⟩ := h1.lst'
    split at hg
    · rename_i hl
      cases hg
      exact op_rep pins s σ H _ _ v u Q I rx ry ⟨_, _, _, rfl, rfl, h1, hl.1, hl.2.1, by rw [line_eq, r1.1]; exact hl.2.2, fun p hn => q _ _ (Ext.new hn) (fin_lst t hn (r1.rep _))⟩
    · cases hg
  · obtain ⟨h1, rfl, _⟩ := hp
    obtain ⟨a, vs, rfl, h1, r1⟩ := h1.tup'
    split at hg
    · rename_i hl
      cases hg
      refine op_repT pins s σ H _ _ v u Q I rx ry ⟨_, _, _, rfl, rfl, .of h1, fun e => hl.1 ?_, hl.2.1, hl.2.2.1, by rw [r1.1]; exact hl.2.2.2, fun p hn => q _ _ (Ext.new hn) (fin_tup t hn (r1.rep _))⟩
      subst e
      exact List.eq_nil_of_length_eq_zero r1.1.symm
    · split at hg
      · rename_i hl
        cases hg
        subst hl
        exact op_repT1 pins s σ H _ _ v u Q I rx ry ⟨_, _, rfl, rfl, .of h1, q _ H (fun _ _ e => e) (.tup h1 r1.1 r1.2)⟩
      · cases hg
  · cases hg
end
end Den
set_option Elab.async false
set_option linter.all false
set_option maxRecDepth 100000
set_option maxHeartbeats 1000000
/-! Den5: expressions. -/
namespace Den
open PySem L2 PyProof.Rows

section
variable {G : Wd} {c : Cs} {k : Nat} {W : WX} {O : Addr → Prop} {σ : L2.St} {S S' : AS} {H : Hp} {ops : List Opd}
theorem opds_run {Q : List V → Hp → Prop} {ps : List PV} (s : SRel G.K O S σ H) (e : evs ops S = .ok ps S')
    (h : ∀ vs H', Step O S S' σ H H' → SRel G.K O S' σ H' → PRepL G.K (Tot O S' σ) H' vs ps → Q vs H') : tOpds G W ops σ H Q := by
  refine opds_ok ops S H Q s (fun ps' S2 e2 => ?_) (fun x p S2 e2 => ?_) (fun e2 => ?_)
  · rw [e] at e2; cases e2; exact h
  · rw [e] at e2; cases e2
  · rw [e] at e2; cases e2
theorem opds_exc {Q : List V → Hp → Prop} {x : Str} {p : PV} (s : SRel G.K O S σ H) (e : evs ops S = .exc x p S')
    (h : ∀ cls dd H', Step O S S' σ H H' → SRel G.K O S' σ H' → ExcRel G (Tot O S' σ) H' x p cls dd → W cls dd σ H') : tOpds G W ops σ H Q := by
  refine opds_ok ops S H Q s (fun ps' S2 e2 => ?_) (fun x p S2 e2 => ?_) (fun e2 => ?_)
  · rw [e] at e2; cases e2
  · rw [e] at e2; cases e2; exact h
  · rw [e] at e2; cases e2
theorem tSem_mono {d : AS → R RV} {Q Q' : VK} (h : tSem G W d σ H Q) (m : ∀ v H', Q v H' → Q' v H') : tSem G W d σ H Q' := by
  obtain ⟨O, S, s, h⟩ := h
  refine ⟨O, S, s, ?_⟩
  cases e : d S with
  | ok r S' => simp only [e] at h; exact fun v H' st res => m v H' (h v H' st res)
  | exc x p S' => simp only [e] at h; exact h
  | bad => simp only [e] at h
theorem mono_opd {A : Opd} {Q Q' : VK} (h : tOpd G W A σ H Q) (m : ∀ v H', Q v H' → Q' v H') : tOpd G W A σ H Q' := by
  cases A with
  | nm i => obtain ⟨v, e, q⟩ := h; exact ⟨v, e, m _ _ q⟩
  | tm d => exact tSem_mono h m
theorem tSemT_mono {d : AS → R Bool} {Q Q' : Bool → Hp → Prop} (h : tSemT G W d σ H Q) (m : ∀ v H', Q v H' → Q' v H') : tSemT G W d σ H Q' := by
  obtain ⟨O, S, s, h⟩ := h
  refine ⟨O, S, s, ?_⟩
  cases e : d S with
  | ok r S' => simp only [e] at h; exact fun H' st res => m _ H' (h H' st res)
  | exc x p S' => simp only [e] at h; exact h
  | bad => simp only [e] at h
theorem mono_opds : ∀ {A : List Opd} {σ : L2.St} {H : Hp} {Q Q' : List V → Hp → Prop}, tOpds G W A σ H Q → (∀ v H', Q v H' → Q' v H') → tOpds G W A σ H Q'
  | [], _, _, _, _, h, m => m _ _ h
  | o :: r, _, _, _, _, h, m => mono_opd (A := o) h fun _ _ q => mono_opds (A := r) q fun _ _ q => m _ _ q
theorem sem_rP {f : List PV → Option RV} {Q : VK} (h : tSem G W (dOp f ops) σ H Q) : tOpds G W ops σ H (fun vs H1 => rP G.K f vs H1 Q) := by
  obtain ⟨O, S, s, h⟩ := h
  unfold dOp at h
  cases e : evs ops S with
  | ok ps S' =>
    simp only [e] at h
    cases e1 : f ps with
    | none => simp only [e1] at h
    | some rv =>
      simp only [e1] at h
      exact opds_run s e fun vs H' st s' rl => ⟨_, ps, rv, s'.tok, rl, e1, fun v H2 ex r =>
        let ⟨st2, r2⟩ := OpRes.res s' st s ex r
        h v H2 st2 r2⟩
  | exc x p S' =>
    simp only [e] at h
    exact opds_exc s e h
  | bad => simp only [e] at h
end

section
variable {G : Wd} {c : Cs} {k : Nat} {a b e : Expr} {pos : Pos} {A B : Opd}

/-! ### constants, names -/
def dC (p : PV) : AS → R RV := fun S => .ok (.val p) S
theorem se_c {v : V} {p : PV} (h : ∀ X W, Good G c k X → Takes X W → PE X e (tC v)) (r : ∀ T H, Rep G.K T H v p) : SE G c k e (dC p) := fun X W g tk =>
  pe_of (h X W g tk) fun σ H Q ⟨O, S, s, q⟩ => q v H .refl ⟨s, r _ _⟩
theorem se_int {i : Int} {j} : SE G c k (.Constant (.int i) j pos) (dC (.int i)) := se_c (fun _ _ _ _ => pe_int) fun _ _ => .int _
theorem se_bl {i : Bool} {j} : SE G c k (.Constant (.bool i) j pos) (dC (.bl i)) := se_c (fun _ _ _ _ => pe_bl) fun _ _ => .bl _
theorem se_non {j} : SE G c k (.Constant .none j pos) (dC .non) := se_c (fun _ _ _ _ => pe_non) fun _ _ => .non
theorem se_str {x : Str} {j} : SE G c k (.Constant (.str x) j pos) (dC (.str x)) := se_c (fun _ _ _ _ => pe_str) fun _ _ => .str _
/-- a module's constant: an int, a text -/
theorem se_glob {x : Str} {u : Value} {v : V} {p : PV} (hg : c.sc.names.lookup x = some .globalImplicit) (hm : G.mg x = some u) (r : RelV v u) (hp : ∀ T H, Rep G.K T H v p) (hd : (x == ("__debug__" : Str)) = false := by decide) :
    SE G c k (.Name x pos) (dC p) := se_c (fun X W g _ => by
  obtain ⟨rfl, hN, hs, _⟩ := g
  exact pe_glob (show X.env.scope.names.lookup x = some .globalImplicit by rw [hs]; exact hg) hm r hd) hp
/-- the name's value; an own list or dict is shared from here on -/
def dTake (i : Nat) : AS → R RV := fun S => match S[i]? with
  | some (.val p) => .ok (.val p) S
  | some (.own false false p) => .ok (.val p) (S.set i (.val p))
  | _ => .bad
abbrev Vs (c : Cs) (x : Str) : Prop := Vis c.sc x
theorem so_nm {i : Nat} {x : Str} (hN : c.N[i]? = some x) (hv : Vs c x) (hd : (x == ("__debug__" : Str)) = false := by decide) (hcd : (x == ("__classdict__" : Str)) = false := by decide) : SO G c k (.Name x pos) (.nm i) := fun X W g _ => by
  obtain ⟨rfl, gN, gs, _⟩ := g
  exact pe_var (by rw [gN]; exact hN) (by rw [gs]; exact hv) hd hcd
theorem so_tm {d : AS → R RV} (h : SE G c k e d) : SO G c k e (.tm d) := h
theorem se_take {i : Nat} {x : Str} (hN : c.N[i]? = some x) (hv : Vs c x) (hd : (x == ("__debug__" : Str)) = false := by decide) (hcd : (x == ("__classdict__" : Str)) = false := by decide) : SE G c k (.Name x pos) (dTake i) := fun X W g tk => by
  refine pe_of (so_nm (G := G) hN hv hd hcd X W g tk) fun σ H Q ⟨O, S, s, q⟩ => ?_
  cases e : S[i]? with
  | none => simp only [dTake, e] at q
  | some sl =>
    cases sl with
    | un => simp only [dTake, e] at q
    | val p =>
      simp only [dTake, e] at q
      obtain ⟨v, ev, r⟩ := s.val i p e
      exact ⟨v, ev, q v H .refl ⟨s, r⟩⟩
    | own io lk p =>
      cases io with
      | true => simp only [dTake, e] at q
      | false =>
        cases lk with
        | true => simp only [dTake, e] at q
        | false =>
          simp only [dTake, e] at q
          obtain ⟨v, ev, _, _⟩ := s.own i _ _ p e
          obtain ⟨s', sub⟩ := s.freeze e
          have hi : i < S.length := (List.getElem?_eq_some_iff.mp e).1
          obtain ⟨v', ev', r⟩ := s'.val i p (List.getElem?_set_self hi)
          rw [ev] at ev'
          cases ev'
          refine ⟨_, ev, q _ H ⟨fun _ _ _ h => h, fun _ _ => rfl, sub, fun j lk p' h => ?_, fun j io p' h => ?_, fun _ h => h, fun _ _ h => h⟩ ⟨s', r⟩⟩
          · have hj : i ≠ j := fun z => by subst z; rw [e] at h; cases h
            exact ⟨lk, p', by rw [List.getElem?_set_ne hj]; exact h⟩
          · have hj : i ≠ j := fun z => by subst z; rw [e] at h; cases h
            rw [List.getElem?_set_ne hj]; exact h

/-! ### operands -/
theorem sa_nil : SA G c k [] [] := fun _ _ _ _ => pa_nil
theorem sa_cons {es : List Expr} {os : List Opd} (h : SO G c k e A) (r : SA G c k es os) (hs : ∀ env, starEach (e :: es) env = (false, eval e env) :: starEach es env := by intro _; rfl) : SA G c k (e :: es) (A :: os) := fun X W g tk => pa_cons (h X W g tk) (r X W g tk) (hs _)

theorem se_bin {op : Operator} {f : List PV → Option RV} (ho : ∀ X, Good G c k X → OpR X (binaryOp op) (rP2 G.K f)) (ha : SO G c k a A) (hb : SO G c k b B) : SE G c k (.BinOp a op b pos) (dOp f [A, B]) := fun X W g tk =>
  pe_of (pe_op (ho X g) (ha X W g tk) (hb X W g tk)) fun σ H Q h => sem_rP (ops := [A, B]) h
theorem se_add (ha : SO G c k a A) (hb : SO G c k b B) : SE G c k (.BinOp a .Add b pos) (dOp addP [A, B]) := se_bin (fun X g => by obtain ⟨rfl, _⟩ := g; exact op_addP) ha hb
theorem se_sub (ha : SO G c k a A) (hb : SO G c k b B) : SE G c k (.BinOp a .Sub b pos) (dOp subP [A, B]) := se_bin (fun X g => by obtain ⟨rfl, _⟩ := g; exact op_subP) ha hb
theorem se_mul (ha : SO G c k a A) (hb : SO G c k b B) : SE G c k (.BinOp a .Mult b pos) (dOp mulP [A, B]) := se_bin (fun X g => by obtain ⟨rfl, _⟩ := g; exact op_mulP) ha hb
theorem se_fdiv (ha : SO G c k a A) (hb : SO G c k b B) : SE G c k (.BinOp a .FloorDiv b pos) (dOp fdivP [A, B]) := se_bin (fun X g => by obtain ⟨rfl, _⟩ := g; exact op_fdivP) ha hb
theorem se_mod (ha : SO G c k a A) (hb : SO G c k b B) : SE G c k (.BinOp a .Mod b pos) (dOp modP [A, B]) := se_bin (fun X g => by obtain ⟨rfl, _⟩ := g; exact op_modP) ha hb
theorem se_pow (ha : SO G c k a A) (hb : SO G c k b B) : SE G c k (.BinOp a .Pow b pos) (dOp powP [A, B]) := se_bin (fun X g => by obtain ⟨rfl, _⟩ := g; exact op_powP) ha hb
def negP : List PV → Option RV
  | [.int i] => some (.val (.int (-i)))
  | _ => none
theorem se_neg (ha : SO G c k a A) : SE G c k (.UnaryOp .USub a pos) (dOp negP [A]) := fun X W g tk =>
  pe_of (pe_un un_neg (ha X W g tk)) fun σ H Q h => by
    have q := sem_rP (ops := [A]) h
    have : tOpd G W A σ H (fun x H1 => rP G.K negP [x] H1 Q) := q
    refine mono_opd this fun x H1 ⟨T, ps, rv, t, hp, hg, q⟩ => ?_
    unfold negP at hg
    split at hg
    · obtain ⟨rfl, _⟩ := hp
      cases hg
      exact ⟨_, rfl, q _ H1 (fun _ _ e => e) (.int _)⟩
    · cases hg

/-! ### comparisons -/
theorem se_cmp {op : CmpOp} {f : List PV → Option RV} (ho : ∀ X, Good G c k X → OpR X (compareOp op) (rP2 G.K f)) (ha : SO G c k a A) (hb : SO G c k b B) (hm : behindInMarks op b = false := by rfl) : SE G c k (.Compare a [op] [b] pos) (dOp f [A, B]) := fun X W g tk =>
  pe_of (pe_cmpR (ho X g) (ha X W g tk) (hb X W g tk) hm) fun σ H Q h => sem_rP (ops := [A, B]) h
end
end Den
set_option Elab.async false
set_option linter.all false
set_option maxRecDepth 100000
set_option maxHeartbeats 1000000
/-! Den6: dicts' pure operations; deep equality. -/
namespace Den
open PySem L2 PyProof.Rows

/-! ### keys -/
def akeq : PV → PV → Bool
  | .int i, .int j => decide (i = j)
  | .str x, .str y => decide (x = y)
  | _, _ => false
def akeqL : List PV → List PV → Bool
  | [], [] => true
  | p :: l, q :: m => akeq p q && akeqL l m
  | _, _ => false
def keq : PV → PV → Bool
  | .tup l, .tup m => akeqL l m
  | p, q => akeq p q
def isAKey : PV → Bool
  | .int _ => true
  | .str _ => true
  | _ => false
def aKey : PV → Option Key
  | .int i => some (.inl i)
  | .str x => some (.inr x)
  | _ => none
theorem aKey_pv {p : PV} {k : Key} (h : aKey p = some k) : p = keyPV k := by
  cases p <;> simp [aKey] at h <;> (subst h; rfl)
theorem aKey_of (k : Key) : aKey (keyPV k) = some k := by cases k <;> rfl
def dget (l : List (PV × PV)) (k : PV) : Option PV := (l.find? fun q => keq q.1 k).map (·.2)
def dput (l : List (PV × PV)) (k v : PV) : List (PV × PV) :=
  if (l.any fun q => keq q.1 k) = true then l.map (fun q => if keq q.1 k = true then (q.1, v) else q) else l ++ [(k, v)]
theorem akeq_key (j k : Key) : akeq (keyPV j) (keyPV k) = decide (j = k) := by
  rcases j with i | x <;> rcases k with j | y
  · show decide (i = j) = _
    by_cases e : i = j
    · subst e; simp
    · rw [decide_eq_false e]; exact (decide_eq_false fun z => e (Sum.inl.inj z)).symm
  · exact (decide_eq_false fun z => nomatch z).symm
  · exact (decide_eq_false fun z => nomatch z).symm
  · show decide (x = y) = _
    by_cases e : x = y
    · subst e; simp
    · rw [decide_eq_false e]; exact (decide_eq_false fun z => e (Sum.inr.inj z)).symm
theorem keq_key (j k : Key) : keq (keyPV j) (keyPV k) = decide (j = k) := by
  rw [← akeq_key]
  rcases j with i | x <;> rfl
theorem akeqL_keys : ∀ j k : List Key, akeqL (j.map keyPV) (k.map keyPV) = decide (j = k)
  | [], [] => rfl
  | [], _ :: _ => rfl
  | _ :: _, [] => rfl
  | a :: j, b :: k => by
    show (akeq (keyPV a) (keyPV b) && akeqL (j.map keyPV) (k.map keyPV)) = _
    rw [akeq_key, akeqL_keys j k]
    by_cases e : a = b
    · subst e
      by_cases e2 : j = k
      · subst e2; simp
      · rw [decide_eq_false e2, decide_eq_false (fun z => e2 (List.cons.inj z).2), Bool.and_false]
    · rw [decide_eq_false e, decide_eq_false (fun z => e (List.cons.inj z).1), Bool.false_and]
theorem keq_keys (j k : List Key) : keq (.tup (j.map keyPV)) (.tup (k.map keyPV)) = decide (j = k) := akeqL_keys j k

section
variable {K : PySem.W.Frag} {T T' : Addr → Prop} {H H' : Hp}
theorem RepK.head {kv : Key × V} {p : PV × PV} {r : List (Key × V)} {l : List (PV × PV)} (h : RepK K T H (kv :: r) (p :: l)) : p.1 = keyPV kv.1 ∧ Rep K T H kv.2 p.2 := ⟨h.2.1 0 _ _ rfl rfl, h.2.2 0 _ _ rfl rfl⟩
theorem RepK.tail {kv : Key × V} {p : PV × PV} {r : List (Key × V)} {l : List (PV × PV)} (h : RepK K T H (kv :: r) (p :: l)) : RepK K T H r l :=
  ⟨by simpa using h.1, fun i a b e f => h.2.1 (i + 1) a b (by simpa using e) (by simpa using f), fun i a b e f => h.2.2 (i + 1) a b (by simpa using e) (by simpa using f)⟩
theorem RepK.nil : RepK K T H [] [] := ⟨rfl, fun i a b e => by simp at e, fun i a b e => by simp at e⟩
theorem RepK.cons {kv : Key × V} {p : PV × PV} {r : List (Key × V)} {l : List (PV × PV)} (h1 : p.1 = keyPV kv.1) (h2 : Rep K T H kv.2 p.2) (h : RepK K T H r l) : RepK K T H (kv :: r) (p :: l) := by
  refine ⟨by simp [h.1], fun i a b e f => ?_, fun i a b e f => ?_⟩
  · cases i with
    | zero => simp at e f; subst e; subst f; exact h1
    | succ i => exact h.2.1 i a b (by simpa using e) (by simpa using f)
  · cases i with
    | zero => simp at e f; subst e; subst f; exact h2
    | succ i => exact h.2.2 i a b (by simpa using e) (by simpa using f)
theorem RepK.ind {motive : List (Key × V) → List (PV × PV) → Prop} (h0 : motive [] [])
    (h1 : ∀ kv p r l, p.1 = keyPV kv.1 → Rep K T H kv.2 p.2 → RepK K T H r l → motive r l → motive (kv :: r) (p :: l)) : ∀ {kvs l}, RepK K T H kvs l → motive kvs l
  | [], [], _ => h0
  | kv :: r, p :: l, h => h1 kv p r l h.head.1 h.head.2 h.tail (RepK.ind h0 h1 h.tail)
  | [], _ :: _, h => absurd h.1 (by simp)
  | _ :: _, [], h => absurd h.1 (by simp)
/-- what a dict holds at a key -/
theorem RepK.get {kvs : List (Key × V)} {l : List (PV × PV)} (h : RepK K T H kvs l) (k : Key) :
    (valV kvs k = none ∧ dget l (keyPV k) = none) ∨ ∃ v p, valV kvs k = some v ∧ dget l (keyPV k) = some p ∧ Rep K T H v p := by
  refine RepK.ind (motive := fun kvs l => (valV kvs k = none ∧ dget l (keyPV k) = none) ∨ ∃ v p, valV kvs k = some v ∧ dget l (keyPV k) = some p ∧ Rep K T H v p) (.inl ⟨rfl, rfl⟩) (fun kv p r l e rp _ ih => ?_) h
  by_cases c : kv.1 = k
  · refine .inr ⟨kv.2, p.2, valV_pos c, ?_, rp⟩
    unfold dget
    rw [List.find?_cons, e, keq_key, decide_eq_true c]
    rfl
  · rw [valV_neg c]
    have : dget (p :: l) (keyPV k) = dget l (keyPV k) := by
      unfold dget
      rw [List.find?_cons, e, keq_key, decide_eq_false c]
    rw [this]
    exact ih
theorem RepT.head {kv : List Key × V} {p : PV × PV} {r : List (List Key × V)} {l : List (PV × PV)} (h : RepT K T H (kv :: r) (p :: l)) : p.1 = .tup (kv.1.map keyPV) ∧ Rep K T H kv.2 p.2 := ⟨h.2.1 0 _ _ rfl rfl, h.2.2 0 _ _ rfl rfl⟩
theorem RepT.tail {kv : List Key × V} {p : PV × PV} {r : List (List Key × V)} {l : List (PV × PV)} (h : RepT K T H (kv :: r) (p :: l)) : RepT K T H r l :=
  ⟨by simpa using h.1, fun i a b e f => h.2.1 (i + 1) a b (by simpa using e) (by simpa using f), fun i a b e f => h.2.2 (i + 1) a b (by simpa using e) (by simpa using f)⟩
theorem RepT.nil : RepT K T H [] [] := ⟨rfl, fun i a b e => by simp at e, fun i a b e => by simp at e⟩
theorem RepT.cons {kv : List Key × V} {p : PV × PV} {r : List (List Key × V)} {l : List (PV × PV)} (h1 : p.1 = .tup (kv.1.map keyPV)) (h2 : Rep K T H kv.2 p.2) (h : RepT K T H r l) : RepT K T H (kv :: r) (p :: l) := by
  refine ⟨by simp [h.1], fun i a b e f => ?_, fun i a b e f => ?_⟩
  · cases i with
    | zero => simp at e f; subst e; subst f; exact h1
    | succ i => exact h.2.1 i a b (by simpa using e) (by simpa using f)
  · cases i with
    | zero => simp at e f; subst e; subst f; exact h2
    | succ i => exact h.2.2 i a b (by simpa using e) (by simpa using f)
theorem RepT.ind {motive : List (List Key × V) → List (PV × PV) → Prop} (h0 : motive [] [])
    (h1 : ∀ kv p r l, p.1 = .tup (kv.1.map keyPV) → Rep K T H kv.2 p.2 → RepT K T H r l → motive r l → motive (kv :: r) (p :: l)) : ∀ {kvs l}, RepT K T H kvs l → motive kvs l
  | [], [], _ => h0
  | kv :: r, p :: l, h => h1 kv p r l h.head.1 h.head.2 h.tail (RepT.ind h0 h1 h.tail)
  | [], _ :: _, h => absurd h.1 (by simp)
  | _ :: _, [], h => absurd h.1 (by simp)
theorem RepT.get {kvs : List (List Key × V)} {l : List (PV × PV)} (h : RepT K T H kvs l) (k : List Key) :
    (valV kvs k = none ∧ dget l (.tup (k.map keyPV)) = none) ∨ ∃ v p, valV kvs k = some v ∧ dget l (.tup (k.map keyPV)) = some p ∧ Rep K T H v p := by
  refine RepT.ind (motive := fun kvs l => (valV kvs k = none ∧ dget l (.tup (k.map keyPV)) = none) ∨ ∃ v p, valV kvs k = some v ∧ dget l (.tup (k.map keyPV)) = some p ∧ Rep K T H v p) (.inl ⟨rfl, rfl⟩) (fun kv p r l e rp _ ih => ?_) h
  by_cases c : kv.1 = k
  · refine .inr ⟨kv.2, p.2, valV_pos c, ?_, rp⟩
    unfold dget
    rw [List.find?_cons, e, keq_keys, decide_eq_true c]
    rfl
  · rw [valV_neg c]
    have : dget (p :: l) (.tup (k.map keyPV)) = dget l (.tup (k.map keyPV)) := by
      unfold dget
      rw [List.find?_cons, e, keq_keys, decide_eq_false c]
    rw [this]
    exact ih
/-- d[k] = v -/
theorem RepK.put {kvs : List (Key × V)} {l : List (PV × PV)} (h : RepK K T H kvs l) (k : Key) {v : V} {p : PV} (r : Rep K T H v p) : RepK K T H (putK kvs k v) (dput l (keyPV k) p) := by
  have ea : (kvs.any fun kv => decide (kv.1 = k)) = (l.any fun q => keq q.1 (keyPV k)) := by
    refine RepK.ind (motive := fun kvs l => (kvs.any fun kv => decide (kv.1 = k)) = (l.any fun q => keq q.1 (keyPV k))) rfl (fun kv p r l e rp _ ih => ?_) h
    rw [List.any_cons, List.any_cons, ih, e, keq_key]
  unfold putK dput
  rw [← ea]
  split
  · refine RepK.ind (motive := fun kvs l => RepK K T H (kvs.map _) (l.map _)) RepK.nil (fun kv p' r' l e rp _ ih => ?_) h
    rw [List.map_cons, List.map_cons]
    refine RepK.cons ?_ ?_ ih
    · rw [e, keq_key]
      by_cases c : kv.1 = k
      · rw [if_pos c, decide_eq_true c, if_pos rfl]
      · rw [if_neg c, decide_eq_false c, if_neg Bool.false_ne_true]; exact e
    · rw [e, keq_key]
      by_cases c : kv.1 = k
      · rw [if_pos c, decide_eq_true c, if_pos rfl]; exact r
      · rw [if_neg c, decide_eq_false c, if_neg Bool.false_ne_true]; exact rp
  · refine RepK.ind (motive := fun kvs l => RepK K T H (kvs ++ [(k, v)]) (l ++ [(keyPV k, p)])) (RepK.cons rfl r RepK.nil) (fun kv p' r' l e rp _ ih => RepK.cons e rp ih) h
theorem RepT.put {kvs : List (List Key × V)} {l : List (PV × PV)} (h : RepT K T H kvs l) (k : List Key) {v : V} {p : PV} (r : Rep K T H v p) : RepT K T H (putK kvs k v) (dput l (.tup (k.map keyPV)) p) := by
  have ea : (kvs.any fun kv => decide (kv.1 = k)) = (l.any fun q => keq q.1 (.tup (k.map keyPV))) := by
    refine RepT.ind (motive := fun kvs l => (kvs.any fun kv => decide (kv.1 = k)) = (l.any fun q => keq q.1 (.tup (k.map keyPV)))) rfl (fun kv p r l e rp _ ih => ?_) h
    rw [List.any_cons, List.any_cons, ih, e, keq_keys]
  unfold putK dput
  rw [← ea]
  split
  · refine RepT.ind (motive := fun kvs l => RepT K T H (kvs.map _) (l.map _)) RepT.nil (fun kv p' r' l e rp _ ih => ?_) h
    rw [List.map_cons, List.map_cons]
    refine RepT.cons ?_ ?_ ih
    · rw [e, keq_keys]
      by_cases c : kv.1 = k
      · rw [if_pos c, decide_eq_true c, if_pos rfl]
      · rw [if_neg c, decide_eq_false c, if_neg Bool.false_ne_true]; exact e
    · rw [e, keq_keys]
      by_cases c : kv.1 = k
      · rw [if_pos c, decide_eq_true c, if_pos rfl]; exact r
      · rw [if_neg c, decide_eq_false c, if_neg Bool.false_ne_true]; exact rp
  · refine RepT.ind (motive := fun kvs l => RepT K T H (kvs ++ [(k, v)]) (l ++ [(PV.tup (k.map keyPV), p)])) (RepT.cons rfl r RepT.nil) (fun kv p' r' l e rp _ ih => RepT.cons e rp ih) h
end

/-! ### deep equality -/
def allK : List (PV × PV) → Bool := fun l => l.all fun q => isAKey q.1
/-- does p == q answer b; none: not served -/
def eqO : Nat → PV → PV → Option Bool
  | _, .non, .non => some true
  | _, .non, .bl _ => some false
  | _, .non, .int _ => some false
  | _, .non, .str _ => some false
  | _, .bl _, .non => some false
  | _, .bl a, .bl b => some (a == b)
  | _, .bl a, .int j => some ((if a then 1 else 0) == j)
  | _, .bl _, .str _ => some false
  | _, .int _, .non => some false
  | _, .int i, .bl b => some (i == (if b then 1 else 0))
  | _, .int i, .int j => some (i == j)
  | _, .int _, .str _ => some false
  | _, .str _, .non => some false
  | _, .str _, .bl _ => some false
  | _, .str _, .int _ => some false
  | _, .str x, .str y => some (x == y)
  | n + 1, .tup l, .tup m => (eqs (eqO n) l m).map (· && l.length == m.length)
  | n + 1, .lst l, .lst m => if l.length = m.length then eqs (eqO n) l m else some false
  | n + 1, .dct l, .dct m => if allK l && allK m then (eqd (eqO n) l m).map (l.length == m.length && ·) else none
  | _ + 1, .tup _, .lst _ => some false
  | _ + 1, .lst _, .tup _ => some false
  | _ + 1, .tup _, .non => some false
  | _ + 1, .tup _, .bl _ => some false
  | _ + 1, .tup _, .int _ => some false
  | _ + 1, .tup _, .str _ => some false
  | _ + 1, .lst _, .non => some false
  | _ + 1, .lst _, .bl _ => some false
  | _ + 1, .lst _, .int _ => some false
  | _ + 1, .lst _, .str _ => some false
  | _ + 1, .non, .tup _ => some false
  | _ + 1, .bl _, .tup _ => some false
  | _ + 1, .int _, .tup _ => some false
  | _ + 1, .str _, .tup _ => some false
  | _ + 1, .non, .lst _ => some false
  | _ + 1, .bl _, .lst _ => some false
  | _ + 1, .int _, .lst _ => some false
  | _ + 1, .str _, .lst _ => some false
  | _, _, _ => none
where
  eqs (f : PV → PV → Option Bool) : List PV → List PV → Option Bool
    | p :: l, q :: m => match f p q, eqs f l m with
      | some a, some b => some (a && b)
      | _, _ => none
    | _, _ => some true
  eqd (f : PV → PV → Option Bool) : List (PV × PV) → List (PV × PV) → Option Bool
    | [], _ => some true
    | p :: l, m => match dget m p.1 with
      | some q => match f p.2 q, eqd f l m with
        | some a, some b => some (a && b)
        | _, _ => none
      | none => match eqd f l m with
        | some _ => some false
        | none => none
end Den
set_option Elab.async false
set_option linter.all false
set_option maxRecDepth 100000
set_option maxHeartbeats 4000000
namespace Den
open PySem L2 PyProof.Rows PySem.SeqAt

def scalP : PV → Bool
  | .non => true | .bl _ => true | .int _ => true | .str _ => true | _ => false
section
variable {K : PySem.W.Frag} {T T' : Addr → Prop} {H H' : Hp} {X : Cx} {pins : List (Addr × Obj)} {σ : L2.St} {s : Shared}
theorem eq_scal {A : Around} {n : Nat} {p q : PV} {x y : V} {u w : Value} {b : Bool} (hp : scalP p = true) (hq : scalP q = true) (rx : PRep K T H x p) (ry : PRep K T' H y q) (ru : RelV x u) (rw' : RelV y w) (h : eqO n p q = some b) : EqAt A s u w b := by
  cases p with
  | tup _ => cases hp
  | lst _ => cases hp
  | dct _ => cases hp
  | non =>
    obtain rfl : x = .non := rx
    obtain rfl : u = .none := ru
    cases q with
    | tup _ => cases hq
    | lst _ => cases hq
    | dct _ => cases hq
    | non => obtain rfl : y = .non := ry; obtain rfl : w = .none := rw'; simp only [eqO] at h; cases h; exact .same _
    | bl c => obtain rfl : y = .bl c := ry; obtain rfl : w = .bool c := rw'; simp only [eqO] at h; cases h; exact .none_bool _
    | int c => obtain rfl : y = .int c := ry; obtain ⟨t, rfl⟩ := rw'; simp only [eqO] at h; cases h; exact .none_int _ _
    | str c => obtain rfl : y = .str c := ry; obtain ⟨t, rfl⟩ := rw'; simp only [eqO] at h; cases h; exact .none_str _ _
  | bl a =>
    obtain rfl : x = .bl a := rx
    obtain rfl : u = .bool a := ru
    cases q with
    | tup _ => cases hq
    | lst _ => cases hq
    | dct _ => cases hq
    | non => obtain rfl : y = .non := ry; obtain rfl : w = .none := rw'; simp only [eqO] at h; cases h; exact .bool_none _
    | bl c => obtain rfl : y = .bl c := ry; obtain rfl : w = .bool c := rw'; simp only [eqO] at h; cases h; exact .bool_bool _ _
    | int c => obtain rfl : y = .int c := ry; obtain ⟨t, rfl⟩ := rw'; simp only [eqO] at h; cases h; exact .bool_int _ _ _
    | str c => obtain rfl : y = .str c := ry; obtain ⟨t, rfl⟩ := rw'; simp only [eqO] at h; cases h; exact .bool_str _ _ _
  | int a =>
    obtain rfl : x = .int a := rx
    obtain ⟨t1, rfl⟩ := ru
    cases q with
    | tup _ => cases hq
    | lst _ => cases hq
    | dct _ => cases hq
    | non => obtain rfl : y = .non := ry; obtain rfl : w = .none := rw'; simp only [eqO] at h; cases h; exact .int_none _ _
    | bl c => obtain rfl : y = .bl c := ry; obtain rfl : w = .bool c := rw'; simp only [eqO] at h; cases h; exact .int_bool _ _ _
    | int c => obtain rfl : y = .int c := ry; obtain ⟨t, rfl⟩ := rw'; simp only [eqO] at h; cases h; exact .int_int _ _ _ _
    | str c => obtain rfl : y = .str c := ry; obtain ⟨t, rfl⟩ := rw'; simp only [eqO] at h; cases h; exact .int_str _ _ _ _
  | str a =>
    obtain rfl : x = .str a := rx
    obtain ⟨t1, rfl⟩ := ru
    cases q with
    | tup _ => cases hq
    | lst _ => cases hq
    | dct _ => cases hq
    | non => obtain rfl : y = .non := ry; obtain rfl : w = .none := rw'; simp only [eqO] at h; cases h; exact .str_none _ _
    | bl c => obtain rfl : y = .bl c := ry; obtain rfl : w = .bool c := rw'; simp only [eqO] at h; cases h; exact .str_bool _ _ _
    | int c => obtain rfl : y = .int c := ry; obtain ⟨t, rfl⟩ := rw'; simp only [eqO] at h; cases h; exact .str_int _ _ _ _
    | str c => obtain rfl : y = .str c := ry; obtain ⟨t, rfl⟩ := rw'; simp only [eqO] at h; cases h; exact .str_str _ _ _ _

theorem Rd.fn {a : Addr} {u u' : HO} (h : Rd H a u) (h' : Rd H a u') (n : ∀ o z, u ≠ .frz o z) (n' : ∀ o z, u' ≠ .frz o z) : u = u' := by
  rcases h with h | ⟨o, h⟩ <;> rcases h' with h' | ⟨o', h'⟩ <;> rw [h] at h' <;> cases h'
  · rfl
  · exact absurd rfl (n _ _)
  · exact absurd rfl (n' _ _)
  · rfl
theorem keyPV_inj {j k : Key} (h : keyPV j = keyPV k) : j = k := by
  rcases j with i | x <;> rcases k with j | y <;> cases h <;> rfl
theorem pairs_ext {κ : Type} {kvs : List (κ × V)} {kp : κ → PV} {l m : List (PV × PV)} (e : kvs.length = l.length) (e2 : kvs.length = m.length)
    (hk : ∀ (i : Nat) kv p, kvs[i]? = some kv → l[i]? = some p → p.1 = kp kv.1) (hk2 : ∀ (i : Nat) kv p, kvs[i]? = some kv → m[i]? = some p → p.1 = kp kv.1)
    (h : ∀ (i : Nat) kv p q, kvs[i]? = some kv → l[i]? = some p → m[i]? = some q → p.2 = q.2) : l = m := by
  refine List.ext_getElem? fun i => ?_
  by_cases hi : i < kvs.length
  · have e1 : l[i]? = some (l[i]'(by omega)) := List.getElem?_eq_getElem (by omega)
    have e3 : m[i]? = some (m[i]'(by omega)) := List.getElem?_eq_getElem (by omega)
    have e0 : kvs[i]? = some kvs[i] := List.getElem?_eq_getElem hi
    rw [e1, e3]
    exact congrArg some (Prod.ext ((hk i _ _ e0 e1).trans (hk2 i _ _ e0 e3).symm) (h i _ _ _ e0 e1 e3))
  · rw [List.getElem?_eq_none (by omega), List.getElem?_eq_none (by omega)]
/-- the representation is a function of the heap -/
theorem Rep.fn {v : V} {p : PV} (r1 : Rep K T H v p) : ∀ {q : PV}, Rep K T' H v q → p = q := by
  induction r1 with
  | non => intro q h; cases h; rfl
  | bl => intro q h; cases h; rfl
  | int => intro q h; cases h; rfl
  | str => intro q h; cases h; rfl
  | tup h e r ih =>
    intro q h'
    cases h' with
    | tup h2 e2 r2 =>
      rw [h] at h2; cases h2
      rw [RepL.of_inj e e2 fun i v p q a b c => ih i v p a b (r2 i v q a c)]
    | lst _ h2 => rw [h] at h2; cases h2
    | dctK _ h2 => exact nomatch Rd.fn (.inl h) h2 (fun _ _ z => nomatch z) (fun _ _ z => nomatch z)
    | dctT _ h2 => exact nomatch Rd.fn (.inl h) h2 (fun _ _ z => nomatch z) (fun _ _ z => nomatch z)
  | lst _ h e r ih =>
    intro q h'
    cases h' with
    | tup h2 => rw [h] at h2; cases h2
    | lst _ h2 e2 r2 =>
      rw [h] at h2; cases h2
      rw [RepL.of_inj e e2 fun i v p q a b c => ih i v p a b (r2 i v q a c)]
    | dctK _ h2 => exact nomatch Rd.fn (.inl h) h2 (fun _ _ z => nomatch z) (fun _ _ z => nomatch z)
    | dctT _ h2 => exact nomatch Rd.fn (.inl h) h2 (fun _ _ z => nomatch z) (fun _ _ z => nomatch z)
  | dctK _ h e hk r ih =>
    intro q h'
    cases h' with
    | tup h2 => exact nomatch Rd.fn h (.inl h2) (fun _ _ z => nomatch z) (fun _ _ z => nomatch z)
    | lst _ h2 => exact nomatch Rd.fn h (.inl h2) (fun _ _ z => nomatch z) (fun _ _ z => nomatch z)
    | dctK _ h2 e2 hk2 r2 =>
      have := Rd.fn h h2 (fun _ _ z => nomatch z) (fun _ _ z => nomatch z)
      cases this
      exact congrArg PV.dct (pairs_ext e e2 hk hk2 fun i kv p q a b c => ih i kv p a b (r2 i kv q a c))
    | dctT _ h2 => exact nomatch Rd.fn h h2 (fun _ _ z => nomatch z) (fun _ _ z => nomatch z)
  | dctT _ h _ e hk r ih =>
    intro q h'
    cases h' with
    | tup h2 => exact nomatch Rd.fn h (.inl h2) (fun _ _ z => nomatch z) (fun _ _ z => nomatch z)
    | lst _ h2 => exact nomatch Rd.fn h (.inl h2) (fun _ _ z => nomatch z) (fun _ _ z => nomatch z)
    | dctK _ h2 => exact nomatch Rd.fn h h2 (fun _ _ z => nomatch z) (fun _ _ z => nomatch z)
    | dctT _ h2 _ e2 hk2 r2 =>
      have := Rd.fn h h2 (fun _ _ z => nomatch z) (fun _ _ z => nomatch z)
      cases this
      exact congrArg PV.dct (pairs_ext (kp := fun k => .tup (k.map keyPV)) e e2 hk hk2 fun i kv p q a b c => ih i kv p a b (r2 i kv q a c))
theorem RepL.fn {vs : List V} {l m : List PV} (h : RepL K T H vs l) (h' : RepL K T' H vs m) : l = m := RepL.of_inj h.1 h'.1 fun i v p q a b c => (h.2 i v p a b).fn (h'.2 i v q a c)
theorem RepK.fn {kvs : List (Key × V)} {l m : List (PV × PV)} (h : RepK K T H kvs l) (h' : RepK K T' H kvs m) : l = m := by
  have h1 := h.1
  have h2 := h'.1
  refine List.ext_getElem? fun i => ?_
  by_cases hi : i < kvs.length
  · have e1 : l[i]? = some (l[i]'(by omega)) := List.getElem?_eq_getElem (by omega)
    have e3 : m[i]? = some (m[i]'(by omega)) := List.getElem?_eq_getElem (by omega)
    have e0 : kvs[i]? = some kvs[i] := List.getElem?_eq_getElem hi
    rw [e1, e3]
    exact congrArg some (Prod.ext ((h.2.1 i _ _ e0 e1).trans (h'.2.1 i _ _ e0 e3).symm) ((h.2.2 i _ _ e0 e1).fn (h'.2.2 i _ _ e0 e3)))
  · rw [List.getElem?_eq_none (by omega), List.getElem?_eq_none (by omega)]

theorem dget_self {kvs : List (Key × V)} {l : List (PV × PV)} (h : RepK K T H kvs l) (nd : (kvs.map (·.1)).Nodup) : ∀ (i : Nat) q, l[i]? = some q → dget l q.1 = some q.2 := by
  refine RepK.ind (motive := fun kvs l => (kvs.map (·.1)).Nodup → ∀ (i : Nat) q, l[i]? = some q → dget l q.1 = some q.2) (fun _ i q e => by simp at e) (fun kv p r l e rp rk ih nd i q hq => ?_) h nd
  rw [List.map_cons, List.nodup_cons] at nd
  cases i with
  | zero =>
    simp at hq; subst hq
    unfold dget
    rw [List.find?_cons, e, keq_key, decide_eq_true rfl]
    rfl
  | succ i =>
    have hq' : l[i]? = some q := by simpa using hq
    have hi : i < r.length := by rw [rk.1]; exact (List.getElem?_eq_some_iff.mp hq').1
    have e0 : r[i]? = some r[i] := List.getElem?_eq_getElem hi
    have ek := rk.2.1 i _ _ e0 hq'
    have ne : ¬ kv.1 = r[i].1 := fun z => nd.1 (by rw [z]; exact List.mem_map.mpr ⟨r[i], List.getElem_mem hi, rfl⟩)
    have : dget (p :: l) q.1 = dget l q.1 := by
      unfold dget
      rw [List.find?_cons, e, ek, keq_key, decide_eq_false ne]
    rw [this]
    exact ih nd.2 i q hq'
theorem eqs_self {f : PV → PV → Option Bool} : ∀ {l : List PV} {b : Bool}, (∀ p ∈ l, ∀ b, f p p = some b → b = true) → eqO.eqs f l l = some b → b = true
  | [], b, _, h => by simp only [eqO.eqs] at h; cases h; rfl
  | p :: l, b, hf, h => by
    simp only [eqO.eqs] at h
    split at h
    · rename_i a c e1 e2
      cases h
      rw [hf p List.mem_cons_self _ e1, eqs_self (fun q hq => hf q (List.mem_cons_of_mem _ hq)) e2]
      rfl
    · cases h
theorem eqd_self {f : PV → PV → Option Bool} {m : List (PV × PV)} : ∀ {l : List (PV × PV)} {b : Bool}, (∀ q ∈ l, dget m q.1 = some q.2) → (∀ q ∈ l, ∀ b, f q.2 q.2 = some b → b = true) → eqO.eqd f l m = some b → b = true
  | [], b, _, _, h => by simp only [eqO.eqd] at h; cases h; rfl
  | p :: l, b, hm, hf, h => by
    simp only [eqO.eqd, hm p List.mem_cons_self] at h
    split at h
    · rename_i a c e1 e2
      cases h
      rw [hf p List.mem_cons_self _ e1, eqd_self (fun q hq => hm q (List.mem_cons_of_mem _ hq)) (fun q hq => hf q (List.mem_cons_of_mem _ hq)) e2]
      rfl
    · cases h
theorem eq_self (I : Inv X pins σ H s) : ∀ (n : Nat) {p : PV} {x : V} {b : Bool}, PRep K T H x p → eqO n p p = some b → b = true := by
  intro n
  induction n with
  | zero =>
    intro p x b h e
    cases p <;> simp only [eqO] at e <;> first | (cases e; rfl) | (cases e; exact beq_self_eq_true _) | cases e
  | succ n ih =>
    intro p x b h e
    cases p with
    | non => simp only [eqO] at e; cases e; rfl
    | bl c => simp only [eqO] at e; cases e; exact beq_self_eq_true _
    | int c => simp only [eqO] at e; cases e; exact beq_self_eq_true _
    | str c => simp only [eqO] at e; cases e; exact beq_self_eq_true _
    | tup l =>
      obtain ⟨a, vs, rfl, h1, r⟩ := h
      simp only [eqO] at e
      cases e1 : eqO.eqs (eqO n) l l with
      | none => rw [e1] at e; cases e
      | some c =>
        rw [e1] at e
        simp only [Option.map_some, Option.some.injEq] at e
        have := eqs_self (fun p hp b hb => by
          obtain ⟨i, hi⟩ := List.getElem?_of_mem hp
          obtain ⟨v, _, rp⟩ := r.get hi
          exact ih rp.pr hb) e1
        rw [← e, this]
        simp
    | lst l =>
      obtain ⟨a, vs, rfl, h1, r⟩ := h
      simp only [eqO, if_true] at e
      exact eqs_self (fun p hp b hb => by
          obtain ⟨i, hi⟩ := List.getElem?_of_mem hp
          obtain ⟨v, _, rp⟩ := r.get hi
          exact ih rp.pr hb) e
    | dct l =>
      obtain ⟨a, rfl, ⟨kvs, h1, r⟩ | ⟨kvs, h1, _, r⟩⟩ := h
      · simp only [eqO] at e
        split at e
        · cases e1 : eqO.eqd (eqO n) l l with
          | none => rw [e1] at e; cases e
          | some c =>
            rw [e1] at e
            simp only [Option.map_some, Option.some.injEq] at e
            obtain ⟨_, _, vs, kv, dd⟩ := dk_rd I.hok h1
            have nd : (kvs.map (·.1)).Nodup := by
              rw [kv.keys]
              obtain ⟨_, _, _, _, _, _, _, _, nd⟩ := dd
              exact nd
            have := eqd_self (fun q hq => by
              obtain ⟨i, hi⟩ := List.getElem?_of_mem hq
              exact dget_self r nd i q hi) (fun q hq b hb => by
              obtain ⟨i, hi⟩ := List.getElem?_of_mem hq
              have hi' : i < kvs.length := by rw [r.1]; exact (List.getElem?_eq_some_iff.mp hi).1
              exact ih (r.2.2 i _ q (List.getElem?_eq_getElem hi') hi).pr hb) e1
            rw [← e, this]
            simp
        · cases e
      · simp only [eqO] at e
        split at e
        · rename_i hk
          -- keys are tuples: none at all
          cases l with
          | nil =>
            simp only [eqO.eqd] at e
            cases e; rfl
          | cons q l =>
            have hi' : 0 < kvs.length := by rw [r.1]; simp
            have ek := r.2.1 0 _ q (List.getElem?_eq_getElem hi') rfl
            simp [allK, ek, isAKey] at hk
        · cases e
end
end Den
set_option Elab.async false
set_option linter.all false
set_option maxRecDepth 100000
set_option maxHeartbeats 4000000
namespace Den
open PySem L2 PyProof.Rows PySem.SeqAt

theorem eqs_range {f : PV → PV → Option Bool} : ∀ {l m : List PV} {c : Bool}, eqO.eqs f l m = some c →
    ∃ e : Nat → Bool, c = (List.range (min l.length m.length)).all e ∧ ∀ (j : Nat) p q, l[j]? = some p → m[j]? = some q → f p q = some (e j)
  | [], m, c, h => by
    simp only [eqO.eqs] at h
    cases h
    exact ⟨fun _ => true, by simp, fun j p q a => by simp at a⟩
  | p :: l, [], c, h => by
    simp only [eqO.eqs] at h
    cases h
    exact ⟨fun _ => true, by simp, fun j p q _ a => by simp at a⟩
  | p :: l, q :: m, c, h => by
    simp only [eqO.eqs] at h
    split at h
    · rename_i a b e1 e2
      cases h
      obtain ⟨e, rfl, he⟩ := eqs_range e2
      refine ⟨fun j => Nat.casesOn j a e, ?_, fun j p' q' h1 h2 => ?_⟩
      · rw [List.length_cons, List.length_cons, Nat.succ_min_succ, List.range_succ_eq_map, List.all_cons, List.all_map]
        rfl
      · cases j with
        | zero => simp at h1 h2; subst h1; subst h2; exact e1
        | succ j => exact he j p' q' (by simpa using h1) (by simpa using h2)
    · cases h
theorem eqd_all {f : PV → PV → Option Bool} {m : List (PV × PV)} : ∀ {l : List (PV × PV)} {c : Bool}, eqO.eqd f l m = some c →
    (∀ q ∈ l, ∀ r, dget m q.1 = some r → ∃ b, f q.2 r = some b) ∧ c = l.all fun q => match dget m q.1 with | some r => (f q.2 r).getD false | none => false
  | [], c, h => by
    simp only [eqO.eqd] at h
    cases h
    exact ⟨fun q hq => by simp at hq, rfl⟩
  | p :: l, c, h => by
    simp only [eqO.eqd] at h
    cases e0 : dget m p.1 with
    | none =>
      simp only [e0] at h
      split at h
      · rename_i b e2
        cases h
        obtain ⟨h1, _⟩ := eqd_all e2
        refine ⟨fun q hq r hr => ?_, ?_⟩
        · rcases List.mem_cons.mp hq with rfl | hq
          · rw [e0] at hr; cases hr
          · exact h1 q hq r hr
        · simp only [List.all_cons, e0, Bool.false_and]
      · cases h
    | some r0 =>
      simp only [e0] at h
      split at h
      · rename_i a b e1 e2
        cases h
        obtain ⟨h1, h2⟩ := eqd_all e2
        refine ⟨fun q hq r hr => ?_, ?_⟩
        · rcases List.mem_cons.mp hq with rfl | hq
          · rw [e0] at hr; cases hr; exact ⟨a, e1⟩
          · exact h1 q hq r hr
        · rw [h2]
          simp only [List.all_cons, e0, e1, Option.getD_some]
      · cases h
theorem kv_get {κ : Type} : ∀ {kvs : List (κ × V)} {vs : List (κ × Value)}, KV kvs vs → ∀ {i : Nat} {p}, kvs[i]? = some p → ∃ q, vs[i]? = some q ∧ p.1 = q.1 ∧ RelV p.2 q.2
  | _, _, .nil, i, p, e => by simp at e
  | _, _, .cons r t, 0, p, e => by simp at e; subst e; exact ⟨_, rfl, r⟩
  | _, _, .cons _ t, i + 1, p, e => by
    obtain ⟨q, h1, h2⟩ := kv_get t (i := i) (by simpa using e)
    exact ⟨q, by simpa using h1, h2⟩
section
variable {K : PySem.W.Frag} {T T' : Addr → Prop} {H H' : Hp} {X : Cx} {pins : List (Addr × Obj)} {σ : L2.St} {s : Shared}
/-- a dict with tuple keys that is empty is as well one without -/
theorem dt_nil (I : Inv X pins σ H s) {a : Addr} (h : Rd H a (.dT [])) : (a == sysModules) = false ∧ s.heap.DictOf (mixKind X.prog X.w) a [] := by
  obtain ⟨_, hd, xs, pr, o, es, ep, ho, hx, hdt, hes, _⟩ := h.ok I.hok
  cases pr
  refine ⟨hd, o, es, ep, ho, hx, hdt, ?_, ?_, by simp⟩
  · have : es = #[] := by simpa using hes
    subst this
    exact fun e he => absurd he (by simp)
  · rw [hes]; exact .nil
theorem dct_raw (I : Inv X pins σ H s) {x : V} {l : List (PV × PV)} (h : PRep K T H x (.dct l)) (hk : allK l = true) :
    ∃ a kvs vs, x = .ref a ∧ RepK K T H kvs l ∧ (a == sysModules) = false ∧ KV kvs vs ∧ s.heap.DictOf (mixKind X.prog X.w) a vs := by
  obtain ⟨a, rfl, ⟨kvs, h1, r⟩ | ⟨kvs, h1, _, r⟩⟩ := h
  · obtain ⟨_, hd, vs, kv, dd⟩ := dk_rd I.hok h1
    exact ⟨a, kvs, vs, rfl, r, hd, kv, dd⟩
  · cases l with
    | nil =>
      have : kvs = [] := List.eq_nil_of_length_eq_zero (by simpa using r.1)
      subst this
      obtain ⟨hd, dd⟩ := dt_nil I h1
      exact ⟨a, [], [], rfl, RepK.nil, hd, .nil, dd⟩
    | cons q l =>
      have hi' : 0 < kvs.length := by rw [r.1]; simp
      have ek := r.2.1 0 _ q (List.getElem?_eq_getElem hi') rfl
      simp [allK, ek, isAKey] at hk
theorem tup_raw (I : Inv X pins σ H s) {x : V} {l : List PV} (h : PRep K T H x (.tup l)) : ∃ a vs its, x = .ref a ∧ RepL K T H vs l ∧ Vals vs its ∧ s.heap.IsTuple a its.toArray ∧ vs.length ≤ sizeLine := by
  obtain ⟨a, vs, rfl, h1, r⟩ := h
  obtain ⟨its, rv, p, hz⟩ := I.tuple (.of h1)
  exact ⟨a, vs, its, rfl, r, rv, p, hz⟩
theorem lst_raw (I : Inv X pins σ H s) {x : V} {l : List PV} (h : PRep K T H x (.lst l)) : ∃ a vs its, x = .ref a ∧ RepL K T H vs l ∧ Vals vs its ∧ s.heap.IsList a its.toArray ∧ vs.length ≤ sizeLine := by
  obtain ⟨a, vs, rfl, h1, r⟩ := h
  obtain ⟨its, rv, p, hz⟩ := I.list (.of h1)
  exact ⟨a, vs, its, rfl, r, rv, p.isList, hz⟩
theorem vals_get {vs : List V} {its : List Value} (r : Vals vs its) {l : List PV} (q : RepL K T H vs l) {j : Nat} (h : j < its.toArray.size) : ∃ v p, vs[j]? = some v ∧ l[j]? = some p ∧ Rep K T H v p ∧ RelV v its.toArray[j] := by
  have hl := r.length
  have hj : j < vs.length := by rw [hl]; simpa using h
  have hp : j < l.length := by rw [← q.1]; exact hj
  obtain ⟨u, hu, ru⟩ := r.get (List.getElem?_eq_getElem hj)
  have e : its.toArray[j] = u := by
    have h2 : j < its.length := by simpa using h
    rw [List.getElem?_eq_getElem h2] at hu
    simpa using hu
  exact ⟨vs[j], l[j], List.getElem?_eq_getElem hj, List.getElem?_eq_getElem hp, q.2 j _ _ (List.getElem?_eq_getElem hj) (List.getElem?_eq_getElem hp), by rw [e]; exact ru⟩
open PySem.W in
theorem eq_tree (I : Inv X pins σ H s) : ∀ (n : Nat) {p q : PV} {x y : V} {u w : Value} {b : Bool}, PRep K T H x p → PRep K T' H y q → RelV x u → RelV y w → eqO n p q = some b → EqTree X.prog X.w s n u w b := by
  intro n
  induction n with
  | zero =>
    intro p q x y u w b hp hq ru rw' e
    by_cases c : scalP p = true ∧ scalP q = true
    · exact .leaf fun A _ => eq_scal c.1 c.2 hp hq ru rw' e
    · cases p <;> cases q <;> simp [scalP] at c <;> simp [eqO] at e
  | succ n ih =>
    intro p q x y u w b hp hq ru rw' e
    by_cases c : scalP p = true ∧ scalP q = true
    · exact .leaf fun A _ => eq_scal c.1 c.2 hp hq ru rw' e
    · cases p with
      | tup l =>
        obtain ⟨a, vs, its, rfl, rl, rv, ht, hz⟩ := tup_raw I hp
        obtain rfl : u = .ref a := ru
        have hu : ∀ A : Around, A.units + (n + 1) < cLine → A.units < cLine := fun A h => by omega
        cases q with
        | tup m =>
          obtain ⟨a', vs', its', rfl, rl', rv', ht', hz'⟩ := tup_raw I hq
          obtain rfl : w = .ref a' := rw'
          by_cases haa : a = a'
          · subst haa
            obtain ⟨a1, vs1, e1, h1, r1⟩ := hp
            obtain ⟨a2, vs2, e2, h2, r2⟩ := hq
            cases e1; cases e2
            rw [h1] at h2
            cases h2
            have := r1.fn r2
            subst this
            have : b = true := eq_self I (n + 1) (p := .tup l) (x := .ref a) ⟨a, vs1, rfl, h1, r1⟩ e
            subst this
            exact .same
          · simp only [eqO] at e
            cases e1 : eqO.eqs (eqO n) l m with
            | none => rw [e1] at e; cases e
            | some cc =>
              rw [e1] at e
              simp only [Option.map_some, Option.some.injEq] at e
              obtain ⟨f, rfl, hf⟩ := eqs_range e1
              have s1 : its.toArray.size = l.length := by rw [List.size_toArray, ← rv.length, rl.1]
              have s2 : its'.toArray.size = m.length := by rw [List.size_toArray, ← rv'.length, rl'.1]
              have := EqTree.tuples (prog := X.prog) (w := X.w) (s := s) (n := n) (e := f) haa ht ht' fun j h1 h2 => by
                obtain ⟨v, p, _, hpj, rp, rr⟩ := vals_get rv rl h1
                obtain ⟨v', p', _, hpj', rp', rr'⟩ := vals_get rv' rl' h2
                exact ih rp.pr rp'.pr rr rr' (hf j p p' hpj hpj')
              rw [s1, s2] at this
              rw [← e]
              exact this
        | lst m =>
          obtain ⟨a', vs', its', rfl, rl', rv', ht', hz'⟩ := lst_raw I hq
          obtain rfl : w = .ref a' := rw'
          simp only [eqO] at e; cases e
          exact .leaf fun A h => .tuple_list ht ht' (hu A h)
        | dct m => simp only [eqO] at e; cases e
        | non => obtain rfl : y = .non := hq; obtain rfl : w = .none := rw'; simp only [eqO] at e; cases e; exact .leaf fun A h => .tuple_none ht (hu A h)
        | bl cq => obtain rfl : y = .bl cq := hq; obtain rfl : w = .bool cq := rw'; simp only [eqO] at e; cases e; exact .leaf fun A h => .tuple_bool _ ht (hu A h)
        | int cq => obtain rfl : y = .int cq := hq; obtain ⟨t, rfl⟩ := rw'; simp only [eqO] at e; cases e; exact .leaf fun A h => .tuple_int _ _ ht (hu A h)
        | str cq => obtain rfl : y = .str cq := hq; obtain ⟨t, rfl⟩ := rw'; simp only [eqO] at e; cases e; exact .leaf fun A h => .tuple_str _ _ ht (hu A h)
      | lst l =>
        obtain ⟨a, vs, its, rfl, rl, rv, ht, hz⟩ := lst_raw I hp
        obtain rfl : u = .ref a := ru
        have hu : ∀ A : Around, A.units + (n + 1) < cLine → A.units < cLine := fun A h => by omega
        cases q with
        | lst m =>
          obtain ⟨a', vs', its', rfl, rl', rv', ht', hz'⟩ := lst_raw I hq
          obtain rfl : w = .ref a' := rw'
          by_cases haa : a = a'
          · subst haa
            obtain ⟨a1, vs1, e1, h1, r1⟩ := hp
            obtain ⟨a2, vs2, e2, h2, r2⟩ := hq
            cases e1; cases e2
            rw [h1] at h2
            cases h2
            have := r1.fn r2
            subst this
            have : b = true := eq_self I (n + 1) (p := .lst l) (x := .ref a) ⟨a, vs1, rfl, h1, r1⟩ e
            subst this
            exact .same
          · have s1 : its.toArray.size = l.length := by rw [List.size_toArray, ← rv.length, rl.1]
            have s2 : its'.toArray.size = m.length := by rw [List.size_toArray, ← rv'.length, rl'.1]
            simp only [eqO] at e
            split at e
            · rename_i hlm
              obtain ⟨f, hc, hf⟩ := eqs_range e
              have := EqTree.lists (prog := X.prog) (w := X.w) (s := s) (n := n) (e := f) haa ht ht' (by rw [s1, s2, hlm]) fun j h1 h2 => by
                obtain ⟨v, p, _, hpj, rp, rr⟩ := vals_get rv rl h1
                obtain ⟨v', p', _, hpj', rp', rr'⟩ := vals_get rv' rl' h2
                exact ih rp.pr rp'.pr rr rr' (hf j p p' hpj hpj')
              rw [s1] at this
              rw [hlm, Nat.min_self] at hc
              rw [hc, ← hlm]
              exact this
            · rename_i hlm
              cases e
              exact .listsLen haa ht ht' (by rw [s1, s2]; simpa using hlm)
        | tup m =>
          obtain ⟨a', vs', its', rfl, rl', rv', ht', hz'⟩ := tup_raw I hq
          obtain rfl : w = .ref a' := rw'
          simp only [eqO] at e; cases e
          exact .leaf fun A h => .list_tuple ht ht' (hu A h)
        | dct m => simp only [eqO] at e; cases e
        | non => obtain rfl : y = .non := hq; obtain rfl : w = .none := rw'; simp only [eqO] at e; cases e; exact .leaf fun A h => .list_none ht (hu A h)
        | bl cq => obtain rfl : y = .bl cq := hq; obtain rfl : w = .bool cq := rw'; simp only [eqO] at e; cases e; exact .leaf fun A h => .list_bool _ ht (hu A h)
        | int cq => obtain rfl : y = .int cq := hq; obtain ⟨t, rfl⟩ := rw'; simp only [eqO] at e; cases e; exact .leaf fun A h => .list_int _ _ ht (hu A h)
        | str cq => obtain rfl : y = .str cq := hq; obtain ⟨t, rfl⟩ := rw'; simp only [eqO] at e; cases e; exact .leaf fun A h => .list_str _ _ ht (hu A h)
      | dct l =>
        cases q with
        | dct m =>
          simp only [eqO] at e
          split at e
          · rename_i hk
            rw [Bool.and_eq_true] at hk
            obtain ⟨a, kvs, rs, rfl, rk, hd, kv, dd⟩ := dct_raw I hp hk.1
            obtain ⟨a', kvs', rs', rfl, rk', hd', kv', dd'⟩ := dct_raw I hq hk.2
            obtain rfl : u = .ref a := ru
            obtain rfl : w = .ref a' := rw'
            by_cases haa : a = a'
            · subst haa
              obtain ⟨a1, e1, h1⟩ := hp
              obtain ⟨a2, e2, h2⟩ := hq
              cases e1; cases e2
              have : l = m := by
                rcases h1 with ⟨k1, h1, r1⟩ | ⟨k1, h1, _, r1⟩ <;> rcases h2 with ⟨k2, h2, r2⟩ | ⟨k2, h2, _, r2⟩
                · cases Rd.fn h1 h2 (fun _ _ z => nomatch z) (fun _ _ z => nomatch z)
                  exact r1.fn r2
                · exact nomatch Rd.fn h1 h2 (fun _ _ z => nomatch z) (fun _ _ z => nomatch z)
                · exact nomatch Rd.fn h1 h2 (fun _ _ z => nomatch z) (fun _ _ z => nomatch z)
                · cases Rd.fn h1 h2 (fun _ _ z => nomatch z) (fun _ _ z => nomatch z)
                  exact pairs_ext (kp := fun k => .tup (k.map keyPV)) r1.1 r2.1 r1.2.1 r2.2.1 fun i kv p q a b c => (r1.2.2 i kv p a b).fn (r2.2.2 i kv q a c)
              subst this
              have : b = true := eq_self I (n + 1) (p := .dct l) (x := .ref a) ⟨a, rfl, h1⟩ (by simp only [eqO, hk.1, Bool.and_self, if_true]; exact e)
              subst this
              exact .same
            · cases e1 : eqO.eqd (eqO n) l m with
              | none => rw [e1] at e; cases e
              | some cc =>
                rw [e1] at e
                simp only [Option.map_some, Option.some.injEq] at e
                obtain ⟨hf, hcc⟩ := eqd_all e1
                have nd : (kvs.map (·.1)).Nodup := by
                  rw [kv.keys]
                  obtain ⟨_, _, _, _, _, _, _, _, nd⟩ := dd
                  exact nd
                -- the verdict at a key
                let f : Key → Bool := fun k => match dget l (keyPV k), dget m (keyPV k) with
                  | some p, some q => (eqO n p q).getD false
                  | _, _ => false
                have tree := EqTree.dicts (prog := X.prog) (w := X.w) (s := s) (n := n) (e := f) haa hd hd' dd dd' fun k v y hm hv => by
                  obtain ⟨i, hi⟩ := List.getElem?_of_mem hm
                  have hik : i < kvs.length := by rw [kv.length]; exact (List.getElem?_eq_some_iff.mp hi).1
                  have hil : i < l.length := by rw [← rk.1]; exact hik
                  have e0 : kvs[i]? = some kvs[i] := List.getElem?_eq_getElem hik
                  have el : l[i]? = some l[i] := List.getElem?_eq_getElem hil
                  have pk := rk.2.1 i _ _ e0 el
                  have pv := rk.2.2 i _ _ e0 el
                  obtain ⟨kx, vx⟩ : kvs[i].1 = k ∧ RelV kvs[i].2 v := by
                    obtain ⟨u', hu', ru'⟩ := kv_get kv e0
                    rw [hi] at hu'
                    cases hu'
                    exact ru'
                  rw [kx] at pk
                  have g1 := dget_self rk nd i _ el
                  rw [pk] at g1
                  have r2 := kv'.val k
                  rw [hv] at r2
                  rcases rk'.get k with ⟨g2, _⟩ | ⟨v2, p2, g2, g3, rp2⟩
                  · rw [g2] at r2; exact r2.elim
                  · rw [g2] at r2
                    have r2' : RelV v2 y := r2
                    obtain ⟨b2, hb2⟩ := hf _ (List.mem_of_getElem? el) p2 (by rw [pk]; exact g3)
                    have : f k = b2 := by simp only [f, g1, g3, hb2, Option.getD_some]
                    rw [this]
                    exact ih pv.pr rp2.pr vx r2' hb2
                have len1 : rs.length = l.length := by rw [← kv.length, rk.1]
                have len2 : rs'.length = m.length := by rw [← kv'.length, rk'.1]
                rw [len1, len2] at tree
                have eall : (rs.all fun p => (valueAt rs' p.1).isSome && f p.1) = cc := by
                  rw [hcc]
                  have e1 : (rs.all fun p => (valueAt rs' p.1).isSome && f p.1) = (kvs.all fun p => (valV kvs' p.1).isSome && f p.1) := by
                    have e2 : ∀ k, (valueAt rs' k).isSome = (valV kvs' k).isSome := fun k => by
                      have := kv'.val k
                      cases h1 : valV kvs' k <;> cases h2 : valueAt rs' k <;> rw [h1, h2] at this <;> first | rfl | exact this.elim
                    have e3 : (rs.map (·.1)).all (fun k => (valueAt rs' k).isSome && f k) = (kvs.map (·.1)).all (fun k => (valV kvs' k).isSome && f k) := by
                      rw [← kv.keys]
                      congr 1
                      funext k
                      rw [e2]
                    rw [List.all_map, List.all_map] at e3
                    exact e3
                  rw [e1]
                  rw [Bool.eq_iff_iff, List.all_eq_true, List.all_eq_true]
                  have key : ∀ (i : Nat) kvx q, kvs[i]? = some kvx → l[i]? = some q → ((valV kvs' kvx.1).isSome && f kvx.1) = (match dget m q.1 with | some r => (eqO n q.2 r).getD false | none => false) := fun i kvx q h1 h2 => by
                    have pk := rk.2.1 i _ _ h1 h2
                    have g1 := dget_self rk nd i _ h2
                    rw [pk] at g1
                    rw [pk]
                    rcases rk'.get kvx.1 with ⟨g2, g3⟩ | ⟨v2, p2, g2, g3, rp2⟩
                    · rw [g2, g3]; rfl
                    · rw [g2, g3]
                      simp only [f, g1, g3, Option.isSome_some, Bool.true_and]
                  constructor
                  · intro h q hq
                    obtain ⟨i, hi⟩ := List.getElem?_of_mem hq
                    have hik : i < kvs.length := by rw [rk.1]; exact (List.getElem?_eq_some_iff.mp hi).1
                    rw [← key i _ q (List.getElem?_eq_getElem hik) hi]
                    exact h _ (List.getElem_mem hik)
                  · intro h q hq
                    obtain ⟨i, hi⟩ := List.getElem?_of_mem hq
                    have hil : i < l.length := by rw [← rk.1]; exact (List.getElem?_eq_some_iff.mp hi).1
                    rw [key i q _ hi (List.getElem?_eq_getElem hil)]
                    exact h _ (List.getElem_mem hil)
                rw [eall] at tree
                rw [← e]
                exact tree
          · cases e
        | tup _ => simp only [eqO] at e; cases e
        | lst _ => simp only [eqO] at e; cases e
        | non => simp only [eqO] at e; cases e
        | bl _ => simp only [eqO] at e; cases e
        | int _ => simp only [eqO] at e; cases e
        | str _ => simp only [eqO] at e; cases e
      | non =>
        obtain rfl : x = .non := hp
        obtain rfl : u = .none := ru
        have hu : ∀ A : Around, A.units + (n + 1) < cLine → A.units < cLine := fun A h => by omega
        cases q with
        | tup m => obtain ⟨a', vs', its', rfl, rl', rv', ht', hz'⟩ := tup_raw I hq; obtain rfl : w = .ref a' := rw'; simp only [eqO] at e; cases e; exact .leaf fun A h => .none_tuple ht' (hu A h)
        | lst m => obtain ⟨a', vs', its', rfl, rl', rv', ht', hz'⟩ := lst_raw I hq; obtain rfl : w = .ref a' := rw'; simp only [eqO] at e; cases e; exact .leaf fun A h => .none_list ht' (hu A h)
        | dct m => simp only [eqO] at e; cases e
        | _ => exact absurd ⟨rfl, rfl⟩ c
      | bl cb =>
        obtain rfl : x = .bl cb := hp
        obtain rfl : u = .bool cb := ru
        have hu : ∀ A : Around, A.units + (n + 1) < cLine → A.units < cLine := fun A h => by omega
        cases q with
        | tup m => obtain ⟨a', vs', its', rfl, rl', rv', ht', hz'⟩ := tup_raw I hq; obtain rfl : w = .ref a' := rw'; simp only [eqO] at e; cases e; exact .leaf fun A h => .bool_tuple _ ht' (hu A h)
        | lst m => obtain ⟨a', vs', its', rfl, rl', rv', ht', hz'⟩ := lst_raw I hq; obtain rfl : w = .ref a' := rw'; simp only [eqO] at e; cases e; exact .leaf fun A h => .bool_list _ ht' (hu A h)
        | dct m => simp only [eqO] at e; cases e
        | _ => exact absurd ⟨rfl, rfl⟩ c
      | int cb =>
        obtain rfl : x = .int cb := hp
        obtain ⟨tk, rfl⟩ := ru
        have hu : ∀ A : Around, A.units + (n + 1) < cLine → A.units < cLine := fun A h => by omega
        cases q with
        | tup m => obtain ⟨a', vs', its', rfl, rl', rv', ht', hz'⟩ := tup_raw I hq; obtain rfl : w = .ref a' := rw'; simp only [eqO] at e; cases e; exact .leaf fun A h => .int_tuple _ _ ht' (hu A h)
        | lst m => obtain ⟨a', vs', its', rfl, rl', rv', ht', hz'⟩ := lst_raw I hq; obtain rfl : w = .ref a' := rw'; simp only [eqO] at e; cases e; exact .leaf fun A h => .int_list _ _ ht' (hu A h)
        | dct m => simp only [eqO] at e; cases e
        | _ => exact absurd ⟨rfl, rfl⟩ c
      | str cb =>
        obtain rfl : x = .str cb := hp
        obtain ⟨tk, rfl⟩ := ru
        have hu : ∀ A : Around, A.units + (n + 1) < cLine → A.units < cLine := fun A h => by omega
        cases q with
        | tup m => obtain ⟨a', vs', its', rfl, rl', rv', ht', hz'⟩ := tup_raw I hq; obtain rfl : w = .ref a' := rw'; simp only [eqO] at e; cases e; exact .leaf fun A h => .str_tuple _ _ ht' (hu A h)
        | lst m => obtain ⟨a', vs', its', rfl, rl', rv', ht', hz'⟩ := lst_raw I hq; obtain rfl : w = .ref a' := rw'; simp only [eqO] at e; cases e; exact .leaf fun A h => .str_list _ _ ht' (hu A h)
        | dct m => simp only [eqO] at e; cases e
        | _ => exact absurd ⟨rfl, rfl⟩ c
end
end Den
set_option Elab.async false
set_option linter.all false
set_option maxRecDepth 100000
set_option maxHeartbeats 4000000
/-! Den7: == and != of pure values. -/
namespace PySem.SeqAt
open AutoSeq1 (wpAny_loadPart')
open MeetsSeq MeetsSeq2 MeetsSeq3
section
variable {prog : Program} {w : World}
/-- t != u, item by item: what stands in front of the place is alike -/
theorem den_tup_ne (l b : Addr) (xs ys : Array Value) (n m : Nat) (d1 d2 : Option Addr) (s1 s2 : Array (Option Value)) (e : Nat → Bool) :
    MeetsIn prog w (Builtin.«tuple.__ne__» ⟨[.ref l, .ref b], []⟩) (fun A R s =>
      s.heap.get? l = some { cls := .type "tuple", dict := d1, data := .seq xs n, slots := s1 } ∧ s.heap.get? b = some { cls := .type "tuple", dict := d2, data := .seq ys m, slots := s2 } ∧
      (∀ j (h1 : j < xs.size) (h2 : j < ys.size), EqIn prog w A.in1 s xs[j] ys[j] (e j)) ∧
      R (.ok (.ret (.bool (!((List.range (min xs.size ys.size)).all e && xs.size == ys.size))))) s) := by
  refine .of_wp fun A R s h => ?_
  obtain ⟨hp, g, d, tk, os⟩ := s
  obtain ⟨hl, hb, he, h⟩ := h
  have f2 := AutoSeq1.sub_tuple_tuple
  have len : (xs.toList.zip ys.toList).length = min xs.size ys.size := by simp
  have at_ : ∀ i x y (rest : List (Value × Value)), (x, y) :: rest = (xs.toList.zip ys.toList).drop i → ∃ (h1 : i < xs.size) (h2 : i < ys.size), x = xs[i] ∧ y = ys[i] ∧ rest = (xs.toList.zip ys.toList).drop (i + 1) := by
    intro i x y rest hz
    have hi : i < (xs.toList.zip ys.toList).length := Nat.lt_of_not_le fun z => by
      rw [List.drop_of_length_le z] at hz
      cases hz
    rw [List.drop_eq_getElem_cons hi] at hz
    injection hz with h1 h2
    have hi' := hi
    rw [len] at hi'
    have q1 := congrArg Prod.fst h1
    have q2 := congrArg Prod.snd h1
    exact ⟨by omega, by omega, by simpa using q1, by simpa using q2, h2⟩
  let done : Nat → Value := fun i => .bool (!(((List.range (min xs.size ys.size)).drop i).all e && xs.size == ys.size))
  wp_walk using wpAny_loadPart' hl, wpAny_loadPart' hb, wpAny_forIn_list _ (fun rest acc s' => acc.1 = none ∧ s' = ⟨hp, g, d, tk, os⟩ ∧ ∃ i, rest = (xs.toList.zip ys.toList).drop i ∧ R (.ok (.ret (done i))) ⟨hp, g, d, tk, os⟩) _
  case h => exact ⟨rfl, rfl, 0, rfl, by simpa [done] using h⟩
  case turn =>
    rintro ⟨x, y⟩ rest acc s' ⟨hacc, rfl, i, hz, hR⟩
    obtain ⟨h1, h2, rfl, rfl, hr⟩ := at_ i x y rest hz
    have hd : (List.range (min xs.size ys.size)).drop i = i :: (List.range (min xs.size ys.size)).drop (i + 1) := by
      have : i < min xs.size ys.size := by omega
      simp [List.drop_eq_getElem_cons, this]
    simp only [done, hd, List.all_cons] at hR
    refine wpAny_bind (he i h1 h2 _ _ ?_)
    by_cases c : e i = true
    · rw [c] at hR ⊢
      wp_walk
      exact ⟨rfl, rfl, i + 1, hr, by simpa [done] using hR⟩
    · rw [Bool.eq_false_iff.mpr c] at hR ⊢
      wp_walk
      exact ⟨_, rfl, by simpa using hR⟩
  case fin =>
    rintro ⟨a1, a2⟩ s' ⟨hacc, rfl, i, hz, hR⟩
    simp only at hacc
    subst hacc
    have hge : min xs.size ys.size ≤ i := Nat.le_of_not_lt fun z => by
      have z' : i < (xs.toList.zip ys.toList).length := by rw [len]; exact z
      rw [List.drop_eq_getElem_cons z'] at hz
      cases hz
    simp only [done] at hR
    rw [List.drop_of_length_le (by simpa using hge)] at hR
    wp_walk
    exact ⟨_, rfl, by simpa [Builtin.Tuple.tupleCompareSizes, bne] using hR⟩
theorem den_list_ne_loop (l b : Addr) (xs ys : Array Value) (n m : Nat) (d1 d2 : Option Addr) (s1 s2 : Array (Option Value)) (hsz : xs.size = ys.size) (e : Nat → Bool) (k : Nat) :
    ∀ i : Nat, xs.size - i = k → MeetsIn prog w (Builtin.«list.__eq__.loop» ⟨[.ref l, .ref b, rawInt i, rawInt 3], []⟩) (fun A R s =>
      s.heap.get? l = some { cls := .type "list", dict := d1, data := .seq xs n, slots := s1 } ∧ s.heap.get? b = some { cls := .type "list", dict := d2, data := .seq ys m, slots := s2 } ∧
      (∀ j (h1 : j < xs.size) (h2 : j < ys.size), EqIn prog w A.in1 s xs[j] ys[j] (e j)) ∧ R (.ok (.ret (.bool (!((List.range xs.size).drop i).all e)))) s) := by
  induction k with
  | zero =>
    intro i hk A R s h
    obtain ⟨hp, g, d, tk, os⟩ := s
    obtain ⟨hl, hb, he, h⟩ := h
    wp_walk using wpAny_loadPart' hl, wpAny_loadPart' hb
    have o1 : xs[((i : Nat) : Int).toNat]? = none := by simp; omega
    have o2 : ys[((i : Nat) : Int).toNat]? = none := by simp; omega
    rw [List.drop_of_length_le (by simp; omega)] at h
    rw [o1, o2]
    wp_walk using wpAny_loadPart' hl, wpAny_loadPart' hb
    show R (.ok (.ret (.bool (xs.size != ys.size)))) _
    rw [hsz]
    simpa using h
  | succ k ih =>
    intro i hk A R s h
    obtain ⟨hp, g, d, tk, os⟩ := s
    obtain ⟨hl, hb, he, h⟩ := h
    wp_walk using wpAny_loadPart' hl, wpAny_loadPart' hb
    have hx : i < xs.size := by omega
    have hy : i < ys.size := by omega
    have o1 : xs[((i : Nat) : Int).toNat]? = some xs[i] := by simp [hx]
    have o2 : ys[((i : Nat) : Int).toNat]? = some ys[i] := by simp [hy]
    have hd : (List.range xs.size).drop i = i :: (List.range xs.size).drop (i + 1) := by simp [List.drop_eq_getElem_cons, hx]
    have cast : ((i : Int) + 1) = ((i + 1 : Nat) : Int) := by push_cast; rfl
    rw [hd, List.all_cons] at h
    rw [o1, o2]
    refine wpAny_bind (he i hx hy _ _ ?_)
    by_cases c : e i = true
    · rw [c] at h ⊢
      wp_walk
      rw [cast]
      refine ⟨plainId_quiet plain_eq_loop _, codeAny_builtin entry_eq_loop ?_⟩
      rw [Around.under_plainId plain_eq_loop _]
      exact ih (i + 1) (by omega) A R _ ⟨hl, hb, he, by simpa using h⟩
    · rw [Bool.eq_false_iff.mpr c] at h ⊢
      wp_walk using wpAny_loadPart' hl, wpAny_loadPart' hb
      rw [o1, o2]
      wp_walk
      simpa using h
theorem den_list_ne (l b : Addr) (xs ys : Array Value) (n m : Nat) (d1 d2 : Option Addr) (s1 s2 : Array (Option Value)) (hsz : xs.size = ys.size) (e : Nat → Bool) :
    MeetsIn prog w (Builtin.«list.__ne__» ⟨[.ref l, .ref b], []⟩) (fun A R s =>
      s.heap.get? l = some { cls := .type "list", dict := d1, data := .seq xs n, slots := s1 } ∧ s.heap.get? b = some { cls := .type "list", dict := d2, data := .seq ys m, slots := s2 } ∧
      (∀ j (h1 : j < xs.size) (h2 : j < ys.size), EqIn prog w A.in1 s xs[j] ys[j] (e j)) ∧ R (.ok (.ret (.bool (!(List.range xs.size).all e)))) s) := by
  intro A R s h
  obtain ⟨hp, g, d, tk, os⟩ := s
  obtain ⟨hl, hb, he, h⟩ := h
  have f3 := AutoSeq1.sub_list_list
  have hne : ¬ (xs.size != ys.size) = true := by simp [hsz]
  wp_walk using wpAny_loadPart' hl, wpAny_loadPart' hb
  refine ⟨plainId_quiet plain_eq_loop _, codeAny_builtin entry_eq_loop ?_⟩
  rw [Around.under_plainId plain_eq_loop _]
  exact den_list_ne_loop l b xs ys n m d1 d2 s1 s2 hsz e _ 0 rfl A R _ ⟨hl, hb, he, by simpa using h⟩
end
section
variable {prog : Program} {w : World} {A : Around} {s : Shared} {E : Value → Shared → Prop}
theorem den_rcne_tup {l b : Addr} {xs ys : Array Value} {e : Nat → Bool} {Q : Value → Shared → Prop} (hl : s.heap.IsTuple l xs) (hb : s.heap.IsTuple b ys) (hu : A.units < cLine)
    (he : ∀ j (h1 : j < xs.size) (h2 : j < ys.size), EqIn prog w A.in1 s xs[j] ys[j] (e j)) (h : Q (.bool (!((List.range (min xs.size ys.size)).all e && xs.size == ys.size))) s) :
    wpAny (model prog w) A (richCompare .NotEq (.ref l) (.ref b)) Q E s := by
  obtain ⟨⟨_, d1, _, s1⟩, o1, rfl, n, rfl⟩ := id hl
  obtain ⟨⟨_, d2, _, s2⟩, o2, rfl, m, rfl⟩ := id hb
  have g := den_tup_ne (prog := prog) (w := w) l b xs ys n m d1 d2 s1 s2 e
  exact wpAny_richCompare_same_room (T := "tuple") (op := .NotEq) ⟨_, o1, rfl⟩ ⟨_, o2, rfl⟩ F.slot_tuple_ne (call_meetsIn F.slot_tuple_ne ⟨_, o1, rfl⟩ F.entry_tuple_ne (F.args_tuple_ne_2 _ _) g ⟨o1, o2, he, (fun x => nomatch x), h⟩) hu
theorem den_rcne_list {l b : Addr} {xs ys : Array Value} {e : Nat → Bool} {Q : Value → Shared → Prop} (hl : s.heap.IsList l xs) (hb : s.heap.IsList b ys) (hsz : xs.size = ys.size) (hu : A.units < cLine)
    (he : ∀ j (h1 : j < xs.size) (h2 : j < ys.size), EqIn prog w A.in1 s xs[j] ys[j] (e j)) (h : Q (.bool (!(List.range xs.size).all e)) s) :
    wpAny (model prog w) A (richCompare .NotEq (.ref l) (.ref b)) Q E s := by
  obtain ⟨⟨_, d1, _, s1⟩, o1, rfl, n, rfl⟩ := id hl
  obtain ⟨⟨_, d2, _, s2⟩, o2, rfl, m, rfl⟩ := id hb
  have g := den_list_ne (prog := prog) (w := w) l b xs ys n m d1 d2 s1 s2 hsz e
  exact wpAny_richCompare_same_room (T := "list") (op := .NotEq) ⟨_, o1, rfl⟩ ⟨_, o2, rfl⟩ F.slot_list_ne (call_meetsIn F.slot_list_ne ⟨_, o1, rfl⟩ F.entry_list_ne (F.args_list_ne_2 _ _) g ⟨o1, o2, he, (fun x => nomatch x), h⟩) hu
end
end PySem.SeqAt
namespace PySem.W
open PySem.SeqAt
theorem den_ne_dict {prog : Program} {w : World} {A : Around} {s : Shared} {E : Value → Shared → Prop} {K : Type} [DecidableEq K] {knd : KeyKind prog w K} {a b : Addr} {ka kb : List (K × Value)} {r : Bool} {Q : Value → Shared → Prop} (ha : (a == sysModules) = false) (hb : (b == sysModules) = false)
    (da : s.heap.DictOf knd a ka) (db : s.heap.DictOf knd b kb) (hu : A.units < cLine) (hits : ka.length = kb.length → KeqHitsIn prog w A.in1 s kb ka r) (h : Q (.bool (!(ka.length == kb.length && r))) s) :
    wpAny (model prog w) A (compareOp .NotEq (.ref a) (.ref b)) Q E s := by
  have slot := PySem.F.slot_dict_ne
  refine wpAny_richCompare_same_room (op := .NotEq) da.typeIs db.typeIs slot (wpAny_call_entry slot da.typeIs PySem.F.entry_dict_ne ?_ (PySem.F.args_dict_ne_2 _ _)) hu
  show wpAny _ _ (Builtin.Dict.dictSlotArgs "__ne__" ⟨[.ref a, .ref b], []⟩ >>= _) _ _ s
  unfold Builtin.Dict.dictSlotArgs
  refine wpAny_bind (wpAny_bind (wpAny_notOrdered_dict da.typeIs (wpAny_pure ?_)))
  refine wpAny_bind (wpAny_isInstance (T := "dict") db.typeIs PySem.F.sub_dict_dict ?_)
  rw [if_neg (by simp)]
  refine wpAny_bind (wpAny_pure (wpAny_bind (wpAny_pure ?_)))
  refine wpAny_bind (keq_samePairsIn ha hb da db hits ?_)
  refine wpAny_pure ⟨_, rfl, (fun x => nomatch x), ?_⟩
  simpa using h
end PySem.W

namespace Den
open PySem L2 PyProof.Rows PySem.SeqAt
section
variable {K : PySem.W.Frag} {T T' : Addr → Prop} {H H' : Hp} {X : Cx} {pins : List (Addr × Obj)} {σ : L2.St} {s : Shared}
theorem rc_scal {A : Around} {n : Nat} {p q : PV} {x y : V} {u w : Value} {b : Bool} (hp : scalP p = true) (hq : scalP q = true) (rx : PRep K T H x p) (ry : PRep K T' H y q) (ru : RelV x u) (rw' : RelV y w) (h : eqO n p q = some b) : RcAt A s u w b := by
  cases p with
  | tup _ => cases hp
  | lst _ => cases hp
  | dct _ => cases hp
  | non =>
    obtain rfl : x = .non := rx; obtain rfl : u = .none := ru
    cases q with
    | tup _ => cases hq
    | lst _ => cases hq
    | dct _ => cases hq
    | non => obtain rfl : y = .non := ry; obtain rfl : w = .none := rw'; simp only [eqO] at h; cases h; exact .none_none
    | bl aq => obtain rfl : y = .bl aq := ry; obtain rfl : w = .bool aq := rw'; simp only [eqO] at h; cases h; exact .none_bool _
    | int aq => obtain rfl : y = .int aq := ry; obtain ⟨_, rfl⟩ := rw'; simp only [eqO] at h; cases h; exact .none_int _ _
    | str aq => obtain rfl : y = .str aq := ry; obtain ⟨_, rfl⟩ := rw'; simp only [eqO] at h; cases h; exact .none_str _ _
  | bl ap =>
    obtain rfl : x = .bl ap := rx; obtain rfl : u = .bool ap := ru
    cases q with
    | tup _ => cases hq
    | lst _ => cases hq
    | dct _ => cases hq
    | non => obtain rfl : y = .non := ry; obtain rfl : w = .none := rw'; simp only [eqO] at h; cases h; exact .bool_none _
    | bl aq => obtain rfl : y = .bl aq := ry; obtain rfl : w = .bool aq := rw'; simp only [eqO] at h; cases h; exact .bool_bool _ _
    | int aq => obtain rfl : y = .int aq := ry; obtain ⟨_, rfl⟩ := rw'; simp only [eqO] at h; cases h; exact .bool_int _ _ _
    | str aq => obtain rfl : y = .str aq := ry; obtain ⟨_, rfl⟩ := rw'; simp only [eqO] at h; cases h; exact .bool_str _ _ _
  | int ap =>
    obtain rfl : x = .int ap := rx; obtain ⟨_, rfl⟩ := ru
    cases q with
    | tup _ => cases hq
    | lst _ => cases hq
    | dct _ => cases hq
    | non => obtain rfl : y = .non := ry; obtain rfl : w = .none := rw'; simp only [eqO] at h; cases h; exact .int_none _ _
    | bl aq => obtain rfl : y = .bl aq := ry; obtain rfl : w = .bool aq := rw'; simp only [eqO] at h; cases h; exact .int_bool _ _ _
    | int aq => obtain rfl : y = .int aq := ry; obtain ⟨_, rfl⟩ := rw'; simp only [eqO] at h; cases h; exact .int_int _ _ _ _
    | str aq => obtain rfl : y = .str aq := ry; obtain ⟨_, rfl⟩ := rw'; simp only [eqO] at h; cases h; exact .int_str _ _ _ _
  | str ap =>
    obtain rfl : x = .str ap := rx; obtain ⟨_, rfl⟩ := ru
    cases q with
    | tup _ => cases hq
    | lst _ => cases hq
    | dct _ => cases hq
    | non => obtain rfl : y = .non := ry; obtain rfl : w = .none := rw'; simp only [eqO] at h; cases h; exact .str_none _ _
    | bl aq => obtain rfl : y = .bl aq := ry; obtain rfl : w = .bool aq := rw'; simp only [eqO] at h; cases h; exact .str_bool _ _ _
    | int aq => obtain rfl : y = .int aq := ry; obtain ⟨_, rfl⟩ := rw'; simp only [eqO] at h; cases h; exact .str_int _ _ _ _
    | str aq => obtain rfl : y = .str aq := ry; obtain ⟨_, rfl⟩ := rw'; simp only [eqO] at h; cases h; exact .str_str _ _ _ _
theorem rcne_scal {A : Around} {n : Nat} {p q : PV} {x y : V} {u w : Value} {b : Bool} (hp : scalP p = true) (hq : scalP q = true) (rx : PRep K T H x p) (ry : PRep K T' H y q) (ru : RelV x u) (rw' : RelV y w) (h : eqO n p q = some b) : RcNeAt A s u w (!b) := by
  cases p with
  | tup _ => cases hp
  | lst _ => cases hp
  | dct _ => cases hp
  | non =>
    obtain rfl : x = .non := rx; obtain rfl : u = .none := ru
    cases q with
    | tup _ => cases hq
    | lst _ => cases hq
    | dct _ => cases hq
    | non => obtain rfl : y = .non := ry; obtain rfl : w = .none := rw'; simp only [eqO] at h; cases h; exact .none_none
    | bl aq => obtain rfl : y = .bl aq := ry; obtain rfl : w = .bool aq := rw'; simp only [eqO] at h; cases h; exact .none_bool _
    | int aq => obtain rfl : y = .int aq := ry; obtain ⟨_, rfl⟩ := rw'; simp only [eqO] at h; cases h; exact .none_int _ _
    | str aq => obtain rfl : y = .str aq := ry; obtain ⟨_, rfl⟩ := rw'; simp only [eqO] at h; cases h; exact .none_str _ _
  | bl ap =>
    obtain rfl : x = .bl ap := rx; obtain rfl : u = .bool ap := ru
    cases q with
    | tup _ => cases hq
    | lst _ => cases hq
    | dct _ => cases hq
    | non => obtain rfl : y = .non := ry; obtain rfl : w = .none := rw'; simp only [eqO] at h; cases h; exact .bool_none _
    | bl aq => obtain rfl : y = .bl aq := ry; obtain rfl : w = .bool aq := rw'; simp only [eqO] at h; cases h; exact .bool_bool _ _
    | int aq => obtain rfl : y = .int aq := ry; obtain ⟨_, rfl⟩ := rw'; simp only [eqO] at h; cases h; exact .bool_int _ _ _
    | str aq => obtain rfl : y = .str aq := ry; obtain ⟨_, rfl⟩ := rw'; simp only [eqO] at h; cases h; exact .bool_str _ _ _
  | int ap =>
    obtain rfl : x = .int ap := rx; obtain ⟨_, rfl⟩ := ru
    cases q with
    | tup _ => cases hq
    | lst _ => cases hq
    | dct _ => cases hq
    | non => obtain rfl : y = .non := ry; obtain rfl : w = .none := rw'; simp only [eqO] at h; cases h; exact .int_none _ _
    | bl aq => obtain rfl : y = .bl aq := ry; obtain rfl : w = .bool aq := rw'; simp only [eqO] at h; cases h; exact .int_bool _ _ _
    | int aq => obtain rfl : y = .int aq := ry; obtain ⟨_, rfl⟩ := rw'; simp only [eqO] at h; cases h; exact .int_int _ _ _ _
    | str aq => obtain rfl : y = .str aq := ry; obtain ⟨_, rfl⟩ := rw'; simp only [eqO] at h; cases h; exact .int_str _ _ _ _
  | str ap =>
    obtain rfl : x = .str ap := rx; obtain ⟨_, rfl⟩ := ru
    cases q with
    | tup _ => cases hq
    | lst _ => cases hq
    | dct _ => cases hq
    | non => obtain rfl : y = .non := ry; obtain rfl : w = .none := rw'; simp only [eqO] at h; cases h; exact .str_none _ _
    | bl aq => obtain rfl : y = .bl aq := ry; obtain rfl : w = .bool aq := rw'; simp only [eqO] at h; cases h; exact .str_bool _ _ _
    | int aq => obtain rfl : y = .int aq := ry; obtain ⟨_, rfl⟩ := rw'; simp only [eqO] at h; cases h; exact .str_int _ _ _ _
    | str aq => obtain rfl : y = .str aq := ry; obtain ⟨_, rfl⟩ := rw'; simp only [eqO] at h; cases h; exact .str_str _ _ _ _
/-- the entries of two dicts compared -/
theorem dict_hits {P : Program} {w : World} {n : Nat} {kvs kvs' : List (Key × V)} {rs rs' : List (Key × Value)} {l m : List (PV × PV)} {cc : Bool} {a : Addr} (rk : RepK K T H kvs l) (rk' : RepK K T' H kvs' m) (kv : KV kvs rs) (kv' : KV kvs' rs') (dd : s.heap.DictOf (mixKind P w) a rs)
    (e1 : eqO.eqd (eqO n) l m = some cc) {R : Value → Value → Bool → Prop} (tree : ∀ (v y : Value) (p q : PV) (x z : V) (b : Bool), Rep K T H x p → Rep K T' H z q → RelV x v → RelV z y → eqO n p q = some b → R v y b) :
    ∃ f : Key → Bool, (∀ k v y, (k, v) ∈ rs → valueAt rs' k = some y → R v y (f k)) ∧ (rs.all fun p => (valueAt rs' p.1).isSome && f p.1) = cc := by
  obtain ⟨hf, hcc⟩ := eqd_all e1
  have nd : (kvs.map (·.1)).Nodup := by
    rw [kv.keys]
    obtain ⟨_, _, _, _, _, _, _, _, nd⟩ := dd
    exact nd
  let f : Key → Bool := fun k => match dget l (keyPV k), dget m (keyPV k) with
    | some p, some q => (eqO n p q).getD false
    | _, _ => false
  refine ⟨f, fun k v y hm hv => ?_, ?_⟩
  · obtain ⟨i, hi⟩ := List.getElem?_of_mem hm
    have hik : i < kvs.length := by rw [kv.length]; exact (List.getElem?_eq_some_iff.mp hi).1
    have hil : i < l.length := by rw [← rk.1]; exact hik
    have e0 : kvs[i]? = some kvs[i] := List.getElem?_eq_getElem hik
    have el : l[i]? = some l[i] := List.getElem?_eq_getElem hil
    have pk := rk.2.1 i _ _ e0 el
    have pv := rk.2.2 i _ _ e0 el
    obtain ⟨kx, vx⟩ : kvs[i].1 = k ∧ RelV kvs[i].2 v := by
      obtain ⟨u', hu', ru'⟩ := kv_get kv e0
      rw [hi] at hu'
      cases hu'
      exact ru'
    rw [kx] at pk
    have g1 := dget_self rk nd i _ el
    rw [pk] at g1
    have r2 := kv'.val k
    rw [hv] at r2
    rcases rk'.get k with ⟨g2, _⟩ | ⟨v2, p2, g2, g3, rp2⟩
    · rw [g2] at r2; exact r2.elim
    · rw [g2] at r2
      have r2' : RelV v2 y := r2
      obtain ⟨b2, hb2⟩ := hf _ (List.mem_of_getElem? el) p2 (by rw [pk]; exact g3)
      have : f k = b2 := by simp only [f, g1, g3, hb2, Option.getD_some]
      rw [this]
      exact tree v y _ _ _ _ _ pv rp2 vx r2' hb2
  · rw [hcc]
    have e1 : (rs.all fun p => (valueAt rs' p.1).isSome && f p.1) = (kvs.all fun p => (valV kvs' p.1).isSome && f p.1) := by
      have e2 : ∀ k, (valueAt rs' k).isSome = (valV kvs' k).isSome := fun k => by
        have := kv'.val k
        cases h1 : valV kvs' k <;> cases h2 : valueAt rs' k <;> rw [h1, h2] at this <;> first | rfl | exact this.elim
      have e3 : (rs.map (·.1)).all (fun k => (valueAt rs' k).isSome && f k) = (kvs.map (·.1)).all (fun k => (valV kvs' k).isSome && f k) := by
        rw [← kv.keys]
        congr 1
        funext k
        rw [e2]
      rw [List.all_map, List.all_map] at e3
      exact e3
    rw [e1, Bool.eq_iff_iff, List.all_eq_true, List.all_eq_true]
    have key : ∀ (i : Nat) kvx q, kvs[i]? = some kvx → l[i]? = some q → ((valV kvs' kvx.1).isSome && f kvx.1) = (match dget m q.1 with | some r => (eqO n q.2 r).getD false | none => false) := fun i kvx q h1 h2 => by
      have pk := rk.2.1 i _ _ h1 h2
      have g1 := dget_self rk nd i _ h2
      rw [pk] at g1
      rw [pk]
      rcases rk'.get kvx.1 with ⟨g2, g3⟩ | ⟨v2, p2, g2, g3, rp2⟩
      · rw [g2, g3]; rfl
      · rw [g2, g3]
        simp only [f, g1, g3, Option.isSome_some, Bool.true_and]
    constructor
    · intro h q hq
      obtain ⟨i, hi⟩ := List.getElem?_of_mem hq
      have hik : i < kvs.length := by rw [rk.1]; exact (List.getElem?_eq_some_iff.mp hi).1
      exact (key i _ q (List.getElem?_eq_getElem hik) hi).symm.trans (h _ (List.getElem_mem hik))
    · intro h q hq
      obtain ⟨i, hi⟩ := List.getElem?_of_mem hq
      have hil : i < l.length := by rw [← rk.1]; exact (List.getElem?_eq_some_iff.mp hi).1
      exact (key i q _ hi (List.getElem?_eq_getElem hil)).trans (h _ (List.getElem_mem hil))
open PySem.W in
theorem rc_eq (I : Inv X pins σ H s) {A : Around} {n : Nat} (hn : A.units + (n + 1) < cLine) {p q : PV} {x y : V} {u w : Value} {b : Bool} (hp : PRep K T H x p) (hq : PRep K T' H y q) (ru : RelV x u) (rw' : RelV y w) (e : eqO (n + 1) p q = some b)
    {E Q : Value → Shared → Prop} (h : Q (.bool b) s) : wpAny (model X.prog X.w) A (compareOp .Eq u w) Q E s := by
  have hu : A.units < cLine := by omega
  have go : RcAt A s u w b → wpAny (model X.prog X.w) A (compareOp .Eq u w) Q E s := fun z => z X.prog X.w E Q h
  by_cases c : scalP p = true ∧ scalP q = true
  · exact go (rc_scal c.1 c.2 hp hq ru rw' e)
  · cases p with
    | tup l =>
      obtain ⟨a, vs, its, rfl, rl, rv, ht, hz⟩ := tup_raw I hp
      obtain rfl : u = .ref a := ru
      cases q with
      | tup m =>
        obtain ⟨a', vs', its', rfl, rl', rv', ht', hz'⟩ := tup_raw I hq
        obtain rfl : w = .ref a' := rw'
        have s1 : its.toArray.size = l.length := by rw [List.size_toArray, ← rv.length, rl.1]
        have s2 : its'.toArray.size = m.length := by rw [List.size_toArray, ← rv'.length, rl'.1]
        simp only [eqO] at e
        cases e1 : eqO.eqs (eqO n) l m with
        | none => rw [e1] at e; cases e
        | some cc =>
          rw [e1] at e
          simp only [Option.map_some, Option.some.injEq] at e
          obtain ⟨f, rfl, hf⟩ := eqs_range e1
          refine rcIn_tuples (e := f) ht ht' hu (fun j h1 h2 => by
            obtain ⟨v, p, _, hpj, rp, rr⟩ := vals_get rv rl h1
            obtain ⟨v', p', _, hpj', rp', rr'⟩ := vals_get rv' rl' h2
            exact (eq_tree I n rp.pr rp'.pr rr rr' (hf j p p' hpj hpj')).at A.in1 (by show A.units + 1 + n < cLine; omega)) ?_
          rw [s1, s2, e]
          exact h
      | lst m =>
        obtain ⟨a', vs', its', rfl, rl', rv', ht', hz'⟩ := lst_raw I hq
        obtain rfl : w = .ref a' := rw'
        simp only [eqO] at e; cases e; exact go (.tuple_list ht ht' hu)
      | dct m => simp only [eqO] at e; cases e
      | non => obtain rfl : y = .non := hq; obtain rfl : w = .none := rw'; simp only [eqO] at e; cases e; exact go (.tuple_none ht hu)
      | bl aq => obtain rfl : y = .bl aq := hq; obtain rfl : w = .bool aq := rw'; simp only [eqO] at e; cases e; exact go (.tuple_bool _ ht hu)
      | int aq => obtain rfl : y = .int aq := hq; obtain ⟨_, rfl⟩ := rw'; simp only [eqO] at e; cases e; exact go (.tuple_int _ _ ht hu)
      | str aq => obtain rfl : y = .str aq := hq; obtain ⟨_, rfl⟩ := rw'; simp only [eqO] at e; cases e; exact go (.tuple_str _ _ ht hu)
    | lst l =>
      obtain ⟨a, vs, its, rfl, rl, rv, ht, hz⟩ := lst_raw I hp
      obtain rfl : u = .ref a := ru
      cases q with
      | lst m =>
        obtain ⟨a', vs', its', rfl, rl', rv', ht', hz'⟩ := lst_raw I hq
        obtain rfl : w = .ref a' := rw'
        have s1 : its.toArray.size = l.length := by rw [List.size_toArray, ← rv.length, rl.1]
        have s2 : its'.toArray.size = m.length := by rw [List.size_toArray, ← rv'.length, rl'.1]
        simp only [eqO] at e
        split at e
        · rename_i hlm
          obtain ⟨f, hc, hf⟩ := eqs_range e
          refine rcIn_lists (e := f) ht ht' (by rw [s1, s2, hlm]) hu (fun j h1 h2 => by
            obtain ⟨v, p, _, hpj, rp, rr⟩ := vals_get rv rl h1
            obtain ⟨v', p', _, hpj', rp', rr'⟩ := vals_get rv' rl' h2
            exact (eq_tree I n rp.pr rp'.pr rr rr' (hf j p p' hpj hpj')).at A.in1 (by show A.units + 1 + n < cLine; omega)) ?_
          rw [hlm, Nat.min_self] at hc
          rw [s1, hlm, ← hc]
          exact h
        · rename_i hlm
          cases e
          exact go (.lists_lengths ht ht' (by rw [s1, s2]; simpa using hlm) hu)
      | tup m =>
        obtain ⟨a', vs', its', rfl, rl', rv', ht', hz'⟩ := tup_raw I hq
        obtain rfl : w = .ref a' := rw'
        simp only [eqO] at e; cases e; exact go (.list_tuple ht ht' hu)
      | dct m => simp only [eqO] at e; cases e
      | non => obtain rfl : y = .non := hq; obtain rfl : w = .none := rw'; simp only [eqO] at e; cases e; exact go (.list_none ht hu)
      | bl aq => obtain rfl : y = .bl aq := hq; obtain rfl : w = .bool aq := rw'; simp only [eqO] at e; cases e; exact go (.list_bool _ ht hu)
      | int aq => obtain rfl : y = .int aq := hq; obtain ⟨_, rfl⟩ := rw'; simp only [eqO] at e; cases e; exact go (.list_int _ _ ht hu)
      | str aq => obtain rfl : y = .str aq := hq; obtain ⟨_, rfl⟩ := rw'; simp only [eqO] at e; cases e; exact go (.list_str _ _ ht hu)
    | dct l =>
      cases q with
      | dct m =>
        simp only [eqO] at e
        split at e
        · rename_i hk
          rw [Bool.and_eq_true] at hk
          obtain ⟨a, kvs, rs, rfl, rk, hd, kv, dd⟩ := dct_raw I hp hk.1
          obtain ⟨a', kvs', rs', rfl, rk', hd', kv', dd'⟩ := dct_raw I hq hk.2
          obtain rfl : u = .ref a := ru
          obtain rfl : w = .ref a' := rw'
          cases e1 : eqO.eqd (eqO n) l m with
          | none => rw [e1] at e; cases e
          | some cc =>
            rw [e1] at e
            simp only [Option.map_some, Option.some.injEq] at e
            obtain ⟨f, hf, hall⟩ := dict_hits (n := n) (R := fun v y b => EqTree X.prog X.w s n v y b) rk rk' kv kv' dd e1 (fun v y p q x z b pv rp2 vx r2' hb2 => eq_tree I n pv.pr rp2.pr vx r2' hb2)
            refine keq_eqIn (r := cc) hd hd' dd dd' hu (fun _ => ?_) ?_
            · rw [← hall]
              exact KeqHitsIn.of _ fun k v y hm hv => (hf k v y hm hv).at A.in1 (by show A.units + 1 + n < cLine; omega)
            · rw [← kv.length, ← kv'.length, rk.1, rk'.1, e]
              exact h
        · cases e
      | tup _ => simp only [eqO] at e; cases e
      | lst _ => simp only [eqO] at e; cases e
      | non => simp only [eqO] at e; cases e
      | bl _ => simp only [eqO] at e; cases e
      | int _ => simp only [eqO] at e; cases e
      | str _ => simp only [eqO] at e; cases e
    | non =>
      obtain rfl : x = .non := hp; obtain rfl : u = .none := ru
      cases q with
      | tup m => obtain ⟨a', vs', its', rfl, rl', rv', ht', hz'⟩ := tup_raw I hq; obtain rfl : w = .ref a' := rw'; simp only [eqO] at e; cases e; exact go (.none_tuple ht' hu)
      | lst m => obtain ⟨a', vs', its', rfl, rl', rv', ht', hz'⟩ := lst_raw I hq; obtain rfl : w = .ref a' := rw'; simp only [eqO] at e; cases e; exact go (.none_list ht' hu)
      | dct m => simp only [eqO] at e; cases e
      | _ => exact absurd ⟨rfl, rfl⟩ c
    | bl ap =>
      obtain rfl : x = .bl ap := hp; obtain rfl : u = .bool ap := ru
      cases q with
      | tup m => obtain ⟨a', vs', its', rfl, rl', rv', ht', hz'⟩ := tup_raw I hq; obtain rfl : w = .ref a' := rw'; simp only [eqO] at e; cases e; exact go (.bool_tuple _ ht' hu)
      | lst m => obtain ⟨a', vs', its', rfl, rl', rv', ht', hz'⟩ := lst_raw I hq; obtain rfl : w = .ref a' := rw'; simp only [eqO] at e; cases e; exact go (.bool_list _ ht' hu)
      | dct m => simp only [eqO] at e; cases e
      | _ => exact absurd ⟨rfl, rfl⟩ c
    | int ap =>
      obtain rfl : x = .int ap := hp; obtain ⟨_, rfl⟩ := ru
      cases q with
      | tup m => obtain ⟨a', vs', its', rfl, rl', rv', ht', hz'⟩ := tup_raw I hq; obtain rfl : w = .ref a' := rw'; simp only [eqO] at e; cases e; exact go (.int_tuple _ _ ht' hu)
      | lst m => obtain ⟨a', vs', its', rfl, rl', rv', ht', hz'⟩ := lst_raw I hq; obtain rfl : w = .ref a' := rw'; simp only [eqO] at e; cases e; exact go (.int_list _ _ ht' hu)
      | dct m => simp only [eqO] at e; cases e
      | _ => exact absurd ⟨rfl, rfl⟩ c
    | str ap =>
      obtain rfl : x = .str ap := hp; obtain ⟨_, rfl⟩ := ru
      cases q with
      | tup m => obtain ⟨a', vs', its', rfl, rl', rv', ht', hz'⟩ := tup_raw I hq; obtain rfl : w = .ref a' := rw'; simp only [eqO] at e; cases e; exact go (.str_tuple _ _ ht' hu)
      | lst m => obtain ⟨a', vs', its', rfl, rl', rv', ht', hz'⟩ := lst_raw I hq; obtain rfl : w = .ref a' := rw'; simp only [eqO] at e; cases e; exact go (.str_list _ _ ht' hu)
      | dct m => simp only [eqO] at e; cases e
      | _ => exact absurd ⟨rfl, rfl⟩ c
open PySem.W in
theorem rc_ne (I : Inv X pins σ H s) {A : Around} {n : Nat} (hn : A.units + (n + 1) < cLine) {p q : PV} {x y : V} {u w : Value} {b : Bool} (hp : PRep K T H x p) (hq : PRep K T' H y q) (ru : RelV x u) (rw' : RelV y w) (e : eqO (n + 1) p q = some b)
    {E Q : Value → Shared → Prop} (h : Q (.bool (!b)) s) : wpAny (model X.prog X.w) A (compareOp .NotEq u w) Q E s := by
  have hu : A.units < cLine := by omega
  have go : RcNeAt A s u w (!b) → wpAny (model X.prog X.w) A (compareOp .NotEq u w) Q E s := fun z => z X.prog X.w E Q h
  by_cases c : scalP p = true ∧ scalP q = true
  · exact go (rcne_scal c.1 c.2 hp hq ru rw' e)
  · cases p with
    | tup l =>
      obtain ⟨a, vs, its, rfl, rl, rv, ht, hz⟩ := tup_raw I hp
      obtain rfl : u = .ref a := ru
      cases q with
      | tup m =>
        obtain ⟨a', vs', its', rfl, rl', rv', ht', hz'⟩ := tup_raw I hq
        obtain rfl : w = .ref a' := rw'
        have s1 : its.toArray.size = l.length := by rw [List.size_toArray, ← rv.length, rl.1]
        have s2 : its'.toArray.size = m.length := by rw [List.size_toArray, ← rv'.length, rl'.1]
        simp only [eqO] at e
        cases e1 : eqO.eqs (eqO n) l m with
        | none => rw [e1] at e; cases e
        | some cc =>
          rw [e1] at e
          simp only [Option.map_some, Option.some.injEq] at e
          obtain ⟨f, rfl, hf⟩ := eqs_range e1
          refine den_rcne_tup (e := f) ht ht' hu (fun j h1 h2 => by
            obtain ⟨v, p, _, hpj, rp, rr⟩ := vals_get rv rl h1
            obtain ⟨v', p', _, hpj', rp', rr'⟩ := vals_get rv' rl' h2
            exact (eq_tree I n rp.pr rp'.pr rr rr' (hf j p p' hpj hpj')).at A.in1 (by show A.units + 1 + n < cLine; omega)) ?_
          rw [s1, s2, e]
          exact h
      | lst m =>
        obtain ⟨a', vs', its', rfl, rl', rv', ht', hz'⟩ := lst_raw I hq
        obtain rfl : w = .ref a' := rw'
        simp only [eqO] at e; cases e; exact go (.tuple_list ht ht' hu)
      | dct m => simp only [eqO] at e; cases e
      | non => obtain rfl : y = .non := hq; obtain rfl : w = .none := rw'; simp only [eqO] at e; cases e; exact go (.tuple_none ht hu)
      | bl aq => obtain rfl : y = .bl aq := hq; obtain rfl : w = .bool aq := rw'; simp only [eqO] at e; cases e; exact go (.tuple_bool _ ht hu)
      | int aq => obtain rfl : y = .int aq := hq; obtain ⟨_, rfl⟩ := rw'; simp only [eqO] at e; cases e; exact go (.tuple_int _ _ ht hu)
      | str aq => obtain rfl : y = .str aq := hq; obtain ⟨_, rfl⟩ := rw'; simp only [eqO] at e; cases e; exact go (.tuple_str _ _ ht hu)
    | lst l =>
      obtain ⟨a, vs, its, rfl, rl, rv, ht, hz⟩ := lst_raw I hp
      obtain rfl : u = .ref a := ru
      cases q with
      | lst m =>
        obtain ⟨a', vs', its', rfl, rl', rv', ht', hz'⟩ := lst_raw I hq
        obtain rfl : w = .ref a' := rw'
        have s1 : its.toArray.size = l.length := by rw [List.size_toArray, ← rv.length, rl.1]
        have s2 : its'.toArray.size = m.length := by rw [List.size_toArray, ← rv'.length, rl'.1]
        simp only [eqO] at e
        split at e
        · rename_i hlm
          obtain ⟨f, hc, hf⟩ := eqs_range e
          refine den_rcne_list (e := f) ht ht' (by rw [s1, s2, hlm]) hu (fun j h1 h2 => by
            obtain ⟨v, p, _, hpj, rp, rr⟩ := vals_get rv rl h1
            obtain ⟨v', p', _, hpj', rp', rr'⟩ := vals_get rv' rl' h2
            exact (eq_tree I n rp.pr rp'.pr rr rr' (hf j p p' hpj hpj')).at A.in1 (by show A.units + 1 + n < cLine; omega)) ?_
          rw [hlm, Nat.min_self] at hc
          rw [s1, hlm, ← hc]
          exact h
        · rename_i hlm
          cases e
          exact go (.lists_lengths ht ht' (by rw [s1, s2]; simpa using hlm) hu)
      | tup m =>
        obtain ⟨a', vs', its', rfl, rl', rv', ht', hz'⟩ := tup_raw I hq
        obtain rfl : w = .ref a' := rw'
        simp only [eqO] at e; cases e; exact go (.list_tuple ht ht' hu)
      | dct m => simp only [eqO] at e; cases e
      | non => obtain rfl : y = .non := hq; obtain rfl : w = .none := rw'; simp only [eqO] at e; cases e; exact go (.list_none ht hu)
      | bl aq => obtain rfl : y = .bl aq := hq; obtain rfl : w = .bool aq := rw'; simp only [eqO] at e; cases e; exact go (.list_bool _ ht hu)
      | int aq => obtain rfl : y = .int aq := hq; obtain ⟨_, rfl⟩ := rw'; simp only [eqO] at e; cases e; exact go (.list_int _ _ ht hu)
      | str aq => obtain rfl : y = .str aq := hq; obtain ⟨_, rfl⟩ := rw'; simp only [eqO] at e; cases e; exact go (.list_str _ _ ht hu)
    | dct l =>
      cases q with
      | dct m =>
        simp only [eqO] at e
        split at e
        · rename_i hk
          rw [Bool.and_eq_true] at hk
          obtain ⟨a, kvs, rs, rfl, rk, hd, kv, dd⟩ := dct_raw I hp hk.1
          obtain ⟨a', kvs', rs', rfl, rk', hd', kv', dd'⟩ := dct_raw I hq hk.2
          obtain rfl : u = .ref a := ru
          obtain rfl : w = .ref a' := rw'
          cases e1 : eqO.eqd (eqO n) l m with
          | none => rw [e1] at e; cases e
          | some cc =>
            rw [e1] at e
            simp only [Option.map_some, Option.some.injEq] at e
            obtain ⟨f, hf, hall⟩ := dict_hits (n := n) (R := fun v y b => EqTree X.prog X.w s n v y b) rk rk' kv kv' dd e1 (fun v y p q x z b pv rp2 vx r2' hb2 => eq_tree I n pv.pr rp2.pr vx r2' hb2)
            refine den_ne_dict (r := cc) hd hd' dd dd' hu (fun _ => ?_) ?_
            · rw [← hall]
              exact KeqHitsIn.of _ fun k v y hm hv => (hf k v y hm hv).at A.in1 (by show A.units + 1 + n < cLine; omega)
            · rw [← kv.length, ← kv'.length, rk.1, rk'.1, e]
              exact h
        · cases e
      | tup _ => simp only [eqO] at e; cases e
      | lst _ => simp only [eqO] at e; cases e
      | non => simp only [eqO] at e; cases e
      | bl _ => simp only [eqO] at e; cases e
      | int _ => simp only [eqO] at e; cases e
      | str _ => simp only [eqO] at e; cases e
    | non =>
      obtain rfl : x = .non := hp; obtain rfl : u = .none := ru
      cases q with
      | tup m => obtain ⟨a', vs', its', rfl, rl', rv', ht', hz'⟩ := tup_raw I hq; obtain rfl : w = .ref a' := rw'; simp only [eqO] at e; cases e; exact go (.none_tuple ht' hu)
      | lst m => obtain ⟨a', vs', its', rfl, rl', rv', ht', hz'⟩ := lst_raw I hq; obtain rfl : w = .ref a' := rw'; simp only [eqO] at e; cases e; exact go (.none_list ht' hu)
      | dct m => simp only [eqO] at e; cases e
      | _ => exact absurd ⟨rfl, rfl⟩ c
    | bl ap =>
      obtain rfl : x = .bl ap := hp; obtain rfl : u = .bool ap := ru
      cases q with
      | tup m => obtain ⟨a', vs', its', rfl, rl', rv', ht', hz'⟩ := tup_raw I hq; obtain rfl : w = .ref a' := rw'; simp only [eqO] at e; cases e; exact go (.bool_tuple _ ht' hu)
      | lst m => obtain ⟨a', vs', its', rfl, rl', rv', ht', hz'⟩ := lst_raw I hq; obtain rfl : w = .ref a' := rw'; simp only [eqO] at e; cases e; exact go (.bool_list _ ht' hu)
      | dct m => simp only [eqO] at e; cases e
      | _ => exact absurd ⟨rfl, rfl⟩ c
    | int ap =>
      obtain rfl : x = .int ap := hp; obtain ⟨_, rfl⟩ := ru
      cases q with
      | tup m => obtain ⟨a', vs', its', rfl, rl', rv', ht', hz'⟩ := tup_raw I hq; obtain rfl : w = .ref a' := rw'; simp only [eqO] at e; cases e; exact go (.int_tuple _ _ ht' hu)
      | lst m => obtain ⟨a', vs', its', rfl, rl', rv', ht', hz'⟩ := lst_raw I hq; obtain rfl : w = .ref a' := rw'; simp only [eqO] at e; cases e; exact go (.int_list _ _ ht' hu)
      | dct m => simp only [eqO] at e; cases e
      | _ => exact absurd ⟨rfl, rfl⟩ c
    | str ap =>
      obtain rfl : x = .str ap := hp; obtain ⟨_, rfl⟩ := ru
      cases q with
      | tup m => obtain ⟨a', vs', its', rfl, rl', rv', ht', hz'⟩ := tup_raw I hq; obtain rfl : w = .ref a' := rw'; simp only [eqO] at e; cases e; exact go (.str_tuple _ _ ht' hu)
      | lst m => obtain ⟨a', vs', its', rfl, rl', rv', ht', hz'⟩ := lst_raw I hq; obtain rfl : w = .ref a' := rw'; simp only [eqO] at e; cases e; exact go (.str_list _ _ ht' hu)
      | dct m => simp only [eqO] at e; cases e
      | _ => exact absurd ⟨rfl, rfl⟩ c
def eqP : List PV → Option RV
  | [p, q] => (eqO 40 p q).map fun b => .val (.bl b)
  | _ => none
def neP : List PV → Option RV
  | [p, q] => (eqO 40 p q).map fun b => .val (.bl (!b))
  | _ => none
theorem op_eqP {k : Nat} (hr : Room k X.A) : OpR X (compareOp .Eq) (rP2 X.K eqP) := by
  intro pins s σ H x y v u Q I rx ry h
  obtain ⟨T, ps, rv, t, hp, hg, q⟩ := h
  unfold eqP at hg
  split at hg
  · rename_i p q'
    obtain ⟨h1, h2, _⟩ := hp
    cases e : eqO 40 p q' with
    | none => rw [e] at hg; cases hg
    | some b =>
      rw [e] at hg
      cases hg
      exact rc_eq I (n := 39) (by have := hr.units; omega) h1 h2 rx ry e ⟨.bl b, H, I, rfl, q _ H (fun _ _ e => e) (.bl _)⟩
  · cases hg
theorem op_neP {k : Nat} (hr : Room k X.A) : OpR X (compareOp .NotEq) (rP2 X.K neP) := by
  intro pins s σ H x y v u Q I rx ry h
  obtain ⟨T, ps, rv, t, hp, hg, q⟩ := h
  unfold neP at hg
  split at hg
  · rename_i p q'
    obtain ⟨h1, h2, _⟩ := hp
    cases e : eqO 40 p q' with
    | none => rw [e] at hg; cases hg
    | some b =>
      rw [e] at hg
      cases hg
      exact rc_ne I (n := 39) (by have := hr.units; omega) h1 h2 rx ry e ⟨.bl (!b), H, I, rfl, q _ H (fun _ _ e => e) (.bl _)⟩
  · cases hg
end
end Den
set_option Elab.async false
set_option linter.all false
set_option maxRecDepth 100000
set_option maxHeartbeats 4000000
/-! Den8: equality of data without dicts in any model; in, not in. -/
namespace Den
open PySem L2 PyProof.Rows PySem.SeqAt
mutual
def dfree : PV → Bool
  | .tup l => dfreeL l
  | .lst l => dfreeL l
  | .dct _ => false
  | _ => true
def dfreeL : List PV → Bool
  | [] => true
  | p :: l => dfree p && dfreeL l
end
theorem dfreeL_mem : ∀ {l : List PV}, dfreeL l = true → ∀ p ∈ l, dfree p = true
  | [], _, p, h => by simp at h
  | q :: l, h, p, hp => by
    simp only [dfreeL, Bool.and_eq_true] at h
    rcases List.mem_cons.mp hp with rfl | hp
    · exact h.1
    · exact dfreeL_mem h.2 p hp
section
variable {K : PySem.W.Frag} {T T' : Addr → Prop} {H H' : Hp} {X : Cx} {pins : List (Addr × Obj)} {σ : L2.St} {s : Shared}

theorem eq_at (I : Inv X pins σ H s) : ∀ (n : Nat) {p q : PV} {x y : V} {u w : Value} {b : Bool}, dfree p = true → PRep K T H x p → PRep K T' H y q → RelV x u → RelV y w → eqO n p q = some b → ∀ A : Around, A.units + n < cLine → EqAt A s u w b := by
  intro n
  induction n with
  | zero =>
    intro p q x y u w b _ hp hq ru rw' e A _
    by_cases c : scalP p = true ∧ scalP q = true
    · exact eq_scal c.1 c.2 hp hq ru rw' e
    · cases p <;> cases q <;> simp [scalP] at c <;> simp [eqO] at e
  | succ n ih =>
    intro p q x y u w b dp hp hq ru rw' e A hA
    have hu : A.units < cLine := by omega
    by_cases c : scalP p = true ∧ scalP q = true
    · exact eq_scal c.1 c.2 hp hq ru rw' e
    · cases p with
      | dct l => cases dp
      | tup l =>
        obtain ⟨a, vs, its, rfl, rl, rv, ht, hz⟩ := tup_raw I hp
        obtain rfl : u = .ref a := ru
        cases q with
        | tup m =>
          obtain ⟨a', vs', its', rfl, rl', rv', ht', hz'⟩ := tup_raw I hq
          obtain rfl : w = .ref a' := rw'
          by_cases haa : a = a'
          · subst haa
            obtain ⟨a1, vs1, e1, h1, r1⟩ := hp
            obtain ⟨a2, vs2, e2, h2, r2⟩ := hq
            cases e1; cases e2
            rw [h1] at h2
            cases h2
            have := r1.fn r2
            subst this
            have : b = true := eq_self I (n + 1) (p := .tup l) (x := .ref a) ⟨a, vs1, rfl, h1, r1⟩ e
            subst this
            exact .same _
          have s1 : its.toArray.size = l.length := by rw [List.size_toArray, ← rv.length, rl.1]
          have s2 : its'.toArray.size = m.length := by rw [List.size_toArray, ← rv'.length, rl'.1]
          simp only [eqO] at e
          have dl := dfreeL_mem (show dfreeL l = true from dp)
          cases e1 : eqO.eqs (eqO n) l m with
          | none => rw [e1] at e; cases e
          | some cc =>
            rw [e1] at e
            simp only [Option.map_some, Option.some.injEq] at e
            obtain ⟨f, rfl, hf⟩ := eqs_range e1
            have t := RcAt.tuples (e := f) ht ht' hu (fun j h1 h2 => by
              obtain ⟨v, p, _, hpj, rp, rr⟩ := vals_get rv rl h1
              obtain ⟨v', p', _, hpj', rp', rr'⟩ := vals_get rv' rl' h2
              exact ih (dl p (List.mem_of_getElem? hpj)) rp.pr rp'.pr rr rr' (hf j p p' hpj hpj') A.in1 (by show A.units + 1 + n < cLine; omega))
            rw [s1, s2, e] at t
            exact .of_refs haa t
        | lst m =>
          obtain ⟨a', vs', its', rfl, rl', rv', ht', hz'⟩ := lst_raw I hq
          obtain rfl : w = .ref a' := rw'
          simp only [eqO] at e; cases e; exact .tuple_list ht ht' hu
        | dct m => simp only [eqO] at e; cases e
        | non => obtain rfl : y = .non := hq; obtain rfl : w = .none := rw'; simp only [eqO] at e; cases e; exact .tuple_none ht hu
        | bl aq => obtain rfl : y = .bl aq := hq; obtain rfl : w = .bool aq := rw'; simp only [eqO] at e; cases e; exact .tuple_bool _ ht hu
        | int aq => obtain rfl : y = .int aq := hq; obtain ⟨_, rfl⟩ := rw'; simp only [eqO] at e; cases e; exact .tuple_int _ _ ht hu
        | str aq => obtain rfl : y = .str aq := hq; obtain ⟨_, rfl⟩ := rw'; simp only [eqO] at e; cases e; exact .tuple_str _ _ ht hu
      | lst l =>
        obtain ⟨a, vs, its, rfl, rl, rv, ht, hz⟩ := lst_raw I hp
        obtain rfl : u = .ref a := ru
        cases q with
        | lst m =>
          obtain ⟨a', vs', its', rfl, rl', rv', ht', hz'⟩ := lst_raw I hq
          obtain rfl : w = .ref a' := rw'
          by_cases haa : a = a'
          · subst haa
            obtain ⟨a1, vs1, e1, h1, r1⟩ := hp
            obtain ⟨a2, vs2, e2, h2, r2⟩ := hq
            cases e1; cases e2
            rw [h1] at h2
            cases h2
            have := r1.fn r2
            subst this
            have : b = true := eq_self I (n + 1) (p := .lst l) (x := .ref a) ⟨a, vs1, rfl, h1, r1⟩ e
            subst this
            exact .same _
          have s1 : its.toArray.size = l.length := by rw [List.size_toArray, ← rv.length, rl.1]
          have s2 : its'.toArray.size = m.length := by rw [List.size_toArray, ← rv'.length, rl'.1]
          simp only [eqO] at e
          have dl := dfreeL_mem (show dfreeL l = true from dp)
          split at e
          · rename_i hlm
            obtain ⟨f, hc, hf⟩ := eqs_range e
            have t := RcAt.lists (e := f) ht ht' (by rw [s1, s2, hlm]) hu (fun j h1 h2 => by
              obtain ⟨v, p, _, hpj, rp, rr⟩ := vals_get rv rl h1
              obtain ⟨v', p', _, hpj', rp', rr'⟩ := vals_get rv' rl' h2
              exact ih (dl p (List.mem_of_getElem? hpj)) rp.pr rp'.pr rr rr' (hf j p p' hpj hpj') A.in1 (by show A.units + 1 + n < cLine; omega))
            rw [hlm, Nat.min_self] at hc
            rw [s1, hlm, ← hc] at t
            exact .of_refs haa t
          · rename_i hlm
            cases e
            exact .of_refs haa (.lists_lengths ht ht' (by rw [s1, s2]; simpa using hlm) hu)
        | tup m =>
          obtain ⟨a', vs', its', rfl, rl', rv', ht', hz'⟩ := tup_raw I hq
          obtain rfl : w = .ref a' := rw'
          simp only [eqO] at e; cases e; exact .list_tuple ht ht' hu
        | dct m => simp only [eqO] at e; cases e
        | non => obtain rfl : y = .non := hq; obtain rfl : w = .none := rw'; simp only [eqO] at e; cases e; exact .list_none ht hu
        | bl aq => obtain rfl : y = .bl aq := hq; obtain rfl : w = .bool aq := rw'; simp only [eqO] at e; cases e; exact .list_bool _ ht hu
        | int aq => obtain rfl : y = .int aq := hq; obtain ⟨_, rfl⟩ := rw'; simp only [eqO] at e; cases e; exact .list_int _ _ ht hu
        | str aq => obtain rfl : y = .str aq := hq; obtain ⟨_, rfl⟩ := rw'; simp only [eqO] at e; cases e; exact .list_str _ _ ht hu
      | non =>
        obtain rfl : x = .non := hp; obtain rfl : u = .none := ru
        cases q with
        | tup m => obtain ⟨a', vs', its', rfl, rl', rv', ht', hz'⟩ := tup_raw I hq; obtain rfl : w = .ref a' := rw'; simp only [eqO] at e; cases e; exact .none_tuple ht' hu
        | lst m => obtain ⟨a', vs', its', rfl, rl', rv', ht', hz'⟩ := lst_raw I hq; obtain rfl : w = .ref a' := rw'; simp only [eqO] at e; cases e; exact .none_list ht' hu
        | dct m => simp only [eqO] at e; cases e
        | _ => exact absurd ⟨rfl, rfl⟩ c
      | bl ap =>
        obtain rfl : x = .bl ap := hp; obtain rfl : u = .bool ap := ru
        cases q with
        | tup m => obtain ⟨a', vs', its', rfl, rl', rv', ht', hz'⟩ := tup_raw I hq; obtain rfl : w = .ref a' := rw'; simp only [eqO] at e; cases e; exact .bool_tuple _ ht' hu
        | lst m => obtain ⟨a', vs', its', rfl, rl', rv', ht', hz'⟩ := lst_raw I hq; obtain rfl : w = .ref a' := rw'; simp only [eqO] at e; cases e; exact .bool_list _ ht' hu
        | dct m => simp only [eqO] at e; cases e
        | _ => exact absurd ⟨rfl, rfl⟩ c
      | int ap =>
        obtain rfl : x = .int ap := hp; obtain ⟨_, rfl⟩ := ru
        cases q with
        | tup m => obtain ⟨a', vs', its', rfl, rl', rv', ht', hz'⟩ := tup_raw I hq; obtain rfl : w = .ref a' := rw'; simp only [eqO] at e; cases e; exact .int_tuple _ _ ht' hu
        | lst m => obtain ⟨a', vs', its', rfl, rl', rv', ht', hz'⟩ := lst_raw I hq; obtain rfl : w = .ref a' := rw'; simp only [eqO] at e; cases e; exact .int_list _ _ ht' hu
        | dct m => simp only [eqO] at e; cases e
        | _ => exact absurd ⟨rfl, rfl⟩ c
      | str ap =>
        obtain rfl : x = .str ap := hp; obtain ⟨_, rfl⟩ := ru
        cases q with
        | tup m => obtain ⟨a', vs', its', rfl, rl', rv', ht', hz'⟩ := tup_raw I hq; obtain rfl : w = .ref a' := rw'; simp only [eqO] at e; cases e; exact .str_tuple _ _ ht' hu
        | lst m => obtain ⟨a', vs', its', rfl, rl', rv', ht', hz'⟩ := lst_raw I hq; obtain rfl : w = .ref a' := rw'; simp only [eqO] at e; cases e; exact .str_list _ _ ht' hu
        | dct m => simp only [eqO] at e; cases e
        | _ => exact absurd ⟨rfl, rfl⟩ c
/-! ### x in a list, a tuple -/
def inO (x : PV) : List PV → Option Bool
  | [] => some false
  | y :: r => match (if dfree y then eqO 40 y x else none), inO x r with
    | some a, some b => some (a || b)
    | _, _ => none
theorem inO_all {x : PV} : ∀ {l : List PV} {b : Bool}, inO x l = some b → (∀ y ∈ l, dfree y = true ∧ ∃ c, eqO 40 y x = some c) ∧ b = l.any fun y => eqO 40 y x == some true
  | [], b, h => by
    simp only [inO] at h
    cases h
    exact ⟨fun y hy => by simp at hy, rfl⟩
  | y :: r, b, h => by
    simp only [inO] at h
    split at h
    · rename_i a b' e1 e2
      cases h
      split at e1
      · rename_i d
        obtain ⟨h1, h2⟩ := inO_all e2
        refine ⟨fun z hz => ?_, ?_⟩
        · rcases List.mem_cons.mp hz with rfl | hz
          · exact ⟨d, a, e1⟩
          · exact h1 z hz
        · rw [List.any_cons, e1, ← h2]
          cases a <;> rfl
      · cases e1
    · cases h
open Classical in
/-- the verdict at an item -/
noncomputable def itemB (K : PySem.W.Frag) (T : Addr → Prop) (H : Hp) (x : PV) (u : Value) : Bool := decide (∃ v p, RelV v u ∧ Rep K T H v p ∧ eqO 40 p x = some true)
open Classical in
theorem itemB_of {x : PV} {u : Value} {v : V} {p : PV} {c : Bool} (r : RelV v u) (h : Rep K T H v p) (e : eqO 40 p x = some c) : itemB K T H x u = c := by
  unfold itemB
  cases c with
  | true => exact decide_eq_true ⟨v, p, r, h, e⟩
  | false =>
    refine decide_eq_false ?_
    rintro ⟨v', p', r', h', e'⟩
    obtain rfl := r.inj r'
    obtain rfl := h.fn h'
    rw [e] at e'
    cases e'
theorem items_any {x : PV} : ∀ {vs : List V} {its : List Value} {l : List PV}, Vals vs its → RepL K T H vs l → (∀ y ∈ l, ∃ c, eqO 40 y x = some c) → its.any (itemB K T H x) = l.any fun y => eqO 40 y x == some true
  | _, _, [], .nil, _, _ => rfl
  | _, _, _ :: _, .nil, r, _ => absurd r.1 (by simp)
  | _, _, [], .cons _ _, r, _ => absurd r.1 (by simp)
  | _, _, p :: l, .cons r t, q, h => by
    obtain ⟨c, hc⟩ := h p List.mem_cons_self
    rw [List.any_cons, List.any_cons, itemB_of r q.head hc, items_any t q.tail (fun y hy => h y (List.mem_cons_of_mem _ hy)), hc]
    cases c <;> rfl
def inStr (x c : Str) : Bool := !(Builtin.Str.occurrences c x 0 c.length 1).isEmpty
def inP : List PV → Option RV
  | [.str x, .str y] => some (.val (.bl (inStr x y)))
  | [x, .lst l] => (inO x l).map fun b => .val (.bl b)
  | [x, .tup l] => (inO x l).map fun b => .val (.bl b)
  | _ => none
def niP : List PV → Option RV
  | [.str x, .str y] => some (.val (.bl (!inStr x y)))
  | [x, .lst l] => (inO x l).map fun b => .val (.bl (!b))
  | [x, .tup l] => (inO x l).map fun b => .val (.bl (!b))
  | _ => none
theorem in_items (I : Inv X pins σ H s) {A : Around} (hA : A.units + 41 < cLine) {x : V} {u : Value} {p : PV} {vs : List V} {its : List Value} {l : List PV} (hx : PRep K T' H x p) (ru : RelV x u) (rv : Vals vs its) (rl : RepL K T H vs l) {b : Bool} (e : inO p l = some b) :
    (∀ y, y ∈ its.toArray → EqAt A.in1 s y u (itemB K T H p y)) ∧ its.toArray.any (itemB K T H p) = b := by
  obtain ⟨h1, h2⟩ := inO_all e
  refine ⟨fun y hy => ?_, ?_⟩
  · obtain ⟨i, hi, hyi⟩ := List.getElem_of_mem (show y ∈ its by simpa using hy)
    have hiv : i < its.toArray.size := by simpa using hi
    obtain ⟨v, q, _, hq, rq, rr⟩ := vals_get rv rl hiv
    have ey : its.toArray[i] = y := by simpa using hyi
    rw [ey] at rr
    obtain ⟨d, c, hc⟩ := h1 q (List.mem_of_getElem? hq)
    rw [itemB_of rr rq hc]
    exact eq_at I 40 d rq.pr hx rr ru hc A.in1 (by show A.units + 1 + 40 < cLine; omega)
  · rw [show its.toArray.any (itemB K T H p) = its.any (itemB K T H p) by simp, items_any rv rl (fun y hy => (h1 y hy).2), ← h2]
theorem op_inP {k : Nat} (hr : Room k X.A) : OpR X (compareOp .In) (rP2 X.K inP) := by
  intro pins s σ H x y v u Q I rx ry h
  obtain ⟨T, ps, rv, t, hp, hg, q⟩ := h
  have hu := hr.units
  unfold inP at hg
  split at hg
  · obtain ⟨rfl, rfl, _⟩ := hp
    cases hg
    exact op_in_str pins s σ H _ _ v u Q I rx ry ⟨_, _, rfl, rfl, q _ H (fun _ _ e => e) (.bl _)⟩
  · rename_i x' l
    obtain ⟨h1, h2, _⟩ := hp
    obtain ⟨a, vs, its, rfl, rl, rvv, ht, hz⟩ := lst_raw I h2
    obtain rfl : u = .ref a := ry
    cases e : inO x' l with
    | none => rw [e] at hg; cases hg
    | some b =>
      rw [e] at hg
      cases hg
      obtain ⟨he, ha⟩ := in_items I (A := X.A) (by omega) h1 rx rvv rl e
      exact in_listAt _ ht he ⟨.bl _, H, I, rfl, by rw [ha]; exact q _ H (fun _ _ e => e) (.bl _)⟩
  · rename_i x' l
    obtain ⟨h1, h2, _⟩ := hp
    obtain ⟨a, vs, its, rfl, rl, rvv, ht, hz⟩ := tup_raw I h2
    obtain rfl : u = .ref a := ry
    cases e : inO x' l with
    | none => rw [e] at hg; cases hg
    | some b =>
      rw [e] at hg
      cases hg
      obtain ⟨he, ha⟩ := in_items I (A := X.A) (by omega) h1 rx rvv rl e
      exact in_tupleAt _ ht he ⟨.bl _, H, I, rfl, by rw [ha]; exact q _ H (fun _ _ e => e) (.bl _)⟩
  · cases hg
theorem op_niP {k : Nat} (hr : Room k X.A) : OpR X (compareOp .NotIn) (rP2 X.K niP) := by
  intro pins s σ H x y v u Q I rx ry h
  obtain ⟨T, ps, rv, t, hp, hg, q⟩ := h
  have hu := hr.units
  unfold niP at hg
  split at hg
  · obtain ⟨rfl, rfl, _⟩ := hp
    cases hg
    exact op_notin_str pins s σ H _ _ v u Q I rx ry ⟨_, _, rfl, rfl, q _ H (fun _ _ e => e) (.bl _)⟩
  · rename_i x' l
    obtain ⟨h1, h2, _⟩ := hp
    obtain ⟨a, vs, its, rfl, rl, rvv, ht, hz⟩ := lst_raw I h2
    obtain rfl : u = .ref a := ry
    cases e : inO x' l with
    | none => rw [e] at hg; cases hg
    | some b =>
      rw [e] at hg
      cases hg
      obtain ⟨he, ha⟩ := in_items I (A := X.A) (by omega) h1 rx rvv rl e
      exact notIn_listAt _ ht he ⟨.bl _, H, I, rfl, by rw [ha]; exact q _ H (fun _ _ e => e) (.bl _)⟩
  · rename_i x' l
    obtain ⟨h1, h2, _⟩ := hp
    obtain ⟨a, vs, its, rfl, rl, rvv, ht, hz⟩ := tup_raw I h2
    obtain rfl : u = .ref a := ry
    cases e : inO x' l with
    | none => rw [e] at hg; cases hg
    | some b =>
      rw [e] at hg
      cases hg
      obtain ⟨he, ha⟩ := in_items I (A := X.A) (by omega) h1 rx rvv rl e
      exact notIn_tupleAt _ ht he ⟨.bl _, H, I, rfl, by rw [ha]; exact q _ H (fun _ _ e => e) (.bl _)⟩
  · cases hg
end
end Den
set_option Elab.async false
set_option linter.all false
set_option maxRecDepth 100000
set_option maxHeartbeats 4000000
/-! Den9: the order of data: <, <=, >, >=, min, max, sorted. -/
namespace Den
open PySem L2 PyProof.Rows
open PySem.W (alike alikeAll dataLt EachIs)
mutual
def toD : PV → PyData
  | .non => .none
  | .bl b => .bool b
  | .int i => .int i
  | .str x => .str x
  | .tup l => .tuple (toDs l)
  | .lst l => .list (toDs l)
  | .dct _ => .dict []
def toDs : List PV → List PyData
  | [] => []
  | p :: l => toD p :: toDs l
end
theorem toDs_map : ∀ l : List PV, toDs l = l.map toD
  | [] => rfl
  | p :: l => by rw [toDs, toDs_map l]; rfl
theorem toDs_len (l : List PV) : (toDs l).length = l.length := by rw [toDs_map, List.length_map]
def ltD (p q : PV) : Bool := match p, q with
  | .int i, .int j => decide (i < j)
  | p, q => dataLt (toD p) (toD q)
theorem ltD_eq (p q : PV) : ltD p q = dataLt (toD p) (toD q) := by
  unfold ltD
  split
  · rw [toD, toD, PySem.W.dataLt_int]
  · rfl
mutual
def dep : PV → Nat
  | .tup l => depL l + 1
  | .lst l => depL l + 1
  | _ => 0
def depL : List PV → Nat
  | [] => 0
  | p :: l => max (dep p) (depL l)
end
mutual
theorem toD_dep : ∀ p : PV, dfree p = true → (toD p).depth = dep p
  | .non, _ => rfl
  | .bl _, _ => rfl
  | .int _, _ => rfl
  | .str _, _ => rfl
  | .tup l, h => by rw [toD, PyData.depth, dep, toDs_dep l h]
  | .lst l, h => by rw [toD, PyData.depth, dep, toDs_dep l h]
  | .dct _, h => by cases h
theorem toDs_dep : ∀ l : List PV, dfreeL l = true → PyData.depthAll (toDs l) = depL l
  | [], _ => rfl
  | p :: l, h => by
    simp only [dfreeL, Bool.and_eq_true] at h
    rw [toDs, PyData.depthAll, depL, toD_dep p h.1, toDs_dep l h.2]
end
mutual
theorem toD_inj : ∀ p q : PV, dfree p = true → dfree q = true → toD p = toD q → p = q
  | .non, q, _, h, e => by cases q <;> simp [toD] at e <;> simp
  | .bl b, q, _, h, e => by cases q <;> simp [toD] at e <;> simp [e]
  | .int i, q, _, h, e => by cases q <;> simp [toD] at e <;> simp [e]
  | .str x, q, _, h, e => by cases q <;> simp [toD] at e <;> simp [e]
  | .tup l, q, hp, h, e => by
    cases q with
    | tup m => rw [toD, toD] at e; rw [toDs_inj l m hp h (PyData.tuple.inj e)]
    | _ => simp [toD] at e
  | .lst l, q, hp, h, e => by
    cases q with
    | lst m => rw [toD, toD] at e; rw [toDs_inj l m hp h (PyData.list.inj e)]
    | _ => simp [toD] at e
  | .dct l, q, hp, h, e => by cases hp
theorem toDs_inj : ∀ l m : List PV, dfreeL l = true → dfreeL m = true → toDs l = toDs m → l = m
  | [], m, _, _, e => by cases m with
    | nil => rfl
    | cons => simp [toDs] at e
  | p :: l, m, h, h', e => by
    cases m with
    | nil => simp [toDs] at e
    | cons q m =>
      simp only [dfreeL, Bool.and_eq_true] at h h'
      rw [toDs, toDs] at e
      have e := List.cons.inj e
      rw [toD_inj p q h.1 h'.1 e.1, toDs_inj l m h.2 h'.2 e.2]
end

section
variable {K : PySem.W.Frag} {T T' : Addr → Prop} {H H' : Hp} {X : Cx} {pins : List (Addr × Obj)} {σ : L2.St} {s : Shared}
theorem readsAll_of {h : Heap} : ∀ {its : List Value} {ds : List PyData}, its.length = ds.length → (∀ (i : Nat) u d, its[i]? = some u → ds[i]? = some d → ∃ as, Reads h u d as) → ∃ as, ReadsAll h its ds as
  | [], [], _, _ => ⟨_, .nil⟩
  | [], _ :: _, e, _ => by simp at e
  | _ :: _, [], e, _ => by simp at e
  | u :: its, d :: ds, e, h => by
    obtain ⟨as, r⟩ := h 0 u d rfl rfl
    obtain ⟨bs, rs⟩ := readsAll_of (its := its) (ds := ds) (by simpa using e) fun i u' d' a b => h (i + 1) u' d' (by simpa using a) (by simpa using b)
    exact ⟨_, .cons r rs⟩
theorem readsAll_rep {h : Heap} {vs : List V} {its : List Value} {l : List PV} (rl : RepL K T H vs l) (rv : Vals vs its) (ih : ∀ (i : Nat) v p u, vs[i]? = some v → l[i]? = some p → RelV v u → ∃ as, Reads h u (toD p) as) : ∃ as, ReadsAll h its (toDs l) as := by
  rw [toDs_map]
  refine readsAll_of (by rw [← rv.length, rl.1, List.length_map]) fun i u d e1 e2 => ?_
  have hi : i < vs.length := by rw [rv.length]; exact (List.getElem?_eq_some_iff.mp e1).1
  have hl : i < l.length := by rw [← rl.1]; exact hi
  obtain ⟨v, p, e3, e4, rp, ru⟩ := vals_get rv rl (j := i) (by rw [List.size_toArray, ← rv.length]; exact hi)
  rw [List.getElem?_map, e4] at e2
  cases e2
  refine ih i v p u e3 e4 ?_
  have : its.toArray[i]'(by rw [List.size_toArray, ← rv.length]; exact hi) = u := by
    have := (List.getElem?_eq_some_iff.mp e1).2
    simpa using this
  rw [this] at ru
  exact ru
theorem Rep.reads (I : Inv X pins σ H s) {p : PV} {v : V} (r : Rep K T H v p) : dfree p = true → ∀ u, RelV v u → ∃ as, Reads s.heap u (toD p) as := by
  induction r with
  | non => intro _ u ru; obtain rfl : u = .none := ru; exact ⟨_, .none⟩
  | bl b => intro _ u ru; obtain rfl : u = .bool b := ru; exact ⟨_, .bool b⟩
  | int i => intro _ u ru; obtain ⟨t, rfl⟩ := ru; exact ⟨_, .int i t⟩
  | str x => intro _ u ru; obtain ⟨t, rfl⟩ := ru; exact ⟨_, .str x t⟩
  | @tup a vs l h e r ih =>
    intro df u ru
    obtain rfl : u = .ref a := ru
    obtain ⟨hz, its, rv, o, ho, hc, n, hd⟩ := (show ObjOk X.prog X.w H s.heap a (.tup vs) from I.hok a _ h)
    obtain ⟨as, rs⟩ := readsAll_rep (h := s.heap) (l := l) (K := K) (T := T) (H := H) ⟨e, r⟩ rv fun i v p u e1 e2 ru => ih i v p e1 e2 (dfreeL_mem df p (List.mem_of_getElem? e2)) u ru
    exact ⟨_, .tuple ho hc hd (by simpa using rs)⟩
  | @lst a vs l n h e r ih =>
    intro df u ru
    obtain rfl : u = .ref a := ru
    obtain ⟨hz, its, n, rv, ho⟩ := (show ObjOk X.prog X.w H s.heap a (.lst vs) from I.hok a _ h)
    obtain ⟨as, rs⟩ := readsAll_rep (h := s.heap) (l := l) (K := K) (T := T) (H := H) ⟨e, r⟩ rv fun i v p u e1 e2 ru => ih i v p e1 e2 (dfreeL_mem df p (List.mem_of_getElem? e2)) u ru
    exact ⟨_, .list ho rfl rfl (by simpa using rs)⟩
  | dctK => intro df; cases df
  | dctT => intro df; cases df
theorem RepL.reads (I : Inv X pins σ H s) {l : List PV} {vs : List V} {its : List Value} (r : RepL K T H vs l) (df : dfreeL l = true) (rv : Vals vs its) : ∃ as, ReadsAll s.heap its (toDs l) as :=
  readsAll_rep r rv fun i v p u e1 e2 ru => (r.2 i v p e1 e2).reads I (dfreeL_mem df p (List.mem_of_getElem? e2)) u ru
theorem PRep.reads (I : Inv X pins σ H s) {p : PV} {v : V} (r : PRep K T H v p) (df : dfree p = true) {u : Value} (ru : RelV v u) : ∃ as, Reads s.heap u (toD p) as := by
  cases p with
  | non => obtain rfl : v = .non := r; exact Rep.reads I (K := K) (T := T) .non df u ru
  | bl b => obtain rfl : v = .bl b := r; exact Rep.reads I (K := K) (T := T) (.bl b) df u ru
  | int b => obtain rfl : v = .int b := r; exact Rep.reads I (K := K) (T := T) (.int b) df u ru
  | str b => obtain rfl : v = .str b := r; exact Rep.reads I (K := K) (T := T) (.str b) df u ru
  | tup l => obtain ⟨a, vs, rfl, h, e, q⟩ := r; exact Rep.reads I (K := K) (T := T) (.tup h e q) df u ru
  | lst l =>
    obtain ⟨a, vs, rfl, h, rl⟩ := r
    obtain rfl : u = .ref a := ru
    obtain ⟨hz, its, n, rv, ho⟩ := (show ObjOk X.prog X.w H s.heap a (.lst vs) from I.hok a _ h)
    obtain ⟨as, rs⟩ := rl.reads I df rv
    exact ⟨_, .list ho rfl rfl (by simpa using rs)⟩
  | dct l => cases df

def nonP : PV → Bool
  | .non => true
  | _ => false
theorem nonP_ne {p : PV} (h : nonP p = false) : toD p ≠ .none := by cases p <;> simp_all [toD, nonP]
/-- p and q can be told apart by < -/
def cmpOk (p q : PV) : Bool := match p, q with
  | .int _, .int _ => true
  | p, q => dfree p && dfree q && alike (toD p) (toD q) && !nonP p && decide (min (dep p) (dep q) ≤ 60)
theorem cmpOk_of {p q : PV} (h : cmpOk p q = true) : dfree p = true ∧ dfree q = true ∧ alike (toD p) (toD q) = true ∧ toD p ≠ .none ∧ min (toD p).depth (toD q).depth ≤ 60 := by
  unfold cmpOk at h
  split at h
  · exact ⟨rfl, rfl, by simp [toD, alike], by simp [toD], by simp [toD, PyData.depth]⟩
  · simp only [Bool.and_eq_true, Bool.not_eq_true', decide_eq_true_eq] at h
    obtain ⟨⟨⟨⟨a, b⟩, c⟩, d⟩, e⟩ := h
    exact ⟨a, b, c, nonP_ne d, by rw [toD_dep p a, toD_dep q b]; exact e⟩
def cmpP (r : PV → PV → Bool) : List PV → Option RV
  | [p, q] => if cmpOk p q then some (.val (.bl (r p q))) else none
  | _ => none
def ltP : List PV → Option RV := cmpP ltD
def gtP : List PV → Option RV := cmpP fun p q => ltD q p
def leP : List PV → Option RV := cmpP fun p q => !ltD q p
def geP : List PV → Option RV := cmpP fun p q => !ltD p q
theorem cmpP_of {r : PV → PV → Bool} {ps : List PV} {rv : RV} (h : cmpP r ps = some rv) : ∃ p q, ps = [p, q] ∧ cmpOk p q = true ∧ rv = .val (.bl (r p q)) := by
  unfold cmpP at h
  split at h
  · split at h
    · cases h; exact ⟨_, _, rfl, by assumption, rfl⟩
    · cases h
  · cases h
theorem cmp_go {op : CmpOp} {k : Nat} (r : PV → PV → Bool) (hr : Room k X.A)
    (h : ∀ (p q : PV) (u w : Value) (as bs : List Addr) (s : Shared) (Q E : Value → Shared → Prop), Reads s.heap u (toD p) as → Reads s.heap w (toD q) bs → alike (toD p) (toD q) = true → toD p ≠ .none → X.A.units + min (toD p).depth (toD q).depth < cLine → Q (.bool (r p q)) s → wpAny (model X.prog X.w) X.A (compareOp op u w) Q E s) :
    OpR X (compareOp op) (rP2 X.K (cmpP r)) := by
  intro pins s σ H x y v u Q I rx ry h'
  obtain ⟨T, ps, rv, t, hp, hg, q⟩ := h'
  obtain ⟨p, q', rfl, hc, rfl⟩ := cmpP_of hg
  obtain ⟨h1, h2, _⟩ := hp
  obtain ⟨a, b, c, d, e⟩ := cmpOk_of hc
  obtain ⟨as, r1⟩ := h1.reads I a rx
  obtain ⟨bs, r2⟩ := h2.reads I b ry
  exact h p q' v u as bs s _ _ r1 r2 c d (by have := hr.un; omega) ⟨.bl _, H, I, rfl, q _ H (fun _ _ e => e) (.bl _)⟩
theorem op_ltP {k : Nat} (hr : Room k X.A) : OpR X (compareOp .Lt) (rP2 X.K ltP) := cmp_go ltD hr
  fun p q u w as bs s Q E r1 r2 c d e z => PySem.W.lt_data r1 r2 c d e (by rw [← ltD_eq]; exact z)
theorem op_gtP {k : Nat} (hr : Room k X.A) : OpR X (compareOp .Gt) (rP2 X.K gtP) := cmp_go (fun p q => ltD q p) hr
  fun p q u w as bs s Q E r1 r2 c d e z => PySem.W.gt_data r1 r2 c d e (by rw [← ltD_eq]; exact z)
theorem op_leP {k : Nat} (hr : Room k X.A) : OpR X (compareOp .LtE) (rP2 X.K leP) := cmp_go (fun p q => !ltD q p) hr
  fun p q u w as bs s Q E r1 r2 c d e z => PySem.W.le_data r1 r2 c d e (by rw [← ltD_eq]; exact z)
theorem op_geP {k : Nat} (hr : Room k X.A) : OpR X (compareOp .GtE) (rP2 X.K geP) := cmp_go (fun p q => !ltD p q) hr
  fun p q u w as bs s Q E r1 r2 c d e z => PySem.W.ge_data r1 r2 c d e (by rw [← ltD_eq]; exact z)

/-! ### min, max, sorted -/
/-- all of a list can be compared with one another -/
def alikeLs (l : List PV) : Bool := dfreeL l && l.all (fun p => l.all fun q => alike (toD p) (toD q)) && l.all (fun p => !nonP p) && decide (depL l ≤ 60)
def intL : List PV → Bool
  | [] => true
  | .int _ :: l => intL l
  | _ => false
theorem intL_mem : ∀ {l : List PV}, intL l = true → ∀ p ∈ l, ∃ i, p = .int i
  | [], _, p, h => by simp at h
  | .int i :: l, h, p, hp => by
    rcases List.mem_cons.mp hp with rfl | hp
    · exact ⟨i, rfl⟩
    · exact intL_mem (l := l) h p hp
  | .non :: l, h, p, hp => by cases h
  | .bl _ :: l, h, p, hp => by cases h
  | .str _ :: l, h, p, hp => by cases h
  | .tup _ :: l, h, p, hp => by cases h
  | .lst _ :: l, h, p, hp => by cases h
  | .dct _ :: l, h, p, hp => by cases h
def ordL (l : List PV) : Bool := intL l || alikeLs l
theorem dfreeL_of : ∀ {l : List PV}, (∀ p ∈ l, dfree p = true) → dfreeL l = true
  | [], _ => rfl
  | p :: l, h => by
    simp only [dfreeL, Bool.and_eq_true]
    exact ⟨h p List.mem_cons_self, dfreeL_of fun q hq => h q (List.mem_cons_of_mem _ hq)⟩
theorem depL_int : ∀ {l : List PV}, intL l = true → depL l = 0
  | [], _ => rfl
  | .int i :: l, h => by simp [depL, dep, depL_int (l := l) h]
  | .non :: l, h => by cases h
  | .bl _ :: l, h => by cases h
  | .str _ :: l, h => by cases h
  | .tup _ :: l, h => by cases h
  | .lst _ :: l, h => by cases h
  | .dct _ :: l, h => by cases h
theorem ordL_of {l : List PV} (h : ordL l = true) : dfreeL l = true ∧ (∀ p ∈ l, ∀ q ∈ l, alike (toD p) (toD q) = true) ∧ (∀ p ∈ l, toD p ≠ .none) ∧ depL l ≤ 60 := by
  simp only [ordL, Bool.or_eq_true] at h
  rcases h with h | h
  · refine ⟨dfreeL_of fun p hp => ?_, fun p hp q hq => ?_, fun p hp => ?_, ?_⟩
    · obtain ⟨i, rfl⟩ := intL_mem h p hp; rfl
    · obtain ⟨i, rfl⟩ := intL_mem h p hp
      obtain ⟨j, rfl⟩ := intL_mem h q hq
      simp [toD, alike]
    · obtain ⟨i, rfl⟩ := intL_mem h p hp; simp [toD]
    · rw [depL_int h]; omega
  · simp only [alikeLs, Bool.and_eq_true, List.all_eq_true, Bool.not_eq_true', decide_eq_true_eq] at h
    obtain ⟨⟨⟨a, b⟩, c⟩, d⟩ := h
    exact ⟨a, b, fun p hp => nonP_ne (c p hp), d⟩
theorem ord_alike {l : List PV} (h : ordL l = true) : PySem.W.AlikeAll (toDs l) := by
  obtain ⟨a, b, c, d⟩ := ordL_of h
  rw [toDs_map]
  refine ⟨fun x hx y hy => ?_, fun x hx => ?_⟩
  · obtain ⟨p, hp, rfl⟩ := List.mem_map.mp hx
    obtain ⟨q, hq, rfl⟩ := List.mem_map.mp hy
    exact b p hp q hq
  · obtain ⟨p, hp, rfl⟩ := List.mem_map.mp hx
    exact c p hp
def minV (x : PV) (l : List PV) : PV := l.foldl (fun a y => if ltD y a then y else a) x
def maxV (x : PV) (l : List PV) : PV := l.foldl (fun a y => if ltD a y then y else a) x
theorem minV_toD : ∀ (l : List PV) (x : PV), toD (minV x l) = PySem.W.minD (toD x) (toDs l)
  | [], _ => rfl
  | y :: l, x => by
    show toD (minV (if ltD y x then y else x) l) = _
    rw [minV_toD l, toDs, ltD_eq]
    show _ = PySem.W.minD (if dataLt (toD y) (toD x) then toD y else toD x) (toDs l)
    cases dataLt (toD y) (toD x) <;> rfl
theorem maxV_toD : ∀ (l : List PV) (x : PV), toD (maxV x l) = PySem.W.maxD (toD x) (toDs l)
  | [], _ => rfl
  | y :: l, x => by
    show toD (maxV (if ltD x y then y else x) l) = _
    rw [maxV_toD l, toDs, ltD_eq]
    show _ = PySem.W.maxD (if dataLt (toD x) (toD y) then toD y else toD x) (toDs l)
    cases dataLt (toD x) (toD y) <;> rfl
theorem minV_mem : ∀ (l : List PV) (x : PV), minV x l ∈ x :: l
  | [], x => List.mem_cons_self
  | y :: l, x => by
    have := minV_mem l (if ltD y x then y else x)
    show minV (if ltD y x then y else x) l ∈ _
    rcases List.mem_cons.mp this with e | h
    · rw [e]; split <;> simp
    · exact List.mem_cons_of_mem _ (List.mem_cons_of_mem _ h)
theorem maxV_mem : ∀ (l : List PV) (x : PV), maxV x l ∈ x :: l
  | [], x => List.mem_cons_self
  | y :: l, x => by
    have := maxV_mem l (if ltD x y then y else x)
    show maxV (if ltD x y then y else x) l ∈ _
    rcases List.mem_cons.mp this with e | h
    · rw [e]; split <;> simp
    · exact List.mem_cons_of_mem _ (List.mem_cons_of_mem _ h)
def minP : List PV → Option RV
  | [.lst (x :: l)] => if ordL (x :: l) then some (.val (minV x l)) else none
  | [.tup (x :: l)] => if ordL (x :: l) then some (.val (minV x l)) else none
  | [.int i, .int j] => some (.val (.int (if j < i then j else i)))
  | _ => none
def maxP : List PV → Option RV
  | [.lst (x :: l)] => if ordL (x :: l) then some (.val (maxV x l)) else none
  | [.tup (x :: l)] => if ordL (x :: l) then some (.val (maxV x l)) else none
  | [.int i, .int j] => some (.val (.int (if j > i then j else i)))
  | _ => none
/-- an item of the list, found by what it reads as -/
theorem item_by {l : List PV} {vs : List V} {its : List Value} {h' : Heap} {v : Value} {bs : List Addr} {m : PV} (I : Inv X pins σ H s) (rl : RepL K T H vs l) (rv : Vals vs its) (ho : ordL l = true) (i : Nat) (hv : its.toArray[i]? = some v)
    (hr : Reads h' v (toD m) bs) (hm : m ∈ l) (kp : ∀ b o, s.heap.get? b = some o → h'.get? b = some o) : ∃ x, RelV x v ∧ Rep K T H x m := by
  obtain ⟨a, b, c, d⟩ := ordL_of ho
  have hi : i < its.toArray.size := (Array.getElem?_eq_some_iff.mp hv).1
  obtain ⟨x, p, e1, e2, rp, rr⟩ := vals_get rv rl hi
  have : its.toArray[i] = v := (Array.getElem?_eq_some_iff.mp hv).2
  rw [this] at rr
  have hp : p ∈ l := List.mem_of_getElem? e2
  obtain ⟨as, r⟩ := rp.reads I (dfreeL_mem a p hp) v rr
  have r' : Reads h' v (toD p) as := PyProof.Rows.Reads.keeps kp r
  have e := PySem.W.alike_unique (toD p) (toD m) v as bs (b p hp m hm) r' hr
  have := toD_inj p m (dfreeL_mem a p hp) (dfreeL_mem a m hm) e
  subst this
  exact ⟨x, rr, rp⟩
theorem depD {l : List PV} (h : dfreeL l = true) (d : depL l ≤ 60) : PyData.depthAll (toDs l) ≤ 60 := by rw [toDs_dep l h]; exact d
theorem cr_minP {k : Nat} (hr : Room k X.A) (hc : X.calm = true) : CallR X (.builtin "min") (rP X.K minP) := by
  intro pins s σ H vs us Q I rx h
  obtain ⟨T, ps, rv, t, hp, hg, q⟩ := h
  unfold minP at hg
  split at hg
  · rename_i x l
    match vs, hp, rx with
    | [v], ⟨hp, _⟩, rx =>
    obtain ⟨u, rfl, ru⟩ := vals1 rx
    split at hg
    · rename_i ho
      cases hg
      obtain ⟨a, ws, its, rfl, rl, rv, hl, hz⟩ := lst_raw I hp
      obtain rfl : u = .ref a := ru
      obtain ⟨df, al, nn, dd⟩ := ordL_of ho
      obtain ⟨as, ra⟩ := rl.reads I df rv
      refine PySem.W.min_list_data (vs := its.toArray) hr.hd hl (by simpa [toDs] using ra) (by simpa [toDs] using ord_alike ho) (by have := hr.un; have := depD df dd; simp only [toDs] at this; omega) fun i v h' tk bs hv hrd kp => ?_
      rw [← minV_toD] at hrd
      obtain ⟨y, ry, rp⟩ := item_by I rl rv ho i hv hrd (minV_mem l x) kp
      exact ⟨y, H, I.kept (t' := tk) kp, ry, q _ H (fun _ _ e => e) rp⟩
    · cases hg
  · rename_i x l
    match vs, hp, rx with
    | [v], ⟨hp, _⟩, rx =>
    obtain ⟨u, rfl, ru⟩ := vals1 rx
    split at hg
    · rename_i ho
      cases hg
      obtain ⟨a, ws, its, rfl, rl, rv, hl, hz⟩ := tup_raw I hp
      obtain rfl : u = .ref a := ru
      obtain ⟨df, al, nn, dd⟩ := ordL_of ho
      obtain ⟨as, ra⟩ := rl.reads I df rv
      refine PySem.W.min_tuple_data (vs := its.toArray) hr.hd hl (by simpa [toDs] using ra) (by simpa [toDs] using ord_alike ho) (by have := hr.un; have := depD df dd; simp only [toDs] at this; omega) fun i v h' tk bs hv hrd kp => ?_
      rw [← minV_toD] at hrd
      obtain ⟨y, ry, rp⟩ := item_by I rl rv ho i hv hrd (minV_mem l x) kp
      exact ⟨y, H, I.kept (t' := tk) kp, ry, q _ H (fun _ _ e => e) rp⟩
    · cases hg
  · rename_i i j
    cases hg
    match vs, hp, rx with
    | [v, w], ⟨h1, h2, _⟩, rx =>
    obtain rfl : v = .int i := h1
    obtain rfl : w = .int j := h2
    exact call_min2 hc pins s σ H _ _ Q I rx ⟨i, j, rfl, q _ H (fun _ _ e => e) (.int _)⟩
  · cases hg
theorem cr_maxP {k : Nat} (hr : Room k X.A) (hc : X.calm = true) : CallR X (.builtin "max") (rP X.K maxP) := by
  intro pins s σ H vs us Q I rx h
  obtain ⟨T, ps, rv, t, hp, hg, q⟩ := h
  unfold maxP at hg
  split at hg
  · rename_i x l
    match vs, hp, rx with
    | [v], ⟨hp, _⟩, rx =>
    obtain ⟨u, rfl, ru⟩ := vals1 rx
    split at hg
    · rename_i ho
      cases hg
      obtain ⟨a, ws, its, rfl, rl, rv, hl, hz⟩ := lst_raw I hp
      obtain rfl : u = .ref a := ru
      obtain ⟨df, al, nn, dd⟩ := ordL_of ho
      obtain ⟨as, ra⟩ := rl.reads I df rv
      refine PySem.W.max_list_data (vs := its.toArray) hr.hd hl (by simpa [toDs] using ra) (by simpa [toDs] using ord_alike ho) (by have := hr.un; have := depD df dd; simp only [toDs] at this; omega) fun i v h' tk bs hv hrd kp => ?_
      rw [← maxV_toD] at hrd
      obtain ⟨y, ry, rp⟩ := item_by I rl rv ho i hv hrd (maxV_mem l x) kp
      exact ⟨y, H, I.kept (t' := tk) kp, ry, q _ H (fun _ _ e => e) rp⟩
    · cases hg
  · rename_i x l
    match vs, hp, rx with
    | [v], ⟨hp, _⟩, rx =>
    obtain ⟨u, rfl, ru⟩ := vals1 rx
    split at hg
    · rename_i ho
      cases hg
      obtain ⟨a, ws, its, rfl, rl, rv, hl, hz⟩ := tup_raw I hp
      obtain rfl : u = .ref a := ru
      obtain ⟨df, al, nn, dd⟩ := ordL_of ho
      obtain ⟨as, ra⟩ := rl.reads I df rv
      refine PySem.W.max_tuple_data (vs := its.toArray) hr.hd hl (by simpa [toDs] using ra) (by simpa [toDs] using ord_alike ho) (by have := hr.un; have := depD df dd; simp only [toDs] at this; omega) fun i v h' tk bs hv hrd kp => ?_
      rw [← maxV_toD] at hrd
      obtain ⟨y, ry, rp⟩ := item_by I rl rv ho i hv hrd (maxV_mem l x) kp
      exact ⟨y, H, I.kept (t' := tk) kp, ry, q _ H (fun _ _ e => e) rp⟩
    · cases hg
  · rename_i i j
    cases hg
    match vs, hp, rx with
    | [v, w], ⟨h1, h2, _⟩, rx =>
    obtain rfl : v = .int i := h1
    obtain rfl : w = .int j := h2
    exact call_max2 hc pins s σ H _ _ Q I rx ⟨i, j, rfl, q _ H (fun _ _ e => e) (.int _)⟩
  · cases hg
end

/-! sorted -/
def insV (a : PV) : List PV → List PV
  | [] => [a]
  | b :: m => if ltD b a then b :: insV a m else a :: b :: m
def sortV : List PV → List PV
  | [] => []
  | a :: l => insV a (sortV l)
theorem dataLe_toD (a b : PV) : PySem.W.dataLe false toD a b = !ltD b a := by
  rw [PySem.W.dataLe_eq, ltD_eq]; rfl
theorem insV_app (a : PV) : ∀ {l m : List PV}, (∀ b ∈ l, ltD b a = true) → (∀ b ∈ m, ltD b a = false) → insV a (l ++ m) = l ++ a :: m
  | [], [], _, _ => rfl
  | [], b :: m, _, h => by
    have := h b List.mem_cons_self
    show insV a (b :: m) = _
    rw [insV, this]; simp
  | b :: l, m, h, h' => by
    show insV a (b :: (l ++ m)) = _
    rw [insV, h b List.mem_cons_self, if_pos rfl, insV_app a (fun c hc => h c (List.mem_cons_of_mem _ hc)) h']
    rfl
theorem sortV_eq : ∀ l : List PV, l.mergeSort (PySem.W.dataLe false toD) = sortV l
  | [] => by simp [sortV]
  | a :: l => by
    have tl := PySem.W.sortLe_total (PyProof.Rows.listOrd PyProof.Rows.itemOrd) false fun b => PySem.W.keyToks (toD b)
    have tr : ∀ a b c : PV, PySem.W.dataLe false toD a b = true → PySem.W.dataLe false toD b c = true → PySem.W.dataLe false toD a c = true := fun a b c => tl.trans a b c
    have to : ∀ a b : PV, (PySem.W.dataLe false toD a b || PySem.W.dataLe false toD b a) = true := fun a b => by
      rcases tl.total a b with h | h
      · have h' : PySem.W.dataLe false toD a b = true := h
        rw [h']; rfl
      · have h' : PySem.W.dataLe false toD b a = true := h
        rw [h']; simp
    obtain ⟨l1, l2, e1, e2, e3⟩ := List.mergeSort_cons (le := PySem.W.dataLe false toD) tr to a l
    rw [e1, sortV, ← sortV_eq l, e2]
    have so := List.pairwise_mergeSort (le := PySem.W.dataLe false toD) tr to (a :: l)
    rw [e1] at so
    have so2 := (List.pairwise_cons.mp (List.pairwise_append.mp so).2.1).1
    refine (insV_app a (fun b hb => ?_) (fun b hb => ?_)).symm
    · have := e3 b hb
      rw [dataLe_toD] at this
      simpa using this
    · have := so2 b hb
      rw [dataLe_toD] at this
      simpa using this
def tupsP : List PV → Bool
  | [] => true
  | .tup (_ :: _) :: l => tupsP l
  | _ => false
def othersP : List PV → Bool
  | [] => true
  | .tup _ :: _ => false
  | .non :: _ => false
  | _ :: l => othersP l
theorem tupsP_of : ∀ {l : List PV}, tupsP l = true → ∀ p ∈ l, ∃ x r, p = .tup (x :: r)
  | [], _, p, h => by simp at h
  | .tup (x :: r) :: l, h, p, hp => by
    rcases List.mem_cons.mp hp with rfl | hp
    · exact ⟨x, r, rfl⟩
    · exact tupsP_of (l := l) h p hp
  | .tup [] :: l, h, p, hp => by cases h
  | .int i :: l, h, p, hp => by cases h
  | .non :: l, h, p, hp => by cases h
  | .bl _ :: l, h, p, hp => by cases h
  | .str _ :: l, h, p, hp => by cases h
  | .lst _ :: l, h, p, hp => by cases h
  | .dct _ :: l, h, p, hp => by cases h
theorem othersP_of : ∀ {l : List PV}, othersP l = true → ∀ p ∈ l, toD p ≠ .none ∧ ∀ xs, toD p ≠ .tuple xs
  | [], _, p, h => by simp at h
  | .tup r :: l, h, p, hp => by cases h
  | .non :: l, h, p, hp => by cases h
  | .int i :: l, h, p, hp => by
    rcases List.mem_cons.mp hp with rfl | hp
    · simp [toD]
    · exact othersP_of (l := l) h p hp
  | .bl _ :: l, h, p, hp => by
    rcases List.mem_cons.mp hp with rfl | hp
    · simp [toD]
    · exact othersP_of (l := l) h p hp
  | .str _ :: l, h, p, hp => by
    rcases List.mem_cons.mp hp with rfl | hp
    · simp [toD]
    · exact othersP_of (l := l) h p hp
  | .lst _ :: l, h, p, hp => by
    rcases List.mem_cons.mp hp with rfl | hp
    · simp [toD]
    · exact othersP_of (l := l) h p hp
  | .dct _ :: l, h, p, hp => by
    rcases List.mem_cons.mp hp with rfl | hp
    · simp [toD]
    · exact othersP_of (l := l) h p hp
def sortOk (l : List PV) : Bool := ordL l && (tupsP l || othersP l)
theorem sortOk_of {l : List PV} (h : sortOk l = true) : ordL l = true ∧ PySem.W.Sortable (l.map toD) := by
  simp only [sortOk, Bool.and_eq_true, Bool.or_eq_true] at h
  refine ⟨h.1, ?_⟩
  rcases h.2 with h | h
  · refine .inl fun d hd => ?_
    obtain ⟨p, hp, rfl⟩ := List.mem_map.mp hd
    obtain ⟨x, r, rfl⟩ := tupsP_of h p hp
    exact ⟨toD x, toDs r, by rw [toD, toDs]⟩
  · refine .inr fun d hd => ?_
    obtain ⟨p, hp, rfl⟩ := List.mem_map.mp hd
    exact othersP_of h p hp
theorem each_rep {K : PySem.W.Frag} {T : Addr → Prop} {H : Hp} : ∀ {vs : List V} {its : List Value} {l : List PV}, RepL K T H vs l → Vals vs its → EachIs (fun u p => ∃ v, RelV v u ∧ Rep K T H v p) its l
  | [], _, [], rl, .nil => .nil
  | [], _, _ :: _, rl, .nil => absurd rl.1 (by simp)
  | v :: vs, _, [], rl, .cons r rv => absurd rl.1 (by simp)
  | v :: vs, _, p :: l, rl, .cons r rv => .cons ⟨v, r, rl.head⟩ (each_rep rl.tail rv)
theorem rep_each {K : PySem.W.Frag} {T : Addr → Prop} {H : Hp} : ∀ {its : List Value} {l : List PV}, EachIs (fun u p => ∃ v, RelV v u ∧ Rep K T H v p) its l → ∃ vs, Vals vs its ∧ RepL K T H vs l
  | [], [], _ => ⟨[], .nil, .nil⟩
  | u :: its, p :: l, .cons ⟨v, r, rp⟩ e => let ⟨vs, rv, rl⟩ := rep_each e; ⟨v :: vs, .cons r rv, .cons rp rl⟩
theorem each_reads {K : PySem.W.Frag} {T : Addr → Prop} {H : Hp} {X : Cx} {pins : List (Addr × Obj)} {σ : L2.St} {s : Shared} (I : Inv X pins σ H s) : ∀ {its : List Value} {l : List PV}, dfreeL l = true → EachIs (fun u p => ∃ v, RelV v u ∧ Rep K T H v p) its l → EachIs (fun u p => ∃ as, Reads s.heap u (toD p) as) its l
  | [], [], _, _ => .nil
  | u :: its, p :: l, df, .cons ⟨v, r, rp⟩ e => by
    simp only [dfreeL, Bool.and_eq_true] at df
    exact .cons (rp.reads I df.1 u r) (each_reads I df.2 e)
theorem dep_mem : ∀ {l : List PV} {p : PV}, p ∈ l → dep p ≤ depL l
  | [], p, h => by simp at h
  | q :: l, p, h => by
    rw [depL]
    rcases List.mem_cons.mp h with rfl | h
    · omega
    · have := dep_mem h; omega
theorem sortV_len : ∀ l : List PV, (sortV l).length = l.length := fun l => by rw [← sortV_eq, List.length_mergeSort]

/-- a dict's keys -/
def keysP (l : List (PV × PV)) : List PV := l.map (·.1)
section
variable {X : Cx} {K : PySem.W.Frag} {T : Addr → Prop} {H : Hp}
theorem sorted_lst {k : Nat} (hr : Room k X.A) {pins : List (Addr × Obj)} {σ : L2.St} {s : Shared} (I : Inv X pins σ H s) {a : Addr} {vs : List V} {its : List Value} {l : List PV} {Q : VK} (t : TOk T H) (hl : s.heap.IsList a its.toArray) (rl : RepL X.K T H vs l) (rv : Vals vs its) (ho : sortOk l = true) (hz : vs.length ≤ sizeLine)
    (q : ∀ v H', Ext H H' → OpRes X.K T H H' (.fresh (.lst (sortV l))) v → Q v H') : wpAny (model X.prog X.w) X.A (call (.builtin "sorted") [.ref a]) (EP X pins σ Q) X.xe s := by
  obtain ⟨oo, so⟩ := sortOk_of ho
  obtain ⟨df, al, nn, dd⟩ := ordL_of oo
  refine PySem.W.sorted_data (R := fun u p => ∃ v, RelV v u ∧ Rep X.K T H v p) (enc := toD) hl (each_rep rl rv) (each_reads I df (each_rep rl rv)) ?_ so (by rw [← rl.1]; exact hz) (fun b hb => ?_) fun out hlen e => ?_
  · intro x hx y hy
    obtain ⟨p, hp, rfl⟩ := List.mem_map.mp hx
    obtain ⟨q, hq, rfl⟩ := List.mem_map.mp hy
    exact al p hp q hq
  · have := hr.un
    have h1 := dep_mem hb
    rw [toD_dep b (dfreeL_mem df b hb)]
    omega
  · rw [sortV_eq] at e
    obtain ⟨ws, rw', rl'⟩ := rep_each e
    obtain ⟨ep, he'⟩ := PyProof.Rows.sortedAll_at s.heap its out.toArray
    have hws : ws.length ≤ sizeLine := by rw [rl'.1, sortV_len, ← rl.1]; exact hz
    have hn : H (s.heap.objs.size + 1) = none := I.hok.fresh (Nat.le_succ _)
    refine ⟨.ref _, upd H (s.heap.objs.size + 1) (.lst ws), I.laid (t' := s.toks) (fun _ _ => PyProof.Rows.sortedAll_old) (Nat.le_succ _) ⟨hws, out, ep, rw', he'⟩, rfl, q _ _ (Ext.new hn) (fin_lst t hn rl')⟩
end
end Den
set_option Elab.async false
set_option linter.all false
set_option maxRecDepth 100000
set_option maxHeartbeats 4000000
/-! Den10: calls of built-ins. -/
namespace Den
open PySem L2 PyProof.Rows
open PySem.W (alike alikeAll dataLt EachIs)
section
variable {K : PySem.W.Frag} {T T' : Addr → Prop} {H H' : Hp} {X : Cx} {pins : List (Addr × Obj)} {σ : L2.St} {s : Shared}
theorem prl1 {vs : List V} {p : PV} (h : PRepL K T H vs [p]) : ∃ v, vs = [v] ∧ PRep K T H v p := by
  match vs with
  | [] => exact h.elim
  | [v] => exact ⟨v, rfl, h.1⟩
  | _ :: _ :: _ => exact h.2.elim
theorem prl2 {vs : List V} {p q : PV} (h : PRepL K T H vs [p, q]) : ∃ v w, vs = [v, w] ∧ PRep K T H v p ∧ PRep K T H w q := by
  match vs with
  | [] => exact h.elim
  | [v] => exact h.2.elim
  | [v, w] => exact ⟨v, w, rfl, h.1, h.2.1⟩
  | _ :: _ :: _ :: _ => exact h.2.2.elim
theorem repl_of {α : Type} {f : α → V} {g : α → PV} (h : ∀ a, Rep K T H (f a) (g a)) : ∀ l : List α, RepL K T H (l.map f) (l.map g)
  | [] => .nil
  | a :: l => .cons (h a) (repl_of h l)
theorem rep_key (k : L2.Key) : Rep K T H (kV k) (keyPV k) := by cases k with | inl i => exact .int i | inr x => exact .str x
theorem repK_keys : ∀ {kvs : List (L2.Key × V)} {l : List (PV × PV)}, RepK K T H kvs l → keysP l = kvs.map fun kv => keyPV kv.1
  | kvs, l, r => by
    refine List.ext_getElem? fun i => ?_
    unfold keysP
    rw [List.getElem?_map, List.getElem?_map]
    by_cases hi : i < kvs.length
    · have hl : i < l.length := by rw [← r.1]; exact hi
      rw [List.getElem?_eq_getElem hi, List.getElem?_eq_getElem hl]
      exact congrArg some (r.2.1 i _ _ (List.getElem?_eq_getElem hi) (List.getElem?_eq_getElem hl))
    · rw [List.getElem?_eq_none (by have := r.1; omega), List.getElem?_eq_none (by omega)]; rfl
theorem repT_keys : ∀ {kvs : List (List L2.Key × V)} {l : List (PV × PV)}, RepT K T H kvs l → keysP l = kvs.map fun kv => .tup (kv.1.map keyPV)
  | kvs, l, r => by
    refine List.ext_getElem? fun i => ?_
    unfold keysP
    rw [List.getElem?_map, List.getElem?_map]
    by_cases hi : i < kvs.length
    · have hl : i < l.length := by rw [← r.1]; exact hi
      rw [List.getElem?_eq_getElem hi, List.getElem?_eq_getElem hl]
      exact congrArg some (r.2.1 i _ _ (List.getElem?_eq_getElem hi) (List.getElem?_eq_getElem hl))
    · rw [List.getElem?_eq_none (by have := r.1; omega), List.getElem?_eq_none (by omega)]; rfl
theorem isKeys_rep : ∀ {kvs : List (List L2.Key × V)} {bs : List Addr}, IsKeys H kvs bs → RepL K T H (bs.map V.ref) (kvs.map fun kv => PV.tup (kv.1.map keyPV))
  | [], [], _ => .nil
  | kv :: kvs, b :: bs, .cons h t => by
    have r : RepL K T H (kv.1.map kV) (kv.1.map keyPV) := repl_of rep_key kv.1
    exact .cons (.tup h r.1 r.2) (isKeys_rep t)
/-- a dict's keys as what a walk over it brings -/
theorem dct_src (I : Inv X pins σ H s) {x : V} {l : List (PV × PV)} (hp : PRep X.K T H x (.dct l)) : ∃ a ws, x = .ref a ∧ RepL X.K T H ws (keysP l) ∧ ws.length ≤ sizeLine ∧
    (∀ (A : Around) (R : List Value → Shared → Prop) (E : Value → Shared → Prop), A.handled = none → (∀ h' tk its, (∀ b o, s.heap.get? b = some o → h'.get? b = some o) → Vals ws its → R its { s with heap := h', toks := tk }) → wpAny (model X.prog X.w) A (collect (.ref a)) R E s) := by
  obtain ⟨a, rfl, h⟩ := hp
  rcases h with ⟨kvs, hd, rk⟩ | ⟨kvs, hd, _, rk⟩
  · obtain ⟨z, lo, vs, rel, dd⟩ := dk_rd I.hok hd
    obtain ⟨ep, hat⟩ := dd.dictAt
    have ek : (kvs.map fun kv => kV kv.1) = vs.map fun p => kV p.1 := by
      have e := congrArg (List.map kV) rel.keys
      rw [List.map_map, List.map_map] at e
      exact e
    have rl : RepL X.K T H (kvs.map fun kv => kV kv.1) (keysP l) := by
      rw [repK_keys rk]
      exact repl_of (fun kv : L2.Key × V => rep_key kv.1) kvs
    refine ⟨a, _, rfl, rl, by rw [List.length_map]; exact z, fun A R E hh h => ?_⟩
    refine PySem.W.kdu_collect (PySem.W.kdl_dict (knd := mixKind X.prog X.w) (kvs := vs) (ep := ep) lo) hh hat (by rw [← rel.length]; exact z) fun h' tk acc hk hacc => ?_
    refine h h' tk acc.toList hk ?_
    rw [ek]
    exact keys_at (by rw [Array.length_toList]; exact hacc.1) fun j v e => hacc.2 j v (by rw [← Array.getElem?_toList]; exact e)
  · obtain ⟨z, hs, ks, pr, o, es, ep, ho, hx, hdt, he, hn⟩ := (show ObjOk X.prog X.w H s.heap a (.dT kvs) from hd.ok I.hok)
    have l1 : es.size = ks.length := size_of_entries he
    have l2 : kvs.length = ks.length := Paired.length pr
    have rl : RepL X.K T H ((ks.map fun x => x.2.1).map V.ref) (keysP l) := by
      rw [repT_keys rk]
      exact isKeys_rep (isKeys_of pr)
    refine ⟨a, _, rfl, rl, by rw [List.length_map, List.length_map]; omega, fun A R E hh h => ?_⟩
    refine PySem.W.kdu_collect (kdl_raw hs hx hdt) hh ho (by omega) fun h' tk acc' kp it => ?_
    refine h h' tk acc'.toList kp ?_
    have ea : acc'.toList = ks.map fun x => Value.ref x.2.1 := by
      have hl : acc'.toList.length = ks.length := by rw [Array.length_toList, it.1]; exact l1
      apply List.ext_getElem?
      intro j
      rw [List.getElem?_map]
      cases hj : acc'.toList[j]? with
      | none =>
        have h1 := List.getElem?_eq_none_iff.mp hj
        rw [List.getElem?_eq_none (by omega)]
        all_goals rfl
      | some v =>
        obtain ⟨en, hen, hv⟩ := it.2 j v (by rw [← Array.getElem?_toList]; exact hj)
        have qe := entry_at he j
        rw [hen] at qe
        cases hb : ks[j]? with
        | none =>
          rw [hb] at qe
          exact nomatch (show some en = none from qe)
        | some b =>
          rw [hb] at qe
          have e2 : en = entryOfKey (tupleKind (mixKind X.prog X.w)) b := Option.some.inj qe
          rw [hv, e2]
          all_goals rfl
    have eb : acc'.toList = (ks.map fun x => x.2.1).map Value.ref := by rw [ea, List.map_map]; all_goals rfl
    rw [eb]; exact vals_refs _
/-- sorted over what a walk brings -/
theorem sorted_coll {k : Nat} (hr : Room k X.A) (I : Inv X pins σ H s) {a : Addr} {ws : List V} {l : List PV} {Q : VK} (t : TOk T H) (rl : RepL X.K T H ws l) (hz : ws.length ≤ sizeLine) (ho : sortOk l = true)
    (src : ∀ (A : Around) (R : List Value → Shared → Prop) (E : Value → Shared → Prop), A.handled = none → (∀ h' tk its, (∀ b o, s.heap.get? b = some o → h'.get? b = some o) → Vals ws its → R its { s with heap := h', toks := tk }) → wpAny (model X.prog X.w) A (collect (.ref a)) R E s)
    (q : ∀ v H', Ext H H' → OpRes X.K T H H' (.fresh (.lst (sortV l))) v → Q v H') : wpAny (model X.prog X.w) X.A (call (.builtin "sorted") [.ref a]) (EP X pins σ Q) X.xe s := by
  obtain ⟨oo, so⟩ := sortOk_of ho
  obtain ⟨df, al, nn, dd⟩ := ordL_of oo
  refine Calls.call_function_entry PyProof.Rows.kind_sorted PyProof.Rows.plain_sorted PyProof.Rows.entry_sorted (PyProof.Rows.args_sorted1 _) ?_
  unfold Builtin.«sorted»
  refine wpAny_bind (m := checkCount "sorted" 1 1 _) (wpAny_pure ?_)
  refine wpAny_bind (src X.A.in1 _ _ hr.hd fun h' tk its hk rv => ?_)
  have I1 : Inv X pins σ H { s with heap := h', toks := tk } := I.kept hk
  have lz : its.length ≤ sizeLine := by rw [← rv.length]; exact hz
  refine wpAny_bind (wpAny_newList ?_ lz)
  have hoL : (h'.push (seqObj "list" its.toArray 0)).get? h'.objs.size = some (seqObj "list" its.toArray 0) := Heap.get?_push_size _ rfl
  have old : ∀ b o, h'.get? b = some o → (PySem.W.sortingHeap (h'.push (seqObj "list" its.toArray 0)) h'.objs.size its).get? b = some o := fun b o e =>
    PySem.W.sortingHeap_old (Nat.ne_of_lt (Heap.lt_size e)) (Heap.get?_push_of_some _ e)
  have er := each_reads I1 df (each_rep rl rv)
  have er' : EachIs (fun v p => ∃ as, Reads (PySem.W.sortingHeap (h'.push (seqObj "list" its.toArray 0)) h'.objs.size its) v (toD p) as) its l := er.mono fun _ _ ⟨as, r⟩ => ⟨as, PyProof.Rows.Reads.keeps old r⟩
  have hal : PySem.W.AllAlike (l.map toD) := by
    intro x hx y hy
    obtain ⟨p, hp, rfl⟩ := List.mem_map.mp hx
    obtain ⟨q, hq, rfl⟩ := List.mem_map.mp hy
    exact al p hp q hq
  have S := PySem.W.SortsAt.data (prog := X.prog) (w := X.w) (A := X.A.in1.in1) (s := { s with heap := PySem.W.sortingHeap (h'.push (seqObj "list" its.toArray 0)) h'.objs.size its, toks := tk })
    (PySem.W.each_map (R := fun v d => ∃ as, Reads (PySem.W.sortingHeap (h'.push (seqObj "list" its.toArray 0)) h'.objs.size its) v d as) toD er') hal so (fun d hd => by
      obtain ⟨p, hp, rfl⟩ := List.mem_map.mp hd
      have := hr.un
      have h1 := dep_mem hp
      rw [toD_dep p (dfreeL_mem df p hp)]
      show X.A.units + 1 + 1 + _ < _
      omega)
  show wpAny _ _ _ _ _ { s with heap := h'.push (seqObj "list" its.toArray 0), toks := tk }
  refine wpAny_bind (wpAny_holding (wpAny_call_entry PyProof.Rows.slot_list_sort ⟨_, hoL, rfl⟩ PyProof.Rows.entry_list_sort (PySem.W.list_sort_vals (s := { s with heap := h'.push (seqObj "list" its.toArray 0), toks := tk }) hoL S lz ⟨_, rfl, ?_⟩) (PyProof.Rows.args_list_sort _)))
  have e := PySem.W.sortVals_data (R := fun u p => ∃ v, RelV v u ∧ Rep X.K T H v p) false (each_rep rl rv) er' hal
  rw [sortV_eq] at e
  obtain ⟨ws', rw', rl'⟩ := rep_each e
  obtain ⟨e', he'⟩ := PyProof.Rows.sortedHeap_at (vs := its) (out := (PySem.W.sortVals (PySem.W.dataKind (PySem.W.sortingHeap (h'.push (seqObj "list" its.toArray 0)) h'.objs.size its) (l.map toD)) false its its).toArray) hoL
  have hws : ws'.length ≤ sizeLine := by rw [rl'.1, sortV_len, ← rl.1]; exact hz
  have hn : H h'.objs.size = none := I1.hok.fresh (Nat.le_refl _)
  refine wpAny_pure ⟨_, rfl, .ref h'.objs.size, upd H h'.objs.size (.lst ws'), I1.laid (t' := tk) (fun b u e => ?_) (Nat.le_refl _) ⟨hws, _, e', rw', he'⟩, rfl, q _ _ (Ext.new hn) (fin_lst t hn rl')⟩
  have hb : b < h'.objs.size := Heap.lt_size e
  rw [PyProof.Rows.sortedHeap_old (Nat.ne_of_lt hb) (by rw [size_push']; exact Nat.lt_succ_of_lt hb)]
  exact Heap.get?_push_of_some _ e
def sortedP : List PV → Option RV
  | [.lst l] => if sortOk l then some (.fresh (.lst (sortV l))) else none
  | [.dct l] => if sortOk (keysP l) then some (.fresh (.lst (sortV (keysP l)))) else none
  | [.tup l] => if sortOk l then some (.fresh (.lst (sortV l))) else none
  | _ => none
theorem cr_sortedP' {k : Nat} (hr : Room k X.A) : CallR X (.builtin "sorted") (rP X.K sortedP) := by
  intro pins s σ H vs us Q I rx h
  obtain ⟨T, ps, rv, t, hp, hg, q⟩ := h
  unfold sortedP at hg
  split at hg
  · rename_i l
    obtain ⟨v, rfl, hp1⟩ := prl1 hp
    obtain ⟨u, rfl, ru⟩ := vals1 rx
    split at hg
    · rename_i ho
      cases hg
      obtain ⟨a, ws, its, rfl, rl, rv, hl, hz⟩ := lst_raw I hp1
      obtain rfl : u = .ref a := ru
      exact sorted_lst hr I t hl rl rv ho hz q
    · cases hg
  · rename_i l
    obtain ⟨v, rfl, hp1⟩ := prl1 hp
    obtain ⟨u, rfl, ru⟩ := vals1 rx
    split at hg
    · rename_i ho
      cases hg
      obtain ⟨a, ws, rfl, rl, hz, src⟩ := dct_src I hp1
      obtain rfl : u = .ref a := ru
      exact sorted_coll hr I t rl hz ho src q
    · cases hg
  · rename_i l
    obtain ⟨v, rfl, hp1⟩ := prl1 hp
    obtain ⟨u, rfl, ru⟩ := vals1 rx
    split at hg
    · rename_i ho
      cases hg
      obtain ⟨a, ws, its, rfl, rl, rv, hl, hz⟩ := tup_raw I hp1
      obtain rfl : u = .ref a := ru
      refine sorted_coll hr I t rl hz ho (fun A R E hh h => ?_) q
      obtain ⟨o, ho', hc, n, hd⟩ := hl
      have hzi : its.toArray.size ≤ sizeLine := by rw [List.size_toArray, ← rv.length]; exact hz
      exact wpAny_collect_seq a (.inr rfl) ho' hc hd (fun h' hk => by rw [List.toList_toArray]; exact h h' s.toks its hk rv) hzi
    · cases hg
  · cases hg
end
end Den
set_option Elab.async false
set_option linter.all false
set_option maxRecDepth 100000
set_option maxHeartbeats 400000
/-! Den11: more built-ins. -/
namespace Den
open PySem L2 PyProof.Rows
section
variable {K : PySem.W.Frag} {T T' : Addr → Prop} {H H' : Hp} {X : Cx}
abbrev okv (H' : Hp) : Ext H' H' := fun _ _ e => e
def blsOf : List PV → Option (List Bool)
  | [] => some []
  | .bl b :: l => (blsOf l).map (b :: ·)
  | _ => none
def intsOf : List PV → Option (List Int)
  | [] => some []
  | .int b :: l => (intsOf l).map (b :: ·)
  | _ => none
theorem blsOf_eq : ∀ {l : List PV} {bs : List Bool}, blsOf l = some bs → l = bs.map .bl
  | [], bs, h => by cases h; rfl
  | .bl b :: l, bs, h => by
    simp only [blsOf, Option.map_eq_some_iff] at h
    obtain ⟨cs, h, rfl⟩ := h
    rw [blsOf_eq h]; rfl
  | .int _ :: l, bs, h => by cases h
  | .non :: l, bs, h => by cases h
  | .str _ :: l, bs, h => by cases h
  | .tup _ :: l, bs, h => by cases h
  | .lst _ :: l, bs, h => by cases h
  | .dct _ :: l, bs, h => by cases h
theorem intsOf_eq : ∀ {l : List PV} {bs : List Int}, intsOf l = some bs → l = bs.map .int
  | [], bs, h => by cases h; rfl
  | .int b :: l, bs, h => by
    simp only [intsOf, Option.map_eq_some_iff] at h
    obtain ⟨cs, h, rfl⟩ := h
    rw [intsOf_eq h]; rfl
  | .bl _ :: l, bs, h => by cases h
  | .non :: l, bs, h => by cases h
  | .str _ :: l, bs, h => by cases h
  | .tup _ :: l, bs, h => by cases h
  | .lst _ :: l, bs, h => by cases h
  | .dct _ :: l, bs, h => by cases h
theorem repl_bls : ∀ {bs : List Bool} {vs : List V}, RepL K T H vs (bs.map .bl) → vs = bs.map V.bl
  | [], vs, r => r.inv_nil
  | b :: bs, vs, r => by
    obtain ⟨v, vs', rfl, h, r'⟩ := r.inv_cons
    cases h
    rw [repl_bls r']; rfl
theorem repl_ints : ∀ {bs : List Int} {vs : List V}, RepL K T H vs (bs.map .int) → vs = bs.map V.int
  | [], vs, r => r.inv_nil
  | b :: bs, vs, r => by
    obtain ⟨v, vs', rfl, h, r'⟩ := r.inv_cons
    cases h
    rw [repl_ints r']; rfl

def lenP : List PV → Option RV
  | [.str x] => if x.length ≤ LINE then some (.val (.int (x.length : Nat))) else none
  | [.tup l] => some (.val (.int (l.length : Nat)))
  | [.lst l] => some (.val (.int (l.length : Nat)))
  | [.dct l] => some (.val (.int (l.length : Nat)))
  | _ => none
theorem cr_lenP : CallR X (.builtin "len") (rP X.K lenP) := by
  intro pins s σ H vs us Q I rx h
  obtain ⟨T, ps, rv, t, hp, hg, q⟩ := h
  unfold lenP at hg
  split at hg
  · obtain ⟨v, rfl, hp1⟩ := prl1 hp
    split at hg
    · cases hg
      rename_i hl
      obtain rfl : v = .str _ := hp1
      exact call_len pins s σ H _ _ Q I rx ⟨_, _, rfl, ⟨by rw [line_eq]; exact hl, rfl⟩, q _ H (okv H) (.int _)⟩
    · cases hg
  · obtain ⟨v, rfl, hp1⟩ := prl1 hp
    cases hg
    obtain ⟨a, ws, rfl, h1, r⟩ := hp1
    exact call_len pins s σ H _ _ Q I rx ⟨_, _, rfl, .inr ⟨ws, .inl (.inl h1), rfl⟩, q _ H (okv H) (by rw [← r.1]; exact .int _)⟩
  · obtain ⟨v, rfl, hp1⟩ := prl1 hp
    cases hg
    obtain ⟨a, ws, rfl, h1, r⟩ := hp1
    exact call_len pins s σ H _ _ Q I rx ⟨_, _, rfl, .inl ⟨ws, .inl (.inl h1), rfl⟩, q _ H (okv H) (by rw [← r.1]; exact .int _)⟩
  · obtain ⟨v, rfl, hp1⟩ := prl1 hp
    cases hg
    obtain ⟨a, rfl, ⟨kvs, h1, r⟩ | ⟨kvs, h1, _, r⟩⟩ := hp1
    · obtain ⟨u, rfl, ru⟩ := vals1 rx
      cases ru
      refine d_len I h1 fun t s' I' => ⟨.int kvs.length, H, I', ⟨t, rfl⟩, ?_⟩
      exact q _ H (okv H) (by rw [← r.1]; exact .int _)
    · obtain ⟨u, rfl, ru⟩ := vals1 rx
      obtain rfl : u = .ref a := ru
      obtain ⟨z, hd, ys, rel, dd⟩ := dt_rd I.hok h1
      have hl : kvs.length = ys.length := Paired.length rel
      refine call_len_dictH hd dd (by rw [← hl]; rw [sizeLine_eq] at z; omega) ?_
      rw [← hl]
      exact ⟨.int ((kvs.length : Nat) : Int), H, I.tok _, ⟨_, rfl⟩, q _ H (okv H) (by rw [← r.1]; exact .int _)⟩
  · cases hg
def allP : List PV → Option RV
  | [.lst l] => (blsOf l).map fun bs => .val (.bl (bs.all id))
  | _ => none
def anyP : List PV → Option RV
  | [.lst l] => (blsOf l).map fun bs => .val (.bl (bs.any id))
  | _ => none
def sumP : List PV → Option RV
  | [.lst l] => (intsOf l).map fun bs => .val (.int bs.sum)
  | _ => none
theorem cr_allP (hc : X.calm = true) : CallR X (.builtin "all") (rP X.K allP) := by
  intro pins s σ H vs us Q I rx h
  obtain ⟨T, ps, rv, t, hp, hg, q⟩ := h
  unfold allP at hg
  split at hg
  · obtain ⟨v, rfl, hp1⟩ := prl1 hp
    simp only [Option.map_eq_some_iff] at hg
    obtain ⟨bs, hb, rfl⟩ := hg
    rw [blsOf_eq hb] at hp1
    obtain ⟨a, ws, rfl, h1, r⟩ := hp1
    obtain rfl := repl_bls r
    exact cr_all hc pins s σ H _ _ Q I rx ⟨_, bs, rfl, .inl (.inl h1), q _ H (okv H) (.bl _)⟩
  · cases hg
theorem cr_anyP (hc : X.calm = true) : CallR X (.builtin "any") (rP X.K anyP) := by
  intro pins s σ H vs us Q I rx h
  obtain ⟨T, ps, rv, t, hp, hg, q⟩ := h
  unfold anyP at hg
  split at hg
  · obtain ⟨v, rfl, hp1⟩ := prl1 hp
    simp only [Option.map_eq_some_iff] at hg
    obtain ⟨bs, hb, rfl⟩ := hg
    rw [blsOf_eq hb] at hp1
    obtain ⟨a, ws, rfl, h1, r⟩ := hp1
    obtain rfl := repl_bls r
    exact cr_any hc pins s σ H _ _ Q I rx ⟨_, bs, rfl, .inl (.inl h1), q _ H (okv H) (.bl _)⟩
  · cases hg
theorem cr_sumP (hc : X.calm = true) : CallR X (.builtin "sum") (rP X.K sumP) := by
  intro pins s σ H vs us Q I rx h
  obtain ⟨T, ps, rv, t, hp, hg, q⟩ := h
  unfold sumP at hg
  split at hg
  · obtain ⟨v, rfl, hp1⟩ := prl1 hp
    simp only [Option.map_eq_some_iff] at hg
    obtain ⟨bs, hb, rfl⟩ := hg
    rw [intsOf_eq hb] at hp1
    obtain ⟨a, ws, rfl, h1, r⟩ := hp1
    obtain rfl := repl_ints r
    exact cr_sum hc pins s σ H _ _ Q I rx ⟨_, bs, rfl, .inl (.inl h1), q _ H (okv H) (.int _)⟩
  · cases hg
def absP : List PV → Option RV
  | [.int i] => some (.val (.int (if i < 0 then -i else i)))
  | _ => none
theorem cr_absP : CallR X (.builtin "abs") (rP X.K absP) := by
  intro pins s σ H vs us Q I rx h
  obtain ⟨T, ps, rv, t, hp, hg, q⟩ := h
  unfold absP at hg
  split at hg
  · obtain ⟨v, rfl, hp1⟩ := prl1 hp
    obtain rfl : v = .int _ := hp1
    cases hg
    exact call_abs pins s σ H _ _ Q I rx ⟨_, rfl, q _ H (okv H) (.int _)⟩
  · cases hg
def intP : List PV → Option RV
  | [.int i] => some (.val (.int i))
  | [.bl b] => some (.val (.int (if b = true then 1 else 0)))
  | _ => none
theorem cr_intP : CallR X (.type "int") (rP X.K intP) := by
  intro pins s σ H vs us Q I rx h
  obtain ⟨T, ps, rv, t, hp, hg, q⟩ := h
  unfold intP at hg
  split at hg
  · obtain ⟨v, rfl, hp1⟩ := prl1 hp
    obtain rfl : v = .int _ := hp1
    cases hg
    exact call_int1 pins s σ H _ _ Q I rx (.inl ⟨_, rfl, q _ H (okv H) (.int _)⟩)
  · obtain ⟨v, rfl, hp1⟩ := prl1 hp
    obtain rfl : v = .bl _ := hp1
    cases hg
    exact call_int1 pins s σ H _ _ Q I rx (.inr ⟨_, rfl, q _ H (okv H) (.int _)⟩)
  · cases hg
def strI (i : Int) : Str := Str.ofString (toString i)
def strP : List PV → Option RV
  | [.int i] => if i.natAbs < 2 ^ 64 then some (.val (.str (strI i))) else none
  | _ => none
theorem log2_lt64 {n : Nat} (h : n < 2 ^ 64) : n.log2 < 1920 := by
  by_cases h0 : n = 0
  · subst h0; decide
  · have := (Nat.log2_lt h0).mpr h; omega
theorem cr_strP : CallR X (.type "str") (rP X.K strP) := by
  intro pins s σ H vs us Q I rx h
  obtain ⟨T, ps, rv, t, hp, hg, q⟩ := h
  unfold strP at hg
  split at hg
  · obtain ⟨v, rfl, hp1⟩ := prl1 hp
    obtain rfl : v = .int _ := hp1
    split at hg
    · cases hg
      rename_i hl
      exact call_str_int pins s σ H _ _ Q I rx ⟨_, rfl, log2_lt64 hl, q _ H (okv H) (.str _)⟩
    · cases hg
  · cases hg
def listP : List PV → Option RV
  | [.lst l] => some (.fresh (.lst l))
  | [.tup l] => some (.fresh (.lst l))
  | [.dct l] => some (.fresh (.lst (keysP l)))
  | _ => none
theorem cr_listP (hc : X.calm = true) : CallR X (.type "list") (rP X.K listP) := by
  intro pins s σ H vs us Q I rx h
  obtain ⟨T, ps, rv, t, hp, hg, q⟩ := h
  unfold listP at hg
  split at hg
  · obtain ⟨v, rfl, hp1⟩ := prl1 hp
    cases hg
    obtain ⟨a, ws, rfl, h1, r⟩ := hp1
    exact call_list_of pins s σ H _ _ Q I rx ⟨_, ws, rfl, .inl (.inl (.inl h1)), fun l hl => q _ _ (Ext.new hl) (fin_lst t hl r)⟩
  · obtain ⟨v, rfl, hp1⟩ := prl1 hp
    cases hg
    obtain ⟨a, ws, rfl, h1, r⟩ := hp1
    exact call_list_of pins s σ H _ _ Q I rx ⟨_, ws, rfl, .inr (.inl (.inl h1)), fun l hl => q _ _ (Ext.new hl) (fin_lst t hl r)⟩
  · obtain ⟨v, rfl, hp1⟩ := prl1 hp
    cases hg
    obtain ⟨a, rfl, ⟨kvs, h1, r⟩ | ⟨kvs, h1, _, r⟩⟩ := hp1
    · exact call_listD hc pins s σ H _ _ Q I rx ⟨_, kvs, rfl, h1, fun l hl => q _ _ (Ext.new hl) (fin_lst t hl (by rw [repK_keys r]; exact repl_of (fun kv : L2.Key × V => rep_key kv.1) kvs))⟩
    · exact call_list_dT hc pins s σ H _ _ Q I rx ⟨_, kvs, rfl, h1, fun l bs hl hb => q _ _ (Ext.new hl) (fin_lst t hl (by rw [repT_keys r]; exact isKeys_rep hb))⟩
  · cases hg
def tupleP : List PV → Option RV
  | [.lst l] => some (.val (.tup l))
  | [.tup l] => some (.val (.tup l))
  | _ => none
theorem cr_tupleP : CallR X (.type "tuple") (rP X.K tupleP) := by
  intro pins s σ H vs us Q I rx h
  obtain ⟨T, ps, rv, t, hp, hg, q⟩ := h
  unfold tupleP at hg
  split at hg
  · obtain ⟨v, rfl, hp1⟩ := prl1 hp
    cases hg
    obtain ⟨a, ws, rfl, h1, r⟩ := hp1
    exact call_tuple_of pins s σ H _ _ Q I rx ⟨_, ws, rfl, .inl ⟨.inl (.inl h1), fun l hl => q _ _ (Ext.new hl) (fin_tup t hl r)⟩⟩
  · obtain ⟨v, rfl, hp1⟩ := prl1 hp
    cases hg
    obtain ⟨a, ws, rfl, h1, r⟩ := hp1
    exact call_tuple_of pins s σ H _ _ Q I rx ⟨_, ws, rfl, .inr ⟨.inl (.inl h1), q _ H (okv H) (.tup h1 r.1 r.2)⟩⟩
  · cases hg
end
end Den
set_option Elab.async false
set_option linter.all false
set_option maxRecDepth 100000
set_option maxHeartbeats 400000
/-! Den12: composing readings; calls of built-ins, tests, and, or, not, if-else, displays. -/
namespace Den
open PySem L2 PyProof.Rows

def Gv (G : Wd) (W : WX) (O : Addr → Prop) (S : AS) (σ : L2.St) (H : Hp) (r : R RV) (Q : VK) : Prop := match r with
  | .ok r S' => ∀ v H', Step O S S' σ H H' → Res G.K O S' σ H H' r v → Q v H'
  | .exc c p S' => ∀ cls dd H', Step O S S' σ H H' → SRel G.K O S' σ H' → ExcRel G (Tot O S' σ) H' c p cls dd → W cls dd σ H'
  | .bad => False
def GvT (G : Wd) (W : WX) (O : Addr → Prop) (S : AS) (σ : L2.St) (H : Hp) (r : R Bool) (Q : Bool → Hp → Prop) : Prop := match r with
  | .ok b S' => ∀ H', Step O S S' σ H H' → SRel G.K O S' σ H' → Q b H'
  | .exc c p S' => ∀ cls dd H', Step O S S' σ H H' → SRel G.K O S' σ H' → ExcRel G (Tot O S' σ) H' c p cls dd → W cls dd σ H'
  | .bad => False
section
variable {G : Wd} {c : Cs} {k : Nat} {W : WX} {O : Addr → Prop} {σ : L2.St} {S S1 S' : AS} {H H1 H' : Hp} {X : Cx} {e : Expr}
theorem sem_iff {d : AS → R RV} {Q : VK} : tSem G W d σ H Q ↔ ∃ O S, SRel G.K O S σ H ∧ Gv G W O S σ H (d S) Q := Iff.rfl
theorem semT_iff {d : AS → R Bool} {Q : Bool → Hp → Prop} : tSemT G W d σ H Q ↔ ∃ O S, SRel G.K O S σ H ∧ GvT G W O S σ H (d S) Q := Iff.rfl
theorem Res.back {r : RV} {v : V} {K : PySem.W.Frag} (st : Step O S S1 σ H H1) (h : Res K O S' σ H1 H' r v) : Res K O S' σ H H' r v := by
  cases r with
  | val p => exact h
  | fresh p =>
    obtain ⟨a, e, n, h⟩ := h
    refine ⟨a, e, ?_, h⟩
    cases z : H a with
    | none => rfl
    | some u => exact (st.th a (by rw [z]; exact fun q => nomatch q) n).elim
/-- on from a later state -/
theorem Gv.then {r : R RV} {Q : VK} (st : Step O S S1 σ H H1) (h : Gv G W O S σ H r Q) : Gv G W O S1 σ H1 r Q := by
  cases r with
  | ok r S' => exact fun v H' st' res => h v H' (st.trans st') (res.back st)
  | exc x p S' => exact fun cls dd H' st' s' ex => h cls dd H' (st.trans st') s' ex
  | bad => exact h
theorem GvT.then {r : R Bool} {Q : Bool → Hp → Prop} (st : Step O S S1 σ H H1) (h : GvT G W O S σ H r Q) : GvT G W O S1 σ H1 r Q := by
  cases r with
  | ok r S' => exact fun H' st' res => h H' (st.trans st') res
  | exc x p S' => exact fun cls dd H' st' s' ex => h cls dd H' (st.trans st') s' ex
  | bad => exact h
theorem sem_of {d : AS → R RV} {Q : VK} (s : SRel G.K O S σ H) (h : Gv G W O S σ H (d S) Q) : tSem G W d σ H Q := ⟨O, S, s, h⟩
theorem semT_of {d : AS → R Bool} {Q : Bool → Hp → Prop} (s : SRel G.K O S σ H) (h : GvT G W O S σ H (d S) Q) : tSemT G W d σ H Q := ⟨O, S, s, h⟩
/-- one rule or another -/
theorem pe_orT {t1 t2 : TE} (h1 : PE X e t1) (h2 : PE X e t2) : PE X e (fun σ H Q => t1 σ H Q ∨ t2 σ H Q) := ⟨fun pins s σ H Q I z => z.elim (h1.run pins s σ H Q I) (h2.run pins s σ H Q I)⟩
theorem dOp_or {f f1 f2 : List PV → Option RV} {ops : List Opd} {Q : VK} (h : ∀ ps rv, f ps = some rv → f1 ps = some rv ∨ f2 ps = some rv) (z : tSem G W (dOp f ops) σ H Q) : tSem G W (dOp f1 ops) σ H Q ∨ tSem G W (dOp f2 ops) σ H Q := by
  obtain ⟨O, S, s, z⟩ := z
  unfold dOp at z
  cases e : evs ops S with
  | ok ps S' =>
    simp only [e] at z
    cases e1 : f ps with
    | none => simp only [e1] at z
    | some rv =>
      simp only [e1] at z
      rcases h ps rv e1 with e2 | e2
      · refine .inl (sem_of s ?_)
        simp only [dOp, e, e2]
        exact z
      · refine .inr (sem_of s ?_)
        simp only [dOp, e, e2]
        exact z
  | exc x p S' =>
    simp only [e] at z
    refine .inl (sem_of s ?_)
    simp only [dOp, e]
    exact z
  | bad => simp only [e] at z
theorem se_or {f f1 f2 : List PV → Option RV} {ops : List Opd} (h1 : SE G c k e (dOp f1 ops)) (h2 : SE G c k e (dOp f2 ops)) (h : ∀ ps rv, f ps = some rv → f1 ps = some rv ∨ f2 ps = some rv) : SE G c k e (dOp f ops) := fun X W g tk =>
  pe_of (pe_orT (h1 X W g tk) (h2 X W g tk)) fun _ _ _ z => dOp_or h z
theorem rP_mono {f : List PV → Option RV} {vs : List V} {Q Q' : VK} (h : rP G.K f vs H Q) (m : ∀ v H', Q v H' → Q' v H') : rP G.K f vs H Q' :=
  let ⟨T, ps, rv, t, hp, hg, q⟩ := h
  ⟨T, ps, rv, t, hp, hg, fun v H' e r => m _ _ (q v H' e r)⟩
end

/-! ### calls of built-ins -/
/-- x is the name of a built-in -/
structure Bi (G : Wd) (c : Cs) (x : Str) (u : Value) : Prop where
  gl : c.sc.names.lookup x = some .globalImplicit
  mg : G.mg x = none
  bb : bootBuiltins x = some u
  n1 : x ≠ Str.ofString "__name__"
  n2 : (x == ("__debug__" : Str)) = false
section
variable {G : Wd} {c : Cs} {k : Nat} {X : Cx} {x : Str} {id : String} {p pos : Pos} {e : Expr} {es : List Expr} {ops : List Opd}
abbrev StarOk (e : Expr) (es : List Expr) : Prop := ∀ env, starEach (e :: es) env = (false, eval e env) :: starEach es env
abbrev BackOk (pos : Pos) (es : List Expr) : Prop := ∀ env, ((backTo pos (starEach es env)).any fun x => x.fst) = false
theorem se_callB {f : List PV → Option RV} (b : Bi G c x (.builtin id)) (hr : ∀ X, Good G c k X → CallR X (.builtin id) (rP X.K f)) (ha : SA G c k (e :: es) ops)
    (h1 : StarOk e es := by intro _; rfl) (h2 : BackOk pos es := by intro _; rfl) : SE G c k (.Call (.Name x p) (e :: es) [] pos) (dOp f ops) := fun X W g tk => by
  have g' := g
  obtain ⟨rfl, hN, hs, _⟩ := g
  exact pe_of (pe_callB (hr X g') (show X.env.scope.names.lookup x = some .globalImplicit by rw [hs]; exact b.gl) b.mg b.bb (ha X W g' tk) b.n1 b.n2 (h1 _) (h2 _)) fun σ H Q h => sem_rP h
theorem se_callT {f : List PV → Option RV} (b : Bi G c x (.type id)) (hr : ∀ X, Good G c k X → CallR X (.type id) (rP X.K f)) (ha : SA G c k (e :: es) ops)
    (h1 : StarOk e es := by intro _; rfl) (h2 : BackOk pos es := by intro _; rfl) : SE G c k (.Call (.Name x p) (e :: es) [] pos) (dOp f ops) := fun X W g tk => by
  have g' := g
  obtain ⟨rfl, hN, hs, _⟩ := g
  exact pe_of (pe_callTy (hr X g') (show X.env.scope.names.lookup x = some .globalImplicit by rw [hs]; exact b.gl) b.mg b.bb (ha X W g' tk) b.n1 b.n2 (h1 _) (h2 _)) fun σ H Q h => sem_rP h
theorem g_hd (g : Good G c k X) : Room k X.A := g.room
theorem se_len (b : Bi G c x (.builtin "len")) (ha : SA G c k [e] ops) (h1 : StarOk e [] := by intro _; rfl) (h2 : BackOk pos [] := by intro _; rfl) : SE G c k (.Call (.Name x p) [e] [] pos) (dOp lenP ops) := se_callB b (fun X g => cr_lenP) ha h1 h2
theorem se_all (b : Bi G c x (.builtin "all")) (ha : SA G c k [e] ops) (h1 : StarOk e [] := by intro _; rfl) (h2 : BackOk pos [] := by intro _; rfl) : SE G c k (.Call (.Name x p) [e] [] pos) (dOp allP ops) := se_callB b (fun X g => cr_allP g.calm) ha h1 h2
theorem se_any (b : Bi G c x (.builtin "any")) (ha : SA G c k [e] ops) (h1 : StarOk e [] := by intro _; rfl) (h2 : BackOk pos [] := by intro _; rfl) : SE G c k (.Call (.Name x p) [e] [] pos) (dOp anyP ops) := se_callB b (fun X g => cr_anyP g.calm) ha h1 h2
theorem se_sum (b : Bi G c x (.builtin "sum")) (ha : SA G c k [e] ops) (h1 : StarOk e [] := by intro _; rfl) (h2 : BackOk pos [] := by intro _; rfl) : SE G c k (.Call (.Name x p) [e] [] pos) (dOp sumP ops) := se_callB b (fun X g => cr_sumP g.calm) ha h1 h2
theorem se_abs (b : Bi G c x (.builtin "abs")) (ha : SA G c k [e] ops) (h1 : StarOk e [] := by intro _; rfl) (h2 : BackOk pos [] := by intro _; rfl) : SE G c k (.Call (.Name x p) [e] [] pos) (dOp absP ops) := se_callB b (fun X g => cr_absP) ha h1 h2
theorem se_min (b : Bi G c x (.builtin "min")) (ha : SA G c k (e :: es) ops) (h1 : StarOk e es := by intro _; rfl) (h2 : BackOk pos es := by intro _; rfl) : SE G c k (.Call (.Name x p) (e :: es) [] pos) (dOp minP ops) := se_callB b (fun X g => cr_minP g.room g.calm) ha h1 h2
theorem se_max (b : Bi G c x (.builtin "max")) (ha : SA G c k (e :: es) ops) (h1 : StarOk e es := by intro _; rfl) (h2 : BackOk pos es := by intro _; rfl) : SE G c k (.Call (.Name x p) (e :: es) [] pos) (dOp maxP ops) := se_callB b (fun X g => cr_maxP g.room g.calm) ha h1 h2
theorem se_sorted (b : Bi G c x (.builtin "sorted")) (ha : SA G c k [e] ops) (h1 : StarOk e [] := by intro _; rfl) (h2 : BackOk pos [] := by intro _; rfl) : SE G c k (.Call (.Name x p) [e] [] pos) (dOp sortedP ops) := se_callB b (fun X g => cr_sortedP' g.room) ha h1 h2
theorem se_intc (b : Bi G c x (.type "int")) (ha : SA G c k [e] ops) (h1 : StarOk e [] := by intro _; rfl) (h2 : BackOk pos [] := by intro _; rfl) : SE G c k (.Call (.Name x p) [e] [] pos) (dOp intP ops) := se_callT b (fun X g => cr_intP) ha h1 h2
theorem se_strc (b : Bi G c x (.type "str")) (ha : SA G c k [e] ops) (h1 : StarOk e [] := by intro _; rfl) (h2 : BackOk pos [] := by intro _; rfl) : SE G c k (.Call (.Name x p) [e] [] pos) (dOp strP ops) := se_callT b (fun X g => cr_strP) ha h1 h2
theorem se_listc (b : Bi G c x (.type "list")) (ha : SA G c k [e] ops) (h1 : StarOk e [] := by intro _; rfl) (h2 : BackOk pos [] := by intro _; rfl) : SE G c k (.Call (.Name x p) [e] [] pos) (dOp listP ops) := se_callT b (fun X g => cr_listP g.calm) ha h1 h2
theorem se_tuplec (b : Bi G c x (.type "tuple")) (ha : SA G c k [e] ops) (h1 : StarOk e [] := by intro _; rfl) (h2 : BackOk pos [] := by intro _; rfl) : SE G c k (.Call (.Name x p) [e] [] pos) (dOp tupleP ops) := se_callT b (fun X g => cr_tupleP) ha h1 h2
end

/-! ### tests -/
def dB (d : AS → R RV) : AS → R Bool := fun S => match d S with
  | .ok (.val (.bl b)) S' => .ok b S'
  | .exc x p S' => .exc x p S'
  | _ => .bad
def dAnd (d1 d2 : AS → R Bool) : AS → R Bool := fun S => match d1 S with
  | .ok true S' => d2 S'
  | r => r
def dOr (d1 d2 : AS → R Bool) : AS → R Bool := fun S => match d1 S with
  | .ok false S' => d2 S'
  | r => r
def dNot (d : AS → R Bool) : AS → R Bool := fun S => match d S with
  | .ok b S' => .ok (!b) S'
  | r => r
def dIf (t : AS → R Bool) (a b : AS → R RV) : AS → R RV := fun S => match t S with
  | .ok true S' => a S'
  | .ok false S' => b S'
  | .exc x p S' => .exc x p S'
  | .bad => .bad
def dAndV (d1 d2 : AS → R RV) : AS → R RV := dIf (dB d1) d2 (dC (.bl false))
def dOrV (d1 d2 : AS → R RV) : AS → R RV := dIf (dB d1) (dC (.bl true)) d2
def dNotV (d1 : AS → R RV) : AS → R RV := dIf (dB d1) (dC (.bl false)) (dC (.bl true))
section
variable {G : Wd} {c : Cs} {k : Nat} {W : WX} {O : Addr → Prop} {σ : L2.St} {S S1 S' : AS} {H H1 H' : Hp} {X : Cx} {e a b : Expr} {pos : Pos}
theorem sem_B {d : AS → R RV} {Q : Bool → Hp → Prop} (h : tSemT G W (dB d) σ H Q) : tSem G W d σ H (fun v H1 => ∃ b, v = .bl b ∧ Q b H1) := by
  obtain ⟨O, S, s, h⟩ := h
  unfold dB at h
  refine tSem.mk s (fun r S' e v H' st res => ?_) (fun x p S' e => ?_) (fun e => ?_)
  · simp only [e] at h
    cases r with
    | fresh p => simp only at h
    | val p =>
      cases p <;> simp only at h
      cases res.2
      exact ⟨_, rfl, h _ st res.1⟩
  · simp only [e] at h; exact h
  · simp only [e] at h
theorem sem_if {t : AS → R Bool} {d1 d2 : AS → R RV} {Q : VK} (h : tSem G W (dIf t d1 d2) σ H Q) : tSemT G W t σ H (fun b H1 => if b = true then tSem G W d1 σ H1 Q else tSem G W d2 σ H1 Q) := by
  obtain ⟨O, S, s, h⟩ := h
  have h : Gv G W O S σ H (dIf t d1 d2 S) Q := h
  unfold dIf at h
  refine tSemT.mk s (fun b S' e H' st s' => ?_) (fun x p S' e => ?_) (fun e => ?_)
  · cases b with
    | true => simp only [e] at h; simp only [if_true]; exact sem_of s' (h.then st)
    | false => simp only [e] at h; simp only [Bool.false_eq_true, if_false]; exact sem_of s' (h.then st)
  · simp only [e] at h; exact h
  · simp only [e] at h; exact h
theorem semT_and {t u : AS → R Bool} {Q : Bool → Hp → Prop} (h : tSemT G W (dAnd t u) σ H Q) : tSemT G W t σ H (fun b H1 => if b = true then tSemT G W u σ H1 Q else Q false H1) := by
  obtain ⟨O, S, s, h⟩ := h
  have h : GvT G W O S σ H (dAnd t u S) Q := h
  unfold dAnd at h
  refine tSemT.mk s (fun b S' e H' st s' => ?_) (fun x p S' e => ?_) (fun e => ?_)
  · cases b with
    | true => simp only [e] at h; simp only [if_true]; exact semT_of s' (h.then st)
    | false => simp only [e] at h; simp only [Bool.false_eq_true, if_false]; exact h H' st s'
  · simp only [e] at h; exact h
  · simp only [e] at h; exact h
theorem semT_or {t u : AS → R Bool} {Q : Bool → Hp → Prop} (h : tSemT G W (dOr t u) σ H Q) : tSemT G W t σ H (fun b H1 => if b = true then Q true H1 else tSemT G W u σ H1 Q) := by
  obtain ⟨O, S, s, h⟩ := h
  have h : GvT G W O S σ H (dOr t u S) Q := h
  unfold dOr at h
  refine tSemT.mk s (fun b S' e H' st s' => ?_) (fun x p S' e => ?_) (fun e => ?_)
  · cases b with
    | true => simp only [e] at h; simp only [if_true]; exact h H' st s'
    | false => simp only [e] at h; simp only [Bool.false_eq_true, if_false]; exact semT_of s' (h.then st)
  · simp only [e] at h; exact h
  · simp only [e] at h; exact h
theorem semT_not {t : AS → R Bool} {Q : Bool → Hp → Prop} (h : tSemT G W (dNot t) σ H Q) : tSemT G W t σ H (fun b H1 => Q (!b) H1) := by
  obtain ⟨O, S, s, h⟩ := h
  have h : GvT G W O S σ H (dNot t S) Q := h
  unfold dNot at h
  refine tSemT.mk s (fun b S' e H' st s' => ?_) (fun x p S' e => ?_) (fun e => ?_)
  · simp only [e] at h; exact h H' st s'
  · simp only [e] at h; exact h
  · simp only [e] at h; exact h
abbrev ValOk (e : Expr) : Prop := ∀ env (whole : Sem Value), isTrue e env whole = do
  let v ← whole
  standAt e.pos
  holding [v] (truthy v)
theorem st_val {d : AS → R RV} (h : SE G c k e d) (hv : ValOk e := by intro _ _; rfl) : ST G c k e (dB d) := fun X W g tk => by
  have := pt_val (h X W g tk) (fun w => hv X.env w)
  exact ⟨fun pins s σ H Q I z => this.run pins s σ H Q I (sem_B z)⟩
theorem st_of {t t' : L2.TT} (h : PT X e t) (i : ∀ σ H Q, t' σ H Q → t σ H Q) : PT X e t' := pt_of h i
/-- pieces of and, or -/
def SW (G : Wd) (c : Cs) (k : Nat) (e : Expr) (d : AS → R Bool) : Prop := ∀ X W, Good G c k X → Takes X W → PW X e (tSemT G W d)
theorem pw_of {t t' : L2.TT} (h : PW X e t) (i : ∀ σ H Q, t' σ H Q → t σ H Q) : PW X e t' := ⟨fun w pins s σ H Q I z => h.run w pins s σ H Q I (i σ H Q z)⟩
theorem sw_st {d : AS → R Bool} (h : SW G c k e d) : ST G c k e d := fun X W g tk => (h X W g tk).pt
theorem sw_and1 {d : AS → R Bool} (h : ST G c k a d) : SW G c k (.BoolOp .And [a] pos) d := fun X W g tk => pw_and1 (h X W g tk)
theorem sw_or1 {d : AS → R Bool} (h : ST G c k a d) : SW G c k (.BoolOp .Or [a] pos) d := fun X W g tk => pw_or1 (h X W g tk)
theorem sw_and {d1 d2 : AS → R Bool} {rest : List Expr} (h : ST G c k a d1) (r : SW G c k (.BoolOp .And (b :: rest) pos) d2) : SW G c k (.BoolOp .And (a :: b :: rest) pos) (dAnd d1 d2) := fun X W g tk =>
  pw_of (pw_and (h X W g tk) (r X W g tk)) fun _ _ _ z => semT_and z
theorem sw_or {d1 d2 : AS → R Bool} {rest : List Expr} (h : ST G c k a d1) (r : SW G c k (.BoolOp .Or (b :: rest) pos) d2) : SW G c k (.BoolOp .Or (a :: b :: rest) pos) (dOr d1 d2) := fun X W g tk =>
  pw_of (pw_or (h X W g tk) (r X W g tk)) fun _ _ _ z => semT_or z
theorem st_not {d : AS → R Bool} (h : ST G c k a d) : ST G c k (.UnaryOp .Not a pos) (dNot d) := fun X W g tk => pt_of (pt_not (h X W g tk)) fun _ _ _ z => semT_not z
theorem st_cmp {op : CmpOp} {f : List PV → Option RV} {A B : Opd} (ho : ∀ X, Good G c k X → OpR X (compareOp op) (rP2 G.K f)) (ha : SO G c k a A) (hb : SO G c k b B) (hm : behindInMarks op b = false := by rfl) : ST G c k (.Compare a [op] [b] pos) (dB (dOp f [A, B])) := fun X W g tk =>
  pt_of (pt_cmpR (ho X g) (ha X W g tk) (hb X W g tk) hm) fun σ H Q z => sem_rP (ops := [A, B]) (sem_B z)
theorem se_if {t : AS → R Bool} {d1 d2 : AS → R RV} {x : Expr} (ht : ST G c k x t) (h1 : SE G c k a d1) (h2 : SE G c k b d2) : SE G c k (.IfExp x a b pos) (dIf t d1 d2) := fun X W g tk =>
  pe_of (pe_ifExp (ht X W g tk) (h1 X W g tk) (h2 X W g tk)) fun _ _ _ z => sem_if z
/-- a bool made in the state that stands -/
theorem sem_if_c {d : AS → R RV} {d1 d2 : AS → R RV} {Q : VK} (h : tSem G W (dIf (dB d) d1 d2) σ H Q) : tSem G W d σ H (fun v H1 => ∃ b, v = .bl b ∧ if b = true then tSem G W d1 σ H1 Q else tSem G W d2 σ H1 Q) := sem_B (sem_if h)
theorem sem_c {p : PV} {v : V} {Q : VK} (r : ∀ T H, Rep G.K T H v p) (h : tSem G W (dC p) σ H Q) : Q v H := by
  obtain ⟨O, S, s, h⟩ := h
  exact h v H .refl ⟨s, r _ _⟩
theorem se_and {d1 d2 : AS → R RV} {rest : List Expr} (h : SE G c k a d1) (r : SE G c k (.BoolOp .And (b :: rest) pos) d2) : SE G c k (.BoolOp .And (a :: b :: rest) pos) (dAndV d1 d2) := fun X W g tk =>
  pe_of (pe_and (h X W g tk) (r X W g tk)) fun σ H Q z => tSem_mono (sem_if_c z) fun v H' ⟨b, e, q⟩ => ⟨b, e, by
    cases b with
    | true => simpa using q
    | false => simp only [Bool.false_eq_true, if_false] at q ⊢; exact sem_c (fun _ _ => .bl _) q⟩
theorem se_or' {d1 d2 : AS → R RV} {rest : List Expr} (h : SE G c k a d1) (r : SE G c k (.BoolOp .Or (b :: rest) pos) d2) : SE G c k (.BoolOp .Or (a :: b :: rest) pos) (dOrV d1 d2) := fun X W g tk =>
  pe_of (pe_or (h X W g tk) (r X W g tk)) fun σ H Q z => tSem_mono (sem_if_c z) fun v H' ⟨b, e, q⟩ => ⟨b, e, by
    cases b with
    | true => simp only [if_true] at q ⊢; exact sem_c (fun _ _ => .bl _) q
    | false => simpa using q⟩
theorem se_one {op : BoolOp} {d : AS → R RV} (h : SE G c k a d) : SE G c k (.BoolOp op [a] pos) d := fun X W g tk => pe_one (h X W g tk)
theorem se_not {d : AS → R RV} (h : SE G c k a d) : SE G c k (.UnaryOp .Not a pos) (dNotV d) := fun X W g tk =>
  pe_of (pe_not (h X W g tk)) fun σ H Q z => tSem_mono (sem_if_c z) fun v H' ⟨b, e, q⟩ => ⟨b, e, by
    cases b with
    | true => simp only [if_true] at q; exact sem_c (fun _ _ => .bl _) q
    | false => simp only [Bool.false_eq_true, if_false] at q; exact sem_c (fun _ _ => .bl _) q⟩
end
end Den
set_option Elab.async false
set_option linter.all false
set_option maxRecDepth 100000
set_option maxHeartbeats 400000
/-! Den13: chains, is None, isinstance, items, slices, tuple and list displays. -/
namespace Den
open PySem L2 PyProof.Rows
/-! chains a op b op' c: b an int -/
def dChain (f f' : List PV → Option RV) (A B C : Opd) : AS → R RV := fun S => match evs [A, B] S with
  | .ok [p, .int j] S1 => match f [p, .int j] with
    | some (.val (.bl true)) => match evs [C] S1 with
      | .ok [r] S2 => match f' [.int j, r] with
        | some (.val (.bl b)) => .ok (.val (.bl b)) S2
        | _ => .bad
      | .exc x p S2 => .exc x p S2
      | _ => .bad
    | some (.val (.bl false)) => .ok (.val (.bl false)) S1
    | _ => .bad
  | .exc x p S1 => .exc x p S1
  | _ => .bad
section
variable {G : Wd} {c : Cs} {k : Nat} {W : WX} {O : Addr → Prop} {σ : L2.St} {S S1 S' : AS} {H H1 H' : Hp} {X : Cx} {e a b : Expr} {pos : Pos} {A B C : Opd}
theorem sem_chain {f f' : List PV → Option RV} {Q : VK} (h : tSem G W (dChain f f' A B C) σ H Q) : tOpds G W [A, B] σ H (fun vs H1 => ∃ x y, vs = [x, y] ∧ rP G.K f [x, y] H1 fun z H3 => ∃ b, z = .bl b ∧ if b = true then tOpds G W [C] σ H3 (fun ws H4 => ∃ w, ws = [w] ∧ rP G.K f' [y, w] H4 Q) else Q (.bl false) H3) := by
  obtain ⟨O, S, s, h⟩ := h
  have h : Gv G W O S σ H (dChain f f' A B C S) Q := h
  unfold dChain at h
  cases e : evs [A, B] S with
  | bad => simp only [e] at h; exact h.elim
  | exc x p S1 => simp only [e] at h; exact opds_exc s e h
  | ok ps S1 =>
    simp only [e] at h
    split at h
    · rename_i p j S1' ee
      cases ee
      refine opds_run s e fun vs H1 st s1 rl => ?_
      obtain ⟨x, y, rfl, hx, hy⟩ := prl2 rl
      obtain rfl : y = .int j := hy
      refine ⟨x, .int j, rfl, ?_⟩
      cases e1 : f [p, .int j] with
      | none => simp only [e1] at h; exact h.elim
      | some rv =>
        simp only [e1] at h
        refine ⟨Tot O S1 σ, [p, .int j], rv, s1.tok, ⟨hx, rfl, trivial⟩, e1, fun z H3 ex r => ?_⟩
        split at h
        · rename_i e2
          cases e2
          cases r
          refine ⟨true, rfl, ?_⟩
          simp only [if_true]
          have s3 := s1.ext ex
          have st3 : Step O S S1 σ H H3 := st.trans (Step.ext ex s1)
          cases e3 : evs [C] S1 with
          | bad => simp only [e3] at h; exact h.elim
          | exc x p S2 => simp only [e3] at h; exact opds_exc s3 e3 (fun cls dd H' st' => h cls dd H' (st3.trans st'))
          | ok qs S2 =>
            simp only [e3] at h
            refine opds_run s3 e3 fun ws H4 st4 s4 rl4 => ?_
            split at h
            · rename_i r S2' ee
              cases ee
              obtain ⟨w, rfl, hw⟩ := prl1 rl4
              refine ⟨w, rfl, ?_⟩
              cases e5 : f' [.int j, r] with
              | none => simp only [e5] at h; exact h.elim
              | some rv' =>
                simp only [e5] at h
                refine ⟨Tot O S2 σ, [.int j, r], rv', s4.tok, ⟨rfl, hw, trivial⟩, e5, fun z H5 ex5 r5 => ?_⟩
                split at h
                · rename_i e6
                  cases e6
                  cases r5
                  have s5 := s4.ext ex5
                  exact h _ H5 ((st3.trans st4).trans (Step.ext ex5 s4)) ⟨s5, .bl _⟩
                · exact h.elim
            · rename_i heq; cases heq
            · exact h.elim
        · rename_i e2
          cases e2
          cases r
          refine ⟨false, rfl, ?_⟩
          simp only [Bool.false_eq_true, if_false]
          exact h _ H3 (st.trans (Step.ext ex s1)) ⟨s1.ext ex, .bl _⟩
        · exact h.elim
    · rename_i heq; cases heq
    · exact h.elim
theorem tOpd_B {Q : VK} (h : tOpds G W [A] σ H (fun vs H1 => ∃ w, vs = [w] ∧ Q w H1)) : tOpd G W A σ H Q := by
  have : tOpd G W A σ H (fun w H1 => ∃ w', [w] = [w'] ∧ Q w' H1) := h
  exact mono_opd this fun v H' ⟨w, e, q⟩ => by cases e; exact q
theorem chain_go {f f' : List PV → Option RV} {Q : VK} (h : tSem G W (dChain f f' A B C) σ H Q) : tChain (rP2 G.K f) (rP2 G.K f') (tOpd G W A) (tOpd G W B) (tOpd G W C) σ H Q := by
  have z := sem_chain h
  have z : tOpd G W A σ H (fun x H1 => tOpd G W B σ H1 (fun y H2 => ∃ x' y', [x, y] = [x', y'] ∧ rP G.K f [x', y'] H2 fun z H3 => ∃ b, z = .bl b ∧ if b = true then tOpds G W [C] σ H3 (fun ws H4 => ∃ w, ws = [w] ∧ rP G.K f' [y', w] H4 Q) else Q (.bl false) H3)) := z
  refine mono_opd z fun x H1 z => mono_opd z fun y H2 ⟨x', y', e, z⟩ => ?_
  cases e
  refine rP_mono z fun zz H3 ⟨b, e, q⟩ => ⟨b, e, ?_⟩
  cases b with
  | true =>
    simp only [if_true] at q ⊢
    exact tOpd_B q
  | false => exact q
theorem se_chain {op op' : CmpOp} {f f' : List PV → Option RV} {x : Expr} (ho : ∀ X, Good G c k X → OpR X (compareOp op) (rP2 G.K f)) (ho' : ∀ X, Good G c k X → OpR X (compareOp op') (rP2 G.K f')) (ha : SO G c k a A) (hb : SO G c k b B) (hc : SO G c k x C)
    (hm : lastMarks [op, op'] [b, x] = false := by rfl) : SE G c k (.Compare a [op, op'] [b, x] pos) (dChain f f' A B C) := fun X W g tk =>
  pe_of (pe_chain (ho X g) (ho' X g) (ha X W g tk) (hb X W g tk) (hc X W g tk) hm) fun _ _ _ z => chain_go z
theorem st_chain {op op' : CmpOp} {f f' : List PV → Option RV} {x : Expr} (ho : ∀ X, Good G c k X → OpR X (compareOp op) (rP2 G.K f)) (ho' : ∀ X, Good G c k X → OpR X (compareOp op') (rP2 G.K f')) (ha : SO G c k a A) (hb : SO G c k b B) (hc : SO G c k x C)
    (hm : lastMarks [op, op'] [b, x] = false := by rfl) : ST G c k (.Compare a [op, op'] [b, x] pos) (dB (dChain f f' A B C)) := fun X W g tk =>
  pt_of (pt_chain (ho X g) (ho' X g) (ha X W g tk) (hb X W g tk) (hc X W g tk) hm) fun _ _ _ z => chain_go (sem_B z)

/-! is None -/
def isNP : List PV → Option RV
  | [p, .non] => some (.val (.bl (nonP p)))
  | _ => none
def notNP : List PV → Option RV
  | [p, .non] => some (.val (.bl (!nonP p)))
  | _ => none
theorem nonP_v {K : PySem.W.Frag} {T : Addr → Prop} {v : V} {p : PV} (h : PRep K T H v p) : decide (v = V.non) = nonP p := by
  cases p with
  | non => obtain rfl : v = .non := h; simp [nonP]
  | bl b => obtain rfl : v = .bl b := h; simp [nonP]
  | int b => obtain rfl : v = .int b := h; simp [nonP]
  | str b => obtain rfl : v = .str b := h; simp [nonP]
  | tup l => obtain ⟨a, vs, rfl, _⟩ := h; simp [nonP]
  | lst l => obtain ⟨a, vs, rfl, _⟩ := h; simp [nonP]
  | dct l => obtain ⟨a, rfl, _⟩ := h; simp [nonP]
theorem op_isNP : OpR X (compareOp .Is) (rP2 X.K isNP) := by
  intro pins s σ H x y v u Q I rx ry h
  obtain ⟨T, ps, rv, t, hp, hg, q⟩ := h
  unfold isNP at hg
  split at hg
  · obtain ⟨h1, h2, _⟩ := hp
    cases hg
    exact op_isN pins s σ H x y v u Q I rx ry ⟨h2, by rw [nonP_v h1]; exact q _ H (okv H) (.bl _)⟩
  · cases hg
theorem op_notNP : OpR X (compareOp .IsNot) (rP2 X.K notNP) := by
  intro pins s σ H x y v u Q I rx ry h
  obtain ⟨T, ps, rv, t, hp, hg, q⟩ := h
  unfold notNP at hg
  split at hg
  · obtain ⟨h1, h2, _⟩ := hp
    cases hg
    exact op_notN pins s σ H x y v u Q I rx ry ⟨h2, by rw [nonP_v h1]; exact q _ H (okv H) (.bl _)⟩
  · cases hg

/-! isinstance -/
def tyP : PV → String
  | .non => "NoneType"
  | .bl _ => "bool"
  | .int _ => "int"
  | .str _ => "str"
  | .tup _ => "tuple"
  | .lst _ => "list"
  | .dct _ => "dict"
theorem kit_pv {pins : List (Addr × Obj)} {s : Shared} {T : Addr → Prop} {x : V} {u : Value} {p : PV} (I : Inv X pins σ H s) (rx : RelV x u) (h : PRep X.K T H x p) : ∃ P : Heap → Prop, PySem.W.KitX X.K u (.type (tyP p)) P ∧ P s.heap ∧ u ≠ .builtin "__main__.__loader__#opaque" := by
  cases p with
  | non => obtain rfl : x = .non := h; exact kit_of I rx (.base .non)
  | bl b => obtain rfl : x = .bl b := h; exact kit_of I rx (.base (.bl _))
  | int b => obtain rfl : x = .int b := h; exact kit_of I rx (.base (.int _))
  | str b => obtain rfl : x = .str b := h; exact kit_of I rx (.base (.str _))
  | tup l => obtain ⟨a, vs, rfl, h1, _⟩ := h; exact kit_of I rx (.base (.tup h1))
  | lst l => obtain ⟨a, vs, rfl, h1, _⟩ := h; exact kit_of I rx (.base (.lst h1))
  | dct l =>
    obtain ⟨a, rfl, ⟨kvs, h1, _⟩ | ⟨kvs, h1, _, _⟩⟩ := h
    · cases (show u = Value.ref a from rx)
      obtain ⟨_, _, vs, _, o, es, ep, h1, h2, _⟩ := (show ObjOk X.prog X.w H s.heap a (.dK kvs) from h1.ok I.hok)
      exact ⟨_, PySem.W.kitx_dict, ⟨o, h1, h2.1⟩, fun z => nomatch z⟩
    · cases (show u = Value.ref a from rx)
      obtain ⟨_, _, xs, _, o, es, ep, h1, h2, _⟩ := (show ObjOk X.prog X.w H s.heap a (.dT kvs) from h1.ok I.hok)
      exact ⟨_, PySem.W.kitx_dict, ⟨o, h1, h2.1⟩, fun z => nomatch z⟩
def isiP (t : String) : List PV → Option RV
  | [p] => (kitB (tyP p) t).map fun b => .val (.bl b)
  | _ => none
theorem cr_isi {t : String} : CallR X (.builtin "isinstance") (fun xs H Q => ∃ x, xs = [x, .ty t] ∧ rP X.K (isiP t) [x] H Q) := by
  intro pins s σ H xs us Q I r h
  obtain ⟨x, rfl, T, ps, rv, tt, hp, hg, q⟩ := h
  obtain ⟨u1, u2, rfl, r1, r2⟩ := vals2 r
  obtain rfl : u2 = .type t := r2
  unfold isiP at hg
  split at hg
  · simp only [Option.map_eq_some_iff] at hg
    obtain ⟨b, hb, rfl⟩ := hg
    obtain ⟨P, Z, p, hx⟩ := kit_pv I r1 hp.1
    exact PySem.W.kia_one Z I.kIn p (kit_ty hb) hx fun tk => ⟨.bl b, H, I.tok tk, rfl, q _ H (okv H) (.bl _)⟩
  · cases hg
theorem se_isi {x y : Str} {p py pos : Pos} {t : String} (b : Bi G c x (.builtin "isinstance")) (bt : Bi G c y (.type t)) (ha : SO G c k a A) (h1 : StarOk a [.Name y py] := by intro _; rfl) (h2 : BackOk pos [.Name y py] := by intro _; rfl) :
    SE G c k (.Call (.Name x p) [a, .Name y py] [] pos) (dOp (isiP t) [A]) := fun X W g tk => by
  have g' := g
  obtain ⟨rfl, hN, hs, _⟩ := g
  have ht : PE X (.Name y py) (tC (.ty t)) := pe_bltn (show X.env.scope.names.lookup y = some .globalImplicit by rw [hs]; exact bt.gl) bt.mg bt.bb rfl bt.n1 bt.n2
  refine pe_of (pe_callB (cr_isi (t := t)) (show X.env.scope.names.lookup x = some .globalImplicit by rw [hs]; exact b.gl) b.mg b.bb (pa_cons (ha X W g' tk) (pa_cons ht pa_nil rfl) (h1 _)) b.n1 b.n2 (h1 _) (h2 _)) fun σ H Q h => ?_
  have q := sem_rP (ops := [A]) h
  have : tOpd (wd X) W A σ H (fun x H1 => rP X.K (isiP t) [x] H1 Q) := q
  exact mono_opd this fun x H1 z => ⟨x, rfl, z⟩

/-! items -/
def ixL : List PV → Option RV
  | [.lst l, .int i] => (atI l i).map .val
  | [.tup l, .int i] => (atI l i).map .val
  | [.str x, .int i] => if x.length ≤ LINE then (atI x.cps.toList i).map fun ch => .val (.str ⟨#[ch]⟩) else none
  | _ => none
def keyOk : PV → Bool
  | .int _ => true
  | .str _ => true
  | .tup l => l.all isAKey
  | _ => false
/-- an item of a dict: the dict's keys are of the kind of this one, or there is none -/
def dgetO (l : List (PV × PV)) (k : PV) : Option (Option PV) := match k with
  | .tup m => if m.all isAKey && l.all (fun q => !isAKey q.1) then some (dget l k) else none
  | k => if isAKey k && l.all (fun q => isAKey q.1) then some (dget l k) else none
def ixD : List PV → Option RV
  | [.dct l, k] => match dgetO l k with
    | some (some v) => some (.val v)
    | _ => none
  | _ => none
theorem atI_rep {K : PySem.W.Frag} {T : Addr → Prop} {vs : List V} {l : List PV} (r : RepL K T H vs l) {i : Int} {p : PV} (h : atI l i = some p) : ∃ v, atI vs i = some v ∧ Rep K T H v p := by
  unfold atI at h ⊢
  rw [r.1]
  cases e : ixN l.length i with
  | none => rw [e] at h; cases h
  | some j =>
    rw [e] at h
    exact r.get h
theorem ix_L : IxR X (rP2 X.K ixL) := by
  intro value slice pins s σ H x y v u Q I rx ry h hs
  obtain ⟨T, ps, rv, t, hp, hg, q⟩ := h
  unfold ixL at hg
  split at hg
  · obtain ⟨h1, h2, _⟩ := hp
    obtain rfl : y = .int _ := h2
    simp only [Option.map_eq_some_iff] at hg
    obtain ⟨p, hg, rfl⟩ := hg
    obtain ⟨a, vs, rfl, h1, r⟩ := h1
    obtain ⟨v', e1, r1⟩ := atI_rep r hg
    exact ix_seq value slice pins s σ H _ _ v u Q I rx ry (.inl ⟨a, vs, _, v', rfl, rfl, .inl (.inl h1), e1, q _ H (okv H) r1⟩) hs
  · obtain ⟨h1, h2, _⟩ := hp
    obtain rfl : y = .int _ := h2
    simp only [Option.map_eq_some_iff] at hg
    obtain ⟨p, hg, rfl⟩ := hg
    obtain ⟨a, vs, rfl, h1, r⟩ := h1
    obtain ⟨v', e1, r1⟩ := atI_rep r hg
    exact ix_seq value slice pins s σ H _ _ v u Q I rx ry (.inr (.inl ⟨a, vs, _, v', rfl, rfl, .inl (.inl h1), e1, q _ H (okv H) r1⟩)) hs
  · obtain ⟨h1, h2, _⟩ := hp
    obtain rfl : y = .int _ := h2
    obtain rfl : x = .str _ := h1
    split at hg
    · rename_i hl
      simp only [Option.map_eq_some_iff] at hg
      obtain ⟨ch, hg, rfl⟩ := hg
      exact ix_seq value slice pins s σ H _ _ v u Q I rx ry (.inr (.inr ⟨_, _, ch, rfl, rfl, by rw [line_eq]; exact hl, hg, q _ H (okv H) (.str _)⟩)) hs
    · cases hg
  · cases hg
theorem keyL_of : ∀ {m : List PV}, m.all isAKey = true → ∃ ks : List L2.Key, m = ks.map keyPV
  | [], _ => ⟨[], rfl⟩
  | p :: m, h => by
    simp only [List.all_cons, Bool.and_eq_true] at h
    obtain ⟨ks, rfl⟩ := keyL_of h.2
    cases p <;> simp [isAKey] at h
    · exact ⟨.inl _ :: ks, rfl⟩
    · exact ⟨.inr _ :: ks, rfl⟩
theorem repl_keys {K : PySem.W.Frag} {T : Addr → Prop} : ∀ {ks : List L2.Key} {vs : List V}, RepL K T H vs (ks.map keyPV) → vs = ks.map kV
  | [], vs, r => r.inv_nil
  | k :: ks, vs, r => by
    obtain ⟨v, vs', rfl, h, r'⟩ := r.inv_cons
    rw [repl_keys r']
    cases k <;> cases h <;> rfl
end
end Den
set_option Elab.async false
set_option linter.all false
set_option maxRecDepth 100000
set_option maxHeartbeats 400000
/-! Den14: reading dicts. -/
namespace Den
open PySem L2 PyProof.Rows
section
variable {G : Wd} {c : Cs} {k : Nat} {W : WX} {O : Addr → Prop} {σ : L2.St} {S S1 S' : AS} {H H1 H' : Hp} {X : Cx} {e a b : Expr} {pos : Pos} {A B C : Opd} {K : PySem.W.Frag} {T : Addr → Prop} {pins : List (Addr × Obj)} {s : Shared}
def allT (l : List (PV × PV)) : Bool := l.all fun q => !isAKey q.1
theorem keyPV_isA (k : L2.Key) : isAKey (keyPV k) = true := by cases k <;> rfl
/-- a dict of tuple keys, or an empty one -/
theorem dct_rawT (I : Inv X pins σ H s) {x : V} {l : List (PV × PV)} (h : PRep K T H x (.dct l)) (hk : allT l = true) :
    ∃ a kvs xs, x = .ref a ∧ RepT K T H kvs l ∧ (a == sysModules) = false ∧ KT H kvs xs ∧ s.heap.DictOfH (tupleKind (mixKind X.prog X.w)) a xs := by
  obtain ⟨a, rfl, ⟨kvs, h1, r⟩ | ⟨kvs, h1, _, r⟩⟩ := h
  · cases l with
    | nil =>
      have : kvs = [] := List.eq_nil_of_length_eq_zero (by simpa using r.1)
      subst this
      obtain ⟨_, hd, vs, rel, dd⟩ := dk_rd I.hok h1
      cases rel
      obtain ⟨o, es, ep, ho, hx, hdt, hes, h3, h4⟩ := dd
      refine ⟨a, [], [], rfl, RepT.nil, hd, .nil, o, es, ep, ho, hx, hdt, ?_, by simp, by simp⟩
      have : es = #[] := by
        cases h3' : es.toList with
        | nil => exact Array.toList_eq_nil_iff.mp h3'
        | cons y ys => rw [h3'] at h3; cases h3
      rw [this]; rfl
    | cons q l =>
      have hi' : 0 < kvs.length := by rw [r.1]; simp
      have ek := r.2.1 0 _ q (List.getElem?_eq_getElem hi') rfl
      simp only [allT, List.all_cons, ek, keyPV_isA] at hk
      cases hk
  · obtain ⟨_, hd, xs, rel, dd⟩ := dt_rd I.hok h1
    exact ⟨a, kvs, xs, rfl, r, hd, rel, dd⟩
/-- the key's kind -/
inductive KeyIn (K : PySem.W.Frag) (T : Addr → Prop) (H : Hp) (l : List (PV × PV)) (y : V) (q : PV) : Prop where
  | sc (k : L2.Key) (e : q = keyPV k) (ey : y = kV k) (ha : allK l = true) : KeyIn K T H l y q
  | tp (ks : List L2.Key) (b : Addr) (e : q = .tup (ks.map keyPV)) (ey : y = .ref b) (hb : H b = some (.tup (ks.map kV))) (ha : allT l = true) : KeyIn K T H l y q
theorem key_in {l : List (PV × PV)} {y : V} {q : PV} {o : Option PV} (h2 : PRep K T H y q) (h : dgetO l q = some o) : KeyIn K T H l y q ∧ o = dget l q := by
  unfold dgetO at h
  split at h
  · split at h
    · rename_i m hm
      simp only [Bool.and_eq_true] at hm
      cases h
      obtain ⟨ks, rfl⟩ := keyL_of hm.1
      obtain ⟨b, vs, rfl, hb, r⟩ := h2
      rw [repl_keys r] at hb
      exact ⟨.tp ks b rfl rfl hb hm.2, rfl⟩
    · cases h
  · split at h
    · rename_i hm
      simp only [Bool.and_eq_true] at hm
      cases h
      cases q <;> simp [isAKey] at hm
      · obtain rfl : y = .int _ := h2
        exact ⟨.sc (.inl _) rfl rfl (by simp only [allK, List.all_eq_true]; exact fun x hx => by obtain ⟨p, v⟩ := x; exact hm p v hx), rfl⟩
      · obtain rfl : y = .str _ := h2
        exact ⟨.sc (.inr _) rfl rfl (by simp only [allK, List.all_eq_true]; exact fun x hx => by obtain ⟨p, v⟩ := x; exact hm p v hx), rfl⟩
    · cases h
theorem ix_D (hu : X.A.units + 1 < cLine) : IxR X (rP2 X.K ixD) := by
  intro value slice pins s σ H x y v u Q I rx ry h hs
  obtain ⟨T, ps, rv, t, hp, hg, q⟩ := h
  unfold ixD at hg
  split at hg
  · rename_i l kk
    split at hg
    · rename_i w hw
      cases hg
      obtain ⟨h1, h2, _⟩ := hp
      obtain ⟨ki, e⟩ := key_in h2 hw
      cases ki with
      | sc k e1 ey ha =>
        subst e1; subst ey
        obtain ⟨a, kvs, vs, rfl, rk, hd, rel, dd⟩ := dct_raw I h1 ha
        obtain rfl : v = Value.ref a := rx
        rcases rk.get k with ⟨_, q1⟩ | ⟨v', p, q1, q2, rp⟩
        · rw [q1] at e; cases e
        · rw [q2] at e
          cases e
          obtain ⟨w', hw', rw'⟩ := RelO.some_of (v := v') (o := valueAt vs k) (by rw [← q1]; exact rel.val k)
          exact tail_any dd.mapOf.typeIs PySem.F.slot_dict_getitem.lookup (wpAny_getItem_of (kV_is ry) dd.mapOf hw' ⟨v', H, I.tok _, rw', q _ H (okv H) rp⟩) hs
      | tp ks b e1 ey hb ha =>
        subst e1; subst ey
        obtain ⟨a, kvs, xs, rfl, rk, hd, rel, dd⟩ := dct_rawT I h1 ha
        obtain rfl : v = Value.ref a := rx
        cases (show u = Value.ref b from ry)
        rcases rk.get ks with ⟨_, q1⟩ | ⟨v', p, q1, q2, rp⟩
        · rw [q1] at e; cases e
        · rw [q2] at e
          cases e
          obtain ⟨w', hw', rw'⟩ := RelO.some_of (v := v') (o := (atKey xs ks).map (·.2)) (by rw [← q1]; exact rel.val ks)
          obtain ⟨pp, hp1, hp2⟩ := Option.map_eq_some_iff.mp hw'
          refine tail_any dd.typeIs PySem.F.slot_dict_getitem.lookup (wpAny_getItem_heap (tupleKind_room_in1 hu) (key_of I.hok hb) dd hp1 ?_) hs
          rw [hp2]
          exact ⟨v', H, I.tok _, rw', q _ H (okv H) rp⟩
    · cases hg
  · cases hg
def ixP : List PV → Option RV
  | [.dct l, k] => ixD [.dct l, k]
  | ps => ixL ps
theorem ix_P (hu : X.A.units + 1 < cLine) : IxR X (rP2 X.K ixP) := by
  intro value slice pins s σ H x y v u Q I rx ry h hs
  obtain ⟨T, ps, rv, t, hp, hg, q⟩ := h
  unfold ixP at hg
  split at hg
  · exact ix_D hu value slice pins s σ H x y v u Q I rx ry ⟨T, _, rv, t, hp, hg, q⟩ hs
  · exact ix_L value slice pins s σ H x y v u Q I rx ry ⟨T, _, rv, t, hp, hg, q⟩ hs
theorem se_ix {i : Expr} (ha : SO G c k a A) (hb : SO G c k i B) (hp : PlainIx i := by intro _ _; rfl) : SE G c k (.Subscript a i pos) (dOp ixP [A, B]) := fun X W g tk =>
  pe_of (pe_ix (r := rP2 G.K ixP) (by have h := g.room.un; obtain ⟨rfl, _⟩ := g; exact ix_P (by omega)) (ha X W g tk) (hb X W g tk) hp) fun σ H Q h => sem_rP (ops := [A, B]) h
/-! in -/
def inDP : List PV → Option RV
  | [k, .dct l] => (dgetO l k).map fun o => .val (.bl o.isSome)
  | ps => inP ps
def niDP : List PV → Option RV
  | [k, .dct l] => (dgetO l k).map fun o => .val (.bl (!o.isSome))
  | ps => niP ps
theorem in_dict (hu : X.A.units + 1 < cLine) {l : List (PV × PV)} {kk : PV} {o : Option PV} {x y : V} {v u : Value} {Q : Value → Shared → Prop} {E : Value → Shared → Prop} (I : Inv X pins σ H s) (h1 : PRep K T H x kk) (h2 : PRep K T H y (.dct l)) (rx : RelV x v) (ry : RelV y u) (hw : dgetO l kk = some o)
    (q : ∀ t, Q (.bool o.isSome) { s with toks := t }) : wpAny (model X.prog X.w) X.A (compareOp .In v u) Q E s := by
  obtain ⟨ki, rfl⟩ := key_in h1 hw
  cases ki with
  | sc k e1 ey ha =>
    subst e1; subst ey
    obtain ⟨a, kvs, vs, rfl, rk, hd, rel, dd⟩ := dct_raw I h2 ha
    obtain rfl : u = Value.ref a := ry
    refine wpAny_in_of (kV_is rx) hd dd.mapOf ?_
    rw [← (rel.val k).isSome_eq]
    rcases rk.get k with ⟨q0, q1⟩ | ⟨v', p, q1, q2, rp⟩
    · rw [q0]; rw [q1] at q; exact q _
    · rw [q1]; rw [q2] at q; exact q _
  | tp ks b e1 ey hb ha =>
    subst e1; subst ey
    obtain ⟨a, kvs, xs, rfl, rk, hd, rel, dd⟩ := dct_rawT I h2 ha
    obtain rfl : u = Value.ref a := ry
    cases (show v = Value.ref b from rx)
    refine wpAny_in_heap (tupleKind_room_in1 hu) (key_of I.hok hb) hd dd ?_
    have qq := (rel.val ks).isSome_eq
    rw [Option.isSome_map] at qq
    rw [← qq]
    rcases rk.get ks with ⟨q0, q1⟩ | ⟨v', p, q1, q2, rp⟩
    · rw [q0]; rw [q1] at q; exact q _
    · rw [q1]; rw [q2] at q; exact q _
theorem notin_dict (hu : X.A.units + 1 < cLine) {l : List (PV × PV)} {kk : PV} {o : Option PV} {x y : V} {v u : Value} {Q : Value → Shared → Prop} {E : Value → Shared → Prop} (I : Inv X pins σ H s) (h1 : PRep K T H x kk) (h2 : PRep K T H y (.dct l)) (rx : RelV x v) (ry : RelV y u) (hw : dgetO l kk = some o)
    (q : ∀ t, Q (.bool (!o.isSome)) { s with toks := t }) : wpAny (model X.prog X.w) X.A (compareOp .NotIn v u) Q E s := by
  obtain ⟨ki, rfl⟩ := key_in h1 hw
  cases ki with
  | sc k e1 ey ha =>
    subst e1; subst ey
    obtain ⟨a, kvs, vs, rfl, rk, hd, rel, dd⟩ := dct_raw I h2 ha
    obtain rfl : u = Value.ref a := ry
    refine wpAny_notIn_of (kV_is rx) hd dd.mapOf ?_
    rw [← (rel.val k).isSome_eq]
    rcases rk.get k with ⟨q0, q1⟩ | ⟨v', p, q1, q2, rp⟩
    · rw [q0]; rw [q1] at q; exact q _
    · rw [q1]; rw [q2] at q; exact q _
  | tp ks b e1 ey hb ha =>
    subst e1; subst ey
    obtain ⟨a, kvs, xs, rfl, rk, hd, rel, dd⟩ := dct_rawT I h2 ha
    obtain rfl : u = Value.ref a := ry
    cases (show v = Value.ref b from rx)
    refine wpAny_notIn_heap (tupleKind_room_in1 hu) (key_of I.hok hb) hd dd ?_
    have qq := (rel.val ks).isSome_eq
    rw [Option.isSome_map] at qq
    rw [← qq]
    rcases rk.get ks with ⟨q0, q1⟩ | ⟨v', p, q1, q2, rp⟩
    · rw [q0]; rw [q1] at q; exact q _
    · rw [q1]; rw [q2] at q; exact q _
theorem op_inDP (hr : Room k X.A) : OpR X (compareOp .In) (rP2 X.K inDP) := by
  intro pins s σ H x y v u Q I rx ry h
  obtain ⟨T, ps, rv, t, hp, hg, q⟩ := h
  unfold inDP at hg
  split at hg
  · simp only [Option.map_eq_some_iff] at hg
    obtain ⟨o, ho, rfl⟩ := hg
    exact in_dict (by have := hr.un; omega) I hp.1 hp.2.1 rx ry ho fun t => ⟨.bl _, H, I.tok t, rfl, q _ H (okv H) (.bl _)⟩
  · exact op_inP hr pins s σ H x y v u Q I rx ry ⟨T, _, rv, t, hp, hg, q⟩
theorem op_niDP (hr : Room k X.A) : OpR X (compareOp .NotIn) (rP2 X.K niDP) := by
  intro pins s σ H x y v u Q I rx ry h
  obtain ⟨T, ps, rv, t, hp, hg, q⟩ := h
  unfold niDP at hg
  split at hg
  · simp only [Option.map_eq_some_iff] at hg
    obtain ⟨o, ho, rfl⟩ := hg
    exact notin_dict (by have := hr.un; omega) I hp.1 hp.2.1 rx ry ho fun t => ⟨.bl _, H, I.tok t, rfl, q _ H (okv H) (.bl _)⟩
  · exact op_niP hr pins s σ H x y v u Q I rx ry ⟨T, _, rv, t, hp, hg, q⟩
end
end Den
set_option Elab.async false
set_option linter.all false
set_option maxRecDepth 100000
set_option maxHeartbeats 400000
/-! Den15: values given away: displays, own objects written; methods. -/
namespace Den
open PySem L2 PyProof.Rows

/-- expressions one after another, each a value that may be kept -/
def evV : List (AS → R RV) → AS → R (List PV)
  | [], S => .ok [] S
  | d :: r, S => match d S with
    | .ok rv S1 => match evV r S1 with
      | .ok ps S' => .ok (rv.pv :: ps) S'
      | .exc c p S' => .exc c p S'
      | .bad => .bad
    | .exc c p S' => .exc c p S'
    | .bad => .bad
def tSems (G : Wd) (W : WX) : List (AS → R RV) → TA
  | [] => tNil
  | d :: r => tCons (tSem G W d) (tSems G W r)
def SV (G : Wd) (c : Cs) (k : Nat) (es : List Expr) (ds : List (AS → R RV)) : Prop := ∀ X W, Good G c k X → Takes X W → PA X es (tSems G W ds)
section
variable {G : Wd} {c : Cs} {k : Nat} {W : WX} {O : Addr → Prop} {σ : L2.St} {S S1 S' : AS} {H H1 H' : Hp} {X : Cx} {e a b : Expr} {pos : Pos} {A B C : Opd} {K : PySem.W.Frag} {T : Addr → Prop} {pins : List (Addr × Obj)} {s : Shared}
theorem vals_ok : ∀ (ops : List (AS → R RV)) (S : AS) (H : Hp) (Q : List V → Hp → Prop), SRel G.K O S σ H →
    (∀ ps S', evV ops S = .ok ps S' → ∀ vs H', Step O S S' σ H H' → SRel G.K O S' σ H' → RepL G.K (Tot O S' σ) H' vs ps → Q vs H') →
    (∀ x p S', evV ops S = .exc x p S' → ∀ cls dd H', Step O S S' σ H H' → SRel G.K O S' σ H' → ExcRel G (Tot O S' σ) H' x p cls dd → W cls dd σ H') → evV ops S ≠ .bad → tSems G W ops σ H Q
  | [], S, H, Q, s, hok, _, _ => hok [] S rfl [] H .refl s .nil
  | d :: r, S, H, Q, s, hok, hex, hb => by
    unfold evV at hok hex hb
    refine tSem.mk s (fun rv S1 e v H1 st res => ?_) (fun x p S' e => ?_) (fun e => ?_)
    · simp only [e] at hok hex hb
      obtain ⟨s1, rp⟩ := res.toVal s st
      refine vals_ok r S1 H1 _ s1 (fun ps S' e1 vs H' st1 s' rl => ?_) (fun x p S' e1 cls dd H' st1 => ?_) (fun e1 => ?_)
      · simp only [e1] at hok
        exact hok _ _ rfl _ _ (st.trans st1) s' (.cons (rp.keep (st1.keeps s1)) rl)
      · simp only [e1] at hex
        exact hex x p S' rfl cls dd H' (st.trans st1)
      · simp only [e1] at hb
        exact hb rfl
    · simp only [e] at hex
      exact hex x p S' rfl
    · simp only [e] at hb
      exact hb rfl
theorem vals_run {ops : List (AS → R RV)} {Q : List V → Hp → Prop} {ps : List PV} (s : SRel G.K O S σ H) (e : evV ops S = .ok ps S')
    (h : ∀ vs H', Step O S S' σ H H' → SRel G.K O S' σ H' → RepL G.K (Tot O S' σ) H' vs ps → Q vs H') : tSems G W ops σ H Q := by
  refine vals_ok ops S H Q s (fun ps' S2 e2 => ?_) (fun x p S2 e2 => ?_) (fun e2 => ?_)
  · rw [e] at e2; cases e2; exact h
  · rw [e] at e2; cases e2
  · rw [e] at e2; cases e2
theorem vals_exc {ops : List (AS → R RV)} {Q : List V → Hp → Prop} {x : Str} {p : PV} (s : SRel G.K O S σ H) (e : evV ops S = .exc x p S')
    (h : ∀ cls dd H', Step O S S' σ H H' → SRel G.K O S' σ H' → ExcRel G (Tot O S' σ) H' x p cls dd → W cls dd σ H') : tSems G W ops σ H Q := by
  refine vals_ok ops S H Q s (fun ps' S2 e2 => ?_) (fun x p S2 e2 => ?_) (fun e2 => ?_)
  · rw [e] at e2; cases e2
  · rw [e] at e2; cases e2; exact h
  · rw [e] at e2; cases e2
theorem sv_nil : SV G c k [] [] := fun _ _ _ _ => pa_nil
theorem sv_cons {d : AS → R RV} {es : List Expr} {os : List (AS → R RV)} (h : SE G c k e d) (r : SV G c k es os) (hs : StarOk e es := by intro _; rfl) : SV G c k (e :: es) (d :: os) := fun X W g tk => pa_cons (h X W g tk) (r X W g tk) (hs _)
/-! displays -/
def dTup (ds : List (AS → R RV)) : AS → R RV := fun S => match evV ds S with
  | .ok ps S' => .ok (.val (.tup ps)) S'
  | .exc x p S' => .exc x p S'
  | .bad => .bad
def dLst (ds : List (AS → R RV)) : AS → R RV := fun S => match evV ds S with
  | .ok ps S' => .ok (.fresh (.lst ps)) S'
  | .exc x p S' => .exc x p S'
  | .bad => .bad
theorem evV_len : ∀ {ds : List (AS → R RV)} {S S' : AS} {ps : List PV}, evV ds S = .ok ps S' → ps.length = ds.length
  | [], S, S', ps, h => by cases h; rfl
  | d :: ds, S, S', ps, h => by
    unfold evV at h
    split at h
    · split at h
      · rename_i e
        cases h
        simp [evV_len e]
      · cases h
      · cases h
    · cases h
    · cases h
theorem se_tup {es : List Expr} {ds : List (AS → R RV)} {x1 : Nat} (h : SV G c k es ds) (hl : ds.length ≤ 1000 := by decide) : SE G c k (.Tuple es x1 pos) (dTup ds) := fun X W g tk =>
  pe_of (pe_tup (h X W g tk)) fun σ H Q z => by
    obtain ⟨O, S, s, z⟩ := z
    have z : Gv G W O S σ H (dTup ds S) Q := z
    unfold dTup at z
    cases e : evV ds S with
    | bad => simp only [e] at z; exact z.elim
    | exc x p S' => simp only [e] at z; exact vals_exc s e z
    | ok ps S' =>
      simp only [e] at z
      refine vals_run s e fun vs H' st s' rl => ⟨by rw [rl.1, evV_len e, sizeLine_eq]; omega, fun p hp => ?_⟩
      have r := fin_tup s'.tok hp rl
      exact z _ _ (st.trans (Step.ext (Ext.new hp) s')) ⟨s'.ext (Ext.new hp), r⟩
theorem se_lst {es : List Expr} {ds : List (AS → R RV)} (h : SV G c k es ds) (hl : ds.length ≤ 1000 := by decide) : SE G c k (.List es pos) (dLst ds) := fun X W g tk =>
  pe_of (pe_lst (h X W g tk)) fun σ H Q z => by
    obtain ⟨O, S, s, z⟩ := z
    have z : Gv G W O S σ H (dLst ds S) Q := z
    unfold dLst at z
    cases e : evV ds S with
    | bad => simp only [e] at z; exact z.elim
    | exc x p S' => simp only [e] at z; exact vals_exc s e z
    | ok ps S' =>
      simp only [e] at z
      refine vals_run s e fun vs H' st s' rl => ⟨by rw [rl.1, evV_len e, sizeLine_eq]; omega, fun p hp => ?_⟩
      have r := fin_lst s'.tok hp rl
      obtain ⟨st2, r2⟩ := OpRes.res s' st s (Ext.new hp) (rv := .fresh (.lst ps)) r
      exact z _ _ st2 r2
/-! {} -/
def dDct0 : AS → R RV := fun S => .ok (.fresh (.dct [])) S
theorem se_dct0 : SE G c k (.Dict [] [] pos) dDct0 := fun X W g tk =>
  pe_of pe_dnewK fun σ H Q z => by
    obtain ⟨O, S, s, z⟩ := z
    have z : Gv G W O S σ H (dDct0 S) Q := z
    intro p hp
    have r : OpRes G.K (Tot O S σ) H (upd H p (.dK [])) (.fresh (.dct [])) (.ref p) := ⟨p, rfl, hp, .inl ⟨[], upd_same, RepK.nil⟩⟩
    obtain ⟨st2, r2⟩ := OpRes.res s .refl s (Ext.new hp) r
    exact z _ _ st2 r2
/-! an own object written -/
theorem SRel.write {i : Nat} {io lk : Bool} {p p' : PV} {a : Addr} {o : HO} (s : SRel K O S σ H) (h : S[i]? = some (.own io lk p)) (ha : σ[i]? = some (some (.ref a)))
    (hn : ObR K (Tot O S σ) (upd H a o) a p') : SRel K O (S.set i (.own io lk p')) σ (upd H a o) ∧ (lk = false → Step O S (S.set i (.own io lk p')) σ H (upd H a o)) := by
  obtain ⟨b, e1, nO, r⟩ := s.own i io lk p h
  rw [ha] at e1
  cases e1
  have hi : i < S.length := (List.getElem?_eq_some_iff.mp h).1
  have oa : Own S σ a := ⟨i, io, lk, p, h, ha⟩
  have eqO : ∀ x, Own (S.set i (.own io lk p')) σ x ↔ Own S σ x := fun x => by
    constructor
    · rintro ⟨j, io', lk', q, e1, e2⟩
      by_cases hj : i = j
      · subst hj
        rw [List.getElem?_set_self hi] at e1
        cases e1
        exact ⟨i, io, lk, p, h, e2⟩
      · rw [List.getElem?_set_ne hj] at e1
        exact ⟨j, io', lk', q, e1, e2⟩
    · rintro ⟨j, io', lk', q, e1, e2⟩
      by_cases hj : i = j
      · subst hj
        exact ⟨i, io, lk, p', List.getElem?_set_self hi, e2⟩
      · exact ⟨j, io', lk', q, by rw [List.getElem?_set_ne hj]; exact e1, e2⟩
  have muA : Mut (upd H a o a) := hn.mut
  have tok' : ∀ x, Tot O S σ x → Mut (upd H a o x) := fun x hx => by
    by_cases hxa : x = a
    · subst hxa; exact muA
    · rw [upd_ne hxa]; exact s.tok x hx
  have rd' : ∀ x u, ¬ Own S σ x → Se H x u → Se (upd H a o) x u := fun x u nx hx => by
    have : x ≠ a := fun q => nx (q ▸ oa)
    unfold Se
    rw [upd_ne this]; exact hx
  have ht : ∀ x u, FxAt H x u → FxAt (upd H a o) x u := fun x u ⟨hx, fx⟩ => by
    have : x ≠ a := fun q => by
      subst q
      have := r.mut
      rw [hx] at this
      cases u <;> first | exact this | exact fx
    exact ⟨by rw [upd_ne this]; exact hx, fx⟩
  have k1 : Keeps (Tot O S σ) (Tot O (S.set i (.own io lk p')) σ) H (upd H a o) :=
    ⟨s.tok, fun x u nx hx => rd' x u (fun z => nx (.inr z)) hx, fun x u nx _ z => nx (z.imp id (eqO x).mp), ht⟩
  have k2 : Keeps (Tot O S σ) (Tot O (S.set i (.own io lk p')) σ) (upd H a o) (upd H a o) :=
    ⟨tok', fun x u nx hx => hx, fun x u nx _ z => nx (z.imp id (eqO x).mp), fun _ _ h => h⟩
  refine ⟨⟨by simp [s.len], fun x hx => tok' x (.inl hx), fun j q e => ?_, fun j io' lk' q e => ?_, fun j j' x io1 lk1 p1 io2 lk2 p2 e1 e2 => ?_⟩, fun hlk => ?_⟩
  · by_cases hj : i = j
    · subst hj
      rw [List.getElem?_set_self hi] at e
      cases e
    · rw [List.getElem?_set_ne hj] at e
      obtain ⟨v, e1, r1⟩ := s.val j q e
      exact ⟨v, e1, r1.keep k1⟩
  · by_cases hj : i = j
    · subst hj
      rw [List.getElem?_set_self hi] at e
      cases e
      exact ⟨a, ha, nO, hn.keep k2 rfl⟩
    · rw [List.getElem?_set_ne hj] at e
      obtain ⟨b, e1, n1, r1⟩ := s.own j io' lk' q e
      have hba : b ≠ a := fun q' => by
        subst q'
        exact hj (s.inj i j b _ _ _ _ _ _ h e ha e1)
      exact ⟨b, e1, n1, r1.keep k1 (upd_ne hba)⟩
  · have f : ∀ {j : Nat} {io' lk' q}, (S.set i (.own io lk p'))[j]? = some (.own io' lk' q) → ∃ q', S[j]? = some (.own io' lk' q') := fun {j io' lk' q} e => by
      by_cases hj : i = j
      · subst hj
        rw [List.getElem?_set_self hi] at e
        cases e
        exact ⟨p, h⟩
      · rw [List.getElem?_set_ne hj] at e
        exact ⟨q, e⟩
    obtain ⟨q1, f1⟩ := f e1
    obtain ⟨q2, f2⟩ := f e2
    exact s.inj j j' x _ _ _ _ _ _ f1 f2
  · subst hlk
    refine ⟨rd', fun x hx => ?_, fun x hx => (eqO x).mp hx, fun j lk q e => ?_, fun j io' q e => ?_, fun x hx => ?_, ht⟩
    · have : x ≠ a := fun q => nO (q ▸ hx)
      exact upd_ne this
    · by_cases hj : i = j
      · subst hj
        rw [h] at e
        cases e
        exact ⟨false, p', List.getElem?_set_self hi⟩
      · exact ⟨lk, q, by rw [List.getElem?_set_ne hj]; exact e⟩
    · by_cases hj : i = j
      · subst hj
        rw [h] at e
        cases e
      · rw [List.getElem?_set_ne hj]; exact e
    · by_cases hxa : x = a
      · subst hxa
        rw [upd_same]; exact fun q => nomatch q
      · rw [upd_ne hxa]; exact hx
end
end Den
set_option Elab.async false
set_option linter.all false
set_option maxRecDepth 100000
set_option maxHeartbeats 400000
/-! Den16: statements. -/
namespace Den
open PySem L2 PyProof.Rows

inductive RS where
  | next (S : AS) | ret (p : PV) (S : AS) | brk (S : AS) | cnt (S : AS) | exc (c : Str) (p : PV) (S : AS) | bad
structure StepS (O : Addr → Prop) (S S' : AS) (σ σ' : L2.St) (H H' : Hp) : Prop where
  rd : ∀ a u, ¬ Own S σ a → Se H a u → Se H' a u
  oo : ∀ a, O a → H' a = H a
  sub : ∀ a, Own S' σ' a → Own S σ a ∨ H a = none
  io : ∀ (i : Nat) lk p, S[i]? = some (.own true lk p) → (∃ lk' p', S'[i]? = some (.own true lk' p')) ∧ σ'[i]? = σ[i]?
  lk : ∀ (i : Nat) io p, S[i]? = some (.own io true p) → S'[i]? = some (.own io true p) ∧ σ'[i]? = σ[i]?
  th : ∀ a, H a ≠ none → H' a ≠ none
  tl : ∀ a u, FxAt H a u → FxAt H' a u
section
variable {G : Wd} {c : Cs} {k : Nat} {W : WX} {O : Addr → Prop} {σ σ' σ1 σ2 : L2.St} {S S1 S2 S' : AS} {H H1 H2 H' : Hp} {X : Cx} {e a b : Expr} {pos : Pos} {A B C : Opd} {K : PySem.W.Frag} {T : Addr → Prop} {D : Ends}
theorem StepS.refl : StepS O S S σ σ H H := ⟨fun _ _ _ h => h, fun _ _ => rfl, fun _ h => .inl h, fun i lk p h => ⟨⟨lk, p, h⟩, rfl⟩, fun _ _ _ h => ⟨h, rfl⟩, fun _ h => h, fun _ _ h => h⟩
theorem Step.s (a : Step O S S' σ H H') : StepS O S S' σ σ H H' := ⟨a.rd, a.oo, fun x h => .inl (a.sub x h), fun i lk p h => ⟨a.io i lk p h, rfl⟩, fun i io p h => ⟨a.lk i io p h, rfl⟩, a.th, a.tl⟩
theorem StepS.trans (a : StepS O S S1 σ σ1 H H1) (b : StepS O S1 S2 σ1 σ2 H1 H2) : StepS O S S2 σ σ2 H H2 :=
  ⟨fun x u n h => b.rd x u (fun z => (a.sub x z).elim n (rd_some h)) (a.rd x u n h), fun x h => (b.oo x h).trans (a.oo x h),
    fun x h => (b.sub x h).elim (a.sub x) fun z => .inr (by
      cases q : H x with
      | none => rfl
      | some u => exact (a.th x (by rw [q]; exact fun q => nomatch q) z).elim),
    fun i lk p h => let ⟨⟨lk', p', q⟩, e⟩ := a.io i lk p h; let ⟨r, e'⟩ := b.io i lk' p' q; ⟨r, e'.trans e⟩,
    fun i io p h => let ⟨q, e⟩ := a.lk i io p h; let ⟨r, e'⟩ := b.lk i io p q; ⟨r, e'.trans e⟩, fun x h => b.th x (a.th x h), fun x vs h => b.tl x vs (a.tl x vs h)⟩
def GvS (G : Wd) (W : WX) (O : Addr → Prop) (S : AS) (σ : L2.St) (H : Hp) (r : RS) (D : Ends) : Prop := match r with
  | .next S' => ∀ σ' H', StepS O S S' σ σ' H H' → SRel G.K O S' σ' H' → D.nx σ' H'
  | .ret p S' => ∀ v σ' H', StepS O S S' σ σ' H H' → SRel G.K O S' σ' H' → Rep G.K (Tot O S' σ') H' v p → D.rt v H'
  | .brk S' => ∀ σ' H', StepS O S S' σ σ' H H' → SRel G.K O S' σ' H' → D.bk σ' H'
  | .cnt S' => ∀ σ' H', StepS O S S' σ σ' H H' → SRel G.K O S' σ' H' → D.ct σ' H'
  | .exc c p S' => ∀ cls dd σ' H', StepS O S S' σ σ' H H' → SRel G.K O S' σ' H' → ExcRel G (Tot O S' σ') H' c p cls dd → W cls dd σ' H'
  | .bad => False
def tSemS (G : Wd) (W : WX) (d : AS → RS) : TS := fun D σ H => ∃ O S, SRel G.K O S σ H ∧ GvS G W O S σ H (d S) D
theorem GvS.then {r : RS} (st : StepS O S S1 σ σ1 H H1) (h : GvS G W O S σ H r D) : GvS G W O S1 σ1 H1 r D := by
  cases r with
  | next S' => exact fun σ' H' st' s' => h σ' H' (st.trans st') s'
  | ret p S' => exact fun v σ' H' st' s' r => h v σ' H' (st.trans st') s' r
  | brk S' => exact fun σ' H' st' s' => h σ' H' (st.trans st') s'
  | cnt S' => exact fun σ' H' st' s' => h σ' H' (st.trans st') s'
  | exc x p S' => exact fun cls dd σ' H' st' s' ex => h cls dd σ' H' (st.trans st') s' ex
  | bad => exact h
theorem semS_of {d : AS → RS} (s : SRel G.K O S σ H) (h : GvS G W O S σ H (d S) D) : tSemS G W d D σ H := ⟨O, S, s, h⟩
def SS (G : Wd) (c : Cs) (k : Nat) (st : Stmt) (d : AS → RS) : Prop := ∀ X W, Good G c k X → Takes X W → PS X st (tSemS G W d)
def SSs (G : Wd) (c : Cs) (k : Nat) (st : List Stmt) (d : AS → RS) : Prop := ∀ X W, Good G c k X → Takes X W → PSs X st (tSemS G W d)
/-! sequences -/
def dSeq (d1 d2 : AS → RS) : AS → RS := fun S => match d1 S with
  | .next S' => d2 S'
  | r => r
theorem semS_seq {d1 d2 : AS → RS} (h : tSemS G W (dSeq d1 d2) D σ H) : tSeq (tSemS G W d1) (tSemS G W d2) D σ H := by
  obtain ⟨O, S, s, h⟩ := h
  refine ⟨O, S, s, ?_⟩
  unfold dSeq at h
  cases e : d1 S with
  | next S' => simp only [e] at h; exact fun σ' H' st s' => semS_of s' (h.then st)
  | ret p S' => simp only [e] at h; exact h
  | brk S' => simp only [e] at h; exact h
  | cnt S' => simp only [e] at h; exact h
  | exc x p S' => simp only [e] at h; exact h
  | bad => simp only [e] at h; exact h
theorem sss_cons {st : Stmt} {rest : List Stmt} {d1 d2 : AS → RS} (h : SS G c k st d1) (r : SSs G c k rest d2) : SSs G c k (st :: rest) (dSeq d1 d2) := fun X W g tk => pss_of (pss_cons (h X W g tk) (r X W g tk)) fun _ _ _ z => semS_seq z
theorem sss_one {st : Stmt} {d1 : AS → RS} (h : SS G c k st d1) : SSs G c k [st] d1 := fun X W g tk => pss_one (h X W g tk)
def dSkip : AS → RS := fun S => .next S
theorem sss_nil : SSs G c k [] dSkip := fun X W g tk => pss_of pss_nil fun D σ H ⟨O, S, s, h⟩ => h σ H .refl s
/-! return -/
def dRet (d : AS → R RV) : AS → RS := fun S => match d S with
  | .ok rv S' => .ret rv.pv S'
  | .exc x p S' => .exc x p S'
  | .bad => .bad
theorem ss_ret {d : AS → R RV} (h : SE G c k e d) : SS G c k (.Return (some e) pos) (dRet d) := fun X W g tk => ps_of (ps_ret (h X W g tk)) fun D σ H ⟨O, S, s, z⟩ => by
  unfold dRet at z
  refine tSem.mk s (fun rv S' e v H' st res => ?_) (fun x p S' e => ?_) (fun e => ?_)
  · simp only [e] at z
    obtain ⟨s', r⟩ := res.toVal s st
    exact z v σ H' st.s s' r
  · simp only [e] at z; exact fun cls dd H' st s' ex => z cls dd σ H' st.s s' ex
  · simp only [e] at z; exact z
/-! an expression on its own -/
def dExpr (d : AS → R RV) : AS → RS := fun S => match d S with
  | .ok _ S' => .next S'
  | .exc x p S' => .exc x p S'
  | .bad => .bad
abbrev SwOk (e : Expr) (t : Option Expr) (ln : Nat) : Prop := ∀ env, swapsWith e t ln env = pure false
abbrev SwOkC (c : Cs) (e : Expr) (t : Option Expr) (ln : Nat) : Prop := ∀ env, env.scope = c.sc → swapsWith e t ln env = pure false
theorem ss_expr {d : AS → R RV} (h : SE G c k e d) (hs : SwOk e none pos.line := by intro _; rfl) : SS G c k (.Expr e pos) (dExpr d) := fun X W g tk => ps_of (ps_expr (h X W g tk) (hs _)) fun D σ H ⟨O, S, s, z⟩ => by
  unfold dExpr at z
  refine tSem.mk s (fun rv S' e v H' st res => ?_) (fun x p S' e => ?_) (fun e => ?_)
  · simp only [e] at z
    obtain ⟨s', r⟩ := res.toVal s st
    exact z σ H' st.s s'
  · simp only [e] at z; exact fun cls dd H' st s' ex => z cls dd σ H' st.s s' ex
  · simp only [e] at z; exact z
/-! if -/
def dIfS (t : AS → R Bool) (d1 d2 : AS → RS) : AS → RS := fun S => match t S with
  | .ok true S' => d1 S'
  | .ok false S' => d2 S'
  | .exc x p S' => .exc x p S'
  | .bad => .bad
theorem ss_if {t : AS → R Bool} {d1 d2 : AS → RS} {x : Expr} {as bs : List Stmt} (ht : ST G c k x t) (h1 : SSs G c k as d1) (h2 : SSs G c k bs d2) : SS G c k (.If x as bs pos) (dIfS t d1 d2) := fun X W g tk =>
  ps_of (ps_if (ht X W g tk) (h1 X W g tk) (h2 X W g tk)) fun D σ H ⟨O, S, s, z⟩ => by
  unfold dIfS at z
  refine tSemT.mk s (fun b S' e H' st s' => ?_) (fun x p S' e => ?_) (fun e => ?_)
  · cases b with
    | true => simp only [e] at z; simp only [if_true]; exact semS_of s' (z.then st.s)
    | false => simp only [e] at z; simp only [Bool.false_eq_true, if_false]; exact semS_of s' (z.then st.s)
  · simp only [e] at z; exact fun cls dd H' st s' ex => z cls dd σ H' st.s s' ex
  · simp only [e] at z; exact z
def dBrk : AS → RS := fun S => .brk S
theorem ss_brk : SS G c k (.Break pos) dBrk := fun X W g tk => ps_of ps_break fun D σ H ⟨O, S, s, z⟩ => z σ H .refl s
/-- never comes here -/
def dBad : AS → RS := fun _ => .bad
theorem ss_bad {st : Stmt} : SS G c k st dBad := fun X W g tk => ps_of ps_never fun D σ H ⟨O, S, s, z⟩ => z
/-! names set -/
/-- a place that may be written over -/
def freeS : Option Slot → Bool
  | some .un => true
  | some (.val _) => true
  | some (.own false false _) => true
  | _ => false
theorem SRel.setVal {i : Nat} {p : PV} {v : V} (s : SRel K O S σ H) (hf : freeS S[i]? = true) (r : Rep K (Tot O S σ) H v p) :
    SRel K O (S.set i (.val p)) (σ.set i (some v)) H ∧ StepS O S (S.set i (.val p)) σ (σ.set i (some v)) H H := by
  have hi : i < S.length := by
    by_cases h : i < S.length
    · exact h
    · rw [List.getElem?_eq_none (by omega)] at hf; cases hf
  have hiσ : i < σ.length := by rw [← s.len]; exact hi
  have sub : ∀ x, Own (S.set i (.val p)) (σ.set i (some v)) x → Own S σ x := by
    rintro x ⟨j, io', lk', p', e1, e2⟩
    by_cases hj : i = j
    · subst hj
      rw [List.getElem?_set_self hi] at e1
      cases e1
    · rw [List.getElem?_set_ne hj] at e1 e2
      exact ⟨j, io', lk', p', e1, e2⟩
  have k : Keeps (Tot O S σ) (Tot O (S.set i (.val p)) (σ.set i (some v))) H H := ⟨s.tok, fun _ _ _ r => r, fun x u n _ z => n (z.imp id (sub x)), fun _ _ h => h⟩
  refine ⟨⟨by simp [s.len], s.ot, fun j q e => ?_, fun j io' lk' q e => ?_, fun j j' a io1 lk1 p1 io2 lk2 p2 e1 e2 e3 e4 => ?_⟩, fun _ _ _ h => h, fun _ _ => rfl, fun x h => .inl (sub x h), fun j lk q e => ?_, fun j io q e => ?_, fun _ h => h, fun _ _ h => h⟩
  · by_cases hj : i = j
    · subst hj
      rw [List.getElem?_set_self hi] at e
      cases e
      exact ⟨v, List.getElem?_set_self hiσ, r.keep k⟩
    · rw [List.getElem?_set_ne hj] at e
      obtain ⟨w, e1, r1⟩ := s.val j q e
      exact ⟨w, by rw [List.getElem?_set_ne hj]; exact e1, r1.keep k⟩
  · by_cases hj : i = j
    · subst hj
      rw [List.getElem?_set_self hi] at e
      cases e
    · rw [List.getElem?_set_ne hj] at e
      obtain ⟨b, e1, n, r1⟩ := s.own j io' lk' q e
      exact ⟨b, by rw [List.getElem?_set_ne hj]; exact e1, n, r1.keep k rfl⟩
  · by_cases hj : i = j
    · subst hj
      rw [List.getElem?_set_self hi] at e1
      cases e1
    · by_cases hj' : i = j'
      · subst hj'
        rw [List.getElem?_set_self hi] at e2
        cases e2
      · rw [List.getElem?_set_ne hj] at e1 e3
        rw [List.getElem?_set_ne hj'] at e2 e4
        exact s.inj j j' a _ _ _ _ _ _ e1 e2 e3 e4
  · have hj : i ≠ j := fun z => by subst z; rw [e] at hf; cases lk <;> cases hf
    exact ⟨⟨lk, q, by rw [List.getElem?_set_ne hj]; exact e⟩, List.getElem?_set_ne hj⟩
  · have hj : i ≠ j := fun z => by subst z; rw [e] at hf; cases io <;> cases hf
    exact ⟨by rw [List.getElem?_set_ne hj]; exact e, List.getElem?_set_ne hj⟩
theorem SRel.setOwn {i : Nat} {p : PV} {x : Addr} (s : SRel K (Oadd O x) S σ H) (hf : freeS S[i]? = true) (hO : ¬ O x) (r : ObR K (Tot (Oadd O x) S σ) H x p) :
    SRel K O (S.set i (.own false false p)) (σ.set i (some (.ref x))) H ∧ (∀ H0 σ0, H0 x = none → StepS O S0 S σ0 σ H0 H → StepS O S0 (S.set i (.own false false p)) σ0 (σ.set i (some (.ref x))) H0 H) := by
  have hi : i < S.length := by
    by_cases h : i < S.length
    · exact h
    · rw [List.getElem?_eq_none (by omega)] at hf; cases hf
  have hiσ : i < σ.length := by rw [← s.len]; exact hi
  have sub : ∀ y, Own (S.set i (.own false false p)) (σ.set i (some (.ref x))) y → Own S σ y ∨ y = x := by
    rintro y ⟨j, io', lk', p', e1, e2⟩
    by_cases hj : i = j
    · subst hj
      rw [List.getElem?_set_self hiσ] at e2
      cases e2
      exact .inr rfl
    · rw [List.getElem?_set_ne hj] at e1 e2
      exact .inl ⟨j, io', lk', p', e1, e2⟩
  have tsub : ∀ y, Tot O (S.set i (.own false false p)) (σ.set i (some (.ref x))) y → Tot (Oadd O x) S σ y := fun y z =>
    z.elim (fun h => .inl (.inl h)) fun h => (sub y h).elim .inr fun e => .inl (.inr e)
  have k : Keeps (Tot (Oadd O x) S σ) (Tot O (S.set i (.own false false p)) (σ.set i (some (.ref x)))) H H := ⟨s.tok, fun _ _ _ r => r, fun y u n _ z => n (tsub y z), fun _ _ h => h⟩
  refine ⟨⟨by simp [s.len], fun y hy => s.ot y (.inl hy), fun j q e => ?_, fun j io' lk' q e => ?_, fun j j' a io1 lk1 p1 io2 lk2 p2 e1 e2 e3 e4 => ?_⟩, fun H0 σ0 h0 st => ⟨st.rd, st.oo, fun y h => ?_, fun j lk q e => ?_, fun j io q e => ?_, st.th, st.tl⟩⟩
  · by_cases hj : i = j
    · subst hj
      rw [List.getElem?_set_self hi] at e
      cases e
    · rw [List.getElem?_set_ne hj] at e
      obtain ⟨w, e1, r1⟩ := s.val j q e
      exact ⟨w, by rw [List.getElem?_set_ne hj]; exact e1, r1.keep k⟩
  · by_cases hj : i = j
    · subst hj
      rw [List.getElem?_set_self hi] at e
      cases e
      exact ⟨x, List.getElem?_set_self hiσ, hO, r.keep k rfl⟩
    · rw [List.getElem?_set_ne hj] at e
      obtain ⟨b, e1, n, r1⟩ := s.own j io' lk' q e
      exact ⟨b, by rw [List.getElem?_set_ne hj]; exact e1, fun z => n (.inl z), r1.keep k rfl⟩
  · have f : ∀ {j : Nat} {io lk q}, (S.set i (.own false false p))[j]? = some (.own io lk q) → (σ.set i (some (.ref x)))[j]? = some (some (.ref a)) → i ≠ j → a ≠ x := fun {j io lk q} e1 e2 hj hax => by
      rw [List.getElem?_set_ne hj] at e1 e2
      obtain ⟨b, e3, n, _⟩ := s.own j io lk q e1
      rw [e2] at e3
      cases e3
      exact n (.inr hax)
    by_cases hj : i = j
    · by_cases hj' : i = j'
      · exact hj.symm.trans hj'
      · subst hj
        rw [List.getElem?_set_self hiσ] at e3
        cases e3
        exact (f e2 e4 hj' rfl).elim
    · by_cases hj' : i = j'
      · subst hj'
        rw [List.getElem?_set_self hiσ] at e4
        cases e4
        exact (f e1 e3 hj rfl).elim
      · rw [List.getElem?_set_ne hj] at e1 e3
        rw [List.getElem?_set_ne hj'] at e2 e4
        exact s.inj j j' a _ _ _ _ _ _ e1 e2 e3 e4
  · rcases sub y h with h | h
    · exact st.sub y h
    · exact .inr (h ▸ h0)
  · obtain ⟨⟨lk', p', e'⟩, es⟩ := st.io j lk q e
    have hj : i ≠ j := fun z => by subst z; rw [e'] at hf; cases lk' <;> cases hf
    exact ⟨⟨lk', p', by rw [List.getElem?_set_ne hj]; exact e'⟩, (List.getElem?_set_ne hj).trans es⟩
  · obtain ⟨e', es⟩ := st.lk j io q e
    have hj : i ≠ j := fun z => by subst z; rw [e'] at hf; cases io <;> cases hf
    exact ⟨by rw [List.getElem?_set_ne hj]; exact e', (List.getElem?_set_ne hj).trans es⟩
/-- a result put into a place -/
def putS (i : Nat) (rv : RV) (S : AS) : Option AS := if freeS S[i]? = true then some (S.set i (match rv with | .val p => .val p | .fresh p => .own false false p)) else none
def dSet (i : Nat) (d : AS → R RV) : AS → RS := fun S => match d S with
  | .ok rv S' => match putS i rv S' with
    | some S2 => .next S2
    | none => .bad
  | .exc x p S' => .exc x p S'
  | .bad => .bad
theorem Res.put {i : Nat} {rv : RV} {v : V} (s : SRel K O S σ H) (st : Step O S S' σ H H') (res : Res K O S' σ H H' rv v) {S2 : AS} (h : putS i rv S' = some S2) :
    SRel K O S2 (σ.set i (some v)) H' ∧ StepS O S S2 σ (σ.set i (some v)) H H' := by
  unfold putS at h
  split at h
  · rename_i hf
    cases h
    cases rv with
    | val p =>
      obtain ⟨s', r⟩ := res
      obtain ⟨a1, a2⟩ := s'.setVal hf r
      exact ⟨a1, st.s.trans a2⟩
    | fresh p =>
      obtain ⟨x, rfl, hn, s', ob⟩ := res
      obtain ⟨a1, a2⟩ := SRel.setOwn (S0 := S) s' hf (s.ot.none hn) ob
      exact ⟨a1, a2 H σ hn st.s⟩
  · cases h
abbrev LocOk (c : Cs) (i : Nat) (x : Str) : Prop := c.N[i]? = some x ∧ Loc c.sc x ∧ (c.fn x = true ∨ List.lookup x c.sc.names = some NameKind.local)
theorem ss_set {i : Nat} {x : Str} {d : AS → R RV} {pos' : Pos} (hl : LocOk c i x) (h : SE G c k e d) (hs : SwOkC c e (some (.Name x pos')) pos.line := by intro _ _; rfl) : SS G c k (.Assign [.Name x pos'] e pos) (dSet i d) := fun X W g tk => by
  have h' := h X W g tk
  have hsw := hs X.env g.hs
  obtain ⟨rfl, hN, hsc, hfn, _, _, nd⟩ := g
  obtain ⟨h1, h2, h3⟩ := hl
  refine ps_of (ps_set (by rw [hN]; exact nd) (by rw [hN]; exact h1) (by rw [hsc]; exact h2) h' hsw (by rw [hsc, hfn]; exact h3)) fun D σ H ⟨O, S, s, z⟩ => ?_
  unfold dSet at z
  refine tSem.mk s (fun rv S' e v H' st res => ?_) (fun x p S' e => ?_) (fun e => ?_)
  · simp only [e] at z
    cases e2 : putS i rv S' with
    | none => simp only [e2] at z; exact z.elim
    | some S2 =>
      simp only [e2] at z
      obtain ⟨a1, a2⟩ := res.put s st e2
      exact z _ _ a2 a1
  · simp only [e] at z; exact fun cls dd H' st s' ex => z cls dd σ H' st.s s' ex
  · simp only [e] at z; exact z
end
end Den
set_option Elab.async false
set_option linter.all false
set_option maxRecDepth 100000
set_option maxHeartbeats 400000
/-! Den17: targets, what is walked over. -/
namespace Den
open PySem L2 PyProof.Rows

/-! ### targets -/
inductive Tg where
  | nm (i : Nat) | tup (l : List Tg)
mutual
def bindT : Tg → PV → AS → Option AS
  | .nm i, p, S => if freeS S[i]? = true then some (S.set i (.val p)) else none
  | .tup l, .tup ps, S => if l.length = ps.length then bindTs l ps S else none
  | _, _, _ => none
def bindTs : List Tg → List PV → AS → Option AS
  | [], [], S => some S
  | t :: l, p :: ps, S => match bindT t p S with
    | some S' => bindTs l ps S'
    | none => none
  | _, _, _ => none
end
mutual
def tgIx : Tg → List Nat
  | .nm i => [i]
  | .tup l => tgIxs l
def tgIxs : List Tg → List Nat
  | [] => []
  | t :: l => tgIx t ++ tgIxs l
end
/-- σ' is σ but for the places of ix -/
def Same (ix : List Nat) (σ σ' : L2.St) : Prop := σ'.length = σ.length ∧ ∀ j, j ∉ ix → σ'[j]? = σ[j]?
theorem Same.trans {ix iy : List Nat} {σ σ1 σ2 : L2.St} (a : Same ix σ σ1) (b : Same iy σ1 σ2) : Same (ix ++ iy) σ σ2 := ⟨b.1.trans a.1, fun j h => by
  rw [List.mem_append] at h
  exact (b.2 j fun m => h (.inr m)).trans (a.2 j fun m => h (.inl m))⟩
section
variable {G : Wd} {c : Cs} {k : Nat} {W : WX} {O : Addr → Prop} {σ σ' σ1 σ2 : L2.St} {S S1 S2 S' : AS} {H H1 H2 H' : Hp} {X : Cx} {e a b : Expr} {pos : Pos} {A B C : Opd} {K : PySem.W.Frag} {T T' : Addr → Prop} {D : Ends}
theorem own_setVal {i : Nat} {p : PV} {v : Option V} {x : Addr} (h : Own (S.set i (.val p)) (σ.set i v) x) : Own S σ x := by
  obtain ⟨j, io', lk', p', e1, e2⟩ := h
  by_cases hj : i = j
  · subst hj
    by_cases hi : i < S.length
    · rw [List.getElem?_set_self hi] at e1
      cases e1
    · rw [List.getElem?_eq_none (by rw [List.length_set]; omega)] at e1
      cases e1
  · rw [List.getElem?_set_ne hj] at e1 e2
    exact ⟨j, io', lk', p', e1, e2⟩
theorem StepS.keeps (s : SRel K O S σ H) (a : StepS O S S' σ σ' H H') : Keeps (Tot O S σ) (Tot O S' σ') H H' :=
  ⟨s.tok, fun x u n h => a.rd x u (fun z => n (.inr z)) h, fun x u n h z => z.elim (fun q => n (.inl q)) fun q => (a.sub x q).elim (fun q => n (.inr q)) (rd_some h), a.tl⟩
def semTg (G : Wd) (t : Tg) : TG := fun v σ H Q => ∃ O S p S', SRel G.K O S σ H ∧ Rep G.K (Tot O S σ) H v p ∧ bindT t p S = some S' ∧ ∀ σ', Same (tgIx t) σ σ' → (∀ x, Own S' σ' x → Own S σ x) → StepS O S S' σ σ' H H → SRel G.K O S' σ' H → Q σ' H
def semTgs (G : Wd) (t : List Tg) : TGs := fun vs σ H Q => ∃ O S ps S', SRel G.K O S σ H ∧ RepL G.K (Tot O S σ) H vs ps ∧ bindTs t ps S = some S' ∧ ∀ σ', Same (tgIxs t) σ σ' → (∀ x, Own S' σ' x → Own S σ x) → StepS O S S' σ σ' H H → SRel G.K O S' σ' H → Q σ' H
def SG (G : Wd) (c : Cs) (k : Nat) (e : Expr) (t : Tg) : Prop := ∀ X, Good G c k X → PG X e (semTg G t)
def SGs (G : Wd) (c : Cs) (k : Nat) (e : List Expr) (t : List Tg) : Prop := ∀ X, Good G c k X → PGs X e (semTgs G t)
theorem pg_of {t t' : TG} (h : PG X e t) (i : ∀ v σ H Q, t' v σ H Q → t v σ H Q) : PG X e t' := ⟨fun pins s σ H v u Q I r z => h.run pins s σ H v u Q I r (i v σ H Q z)⟩
theorem pgs_of {es : List Expr} {t t' : TGs} (h : PGs X es t) (i : ∀ v σ H Q, t' v σ H Q → t v σ H Q) : PGs X es t' := ⟨fun pins s σ H v u Q I r z => h.run pins s σ H v u Q I r (i v σ H Q z)⟩
theorem sg_nm {i : Nat} {x : Str} (hl : LocOk c i x) : SG G c k (.Name x pos) (.nm i) := fun X g => by
  obtain ⟨rfl, hN, hsc, hfn, _, _, nd⟩ := g
  obtain ⟨h1, h2, h3⟩ := hl
  refine pg_of (pg_name (by rw [hN]; exact nd) (by rw [hN]; exact h1) (by rw [hsc]; exact h2) (by rw [hsc, hfn]; exact h3)) fun v σ H Q ⟨O, S, p, S', s, r, hb, q⟩ => ?_
  unfold bindT at hb
  split at hb
  · rename_i hf
    cases hb
    obtain ⟨a1, a2⟩ := s.setVal hf r
    exact q _ ⟨by simp, fun j hj => by rw [List.getElem?_set_ne (fun e => hj (by simp [tgIx, e]))]⟩ (fun x hx => own_setVal hx) a2 a1
  · cases hb
theorem sgs_nil : SGs G c k [] [] := fun X g => pgs_of pgs_nil fun vs σ H Q ⟨O, S, ps, S', s, r, hb, q⟩ => by
  cases ps with
  | nil =>
    unfold bindTs at hb
    cases hb
    exact ⟨r.inv_nil, q σ ⟨rfl, fun _ _ => rfl⟩ (fun _ h => h) .refl s⟩
  | cons p ps => simp [bindTs] at hb
theorem sgs_cons {es : List Expr} {t : Tg} {ts : List Tg} (h : SG G c k e t) (r : SGs G c k es ts) (hm : ∀ env, List.map (fun x => x.snd) (assignEach (e :: es) env) = assign e env :: List.map (fun x => x.snd) (assignEach es env) := by intro _; rfl) : SGs G c k (e :: es) (t :: ts) := fun X g =>
  pgs_of (pgs_cons (h X g) (r X g) (hm _)) fun vs σ H Q ⟨O, S, ps, S', s, rl, hb, q⟩ => by
  cases ps with
  | nil => simp [bindTs] at hb
  | cons p ps =>
    obtain ⟨v, vs, rfl, rp, rr⟩ := rl.inv_cons
    unfold bindTs at hb
    split at hb
    · rename_i S1 e1
      refine ⟨v, vs, rfl, O, S, p, S1, s, rp, e1, fun σ1 sm1 no1 st1 s1 => ?_⟩
      exact ⟨O, S1, ps, S', s1, rr.keep (st1.keeps s), hb, fun σ' sm' no' st' s' => q σ' (sm1.trans sm') (fun x h => no1 x (no' x h)) (st1.trans st') s'⟩
    · cases hb
theorem sg_tup {es : List Expr} {kk : Nat} {ts : List Tg} (h : SGs G c k es ts) (h1 : ∀ env, (assignEach es env).length = ts.length := by intro _; rfl) (h2 : ∀ env, List.findIdx? (fun x => x.fst) (assignEach es env) = none := by intro _; rfl) : SG G c k (.Tuple es kk pos) (.tup ts) := fun X g =>
  pg_of (pg_tup g.calm (h X g) (h1 _) (h2 _)) fun v σ H Q ⟨O, S, p, S', s, r, hb, q⟩ => by
  cases p with
  | tup ps =>
    unfold bindT at hb
    split at hb
    · rename_i hl
      cases r with
      | tup ha hl2 hr =>
        have : X.K = G.K := by obtain ⟨rfl, _⟩ := g; rfl
        rw [this]
        exact ⟨_, _, rfl, .inl (.inl ha), hl2.trans hl.symm, O, S, ps, S', s, ⟨hl2, hr⟩, hb, q⟩
    · cases hb
  | _ => simp [bindT] at hb

/-! ### what is walked over -/
/-- J brings the items l, as long as what was seen at the start stands and the listed objects are as they are told -/
def Strm (K : PySem.W.Frag) (T0 : Addr → Prop) (H0 : Hp) (J : It) (l : List PV) (la : List (Addr × List PV)) : Prop :=
  ∀ T H, TOk T H → Keeps T0 T H0 H → (∀ q ∈ la, ObR K T H q.1 (.lst q.2)) → ∀ i, (i < l.length → J.go i H) ∧ (l.length ≤ i → J.stop i H) ∧ (∀ x H' p, J.yld i H x H' → l[i]? = some p → Ext H H' ∧ Rep K T H' x p)
/-- the operand of a walk: its value, the places that are locked for it -/
def evI (A : Opd) (S : AS) : R (PV × List Nat) := match A with
  | .nm i => match S[i]? with
    | some (.val p) => .ok (p, []) S
    | some (.own io false (.lst l)) => .ok (.lst l, [i]) (S.set i (.own io true (.lst l)))
    | some (.own io true (.lst l)) => .ok (.lst l, []) S
    | some (.own false false (.dct l)) => .ok (.dct l, []) (S.set i (.val (.dct l)))
    | _ => .bad
  | .tm d => match d S with
    | .ok rv S' => .ok (rv.pv, []) S'
    | .exc x p S' => .exc x p S'
    | .bad => .bad
theorem SRel.flag {i : Nat} {io lk lk' : Bool} {p : PV} (s : SRel K O S σ H) (h : S[i]? = some (.own io lk p)) : SRel K O (S.set i (.own io lk' p)) σ H ∧ ∀ x, Own (S.set i (.own io lk' p)) σ x ↔ Own S σ x := by
  have hi : i < S.length := (List.getElem?_eq_some_iff.mp h).1
  have eqO : ∀ x, Own (S.set i (.own io lk' p)) σ x ↔ Own S σ x := fun x => by
    constructor
    · rintro ⟨j, io', lk'', q, e1, e2⟩
      by_cases hj : i = j
      · subst hj
        rw [List.getElem?_set_self hi] at e1
        cases e1
        exact ⟨i, io, lk, p, h, e2⟩
      · rw [List.getElem?_set_ne hj] at e1
        exact ⟨j, io', lk'', q, e1, e2⟩
    · rintro ⟨j, io', lk'', q, e1, e2⟩
      by_cases hj : i = j
      · subst hj
        rw [h] at e1
        cases e1
        exact ⟨i, io, lk', p, List.getElem?_set_self hi, e2⟩
      · exact ⟨j, io', lk'', q, by rw [List.getElem?_set_ne hj]; exact e1, e2⟩
  have k : Keeps (Tot O S σ) (Tot O (S.set i (.own io lk' p)) σ) H H := ⟨s.tok, fun _ _ _ h => h, fun x u nx _ z => nx (z.imp id (eqO x).mp), fun _ _ h => h⟩
  refine ⟨⟨by simp [s.len], s.ot, fun j q e => ?_, fun j io' lk'' q e => ?_, fun j j' a io1 lk1 p1 io2 lk2 p2 e1 e2 => ?_⟩, eqO⟩
  · by_cases hj : i = j
    · subst hj
      rw [List.getElem?_set_self hi] at e
      cases e
    · rw [List.getElem?_set_ne hj] at e
      obtain ⟨v, e1, r1⟩ := s.val j q e
      exact ⟨v, e1, r1.keep k⟩
  · by_cases hj : i = j
    · subst hj
      rw [List.getElem?_set_self hi] at e
      cases e
      obtain ⟨b, e1, n, r1⟩ := s.own i io lk p h
      exact ⟨b, e1, n, r1.keep k rfl⟩
    · rw [List.getElem?_set_ne hj] at e
      obtain ⟨b, e1, n, r1⟩ := s.own j io' lk'' q e
      exact ⟨b, e1, n, r1.keep k rfl⟩
  · have f : ∀ {j : Nat} {io' lk'' q}, (S.set i (.own io lk' p))[j]? = some (.own io' lk'' q) → ∃ l2 q', S[j]? = some (.own io' l2 q') := fun {j io' lk'' q} e => by
      by_cases hj : i = j
      · subst hj
        rw [List.getElem?_set_self hi] at e
        cases e
        exact ⟨lk, p, h⟩
      · rw [List.getElem?_set_ne hj] at e
        exact ⟨lk'', q, e⟩
    obtain ⟨l1, q1, f1⟩ := f e1
    obtain ⟨l2, q2, f2⟩ := f e2
    exact s.inj j j' a _ _ _ _ _ _ f1 f2
theorem SRel.lockStep {i : Nat} {io : Bool} {p : PV} (s : SRel K O S σ H) (h : S[i]? = some (.own io false p)) : Step O S (S.set i (.own io true p)) σ H H := by
  have hi : i < S.length := (List.getElem?_eq_some_iff.mp h).1
  refine ⟨fun _ _ _ h => h, fun _ _ => rfl, fun x hx => ((s.flag h (lk' := true)).2 x).mp hx, fun j lk q e => ?_, fun j io' q e => ?_, fun _ h => h, fun _ _ h => h⟩
  · by_cases hj : i = j
    · subst hj
      rw [h] at e
      cases e
      exact ⟨true, p, List.getElem?_set_self hi⟩
    · exact ⟨lk, q, by rw [List.getElem?_set_ne hj]; exact e⟩
  · by_cases hj : i = j
    · subst hj
      rw [h] at e
      cases e
    · rw [List.getElem?_set_ne hj]; exact e
theorem freezeStep {i : Nat} {p : PV} (s : SRel K O S σ H) (h : S[i]? = some (.own false false p)) : Step O S (S.set i (.val p)) σ H H := by
  obtain ⟨s', sub⟩ := s.freeze h
  refine ⟨fun _ _ _ h => h, fun _ _ => rfl, sub, fun j lk q e => ?_, fun j io' q e => ?_, fun _ h => h, fun _ _ h => h⟩
  · have hj : i ≠ j := fun z => by subst z; rw [h] at e; cases e
    exact ⟨lk, q, by rw [List.getElem?_set_ne hj]; exact e⟩
  · have hj : i ≠ j := fun z => by subst z; rw [h] at e; cases e
    rw [List.getElem?_set_ne hj]; exact e
/-- the object of a walk's operand -/
def Held (K : PySem.W.Frag) (O : Addr → Prop) (S : AS) (σ : L2.St) (H : Hp) (v : V) (p : PV) (lk : List Nat) : Prop :=
  (lk = [] ∧ Rep K (Tot O S σ) H v p) ∨ ∃ (i : Nat) (io : Bool) (a : Addr) (l : List PV), S[i]? = some (.own io true (.lst l)) ∧ σ[i]? = some (some (.ref a)) ∧ v = .ref a ∧ p = .lst l
def GvI (G : Wd) (W : WX) (O : Addr → Prop) (S : AS) (σ : L2.St) (H : Hp) (r : R (PV × List Nat)) (Q : VK) : Prop := match r with
  | .ok (p, lk) S' => ∀ v H', Step O S S' σ H H' → SRel G.K O S' σ H' → Held G.K O S' σ H' v p lk → Q v H'
  | .exc c p S' => ∀ cls dd H', Step O S S' σ H H' → SRel G.K O S' σ H' → ExcRel G (Tot O S' σ) H' c p cls dd → W cls dd σ H'
  | .bad => False
theorem held_opd {Q : VK} (s : SRel G.K O S σ H) (h : GvI G W O S σ H (evI A S) Q) : tOpd G W A σ H Q := by
  cases A with
  | nm i =>
    simp only [evI] at h
    split at h
    · rename_i p e
      obtain ⟨v, ev, r⟩ := s.val i p e
      exact ⟨v, ev, h v H .refl s (.inl ⟨rfl, r⟩)⟩
    · rename_i io l e
      obtain ⟨a, ea, _, _⟩ := s.own i _ _ _ e
      have hi : i < S.length := (List.getElem?_eq_some_iff.mp e).1
      exact ⟨_, ea, h _ H (s.lockStep e) (s.flag e).1 (.inr ⟨i, io, a, l, List.getElem?_set_self hi, ea, rfl, rfl⟩)⟩
    · rename_i io l e
      obtain ⟨a, ea, _, _⟩ := s.own i _ _ _ e
      exact ⟨_, ea, h _ H .refl s (.inr ⟨i, io, a, l, e, ea, rfl, rfl⟩)⟩
    · rename_i l e
      obtain ⟨a, ea, _, _⟩ := s.own i _ _ _ e
      obtain ⟨s', sub⟩ := s.freeze e
      have hi : i < S.length := (List.getElem?_eq_some_iff.mp e).1
      obtain ⟨v', ev', r⟩ := s'.val i _ (List.getElem?_set_self hi)
      rw [ea] at ev'
      cases ev'
      exact ⟨_, ea, h _ H (freezeStep s e) s' (.inl ⟨rfl, r⟩)⟩
    · exact h.elim
  | tm d =>
    simp only [evI] at h
    refine tSem.mk s (fun rv S' e v H' st res => ?_) (fun x p S' e => ?_) (fun e => ?_)
    · simp only [e] at h
      obtain ⟨s', r⟩ := res.toVal s st
      exact h v H' st s' (.inl ⟨rfl, r⟩)
    · simp only [e] at h; exact h
    · simp only [e] at h; exact h
end
end Den
set_option Elab.async false
set_option linter.all false
set_option maxRecDepth 100000
set_option maxHeartbeats 400000
/-! Den18: for loops, while loops. -/
namespace Den
open PySem L2 PyProof.Rows
def unlk1 (S : AS) (i : Nat) : AS := match S[i]? with
  | some (.own io true p) => S.set i (.own io false p)
  | _ => S
def unlk (lk : List Nat) (S : AS) : AS := lk.foldl unlk1 S
section
variable {G : Wd} {c : Cs} {k : Nat} {W : WX} {O : Addr → Prop} {σ σ' σ1 σ2 : L2.St} {S S0 S1 S2 S' : AS} {H H1 H2 H' : Hp} {X : Cx} {e a b : Expr} {pos : Pos} {A B C : Opd} {K : PySem.W.Frag} {T T' : Addr → Prop} {D : Ends}
/-- how S' differs from S: some locks of lk are off -/
def Diff (lk : List Nat) (S S' : AS) : Prop := ∀ j, S'[j]? = S[j]? ∨ (j ∈ lk ∧ ∃ io p, S[j]? = some (.own io true p) ∧ S'[j]? = some (.own io false p))
theorem unlk1_ok (s : SRel K O S σ H) (i : Nat) : SRel K O (unlk1 S i) σ H ∧ (∀ x, Own (unlk1 S i) σ x ↔ Own S σ x) ∧ Diff [i] S (unlk1 S i) := by
  unfold unlk1
  split
  · rename_i io p e
    have hi : i < S.length := (List.getElem?_eq_some_iff.mp e).1
    refine ⟨(s.flag e).1, (s.flag e).2, fun j => ?_⟩
    by_cases hj : i = j
    · subst hj
      exact .inr ⟨by simp, io, p, e, List.getElem?_set_self hi⟩
    · exact .inl (List.getElem?_set_ne hj)
  · exact ⟨s, fun _ => Iff.rfl, fun j => .inl rfl⟩
theorem unlk_ok : ∀ (lk : List Nat) {S : AS}, SRel K O S σ H → SRel K O (unlk lk S) σ H ∧ (∀ x, Own (unlk lk S) σ x ↔ Own S σ x) ∧ Diff lk S (unlk lk S)
  | [], S, s => ⟨s, fun _ => Iff.rfl, fun j => .inl rfl⟩
  | i :: lk, S, s => by
    obtain ⟨a1, a2, a3⟩ := unlk1_ok s i
    obtain ⟨b1, b2, b3⟩ := unlk_ok lk a1
    refine ⟨b1, fun x => (b2 x).trans (a2 x), fun j => ?_⟩
    show (unlk lk (unlk1 S i))[j]? = S[j]? ∨ _
    rcases b3 j with h | ⟨m, io, p, h1, h2⟩
    · rw [h]
      rcases a3 j with h' | ⟨m, io, p, h1, h2⟩
      · exact .inl h'
      · exact .inr ⟨by simp at m; simp [m], io, p, h1, h ▸ h2⟩
    · rcases a3 j with h' | ⟨m', io', p', h1', h2'⟩
      · rw [h'] at h1
        exact .inr ⟨List.mem_cons_of_mem _ m, io, p, h1, h2⟩
      · rw [h2'] at h1
        cases h1
theorem StepS.unlk {lk : List Nat} (s : SRel K O S1 σ1 H1) (st : StepS O S S1 σ σ1 H H1) (nl : ∀ i ∈ lk, ∀ io p, S[i]? ≠ some (.own io true p)) : StepS O S (unlk lk S1) σ σ1 H H1 := by
  obtain ⟨b1, b2, b3⟩ := unlk_ok lk s
  refine ⟨st.rd, st.oo, fun x h => st.sub x ((b2 x).mp h), fun i l p h => ?_, fun i io p h => ?_, st.th, st.tl⟩
  · obtain ⟨⟨l', p', e⟩, es⟩ := st.io i l p h
    refine ⟨?_, es⟩
    rcases b3 i with h' | ⟨m, io, p2, h1, h2⟩
    · exact ⟨l', p', h'.trans e⟩
    · rw [e] at h1
      cases h1
      exact ⟨false, _, h2⟩
  · obtain ⟨e, es⟩ := st.lk i io p h
    refine ⟨?_, es⟩
    rcases b3 i with h' | ⟨m, io2, p2, h1, h2⟩
    · exact h'.trans e
    · exact (nl i m _ _ h).elim
/-- the places locked, and their objects -/
structure Locks (S0 S' : AS) (σ : L2.St) (lk : List Nat) (la : List (Addr × List PV)) : Prop where
  ob : ∀ q ∈ la, ∃ (i : Nat) (io : Bool), S'[i]? = some (.own io true (.lst q.2)) ∧ σ[i]? = some (some (.ref q.1))
  nl : ∀ i ∈ lk, ∀ io p, S0[i]? ≠ some (.own io true p)
theorem Locks.obr {lk : List Nat} {la : List (Addr × List PV)} (h : Locks S0 S σ lk la) (st : StepS O S S1 σ σ1 H H1) (s : SRel K O S1 σ1 H1) : ∀ q ∈ la, ObR K (Tot O S1 σ1) H1 q.1 (.lst q.2) := fun q hq => by
  obtain ⟨i, io, e1, e2⟩ := h.ob q hq
  obtain ⟨e3, e4⟩ := st.lk i io _ e1
  obtain ⟨a, e5, _, r⟩ := s.own i io true _ e3
  rw [e4, e2] at e5
  cases e5
  exact r
/-! ### walks -/
abbrev DI := AS → R (List PV × List Nat)
def GvW (G : Wd) (W : WX) (O : Addr → Prop) (S : AS) (σ : L2.St) (H : Hp) (r : R (List PV × List Nat)) (Q : It → Hp → Prop) : Prop := match r with
  | .ok (l, lk) S' => ∀ J H' la, Step O S S' σ H H' → SRel G.K O S' σ H' → Locks S S' σ lk la → Strm G.K (Tot O S' σ) H' J l la → Q J H'
  | .exc c p S' => ∀ cls dd H', Step O S S' σ H H' → SRel G.K O S' σ H' → ExcRel G (Tot O S' σ) H' c p cls dd → W cls dd σ H'
  | .bad => False
def tItr (G : Wd) (W : WX) (d : DI) : TI := fun σ H Q => ∃ O S, SRel G.K O S σ H ∧ GvW G W O S σ H (d S) Q
def SI (G : Wd) (c : Cs) (k : Nat) (tg e : Expr) (d : DI) : Prop := ∀ X W, Good G c k X → Takes X W → PI X tg e (tItr G W d)
theorem pi_of {tg : Expr} {t t' : TI} (h : PI X tg e t) (i : ∀ σ H Q, t' σ H Q → t σ H Q) : PI X tg e t' := ⟨fun pins s σ H Q I z => h.run pins s σ H Q I (i σ H Q z)⟩
theorem pi_orT {tg : Expr} {t1 t2 : TI} (h1 : PI X tg e t1) (h2 : PI X tg e t2) : PI X tg e (fun σ H Q => t1 σ H Q ∨ t2 σ H Q) := ⟨fun pins s σ H Q I z => z.elim (h1.run pins s σ H Q I) (h2.run pins s σ H Q I)⟩

/-! ### for -/
def loopS (t : Tg) (body : AS → RS) : List PV → AS → RS
  | [], S => .next S
  | p :: l, S => match bindT t p S with
    | none => .bad
    | some S1 => match body S1 with
      | .next S' => loopS t body l S'
      | .cnt S' => loopS t body l S'
      | .brk S' => .next S'
      | r => r
def dFor (it : DI) (t : Tg) (body : AS → RS) : AS → RS := fun S => match it S with
  | .ok (l, lk) S' => match loopS t body l S' with
    | .next S2 => .next (unlk lk S2)
    | .brk _ => .bad
    | .cnt _ => .bad
    | r => r
  | .exc x p S' => .exc x p S'
  | .bad => .bad
theorem drop_step {α : Type} {l : List α} {i : Nat} (h : i < l.length) : l.drop i = l[i] :: l.drop (i + 1) := by
  rw [List.drop_eq_getElem_cons h]
theorem for_go {it : DI} {t : Tg} {body : AS → RS} (z : tSemS G W (dFor it t body) D σ H) : tFor (tItr G W it) (semTg G t) (tSemS G W body) D σ H := by
  obtain ⟨O, S, s, z⟩ := z
  unfold dFor at z
  refine ⟨O, S, s, ?_⟩
  cases e : it S with
  | bad => simp only [e] at z; exact z
  | exc x p S' => simp only [e] at z; exact fun cls dd H' st s' ex => z cls dd σ H' st.s s' ex
  | ok r S' =>
    obtain ⟨l, lk⟩ := r
    simp only [e] at z
    intro J H' la st s' lo str
    have fin : ∀ S1 σ1 H1, loopS t body l S' = .next S1 → StepS O S' S1 σ σ1 H' H1 → SRel G.K O S1 σ1 H1 → D.nx σ1 H1 := fun S1 σ1 H1 el st1 s1 => by
      rw [el] at z
      exact z σ1 H1 ((st.s.trans st1).unlk s1 lo.nl) (unlk_ok lk s1).1
    refine ⟨fun i m σ1 H1 => m = l.length - i ∧ i ≤ l.length ∧ ∃ S1, StepS O S' S1 σ σ1 H' H1 ∧ SRel G.K O S1 σ1 H1 ∧ loopS t body l S' = loopS t body (l.drop i) S1, ⟨_, rfl, Nat.zero_le _, S', .refl, s', rfl⟩, ?_⟩
    rintro i m σ1 H1 ⟨rfl, hi, S1, st1, s1, el⟩
    obtain ⟨h1, h2, h3⟩ := str (Tot O S1 σ1) H1 s1.tok (st1.keeps s') (lo.obr st1 s1) i
    by_cases hlt : i < l.length
    · refine .inr ⟨h1 hlt, fun σ2 H2 => l.length - (i + 1) = l.length - (i + 1) ∧ i + 1 ≤ l.length ∧ ∃ S1, StepS O S' S1 σ σ2 H' H2 ∧ SRel G.K O S1 σ2 H2 ∧ loopS t body l S' = loopS t body (l.drop (i + 1)) S1, fun σ2 H2 n => ⟨_, by omega, n⟩, fun x H2 hy => ?_⟩
      obtain ⟨ex, rp⟩ := h3 x H2 l[i] hy (List.getElem?_eq_getElem hlt)
      rw [drop_step hlt, loopS] at el
      have s2 := s1.ext ex
      have st2 : StepS O S' S1 σ σ1 H' H2 := st1.trans (Step.ext ex s1).s
      cases eb : bindT t l[i] S1 with
      | none =>
        simp only [eb] at el
        rw [el] at z
        exact z.elim
      | some S2 =>
        simp only [eb] at el
        refine ⟨O, S1, l[i], S2, s2, rp, eb, fun σ3 _ _ st3 s3 => ?_⟩
        refine ⟨O, S2, s3, ?_⟩
        cases er : body S2 with
        | next S3 => simp only [er] at el; exact fun σ4 H4 st4 s4 => ⟨rfl, hlt, S3, (st2.trans st3).trans st4, s4, el⟩
        | cnt S3 => simp only [er] at el; exact fun σ4 H4 st4 s4 => ⟨rfl, hlt, S3, (st2.trans st3).trans st4, s4, el⟩
        | brk S3 => simp only [er] at el; exact fun σ4 H4 st4 s4 => fin S3 σ4 H4 el ((st2.trans st3).trans st4) s4
        | ret p S3 =>
          simp only [er] at el
          rw [el] at z
          exact fun v σ4 H4 st4 s4 r4 => z v σ4 H4 (st.s.trans ((st2.trans st3).trans st4)) s4 r4
        | exc x p S3 =>
          simp only [er] at el
          rw [el] at z
          exact fun cls dd σ4 H4 st4 s4 r4 => z cls dd σ4 H4 (st.s.trans ((st2.trans st3).trans st4)) s4 r4
        | bad =>
          simp only [er] at el
          rw [el] at z
          exact z
    · have : i = l.length := by omega
      subst this
      rw [List.drop_length, loopS] at el
      exact .inl ⟨h2 (Nat.le_refl _), fin S1 σ1 H1 el st1 s1⟩
abbrev FoldOk (e : Expr) : Prop := ∀ (env : Env) (x : Value), foldedSetIterable e env x = pure x
theorem ss_for {tg iter : Expr} {body : List Stmt} {it : DI} {t : Tg} {d : AS → RS} (hi : SI G c k tg iter it) (hg : SG G c k tg t) (hb : SSs G c k body d) (hf : FoldOk iter := by intro _ _; rfl) : SS G c k (.For tg iter body [] pos) (dFor it t d) := fun X W g tk =>
  ps_of (ps_for g.po g.calm (hi X W g tk) (hg X g) (hb X W g tk) (hf _)) fun _ _ _ z => for_go z
/-! ### while -/
def loopW (t : AS → R Bool) (body : AS → RS) : Nat → AS → RS
  | 0, _ => .bad
  | n + 1, S => match t S with
    | .ok true S1 => match body S1 with
      | .next S' => loopW t body n S'
      | .cnt S' => loopW t body n S'
      | .brk S' => .next S'
      | r => r
    | .ok false S1 => .next S1
    | .exc x p S' => .exc x p S'
    | .bad => .bad
theorem while_go {n : Nat} {t : AS → R Bool} {body : AS → RS} (z : tSemS G W (loopW t body n) D σ H) : tWhile (tSemT G W t) (tSemS G W body) D σ H := by
  obtain ⟨O, S, s, z⟩ := z
  refine ⟨fun m σ1 H1 => ∃ S1, StepS O S S1 σ σ1 H H1 ∧ SRel G.K O S1 σ1 H1 ∧ loopW t body n S = loopW t body m S1, ⟨n, S, .refl, s, rfl⟩, ?_⟩
  rintro m σ1 H1 ⟨S1, st1, s1, el⟩
  refine ⟨O, S1, s1, ?_⟩
  cases m with
  | zero =>
    rw [loopW] at el
    rw [el] at z
    exact z.elim
  | succ m =>
    rw [loopW] at el
    cases et : t S1 with
    | bad => simp only [et] at el; rw [el] at z; exact z
    | exc x p S' => simp only [et] at el; rw [el] at z; exact fun cls dd H' st s' ex => z cls dd σ1 H' (st1.trans st.s) s' ex
    | ok b S2 =>
      simp only [et] at el
      intro H2 st2 s2
      cases b with
      | false =>
        simp only at el
        simp only [Bool.false_eq_true, if_false]
        rw [el] at z
        exact z σ1 H2 (st1.trans st2.s) s2
      | true =>
        simp only at el
        simp only [if_true]
        refine ⟨fun σ' H' => ∃ S1, StepS O S S1 σ σ' H H' ∧ SRel G.K O S1 σ' H' ∧ loopW t body n S = loopW t body m S1, fun σ' H' q => ⟨m, Nat.lt_succ_self m, q⟩, O, S2, s2, ?_⟩
        cases er : body S2 with
        | next S3 => simp only [er] at el; exact fun σ4 H4 st4 s4 => ⟨S3, (st1.trans st2.s).trans st4, s4, el⟩
        | cnt S3 => simp only [er] at el; exact fun σ4 H4 st4 s4 => ⟨S3, (st1.trans st2.s).trans st4, s4, el⟩
        | brk S3 => simp only [er] at el; rw [el] at z; exact fun σ4 H4 st4 s4 => z σ4 H4 ((st1.trans st2.s).trans st4) s4
        | ret p S3 => simp only [er] at el; rw [el] at z; exact fun v σ4 H4 st4 s4 r4 => z v σ4 H4 ((st1.trans st2.s).trans st4) s4 r4
        | exc x p S3 => simp only [er] at el; rw [el] at z; exact fun cls dd σ4 H4 st4 s4 r4 => z cls dd σ4 H4 ((st1.trans st2.s).trans st4) s4 r4
        | bad => simp only [er] at el; rw [el] at z; exact z
theorem ss_while {x : Expr} {body : List Stmt} {t : AS → R Bool} {d : AS → RS} (n : Nat) (ht : ST G c k x t) (hb : SSs G c k body d) : SS G c k (.While x body [] pos) (loopW t d n) := fun X W g tk =>
  ps_of (ps_while g.po (ht X W g tk) (hb X W g tk)) fun _ _ _ z => while_go z
end
end Den
set_option Elab.async false
set_option linter.all false
set_option maxRecDepth 100000
set_option maxHeartbeats 400000
/-! Den19: what is walked over: lists, tuples, texts, dicts, enumerate, zip, range. -/
namespace Den
open PySem L2 PyProof.Rows
section
variable {G : Wd} {c : Cs} {k : Nat} {W : WX} {O : Addr → Prop} {σ σ' σ1 σ2 : L2.St} {S S0 S1 S2 S' : AS} {H H0 H1 H2 H' : Hp} {X : Cx} {e a b : Expr} {pos : Pos} {A B C : Opd} {K : PySem.W.Frag} {T T' : Addr → Prop} {D : Ends}
/-- a walked list stands -/
theorem held_list {l : List PV} {lk : List Nat} {v : V} (s : SRel K O S σ H) (h : Held K O S σ H v (.lst l) lk) : ∃ (a : Addr) (la : List (Addr × List PV)), v = .ref a ∧ (∀ q ∈ la, ∃ (i : Nat) (io : Bool), S[i]? = some (.own io true (.lst q.2)) ∧ σ[i]? = some (some (.ref q.1))) ∧
    ∀ T' H', Keeps (Tot O S σ) T' H H' → (∀ q ∈ la, ObR K T' H' q.1 (.lst q.2)) → ∃ vs, H' a = some (.lst vs) ∧ RepL K T' H' vs l := by
  rcases h with ⟨rfl, r⟩ | ⟨i, io, a, m, e1, e2, rfl, e3⟩
  · obtain ⟨a, vs, rfl, h1, rl⟩ := r.pr
    refine ⟨a, [], rfl, fun q hq => by simp at hq, fun T' H' kp _ => ?_⟩
    obtain ⟨a', vs', e, h1', rl'⟩ := (r.keep kp).pr
    cases e
    exact ⟨vs', h1', rl'⟩
  · cases e3
    refine ⟨a, [(a, l)], rfl, fun q hq => ?_, fun T' H' kp h => h (a, l) (by simp)⟩
    simp at hq
    subst hq
    exact ⟨i, io, e1, e2⟩
theorem held_tup {l : List PV} {lk : List Nat} {v : V} (h : Held K O S σ H v (.tup l) lk) : ∃ a, v = .ref a ∧ ∀ T' H', Keeps (Tot O S σ) T' H H' → ∃ vs, H' a = some (.tup vs) ∧ RepL K T' H' vs l := by
  rcases h with ⟨rfl, r⟩ | ⟨i, io, a, m, e1, e2, rfl, e3⟩
  · obtain ⟨a, vs, rfl, h1, rl⟩ := r.pr
    refine ⟨a, rfl, fun T' H' kp => ?_⟩
    obtain ⟨a', vs', e, h1', rl'⟩ := (r.keep kp).pr
    cases e
    exact ⟨vs', h1', rl'⟩
  · cases e3
theorem repl_ix {vs : List V} {l : List PV} (r : RepL K T H vs l) {i : Nat} (h : i < l.length) : ∃ v, vs[i]? = some v := ⟨vs[i]'(by rw [r.1]; exact h), List.getElem?_eq_getElem _⟩
theorem seq_one {a : Addr} {vs xs : List V} (h : SqL K H a xs) (h' : H a = some (.lst vs)) (kn : ∀ o, List.lookup a K = some o → False) : xs = vs := by
  rcases h with h | ⟨o, _, _, e, _⟩
  · rcases h with h | ⟨o, h⟩
    · rw [h'] at h; cases h; rfl
    · rw [h'] at h; cases h
  · exact (kn o e).elim
theorem strm_list {a : Addr} {l : List PV} {la : List (Addr × List PV)} (h : ∀ T' H', Keeps T T' H H' → (∀ q ∈ la, ObR K T' H' q.1 (.lst q.2)) → ∃ vs, H' a = some (.lst vs) ∧ RepL K T' H' vs l) : Strm K T H (Itl K a) l la := fun T' H' tk kp hl i => by
  obtain ⟨vs, h1, r⟩ := h T' H' kp hl
  refine ⟨fun hi => ?_, fun hi => ⟨vs, .inl (.inl h1), by rw [r.1]; exact hi⟩, fun x H2 p hy hp => ?_⟩
  · obtain ⟨v, hv⟩ := repl_ix r hi
    exact ⟨vs, v, .inl (.inl h1), hv⟩
  · obtain ⟨rfl, hy⟩ := hy
    exact ⟨fun _ _ h => h, r.2 i x p (hy vs (.inl (.inl h1))) hp⟩
theorem strm_tup {a : Addr} {l : List PV} (h : ∀ T' H', Keeps T T' H H' → ∃ vs, H' a = some (.tup vs) ∧ RepL K T' H' vs l) : Strm K T H (Itt K a) l [] := fun T' H' tk kp hl i => by
  obtain ⟨vs, h1, r⟩ := h T' H' kp
  refine ⟨fun hi => ?_, fun hi => ⟨vs, .inl (.inl h1), by rw [r.1]; exact hi⟩, fun x H2 p hy hp => ?_⟩
  · obtain ⟨v, hv⟩ := repl_ix r hi
    exact ⟨vs, v, .inl (.inl h1), hv⟩
  · obtain ⟨rfl, hy⟩ := hy
    exact ⟨fun _ _ h => h, r.2 i x p (hy vs (.inl (.inl h1))) hp⟩
def signs (x : Str) : List PV := x.cps.toList.map fun ch => .str ⟨#[ch]⟩
theorem strm_str {x : Str} : Strm K T H (Its x) (signs x) [] := fun T' H' tk kp hl i => by
  refine ⟨fun hi => ?_, fun hi => ?_, fun v H2 p hy hp => ?_⟩
  · show i < x.cps.size
    simpa [signs] using hi
  · show x.cps.size ≤ i
    simpa [signs] using hi
  · obtain ⟨rfl, ch, hc, rfl⟩ := hy
    refine ⟨fun _ _ h => h, ?_⟩
    rw [signs, List.getElem?_map, Array.getElem?_toList, hc] at hp
    cases hp
    exact .str _
def enumP : Nat → List PV → List PV
  | _, [] => []
  | n, p :: l => .tup [.int (n : Nat), p] :: enumP (n + 1) l
theorem enumP_len : ∀ {l : List PV} {n : Nat}, (enumP n l).length = l.length
  | [], _ => rfl
  | p :: l, n => by rw [enumP, List.length_cons, List.length_cons, enumP_len]
theorem enumP_get : ∀ {l : List PV} {n i : Nat}, (enumP n l)[i]? = (l[i]?).map fun p => .tup [.int ((n + i : Nat) : Int), p]
  | [], n, i => by simp [enumP]
  | p :: l, n, 0 => by simp [enumP]
  | p :: l, n, i + 1 => by
    rw [enumP, List.getElem?_cons_succ, List.getElem?_cons_succ, enumP_get]
    rw [show n + 1 + i = n + (i + 1) by omega]
def zipP : List PV → List PV → List PV
  | p :: l, q :: m => .tup [p, q] :: zipP l m
  | _, _ => []
theorem zipP_len : ∀ {l m : List PV}, (zipP l m).length = min l.length m.length
  | [], m => by simp [zipP]
  | p :: l, [] => by simp [zipP]
  | p :: l, q :: m => by rw [zipP, List.length_cons, List.length_cons, List.length_cons, zipP_len]; omega
theorem zipP_get : ∀ {l m : List PV} {i : Nat} {r : PV}, (zipP l m)[i]? = some r → ∃ p q, l[i]? = some p ∧ m[i]? = some q ∧ r = .tup [p, q]
  | [], m, i, r, h => by simp [zipP] at h
  | p :: l, [], i, r, h => by simp [zipP] at h
  | p :: l, q :: m, 0, r, h => by simp [zipP] at h; exact ⟨p, q, rfl, rfl, h.symm⟩
  | p :: l, q :: m, i + 1, r, h => by
    rw [zipP, List.getElem?_cons_succ] at h
    obtain ⟨a, b, e1, e2, e3⟩ := zipP_get (l := l) (m := m) (i := i) (r := r) h
    exact ⟨a, b, by rw [List.getElem?_cons_succ]; exact e1, by rw [List.getElem?_cons_succ]; exact e2, e3⟩
/-! dicts: locked for good -/
theorem SRel.lockD {d : Addr} {u : HO} {o : Obj} (s : SRel K O S σ H) (n : ¬ Tot O S σ d) (h : H d = some u) (hu : (∃ kvs, u = .dK kvs) ∨ ∃ kvs, u = .dT kvs) : SRel K O S σ (upd H d (.frz o u)) ∧ Step O S S σ H (upd H d (.frz o u)) := by
  have nl : ∀ vs, u ≠ .lst vs := fun vs e => by rcases hu with ⟨kvs, rfl⟩ | ⟨kvs, rfl⟩ <;> cases e
  have rd : ∀ x w, Se H x w → Se (upd H d (.frz o u)) x w := fun x w hx => by
    by_cases hd : x = d
    · subst hd
      rcases hx with hx | ⟨_, o', hx⟩
      · rw [h] at hx; cases hx
        exact .inr ⟨nl, o, upd_same⟩
      · rw [h] at hx; cases hx
        rcases hu with ⟨kvs, e⟩ | ⟨kvs, e⟩ <;> cases e
    · unfold Se; rw [upd_ne hd]; exact hx
  have fx : ∀ x w, FxAt H x w → FxAt (upd H d (.frz o u)) x w := fun x w ⟨hx, f⟩ => by
    by_cases hd : x = d
    · subst hd
      rw [h] at hx; cases hx
      rcases hu with ⟨kvs, rfl⟩ | ⟨kvs, rfl⟩ <;> exact f.elim
    · exact ⟨by rw [upd_ne hd]; exact hx, f⟩
  have oth : ∀ x, Tot O S σ x → upd H d (.frz o u) x = H x := fun x hx => upd_ne fun q => n (q ▸ hx)
  have k : Keeps (Tot O S σ) (Tot O S σ) H (upd H d (.frz o u)) := ⟨s.tok, fun x w _ hx => rd x w hx, fun _ _ n _ => n, fx⟩
  refine ⟨⟨s.len, fun x hx => by rw [oth x (.inl hx)]; exact s.ot x hx, fun i p e => let ⟨v, q, r⟩ := s.val i p e; ⟨v, q, r.keep k⟩, fun i io lk p e => ?_, s.inj⟩,
    fun x w _ hx => rd x w hx, fun x hx => oth x (.inl hx), fun _ h => h, fun i lk p h => ⟨lk, p, h⟩, fun _ _ _ h => h, fun x hx => ?_, fx⟩
  · obtain ⟨a, q, n', r⟩ := s.own i io lk p e
    exact ⟨a, q, n', r.keep k (oth a (.inr ⟨i, io, lk, p, e, q⟩))⟩
  · by_cases hd : x = d
    · subst hd; rw [upd_same]; exact fun z => nomatch z
    · rw [upd_ne hd]; exact hx
/-- the value may be locked behind its making -/
theorem pe_lockv {t : TE} (h : PE X e t) : PE X e (fun σ H Q => t σ H (fun v H1 => Q v H1 ∨ ∃ d u, v = .ref d ∧ H1 d = some u ∧ Mut (some u) ∧ ∀ od, Q v (upd H1 d (.frz od u)))) := ⟨fun pins s σ H Q I z => by
  refine thn (h.run pins s σ H _ I z) fun u s1 ⟨x, H1, I1, r, q⟩ => ?_
  rcases q with q | ⟨d, w, rfl, hd, mu, q⟩
  · exact ⟨x, H1, I1, r, q⟩
  · obtain ⟨od, I2⟩ := I1.lock hd mu
    exact ⟨_, _, I2, r, q od⟩⟩
/-- a walked dict, locked -/
theorem held_dct {l : List (PV × PV)} {lk : List Nat} {v : V} {Q : VK} (s : SRel K O S σ H) (h : Held K O S σ H v (.dct l) lk)
    (q : ∀ H' d o, v = .ref d → Step O S S σ H H' → SRel K O S σ H' → lk = [] → ((∃ kvs, H' d = some (.frz o (.dK kvs)) ∧ RepK K (Tot O S σ) H' kvs l) ∨ ∃ kvs, H' d = some (.frz o (.dT kvs)) ∧ l ≠ [] ∧ RepT K (Tot O S σ) H' kvs l) → Q v H') :
    Q v H ∨ ∃ d u, v = .ref d ∧ H d = some u ∧ Mut (some u) ∧ ∀ od, Q v (upd H d (.frz od u)) := by
  rcases h with ⟨rfl, r⟩ | ⟨i, io, a, m, e1, e2, rfl, e3⟩
  · cases r with
    | @dctK d kvs _ n h1 e hk hv =>
      have rk : RepK K (Tot O S σ) H kvs l := ⟨e, hk, hv⟩
      rcases h1 with h1 | ⟨o, h1⟩
      · refine .inr ⟨d, _, rfl, h1, trivial, fun od => ?_⟩
        obtain ⟨s', st⟩ := s.lockD (o := od) n h1 (.inl ⟨_, rfl⟩)
        exact q _ d od rfl st s' rfl (.inl ⟨kvs, upd_same, rk.keep (st.keeps s)⟩)
      · exact .inl (q H d o rfl .refl s rfl (.inl ⟨kvs, h1, rk⟩))
    | @dctT d kvs _ n h1 ne e hk hv =>
      have rk : RepT K (Tot O S σ) H kvs l := ⟨e, hk, hv⟩
      rcases h1 with h1 | ⟨o, h1⟩
      · refine .inr ⟨d, _, rfl, h1, trivial, fun od => ?_⟩
        obtain ⟨s', st⟩ := s.lockD (o := od) n h1 (.inr ⟨_, rfl⟩)
        exact q _ d od rfl st s' rfl (.inr ⟨kvs, upd_same, ne, rk.keep (st.keeps s)⟩)
      · exact .inl (q H d o rfl .refl s rfl (.inr ⟨kvs, h1, ne, rk⟩))
  · cases e3
theorem strm_keysK {d : Addr} {o : Obj} {kvs : List (L2.Key × V)} {l : List (PV × PV)} (h : H d = some (.frz o (.dK kvs))) (r : RepK K T H kvs l) : Strm K T H (Itk d o kvs) (keysP l) [] := fun T' H' tk kp hl i => by
  have h' : H' d = some (.frz o (.dK kvs)) := (kp.tl d _ ⟨h, trivial⟩).1
  have r' := r.keep kp
  have hlen : (keysP l).length = kvs.length := by rw [keysP, List.length_map, r.1]
  refine ⟨fun hi => ⟨h', by omega⟩, fun hi => ⟨h', by omega⟩, fun x H2 p hy hp => ?_⟩
  obtain ⟨rfl, k, v, e, rfl⟩ := hy
  refine ⟨fun _ _ h => h, ?_⟩
  rw [repK_keys r', List.getElem?_map, e] at hp
  cases hp
  exact rep_key k
theorem strm_keysT {d : Addr} {o : Obj} {kvs : List (List L2.Key × V)} {l : List (PV × PV)} (h : H d = some (.frz o (.dT kvs))) (r : RepT K T H kvs l) : Strm K T H (Itkt d o kvs) (keysP l) [] := fun T' H' tk kp hl i => by
  have h' : H' d = some (.frz o (.dT kvs)) := (kp.tl d _ ⟨h, trivial⟩).1
  have r' := r.keep kp
  have hlen : (keysP l).length = kvs.length := by rw [keysP, List.length_map, r.1]
  refine ⟨fun hi => ⟨h', by omega⟩, fun hi => ⟨h', by omega⟩, fun x H2 p hy hp => ?_⟩
  obtain ⟨rfl, k, v, q, e, rfl, hq⟩ := hy
  refine ⟨fun _ _ h => h, ?_⟩
  rw [repT_keys r', List.getElem?_map, e] at hp
  cases hp
  have rr : RepL K T' H2 (k.map kV) (k.map keyPV) := repl_of rep_key k
  exact .tup hq rr.1 rr.2
theorem strm_vals {d : Addr} {o : Obj} {kvs : List (L2.Key × V)} {l : List (PV × PV)} (h : H d = some (.frz o (.dK kvs))) (r : RepK K T H kvs l) : Strm K T H (Itd d o kvs) (l.map (·.2)) [] := fun T' H' tk kp hl i => by
  have h' : H' d = some (.frz o (.dK kvs)) := (kp.tl d _ ⟨h, trivial⟩).1
  have r' := r.keep kp
  have hlen : (l.map (·.2)).length = kvs.length := by rw [List.length_map, r.1]
  refine ⟨fun hi => ⟨h', by omega⟩, fun hi => ⟨h', by omega⟩, fun x H2 p hy hp => ?_⟩
  obtain ⟨rfl, k, e⟩ := hy
  refine ⟨fun _ _ h => h, ?_⟩
  rw [List.getElem?_map] at hp
  cases e2 : l[i]? with
  | none => rw [e2] at hp; cases hp
  | some q =>
    rw [e2] at hp
    cases hp
    exact r'.2.2 i _ q e e2
def pairsP (l : List (PV × PV)) : List PV := l.map fun q => .tup [q.1, q.2]
theorem strm_items {d : Addr} {o : Obj} {kvs : List (L2.Key × V)} {l : List (PV × PV)} (h : H d = some (.frz o (.dK kvs))) (r : RepK K T H kvs l) : Strm K T H (Iti d o kvs) (pairsP l) [] := fun T' H' tk kp hl i => by
  have h' : H' d = some (.frz o (.dK kvs)) := (kp.tl d _ ⟨h, trivial⟩).1
  have r' := r.keep kp
  have hlen : (pairsP l).length = kvs.length := by rw [pairsP, List.length_map, r.1]
  refine ⟨fun hi => ⟨h', by omega⟩, fun hi => ⟨h', by omega⟩, fun x H2 p hy hp => ?_⟩
  obtain ⟨Tt, k, v, e, rfl, hT, rfl⟩ := hy
  have ex : Ext H' (upd H' Tt (.tup [kV k, v])) := Ext.new hT
  refine ⟨ex, ?_⟩
  rw [pairsP, List.getElem?_map] at hp
  cases e2 : l[i]? with
  | none => rw [e2] at hp; cases hp
  | some q =>
    rw [e2] at hp
    cases hp
    have r1 := r'.2.1 i _ q e e2
    have r2 := r'.2.2 i _ q e e2
    have rr : RepL K T' (upd H' Tt (.tup [kV k, v])) [kV k, v] [q.1, q.2] := .cons (r1 ▸ rep_key k) (.cons (r2.keep (.ext tk ex)) .nil)
    exact .tup upd_same rr.1 rr.2
theorem strm_enum {a : Addr} {l : List PV} {la : List (Addr × List PV)} (h : ∀ T' H', Keeps T T' H H' → (∀ q ∈ la, ObR K T' H' q.1 (.lst q.2)) → ∃ vs, H' a = some (.lst vs) ∧ RepL K T' H' vs l) : Strm K T H (Ite K a) (enumP 0 l) la := fun T' H' tk kp hl i => by
  obtain ⟨vs, h1, r⟩ := h T' H' kp hl
  rw [enumP_len]
  refine ⟨fun hi => ?_, fun hi => ⟨vs, .inl (.inl h1), by rw [r.1]; exact hi⟩, fun x H2 p hy hp => ?_⟩
  · obtain ⟨v, hv⟩ := repl_ix r hi
    exact ⟨vs, v, .inl (.inl h1), hv⟩
  · obtain ⟨Tt, x, rfl, hT, rfl, hy⟩ := hy
    have ex : Ext H' (upd H' Tt (.tup [V.int (i : Nat), x])) := Ext.new hT
    refine ⟨ex, ?_⟩
    rw [enumP_get] at hp
    cases e2 : l[i]? with
    | none => rw [e2] at hp; cases hp
    | some q =>
      rw [e2] at hp
      cases hp
      have rp := r.2 i x q (hy vs (.inl (.inl h1))) e2
      have rr : RepL K T' (upd H' Tt (.tup [V.int (i : Nat), x])) [V.int (i : Nat), x] [.int ((0 + i : Nat) : Int), q] := .cons (by rw [Nat.zero_add]; exact .int _) (.cons (rp.keep (.ext tk ex)) .nil)
      exact .tup upd_same rr.1 rr.2
theorem strm_zip {a b : Addr} {l m : List PV} {la : List (Addr × List PV)} (h : ∀ T' H', Keeps T T' H H' → (∀ q ∈ la, ObR K T' H' q.1 (.lst q.2)) → ∃ vs, H' a = some (.lst vs) ∧ RepL K T' H' vs l)
    (h' : ∀ T' H', Keeps T T' H H' → (∀ q ∈ la, ObR K T' H' q.1 (.lst q.2)) → ∃ vs, H' b = some (.lst vs) ∧ RepL K T' H' vs m) : Strm K T H (Itz K a b) (zipP l m) la := fun T' H' tk kp hl i => by
  obtain ⟨vs, h1, r⟩ := h T' H' kp hl
  obtain ⟨ws, h2, r'⟩ := h' T' H' kp hl
  rw [zipP_len]
  refine ⟨fun hi => ?_, fun hi => ⟨vs, ws, .inl (.inl h1), .inl (.inl h2), by rw [r.1, r'.1]; omega⟩, fun x H2 p hy hp => ?_⟩
  · obtain ⟨v, hv⟩ := repl_ix r (i := i) (by omega)
    obtain ⟨w, hw⟩ := repl_ix r' (i := i) (by omega)
    exact ⟨vs, ws, v, w, .inl (.inl h1), .inl (.inl h2), hv, hw⟩
  · obtain ⟨Tt, x, y, rfl, hT, rfl, hx, hy⟩ := hy
    have ex : Ext H' (upd H' Tt (.tup [x, y])) := Ext.new hT
    refine ⟨ex, ?_⟩
    obtain ⟨p1, p2, e1, e2, rfl⟩ := zipP_get hp
    have r1 := r.2 i x p1 (hx vs (.inl (.inl h1))) e1
    have r2 := r'.2 i y p2 (hy ws (.inl (.inl h2))) e2
    have rr : RepL K T' (upd H' Tt (.tup [x, y])) [x, y] [p1, p2] := .cons (r1.keep (.ext tk ex)) (.cons (r2.keep (.ext tk ex)) .nil)
    exact .tup upd_same rr.1 rr.2
theorem strm_zipT {a b : Addr} {l m : List PV} (h : ∀ T' H', Keeps T T' H H' → ∃ vs, H' a = some (.tup vs) ∧ RepL K T' H' vs l)
    (h' : ∀ T' H', Keeps T T' H H' → ∃ vs, H' b = some (.tup vs) ∧ RepL K T' H' vs m) : Strm K T H (RZ.ItzT K a b) (zipP l m) [] := fun T' H' tk kp hl i => by
  obtain ⟨vs, h1, r⟩ := h T' H' kp
  obtain ⟨ws, h2, r'⟩ := h' T' H' kp
  rw [zipP_len]
  refine ⟨fun hi => ?_, fun hi => ⟨vs, ws, .inl (.inl h1), .inl (.inl h2), by rw [r.1, r'.1]; omega⟩, fun x H2 p hy hp => ?_⟩
  · obtain ⟨v, hv⟩ := repl_ix r (i := i) (by omega)
    obtain ⟨w, hw⟩ := repl_ix r' (i := i) (by omega)
    exact ⟨vs, ws, v, w, .inl (.inl h1), .inl (.inl h2), hv, hw⟩
  · obtain ⟨Tt, x, y, rfl, hT, rfl, hx, hy⟩ := hy
    have ex : Ext H' (upd H' Tt (.tup [x, y])) := Ext.new hT
    refine ⟨ex, ?_⟩
    obtain ⟨p1, p2, e1, e2, rfl⟩ := zipP_get hp
    have r1 := r.2 i x p1 (hx vs (.inl (.inl h1))) e1
    have r2 := r'.2 i y p2 (hy ws (.inl (.inl h2))) e2
    have rr : RepL K T' (upd H' Tt (.tup [x, y])) [x, y] [p1, p2] := .cons (r1.keep (.ext tk ex)) (.cons (r2.keep (.ext tk ex)) .nil)
    exact .tup upd_same rr.1 rr.2
def rngP (lo c : Int) (n : Nat) : List PV := (List.range n).map fun i => .int (lo + (i : Nat) * c)
theorem strm_rng {lo : Int} {n : Nat} : Strm K T H (Itr lo n) (rngP lo 1 n) [] := fun T' H' tk kp hl i => by
  have hn : (rngP lo 1 n).length = n := by simp [rngP]
  rw [hn]
  refine ⟨fun hi => hi, fun hi => hi, fun x H2 p hy hp => ?_⟩
  obtain ⟨rfl, rfl⟩ := hy
  refine ⟨fun _ _ h => h, ?_⟩
  by_cases hi : i < n
  · simp [rngP, hi] at hp
    subst hp
    exact .int _
  · simp [rngP, hi] at hp
theorem strm_rngC {lo cc : Int} {n : Nat} : Strm K T H (Itc lo cc n) (rngP lo cc n) [] := fun T' H' tk kp hl i => by
  have hn : (rngP lo cc n).length = n := by simp [rngP]
  rw [hn]
  refine ⟨fun hi => hi, fun hi => hi, fun x H2 p hy hp => ?_⟩
  obtain ⟨rfl, rfl⟩ := hy
  refine ⟨fun _ _ h => h, ?_⟩
  by_cases hi : i < n
  · simp [rngP, hi] at hp
    subst hp
    exact .int _
  · simp [rngP, hi] at hp
end
end Den
set_option Elab.async false
set_option linter.all false
set_option maxRecDepth 100000
set_option maxHeartbeats 400000
/-! Den20: walks as rules. -/
namespace Den
open PySem L2 PyProof.Rows
section
variable {G : Wd} {c : Cs} {k : Nat} {W : WX} {O : Addr → Prop} {σ σ' σ1 σ2 : L2.St} {S S0 S1 S2 S' : AS} {H H0 H1 H2 H' : Hp} {X : Cx} {e a b tg : Expr} {pos apos : Pos} {A B C : Opd} {K : PySem.W.Frag} {T T' : Addr → Prop} {D : Ends}
theorem evI_nl {p : PV} {lk : List Nat} (h : evI A S = .ok (p, lk) S') : ∀ i ∈ lk, ∀ io q, S[i]? ≠ some (.own io true q) := by
  cases A with
  | nm j =>
    simp only [evI] at h
    split at h
    · cases h; intro i hi; simp at hi
    · rename_i e
      cases h
      intro i hi io q e'
      simp at hi
      subst hi
      rw [e] at e'; cases e'
    · cases h; intro i hi; simp at hi
    · cases h; intro i hi; simp at hi
    · cases h
  | tm d =>
    simp only [evI] at h
    split at h
    · cases h; intro i hi; simp at hi
    · cases h
    · cases h
/-! for x in e -/
def itemsP : PV → Option (List PV)
  | .lst l => some l
  | .tup l => some l
  | .str x => some (signs x)
  | .dct l => some (keysP l)
  | _ => none
def dPlain (A : Opd) : DI := fun S => match evI A S with
  | .ok (p, lk) S' => match itemsP p with
    | some l => .ok (l, lk) S'
    | none => .bad
  | .exc x p S' => .exc x p S'
  | .bad => .bad
theorem tOpd_lock {Q : VK} (h : tOpd G W A σ H (fun v H1 => Q v H1 ∨ ∃ d u, v = .ref d ∧ H1 d = some u ∧ Mut (some u) ∧ ∀ od, Q v (upd H1 d (.frz od u)))) : tOpd G W A σ H (fun v H1 => Q v H1 ∨ ∃ d u, v = .ref d ∧ H1 d = some u ∧ Mut (some u) ∧ ∀ od, Q v (upd H1 d (.frz od u))) := h
theorem held_str {x : Str} {lk : List Nat} {v : V} (h : Held K O S σ H v (.str x) lk) : v = .str x := by
  rcases h with ⟨_, r⟩ | ⟨i, io, a, m, e1, e2, rfl, e3⟩
  · cases r; rfl
  · cases e3
theorem plain_go {R : It → Hp → Prop} (z : tItr G W (dPlain A) σ H R) : iList G.K (tOpd G W A) σ H R ∨ iTup G.K (tOpd G W A) σ H R ∨ iStr (tOpd G W A) σ H R ∨
    iKeys (fun σ H Q => tOpd G W A σ H (fun v H1 => Q v H1 ∨ ∃ d u, v = .ref d ∧ H1 d = some u ∧ Mut (some u) ∧ ∀ od, Q v (upd H1 d (.frz od u)))) σ H R := by
  obtain ⟨O, S, s, z⟩ := z
  unfold dPlain at z
  cases e : evI A S with
  | bad => simp only [e] at z; exact z.elim
  | exc x p S' => simp only [e] at z; exact .inl (held_opd s (by rw [e]; exact z))
  | ok r S' =>
    obtain ⟨p, lk⟩ := r
    simp only [e] at z
    cases p with
    | lst l =>
      simp only [itemsP] at z
      refine .inl (held_opd s ?_)
      rw [e]
      intro v H' st s' hd
      obtain ⟨a, la, rfl, ob, hl⟩ := held_list s' hd
      have str := strm_list hl
      obtain ⟨vs, h1, _⟩ := hl _ H' (.refl s'.tok) (fun q hq => by
        obtain ⟨i, io, e1, e2⟩ := ob q hq
        obtain ⟨b, e3, _, r⟩ := s'.own i io true _ e1
        rw [e2] at e3; cases e3; exact r)
      exact ⟨a, rfl, ⟨vs, .inl (.inl h1)⟩, z _ H' la st s' ⟨ob, evI_nl e⟩ str⟩
    | tup l =>
      simp only [itemsP] at z
      refine .inr (.inl (held_opd s ?_))
      rw [e]
      intro v H' st s' hd
      obtain ⟨a, rfl, hl⟩ := held_tup hd
      have str := strm_tup hl
      obtain ⟨vs, h1, _⟩ := hl _ H' (.refl s'.tok)
      exact ⟨a, rfl, ⟨vs, .inl (.inl h1)⟩, z _ H' [] st s' ⟨fun q hq => by simp at hq, evI_nl e⟩ str⟩
    | str x =>
      simp only [itemsP] at z
      refine .inr (.inr (.inl (held_opd s ?_)))
      rw [e]
      intro v H' st s' hd
      exact ⟨x, held_str hd, z _ H' [] st s' ⟨fun q hq => by simp at hq, evI_nl e⟩ strm_str⟩
    | dct l =>
      simp only [itemsP] at z
      refine .inr (.inr (.inr (held_opd s ?_)))
      rw [e]
      intro v H' st s' hd
      refine held_dct (Q := fun x H1 => ∃ d o, x = V.ref d ∧ ((∃ kvs, H1 d = some (.frz o (.dK kvs)) ∧ R (Itk d o kvs) H1) ∨ ∃ kvs, H1 d = some (.frz o (.dT kvs)) ∧ R (Itkt d o kvs) H1)) s' hd fun H2 d o ev st2 s2 hlk q => ⟨d, o, ev, ?_⟩
      rcases q with ⟨kvs, h1, rk⟩ | ⟨kvs, h1, ne, rk⟩
      · exact .inl ⟨kvs, h1, z _ H2 [] (st.trans st2) s2 ⟨fun q hq => by simp at hq, evI_nl e⟩ (strm_keysK h1 rk)⟩
      · exact .inr ⟨kvs, h1, z _ H2 [] (st.trans st2) s2 ⟨fun q hq => by simp at hq, evI_nl e⟩ (strm_keysT h1 rk)⟩
    | non => simp only [itemsP] at z; exact z.elim
    | bl b => simp only [itemsP] at z; exact z.elim
    | int b => simp only [itemsP] at z; exact z.elim
theorem si_plain (ha : SO G c k e A) : SI G c k tg e (dPlain A) := fun X W g tk => by
  have h := ha X W g tk
  obtain ⟨rfl, _⟩ := g
  exact pi_of (pi_orT (pi_list h) (pi_orT (pi_tup h) (pi_orT (pi_str h) (pi_keys (pe_lockv h))))) fun σ H R z => plain_go z
/-! d.values(), d.items() -/
def dVals (A : Opd) : DI := fun S => match evI A S with
  | .ok (.dct l, lk) S' => if allK l = true then .ok (l.map (·.2), lk) S' else .bad
  | .exc x p S' => .exc x p S'
  | _ => .bad
def dItems (A : Opd) : DI := fun S => match evI A S with
  | .ok (.dct l, lk) S' => if allK l = true then .ok (pairsP l, lk) S' else .bad
  | .exc x p S' => .exc x p S'
  | _ => .bad
theorem allK_T {l : List (PV × PV)} {kvs : List (List L2.Key × V)} (h : allK l = true) (ne : l ≠ []) (r : RepT K T H kvs l) : False := by
  cases l with
  | nil => exact ne rfl
  | cons q l =>
    have hi' : 0 < kvs.length := by rw [r.1]; simp
    have ek := r.2.1 0 _ q (List.getElem?_eq_getElem hi') rfl
    simp [allK, ek, isAKey] at h
theorem vals_go {R : It → Hp → Prop} (z : tItr G W (dVals A) σ H R) : iVals (fun σ H Q => tOpd G W A σ H (fun v H1 => Q v H1 ∨ ∃ d u, v = .ref d ∧ H1 d = some u ∧ Mut (some u) ∧ ∀ od, Q v (upd H1 d (.frz od u)))) σ H R := by
  obtain ⟨O, S, s, z⟩ := z
  unfold dVals at z
  cases e : evI A S with
  | bad => simp only [e] at z; exact z.elim
  | exc x p S' => simp only [e] at z; exact held_opd s (by rw [e]; exact z)
  | ok r S' =>
    obtain ⟨p, lk⟩ := r
    simp only [e] at z
    cases p with
    | dct l =>
      simp only at z
      split at z
      · rename_i hk
        refine held_opd s ?_
        rw [e]
        intro v H' st s' hd
        refine held_dct (Q := fun x H1 => ∃ d o kvs, x = V.ref d ∧ H1 d = some (.frz o (.dK kvs)) ∧ R (Itd d o kvs) H1) s' hd fun H2 d o ev st2 s2 hlk q => ?_
        rcases q with ⟨kvs, h1, rk⟩ | ⟨kvs, h1, ne, rk⟩
        · exact ⟨d, o, kvs, ev, h1, z _ H2 [] (st.trans st2) s2 ⟨fun q hq => by simp at hq, evI_nl e⟩ (strm_vals h1 rk)⟩
        · exact (allK_T hk ne rk).elim
      · exact z.elim
    | lst l => simp only at z; exact z.elim
    | tup l => simp only at z; exact z.elim
    | str l => simp only at z; exact z.elim
    | non => simp only at z; exact z.elim
    | bl b => simp only at z; exact z.elim
    | int b => simp only at z; exact z.elim
theorem items_go {R : It → Hp → Prop} (z : tItr G W (dItems A) σ H R) : iItems (fun σ H Q => tOpd G W A σ H (fun v H1 => Q v H1 ∨ ∃ d u, v = .ref d ∧ H1 d = some u ∧ Mut (some u) ∧ ∀ od, Q v (upd H1 d (.frz od u)))) σ H R := by
  obtain ⟨O, S, s, z⟩ := z
  unfold dItems at z
  cases e : evI A S with
  | bad => simp only [e] at z; exact z.elim
  | exc x p S' => simp only [e] at z; exact held_opd s (by rw [e]; exact z)
  | ok r S' =>
    obtain ⟨p, lk⟩ := r
    simp only [e] at z
    cases p with
    | dct l =>
      simp only at z
      split at z
      · rename_i hk
        refine held_opd s ?_
        rw [e]
        intro v H' st s' hd
        refine held_dct (Q := fun x H1 => ∃ d o kvs, x = V.ref d ∧ H1 d = some (.frz o (.dK kvs)) ∧ R (Iti d o kvs) H1) s' hd fun H2 d o ev st2 s2 hlk q => ?_
        rcases q with ⟨kvs, h1, rk⟩ | ⟨kvs, h1, ne, rk⟩
        · exact ⟨d, o, kvs, ev, h1, z _ H2 [] (st.trans st2) s2 ⟨fun q hq => by simp at hq, evI_nl e⟩ (strm_items h1 rk)⟩
        · exact (allK_T hk ne rk).elim
      · exact z.elim
    | lst l => simp only at z; exact z.elim
    | tup l => simp only at z; exact z.elim
    | str l => simp only at z; exact z.elim
    | non => simp only at z; exact z.elim
    | bl b => simp only at z; exact z.elim
    | int b => simp only at z; exact z.elim
abbrev BaseOk (e : Expr) (m : Str) : Prop := ∀ env, attributeBase e m env (eval e env) = eval e env
theorem si_vals (ha : SO G c k e A) (hb : BaseOk e "values" := by intro _; rfl) (hl : (apos.endLine == pos.line) = true := by rfl) : SI G c k tg (.Call (.Attribute e "values" apos) [] [] pos) (dVals A) := fun X W g tk =>
  pi_of (pi_values (pe_lockv (ha X W g tk)) (hb _) hl) fun σ H R z => vals_go z
theorem si_items {elts : List Expr} {kk : Nat} {tpos : Pos} (ha : SO G c k e A) (hb : BaseOk e "items" := by intro _; rfl) (hl : (apos.endLine == pos.line) = true := by rfl) : SI G c k (.Tuple elts kk tpos) (.Call (.Attribute e "items" apos) [] [] pos) (dItems A) := fun X W g tk =>
  pi_of (pi_items (pe_lockv (ha X W g tk)) (hb _) hl) fun σ H R z => items_go z
/-! range -/
def small (i : Int) : Bool := decide (-2 ^ 62 ≤ i ∧ i < 2 ^ 62)
def dRng1 (A : Opd) : DI := fun S => match evs [A] S with
  | .ok [.int j] S' => if small j then .ok (rngP 0 1 j.toNat, []) S' else .bad
  | .exc x p S' => .exc x p S'
  | _ => .bad
def dRng2 (A B : Opd) : DI := fun S => match evs [A, B] S with
  | .ok [.int i, .int j] S' => if small i && small j then .ok (rngP i 1 (j - i).toNat, []) S' else .bad
  | .exc x p S' => .exc x p S'
  | _ => .bad
theorem rng1_go {R : It → Hp → Prop} (z : tItr G W (dRng1 A) σ H R) : iRng1 (tOpds G W [A]) σ H R := by
  obtain ⟨O, S, s, z⟩ := z
  unfold dRng1 at z
  cases e : evs [A] S with
  | bad => simp only [e] at z; exact z.elim
  | exc x p S' => simp only [e] at z; exact opds_exc s e z
  | ok ps S' =>
    simp only [e] at z
    split at z
    · rename_i j S2 ee
      cases ee
      split at z
      · rename_i hs
        refine opds_run s e fun vs H' st s' rl => ?_
        obtain ⟨v, rfl, rfl⟩ := prl1 rl
        simp only [small, decide_eq_true_eq] at hs
        exact ⟨j, rfl, hs.1, hs.2, z _ H' [] st s' ⟨fun q hq => by simp at hq, fun i hi => by simp at hi⟩ strm_rng⟩
      · exact z.elim
    · rename_i heq; cases heq
    · exact z.elim
theorem rng2_go {R : It → Hp → Prop} (z : tItr G W (dRng2 A B) σ H R) : iRng2 (tOpds G W [A, B]) σ H R := by
  obtain ⟨O, S, s, z⟩ := z
  unfold dRng2 at z
  cases e : evs [A, B] S with
  | bad => simp only [e] at z; exact z.elim
  | exc x p S' => simp only [e] at z; exact opds_exc s e z
  | ok ps S' =>
    simp only [e] at z
    split at z
    · rename_i i j S2 ee
      cases ee
      split at z
      · rename_i hs
        refine opds_run s e fun vs H' st s' rl => ?_
        obtain ⟨v, w, rfl, h1, h2⟩ := prl2 rl
        obtain rfl : v = .int i := h1
        obtain rfl : w = .int j := h2
        simp only [small, Bool.and_eq_true, decide_eq_true_eq] at hs
        exact ⟨i, j, rfl, ⟨hs.1.1, hs.1.2, hs.2.1, hs.2.2⟩, z _ H' [] st s' ⟨fun q hq => by simp at hq, fun i hi => by simp at hi⟩ strm_rng⟩
      · exact z.elim
    · rename_i heq; cases heq
    · exact z.elim
theorem si_rng1 {p : Pos} (b : Bi G c "range" (.type "range")) (ha : SA G c k [e] [A]) (hs : ∀ env, starEach [e] env = [(false, eval e env)] := by intro _; rfl) : SI G c k tg (.Call (.Name "range" p) [e] [] pos) (dRng1 A) := fun X W g tk => by
  have h := ha X W g tk
  obtain ⟨rfl, _, hsc, _⟩ := g
  exact pi_of (pi_range1 (show X.env.scope.names.lookup ("range" : Str) = some .globalImplicit by rw [hsc]; exact b.gl) b.mg h (hs _)) fun σ H R z => rng1_go z
theorem si_rng2 {p : Pos} {e2 : Expr} (b : Bi G c "range" (.type "range")) (ha : SA G c k [e, e2] [A, B]) (hs : ∀ env, starEach [e, e2] env = [(false, eval e env), (false, eval e2 env)] := by intro _; rfl) (hs2 : ∀ env, starEach [e2] env = [(false, eval e2 env)] := by intro _; rfl) : SI G c k tg (.Call (.Name "range" p) [e, e2] [] pos) (dRng2 A B) := fun X W g tk => by
  have h := ha X W g tk
  obtain ⟨rfl, _, hsc, _⟩ := g
  exact pi_of (pi_range2 (show X.env.scope.names.lookup ("range" : Str) = some .globalImplicit by rw [hsc]; exact b.gl) b.mg h (hs _) (hs2 _)) fun σ H R z => rng2_go z
end
end Den
set_option Elab.async false
set_option linter.all false
set_option maxRecDepth 100000
set_option maxHeartbeats 800000
/-! Den21: comprehensions. -/
namespace Den
open PySem L2 PyProof.Rows
def wipeS (S : AS) : List Nat → AS
  | [] => S
  | v :: vs => (wipeS S vs).set v .un
def unwS (S0 S : AS) : List Nat → AS
  | [] => S
  | v :: vs => (unwS S0 S vs).set v (match S0[v]? with | some x => x | none => .un)
def softS : Option Slot → Bool
  | some .un => true
  | some (.val _) => true
  | none => true
  | _ => false
def okW (S : AS) (vs : List Nat) : Bool := vs.all fun i => softS S[i]?
theorem wipeS_len (S : AS) : ∀ vs, (wipeS S vs).length = S.length
  | [] => rfl
  | v :: vs => by rw [wipeS, List.length_set, wipeS_len S vs]
theorem wipeS_out {S : AS} {i : Nat} : ∀ {vs : List Nat}, i ∉ vs → (wipeS S vs)[i]? = S[i]?
  | [], _ => rfl
  | v :: vs, h => by
    rw [wipeS, List.getElem?_set_ne (fun e => h (by simp [e])), wipeS_out fun m => h (List.mem_cons_of_mem _ m)]
theorem wipeS_in {S : AS} {i : Nat} (hi : i < S.length) : ∀ {vs : List Nat}, i ∈ vs → (wipeS S vs)[i]? = some .un
  | [], h => by simp at h
  | v :: vs, h => by
    rw [wipeS]
    by_cases hv : v = i
    · subst hv
      rw [List.getElem?_set_self (by rw [wipeS_len]; exact hi)]
    · rw [List.getElem?_set_ne hv]
      refine wipeS_in hi ?_
      rcases List.mem_cons.mp h with e | h
      · exact (hv e.symm).elim
      · exact h
theorem unwS_len (S0 S : AS) : ∀ vs, (unwS S0 S vs).length = S.length
  | [] => rfl
  | v :: vs => by rw [unwS, List.length_set, unwS_len S0 S vs]
theorem unwS_out {S0 S : AS} {i : Nat} : ∀ {vs : List Nat}, i ∉ vs → (unwS S0 S vs)[i]? = S[i]?
  | [], _ => rfl
  | v :: vs, h => by
    rw [unwS, List.getElem?_set_ne (fun e => h (by simp [e])), unwS_out fun m => h (List.mem_cons_of_mem _ m)]
theorem unwS_in {S0 S : AS} {i : Nat} (hi : i < S.length) (hl : S0.length = S.length) : ∀ {vs : List Nat}, i ∈ vs → (unwS S0 S vs)[i]? = S0[i]?
  | [], h => by simp at h
  | v :: vs, h => by
    rw [unwS]
    by_cases hv : v = i
    · subst hv
      rw [List.getElem?_set_self (by rw [unwS_len]; exact hi), List.getElem?_eq_getElem (by omega)]
    · rw [List.getElem?_set_ne hv]
      refine unwS_in hi hl ?_
      rcases List.mem_cons.mp h with e | h
      · exact (hv e.symm).elim
      · exact h
theorem okW_not {S : AS} {vs : List Nat} (h : okW S vs = true) {i : Nat} (hi : i ∈ vs) {io lk : Bool} {p : PV} : S[i]? ≠ some (.own io lk p) := fun e => by
  have := List.all_eq_true.mp h i hi
  rw [e] at this
  cases this
section
variable {G : Wd} {c : Cs} {k : Nat} {W : WX} {O : Addr → Prop} {σ σ' σ1 σ2 : L2.St} {S S0 S1 S2 S' : AS} {H H0 H1 H2 H' : Hp} {X : Cx} {e a b tg : Expr} {pos apos : Pos} {A B C : Opd} {K : PySem.W.Frag} {T T' : Addr → Prop} {D : Addr} {vs : List Nat}
theorem wipe_own (s : SRel K O S σ H) (h : okW S vs = true) (x : Addr) : Own (wipeS S vs) (wipe σ vs) x ↔ Own S σ x := by
  constructor
  · rintro ⟨i, io, lk, p, e1, e2⟩
    by_cases hi : i ∈ vs
    · by_cases hl : i < S.length
      · rw [wipeS_in hl hi] at e1; cases e1
      · rw [List.getElem?_eq_none (by rw [wipeS_len]; omega)] at e1; cases e1
    · rw [wipeS_out hi] at e1
      rw [wipe_out hi] at e2
      exact ⟨i, io, lk, p, e1, e2⟩
  · rintro ⟨i, io, lk, p, e1, e2⟩
    have hi : i ∉ vs := fun m => okW_not h m e1
    exact ⟨i, io, lk, p, by rw [wipeS_out hi]; exact e1, by rw [wipe_out hi]; exact e2⟩
theorem SRel.wipe (s : SRel K O S σ H) (h : okW S vs = true) : SRel K O (wipeS S vs) (wipe σ vs) H := by
  have k : Keeps (Tot O S σ) (Tot O (wipeS S vs) (L2.wipe σ vs)) H H := ⟨s.tok, fun _ _ _ h => h, fun x u n _ z => n (z.imp id (wipe_own s h x).mp), fun _ _ h => h⟩
  refine ⟨by rw [wipeS_len, wipe_length]; exact s.len, s.ot, fun i p e => ?_, fun i io lk p e => ?_, fun i j a io lk p io' lk' p' e1 e2 e3 e4 => ?_⟩
  · have hi : i ∉ vs := fun m => by
      by_cases hl : i < S.length
      · rw [wipeS_in hl m] at e; cases e
      · rw [List.getElem?_eq_none (by rw [wipeS_len]; omega)] at e; cases e
    rw [wipeS_out hi] at e
    obtain ⟨v, e1, r⟩ := s.val i p e
    exact ⟨v, by rw [wipe_out hi]; exact e1, r.keep k⟩
  · have hi : i ∉ vs := fun m => by
      by_cases hl : i < S.length
      · rw [wipeS_in hl m] at e; cases e
      · rw [List.getElem?_eq_none (by rw [wipeS_len]; omega)] at e; cases e
    rw [wipeS_out hi] at e
    obtain ⟨a, e1, n, r⟩ := s.own i io lk p e
    exact ⟨a, by rw [wipe_out hi]; exact e1, n, r.keep k rfl⟩
  · have f : ∀ {i : Nat} {io lk p}, (wipeS S vs)[i]? = some (.own io lk p) → i ∉ vs := fun {i io lk p} e m => by
      by_cases hl : i < S.length
      · rw [wipeS_in hl m] at e; cases e
      · rw [List.getElem?_eq_none (by rw [wipeS_len]; omega)] at e; cases e
    have h1 := f e1
    have h2 := f e2
    rw [wipeS_out h1] at e1
    rw [wipeS_out h2] at e2
    rw [wipe_out h1] at e3
    rw [wipe_out h2] at e4
    exact s.inj i j a _ _ _ _ _ _ e1 e2 e3 e4
theorem StepS.wipe (s : SRel K O S σ H) (h : okW S vs = true) : StepS O S (wipeS S vs) σ (wipe σ vs) H H :=
  ⟨fun _ _ _ h => h, fun _ _ => rfl, fun x hx => .inl ((wipe_own s h x).mp hx), fun i lk p e => by
    have hi : i ∉ vs := fun m => okW_not h m e
    exact ⟨⟨lk, p, by rw [wipeS_out hi]; exact e⟩, wipe_out hi⟩, fun i io p e => by
    have hi : i ∉ vs := fun m => okW_not h m e
    exact ⟨by rw [wipeS_out hi]; exact e, wipe_out hi⟩, fun _ h => h, fun _ _ h => h⟩
/-- an outer owner's object written -/
theorem SRel.updO {o : HO} (s : SRel K O S σ H) (hD : O D) (mu : Mut (some o)) : SRel K O S σ (upd H D o) ∧ Keeps (Tot O S σ) (Tot O S σ) H (upd H D o) := by
  have ne : ∀ x, ¬ Tot O S σ x → x ≠ D := fun x n e => n (e ▸ .inl hD)
  have k : Keeps (Tot O S σ) (Tot O S σ) H (upd H D o) := ⟨s.tok, fun x u n h => by
    unfold Se; rw [upd_ne (ne x n)]; exact h, fun _ _ n _ => n, fun x u ⟨h, f⟩ => by
    have : x ≠ D := fun e => by
      subst e
      have := s.ot x hD
      rw [h] at this
      cases u <;> first | exact this | exact f
    exact ⟨by rw [upd_ne this]; exact h, f⟩⟩
  refine ⟨⟨s.len, fun x hx => ?_, fun i p e => let ⟨v, q, r⟩ := s.val i p e; ⟨v, q, r.keep k⟩, fun i io lk p e => ?_, s.inj⟩, k⟩
  · by_cases hx' : x = D
    · subst hx'; rw [upd_same]; exact mu
    · rw [upd_ne hx']; exact s.ot x hx
  · obtain ⟨a, q, n, r⟩ := s.own i io lk p e
    exact ⟨a, q, n, r.keep k (upd_ne fun e => n (e ▸ hD))⟩
theorem StepS.updNew {o : HO} (st : StepS O S S' σ σ' H H') (hn : H D = none) (nO : ¬ O D) : StepS O S S' σ σ' H (upd H' D o) := by
  refine ⟨fun x u n h => ?_, fun x h => ?_, st.sub, st.io, st.lk, fun x h => ?_, fun x u h => ?_⟩
  · have : x ≠ D := fun e => rd_some h (e ▸ hn)
    unfold Se; rw [upd_ne this]; exact st.rd x u n h
  · have : x ≠ D := fun e => nO (e ▸ h)
    rw [upd_ne this]; exact st.oo x h
  · by_cases hx : x = D
    · subst hx; rw [upd_same]; exact fun z => nomatch z
    · rw [upd_ne hx]; exact st.th x h
  · have : x ≠ D := fun e => by
      have h := h.1
      rw [e, hn] at h
      exact nomatch h
    exact ⟨by rw [upd_ne this]; exact (st.tl x u h).1, h.2⟩
theorem StepS.shrink {O' : Addr → Prop} (a : StepS O S S' σ σ' H H') (h : ∀ a, O' a → O a) : StepS O' S S' σ σ' H H' := ⟨a.rd, fun x z => a.oo x (h x z), a.sub, a.io, a.lk, a.th, a.tl⟩

/-! ### list comprehensions -/
def W0 : WX := fun _ _ _ _ => False
theorem takes0 (X : Cx) : Takes X W0 := fun u s' ⟨_, _, _, _, _, _, _, _, _, _, _, _, _, _, _, _, h⟩ => h.elim
def dYes : AS → R Bool := fun S => .ok true S
def SPt (G : Wd) (c : Cs) (k : Nat) (ifs : List Expr) (d : AS → R Bool) : Prop := ∀ X W, Good G c k X → Takes X W → PTs X ifs (tSemT G W d)
theorem sp_nil : SPt G c k [] dYes := fun X W g tk => ⟨fun pins s σ H Q I z => pts_nil.run pins s σ H Q I (by obtain ⟨O, S, s, h⟩ := z; exact h H .refl s)⟩
theorem sp_one {d : AS → R Bool} (h : ST G c k e d) : SPt G c k [e] d := fun X W g tk => pts_one (h X W g tk)
/-- the block's context -/
def inC (c : Cs) (scope : Scope) : Cs := ⟨c.N, relS scope c.sc, fun x => List.lookup x scope.names == some NameKind.cell⟩
theorem good_blk {scope : Scope} (g : Good G c k X) (s : Shared) (H : Hp) (C : Addr) (cl : List (Str × Addr)) (fp : List Addr) : Good G (inC c scope) k (X.blk s H scope (compEnvC scope cl C X.env) fp) := by
  obtain ⟨h1, h2, h3, h4, h5, h6, h7⟩ := g
  exact ⟨h1, h2, by rw [inC, ← h3]; rfl, rfl, h5, h6, h7, PySem.PassesOwn.never⟩
def loopL (t : Tg) (test : AS → R Bool) (elt : AS → R RV) (vs : List Nat) : List PV → AS → List PV → R (List PV)
  | [], S, acc => .ok acc S
  | p :: l, S, acc => match bindT t p (wipeS S vs) with
    | none => .bad
    | some S1 => match test S1 with
      | .ok true S2 => match elt S2 with
        | .ok rv S3 => if okW S3 vs then loopL t test elt vs l S3 (acc ++ [rv.pv]) else .bad
        | _ => .bad
      | .ok false S2 => if okW S2 vs then loopL t test elt vs l S2 acc else .bad
      | _ => .bad
def dLc (it : DI) (t : Tg) (test : AS → R Bool) (elt : AS → R RV) (vs : List Nat) : AS → R RV := fun S => match it S with
  | .ok (l, lk) S' => if okW S' vs && decide (l.length < LINE) then match loopL t test elt vs l S' [] with
      | .ok acc S2 => .ok (.fresh (.lst acc)) (unlk lk (unwS S' (wipeS S2 vs) vs))
      | _ => .bad
    else .bad
  | .exc x p S' => .exc x p S'
  | .bad => .bad
theorem wipe_same (h : Same ix (L2.wipe σ vs) σ2) (hs : ∀ i ∈ ix, i ∈ vs) : L2.wipe σ2 vs = L2.wipe σ vs := by
  refine List.ext_getElem? fun j => ?_
  by_cases hj : j ∈ vs
  · have key : ∀ (τ : L2.St) (ws : List Nat), j ∈ ws → j < τ.length → (L2.wipe τ ws)[j]? = some none := fun τ ws => by
      induction ws with
      | nil => intro h; simp at h
      | cons v ws ih =>
        intro h hl
        unfold L2.wipe
        by_cases hv : v = j
        · subst hv
          rw [List.getElem?_set_self (by rw [wipe_length]; exact hl)]
        · rw [List.getElem?_set_ne hv]
          rcases List.mem_cons.mp h with e | h
          · exact (hv e.symm).elim
          · exact ih h hl
    have hl := h.1
    rw [wipe_length] at hl
    by_cases hlt : j < σ.length
    · rw [key σ2 vs hj (by omega), key σ vs hj hlt]
    · rw [List.getElem?_eq_none (by rw [wipe_length]; omega), List.getElem?_eq_none (by rw [wipe_length]; omega)]
  · rw [wipe_out hj, h.2 j fun m => hj (hs j m)]
/-- the block's state in the middle of a comprehension -/
structure Blk (K : PySem.W.Frag) (O : Addr → Prop) (D : Addr) (vs : List Nat) (S' : AS) (σ : L2.St) (H' : Hp) (Si : AS) (H : Hp) : Prop where
  st : StepS O (wipeS S' vs) (wipeS Si vs) (L2.wipe σ vs) (L2.wipe σ vs) H' H
  no : ∀ x, Own (wipeS Si vs) (L2.wipe σ vs) x → Own (wipeS S' vs) (L2.wipe σ vs) x
  s : SRel K (Oadd O D) (wipeS Si vs) (L2.wipe σ vs) H
theorem Blk.keeps {Si : AS} (b : Blk K O D vs S' σ H' Si H) (s : SRel K O S' σ H') (hw : okW S' vs = true) (hn : H' D = none) : Keeps (Tot O S' σ) (Tot (Oadd O D) (wipeS Si vs) (L2.wipe σ vs)) H' H :=
  ⟨s.tok, fun x u n h => b.st.rd x u (fun z => n (.inr ((wipe_own s hw x).mp z))) h, fun x u n h z => by
    rcases z with (z | z) | z
    · exact n (.inl z)
    · exact rd_some h (z ▸ hn)
    · exact n (.inr ((wipe_own s hw x).mp (b.no x z))), b.st.tl⟩
/-- back out of the block -/
theorem Blk.out {Si : AS} (b : Blk K O D vs S' σ H' Si H) (s : SRel K O S' σ H') (hw : okW S' vs = true) (hn : H' D = none) :
    SRel K (Oadd O D) (unwS S' (wipeS Si vs) vs) σ H ∧ (∀ x, Own (unwS S' (wipeS Si vs) vs) σ x ↔ Own (wipeS Si vs) (L2.wipe σ vs) x) ∧ Step O S' (unwS S' (wipeS Si vs) vs) σ H' H := by
  have kp := b.keeps s hw hn
  have len : (wipeS Si vs).length = S'.length := by rw [b.s.len, wipe_length, s.len]
  have ins : ∀ {i : Nat}, i ∈ vs → (unwS S' (wipeS Si vs) vs)[i]? = S'[i]? := fun {i} hi => by
    by_cases hl : i < S'.length
    · exact unwS_in (by omega) len.symm hi
    · rw [List.getElem?_eq_none (by rw [unwS_len]; omega), List.getElem?_eq_none (by omega)]
  have notin : ∀ {i : Nat} {io lk p}, (wipeS Si vs)[i]? = some (.own io lk p) → i ∉ vs := fun {i io lk p} e m => by
    by_cases hl : i < Si.length
    · rw [wipeS_in hl m] at e; cases e
    · rw [List.getElem?_eq_none (by rw [wipeS_len]; omega)] at e; cases e
  have eqO : ∀ x, Own (unwS S' (wipeS Si vs) vs) σ x ↔ Own (wipeS Si vs) (L2.wipe σ vs) x := fun x => by
    constructor
    · rintro ⟨i, io, lk, p, e1, e2⟩
      by_cases hi : i ∈ vs
      · rw [ins hi] at e1
        exact (okW_not hw hi e1).elim
      · rw [unwS_out hi] at e1
        exact ⟨i, io, lk, p, e1, by rw [wipe_out hi]; exact e2⟩
    · rintro ⟨i, io, lk, p, e1, e2⟩
      have hi := notin e1
      rw [wipe_out hi] at e2
      exact ⟨i, io, lk, p, by rw [unwS_out hi]; exact e1, e2⟩
  have kb : Keeps (Tot (Oadd O D) (wipeS Si vs) (L2.wipe σ vs)) (Tot (Oadd O D) (unwS S' (wipeS Si vs) vs) σ) H H := ⟨b.s.tok, fun _ _ _ h => h, fun x u n _ z => n (z.imp id (eqO x).mp), fun _ _ h => h⟩
  have slot : ∀ {i : Nat}, i ∉ vs → (unwS S' (wipeS Si vs) vs)[i]? = (wipeS Si vs)[i]? ∧ (L2.wipe σ vs)[i]? = σ[i]? := fun {i} hi => ⟨unwS_out hi, wipe_out hi⟩
  refine ⟨⟨by rw [unwS_len, len, s.len], b.s.ot, fun i p e => ?_, fun i io lk p e => ?_, fun i j a io lk p io' lk' p' e1 e2 e3 e4 => ?_⟩, eqO, ⟨fun x u n h => b.st.rd x u (fun z => n ((wipe_own s hw x).mp z)) h, b.st.oo, fun x hx => (wipe_own s hw x).mp (b.no x ((eqO x).mp hx)), fun i lk p e => ?_, fun i io p e => ?_, b.st.th, b.st.tl⟩⟩
  · by_cases hi : i ∈ vs
    · rw [ins hi] at e
      obtain ⟨v, e1, r⟩ := s.val i p e
      exact ⟨v, e1, (r.keep kp).keep kb⟩
    · rw [(slot hi).1] at e
      obtain ⟨v, e1, r⟩ := b.s.val i p e
      exact ⟨v, by rw [← (slot hi).2]; exact e1, r.keep kb⟩
  · by_cases hi : i ∈ vs
    · rw [ins hi] at e
      exact (okW_not hw hi e).elim
    · rw [(slot hi).1] at e
      obtain ⟨a, e1, n, r⟩ := b.s.own i io lk p e
      exact ⟨a, by rw [← (slot hi).2]; exact e1, n, r.keep kb rfl⟩
  · have f : ∀ {i : Nat} {io lk p}, (unwS S' (wipeS Si vs) vs)[i]? = some (.own io lk p) → i ∉ vs := fun {i io lk p} e m => by
      rw [ins m] at e
      exact okW_not hw m e
    have h1 := f e1
    have h2 := f e2
    rw [(slot h1).1] at e1
    rw [(slot h2).1] at e2
    rw [← (slot h1).2] at e3
    rw [← (slot h2).2] at e4
    exact b.s.inj i j a _ _ _ _ _ _ e1 e2 e3 e4
  · have hi : i ∉ vs := fun m => okW_not hw m e
    obtain ⟨⟨lk', p', q⟩, _⟩ := b.st.io i lk p (by rw [wipeS_out hi]; exact e)
    exact ⟨lk', p', (slot hi).1.trans q⟩
  · have hi : i ∉ vs := fun m => okW_not hw m e
    exact (slot hi).1.trans (b.st.lk i io p (by rw [wipeS_out hi]; exact e)).1
end
end Den
set_option Elab.async false
set_option linter.all false
set_option maxRecDepth 100000
set_option maxHeartbeats 800000
/-! Den22: list comprehensions, dict comprehensions. -/
namespace Den
open PySem L2 PyProof.Rows
section
variable {G : Wd} {c : Cs} {k : Nat} {W : WX} {O : Addr → Prop} {σ σ' σ1 σ2 : L2.St} {S S0 S1 S2 S3 S' Si : AS} {H H0 H1 H2 H4 H' : Hp} {X : Cx} {e a b tg : Expr} {pos apos : Pos} {A B C : Opd} {K : PySem.W.Frag} {T T' : Addr → Prop} {D : Addr} {vs ix : List Nat}
theorem Blk.turn (b : Blk K O D vs S' σ H' Si H) (ex : Ext H H2) (sm : Same ix (L2.wipe σ vs) σ2) (hsub : ∀ i ∈ ix, i ∈ vs) (no : ∀ x, Own S1 σ2 x → Own (wipeS Si vs) (L2.wipe σ vs) x)
    (st1 : StepS (Oadd O D) (wipeS Si vs) S1 (L2.wipe σ vs) σ2 H2 H2) (st2 : Step (Oadd O D) S1 S3 σ2 H2 H4) (s3 : SRel K (Oadd O D) S3 σ2 H4) (hw : okW S3 vs = true) :
    Blk K O D vs S' σ H' S3 H4 ∧ H4 D = H D ∧ Keeps (Tot (Oadd O D) (wipeS Si vs) (L2.wipe σ vs)) (Tot (Oadd O D) (wipeS S3 vs) (L2.wipe σ vs)) H H4 ∧ Keeps (Tot (Oadd O D) S3 σ2) (Tot (Oadd O D) (wipeS S3 vs) (L2.wipe σ vs)) H4 H4 := by
  have ew : L2.wipe σ2 vs = L2.wipe σ vs := wipe_same sm hsub
  have e0 : StepS (Oadd O D) (wipeS Si vs) (wipeS Si vs) (L2.wipe σ vs) (L2.wipe σ vs) H H2 := (Step.ext ex b.s).s
  have w3 := StepS.wipe s3 hw
  have sw3 := s3.wipe hw
  rw [ew] at w3 sw3
  have all : StepS (Oadd O D) (wipeS Si vs) (wipeS S3 vs) (L2.wipe σ vs) (L2.wipe σ vs) H H4 := ((e0.trans st1).trans st2.s).trans w3
  have own3 : ∀ x, Own (wipeS S3 vs) (L2.wipe σ vs) x → Own S3 σ2 x := fun x h => (wipe_own s3 hw x).mp (by rw [ew]; exact h)
  refine ⟨⟨b.st.trans (all.shrink fun x h => .inl h), fun x h => b.no x (no x (st2.sub x (own3 x h))), sw3⟩, all.oo D (.inr rfl), all.keeps b.s, s3.tok, fun _ _ _ h => h, fun x u n _ z => n (z.imp id (own3 x)), fun _ _ h => h⟩
theorem Blk.write {o : HO} (b : Blk K O D vs S' σ H' Si H) (hn : H' D = none) (nO : ¬ O D) (mu : Mut (some o)) :
    Blk K O D vs S' σ H' Si (upd H D o) ∧ Keeps (Tot (Oadd O D) (wipeS Si vs) (L2.wipe σ vs)) (Tot (Oadd O D) (wipeS Si vs) (L2.wipe σ vs)) H (upd H D o) := by
  obtain ⟨s', kp⟩ := b.s.updO (D := D) (.inr rfl) mu
  exact ⟨⟨b.st.updNew hn nO, b.no, s'⟩, kp⟩
theorem Blk.start {o : HO} (s : SRel K O S' σ H') (hw : okW S' vs = true) (hn : H' D = none) (mu : Mut (some o)) : Blk K O D vs S' σ H' S' (upd H' D o) := by
  have ex : Ext H' (upd H' D o) := Ext.new hn
  have sa := (s.extAdd ex hn (by rw [upd_same]; exact mu)).wipe hw
  exact ⟨(Step.ext ex (s.wipe hw)).s, fun _ h => h, sa⟩
theorem Locks.blk {lk : List Nat} {la : List (Addr × List PV)} (lo : Locks S S' σ lk la) (b : Blk K O D vs S' σ H' Si H) (hw : okW S' vs = true) : ∀ q ∈ la, ObR K (Tot (Oadd O D) (wipeS Si vs) (L2.wipe σ vs)) H q.1 (.lst q.2) := fun q hq => by
  obtain ⟨i, io, e1, e2⟩ := lo.ob q hq
  have hi : i ∉ vs := fun m => okW_not hw m e1
  obtain ⟨e3, e4⟩ := b.st.lk i io _ (by rw [wipeS_out hi]; exact e1)
  obtain ⟨a, e5, _, r⟩ := b.s.own i io true _ e3
  rw [wipe_out hi, e2] at e5
  cases e5
  exact r
theorem lc_go {it : DI} {t : Tg} {test : AS → R Bool} {elt : AS → R RV} {Q : VK} (hsub : ∀ i ∈ tgIx t, i ∈ vs) (z : tSem G W (dLc it t test elt vs) σ H Q) :
    tLc (tItr G W it) (semTg G t) (tSemT G W0 test) (tSem G W0 elt) vs σ H Q := by
  obtain ⟨O, S, s, z⟩ := z
  have z : Gv G W O S σ H (dLc it t test elt vs S) Q := z
  unfold dLc at z
  refine ⟨O, S, s, ?_⟩
  cases e : it S with
  | bad => simp only [e] at z; exact z
  | exc x p S' => simp only [e] at z; exact z
  | ok r S' =>
    obtain ⟨l, lk⟩ := r
    simp only [e] at z
    by_cases hc : (okW S' vs && decide (l.length < LINE)) = true
    case neg => rw [if_neg hc] at z; exact z.elim
    rw [if_pos hc] at z
    rw [Bool.and_eq_true, decide_eq_true_eq] at hc
    obtain ⟨hw, hlen⟩ := hc
    intro J H' la st s' lo str
    intro D hn
    have nO : ¬ O D := s'.ot.none hn
    refine ⟨fun i m H1 => m = l.length - i ∧ i ≤ l.length ∧ ∃ Si acc, Blk G.K O D vs S' σ H' Si H1 ∧ acc.length ≤ i ∧ (∃ av, H1 D = some (.lst av) ∧ RepL G.K (Tot (Oadd O D) (wipeS Si vs) (L2.wipe σ vs)) H1 av acc) ∧ loopL t test elt vs l S' [] = loopL t test elt vs (l.drop i) Si acc,
      ⟨_, rfl, Nat.zero_le _, S', [], Blk.start s' hw hn trivial, by simp, ⟨[], upd_same, .nil⟩, rfl⟩, ?_⟩
    rintro i m H1 ⟨rfl, hi, Si, acc, b, hacc, ⟨av, hD, ra⟩, el⟩
    obtain ⟨h1, h2, h3⟩ := str _ H1 b.s.tok (b.keeps s' hw hn) (lo.blk b hw) i
    by_cases hlt : i < l.length
    · refine .inr ⟨h1 hlt, fun H2 => l.length - (i + 1) = l.length - (i + 1) ∧ i + 1 ≤ l.length ∧ ∃ Si acc, Blk G.K O D vs S' σ H' Si H2 ∧ acc.length ≤ i + 1 ∧ (∃ av, H2 D = some (.lst av) ∧ RepL G.K (Tot (Oadd O D) (wipeS Si vs) (L2.wipe σ vs)) H2 av acc) ∧ loopL t test elt vs l S' [] = loopL t test elt vs (l.drop (i + 1)) Si acc,
        fun H2 n => ⟨_, by omega, n⟩, fun x H2 hy => ?_⟩
      obtain ⟨ex, rp⟩ := h3 x H2 l[i] hy (List.getElem?_eq_getElem hlt)
      rw [drop_step hlt, loopL] at el
      have s2 := b.s.ext ex
      cases eb : bindT t l[i] (wipeS Si vs) with
      | none => simp only [eb] at el; rw [el] at z; exact z.elim
      | some S1 =>
        simp only [eb] at el
        refine ⟨Oadd O D, wipeS Si vs, l[i], S1, s2, rp, eb, fun σ2 sm no st1 s1 => ⟨wipe_same sm hsub, ?_⟩⟩
        refine ⟨Oadd O D, S1, s1, ?_⟩
        cases et : test S1 with
        | bad => simp only [et] at el; rw [el] at z; exact z.elim
        | exc x p S2 => simp only [et] at el; rw [el] at z; exact z.elim
        | ok bb S2 =>
          simp only [et] at el
          intro H3 st2 s3
          cases bb with
          | false =>
            simp only at el
            simp only [Bool.false_eq_true, if_false]
            split at el
            · rename_i hw2
              obtain ⟨b', eD, kp, _⟩ := b.turn ex sm hsub no st1 st2 s3 hw2
              exact ⟨by trivial, hlt, S2, acc, b', by omega, ⟨av, eD.trans hD, ra.keep kp⟩, el⟩
            · rw [el] at z; exact z.elim
          | true =>
            simp only at el
            simp only [if_true]
            refine ⟨Oadd O D, S2, s3, ?_⟩
            cases ee : elt S2 with
            | bad => simp only [ee] at el; rw [el] at z; exact z.elim
            | exc x p S3 => simp only [ee] at el; rw [el] at z; exact z.elim
            | ok rv S3 =>
              simp only [ee] at el
              intro y H4 st3 res
              obtain ⟨s4, ry⟩ := res.toVal s3 st3
              split at el
              · rename_i hw3
                obtain ⟨b', eD, kp, kq⟩ := b.turn ex sm hsub no st1 (st2.trans st3) s4 hw3
                refine ⟨av, eD.trans hD, by rw [ra.1, line_eq]; omega, by trivial, hlt, S3, acc ++ [rv.pv], ?_⟩
                obtain ⟨b2, kp2⟩ := b'.write (o := .lst (av ++ [y])) hn nO trivial
                refine ⟨b2, by simp; omega, ⟨av ++ [y], upd_same, ?_⟩, el⟩
                exact ((ra.keep kp).append (.cons (ry.keep kq) .nil)).keep kp2
              · rw [el] at z; exact z.elim
    · have : i = l.length := by omega
      subst this
      rw [List.drop_length, loopL] at el
      rw [el] at z
      simp only at z
      obtain ⟨so, eqO, sto⟩ := b.out s' hw hn
      obtain ⟨u1, u2, u3⟩ := unlk_ok lk so
      refine .inl ⟨h2 (Nat.le_refl _), z _ H1 ?_ ⟨D, rfl, ?_, u1, av, hD, ?_⟩⟩
      · have st3 : Step O S (unwS S' (wipeS Si vs) vs) σ H H1 := st.trans sto
        refine ⟨st3.rd, st3.oo, fun x h => st3.sub x ((u2 x).mp h), fun i l p h => ?_, fun i io p h => ?_, st3.th, st3.tl⟩
        · obtain ⟨l', p', e⟩ := st3.io i l p h
          rcases u3 i with h' | ⟨m, io, p2, h1, h2⟩
          · exact ⟨l', p', h'.trans e⟩
          · rw [e] at h1
            cases h1
            exact ⟨false, _, h2⟩
        · have e := st3.lk i io p h
          rcases u3 i with h' | ⟨m, io2, p2, h1, h2⟩
          · exact h'.trans e
          · exact (lo.nl i m _ _ h).elim
      · cases q : H D with
        | none => rfl
        | some u => exact (st.th D (by rw [q]; exact fun z => nomatch z) hn).elim
      · have k : Keeps (Tot (Oadd O D) (wipeS Si vs) (L2.wipe σ vs)) (Tot (Oadd O D) (unlk lk (unwS S' (wipeS Si vs) vs)) σ) H1 H1 :=
          ⟨b.s.tok, fun _ _ _ h => h, fun x u n _ zz => n (zz.imp id fun h => (eqO x).mp ((u2 x).mp h)), fun _ _ h => h⟩
        exact ra.keep k
theorem se_lc {elt iter : Expr} {ifs : List Expr} {scope : Scope} {own : List (Str × Nat)} {it : DI} {t : Tg} {test : AS → R Bool} {d : AS → R RV} (hb : blkC c.N c.sc scope own = true) (hi : SI G c k tg iter it) (hg : SG G (inC c scope) k tg t) (ht : SPt G (inC c scope) k ifs test) (he : SE G (inC c scope) k elt d)
    (hsub : ∀ i ∈ tgIx t, i ∈ own.map (·.2)) (hf : FoldOk iter := by intro _ _; rfl) : SE G c k (.ListComp elt [{ target := tg, iter := iter, ifs := ifs, is_async := 0 }] scope pos) (dLc it t test d (own.map (·.2))) := fun X W g tk => by
  refine pe_of (pe_lc g.calm (by rw [g.hN]; exact g.nd) (hi X W g tk) (by rw [g.hN, g.hs]; exact blkOk_by hb) (fun s H C cl fp => hg _ (good_blk g s H C cl fp)) (fun s H C cl fp => ht _ W0 (good_blk g s H C cl fp) (takes0 _)) (fun s H C cl fp => he _ W0 (good_blk g s H C cl fp) (takes0 _)) (hf _)) fun σ H Q z => lc_go hsub z
def loopD (t : Tg) (test : AS → R Bool) (kd vd : AS → R RV) (vs : List Nat) : List PV → AS → List (PV × PV) → R (List (PV × PV))
  | [], S, acc => .ok acc S
  | p :: l, S, acc => match bindT t p (wipeS S vs) with
    | none => .bad
    | some S1 => match test S1 with
      | .ok true S2 => match kd S2 with
        | .ok rv S3 => match vd S3 with
          | .ok rw' S4 => match aKey rv.pv with
            | some kk => if okW S4 vs then loopD t test kd vd vs l S4 (dput acc (keyPV kk) rw'.pv) else .bad
            | none => .bad
          | _ => .bad
        | _ => .bad
      | .ok false S2 => if okW S2 vs then loopD t test kd vd vs l S2 acc else .bad
      | _ => .bad
def dDc (it : DI) (t : Tg) (test : AS → R Bool) (kd vd : AS → R RV) (vs : List Nat) : AS → R RV := fun S => match it S with
  | .ok (l, lk) S' => if okW S' vs && decide (l.length < LINE) then match loopD t test kd vd vs l S' [] with
      | .ok acc S2 => .ok (.fresh (.dct acc)) (unlk lk (unwS S' (wipeS S2 vs) vs))
      | _ => .bad
    else .bad
  | .exc x p S' => .exc x p S'
  | .bad => .bad
theorem dput_len (l : List (PV × PV)) (k v : PV) : (dput l k v).length ≤ l.length + 1 := by
  unfold dput
  split <;> simp
theorem dc_go {it : DI} {t : Tg} {test : AS → R Bool} {kd vd : AS → R RV} {Q : VK} (hsub : ∀ i ∈ tgIx t, i ∈ vs) (z : tSem G W (dDc it t test kd vd vs) σ H Q) :
    tDc (tItr G W it) (semTg G t) (tSemT G W0 test) (tSem G W0 kd) (tSem G W0 vd) vs σ H Q := by
  obtain ⟨O, S, s, z⟩ := z
  have z : Gv G W O S σ H (dDc it t test kd vd vs S) Q := z
  unfold dDc at z
  refine ⟨O, S, s, ?_⟩
  cases e : it S with
  | bad => simp only [e] at z; exact z
  | exc x p S' => simp only [e] at z; exact z
  | ok r S' =>
    obtain ⟨l, lk⟩ := r
    simp only [e] at z
    by_cases hc : (okW S' vs && decide (l.length < LINE)) = true
    case neg => rw [if_neg hc] at z; exact z.elim
    rw [if_pos hc] at z
    rw [Bool.and_eq_true, decide_eq_true_eq] at hc
    obtain ⟨hw, hlen⟩ := hc
    intro J H' la st s' lo str
    intro D hn
    have nO : ¬ O D := s'.ot.none hn
    refine ⟨fun i m H1 => m = l.length - i ∧ i ≤ l.length ∧ ∃ Si acc, Blk G.K O D vs S' σ H' Si H1 ∧ acc.length ≤ i ∧ (∃ av, H1 D = some (.dK av) ∧ RepK G.K (Tot (Oadd O D) (wipeS Si vs) (L2.wipe σ vs)) H1 av acc) ∧ loopD t test kd vd vs l S' [] = loopD t test kd vd vs (l.drop i) Si acc,
      ⟨_, rfl, Nat.zero_le _, S', [], Blk.start s' hw hn trivial, by simp, ⟨[], upd_same, RepK.nil⟩, rfl⟩, ?_⟩
    rintro i m H1 ⟨rfl, hi, Si, acc, b, hacc, ⟨av, hD, ra⟩, el⟩
    obtain ⟨h1, h2, h3⟩ := str _ H1 b.s.tok (b.keeps s' hw hn) (lo.blk b hw) i
    by_cases hlt : i < l.length
    · refine .inr ⟨h1 hlt, fun H2 => l.length - (i + 1) = l.length - (i + 1) ∧ i + 1 ≤ l.length ∧ ∃ Si acc, Blk G.K O D vs S' σ H' Si H2 ∧ acc.length ≤ i + 1 ∧ (∃ av, H2 D = some (.dK av) ∧ RepK G.K (Tot (Oadd O D) (wipeS Si vs) (L2.wipe σ vs)) H2 av acc) ∧ loopD t test kd vd vs l S' [] = loopD t test kd vd vs (l.drop (i + 1)) Si acc,
        fun H2 n => ⟨_, by omega, n⟩, fun x H2 hy => ?_⟩
      obtain ⟨ex, rp⟩ := h3 x H2 l[i] hy (List.getElem?_eq_getElem hlt)
      rw [drop_step hlt, loopD] at el
      have s2 := b.s.ext ex
      cases eb : bindT t l[i] (wipeS Si vs) with
      | none => simp only [eb] at el; rw [el] at z; exact z.elim
      | some S1 =>
        simp only [eb] at el
        refine ⟨Oadd O D, wipeS Si vs, l[i], S1, s2, rp, eb, fun σ2 sm no st1 s1 => ⟨wipe_same sm hsub, ?_⟩⟩
        refine ⟨Oadd O D, S1, s1, ?_⟩
        cases et : test S1 with
        | bad => simp only [et] at el; rw [el] at z; exact z.elim
        | exc x p S2 => simp only [et] at el; rw [el] at z; exact z.elim
        | ok bb S2 =>
          simp only [et] at el
          intro H3 st2 s3
          cases bb with
          | false =>
            simp only at el
            simp only [Bool.false_eq_true, if_false]
            split at el
            · rename_i hw2
              obtain ⟨b', eD, kp, _⟩ := b.turn ex sm hsub no st1 st2 s3 hw2
              exact ⟨by trivial, hlt, S2, acc, b', by omega, ⟨av, eD.trans hD, ra.keep kp⟩, el⟩
            · rw [el] at z; exact z.elim
          | true =>
            simp only at el
            simp only [if_true]
            refine ⟨Oadd O D, S2, s3, ?_⟩
            cases ee : kd S2 with
            | bad => simp only [ee] at el; rw [el] at z; exact z.elim
            | exc x p S3 => simp only [ee] at el; rw [el] at z; exact z.elim
            | ok rv S3 =>
              simp only [ee] at el
              intro y H4 st3 res
              obtain ⟨s4, ry⟩ := res.toVal s3 st3
              refine ⟨Oadd O D, S3, s4, ?_⟩
              cases e5 : vd S3 with
              | bad => simp only [e5] at el; rw [el] at z; exact z.elim
              | exc x p S3 => simp only [e5] at el; rw [el] at z; exact z.elim
              | ok rw' S4 =>
                simp only [e5] at el
                intro y2 H5 st4 res2
                obtain ⟨s5, ry2⟩ := res2.toVal s4 st4
                cases ek : aKey rv.pv with
                | none => simp only [ek] at el; rw [el] at z; exact z.elim
                | some kk =>
                  simp only [ek] at el
                  split at el
                  · rename_i hw3
                    obtain ⟨b', eD, kp, kq⟩ := b.turn ex sm hsub no st1 ((st2.trans st3).trans st4) s5 hw3
                    have hpv := aKey_pv ek
                    rw [hpv] at ry
                    have hy : y = kV kk := by cases kk <;> cases ry <;> rfl
                    refine ⟨av, kk, hy, eD.trans hD, by rw [ra.1, line_eq]; omega, by trivial, hlt, S4, dput acc (keyPV kk) rw'.pv, ?_⟩
                    obtain ⟨b2, kp2⟩ := b'.write (o := .dK (putK av kk y2)) hn nO trivial
                    refine ⟨b2, by have := dput_len acc (keyPV kk) rw'.pv; omega, ⟨putK av kk y2, upd_same, ?_⟩, el⟩
                    exact ((ra.keep kp).put kk (ry2.keep kq)).keep kp2
                  · rw [el] at z; exact z.elim
    · have : i = l.length := by omega
      subst this
      rw [List.drop_length, loopD] at el
      rw [el] at z
      simp only at z
      obtain ⟨so, eqO, sto⟩ := b.out s' hw hn
      obtain ⟨u1, u2, u3⟩ := unlk_ok lk so
      refine .inl ⟨h2 (Nat.le_refl _), z _ H1 ?_ ⟨D, rfl, ?_, u1, .inl ⟨av, hD, ?_⟩⟩⟩
      · have st3 : Step O S (unwS S' (wipeS Si vs) vs) σ H H1 := st.trans sto
        refine ⟨st3.rd, st3.oo, fun x h => st3.sub x ((u2 x).mp h), fun i l p h => ?_, fun i io p h => ?_, st3.th, st3.tl⟩
        · obtain ⟨l', p', e⟩ := st3.io i l p h
          rcases u3 i with h' | ⟨m, io, p2, h1, h2⟩
          · exact ⟨l', p', h'.trans e⟩
          · rw [e] at h1
            cases h1
            exact ⟨false, _, h2⟩
        · have e := st3.lk i io p h
          rcases u3 i with h' | ⟨m, io2, p2, h1, h2⟩
          · exact h'.trans e
          · exact (lo.nl i m _ _ h).elim
      · cases q : H D with
        | none => rfl
        | some u => exact (st.th D (by rw [q]; exact fun z => nomatch z) hn).elim
      · have k : Keeps (Tot (Oadd O D) (wipeS Si vs) (L2.wipe σ vs)) (Tot (Oadd O D) (unlk lk (unwS S' (wipeS Si vs) vs)) σ) H1 H1 :=
          ⟨b.s.tok, fun _ _ _ h => h, fun x u n _ zz => n (zz.imp id fun h => (eqO x).mp ((u2 x).mp h)), fun _ _ h => h⟩
        exact ra.keep k
theorem se_dc {kx vx iter : Expr} {ifs : List Expr} {scope : Scope} {own : List (Str × Nat)} {it : DI} {t : Tg} {test : AS → R Bool} {d1 d2 : AS → R RV} (hb : blkC c.N c.sc scope own = true) (hi : SI G c k tg iter it) (hg : SG G (inC c scope) k tg t) (ht : SPt G (inC c scope) k ifs test) (hk : SE G (inC c scope) k kx d1) (hv : SE G (inC c scope) k vx d2)
    (hsub : ∀ i ∈ tgIx t, i ∈ own.map (·.2)) (hf : FoldOk iter := by intro _ _; rfl) : SE G c k (.DictComp kx vx [{ target := tg, iter := iter, ifs := ifs, is_async := 0 }] scope pos) (dDc it t test d1 d2 (own.map (·.2))) := fun X W g tk => by
  refine pe_of (pe_dc g.calm (by rw [g.hN]; exact g.nd) (hi X W g tk) (by rw [g.hN, g.hs]; exact blkOk_by hb) (fun s H C cl fp => hg _ (good_blk g s H C cl fp)) (fun s H C cl fp => ht _ W0 (good_blk g s H C cl fp) (takes0 _)) (fun s H C cl fp => hk _ W0 (good_blk g s H C cl fp) (takes0 _)) (fun s H C cl fp => hv _ W0 (good_blk g s H C cl fp) (takes0 _)) (hf _)) fun σ H Q z => dc_go hsub z
/-- a list comprehension set to a name -/
theorem set_go {D : Ends} {i : Nat} {d : AS → R RV} (z : tSemS G W (dSet i d) D σ H) : tSem G W d σ H (fun v H1 => gName i v σ H1 D.nx) := by
  obtain ⟨O, S, s, z⟩ := z
  unfold dSet at z
  refine tSem.mk s (fun rv S' e v H' st res => ?_) (fun x p S' e => ?_) (fun e => ?_)
  · simp only [e] at z
    cases e2 : putS i rv S' with
    | none => simp only [e2] at z; exact z.elim
    | some S2 =>
      simp only [e2] at z
      obtain ⟨a1, a2⟩ := res.put s st e2
      exact z _ _ a2 a1
  · simp only [e] at z; exact fun cls dd H' st s' ex => z cls dd σ H' st.s s' ex
  · simp only [e] at z; exact z
theorem ss_setLc {i : Nat} {y : Str} {py spos : Pos} {elt iter : Expr} {ifs : List Expr} {scope : Scope} {own : List (Str × Nat)} {it : DI} {t : Tg} {test : AS → R Bool} {d : AS → R RV} (h1 : c.N[i]? = some y) (h2 : List.lookup y c.sc.names = some NameKind.local)
    (hsw : ∀ env, env.scope = c.sc → swapsWith (.ListComp elt [{ target := tg, iter := iter, ifs := ifs, is_async := 0 }] scope pos) (some (.Name y py)) spos.line env = pure true)
    (hb : blkC c.N c.sc scope own = true) (hi : SI G c k tg iter it) (hg : SG G (inC c scope) k tg t) (ht : SPt G (inC c scope) k ifs test) (he : SE G (inC c scope) k elt d)
    (hsub : ∀ i ∈ tgIx t, i ∈ own.map (·.2)) (hf : FoldOk iter := by intro _ _; rfl) : SS G c k (.Assign [.Name y py] (.ListComp elt [{ target := tg, iter := iter, ifs := ifs, is_async := 0 }] scope pos) spos) (dSet i (dLc it t test d (own.map (·.2)))) := fun X W g tk => by
  refine ps_of (ps_setLc g.calm (by rw [g.hN]; exact g.nd) (by rw [g.hN]; exact h1) (by rw [g.hs]; exact h2) (hsw _ g.hs) (hi X W g tk) (by rw [g.hN, g.hs]; exact blkOk_by hb) (fun s H C cl fp => hg _ (good_blk g s H C cl fp)) (fun s H C cl fp => ht _ W0 (good_blk g s H C cl fp) (takes0 _)) (fun s H C cl fp => he _ W0 (good_blk g s H C cl fp) (takes0 _)) (hf _)) fun D σ H z => lc_go hsub (set_go z)
end
end Den
set_option Elab.async false
set_option linter.all false
set_option maxRecDepth 100000
set_option maxHeartbeats 800000
/-! Den23: defs and their calls. -/
namespace Den
open PySem L2 PyProof.Rows
structure Frame (T : Addr → Prop) (H H' : Hp) : Prop where
  rd : ∀ x u, Se H x u → Se H' x u
  oo : ∀ x, T x → H' x = H x
  th : ∀ x, H x ≠ none → H' x ≠ none
  tl : ∀ x u, FxAt H x u → FxAt H' x u
def spV (K : PySem.W.Frag) (n : Nat) (F : List PV → Option PV) : Sp := fun vs H Q E => ∃ T ps p, vs.length = n ∧ TOk T H ∧ RepL K T H vs ps ∧ F ps = some p ∧ ∀ v H', Frame T H H' → Rep K T H' v p → Q v H'
def startS (m : Nat) (ps : List PV) : AS := ps.map .val ++ List.replicate m .un
def bodyF (n m : Nat) (d : AS → RS) : List PV → Option PV := fun ps => if ps.length = n then match d (startS m ps) with
  | .ret p _ => some p
  | .next _ => some .non
  | _ => none
  else none
section
variable {G : Wd} {c : Cs} {k k' : Nat} {W : WX} {O : Addr → Prop} {σ σ' σ1 σ2 : L2.St} {S S0 S1 S2 S3 S' Si : AS} {H H0 H1 H2 H4 H' : Hp} {X : Cx} {e a b tg : Expr} {es : List Expr} {pos apos : Pos} {A B C : Opd} {K : PySem.W.Frag} {T T' : Addr → Prop} {D : Addr} {vs ix : List Nat}
theorem SRel.frame (s : SRel K O S σ H) (f : Frame (Tot O S σ) H H') : SRel K O S σ H' ∧ Step O S S σ H H' := by
  have k : Keeps (Tot O S σ) (Tot O S σ) H H' := ⟨s.tok, fun x u _ h => f.rd x u h, fun _ _ n _ => n, f.tl⟩
  refine ⟨⟨s.len, fun x hx => by rw [f.oo x (.inl hx)]; exact s.ot x hx, fun i p e => let ⟨v, q, r⟩ := s.val i p e; ⟨v, q, r.keep k⟩, fun i io lk p e => ?_, s.inj⟩,
    fun x u _ h => f.rd x u h, fun x hx => f.oo x (.inl hx), fun _ h => h, fun i lk p h => ⟨lk, p, h⟩, fun _ _ _ h => h, f.th, f.tl⟩
  obtain ⟨a, q, n, r⟩ := s.own i io lk p e
  exact ⟨a, q, n, r.keep k (f.oo a (.inr ⟨i, io, lk, p, e, q⟩))⟩
theorem startS_get {m : Nat} {ps : List PV} {i : Nat} {p : PV} (h : (startS m ps)[i]? = some (.val p)) : ps[i]? = some p := by
  unfold startS at h
  by_cases hi : i < ps.length
  · rw [List.getElem?_append_left (by simpa using hi), List.getElem?_map] at h
    cases e : ps[i]? with
    | none => rw [e] at h; cases h
    | some q => rw [e] at h; cases h; rfl
  · rw [List.getElem?_append_right (by simpa using hi)] at h
    rw [List.getElem?_replicate] at h
    split at h <;> cases h
theorem startS_own {m : Nat} {ps : List PV} {i : Nat} {io lk : Bool} {p : PV} : (startS m ps)[i]? ≠ some (.own io lk p) := fun h => by
  unfold startS at h
  by_cases hi : i < ps.length
  · rw [List.getElem?_append_left (by simpa using hi), List.getElem?_map] at h
    cases e : ps[i]? with
    | none => rw [e] at h; cases h
    | some q => rw [e] at h; cases h
  · rw [List.getElem?_append_right (by simpa using hi)] at h
    rw [List.getElem?_replicate] at h
    split at h <;> cases h
theorem start_rel {N : List Str} {vs : List V} {ps : List PV} (t : TOk T H) (r : RepL K T H vs ps) (hN : vs.length ≤ N.length) : SRel K T (startS (N.length - vs.length) ps) (L2.start N vs) H := by
  have no : ∀ x, ¬ Own (startS (N.length - vs.length) ps) (L2.start N vs) x := fun x ⟨i, io, lk, p, e, _⟩ => startS_own e
  have kp : Keeps T (Tot T (startS (N.length - vs.length) ps) (L2.start N vs)) H H := ⟨t, fun _ _ _ h => h, fun x u n _ z => z.elim n (no x), fun _ _ h => h⟩
  refine ⟨?_, t, fun i p e => ?_, fun i io lk p e => (startS_own e).elim, fun i j a io lk p io' lk' p' e => (startS_own e).elim⟩
  · unfold startS L2.start
    simp [r.1]
  · have e1 := startS_get e
    obtain ⟨v, e2, rp⟩ := r.get e1
    have hi : i < vs.length := (List.getElem?_eq_some_iff.mp e2).1
    refine ⟨v, ?_, rp.keep kp⟩
    unfold L2.start
    rw [List.getElem?_append_left (by simpa using hi), List.getElem?_map, e2]; rfl
theorem own_start {m : Nat} {ps : List PV} {x : Addr} : ¬ Own (startS m ps) σ x := fun ⟨i, io, lk, p, e, _⟩ => startS_own e
theorem frame_of {m : Nat} {ps : List PV} (st : StepS T (startS m ps) S' σ σ' H H') : Frame T H H' := ⟨fun x u h => st.rd x u own_start h, st.oo, st.th, st.tl⟩
theorem Rep.less {v : V} {p : PV} (t : TOk T H) (h : ∀ x, T' x → T x) (r : Rep K T H v p) : Rep K T' H v p := r.keep ⟨t, fun _ _ _ h => h, fun x u n _ z => n (h x z), fun _ _ h => h⟩
/-- a def's promise from its body's reading -/
theorem fn_val {x qual : Str} {st : Stmt} {f : Addr} {fd : FuncData} {N ps : List Str} {d : AS → RS} (hf : Fun G.K x qual st f fd) (hs : C8.scC N ps (defScope st) = true) (hb : SSs G ⟨N, defScope st, fun _ => true⟩ k (defBody st) d) :
    FnOk G.P G.w G.K G.mg G.base CX0 (k + 1) f fd ps (spV G.K ps.length (bodyF ps.length (N.length - ps.length) d)) := by
  have sc := C8.fnScope_by hs
  refine hf.ok sc (fun vs H Q E ⟨T, qs, p, h, _⟩ => h) fun cdv A outer s H vs Q E room ⟨T, qs, p, hl, t, r, hF, q⟩ => ?_
  refine ⟨tSemS G W0 d, hb _ W0 ⟨rfl, rfl, rfl, rfl, rfl, room, sc.nd, PySem.PassesOwn.never⟩ (takes0 _), ?_⟩
  have hlN : vs.length ≤ N.length := by
    have := congrArg List.length sc.pre
    rw [List.length_take] at this
    omega
  refine ⟨T, startS (N.length - vs.length) qs, start_rel t r hlN, ?_⟩
  unfold bodyF at hF
  rw [if_pos (by rw [← r.1]; exact hl), ← hl] at hF
  cases e : d (startS (N.length - vs.length) qs) with
  | ret p' S' =>
    rw [e] at hF
    cases hF
    exact fun v σ' H' st s' rp => q v H' (frame_of st) (rp.less s'.tok fun x h => .inl h)
  | next S' =>
    rw [e] at hF
    cases hF
    exact fun σ' H' st s' => q .non H' (frame_of st) .non
  | brk S' => rw [e] at hF; cases hF
  | cnt S' => rw [e] at hF; cases hF
  | exc x p S' => rw [e] at hF; cases hF
  | bad => rw [e] at hF; cases hF
/-- x is a def of the module with a promise -/
def Fn (G : Wd) (x : Str) (k : Nat) (n : Nat) (F : List PV → Option PV) : Prop := ∃ f fd ps, G.mg x = some (.ref f) ∧ PySem.W.keepIn G.K (.ref f) = true ∧ Binds G.K fd ps [] ∧ FnOk G.P G.w G.K G.mg G.base CX0 k f fd ps (spV G.K n F)
def dCall (F : List PV → Option PV) (ds : List (AS → R RV)) : AS → R RV := fun S => match evV ds S with
  | .ok ps S' => match F ps with
    | some p => .ok (.val p) S'
    | none => .bad
  | .exc x p S' => .exc x p S'
  | .bad => .bad
theorem se_call {x : Str} {p : Pos} {n : Nat} {F : List PV → Option PV} {ds : List (AS → R RV)} (hF : Fn G x k' n F) (hk : k' ≤ k) (hn : ds.length = n) (hg : c.sc.names.lookup x = some .globalImplicit) (hd : (x == ("__debug__" : Str)) = false) (ha : SV G c k (e :: es) ds)
    (h1 : StarOk e es := by intro _; rfl) (h2 : BackOk pos es := by intro _; rfl) : SE G c k (.Call (.Name x p) (e :: es) [] pos) (dCall F ds) := fun X W g tk => by
  have h := ha X W g tk
  obtain ⟨f, fd, ps, hm, hkp, hbi, ok⟩ := hF
  obtain ⟨rfl, _, hsc, _, _, room, _⟩ := g
  refine pe_of (pe_call (E := fun _ _ _ => False) (ds := []) (dvs := []) ok (room.mono hk) (show X.env.scope.names.lookup x = some .globalImplicit by rw [hsc]; exact hg) hm hkp hbi .nil pass0 h hd (h1 _) (h2 _)) fun σ H Q z => ?_
  obtain ⟨O, S, s, z⟩ := z
  have z : Gv (wd X) W O S σ H (dCall F ds S) Q := z
  unfold dCall at z
  show tSems (wd X) W ds σ H fun vs H1 => spV X.K n F (vs ++ []) H1 Q _
  cases e : evV ds S with
  | bad => simp only [e] at z; exact z.elim
  | exc x p S' => simp only [e] at z; exact vals_exc s e z
  | ok qs S' =>
    simp only [e] at z
    refine vals_run s e fun vs H' st s' rl => ?_
    rw [List.append_nil]
    cases e1 : F qs with
    | none => simp only [e1] at z; exact z.elim
    | some p =>
      simp only [e1] at z
      refine ⟨Tot O S' σ, qs, p, by rw [rl.1, evV_len e]; exact hn, s'.tok, rl, e1, fun v H2 fr rp => ?_⟩
      obtain ⟨s2, st2⟩ := s'.frame fr
      exact z v H2 (st.trans st2) ⟨s2, rp⟩
end
end Den
set_option Elab.async false
set_option linter.all false
set_option maxRecDepth 100000
set_option maxHeartbeats 800000
/-! Den24: displays with stars, dict displays, append, stores. -/
namespace Den
open PySem L2 PyProof.Rows
/-! ### displays with stars -/
inductive Ar where
  | one (d : AS → R RV) | star (d : AS → R RV)
def seqP : PV → Option (List PV)
  | .tup l => some l
  | .lst l => some l
  | _ => none
def evX : List Ar → AS → R (List PV)
  | [], S => .ok [] S
  | .one d :: r, S => match d S with
    | .ok rv S1 => match evX r S1 with
      | .ok ps S' => .ok (rv.pv :: ps) S'
      | .exc c p S' => .exc c p S'
      | .bad => .bad
    | .exc c p S' => .exc c p S'
    | .bad => .bad
  | .star d :: r, S => match d S with
    | .ok rv S1 => match seqP rv.pv with
      | some l => match evX r S1 with
        | .ok ps S' => .ok (l ++ ps) S'
        | .exc c p S' => .exc c p S'
        | .bad => .bad
      | none => .bad
    | .exc c p S' => .exc c p S'
    | .bad => .bad
def tArs (G : Wd) (W : WX) : List Ar → TA
  | [] => tNil
  | .one d :: r => tCons (tSem G W d) (tArs G W r)
  | .star d :: r => StX.tStar G.K (tSem G W d) (tArs G W r)
def SX (G : Wd) (c : Cs) (k : Nat) (es : List Expr) (ds : List Ar) : Prop := ∀ X W, Good G c k X → Takes X W → PA X es (tArs G W ds)
section
variable {G : Wd} {c : Cs} {k k' : Nat} {W : WX} {O : Addr → Prop} {σ σ' σ1 σ2 : L2.St} {S S0 S1 S2 S3 S' Si : AS} {H H0 H1 H2 H4 H' : Hp} {X : Cx} {e a b tg : Expr} {es : List Expr} {pos apos : Pos} {A B C : Opd} {K : PySem.W.Frag} {T T' : Addr → Prop} {D : Addr} {vs ix : List Nat}
theorem seq_rep {p : PV} {l : List PV} {v : V} (h : seqP p = some l) (r : Rep K T H v p) : ∃ a xs, v = .ref a ∧ (SqT K H a xs ∨ SqL K H a xs) ∧ RepL K T H xs l := by
  cases p <;> simp [seqP] at h
  · subst h
    obtain ⟨a, xs, rfl, h1, rl⟩ := r.pr
    exact ⟨a, xs, rfl, .inl (.inl (.inl h1)), rl⟩
  · subst h
    obtain ⟨a, xs, rfl, h1, rl⟩ := r.pr
    exact ⟨a, xs, rfl, .inr (.inl (.inl h1)), rl⟩
theorem ars_ok : ∀ (ops : List Ar) (S : AS) (H : Hp) (Q : List V → Hp → Prop), SRel G.K O S σ H →
    (∀ ps S', evX ops S = .ok ps S' → ∀ vs H', Step O S S' σ H H' → SRel G.K O S' σ H' → RepL G.K (Tot O S' σ) H' vs ps → Q vs H') →
    (∀ x p S', evX ops S = .exc x p S' → ∀ cls dd H', Step O S S' σ H H' → SRel G.K O S' σ H' → ExcRel G (Tot O S' σ) H' x p cls dd → W cls dd σ H') → evX ops S ≠ .bad → tArs G W ops σ H Q
  | [], S, H, Q, s, hok, _, _ => hok [] S rfl [] H .refl s .nil
  | .one d :: r, S, H, Q, s, hok, hex, hb => by
    unfold evX at hok hex hb
    refine tSem.mk s (fun rv S1 e v H1 st res => ?_) (fun x p S' e => ?_) (fun e => ?_)
    · simp only [e] at hok hex hb
      obtain ⟨s1, rp⟩ := res.toVal s st
      refine ars_ok r S1 H1 _ s1 (fun ps S' e1 vs H' st1 s' rl => ?_) (fun x p S' e1 cls dd H' st1 => ?_) (fun e1 => ?_)
      · simp only [e1] at hok
        exact hok _ _ rfl _ _ (st.trans st1) s' (.cons (rp.keep (st1.keeps s1)) rl)
      · simp only [e1] at hex
        exact hex x p S' rfl cls dd H' (st.trans st1)
      · simp only [e1] at hb
        exact hb rfl
    · simp only [e] at hex
      exact hex x p S' rfl
    · simp only [e] at hb
      exact hb rfl
  | .star d :: r, S, H, Q, s, hok, hex, hb => by
    unfold evX at hok hex hb
    refine tSem.mk s (fun rv S1 e v H1 st res => ?_) (fun x p S' e => ?_) (fun e => ?_)
    · simp only [e] at hok hex hb
      obtain ⟨s1, rp⟩ := res.toVal s st
      cases el : seqP rv.pv with
      | none => simp only [el] at hb; exact (hb rfl).elim
      | some l =>
        simp only [el] at hok hex hb
        obtain ⟨a, xs, rfl, hq, rlx⟩ := seq_rep el rp
        refine ⟨a, xs, rfl, hq, ?_⟩
        refine ars_ok r S1 H1 _ s1 (fun ps S' e1 vs H' st1 s' rl => ?_) (fun x p S' e1 cls dd H' st1 => ?_) (fun e1 => ?_)
        · simp only [e1] at hok
          exact hok _ _ rfl _ _ (st.trans st1) s' ((rlx.keep (st1.keeps s1)).append rl)
        · simp only [e1] at hex
          exact hex x p S' rfl cls dd H' (st.trans st1)
        · simp only [e1] at hb
          exact hb rfl
    · simp only [e] at hex
      exact hex x p S' rfl
    · simp only [e] at hb
      exact hb rfl
theorem ars_run {ops : List Ar} {Q : List V → Hp → Prop} {ps : List PV} (s : SRel G.K O S σ H) (e : evX ops S = .ok ps S')
    (h : ∀ vs H', Step O S S' σ H H' → SRel G.K O S' σ H' → RepL G.K (Tot O S' σ) H' vs ps → Q vs H') : tArs G W ops σ H Q := by
  refine ars_ok ops S H Q s (fun ps' S2 e2 => ?_) (fun x p S2 e2 => ?_) (fun e2 => ?_)
  · rw [e] at e2; cases e2; exact h
  · rw [e] at e2; cases e2
  · rw [e] at e2; cases e2
theorem ars_exc {ops : List Ar} {Q : List V → Hp → Prop} {x : Str} {p : PV} (s : SRel G.K O S σ H) (e : evX ops S = .exc x p S')
    (h : ∀ cls dd H', Step O S S' σ H H' → SRel G.K O S' σ H' → ExcRel G (Tot O S' σ) H' x p cls dd → W cls dd σ H') : tArs G W ops σ H Q := by
  refine ars_ok ops S H Q s (fun ps' S2 e2 => ?_) (fun x p S2 e2 => ?_) (fun e2 => ?_)
  · rw [e] at e2; cases e2
  · rw [e] at e2; cases e2; exact h
  · rw [e] at e2; cases e2
theorem sx_nil : SX G c k [] [] := fun _ _ _ _ => pa_nil
theorem sx_one {d : AS → R RV} {es : List Expr} {os : List Ar} (h : SE G c k e d) (r : SX G c k es os) (hs : StarOk e es := by intro _; rfl) : SX G c k (e :: es) (.one d :: os) := fun X W g tk => pa_cons (h X W g tk) (r X W g tk) (hs _)
theorem sx_star {d : AS → R RV} {es : List Expr} {os : List Ar} {p : Pos} (h : SE G c k e d) (r : SX G c k es os) (hs : ∀ env, starEach (e.Starred p :: es) env = (true, eval e env) :: starEach es env := by intro _; rfl) : SX G c k (e.Starred p :: es) (.star d :: os) := fun X W g tk => by
  have h' := h X W g tk
  have r' := r X W g tk
  obtain ⟨rfl, _⟩ := g
  exact StX.pa_star h' r' (hs _)
def dTupX (ds : List Ar) : AS → R RV := fun S => match evX ds S with
  | .ok ps S' => if ps.length ≤ LINE then .ok (.val (.tup ps)) S' else .bad
  | .exc x p S' => .exc x p S'
  | .bad => .bad
def dLstX (ds : List Ar) : AS → R RV := fun S => match evX ds S with
  | .ok ps S' => if ps.length ≤ LINE then .ok (.fresh (.lst ps)) S' else .bad
  | .exc x p S' => .exc x p S'
  | .bad => .bad
theorem se_tupX {es : List Expr} {ds : List Ar} {x1 : Nat} (h : SX G c k es ds) : SE G c k (.Tuple es x1 pos) (dTupX ds) := fun X W g tk =>
  pe_of (pe_tup (h X W g tk)) fun σ H Q z => by
    obtain ⟨O, S, s, z⟩ := z
    have z : Gv G W O S σ H (dTupX ds S) Q := z
    unfold dTupX at z
    cases e : evX ds S with
    | bad => simp only [e] at z; exact z.elim
    | exc x p S' => simp only [e] at z; exact ars_exc s e z
    | ok ps S' =>
      simp only [e] at z
      split at z
      · rename_i hl
        refine ars_run s e fun vs H' st s' rl => ⟨by rw [rl.1, line_eq]; exact hl, fun p hp => ?_⟩
        have r := fin_tup s'.tok hp rl
        exact z _ _ (st.trans (Step.ext (Ext.new hp) s')) ⟨s'.ext (Ext.new hp), r⟩
      · exact z.elim
theorem se_lstX {es : List Expr} {ds : List Ar} (h : SX G c k es ds) : SE G c k (.List es pos) (dLstX ds) := fun X W g tk =>
  pe_of (pe_lst (h X W g tk)) fun σ H Q z => by
    obtain ⟨O, S, s, z⟩ := z
    have z : Gv G W O S σ H (dLstX ds S) Q := z
    unfold dLstX at z
    cases e : evX ds S with
    | bad => simp only [e] at z; exact z.elim
    | exc x p S' => simp only [e] at z; exact ars_exc s e z
    | ok ps S' =>
      simp only [e] at z
      split at z
      · rename_i hl
        refine ars_run s e fun vs H' st s' rl => ⟨by rw [rl.1, line_eq]; exact hl, fun p hp => ?_⟩
        have r := fin_lst s'.tok hp rl
        obtain ⟨st2, r2⟩ := OpRes.res s' st s (Ext.new hp) (rv := .fresh (.lst ps)) r
        exact z _ _ st2 r2
      · exact z.elim
/-! ### an own object written -/
theorem SRel.ownKeeps {o : HO} {x : Addr} (s : SRel K O S σ H) (ha : Own S σ x) : Keeps (Tot O S σ) (Tot O S σ) H (upd H x o) := by
  have mu := s.tok x (.inr ha)
  refine ⟨s.tok, fun y u n h => ?_, fun _ _ n _ => n, fun y u ⟨h, f⟩ => ?_⟩
  · have : y ≠ x := fun e => n (e ▸ .inr ha)
    unfold Se; rw [upd_ne this]; exact h
  · have : y ≠ x := fun e => by
      subst e
      rw [h] at mu
      cases u <;> first | exact mu | exact f
    exact ⟨by rw [upd_ne this]; exact h, f⟩
/-! x.append(e) -/
def isLstS : Option Slot → Bool
  | some (.own _ _ (.lst _)) => true
  | _ => false
def dApp (i : Nat) (d : AS → R RV) : AS → R RV := fun S => if isLstS S[i]? then match d S with
  | .ok rv S1 => match S1[i]? with
    | some (.own io false (.lst l)) => if l.length < LINE then .ok (.val .non) (S1.set i (.own io false (.lst (l ++ [rv.pv])))) else .bad
    | _ => .bad
  | .exc x p S' => .exc x p S'
  | .bad => .bad
  else .bad
theorem app_go {i : Nat} {d : AS → R RV} {Q : VK} (z : tSem G W (dApp i d) σ H Q) : tBM G.K "list" rAppend (tVar i) (tCons (tSem G W d) tNil) σ H Q := by
  obtain ⟨O, S, s, z⟩ := z
  have z : Gv G W O S σ H (dApp i d S) Q := z
  unfold dApp at z
  split at z
  · rename_i hl
    unfold isLstS at hl
    split at hl
    · rename_i io lk l e0
      obtain ⟨x, ex, nx, vs0, hx, _⟩ := s.own i _ _ _ e0
      refine ⟨.ref x, ex, .inl ⟨rfl, vs0, .inl (.inl hx)⟩, ?_⟩
      refine tSem.mk s (fun rv S1 e v H1 st res => ?_) (fun x p S' e => ?_) (fun e => ?_)
      · simp only [e] at z
        obtain ⟨s1, rp⟩ := res.toVal s st
        split at z
        · rename_i io2 l2 e2
          split at z
          · rename_i hlen
            obtain ⟨x', ex', _, vs1, hx1, rl1⟩ := s1.own i _ _ _ e2
            rw [ex] at ex'
            cases ex'
            have own : Own S1 σ x := ⟨i, io2, false, _, e2, ex⟩
            have kp := s1.ownKeeps (o := .lst (vs1 ++ [v])) own
            have ob : ObR G.K (Tot O S1 σ) (upd H1 x (.lst (vs1 ++ [v]))) x (.lst (l2 ++ [rv.pv])) := ⟨vs1 ++ [v], upd_same, (rl1.keep kp).append (.cons (rp.keep kp) .nil)⟩
            obtain ⟨s2, st2⟩ := s1.write e2 ex ob
            refine ⟨x, vs1, v, rfl, rfl, hx1, by rw [rl1.1, line_eq]; exact hlen, z _ _ (st.trans (st2 rfl)) ⟨s2, .non⟩⟩
          · exact z.elim
        · exact z.elim
      · simp only [e] at z; exact z
      · simp only [e] at z; exact z
    · cases hl
  · exact z.elim
abbrev FewOk (cpos : Pos) (es : List Expr) : Prop := ∀ env, (((backTo cpos (starEach es env)).all fun x => !x.fst) && ((backToKw cpos (keywordEach [] env)).all fun x => x.fst.isSome) && decide ((es.length + ([] : List Keyword).length + if ([] : List Keyword).isEmpty = true then 0 else 1) < 30)) = true
theorem se_app {x : Str} {i : Nat} {d : AS → R RV} {p cpos : Pos} (hN : c.N[i]? = some x) (hv : Vs c x) (he : SE G c k e d) (hb : BaseOk (.Name x p) "append" := by intro _; rfl) (hfew : FewOk cpos [e] := by intro _; rfl) (hl : (apos.endLine == cpos.line) = true := by rfl) (hs : StarOk e [] := by intro _; rfl) (hpl : BackOk cpos [] := by intro _; rfl)
    (hd : (x == ("__debug__" : Str)) = false := by decide) (hcd : (x == ("__classdict__" : Str)) = false := by decide) : SE G c k (.Call (.Attribute (.Name x p) "append" apos) [e] [] cpos) (dApp i d) := fun X W g tk => by
  have h' := he X W g tk
  have v' := so_nm (G := G) (pos := p) (k := k) hN hv hd hcd X W g tk
  obtain ⟨rfl, _⟩ := g
  exact pe_of (pe_bm PySem.F.plainAttrs_list PySem.F.slot_list_append PySem.F.type_list_append mt_append v' (pa_cons h' pa_nil (hs _)) (hb _) (hfew _) hl (hs _) (hpl _)) fun σ H Q z => app_go z
end
end Den
set_option Elab.async false
set_option linter.all false
set_option maxRecDepth 100000
set_option maxHeartbeats 800000
/-! Den25: stores in own lists and dicts, dict displays. -/
namespace Den
open PySem L2 PyProof.Rows
section
variable {G : Wd} {c : Cs} {k k' : Nat} {W : WX} {O : Addr → Prop} {σ σ' σ1 σ2 : L2.St} {S S0 S1 S2 S3 S' Si : AS} {H H0 H1 H2 H4 H' : Hp} {X : Cx} {e a b tg : Expr} {es : List Expr} {pos apos : Pos} {A B C : Opd} {K : PySem.W.Frag} {T T' : Addr → Prop} {vs ix : List Nat}
theorem ps_orT {st : Stmt} {t1 t2 : TS} (h1 : PS X st t1) (h2 : PS X st t2) : PS X st (fun D σ H => t1 D σ H ∨ t2 D σ H) := ⟨fun pins s σ H D I z => z.elim (h1.run pins s σ H D I) (h2.run pins s σ H D I)⟩
/-- an empty dict takes keys of the other kind -/
theorem Inv.retype {pins : List (Addr × Obj)} {s : Shared} {d : Addr} (I : Inv X pins σ H s) (h : H d = some (.dK [])) : Inv X pins σ (upd H d (.dT [])) s := by
  obtain ⟨z, hd, vs, rel, o, es, ep, ho, hx, hdt, hes, h3, h4⟩ := (show ObjOk X.prog X.w H s.heap d (.dK []) from I.hok d _ h)
  cases rel
  have hes' : es = #[] := by
    cases h3' : es.toList with
    | nil => exact Array.toList_eq_nil_iff.mp h3'
    | cons y ys => rw [h3'] at h3; cases h3
  exact I.write (h' := s.heap) (t' := s.toks) (by rw [h]; trivial) (.inl rfl) (fun b u _ e => e) ⟨o, ho⟩ ⟨z, hd, [], .nil, o, es, ep, ho, hx, hdt, by rw [hes']; rfl, by simp⟩
/-- a dict's new content behind d[k] = v -/
inductive Put (H : Hp) (a : Addr) (y v : V) : Hp → Prop where
  | as {H' : Hp} (h : DPut H a y v H') : Put H a y v H'
  | new {H' : Hp} (h0 : H a = some (.dK [])) (h : DPut (upd H a (.dT [])) a y v H') : Put H a y v H'
def sDPut' (td ty tv : TE) : TS := fun D σ H => tv σ H fun v H1 => td σ H1 fun x H2 => ty σ H2 fun y H3 => ∃ a H4, x = V.ref a ∧ Put H3 a y v H4 ∧ D.nx σ H4
theorem ps_dput' {o i value : Expr} {pos pos' : Pos} {td ty tv : TE} (hu : X.A.units + 1 < cLine) (ho : PE X o td) (hi : PE X i ty) (hv : PE X value tv) (hs : swapsWith value (some (.Subscript o i pos')) pos.line X.env = pure false) :
    PS X (.Assign [.Subscript o i pos'] value pos) (sDPut' td ty tv) := by
  refine ⟨fun pins s σ H D I h => ?_⟩
  refine wpAny_Assign_Subscript (thn (hv.run pins s σ H _ I h) fun r s1 ⟨v, H1, I1, rv, q1⟩ => thn (ho.run pins s1 σ H1 _ I1 q1) fun u s2 ⟨x, H2, I2, rx, q2⟩ => thn (hi.run pins s2 σ H2 _ I2 q2) fun iv s3 ⟨y, H3, I3, ry, a, H4, ex, g, q3⟩ => ?_) hs
  subst ex
  obtain rfl : u = Value.ref a := rx
  cases g with
  | as g => exact d_setItem hu I3 g ry rv fun s4 I4 => ⟨σ, H4, I4, q3⟩
  | new h0 g => exact d_setItem hu (Inv.retype I3 h0) g ry rv fun s4 I4 => ⟨σ, H4, I4, q3⟩
def dPut (i : Nat) (B : Opd) (dv : AS → R RV) : AS → RS := fun S => match dv S with
  | .ok rv S1 => match S1[i]? with
    | some (.own _ _ _) => match evs [B] S1 with
      | .ok [q] S2 => match S2[i]? with
        | some (.own io false (.dct l)) => match dgetO l q with
          | some _ => if l.length < LINE then .next (S2.set i (.own io false (.dct (dput l q rv.pv)))) else .bad
          | none => .bad
        | some (.own io false (.lst l)) => match q with
          | .int j => match ixN l.length j with
            | some n => .next (S2.set i (.own io false (.lst (l.set n rv.pv))))
            | none => .bad
          | _ => .bad
        | _ => .bad
      | .exc x p S' => .exc x p S'
      | _ => .bad
    | _ => .bad
  | .exc x p S' => .exc x p S'
  | .bad => .bad
theorem put_ne {l : List (PV × PV)} {k v : PV} : dput l k v ≠ [] := by
  unfold dput
  split
  · rename_i h
    cases l with
    | nil => simp at h
    | cons q l => simp
  · simp
/-- the state behind a store -/
theorem put_dict {i : Nat} {io : Bool} {l : List (PV × PV)} {q p : PV} {o : Option PV} {x : Addr} {v y : V} (s : SRel K O S σ H) (e : S[i]? = some (.own io false (.dct l))) (ex : σ[i]? = some (some (.ref x))) (hq : PRep K (Tot O S σ) H y q) (hg : dgetO l q = some o) (hl : l.length < LINE) (rp : Rep K (Tot O S σ) H v p) :
    ∃ H4, Put H x y v H4 ∧ SRel K O (S.set i (.own io false (.dct (dput l q p)))) σ H4 ∧ Step O S (S.set i (.own io false (.dct (dput l q p)))) σ H H4 := by
  obtain ⟨x', ex', _, ob⟩ := s.own i _ _ _ e
  rw [ex] at ex'
  cases ex'
  have own : Own S σ x := ⟨i, io, false, _, e, ex⟩
  obtain ⟨ki, _⟩ := key_in hq hg
  rcases ob with ⟨kvs, h1, rk⟩ | ⟨kvs, h1, ne, rk⟩
  · cases ki with
    | sc k e1 ey ha =>
      subst e1; subst ey
      have kp := s.ownKeeps (o := .dK (putK kvs k v)) own
      have ob : ObR K (Tot O S σ) (upd H x (.dK (putK kvs k v))) x (.dct (dput l (keyPV k) p)) := .inl ⟨_, upd_same, (rk.keep kp).put k (rp.keep kp)⟩
      obtain ⟨s2, st2⟩ := s.write e ex ob
      exact ⟨_, .as (.inl ⟨kvs, k, h1, rfl, by rw [rk.1, line_eq]; exact hl, rfl⟩), s2, st2 rfl⟩
    | tp ks b e1 ey hb ha =>
      subst e1; subst ey
      have hl0 : l = [] := by
        cases l with
        | nil => rfl
        | cons q l =>
          have hi' : 0 < kvs.length := by rw [rk.1]; simp
          have ek := rk.2.1 0 _ q (List.getElem?_eq_getElem hi') rfl
          simp only [allT, List.all_cons, ek, keyPV_isA] at ha
          cases ha
      subst hl0
      have hk0 : kvs = [] := List.eq_nil_of_length_eq_zero (by simpa using rk.1)
      subst hk0
      have kp := s.ownKeeps (o := .dT (putK [] ks v)) own
      have ob : ObR K (Tot O S σ) (upd H x (.dT (putK [] ks v))) x (.dct (dput [] (.tup (ks.map keyPV)) p)) := .inr ⟨_, upd_same, put_ne, (RepT.nil.put ks (rp.keep kp))⟩
      obtain ⟨s2, st2⟩ := s.write e ex ob
      have hbx : b ≠ x := fun z => by rw [z, h1] at hb; cases hb
      refine ⟨_, .new h1 (.inr ⟨[], ks, b, upd_same, rfl, by rw [upd_ne hbx]; exact hb, by rw [sizeLine_eq]; decide, rfl⟩), ?_⟩
      rw [upd_upd]
      exact ⟨s2, st2 rfl⟩
  · cases ki with
    | sc k e1 ey ha => exact (allK_T ha ne rk).elim
    | tp ks b e1 ey hb ha =>
      subst e1; subst ey
      have kp := s.ownKeeps (o := .dT (putK kvs ks v)) own
      have ob : ObR K (Tot O S σ) (upd H x (.dT (putK kvs ks v))) x (.dct (dput l (.tup (ks.map keyPV)) p)) := .inr ⟨_, upd_same, put_ne, (rk.keep kp).put ks (rp.keep kp)⟩
      obtain ⟨s2, st2⟩ := s.write e ex ob
      exact ⟨_, .as (.inr ⟨kvs, ks, b, h1, rfl, hb, by rw [rk.1, line_eq]; exact hl, rfl⟩), s2, st2 rfl⟩
theorem put_go {D : Ends} {i : Nat} {dv : AS → R RV} (z : tSemS G W (dPut i B dv) D σ H) : sDPut' (tVar i) (tOpd G W B) (tSem G W dv) D σ H ∨ tAsg (tSem G W dv) (gSub (tVar i) (tOpd G W B) rSetL) D σ H := by
  obtain ⟨O, S, s, z⟩ := z
  unfold dPut at z
  cases e : dv S with
  | bad => simp only [e] at z; exact z.elim
  | exc x p S' =>
    simp only [e] at z
    refine .inl (sem_of s ?_)
    rw [e]
    exact fun cls dd H' st s' ex => z cls dd σ H' st.s s' ex
  | ok rv S1 =>
    simp only [e] at z
    split at z
    · rename_i io0 lk0 p0 e0
      cases e1 : evs [B] S1 with
      | bad => simp only [e1] at z; exact z.elim
      | exc x p S' =>
        simp only [e1] at z
        refine .inl (sem_of s ?_)
        rw [e]
        intro v H1 st res
        obtain ⟨s1, rp⟩ := res.toVal s st
        obtain ⟨x', ex', _, _⟩ := s1.own i _ _ _ e0
        refine ⟨_, ex', ?_⟩
        have : tOpds G W [B] σ H1 (fun vs H3 => ∃ y, vs = [y] ∧ ∃ a H4, (V.ref x') = V.ref a ∧ Put H3 a y v H4 ∧ D.nx σ H4) := opds_exc s1 e1 fun cls dd H' st' s' ex => z cls dd σ H' (st.trans st').s s' ex
        exact tOpd_B this
      | ok qs S2 =>
        simp only [e1] at z
        split at z
        · rename_i q S2' ee
          cases ee
          split at z
          · rename_i io l e2
            cases hg : dgetO l q with
            | none => simp only [hg] at z; exact z.elim
            | some o =>
              simp only [hg] at z
              split at z
              · rename_i hl
                refine .inl (sem_of s ?_)
                rw [e]
                intro v H1 st res
                obtain ⟨s1, rp⟩ := res.toVal s st
                obtain ⟨x', ex', _, _⟩ := s1.own i _ _ _ e0
                refine ⟨_, ex', ?_⟩
                have : tOpds G W [B] σ H1 (fun vs H3 => ∃ y, vs = [y] ∧ ∃ a H4, (V.ref x') = V.ref a ∧ Put H3 a y v H4 ∧ D.nx σ H4) := opds_run s1 e1 fun vs H3 st3 s3 rl => by
                  obtain ⟨y, rfl, hq⟩ := prl1 rl
                  obtain ⟨H4, hp, s4, st4⟩ := put_dict s3 e2 ex' hq hg hl (rp.keep (st3.keeps s1))
                  exact ⟨y, rfl, x', H4, rfl, hp, z σ H4 ((st.trans st3).trans st4).s s4⟩
                exact tOpd_B this
              · exact z.elim
          · rename_i io l e2
            split at z
            · rename_i j
              cases hx : ixN l.length j with
              | none => simp only [hx] at z; exact z.elim
              | some n =>
                simp only [hx] at z
                refine .inr (sem_of s ?_)
                rw [e]
                intro v H1 st res
                obtain ⟨s1, rp⟩ := res.toVal s st
                obtain ⟨x', ex', _, _⟩ := s1.own i _ _ _ e0
                refine ⟨_, ex', ?_⟩
                have : tOpds G W [B] σ H1 (fun vs H3 => ∃ y, vs = [y] ∧ rSetL (V.ref x') y v H3 (fun H4 => D.nx σ H4)) := opds_run s1 e1 fun vs H3 st3 s3 rl => by
                  obtain ⟨y, rfl, hq⟩ := prl1 rl
                  obtain rfl : y = .int j := hq
                  obtain ⟨x2, ex2, _, vs2, h2, r2⟩ := s3.own i _ _ _ e2
                  rw [ex'] at ex2
                  cases ex2
                  have own : Own S2 σ x' := ⟨i, io, false, _, e2, ex'⟩
                  have kp := s3.ownKeeps (o := .lst (vs2.set n v)) own
                  have ob : ObR G.K (Tot O S2 σ) (upd H3 x' (.lst (vs2.set n v))) x' (.lst (l.set n rv.pv)) := ⟨_, upd_same, (r2.keep kp).set n ((rp.keep (st3.keeps s1)).keep kp)⟩
                  obtain ⟨s4, st4⟩ := s3.write e2 ex' ob
                  exact ⟨_, rfl, x', vs2, j, n, rfl, rfl, h2, by rw [r2.1]; exact hx, z σ _ ((st.trans st3).trans (st4 rfl)).s s4⟩
                exact tOpd_B this
            · exact z.elim
          · exact z.elim
        · rename_i heq; cases heq
        · exact z.elim
    · exact z.elim
theorem ss_put {x : Str} {i : Nat} {ix value : Expr} {dv : AS → R RV} {p pos' : Pos} (hN : c.N[i]? = some x) (hv : Vs c x) (hB : SO G c k ix B) (hd : SE G c k value dv)
    (hs : ∀ env, swapsWith value (some (.Subscript (.Name x p) ix pos')) pos.line env = pure false := by intro _; rfl)
    (h1 : ∀ env, swapsWithSole [.Subscript (.Name x p) ix pos'] value pos.line env = pure false := by intro _; rfl) (h2 : ∀ env, swappedStores [.Subscript (.Name x p) ix pos'] value env = pure none := by intro _; rfl)
    (h3 : ∀ env, List.map (fun x => x.snd) (assignEach [.Subscript (.Name x p) ix pos'] env) = [assign (.Subscript (.Name x p) ix pos') env] := by intro _; rfl)
    (h4 : ∀ (env : Env) (v : Value), assign ((Expr.Name x p).Subscript ix pos') env v = (do
      let ov ← holding [v] (eval (.Name x p) env)
      let iv ← holding [v, ov] (eval ix env)
      standAt pos'
      holding [v, ov, iv] (setItem ov iv v)
      release [v, ov, iv] []) := by intro _ _; rfl)
    (hdd : (x == ("__debug__" : Str)) = false := by decide) (hcd : (x == ("__classdict__" : Str)) = false := by decide) : SS G c k (.Assign [.Subscript (.Name x p) ix pos'] value pos) (dPut i B dv) := fun X W g tk => by
  have hv' := so_nm (G := G) (pos := p) (k := k) hN hv hdd hcd X W g tk
  have hB' := hB X W g tk
  have hd' := hd X W g tk
  have room := g.room.un
  obtain ⟨rfl, _⟩ := g
  exact ps_of (ps_orT (ps_dput' (by omega) hv' hB' hd' (hs _)) (ps_asg hd' (pg_sub hv' hB' set_list (h4 _)) (h1 _) (h2 _) (h3 _))) fun D σ H z => put_go z
end
end Den
set_option Elab.async false
set_option linter.all false
set_option maxRecDepth 100000
set_option maxHeartbeats 800000
/-! Den26: slices, dict(..), dict displays, tuple targets, pairs. -/
namespace Den
open PySem L2 PyProof.Rows
section
variable {G : Wd} {c : Cs} {k k' : Nat} {W : WX} {O : Addr → Prop} {σ σ' σ1 σ2 : L2.St} {S S0 S1 S2 S3 S' Si : AS} {H H0 H1 H2 H4 H' : Hp} {X : Cx} {e a b tg : Expr} {es : List Expr} {pos apos : Pos} {A B C : Opd} {K : PySem.W.Frag} {T T' : Addr → Prop} {vs ix : List Nat}
/-! ### slices -/
def cutL (l : List PV) (lo hi : Option Int) : List PV := (l.drop (HT.sIx l.length 0 lo)).take (HT.sIx l.length l.length hi - HT.sIx l.length 0 lo)
theorem cut_rep {xs : List V} {l : List PV} (r : RepL K T H xs l) (lo hi : Option Int) : RepL K T H (cutV xs lo hi) (cutL l lo hi) := by
  unfold cutV cutL
  rw [r.1]
  exact (r.drop _).take _
def cutP (p : PV) (lo hi : Option Int) : Option RV := match p with
  | .lst l => some (.fresh (.lst (cutL l lo hi)))
  | .tup l => some (.val (.tup (cutL l lo hi)))
  | .str x => if x.length ≤ LINE then some (.val (.str (cutS x lo hi))) else none
  | _ => none
def cutLo : List PV → Option RV
  | [p, .int i] => cutP p (some i) none
  | _ => none
def cutHi : List PV → Option RV
  | [p, .int i] => cutP p none (some i)
  | _ => none
def cutLH : List PV → Option RV
  | [p, .int i, .int j] => cutP p (some i) (some j)
  | _ => none
/-- the three rules of slices, as one -/
def rCut (K : PySem.W.Frag) : V → Option Int → Option Int → Hp → VK → Prop := fun x lo hi H Q => ∃ T p rv, TOk T H ∧ PRep K T H x p ∧ cutP p lo hi = some rv ∧ ∀ v H', Ext H H' → OpRes K T H H' rv v → Q v H'
theorem cutL_all {l : List PV} {lo hi : Option Int} (h1 : HT.sIx l.length 0 lo = 0) (h2 : HT.sIx l.length l.length hi = l.length) : cutL l lo hi = l := by
  unfold cutL
  rw [h1, h2]
  simp
theorem sl_cut : SlR X (rCut X.K) := by
  intro pins s σ H x v vl vu lo hi sl Q I rx hsl hlo hhi h
  obtain ⟨T, p, rv, t, hp, hg, q⟩ := h
  cases p with
  | lst l =>
    simp only [cutP] at hg
    cases hg
    obtain ⟨a, xs, rfl, h1, r⟩ := hp
    exact sl_list pins s σ H _ v vl vu lo hi sl Q I rx hsl hlo hhi ⟨a, xs, rfl, .inl (.inl h1), fun p hp => q _ _ (Ext.new hp) (fin_lst t hp (cut_rep r lo hi))⟩
  | tup l =>
    simp only [cutP] at hg
    cases hg
    obtain ⟨a, xs, rfl, h1, r⟩ := hp
    refine sl_tupA pins s σ H _ v vl vu lo hi sl Q I rx hsl hlo hhi ⟨a, xs, rfl, .inl (.inl h1), fun ⟨e1, e2⟩ => ?_, fun _ p hp => q _ _ (Ext.new hp) (fin_tup t hp (cut_rep r lo hi))⟩
    rw [r.1] at e1 e2
    refine q _ H (okv H) ?_
    rw [cutL_all e1 e2]
    exact .tup h1 r.1 r.2
  | str z =>
    simp only [cutP] at hg
    split at hg
    · rename_i hl
      cases hg
      obtain rfl : x = .str z := hp
      exact sl_str pins s σ H _ v vl vu lo hi sl Q I rx hsl hlo hhi ⟨z, rfl, by rw [line_eq]; exact hl, q _ H (okv H) (.str _)⟩
    · cases hg
  | _ => simp [cutP] at hg
theorem se_cutLo {lo : Expr} {p2 : Pos} (ha : SO G c k a A) (hb : SO G c k lo B) : SE G c k (.Subscript a (.Slice (some lo) none none p2) pos) (dOp cutLo [A, B]) := fun X W g tk => by
  have ha' := ha X W g tk
  have hb' := hb X W g tk
  obtain ⟨rfl, _⟩ := g
  refine pe_of (pe_slice sl_cut ha' (po_some hb') po_none) fun σ H Q z => ?_
  have z : tOpd (wd X) W A σ H (fun x H1 => tOpd (wd X) W B σ H1 (fun y H2 => rP X.K cutLo [x, y] H2 Q)) := sem_rP (ops := [A, B]) z
  refine mono_opd z fun x H1 z => mono_opd z fun y H2 ⟨T, ps, rv, t, hp, hg, q⟩ => ?_
  unfold cutLo at hg
  split at hg
  · obtain ⟨h1, h2, _⟩ := hp
    obtain rfl : y = .int _ := h2
    exact ⟨_, rfl, T, _, rv, t, h1, hg, q⟩
  · cases hg
theorem se_cutHi {hi : Expr} {p2 : Pos} (ha : SO G c k a A) (hb : SO G c k hi B) : SE G c k (.Subscript a (.Slice none (some hi) none p2) pos) (dOp cutHi [A, B]) := fun X W g tk => by
  have ha' := ha X W g tk
  have hb' := hb X W g tk
  obtain ⟨rfl, _⟩ := g
  refine pe_of (pe_slice sl_cut ha' po_none (po_some hb')) fun σ H Q z => ?_
  have z : tOpd (wd X) W A σ H (fun x H1 => tOpd (wd X) W B σ H1 (fun y H2 => rP X.K cutHi [x, y] H2 Q)) := sem_rP (ops := [A, B]) z
  refine mono_opd z fun x H1 z => mono_opd z fun y H2 ⟨T, ps, rv, t, hp, hg, q⟩ => ?_
  unfold cutHi at hg
  split at hg
  · obtain ⟨h1, h2, _⟩ := hp
    obtain rfl : y = .int _ := h2
    exact ⟨_, rfl, T, _, rv, t, h1, hg, q⟩
  · cases hg
/-- an operand that is looked at again later -/
def again (A : Opd) (p0 : PV) (S : AS) : Option PV := match A with
  | .nm i => peek S i
  | .tm _ => some p0
def Kept (K : PySem.W.Frag) (O : Addr → Prop) (A : Opd) (p0 : PV) (S1 : AS) (σ : L2.St) (H1 : Hp) (v : V) : Prop :=
  PRep K (Tot O S1 σ) H1 v p0 ∧ ∀ S2 H2 p, SRel K O S2 σ H2 → Step O S1 S2 σ H1 H2 → again A p0 S2 = some p → PRep K (Tot O S2 σ) H2 v p
def GvK (G : Wd) (W : WX) (O : Addr → Prop) (S : AS) (σ : L2.St) (H : Hp) (A : Opd) (r : R (List PV)) (Q : VK) : Prop := match r with
  | .ok [p0] S1 => ∀ v H1, Step O S S1 σ H H1 → SRel G.K O S1 σ H1 → Kept G.K O A p0 S1 σ H1 v → Q v H1
  | .exc c p S' => ∀ cls dd H', Step O S S' σ H H' → SRel G.K O S' σ H' → ExcRel G (Tot O S' σ) H' c p cls dd → W cls dd σ H'
  | _ => False
theorem opd_hold {Q : VK} (s : SRel G.K O S σ H) (h : GvK G W O S σ H A (evs [A] S) Q) : tOpd G W A σ H Q := by
  cases A with
  | nm i =>
    simp only [evs] at h
    cases e : peek S i with
    | none => simp only [e] at h; exact h.elim
    | some p0 =>
      simp only [e] at h
      obtain ⟨v, ev, pr⟩ := s.peek e
      refine ⟨v, ev, h v H .refl s ⟨pr, fun S2 H2 p s2 _ ea => ?_⟩⟩
      obtain ⟨v', ev', pr'⟩ := s2.peek (show peek S2 i = some p from ea)
      rw [ev] at ev'
      cases ev'
      exact pr'
  | tm d =>
    simp only [evs] at h
    refine tSem.mk s (fun rv S1 e v H1 st res => ?_) (fun x p S' e => ?_) (fun e => ?_)
    · simp only [e] at h
      obtain ⟨s1, rp⟩ := res.toVal s st
      refine h v H1 st s1 ⟨rp.pr, fun S2 H2 p s2 st2 ea => ?_⟩
      cases ea
      exact (rp.keep (st2.keeps s1)).pr
    · simp only [e] at h; exact h
    · simp only [e] at h; exact h
def dCutLH (A : Opd) (d1 d2 : AS → R RV) : AS → R RV := fun S => match evs [A] S with
  | .ok [p0] S1 => match d1 S1 with
    | .ok (.val (.int i)) S2 => match d2 S2 with
      | .ok (.val (.int j)) S3 => match again A p0 S3 with
        | some p => match cutP p (some i) (some j) with
          | some rv => .ok rv S3
          | none => .bad
        | none => .bad
      | .exc x p S' => .exc x p S'
      | _ => .bad
    | .exc x p S' => .exc x p S'
    | _ => .bad
  | .exc x p S' => .exc x p S'
  | _ => .bad
theorem se_cutLH {lo hi : Expr} {p2 : Pos} {d1 d2 : AS → R RV} (ha : SO G c k a A) (hb : SE G c k lo d1) (hc : SE G c k hi d2) : SE G c k (.Subscript a (.Slice (some lo) (some hi) none p2) pos) (dCutLH A d1 d2) := fun X W g tk => by
  have ha' := ha X W g tk
  have hb' := hb X W g tk
  have hc' := hc X W g tk
  obtain ⟨rfl, _⟩ := g
  refine pe_of (pe_slice sl_cut ha' (po_some hb') (po_some hc')) fun σ H Q z => ?_
  obtain ⟨O, S, s, z⟩ := z
  have z : Gv (wd X) W O S σ H (dCutLH A d1 d2 S) Q := z
  unfold dCutLH at z
  refine opd_hold s ?_
  cases e : evs [A] S with
  | bad => simp only [e] at z; exact z
  | exc x p S' => simp only [e] at z; exact z
  | ok ps S1 =>
    simp only [e] at z
    split at z
    · rename_i p0 S1' ee
      cases ee
      intro v H1 st1 s1 kp
      refine tSem.mk s1 (fun rv S2 e1 y H2 st2 res => ?_) (fun x p S' e1 => ?_) (fun e1 => ?_)
      · simp only [e1] at z
        split at z
        · rename_i i S2' ee
          cases ee
          obtain ⟨s2, ry⟩ := res
          cases ry
          refine ⟨i, rfl, ?_⟩
          refine tSem.mk s2 (fun rv S3 e2 y H3 st3 res => ?_) (fun x p S' e2 => ?_) (fun e2 => ?_)
          · simp only [e2] at z
            split at z
            · rename_i j S3' ee
              cases ee
              obtain ⟨s3, ry⟩ := res
              cases ry
              refine ⟨j, rfl, ?_⟩
              cases e3 : again A p0 S3 with
              | none => simp only [e3] at z; exact z.elim
              | some p =>
                simp only [e3] at z
                cases e4 : cutP p (some i) (some j) with
                | none => simp only [e4] at z; exact z.elim
                | some rv =>
                  simp only [e4] at z
                  refine ⟨Tot O S3 σ, p, rv, s3.tok, kp.2 S3 H3 p s3 (st2.trans st3) e3, e4, fun w H' ex r => ?_⟩
                  obtain ⟨stf, rf⟩ := OpRes.res s3 ((st1.trans st2).trans st3) s ex r
                  exact z w H' stf rf
            · rename_i heq; cases heq
            · exact z.elim
          · simp only [e2] at z; exact fun cls dd H' st' s' ex => z cls dd H' ((st1.trans st2).trans st') s' ex
          · simp only [e2] at z; exact z
        · rename_i heq; cases heq
        · exact z.elim
      · simp only [e1] at z; exact fun cls dd H' st' s' ex => z cls dd H' (st1.trans st') s' ex
      · simp only [e1] at z; exact z
    · rename_i heq; cases heq
    · exact z.elim
/-! ### dict(..) -/
def pairsOf : List PV → Option (List (L2.Key × PV))
  | [] => some []
  | .tup [p, v] :: l => match aKey p, pairsOf l with
    | some k, some r => some ((k, v) :: r)
    | _, _ => none
  | _ => none
def mkD (l : List (L2.Key × PV)) : List (PV × PV) := l.foldl (fun acc q => dput acc (keyPV q.1) q.2) []
def dictP : List PV → Option RV
  | [.lst l] => (pairsOf l).map fun r => .fresh (.dct (mkD r))
  | _ => none
theorem merge_rep : ∀ {more : List (L2.Key × V)} {ms : List (L2.Key × PV)} {kvs : List (L2.Key × V)} {l : List (PV × PV)}, RepK K T H kvs l → Paired (fun (p : L2.Key × V) (q : L2.Key × PV) => p.1 = q.1 ∧ Rep K T H p.2 q.2) more ms → RepK K T H (mergeK kvs more) (ms.foldl (fun acc q => dput acc (keyPV q.1) q.2) l)
  | [], [], kvs, l, r, .nil => r
  | p :: more, q :: ms, kvs, l, r, .cons ⟨e, rp⟩ t => by
    show RepK K T H (mergeK (putK kvs p.1 p.2) more) (ms.foldl _ (dput l (keyPV q.1) q.2))
    refine merge_rep ?_ t
    rw [← e]
    exact r.put p.1 rp
theorem pairs_ok : ∀ {l : List PV} {r : List (L2.Key × PV)} {xs : List V}, pairsOf l = some r → RepL K T H xs l → ∃ (ps : List Addr) (kvs : List (L2.Key × V)), xs = ps.map V.ref ∧ Paired (fun p (kv : L2.Key × V) => H p = some (.tup [kV kv.1, kv.2])) ps kvs ∧ Paired (fun (p : L2.Key × V) (q : L2.Key × PV) => p.1 = q.1 ∧ Rep K T H p.2 q.2) kvs r
  | [], r, xs, h, rl => by
    simp only [pairsOf, Option.some.injEq] at h
    subst h
    rw [rl.inv_nil]
    exact ⟨[], [], rfl, .nil, .nil⟩
  | p :: l, r, xs, h, rl => by
    unfold pairsOf at h
    split at h
    · rename_i e; cases e
    · rename_i p' v l' e
      cases e
      split at h
      · rename_i kk rr ek er
        cases h
        obtain ⟨x, xs', rfl, rx, rxs⟩ := rl.inv_cons
        obtain ⟨ps, kvs, rfl, h1, h2⟩ := pairs_ok er rxs
        cases rx with
        | @tup a ws _ ha hl hr =>
          have rr : RepL K T H ws [p', v] := ⟨hl, hr⟩
          obtain ⟨w1, ws1, rfl, r1, rr1⟩ := rr.inv_cons
          obtain ⟨w2, ws2, rfl, r2, rr2⟩ := rr1.inv_cons
          have := rr2.inv_nil
          subst this
          rw [aKey_pv ek] at r1
          have hw : w1 = kV kk := by cases kk <;> cases r1 <;> rfl
          subst hw
          exact ⟨a :: ps, (kk, w2) :: kvs, rfl, .cons ha h1, .cons ⟨rfl, r2⟩ h2⟩
      · cases h
    · cases h
theorem cr_dictP (hc : X.calm = true) : CallR X (.type "dict") (rP X.K dictP) := by
  intro pins s σ H vs us Q I rx h
  obtain ⟨T, ps, rv, t, hp, hg, q⟩ := h
  unfold dictP at hg
  split at hg
  · obtain ⟨v, rfl, hp1⟩ := prl1 hp
    simp only [Option.map_eq_some_iff] at hg
    obtain ⟨r, hr, rfl⟩ := hg
    obtain ⟨a, ws, rfl, h1, rl⟩ := hp1
    obtain ⟨qs, kvs, rfl, h2, h3⟩ := pairs_ok hr rl
    refine call_dictP hc pins s σ H _ _ Q I rx ⟨a, qs, kvs, rfl, .inl (.inl h1), ?_, fun p hp => ?_⟩
    · clear h3 rl h1
      induction h2 with
      | nil => exact .nil
      | cons h t ih => exact .cons (.inl (.inl h)) ih
    · have kp : Keeps T (Oadd T p) H (upd H p (.dK (mergeK [] kvs))) := Keeps.extAdd t (Ext.new hp) hp
      exact q _ _ (Ext.new hp) ⟨p, rfl, hp, .inl ⟨_, upd_same, (merge_rep RepK.nil h3).keep kp⟩⟩
  · cases hg
theorem se_dictc {x : Str} {p : Pos} {ops : List Opd} (b : Bi G c x (.type "dict")) (ha : SA G c k [e] ops) (h1 : StarOk e [] := by intro _; rfl) (h2 : BackOk pos [] := by intro _; rfl) : SE G c k (.Call (.Name x p) [e] [] pos) (dOp dictP ops) := se_callT b (fun X g => cr_dictP g.calm) ha h1 h2
end
end Den
set_option Elab.async false
set_option linter.all false
set_option maxRecDepth 100000
set_option maxHeartbeats 800000
/-! Den27: d.get, dict displays, tuple targets, pairs, in-place. -/
namespace Den
open PySem L2 PyProof.Rows
section
variable {G : Wd} {c : Cs} {k k' : Nat} {W : WX} {O : Addr → Prop} {σ σ' σ1 σ2 : L2.St} {S S0 S1 S2 S3 S' Si : AS} {H H0 H1 H2 H4 H' : Hp} {X : Cx} {e a b tg o : Expr} {es : List Expr} {pos apos cpos : Pos} {A B C : Opd} {K : PySem.W.Frag} {T T' : Addr → Prop} {vs ix : List Nat}
/-! ### d.get(k, x) -/
theorem pe_bmD {to : TE} {t : TA} {name : Str} {id : String} {r : V → List V → Hp → VK → Prop} (slot : PySem.Slot "dict" name id) (hty : typeOf (.builtin id) = pure (.type "method_descriptor")) (hm : MtR X id r) (ho : PE X o to) (ha : PA X (e :: es) t)
    (hbase : attributeBase o name X.env (eval o X.env) = eval o X.env)
    (hfew : ((backTo cpos (starEach (e :: es) X.env)).all (fun x => !x.1) && (backToKw cpos (keywordEach [] X.env)).all (fun x => x.1.isSome)
      && decide ((e :: es).length + ([] : List Keyword).length + (if ([] : List Keyword).isEmpty then 0 else 1) < 30)) = true)
    (hline : (apos.endLine == cpos.line) = true) (hs : starEach (e :: es) X.env = (false, eval e X.env) :: starEach es X.env) (hplain : (backTo cpos (starEach es X.env)).any (·.1) = false) :
    PE X (.Call (.Attribute o name apos) (e :: es) [] cpos) (fun σ H Q => to σ H fun x H1 => (∃ a, x = V.ref a ∧ IsD H1 a) ∧ t σ H1 fun xs H2 => r x xs H2 Q) := by
  refine ⟨fun pins s σ H Q I h => ?_⟩
  refine wpAny_Call_method_late hbase hfew hline rfl (thn (ho.run pins s σ H _ I h) fun v s1 ⟨x, H1, I1, r1, ty, q1⟩ => ?_)
  obtain ⟨d, rfl, isd⟩ := ty
  obtain rfl : v = Value.ref d := r1
  obtain ⟨h1, h2, _⟩ := isD_at I1 isd
  refine ⟨"dict", id, PySem.F.plainAttrs_dict, slot, hty, h1, h2, ?_⟩
  have hA := ha.run cpos pins s1 σ H1 _ I1 q1
  rw [hs] at hA ⊢
  refine Calls.callWith_builtin (by show (false || (backTo cpos (starEach es X.env)).any (·.1)) = false; rw [hplain] <;> rfl) (Calls.evalArgs_plain ?_)
  exact thn hA fun us s2 ⟨vs, H2, I2, r2, q2⟩ => hm pins s2 σ H2 _ vs _ us Q I2 (show RelV (V.ref d) (Value.ref d) from rfl) r2 q2
def rGet (K : PySem.W.Frag) : V → List V → Hp → VK → Prop := fun x xs H Q => ∃ T l q p y z o, xs = [y, z] ∧ PRep K T H x (.dct l) ∧ PRep K T H y q ∧ Rep K T H z p ∧ dgetO l q = some o ∧ ∀ v, Rep K T H v (o.getD p) → Q v H
theorem mt_get (hu : X.A.units + 1 < cLine) : MtR X "dict.get" (rGet X.K) := by
  intro pins s σ H x xs v us Q I rx rxs h
  obtain ⟨T, l, q, p, y, z, o, rfl, h1, h2, h3, hg, fin⟩ := h
  obtain ⟨u1, u2, rfl, ry, rz⟩ := vals2 rxs
  obtain ⟨ki, rfl⟩ := key_in h2 hg
  cases ki with
  | sc k e1 ey ha =>
    subst e1; subst ey
    obtain ⟨a, kvs, vs, rfl, rk, hd, rel, dd⟩ := dct_raw I h1 ha
    obtain rfl : v = Value.ref a := rx
    refine call_meetsIn PySem.F.slot_dict_get dd.typeIs PySem.F.entry_dict_get (PySem.F.args_dict_get_3 _ _ _) (meets_dict_get_default (mixKind X.prog X.w) a (kV_is ry) hd u2) ⟨_, dd.mapOf, ?_⟩
    refine ⟨(valV kvs k).getD z, H, I.tok _, (rel.val k).getD rz, fin _ ?_⟩
    rcases rk.get k with ⟨q0, q1⟩ | ⟨v', p', q1, q2, rp⟩
    · rw [q0, q1]; exact h3
    · rw [q1, q2]; exact rp
  | tp ks b e1 ey hb ha =>
    subst e1; subst ey
    obtain ⟨a, kvs, xs', rfl, rk, hd, rel, dd⟩ := dct_rawT I h1 ha
    obtain rfl : v = Value.ref a := rx
    cases (show u1 = Value.ref b from ry)
    refine call_meetsIn PySem.F.slot_dict_get dd.typeIs PySem.F.entry_dict_get (PySem.F.args_dict_get_3 _ _ _) (meetsH_dict_get_default (tupleKind (mixKind X.prog X.w)) a b hd u2) ⟨tupleKind_room_in1 hu, ks, xs', key_of I.hok hb, dd, ?_⟩
    refine ⟨(valV kvs ks).getD z, H, I.tok _, (rel.val ks).getD rz, fin _ ?_⟩
    rcases rk.get ks with ⟨q0, q1⟩ | ⟨v', p', q1, q2, rp⟩
    · rw [q0, q1]; exact h3
    · rw [q1, q2]; exact rp
def isDct : PV → Bool
  | .dct _ => true
  | _ => false
def dGet2 (A : Opd) (d1 d2 : AS → R RV) : AS → R RV := fun S => match evs [A] S with
  | .ok [p0] S1 => if isDct p0 then match evV [d1, d2] S1 with
      | .ok [q, x] S2 => match again A p0 S2 with
        | some (.dct l) => match dgetO l q with
          | some o => .ok (.val (o.getD x)) S2
          | none => .bad
        | _ => .bad
      | .exc x p S' => .exc x p S'
      | _ => .bad
    else .bad
  | .exc x p S' => .exc x p S'
  | _ => .bad
theorem isD_of {p : PV} {v : V} (h : PRep K T H v p) (hd : isDct p = true) : ∃ a, v = V.ref a ∧ IsD H a := by
  cases p <;> simp [isDct] at hd
  obtain ⟨a, rfl, ⟨kvs, h1, _⟩ | ⟨kvs, h1, _⟩⟩ := h
  · exact ⟨a, rfl, .inl ⟨kvs, h1⟩⟩
  · exact ⟨a, rfl, .inr ⟨kvs, h1⟩⟩
theorem get2_go {d1 d2 : AS → R RV} {Q : VK} (z : tSem G W (dGet2 A d1 d2) σ H Q) : tOpd G W A σ H (fun x H1 => (∃ a, x = V.ref a ∧ IsD H1 a) ∧ tSems G W [d1, d2] σ H1 fun xs H2 => rGet G.K x xs H2 Q) := by
  obtain ⟨O, S, s, z⟩ := z
  have z : Gv G W O S σ H (dGet2 A d1 d2 S) Q := z
  unfold dGet2 at z
  refine opd_hold s ?_
  cases e : evs [A] S with
  | bad => simp only [e] at z; exact z
  | exc x p S' => simp only [e] at z; exact z
  | ok ps S1 =>
    simp only [e] at z
    split at z
    · rename_i p0 S1' ee
      cases ee
      intro v H1 st1 s1 kp
      split at z
      · rename_i hd
        refine ⟨isD_of kp.1 hd, ?_⟩
        cases e1 : evV [d1, d2] S1 with
        | bad => simp only [e1] at z; exact z.elim
        | exc x p S' => simp only [e1] at z; exact vals_exc s1 e1 fun cls dd H' st' s' ex => z cls dd H' (st1.trans st') s' ex
        | ok qs S2 =>
          simp only [e1] at z
          refine vals_run s1 e1 fun ws H2 st2 s2 rl => ?_
          split at z
          · rename_i q x S2' ee
            cases ee
            split at z
            · rename_i l e2
              cases e3 : dgetO l q with
              | none => simp only [e3] at z; exact z.elim
              | some o =>
                simp only [e3] at z
                obtain ⟨w1, ws1, rfl, r1, rr1⟩ := rl.inv_cons
                obtain ⟨w2, ws2, rfl, r2, rr2⟩ := rr1.inv_cons
                have := rr2.inv_nil
                subst this
                exact ⟨Tot O S2 σ, l, q, x, w1, w2, o, rfl, kp.2 S2 H2 _ s2 st2 e2, r1.pr, r2, e3, fun v' rp => z v' H2 (st1.trans st2) ⟨s2, rp⟩⟩
            · exact z.elim
          · rename_i heq; cases heq
          · exact z.elim
      · exact z.elim
    · rename_i heq; cases heq
    · exact z.elim
theorem se_get2 {f : Expr} {d1 d2 : AS → R RV} (ha : SO G c k o A) (h1 : SE G c k e d1) (h2 : SE G c k f d2) (hb : BaseOk o "get" := by intro _; rfl) (hfew : FewOk cpos [e, f] := by intro _; rfl) (hl : (apos.endLine == cpos.line) = true := by rfl) (hs : StarOk e [f] := by intro _; rfl) (hs2 : StarOk f [] := by intro _; rfl) (hpl : BackOk cpos [f] := by intro _; rfl) :
    SE G c k (.Call (.Attribute o "get" apos) [e, f] [] cpos) (dGet2 A d1 d2) := fun X W g tk => by
  have room := g.room.un
  have ha' := ha X W g tk
  have h1' := h1 X W g tk
  have h2' := h2 X W g tk
  obtain ⟨rfl, _⟩ := g
  exact pe_of (pe_bmD PySem.F.slot_dict_get PySem.F.type_dict_get (mt_get (by omega)) ha' (pa_cons h1' (pa_cons h2' pa_nil (hs2 _)) (hs _)) (hb _) (hfew _) hl (hs _) (hpl _)) fun σ H Q z => get2_go z
/-! ### dict displays -/
def evP : List ((AS → R RV) × (AS → R RV)) → AS → R (List (L2.Key × PV))
  | [], S => .ok [] S
  | (d1, d2) :: r, S => match d1 S with
    | .ok rv S1 => match d2 S1 with
      | .ok rw' S2 => match aKey rv.pv with
        | some kk => match evP r S2 with
          | .ok ps S' => .ok ((kk, rw'.pv) :: ps) S'
          | _ => .bad
        | none => .bad
      | _ => .bad
    | _ => .bad
def dDisp (ds : List ((AS → R RV) × (AS → R RV))) : AS → R RV := fun S => match evP ds S with
  | .ok ps S' => .ok (.fresh (.dct (mkD ps))) S'
  | _ => .bad
def tSemP (G : Wd) (W : WX) (ds : List ((AS → R RV) × (AS → R RV))) : List (TE × TE) := ds.map fun q => (tSem G W q.1, tSem G W q.2)
def SPs (G : Wd) (c : Cs) (k : Nat) (keys : List (Option Expr)) (values : List Expr) (ds : List ((AS → R RV) × (AS → R RV))) : Prop := ∀ X W (pos : Pos), Good G c k X → Takes X W → PPs X pos keys values (tSemP G W ds)
theorem sps_nil : SPs G c k [] [] [] := fun X W pos g tk => pps_nil
theorem sps_cons {d1 d2 : AS → R RV} {ks : List (Option Expr)} {vs : List Expr} {ds : List ((AS → R RV) × (AS → R RV))} (h1 : SE G c k a d1) (h2 : SE G c k b d2) (r : SPs G c k ks vs ds) : SPs G c k (some a :: ks) (b :: vs) ((d1, d2) :: ds) := fun X W pos g tk => pps_cons (h1 X W g tk) (h2 X W g tk) (r X W pos g tk)
theorem pairs_run : ∀ (ds : List ((AS → R RV) × (AS → R RV))) (S S' : AS) (H : Hp) (ps : List (L2.Key × PV)) (Q : List (V × V) → Hp → Prop), SRel G.K O S σ H → evP ds S = .ok ps S' →
    (∀ kvs H', Step O S S' σ H H' → SRel G.K O S' σ H' → Paired (fun (p : L2.Key × V) (q : L2.Key × PV) => p.1 = q.1 ∧ Rep G.K (Tot O S' σ) H' p.2 q.2) kvs ps → Q (kvs.map fun kv => (kV kv.1, kv.2)) H') → tPairs (tSemP G W ds) σ H Q
  | [], S, S', H, ps, Q, s, e, h => by
    cases e
    exact h [] H .refl s .nil
  | (d1, d2) :: r, S, S', H, ps, Q, s, e, h => by
    unfold evP at e
    split at e
    · rename_i rv S1 e1
      split at e
      · rename_i rw' S2 e2
        split at e
        · rename_i kk ek
          split at e
          · rename_i ps' S3 e3
            cases e
            show tSem G W d1 σ H _
            refine sem_of s ?_
            show Gv G W O S σ H (d1 S) _
            rw [e1]
            intro v H1 st1 res1
            obtain ⟨s1, r1⟩ := res1.toVal s st1
            refine sem_of s1 ?_
            show Gv G W O S1 σ H1 (d2 S1) _
            rw [e2]
            intro y H2 st2 res2
            obtain ⟨s2, r2⟩ := res2.toVal s1 st2
            refine pairs_run r S2 S' H2 ps' _ s2 e3 fun kvs H' st' s' pr => ?_
            rw [aKey_pv ek] at r1
            have hv : v = kV kk := by cases kk <;> cases r1 <;> rfl
            subst hv
            exact h ((kk, y) :: kvs) H' ((st1.trans st2).trans st') s' (.cons ⟨rfl, r2.keep (st'.keeps s2)⟩ pr)
          · cases e
        · cases e
      · cases e
    · cases e
theorem paired_len {α β : Type} {R : α → β → Prop} : ∀ {xs : List α} {ys : List β}, Paired R xs ys → xs.length = ys.length
  | _, _, .nil => rfl
  | _, _, .cons _ t => by simp [paired_len t]
theorem evP_len : ∀ {ds : List ((AS → R RV) × (AS → R RV))} {S S' : AS} {ps : List (L2.Key × PV)}, evP ds S = .ok ps S' → ps.length = ds.length
  | [], S, S', ps, h => by cases h; rfl
  | (d1, d2) :: ds, S, S', ps, h => by
    unfold evP at h
    split at h
    · split at h
      · split at h
        · split at h
          · rename_i e
            cases h
            simp [evP_len e]
          · cases h
        · cases h
      · cases h
    · cases h
theorem Step.updNew {o : HO} {D : Addr} (st : Step O S S' σ H H') (hn : H D = none) (nO : ¬ O D) : Step O S S' σ H (upd H' D o) := by
  refine ⟨fun x u n h => ?_, fun x h => ?_, st.sub, st.io, st.lk, fun x h => ?_, fun x u h => ?_⟩
  · have : x ≠ D := fun e => rd_some h (e ▸ hn)
    unfold Se; rw [upd_ne this]; exact st.rd x u n h
  · have : x ≠ D := fun e => nO (e ▸ h)
    rw [upd_ne this]; exact st.oo x h
  · by_cases hx : x = D
    · subst hx; rw [upd_same]; exact fun z => nomatch z
    · rw [upd_ne hx]; exact st.th x h
  · have : x ≠ D := fun e => by
      have h := h.1
      rw [e, hn] at h
      exact nomatch h
    exact ⟨by rw [upd_ne this]; exact (st.tl x u h).1, h.2⟩
theorem se_disp {keys : List (Option Expr)} {values : List Expr} {ds : List ((AS → R RV) × (AS → R RV))} (h : SPs G c k keys values ds) (h1 : (keys.all fun x => x.isSome) = true := by rfl) (h2 : keys.length = values.length := by rfl) (h3 : keys ≠ [] := by exact fun h => nomatch h) (h4 : keys.length ≤ 15 := by decide) (h5 : ds.length ≤ 15 := by decide) : SE G c k (.Dict keys values pos) (dDisp ds) := fun X W g tk =>
  pe_of (pe_disp (h X W pos g tk) h1 h2 h3 h4) fun σ H Q z => by
    obtain ⟨O, S, s, z⟩ := z
    have z : Gv G W O S σ H (dDisp ds S) Q := z
    unfold dDisp at z
    split at z
    · rename_i ps S' e
      intro p hp
      have nO : ¬ O p := s.ot.none hp
      have s0 : SRel G.K (Oadd O p) S σ (upd H p (.dK [])) := s.extAdd (Ext.new hp) hp (by rw [upd_same]; trivial)
      refine pairs_run ds S S' _ ps _ s0 e fun kvs H' st' s' pr => ?_
      have hD : H' p = some (.dK []) := (st'.oo p (.inr rfl)).trans upd_same
      refine ⟨hD, kvs, rfl, by rw [paired_len pr, evP_len e]; exact h5, ?_⟩
      obtain ⟨s2, kp⟩ := s'.updO (D := p) (o := .dK (mergeK [] kvs)) (.inr rfl) trivial
      have stA : Step O S S' σ H H' := (Step.ext (Ext.new hp) s).trans (st'.shrink fun x h => .inl h)
      exact z _ _ (stA.updNew hp nO) ⟨p, rfl, hp, s2, .inl ⟨_, upd_same, (merge_rep RepK.nil pr).keep kp⟩⟩
    · exact z.elim
/-! ### a tuple target -/
def dUnp (t : Tg) (d : AS → R RV) : AS → RS := fun S => match d S with
  | .ok rv S' => match bindT t rv.pv S' with
    | some S2 => .next S2
    | none => .bad
  | .exc x p S' => .exc x p S'
  | .bad => .bad
theorem ss_unp {t : Tg} {d : AS → R RV} (hg : SG G c k tg t) (h : SE G c k e d) (h1 : ∀ env, swapsWithSole [tg] e pos.line env = pure false := by intro _; rfl) (h2 : ∀ env, env.scope = c.sc → swappedStores [tg] e env = pure none := by intro _ _; rfl)
    (h3 : ∀ env, List.map (fun x => x.snd) (assignEach [tg] env) = [assign tg env] := by intro _; rfl) : SS G c k (.Assign [tg] e pos) (dUnp t d) := fun X W g tk =>
  ps_of (ps_asg (h X W g tk) (hg X g) (h1 _) (h2 _ g.hs) (h3 _)) fun D σ H ⟨O, S, s, z⟩ => by
  unfold dUnp at z
  refine tSem.mk s (fun rv S' e v H' st res => ?_) (fun x p S' e => ?_) (fun e => ?_)
  · simp only [e] at z
    cases e2 : bindT t rv.pv S' with
    | none => simp only [e2] at z; exact z.elim
    | some S2 =>
      simp only [e2] at z
      obtain ⟨s', rp⟩ := res.toVal s st
      exact ⟨O, S', rv.pv, S2, s', rp, e2, fun σ' _ _ st' s2 => z σ' H' (st.s.trans st') s2⟩
  · simp only [e] at z; exact fun cls dd H' st s' ex => z cls dd σ H' st.s s' ex
  · simp only [e] at z; exact z
end
end Den
set_option Elab.async false
set_option linter.all false
set_option maxRecDepth 100000
set_option maxHeartbeats 800000
/-! Den28: a, b = x, y; x += e; a module's tuple; calls that change their first argument. -/
namespace Den
open PySem L2 PyProof.Rows
section
variable {G : Wd} {c : Cs} {k k' : Nat} {W : WX} {O : Addr → Prop} {σ σ' σ1 σ2 : L2.St} {S S0 S1 S2 S3 S' Si : AS} {H H0 H1 H2 H4 H' : Hp} {X : Cx} {e a b tg o : Expr} {es : List Expr} {pos apos cpos : Pos} {A B C : Opd} {K : PySem.W.Frag} {T T' : Addr → Prop} {vs ix : List Nat}
/-! ### a, b = x, y -/
def dPar (i j : Nat) (d1 d2 : AS → R RV) : AS → RS := fun S => match d1 S with
  | .ok r1 S1 => match d2 S1 with
    | .ok r2 S2 => match putS j r2 S2 with
      | some S3 => match putS i r1 S3 with
        | some S4 => .next S4
        | none => .bad
      | none => .bad
    | .exc x p S' => .exc x p S'
    | .bad => .bad
  | .exc x p S' => .exc x p S'
  | .bad => .bad
theorem StepS.shr {O' : Addr → Prop} (a : StepS O S S' σ σ' H H') (h : ∀ a, O' a → O a) : StepS O' S S' σ σ' H H' := ⟨a.rd, fun x z => a.oo x (h x z), a.sub, a.io, a.lk, a.th, a.tl⟩
theorem par_go {D : Ends} {i j : Nat} (hij : i ≠ j) {d1 d2 : AS → R RV} (z : tSemS G W (dPar i j d1 d2) D σ H) : tPar i j (tSems G W [d1, d2]) D σ H := by
  obtain ⟨O, S, s, z⟩ := z
  unfold dPar at z
  show tSem G W d1 σ H (fun v H1 => tSem G W d2 σ H1 (fun w H2 => ∃ v' w', [v, w] = [v', w'] ∧ D.nx ((σ.set i (some v')).set j (some w')) H2))
  refine sem_of s ?_
  cases e1 : d1 S with
  | bad => simp only [e1] at z; exact z
  | exc x p S' => simp only [e1] at z; exact fun cls dd H' st s' ex => z cls dd σ H' st.s s' ex
  | ok r1 S1 =>
    simp only [e1] at z
    intro v H1 st1 res1
    cases r1 with
    | val p1 =>
      obtain ⟨s1, rp1⟩ := res1
      refine sem_of s1 ?_
      cases e2 : d2 S1 with
      | bad => simp only [e2] at z; exact z
      | exc x p S' => simp only [e2] at z; exact fun cls dd H' st s' ex => z cls dd σ H' (st1.trans st).s s' ex
      | ok r2 S2 =>
        simp only [e2] at z
        intro w H2 st2 res2
        cases e3 : putS j r2 S2 with
        | none => simp only [e3] at z; exact z.elim
        | some S3 =>
          simp only [e3] at z
          obtain ⟨s3, st3⟩ := res2.put s1 st2 e3
          cases e4 : putS i (.val p1) S3 with
          | none => simp only [e4] at z; exact z.elim
          | some S4 =>
            simp only [e4] at z
            unfold putS at e4
            split at e4
            · rename_i hf
              cases e4
              obtain ⟨s4, st4⟩ := s3.setVal hf (rp1.keep (st3.keeps s1))
              refine ⟨v, w, rfl, ?_⟩
              rw [List.set_comm _ _ hij]
              exact z _ _ ((st1.s.trans st3).trans st4) s4
            · cases e4
    | fresh p1 =>
      obtain ⟨x1, rfl, hn1, s1, ob1⟩ := res1
      refine sem_of s1 ?_
      cases e2 : d2 S1 with
      | bad => simp only [e2] at z; exact z
      | exc x p S' =>
        simp only [e2] at z
        intro cls dd H' st s' ex
        have kp : Keeps (Tot (Oadd O x1) S' σ) (Tot O S' σ) H' H' := ⟨s'.tok, fun _ _ _ h => h, fun x u n _ z => n (z.imp .inl id), fun _ _ h => h⟩
        refine z cls dd σ H' (st1.trans (st.shrink fun x h => .inl h)).s (s'.shrink fun x h => .inl h) ?_
        obtain ⟨hc, d, f, v, hd, hx, rp⟩ := ex
        exact ⟨hc, d, f, v, hd, hx, rp.keep kp⟩
      | ok r2 S2 =>
        simp only [e2] at z
        intro w H2 st2 res2
        cases e3 : putS j r2 S2 with
        | none => simp only [e3] at z; exact z.elim
        | some S3 =>
          simp only [e3] at z
          obtain ⟨s3, st3⟩ := res2.put s1 st2 e3
          cases e4 : putS i (.fresh p1) S3 with
          | none => simp only [e4] at z; exact z.elim
          | some S4 =>
            simp only [e4] at z
            unfold putS at e4
            split at e4
            · rename_i hf
              cases e4
              have ob3 := ob1.keep (st3.keeps s1) (st3.oo x1 (.inr rfl))
              obtain ⟨s4, st4⟩ := SRel.setOwn (S0 := S) s3 hf (s.ot.none hn1) ob3
              refine ⟨_, w, rfl, ?_⟩
              rw [List.set_comm _ _ hij]
              exact z _ _ (st4 H σ hn1 (st1.s.trans (st3.shr fun x h => .inl h))) s4
            · cases e4
theorem ss_par {i j : Nat} {x y : Str} {px py pt pt2 : Pos} {kt k2 : Nat} {d1 d2 : AS → R RV} (hi : c.N[i]? = some x) (hj : c.N[j]? = some y) (hij : i ≠ j) (hx : List.lookup x c.sc.names = some NameKind.local) (hy : List.lookup y c.sc.names = some NameKind.local) (ha : SV G c k [a, b] [d1, d2])
    (hw : ∀ env, env.scope = c.sc → swappedStores [.Tuple [.Name x px, .Name y py] kt pt] (.Tuple [a, b] k2 pt2) env = pure (some [x, y]))
    (hs : ∀ env, swapsWithSole [.Tuple [.Name x px, .Name y py] kt pt] (.Tuple [a, b] k2 pt2) pos.line env = pure false := by intro _; rfl) : SS G c k (.Assign [.Tuple [.Name x px, .Name y py] kt pt] (.Tuple [a, b] k2 pt2) pos) (dPar i j d1 d2) := fun X W g tk =>
  ps_of (ps_par g.calm (by rw [g.hN]; exact g.nd) (by rw [g.hN]; exact hi) (by rw [g.hN]; exact hj) hij (by rw [g.hs]; exact hx) (by rw [g.hs]; exact hy) (ha X W g tk) (hw _ g.hs) (hs _)) fun _ _ _ z => par_go hij z
/-! ### x += e, x -= e: ints -/
def dAug (i : Nat) (f : Int → Int → Int) (d : AS → R RV) : AS → RS := fun S => match S[i]? with
  | some (.val (.int m)) => match d S with
    | .ok (.val (.int n)) S' => match putS i (.val (.int (f m n))) S' with
      | some S2 => .next S2
      | none => .bad
    | .exc x p S' => .exc x p S'
    | _ => .bad
  | _ => .bad
theorem aug_go {D : Ends} {i : Nat} {f : Int → Int → Int} {d : AS → R RV} (z : tSemS G W (dAug i f d) D σ H) : tAug i (tSem G W d) (ipI f) D σ H := by
  obtain ⟨O, S, s, z⟩ := z
  unfold dAug at z
  split at z
  · rename_i m e0
    obtain ⟨v, ev, r⟩ := s.val i _ e0
    cases r
    refine ⟨_, ev, sem_of s ?_⟩
    cases e : d S with
    | bad => simp only [e] at z; exact z
    | exc x p S' => simp only [e] at z; exact fun cls dd H' st s' ex => z cls dd σ H' st.s s' ex
    | ok rv S' =>
      simp only [e] at z
      split at z
      · rename_i n S2 ee
        cases ee
        intro w H1 st1 res
        obtain ⟨s1, rp⟩ := res
        cases rp
        refine ⟨m, n, rfl, rfl, ?_⟩
        cases e2 : putS i (.val (.int (f m n))) S' with
        | none => simp only [e2] at z; exact z.elim
        | some S3 =>
          simp only [e2] at z
          unfold putS at e2
          split at e2
          · rename_i hf
            cases e2
            obtain ⟨s4, st4⟩ := s1.setVal hf (.int (f m n))
            exact z _ _ (st1.s.trans st4) s4
          · cases e2
      · rename_i heq; cases heq
      · exact z.elim
  · exact z.elim
theorem ss_aug {i : Nat} {x : Str} {f : Int → Int → Int} {op : Operator} {d : AS → R RV} {pos' : Pos} (hl : LocOk c i x) (hop : ∀ X, Good G c k X → PIp X op (ipI f)) (h : SE G c k e d) : SS G c k (.AugAssign (.Name x pos') op e pos) (dAug i f d) := fun X W g tk => by
  obtain ⟨h1, h2, h3⟩ := hl
  exact ps_of (ps_aug (by rw [g.hN]; exact g.nd) (by rw [g.hN]; exact h1) (by rw [g.hs]; exact h2) (h X W g tk) (hop X g) (by rw [g.hs, g.hf]; exact h3)) fun _ _ _ z => aug_go z
theorem ss_augAdd {i : Nat} {x : Str} {d : AS → R RV} {pos' : Pos} (hl : LocOk c i x) (h : SE G c k e d) : SS G c k (.AugAssign (.Name x pos') .Add e pos) (dAug i (fun m n => m + n) d) := ss_aug hl (fun X g => ip_add) h
theorem ss_augSub {i : Nat} {x : Str} {d : AS → R RV} {pos' : Pos} (hl : LocOk c i x) (h : SE G c k e d) : SS G c k (.AugAssign (.Name x pos') .Sub e pos) (dAug i (fun m n => m - n) d) := ss_aug hl (fun X g => ip_sub) h
end
end Den
set_option Elab.async false
set_option linter.all false
set_option maxRecDepth 100000
set_option maxHeartbeats 800000
/-! Den29: a module's tuple of texts; calls that change their first argument. -/
namespace Den
open PySem L2 PyProof.Rows
section
variable {G : Wd} {c : Cs} {k k' : Nat} {W : WX} {O : Addr → Prop} {σ σ' σ1 σ2 : L2.St} {S S0 S1 S2 S3 S' Si : AS} {H H0 H1 H2 H4 H' : Hp} {X : Cx} {e a b tg o : Expr} {es : List Expr} {pos apos cpos : Pos} {A B C : Opd} {K : PySem.W.Frag} {T T' : Addr → Prop} {vs ix : List Nat}
/-! ### x in KEPT -/
/-- the module's name x holds a tuple of texts -/
def KTup (G : Wd) (x : Str) (l : List Str) : Prop := ∃ p ob its n, G.mg x = some (.ref p) ∧ List.lookup p G.K = some ob ∧ ob.cls = .type "tuple" ∧ ob.data = .seq its n ∧ its.size ≤ sizeLine ∧ Vals (l.map V.str) its.toList
def inConst (l : List Str) : List PV → Option RV
  | [.str x] => some (.val (.bl (inV (.str x) (l.map V.str))))
  | _ => none
theorem flat_strs (l : List Str) : (l.map V.str).all flatV = true := by
  induction l with
  | nil => rfl
  | cons x l ih => simp [flatV] at ih ⊢
theorem inK_go {x : Str} {l : List Str} {p : Pos} (hk : KTup G x l) (hg : c.sc.names.lookup x = some .globalImplicit) (hd : (x == ("__debug__" : Str)) = false) (ha : SO G c k a A) :
    SE G c k (.Compare a [.In] [.Name x p] pos) (dOp (inConst l) [A]) := fun X W g tk => by
  have ha' := ha X W g tk
  obtain ⟨q, ob, its, n, hm, h1, h2, h3, h4, h5⟩ := hk
  obtain ⟨rfl, _, hsc, _⟩ := g
  refine pe_of (pe_cmpR op_in_seq ha' (pe_glob (v := .ref q) (show X.env.scope.names.lookup x = some .globalImplicit by rw [hsc]; exact hg) hm rfl hd) rfl) fun σ H Q z => ?_
  have z : tOpd (wd X) W A σ H (fun x H1 => rP X.K (inConst l) [x] H1 Q) := sem_rP (ops := [A]) z
  refine mono_opd z fun y H1 ⟨T, ps, rv, t, hp, hgg, qq⟩ => ?_
  unfold inConst at hgg
  split at hgg
  · cases hgg
    obtain ⟨hp, _⟩ := hp
    obtain rfl : y = .str _ := hp
    exact ⟨q, l.map V.str, rfl, .inr (.inr ⟨ob, its, n, h1, h2, h3, h4, h5⟩), rfl, flat_strs l, qq _ H1 (okv H1) (.bl _)⟩
  · cases hgg
theorem st_inK {x : Str} {l : List Str} {p : Pos} (hk : KTup G x l) (hg : c.sc.names.lookup x = some .globalImplicit) (hd : (x == ("__debug__" : Str)) = false) (ha : SO G c k a A) :
    ST G c k (.Compare a [.In] [.Name x p] pos) (dB (dOp (inConst l) [A])) := fun X W g tk => by
  have ha' := ha X W g tk
  obtain ⟨q, ob, its, n, hm, h1, h2, h3, h4, h5⟩ := hk
  obtain ⟨rfl, _, hsc, _⟩ := g
  refine pt_of (pt_cmpR op_in_seq ha' (pe_glob (v := .ref q) (show X.env.scope.names.lookup x = some .globalImplicit by rw [hsc]; exact hg) hm rfl hd) rfl) fun σ H Q z => ?_
  have z : tOpd (wd X) W A σ H (fun x H1 => rP X.K (inConst l) [x] H1 (fun v H' => ∃ b, v = .bl b ∧ Q b H')) := sem_rP (ops := [A]) (sem_B z)
  refine mono_opd z fun y H1 ⟨T, ps, rv, t, hp, hgg, qq⟩ => ?_
  unfold inConst at hgg
  split at hgg
  · cases hgg
    obtain ⟨hp, _⟩ := hp
    obtain rfl : y = .str _ := hp
    exact ⟨q, l.map V.str, rfl, .inr (.inr ⟨ob, its, n, h1, h2, h3, h4, h5⟩), rfl, flat_strs l, qq _ H1 (okv H1) (.bl _)⟩
  · cases hgg
/-! ### calls that change their first argument -/
structure FrameIO (T : Addr → Prop) (a : Addr) (H H' : Hp) : Prop where
  rd : ∀ x u, x ≠ a → Se H x u → Se H' x u
  oo : ∀ x, T x → H' x = H x
  th : ∀ x, H x ≠ none → H' x ≠ none
  tl : ∀ x u, FxAt H x u → FxAt H' x u
def spIO (K : PySem.W.Frag) (n : Nat) (F : PV → List PV → Option (PV × PV)) : Sp := fun vs H Q E => ∃ T a vr p0 ps r p1, vs = V.ref a :: vr ∧ vs.length = n ∧ ¬ T a ∧ TOk T H ∧ ObR K (Oadd T a) H a p0 ∧ RepL K (Oadd T a) H vr ps ∧ F p0 ps = some (r, p1) ∧
  ∀ v H', FrameIO T a H H' → ObR K (Oadd T a) H' a p1 → Rep K (Oadd T a) H' v r → Q v H'
def outIO (r : PV) (S : AS) : Option (PV × PV) := match S[(0 : Nat)]? with
  | some (.own true false p1) => some (r, p1)
  | _ => none
def bodyIO (n m : Nat) (d : AS → RS) : PV → List PV → Option (PV × PV) := fun p0 ps => if ps.length + 1 = n then match d (.own true false p0 :: startS m ps) with
  | .ret p S => outIO p S
  | .next S => outIO .non S
  | _ => none
  else none
theorem startIO_rel {N : List Str} {vr : List V} {ps : List PV} {x : Addr} {p0 : PV} (t : TOk T H) (nx : ¬ T x) (ob : ObR K (Oadd T x) H x p0) (r : RepL K (Oadd T x) H vr ps) (hN : vr.length + 1 ≤ N.length) :
    SRel K T (.own true false p0 :: startS (N.length - (vr.length + 1)) ps) (L2.start N (.ref x :: vr)) H ∧ ∀ y, Own (.own true false p0 :: startS (N.length - (vr.length + 1)) ps) (L2.start N (.ref x :: vr)) y ↔ y = x := by
  have eqO : ∀ y, Own (.own true false p0 :: startS (N.length - (vr.length + 1)) ps) (L2.start N (.ref x :: vr)) y ↔ y = x := fun y => by
    constructor
    · rintro ⟨i, io, lk, p, e1, e2⟩
      cases i with
      | zero => simp [L2.start] at e2; exact e2.symm
      | succ i => rw [List.getElem?_cons_succ] at e1; exact (startS_own e1).elim
    · rintro rfl
      exact ⟨0, true, false, p0, rfl, rfl⟩
  have eT : ∀ y, Tot T (.own true false p0 :: startS (N.length - (vr.length + 1)) ps) (L2.start N (.ref x :: vr)) y ↔ Oadd T x y := fun y => by
    unfold Tot Oadd
    rw [eqO]
  have tk : TOk (Oadd T x) H := fun y h => h.elim (t y) fun e => e ▸ ob.mut
  have kp : Keeps (Oadd T x) (Tot T (.own true false p0 :: startS (N.length - (vr.length + 1)) ps) (L2.start N (.ref x :: vr))) H H := ⟨tk, fun _ _ _ h => h, fun y u n _ z => n ((eT y).mp z), fun _ _ h => h⟩
  refine ⟨⟨?_, t, fun i p e => ?_, fun i io lk p e => ?_, fun i j a io lk p io' lk' p' e1 e2 e3 e4 => ?_⟩, eqO⟩
  · unfold startS L2.start
    simp [r.1]
  · cases i with
    | zero => simp at e
    | succ i =>
      rw [List.getElem?_cons_succ] at e
      have e1 := startS_get e
      obtain ⟨v, e2, rp⟩ := r.get e1
      have hi : i < vr.length := (List.getElem?_eq_some_iff.mp e2).1
      refine ⟨v, ?_, rp.keep kp⟩
      unfold L2.start
      rw [List.getElem?_append_left (by simp; omega), List.getElem?_map, List.getElem?_cons_succ, e2]; rfl
  · cases i with
    | zero =>
      simp at e
      obtain ⟨rfl, rfl, rfl⟩ := e
      exact ⟨x, rfl, nx, ob.keep kp rfl⟩
    | succ i => rw [List.getElem?_cons_succ] at e; exact (startS_own e).elim
  · cases i with
    | zero =>
      cases j with
      | zero => rfl
      | succ j => rw [List.getElem?_cons_succ] at e2; exact (startS_own e2).elim
    | succ i => rw [List.getElem?_cons_succ] at e1; exact (startS_own e1).elim
theorem fn_io {x qual : Str} {st : Stmt} {f : Addr} {fd : FuncData} {N ps : List Str} {d : AS → RS} (hf : Fun G.K x qual st f fd) (hs : C8.scC N ps (defScope st) = true) (hb : SSs G ⟨N, defScope st, fun _ => true⟩ k (defBody st) d) :
    FnOk G.P G.w G.K G.mg G.base CX0 (k + 1) f fd ps (spIO G.K ps.length (bodyIO ps.length (N.length - ps.length) d)) := by
  have sc := C8.fnScope_by hs
  refine hf.ok sc (fun vs H Q E ⟨T, a, vr, p0, qs, r, p1, _, h, _⟩ => h) fun cdv A outer s H vs Q E room ⟨T, a, vr, p0, qs, r, p1, ev, hl, na, t, ob, rl, hF, q⟩ => ?_
  subst ev
  refine ⟨tSemS G W0 d, hb _ W0 ⟨rfl, rfl, rfl, rfl, rfl, room, sc.nd, PySem.PassesOwn.never⟩ (takes0 _), ?_⟩
  have hl' : vr.length + 1 = ps.length := by simpa using hl
  have hlN : vr.length + 1 ≤ N.length := by
    have := congrArg List.length sc.pre
    rw [List.length_take] at this
    omega
  obtain ⟨s0, eqO⟩ := startIO_rel t na ob rl hlN
  refine ⟨T, _, s0, ?_⟩
  unfold bodyIO at hF
  rw [if_pos (by rw [← rl.1]; exact hl'), ← hl'] at hF
  have fin : ∀ rr S' v σ' H', outIO rr S' = some (r, p1) → StepS T (.own true false p0 :: startS (N.length - (vr.length + 1)) qs) S' (L2.start N (.ref a :: vr)) σ' H H' → SRel G.K T S' σ' H' → Rep G.K (Tot T S' σ') H' v rr → Q v H' := fun rr S' v σ' H' ho st' s' rp => by
    obtain ⟨⟨lk, p', e1⟩, e2⟩ := st'.io 0 false p0 rfl
    unfold outIO at ho
    rw [e1] at ho
    split at ho
    · rename_i p2 e3
      cases e3
      cases ho
      obtain ⟨b, e4, nb, ob'⟩ := s'.own 0 true false _ e1
      rw [e2] at e4
      have : b = a := by simp [L2.start] at e4; exact e4.symm
      subst this
      have own : Own S' σ' b := ⟨0, true, false, _, e1, by rw [e2]; rfl⟩
      have kp : Keeps (Tot T S' σ') (Oadd T b) H' H' := ⟨s'.tok, fun _ _ _ h => h, fun y u n _ z => n (z.elim .inl fun (e : y = b) => .inr (e ▸ own)), fun _ _ h => h⟩
      refine q v H' ⟨fun y u ny h => st'.rd y u (fun z => ny ((eqO y).mp z)) h, st'.oo, st'.th, st'.tl⟩ (ob'.keep kp rfl) (rp.keep kp)
    · cases ho
  cases e : d (.own true false p0 :: startS (N.length - (vr.length + 1)) qs) with
  | ret p' S' =>
    rw [e] at hF
    exact fun v σ' H' st s' rp => fin p' S' v σ' H' hF st s' rp
  | next S' =>
    rw [e] at hF
    exact fun σ' H' st s' => fin .non S' .non σ' H' hF st s' .non
  | brk S' => rw [e] at hF; cases hF
  | cnt S' => rw [e] at hF; cases hF
  | exc x p S' => rw [e] at hF; cases hF
  | bad => rw [e] at hF; cases hF
def FnIO (G : Wd) (x : Str) (k : Nat) (n : Nat) (F : PV → List PV → Option (PV × PV)) : Prop := ∃ f fd ps, G.mg x = some (.ref f) ∧ PySem.W.keepIn G.K (.ref f) = true ∧ Binds G.K fd ps [] ∧ FnOk G.P G.w G.K G.mg G.base CX0 k f fd ps (spIO G.K n F)
def dCallIO (F : PV → List PV → Option (PV × PV)) (i : Nat) (ds : List (AS → R RV)) : AS → R RV := fun S => match S[i]? with
  | some (.own _ _ _) => match evV ds S with
    | .ok ps S' => match S'[i]? with
      | some (.own io false p0) => match F p0 ps with
        | some (r, p1) => .ok (.val r) (S'.set i (.own io false p1))
        | none => .bad
      | _ => .bad
    | .exc x p S' => .exc x p S'
    | .bad => .bad
  | _ => .bad
theorem io_state {i : Nat} {io : Bool} {p0 p1 : PV} {x : Addr} (s : SRel K O S σ H) (e : S[i]? = some (.own io false p0)) (ex : σ[i]? = some (some (.ref x)))
    (f : FrameIO (fun y => Tot O S σ y ∧ y ≠ x) x H H') (ob : ObR K (Tot O S σ) H' x p1) : SRel K O (S.set i (.own io false p1)) σ H' ∧ Step O S (S.set i (.own io false p1)) σ H H' := by
  have hi : i < S.length := (List.getElem?_eq_some_iff.mp e).1
  obtain ⟨x', ex', nx, _⟩ := s.own i _ _ _ e
  rw [ex] at ex'
  cases ex'
  have own : Own S σ x := ⟨i, io, false, p0, e, ex⟩
  have eqO : ∀ y, Own (S.set i (.own io false p1)) σ y ↔ Own S σ y := fun y => by
    constructor
    · rintro ⟨j, io', lk', q, e1, e2⟩
      by_cases hj : i = j
      · subst hj
        rw [List.getElem?_set_self hi] at e1
        cases e1
        exact ⟨i, io, false, p0, e, e2⟩
      · rw [List.getElem?_set_ne hj] at e1
        exact ⟨j, io', lk', q, e1, e2⟩
    · rintro ⟨j, io', lk', q, e1, e2⟩
      by_cases hj : i = j
      · subst hj
        rw [e] at e1; cases e1
        exact ⟨i, io, false, p1, List.getElem?_set_self hi, e2⟩
      · exact ⟨j, io', lk', q, by rw [List.getElem?_set_ne hj]; exact e1, e2⟩
  have ne : ∀ y, ¬ Tot O S σ y → y ≠ x := fun y n e => n (e ▸ .inr own)
  have tokn : TOk (Tot O S σ) H' := fun y hy => by
    by_cases hyx : y = x
    · subst hyx; exact ob.mut
    · rw [f.oo y ⟨hy, hyx⟩]; exact s.tok y hy
  have k : Keeps (Tot O S σ) (Tot O (S.set i (.own io false p1)) σ) H H' := ⟨s.tok, fun y u n h => f.rd y u (ne y n) h, fun y u n _ z => n (z.imp id (eqO y).mp), f.tl⟩
  have k2 : Keeps (Tot O S σ) (Tot O (S.set i (.own io false p1)) σ) H' H' := ⟨tokn, fun _ _ _ h => h, fun y u n _ z => n (z.imp id (eqO y).mp), fun _ _ h => h⟩
  refine ⟨⟨by simp [s.len], fun y hy => tokn y (.inl hy), fun j q h => ?_, fun j io' lk' q h => ?_, fun j j' a io1 lk1 q1 io2 lk2 q2 h1 h2 => ?_⟩, fun y u n h => f.rd y u (fun z => n (z ▸ own)) h, fun y hy => f.oo y ⟨.inl hy, fun z => nx (z ▸ hy)⟩, fun y h => (eqO y).mp h, fun j lk q h => ?_, fun j io' q h => ?_, f.th, f.tl⟩
  · by_cases hj : i = j
    · subst hj
      rw [List.getElem?_set_self hi] at h
      cases h
    · rw [List.getElem?_set_ne hj] at h
      obtain ⟨v, e1, r⟩ := s.val j q h
      exact ⟨v, e1, r.keep k⟩
  · by_cases hj : i = j
    · subst hj
      rw [List.getElem?_set_self hi] at h
      cases h
      exact ⟨x, ex, nx, ob.keep k2 rfl⟩
    · rw [List.getElem?_set_ne hj] at h
      obtain ⟨b, e1, n, r⟩ := s.own j io' lk' q h
      have hbx : b ≠ x := fun z => by
        subst z
        exact hj (s.inj i j b _ _ _ _ _ _ e h ex e1)
      exact ⟨b, e1, n, r.keep k (f.oo b ⟨.inr ⟨j, io', lk', q, h, e1⟩, hbx⟩)⟩
  · have g : ∀ {j : Nat} {io' lk' q}, (S.set i (.own io false p1))[j]? = some (.own io' lk' q) → ∃ q', S[j]? = some (.own io' lk' q') := fun {j io' lk' q} h => by
      by_cases hj : i = j
      · subst hj
        rw [List.getElem?_set_self hi] at h
        cases h
        exact ⟨p0, e⟩
      · rw [List.getElem?_set_ne hj] at h
        exact ⟨q, h⟩
    obtain ⟨_, g1⟩ := g h1
    obtain ⟨_, g2⟩ := g h2
    exact s.inj j j' a _ _ _ _ _ _ g1 g2
  · by_cases hj : i = j
    · subst hj
      rw [e] at h; cases h
      exact ⟨false, p1, List.getElem?_set_self hi⟩
    · exact ⟨lk, q, by rw [List.getElem?_set_ne hj]; exact h⟩
  · by_cases hj : i = j
    · subst hj
      rw [e] at h; cases h
    · rw [List.getElem?_set_ne hj]; exact h
theorem se_callIO {x y : Str} {i : Nat} {p py : Pos} {n : Nat} {F : PV → List PV → Option (PV × PV)} {ds : List (AS → R RV)} (hF : FnIO G x k' n F) (hk : k' ≤ k) (hn : ds.length + 1 = n) (hg : c.sc.names.lookup x = some .globalImplicit) (hd : (x == ("__debug__" : Str)) = false) (hN : c.N[i]? = some y) (hv : Vs c y) (ha : SV G c k es ds)
    (h1 : StarOk (.Name y py) es := by intro _; rfl) (h2 : BackOk pos es := by intro _; rfl) (hdd : (y == ("__debug__" : Str)) = false := by decide) (hcd : (y == ("__classdict__" : Str)) = false := by decide) : SE G c k (.Call (.Name x p) (.Name y py :: es) [] pos) (dCallIO F i ds) := fun X W g tk => by
  have h := ha X W g tk
  have v' := so_nm (G := G) (pos := py) (k := k) hN hv hdd hcd X W g tk
  obtain ⟨f, fd, ps, hm, hkp, hbi, ok⟩ := hF
  obtain ⟨rfl, _, hsc, _, _, room, _⟩ := g
  refine pe_of (pe_call (E := fun _ _ _ => False) (ds := []) (dvs := []) ok (room.mono hk) (show X.env.scope.names.lookup x = some .globalImplicit by rw [hsc]; exact hg) hm hkp hbi .nil pass0 (pa_cons v' h (h1 _)) hd (h1 _) (h2 _)) fun σ H Q z => ?_
  obtain ⟨O, S, s, z⟩ := z
  have z : Gv (wd X) W O S σ H (dCallIO F i ds S) Q := z
  unfold dCallIO at z
  split at z
  · rename_i io0 lk0 q0 e0
    obtain ⟨x0, ex0, _, _⟩ := s.own i _ _ _ e0
    refine ⟨_, ex0, ?_⟩
    show tSems (wd X) W ds σ H fun vs H1 => spIO X.K n F ((V.ref x0 :: vs) ++ []) H1 Q _
    cases e : evV ds S with
    | bad => simp only [e] at z; exact z.elim
    | exc x p S' => simp only [e] at z; exact vals_exc s e z
    | ok qs S' =>
      simp only [e] at z
      refine vals_run s e fun vs H' st s' rl => ?_
      rw [List.append_nil]
      split at z
      · rename_i io p0 e1
        obtain ⟨x1, ex1, _, ob⟩ := s'.own i _ _ _ e1
        rw [ex0] at ex1
        cases ex1
        cases e2 : F p0 qs with
        | none => simp only [e2] at z; exact z.elim
        | some rr =>
          obtain ⟨r, p1⟩ := rr
          simp only [e2] at z
          have own : Own S' σ x0 := ⟨i, io, false, p0, e1, ex0⟩
          have eqT : ∀ y, Oadd (fun y => Tot O S' σ y ∧ y ≠ x0) x0 y ↔ Tot O S' σ y := fun y => by
            constructor
            · rintro (h | rfl)
              · exact h.1
              · exact .inr own
            · intro h
              by_cases hy : y = x0
              · exact .inr hy
              · exact .inl ⟨h, hy⟩
          have kp : Keeps (Tot O S' σ) (Oadd (fun y => Tot O S' σ y ∧ y ≠ x0) x0) H' H' := ⟨s'.tok, fun _ _ _ h => h, fun y u n _ z => n ((eqT y).mp z), fun _ _ h => h⟩
          refine ⟨fun y => Tot O S' σ y ∧ y ≠ x0, x0, vs, p0, qs, r, p1, rfl, by rw [List.length_cons, rl.1, evV_len e]; exact hn, fun h => h.2 rfl, fun y h => s'.tok y h.1, ob.keep kp rfl, rl.keep kp, e2, fun v H2 fr ob2 rp => ?_⟩
          have tk2 : TOk (Oadd (fun y => Tot O S' σ y ∧ y ≠ x0) x0) H2 := fun y hy => by
            rcases hy with hy | rfl
            · rw [fr.oo y hy]; exact s'.tok y hy.1
            · exact ob2.mut
          have kb : Keeps (Oadd (fun y => Tot O S' σ y ∧ y ≠ x0) x0) (Tot O S' σ) H2 H2 := ⟨tk2, fun _ _ _ h => h, fun y u n _ z => n ((eqT y).mpr z), fun _ _ h => h⟩
          obtain ⟨s2, st2⟩ := io_state s' e1 ex0 fr (ob2.keep kb rfl)
          refine z v H2 (st.trans st2) ⟨s2, ?_⟩
          have kc : Keeps (Tot O S' σ) (Tot O (S'.set i (.own io false p1)) σ) H2 H2 := ⟨fun y hy => tk2 y ((eqT y).mpr hy), fun _ _ _ h => h, fun y u n _ z => n (z.imp id (st2.sub y)), fun _ _ h => h⟩
          exact (rp.keep kb).keep kc
      · exact z.elim
  · exact z.elim
end
end Den
set_option Elab.async false
set_option linter.all false
set_option maxRecDepth 100000
set_option maxHeartbeats 800000
/-! Den30: looks at names; enumerate, zip; what the printer uses. -/
namespace Den
open PySem L2 PyProof.Rows
def visB (c : Cs) (x : Str) : Bool := match c.sc.names.lookup x with
  | some .local => true
  | some .cell => true
  | some .free => true
  | _ => false
theorem vs_by {c : Cs} {x : Str} (h : visB c x = true) : Vs c x := by
  unfold visB at h
  split at h
  · rename_i e; exact .inl e
  · rename_i e; exact .inr (.inl e)
  · rename_i e; exact .inr (.inr e)
  · cases h
def locB (c : Cs) (i : Nat) (x : Str) : Bool := decide (c.N[i]? = some x) && match c.sc.names.lookup x with
  | some .local => true
  | some .cell => c.fn x
  | _ => false
theorem loc_by {c : Cs} {i : Nat} {x : Str} (h : locB c i x = true) : LocOk c i x := by
  unfold locB at h
  rw [Bool.and_eq_true, decide_eq_true_eq] at h
  obtain ⟨h1, h⟩ := h
  split at h
  · rename_i e; exact ⟨h1, .inl e, .inr e⟩
  · rename_i e; exact ⟨h1, .inr e, .inl h⟩
  · cases h
def glB (c : Cs) (x : Str) : Bool := match c.sc.names.lookup x with
  | some .globalImplicit => true
  | _ => false
theorem gl_by {c : Cs} {x : Str} (h : glB c x = true) : c.sc.names.lookup x = some .globalImplicit := by
  unfold glB at h
  split at h
  · assumption
  · cases h
def swC (c : Cs) (scope : Scope) (t : Str) (l1 l2 : Nat) : Bool := (if c.sc.kind.isAnnotationScope then ScopeKind.function else c.sc.kind) == .function && c.sc.names.lookup t == some .local && l1 == l2 && !(scope.names.any fun (n, k) => n == t && (k == .local || k == .cell))
theorem sw_lc {c : Cs} {elt : Expr} {gens : List Comprehension} {scope : Scope} {pos px : Pos} {t : Str} {ln : Nat} {b : Bool} (h : swC c scope t px.line pos.line = b) : ∀ env, env.scope = c.sc → swapsWith (.ListComp elt gens scope pos) (some (.Name t px)) ln env = pure b := fun env he => by
  subst h
  unfold swapsWith Env.blockKind Env.kindOf swC
  rw [he]
  rfl
theorem sw_dc {c : Cs} {elt vx : Expr} {gens : List Comprehension} {scope : Scope} {pos px : Pos} {t : Str} {ln : Nat} {b : Bool} (h : swC c scope t px.line pos.line = b) : ∀ env, env.scope = c.sc → swapsWith (.DictComp elt vx gens scope pos) (some (.Name t px)) ln env = pure b := fun env he => by
  subst h
  unfold swapsWith Env.blockKind Env.kindOf swC
  rw [he]
  rfl
section
variable {G : Wd} {c : Cs} {k k' : Nat} {W : WX} {O : Addr → Prop} {σ σ' σ1 σ2 : L2.St} {S S0 S1 S2 S3 S' Si : AS} {H H0 H1 H2 H4 H' : Hp} {X : Cx} {e a b tg o : Expr} {es : List Expr} {pos apos cpos : Pos} {A B C : Opd} {K : PySem.W.Frag} {T T' : Addr → Prop} {vs ix : List Nat}
theorem bi_of {x : Str} {u : Value} (h : glB c x = true) (m : G.mg x = none) (b : bootBuiltins x = some u) (n1 : x ≠ Str.ofString "__name__") (n2 : (x == ("__debug__" : Str)) = false) : Bi G c x u := ⟨gl_by h, m, b, n1, n2⟩
theorem se_globI {x : Str} {i : Int} (h : ∃ t, G.mg x = some (.int i t)) (hg : glB c x = true) (hd : (x == ("__debug__" : Str)) = false) : SE G c k (.Name x pos) (dC (.int i)) := by
  obtain ⟨t, h⟩ := h
  exact se_glob (v := .int i) (gl_by hg) h ⟨t, rfl⟩ (fun _ _ => .int _) hd
theorem se_globS {x y : Str} (h : ∃ t, G.mg x = some (.str y t)) (hg : glB c x = true) (hd : (x == ("__debug__" : Str)) = false) : SE G c k (.Name x pos) (dC (.str y)) := by
  obtain ⟨t, h⟩ := h
  exact se_glob (v := .str y) (gl_by hg) h ⟨t, rfl⟩ (fun _ _ => .str _) hd
theorem o_eq : ∀ X, Good G c k X → OpR X (compareOp .Eq) (rP2 G.K eqP) := fun X g => by obtain ⟨rfl, _, _, _, _, hr, _⟩ := g; exact op_eqP hr
theorem o_ne : ∀ X, Good G c k X → OpR X (compareOp .NotEq) (rP2 G.K neP) := fun X g => by obtain ⟨rfl, _, _, _, _, hr, _⟩ := g; exact op_neP hr
theorem o_lt : ∀ X, Good G c k X → OpR X (compareOp .Lt) (rP2 G.K ltP) := fun X g => by obtain ⟨rfl, _, _, _, _, hr, _⟩ := g; exact op_ltP hr
theorem o_gt : ∀ X, Good G c k X → OpR X (compareOp .Gt) (rP2 G.K gtP) := fun X g => by obtain ⟨rfl, _, _, _, _, hr, _⟩ := g; exact op_gtP hr
theorem o_le : ∀ X, Good G c k X → OpR X (compareOp .LtE) (rP2 G.K leP) := fun X g => by obtain ⟨rfl, _, _, _, _, hr, _⟩ := g; exact op_leP hr
theorem o_ge : ∀ X, Good G c k X → OpR X (compareOp .GtE) (rP2 G.K geP) := fun X g => by obtain ⟨rfl, _, _, _, _, hr, _⟩ := g; exact op_geP hr
theorem o_in : ∀ X, Good G c k X → OpR X (compareOp .In) (rP2 G.K inDP) := fun X g => by obtain ⟨rfl, _, _, _, _, hr, _⟩ := g; exact op_inDP hr
theorem o_ni : ∀ X, Good G c k X → OpR X (compareOp .NotIn) (rP2 G.K niDP) := fun X g => by obtain ⟨rfl, _, _, _, _, hr, _⟩ := g; exact op_niDP hr
theorem o_isN : ∀ X, Good G c k X → OpR X (compareOp .Is) (rP2 G.K isNP) := fun X g => by obtain ⟨rfl, _⟩ := g; exact op_isNP
theorem o_notN : ∀ X, Good G c k X → OpR X (compareOp .IsNot) (rP2 G.K notNP) := fun X g => by obtain ⟨rfl, _⟩ := g; exact op_notNP
/-! enumerate, zip -/
def dEnum (A : Opd) : DI := fun S => match evI A S with
  | .ok (.lst l, lk) S' => .ok (enumP 0 l, lk) S'
  | .exc x p S' => .exc x p S'
  | _ => .bad
theorem enum_go {R : It → Hp → Prop} (z : tItr G W (dEnum A) σ H R) : iEnum G.K (tOpds G W [A]) σ H R := by
  obtain ⟨O, S, s, z⟩ := z
  unfold dEnum at z
  show tOpd G W A σ H (fun v H1 => ∃ a xs, [v] = [V.ref a] ∧ SqL G.K H1 a xs ∧ R (Ite G.K a) H1)
  cases e : evI A S with
  | bad => simp only [e] at z; exact z.elim
  | exc x p S' => simp only [e] at z; exact held_opd s (by rw [e]; exact z)
  | ok r S' =>
    obtain ⟨p, lk⟩ := r
    simp only [e] at z
    cases p with
    | lst l =>
      simp only at z
      refine held_opd s ?_
      rw [e]
      intro v H' st s' hd
      obtain ⟨a, la, rfl, ob, hl⟩ := held_list s' hd
      have str := strm_enum hl
      obtain ⟨vs, h1, _⟩ := hl _ H' (.refl s'.tok) (fun q hq => by
        obtain ⟨i, io, e1, e2⟩ := ob q hq
        obtain ⟨b, e3, _, r⟩ := s'.own i io true _ e1
        rw [e2] at e3; cases e3; exact r)
      exact ⟨a, vs, rfl, .inl (.inl h1), z _ H' la st s' ⟨ob, evI_nl e⟩ str⟩
    | tup l => simp only at z; exact z.elim
    | str l => simp only at z; exact z.elim
    | dct l => simp only at z; exact z.elim
    | non => simp only at z; exact z.elim
    | bl b => simp only at z; exact z.elim
    | int b => simp only at z; exact z.elim
theorem si_enum {elts : List Expr} {kk : Nat} {tpos p : Pos} (b : Bi G c "enumerate" (.type "enumerate")) (ha : SO G c k e A) (hs : ∀ env, starEach [e] env = [(false, eval e env)] := by intro _; rfl) : SI G c k (.Tuple elts kk tpos) (.Call (.Name "enumerate" p) [e] [] pos) (dEnum A) := fun X W g tk => by
  have h := ha X W g tk
  obtain ⟨rfl, _, hsc, _⟩ := g
  exact pi_of (pi_enum (show X.env.scope.names.lookup ("enumerate" : Str) = some .globalImplicit by rw [hsc]; exact b.gl) b.mg (pa_cons h pa_nil (hs _)) (hs _)) fun σ H R z => enum_go z
theorem Held.keep {v : V} {p : PV} {lk : List Nat} (h : Held K O S1 σ H1 v p lk) (s1 : SRel K O S1 σ H1) (st : Step O S1 S2 σ H1 H2) : Held K O S2 σ H2 v p lk := by
  rcases h with ⟨rfl, r⟩ | ⟨i, io, a, l, e1, e2, rfl, rfl⟩
  · exact .inl ⟨rfl, r.keep (st.keeps s1)⟩
  · exact .inr ⟨i, io, a, l, st.lk i io _ e1, e2, rfl, rfl⟩
def dZip (A B : Opd) : DI := fun S => match evI A S with
  | .ok (p, lk) S1 => match evI B S1 with
    | .ok (q, lk') S2 => match p, q with
      | .lst l, .lst m => .ok (zipP l m, lk ++ lk') S2
      | .tup l, .tup m => .ok (zipP l m, lk ++ lk') S2
      | _, _ => .bad
    | .exc x p S' => .exc x p S'
    | .bad => .bad
  | .exc x p S' => .exc x p S'
  | .bad => .bad
theorem Strm.more {J : It} {l : List PV} {la la' : List (Addr × List PV)} (h : Strm K T H J l la) (hs : ∀ q ∈ la, q ∈ la') : Strm K T H J l la' := fun T' H' tk kp hl => h T' H' tk kp fun q hq => hl q (hs q hq)
theorem zip_go {R : It → Hp → Prop} (z : tItr G W (dZip A B) σ H R) : RZ.iZipA G.K (tOpds G W [A, B]) σ H R := by
  obtain ⟨O, S, s, z⟩ := z
  unfold dZip at z
  show tOpd G W A σ H (fun v H1 => tOpd G W B σ H1 (fun w H2 => ∃ a b xs ys, [v, w] = [V.ref a, V.ref b] ∧ (SqL G.K H2 a xs ∧ SqL G.K H2 b ys ∧ R (Itz G.K a b) H2 ∨ SqT G.K H2 a xs ∧ SqT G.K H2 b ys ∧ R (RZ.ItzT G.K a b) H2)))
  refine held_opd s ?_
  cases e : evI A S with
  | bad => simp only [e] at z; exact z.elim
  | exc x p S' => simp only [e] at z; exact z
  | ok r S1 =>
    obtain ⟨p, lk⟩ := r
    simp only [e] at z
    intro v H1 st1 s1 hd1
    refine held_opd s1 ?_
    cases e2 : evI B S1 with
    | bad => simp only [e2] at z; exact z.elim
    | exc x p S' => simp only [e2] at z; exact fun cls dd H' st' s' ex => z cls dd H' (st1.trans st') s' ex
    | ok r S2 =>
      obtain ⟨q, lk'⟩ := r
      simp only [e2] at z
      intro w H2 st2 s2 hd2
      have hd1' := hd1.keep s1 st2
      have nl : ∀ i ∈ lk ++ lk', ∀ io q, S[i]? ≠ some (.own io true q) := fun i hi io q h => by
        rcases List.mem_append.mp hi with hi | hi
        · exact evI_nl e i hi io q h
        · exact evI_nl e2 i hi io q (st1.lk i io q h)
      split at z
      · rename_i l m
        obtain ⟨a, la, rfl, ob, hl⟩ := held_list s2 hd1'
        obtain ⟨b, lb, rfl, ob', hl'⟩ := held_list s2 hd2
        have obs : ∀ q ∈ la ++ lb, ∃ (i : Nat) (io : Bool), S2[i]? = some (.own io true (.lst q.2)) ∧ σ[i]? = some (some (.ref q.1)) := fun q hq => (List.mem_append.mp hq).elim (ob q) (ob' q)
        have fa : ∀ T' H', Keeps (Tot O S2 σ) T' H2 H' → (∀ q ∈ la ++ lb, ObR G.K T' H' q.1 (.lst q.2)) → ∃ vs, H' a = some (.lst vs) ∧ RepL G.K T' H' vs l := fun T' H' kp h => hl T' H' kp fun q hq => h q (List.mem_append_left _ hq)
        have fb : ∀ T' H', Keeps (Tot O S2 σ) T' H2 H' → (∀ q ∈ la ++ lb, ObR G.K T' H' q.1 (.lst q.2)) → ∃ vs, H' b = some (.lst vs) ∧ RepL G.K T' H' vs m := fun T' H' kp h => hl' T' H' kp fun q hq => h q (List.mem_append_right _ hq)
        have now : ∀ q ∈ la ++ lb, ObR G.K (Tot O S2 σ) H2 q.1 (.lst q.2) := fun q hq => by
          obtain ⟨i, io, e1, e2⟩ := obs q hq
          obtain ⟨b, e3, _, r⟩ := s2.own i io true _ e1
          rw [e2] at e3; cases e3; exact r
        obtain ⟨vs, h1, _⟩ := fa _ H2 (.refl s2.tok) now
        obtain ⟨ws, h2, _⟩ := fb _ H2 (.refl s2.tok) now
        exact ⟨a, b, vs, ws, rfl, .inl ⟨.inl (.inl h1), .inl (.inl h2), z _ H2 (la ++ lb) (st1.trans st2) s2 ⟨obs, nl⟩ (strm_zip fa fb)⟩⟩
      · rename_i l m
        obtain ⟨a, rfl, hl⟩ := held_tup hd1'
        obtain ⟨b, rfl, hl'⟩ := held_tup hd2
        obtain ⟨vs, h1, _⟩ := hl _ H2 (.refl s2.tok)
        obtain ⟨ws, h2, _⟩ := hl' _ H2 (.refl s2.tok)
        exact ⟨a, b, vs, ws, rfl, .inr ⟨.inl (.inl h1), .inl (.inl h2), z _ H2 [] (st1.trans st2) s2 ⟨fun q hq => by simp at hq, nl⟩ (strm_zipT hl hl')⟩⟩
      · exact z.elim
theorem si_zip {elts : List Expr} {kk : Nat} {tpos p : Pos} {e2 : Expr} (b : Bi G c "zip" (.type "zip")) (ha : SO G c k e A) (hb : SO G c k e2 B) (hs : ∀ env, starEach [e, e2] env = (false, eval e env) :: starEach [e2] env := by intro _; rfl) (hs2 : ∀ env, starEach [e2] env = (false, eval e2 env) :: starEach [] env := by intro _; rfl) (hpl : BackOk pos [e2] := by intro _; rfl) : SI G c k (.Tuple elts kk tpos) (.Call (.Name "zip" p) [e, e2] [] pos) (dZip A B) := fun X W g tk => by
  have h := ha X W g tk
  have h' := hb X W g tk
  obtain ⟨rfl, _, hsc, _⟩ := g
  exact pi_of (RZ.pi_zipA (show X.env.scope.names.lookup ("zip" : Str) = some .globalImplicit by rw [hsc]; exact b.gl) b.mg (pa_cons h (pa_cons h' pa_nil (hs2 _)) (hs _)) (hs _) (hpl _)) fun σ H R z => zip_go z
end
end Den
set_option Elab.async false
set_option linter.all false
set_option maxRecDepth 100000
set_option maxHeartbeats 800000
/-! Den31: several names set at once. -/
namespace Den
open PySem L2 PyProof.Rows
def dPars : List (Nat × (AS → R RV)) → AS → RS
  | [], S => .next S
  | (i, d) :: r, S => match d S with
    | .ok rv S1 => match dPars r S1 with
      | .next S2 => match putS i rv S2 with
        | some S3 => .next S3
        | none => .bad
      | _ => .bad
    | _ => .bad
def bkC (c : Cs) : ScopeKind := if c.sc.kind.isAnnotationScope then ScopeKind.function else c.sc.kind
def stC (c : Cs) (ts vs : List Expr) : Option (Option (List Str)) :=
  if (!(ts.length == 2 || ts.length == 3) || vs.length != ts.length || bkC c != .function) = true then some none
  else if (vs.any fun | .Starred .. => true | _ => false) = true then some none
  else if ((ts.filterMap fun
      | .Name id pos => if (c.sc.names.lookup id == some .local && pos.line == (ts.head?.map (·.pos.line)).getD 0) = true then some id else none
      | _ => none).length != ts.length || (ts.filterMap fun
      | .Name id pos => if (c.sc.names.lookup id == some .local && pos.line == (ts.head?.map (·.pos.line)).getD 0) = true then some id else none
      | _ => none).eraseDups.length != (ts.filterMap fun
      | .Name id pos => if (c.sc.names.lookup id == some .local && pos.line == (ts.head?.map (·.pos.line)).getD 0) = true then some id else none
      | _ => none).length) = true then some none
  else if (vs.all (foldedForSure 8)) = true then some none
  else if (vs.all (constantsAlone 8)) = true then none
  else some (some (ts.filterMap fun
      | .Name id pos => if (c.sc.names.lookup id == some .local && pos.line == (ts.head?.map (·.pos.line)).getD 0) = true then some id else none
      | _ => none))
theorem st_by {c : Cs} {ts vs : List Expr} {k1 k2 : Nat} {p1 p2 : Pos} {r : Option (List Str)} (h : stC c ts vs = some r) : ∀ env, env.scope = c.sc → swappedStores [.Tuple ts k1 p1] (.Tuple vs k2 p2) env = pure r := fun env he => by
  have hb : env.blockKind = bkC c := by unfold Env.blockKind bkC; rw [he]
  have hk : ∀ x, env.kindOf x = c.sc.names.lookup x := fun x => by unfold Env.kindOf; rw [he]
  unfold stC at h
  unfold swappedStores
  simp only [hb, hk]
  by_cases h1 : (!(ts.length == 2 || ts.length == 3) || vs.length != ts.length || bkC c != .function) = true
  · rw [if_pos h1] at h
    cases h
    rw [if_pos h1]
  · rw [if_neg h1] at h
    rw [if_neg h1]
    split at h
    · rename_i h2
      cases h
      exact if_pos h2
    · rename_i h2
      refine (if_neg h2).trans ?_
      split at h
      · rename_i h3
        cases h
        exact if_pos h3
      · rename_i h3
        refine (if_neg h3).trans ?_
        split at h
        · rename_i h4
          cases h
          exact if_pos h4
        · rename_i h4
          refine (if_neg h4).trans ?_
          split at h
          · cases h
          · rename_i h5
            cases h
            exact if_neg h5
theorem dPars_two : ∀ (l : List (Nat × (AS → R RV))) (S : AS), (∃ S', dPars l S = .next S') ∨ dPars l S = .bad
  | [], S => .inl ⟨S, rfl⟩
  | (i, d) :: r, S => by
    unfold dPars
    split
    · split
      · split
        · exact .inl ⟨_, rfl⟩
        · exact .inr rfl
      · exact .inr rfl
    · exact .inr rfl
section
variable {G : Wd} {c : Cs} {k k' : Nat} {W : WX} {O : Addr → Prop} {σ σ' σ1 σ2 : L2.St} {S S0 S1 S2 S3 S' Si : AS} {H H0 H1 H2 H4 H' : Hp} {X : Cx} {e a b tg o : Expr} {es : List Expr} {pos apos cpos : Pos} {A B C : Opd} {K : PySem.W.Frag} {T T' : Addr → Prop} {vs ix : List Nat}
def setAll (σ : L2.St) : List Nat → List V → L2.St
  | i :: is, v :: vs => (setAll σ is vs).set i (some v)
  | _, _ => σ
theorem pars_go : ∀ (l : List (Nat × (AS → R RV))) (O : Addr → Prop) (S S' : AS) (H : Hp) (Q : List V → Hp → Prop), SRel G.K O S σ H → dPars l S = .next S' →
    (∀ vs H', vs.length = l.length → (∀ H'', Ext H' H'' → SRel G.K O S' (setAll σ (l.map (·.1)) vs) H'' ∧ StepS O S S' σ (setAll σ (l.map (·.1)) vs) H H'') → Q vs H') → tSems G W (l.map (·.2)) σ H Q
  | [], O, S, S', H, Q, s, e, h => by
    cases e
    exact h [] H rfl fun H'' ex => ⟨s.ext ex, (Step.ext ex s).s⟩
  | (i, d) :: r, O, S, S', H, Q, s, e, h => by
    unfold dPars at e
    split at e
    · rename_i rv S1 e1
      split at e
      · rename_i S2 e2
        cases e3 : putS i rv S2 with
        | none => simp only [e3] at e; cases e
        | some S3 =>
          simp only [e3] at e
          cases e
          show tSem G W d σ H _
          refine sem_of s ?_
          rw [e1]
          intro v H1 st1 res
          unfold putS at e3
          split at e3
          · rename_i hf
            cases rv with
            | val p =>
              simp only [Option.some.injEq] at e3
              subst e3
              obtain ⟨s1, rp⟩ := res
              refine pars_go r O S1 S2 H1 _ s1 e2 fun vs H' hl fin => h (v :: vs) H' (by simp [hl]) fun H'' ex => ?_
              obtain ⟨s2, st2⟩ := fin H'' ex
              obtain ⟨s3, st3⟩ := s2.setVal hf (rp.keep (st2.keeps s1))
              exact ⟨s3, (st1.s.trans st2).trans st3⟩
            | fresh p =>
              simp only [Option.some.injEq] at e3
              subst e3
              obtain ⟨x, rfl, hn, s1, ob⟩ := res
              refine pars_go r (Oadd O x) S1 S2 H1 _ s1 e2 fun vs H' hl fin => h (.ref x :: vs) H' (by simp [hl]) fun H'' ex => ?_
              obtain ⟨s2, st2⟩ := fin H'' ex
              obtain ⟨s3, st3⟩ := SRel.setOwn (S0 := S) s2 hf (s.ot.none hn) (ob.keep (st2.keeps s1) (st2.oo x (.inr rfl)))
              exact ⟨s3, st3 H σ hn (st1.s.trans (st2.shr fun x h => .inl h))⟩
          · cases e3
      · cases e
    · cases e
theorem setAll_comm {i : Nat} {v : Option V} : ∀ {is : List Nat} {vs : List V} {τ : L2.St}, i ∉ is → setAll (τ.set i v) is vs = (setAll τ is vs).set i v
  | [], _, _, _ => rfl
  | _ :: _, [], _, _ => rfl
  | j :: is, w :: vs, τ, h => by
    rw [setAll, setAll, setAll_comm (fun m => h (List.mem_cons_of_mem _ m))]
    exact List.set_comm _ _ (fun e => h (by simp [e]))
/-- two names -/
theorem ss_pars2 {i j : Nat} {x y : Str} {px py pt pt2 : Pos} {kt k2 : Nat} {d1 d2 : AS → R RV} (hi : c.N[i]? = some x) (hj : c.N[j]? = some y) (hij : i ≠ j) (hx : List.lookup x c.sc.names = some NameKind.local) (hy : List.lookup y c.sc.names = some NameKind.local) (ha : SV G c k [a, b] [d1, d2])
    (hw : stC c [.Name x px, .Name y py] [a, b] = some (some [x, y]))
    (hs : ∀ env, swapsWithSole [.Tuple [.Name x px, .Name y py] kt pt] (.Tuple [a, b] k2 pt2) pos.line env = pure false := by intro _; rfl) : SS G c k (.Assign [.Tuple [.Name x px, .Name y py] kt pt] (.Tuple [a, b] k2 pt2) pos) (dPars [(i, d1), (j, d2)]) := fun X W g tk =>
  ps_of (ps_par g.calm (by rw [g.hN]; exact g.nd) (by rw [g.hN]; exact hi) (by rw [g.hN]; exact hj) hij (by rw [g.hs]; exact hx) (by rw [g.hs]; exact hy) (ha X W g tk) (st_by hw _ g.hs) (hs _)) fun D σ H ⟨O, S, s, z⟩ => by
  rcases dPars_two [(i, d1), (j, d2)] S with ⟨S', e⟩ | e
  · rw [e] at z
    refine pars_go [(i, d1), (j, d2)] O S S' H _ s e fun vs H' hl fin => ?_
    match vs, hl with
    | [v, w], _ =>
    obtain ⟨s', st'⟩ := fin H' (fun _ _ e => e)
    refine ⟨v, w, rfl, ?_⟩
    rw [List.set_comm _ _ hij]
    exact z _ _ st' s'
  · rw [e] at z; exact z.elim
/-- three names -/
theorem ss_pars3 {i j l : Nat} {x y w : Str} {px py pw pt pt2 : Pos} {kt k2 : Nat} {d1 d2 d3 : AS → R RV} (hi : c.N[i]? = some x) (hj : c.N[j]? = some y) (hl : c.N[l]? = some w) (hij : i ≠ j) (hil : i ≠ l) (hjl : j ≠ l) (hx : List.lookup x c.sc.names = some NameKind.local) (hy : List.lookup y c.sc.names = some NameKind.local) (hz : List.lookup w c.sc.names = some NameKind.local) (ha : SV G c k [a, b, o] [d1, d2, d3])
    (hw : stC c [.Name x px, .Name y py, .Name w pw] [a, b, o] = some (some [x, y, w]))
    (hs : ∀ env, swapsWithSole [.Tuple [.Name x px, .Name y py, .Name w pw] kt pt] (.Tuple [a, b, o] k2 pt2) pos.line env = pure false := by intro _; rfl) : SS G c k (.Assign [.Tuple [.Name x px, .Name y py, .Name w pw] kt pt] (.Tuple [a, b, o] k2 pt2) pos) (dPars [(i, d1), (j, d2), (l, d3)]) := fun X W g tk =>
  ps_of (ps_par3 g.calm (by rw [g.hN]; exact g.nd) (by rw [g.hN]; exact hi) (by rw [g.hN]; exact hj) (by rw [g.hN]; exact hl) hij hil hjl (by rw [g.hs]; exact hx) (by rw [g.hs]; exact hy) (by rw [g.hs]; exact hz) (ha X W g tk) (st_by hw _ g.hs) (hs _)) fun D σ H ⟨O, S, s, z⟩ => by
  rcases dPars_two [(i, d1), (j, d2), (l, d3)] S with ⟨S', e⟩ | e
  · rw [e] at z
    refine pars_go [(i, d1), (j, d2), (l, d3)] O S S' H _ s e fun vs H' hl fin => ?_
    match vs, hl with
    | [u, v, w], _ =>
    obtain ⟨s', st'⟩ := fin H' (fun _ _ e => e)
    refine ⟨u, v, w, rfl, ?_⟩
    rw [List.set_comm _ _ hij, List.set_comm _ _ hil, List.set_comm _ _ hjl]
    exact z _ _ st' s'
  · rw [e] at z; exact z.elim
/-! names as the places of a tuple that is made and taken apart -/
def setL (σ : L2.St) : List Nat → List V → L2.St
  | i :: is, v :: vs => setL (σ.set i (some v)) is vs
  | _, _ => σ
theorem setL_all : ∀ {is : List Nat} {vs : List V} {τ : L2.St}, is.Nodup → setL τ is vs = setAll τ is vs
  | [], _, _, _ => rfl
  | _ :: _, [], _, _ => rfl
  | i :: is, v :: vs, τ, h => by
    rw [setL, setAll, setL_all (List.nodup_cons.mp h).2, setAll_comm (List.nodup_cons.mp h).1]
/-- the names at their places -/
inductive Nms (c : Cs) : List Expr → List Nat → Prop where
  | nil : Nms c [] []
  | cons {i : Nat} {x : Str} {p : Pos} {es : List Expr} {is : List Nat} (h : LocOk c i x) (r : Nms c es is) : Nms c (.Name x p :: es) (i :: is)
def gNs : List Nat → TGs
  | [] => gNil
  | i :: is => gCons (gName i) (gNs is)
theorem gNs_set : ∀ {is : List Nat} {vs : List V} {σ : L2.St} {Q : L2.St → Hp → Prop}, vs.length = is.length → Q (setL σ is vs) H → gNs is vs σ H Q
  | [], [], σ, Q, _, q => ⟨rfl, q⟩
  | i :: is, v :: vs, σ, Q, hl, q => ⟨v, vs, rfl, gNs_set (by simpa using hl) q⟩
  | [], _ :: _, _, _, hl, _ => by simp at hl
  | _ :: _, [], _, _, hl, _ => by simp at hl
theorem nms_pgs (g : Good G c k X) : ∀ {ts : List Expr} {is : List Nat}, Nms c ts is → PGs X ts (gNs is)
  | _, _, .nil => pgs_nil
  | _, _, .cons ⟨h1, h2, h3⟩ r => pgs_cons (pg_name (by rw [g.hN]; exact g.nd) (by rw [g.hN]; exact h1) (by rw [g.hs]; exact h2) (by rw [g.hs, g.hf]; exact h3)) (nms_pgs g r) rfl
theorem ss_parsT {ts vs' : List Expr} {kt k2 : Nat} {pt pt2 : Pos} {l : List (Nat × (AS → R RV))} (hn : Nms c ts (l.map (·.1))) (hnd : (l.map (·.1)).Nodup) (ha : SV G c k vs' (l.map (·.2))) (hll : l.length ≤ 1000)
    (hw : stC c ts vs' = some none) (hs : ∀ env, swapsWithSole [.Tuple ts kt pt] (.Tuple vs' k2 pt2) pos.line env = pure false := by intro _; rfl)
    (h1 : ∀ env, (assignEach ts env).length = l.length := by intro _; rfl) (h2 : ∀ env, List.findIdx? (fun x => x.fst) (assignEach ts env) = none := by intro _; rfl)
    (h3 : ∀ env, List.map (fun x => x.snd) (assignEach [.Tuple ts kt pt] env) = [assign (.Tuple ts kt pt) env] := by intro _; rfl) : SS G c k (.Assign [.Tuple ts kt pt] (.Tuple vs' k2 pt2) pos) (dPars l) := fun X W g tk => by
  have hX : X.K = G.K := by obtain ⟨rfl, _⟩ := g; rfl
  refine ps_of (ps_asg (pe_tup (ha X W g tk)) (pg_tup g.calm (nms_pgs g hn) (h1 _) (h2 _)) (hs _) (st_by hw _ g.hs) (h3 _)) fun D σ H ⟨O, S, s, z⟩ => ?_
  rcases dPars_two l S with ⟨S', e⟩ | e
  · rw [e] at z
    refine pars_go l O S S' H _ s e fun vs H' hl fin => ⟨by rw [hl, sizeLine_eq]; omega, fun p hp => ?_⟩
    refine ⟨p, vs, rfl, .inl (.inl upd_same), hl, gNs_set (by rw [hl, List.length_map]) ?_⟩
    obtain ⟨s', st'⟩ := fin _ (Ext.new (o := .tup vs) hp)
    rw [setL_all hnd]
    exact z _ _ st' s'
  · rw [e] at z; exact z.elim
end
end Den
set_option Elab.async false
set_option linter.all false
set_option maxRecDepth 100000
set_option maxHeartbeats 800000
/-! Den32: a dict comprehension set to a local name; ranges downwards; turned lists; tuples repeated. -/
namespace Den
open PySem L2 PyProof.Rows
theorem ps_setDc {X : Cx} {i : Nat} {y : Str} {py : Pos} {kx vx tg iter : Expr} {ifs : List Expr} {scope : Scope} {own : List (Str × Nat)} {pos spos : Pos} {wi : TI} {g : TG} {tt : L2.TT} {tk tv : TE} (hc : X.calm = true) (hN : X.N.Nodup) (hy : X.N[i]? = some y) (hyl : X.env.scope.names.lookup y = some .local)
    (hsw : swapsWith (.DictComp kx vx [⟨tg, iter, ifs, 0⟩] scope pos) (some (.Name y py)) spos.line X.env = pure true) (hi : PI X tg iter wi) (ok : BlkOk X.N X.env.scope scope own)
    (hg : ∀ (s : Shared) (H : Hp) (C : Addr) (cl : List (Str × Addr)) (fp : List Addr), PG (X.blk s H scope (compEnvC scope cl C X.env) fp) tg g) (ht : ∀ (s : Shared) (H : Hp) (C : Addr) (cl : List (Str × Addr)) (fp : List Addr), PTs (X.blk s H scope (compEnvC scope cl C X.env) fp) ifs tt)
    (hk : ∀ (s : Shared) (H : Hp) (C : Addr) (cl : List (Str × Addr)) (fp : List Addr), PE (X.blk s H scope (compEnvC scope cl C X.env) fp) kx tk)
    (he : ∀ (s : Shared) (H : Hp) (C : Addr) (cl : List (Str × Addr)) (fp : List Addr), PE (X.blk s H scope (compEnvC scope cl C X.env) fp) vx tv) (hs : ∀ x, foldedSetIterable iter X.env x = pure x) :
    PS X (.Assign [.Name y py] (.DictComp kx vx [⟨tg, iter, ifs, 0⟩] scope pos) spos) (tAsg (tDc wi g tt tk tv (own.map (·.2))) (gName i)) := by
  refine ⟨fun pins s σ H D I h => ?_⟩
  rw [exec_Assign_Name_used _ _ _ _ hsw]
  refine wpAny_bind (wpAny_standAt (wpAny_bind ?_))
  show wpAny _ X.A (do let _ ← comprehension (.DictComp kx vx [⟨tg, iter, ifs, 0⟩] scope pos) scope X.env (firstIterPos [⟨tg, iter, ifs, 0⟩] pos) newDict false (eval iter X.env) (some (assign (.Name y py) X.env))) _ _ s
  have h : tDc wi g tt tk tv (own.map (·.2)) σ H (fun x H1 => gName i x σ H1 D.nx) := h
  refine wpAny_bind (thn (dc_core (Qf := fun _ s' => SP X pins D .next s') hc hN I hi ok hg ht hk he hs h fun L C s' m H' I' q hn f => ?_) fun _ s' hq => wpAny_pure (wpAny_pure hq))
  show wpAny _ _ (assign (.Name y py) X.env (.ref L)) _ _ _
  refine wpAny_assign_Name (store_ok2 (v := V.ref L) I' hN hy (.inl hyl) rfl (fun s2 I2 ⟨a, sb, ha⟩ => ?_) (.inr hyl))
  obtain ⟨f0, f1, f2, f3, f4, f5⟩ := f
  have haC : C ≠ a := by
    rcases ha with z | z
    · rw [z]; exact f1
    · exact fun e => f4 y a z e.symm
  refine ⟨m, hn.sameBut sb haC, fun h3 sb3 => ?_⟩
  exact ⟨_, H', I2.turned (t' := s2.toks) (fun b o hb e => (sb3.2 b hb).trans e) f0 f1 f3 f4 f5, q⟩
section
variable {G : Wd} {c : Cs} {k k' : Nat} {W : WX} {O : Addr → Prop} {σ σ' σ1 σ2 : L2.St} {S S0 S1 S2 S3 S' Si : AS} {H H0 H1 H2 H4 H' : Hp} {X : Cx} {e a b tg o : Expr} {es : List Expr} {pos apos cpos : Pos} {A B C : Opd} {K : PySem.W.Frag} {T T' : Addr → Prop} {vs ix : List Nat}
theorem ss_setDc {i : Nat} {y : Str} {py spos : Pos} {kx vx iter : Expr} {ifs : List Expr} {scope : Scope} {own : List (Str × Nat)} {it : DI} {t : Tg} {test : AS → R Bool} {d1 d2 : AS → R RV} (h1 : c.N[i]? = some y) (h2 : List.lookup y c.sc.names = some NameKind.local)
    (hsw : ∀ env, env.scope = c.sc → swapsWith (.DictComp kx vx [{ target := tg, iter := iter, ifs := ifs, is_async := 0 }] scope pos) (some (.Name y py)) spos.line env = pure true)
    (hb : blkC c.N c.sc scope own = true) (hi : SI G c k tg iter it) (hg : SG G (inC c scope) k tg t) (ht : SPt G (inC c scope) k ifs test) (hk : SE G (inC c scope) k kx d1) (hv : SE G (inC c scope) k vx d2)
    (hsub : ∀ i ∈ tgIx t, i ∈ own.map (·.2)) (hf : FoldOk iter := by intro _ _; rfl) : SS G c k (.Assign [.Name y py] (.DictComp kx vx [{ target := tg, iter := iter, ifs := ifs, is_async := 0 }] scope pos) spos) (dSet i (dDc it t test d1 d2 (own.map (·.2)))) := fun X W g tk => by
  refine ps_of (ps_setDc g.calm (by rw [g.hN]; exact g.nd) (by rw [g.hN]; exact h1) (by rw [g.hs]; exact h2) (hsw _ g.hs) (hi X W g tk) (by rw [g.hN, g.hs]; exact blkOk_by hb) (fun s H C cl fp => hg _ (good_blk g s H C cl fp)) (fun s H C cl fp => ht _ W0 (good_blk g s H C cl fp) (takes0 _)) (fun s H C cl fp => hk _ W0 (good_blk g s H C cl fp) (takes0 _)) (fun s H C cl fp => hv _ W0 (good_blk g s H C cl fp) (takes0 _)) (hf _)) fun D σ H z => dc_go hsub (set_go z)
/-! range(i, j, -1) -/
def dRng3 (A B C : Opd) : DI := fun S => match evs [A, B, C] S with
  | .ok [.int i, .int j, .int (-1)] S' => if small i && small j then .ok (rngP i (-1) (i - j).toNat, []) S' else .bad
  | .exc x p S' => .exc x p S'
  | _ => .bad
theorem prl3 {ws : List V} {p q r : PV} (h : PRepL K T H ws [p, q, r]) : ∃ v w u, ws = [v, w, u] ∧ PRep K T H v p ∧ PRep K T H w q ∧ PRep K T H u r := by
  match ws with
  | [] => exact h.elim
  | [v] => exact h.2.elim
  | [v, w] => exact h.2.2.elim
  | [v, w, u] => exact ⟨v, w, u, rfl, h.1, h.2.1, h.2.2.1⟩
  | _ :: _ :: _ :: _ :: _ => exact h.2.2.2.elim
theorem rng3_go {R : It → Hp → Prop} (z : tItr G W (dRng3 A B C) σ H R) : iRng3 (tOpds G W [A, B, C]) σ H R := by
  obtain ⟨O, S, s, z⟩ := z
  unfold dRng3 at z
  cases e : evs [A, B, C] S with
  | bad => simp only [e] at z; exact z.elim
  | exc x p S' => simp only [e] at z; exact opds_exc s e z
  | ok ps S' =>
    simp only [e] at z
    split at z
    · rename_i i j S2 ee
      cases ee
      split at z
      · rename_i hs
        refine opds_run s e fun vs H' st s' rl => ?_
        obtain ⟨v, w, u, rfl, h1, h2, h3⟩ := prl3 rl
        obtain rfl : v = .int i := h1
        obtain rfl : w = .int j := h2
        obtain rfl : u = .int (-1) := h3
        simp only [small, Bool.and_eq_true, decide_eq_true_eq] at hs
        exact ⟨i, j, -1, _, rfl, RgC.neg hs.1.1 hs.1.2 hs.2.1 hs.2.2, z _ H' [] st s' ⟨fun q hq => by simp at hq, fun i hi => by simp at hi⟩ strm_rngC⟩
      · exact z.elim
    · rename_i heq; cases heq
    · exact z.elim
theorem si_rng3 {p : Pos} {e2 e3 : Expr} (b : Bi G c "range" (.type "range")) (ha : SA G c k [e, e2, e3] [A, B, C]) (hs : ∀ env, starEach [e, e2, e3] env = (false, eval e env) :: starEach [e2, e3] env := by intro _; rfl) (hpl : BackOk pos [e2, e3] := by intro _; rfl) : SI G c k tg (.Call (.Name "range" p) [e, e2, e3] [] pos) (dRng3 A B C) := fun X W g tk => by
  have h := ha X W g tk
  obtain ⟨rfl, _, hsc, _⟩ := g
  exact pi_of (pi_range3 (show X.env.scope.names.lookup ("range" : Str) = some .globalImplicit by rw [hsc]; exact b.gl) b.mg h (hs _) (hpl _)) fun σ H R z => rng3_go z
/-! x[::-1] of a list -/
def revP : List PV → Option RV
  | [.lst l] => some (.fresh (.lst l.reverse))
  | _ => none
theorem se_rev {kk : Nat} {p1 p2 p3 : Pos} (ha : SO G c k a A) : SE G c k (.Subscript a (.Slice none none (some (.UnaryOp .USub (.Constant (.int 1) kk p1) p2)) p3) pos) (dOp revP [A]) := fun X W g tk => by
  have ha' := ha X W g tk
  obtain ⟨rfl, _⟩ := g
  refine pe_of (pe_revL ha') fun σ H Q z => ?_
  have z : tOpd (wd X) W A σ H (fun x H1 => rP X.K revP [x] H1 Q) := sem_rP (ops := [A]) z
  refine mono_opd z fun y H1 ⟨T, ps, rv, t, hp, hg, q⟩ => ?_
  unfold revP at hg
  split at hg
  · cases hg
    obtain ⟨⟨a, xs, rfl, h1, r⟩, _⟩ := hp
    exact ⟨a, xs, rfl, .inl (.inl h1), fun p hp => q _ _ (Ext.new hp) (fin_lst t hp r.reverse)⟩
  · cases hg
end
end Den
set_option Elab.async false
set_option linter.all false
set_option maxRecDepth 100000
set_option maxHeartbeats 800000
/-! Den33: a law's own def: draw = [script[:63], 0, 0], then the rest. -/
namespace Den
open PySem L2 PyProof.Rows
/-- what the law's def promises: for a script of at most 63 ints, True -/
def spLaw (K : PySem.W.Frag) : Sp := fun vs H Q _ => ∃ (a : Addr) (ns : List Int), vs = [.ref a] ∧ SqL K H a (ns.map V.int) ∧ ns.length ≤ 63 ∧ (∀ z ∈ ns, Builtin.Int.intBits z ≤ 1048576) ∧ ∀ H', Q (.bl true) H'
/-- the places at the law's second statement -/
def lawS (n i : Nat) (ns : List Int) : AS := (List.replicate n Slot.un).set i (.own false false (.lst [.lst (ns.map .int), .int 0, .int 0]))
theorem cut63 {xs : List V} (h : xs.length ≤ 63) : cutV xs none (some 63) = xs := by
  unfold cutV
  have e1 : HT.sIx xs.length 0 none = 0 := rfl
  have e2 : HT.sIx xs.length xs.length (some 63) = min 63 xs.length := HT.sIx_nat xs.length xs.length 63
  rw [e1, e2]
  have : min 63 xs.length = xs.length := by omega
  rw [this]
  simp
theorem repl_intsOf {K : PySem.W.Frag} {T : Addr → Prop} {H : Hp} (ns : List Int) : RepL K T H (ns.map V.int) (ns.map PV.int) := repl_of (fun n => .int n) ns
section
variable {G : Wd} {k : Nat}
theorem fn_law {i : Nat} {st : Stmt} {f : Addr} {fd : FuncData} {N : List Str} {rest : List Stmt} {d : AS → RS} {p1 p2 p3 p4 p5 p6 p7 p8 p9 : Pos} {k1 k2 k3 : Nat} (hf : Fun G.K "law" "law" st f fd) (hs : C8.scC N ["script"] (defScope st) = true)
    (hbody : defBody st = .Assign [.Name "draw" p1] (.List [.Subscript (.Name "script" p2) (.Slice none (some (.Constant (.int 63) k1 p3)) none p4) p5, .Constant (.int 0) k2 p6, .Constant (.int 0) k3 p7] p8) p9 :: rest)
    (h0 : N[(0 : Nat)]? = some ("script" : Str)) (hi : N[i]? = some ("draw" : Str)) (hi0 : i ≠ 0) (hv : visB ⟨N, defScope st, fun _ => true⟩ ("script" : Str) = true) (hl : locB ⟨N, defScope st, fun _ => true⟩ i ("draw" : Str) = true)
    (hrest : SSs G ⟨N, defScope st, fun _ => true⟩ k rest d) (hd : ∀ ns : List Int, ns.length ≤ 63 → ∃ S', d (lawS N.length i ns) = .ret (.bl true) S') :
    FnOk G.P G.w G.K G.mg G.base CX0 (k + 1) f fd ["script"] (spLaw G.K) := by
  have sc := C8.fnScope_by hs
  refine hf.ok sc (fun vs H Q E ⟨a, ns, h, _⟩ => by rw [h]; rfl) fun cdv A outer s H vs Q E room ⟨a, ns, ev, hS, hlen, hbits, q⟩ => ?_
  subst ev
  have g : Good G ⟨N, defScope st, fun _ => true⟩ k (cxOf CX0 G.P G.w G.K G.mg G.base N "law" (defScope st) f cdv A outer s H E).nox := ⟨rfl, rfl, rfl, rfl, rfl, room, sc.nd, PySem.PassesOwn.never⟩
  obtain ⟨l1, l2, l3⟩ := loc_by hl
  rw [hbody]
  refine ⟨_, pss_cons (ps_set (i := i) sc.nd hi l2 (pe_lst (pa_cons (pe_slice sl_list (pe_var h0 (vs_by hv) (by decide +kernel) (by decide +kernel)) po_none (po_some pe_int)) (pa_cons pe_int (pa_cons pe_int pa_nil)))) rfl (.inl rfl)) (hrest _ W0 g (takes0 _)), ?_⟩
  have hst : (L2.start N [V.ref a])[0]? = some (some (V.ref a)) := rfl
  refine ⟨.ref a, hst, 63, rfl, a, ns.map V.int, rfl, hS, fun p hp => ?_⟩
  rw [cut63 (by rw [List.length_map]; exact hlen)]
  refine ⟨by rw [sizeLine_eq]; show 3 ≤ _; decide, fun r hr => ?_⟩
  have hpr : r ≠ p := fun e => by rw [e, upd_same] at hr; cases hr
  have hNl : N.length = (L2.start N [V.ref a]).length := by
    have : 1 ≤ N.length := by
      have := (List.getElem?_eq_some_iff.mp h0).1
      omega
    unfold L2.start
    simp; omega
  have hiN : i < N.length := (List.getElem?_eq_some_iff.mp hi).1
  obtain ⟨S', hd'⟩ := hd ns hlen
  -- the state behind the first statement
  have own1 : ∀ (j : Nat) io lk pv, (lawS N.length i ns)[j]? = some (.own io lk pv) → j = i ∧ io = false ∧ lk = false ∧ pv = .lst [.lst (ns.map .int), .int 0, .int 0] := fun j io lk pv e => by
    unfold lawS at e
    by_cases hj : i = j
    · subst hj
      rw [List.getElem?_set_self (by simpa using hiN)] at e
      cases e
      exact ⟨rfl, rfl, rfl, rfl⟩
    · rw [List.getElem?_set_ne hj, List.getElem?_replicate] at e
      split at e <;> cases e
  have val1 : ∀ (j : Nat) pv, (lawS N.length i ns)[j]? ≠ some (.val pv) := fun j pv e => by
    unfold lawS at e
    by_cases hj : i = j
    · subst hj
      rw [List.getElem?_set_self (by simpa using hiN)] at e
      cases e
    · rw [List.getElem?_set_ne hj, List.getElem?_replicate] at e
      split at e <;> cases e
  have hσ : ((L2.start N [V.ref a]).set i (some (V.ref r)))[i]? = some (some (V.ref r)) := List.getElem?_set_self (by rw [← hNl]; exact hiN)
  have ownr : ∀ x, Own (lawS N.length i ns) ((L2.start N [V.ref a]).set i (some (V.ref r))) x → x = r := fun x ⟨j, io, lk, pv, e1, e2⟩ => by
    obtain ⟨rfl, _⟩ := own1 j io lk pv e1
    rw [hσ] at e2
    cases e2
    rfl
  have hH : upd (upd H p (.lst (ns.map V.int))) r (.lst [V.ref p, V.int 0, V.int 0]) p = some (.lst (ns.map V.int)) := by rw [upd_ne (Ne.symm hpr), upd_same]
  have ob : ObR G.K (Tot (fun _ => False) (lawS N.length i ns) ((L2.start N [V.ref a]).set i (some (V.ref r)))) (upd (upd H p (.lst (ns.map V.int))) r (.lst [V.ref p, V.int 0, V.int 0])) r (.lst [.lst (ns.map .int), .int 0, .int 0]) := by
    have rl := repl_intsOf (K := G.K) (T := Tot (fun _ => False) (lawS N.length i ns) ((L2.start N [V.ref a]).set i (some (V.ref r)))) (H := upd (upd H p (.lst (ns.map V.int))) r (.lst [V.ref p, V.int 0, V.int 0])) ns
    refine ⟨_, upd_same, .cons (.lst (fun z => z.elim id fun z => hpr (ownr p z).symm) hH rl.1 rl.2) (.cons (.int 0) (.cons (.int 0) .nil))⟩
  have srel : SRel G.K (fun _ => False) (lawS N.length i ns) ((L2.start N [V.ref a]).set i (some (V.ref r))) (upd (upd H p (.lst (ns.map V.int))) r (.lst [V.ref p, V.int 0, V.int 0])) := by
    refine ⟨by unfold lawS; simp [hNl], fun _ h => h.elim, fun j pv e => (val1 j pv e).elim, fun j io lk pv e => ?_, fun j j' x io lk pv io' lk' pv' e1 e2 _ _ => (own1 j io lk pv e1).1.trans (own1 j' io' lk' pv' e2).1.symm⟩
    obtain ⟨rfl, rfl, rfl, rfl⟩ := own1 j io lk pv e
    exact ⟨r, hσ, fun h => h, ob⟩
  refine semS_of srel ?_
  rw [hd']
  intro v σ' H' st' s' rp
  cases rp
  exact q H'
end
end Den
set_option Elab.async false
set_option linter.all false
set_option maxRecDepth 100000
set_option maxHeartbeats 4000000
/-! Den34: sets of keys (ints and texts): made of a list, counted, sorted. -/
namespace Den
open PySem PySem.Spec L2 PyProof.Rows
instance keyMem (k : L2.Key) (l : List L2.Key) : Decidable (k ∈ l) := decidable_of_iff (∃ x ∈ l, x = k) ⟨fun ⟨x, h, e⟩ => e ▸ h, fun h => ⟨k, h, rfl⟩⟩
/-- the key that a value is -/
def keyV : Value → Key
  | .int i _ => .inl i
  | .str x _ => .inr x
  | _ => .inl 0
def keyE (e : Int × Value) : Key := keyV e.2
theorem keyV_rel {k : Key} {v : Value} (r : RelV (kV k) v) : keyV v = k := by
  cases k with
  | inl i => obtain ⟨t, rfl⟩ := r; rfl
  | inr x => obtain ⟨t, rfl⟩ := r; rfl
/-- an entry as the table keeps it -/
def EntOk (P : Program) (w : World) (e : Int × Value) : Prop := RelV (kV (keyE e)) e.2 ∧ e.1 = (mixKind P w).hash (keyE e)
/-- the set at a has the keys ks, each once -/
def SetM (P : Program) (w : World) (h : Heap) (a : Addr) (ks : List Key) : Prop :=
  ∃ o es ep t, h.get? a = some o ∧ o.ExactSet ∧ o.data = .set es ep t ∧ (∀ e ∈ es.toList, EntOk P w e) ∧ (es.toList.map keyE).Perm ks ∧ ks.Nodup ∧
    es.size < scanBound ∧ t.fits es.size = true ∧ Ris t.place.toList ∧ (w.params.followText "set-order" = true ∨ t.led = true)
section
variable {P : Program} {w : World} {h h' : Heap} {a : Addr} {ks : List Key}
theorem SetM.at (R : SetM P w h a ks) (k : ∀ o, h.get? a = some o → h'.get? a = some o) : SetM P w h' a ks := by
  obtain ⟨o, es, ep, t, ho, r⟩ := R
  exact ⟨o, es, ep, t, k o ho, r⟩
theorem entOk_is {e : Int × Value} (g : EntOk P w e) (k : Key) : (mixKind P w).is k e.2 = true ↔ keyE e = k := by
  constructor
  · intro z
    exact (mixKind P w).inj e.2 _ _ (kV_is g.1) z
  · rintro rfl
    exact kV_is g.1
theorem entOk_elems {l : List (Int × Value)} (g : ∀ e ∈ l, EntOk P w e) : ElemsOf (mixKind P w) l := fun e he =>
  ⟨⟨keyE e, kV_is (g e he).1, (g e he).2⟩, key_scan (g e he).1⟩
theorem setM_new {h : Heap} (w : World) (P : Program) : SetM P w (h.push { cls := .type "set", dict := none, data := .set #[] 0 (.fresh 0 0 (!w.params.followText "set-order")) }) h.objs.size [] :=
  ⟨_, #[], 0, _, Heap.get?_push_size _ rfl, ⟨rfl, rfl, rfl⟩, rfl, (fun e he => by simp at he), .nil, .nil, (by decide), (by rfl), List.Pairwise.nil, by
    show _ ∨ (!w.params.followText "set-order") = true
    cases w.params.followText "set-order"
    · exact .inr rfl
    · exact .inl rfl⟩
end
section
variable {P : Program} {w : World} {A : Around} {E : Value → Shared → Prop} {s : Shared} {a : Addr} {ks : List Key}
/-- the entries es1 with the table t2 stored; laid anew where the table is too full -/
theorem setM_store {g : Bool → Sem Unit} (hg : ∀ (b : Bool) (s₁ : Shared) (Q' : Unit → Shared → Prop), Q' () s₁ → wpAny (model P w) A (g b) Q' E s₁)
    {o : Obj} {es : Array (Int × Value)} {ep : Nat} {t : SetTable} (ho : s.heap.get? a = some o) (hex : o.ExactSet) (hd : o.data = .set es ep t)
    {es1 : Array (Int × Value)} {t2 : SetTable} (g1 : ∀ e ∈ es1.toList, EntOk P w e) (pk : (es1.toList.map keyE).Perm ks) (nd : ks.Nodup)
    (hb1 : es1.size < scanBound) (hf2 : t2.fits es1.size = true) (hr : Ris t2.place.toList) (hl : w.params.followText "set-order" = true ∨ t2.led = true) {wasDummy : Bool} {R : Option Bool → Shared → Prop}
    (hR : ∀ h', Heap.SameBut a s.heap h' → SetM P w h' a ks → R (some true) { s with heap := h' }) :
    wpAny (model P w) A (do
        storeSet a es1 t2
        if (!wasDummy && t2.tooFull) = true then do
            g (relayAll t2 es1 (SetTable.grown es1.size)).2.2
            storeSet a (relayAll t2 es1 (SetTable.grown es1.size)).1 (relayAll t2 es1 (SetTable.grown es1.size)).2.1
            pure (some true)
          else pure (some true)) R E s := by
  refine wpAny_bind (wpAny_storeSet_of ho hd ?_ (fits_of_scanBound hb1))
  have o1 := store_at (es' := es1) (t' := t2) ho hd
  have b1 := Heap.SameBut.update s.heap a (Obj.putSet es1 t2)
  split
  · have pm := relayAll_perm t2 es1 (SetTable.grown es1.size)
    have f3 := relayAll_fits t2 es1 (SetTable.grown es1.size)
    have r3 := relayAll_ris t2 es1 (SetTable.grown es1.size)
    have l3 := relayAll_led t2 es1 (SetTable.grown es1.size)
    revert pm f3 r3 l3
    generalize relayAll t2 es1 (SetTable.grown es1.size) = z
    obtain ⟨es2, t3, gave⟩ := z
    dsimp only
    intro pm f3 r3 l3
    have hz : es2.size = es1.size := by rw [← Array.length_toList, pm.length_eq, Array.length_toList]
    have hb2 : es2.size < scanBound := hz ▸ hb1
    refine wpAny_bind (hg _ _ _ (wpAny_bind (wpAny_storeSet_of o1 rfl ?_ (fits_of_scanBound hb2))))
    refine wpAny_pure (hR _ (b1.trans (Heap.SameBut.update _ a _)) ?_)
    exact ⟨_, es2, _, t3, store_at o1 rfl, hex, rfl, fun e he => g1 e (pm.mem_iff.mp he), (pm.map keyE).trans pk, nd, hb2, f3, r3, hl.imp id fun q => l3.trans q⟩
  · exact wpAny_pure (hR _ b1 ⟨_, es1, _, t2, o1, hex, rfl, g1, pk, nd, hb1, hf2, hr, hl⟩)
/-- one more key -/
theorem setM_add {k : Key} {v : Value} {Q : Bool → Shared → Prop} (R : SetM P w s.heap a ks) (rv : RelV (kV k) v) (room : ks.length + 1 < scanBound)
    (hQ : ∀ h' b, Heap.SameBut a s.heap h' → SetM P w h' a (if k ∈ ks then ks else ks ++ [k]) → Q b { s with heap := h' }) :
    wpAny (model P w) A (setAddHashed a v ((mixKind P w).hash k)) Q E s := by
  obtain ⟨o, es, ep, t, ho, hex, hd, g, pm0, nd, hb, hf, hr, hl⟩ := R
  have hk : (mixKind P w).is k v = true := kV_is rv
  have hsc := key_scan rv
  have hel := entOk_elems g
  have hn : es.size = ks.length := by rw [← pm0.length_eq, List.length_map, Array.length_toList]
  have rk : keyV v = k := keyV_rel rv
  unfold setAddHashed setAddHashedIn
  refine wpAny_holding (wpAny_bind (wpAny_setState_of ho hd hf ?_))
  dsimp only
  rw [byScan_of hsc hb hel]
  simp only [↓reduceIte]
  unfold setAddByScan
  refine wpAny_bind ?_
  refine wpAny_bind (wpAny_rule ?_)
  refine wpAny_bind (wpAny_setScan_of hk ho hd hf hel ?_)
  have hmem : k ∈ ks ↔ ∃ e ∈ es.toList, (mixKind P w).is k e.2 = true := by
    rw [← pm0.mem_iff, List.mem_map]
    exact ⟨fun ⟨e, he, z⟩ => ⟨e, he, (entOk_is (g e he) k).2 z⟩, fun ⟨e, he, z⟩ => ⟨e, he, (entOk_is (g e he) k).1 z⟩⟩
  cases hfi : List.findIdx? (fun e => (mixKind P w).is k e.2) es.toList with
  | some j =>
    dsimp only
    obtain ⟨hj, pj, _⟩ := List.findIdx?_eq_some_iff_getElem.mp hfi
    have hin : k ∈ ks := hmem.2 ⟨es.toList[j], List.getElem_mem hj, pj⟩
    refine wpAny_pure (wpAny_pure ?_)
    refine hQ s.heap _ (Heap.SameBut.refl a s.heap) ?_
    rw [if_pos hin]
    exact ⟨o, es, ep, t, ho, hex, hd, g, pm0, nd, hb, hf, hr, hl⟩
  | none =>
    dsimp only
    have hout : k ∉ ks := fun z => by
      obtain ⟨e, he, q⟩ := hmem.1 z
      have c := List.findIdx?_eq_none_iff.mp hfi e he
      rw [q] at c
      cases c
    have ruleOr : ∀ (b : Bool) {s₁ : Shared} {Q' : Unit → Shared → Prop}, Q' () s₁ → wpAny (model P w) A (match b with | true => rule "set.scan.the-table-gave-way" | false => pure ()) Q' E s₁ :=
      fun b s₁ Q' q => by cases b <;> first | exact wpAny_pure q | exact wpAny_rule q
    have pm := layNew_perm t es ((mixKind P w).hash k) v
    have f1 := layNew_fits t es ((mixKind P w).hash k) v
    have r1 := layNew_ris t es ((mixKind P w).hash k) v hr
    have l1 := layNew_led t es ((mixKind P w).hash k) v
    revert pm f1 r1 l1
    generalize layNew t es ((mixKind P w).hash k) v = z
    obtain ⟨es1, t1, wasDummy, gave⟩ := z
    dsimp only
    intro pm f1 r1 l1
    rw [Array.toList_push] at pm
    have ev : keyE ((mixKind P w).hash k, v) = k := rk
    have g1 : ∀ e ∈ es1.toList, EntOk P w e := fun e he => by
      rcases List.mem_append.mp (pm.mem_iff.mp he) with z | z
      · exact g e z
      · obtain rfl := List.mem_singleton.mp z
        exact ⟨by rw [ev]; exact rv, by rw [ev]⟩
    have pk : (es1.toList.map keyE).Perm (ks ++ [k]) := by
      have q := pm.map keyE
      rw [List.map_append, List.map_singleton, ev] at q
      exact q.trans (pm0.append_right [k])
    have nd1 : (ks ++ [k]).Nodup := by
      rw [List.nodup_append]
      refine ⟨nd, by simp, fun x hx y hy => ?_⟩
      obtain rfl := List.mem_singleton.mp hy
      exact fun e => hout (e ▸ hx)
    have hz : es1.size = ks.length + 1 := by
      have := pk.length_eq
      rw [List.length_map, Array.length_toList, List.length_append, List.length_singleton] at this
      exact this
    have hb1 : es1.size < scanBound := hz ▸ room
    have hled : w.params.followText "set-order" = true ∨ t1.led = true := hl.imp id fun q => l1.trans q
    have fin : ∀ h', Heap.SameBut a s.heap h' → SetM P w h' a (ks ++ [k]) → Q true { s with heap := h' } := fun h' sb r => hQ h' _ sb (by rw [if_neg hout]; exact r)
    refine wpAny_bind (ruleOr _ ?_)
    split
    · refine wpAny_bind ?_
      rw [hashByValue_scannable 8 hsc]
      refine wpAny_pure ?_
      refine setM_store ?_ ho hex hd g1 pk nd1 hb1 ?_ ?_ ?_ ?_
      · intro b s₁ Q' q; cases b <;> first | exact wpAny_pure q | exact wpAny_rule q
      · first | (split <;> first | exact f1 | exact SetTable.fits_plain_off f1) | exact f1
      · first | (split <;> exact r1) | exact r1
      · first | (split <;> exact hled) | exact hled
      · intro h' sb r; dsimp only; exact wpAny_pure (fin h' sb r)
    · refine wpAny_bind (wpAny_pure ?_)
      simp only [↓reduceIte]
      refine setM_store ?_ ho hex hd g1 pk nd1 hb1 f1 r1 hled ?_
      · intro b s₁ Q' q; cases b <;> first | exact wpAny_pure q | exact wpAny_rule q
      · intro h' sb r; dsimp only; exact wpAny_pure (fin h' sb r)
end
/-- each key once, as first met -/
def uniqK (ks : List Key) : List Key := ks.foldl (fun acc k => if k ∈ acc then acc else acc ++ [k]) []
theorem uniqK_snoc (ks : List Key) (k : Key) : uniqK (ks ++ [k]) = if k ∈ uniqK ks then uniqK ks else uniqK ks ++ [k] := by
  unfold uniqK
  rw [List.foldl_append]
  rfl
theorem uniqK_step {ks : List Key} {i : Nat} {k : Key} (h : ks[i]? = some k) : uniqK (ks.take (i + 1)) = if k ∈ uniqK (ks.take i) then uniqK (ks.take i) else uniqK (ks.take i) ++ [k] := by
  rw [List.take_add_one, h]
  exact uniqK_snoc _ _
theorem uniqK_len (ks : List Key) : (uniqK ks).length ≤ ks.length := by
  have : ∀ i, i ≤ ks.length → (uniqK (ks.take i)).length ≤ i := fun i => by
    induction i with
    | zero => intro _; simp [uniqK]
    | succ i ih =>
      intro h
      rw [uniqK_step (List.getElem?_eq_getElem (show i < ks.length by omega))]
      have := ih (by omega)
      split
      · omega
      · rw [List.length_append, List.length_singleton]; omega
  have q := this ks.length (Nat.le_refl _)
  rwa [List.take_length] at q
section
variable {P : Program} {w : World} {A : Around} {E : Value → Shared → Prop} {s : Shared}
theorem set_update_keys {I : Addr} {fp wr : List Addr} {G : Array GenState → Array GenState → Prop} {n : Nat} {Pv : Nat → Value → Prop} {St : Nat → Shared → Prop} {R : Result → Shared → Prop}
    (W : WalksS P w A.in1 I fp wr G n Pv St) (S : Addr) (hSf : S ∉ fp) (ks : List Key) (hn : n = ks.length) (hb : ks.length + 1 < scanBound) (hval : ∀ i v, Pv i v → ∃ k, ks[i]? = some k ∧ RelV (kV k) v) :
    ∀ (m i : Nat) (s : Shared), n - i = m → i ≤ n → St i s → SetM P w s.heap S (uniqK (ks.take i)) →
      (∀ s', Moved (S :: wr) G s s' → SetM P w s'.heap S (uniqK ks) → R (.ok (.ret .none)) s') →
      codeAny (model P w) A (.builtin "set.update.loop" ⟨[.ref S, .ref I], []⟩) R s := by
  have hSw : S ∉ wr := fun h => hSf (W.sub _ h)
  have hsub : ∀ b ∈ wr, b ∈ S :: wr := fun b hb => List.mem_cons_of_mem _ hb
  intro m
  induction m with
  | zero =>
    intro i s hm hi hst hS hR
    obtain rfl : i = n := by omega
    refine codeAny_builtin F.entry_set_update_loop ?_
    rw [Around.under_plainId F.plain_set_update_loop _]
    show wpAny _ A.in1 (pyNext (.ref I) >>= _) _ _ s
    refine wpAny_bind (W.done s _ _ hst fun s' mv => ?_)
    show wpAny _ A.in1 (ret Value.none) _ _ s'
    rw [List.take_of_length_le (by omega)] at hS
    exact wpAny_pure (hR s' (mv.mono hsub) (hS.at fun o e => mv.heap S o hSw e))
  | succ m ih =>
    intro i s hm hi hst hS hR
    have hlt : i < n := by omega
    refine codeAny_builtin F.entry_set_update_loop ?_
    rw [Around.under_plainId F.plain_set_update_loop _]
    show wpAny _ A.in1 (pyNext (.ref I) >>= _) _ _ s
    refine wpAny_bind (W.item i s _ _ hlt hst fun v s' hP hst' mv => ?_)
    obtain ⟨k, hk, rv⟩ := hval i v hP
    have hS' : SetM P w s'.heap S (uniqK (ks.take i)) := hS.at fun o e => mv.heap S o hSw e
    show wpAny _ A.in1 (holding [v] (setAdd S v) >>= _) _ _ s'
    refine wpAny_bind (wpAny_holding ?_)
    unfold setAdd
    refine wpAny_holding ?_
    refine wpAny_bind ((mixKind P w).pyHash (k := k) (kV_is rv) ?_)
    refine setM_add (s := { s' with toks := s'.toks + 1 }) hS' rv (by have := uniqK_len (ks.take i); rw [List.length_take] at this; omega) fun h' _ sb hS2 => ?_
    rw [← uniqK_step hk] at hS2
    refine wpAny_pure ⟨plainId_quiet F.plain_set_update_loop _, ih (i + 1) _ (by omega) hlt (W.frame _ s' _ _ hst' (Nat.le_succ _) fun b hb o e => ?_) hS2 fun s'' mv2 hS3 => ?_⟩
    · rw [sb.2 b (fun h : b = S => hSf (by rw [← h]; exact hb))]; exact e
    · refine hR s'' (Moved.trans W.gtrans ((mv.mono hsub).then_heap (Nat.le_succ _) fun b o hb e => ?_) mv2) hS3
      rw [sb.2 b (fun h : b = S => hb (by rw [h]; exact List.mem_cons_self))]; exact e
end
end Den
set_option Elab.async false
set_option linter.all false
set_option maxRecDepth 100000
set_option maxHeartbeats 4000000
/-! Den35: set(list), set(tuple) of keys (printed by gen35.py). -/
namespace Den
open PySem PySem.Spec L2 PyProof.Rows
abbrev setO0 (w : World) : Obj := { cls := .type "set", dict := none, data := .set #[] 0 (.fresh 0 0 (!w.params.followText "set-order")) }
section
variable {P : Program} {w : World} {A : Around} {E : Value → Shared → Prop} {s : Shared}

set_option maxHeartbeats 3200000 in
theorem call_set_lst {l : Addr} {items : Array Value} (ks : List Key) {Q : Value → Shared → Prop} (hh : A.handled = none) (hl : s.heap.IsList l items) (hit : ∀ (i : Nat) (v : Value), items[i]? = some v → ∃ k, ks[i]? = some k ∧ RelV (kV k) v) (hisz : items.size = ks.length) (hb : ks.length + 1 < scanBound)
    (h : ∀ (h' : Heap) (tk : Nat), SetM P w h' s.heap.objs.size (uniqK ks) → (∀ b o, s.heap.get? b = some o → h'.get? b = some o) → Q (.ref s.heap.objs.size) { s with heap := h', toks := tk }) :
    wpAny (model P w) A (call (.type "set") [.ref l]) Q E s := by
  obtain ⟨c, tl, hmro⟩ := F.called_set.mro
  have hmade := F.called_set.made
  have hsub := F.called_set.sub
  refine wpAny_call (codeAny_of_tree ?_)
  show wpAny _ _ (callAny (.type "set") _) _ _ _
  refine wpAny_pure ⟨Code.quiet_builtin _ (by decide +kernel), codeAny_builtin F.entry_type_call ?_⟩
  rw [Around.under_plain (weight_type_call_type "set" [.ref l] []) rfl]
  have h1 := F.called_set.notType
  have h2 := F.called_set.canCreate
  have hct := F.typeCall_set_1 (.ref l)
  repeat (any_goals (first | assumption | wp_step))
  refine codeAny_mono (code_set_led1 (.ref l) (E := E) (Q₁ := fun obj s₁ => obj = .ref s.heap.objs.size ∧ s₁ = { s with heap := s.heap.push (setO0 w) }) ⟨rfl, rfl⟩) fun r s₁ hr => ?_
  cases r with
  | error e => exact hr
  | ok fl =>
    cases fl with
    | ret obj =>
      obtain ⟨rfl, rfl⟩ := hr
      have hS : (s.heap.push (setO0 w)).get? s.heap.objs.size = some (setO0 w) := Heap.get?_push_size _ rfl
      have hT : Shared.TypeIs { s with heap := s.heap.push (setO0 w) } (.ref s.heap.objs.size) "set" := ⟨_, hS, rfl⟩
      have hli := F.called_set.init.lookup
      have hbi := F.called_set.init.bind (.ref s.heap.objs.size)
      repeat (any_goals (first | assumption | wp_step))
      refine codeAny_mono (codeAny_call_builtin (R := wants (fun r s₂ => r = .none ∧ ∃ h' tk, s₂ = { s with heap := h', toks := tk } ∧ SetM P w h' s.heap.objs.size (uniqK ks) ∧
          (∀ b o, s.heap.get? b = some o → h'.get? b = some o)) E) F.called_set.init.plain F.entry_set_init (check_set_init_1 hT ?_)) fun r₂ s₂ hr₂ => ?_
      · obtain ⟨ol, hol, hcl, nl, hdl⟩ := hl
        obtain ⟨ocls, odict, odata, oslots⟩ := ol
        simp only at hcl hdl
        subst hcl; subst hdl
        have hol' : (s.heap.push (setO0 w)).get? l = some { cls := .type "list", dict := odict, data := .seq items nl, slots := oslots } := Heap.get?_push_of_some _ hol
        have hsls := F.sub_list_set
        have hslf := F.sub_list_frozenset
        have hne : (Value.type "list" == Value.type "dict") = false := by decide
        have hl1 : (s.heap.push (setO0 w)).IsList l items := ⟨_, hol', rfl, nl, rfl⟩
        unfold Builtin.«set.__init__» noKeywords Builtin.Frozenset.updateFrom
        generalize hPI : pyIter = PI
        wp_walk
        subst hPI
        refine wpAny_pyIter_list hl1 ?_
        refine wpAny_bind (wpAny_runValue ?_)
        have hlS : l < s.heap.objs.size := Heap.lt_size hol
        have hh3 : A.in1.in1.in1.handled = none := by simp [hh]
        have hneI : l ≠ (s.heap.push (setO0 w)).objs.size := by
          rw [Heap.size_push]; exact Nat.ne_of_lt (Nat.lt_succ_of_lt hlS)
        have hSf : s.heap.objs.size ∉ [(s.heap.push (setO0 w)).objs.size, l] := by
          rw [Heap.size_push]; simp only [List.mem_cons, List.mem_singleton, List.not_mem_nil, or_false, not_or]
          exact ⟨Nat.ne_of_lt (Nat.lt_succ_self _), Nat.ne_of_gt hlS⟩
        refine set_update_keys ((Walks.list hh3 _ l hneI items).toS) s.heap.objs.size hSf ks hisz hb hit (items.size - 0) 0 _ (by omega) (Nat.zero_le _)
          ⟨⟨_, Heap.get?_push_size _ rfl, rfl, rfl⟩, (hl1.push _)⟩ ?hS0 ?hR
        case hS0 =>
          have n0 : SetM P w (s.heap.push (setO0 w)) s.heap.objs.size [] := setM_new w P
          exact n0.at fun o e => Heap.get?_push_of_some _ e
        case hR =>
          intro s' hm hS'
          obtain ⟨h', g2, d', tk', os'⟩ := s'
          have eg : g2 = s.gens := hm.gens
          have ed : d' = s.drawn := hm.drawn
          have eo : os' = s.os := hm.os
          subst eg; subst ed; subst eo
          show wpAny _ _ _ _ _ _
          refine wpAny_pure ?_
          show wpAny _ _ (ret Value.none) _ _ _
          refine wpAny_pure ⟨rfl, h', tk', rfl, hS', fun b o e => ?_⟩
          have hb0 : b < s.heap.objs.size := Heap.lt_size e
          have hb1 : b ≠ s.heap.objs.size := Nat.ne_of_lt hb0
          have hb2 : b ≠ (s.heap.push (setO0 w)).objs.size := by
            rw [Heap.size_push]; exact Nat.ne_of_lt (Nat.lt_succ_of_lt hb0)
          exact hm.heap b o (by simp only [List.mem_cons, List.mem_singleton, List.not_mem_nil, or_false, not_or]; exact ⟨hb1, hb2⟩) (Heap.get?_push_of_some _ (Heap.get?_push_of_some _ e))
      · cases r₂ with
        | error e => exact hr₂
        | ok fl₂ =>
          cases fl₂ with
          | ret r =>
            obtain ⟨rfl, h', tk, rfl, hS', hk'⟩ := hr₂
            repeat (any_goals (first | assumption | wp_step))
            exact h _ _ hS' hk'
          | _ => exact hr₂.elim
    | _ => exact hr.elim

set_option maxHeartbeats 3200000 in
theorem call_set_tup {l : Addr} {items : Array Value} (ks : List Key) {Q : Value → Shared → Prop} (hh : A.handled = none) (hl : s.heap.IsTuple l items) (hit : ∀ (i : Nat) (v : Value), items[i]? = some v → ∃ k, ks[i]? = some k ∧ RelV (kV k) v) (hisz : items.size = ks.length) (hb : ks.length + 1 < scanBound)
    (h : ∀ (h' : Heap) (tk : Nat), SetM P w h' s.heap.objs.size (uniqK ks) → (∀ b o, s.heap.get? b = some o → h'.get? b = some o) → Q (.ref s.heap.objs.size) { s with heap := h', toks := tk }) :
    wpAny (model P w) A (call (.type "set") [.ref l]) Q E s := by
  obtain ⟨c, tl, hmro⟩ := F.called_set.mro
  have hmade := F.called_set.made
  have hsub := F.called_set.sub
  refine wpAny_call (codeAny_of_tree ?_)
  show wpAny _ _ (callAny (.type "set") _) _ _ _
  refine wpAny_pure ⟨Code.quiet_builtin _ (by decide +kernel), codeAny_builtin F.entry_type_call ?_⟩
  rw [Around.under_plain (weight_type_call_type "set" [.ref l] []) rfl]
  have h1 := F.called_set.notType
  have h2 := F.called_set.canCreate
  have hct := F.typeCall_set_1 (.ref l)
  repeat (any_goals (first | assumption | wp_step))
  refine codeAny_mono (code_set_led1 (.ref l) (E := E) (Q₁ := fun obj s₁ => obj = .ref s.heap.objs.size ∧ s₁ = { s with heap := s.heap.push (setO0 w) }) ⟨rfl, rfl⟩) fun r s₁ hr => ?_
  cases r with
  | error e => exact hr
  | ok fl =>
    cases fl with
    | ret obj =>
      obtain ⟨rfl, rfl⟩ := hr
      have hS : (s.heap.push (setO0 w)).get? s.heap.objs.size = some (setO0 w) := Heap.get?_push_size _ rfl
      have hT : Shared.TypeIs { s with heap := s.heap.push (setO0 w) } (.ref s.heap.objs.size) "set" := ⟨_, hS, rfl⟩
      have hli := F.called_set.init.lookup
      have hbi := F.called_set.init.bind (.ref s.heap.objs.size)
      repeat (any_goals (first | assumption | wp_step))
      refine codeAny_mono (codeAny_call_builtin (R := wants (fun r s₂ => r = .none ∧ ∃ h' tk, s₂ = { s with heap := h', toks := tk } ∧ SetM P w h' s.heap.objs.size (uniqK ks) ∧
          (∀ b o, s.heap.get? b = some o → h'.get? b = some o)) E) F.called_set.init.plain F.entry_set_init (check_set_init_1 hT ?_)) fun r₂ s₂ hr₂ => ?_
      · obtain ⟨ol, hol, hcl, nl, hdl⟩ := hl
        obtain ⟨ocls, odict, odata, oslots⟩ := ol
        simp only at hcl hdl
        subst hcl; subst hdl
        have hol' : (s.heap.push (setO0 w)).get? l = some { cls := .type "tuple", dict := odict, data := .seq items nl, slots := oslots } := Heap.get?_push_of_some _ hol
        have hsls := F.sub_tuple_set
        have hslf := F.sub_tuple_frozenset
        have hne : (Value.type "tuple" == Value.type "dict") = false := by decide
        have hl1 : (s.heap.push (setO0 w)).IsTuple l items := ⟨_, hol', rfl, nl, rfl⟩
        unfold Builtin.«set.__init__» noKeywords Builtin.Frozenset.updateFrom
        generalize hPI : pyIter = PI
        wp_walk
        subst hPI
        refine wpAny_pyIter_tuple hl1 ?_
        refine wpAny_bind (wpAny_runValue ?_)
        have hlS : l < s.heap.objs.size := Heap.lt_size hol
        have hh3 : A.in1.in1.in1.handled = none := by simp [hh]
        have hneI : l ≠ (s.heap.push (setO0 w)).objs.size := by
          rw [Heap.size_push]; exact Nat.ne_of_lt (Nat.lt_succ_of_lt hlS)
        have hSf : s.heap.objs.size ∉ [(s.heap.push (setO0 w)).objs.size, l] := by
          rw [Heap.size_push]; simp only [List.mem_cons, List.mem_singleton, List.not_mem_nil, or_false, not_or]
          exact ⟨Nat.ne_of_lt (Nat.lt_succ_self _), Nat.ne_of_gt hlS⟩
        refine set_update_keys ((Walks.tuple hh3 _ l hneI items).toS) s.heap.objs.size hSf ks hisz hb hit (items.size - 0) 0 _ (by omega) (Nat.zero_le _)
          ⟨⟨_, Heap.get?_push_size _ rfl, rfl, rfl⟩, (hl1.push _)⟩ ?hS0 ?hR
        case hS0 =>
          have n0 : SetM P w (s.heap.push (setO0 w)) s.heap.objs.size [] := setM_new w P
          exact n0.at fun o e => Heap.get?_push_of_some _ e
        case hR =>
          intro s' hm hS'
          obtain ⟨h', g2, d', tk', os'⟩ := s'
          have eg : g2 = s.gens := hm.gens
          have ed : d' = s.drawn := hm.drawn
          have eo : os' = s.os := hm.os
          subst eg; subst ed; subst eo
          show wpAny _ _ _ _ _ _
          refine wpAny_pure ?_
          show wpAny _ _ (ret Value.none) _ _ _
          refine wpAny_pure ⟨rfl, h', tk', rfl, hS', fun b o e => ?_⟩
          have hb0 : b < s.heap.objs.size := Heap.lt_size e
          have hb1 : b ≠ s.heap.objs.size := Nat.ne_of_lt hb0
          have hb2 : b ≠ (s.heap.push (setO0 w)).objs.size := by
            rw [Heap.size_push]; exact Nat.ne_of_lt (Nat.lt_succ_of_lt hb0)
          exact hm.heap b o (by simp only [List.mem_cons, List.mem_singleton, List.not_mem_nil, or_false, not_or]; exact ⟨hb1, hb2⟩) (Heap.get?_push_of_some _ (Heap.get?_push_of_some _ e))
      · cases r₂ with
        | error e => exact hr₂
        | ok fl₂ =>
          cases fl₂ with
          | ret r =>
            obtain ⟨rfl, h', tk, rfl, hS', hk'⟩ := hr₂
            repeat (any_goals (first | assumption | wp_step))
            exact h _ _ hS' hk'
          | _ => exact hr₂.elim
    | _ => exact hr.elim
end
end Den
set_option Elab.async false
set_option linter.all false
set_option maxRecDepth 100000
set_option maxHeartbeats 1000000
/-! Den36: len(set(..)), sorted(set(..)). -/
namespace Den
open PySem PySem.Spec L2 PyProof.Rows
open PySem.W (alike alikeAll dataLt EachIs)
def isInl : Key → Bool | .inl _ => true | _ => false
def isInr : Key → Bool | .inr _ => true | _ => false
/-- all ints or all texts -/
def homK (ks : List Key) : Bool := ks.all isInl || ks.all isInr
theorem homK_of {ks : List Key} (h : homK ks = true) : (∃ l : List Int, ks = l.map Sum.inl) ∨ ∃ l : List Str, ks = l.map Sum.inr := by
  unfold homK at h
  rw [Bool.or_eq_true, List.all_eq_true, List.all_eq_true] at h
  rcases h with h | h
  · refine .inl ⟨ks.map fun k => k.elim id fun _ => 0, ?_⟩
    rw [List.map_map]
    refine (List.map_id ks).symm.trans (List.map_congr_left fun k hk => ?_)
    have := h k hk
    cases k with | inl i => rfl | inr x => cases this
  · refine .inr ⟨ks.map fun k => k.elim (fun _ => Str.empty) id, ?_⟩
    rw [List.map_map]
    refine (List.map_id ks).symm.trans (List.map_congr_left fun k hk => ?_)
    have := h k hk
    cases k with | inr i => rfl | inl x => cases this
theorem homK_perm {ks ks' : List Key} (p : ks.Perm ks') (h : homK ks = true) : homK ks' = true := by
  unfold homK at h ⊢
  rw [Bool.or_eq_true, List.all_eq_true, List.all_eq_true] at h ⊢
  exact h.imp (fun h k hk => h k (p.mem_iff.mpr hk)) (fun h k hk => h k (p.mem_iff.mpr hk))
theorem intL_map : ∀ l : List Int, intL (l.map PV.int) = true
  | [] => rfl
  | _ :: l => intL_map l
theorem oth_int : ∀ l : List Int, othersP (l.map PV.int) = true
  | [] => rfl
  | _ :: l => oth_int l
theorem oth_str : ∀ l : List Str, othersP (l.map PV.str) = true
  | [] => rfl
  | _ :: l => oth_str l
theorem depL_str : ∀ l : List Str, depL (l.map PV.str) = 0
  | [] => rfl
  | _ :: l => by simp [depL, dep, depL_str l]
theorem alike_str (l : List Str) : alikeLs (l.map PV.str) = true := by
  have hm : ∀ p ∈ l.map PV.str, ∃ x, p = PV.str x := fun p hp => by
    obtain ⟨x, _, rfl⟩ := List.mem_map.mp hp
    exact ⟨x, rfl⟩
  simp only [alikeLs, Bool.and_eq_true, List.all_eq_true, Bool.not_eq_true', decide_eq_true_eq]
  refine ⟨⟨⟨dfreeL_of fun p hp => ?_, fun p hp q hq => ?_⟩, fun p hp => ?_⟩, by rw [depL_str]; omega⟩
  · obtain ⟨x, rfl⟩ := hm p hp; rfl
  · obtain ⟨x, rfl⟩ := hm p hp
    obtain ⟨y, rfl⟩ := hm q hq
    simp [toD, alike]
  · obtain ⟨x, rfl⟩ := hm p hp; rfl
theorem homK_sortOk {ks : List Key} (h : homK ks = true) : sortOk (ks.map keyPV) = true := by
  rcases homK_of h with ⟨l, rfl⟩ | ⟨l, rfl⟩
  · rw [List.map_map]
    have e : (keyPV ∘ Sum.inl : Int → PV) = PV.int := rfl
    rw [e]
    have o := oth_int l
    simp [sortOk, ordL, intL_map, o]
  · rw [List.map_map]
    have e : (keyPV ∘ Sum.inr : Str → PV) = PV.str := rfl
    rw [e]
    have o := oth_str l
    have a := alike_str l
    simp [sortOk, ordL, a, o]
theorem keyLe_antisymm {ks : List Key} (h : homK ks = true) {a b : PV} (ha : a ∈ ks.map keyPV) (hb : b ∈ ks.map keyPV) (h1 : PySem.W.dataLe false toD a b = true) (h2 : PySem.W.dataLe false toD b a = true) : a = b := by
  rw [dataLe_toD, Bool.not_eq_true'] at h1 h2
  rcases homK_of h with ⟨l, rfl⟩ | ⟨l, rfl⟩
  · rw [List.map_map] at ha hb
    obtain ⟨i, _, rfl⟩ := List.mem_map.mp ha
    obtain ⟨j, _, rfl⟩ := List.mem_map.mp hb
    have e1 : ltD (PV.int j) (PV.int i) = false := h1
    have e2 : ltD (PV.int i) (PV.int j) = false := h2
    simp only [ltD, decide_eq_false_iff_not] at e1 e2
    show PV.int i = PV.int j
    congr 1
    omega
  · rw [List.map_map] at ha hb
    obtain ⟨x, _, rfl⟩ := List.mem_map.mp ha
    obtain ⟨y, _, rfl⟩ := List.mem_map.mp hb
    have e1 : dataLt (toD (PV.str y)) (toD (PV.str x)) = false := by rw [← ltD_eq]; exact h1
    have e2 : dataLt (toD (PV.str x)) (toD (PV.str y)) = false := by rw [← ltD_eq]; exact h2
    rw [toD, toD, PySem.W.dataLt_str, decide_eq_false_iff_not] at e1 e2
    show PV.str x = PV.str y
    congr 1
    exact PySem.W.str_of_cps (List.le_antisymm e1 e2)
theorem sortV_pairwise (l : List PV) : (sortV l).Pairwise fun a b => PySem.W.dataLe false toD a b = true := by
  have tl := PySem.W.sortLe_total (PyProof.Rows.listOrd PyProof.Rows.itemOrd) false fun b => PySem.W.keyToks (toD b)
  rw [← sortV_eq]
  refine List.pairwise_mergeSort (le := PySem.W.dataLe false toD) (fun a b c => tl.trans a b c) (fun a b => ?_) l
  rcases tl.total a b with h | h
  · have h' : PySem.W.dataLe false toD a b = true := h
    rw [h']; rfl
  · have h' : PySem.W.dataLe false toD b a = true := h
    rw [h']; simp
theorem sortV_perm (l : List PV) : (sortV l).Perm l := by rw [← sortV_eq]; exact List.mergeSort_perm _ _
theorem sortV_keys {ks ks' : List Key} (p : ks.Perm ks') (h : homK ks = true) : sortV (ks.map keyPV) = sortV (ks'.map keyPV) := by
  have pp : (sortV (ks.map keyPV)).Perm (sortV (ks'.map keyPV)) := (sortV_perm _).trans ((p.map keyPV).trans (sortV_perm _).symm)
  refine pp.eq_of_pairwise (fun a b ha hb h1 h2 => ?_) (sortV_pairwise _) (sortV_pairwise _)
  exact keyLe_antisymm h ((sortV_perm _).mem_iff.mp ha) ((p.map keyPV).mem_iff.mpr ((sortV_perm _).mem_iff.mp hb)) h1 h2
/-! ### a set made and at once used -/
def keyP : PV → Option Key
  | .int i => some (.inl i)
  | .str x => some (.inr x)
  | _ => none
def keysOfP : List PV → Option (List Key)
  | [] => some []
  | p :: l => match keyP p, keysOfP l with
    | some k, some ks => some (k :: ks)
    | _, _ => none
def setP (g : List Key → Option RV) : List PV → Option RV
  | [.lst l] => match keysOfP l with
    | some ks => if ks.length + 1 < scanBound then g (uniqK ks) else none
    | none => none
  | [.tup l] => match keysOfP l with
    | some ks => if ks.length + 1 < scanBound then g (uniqK ks) else none
    | none => none
  | _ => none
def lenS (ks : List Key) : Option RV := some (.val (.int (ks.length : Nat)))
def sortedS (ks : List Key) : Option RV := if homK ks then some (.fresh (.lst (sortV (ks.map keyPV)))) else none
section
variable {K : PySem.W.Frag} {T : Addr → Prop} {H : Hp} {X : Cx} {pins : List (Addr × Obj)} {σ : L2.St} {s : Shared}
theorem keyP_rep {p : PV} {k : Key} {v : V} (h : keyP p = some k) (r : Rep K T H v p) : v = kV k := by
  cases p with
  | int i => cases h; cases r; rfl
  | str x => cases h; cases r; rfl
  | non => cases h
  | bl _ => cases h
  | tup _ => cases h
  | lst _ => cases h
  | dct _ => cases h
theorem keysOfP_rep : ∀ {l : List PV} {ks : List Key} {vs : List V}, keysOfP l = some ks → RepL K T H vs l → vs = ks.map kV
  | [], ks, vs, h, r => by
    cases h
    match vs with
    | [] => rfl
    | _ :: _ => exact absurd r.1 (by simp)
  | p :: l, ks, vs, h, r => by
    match vs with
    | [] => exact absurd r.1 (by simp)
    | v :: vs =>
      unfold keysOfP at h
      cases e1 : keyP p with
      | none => rw [e1] at h; cases h
      | some k =>
        cases e2 : keysOfP l with
        | none => rw [e1, e2] at h; cases h
        | some ks' =>
          rw [e1, e2] at h
          cases h
          rw [List.map_cons, keyP_rep e1 r.head, keysOfP_rep e2 r.tail]
theorem vals_keys {ks : List Key} {its : List Value} (r : Vals (ks.map kV) its) (i : Nat) (v : Value) (h : its.toArray[i]? = some v) : ∃ k, ks[i]? = some k ∧ RelV (kV k) v := by
  have hl := r.length
  rw [List.length_map] at hl
  rw [List.getElem?_toArray] at h
  have hi : i < its.length := (List.getElem?_eq_some_iff.mp h).1
  have hk : i < ks.length := by omega
  refine ⟨ks[i], List.getElem?_eq_getElem hk, ?_⟩
  obtain ⟨u, hu, ru⟩ := r.get (i := i) (x := kV ks[i]) (by rw [List.getElem?_map, List.getElem?_eq_getElem hk]; rfl)
  rw [h] at hu
  cases hu
  exact ru
/-- a call that takes a set of keys -/
def OnSet (X : Cx) (id : String) (g : List Key → Option RV) : Prop :=
  ∀ (T : Addr → Prop) (H : Hp) (pins : List (Addr × Obj)) (σ : L2.St) (s : Shared) (a : Addr) (ks : List Key) (rv : RV) (Q : VK), Inv X pins σ H s → TOk T H → SetM X.prog X.w s.heap a ks → g ks = some rv →
    (∀ v H', Ext H H' → OpRes X.K T H H' rv v → Q v H') → wpAny (model X.prog X.w) X.A (call (.builtin id) [.ref a]) (EP X pins σ Q) X.xe s
theorem cr_set {id : String} {g : List Key → Option RV} (hc : X.calm = true) (on : OnSet X id g) {vs : List V} {us : List Value} {Q : VK} (I : Inv X pins σ H s) (rx : Vals vs us) (h : rP X.K (setP g) vs H Q) :
    wpAny (model X.prog X.w) X.A (call (.type "set") us) (fun v s1 => wpAny (model X.prog X.w) X.A (call (.builtin id) [v]) (EP X pins σ Q) X.xe s1) X.xe s := by
  obtain ⟨T, ps, rv, t, hp, hg, q⟩ := h
  have hd := I.ok.hd hc
  have fin : ∀ (a : Addr) (ks : List Key) (h' : Heap) (tk : Nat), g (uniqK ks) = some rv → SetM X.prog X.w h' a (uniqK ks) → (∀ b o, s.heap.get? b = some o → h'.get? b = some o) →
      wpAny (model X.prog X.w) X.A (call (.builtin id) [.ref a]) (EP X pins σ Q) X.xe { s with heap := h', toks := tk } := fun a ks h' tk e R k =>
    on T H pins σ _ a (uniqK ks) rv Q (I.kept k) t R e q
  unfold setP at hg
  split at hg
  · rename_i l
    obtain ⟨v, rfl, hp1⟩ := prl1 hp
    obtain ⟨u, rfl, ru⟩ := vals1 rx
    split at hg
    · rename_i ks ek
      split at hg
      · rename_i hb
        obtain ⟨a, ws, its, rfl, rl, rv', hl, hz⟩ := lst_raw I hp1
        obtain rfl : u = .ref a := ru
        obtain rfl := keysOfP_rep ek rl
        exact call_set_lst ks hd hl (vals_keys rv') (by rw [List.size_toArray, ← rv'.length, List.length_map]) hb fun h' tk R k => fin _ ks h' tk hg R k
      · cases hg
    · cases hg
  · rename_i l
    obtain ⟨v, rfl, hp1⟩ := prl1 hp
    obtain ⟨u, rfl, ru⟩ := vals1 rx
    split at hg
    · rename_i ks ek
      split at hg
      · rename_i hb
        obtain ⟨a, ws, its, rfl, rl, rv', hl, hz⟩ := tup_raw I hp1
        obtain rfl : u = .ref a := ru
        obtain rfl := keysOfP_rep ek rl
        exact call_set_tup ks hd hl (vals_keys rv') (by rw [List.size_toArray, ← rv'.length, List.length_map]) hb fun h' tk R k => fin _ ks h' tk hg R k
      · cases hg
    · cases hg
  · cases hg
theorem on_len : OnSet X "len" lenS := fun T H pins σ s a ks rv Q I t R e q => by
  obtain ⟨o, es, ep, tb, ho, hex, hd, g, pm, nd, hb, hf, hr, hl⟩ := R
  cases e
  have hn : es.size = ks.length := by rw [← pm.length_eq, List.length_map, Array.length_toList]
  refine call_len_set ho hex hd hf (by have := fits_of_scanBound hb; rw [sizeLine_eq] at this; omega) ⟨.int es.size, H, I.tok _, ⟨_, rfl⟩, q _ H (fun _ _ e => e) ?_⟩
  rw [hn]
  exact .int _
theorem rel_keys {es : Array (Int × Value)} {P : Program} {w : World} (g : ∀ e ∈ es.toList, EntOk P w e) : ∀ {out : List Value}, (∀ v ∈ out, v ∈ es.toList.map (·.2)) → Vals ((out.map keyV).map kV) out
  | [], _ => .nil
  | v :: out, h => by
    obtain ⟨e, he, rfl⟩ := List.mem_map.mp (h v List.mem_cons_self)
    exact .cons (g e he).1 (rel_keys g fun u hu => h u (List.mem_cons_of_mem _ hu))
theorem on_sorted {k : Nat} (hr : Room k X.A) (hc : X.calm = true) : OnSet X "sorted" sortedS := fun T H pins σ s a ks rv Q I t R e q => by
  unfold sortedS at e
  split at e
  case isFalse => cases e
  case isTrue hom =>
  cases e
  obtain ⟨o, es, ep, tb, ho, hex, hd, g, pm, nd, hb, hf, hri, hl⟩ := R
  have hn : es.size = ks.length := by rw [← pm.length_eq, List.length_map, Array.length_toList]
  refine Calls.call_function_entry PyProof.Rows.kind_sorted PyProof.Rows.plain_sorted PyProof.Rows.entry_sorted (PyProof.Rows.args_sorted1 _) ?_
  unfold Builtin.«sorted»
  refine wpAny_bind (m := checkCount "sorted" 1 1 _) (wpAny_pure ?_)
  refine wpAny_bind (collect_set (A := X.A.in1) (I.ok.hd hc) ⟨o, ho, hex.1, hd⟩ hf hb hri hl fun s1 its k1 hz1 g1 o1 pmo => ?_)
  have I1 : Inv X pins σ H s1 := I.call' (ch := []) o1 (Un.kept k1) (I.hok.kept k1) (by rw [g1]; exact I.bare) (fun _ z => nomatch z)
  have rv : Vals ((its.map keyV).map kV) its := rel_keys g fun v hv => pmo.mem_iff.mp hv
  have pk : (its.map keyV).Perm ks := by
    have z := pmo.map keyV
    rw [List.map_map] at z
    exact z.trans pm
  have hom' : homK (its.map keyV) = true := homK_perm pk.symm hom
  have rl : RepL X.K T H ((its.map keyV).map kV) ((its.map keyV).map keyPV) := repl_of rep_key _
  obtain ⟨oo, so⟩ := sortOk_of (homK_sortOk hom')
  obtain ⟨df, al, nn, dd⟩ := ordL_of oo
  have lz : its.length ≤ sizeLine := by
    rw [← List.length_map (f := keyV), pk.length_eq, ← hn]
    exact fits_of_scanBound hb
  refine wpAny_bind (wpAny_newList ?_ lz)
  obtain ⟨h', gs, dr, tk, os⟩ := s1
  dsimp only at k1 hz1 g1 o1 ⊢
  have hoL : (h'.push (seqObj "list" its.toArray 0)).get? h'.objs.size = some (seqObj "list" its.toArray 0) := Heap.get?_push_size _ rfl
  have old : ∀ b o, h'.get? b = some o → (PySem.W.sortingHeap (h'.push (seqObj "list" its.toArray 0)) h'.objs.size its).get? b = some o := fun b o e =>
    PySem.W.sortingHeap_old (Nat.ne_of_lt (Heap.lt_size e)) (Heap.get?_push_of_some _ e)
  have er := each_reads I1 df (each_rep rl rv)
  have er' : EachIs (fun v p => ∃ as, Reads (PySem.W.sortingHeap (h'.push (seqObj "list" its.toArray 0)) h'.objs.size its) v (toD p) as) its ((its.map keyV).map keyPV) := er.mono fun _ _ ⟨as, r⟩ => ⟨as, PyProof.Rows.Reads.keeps old r⟩
  have hal : PySem.W.AllAlike (((its.map keyV).map keyPV).map toD) := by
    intro x hx y hy
    obtain ⟨p, hp, rfl⟩ := List.mem_map.mp hx
    obtain ⟨q, hq, rfl⟩ := List.mem_map.mp hy
    exact al p hp q hq
  have S := PySem.W.SortsAt.data (prog := X.prog) (w := X.w) (A := X.A.in1.in1) (s := { heap := PySem.W.sortingHeap (h'.push (seqObj "list" its.toArray 0)) h'.objs.size its, gens := gs, drawn := dr, toks := tk, os := os })
    (PySem.W.each_map (R := fun v d => ∃ as, Reads (PySem.W.sortingHeap (h'.push (seqObj "list" its.toArray 0)) h'.objs.size its) v d as) toD er') hal so (fun d hd => by
      obtain ⟨p, hp, rfl⟩ := List.mem_map.mp hd
      have := hr.un
      have h1 := dep_mem hp
      rw [toD_dep p (dfreeL_mem df p hp)]
      show X.A.units + 1 + 1 + _ < _
      omega)
  refine wpAny_bind (wpAny_holding (wpAny_call_entry PyProof.Rows.slot_list_sort ⟨_, hoL, rfl⟩ PyProof.Rows.entry_list_sort (PySem.W.list_sort_vals (s := { heap := h'.push (seqObj "list" its.toArray 0), gens := gs, drawn := dr, toks := tk, os := os }) hoL S lz ⟨_, rfl, ?_⟩) (PyProof.Rows.args_list_sort _)))
  have e := PySem.W.sortVals_data (R := fun u p => ∃ v, RelV v u ∧ Rep X.K T H v p) false (each_rep rl rv) er' hal
  rw [sortV_eq, sortV_keys pk hom'] at e
  obtain ⟨ws', rw', rl'⟩ := rep_each e
  obtain ⟨e', he'⟩ := PyProof.Rows.sortedHeap_at (vs := its) (out := (PySem.W.sortVals (PySem.W.dataKind (PySem.W.sortingHeap (h'.push (seqObj "list" its.toArray 0)) h'.objs.size its) (((its.map keyV).map keyPV).map toD)) false its its).toArray) hoL
  have hws : ws'.length ≤ sizeLine := by
    rw [rl'.1, sortV_len, List.length_map, ← hn]
    exact fits_of_scanBound hb
  have hn : H h'.objs.size = none := I1.hok.fresh (Nat.le_refl _)
  refine wpAny_pure ⟨_, rfl, .ref h'.objs.size, upd H h'.objs.size (.lst ws'), I1.laid (t' := tk) (fun b u e => ?_) (Nat.le_refl _) ⟨hws, _, e', rw', he'⟩, rfl, q _ _ (Ext.new hn) (fin_lst t hn rl')⟩
  have hb : b < h'.objs.size := Heap.lt_size e
  rw [PyProof.Rows.sortedHeap_old (Nat.ne_of_lt hb) (by rw [size_push']; exact Nat.lt_succ_of_lt hb)]
  exact Heap.get?_push_of_some _ e
end
section
variable {X : Cx} {x y : Str} {id : String} {p p2 pos q : Pos} {e : Expr} {t : TA} {g : List Key → Option RV}
/-- f(set(e)) -/
theorem pe_onSet (hc : X.calm = true) (on : OnSet X id g) (hg : Gl X x) (hm : X.mg x = none) (hv : bootBuiltins x = some (.builtin id)) (hg2 : Gl X y) (hm2 : X.mg y = none) (hv2 : bootBuiltins y = some (.type "set")) (ha : PA X [e] t)
    (hn : x ≠ "__name__") (hdb : (x == ("__debug__" : Str)) = false) (hn2 : y ≠ "__name__") (hdb2 : (y == ("__debug__" : Str)) = false)
    (he : starEach [e] X.env = (false, eval e X.env) :: starEach [] X.env) (hpl : (backTo q (starEach [] X.env)).any (·.1) = false)
    (he2 : starEach [Expr.Call (.Name y p2) [e] [] q] X.env = (false, eval (.Call (.Name y p2) [e] [] q) X.env) :: starEach [] X.env) (hpl2 : (backTo pos (starEach [] X.env)).any (·.1) = false) :
    PE X (.Call (.Name x p) [.Call (.Name y p2) [e] [] q] [] pos) (tCB (rP X.K (setP g)) t) := by
  refine ⟨fun pins s σ H Q I h => ?_⟩
  refine wpAny_Call_Name_kw (ld_blt I hg hm hv ?_ hn hdb)
  refine PyProof.Rows.callWith_builtin1 (PyProof.Rows.args_cons ?_ he2) he2 hpl2
  refine wpAny_Call_Name_kw (ld_blt I hg2 hm2 hv2 ?_ hn2 hdb2)
  refine PyProof.Rows.callWith_type1 (thn (ha.run q pins s σ H _ I h) fun us s1 ⟨vs, H1, I1, r1, q1⟩ => ?_) he hpl
  exact thn (cr_set hc on I1 r1 q1) fun v s2 z => PyProof.Rows.args_nil z
end
section
variable {G : Wd} {c : Cs} {k : Nat} {x y : Str} {id : String} {p p2 pos q : Pos} {e : Expr} {ops : List Opd}
theorem se_onSet {g : List Key → Option RV} (b : Bi G c x (.builtin id)) (b2 : Bi G c y (.type "set")) (on : ∀ X, Good G c k X → OnSet X id g) (ha : SA G c k [e] ops)
    (h1 : StarOk e []) (h2 : BackOk q []) (h3 : StarOk (Expr.Call (.Name y p2) [e] [] q) []) (h4 : BackOk pos []) : SE G c k (.Call (.Name x p) [.Call (.Name y p2) [e] [] q] [] pos) (dOp (setP g) ops) := fun X W gd tk => by
  have g' := gd
  obtain ⟨rfl, hN, hs, _⟩ := gd
  exact pe_of (pe_onSet g'.calm (on X g') (show X.env.scope.names.lookup x = some .globalImplicit by rw [hs]; exact b.gl) b.mg b.bb (show X.env.scope.names.lookup y = some .globalImplicit by rw [hs]; exact b2.gl) b2.mg b2.bb
    (ha X W g' tk) b.n1 b.n2 b2.n1 b2.n2 (h1 _) (h2 _) (h3 _) (h4 _)) fun σ H Q h => sem_rP h
theorem se_lenSet (b : Bi G c x (.builtin "len")) (b2 : Bi G c y (.type "set")) (ha : SA G c k [e] ops) (h1 : StarOk e [] := by intro _; rfl) (h2 : BackOk q [] := by intro _; rfl) (h3 : StarOk (Expr.Call (.Name y p2) [e] [] q) [] := by intro _; rfl) (h4 : BackOk pos [] := by intro _; rfl) :
    SE G c k (.Call (.Name x p) [.Call (.Name y p2) [e] [] q] [] pos) (dOp (setP lenS) ops) := se_onSet b b2 (fun X g => on_len) ha h1 h2 h3 h4
theorem se_sortedSet (b : Bi G c x (.builtin "sorted")) (b2 : Bi G c y (.type "set")) (ha : SA G c k [e] ops) (h1 : StarOk e [] := by intro _; rfl) (h2 : BackOk q [] := by intro _; rfl) (h3 : StarOk (Expr.Call (.Name y p2) [e] [] q) [] := by intro _; rfl) (h4 : BackOk pos [] := by intro _; rfl) :
    SE G c k (.Call (.Name x p) [.Call (.Name y p2) [e] [] q] [] pos) (dOp (setP sortedS) ops) := se_onSet b b2 (fun X g => on_sorted g.room g.calm) ha h1 h2 h3 h4
end
end Den
set_option Elab.async false
set_option linter.all false
set_option maxRecDepth 100000
set_option maxHeartbeats 800000
/-! Den37: the glue between the row's objects and the derivations. -/
namespace Den
open PySem L2 PyProof.Rows
/-- the def x stands among the module's names -/
def Df (G : Wd) (x : Str) (st : Stmt) : Prop := ∃ f fd, G.mg x = some (.ref f) ∧ Fun G.K x x st f fd
theorem df_mk {G : Wd} {h : Heap} {x : Str} {st : Stmt} {f : Addr} {oc : Value} {od an : Option Addr} {osl : Array (Option Value)} {kV doc pm cdv ct : Value} (X : G.K.In h) (N : h.Ns mainGlobals G.mg)
    (a : PySem.W.nsIn G.K mainGlobals x = some (some (.ref f))) (l : G.K.lookup f = some ⟨oc, od, .func (PySem.W.fnOf x x (defArgs st) (defBody st) (defScope st) .none kV doc pm an cdv ct), osl⟩)
    (c : PySem.W.codeIn G.K cdv x = true) (k : PySem.W.keepIn G.K (.ref f) = true) : Df G x st := ⟨f, _, PySem.W.mg_of X N a, fun_mk l c k⟩
abbrev BindOk (x : Str) (st : Stmt) (ps : List Str) : Prop := ∀ (kV doc pm : Value) (an : Option Addr) (cdv ct : Value) (us : List Value), us.length = ps.length →
  bindArgs (PySem.W.fnOf x x (defArgs st) (defBody st) (defScope st) .none kV doc pm an cdv ct) ⟨us, []⟩ = pure (ps.zip us)
theorem mkFn {G : Wd} {x : Str} {st : Stmt} {N ps : List Str} {k : Nat} {d : AS → RS} (D : Df G x st) (hb : BindOk x st ps) (hs : C8.scC N ps (defScope st) = true) (hd : SSs G ⟨N, defScope st, fun _ => true⟩ k (defBody st) d) :
    Fn G x (k + 1) ps.length (bodyF ps.length (N.length - ps.length) d) := by
  obtain ⟨f, fd, hm, hf⟩ := D
  exact ⟨f, fd, ps, hm, hf.kp, hf.binds hb, fn_val hf hs hd⟩
theorem mkFnIO {G : Wd} {x : Str} {st : Stmt} {N ps : List Str} {k : Nat} {d : AS → RS} (D : Df G x st) (hb : BindOk x st ps) (hs : C8.scC N ps (defScope st) = true) (hd : SSs G ⟨N, defScope st, fun _ => true⟩ k (defBody st) d) :
    FnIO G x (k + 1) ps.length (bodyIO ps.length (N.length - ps.length) d) := by
  obtain ⟨f, fd, hm, hf⟩ := D
  exact ⟨f, fd, ps, hm, hf.kp, hf.binds hb, fn_io hf hs hd⟩
theorem ktup_mk {G : Wd} {h : Heap} {x : Str} {l : List Str} {p : Addr} {od : Option Addr} {its : Array Value} {n : Nat} {sl : Array (Option Value)} (X : G.K.In h) (N : h.Ns mainGlobals G.mg)
    (a : PySem.W.nsIn G.K mainGlobals x = some (some (.ref p))) (lk : G.K.lookup p = some ⟨.type "tuple", od, .seq its n, sl⟩) (hz : its.size ≤ sizeLine) (v : Vals (l.map V.str) its.toList) : KTup G x l :=
  ⟨p, _, its, n, PySem.W.mg_of X N a, lk, rfl, rfl, hz, v⟩
end Den
set_option Elab.async false
set_option linter.all false
set_option maxRecDepth 100000
set_option maxHeartbeats 1000000
/-! Den38: max(d.values()). -/
namespace Den
open PySem PySem.Spec L2 PyProof.Rows
section
variable {K : PySem.W.Frag} {T : Addr → Prop} {H : Hp} {X : Cx} {pins : List (Addr × Obj)} {σ : L2.St} {s : Shared}
theorem repl_ext : ∀ {ws : List V} {ps : List PV}, ws.length = ps.length → (∀ (i : Nat) w p, ws[i]? = some w → ps[i]? = some p → Rep K T H w p) → RepL K T H ws ps
  | [], [], _, _ => .nil
  | [], _ :: _, h, _ => by simp at h
  | _ :: _, [], h, _ => by simp at h
  | w :: ws, p :: ps, h, f => .cons (f 0 w p rfl rfl) (repl_ext (by simpa using h) fun i w p a b => f (i + 1) w p (by simpa using a) (by simpa using b))
theorem vals_ext : ∀ {ws : List V} {us : List Value}, ws.length = us.length → (∀ (i : Nat) w u, ws[i]? = some w → us[i]? = some u → RelV w u) → Vals ws us
  | [], [], _, _ => .nil
  | [], _ :: _, h, _ => by simp at h
  | _ :: _, [], h, _ => by simp at h
  | w :: ws, p :: ps, h, f => .cons (f 0 w p rfl rfl) (vals_ext (by simpa using h) fun i w p a b => f (i + 1) w p (by simpa using a) (by simpa using b))
/-- a dict's values, as they stand -/
theorem dct_vals (I : Inv X pins σ H s) {x : V} {l : List (PV × PV)} (hp : PRep X.K T H x (.dct l)) : ∃ a es ep ws, x = .ref a ∧ s.heap.DictRaw a es ep ∧ (a == sysModules) = false ∧ es.size ≤ sizeLine ∧ RepL X.K T H ws (l.map (·.2)) ∧ Vals ws (es.toList.map (·.val)) := by
  obtain ⟨a, rfl, h⟩ := hp
  rcases h with ⟨kvs, hd, rk⟩ | ⟨kvs, hd, _, rk⟩
  · obtain ⟨z, lo, vs, rel, dd⟩ := dk_rd I.hok hd
    obtain ⟨es, ep, raw, hz, hv⟩ := dd.raw
    have hl : kvs.length = vs.length := rel.length
    refine ⟨a, es, ep, kvs.map (·.2), rfl, raw, lo, by rw [hz, ← hl]; exact z, repl_ext (by rw [List.length_map, List.length_map]; exact rk.1) fun i w p hw hp => ?_, vals_ext (by have e0 : es.toList.length = es.size := Array.length_toList; simp only [List.length_map]; omega) fun i w u hw hu => ?_⟩
    · rw [List.getElem?_map] at hw hp
      obtain ⟨kv, e1, rfl⟩ := Option.map_eq_some_iff.mp hw
      obtain ⟨q, e2, rfl⟩ := Option.map_eq_some_iff.mp hp
      exact rk.2.2 i kv q e1 e2
    · rw [List.getElem?_map] at hw hu
      obtain ⟨kv, e1, rfl⟩ := Option.map_eq_some_iff.mp hw
      obtain ⟨en, e2, rfl⟩ := Option.map_eq_some_iff.mp hu
      rw [Array.getElem?_toList] at e2
      obtain ⟨hi, rfl⟩ := Array.getElem?_eq_some_iff.mp e2
      have hi' : i < vs.length := by omega
      obtain ⟨y, e3, ry⟩ := rel.at' (i := i) (k := vs[i].1) (v := vs[i].2) (List.getElem?_eq_getElem hi')
      rw [e1] at e3
      cases e3
      rw [(hv i hi _ _ (List.getElem?_eq_getElem hi')).2]
      exact ry
  · obtain ⟨z, hs, ks, pr, o, es, ep, ho, hx, hdt, he, hn⟩ := (show ObjOk X.prog X.w H s.heap a (.dT kvs) from hd.ok I.hok)
    have l1 : es.size = ks.length := size_of_entries he
    have l2 : kvs.length = ks.length := Paired.length pr
    refine ⟨a, es, ep, kvs.map (·.2), rfl, ⟨o, ho, hx, hdt⟩, hs, by omega, repl_ext (by rw [List.length_map, List.length_map]; exact rk.1) fun i w p hw hp => ?_, vals_ext (by have e0 : es.toList.length = es.size := Array.length_toList; simp only [List.length_map]; omega) fun i w u hw hu => ?_⟩
    · rw [List.getElem?_map] at hw hp
      obtain ⟨kv, e1, rfl⟩ := Option.map_eq_some_iff.mp hw
      obtain ⟨q, e2, rfl⟩ := Option.map_eq_some_iff.mp hp
      exact rk.2.2 i kv q e1 e2
    · rw [List.getElem?_map] at hw hu
      obtain ⟨kv, e1, rfl⟩ := Option.map_eq_some_iff.mp hw
      obtain ⟨en, e2, rfl⟩ := Option.map_eq_some_iff.mp hu
      rw [he, List.getElem?_map] at e2
      obtain ⟨b, e3, rfl⟩ := Option.map_eq_some_iff.mp e2
      obtain ⟨y, e4, r1, r2, r3⟩ := L2.DX.pget pr e3
      rw [e1] at e4
      cases e4
      exact r3
/-- max over a dict's values -/
theorem max_vals {k : Nat} (hr : Room k X.A) (hc : X.calm = true) (I : Inv X pins σ H s) (t : TOk T H) {x : V} {l : List (PV × PV)} {p : PV} {q : List PV} {Q : VK} (hp : PRep X.K T H x (.dct l)) (hl : l.map (·.2) = p :: q) (ho : ordL (p :: q) = true)
    (fin : ∀ v, Rep X.K T H v (maxV p q) → Q v H) : ∃ a, x = .ref a ∧ ∃ es ep, s.heap.DictRaw a es ep ∧ (a == sysModules) = false ∧
      wpAny (model X.prog X.w) X.A (call (.builtin "max") [.ref s.heap.objs.size]) (EP X pins σ Q) X.xe { s with heap := s.heap.push { cls := .type "dict_values", data := .fields #[.ref a] } } := by
  obtain ⟨a, es, ep, ws, rfl, raw, hsy, hz, rl, rv⟩ := dct_vals I hp
  refine ⟨a, rfl, es, ep, raw, hsy, ?_⟩
  rw [hl] at rl
  obtain ⟨df, al, nn, dd⟩ := ordL_of ho
  have k0 : ∀ b o, s.heap.get? b = some o → (s.heap.push { cls := .type "dict_values", data := .fields #[.ref a] }).get? b = some o := fun b o e => Heap.get?_push_of_some _ e
  have I1 : Inv X pins σ H { s with heap := s.heap.push { cls := .type "dict_values", data := .fields #[.ref a] } } := I.kept (t' := s.toks) k0
  obtain ⟨as, ra⟩ := rl.reads I1 df rv
  have raw1 := raw.at (h' := s.heap.push { cls := .type "dict_values", data := .fields #[.ref a] }) fun o e => k0 a o e
  have hv : (s.heap.push { cls := .type "dict_values", data := .fields #[.ref a] }).IsValuesView s.heap.objs.size a := ⟨_, Heap.get?_push_size _ rfl, rfl, rfl⟩
  have hlt : a < s.heap.objs.size := by obtain ⟨o, e, _⟩ := raw; exact Heap.lt_size e
  refine PySem.call_max_walkH (PySem.wpAny_pyIter_values_raw (s := { s with heap := s.heap.push { cls := .type "dict_values", data := .fields #[.ref a] } }) hv raw1 ?_)
  have hI : a ≠ (s.heap.push { cls := .type "dict_values", data := .fields #[.ref a] }).objs.size := by rw [Heap.size_push]; exact Nat.ne_of_lt (Nat.lt_succ_of_lt hlt)
  have W := ((Walks.rawValues (prog := X.prog) (w := X.w) (A := X.A.in1) (I.ok.hd hc) (s.heap.push { cls := .type "dict_values", data := .fields #[.ref a] }).objs.size a hI es ep).mono_item (fun i v _ ⟨hi, e⟩ => show ((es.toList.map fun e : DictEntry => e.val).toArray)[i]? = some v by
    rw [List.getElem?_toArray, List.getElem?_map, Array.getElem?_toList, Array.getElem?_eq_getElem hi, e]; rfl)).toS
  have hn : es.size = q.length + 1 := by
    have e1 := rv.length
    have e2 := rl.1
    have e0 : es.toList.length = es.size := Array.length_toList
    simp only [List.length_map, List.length_cons] at e1 e2
    omega
  refine ⟨_, _, _, _, _, _, _, (s.heap.push { cls := .type "dict_values", data := .fields #[.ref a] }), _, rfl, W, ⟨⟨_, Heap.get?_push_size _ rfl, rfl, rfl⟩, raw1.at fun o e => Heap.get?_push_of_some _ e⟩, fun b hb => ?_, by omega, fun b o e hb => ?_, fun b o e => Heap.get?_push_of_some _ e,
    PySem.W.cmpIn_gt (s := { s with heap := s.heap.push { cls := .type "dict_values", data := .fields #[.ref a] } }) (A := X.A.in1) (vs := (es.toList.map fun e : DictEntry => e.val).toArray) (by simpa [toDs] using ra) (by simpa [toDs] using ord_alike ho) (by have := hr.un; have := depD df dd; simp only [toDs] at this; show X.A.units + 1 + _ < _; omega), fun v s' hP m => ?_⟩
  · show b < ((s.heap.push _).push _).objs.size
    rw [Heap.size_push, Heap.size_push]
    rcases List.mem_cons.mp hb with rfl | hb
    · rw [Heap.size_push]; exact Nat.lt_succ_self _
    · rw [List.mem_singleton.mp hb]; exact Nat.lt_succ_of_lt (Nat.lt_succ_of_lt hlt)
  · exact absurd (Heap.lt_size e) ((List.mem_singleton.mp hb) ▸ Nat.lt_irrefl _)
  · obtain ⟨h', tk, rfl, hk'⟩ := PySem.W.moved_old (s := { s with heap := s.heap.push { cls := .type "dict_values", data := .fields #[.ref a] } }) rfl rfl m
    obtain ⟨bs, r, _, _, _⟩ := PySem.W.readsAll_atA (vs := (es.toList.map fun e : DictEntry => e.val).toArray) (by simpa [toDs] using ra) _ v hP
    have e1 : es.size - 1 = q.length := by omega
    have e2 := (PySem.W.argBest_fold (fun a b => PySem.W.dataLt b a) PyData.none (toD p) (toDs q) (toDs q).length (Nat.le_refl _)).2
    rw [List.take_length] at e2
    have e3 : (toDs q).length = q.length := by rw [toDs_map, List.length_map]
    rw [e1, ← e3] at r
    have r' := PySem.W.reads_keeps hk' (d := PySem.W.maxD (toD p) (toDs q)) (by unfold PySem.W.maxD; rw [← e2]; exact r)
    rw [← maxV_toD] at r'
    obtain ⟨y, ry, rp⟩ := item_by I1 rl rv ho _ hP r' (maxV_mem q p) hk'
    exact ⟨y, H, I1.kept (t' := tk) hk', ry, fin y rp⟩
end
def maxVP : List PV → Option RV
  | [.dct l] => match l.map (·.2) with
    | p :: q => if ordL (p :: q) then some (.val (maxV p q)) else none
    | [] => none
  | _ => none
section
variable {X : Cx} {o : Expr} {y : Str} {p pos apos mpos : Pos} {td : TE}
theorem pe_maxVals {k : Nat} (hr : Room k X.A) (hc : X.calm = true) (hg : Gl X y) (hm : X.mg y = none) (hv : bootBuiltins y = some (.builtin "max")) (hn : y ≠ "__name__") (hdb : (y == ("__debug__" : Str)) = false) (hd : PE X o td)
    (hbase : attributeBase o "values" X.env (eval o X.env) = eval o X.env) (hline : (apos.endLine == mpos.line) = true)
    (hse : starEach [Expr.Call (.Attribute o "values" apos) [] [] mpos] X.env = [(false, eval (Expr.Call (.Attribute o "values" apos) [] [] mpos) X.env)]) :
    PE X (.Call (.Name y p) [.Call (.Attribute o "values" apos) [] [] mpos] [] pos) (fun σ H Q => td σ H fun x H1 => rP X.K maxVP [x] H1 Q) := by
  refine ⟨fun pins s σ H Q I h => ?_⟩
  refine wpAny_Call_Name_kw (ld_blt I hg hm hv ?_ hn hdb)
  rw [hse]
  refine PySem.callWith_builtin1 (wpAny_Call_method0_late hbase hline (thn (hd.run pins s σ H _ I h) fun v s1 ⟨x, H1, I1, r1, T, ps, rv, t, hp, e, q⟩ => ?_))
  unfold maxVP at e
  split at e
  · rename_i l
    split at e
    · rename_i w ws el
      split at e
      · rename_i ho
        cases e
        obtain ⟨a, ea, es, ep, raw, hsys, z⟩ := max_vals hr hc I1 t hp.1 el ho (Q := Q) fun v rp => q v H1 (fun _ _ e => e) rp
        subst ea
        obtain rfl : v = Value.ref a := r1
        obtain ⟨ob, ho, ex, hdat⟩ := raw
        refine ⟨"dict", "dict.values", F.plainAttrs_dict, F.slot_dict_values, F.type_dict_values, ⟨ob, ho, ex.1⟩, fun b e => ?_, Calls.callWith_builtin rfl (PySem.evalArgs_none ?_)⟩
        · cases e
          exact ⟨ob, ho, ex.2.1⟩
        · exact call_meetsIn F.slot_dict_values ⟨ob, ho, ex.1⟩ F.entry_dict_values (F.args_dict_values_1 _) (meets_dict_values_raw a hsys) ⟨⟨es, ep, ob, ho, ex, hdat⟩, z⟩
      · cases e
    · cases e
  · cases e
end
section
variable {G : Wd} {c : Cs} {k : Nat} {y : Str} {e : Expr} {p pos apos mpos : Pos} {A : Opd}
theorem se_maxVals (b : Bi G c y (.builtin "max")) (ha : SO G c k e A) (hb : BaseOk e "values" := by intro _; rfl) (hl : (apos.endLine == mpos.line) = true := by rfl)
    (h1 : ∀ env, starEach [Expr.Call (.Attribute e "values" apos) [] [] mpos] env = [(false, eval (Expr.Call (.Attribute e "values" apos) [] [] mpos) env)] := by intro _; rfl) :
    SE G c k (.Call (.Name y p) [.Call (.Attribute e "values" apos) [] [] mpos] [] pos) (dOp maxVP [A]) := fun X W gd tk => by
  have g' := gd
  obtain ⟨rfl, hN, hs, _⟩ := gd
  exact pe_of (pe_maxVals g'.room g'.calm (show X.env.scope.names.lookup y = some .globalImplicit by rw [hs]; exact b.gl) b.mg b.bb b.n1 b.n2 (ha X W g' tk) (hb _) hl (h1 _)) fun σ H Q h => by
    have q := sem_rP (ops := [A]) h
    exact q
end
end Den
set_option Elab.async false
set_option linter.all false
set_option maxRecDepth 100000
set_option maxHeartbeats 1000000
/-! Den39: for k, v in d.items(), d a dict with tuple keys. -/
namespace Den
open PySem PySem.Spec L2 PyProof.Rows
/-- the pairs of a locked dict with tuple keys, each a new tuple -/
def Itit (d : Addr) (o : Obj) (kvs : List (List Key × V)) : It :=
  ⟨fun i H => H d = some (.frz o (.dT kvs)) ∧ i < kvs.length, fun i H x H' => ∃ T k v q, kvs[i]? = some (k, v) ∧ H q = some (.tup (k.map kV)) ∧ x = .ref T ∧ H T = none ∧ H' = upd H T (.tup [.ref q, v]), fun i H => H d = some (.frz o (.dT kvs)) ∧ kvs.length ≤ i⟩
section
variable {X : Cx} {pins : List (Addr × Obj)} {σ : L2.St} {H : Hp} {s : Shared} {d : Addr} {o : Obj}
theorem frzTV {kvs : List (List Key × V)} (I : Inv X pins σ H s) (h : H d = some (.frz o (.dT kvs))) :
    (d == sysModules) = false ∧ s.heap.get? d = some o ∧ o.ExactDict ∧ ∃ (es : Array DictEntry) (ep : Nat), o.data = .dict es ep ∧ es.size = kvs.length ∧
      ∀ (i : Nat) (k : List Key) (v : V), kvs[i]? = some (k, v) → ∃ (en : DictEntry) (q : Addr), es[i]? = some en ∧ en.key = .ref q ∧ H q = some (.tup (k.map kV)) ∧ RelV v en.val := by
  obtain ⟨hd, z, hs, xs, pr, o', es, ep, ho, hx, hdt, he, _⟩ := I.hok d _ h
  rw [hd] at ho
  cases ho
  refine ⟨hs, hd, hx, es, ep, hdt, ?_, fun i k v e => ?_⟩
  · have l1 : es.size = xs.length := size_of_entries he
    have l2 : kvs.length = xs.length := Paired.length pr
    omega
  · obtain ⟨b, hb, e1, e2, e3⟩ := paired_get pr e
    have q := entry_at he i
    rw [hb] at q
    exact ⟨_, b.2.1, q, rfl, e2, e3⟩
end
section
variable {P : Program} {w : World} {K : PySem.W.Frag} {d : Addr} {o : Obj} {es : Array DictEntry} {ep : Nat}
theorem turn_itemsT {kvs : List (List Key × V)} {elts : List Expr} {kk : Nat} {tpos : Pos} (it : Addr) (hod : o.data = .dict es ep) :
    Turn P w K (.Tuple elts kk tpos) (Itit d o kvs) [it] it (fun i h => ∃ ok ov, IsItemIter h it d i kvs.length ep ok ov) where
  mem := by simp
  obj := fun i h st b hb => by
    obtain rfl : b = it := by simpa using hb
    obtain ⟨ok, ov, e⟩ := st
    exact ⟨_, e, fun v z => nomatch z⟩
  keep := fun i h h' st k => let ⟨ok, ov, e⟩ := st; ⟨ok, ov, k it (by simp) _ e⟩
  item := by
    intro X hP hw hK hc i pins s σ H E I hf st hg
    subst hP hw hK
    obtain ⟨hd, hi⟩ := hg
    obtain ⟨hs, hgd, hx, es', ep', hdt, hsz, ent⟩ := frzTV I hd
    obtain ⟨rfl, rfl⟩ := dict_ep hod hdt
    obtain ⟨⟨k, v⟩, hkv⟩ : ∃ p, kvs[i]? = some p := ⟨kvs[i], List.getElem?_eq_getElem hi⟩
    obtain ⟨en, q, hen, hkey, hq, ru⟩ := ent i k v hkv
    obtain ⟨hie, rfl⟩ := Array.getElem?_eq_some_iff.mp hen
    obtain ⟨ok, ov, he⟩ := st
    rw [← hsz] at he
    have hlt : it < s.heap.objs.size := Heap.lt_size he
    refine wpAny_pyNext_items_item_raw he ⟨o, hgd, hx, hdt⟩ hie fun h' ho hT hz hk => ?_
    refine ⟨_, rfl, wpAny_letOwnedTupleGo_items (s := { s with heap := h' }) ho fun h'' he' sb => ?_⟩
    have hT2 := (sb.2 _ (Nat.ne_of_gt hlt)).trans hT
    have new : ObjOk X.prog X.w (upd H s.heap.objs.size (.tup [.ref q, v])) h'' s.heap.objs.size (.tup [.ref q, v]) :=
      ⟨by show 2 ≤ sizeLine; decide, [_, _], .cons hkey (.cons ru .nil), ⟨_, hT2, rfl, _, rfl⟩⟩
    have I1 : Inv X pins σ (upd H s.heap.objs.size (.tup [.ref q, v])) { s with heap := h'' } :=
      I.turnedNew (t' := s.toks) (ch := [it]) (fun b ob hb e => (sb.2 b (by simpa using hb)).trans (hk b ob (by simpa using hb) e)) hf (Nat.le_refl _) new
    refine ⟨.ref s.heap.objs.size, _, I1, rfl, ⟨_, k, v, q, hkv, hq, rfl, I.hok.fresh (Nat.le_refl _), rfl⟩, ⟨es'[i].key, es'[i].val, ?_⟩, fun b hb => ?_⟩
    · rw [← hsz]; exact he'
    · obtain rfl : b = it := by simpa using hb
      rw [upd_ne (Nat.ne_of_lt hlt)]
      exact (hf b (by simp)).1
  done := by
    intro X hP hw hK hc i pins s σ H E I hf st hg
    subst hP hw hK
    obtain ⟨hd, hi⟩ := hg
    obtain ⟨f0, f1, f2, f3, f4, f5⟩ := hf it (by simp)
    obtain ⟨hs, hgd, hx, es', ep', hdt, hsz, ent⟩ := frzTV I hd
    obtain ⟨rfl, rfl⟩ := dict_ep hod hdt
    obtain ⟨ok, ov, he⟩ := st
    rw [← hsz] at he
    exact wpAny_pyNext_items_end_raw (I.ok.hd hc) he ⟨o, hgd, hx, hdt⟩ (by omega) fun h' eb => ⟨rfl, I.turned (t' := s.toks) (fun b ob hb e => eb b ob hb e) f0 f1 f3 f4 f5⟩
  self := fun A i s Q E st h => let ⟨_, _, e⟩ := st; PySem.W.kcp_self e h
end
def iItemsT (td : TE) : TI := fun σ H R => td σ H fun x H1 => ∃ d o kvs, x = .ref d ∧ H1 d = some (.frz o (.dT kvs)) ∧ R (Itit d o kvs) H1
section
variable {X : Cx} {e : Expr} {td : TE} {apos cpos : Pos}
theorem pi_itemsT {elts : List Expr} {kk : Nat} {tpos : Pos} (he : PE X e td) (hbase : attributeBase e "items" X.env (eval e X.env) = eval e X.env := by rfl) (hline : (apos.endLine == cpos.line) = true := by rfl) :
    PI X (.Tuple elts kk tpos) (.Call (.Attribute e "items" apos) [] [] cpos) (iItemsT td) := by
  refine ⟨fun pins s σ H R I h => ?_⟩
  refine wpAny_Call_method (T := "dict") (id := "dict.items") hbase rfl hline F.plainAttrs_dict F.slot_dict_items F.type_dict_items (thn (he.run pins s σ H _ I h) fun u s1 ⟨x, H1, I1, rx, d, o, kvs, ex, hd, q⟩ => ?_)
  subst ex
  obtain rfl : u = Value.ref d := rx
  obtain ⟨hs, hgd, hx, es, ep, hdt, hsz, ent⟩ := frzTV I1 hd
  have raw : s1.heap.DictRaw d es ep := ⟨o, hgd, hx, hdt⟩
  refine ⟨raw.typeIs, fun b e => ?_, ?_⟩
  · cases e
    exact ⟨o, hgd, hx.2.1⟩
  have I2 : Inv X pins σ H1 { s1 with heap := s1.heap.push { cls := .type "dict_items", data := .fields #[.ref d] } } := I1.kept (t' := s1.toks) fun b ob q => Heap.get?_push_of_some _ q
  have fin : wpAny (model X.prog X.w) X.A (pyIter (.ref s1.heap.objs.size)) (PIE X pins σ (.Tuple elts kk tpos) R) X.xe { s1 with heap := s1.heap.push { cls := .type "dict_items", data := .fields #[.ref d] } } := by
    refine wpAny_pyIter_items_raw (d := d) ⟨_, Heap.get?_push_size _ rfl, rfl, rfl⟩ (raw.at fun o e => Heap.get?_push_of_some _ e) (pi_one (tk := s1.toks) I2 _ (turn_itemsT _ hdt) ⟨.none, .none, ?_⟩ q)
    rw [← hsz]
    exact Heap.get?_push_size _ rfl
  show wpAny _ _ (callWith cpos (.builtin "dict.items") [.ref d] [] []) _ X.xe s1
  exact method_meetsIn F.slot_dict_items F.entry_dict_items rfl (PySem.evalArgs_none ⟨rfl, raw.typeIs, F.args_dict_items_1 _, _, meets_dict_items_raw d hs, ⟨es, ep, raw⟩, fin⟩)
end
def iItemsB (td : TE) : TI := fun σ H R => td σ H fun x H1 => ∃ d o, x = .ref d ∧ ((∃ kvs, H1 d = some (.frz o (.dK kvs)) ∧ R (Iti d o kvs) H1) ∨ ∃ kvs, H1 d = some (.frz o (.dT kvs)) ∧ R (Itit d o kvs) H1)
section
variable {X : Cx} {e : Expr} {td : TE} {apos cpos : Pos}
theorem pi_itemsB {elts : List Expr} {kk : Nat} {tpos : Pos} (he : PE X e td) (hbase : attributeBase e "items" X.env (eval e X.env) = eval e X.env := by rfl) (hline : (apos.endLine == cpos.line) = true := by rfl) :
    PI X (.Tuple elts kk tpos) (.Call (.Attribute e "items" apos) [] [] cpos) (iItemsB td) := by
  refine ⟨fun pins s σ H R I h => ?_⟩
  refine wpAny_Call_method (T := "dict") (id := "dict.items") hbase rfl hline F.plainAttrs_dict F.slot_dict_items F.type_dict_items (thn (he.run pins s σ H _ I h) fun u s1 ⟨x, H1, I1, rx, d, o, ex, hh⟩ => ?_)
  subst ex
  obtain rfl : u = Value.ref d := rx
  have I2 : Inv X pins σ H1 { s1 with heap := s1.heap.push { cls := .type "dict_items", data := .fields #[.ref d] } } := I1.kept (t' := s1.toks) fun b ob q => Heap.get?_push_of_some _ q
  rcases hh with ⟨kvs, hd, q⟩ | ⟨kvs, hd, q⟩
  · obtain ⟨hs, hgd, hx, es, ep, vs, hdt, hsz, kv, hm⟩ := I1.frzK hd
    have hl : kvs.length = vs.length := Paired.length kv
    have hz : es.size = kvs.length := hsz
    have raw : s1.heap.DictRaw d es ep := ⟨o, hgd, hx, hdt⟩
    refine ⟨raw.typeIs, fun b e => ?_, ?_⟩
    · cases e
      exact ⟨o, hgd, hx.2.1⟩
    have fin : wpAny (model X.prog X.w) X.A (pyIter (.ref s1.heap.objs.size)) (PIE X pins σ (.Tuple elts kk tpos) R) X.xe { s1 with heap := s1.heap.push { cls := .type "dict_items", data := .fields #[.ref d] } } := by
      refine wpAny_pyIter_items_raw (d := d) ⟨_, Heap.get?_push_size _ rfl, rfl, rfl⟩ (raw.at fun o e => Heap.get?_push_of_some _ e) (pi_one (tk := s1.toks) I2 _ (turn_items _ hdt) ⟨.none, .none, ?_⟩ q)
      rw [← hz]
      exact Heap.get?_push_size _ rfl
    show wpAny _ _ (callWith cpos (.builtin "dict.items") [.ref d] [] []) _ X.xe s1
    exact method_meetsIn F.slot_dict_items F.entry_dict_items rfl (PySem.evalArgs_none ⟨rfl, raw.typeIs, F.args_dict_items_1 _, _, meets_dict_items_raw d hs, ⟨es, ep, raw⟩, fin⟩)
  · obtain ⟨hs, hgd, hx, es, ep, hdt, hsz, ent⟩ := frzTV I1 hd
    have raw : s1.heap.DictRaw d es ep := ⟨o, hgd, hx, hdt⟩
    refine ⟨raw.typeIs, fun b e => ?_, ?_⟩
    · cases e
      exact ⟨o, hgd, hx.2.1⟩
    have fin : wpAny (model X.prog X.w) X.A (pyIter (.ref s1.heap.objs.size)) (PIE X pins σ (.Tuple elts kk tpos) R) X.xe { s1 with heap := s1.heap.push { cls := .type "dict_items", data := .fields #[.ref d] } } := by
      refine wpAny_pyIter_items_raw (d := d) ⟨_, Heap.get?_push_size _ rfl, rfl, rfl⟩ (raw.at fun o e => Heap.get?_push_of_some _ e) (pi_one (tk := s1.toks) I2 _ (turn_itemsT _ hdt) ⟨.none, .none, ?_⟩ q)
      rw [← hsz]
      exact Heap.get?_push_size _ rfl
    show wpAny _ _ (callWith cpos (.builtin "dict.items") [.ref d] [] []) _ X.xe s1
    exact method_meetsIn F.slot_dict_items F.entry_dict_items rfl (PySem.evalArgs_none ⟨rfl, raw.typeIs, F.args_dict_items_1 _, _, meets_dict_items_raw d hs, ⟨es, ep, raw⟩, fin⟩)
end
section
variable {K : PySem.W.Frag} {T : Addr → Prop} {H : Hp}
theorem strm_itemsT {d : Addr} {o : Obj} {kvs : List (List L2.Key × V)} {l : List (PV × PV)} (h : H d = some (.frz o (.dT kvs))) (r : RepT K T H kvs l) : Strm K T H (Itit d o kvs) (pairsP l) [] := fun T' H' tk kp hl i => by
  have h' : H' d = some (.frz o (.dT kvs)) := (kp.tl d _ ⟨h, trivial⟩).1
  have r' := r.keep kp
  have hlen : (pairsP l).length = kvs.length := by rw [pairsP, List.length_map, r.1]
  refine ⟨fun hi => ⟨h', by omega⟩, fun hi => ⟨h', by omega⟩, fun x H2 p hy hp => ?_⟩
  obtain ⟨Tt, k, v, q0, e, hq, rfl, hT, rfl⟩ := hy
  have ex : Ext H' (upd H' Tt (.tup [.ref q0, v])) := Ext.new hT
  refine ⟨ex, ?_⟩
  rw [pairsP, List.getElem?_map] at hp
  cases e2 : l[i]? with
  | none => rw [e2] at hp; cases hp
  | some q =>
    rw [e2] at hp
    cases hp
    have r1 := r'.2.1 i _ q e e2
    have r2 := r'.2.2 i _ q e e2
    have rk : RepL K T' H' (k.map kV) (k.map keyPV) := repl_of rep_key k
    have r0 : Rep K T' H' (.ref q0) q.1 := by rw [r1]; exact .tup hq rk.1 rk.2
    have rr : RepL K T' (upd H' Tt (.tup [.ref q0, v])) [.ref q0, v] [q.1, q.2] := .cons (r0.keep (.ext tk ex)) (.cons (r2.keep (.ext tk ex)) .nil)
    exact .tup upd_same rr.1 rr.2
end
/-- d.items(), whatever the keys are -/
def dItemsB (A : Opd) : DI := fun S => match evI A S with
  | .ok (.dct l, lk) S' => .ok (pairsP l, lk) S'
  | .exc x p S' => .exc x p S'
  | _ => .bad
section
variable {G : Wd} {c : Cs} {k : Nat} {W : WX} {σ : L2.St} {H : Hp} {A : Opd} {e : Expr} {pos apos : Pos}
theorem itemsB_go {R : It → Hp → Prop} (z : tItr G W (dItemsB A) σ H R) : iItemsB (fun σ H Q => tOpd G W A σ H (fun v H1 => Q v H1 ∨ ∃ d u, v = .ref d ∧ H1 d = some u ∧ Mut (some u) ∧ ∀ od, Q v (upd H1 d (.frz od u)))) σ H R := by
  obtain ⟨O, S, s, z⟩ := z
  unfold dItemsB at z
  cases e : evI A S with
  | bad => simp only [e] at z; exact z.elim
  | exc x p S' => simp only [e] at z; exact held_opd s (by rw [e]; exact z)
  | ok r S' =>
    obtain ⟨p, lk⟩ := r
    simp only [e] at z
    cases p with
    | dct l =>
      simp only at z
      refine held_opd s ?_
      rw [e]
      intro v H' st s' hd
      refine held_dct (Q := fun x H1 => ∃ d o, x = V.ref d ∧ ((∃ kvs, H1 d = some (.frz o (.dK kvs)) ∧ R (Iti d o kvs) H1) ∨ ∃ kvs, H1 d = some (.frz o (.dT kvs)) ∧ R (Itit d o kvs) H1)) s' hd fun H2 d o ev st2 s2 hlk q => ⟨d, o, ev, ?_⟩
      rcases q with ⟨kvs, h1, rk⟩ | ⟨kvs, h1, ne, rk⟩
      · exact .inl ⟨kvs, h1, z _ H2 [] (st.trans st2) s2 ⟨fun q hq => by simp at hq, evI_nl e⟩ (strm_items h1 rk)⟩
      · exact .inr ⟨kvs, h1, z _ H2 [] (st.trans st2) s2 ⟨fun q hq => by simp at hq, evI_nl e⟩ (strm_itemsT h1 rk)⟩
    | lst l => simp only at z; exact z.elim
    | tup l => simp only at z; exact z.elim
    | str l => simp only at z; exact z.elim
    | non => simp only at z; exact z.elim
    | bl b => simp only at z; exact z.elim
    | int b => simp only at z; exact z.elim
theorem si_itemsB {elts : List Expr} {kk : Nat} {tpos : Pos} (ha : SO G c k e A) (hb : BaseOk e "items" := by intro _; rfl) (hl : (apos.endLine == pos.line) = true := by rfl) : SI G c k (.Tuple elts kk tpos) (.Call (.Attribute e "items" apos) [] [] pos) (dItemsB A) := fun X W g tk =>
  pi_of (pi_itemsB (pe_lockv (ha X W g tk)) (hb _) hl) fun σ H R z => itemsB_go z
end
end Den
set_option Elab.async false
set_option linter.all false
set_option maxRecDepth 100000
set_option maxHeartbeats 800000
/-! Den40: d[k], x, .. = v0, v1, .. -/
namespace Den
open PySem L2 PyProof.Rows
def setVs : List Nat → List PV → AS → Option AS
  | [], [], S => some S
  | i :: is, p :: ps, S => if freeS S[i]? = true then setVs is ps (S.set i (.val p)) else none
  | _, _, _ => none
def dPutPars (i j : Nat) (is : List Nat) (ds : List (AS → R RV)) : AS → RS := fun S => match evV ds S with
  | .ok (p0 :: ps) S1 => match S1[i]?, peek S1 j with
    | some (.own io false (.dct l)), some q => match dgetO l q with
      | some _ => if l.length < LINE then match setVs is ps (S1.set i (.own io false (.dct (dput l q p0)))) with
        | some S3 => .next S3
        | none => .bad
        else .bad
      | none => .bad
    | _, _ => .bad
  | _ => .bad
def rSetPut : TSet := fun o i v H Q => ∃ a H', o = .ref a ∧ Put H a i v H' ∧ Q H'
theorem set_put {X : Cx} (hu : X.A.units + 1 < cLine) : PSet X rSetPut := by
  intro pins s σ H o i v ov iv u Q I ro ri rv h
  obtain ⟨a, H', eo, g, q⟩ := h
  subst eo
  cases (show ov = Value.ref a from ro)
  cases g with
  | as g => exact d_setItem hu I g ri rv fun s' I' => ⟨H', I', q⟩
  | new h0 g => exact d_setItem hu (Inv.retype I h0) g ri rv fun s' I' => ⟨H', I', q⟩
section
variable {G : Wd} {c : Cs} {k : Nat} {W : WX} {O : Addr → Prop} {σ : L2.St} {S S1 S' : AS} {H H1 H' : Hp} {X : Cx} {pos : Pos} {K : PySem.W.Frag}
theorem setVs_go : ∀ {is : List Nat} {ps : List PV} {vs : List V} {S S' : AS} {σ : L2.St}, SRel K O S σ H → RepL K (Tot O S σ) H vs ps → setVs is ps S = some S' →
    vs.length = is.length ∧ SRel K O S' (setL σ is vs) H ∧ StepS O S S' σ (setL σ is vs) H H
  | [], [], vs, S, S', σ, s, r, e => by
    cases e
    match vs with
    | [] => exact ⟨rfl, s, .refl⟩
    | _ :: _ => exact absurd r.1 (by simp)
  | [], _ :: _, _, _, _, _, _, _, e => by cases e
  | _ :: _, [], _, _, _, _, _, _, e => by cases e
  | i :: is, p :: ps, vs, S, S', σ, s, r, e => by
    match vs with
    | [] => exact absurd r.1 (by simp)
    | v :: vs =>
      unfold setVs at e
      split at e
      · rename_i hf
        obtain ⟨s1, st1⟩ := s.setVal hf r.head
        obtain ⟨hl, s2, st2⟩ := setVs_go s1 (r.tail.keep (st1.keeps s)) e
        exact ⟨by simp [hl], s2, st1.trans st2⟩
      · cases e
theorem ss_putPars {x y : Str} {i j : Nat} {ts vs' : List Expr} {is : List Nat} {ds : List (AS → R RV)} {kt k2 : Nat} {px py ps' pt pt2 : Pos} (hi : c.N[i]? = some x) (hvi : Vs c x) (hj : c.N[j]? = some y) (hvj : Vs c y) (hn : Nms c ts is)
    (ha : SV G c k vs' ds) (hll : ds.length = is.length + 1) (hl2 : ds.length ≤ 1000)
    (hw : stC c (.Subscript (.Name x px) (.Name y py) ps' :: ts) vs' = some none)
    (hs : ∀ env, swapsWithSole [.Tuple (.Subscript (.Name x px) (.Name y py) ps' :: ts) kt pt] (.Tuple vs' k2 pt2) pos.line env = pure false := by intro _; rfl)
    (h1 : ∀ env, (assignEach (.Subscript (.Name x px) (.Name y py) ps' :: ts) env).length = ds.length := by intro _; rfl) (h2 : ∀ env, List.findIdx? (fun x => x.fst) (assignEach (.Subscript (.Name x px) (.Name y py) ps' :: ts) env) = none := by intro _; rfl)
    (h3 : ∀ env, List.map (fun x => x.snd) (assignEach [.Tuple (.Subscript (.Name x px) (.Name y py) ps' :: ts) kt pt] env) = [assign (.Tuple (.Subscript (.Name x px) (.Name y py) ps' :: ts) kt pt) env] := by intro _; rfl)
    (h4 : ∀ (env : Env) (v : Value), assign ((Expr.Name x px).Subscript (.Name y py) ps') env v = (do
      let ov ← holding [v] (eval (.Name x px) env)
      let iv ← holding [v, ov] (eval (.Name y py) env)
      standAt ps'
      holding [v, ov, iv] (setItem ov iv v)
      release [v, ov, iv] []) := by intro _ _; rfl)
    (hdx : (x == ("__debug__" : Str)) = false := by decide) (hcx : (x == ("__classdict__" : Str)) = false := by decide) (hdy : (y == ("__debug__" : Str)) = false := by decide) (hcy : (y == ("__classdict__" : Str)) = false := by decide) :
    SS G c k (.Assign [.Tuple (.Subscript (.Name x px) (.Name y py) ps' :: ts) kt pt] (.Tuple vs' k2 pt2) pos) (dPutPars i j is ds) := fun X W g tk => by
  have hX : X.K = G.K := by obtain ⟨rfl, _⟩ := g; rfl
  have room := g.room.un
  have e1 : PE X (.Name x px) (tVar i) := pe_var (by rw [g.hN]; exact hi) (by rw [g.hs]; exact hvi) hdx hcx
  have e2 : PE X (.Name y py) (tVar j) := pe_var (by rw [g.hN]; exact hj) (by rw [g.hs]; exact hvj) hdy hcy
  refine ps_of (ps_asg (pe_tup (ha X W g tk)) (pg_tup g.calm (pgs_cons (pg_sub e1 e2 (set_put (by omega)) (h4 _)) (nms_pgs g hn) rfl) (h1 _) (h2 _)) (hs _) (st_by hw _ g.hs) (h3 _)) fun D σ H ⟨O, S, s, z⟩ => ?_
  unfold dPutPars at z
  split at z
  · rename_i p0 ps S1 e
    split at z
    · rename_i io l q eo ek
      split at z
      · rename_i o eg
        split at z
        · rename_i hl
          split at z
          · rename_i S3 e3
            refine vals_run s e fun vs H1 st1 s1 rl => ?_
            match vs, rl with
            | [], rl => exact absurd rl.1 (by simp)
            | v :: vs, rl =>
              refine ⟨?_, fun p hp => ?_⟩
              · rw [rl.1, evV_len e, sizeLine_eq]; omega
              · have ex : Ext H1 (upd H1 p (.tup (v :: vs))) := Ext.new hp
                have s2 := s1.ext ex
                have st2 := st1.s.trans (Step.ext ex s1).s
                have rl2 := rl.keep ((Step.ext ex s1).keeps s1)
                obtain ⟨a, ea, _, _⟩ := s2.own i _ _ _ eo
                obtain ⟨yv, ey, ry⟩ := s2.peek ek
                obtain ⟨H4, pt4, s4, st4⟩ := put_dict s2 eo ea ry eg hl rl2.head
                obtain ⟨hlen, s5, st5⟩ := setVs_go s4 (rl2.tail.keep (st4.keeps s2)) e3
                refine ⟨p, v :: vs, rfl, .inl (.inl upd_same), ?_, v, vs, rfl, .ref a, ea, yv, ey, a, H4, rfl, pt4, gNs_set hlen ?_⟩
                · rw [rl.1, evV_len e]
                · exact z _ _ ((st2.trans st4.s).trans st5) s5
          · exact z.elim
        · exact z.elim
      · exact z.elim
    · exact z.elim
  · exact z.elim
end
end Den
set_option Elab.async false
set_option linter.all false
set_option maxRecDepth 100000
set_option maxHeartbeats 800000
/-! Den41: x in d.values(): the model's look by iteration. -/
namespace Den
open PySem PySem.Spec L2 PyProof.Rows
open PySem.SeqAt (EqAt)
theorem entry_ci : entryFor table "proto.contains_iter" = some Builtin.«proto.contains_iter» := entryFor_of_fast (by kernel_rfl)
theorem plain_ci : plainId "proto.contains_iter" = true := by decide +kernel
section
variable {P : Program} {w : World} {A : Around} {s : Shared}
theorem ci_loop {I : Addr} {fp wr : List Addr} {G : Array GenState → Array GenState → Prop} {n : Nat} {Pv : Nat → Value → Prop} {St : Nat → Shared → Prop} {R : Result → Shared → Prop} {x : Value} {e : List Bool}
    (W : WalksS P w A.in1 I fp wr G n Pv St) (hn : n = e.length) (s0 : Shared) (he : ∀ i v (b : Bool) s', Pv i v → e[i]? = some b → Moved wr G s0 s' → EqAt A.in1 s' v x b) :
    ∀ (m i : Nat) (s : Shared), n - i = m → i ≤ n → St i s → Moved wr G s0 s → (∀ s', Moved wr G s0 s' → R (.ok (.ret (.bool ((e.drop i).any id)))) s') →
      codeAny (model P w) A (.builtin "proto.contains_iter" ⟨[.ref I, x], []⟩) R s := by
  intro m
  induction m with
  | zero =>
    intro i s hm hi hst mv hR
    obtain rfl : i = n := by omega
    refine codeAny_builtin entry_ci ?_
    rw [Around.under_plainId plain_ci _]
    show wpAny _ A.in1 (pyNext (.ref I) >>= _) _ _ s
    refine wpAny_bind (W.done s _ _ hst fun s' mv' => ?_)
    show wpAny _ A.in1 (rule _ >>= _) _ _ s'
    refine wpAny_bind (wpAny_rule ?_)
    show wpAny _ A.in1 (ret (Value.bool false)) _ _ s'
    have q := hR s' (Moved.trans W.gtrans mv mv')
    rw [List.drop_eq_nil_of_le (by omega)] at q
    exact wpAny_pure q
  | succ m ih =>
    intro i s hm hi hst mv hR
    have hlt : i < e.length := by omega
    refine codeAny_builtin entry_ci ?_
    rw [Around.under_plainId plain_ci _]
    show wpAny _ A.in1 (pyNext (.ref I) >>= _) _ _ s
    refine wpAny_bind (W.item i s _ _ (by omega) hst fun v s' hP hst' mv' => ?_)
    have mv2 := Moved.trans W.gtrans mv mv'
    show wpAny _ A.in1 (eqBool v x >>= _) _ _ s'
    refine wpAny_bind (he i v e[i] s' hP (List.getElem?_eq_getElem hlt) mv2 P w _ _ ?_)
    rw [List.drop_eq_getElem_cons hlt, List.any_cons] at hR
    cases hb : e[i] with
    | true =>
      rw [hb] at hR
      show wpAny _ A.in1 (rule _ >>= _) _ _ s'
      refine wpAny_bind (wpAny_rule ?_)
      exact wpAny_pure (hR s' mv2)
    | false =>
      rw [hb] at hR
      exact wpAny_pure ⟨plainId_quiet plain_ci _, ih (i + 1) s' (by omega) (by omega) hst' mv2 hR⟩
end
theorem dv_no_contains : typeLookup (.type "dict_values") "__contains__" = pure none := by rw [typeLookup_type, builtinLookup_eq_fast]; kernel_rfl
section
variable {P : Program} {w : World} {A : Around} {E : Value → Shared → Prop} {s : Shared}
theorem contains_by_iter {c x : Value} {T : String} {Q : Bool → Shared → Prop} (hT : s.TypeIs c T) (hn : typeLookup (.type T) "__contains__" = pure none)
    (h : wpAny (model P w) A (pyIter c) (fun it s' => codeAny (model P w) A (.builtin "proto.contains_iter" ⟨[it, x], []⟩) (wants (fun r s'' => ∃ b, r = .bool b ∧ Q b s'') E) s') (fun _ _ => False) s) : wpAny (model P w) A (contains c x) Q E s := by
  unfold contains
  refine wpAny_holding ?_
  rw [stdlibNamesSay?_of_typeIs hT]
  refine wpAny_bind (wpAny_specialOf hT hn ?_)
  show wpAny (model P w) A (if ((none : Option Value) == some Value.none) = true then _ else _) Q E s
  rw [if_neg (by simp)]
  unfold callSpecialUnlessNone?
  refine wpAny_bind (wpAny_bind (wpAny_specialOf hT hn (wpAny_pure ?_)))
  refine wpAny_bind (wpAny_rule ?_)
  refine wpAny_bind (wpAny_tryCatch (wpAny_mono h (fun it s' h' => ?_) fun _ _ z => z.elim))
  refine wpAny_bind (wpAny_runValue (codeAny_mono h' fun r s2 hr => ?_))
  cases r with
  | error e => exact hr
  | ok fl =>
    cases fl with
    | ret v =>
      obtain ⟨b, rfl, q⟩ := hr
      exact wpAny_pure q
    | _ => exact hr.elim
end
end Den
set_option Elab.async false
set_option linter.all false
set_option maxRecDepth 100000
set_option maxHeartbeats 800000
/-! Den42: x in d.values(). -/
namespace Den
open PySem PySem.Spec L2 PyProof.Rows
open PySem.SeqAt (EqAt)
section
variable {K : PySem.W.Frag} {T T' : Addr → Prop} {H : Hp} {X : Cx} {pins : List (Addr × Obj)} {σ : L2.St} {s : Shared}
theorem vals_in {k : Nat} (hr : Room k X.A) (hc : X.calm = true) (I : Inv X pins σ H s) {x d : V} {u : Value} {p : PV} {l : List (PV × PV)} {b : Bool} {Q : Bool → Shared → Prop} (hx : PRep X.K T' H x p) (ru : RelV x u) (hp : PRep X.K T H d (.dct l)) (e : inO p (l.map (·.2)) = some b)
    (q : ∀ s', Inv X pins σ H s' → Q b s') : ∃ a, d = .ref a ∧ ∃ es ep, s.heap.DictRaw a es ep ∧ (a == sysModules) = false ∧
      wpAny (model X.prog X.w) X.A (contains (.ref s.heap.objs.size) u) Q X.xe { s with heap := s.heap.push { cls := .type "dict_values", data := .fields #[.ref a] } } := by
  obtain ⟨a, es, ep, ws, rfl, raw, hsy, hz, rl, rv⟩ := dct_vals I hp
  refine ⟨a, rfl, es, ep, raw, hsy, ?_⟩
  have k0 : ∀ b o, s.heap.get? b = some o → (s.heap.push { cls := .type "dict_values", data := .fields #[.ref a] }).get? b = some o := fun b o e => Heap.get?_push_of_some _ e
  have I1 : Inv X pins σ H { s with heap := s.heap.push { cls := .type "dict_values", data := .fields #[.ref a] } } := I.kept (t' := s.toks) k0
  have raw1 := raw.at (h' := s.heap.push { cls := .type "dict_values", data := .fields #[.ref a] }) fun o e => k0 a o e
  have hv : (s.heap.push { cls := .type "dict_values", data := .fields #[.ref a] }).IsValuesView s.heap.objs.size a := ⟨_, Heap.get?_push_size _ rfl, rfl, rfl⟩
  have hlt : a < s.heap.objs.size := by obtain ⟨o, e, _⟩ := raw; exact Heap.lt_size e
  obtain ⟨hall, hb⟩ := inO_all e
  refine contains_by_iter hv.typeIs dv_no_contains (PySem.wpAny_pyIter_values_raw (s := { s with heap := s.heap.push { cls := .type "dict_values", data := .fields #[.ref a] } }) hv raw1 ?_)
  have hI : a ≠ (s.heap.push { cls := .type "dict_values", data := .fields #[.ref a] }).objs.size := by rw [Heap.size_push]; exact Nat.ne_of_lt (Nat.lt_succ_of_lt hlt)
  have W := (Walks.rawValues (prog := X.prog) (w := X.w) (A := X.A.in1) (I.ok.hd hc) (s.heap.push { cls := .type "dict_values", data := .fields #[.ref a] }).objs.size a hI es ep).toS
  have hN : es.size = ((es.toList.map fun e : DictEntry => e.val).map (itemB X.K T H p)).length := by rw [List.length_map, List.length_map]; exact Array.length_toList.symm
  have hu : X.A.units + 41 < cLine := by have := hr.un; omega
  have inv : ∀ s', Moved [(s.heap.push { cls := .type "dict_values", data := .fields #[.ref a] }).objs.size] (fun a b => b = a) { s with heap := (s.heap.push { cls := .type "dict_values", data := .fields #[.ref a] }).push { cls := .type "dict_valueiterator", data := .fields #[.ref a, .int 0 0, .int es.size 0, .int ep 0] } } s' → Inv X pins σ H s' := fun s' m => by
    obtain ⟨h', tk, rfl, hk'⟩ := PySem.W.moved_old (s := { s with heap := s.heap.push { cls := .type "dict_values", data := .fields #[.ref a] } }) rfl rfl m
    exact I1.kept (t' := tk) hk'
  refine ci_loop W hN _ (fun i v b' s' hP hb' m => ?_) (es.size - 0) 0 _ rfl (Nat.zero_le _) ⟨⟨_, Heap.get?_push_size _ rfl, rfl, rfl⟩, raw1.at fun o e => Heap.get?_push_of_some _ e⟩ (Moved.refl W.grefl) (fun s' m => ?_)
  · have I2 := inv s' m
    obtain ⟨hi, ev⟩ := hP
    have hm : v ∈ (es.toList.map fun e : DictEntry => e.val).toArray := by
      rw [ev]; simp only [List.mem_toArray, List.mem_map]
      exact ⟨es[i], Array.mem_toList_iff.mpr (Array.getElem_mem hi), rfl⟩
    have z := (in_items I2 hu hx ru rv rl e).1 v hm
    have eb : b' = itemB X.K T H p v := by
      rw [List.getElem?_map, List.getElem?_map, Array.getElem?_toList, Array.getElem?_eq_getElem hi] at hb'
      rw [ev]
      exact (Option.some.inj hb').symm
    rw [eb]
    exact z
  · have z := (in_items I1 hu hx ru rv rl e).2
    refine ⟨b, ?_, q s' (inv s' m)⟩
    rw [List.drop_zero, ← z]
    simp
end
end Den
set_option Elab.async false
set_option linter.all false
set_option maxRecDepth 100000
set_option maxHeartbeats 800000
/-! Den43: x in d.values(), x not in d.values() as tests. -/
namespace Den
open PySem PySem.Spec L2 PyProof.Rows
def inVP (neg : Bool) : List PV → Option RV
  | [p, .dct l] => match inO p (l.map (·.2)) with
    | some b => some (.val (.bl (if neg then !b else b)))
    | none => none
  | _ => none
section
variable {X : Cx} {a o : Expr} {pos apos mpos : Pos} {ta td : TE}
theorem pt_niVals {k : Nat} (hr : Room k X.A) (hc : X.calm = true) (ha : PE X a ta) (hd : PE X o td)
    (hbase : attributeBase o "values" X.env (eval o X.env) = eval o X.env) (hline : (apos.endLine == mpos.line) = true) (hm : behindInMarks .NotIn (Expr.Call (.Attribute o "values" apos) [] [] mpos) = false) :
    PT X (.Compare a [.NotIn] [.Call (.Attribute o "values" apos) [] [] mpos] pos) (tTest (tOp (rP2 X.K (inVP true)) ta td)) := by
  refine ⟨fun pins s σ H Q I h => ?_⟩
  refine wpAny_isTrue_Compare1 (thn (ha.run pins s σ H _ I h) fun v s1 ⟨x, H1, I1, r1, q1⟩ => ?_) hm
  refine wpAny_Call_method0_late hbase hline (thn (hd.run pins s1 σ H1 _ I1 q1) fun u s2 ⟨y, H2, I2, r2, T, ps, rv, t, hp, e, q⟩ => ?_)
  unfold inVP at e
  split at e
  · rename_i p l
    split at e
    · rename_i b eb
      cases e
      obtain ⟨A, ea, es, ep, raw, hsys, w⟩ := vals_in (Q := fun b' s' => wpAny (model X.prog X.w) X.A (truthy (.bool (!b'))) (fun k s'' => ∃ H', Inv X pins σ H' s'' ∧ Q k H') X.xe s') hr hc I2 hp.1 r1 hp.2.1 eb fun s' I' => by
        obtain ⟨k, ek, qk⟩ := q (.bl (!b)) H2 (fun _ _ e => e) (.bl _)
        cases ek
        exact wpAny_truthy_bool ⟨H2, I', qk⟩
      subst ea
      obtain rfl : u = Value.ref A := r2
      obtain ⟨ob, ho, ex, hdat⟩ := raw
      refine ⟨"dict", "dict.values", F.plainAttrs_dict, F.slot_dict_values, F.type_dict_values, ⟨ob, ho, ex.1⟩, fun b e => ?_, Calls.callWith_builtin rfl (PySem.evalArgs_none ?_)⟩
      · cases e
        exact ⟨ob, ho, ex.2.1⟩
      · refine call_meetsIn F.slot_dict_values ⟨ob, ho, ex.1⟩ F.entry_dict_values (F.args_dict_values_1 _) (meets_dict_values_raw A hsys) ⟨⟨es, ep, ob, ho, ex, hdat⟩, ?_⟩
        show wpAny _ _ (do return Value.bool (!(← contains _ _))) _ _ _
        exact wpAny_bind (wpAny_mono w (fun b' s' h' => wpAny_pure h') fun _ _ z => z)
    · cases e
  · cases e
end
section
variable {G : Wd} {c : Cs} {k : Nat} {a o : Expr} {pos apos mpos : Pos} {A B : Opd}
theorem st_niVals (ha : SO G c k a A) (hb : SO G c k o B) (hbs : BaseOk o "values" := by intro _; rfl) (hl : (apos.endLine == mpos.line) = true := by rfl) (hm : behindInMarks .NotIn (Expr.Call (.Attribute o "values" apos) [] [] mpos) = false := by rfl) :
    ST G c k (.Compare a [.NotIn] [.Call (.Attribute o "values" apos) [] [] mpos] pos) (dB (dOp (inVP true) [A, B])) := fun X W g tk => by
  have hX : X.K = G.K := by obtain ⟨rfl, _⟩ := g; rfl
  refine pt_of (pt_niVals g.room g.calm (ha X W g tk) (hb X W g tk) (hbs _) hl hm) fun σ H Q z => ?_
  rw [hX]
  exact sem_rP (ops := [A, B]) (sem_B z)
end
section
variable {X : Cx} {a o : Expr} {pos apos mpos : Pos} {ta td : TE}
theorem pe_niVals {k : Nat} (hr : Room k X.A) (hc : X.calm = true) (ha : PE X a ta) (hd : PE X o td)
    (hbase : attributeBase o "values" X.env (eval o X.env) = eval o X.env) (hline : (apos.endLine == mpos.line) = true) (hm : behindInMarks .NotIn (Expr.Call (.Attribute o "values" apos) [] [] mpos) = false) :
    PE X (.Compare a [.NotIn] [.Call (.Attribute o "values" apos) [] [] mpos] pos) (tOp (rP2 X.K (inVP true)) ta td) := by
  refine ⟨fun pins s σ H Q I h => ?_⟩
  refine wpAny_Compare1 (thn (ha.run pins s σ H _ I h) fun v s1 ⟨x, H1, I1, r1, q1⟩ => ?_) hm
  refine wpAny_Call_method0_late hbase hline (thn (hd.run pins s1 σ H1 _ I1 q1) fun u s2 ⟨y, H2, I2, r2, T, ps, rv, t, hp, e, q⟩ => ?_)
  unfold inVP at e
  split at e
  · rename_i p l
    split at e
    · rename_i b eb
      cases e
      obtain ⟨A, ea, es, ep, raw, hsys, w⟩ := vals_in (Q := fun b' s' => ∃ z H', Inv X pins σ H' s' ∧ RelV z (Value.bool (!b')) ∧ Q z H') hr hc I2 hp.1 r1 hp.2.1 eb fun s' I' => ⟨.bl (!b), H2, I', rfl, q (.bl (!b)) H2 (fun _ _ e => e) (.bl _)⟩
      subst ea
      obtain rfl : u = Value.ref A := r2
      obtain ⟨ob, ho, ex, hdat⟩ := raw
      refine ⟨"dict", "dict.values", F.plainAttrs_dict, F.slot_dict_values, F.type_dict_values, ⟨ob, ho, ex.1⟩, fun b e => ?_, Calls.callWith_builtin rfl (PySem.evalArgs_none ?_)⟩
      · cases e
        exact ⟨ob, ho, ex.2.1⟩
      · refine call_meetsIn F.slot_dict_values ⟨ob, ho, ex.1⟩ F.entry_dict_values (F.args_dict_values_1 _) (meets_dict_values_raw A hsys) ⟨⟨es, ep, ob, ho, ex, hdat⟩, ?_⟩
        show wpAny _ _ (do return Value.bool (!(← contains _ _))) _ _ _
        exact wpAny_bind (wpAny_mono w (fun b' s' h' => wpAny_pure h') fun _ _ z => z)
    · cases e
  · cases e
end
section
variable {G : Wd} {c : Cs} {k : Nat} {a o : Expr} {pos apos mpos : Pos} {A B : Opd}
theorem se_niVals (ha : SO G c k a A) (hb : SO G c k o B) (hbs : BaseOk o "values" := by intro _; rfl) (hl : (apos.endLine == mpos.line) = true := by rfl) (hm : behindInMarks .NotIn (Expr.Call (.Attribute o "values" apos) [] [] mpos) = false := by rfl) :
    SE G c k (.Compare a [.NotIn] [.Call (.Attribute o "values" apos) [] [] mpos] pos) (dOp (inVP true) [A, B]) := fun X W g tk => by
  have hX : X.K = G.K := by obtain ⟨rfl, _⟩ := g; rfl
  refine pe_of (pe_niVals g.room g.calm (ha X W g tk) (hb X W g tk) (hbs _) hl hm) fun σ H Q z => ?_
  rw [hX]
  exact sem_rP (ops := [A, B]) z
end
end Den
set_option Elab.async false
set_option linter.all false
set_option maxRecDepth 100000
set_option maxHeartbeats 800000
/-! Den44: a display {k: v} whose one key is a tuple. -/
namespace Den
open PySem L2 PyProof.Rows
section
variable {G : Wd} {c : Cs} {k k' : Nat} {W : WX} {O : Addr → Prop} {σ σ' σ1 σ2 : L2.St} {S S0 S1 S2 S3 S' Si : AS} {H H0 H1 H2 H4 H' : Hp} {X : Cx} {e a b tg : Expr} {es : List Expr} {pos apos : Pos} {K : PySem.W.Frag} {T T' : Addr → Prop} {vs ix : List Nat}
def tDispT1 (tk tv : TE) : TE := fun σ H Q => ∀ p, H p = none → tk σ (upd H p (.dT [])) fun x H1 => tv σ H1 fun y H2 => H2 p = some (.dT []) ∧ ∃ (d : Addr) (ks : List L2.Key), x = .ref d ∧ H2 d = some (.tup (ks.map kV)) ∧ Q (.ref p) (upd H2 p (.dT [(ks, y)]))
theorem pe_dispT1 {kx vx : Expr} {tk tv : TE} (hu : X.A.units + 1 < cLine) (hk : PE X kx tk) (hv : PE X vx tv) : PE X (.Dict [some kx] [vx] pos) (tDispT1 tk tv) := by
  refine ⟨fun pins s σ H Q I q => ?_⟩
  have hn := I.hok.fresh (Nat.le_refl s.heap.objs.size)
  have I1 := I.laid (a := s.heap.objs.size) (o := .dT []) (h' := s.heap.push { cls := .type "dict", data := .dict #[] }) (t' := s.toks) (fun _ _ q => Heap.get?_push_of_some _ q) (Nat.le_refl _) (dt_empty s.heap I.big)
  refine wpAny_Dict_any rfl rfl (by exact fun h => nomatch h) (by show 1 ≤ 15; decide) (pairTrees_cons_walk (thn (hk.run pins _ σ _ _ I1 (q _ hn)) fun u s1 ⟨x, H1, I1, rx, q1⟩ => thn (hv.run pins s1 σ H1 _ I1 q1) fun w s2 ⟨y, H2, I2, ry, e, d, ks, ex, ed, q2⟩ => pairTrees_nil_walk ?_))
  subst ex
  cases (show u = Value.ref d from rx)
  obtain ⟨z, hd, xs, rel, dd⟩ := dt_of I2.hok e
  cases rel
  show wpAny _ _ (forIn [(Value.ref d, w)] PUnit.unit _) _ _ _
  rw [List.forIn_cons]
  refine wpAny_bind (wpAny_bind (wpAny_dictSet_heap (hsz := by decide) (show X.A.units < cLine by omega) (key_of I2.hok ed) dd fun h' dd' hs => wpAny_pure ?_))
  show wpAny _ _ (forIn ([] : List (Value × Value)) PUnit.unit _) _ _ _
  rw [List.forIn_nil]
  refine wpAny_pure ⟨.ref s.heap.objs.size, _, ?_, rfl, q2⟩
  obtain ⟨o, es, ep, hq, h2, h3, h4, _, h5⟩ := dd'
  refine d_write I2 (by rw [e]; exact True.intro) hs ⟨o, hq⟩ ⟨by rw [sizeLine_eq]; show 1 ≤ _; decide, hd, _, .cons ⟨rfl, ?_, ry⟩ .nil, o, es, ep, hq, h2, h3, h4, h5⟩
  rw [upd_ne (ne_of ed e (fun z => nomatch z))]
  exact ed
def keyT : PV → Option (List L2.Key)
  | .tup l => keysOfP l
  | _ => none
theorem keysOfP_pv : ∀ {l : List PV} {ks : List L2.Key}, keysOfP l = some ks → l = ks.map keyPV
  | [], ks, h => by cases h; rfl
  | p :: l, ks, h => by
    unfold keysOfP at h
    split at h
    · rename_i k ks' e1 e2
      cases h
      rw [List.map_cons, ← keysOfP_pv e2]
      congr 1
      cases p <;> simp [keyP] at e1 <;> (subst e1; rfl)
    · cases h
def dDispT (d1 d2 : AS → R RV) : AS → R RV := fun S => match d1 S with
  | .ok rv S1 => match keyT rv.pv with
    | some _ => match d2 S1 with
      | .ok rv' S2 => .ok (.fresh (.dct [(rv.pv, rv'.pv)])) S2
      | _ => .bad
    | none => .bad
  | _ => .bad
theorem rep_keys : ∀ {ks : List L2.Key} {vs : List V}, RepL K T H vs (ks.map keyPV) → vs = ks.map kV
  | [], vs, r => by rw [List.map_nil] at r; rw [r.inv_nil]; rfl
  | k :: ks, vs, r => by
    rw [List.map_cons] at r
    obtain ⟨v, vs', rfl, h, t⟩ := r.inv_cons
    rw [List.map_cons, ← rep_keys t]
    congr 1
    cases k <;> cases h <;> rfl
theorem se_dispT {d1 d2 : AS → R RV} (h1 : SE G c k a d1) (h2 : SE G c k b d2) : SE G c k (.Dict [some a] [b] pos) (dDispT d1 d2) := fun X W g tk =>
  pe_of (pe_dispT1 (by have := g.room.un; omega) (h1 X W g tk) (h2 X W g tk)) fun σ H Q z => by
    obtain ⟨O, S, s, z⟩ := z
    have z : Gv G W O S σ H (dDispT d1 d2 S) Q := z
    unfold dDispT at z
    split at z
    · rename_i rv S1 e1
      split at z
      · rename_i ks ek
        split at z
        · rename_i rv' S2 e2
          intro p hp
          have nO : ¬ O p := s.ot.none hp
          have s0 : SRel G.K (Oadd O p) S σ (upd H p (.dT [])) := s.extAdd (Ext.new hp) hp (by rw [upd_same]; trivial)
          refine sem_of s0 ?_
          show Gv G W (Oadd O p) S σ _ (d1 S) _
          rw [e1]
          intro v H1 st1 res1
          obtain ⟨s1, r1⟩ := res1.toVal s0 st1
          refine sem_of s1 ?_
          show Gv G W (Oadd O p) S1 σ H1 (d2 S1) _
          rw [e2]
          intro y H2 st2 res2
          obtain ⟨s2, r2⟩ := res2.toVal s1 st2
          have hD : H2 p = some (.dT []) := (st2.oo p (.inr rfl)).trans ((st1.oo p (.inr rfl)).trans upd_same)
          have r1' := r1.keep (st2.keeps s1)
          cases hpv : rv.pv with
          | tup l =>
            rw [hpv] at ek r1'
            have el : l = ks.map keyPV := keysOfP_pv ek
            subst el
            cases r1' with
            | @tup d vs _ hd hl hr =>
              have ev : vs = ks.map kV := rep_keys ⟨hl, hr⟩
              subst ev
              refine ⟨hD, d, ks, rfl, hd, ?_⟩
              obtain ⟨s3, kp⟩ := s2.updO (D := p) (o := .dT [(ks, y)]) (.inr rfl) trivial
              have stA : Step O S S2 σ H H2 := (Step.ext (Ext.new hp) s).trans ((st1.trans st2).shrink fun x h => .inl h)
              rw [hpv] at z
              exact z _ _ (stA.updNew hp nO) ⟨p, rfl, hp, s3, .inr ⟨_, upd_same, (fun h => nomatch h), RepT.cons rfl (r2.keep kp) RepT.nil⟩⟩
          | _ => rw [hpv] at ek; cases ek
        · exact z.elim
      · exact z.elim
    · exact z.elim
end
end Den
set_option Elab.async false
set_option linter.all false
set_option maxRecDepth 100000
set_option maxHeartbeats 1000000
/-! Den45: enumerate(tuple). -/
namespace PySem
open Sem (wp)
set_option maxHeartbeats 1000000 in
theorem meets_enumerate_newB1 {v : Value} {o : Obj} {H : Heap → Prop} (B : Begins v o H) :
    Meets (Builtin.«enumerate.__new__» ⟨[.type "enumerate", v], []⟩) (fun _ R s => H s.heap ∧
      R (.ok (.ret (.ref (s.heap.push o).objs.size))) { s with heap := (s.heap.push o).push { cls := .type "enumerate", data := .fields #[.none, .bool false, .ref s.heap.objs.size, rawInt 0, .none, .none] } }) :=
  .of_wp fun prog w A R s h => by
    obtain ⟨hp, g, d, tk, os⟩ := s; obtain ⟨h1, h⟩ := h
    have hsub := sub_enumerate
    have q1 : ∀ {A' : Around} {E : Value → Shared → Prop} {Q : Value → Shared → Prop}, Q (.ref hp.objs.size) ⟨hp.push o, g, d, tk, os⟩ → wpAny (model prog w) A' (pyIter v) Q E ⟨hp, g, d, tk, os⟩ :=
      fun q => B.iter prog w _ _ ⟨hp, g, d, tk, os⟩ _ h1 q
    wp_walk using q1
    refine wpAny_stack_any fun st => wpAny_pure ?_
    split
    · rename_i c _ _ _ _ _
      cases (c == Value.type "enumerate")
      · wp_walk using q1
        exact ⟨_, rfl, h⟩
      · wp_walk using q1
        exact ⟨_, rfl, h⟩
    · wp_walk using q1
      exact ⟨_, rfl, h⟩
section
variable {prog : Program} {w : World} {A : Around} {E : Value → Shared → Prop} {s : Shared}
theorem enum_begins1 {v : Value} {o : Obj} {H : Heap → Prop} {Q : Value → Shared → Prop} (B : Begins v o H) (h1 : H s.heap)
    (h : ∀ h', IsEnum h' (s.heap.objs.size + 1) s.heap.objs.size 0 .none → h'.get? s.heap.objs.size = some o → h'.objs.size = s.heap.objs.size + 2 →
      (∀ b o, s.heap.get? b = some o → h'.get? b = some o) → Q (.ref (s.heap.objs.size + 1)) { s with heap := h' }) :
    wpAny (model prog w) A (call (.type "enumerate") [v]) Q E s := by
  refine callType_new F.called_enumerate (by decide) (F.typeCall_enumerate_1 _) (F.newCall_enumerate_1 _) (fun obj => F.args_object_init_2 obj _) F.entry_enumerate_new
    (meets_enumerate_newB1 B) ⟨h1, ?_⟩
  have hz : (s.heap.push o).objs.size = s.heap.objs.size + 1 := Heap.size_push ..
  show _ ∧ _
  rw [hz]
  have he : IsEnum ((s.heap.push o).push { cls := .type "enumerate", data := .fields #[.none, .bool false, .ref s.heap.objs.size, rawInt 0, .none, .none] }) (s.heap.objs.size + 1) s.heap.objs.size 0 .none := by
    have := Heap.get?_push_size (s.heap.push o) (o := { cls := .type "enumerate", data := .fields #[.none, .bool false, .ref s.heap.objs.size, rawInt 0, .none, .none] }) rfl
    rw [hz] at this; exact this
  refine ⟨⟨_, he, rfl⟩, h _ he (Heap.get?_push_of_some _ (Heap.get?_push_size _ B.free)) (by rw [Heap.size_push, hz]) fun b o x => Heap.get?_push_of_some _ (Heap.get?_push_of_some _ x)⟩
theorem wpAny_pyNext_enum_end_tup {e it a : Addr} {i : Nat} {items : Array Value} {old : Value} {Q : Option Value → Shared → Prop} (hh : A.handled = none) (he : IsEnum s.heap e it i old) (hit : s.heap.IsTupleIter it a i) (ht : s.heap.IsTuple a items) (hle : items.size ≤ i)
    (hQ : ∀ h', Heap.ExtBut it s.heap h' → Q none { s with heap := h' }) : wpAny (model prog w) A (pyNext (.ref e)) Q E s := by
  have hT : s.TypeIs (.ref e) "enumerate" := ⟨_, he, rfl⟩
  unfold pyNext
  refine wpAny_bind (wpAny_attempt (wpAny_callSpecial?_slot (name := Str.ofString "__next__") hT F.slot_enumerate_next
    (wpAny_call_entry F.slot_enumerate_next hT F.entry_enumerate_next ?_ (F.args_enumerate_next_1 _))))
  show wpAny _ _ (field (.ref e) 2 >>= _) _ _ _
  refine wpAny_bind (wpAny_field he rfl (x := .ref it) rfl ?_)
  refine wpAny_bind (wpAny_nextOf_tuple_end (by exact hh) hit ht (Array.getElem?_eq_none hle) fun h' x he' hx' => ?_)
  obtain ⟨o, ho, hc⟩ := hx'
  refine wpAny_bind (wpAny_isInstance (T := "StopIteration") (b := true) ⟨o, ho, hc⟩ isSubtype_stop ?_)
  exact wpAny_pure (hQ _ he')
end
end PySem
namespace Den
open PySem L2 PyProof.Rows
/-- the tuple at a, each item in a new pair -/
def IteT (K : PySem.W.Frag) (a : Addr) : It :=
  ⟨fun i H => ∃ (xs : List V) (x : V), SqT K H a xs ∧ xs[i]? = some x, fun i H v H' => ∃ T x, v = .ref T ∧ H T = none ∧ H' = upd H T (.tup [.int (i : Nat), x]) ∧ ∀ xs, SqT K H a xs → xs[i]? = some x, fun i H => ∃ xs : List V, SqT K H a xs ∧ xs.length ≤ i⟩
theorem turn_enumT {P : Program} {w : World} {K : PySem.W.Frag} {elts : List Expr} {kk : Nat} {tpos : Pos} (a e it : Addr) :
    Turn P w K (.Tuple elts kk tpos) (IteT K a) [e, it] e (fun i h => (∃ old, IsEnum h e it ((i : Nat) : Int) old) ∧ h.IsTupleIter it a i ∧ e ≠ it) where
  mem := by simp
  obj := fun i h st b hb => by
    obtain ⟨⟨old, he⟩, ⟨o, ho, hc, hd⟩, _⟩ := st
    have e' : b = e ∨ b = it := by simpa using hb
    rcases e' with z | z
    · rw [z]; exact ⟨_, he, fun v q => nomatch q⟩
    · rw [z]; exact ⟨o, ho, fun v q => by rw [hd] at q; cases q⟩
  keep := fun i h h' st k => let ⟨⟨old, he⟩, hi, hne⟩ := st; ⟨⟨old, k e (by simp) _ he⟩, hi.at fun o q => k it (by simp) o q, hne⟩
  item := by
    intro X hP hw hK hc i pins s σ H E I hf st hg
    subst hP hw hK
    obtain ⟨⟨old, he⟩, hit, hne⟩ := st
    obtain ⟨xs, x, hq, hx⟩ := hg
    obtain ⟨its, rv, p, hz⟩ := I.tuple hq
    obtain ⟨u, hu, ru⟩ := rv.get hx
    have ht : s.heap.IsTuple a its.toArray := p
    have hel : e < s.heap.objs.size := Heap.lt_size he
    have hil : it < s.heap.objs.size := by obtain ⟨_, q, _⟩ := hit; exact Heap.lt_size q
    have hai : a ≠ it := by
      rintro rfl
      obtain ⟨o1, q1, c1, _⟩ := hit
      obtain ⟨o2, q2, c2, _⟩ := ht
      cases q1.symm.trans q2
      rw [c1] at c2; exact absurd c2 (by decide)
    have hea : e ≠ a := by
      rintro rfl
      obtain ⟨o2, q2, c2, _⟩ := ht
      cases he.symm.trans q2
      exact absurd (show Value.type "enumerate" = Value.type "tuple" from c2) (by decide)
    have hlt : i < its.toArray.size := by
      have : i < its.length := (List.getElem?_eq_some_iff.mp hu).1
      simpa using this
    refine wpAny_pyNext_enum_itemD (Draws.tuple (by exact I.ok.hd hc) it a hai its.toArray) he ⟨hit, ht⟩ hlt hne (by simp [hne, hea]) fun x' h' tk hx' ho ⟨hit', ht'⟩ hT hsz hk => ?_
    have exu : x' = u := by
      have q : its[i]? = some x' := by simpa using hx'
      rw [hu] at q; exact (Option.some.inj q).symm
    subst exu
    refine ⟨_, rfl, wpAny_letOwnedTupleGo_enum (s := { s with heap := h', toks := tk + 1 }) ho fun h'' he' sb => ?_⟩
    have hT2 : h''.get? s.heap.objs.size = some { cls := .type "tuple", data := .seq #[.int i tk, x'] } := (sb.2 _ (Nat.ne_of_gt hel)).trans hT
    have new : ObjOk X.prog X.w (upd H s.heap.objs.size (.tup [.int (i : Nat), x])) h'' s.heap.objs.size (.tup [.int (i : Nat), x]) :=
      ⟨by show 2 ≤ sizeLine; decide, [.int i tk, x'], .cons ⟨_, rfl⟩ (.cons ru .nil), ⟨_, hT2, rfl, _, rfl⟩⟩
    have I1 : Inv X pins σ (upd H s.heap.objs.size (.tup [.int (i : Nat), x])) { s with heap := h'', toks := tk + 1 } :=
      I.turnedNew (ch := [e, it]) (fun b ob hb q => (sb.2 b (fun z => hb (by simp [z]))).trans (hk b ob (fun z => hb (by simp [z])) (fun z => hb (by simp [z])) q)) hf (Nat.le_refl _) new
    refine ⟨.ref s.heap.objs.size, _, I1, rfl, ⟨_, x, rfl, I.hok.fresh (Nat.le_refl _), rfl, fun ys hy => by rw [I.tuple_inj hy hq]; exact hx⟩, ⟨⟨x', ?_⟩, hit'.at fun o q => (sb.2 it (Ne.symm hne)).trans q, hne⟩, fun b hb => ?_⟩
    · have e1 : ((i + 1 : Nat) : Int) = (i : Int) + 1 := by omega
      rw [e1]; exact he'
    · have hb' : b < s.heap.objs.size := by
        have e' : b = e ∨ b = it := by simpa using hb
        rcases e' with z | z
        · rw [z]; exact hel
        · rw [z]; exact hil
      rw [upd_ne (Nat.ne_of_lt hb')]
      exact (hf b hb).1
  done := by
    intro X hP hw hK hc i pins s σ H E I hf st hg
    subst hP hw hK
    obtain ⟨⟨old, he⟩, hit, hne⟩ := st
    obtain ⟨xs, hq, hx⟩ := hg
    obtain ⟨its, rv, p, hz⟩ := I.tuple hq
    obtain ⟨f0, f1, f2, f3, f4, f5⟩ := hf it (by simp)
    have ht : s.heap.IsTuple a its.toArray := p
    have hl := rv.length
    exact wpAny_pyNext_enum_end_tup (I.ok.hd hc) he hit ht (by simp; omega) fun h' eb => ⟨rfl, I.turned (t' := s.toks) (fun b o hb q => eb b o hb q) f0 f1 f3 f4 f5⟩
  self := fun A i s Q E st h => let ⟨⟨_, he⟩, _⟩ := st; wpAny_pyIter_enum he h
def iEnumT (K : PySem.W.Frag) (ta : TA) : TI := fun σ H R => ta σ H fun vs H1 => ∃ a xs, vs = [.ref a] ∧ SqT K H1 a xs ∧ R (IteT K a) H1
theorem pi_enumT {X : Cx} {e : Expr} {ta : TA} {p pos tpos : Pos} {elts : List Expr} {kk : Nat} (hg : Gl X "enumerate") (hm : X.mg "enumerate" = none) (ha : PA X [e] ta) (hs : starEach [e] X.env = [(false, eval e X.env)] := by rfl) :
    PI X (.Tuple elts kk tpos) (.Call (.Name "enumerate" p) [e] [] pos) (iEnumT X.K ta) := by
  refine ⟨fun pins s σ H R I h => ?_⟩
  refine Call_ (ld_blt I hg hm boot_enumerate (PyProof.Rows.callWith_type1 (thn (ha.run pos pins s σ H _ I h) fun us s1 ⟨vs, H1, I1, r1, q1⟩ => ?_) hs rfl))
  obtain ⟨a, xs, ex, hq, q⟩ := q1
  subst ex
  cases r1 with
  | cons r rr =>
    cases rr
    cases r
    obtain ⟨its, rv, p', hz⟩ := I1.tuple hq
    refine enum_begins1 (begins_tuple a its.toArray) p' fun h' he hit hsz hk => wpAny_pyIter_enum he ?_
    have I2 : Inv X pins σ H1 { s1 with heap := h' } := I1.kept (t' := s1.toks) hk
    refine ⟨s1.heap.objs.size + 1, [s1.heap.objs.size + 1, s1.heap.objs.size], _, _, H1, rfl, I2, turn_enumT a (s1.heap.objs.size + 1) s1.heap.objs.size, ⟨⟨.none, he⟩, ⟨_, hit, rfl, rfl⟩, Nat.succ_ne_self _⟩, fun b hb => ?_, q⟩
    have e' : b = s1.heap.objs.size + 1 ∨ b = s1.heap.objs.size := by simpa using hb
    have hle : s1.heap.objs.size ≤ b := by
      rcases e' with z | z
      · rw [z]; exact Nat.le_add_right _ _
      · rw [z]; exact Nat.le_refl _
    exact I1.fpOk hle (I1.hok.fresh hle)
section
variable {G : Wd} {c : Cs} {k k' : Nat} {W : WX} {O : Addr → Prop} {σ σ' σ1 σ2 : L2.St} {S S0 S1 S2 S3 S' Si : AS} {H H0 H1 H2 H4 H' : Hp} {X : Cx} {e a b tg o : Expr} {es : List Expr} {pos apos cpos : Pos} {A B C : Opd} {K : PySem.W.Frag} {T T' : Addr → Prop} {vs ix : List Nat}
theorem strm_enumT {a : Addr} {l : List PV} (h : ∀ T' H', Keeps T T' H H' → ∃ vs, H' a = some (.tup vs) ∧ RepL K T' H' vs l) : Strm K T H (IteT K a) (enumP 0 l) [] := fun T' H' tk kp hl i => by
  obtain ⟨vs, h1, r⟩ := h T' H' kp
  rw [enumP_len]
  refine ⟨fun hi => ?_, fun hi => ⟨vs, .inl (.inl h1), by rw [r.1]; exact hi⟩, fun x H2 p hy hp => ?_⟩
  · obtain ⟨v, hv⟩ := repl_ix r hi
    exact ⟨vs, v, .inl (.inl h1), hv⟩
  · obtain ⟨Tt, x, rfl, hT, rfl, hy⟩ := hy
    have ex : Ext H' (upd H' Tt (.tup [V.int (i : Nat), x])) := Ext.new hT
    refine ⟨ex, ?_⟩
    rw [enumP_get] at hp
    cases e2 : l[i]? with
    | none => rw [e2] at hp; cases hp
    | some q =>
      rw [e2] at hp
      cases hp
      have rp := r.2 i x q (hy vs (.inl (.inl h1))) e2
      have rr : RepL K T' (upd H' Tt (.tup [V.int (i : Nat), x])) [V.int (i : Nat), x] [.int ((0 + i : Nat) : Int), q] := .cons (by rw [Nat.zero_add]; exact .int _) (.cons (rp.keep (.ext tk ex)) .nil)
      exact .tup upd_same rr.1 rr.2
/-- enumerate(list or tuple) -/
def dEnumB (A : Opd) : DI := fun S => match evI A S with
  | .ok (.lst l, lk) S' => .ok (enumP 0 l, lk) S'
  | .ok (.tup l, lk) S' => .ok (enumP 0 l, lk) S'
  | .exc x p S' => .exc x p S'
  | _ => .bad
theorem enumB_go {R : It → Hp → Prop} (z : tItr G W (dEnumB A) σ H R) : iEnum G.K (tOpds G W [A]) σ H R ∨ iEnumT G.K (tOpds G W [A]) σ H R := by
  obtain ⟨O, S, s, z⟩ := z
  unfold dEnumB at z
  show tOpd G W A σ H (fun v H1 => ∃ a xs, [v] = [V.ref a] ∧ SqL G.K H1 a xs ∧ R (Ite G.K a) H1) ∨ tOpd G W A σ H (fun v H1 => ∃ a xs, [v] = [V.ref a] ∧ SqT G.K H1 a xs ∧ R (IteT G.K a) H1)
  cases e : evI A S with
  | bad => simp only [e] at z; exact z.elim
  | exc x p S' => simp only [e] at z; exact .inl (held_opd s (by rw [e]; exact z))
  | ok r S' =>
    obtain ⟨p, lk⟩ := r
    simp only [e] at z
    cases p with
    | lst l =>
      simp only at z
      refine .inl (held_opd s ?_)
      rw [e]
      intro v H' st s' hd
      obtain ⟨a, la, rfl, ob, hl⟩ := held_list s' hd
      have str := strm_enum hl
      obtain ⟨vs, h1, _⟩ := hl _ H' (.refl s'.tok) (fun q hq => by
        obtain ⟨i, io, e1, e2⟩ := ob q hq
        obtain ⟨b, e3, _, r⟩ := s'.own i io true _ e1
        rw [e2] at e3; cases e3; exact r)
      exact ⟨a, vs, rfl, .inl (.inl h1), z _ H' la st s' ⟨ob, evI_nl e⟩ str⟩
    | tup l =>
      simp only at z
      refine .inr (held_opd s ?_)
      rw [e]
      intro v H' st s' hd
      obtain ⟨a, rfl, hl⟩ := held_tup hd
      have str := strm_enumT hl
      obtain ⟨vs, h1, _⟩ := hl _ H' (.refl s'.tok)
      exact ⟨a, vs, rfl, .inl (.inl h1), z _ H' [] st s' ⟨fun q hq => by simp at hq, evI_nl e⟩ str⟩
    | str l => simp only at z; exact z.elim
    | dct l => simp only at z; exact z.elim
    | non => simp only at z; exact z.elim
    | bl b => simp only at z; exact z.elim
    | int b => simp only at z; exact z.elim
theorem si_enumB {elts : List Expr} {kk : Nat} {tpos p : Pos} (b : Bi G c "enumerate" (.type "enumerate")) (ha : SO G c k e A) (hs : ∀ env, starEach [e] env = [(false, eval e env)] := by intro _; rfl) : SI G c k (.Tuple elts kk tpos) (.Call (.Name "enumerate" p) [e] [] pos) (dEnumB A) := fun X W g tk => by
  have h := ha X W g tk
  obtain ⟨rfl, _, hsc, _⟩ := g
  have hg : Gl X "enumerate" := show X.env.scope.names.lookup ("enumerate" : Str) = some .globalImplicit by rw [hsc]; exact b.gl
  exact pi_of (pi_orT (pi_enum hg b.mg (pa_cons h pa_nil (hs _)) (hs _)) (pi_enumT hg b.mg (pa_cons h pa_nil (hs _)) (hs _))) fun σ H R z => enumB_go z
end
end Den
set_option Elab.async false
set_option linter.all false
set_option maxRecDepth 100000
set_option maxHeartbeats 1000000
/-! Pu1: how denotations are worked out at states whose places are told one by one. -/
namespace Den
open PySem L2 PyProof.Rows
section
variable {S S' S1 S2 S3 : AS} {α : Type}

/-! ### what a denotation answers, with the state put in: every continuation has a name (no binders for the simplifier to go under) -/
def op2 (S : AS) : Option RV → R RV
  | some rv => .ok rv S
  | none => .bad
def op1 (f : List PV → Option RV) : R (List PV) → R RV
  | .ok ps S => op2 S (f ps)
  | .exc c p S => .exc c p S
  | .bad => .bad
theorem op1_ok (f : List PV → Option RV) (ps : List PV) (S : AS) : op1 f (.ok ps S) = op2 S (f ps) := id rfl
theorem op2_some (S : AS) (rv : RV) : op2 S (some rv) = .ok rv S := id rfl
theorem dOp_ap (f : List PV → Option RV) (ops : List Opd) (S : AS) : dOp f ops S = op1 f (evs ops S) := by
  unfold dOp op1 op2
  cases evs ops S with
  | ok ps S' => first | rfl | (dsimp only; cases f ps <;> rfl)
  | exc c p S' => rfl
  | bad => rfl
theorem dC_ap (p : PV) (S : AS) : dC p S = .ok (.val p) S := id rfl
theorem pv_val (p : PV) : (RV.val p).pv = p := id rfl
theorem pv_fresh (p : PV) : (RV.fresh p).pv = p := id rfl
theorem evs_nil (S : AS) : evs [] S = .ok [] S := id rfl
def ev2 (p : PV) : R (List PV) → R (List PV)
  | .ok ps S' => .ok (p :: ps) S'
  | .exc c p S => .exc c p S
  | .bad => .bad
theorem ev2_ok (p : PV) (ps : List PV) (S : AS) : ev2 p (.ok ps S) = .ok (p :: ps) S := id rfl
def ev1 (r : List Opd) : R RV → R (List PV)
  | .ok rv S1 => ev2 rv.pv (evs r S1)
  | .exc c p S => .exc c p S
  | .bad => .bad
theorem ev1_ok (r : List Opd) (rv : RV) (S : AS) : ev1 r (.ok rv S) = ev2 rv.pv (evs r S) := id rfl
theorem evs_tm (d : AS → R RV) (r : List Opd) (S : AS) : evs (.tm d :: r) S = ev1 r (d S) := by
  rw [evs]
  unfold ev1 ev2
  cases d S with
  | ok rv S1 => first | rfl | (dsimp only; cases evs r S1 <;> rfl)
  | exc c p S' => rfl
  | bad => rfl
def ev5 (ps : List PV) (S' : AS) : Option PV → R (List PV)
  | some p => .ok (p :: ps) S'
  | none => .bad
theorem ev5_some (ps : List PV) (S' : AS) (p : PV) : ev5 ps S' (some p) = .ok (p :: ps) S' := id rfl
def ev4 (i : Nat) : R (List PV) → R (List PV)
  | .ok ps S' => ev5 ps S' (peek S' i)
  | .exc c p S => .exc c p S
  | .bad => .bad
theorem ev4_ok (i : Nat) (ps : List PV) (S : AS) : ev4 i (.ok ps S) = ev5 ps S (peek S i) := id rfl
def ev3 (i : Nat) (r : List Opd) (S : AS) : Option PV → R (List PV)
  | some _ => ev4 i (evs r S)
  | none => .bad
theorem ev3_some (i : Nat) (r : List Opd) (S : AS) (p : PV) : ev3 i r S (some p) = ev4 i (evs r S) := id rfl
theorem evs_nm (i : Nat) (r : List Opd) (S : AS) : evs (.nm i :: r) S = ev3 i r S (peek S i) := by
  rw [evs]
  unfold ev3 ev4 ev5
  cases peek S i with
  | none => rfl
  | some x =>
    first
    | rfl
    | (dsimp only
       cases evs r S with
       | ok ps S' => first | rfl | (dsimp only; cases peek S' i <;> rfl)
       | exc c p S' => rfl
       | bad => rfl)
theorem evV_nil (S : AS) : evV [] S = .ok [] S := id rfl
def ev1V (r : List (AS → R RV)) : R RV → R (List PV)
  | .ok rv S1 => ev2 rv.pv (evV r S1)
  | .exc c p S => .exc c p S
  | .bad => .bad
theorem ev1V_ok (r : List (AS → R RV)) (rv : RV) (S : AS) : ev1V r (.ok rv S) = ev2 rv.pv (evV r S) := id rfl
theorem evV_cons (d : AS → R RV) (r : List (AS → R RV)) (S : AS) : evV (d :: r) S = ev1V r (d S) := by
  rw [evV]
  unfold ev1V ev2
  cases d S with
  | ok rv S1 => first | rfl | (dsimp only; cases evV r S1 <;> rfl)
  | exc c p S' => rfl
  | bad => rfl
def tup1 : R (List PV) → R RV
  | .ok ps S' => .ok (.val (.tup ps)) S'
  | .exc c p S => .exc c p S
  | .bad => .bad
theorem tup1_ok (ps : List PV) (S : AS) : tup1 (.ok ps S) = .ok (.val (.tup ps)) S := id rfl
def lst1 : R (List PV) → R RV
  | .ok ps S' => .ok (.fresh (.lst ps)) S'
  | .exc c p S => .exc c p S
  | .bad => .bad
theorem lst1_ok (ps : List PV) (S : AS) : lst1 (.ok ps S) = .ok (.fresh (.lst ps)) S := id rfl
theorem dTup_ap (ds : List (AS → R RV)) (S : AS) : dTup ds S = tup1 (evV ds S) := by unfold dTup tup1; cases evV ds S <;> rfl
theorem dLst_ap (ds : List (AS → R RV)) (S : AS) : dLst ds S = lst1 (evV ds S) := by unfold dLst lst1; cases evV ds S <;> rfl
def RV.asB : RV → Option Bool
  | .val (.bl b) => some b
  | _ => none
theorem RV.asB_bl (b : Bool) : RV.asB (.val (.bl b)) = some b := id rfl
def b2 (S' : AS) : Option Bool → R Bool
  | some b => .ok b S'
  | none => .bad
theorem b2_some (S' : AS) (b : Bool) : b2 S' (some b) = .ok b S' := id rfl
def b1 : R RV → R Bool
  | .ok rv S' => b2 S' rv.asB
  | .exc c p S => .exc c p S
  | .bad => .bad
theorem b1_ok (rv : RV) (S : AS) : b1 (.ok rv S) = b2 S rv.asB := id rfl
theorem dB_ap (d : AS → R RV) (S : AS) : dB d S = b1 (d S) := by
  unfold dB b1 b2 RV.asB
  split
  · rename_i e; simp only [e]
  · rename_i e; simp only [e]
  · rename_i h1 h2
    cases e : d S with
    | ok rv S' =>
      dsimp only
      cases rv with
      | val p => cases p with
        | bl b => exact absurd e (h1 b S')
        | _ => rfl
      | fresh p => rfl
    | exc c p S' => exact absurd e (h2 c p S')
    | bad => rfl
def and1 (d2 : AS → R Bool) : R Bool → R Bool
  | .ok b S' => if b = true then d2 S' else .ok false S'
  | .exc c p S => .exc c p S
  | .bad => .bad
theorem and1_ok (d2 : AS → R Bool) (b : Bool) (S : AS) : and1 d2 (.ok b S) = if b = true then d2 S else .ok false S := id rfl
def or1 (d2 : AS → R Bool) : R Bool → R Bool
  | .ok b S' => if b = true then .ok true S' else d2 S'
  | .exc c p S => .exc c p S
  | .bad => .bad
theorem or1_ok (d2 : AS → R Bool) (b : Bool) (S : AS) : or1 d2 (.ok b S) = if b = true then .ok true S else d2 S := id rfl
def not1 : R Bool → R Bool
  | .ok b S' => .ok (!b) S'
  | .exc c p S => .exc c p S
  | .bad => .bad
theorem not1_ok (b : Bool) (S : AS) : not1 (.ok b S) = .ok (!b) S := id rfl
theorem dAnd_ap (d1 d2 : AS → R Bool) (S : AS) : dAnd d1 d2 S = and1 d2 (d1 S) := by
  unfold dAnd and1
  cases d1 S with
  | ok b S' => cases b <;> rfl
  | exc c p S' => rfl
  | bad => rfl
theorem dOr_ap (d1 d2 : AS → R Bool) (S : AS) : dOr d1 d2 S = or1 d2 (d1 S) := by
  unfold dOr or1
  cases d1 S with
  | ok b S' => cases b <;> rfl
  | exc c p S' => rfl
  | bad => rfl
theorem dNot_ap (d : AS → R Bool) (S : AS) : dNot d S = not1 (d S) := by unfold dNot not1; cases d S <;> rfl
theorem dYes_ap (S : AS) : dYes S = .ok true S := id rfl
def if1 (a b : AS → R RV) : R Bool → R RV
  | .ok x S' => if x = true then a S' else b S'
  | .exc c p S => .exc c p S
  | .bad => .bad
theorem if1_ok (a b : AS → R RV) (x : Bool) (S : AS) : if1 a b (.ok x S) = if x = true then a S else b S := id rfl
theorem dIf_ap (t : AS → R Bool) (a b : AS → R RV) (S : AS) : dIf t a b S = if1 a b (t S) := by
  unfold dIf if1
  cases t S with
  | ok b S' => cases b <;> rfl
  | exc c p S' => rfl
  | bad => rfl
theorem dAndV_ap (d1 d2 : AS → R RV) (S : AS) : dAndV d1 d2 S = if1 d2 (dC (.bl false)) (b1 (d1 S)) := by rw [← dB_ap]; exact dIf_ap _ _ _ _
theorem dOrV_ap (d1 d2 : AS → R RV) (S : AS) : dOrV d1 d2 S = if1 (dC (.bl true)) d2 (b1 (d1 S)) := by rw [← dB_ap]; exact dIf_ap _ _ _ _
def notV1 : R Bool → R RV
  | .ok b S' => .ok (.val (.bl (!b))) S'
  | .exc c p S => .exc c p S
  | .bad => .bad
theorem notV1_ok (b : Bool) (S : AS) : notV1 (.ok b S) = .ok (.val (.bl (!b))) S := id rfl
theorem dNotV_ap (d1 : AS → R RV) (S : AS) : dNotV d1 S = notV1 (b1 (d1 S)) := by
  unfold dNotV
  rw [← dB_ap, dIf_ap]
  unfold if1 notV1
  cases dB d1 S with
  | ok b S' => cases b <;> rfl
  | exc c p S' => rfl
  | bad => rfl
def call2 (S' : AS) : Option PV → R RV
  | some p => .ok (.val p) S'
  | none => .bad
theorem call2_some (S' : AS) (p : PV) : call2 S' (some p) = .ok (.val p) S' := id rfl
def call1 (F : List PV → Option PV) : R (List PV) → R RV
  | .ok ps S' => call2 S' (F ps)
  | .exc c p S => .exc c p S
  | .bad => .bad
theorem call1_ok (F : List PV → Option PV) (ps : List PV) (S : AS) : call1 F (.ok ps S) = call2 S (F ps) := id rfl
theorem dCall_ap (F : List PV → Option PV) (ds : List (AS → R RV)) (S : AS) : dCall F ds S = call1 F (evV ds S) := by
  unfold dCall call1 call2
  cases evV ds S with
  | ok ps S' => first | rfl | (dsimp only; cases F ps <;> rfl)
  | exc c p S' => rfl
  | bad => rfl
/-! statements -/
def RS.sq (r : RS) (f : AS → RS) : RS := match r with
  | .next S => f S
  | r => r
theorem dSeq_ap (d1 d2 : AS → RS) (S : AS) : dSeq d1 d2 S = (d1 S).sq d2 := by unfold dSeq RS.sq; cases d1 S <;> rfl
theorem dSkip_ap (S : AS) : dSkip S = .next S := id rfl
theorem dBrk_ap (S : AS) : dBrk S = .brk S := id rfl
def ret1 : R RV → RS
  | .ok rv S' => .ret rv.pv S'
  | .exc c p S => .exc c p S
  | .bad => .bad
theorem ret1_ok (rv : RV) (S : AS) : ret1 (.ok rv S) = .ret rv.pv S := id rfl
def expr1 : R RV → RS
  | .ok _ S' => .next S'
  | .exc c p S => .exc c p S
  | .bad => .bad
theorem expr1_ok (rv : RV) (S : AS) : expr1 (.ok rv S) = .next S := id rfl
def ifs1 (d1 d2 : AS → RS) : R Bool → RS
  | .ok x S' => if x = true then d1 S' else d2 S'
  | .exc c p S => .exc c p S
  | .bad => .bad
theorem ifs1_ok (d1 d2 : AS → RS) (x : Bool) (S : AS) : ifs1 d1 d2 (.ok x S) = if x = true then d1 S else d2 S := id rfl
theorem dRet_ap (d : AS → R RV) (S : AS) : dRet d S = ret1 (d S) := by unfold dRet ret1; cases d S <;> rfl
theorem dExpr_ap (d : AS → R RV) (S : AS) : dExpr d S = expr1 (d S) := by unfold dExpr expr1; cases d S <;> rfl
theorem dIfS_ap (t : AS → R Bool) (d1 d2 : AS → RS) (S : AS) : dIfS t d1 d2 S = ifs1 d1 d2 (t S) := by
  unfold dIfS ifs1
  cases t S with
  | ok b S' => cases b <;> rfl
  | exc c p S' => rfl
  | bad => rfl
def set2 : Option AS → RS
  | some S => .next S
  | none => .bad
theorem set2_some (S : AS) : set2 (some S) = .next S := id rfl
def set1 (i : Nat) : R RV → RS
  | .ok rv S' => set2 (putS i rv S')
  | .exc c p S => .exc c p S
  | .bad => .bad
theorem set1_ok (i : Nat) (rv : RV) (S : AS) : set1 i (.ok rv S) = set2 (putS i rv S) := id rfl
theorem dSet_ap (i : Nat) (d : AS → R RV) (S : AS) : dSet i d S = set1 i (d S) := by
  unfold dSet set1 set2
  cases d S with
  | ok rv S' => first | rfl | (dsimp only; cases putS i rv S' <;> rfl)
  | exc c p S' => rfl
  | bad => rfl
def unp1 (t : Tg) : R RV → RS
  | .ok rv S' => set2 (bindT t rv.pv S')
  | .exc c p S => .exc c p S
  | .bad => .bad
theorem unp1_ok (t : Tg) (rv : RV) (S : AS) : unp1 t (.ok rv S) = set2 (bindT t rv.pv S) := id rfl
theorem dUnp_ap (t : Tg) (d : AS → R RV) (S : AS) : dUnp t d S = unp1 t (d S) := by
  unfold dUnp unp1 set2
  cases d S with
  | ok rv S' => first | rfl | (dsimp only; cases bindT t rv.pv S' <;> rfl)
  | exc c p S' => rfl
  | bad => rfl
def pl2 (lk : List Nat) (S' : AS) : Option (List PV) → R (List PV × List Nat)
  | some l => .ok (l, lk) S'
  | none => .bad
theorem pl2_some (lk : List Nat) (S' : AS) (l : List PV) : pl2 lk S' (some l) = .ok (l, lk) S' := id rfl
def pl1 : R (PV × List Nat) → R (List PV × List Nat)
  | .ok (p, lk) S' => pl2 lk S' (itemsP p)
  | .exc c p S => .exc c p S
  | .bad => .bad
theorem pl1_ok (p : PV) (lk : List Nat) (S' : AS) : pl1 (.ok (p, lk) S') = pl2 lk S' (itemsP p) := id rfl
theorem dPlain_ap (A : Opd) (S : AS) : dPlain A S = pl1 (evI A S) := by
  unfold dPlain pl1 pl2
  cases evI A S with
  | ok q S' => obtain ⟨p, lk⟩ := q; first | rfl | (dsimp only; cases itemsP p <;> rfl)
  | exc c p S' => rfl
  | bad => rfl
def evi1 : R RV → R (PV × List Nat)
  | .ok rv S' => .ok (rv.pv, []) S'
  | .exc c p S => .exc c p S
  | .bad => .bad
theorem evi1_ok (rv : RV) (S : AS) : evi1 (.ok rv S) = .ok (rv.pv, []) S := id rfl
theorem evI_tm (d : AS → R RV) (S : AS) : evI (.tm d) S = evi1 (d S) := by
  cases e : d S <;> simp only [evI, e, evi1]

/-! ### loops -/
theorem unwS_wipe (S : AS) : ∀ vs : List Nat, unwS S (wipeS S vs) vs = S := by
  intro vs
  refine List.ext_getElem? fun j => ?_
  have key : ∀ (ws : List Nat) (R : AS), R.length = S.length → (∀ j, j ∉ ws → R[j]? = S[j]?) → (unwS S R ws)[j]? = S[j]? := by
    intro ws
    induction ws with
    | nil => intro R _ h; exact h j (by simp)
    | cons v ws ih =>
      intro R hl h
      have hlen : ∀ (us : List Nat) (Q : AS), (unwS S Q us).length = Q.length := by
        intro us
        induction us with
        | nil => intro Q; rfl
        | cons u us ih2 => intro Q; rw [unwS, List.length_set, ih2 Q]
      rw [unwS]
      by_cases hj : v = j
      · subst hj
        by_cases hv : v < S.length
        · rw [List.getElem?_set_self (by rw [hlen, hl]; exact hv), List.getElem?_eq_getElem hv]
        · rw [List.getElem?_eq_none (by rw [List.length_set, hlen, hl]; omega), List.getElem?_eq_none (by omega)]
      · rw [List.getElem?_set_ne hj]
        have : ∀ (us : List Nat) (Q : AS), j ∉ us → (unwS S Q us)[j]? = Q[j]? := by
          intro us
          induction us with
          | nil => intro Q _; rfl
          | cons u us ih2 => intro Q hj2; rw [unwS, List.getElem?_set_ne (fun e => hj2 (by simp [e])), ih2 Q fun m => hj2 (List.mem_cons_of_mem _ m)]
        by_cases hm : j ∈ ws
        · have h2 : ∀ (us : List Nat) (Q : AS), Q.length = S.length → j ∈ us → (unwS S Q us)[j]? = S[j]? := by
            intro us
            induction us with
            | nil => intro Q _ hm; simp at hm
            | cons u us ih2 =>
              intro Q hQ hm
              rw [unwS]
              by_cases hu : u = j
              · subst hu
                by_cases hv : u < S.length
                · rw [List.getElem?_set_self (by rw [hlen, hQ]; exact hv), List.getElem?_eq_getElem hv]
                · rw [List.getElem?_eq_none (by rw [List.length_set, hlen, hQ]; omega), List.getElem?_eq_none (by omega)]
              · rw [List.getElem?_set_ne hu]
                rcases List.mem_cons.mp hm with e | hm
                · exact absurd e.symm hu
                · exact ih2 Q hQ hm
          exact h2 ws R hl hm
        · rw [this ws R hm]
          exact h j (by simp [hm, Ne.symm hj])
  exact key vs _ (wipeS_len S vs) fun j hj => wipeS_out hj

/-- a comprehension whose parts leave the state as it is -/
theorem loopL_gen {g : α → PV} {bd : α → AS} {b : α → Bool} {rv : α → RV} {t : Tg} {test : AS → R Bool} {elt : AS → R RV} {vs : List Nat} {W : AS} :
    ∀ (l : List α) (S : AS) (acc : List PV), wipeS S vs = W →
    (∀ a ∈ l, bindT t (g a) W = some (bd a)) → (∀ a ∈ l, wipeS (bd a) vs = W) → (∀ a ∈ l, okW (bd a) vs = true) → (∀ a ∈ l, test (bd a) = .ok (b a) (bd a)) → (∀ a ∈ l, b a = true → elt (bd a) = .ok (rv a) (bd a)) →
    ∃ S2, loopL t test elt vs (l.map g) S acc = .ok (acc ++ (l.filter b).map fun a => (rv a).pv) S2 ∧ wipeS S2 vs = W
  | [], S, acc, hW, _, _, _, _, _ => ⟨S, by simp [loopL], hW⟩
  | a :: l, S, acc, hW, h1, h2, h3, h4, h5 => by
    have m : ∀ x ∈ l, x ∈ a :: l := fun x h => List.mem_cons_of_mem _ h
    obtain ⟨S2, e, w⟩ := loopL_gen l (bd a) (if b a = true then acc ++ [(rv a).pv] else acc) (h2 a List.mem_cons_self) (fun x h => h1 x (m x h)) (fun x h => h2 x (m x h)) (fun x h => h3 x (m x h)) (fun x h => h4 x (m x h)) (fun x h => h5 x (m x h))
    refine ⟨S2, ?_, w⟩
    rw [List.map_cons, loopL, hW, h1 a List.mem_cons_self]
    dsimp only
    rw [h4 a List.mem_cons_self]
    by_cases hb : b a = true
    · rw [hb]
      dsimp only
      rw [h5 a List.mem_cons_self hb]
      dsimp only
      rw [if_pos (h3 a List.mem_cons_self)]
      rw [if_pos hb] at e
      rw [e, List.filter_cons_of_pos hb, List.map_cons, List.append_assoc]
      rfl
    · have hb' : b a = false := by simpa using hb
      rw [hb']
      dsimp only
      rw [if_pos (h3 a List.mem_cons_self)]
      rw [if_neg hb] at e
      rw [e, List.filter_cons_of_neg hb]
theorem lc_gen {g : α → PV} {bd : α → AS} {b : α → Bool} {rv : α → RV} {it : DI} {t : Tg} {test : AS → R Bool} {elt : AS → R RV} {vs : List Nat} {l : List α} {lk : List Nat}
    (hi : it S = .ok (l.map g, lk) S') (hl : l.length < LINE) (hk : okW S' vs = true)
    (h1 : ∀ a ∈ l, bindT t (g a) (wipeS S' vs) = some (bd a)) (h2 : ∀ a ∈ l, wipeS (bd a) vs = wipeS S' vs) (h3 : ∀ a ∈ l, okW (bd a) vs = true) (h4 : ∀ a ∈ l, test (bd a) = .ok (b a) (bd a)) (h5 : ∀ a ∈ l, b a = true → elt (bd a) = .ok (rv a) (bd a)) :
    dLc it t test elt vs S = .ok (.fresh (.lst ((l.filter b).map fun a => (rv a).pv))) (unlk lk S') := by
  obtain ⟨S2, e, w⟩ := loopL_gen l S' [] rfl h1 h2 h3 h4 h5
  unfold dLc
  rw [hi]
  dsimp only
  rw [hk, decide_eq_true (by rw [List.length_map]; exact hl)]
  try dsimp only
  rw [if_pos (by rfl), e]
  dsimp only
  rw [w, unwS_wipe, List.nil_append]
/-- one name, no test -/
theorem lc_map {g : α → PV} {rv : α → RV} {it : DI} {elt : AS → R RV} {i : Nat} {l : List α} {lk : List Nat} {x : Slot}
    (hi : it S = .ok (l.map g, lk) S') (hx : S'[i]? = some x) (hs : softS (some x) = true) (hl : l.length < LINE)
    (h5 : ∀ a ∈ l, elt (S'.set i (.val (g a))) = .ok (rv a) (S'.set i (.val (g a)))) :
    dLc it (.nm i) dYes elt [i] S = .ok (.fresh (.lst (l.map fun a => (rv a).pv))) (unlk lk S') := by
  have hlt : i < S'.length := (List.getElem?_eq_some_iff.mp hx).1
  have := lc_gen (b := fun _ => true) (bd := fun a => S'.set i (.val (g a))) (test := dYes) (t := .nm i) (vs := [i]) hi hl (by simp [okW, hx, hs]) (fun a _ => by
    simp only [wipeS, bindT, List.getElem?_set_self hlt, freeS, if_true, List.set_set]) (fun a _ => by simp only [wipeS, List.set_set]) (fun a _ => by simp [okW, hlt, softS]) (fun a _ => rfl) (fun a ha _ => h5 a ha)
  rwa [List.filter_eq_self.mpr (fun _ _ => rfl)] at this
/-- one name and a test -/
theorem lc_filter {g : α → PV} {b : α → Bool} {rv : α → RV} {it : DI} {test : AS → R Bool} {elt : AS → R RV} {i : Nat} {l : List α} {lk : List Nat} {x : Slot}
    (hi : it S = .ok (l.map g, lk) S') (hx : S'[i]? = some x) (hs : softS (some x) = true) (hl : l.length < LINE)
    (h4 : ∀ a ∈ l, test (S'.set i (.val (g a))) = .ok (b a) (S'.set i (.val (g a))))
    (h5 : ∀ a ∈ l, b a = true → elt (S'.set i (.val (g a))) = .ok (rv a) (S'.set i (.val (g a)))) :
    dLc it (.nm i) test elt [i] S = .ok (.fresh (.lst ((l.filter b).map fun a => (rv a).pv))) (unlk lk S') := by
  have hlt : i < S'.length := (List.getElem?_eq_some_iff.mp hx).1
  exact lc_gen (bd := fun a => S'.set i (.val (g a))) (test := test) (t := .nm i) (vs := [i]) hi hl (by simp [okW, hx, hs]) (fun a _ => by
    simp only [wipeS, bindT, List.getElem?_set_self hlt, freeS, if_true, List.set_set]) (fun a _ => by simp only [wipeS, List.set_set]) (fun a _ => by simp [okW, hlt, softS]) h4 h5

def forE (lk : List Nat) : RS → RS
  | .next S2 => .next (unlk lk S2)
  | .brk _ => .bad
  | .cnt _ => .bad
  | r => r
def forI (t : Tg) (body : AS → RS) : R (List PV × List Nat) → RS
  | .ok q S' => forE q.2 (loopS t body q.1 S')
  | .exc x p S' => .exc x p S'
  | .bad => .bad
theorem dFor_ap (it : DI) (t : Tg) (body : AS → RS) (S : AS) : dFor it t body S = forI t body (it S) := by
  unfold dFor forI forE
  cases it S with
  | ok q S' => first | rfl | (dsimp only; cases loopS t body q.1 S' <;> rfl)
  | exc x p S' => rfl
  | bad => rfl

/-! ### defs -/
theorem bodyF_ret {n m : Nat} {d : AS → RS} {ps : List PV} {p : PV} (hn : ps.length = n) (h : d (startS m ps) = .ret p S) : bodyF n m d ps = some p := by
  unfold bodyF
  rw [if_pos hn, h]
theorem bodyF_next {n m : Nat} {d : AS → RS} {ps : List PV} (hn : ps.length = n) (h : d (startS m ps) = .next S) : bodyF n m d ps = some .non := by
  unfold bodyF
  rw [if_pos hn, h]
end

/-! ### what a statement brings -/
/-- r ends with N, or gives back what Q says, or breaks off with B -/
def WpM (r : RS) (N : AS → Prop) (Q : PV → Prop) (B : AS → Prop := fun _ => False) : Prop := match r with
  | .next S => N S
  | .ret p _ => Q p
  | .brk S => B S
  | _ => False
/-- the same, as something that isn't unfolded -/
structure Wp (r : RS) (N : AS → Prop) (Q : PV → Prop) (B : AS → Prop := fun _ => False) : Prop where
  m : WpM r N Q B
section
variable {S S' S1 S2 S3 : AS} {α : Type} {N N' : AS → Prop} {Q Q' : PV → Prop} {B B' : AS → Prop}
theorem wp_next : Wp (.next S) N Q B = N S := propext ⟨fun h => h.m, fun h => ⟨h⟩⟩
theorem wp_ret (p : PV) : Wp (.ret p S) N Q B = Q p := propext ⟨fun h => h.m, fun h => ⟨h⟩⟩
theorem wp_brk : Wp (.brk S) N Q B = B S := propext ⟨fun h => h.m, fun h => ⟨h⟩⟩
theorem wp_cnt : Wp (.cnt S) N Q B = False := propext ⟨fun h => h.m, fun h => ⟨h⟩⟩
theorem wp_exc (c : Str) (p : PV) : Wp (.exc c p S) N Q B = False := propext ⟨fun h => h.m, fun h => ⟨h⟩⟩
theorem wp_bad : Wp .bad N Q B = False := propext ⟨fun h => h.m, fun h => ⟨h⟩⟩
theorem Wp.mono {r : RS} (h : Wp r N Q B) (hn : ∀ S, N S → N' S) (hr : ∀ p, Q p → Q' p) (hb : ∀ S, B S → B' S) : Wp r N' Q' B' := by
  cases r <;> simp only [wp_next, wp_ret, wp_brk, wp_cnt, wp_exc, wp_bad] at h ⊢
  · exact hn _ h
  · exact hr _ h
  · exact hb _ h
theorem wp_sq (r : RS) (f : AS → RS) : Wp (r.sq f) N Q B = Wp r (fun S => Wp (f S) N Q B) Q B := by
  cases r <;> simp only [RS.sq, wp_next, wp_ret, wp_brk, wp_cnt, wp_exc, wp_bad]
/-- the next statement -/
def Sq (d2 : AS → RS) (N : AS → Prop) (Q : PV → Prop) (B : AS → Prop) : AS → Prop := fun S => Wp (d2 S) N Q B
theorem sq_ap (d2 : AS → RS) (N : AS → Prop) (Q : PV → Prop) (B : AS → Prop) (S : AS) : Sq d2 N Q B S = Wp (d2 S) N Q B := id rfl
theorem wp_seq (d1 d2 : AS → RS) (S : AS) : Wp (dSeq d1 d2 S) N Q B = Wp (d1 S) (Sq d2 N Q B) Q B := by rw [dSeq_ap, wp_sq]; rfl
theorem wp_ite (c : Prop) [Decidable c] (a b : RS) : Wp (if c then a else b) N Q B = if c then Wp a N Q B else Wp b N Q B := by split <;> rfl
theorem wp_for {g : α → PV} {it : DI} {t : Tg} {body : AS → RS} {l : List α} {lk : List Nat} (P : List α → AS → Prop) (hi : it S = .ok (l.map g, lk) S') (h : P [] S')
    (step : ∀ pre a post, l = pre ++ a :: post → ∀ S1, P pre S1 → ∃ S2, bindT t (g a) S1 = some S2 ∧ Wp (body S2) (P (pre ++ [a])) Q)
    (k : ∀ S2, P l S2 → N (unlk lk S2)) : Wp (dFor it t body S) N Q B := by
  have key : ∀ (m pre : List α) (S1 : AS), P pre S1 → (∀ pre' a post, pre ++ m = pre' ++ a :: post → ∀ S1, P pre' S1 → ∃ S2, bindT t (g a) S1 = some S2 ∧ Wp (body S2) (P (pre' ++ [a])) Q) →
      Wp (loopS t body (m.map g) S1) (P (pre ++ m)) Q := by
    intro m
    induction m with
    | nil => intro pre S1 hp _; rw [List.append_nil]; exact ⟨hp⟩
    | cons a m ih =>
      intro pre S1 hp st
      obtain ⟨S2, e, w⟩ := st pre a m rfl S1 hp
      rw [List.map_cons, loopS, e]
      dsimp only
      cases e2 : body S2 with
      | next S3 =>
        rw [e2] at w
        have := ih (pre ++ [a]) S3 w.m (fun pre' x post e => st pre' x post (by rw [← e, List.append_assoc]; rfl))
        rwa [List.append_assoc] at this
      | ret p S3 => rw [e2] at w; exact ⟨w.m⟩
      | brk S3 => rw [e2] at w; exact w.m.elim
      | cnt S3 => rw [e2] at w; exact w.m.elim
      | exc c p S3 => rw [e2] at w; exact w.m.elim
      | bad => rw [e2] at w; exact w.m.elim
  have w := key l [] S' h step
  rw [dFor_ap, hi]
  show Wp (forE lk (loopS t body (l.map g) S')) N Q B
  cases e2 : loopS t body (l.map g) S' with
  | next S3 => rw [e2] at w; exact ⟨k S3 w.m⟩
  | ret p S3 => rw [e2] at w; exact ⟨w.m⟩
  | brk S3 => rw [e2] at w; exact w.m.elim
  | cnt S3 => rw [e2] at w; exact w.m.elim
  | exc c p S3 => rw [e2] at w; exact w.m.elim
  | bad => rw [e2] at w; exact w.m.elim
theorem bodyF_wp {n m : Nat} {d : AS → RS} {ps : List PV} {p : PV} (hn : ps.length = n) (h : Wp (d (startS m ps)) (fun _ => p = .non) (fun q => q = p)) : bodyF n m d ps = some p := by
  unfold bodyF
  rw [if_pos hn]
  cases e : d (startS m ps) <;> rw [e] at h <;> simp only [wp_next, wp_ret, wp_brk, wp_cnt, wp_exc, wp_bad] at h ⊢
  · rw [h]
  · rw [h]
theorem lc_map0 {g : α → PV} {rv : α → RV} {it : DI} {elt : AS → R RV} {i : Nat} {l : List α}
    (hi : it S = .ok (l.map g, []) S) (hx : i < S.length) (hs : softS S[i]? = true) (hl : l.length < LINE)
    (h5 : ∀ a ∈ l, elt (S.set i (.val (g a))) = .ok (rv a) (S.set i (.val (g a)))) :
    dLc it (.nm i) dYes elt [i] S = .ok (.fresh (.lst (l.map fun a => (rv a).pv))) S :=
  lc_map hi (List.getElem?_eq_getElem hx) (by rw [List.getElem?_eq_getElem hx] at hs; exact hs) hl h5
theorem lc_filter0 {g : α → PV} {b : α → Bool} {rv : α → RV} {it : DI} {test : AS → R Bool} {elt : AS → R RV} {i : Nat} {l : List α}
    (hi : it S = .ok (l.map g, []) S) (hx : i < S.length) (hs : softS S[i]? = true) (hl : l.length < LINE)
    (h4 : ∀ a ∈ l, test (S.set i (.val (g a))) = .ok (b a) (S.set i (.val (g a))))
    (h5 : ∀ a ∈ l, b a = true → elt (S.set i (.val (g a))) = .ok (rv a) (S.set i (.val (g a)))) :
    dLc it (.nm i) test elt [i] S = .ok (.fresh (.lst ((l.filter b).map fun a => (rv a).pv))) S :=
  lc_filter hi (List.getElem?_eq_getElem hx) (by rw [List.getElem?_eq_getElem hx] at hs; exact hs) hl h4 h5
def appS (i : Nat) (rv : RV) (S1 : AS) : R RV := match S1[i]? with
  | some (.own io false (.lst l)) => if l.length < LINE then .ok (.val .non) (S1.set i (.own io false (.lst (l ++ [rv.pv])))) else .bad
  | _ => .bad
def app2 (i : Nat) : R RV → R RV
  | .ok rv S1 => appS i rv S1
  | .exc x p S' => .exc x p S'
  | .bad => .bad
theorem app2_ok (i : Nat) (rv : RV) (S : AS) : app2 i (.ok rv S) = appS i rv S := id rfl
def app1 (i : Nat) (d : AS → R RV) (S : AS) : Bool → R RV
  | true => app2 i (d S)
  | false => .bad
theorem app1_true (i : Nat) (d : AS → R RV) (S : AS) : app1 i d S true = app2 i (d S) := id rfl
theorem dApp_ap (i : Nat) (d : AS → R RV) (S : AS) : dApp i d S = app1 i d S (isLstS S[i]?) := by
  unfold dApp app1 app2 appS
  cases isLstS S[i]? with
  | true => first | (rw [if_pos rfl]; done) | (rw [if_pos rfl]; first | rfl | (dsimp only; cases d S <;> rfl))
  | false => rw [if_neg (by decide)]
theorem dTake_ap (i : Nat) (S : AS) : dTake i S = match S[i]? with
  | some (.val p) => .ok (.val p) S
  | some (.own false false p) => .ok (.val p) (S.set i (.val p))
  | _ => .bad := rfl
def evN (i : Nat) (S : AS) : Option Slot → R (PV × List Nat)
  | some (.val p) => .ok (p, []) S
  | some (.own io false (.lst l)) => .ok (.lst l, [i]) (S.set i (.own io true (.lst l)))
  | some (.own io true (.lst l)) => .ok (.lst l, []) S
  | some (.own false false (.dct l)) => .ok (.dct l, []) (S.set i (.val (.dct l)))
  | _ => .bad
theorem evI_nm (i : Nat) (S : AS) : evI (.nm i) S = evN i S S[i]? := by
  cases e : S[i]? with
  | none => simp only [evI, e, evN]
  | some x =>
    cases x with
    | un => simp only [evI, e, evN]
    | val p => simp only [evI, e, evN]
    | own io lk p => cases p <;> cases io <;> cases lk <;> simp only [evI, e, evN]
theorem evN_val (i : Nat) (S : AS) (p : PV) : evN i S (some (.val p)) = .ok (p, []) S := id rfl
theorem evN_own (i : Nat) (S : AS) (io : Bool) (l : List PV) : evN i S (some (.own io false (.lst l))) = .ok (.lst l, [i]) (S.set i (.own io true (.lst l))) := id rfl
theorem unlk_nil (S : AS) : unlk [] S = S := id rfl
def rng1S (ps : List PV) (S : AS) : R (List PV × List Nat) := match ps with
  | [.int j] => if small j then .ok (rngP 0 1 j.toNat, []) S else .bad
  | _ => .bad
def rng2S (ps : List PV) (S : AS) : R (List PV × List Nat) := match ps with
  | [.int i, .int j] => if small i && small j then .ok (rngP i 1 (j - i).toNat, []) S else .bad
  | _ => .bad
def rng3S (ps : List PV) (S : AS) : R (List PV × List Nat) := match ps with
  | [.int i, .int j, .int k] => if k = -1 then (if small i && small j then .ok (rngP i (-1) (i - j).toNat, []) S else .bad) else .bad
  | _ => .bad
def rngK (f : List PV → AS → R (List PV × List Nat)) : R (List PV) → R (List PV × List Nat)
  | .ok ps S' => f ps S'
  | .exc x p S' => .exc x p S'
  | .bad => .bad
theorem rngK_ok (f : List PV → AS → R (List PV × List Nat)) (ps : List PV) (S : AS) : rngK f (.ok ps S) = f ps S := id rfl
theorem dRng1_ap (A : Opd) (S : AS) : dRng1 A S = rngK rng1S (evs [A] S) := by
  unfold dRng1 rngK rng1S
  split
  · rename_i h; simp only [h]
  · rename_i h; simp only [h]
  rename_i h h2
  cases e : evs [A] S with
  | ok ps S' =>
    dsimp only
    split
    · rename_i j; exact absurd e (h j S')
    · rfl
  | exc c p S' => exact absurd e (h2 c p S')
  | bad => rfl
theorem dRng2_ap (A B : Opd) (S : AS) : dRng2 A B S = rngK rng2S (evs [A, B] S) := by
  unfold dRng2 rngK rng2S
  split
  · rename_i h; simp only [h]
  · rename_i h; simp only [h]
  rename_i h h2
  cases e : evs [A, B] S with
  | ok ps S' =>
    dsimp only
    split
    · rename_i i j; exact absurd e (h i j S')
    · rfl
  | exc c p S' => exact absurd e (h2 c p S')
  | bad => rfl
theorem dRng3_ap (A B C : Opd) (S : AS) : dRng3 A B C S = rngK rng3S (evs [A, B, C] S) := by
  unfold dRng3 rngK
  split
  · rename_i h; simp only [h, rng3S, if_true]
  · rename_i h; simp only [h]
  rename_i h h2
  cases e : evs [A, B, C] S with
  | ok ps S' =>
    dsimp only
    unfold rng3S
    split
    · rename_i i j k
      rw [if_neg]
      rintro rfl
      exact h i j S' e
    · rfl
  | exc c p S' => exact absurd e (h2 c p S')
  | bad => rfl
theorem rngP_01 (n : Nat) : rngP 0 1 n = (List.range n).map fun k : Nat => .int k := by
  unfold rngP
  refine List.map_congr_left fun k _ => ?_
  rw [Int.zero_add, Int.mul_one]
theorem rng1_nat {j : Int} (n : Nat) (e : j = n) (h : n < 2 ^ 62) : rng1S [.int j] S = .ok ((List.range n).map fun k : Nat => .int k, []) S := by
  subst e
  have hs : small (n : Int) = true := by unfold small; rw [decide_eq_true_eq]; omega
  simp only [rng1S, hs, if_true, Int.toNat_natCast, rngP_01]
end

/-! chains -/
def ch4 (S2 : AS) : Option Bool → R RV
  | some b => .ok (.val (.bl b)) S2
  | none => .bad
theorem ch4_some (S2 : AS) (b : Bool) : ch4 S2 (some b) = .ok (.val (.bl b)) S2 := id rfl
def ch3 (f' : List PV → Option RV) (j : Int) : R (List PV) → R RV
  | .ok [r] S2 => ch4 S2 ((f' [.int j, r]).bind RV.asB)
  | .exc c p S => .exc c p S
  | _ => .bad
theorem ch3_ok (f' : List PV → Option RV) (j : Int) (r : PV) (S : AS) : ch3 f' j (.ok [r] S) = ch4 S ((f' [.int j, r]).bind RV.asB) := id rfl
def ch2 (f' : List PV → Option RV) (C : Opd) (j : Int) (S1 : AS) : Option Bool → R RV
  | some b => if b = true then ch3 f' j (evs [C] S1) else .ok (.val (.bl false)) S1
  | none => .bad
theorem ch2_some (f' : List PV → Option RV) (C : Opd) (j : Int) (S1 : AS) (b : Bool) : ch2 f' C j S1 (some b) = if b = true then ch3 f' j (evs [C] S1) else .ok (.val (.bl false)) S1 := id rfl
def ch1 (f f' : List PV → Option RV) (C : Opd) : R (List PV) → R RV
  | .ok [p, .int j] S1 => ch2 f' C j S1 ((f [p, .int j]).bind RV.asB)
  | .exc c p S => .exc c p S
  | _ => .bad
theorem ch1_ok (f f' : List PV → Option RV) (C : Opd) (p : PV) (j : Int) (S1 : AS) : ch1 f f' C (.ok [p, .int j] S1) = ch2 f' C j S1 ((f [p, .int j]).bind RV.asB) := id rfl
theorem dChain_ap (f f' : List PV → Option RV) (A B C : Opd) (S : AS) : dChain f f' A B C S = ch1 f f' C (evs [A, B] S) := by
  unfold dChain
  split
  · rename_i p j S1 e
    rw [e, ch1_ok]
    cases e1 : f [p, .int j] with
    | none => rfl
    | some rv =>
      cases rv with
      | fresh q => rfl
      | val q =>
        cases q with
        | bl b =>
          cases b with
          | true =>
            show _ = ch3 f' j (evs [C] S1)
            dsimp only
            cases e2 : evs [C] S1 with
            | ok rs S2 =>
              match rs with
              | [] => rfl
              | [r] =>
                rw [ch3_ok]
                dsimp only
                cases e3 : f' [.int j, r] with
                | none => rfl
                | some rv => cases rv with
                  | fresh q => rfl
                  | val q => cases q <;> rfl
              | _ :: _ :: _ => rfl
            | exc c p S' => rfl
            | bad => rfl
          | false => rfl
        | _ => rfl
  · rename_i e; rw [e]; rfl
  · rename_i h1 h2
    cases e : evs [A, B] S with
    | ok ps S1 =>
      match ps with
      | [] => rfl
      | [_] => rfl
      | [p, .int j] => exact absurd e (h1 p j S1)
      | [p, .non] => rfl
      | [p, .bl _] => rfl
      | [p, .str _] => rfl
      | [p, .tup _] => rfl
      | [p, .lst _] => rfl
      | [p, .dct _] => rfl
      | p :: .int _ :: _ :: _ => rfl
      | p :: .non :: _ :: _ => rfl
      | p :: .bl _ :: _ :: _ => rfl
      | p :: .str _ :: _ :: _ => rfl
      | p :: .tup _ :: _ :: _ => rfl
      | p :: .lst _ :: _ :: _ => rfl
      | p :: .dct _ :: _ :: _ => rfl
    | exc c p S' => exact absurd e (h2 c p S')
    | bad => rfl
section
variable {S S' S1 S2 S3 : AS} {α : Type}
theorem lc_pv (l : List α) (g : α → PV) (f : α → PV) {it : DI} {elt : AS → R RV} {i : Nat}
    (hi : it S = .ok (l.map g, []) S) (hx : i < S.length) (hs : softS S[i]? = true) (hl : l.length < LINE)
    (h5 : ∀ a ∈ l, elt (S.set i (.val (g a))) = .ok (.val (f a)) (S.set i (.val (g a)))) :
    dLc it (.nm i) dYes elt [i] S = .ok (.fresh (.lst (l.map f))) S :=
  lc_map0 (rv := fun a => .val (f a)) hi hx hs hl h5
theorem lc_fpv (l : List α) (g : α → PV) (b : α → Bool) (f : α → PV) {it : DI} {test : AS → R Bool} {elt : AS → R RV} {i : Nat}
    (hi : it S = .ok (l.map g, []) S) (hx : i < S.length) (hs : softS S[i]? = true) (hl : l.length < LINE)
    (h4 : ∀ a ∈ l, test (S.set i (.val (g a))) = .ok (b a) (S.set i (.val (g a))))
    (h5 : ∀ a ∈ l, b a = true → elt (S.set i (.val (g a))) = .ok (.val (f a)) (S.set i (.val (g a)))) :
    dLc it (.nm i) test elt [i] S = .ok (.fresh (.lst ((l.filter b).map f))) S :=
  lc_filter0 (rv := fun a => .val (f a)) hi hx hs hl h4 h5
end
end Den
set_option Elab.async false
set_option linter.all false
set_option maxRecDepth 100000
set_option maxHeartbeats 1000000
/-! Pu2: what operations answer for numbers, texts, lists of them, dicts with texts as keys. -/
namespace Den
open PySem L2 PyProof.Rows

/-! ### numbers -/
theorem addP_int (i j : Int) : addP [.int i, .int j] = some (.val (.int (i + j))) := rfl
theorem subP_int (i j : Int) : subP [.int i, .int j] = some (.val (.int (i - j))) := rfl
theorem negP_int (i : Int) : negP [.int i] = some (.val (.int (-i))) := rfl
theorem ltP_int (i j : Int) : ltP [.int i, .int j] = some (.val (.bl (decide (i < j)))) := rfl
theorem gtP_int (i j : Int) : gtP [.int i, .int j] = some (.val (.bl (decide (j < i)))) := rfl
theorem leP_int (i j : Int) : leP [.int i, .int j] = some (.val (.bl (decide (i ≤ j)))) := by
  show some (RV.val (.bl (!decide (j < i)))) = _
  simp only [Option.some.injEq, RV.val.injEq, PV.bl.injEq]
  by_cases h : j < i
  · rw [decide_eq_true h, decide_eq_false (by omega)]; rfl
  · rw [decide_eq_false h, decide_eq_true (by omega)]; rfl
theorem geP_int (i j : Int) : geP [.int i, .int j] = some (.val (.bl (decide (j ≤ i)))) := by
  show some (RV.val (.bl (!decide (i < j)))) = _
  simp only [Option.some.injEq, RV.val.injEq, PV.bl.injEq]
  by_cases h : i < j
  · rw [decide_eq_true h, decide_eq_false (by omega)]; rfl
  · rw [decide_eq_false h, decide_eq_true (by omega)]; rfl
theorem eqO_int (n : Nat) (i j : Int) : eqO n (.int i) (.int j) = some (i == j) := by cases n <;> rfl
theorem eqO_bl (n : Nat) (i j : Bool) : eqO n (.bl i) (.bl j) = some (i == j) := by cases n <;> rfl
theorem eqO_str (n : Nat) (i j : Str) : eqO n (.str i) (.str j) = some (i == j) := by cases n <;> rfl
theorem eqO_non (n : Nat) : eqO n .non .non = some true := by cases n <;> rfl
theorem eqP_int (i j : Int) : eqP [.int i, .int j] = some (.val (.bl (decide (i = j)))) := by
  simp only [eqP, eqO_int, Option.map_some]; rfl
theorem neP_int (i j : Int) : neP [.int i, .int j] = some (.val (.bl (!decide (i = j)))) := by
  simp only [neP, eqO_int, Option.map_some]; rfl
theorem neP_bl (i j : Bool) : neP [.bl i, .bl j] = some (.val (.bl (!decide (i = j)))) := by
  cases i <;> cases j <;> rfl
theorem eqP_bl (i j : Bool) : eqP [.bl i, .bl j] = some (.val (.bl (decide (i = j)))) := by
  cases i <;> cases j <;> rfl
theorem neP_str (i j : Str) : neP [.str i, .str j] = some (.val (.bl (!decide (i = j)))) := by
  simp only [neP, eqO_str, Option.map_some]; rfl
theorem eqP_str (i j : Str) : eqP [.str i, .str j] = some (.val (.bl (decide (i = j)))) := by
  simp only [eqP, eqO_str, Option.map_some]; rfl
mutual
/-- what is equal to itself -/
def selfEq : Nat → PV → Bool
  | _, .non => true
  | _, .bl _ => true
  | _, .int _ => true
  | _, .str _ => true
  | 0, _ => false
  | n + 1, .tup l => selfEqL n l
  | n + 1, .lst l => selfEqL n l
  | _ + 1, .dct _ => false
def selfEqL : Nat → List PV → Bool
  | _, [] => true
  | n, p :: l => selfEq n p && selfEqL n l
end
mutual
theorem eqO_self2 : ∀ (n : Nat) (p : PV), selfEq n p = true → eqO n p p = some true
  | _, .non, _ => eqO_non _
  | _, .bl b, _ => by rw [eqO_bl]; simp
  | _, .int b, _ => by rw [eqO_int]; simp
  | _, .str b, _ => by rw [eqO_str]; simp
  | 0, .tup l, h => by simp [selfEq] at h
  | 0, .lst l, h => by simp [selfEq] at h
  | 0, .dct l, h => by simp [selfEq] at h
  | n + 1, .tup l, h => by
    rw [selfEq] at h
    rw [eqO, eqs_self2 n l h]; simp
  | n + 1, .lst l, h => by
    rw [selfEq] at h
    rw [eqO, if_pos rfl, eqs_self2 n l h]
  | n + 1, .dct l, h => by simp [selfEq] at h
theorem eqs_self2 : ∀ (n : Nat) (l : List PV), selfEqL n l = true → eqO.eqs (eqO n) l l = some true
  | n, [], _ => by rw [eqO.eqs]; simp
  | n, p :: l, h => by
    rw [selfEqL, Bool.and_eq_true] at h
    rw [eqO.eqs, eqO_self2 n p h.1, eqs_self2 n l h.2]; rfl
end
theorem selfEqL_all : ∀ (n : Nat) (l : List PV), (∀ p ∈ l, selfEq n p = true) → selfEqL n l = true
  | n, [], _ => by rw [selfEqL]
  | n, p :: l, h => by rw [selfEqL, h p List.mem_cons_self, selfEqL_all n l fun q hq => h q (List.mem_cons_of_mem _ hq)]; rfl
theorem neP_self {p : PV} (h : selfEq 40 p = true) : neP [p, p] = some (.val (.bl false)) := by
  simp only [neP, eqO_self2 40 p h, Option.map_some]; rfl
theorem eqP_self {p : PV} (h : selfEq 40 p = true) : eqP [p, p] = some (.val (.bl true)) := by
  simp only [eqP, eqO_self2 40 p h, Option.map_some]

/-! ### items by number -/
theorem atI_of {α : Type} (xs : List α) (k : Nat) (h : k < xs.length) : atI xs (k : Int) = some xs[k] := atI_nat (List.getElem?_eq_getElem h)
theorem atI_last {α : Type} (xs : List α) (x : α) : atI (xs ++ [x]) (-1) = some x := by
  unfold atI ixN
  rw [if_neg (by decide), if_pos (by rw [List.length_append]; simp; omega)]
  have : ((-1 : Int) + ((xs ++ [x]).length : Nat)).toNat = xs.length := by rw [List.length_append]; simp; omega
  simp only [Option.bind_some, this]
  simp
theorem rng_get (n : Nat) (f : Nat → PV) (k : Nat) (h : k < n) : atI ((List.range n).map f) (k : Int) = some (f k) := by
  rw [atI_of _ _ (by simpa using h)]; simp
theorem ixT_rng (n : Nat) (f : Nat → PV) (k : Nat) (h : k < n) : ixP [.tup ((List.range n).map f), .int k] = some (.val (f k)) := by
  show (atI _ _).map RV.val = _
  rw [rng_get n f k h]; rfl
theorem ixL_rng (n : Nat) (f : Nat → PV) (k : Nat) (h : k < n) : ixP [.lst ((List.range n).map f), .int k] = some (.val (f k)) := by
  show (atI _ _).map RV.val = _
  rw [rng_get n f k h]; rfl
theorem atI_neg1 (n : Nat) (f : Nat → PV) : atI ((List.range (n + 1)).map f) (-1) = some (f n) := by
  rw [List.range_succ, List.map_append]; exact atI_last _ _
theorem ixT_rng_last (n : Nat) (f : Nat → PV) : ixP [.tup ((List.range (n + 1)).map f), .int (-1)] = some (.val (f n)) := by
  show (atI _ _).map RV.val = _
  rw [atI_neg1]; rfl
theorem ixL_rng_last (n : Nat) (f : Nat → PV) : ixP [.lst ((List.range (n + 1)).map f), .int (-1)] = some (.val (f n)) := by
  show (atI _ _).map RV.val = _
  rw [atI_neg1]; rfl
theorem ixT_of (l : List PV) (k : Nat) (p : PV) (h : l[k]? = some p) : ixP [.tup l, .int k] = some (.val p) := by
  show (atI _ _).map RV.val = _
  rw [atI_nat h]; rfl
theorem ixL_of (l : List PV) (k : Nat) (p : PV) (h : l[k]? = some p) : ixP [.lst l, .int k] = some (.val p) := by
  show (atI _ _).map RV.val = _
  rw [atI_nat h]; rfl
theorem ixT_0 (p : PV) (l : List PV) : ixP [.tup (p :: l), .int 0] = some (.val p) := ixT_of _ 0 p rfl
theorem ixT_1 (p q : PV) (l : List PV) : ixP [.tup (p :: q :: l), .int 1] = some (.val q) := ixT_of _ 1 q rfl
theorem ixT_2 (p q r : PV) (l : List PV) : ixP [.tup (p :: q :: r :: l), .int 2] = some (.val r) := ixT_of _ 2 r rfl

/-! ### all, any, sum of what a comprehension brings -/
theorem blsOf_map {α : Type} (f : α → Bool) : ∀ l : List α, blsOf (l.map fun a => .bl (f a)) = some (l.map f)
  | [] => rfl
  | a :: l => by rw [List.map_cons, blsOf, blsOf_map f l]; rfl
theorem intsOf_map {α : Type} (f : α → Int) : ∀ l : List α, intsOf (l.map fun a => .int (f a)) = some (l.map f)
  | [] => rfl
  | a :: l => by rw [List.map_cons, intsOf, intsOf_map f l]; rfl
theorem allP_map {α : Type} (f : α → Bool) (l : List α) : allP [.lst (l.map fun a => .bl (f a))] = some (.val (.bl (l.all f))) := by
  rw [allP, blsOf_map]
  show some (RV.val (.bl ((l.map f).all id))) = _
  rw [List.all_map]; rfl
theorem anyP_map {α : Type} (f : α → Bool) (l : List α) : anyP [.lst (l.map fun a => .bl (f a))] = some (.val (.bl (l.any f))) := by
  rw [anyP, blsOf_map]
  show some (RV.val (.bl ((l.map f).any id))) = _
  rw [List.any_map]; rfl
theorem sumP_map {α : Type} (f : α → Int) (l : List α) : sumP [.lst (l.map fun a => .int (f a))] = some (.val (.int (l.map f).sum)) := by
  rw [sumP, intsOf_map]; rfl

/-! ### texts in order -/
def sl (x y : Str) : Prop := x.cps.toList < y.cps.toList
instance (x y : Str) : Decidable (sl x y) := inferInstanceAs (Decidable (x.cps.toList < y.cps.toList))
theorem ltD_str (x y : Str) : ltD (.str x) (.str y) = decide (sl x y) := by
  rw [ltD_eq]; exact PySem.W.dataLt_str x y
theorem sl_asymm {x y : Str} (h : sl x y) : ¬ sl y x := List.lt_asymm h
theorem sl_irrefl (x : Str) : ¬ sl x x := List.lt_irrefl _
theorem sl_trans {x y z : Str} (h : sl x y) (g : sl y z) : sl x z := List.lt_trans h g
theorem sl_ne {x y : Str} (h : sl x y) : x ≠ y := fun e => sl_irrefl y (e ▸ h)
def asc (l : List Str) : Prop := l.Pairwise sl
theorem asc.nodup {l : List Str} (h : asc l) : l.Nodup := h.imp fun h => sl_ne h
theorem asc.sub {l m : List Str} (h : asc l) (s : m.Sublist l) : asc m := List.Pairwise.sublist s h
theorem cmpOk_str (x y : Str) : cmpOk (.str x) (.str y) = true := by
  simp [cmpOk, dfree, toD, PySem.W.alike, nonP, dep]
theorem ltP_str (x y : Str) : ltP [.str x, .str y] = some (.val (.bl (decide (sl x y)))) := by
  simp only [ltP, cmpP, cmpOk_str x y, if_true, ltD_str]
theorem sortV_asc : ∀ {l : List Str}, asc l → sortV (l.map .str) = l.map .str
  | [], _ => rfl
  | [a], _ => rfl
  | a :: b :: l, h => by
    have h2 : asc (b :: l) := List.Pairwise.of_cons h
    have hab : sl a b := List.rel_of_pairwise_cons h List.mem_cons_self
    rw [List.map_cons, sortV, sortV_asc h2, List.map_cons, insV, ltD_str, decide_eq_false (sl_asymm hab)]
    rfl
theorem othersP_str : ∀ l : List Str, othersP (l.map .str) = true
  | [] => rfl
  | a :: l => by simp [othersP, othersP_str l]
theorem depL_strs : ∀ l : List Str, depL (l.map .str) = 0
  | [] => rfl
  | a :: l => by rw [List.map_cons, depL, depL_strs l]; rfl
theorem sortOk_str (l : List Str) : sortOk (l.map .str) = true := by
  have h1 : alikeLs (l.map .str) = true := by
    unfold alikeLs
    rw [dfreeL_of (fun p hp => by obtain ⟨x, _, rfl⟩ := List.mem_map.mp hp; rfl), depL_strs]
    simp [toD, PySem.W.alike, nonP]
  unfold sortOk ordL
  rw [h1, othersP_str]
  simp
theorem keysP_map {α : Type} (k e : α → PV) (l : List α) : keysP (l.map fun q => (k q, e q)) = l.map k := by
  unfold keysP; rw [List.map_map]; rfl

/-! ### dicts with texts as keys -/
def dS {α : Type} (e : α → PV) (l : List (Str × α)) : PV := .dct (l.map fun q => (.str q.1, e q.2))
section
variable {α : Type} (e : α → PV)
theorem allK_map (l : List (Str × α)) : allK (l.map fun q => (PV.str q.1, e q.2)) = true := by
  unfold allK; rw [List.all_map]; exact List.all_eq_true.mpr fun _ _ => rfl
theorem dget_map (x : Str) : ∀ l : List (Str × α), dget (l.map fun q => (PV.str q.1, e q.2)) (.str x) = (l.lookup x).map e
  | [] => rfl
  | (y, a) :: l => by
    have ih := dget_map x l
    unfold dget at ih ⊢
    rw [List.map_cons, List.find?_cons, List.lookup_cons]
    show ((match decide (y = x) with | true => _ | false => _) : Option (PV × PV)).map _ = _
    by_cases h : y = x
    · subst h; simp
    · rw [decide_eq_false h, show (x == y) = false by simpa using fun z => h z.symm]; exact ih
theorem dgetO_map (x : Str) (l : List (Str × α)) : dgetO (l.map fun q => (PV.str q.1, e q.2)) (.str x) = some ((l.lookup x).map e) := by
  show (if (true && (l.map fun q => (PV.str q.1, e q.2)).all fun q => isAKey q.1) = true then _ else _) = _
  rw [if_pos (by simp [isAKey]), dget_map]
theorem ixD_str {x : Str} {l : List (Str × α)} {a : α} (h : l.lookup x = some a) : ixP [dS e l, .str x] = some (.val (e a)) := by
  show (match dgetO _ _ with | some (some v) => some (RV.val v) | _ => none) = _
  rw [dgetO_map, h]; rfl
theorem inD_str (x : Str) (l : List (Str × α)) : inDP [.str x, dS e l] = some (.val (.bl (l.lookup x).isSome)) := by
  show (dgetO _ _).map _ = _
  rw [dgetO_map]
  simp
theorem lookup_mem : ∀ {l : List (Str × α)} {x : Str} {a : α}, (l.map (·.1)).Nodup → (x, a) ∈ l → l.lookup x = some a
  | [], _, _, _, h => by simp at h
  | (y, b) :: l, x, a, hn, h => by
    rw [List.lookup_cons]
    rw [List.map_cons, List.nodup_cons] at hn
    rcases List.mem_cons.mp h with h | h
    · cases h; simp
    · have : x ≠ y := fun z => hn.1 (z ▸ List.mem_map_of_mem (f := (·.1)) h)
      rw [show (x == y) = false by simpa using this]
      exact lookup_mem hn.2 h
theorem lookup_isSome (x : Str) : ∀ l : List (Str × α), (l.lookup x).isSome = decide (x ∈ l.map (·.1))
  | [] => rfl
  | (y, b) :: l => by
    rw [List.lookup_cons]
    by_cases h : x = y
    · subst h; simp
    · rw [show (x == y) = false by simpa using h]
      simp only [lookup_isSome x l, List.map_cons, List.mem_cons, h, false_or]
theorem pairsOf_map : ∀ l : List (Str × α), pairsOf (l.map fun q => .tup [.str q.1, e q.2]) = some (l.map fun q => (.inr q.1, e q.2))
  | [] => rfl
  | (y, b) :: l => by rw [List.map_cons, pairsOf, pairsOf_map l]; rfl
theorem dput_new {l : List (PV × PV)} {k v : PV} (h : (l.any fun q => keq q.1 k) = false) : dput l k v = l ++ [(k, v)] := by
  unfold dput; rw [h]; rfl
theorem mkD_nodup (l : List (Str × α)) (hn : (l.map (·.1)).Nodup) : mkD (l.map fun q => ((.inr q.1 : L2.Key), e q.2)) = l.map fun q => (.str q.1, e q.2) := by
  have key : ∀ (m pre : List (Str × α)), ((pre ++ m).map (·.1)).Nodup → (m.map fun q => ((.inr q.1 : L2.Key), e q.2)).foldl (fun acc q => dput acc (keyPV q.1) q.2) (pre.map fun q => (PV.str q.1, e q.2)) = (pre ++ m).map fun q => (.str q.1, e q.2) := by
    intro m
    induction m with
    | nil => intro pre _; simp
    | cons q m ih =>
      intro pre hn
      rw [List.map_cons, List.foldl_cons]
      have : dput (pre.map fun q => (PV.str q.1, e q.2)) (keyPV (.inr q.1)) (e q.2) = (pre ++ [q]).map fun q => (PV.str q.1, e q.2) := by
        rw [dput_new, List.map_append]; rfl
        rw [List.any_map]
        rw [List.any_eq_false]
        intro p hp
        show ¬ (akeq (.str p.1) (.str q.1) = true)
        have : p.1 ≠ q.1 := fun z => by
          rw [List.map_append, List.nodup_append] at hn
          exact hn.2.2 _ (List.mem_map_of_mem (f := (·.1)) hp) _ (by simp) z
        simp [akeq, this]
      rw [this, ih (pre ++ [q]) (by rw [List.append_assoc]; exact hn), List.append_assoc]; rfl
  exact key l [] hn
theorem dictP_map (l : List (Str × α)) (hn : (l.map (·.1)).Nodup) : dictP [.lst (l.map fun q => .tup [.str q.1, e q.2])] = some (.fresh (dS e l)) := by
  rw [dictP, pairsOf_map]
  show some (RV.fresh (.dct (mkD _))) = _
  rw [mkD_nodup e l hn]; rfl
theorem sortedP_dS {l : List (Str × α)} (h : asc (l.map (·.1))) : sortedP [dS e l] = some (.fresh (.lst (l.map fun q => .str q.1))) := by
  show (if sortOk (keysP _) = true then _ else _) = _
  have ek : keysP (l.map fun q => (PV.str q.1, e q.2)) = (l.map (·.1)).map .str := by rw [keysP_map, List.map_map]; rfl
  rw [ek, if_pos (sortOk_str _), sortV_asc h, List.map_map]; rfl
end
theorem sortedP_str {l : List Str} (h : asc l) : sortedP [.lst (l.map .str)] = some (.fresh (.lst (l.map .str))) := by
  show (if sortOk _ = true then _ else _) = _
  rw [if_pos (sortOk_str _), sortV_asc h]
theorem keysOfP_str : ∀ l : List Str, keysOfP (l.map .str) = some (l.map .inr)
  | [] => rfl
  | a :: l => by rw [List.map_cons, keysOfP, keysOfP_str l]; rfl
theorem uniqK_nodup (l : List Key) (h : l.Nodup) : uniqK l = l := by
  have key : ∀ (m pre : List Key), (pre ++ m).Nodup → m.foldl (fun acc k => if k ∈ acc then acc else acc ++ [k]) pre = pre ++ m := by
    intro m
    induction m with
    | nil => intro pre _; simp
    | cons q m ih =>
      intro pre hn
      rw [List.foldl_cons, if_neg, ih (pre ++ [q]) (by rw [List.append_assoc]; exact hn), List.append_assoc]; rfl
      intro hq
      rw [List.nodup_append] at hn
      exact hn.2.2 q hq q (by simp) rfl
  exact key l [] h
theorem setSorted_str {l : List Str} (h : asc l) (hl : l.length + 1 < scanBound) : setP sortedS [.tup (l.map .str)] = some (.fresh (.lst (l.map .str))) := by
  have hu : uniqK (l.map .inr) = l.map .inr := uniqK_nodup _ (by
    refine List.Pairwise.map _ ?_ h.nodup
    intro a b hab e
    exact hab (Sum.inr.inj e))
  show (match keysOfP (l.map .str) with | some ks => if ks.length + 1 < scanBound then sortedS (uniqK ks) else none | none => none) = _
  rw [keysOfP_str]
  show (if (l.map Sum.inr).length + 1 < scanBound then sortedS (uniqK (l.map Sum.inr)) else none) = _
  rw [List.length_map, if_pos hl, hu]
  unfold sortedS
  rw [if_pos (by unfold homK; rw [Bool.or_eq_true]; exact .inr (by rw [List.all_map]; exact List.all_eq_true.mpr fun _ _ => rfl)), List.map_map]
  show some (RV.fresh (.lst (sortV (l.map .str)))) = _
  rw [sortV_asc h]

/-! kinds -/
theorem isi_dict_dct (l : List (PV × PV)) : isiP "dict" [.dct l] = some (.val (.bl true)) := by
  simp only [isiP, tyP, show kitB "dict" "dict" = some true by decide +kernel, Option.map_some]
theorem isi_tuple_tup (l : List PV) : isiP "tuple" [.tup l] = some (.val (.bl true)) := by
  simp only [isiP, tyP, show kitB "tuple" "tuple" = some true by decide +kernel, Option.map_some]
theorem isi_tuple_non : isiP "tuple" [.non] = some (.val (.bl false)) := by
  simp only [isiP, tyP, show kitB "NoneType" "tuple" = some false by decide +kernel, Option.map_some]
theorem isi_int_int (i : Int) : isiP "int" [.int i] = some (.val (.bl true)) := by
  simp only [isiP, tyP, show kitB "int" "int" = some true by decide +kernel, Option.map_some]
theorem isi_bool_int (i : Int) : isiP "bool" [.int i] = some (.val (.bl false)) := by
  simp only [isiP, tyP, show kitB "int" "bool" = some false by decide +kernel, Option.map_some]
theorem isi_str_str (x : Str) : isiP "str" [.str x] = some (.val (.bl true)) := by
  simp only [isiP, tyP, show kitB "str" "str" = some true by decide +kernel, Option.map_some]
theorem lenP_dct (l : List (PV × PV)) : lenP [.dct l] = some (.val (.int (l.length : Nat))) := rfl
theorem lenP_tup (l : List PV) : lenP [.tup l] = some (.val (.int (l.length : Nat))) := rfl
theorem lenP_lst (l : List PV) : lenP [.lst l] = some (.val (.int (l.length : Nat))) := rfl
theorem tupleP_lst (l : List PV) : tupleP [.lst l] = some (.val (.tup l)) := rfl
theorem tupleP_tup (l : List PV) : tupleP [.tup l] = some (.val (.tup l)) := rfl
theorem listP_tup (l : List PV) : listP [.tup l] = some (.fresh (.lst l)) := rfl
theorem listP_lst (l : List PV) : listP [.lst l] = some (.fresh (.lst l)) := rfl
theorem listP_dS {α : Type} (e : α → PV) (l : List (Str × α)) : listP [dS e l] = some (.fresh (.lst (l.map fun q => .str q.1))) := by
  show some (RV.fresh (.lst (keysP _))) = _
  rw [keysP_map]
theorem items_dS {α : Type} (e : α → PV) (l : List (Str × α)) : itemsP (dS e l) = some (l.map fun q => .str q.1) := by
  show some (keysP _) = _
  rw [keysP_map]
def isTrue? : Option PV → Bool
  | some (.bl true) => true
  | _ => false
theorem isTrue?_eq {o : Option PV} (h : isTrue? o = true) : o = some (.bl true) := by
  unfold isTrue? at h
  split at h
  · rfl
  · cases h
theorem max2 (i j : Int) : maxP [.lst [.int i, .int j]] = some (.val (.int (if i < j then j else i))) := by
  have ho : ordL [PV.int i, PV.int j] = true := rfl
  simp only [maxP, ho, if_true, maxV, List.foldl_cons, List.foldl_nil, ltD, decide_eq_true_eq]
  split <;> rfl
theorem max1 (i : Int) : maxP [.lst [.int i]] = some (.val (.int i)) := rfl
end Den
set_option Elab.async false
set_option linter.all false
set_option maxRecDepth 100000
set_option maxHeartbeats 1000000
/-! Pu3: more of how denotations are worked out: slices, enumerate, zip, several names at once, loops by number. -/
namespace Den
open PySem L2 PyProof.Rows
section
variable {S S' S1 S2 S3 : AS} {α : Type} {N N' : AS → Prop} {Q Q' : PV → Prop} {B B' : AS → Prop}
def pars2 (i : Nat) (rv : RV) : RS → RS
  | .next S2 => set2 (putS i rv S2)
  | _ => .bad
theorem pars2_next (i : Nat) (rv : RV) (S : AS) : pars2 i rv (.next S) = set2 (putS i rv S) := id rfl
def pars1 (i : Nat) (r : List (Nat × (AS → R RV))) : R RV → RS
  | .ok rv S1 => pars2 i rv (dPars r S1)
  | _ => .bad
theorem pars1_ok (i : Nat) (r : List (Nat × (AS → R RV))) (rv : RV) (S : AS) : pars1 i r (.ok rv S) = pars2 i rv (dPars r S) := id rfl
theorem dPars_nil (S : AS) : dPars [] S = .next S := id rfl
theorem dPars_cons (i : Nat) (d : AS → R RV) (r : List (Nat × (AS → R RV))) (S : AS) : dPars ((i, d) :: r) S = pars1 i r (d S) := by
  rw [dPars]
  unfold pars1 pars2 set2
  cases d S with
  | ok rv S1 =>
    first
    | rfl
    | (dsimp only
       cases dPars r S1 with
       | next S2 => first | rfl | (dsimp only; cases putS i rv S2 <;> rfl)
       | _ => rfl)
  | _ => rfl
def slI : Option Slot → Option Int
  | some (.val (.int m)) => some m
  | _ => none
theorem slI_val (m : Int) : slI (some (.val (.int m))) = some m := id rfl
def RV.asI : RV → Option Int
  | .val (.int n) => some n
  | _ => none
theorem RV.asI_int (n : Int) : RV.asI (.val (.int n)) = some n := id rfl
def aug3 (i : Nat) (f : Int → Int → Int) (m : Int) (S' : AS) : Option Int → RS
  | some n => set2 (putS i (.val (.int (f m n))) S')
  | none => .bad
theorem aug3_some (i : Nat) (f : Int → Int → Int) (m : Int) (S' : AS) (n : Int) : aug3 i f m S' (some n) = set2 (putS i (.val (.int (f m n))) S') := id rfl
def aug2 (i : Nat) (f : Int → Int → Int) (m : Int) : R RV → RS
  | .ok rv S' => aug3 i f m S' rv.asI
  | .exc x p S' => .exc x p S'
  | .bad => .bad
theorem aug2_ok (i : Nat) (f : Int → Int → Int) (m : Int) (rv : RV) (S' : AS) : aug2 i f m (.ok rv S') = aug3 i f m S' rv.asI := id rfl
def aug1 (i : Nat) (f : Int → Int → Int) (d : AS → R RV) (S : AS) : Option Int → RS
  | some m => aug2 i f m (d S)
  | none => .bad
theorem aug1_some (i : Nat) (f : Int → Int → Int) (d : AS → R RV) (S : AS) (m : Int) : aug1 i f d S (some m) = aug2 i f m (d S) := id rfl
theorem dAug_ap (i : Nat) (f : Int → Int → Int) (d : AS → R RV) (S : AS) : dAug i f d S = aug1 i f d S (slI S[i]?) := by
  unfold dAug
  split
  · rename_i m e
    rw [e, slI_val, aug1_some]
    cases d S with
    | ok rv S' =>
      rw [aug2_ok]
      cases rv with
      | fresh q => rfl
      | val q =>
        cases q with
        | int n =>
          rw [RV.asI_int, aug3_some]
          dsimp only
          cases putS i (RV.val (.int (f m n))) S' <;> rfl
        | _ => rfl
    | exc c p S' => rfl
    | bad => rfl
  · rename_i h
    have : slI S[i]? = none := by
      unfold slI
      split
      · rename_i m e; exact absurd e (h m)
      · rfl
    rw [this]; rfl
theorem bodyF_ex {n m : Nat} {d : AS → RS} {ps : List PV} (hn : ps.length = n) (h : Wp (d (startS m ps)) (fun _ => Q .non) Q) : ∃ p, bodyF n m d ps = some p ∧ Q p := by
  unfold bodyF
  rw [if_pos hn]
  cases e : d (startS m ps) <;> rw [e] at h <;> simp only [wp_next, wp_ret, wp_brk, wp_cnt, wp_exc, wp_bad] at h ⊢
  · exact ⟨_, rfl, h⟩
  · exact ⟨_, rfl, h⟩
/-- a loop by number -/
theorem wp_idx {g : α → PV} {it : DI} {t : Tg} {body : AS → RS} {l : List α} {lk : List Nat} (P : Nat → AS → Prop) (hi : it S = .ok (l.map g, lk) S') (h : P 0 S')
    (step : ∀ (k : Nat) (hk : k < l.length), ∀ S1, P k S1 → ∃ S2, bindT t (g l[k]) S1 = some S2 ∧ Wp (body S2) (P (k + 1)) Q)
    (k : ∀ S2, P l.length S2 → N (unlk lk S2)) : Wp (dFor it t body S) N Q B := by
  refine wp_for (fun pre => P pre.length) hi h (fun pre a post e S1 hp => ?_) k
  have hk : pre.length < l.length := by rw [e, List.length_append, List.length_cons]; omega
  have ha : l[pre.length] = a := by subst e; simp
  obtain ⟨S2, e1, w⟩ := step pre.length hk S1 hp
  rw [ha] at e1
  refine ⟨S2, e1, ?_⟩
  rw [List.length_append, List.length_singleton]
  exact w
theorem wp_rng {g : Nat → PV} {it : DI} {t : Tg} {body : AS → RS} {n : Nat} {lk : List Nat} (P : Nat → AS → Prop) (hi : it S = .ok ((List.range n).map g, lk) S') (h : P 0 S')
    (step : ∀ (k : Nat) (hk : k < n), ∀ S1, P k S1 → ∃ S2, bindT t (g k) S1 = some S2 ∧ Wp (body S2) (P (k + 1)) Q)
    (k : ∀ S2, P n S2 → N (unlk lk S2)) : Wp (dFor it t body S) N Q B := by
  refine wp_idx P hi h (fun k hk S1 hp => ?_) (by rw [List.length_range]; exact k)
  rw [List.getElem_range]
  exact step k (by rw [List.length_range] at hk; exact hk) S1 hp
/-- a comprehension whose targets are told -/
theorem lc_gen0 (l : List α) (g : α → PV) (bd : α → AS) (f : α → PV) {it : DI} {t : Tg} {elt : AS → R RV} {vs : List Nat}
    (hi : it S = .ok (l.map g, []) S) (hl : l.length < LINE) (hk : okW S vs = true)
    (h1 : ∀ a ∈ l, bindT t (g a) (wipeS S vs) = some (bd a)) (h2 : ∀ a ∈ l, wipeS (bd a) vs = wipeS S vs) (h3 : ∀ a ∈ l, okW (bd a) vs = true) (h5 : ∀ a ∈ l, elt (bd a) = .ok (.val (f a)) (bd a)) :
    dLc it t dYes elt vs S = .ok (.fresh (.lst (l.map f))) S := by
  have := lc_gen (b := fun _ => true) (rv := fun a => .val (f a)) (test := dYes) hi hl hk h1 h2 h3 (fun _ _ => rfl) (fun a ha _ => h5 a ha)
  rw [List.filter_eq_self.mpr (fun _ _ => rfl)] at this
  exact this
theorem rng3_down (n : Nat) (h : n < 2 ^ 62) : rng3S [.int (n : Nat), .int 0, .int (-1)] S = .ok ((List.range n).map fun k : Nat => .int ((n : Int) - k), []) S := by
  have hs : small ((n : Nat) : Int) = true := by unfold small; rw [decide_eq_true_eq]; omega
  have h0 : small 0 = true := by decide
  have e : rngP n (-1) n = (List.range n).map fun k : Nat => .int ((n : Int) - k) := by
    unfold rngP
    refine List.map_congr_left fun k _ => ?_
    rw [show (n : Int) + (k : Int) * -1 = (n : Int) - k by omega]
  have e2 : ((n : Int) - 0).toNat = n := by omega
  simp only [rng3S, if_true, hs, h0, Bool.and_self, e2, e]
theorem enum_rng (ps : List PV) : enumP 0 ps = (List.range ps.length).map fun k => .tup [.int (k : Nat), ps.getD k .non] := by
  have key : ∀ (ps : List PV) (n : Nat), enumP n ps = (List.range ps.length).map fun k => .tup [.int ((n + k : Nat) : Int), ps.getD k .non] := by
    intro ps
    induction ps with
    | nil => intro n; rfl
    | cons p ps ih =>
      intro n
      rw [enumP, ih (n + 1), List.length_cons, List.range_succ_eq_map, List.map_cons, List.map_map]
      congr 1
      refine List.map_congr_left fun k _ => ?_
      simp only [Function.comp, List.getD_cons_succ]
      congr 3
      omega
  rw [key ps 0]
  refine List.map_congr_left fun k _ => ?_
  rw [Nat.zero_add]
theorem dEnum_lst {A : Opd} {l : List PV} {lk : List Nat} (h : evI A S = .ok (.lst l, lk) S') : dEnum A S = .ok ((List.range l.length).map fun k => .tup [.int (k : Nat), l.getD k .non], lk) S' := by
  unfold dEnum
  rw [h]
  dsimp only
  rw [enum_rng]
theorem zipP_map (f g : α → PV) : ∀ (l m : List α), zipP (l.map f) (m.map g) = (l.zip m).map fun q => .tup [f q.1, g q.2]
  | [], m => by simp [zipP]
  | a :: l, [] => by simp [zipP]
  | a :: l, b :: m => by rw [List.map_cons, List.map_cons, zipP, zipP_map f g l m, List.zip_cons_cons, List.map_cons]
theorem dZip_tup {A B : Opd} {l m : List PV} (h1 : evI A S = .ok (.tup l, []) S1) (h2 : evI B S1 = .ok (.tup m, []) S2) : dZip A B S = .ok (zipP l m, []) S2 := by
  unfold dZip
  rw [h1]
  dsimp only
  rw [h2]
  rfl
theorem cutL_lo (l : List PV) (k : Nat) : cutL l (some (k : Int)) none = l.drop k := by
  unfold cutL
  rw [HT.sIx_nat, HT.sIx_none]
  by_cases h : k ≤ l.length
  · rw [Nat.min_eq_left h, List.take_of_length_le (by rw [List.length_drop]; exact Nat.le_refl _)]
  · rw [Nat.min_eq_right (by omega), List.drop_of_length_le (Nat.le_refl _), List.drop_of_length_le (by omega)]
    simp
theorem cutL_hi (l : List PV) (k : Nat) : cutL l none (some (k : Int)) = l.take k := by
  unfold cutL
  rw [HT.sIx_nat, HT.sIx_none, List.drop_zero, Nat.sub_zero]
  by_cases h : k ≤ l.length
  · rw [Nat.min_eq_left h]
  · rw [Nat.min_eq_right (by omega), List.take_of_length_le (Nat.le_refl _), List.take_of_length_le (by omega)]
theorem cutLo_tup (l : List PV) (k : Nat) : cutLo [.tup l, .int (k : Nat)] = some (.val (.tup (l.drop k))) := by
  show some (RV.val (.tup (cutL l (some (k : Int)) none))) = _
  rw [cutL_lo]
theorem cutHi_tup (l : List PV) (k : Nat) : cutHi [.tup l, .int (k : Nat)] = some (.val (.tup (l.take k))) := by
  show some (RV.val (.tup (cutL l none (some (k : Int))))) = _
  rw [cutL_hi]
theorem cutHi_lst (l : List PV) (k : Nat) : cutHi [.lst l, .int (k : Nat)] = some (.fresh (.lst (l.take k))) := by
  show some (RV.fresh (.lst (cutL l none (some (k : Int))))) = _
  rw [cutL_hi]
theorem cutHi_neg1 (l : List PV) : cutHi [.tup l, .int (-1)] = some (.val (.tup l.dropLast)) := by
  have e : cutL l none (some (-1)) = l.dropLast := by
    unfold cutL
    rw [HT.sIx_none, List.drop_zero, Nat.sub_zero, List.dropLast_eq_take]
    congr 1
    show (if (-1 : Int) < 0 then ((-1 : Int) + (l.length : Nat)).toNat else min (-1 : Int).toNat l.length) = _
    rw [if_pos (by decide)]
    omega
  show some (RV.val (.tup (cutL l none (some (-1))))) = _
  rw [e]
theorem revP_lst (l : List PV) : revP [.lst l] = some (.fresh (.lst l.reverse)) := rfl
def pkS : Option Slot → Option PV
  | some (.val p) => some p
  | some (.own _ _ p) => some p
  | _ => none
theorem peek_ap (S : AS) (i : Nat) : peek S i = pkS S[i]? := rfl
theorem pkS_val (p : PV) : pkS (some (.val p)) = some p := id rfl
theorem pkS_own (io lk : Bool) (p : PV) : pkS (some (.own io lk p)) = some p := id rfl
theorem items_lst (l : List PV) : itemsP (.lst l) = some l := rfl
theorem items_tup (l : List PV) : itemsP (.tup l) = some l := rfl
theorem isLstS_own (io lk : Bool) (l : List PV) : isLstS (some (.own io lk (.lst l))) = true := id rfl
theorem freeS_un : freeS (some .un) = true := rfl
theorem freeS_val (p : PV) : freeS (some (.val p)) = true := rfl
theorem freeS_own (p : PV) : freeS (some (.own false false p)) = true := rfl
theorem wp_idx0 {g : α → PV} {it : DI} {t : Tg} {body : AS → RS} {l : List α} (P : Nat → AS → Prop) (hi : it S = .ok (l.map g, []) S) (h : P 0 S)
    (step : ∀ (k : Nat) (hk : k < l.length), ∀ S1, P k S1 → ∃ S2, bindT t (g l[k]) S1 = some S2 ∧ Wp (body S2) (P (k + 1)) Q)
    (k : ∀ S2, P l.length S2 → N S2) : Wp (dFor it t body S) N Q B := wp_idx P hi h step k
theorem wp_rng0 {g : Nat → PV} {it : DI} {t : Tg} {body : AS → RS} {n : Nat} (P : Nat → AS → Prop) (hi : it S = .ok ((List.range n).map g, []) S) (h : P 0 S)
    (step : ∀ (k : Nat) (hk : k < n), ∀ S1, P k S1 → ∃ S2, bindT t (g k) S1 = some S2 ∧ Wp (body S2) (P (k + 1)) Q)
    (k : ∀ S2, P n S2 → N S2) : Wp (dFor it t body S) N Q B := wp_rng P hi h step k
theorem wp_for0 {g : α → PV} {it : DI} {t : Tg} {body : AS → RS} {l : List α} (P : List α → AS → Prop) (hi : it S = .ok (l.map g, []) S) (h : P [] S)
    (step : ∀ pre a post, l = pre ++ a :: post → ∀ S1, P pre S1 → ∃ S2, bindT t (g a) S1 = some S2 ∧ Wp (body S2) (P (pre ++ [a])) Q)
    (k : ∀ S2, P l S2 → N S2) : Wp (dFor it t body S) N Q B := wp_for P hi h step k
theorem bindT_nm (i : Nat) (p : PV) (S : AS) : bindT (.nm i) p S = if freeS S[i]? = true then some (S.set i (.val p)) else none := by rw [bindT]
theorem bindT_tup (l : List Tg) (ps : List PV) (S : AS) : bindT (.tup l) (.tup ps) S = if l.length = ps.length then bindTs l ps S else none := by rw [bindT]
def bindMore (l : List Tg) (ps : List PV) : Option AS → Option AS
  | some S => bindTs l ps S
  | none => none
theorem bindMore_some (l : List Tg) (ps : List PV) (S : AS) : bindMore l ps (some S) = bindTs l ps S := id rfl
theorem bindTs_nil (S : AS) : bindTs [] [] S = some S := by rw [bindTs]
theorem bindTs_cons (t : Tg) (l : List Tg) (p : PV) (ps : List PV) (S : AS) : bindTs (t :: l) (p :: ps) S = bindMore l ps (bindT t p S) := by
  rw [bindTs]
  cases bindT t p S <;> rfl
end
end Den
set_option Elab.async false
set_option linter.all false
set_option maxRecDepth 100000
set_option maxHeartbeats 1000000
/-! Pu4: dict comprehensions, comprehensions that change the state, calls that change their first argument, in. -/
namespace Den
open PySem L2 PyProof.Rows
section
variable {S S' S1 S2 S3 : AS} {α : Type} {N N' : AS → Prop} {Q Q' : PV → Prop} {B B' : AS → Prop}
/-! dict comprehensions -/
theorem loopD_gen {g : α → PV} {bd : α → AS} {b : α → Bool} {kf : α → Str} {vf : α → PV} {t : Tg} {test : AS → R Bool} {kd vd : AS → R RV} {vs : List Nat} {W : AS} :
    ∀ (l pre : List α) (S : AS), wipeS S vs = W → ((pre ++ l).map kf).Nodup →
    (∀ a ∈ l, bindT t (g a) W = some (bd a)) → (∀ a ∈ l, wipeS (bd a) vs = W) → (∀ a ∈ l, okW (bd a) vs = true) → (∀ a ∈ l, test (bd a) = .ok (b a) (bd a)) →
    (∀ a ∈ l, b a = true → kd (bd a) = .ok (.val (.str (kf a))) (bd a)) → (∀ a ∈ l, b a = true → vd (bd a) = .ok (.val (vf a)) (bd a)) →
    ∃ S2, loopD t test kd vd vs (l.map g) S ((pre.filter b).map fun a => (.str (kf a), vf a)) = .ok (((pre ++ l).filter b).map fun a => (.str (kf a), vf a)) S2 ∧ wipeS S2 vs = W
  | [], pre, S, hW, _, _, _, _, _, _, _ => ⟨S, by rw [List.append_nil]; rfl, hW⟩
  | a :: l, pre, S, hW, hn, h1, h2, h3, h4, h5, h6 => by
    have m : ∀ x ∈ l, x ∈ a :: l := fun x h => List.mem_cons_of_mem _ h
    have e0 : pre ++ a :: l = (pre ++ [a]) ++ l := by rw [List.append_assoc]; rfl
    obtain ⟨S2, e, w⟩ := loopD_gen l (pre ++ [a]) (bd a) (h2 a List.mem_cons_self) (by rw [← e0]; exact hn) (fun x h => h1 x (m x h)) (fun x h => h2 x (m x h)) (fun x h => h3 x (m x h)) (fun x h => h4 x (m x h)) (fun x h => h5 x (m x h)) (fun x h => h6 x (m x h))
    refine ⟨S2, ?_, w⟩
    rw [List.map_cons, loopD, hW, h1 a List.mem_cons_self]
    dsimp only
    rw [h4 a List.mem_cons_self]
    by_cases hb : b a = true
    · rw [hb]
      dsimp only
      rw [h5 a List.mem_cons_self hb]
      dsimp only
      rw [h6 a List.mem_cons_self hb]
      dsimp only
      show (if okW (bd a) vs = true then loopD t test kd vd vs (l.map g) (bd a) (dput _ (keyPV (.inr (kf a))) (vf a)) else .bad) = _
      rw [if_pos (h3 a List.mem_cons_self), e0, ← e]
      congr 1
      rw [List.filter_append, List.map_append, List.filter_cons_of_pos hb]
      refine dput_new ?_
      rw [List.any_map, List.any_eq_false]
      intro p hp
      show ¬ (akeq (.str (kf p)) (.str (kf a)) = true)
      have : kf p ≠ kf a := fun z => by
        rw [List.map_append, List.nodup_append] at hn
        exact hn.2.2 _ (List.mem_map_of_mem (f := kf) (List.mem_filter.mp hp).1) _ (by simp) z
      simp [akeq, this]
    · have hb' : b a = false := by simpa using hb
      rw [hb']
      dsimp only
      rw [if_pos (h3 a List.mem_cons_self), e0, ← e]
      congr 1
      rw [List.filter_append, List.filter_cons_of_neg hb]
      simp
theorem dc_f0 (l : List α) (g : α → PV) (b : α → Bool) (kf : α → Str) (vf : α → PV) {it : DI} {test : AS → R Bool} {kd vd : AS → R RV} {i : Nat}
    (hi : it S = .ok (l.map g, []) S) (hn : (l.map kf).Nodup) (hx : i < S.length) (hs : softS S[i]? = true) (hl : l.length < LINE)
    (h4 : ∀ a ∈ l, test (S.set i (.val (g a))) = .ok (b a) (S.set i (.val (g a))))
    (h5 : ∀ a ∈ l, b a = true → kd (S.set i (.val (g a))) = .ok (.val (.str (kf a))) (S.set i (.val (g a))))
    (h6 : ∀ a ∈ l, b a = true → vd (S.set i (.val (g a))) = .ok (.val (vf a)) (S.set i (.val (g a)))) :
    dDc it (.nm i) test kd vd [i] S = .ok (.fresh (.dct ((l.filter b).map fun a => (.str (kf a), vf a)))) S := by
  obtain ⟨S2, e, w⟩ := loopD_gen (t := .nm i) (vs := [i]) (W := wipeS S [i]) (g := g) (bd := fun a => S.set i (.val (g a))) l [] S rfl hn (fun a _ => by
    simp only [wipeS, bindT, List.getElem?_set_self hx, freeS, if_true, List.set_set]) (fun a _ => by simp only [wipeS, List.set_set]) (fun a _ => by simp [okW, hx, softS]) h4 h5 h6
  have hk : okW S [i] = true := by simp [okW, hs]
  unfold dDc
  rw [hi]
  dsimp only
  rw [hk, decide_eq_true (by rw [List.length_map]; exact hl)]
  rw [if_pos (by rfl)]
  rw [show (List.map (fun a => (PV.str (kf a), vf a)) (List.filter b ([] : List α))) = [] from rfl] at e
  rw [e]
  dsimp only
  rw [w, unwS_wipe]
  rfl
/-- a comprehension that changes the state -/
theorem loopL_st {g : α → PV} {t : Tg} {elt : AS → R RV} {vs : List Nat} (l0 : List α) (P : Nat → List PV → AS → Prop)
    (step : ∀ (k : Nat) (hk : k < l0.length) acc S1, P k acc S1 → ∃ S2 rv S3, bindT t (g l0[k]) (wipeS S1 vs) = some S2 ∧ elt S2 = .ok rv S3 ∧ okW S3 vs = true ∧ P (k + 1) (acc ++ [rv.pv]) S3) :
    ∀ (l : List α) (k : Nat) (acc : List PV) (S : AS), l0.drop k = l → k ≤ l0.length → P k acc S → ∃ acc' S2, loopL t dYes elt vs (l.map g) S acc = .ok acc' S2 ∧ P l0.length acc' S2
  | [], k, acc, S, hd, hk, h => by
    have : l0.length ≤ k := List.drop_eq_nil_iff.mp hd
    have e : k = l0.length := by omega
    subst e
    exact ⟨acc, S, rfl, h⟩
  | a :: l, k, acc, S, hd, hk, h => by
    have hlt : k < l0.length := by
      rcases Nat.lt_or_ge k l0.length with z | z
      · exact z
      · rw [List.drop_of_length_le z] at hd; cases hd
    rw [List.drop_eq_getElem_cons hlt] at hd
    obtain ⟨ha, hl⟩ := List.cons.inj hd
    obtain ⟨S2, rv, S3, e1, e2, e3, h'⟩ := step k hlt acc S h
    rw [ha] at e1
    obtain ⟨acc', S4, e4, h4⟩ := loopL_st l0 P step l (k + 1) (acc ++ [rv.pv]) S3 hl hlt h'
    refine ⟨acc', S4, ?_, h4⟩
    rw [List.map_cons, loopL, e1]
    dsimp only [dYes]
    rw [e2]
    dsimp only
    rw [if_pos e3]
    exact e4
theorem lc_st (l : List α) (g : α → PV) (P : Nat → List PV → AS → Prop) {it : DI} {t : Tg} {elt : AS → R RV} {vs lk : List Nat}
    (hi : it S = .ok (l.map g, lk) S') (hl : l.length < LINE) (hk : okW S' vs = true) (h0 : P 0 [] S')
    (step : ∀ (k : Nat) (hk : k < l.length) acc S1, P k acc S1 → ∃ S2 rv S3, bindT t (g l[k]) (wipeS S1 vs) = some S2 ∧ elt S2 = .ok rv S3 ∧ okW S3 vs = true ∧ P (k + 1) (acc ++ [rv.pv]) S3) :
    ∃ acc S2, P l.length acc S2 ∧ dLc it t dYes elt vs S = .ok (.fresh (.lst acc)) (unlk lk (unwS S' (wipeS S2 vs) vs)) := by
  obtain ⟨acc, S2, e, h⟩ := loopL_st l P step l 0 [] S' rfl (Nat.zero_le _) h0
  refine ⟨acc, S2, h, ?_⟩
  unfold dLc
  rw [hi]
  dsimp only
  rw [hk, decide_eq_true (by rw [List.length_map]; exact hl), if_pos (by rfl), e]
/-! calls that change their first argument -/
def isOwn : Option Slot → Bool
  | some (.own _ _ _) => true
  | _ => false
theorem isOwn_own (io lk : Bool) (p : PV) : isOwn (some (.own io lk p)) = true := id rfl
def io3 (i : Nat) (io : Bool) (S' : AS) : Option (PV × PV) → R RV
  | some (r, p1) => .ok (.val r) (S'.set i (.own io false p1))
  | none => .bad
theorem io3_some (i : Nat) (io : Bool) (S' : AS) (r p1 : PV) : io3 i io S' (some (r, p1)) = .ok (.val r) (S'.set i (.own io false p1)) := id rfl
def ioS (F : PV → List PV → Option (PV × PV)) (i : Nat) (ps : List PV) (S' : AS) : Option Slot → R RV
  | some (.own io false p0) => io3 i io S' (F p0 ps)
  | _ => .bad
theorem ioS_own (F : PV → List PV → Option (PV × PV)) (i : Nat) (ps : List PV) (S' : AS) (io : Bool) (p0 : PV) : ioS F i ps S' (some (.own io false p0)) = io3 i io S' (F p0 ps) := id rfl
def io2 (F : PV → List PV → Option (PV × PV)) (i : Nat) : R (List PV) → R RV
  | .ok ps S' => ioS F i ps S' S'[i]?
  | .exc x p S' => .exc x p S'
  | .bad => .bad
theorem io2_ok (F : PV → List PV → Option (PV × PV)) (i : Nat) (ps : List PV) (S' : AS) : io2 F i (.ok ps S') = ioS F i ps S' S'[i]? := id rfl
def io1 (F : PV → List PV → Option (PV × PV)) (i : Nat) (ds : List (AS → R RV)) (S : AS) : Bool → R RV
  | true => io2 F i (evV ds S)
  | false => .bad
theorem io1_true (F : PV → List PV → Option (PV × PV)) (i : Nat) (ds : List (AS → R RV)) (S : AS) : io1 F i ds S true = io2 F i (evV ds S) := id rfl
theorem dCallIO_ap (F : PV → List PV → Option (PV × PV)) (i : Nat) (ds : List (AS → R RV)) (S : AS) : dCallIO F i ds S = io1 F i ds S (isOwn S[i]?) := by
  unfold dCallIO
  split
  · rename_i io lk p e
    rw [e, isOwn_own, io1_true]
    cases evV ds S with
    | ok ps S' =>
      rw [io2_ok]
      show (match S'[i]? with
        | some (.own io false p0) => match F p0 ps with
          | some (r, p1) => R.ok (RV.val r) (S'.set i (.own io false p1))
          | none => .bad
        | _ => .bad) = ioS F i ps S' S'[i]?
      generalize S'[i]? = x
      match x with
      | none => rfl
      | some .un => rfl
      | some (.val _) => rfl
      | some (.own io true p0) => rfl
      | some (.own io false p0) =>
        rw [ioS_own]
        show (match F p0 ps with
          | some (r, p1) => R.ok (RV.val r) (S'.set i (.own io false p1))
          | none => .bad) = io3 i io S' (F p0 ps)
        cases F p0 ps with
        | none => rfl
        | some q => obtain ⟨r, p1⟩ := q; rfl
    | exc c p S' => rfl
    | bad => rfl
  · rename_i h
    have : isOwn S[i]? = false := by
      unfold isOwn
      split
      · rename_i io lk p e; exact absurd e (h io lk p)
      · rfl
    rw [this]; rfl
theorem bodyIO_ret {n m : Nat} {d : AS → RS} {p0 p p1 : PV} {ps : List PV} (hn : ps.length + 1 = n) (h : d (.own true false p0 :: startS m ps) = .ret p S) (h0 : S[(0 : Nat)]? = some (.own true false p1)) : bodyIO n m d p0 ps = some (p, p1) := by
  unfold bodyIO
  rw [if_pos hn, h]
  unfold outIO
  simp only [h0]
/-! in -/
theorem inO_str (x : Str) : ∀ ns : List Str, inO (.str x) (ns.map .str) = some (decide (x ∈ ns))
  | [] => rfl
  | y :: ns => by
    rw [List.map_cons, inO, inO_str x ns]
    rw [show (dfree (PV.str y)) = true from rfl, if_pos rfl, eqO_str]
    simp only [Option.some.injEq]
    by_cases h : y = x
    · subst h; simp
    · have : x ≠ y := fun z => h z.symm
      simp [h, this]
theorem in_tup_str (x : Str) (ns : List Str) : inDP [.str x, .tup (ns.map .str)] = some (.val (.bl (decide (x ∈ ns)))) := by
  show (inO _ _).map _ = _
  rw [inO_str]; rfl
/-! one item of a list set anew -/
theorem set_rng (n s : Nat) (hs : s < n) (f : Nat → α) (y : α) : ((List.range n).map f).take s ++ [y] ++ ((List.range n).map f).drop (s + 1) = (List.range n).map fun j => if j = s then y else f j := by
  apply List.ext_getElem?
  intro j
  have hl : (((List.range n).map f).take s).length = s := by rw [List.length_take, List.length_map, List.length_range]; omega
  rcases Nat.lt_trichotomy j s with h | h | h
  · rw [List.append_assoc, List.getElem?_append_left (by omega), List.getElem?_take_of_lt h, List.getElem?_map, List.getElem?_map, List.getElem?_range (by omega)]
    simp [Nat.ne_of_lt h]
  · subst h
    rw [List.append_assoc, List.getElem?_append_right (by omega), hl, Nat.sub_self, List.getElem?_map, List.getElem?_range hs]
    simp
  · rw [List.getElem?_append_right (by rw [List.length_append, hl]; simp; omega), List.length_append, hl, List.getElem?_drop]
    have e : s + 1 + (j - (s + [y].length)) = j := by simp; omega
    rw [e, List.getElem?_map, List.getElem?_map]
    by_cases hj : j < n
    · rw [List.getElem?_range hj]; simp [Nat.ne_of_gt h]
    · rw [List.getElem?_eq_none (by rw [List.length_range]; omega)]; rfl
end
end Den
set_option Elab.async false
set_option linter.all false
set_option maxRecDepth 100000
set_option maxHeartbeats 4000000
namespace Den.Lk58
open PySem L2 PyProof.Rows Den
def topS (i : Nat) : Stmt := PySem.Challenge.pw_callforpapers_k58_known_markets.main.body.getD i (.Pass ⟨0, 0, 0, 0⟩)

structure Tp (G : Wd) : Prop where
  m_all : G.mg "all" = none
  m_any : G.mg "any" = none
  m_bool : G.mg "bool" = none
  m_dict : G.mg "dict" = none
  m_enumerate : G.mg "enumerate" = none
  m_int : G.mg "int" = none
  m_isinstance : G.mg "isinstance" = none
  m_len : G.mg "len" = none
  m_max : G.mg "max" = none
  m_range : G.mg "range" = none
  m_set : G.mg "set" = none
  m_sorted : G.mg "sorted" = none
  m_str : G.mg "str" = none
  m_tuple : G.mg "tuple" = none
  m_zip : G.mg "zip" = none
  k_FIGURES : ∃ t, G.mg "FIGURES" = some (.str "0123456789" t)
  k_KEPT : KTup G "KEPT" ["at", "by", "from", "need", "of", "on", "to", "with"]
  k_LETTERS : ∃ t, G.mg "LETTERS" = some (.str "abcdefghijklmnopqrstuvwxyz" t)
  k_MOST_NAME : ∃ t, G.mg "MOST_NAME" = some (.int 8 t)
  k_MOST_SEATS : ∃ t, G.mg "MOST_SEATS" = some (.int 6 t)
  k_MOST_WORTH : ∃ t, G.mg "MOST_WORTH" = some (.int 30 t)

theorem Tp.b_all {G : Wd} (T : Tp G) {c : Cs} (h : glB c "all" = true) : Bi G c "all" (.builtin "all") := bi_of h T.m_all (by decide +kernel) (by decide +kernel) (by decide +kernel)

theorem Tp.b_any {G : Wd} (T : Tp G) {c : Cs} (h : glB c "any" = true) : Bi G c "any" (.builtin "any") := bi_of h T.m_any (by decide +kernel) (by decide +kernel) (by decide +kernel)

theorem Tp.b_bool {G : Wd} (T : Tp G) {c : Cs} (h : glB c "bool" = true) : Bi G c "bool" (.type "bool") := bi_of h T.m_bool (by decide +kernel) (by decide +kernel) (by decide +kernel)

theorem Tp.b_dict {G : Wd} (T : Tp G) {c : Cs} (h : glB c "dict" = true) : Bi G c "dict" (.type "dict") := bi_of h T.m_dict (by decide +kernel) (by decide +kernel) (by decide +kernel)

theorem Tp.b_enumerate {G : Wd} (T : Tp G) {c : Cs} (h : glB c "enumerate" = true) : Bi G c "enumerate" (.type "enumerate") := bi_of h T.m_enumerate (by decide +kernel) (by decide +kernel) (by decide +kernel)

theorem Tp.b_int {G : Wd} (T : Tp G) {c : Cs} (h : glB c "int" = true) : Bi G c "int" (.type "int") := bi_of h T.m_int (by decide +kernel) (by decide +kernel) (by decide +kernel)

theorem Tp.b_isinstance {G : Wd} (T : Tp G) {c : Cs} (h : glB c "isinstance" = true) : Bi G c "isinstance" (.builtin "isinstance") := bi_of h T.m_isinstance (by decide +kernel) (by decide +kernel) (by decide +kernel)

theorem Tp.b_len {G : Wd} (T : Tp G) {c : Cs} (h : glB c "len" = true) : Bi G c "len" (.builtin "len") := bi_of h T.m_len (by decide +kernel) (by decide +kernel) (by decide +kernel)

theorem Tp.b_max {G : Wd} (T : Tp G) {c : Cs} (h : glB c "max" = true) : Bi G c "max" (.builtin "max") := bi_of h T.m_max (by decide +kernel) (by decide +kernel) (by decide +kernel)

theorem Tp.b_range {G : Wd} (T : Tp G) {c : Cs} (h : glB c "range" = true) : Bi G c "range" (.type "range") := bi_of h T.m_range (by decide +kernel) (by decide +kernel) (by decide +kernel)

theorem Tp.b_set {G : Wd} (T : Tp G) {c : Cs} (h : glB c "set" = true) : Bi G c "set" (.type "set") := bi_of h T.m_set (by decide +kernel) (by decide +kernel) (by decide +kernel)

theorem Tp.b_sorted {G : Wd} (T : Tp G) {c : Cs} (h : glB c "sorted" = true) : Bi G c "sorted" (.builtin "sorted") := bi_of h T.m_sorted (by decide +kernel) (by decide +kernel) (by decide +kernel)

theorem Tp.b_str {G : Wd} (T : Tp G) {c : Cs} (h : glB c "str" = true) : Bi G c "str" (.type "str") := bi_of h T.m_str (by decide +kernel) (by decide +kernel) (by decide +kernel)

theorem Tp.b_tuple {G : Wd} (T : Tp G) {c : Cs} (h : glB c "tuple" = true) : Bi G c "tuple" (.type "tuple") := bi_of h T.m_tuple (by decide +kernel) (by decide +kernel) (by decide +kernel)

theorem Tp.b_zip {G : Wd} (T : Tp G) {c : Cs} (h : glB c "zip" = true) : Bi G c "zip" (.type "zip") := bi_of h T.m_zip (by decide +kernel) (by decide +kernel) (by decide +kernel)

/-! is_whole -/
abbrev s_is_whole : Stmt := topS 8
abbrev c_is_whole : Cs := ⟨["thing"], defScope s_is_whole, fun _ => true⟩
def d_is_whole : AS → RS := (dRet (dAndV (dOp (isiP "int") [(.nm 0)]) (dNotV (dOp (isiP "bool") [(.nm 0)]))))
def F_is_whole := bodyF 1 0 d_is_whole
theorem ok_is_whole {G : Wd} (T : Tp G) : SSs G c_is_whole 1 (defBody s_is_whole) d_is_whole :=
  (sss_one (ss_ret (se_and (se_isi (T.b_isinstance (by decide +kernel)) (T.b_int (by decide +kernel)) (so_nm (i := 0) rfl (vs_by (by decide +kernel)) (by decide +kernel) (by decide +kernel))) (se_one (se_not (se_isi (T.b_isinstance (by decide +kernel)) (T.b_bool (by decide +kernel)) (so_nm (i := 0) rfl (vs_by (by decide +kernel)) (by decide +kernel) (by decide +kernel))))))))

/-! is_from -/
abbrev s_is_from : Stmt := topS 9
abbrev c_is_from : Cs := ⟨["thing", "least", "most"], defScope s_is_from, fun _ => true⟩
def d_is_from : AS → RS := (dRet (dAndV (dCall F_is_whole [(dTake 0)]) (dChain leP leP (.nm 1) (.nm 0) (.nm 2))))
def F_is_from := bodyF 3 0 d_is_from
theorem ok_is_from {G : Wd} (T : Tp G) (h_is_whole : Fn G "is_whole" 2 1 F_is_whole) : SSs G c_is_from 2 (defBody s_is_from) d_is_from :=
  (sss_one (ss_ret (se_and (se_call h_is_whole (by decide) rfl (by decide +kernel) (by decide +kernel) (sv_cons (se_take (i := 0) rfl (vs_by (by decide +kernel)) (by decide +kernel) (by decide +kernel)) sv_nil)) (se_one (se_chain o_le o_le (so_nm (i := 1) rfl (vs_by (by decide +kernel)) (by decide +kernel) (by decide +kernel)) (so_nm (i := 0) rfl (vs_by (by decide +kernel)) (by decide +kernel) (by decide +kernel)) (so_nm (i := 2) rfl (vs_by (by decide +kernel)) (by decide +kernel) (by decide +kernel)))))))

/-! is_name -/
abbrev s_is_name : Stmt := topS 10
abbrev c_is_name : Cs := ⟨["thing", "sign"], defScope s_is_name, fun _ => true⟩
def d_is_name : AS → RS := (dSeq (dIfS (dOr (dNot (dB (dOp (isiP "str") [(.nm 0)]))) (dOr (dNot (dB (dChain leP leP (.tm (dC (.int 1))) (.tm (dOp lenP [(.nm 0)])) (.tm (dC (.int 8)))))) (dOr (dB (dOp niDP [(.tm (dOp ixP [(.nm 0), (.tm (dC (.int 0)))])), (.tm (dC (.str "abcdefghijklmnopqrstuvwxyz")))])) (dB (dOp (inConst ["at", "by", "from", "need", "of", "on", "to", "with"]) [(.nm 0)]))))) (dRet (dC (.bl false))) dSkip)
  (dRet (dOp allP [(.tm (dLc (dPlain (.nm 0)) (.nm 1) dYes (dOrV (dOp inDP [(.nm 1), (.tm (dC (.str "abcdefghijklmnopqrstuvwxyz")))]) (dOp inDP [(.nm 1), (.tm (dC (.str "0123456789")))])) [1]))])))
def F_is_name := bodyF 1 1 d_is_name
theorem ok_is_name {G : Wd} (T : Tp G) : SSs G c_is_name 1 (defBody s_is_name) d_is_name :=
  (sss_cons (ss_if (sw_st (sw_or (st_not (st_val (se_isi (T.b_isinstance (by decide +kernel)) (T.b_str (by decide +kernel)) (so_nm (i := 0) rfl (vs_by (by decide +kernel)) (by decide +kernel) (by decide +kernel))))) (sw_or (st_not (st_chain o_le o_le (so_tm se_int) (so_tm (se_len (T.b_len (by decide +kernel)) (sa_cons (so_nm (i := 0) rfl (vs_by (by decide +kernel)) (by decide +kernel) (by decide +kernel)) sa_nil))) (so_tm (se_globI (x := "MOST_NAME") T.k_MOST_NAME (by decide +kernel) (by decide +kernel))))) (sw_or (st_cmp o_ni (so_tm (se_ix (so_nm (i := 0) rfl (vs_by (by decide +kernel)) (by decide +kernel) (by decide +kernel)) (so_tm se_int))) (so_tm (se_globS (x := "LETTERS") T.k_LETTERS (by decide +kernel) (by decide +kernel)))) (sw_or1 (st_inK T.k_KEPT (by decide +kernel) (by decide +kernel) (so_nm (i := 0) rfl (vs_by (by decide +kernel)) (by decide +kernel) (by decide +kernel)))))))) (sss_one (ss_ret se_bl)) sss_nil)
  (sss_one (ss_ret (se_all (T.b_all (by decide +kernel)) (sa_cons (so_tm (se_lc (own := [("sign", 1)]) (by decide +kernel) (si_plain (so_nm (i := 0) rfl (vs_by (by decide +kernel)) (by decide +kernel) (by decide +kernel))) (sg_nm (i := 1) (loc_by (by decide +kernel))) sp_nil (se_or' (se_cmp o_in (so_nm (i := 1) rfl (vs_by (by decide +kernel)) (by decide +kernel) (by decide +kernel)) (so_tm (se_globS (x := "LETTERS") T.k_LETTERS (by decide +kernel) (by decide +kernel)))) (se_one (se_cmp o_in (so_nm (i := 1) rfl (vs_by (by decide +kernel)) (by decide +kernel) (by decide +kernel)) (so_tm (se_globS (x := "FIGURES") T.k_FIGURES (by decide +kernel) (by decide +kernel)))))) (by decide +kernel))) sa_nil)))))

/-! ascends -/
abbrev s_ascends : Stmt := topS 11
abbrev c_ascends : Cs := ⟨["things", "one", "other"], defScope s_ascends, fun _ => true⟩
def d_ascends : AS → RS := (dRet (dOp allP [(.tm (dLc (dZip (.nm 0) (.tm (dOp cutLo [(.nm 0), (.tm (dC (.int 1)))]))) (.tup [(.nm 1), (.nm 2)]) dYes (dOp ltP [(.nm 1), (.nm 2)]) [1, 2]))]))
def F_ascends := bodyF 1 2 d_ascends
theorem ok_ascends {G : Wd} (T : Tp G) : SSs G c_ascends 1 (defBody s_ascends) d_ascends :=
  (sss_one (ss_ret (se_all (T.b_all (by decide +kernel)) (sa_cons (so_tm (se_lc (own := [("one", 1), ("other", 2)]) (by decide +kernel) (si_zip (T.b_zip (by decide +kernel)) (so_nm (i := 0) rfl (vs_by (by decide +kernel)) (by decide +kernel) (by decide +kernel)) (so_tm (se_cutLo (so_nm (i := 0) rfl (vs_by (by decide +kernel)) (by decide +kernel) (by decide +kernel)) (so_tm se_int)))) (sg_tup (sgs_cons (sg_nm (i := 1) (loc_by (by decide +kernel))) (sgs_cons (sg_nm (i := 2) (loc_by (by decide +kernel))) sgs_nil))) sp_nil (se_cmp o_lt (so_nm (i := 1) rfl (vs_by (by decide +kernel)) (by decide +kernel) (by decide +kernel)) (so_nm (i := 2) rfl (vs_by (by decide +kernel)) (by decide +kernel) (by decide +kernel))) (by decide +kernel))) sa_nil))))

/-! is_seats -/
abbrev s_is_seats : Stmt := topS 15
abbrev c_is_seats : Cs := ⟨["thing", "one"], defScope s_is_seats, fun _ => true⟩
def d_is_seats : AS → RS := (dSeq (dIfS (dOr (dNot (dB (dOp (isiP "tuple") [(.nm 0)]))) (dNot (dB (dChain leP leP (.tm (dC (.int 1))) (.tm (dOp lenP [(.nm 0)])) (.tm (dC (.int 6))))))) (dRet (dC (.bl false))) dSkip)
  (dRet (dAndV (dOp allP [(.tm (dLc (dPlain (.nm 0)) (.nm 1) dYes (dCall F_is_name [(dTake 1)]) [1]))]) (dCall F_ascends [(dTake 0)]))))
def F_is_seats := bodyF 1 1 d_is_seats
theorem ok_is_seats {G : Wd} (T : Tp G) (h_ascends : Fn G "ascends" 2 1 F_ascends) (h_is_name : Fn G "is_name" 2 1 F_is_name) : SSs G c_is_seats 2 (defBody s_is_seats) d_is_seats :=
  (sss_cons (ss_if (sw_st (sw_or (st_not (st_val (se_isi (T.b_isinstance (by decide +kernel)) (T.b_tuple (by decide +kernel)) (so_nm (i := 0) rfl (vs_by (by decide +kernel)) (by decide +kernel) (by decide +kernel))))) (sw_or1 (st_not (st_chain o_le o_le (so_tm se_int) (so_tm (se_len (T.b_len (by decide +kernel)) (sa_cons (so_nm (i := 0) rfl (vs_by (by decide +kernel)) (by decide +kernel) (by decide +kernel)) sa_nil))) (so_tm (se_globI (x := "MOST_SEATS") T.k_MOST_SEATS (by decide +kernel) (by decide +kernel)))))))) (sss_one (ss_ret se_bl)) sss_nil)
  (sss_one (ss_ret (se_and (se_all (T.b_all (by decide +kernel)) (sa_cons (so_tm (se_lc (own := [("one", 1)]) (by decide +kernel) (si_plain (so_nm (i := 0) rfl (vs_by (by decide +kernel)) (by decide +kernel) (by decide +kernel))) (sg_nm (i := 1) (loc_by (by decide +kernel))) sp_nil (se_call h_is_name (by decide) rfl (by decide +kernel) (by decide +kernel) (sv_cons (se_take (i := 1) rfl (vs_by (by decide +kernel)) (by decide +kernel) (by decide +kernel)) sv_nil)) (by decide +kernel))) sa_nil)) (se_one (se_call h_ascends (by decide) rfl (by decide +kernel) (by decide +kernel) (sv_cons (se_take (i := 0) rfl (vs_by (by decide +kernel)) (by decide +kernel) (by decide +kernel)) sv_nil)))))))

/-! is_wish -/
abbrev s_is_wish : Stmt := topS 17
abbrev c_is_wish : Cs := ⟨["seats", "thing", "worth", "one"], defScope s_is_wish, fun _ => true⟩
def d_is_wish : AS → RS := (dSeq (dIfS (dOr (dNot (dB (dOp (isiP "dict") [(.nm 1)]))) (dNot (dB (dOp allP [(.tm (dLc (dPlain (.nm 1)) (.nm 3) dYes (dAndV (dOp (isiP "str") [(.nm 3)]) (dOp inDP [(.nm 3), (.nm 0)])) [3]))])))) (dRet (dC (.bl false))) dSkip)
  (dRet (dOp allP [(.tm (dLc (dVals (.nm 1)) (.nm 2) dYes (dCall F_is_from [(dTake 2), (dC (.int 0)), (dC (.int 30))]) [2]))])))
def F_is_wish := bodyF 2 2 d_is_wish
theorem ok_is_wish {G : Wd} (T : Tp G) (h_is_from : Fn G "is_from" 3 3 F_is_from) : SSs G c_is_wish 3 (defBody s_is_wish) d_is_wish :=
  (sss_cons (ss_if (sw_st (sw_or (st_not (st_val (se_isi (T.b_isinstance (by decide +kernel)) (T.b_dict (by decide +kernel)) (so_nm (i := 1) rfl (vs_by (by decide +kernel)) (by decide +kernel) (by decide +kernel))))) (sw_or1 (st_not (st_val (se_all (T.b_all (by decide +kernel)) (sa_cons (so_tm (se_lc (own := [("one", 3)]) (by decide +kernel) (si_plain (so_nm (i := 1) rfl (vs_by (by decide +kernel)) (by decide +kernel) (by decide +kernel))) (sg_nm (i := 3) (loc_by (by decide +kernel))) sp_nil (se_and (se_isi (T.b_isinstance (by decide +kernel)) (T.b_str (by decide +kernel)) (so_nm (i := 3) rfl (vs_by (by decide +kernel)) (by decide +kernel) (by decide +kernel))) (se_one (se_cmp o_in (so_nm (i := 3) rfl (vs_by (by decide +kernel)) (by decide +kernel) (by decide +kernel)) (so_nm (i := 0) rfl (vs_by (by decide +kernel)) (by decide +kernel) (by decide +kernel))))) (by decide +kernel))) sa_nil))))))) (sss_one (ss_ret se_bl)) sss_nil)
  (sss_one (ss_ret (se_all (T.b_all (by decide +kernel)) (sa_cons (so_tm (se_lc (own := [("worth", 2)]) (by decide +kernel) (si_vals (so_nm (i := 1) rfl (vs_by (by decide +kernel)) (by decide +kernel) (by decide +kernel))) (sg_nm (i := 2) (loc_by (by decide +kernel))) sp_nil (se_call h_is_from (by decide) rfl (by decide +kernel) (by decide +kernel) (sv_cons (se_take (i := 2) rfl (vs_by (by decide +kernel)) (by decide +kernel) (by decide +kernel)) (sv_cons se_int (sv_cons (se_globI (x := "MOST_WORTH") T.k_MOST_WORTH (by decide +kernel) (by decide +kernel)) sv_nil)))) (by decide +kernel))) sa_nil)))))

/-! is_wishes -/
abbrev s_is_wishes : Stmt := topS 16
abbrev c_is_wishes : Cs := ⟨["seats", "thing", "wish", "one"], defScope s_is_wishes, fun _ => true⟩
def d_is_wishes : AS → RS := (dSeq (dIfS (dNot (dB (dCall F_is_seats [(dTake 0)]))) dBad dSkip)
  (dSeq (dIfS (dOr (dNot (dB (dOp (isiP "dict") [(.nm 1)]))) (dOr (dNot (dB (dChain leP leP (.tm (dC (.int 1))) (.tm (dOp lenP [(.nm 1)])) (.tm (dC (.int 6)))))) (dNot (dB (dOp allP [(.tm (dLc (dPlain (.nm 1)) (.nm 3) dYes (dCall F_is_name [(dTake 3)]) [3]))]))))) (dRet (dC (.bl false))) dSkip)
  (dRet (dOp allP [(.tm (dLc (dVals (.nm 1)) (.nm 2) dYes (dCall F_is_wish [(dTake 0), (dTake 2)]) [2]))]))))
def F_is_wishes := bodyF 2 2 d_is_wishes
theorem ok_is_wishes {G : Wd} (T : Tp G) (h_is_name : Fn G "is_name" 2 1 F_is_name) (h_is_seats : Fn G "is_seats" 3 1 F_is_seats) (h_is_wish : Fn G "is_wish" 4 2 F_is_wish) : SSs G c_is_wishes 4 (defBody s_is_wishes) d_is_wishes :=
  (sss_cons (ss_if (st_not (st_val (se_call h_is_seats (by decide) rfl (by decide +kernel) (by decide +kernel) (sv_cons (se_take (i := 0) rfl (vs_by (by decide +kernel)) (by decide +kernel) (by decide +kernel)) sv_nil)))) (sss_one ss_bad) sss_nil)
  (sss_cons (ss_if (sw_st (sw_or (st_not (st_val (se_isi (T.b_isinstance (by decide +kernel)) (T.b_dict (by decide +kernel)) (so_nm (i := 1) rfl (vs_by (by decide +kernel)) (by decide +kernel) (by decide +kernel))))) (sw_or (st_not (st_chain o_le o_le (so_tm se_int) (so_tm (se_len (T.b_len (by decide +kernel)) (sa_cons (so_nm (i := 1) rfl (vs_by (by decide +kernel)) (by decide +kernel) (by decide +kernel)) sa_nil))) (so_tm (se_globI (x := "MOST_SEATS") T.k_MOST_SEATS (by decide +kernel) (by decide +kernel))))) (sw_or1 (st_not (st_val (se_all (T.b_all (by decide +kernel)) (sa_cons (so_tm (se_lc (own := [("one", 3)]) (by decide +kernel) (si_plain (so_nm (i := 1) rfl (vs_by (by decide +kernel)) (by decide +kernel) (by decide +kernel))) (sg_nm (i := 3) (loc_by (by decide +kernel))) sp_nil (se_call h_is_name (by decide) rfl (by decide +kernel) (by decide +kernel) (sv_cons (se_take (i := 3) rfl (vs_by (by decide +kernel)) (by decide +kernel) (by decide +kernel)) sv_nil)) (by decide +kernel))) sa_nil)))))))) (sss_one (ss_ret se_bl)) sss_nil)
  (sss_one (ss_ret (se_all (T.b_all (by decide +kernel)) (sa_cons (so_tm (se_lc (own := [("wish", 2)]) (by decide +kernel) (si_vals (so_nm (i := 1) rfl (vs_by (by decide +kernel)) (by decide +kernel) (by decide +kernel))) (sg_nm (i := 2) (loc_by (by decide +kernel))) sp_nil (se_call h_is_wish (by decide) rfl (by decide +kernel) (by decide +kernel) (sv_cons (se_take (i := 0) rfl (vs_by (by decide +kernel)) (by decide +kernel) (by decide +kernel)) (sv_cons (se_take (i := 2) rfl (vs_by (by decide +kernel)) (by decide +kernel) (by decide +kernel)) sv_nil))) (by decide +kernel))) sa_nil))))))

/-! check_wishes -/
abbrev s_check_wishes : Stmt := topS 18
abbrev c_check_wishes : Cs := ⟨["seats", "wishes"], defScope s_check_wishes, fun _ => true⟩
def d_check_wishes : AS → RS := (dIfS (dNot (dB (dCall F_is_wishes [(dTake 0), (dTake 1)]))) dBad dSkip)
def F_check_wishes := bodyF 2 0 d_check_wishes
theorem ok_check_wishes {G : Wd} (T : Tp G) (h_is_wishes : Fn G "is_wishes" 5 2 F_is_wishes) : SSs G c_check_wishes 5 (defBody s_check_wishes) d_check_wishes :=
  (sss_one (ss_if (st_not (st_val (se_call h_is_wishes (by decide) rfl (by decide +kernel) (by decide +kernel) (sv_cons (se_take (i := 0) rfl (vs_by (by decide +kernel)) (by decide +kernel) (by decide +kernel)) (sv_cons (se_take (i := 1) rfl (vs_by (by decide +kernel)) (by decide +kernel) (by decide +kernel)) sv_nil))))) (sss_one ss_bad) sss_nil))

/-! is_sale -/
abbrev s_is_sale : Stmt := topS 19
abbrev c_is_sale : Cs := ⟨["seats", "wishes", "thing", "some", "seat", "one"], defScope s_is_sale, fun _ => true⟩
def d_is_sale : AS → RS := (dSeq (dExpr (dCall F_check_wishes [(dTake 0), (dTake 1)]))
  (dSeq (dIfS (dOr (dNot (dB (dOp (isiP "dict") [(.nm 2)]))) (dOr (dB (dOp neP [(.tm (dOp lenP [(.nm 2)])), (.tm (dOp lenP [(.nm 1)]))])) (dNot (dB (dOp allP [(.tm (dLc (dPlain (.nm 1)) (.nm 5) dYes (dOp inDP [(.nm 5), (.nm 2)]) [5]))]))))) (dRet (dC (.bl false))) dSkip)
  (dSeq (dSet 3 (dLc (dVals (.nm 2)) (.nm 4) (dB (dOp notNP [(.nm 4), (.tm (dC .non))])) (dTake 4) [4]))
  (dRet (dAndV (dOp allP [(.tm (dLc (dPlain (.nm 3)) (.nm 4) dYes (dAndV (dOp (isiP "str") [(.nm 4)]) (dOp inDP [(.nm 4), (.nm 0)])) [4]))]) (dOp eqP [(.tm (dOp (setP lenS) [(.nm 3)])), (.tm (dOp lenP [(.nm 3)]))]))))))
def F_is_sale := bodyF 3 3 d_is_sale
theorem ok_is_sale {G : Wd} (T : Tp G) (h_check_wishes : Fn G "check_wishes" 6 2 F_check_wishes) : SSs G c_is_sale 6 (defBody s_is_sale) d_is_sale :=
  (sss_cons (ss_expr (se_call h_check_wishes (by decide) rfl (by decide +kernel) (by decide +kernel) (sv_cons (se_take (i := 0) rfl (vs_by (by decide +kernel)) (by decide +kernel) (by decide +kernel)) (sv_cons (se_take (i := 1) rfl (vs_by (by decide +kernel)) (by decide +kernel) (by decide +kernel)) sv_nil))))
  (sss_cons (ss_if (sw_st (sw_or (st_not (st_val (se_isi (T.b_isinstance (by decide +kernel)) (T.b_dict (by decide +kernel)) (so_nm (i := 2) rfl (vs_by (by decide +kernel)) (by decide +kernel) (by decide +kernel))))) (sw_or (st_cmp o_ne (so_tm (se_len (T.b_len (by decide +kernel)) (sa_cons (so_nm (i := 2) rfl (vs_by (by decide +kernel)) (by decide +kernel) (by decide +kernel)) sa_nil))) (so_tm (se_len (T.b_len (by decide +kernel)) (sa_cons (so_nm (i := 1) rfl (vs_by (by decide +kernel)) (by decide +kernel) (by decide +kernel)) sa_nil)))) (sw_or1 (st_not (st_val (se_all (T.b_all (by decide +kernel)) (sa_cons (so_tm (se_lc (own := [("one", 5)]) (by decide +kernel) (si_plain (so_nm (i := 1) rfl (vs_by (by decide +kernel)) (by decide +kernel) (by decide +kernel))) (sg_nm (i := 5) (loc_by (by decide +kernel))) sp_nil (se_cmp o_in (so_nm (i := 5) rfl (vs_by (by decide +kernel)) (by decide +kernel) (by decide +kernel)) (so_nm (i := 2) rfl (vs_by (by decide +kernel)) (by decide +kernel) (by decide +kernel))) (by decide +kernel))) sa_nil)))))))) (sss_one (ss_ret se_bl)) sss_nil)
  (sss_cons (ss_setLc (i := 3) (own := [("seat", 4)]) rfl (by decide +kernel) (sw_lc (by decide +kernel)) (by decide +kernel) (si_vals (so_nm (i := 2) rfl (vs_by (by decide +kernel)) (by decide +kernel) (by decide +kernel))) (sg_nm (i := 4) (loc_by (by decide +kernel))) (sp_one (st_cmp o_notN (so_nm (i := 4) rfl (vs_by (by decide +kernel)) (by decide +kernel) (by decide +kernel)) (so_tm se_non))) (se_take (i := 4) rfl (vs_by (by decide +kernel)) (by decide +kernel) (by decide +kernel)) (by decide +kernel))
  (sss_one (ss_ret (se_and (se_all (T.b_all (by decide +kernel)) (sa_cons (so_tm (se_lc (own := [("seat", 4)]) (by decide +kernel) (si_plain (so_nm (i := 3) rfl (vs_by (by decide +kernel)) (by decide +kernel) (by decide +kernel))) (sg_nm (i := 4) (loc_by (by decide +kernel))) sp_nil (se_and (se_isi (T.b_isinstance (by decide +kernel)) (T.b_str (by decide +kernel)) (so_nm (i := 4) rfl (vs_by (by decide +kernel)) (by decide +kernel) (by decide +kernel))) (se_one (se_cmp o_in (so_nm (i := 4) rfl (vs_by (by decide +kernel)) (by decide +kernel) (by decide +kernel)) (so_nm (i := 0) rfl (vs_by (by decide +kernel)) (by decide +kernel) (by decide +kernel))))) (by decide +kernel))) sa_nil)) (se_one (se_cmp o_eq (so_tm (se_lenSet (T.b_len (by decide +kernel)) (T.b_set (by decide +kernel)) (sa_cons (so_nm (i := 3) rfl (vs_by (by decide +kernel)) (by decide +kernel) (by decide +kernel)) sa_nil))) (so_tm (se_len (T.b_len (by decide +kernel)) (sa_cons (so_nm (i := 3) rfl (vs_by (by decide +kernel)) (by decide +kernel) (by decide +kernel)) sa_nil)))))))))))

/-! is_prices_of -/
abbrev s_is_prices_of : Stmt := topS 20
abbrev c_is_prices_of : Cs := ⟨["seats", "thing", "price", "seat"], defScope s_is_prices_of, fun _ => true⟩
def d_is_prices_of : AS → RS := (dSeq (dIfS (dNot (dB (dCall F_is_seats [(dTake 0)]))) dBad dSkip)
  (dSeq (dIfS (dOr (dNot (dB (dOp (isiP "dict") [(.nm 1)]))) (dOr (dB (dOp neP [(.tm (dOp lenP [(.nm 1)])), (.tm (dOp lenP [(.nm 0)]))])) (dNot (dB (dOp allP [(.tm (dLc (dPlain (.nm 0)) (.nm 3) dYes (dOp inDP [(.nm 3), (.nm 1)]) [3]))]))))) (dRet (dC (.bl false))) dSkip)
  (dRet (dOp allP [(.tm (dLc (dVals (.nm 1)) (.nm 2) dYes (dCall F_is_from [(dTake 2), (dC (.int 0)), (dC (.int 100))]) [2]))]))))
def F_is_prices_of := bodyF 2 2 d_is_prices_of
theorem ok_is_prices_of {G : Wd} (T : Tp G) (h_is_from : Fn G "is_from" 3 3 F_is_from) (h_is_seats : Fn G "is_seats" 3 1 F_is_seats) : SSs G c_is_prices_of 3 (defBody s_is_prices_of) d_is_prices_of :=
  (sss_cons (ss_if (st_not (st_val (se_call h_is_seats (by decide) rfl (by decide +kernel) (by decide +kernel) (sv_cons (se_take (i := 0) rfl (vs_by (by decide +kernel)) (by decide +kernel) (by decide +kernel)) sv_nil)))) (sss_one ss_bad) sss_nil)
  (sss_cons (ss_if (sw_st (sw_or (st_not (st_val (se_isi (T.b_isinstance (by decide +kernel)) (T.b_dict (by decide +kernel)) (so_nm (i := 1) rfl (vs_by (by decide +kernel)) (by decide +kernel) (by decide +kernel))))) (sw_or (st_cmp o_ne (so_tm (se_len (T.b_len (by decide +kernel)) (sa_cons (so_nm (i := 1) rfl (vs_by (by decide +kernel)) (by decide +kernel) (by decide +kernel)) sa_nil))) (so_tm (se_len (T.b_len (by decide +kernel)) (sa_cons (so_nm (i := 0) rfl (vs_by (by decide +kernel)) (by decide +kernel) (by decide +kernel)) sa_nil)))) (sw_or1 (st_not (st_val (se_all (T.b_all (by decide +kernel)) (sa_cons (so_tm (se_lc (own := [("seat", 3)]) (by decide +kernel) (si_plain (so_nm (i := 0) rfl (vs_by (by decide +kernel)) (by decide +kernel) (by decide +kernel))) (sg_nm (i := 3) (loc_by (by decide +kernel))) sp_nil (se_cmp o_in (so_nm (i := 3) rfl (vs_by (by decide +kernel)) (by decide +kernel) (by decide +kernel)) (so_nm (i := 1) rfl (vs_by (by decide +kernel)) (by decide +kernel) (by decide +kernel))) (by decide +kernel))) sa_nil)))))))) (sss_one (ss_ret se_bl)) sss_nil)
  (sss_one (ss_ret (se_all (T.b_all (by decide +kernel)) (sa_cons (so_tm (se_lc (own := [("price", 2)]) (by decide +kernel) (si_vals (so_nm (i := 1) rfl (vs_by (by decide +kernel)) (by decide +kernel) (by decide +kernel))) (sg_nm (i := 2) (loc_by (by decide +kernel))) sp_nil (se_call h_is_from (by decide) rfl (by decide +kernel) (by decide +kernel) (sv_cons (se_take (i := 2) rfl (vs_by (by decide +kernel)) (by decide +kernel) (by decide +kernel)) (sv_cons se_int (sv_cons se_int sv_nil)))) (by decide +kernel))) sa_nil))))))

/-! best_worth -/
abbrev s_best_worth : Stmt := topS 21
abbrev c_best_worth : Cs := ⟨["seats", "wishes", "table", "one", "late", "left", "worth", "place", "seat", "rest"], defScope s_best_worth, fun _ => true⟩
def d_best_worth : AS → RS := (dSeq (dSet 2 (dDispT (dOp tupleP [(.tm (dOp sortedP [(.nm 0)]))]) (dC (.int 0))))
  (dSeq (dFor (dPlain (.tm (dOp sortedP [(.nm 1)]))) (.nm 3) (dSeq (dSet 4 dDct0)
  (dSeq (dFor (dItemsB (.nm 2)) (.tup [(.nm 5), (.nm 6)]) (dSeq (dPut 4 (.nm 5) (dOp maxP [(.nm 6), (.tm (dGet2 (.nm 4) (dTake 5) (dC (.int 0))))]))
  (dFor (dEnumB (.nm 5)) (.tup [(.nm 7), (.nm 8)]) (dSeq (dSet 9 (dTupX [.star (dOp cutHi [(.nm 5), (.nm 7)]), .star (dOp cutLo [(.nm 5), (.tm (dOp addP [(.nm 7), (.tm (dC (.int 1)))]))])]))
  (dPut 4 (.nm 9) (dOp maxP [(.tm (dGet2 (.nm 4) (dTake 9) (dC (.int 0)))), (.tm (dOp addP [(.nm 6), (.tm (dGet2 (.tm (dOp ixP [(.nm 1), (.nm 3)])) (dTake 8) (dC (.int 0))))]))]))))))
  (dSet 2 (dTake 4)))))
  (dRet (dOp maxVP [(.nm 2)]))))
def F_best_worth := bodyF 2 8 d_best_worth
theorem ok_best_worth {G : Wd} (T : Tp G) : SSs G c_best_worth 1 (defBody s_best_worth) d_best_worth :=
  (sss_cons (ss_set (i := 2) (loc_by (by decide +kernel)) (se_dispT (se_tuplec (T.b_tuple (by decide +kernel)) (sa_cons (so_tm (se_sorted (T.b_sorted (by decide +kernel)) (sa_cons (so_nm (i := 0) rfl (vs_by (by decide +kernel)) (by decide +kernel) (by decide +kernel)) sa_nil))) sa_nil)) se_int))
  (sss_cons (ss_for (si_plain (so_tm (se_sorted (T.b_sorted (by decide +kernel)) (sa_cons (so_nm (i := 1) rfl (vs_by (by decide +kernel)) (by decide +kernel) (by decide +kernel)) sa_nil)))) (sg_nm (i := 3) (loc_by (by decide +kernel))) (sss_cons (ss_set (i := 4) (loc_by (by decide +kernel)) se_dct0)
  (sss_cons (ss_for (si_itemsB (so_nm (i := 2) rfl (vs_by (by decide +kernel)) (by decide +kernel) (by decide +kernel))) (sg_tup (sgs_cons (sg_nm (i := 5) (loc_by (by decide +kernel))) (sgs_cons (sg_nm (i := 6) (loc_by (by decide +kernel))) sgs_nil))) (sss_cons (ss_put (i := 4) rfl (vs_by (by decide +kernel)) (so_nm (i := 5) rfl (vs_by (by decide +kernel)) (by decide +kernel) (by decide +kernel)) (se_max (T.b_max (by decide +kernel)) (sa_cons (so_nm (i := 6) rfl (vs_by (by decide +kernel)) (by decide +kernel) (by decide +kernel)) (sa_cons (so_tm (se_get2 (so_nm (i := 4) rfl (vs_by (by decide +kernel)) (by decide +kernel) (by decide +kernel)) (se_take (i := 5) rfl (vs_by (by decide +kernel)) (by decide +kernel) (by decide +kernel)) se_int)) sa_nil))) (hdd := by decide +kernel) (hcd := by decide +kernel))
  (sss_one (ss_for (si_enumB (T.b_enumerate (by decide +kernel)) (so_nm (i := 5) rfl (vs_by (by decide +kernel)) (by decide +kernel) (by decide +kernel))) (sg_tup (sgs_cons (sg_nm (i := 7) (loc_by (by decide +kernel))) (sgs_cons (sg_nm (i := 8) (loc_by (by decide +kernel))) sgs_nil))) (sss_cons (ss_set (i := 9) (loc_by (by decide +kernel)) (se_tupX (sx_star (se_cutHi (so_nm (i := 5) rfl (vs_by (by decide +kernel)) (by decide +kernel) (by decide +kernel)) (so_nm (i := 7) rfl (vs_by (by decide +kernel)) (by decide +kernel) (by decide +kernel))) (sx_star (se_cutLo (so_nm (i := 5) rfl (vs_by (by decide +kernel)) (by decide +kernel) (by decide +kernel)) (so_tm (se_add (so_nm (i := 7) rfl (vs_by (by decide +kernel)) (by decide +kernel) (by decide +kernel)) (so_tm se_int)))) sx_nil))))
  (sss_one (ss_put (i := 4) rfl (vs_by (by decide +kernel)) (so_nm (i := 9) rfl (vs_by (by decide +kernel)) (by decide +kernel) (by decide +kernel)) (se_max (T.b_max (by decide +kernel)) (sa_cons (so_tm (se_get2 (so_nm (i := 4) rfl (vs_by (by decide +kernel)) (by decide +kernel) (by decide +kernel)) (se_take (i := 9) rfl (vs_by (by decide +kernel)) (by decide +kernel) (by decide +kernel)) se_int)) (sa_cons (so_tm (se_add (so_nm (i := 6) rfl (vs_by (by decide +kernel)) (by decide +kernel) (by decide +kernel)) (so_tm (se_get2 (so_tm (se_ix (so_nm (i := 1) rfl (vs_by (by decide +kernel)) (by decide +kernel) (by decide +kernel)) (so_nm (i := 3) rfl (vs_by (by decide +kernel)) (by decide +kernel) (by decide +kernel)))) (se_take (i := 8) rfl (vs_by (by decide +kernel)) (by decide +kernel) (by decide +kernel)) se_int)))) sa_nil))) (hdd := by decide +kernel) (hcd := by decide +kernel))))))))
  (sss_one (ss_set (i := 2) (loc_by (by decide +kernel)) (se_take (i := 4) rfl (vs_by (by decide +kernel)) (by decide +kernel) (by decide +kernel)))))))
  (sss_one (ss_ret (se_maxVals (T.b_max (by decide +kernel)) (so_nm (i := 2) rfl (vs_by (by decide +kernel)) (by decide +kernel) (by decide +kernel)))))))

/-! best_sale -/
abbrev s_best_sale : Stmt := topS 22
abbrev c_best_sale : Cs := ⟨["seats", "wishes", "people", "worth", "left", "sale", "sure", "place", "one", "others", "seat", "rest", "gain", "late"], defScope s_best_sale, fun _ => true⟩
def d_best_sale : AS → RS := (dSeq (dExpr (dCall F_check_wishes [(dTake 0), (dTake 1)]))
  (dSeq (dPars [(3, (dCall F_best_worth [(dTake 0), (dTake 1)])), (4, (dTake 0)), (5, dDct0), (6, (dC (.int 0)))])
  (dSeq (dSet 2 (dOp sortedP [(.nm 1)]))
  (dSeq (dFor (dEnumB (.nm 2)) (.tup [(.nm 7), (.nm 8)]) (dSeq (dSet 9 (dDc (dPlain (.tm (dOp cutLo [(.nm 2), (.tm (dOp addP [(.nm 7), (.tm (dC (.int 1)))]))]))) (.nm 13) dYes (dTake 13) (dOp ixP [(.nm 1), (.nm 13)]) [13]))
  (dFor (dPlain (.tm (dTupX [.star (dTake 4), .one (dC .non)]))) (.nm 10) (dSeq (dSet 11 (dOp tupleP [(.tm (dLc (dPlain (.nm 4)) (.nm 13) (dB (dOp neP [(.nm 13), (.nm 10)])) (dTake 13) [13]))]))
  (dSeq (dSet 12 (dIf (dB (dOp notNP [(.nm 10), (.tm (dC .non))])) (dGet2 (.tm (dOp ixP [(.nm 1), (.nm 8)])) (dTake 10) (dC (.int 0))) (dC (.int 0))))
  (dIfS (dB (dOp eqP [(.tm (dOp addP [(.tm (dOp addP [(.nm 6), (.nm 12)])), (.tm (dCall F_best_worth [(dTake 11), (dTake 9)]))])), (.nm 3)])) (dSeq (dPutPars 5 8 [4, 6] [(dTake 10), (dTake 11), (dOp addP [(.nm 6), (.nm 12)])])
  dBrk) dSkip))))))
  (dRet (dTup [(dTake 3), (dTake 5)]))))))
def F_best_sale := bodyF 2 12 d_best_sale
theorem ok_best_sale {G : Wd} (T : Tp G) (h_best_worth : Fn G "best_worth" 2 2 F_best_worth) (h_check_wishes : Fn G "check_wishes" 6 2 F_check_wishes) : SSs G c_best_sale 6 (defBody s_best_sale) d_best_sale :=
  (sss_cons (ss_expr (se_call h_check_wishes (by decide) rfl (by decide +kernel) (by decide +kernel) (sv_cons (se_take (i := 0) rfl (vs_by (by decide +kernel)) (by decide +kernel) (by decide +kernel)) (sv_cons (se_take (i := 1) rfl (vs_by (by decide +kernel)) (by decide +kernel) (by decide +kernel)) sv_nil))))
  (sss_cons (ss_parsT (l := [(3, (dCall F_best_worth [(dTake 0), (dTake 1)])), (4, (dTake 0)), (5, dDct0), (6, (dC (.int 0)))]) (.cons (loc_by (by decide +kernel)) (.cons (loc_by (by decide +kernel)) (.cons (loc_by (by decide +kernel)) (.cons (loc_by (by decide +kernel)) .nil)))) (by decide) (sv_cons (se_call h_best_worth (by decide) rfl (by decide +kernel) (by decide +kernel) (sv_cons (se_take (i := 0) rfl (vs_by (by decide +kernel)) (by decide +kernel) (by decide +kernel)) (sv_cons (se_take (i := 1) rfl (vs_by (by decide +kernel)) (by decide +kernel) (by decide +kernel)) sv_nil))) (sv_cons (se_take (i := 0) rfl (vs_by (by decide +kernel)) (by decide +kernel) (by decide +kernel)) (sv_cons se_dct0 (sv_cons se_int sv_nil)))) (by decide) (by decide +kernel))
  (sss_cons (ss_set (i := 2) (loc_by (by decide +kernel)) (se_sorted (T.b_sorted (by decide +kernel)) (sa_cons (so_nm (i := 1) rfl (vs_by (by decide +kernel)) (by decide +kernel) (by decide +kernel)) sa_nil)))
  (sss_cons (ss_for (si_enumB (T.b_enumerate (by decide +kernel)) (so_nm (i := 2) rfl (vs_by (by decide +kernel)) (by decide +kernel) (by decide +kernel))) (sg_tup (sgs_cons (sg_nm (i := 7) (loc_by (by decide +kernel))) (sgs_cons (sg_nm (i := 8) (loc_by (by decide +kernel))) sgs_nil))) (sss_cons (ss_setDc (i := 9) (own := [("late", 13)]) rfl (by decide +kernel) (sw_dc (by decide +kernel)) (by decide +kernel) (si_plain (so_tm (se_cutLo (so_nm (i := 2) rfl (vs_by (by decide +kernel)) (by decide +kernel) (by decide +kernel)) (so_tm (se_add (so_nm (i := 7) rfl (vs_by (by decide +kernel)) (by decide +kernel) (by decide +kernel)) (so_tm se_int)))))) (sg_nm (i := 13) (loc_by (by decide +kernel))) sp_nil (se_take (i := 13) rfl (vs_by (by decide +kernel)) (by decide +kernel) (by decide +kernel)) (se_ix (so_nm (i := 1) rfl (vs_by (by decide +kernel)) (by decide +kernel) (by decide +kernel)) (so_nm (i := 13) rfl (vs_by (by decide +kernel)) (by decide +kernel) (by decide +kernel))) (by decide +kernel))
  (sss_one (ss_for (si_plain (so_tm (se_tupX (sx_star (se_take (i := 4) rfl (vs_by (by decide +kernel)) (by decide +kernel) (by decide +kernel)) (sx_one se_non sx_nil))))) (sg_nm (i := 10) (loc_by (by decide +kernel))) (sss_cons (ss_set (i := 11) (loc_by (by decide +kernel)) (se_tuplec (T.b_tuple (by decide +kernel)) (sa_cons (so_tm (se_lc (own := [("late", 13)]) (by decide +kernel) (si_plain (so_nm (i := 4) rfl (vs_by (by decide +kernel)) (by decide +kernel) (by decide +kernel))) (sg_nm (i := 13) (loc_by (by decide +kernel))) (sp_one (st_cmp o_ne (so_nm (i := 13) rfl (vs_by (by decide +kernel)) (by decide +kernel) (by decide +kernel)) (so_nm (i := 10) rfl (vs_by (by decide +kernel)) (by decide +kernel) (by decide +kernel)))) (se_take (i := 13) rfl (vs_by (by decide +kernel)) (by decide +kernel) (by decide +kernel)) (by decide +kernel))) sa_nil)))
  (sss_cons (ss_set (i := 12) (loc_by (by decide +kernel)) (se_if (st_cmp o_notN (so_nm (i := 10) rfl (vs_by (by decide +kernel)) (by decide +kernel) (by decide +kernel)) (so_tm se_non)) (se_get2 (so_tm (se_ix (so_nm (i := 1) rfl (vs_by (by decide +kernel)) (by decide +kernel) (by decide +kernel)) (so_nm (i := 8) rfl (vs_by (by decide +kernel)) (by decide +kernel) (by decide +kernel)))) (se_take (i := 10) rfl (vs_by (by decide +kernel)) (by decide +kernel) (by decide +kernel)) se_int) se_int))
  (sss_one (ss_if (st_cmp o_eq (so_tm (se_add (so_tm (se_add (so_nm (i := 6) rfl (vs_by (by decide +kernel)) (by decide +kernel) (by decide +kernel)) (so_nm (i := 12) rfl (vs_by (by decide +kernel)) (by decide +kernel) (by decide +kernel)))) (so_tm (se_call h_best_worth (by decide) rfl (by decide +kernel) (by decide +kernel) (sv_cons (se_take (i := 11) rfl (vs_by (by decide +kernel)) (by decide +kernel) (by decide +kernel)) (sv_cons (se_take (i := 9) rfl (vs_by (by decide +kernel)) (by decide +kernel) (by decide +kernel)) sv_nil)))))) (so_nm (i := 3) rfl (vs_by (by decide +kernel)) (by decide +kernel) (by decide +kernel))) (sss_cons (ss_putPars (i := 5) (j := 8) (is := [4, 6]) (ds := [(dTake 10), (dTake 11), (dOp addP [(.nm 6), (.nm 12)])]) rfl (vs_by (by decide +kernel)) rfl (vs_by (by decide +kernel)) (.cons (loc_by (by decide +kernel)) (.cons (loc_by (by decide +kernel)) .nil)) (sv_cons (se_take (i := 10) rfl (vs_by (by decide +kernel)) (by decide +kernel) (by decide +kernel)) (sv_cons (se_take (i := 11) rfl (vs_by (by decide +kernel)) (by decide +kernel) (by decide +kernel)) (sv_cons (se_add (so_nm (i := 6) rfl (vs_by (by decide +kernel)) (by decide +kernel) (by decide +kernel)) (so_nm (i := 12) rfl (vs_by (by decide +kernel)) (by decide +kernel) (by decide +kernel))) sv_nil))) rfl (by decide) (by decide +kernel) (hdx := by decide +kernel) (hcx := by decide +kernel) (hdy := by decide +kernel) (hcy := by decide +kernel))
  (sss_one ss_brk)) sss_nil))))))))
  (sss_one (ss_ret (se_tup (sv_cons (se_take (i := 3) rfl (vs_by (by decide +kernel)) (by decide +kernel) (by decide +kernel)) (sv_cons (se_take (i := 5) rfl (vs_by (by decide +kernel)) (by decide +kernel) (by decide +kernel)) sv_nil)))))))))

/-! gain_of -/
abbrev s_gain_of : Stmt := topS 23
abbrev c_gain_of : Cs := ⟨["wishes", "prices", "person", "seat"], defScope s_gain_of, fun _ => true⟩
def d_gain_of : AS → RS := (dRet (dIf (dB (dOp notNP [(.nm 3), (.tm (dC .non))])) (dOp subP [(.tm (dGet2 (.tm (dOp ixP [(.nm 0), (.nm 2)])) (dTake 3) (dC (.int 0)))), (.tm (dOp ixP [(.nm 1), (.nm 3)]))]) (dC (.int 0))))
def F_gain_of := bodyF 4 0 d_gain_of
theorem ok_gain_of {G : Wd} (T : Tp G) : SSs G c_gain_of 1 (defBody s_gain_of) d_gain_of :=
  (sss_one (ss_ret (se_if (st_cmp o_notN (so_nm (i := 3) rfl (vs_by (by decide +kernel)) (by decide +kernel) (by decide +kernel)) (so_tm se_non)) (se_sub (so_tm (se_get2 (so_tm (se_ix (so_nm (i := 0) rfl (vs_by (by decide +kernel)) (by decide +kernel) (by decide +kernel)) (so_nm (i := 2) rfl (vs_by (by decide +kernel)) (by decide +kernel) (by decide +kernel)))) (se_take (i := 3) rfl (vs_by (by decide +kernel)) (by decide +kernel) (by decide +kernel)) se_int)) (so_tm (se_ix (so_nm (i := 1) rfl (vs_by (by decide +kernel)) (by decide +kernel) (by decide +kernel)) (so_nm (i := 3) rfl (vs_by (by decide +kernel)) (by decide +kernel) (by decide +kernel))))) se_int)))

/-! best_gain -/
abbrev s_best_gain : Stmt := topS 24
abbrev c_best_gain : Cs := ⟨["wishes", "prices", "person", "seat"], defScope s_best_gain, fun _ => true⟩
def d_best_gain : AS → RS := (dRet (dOp maxP [(.tm (dLstX [.one (dC (.int 0)), .star (dLc (dPlain (.nm 1)) (.nm 3) dYes (dCall F_gain_of [(dTake 0), (dTake 1), (dTake 2), (dTake 3)]) [3])]))]))
def F_best_gain := bodyF 3 1 d_best_gain
theorem ok_best_gain {G : Wd} (T : Tp G) (h_gain_of : Fn G "gain_of" 2 4 F_gain_of) : SSs G c_best_gain 2 (defBody s_best_gain) d_best_gain :=
  (sss_one (ss_ret (se_max (T.b_max (by decide +kernel)) (sa_cons (so_tm (se_lstX (sx_one se_int (sx_star (se_lc (own := [("seat", 3)]) (by decide +kernel) (si_plain (so_nm (i := 1) rfl (vs_by (by decide +kernel)) (by decide +kernel) (by decide +kernel))) (sg_nm (i := 3) (loc_by (by decide +kernel))) sp_nil (se_call h_gain_of (by decide) rfl (by decide +kernel) (by decide +kernel) (sv_cons (se_take (i := 0) rfl (vs_by (by decide +kernel)) (by decide +kernel) (by decide +kernel)) (sv_cons (se_take (i := 1) rfl (vs_by (by decide +kernel)) (by decide +kernel) (by decide +kernel)) (sv_cons (se_take (i := 2) rfl (vs_by (by decide +kernel)) (by decide +kernel) (by decide +kernel)) (sv_cons (se_take (i := 3) rfl (vs_by (by decide +kernel)) (by decide +kernel) (by decide +kernel)) sv_nil))))) (by decide +kernel)) sx_nil)))) sa_nil))))

/-! liked_best -/
abbrev s_liked_best : Stmt := topS 25
abbrev c_liked_best : Cs := ⟨["seats", "wishes", "prices", "person", "best", "seat"], defScope s_liked_best, fun _ => true⟩
def d_liked_best : AS → RS := (dSeq (dExpr (dCall F_check_wishes [(dTake 0), (dTake 1)]))
  (dSeq (dIfS (dNot (dB (dCall F_is_prices_of [(dTake 0), (dTake 2)]))) dBad dSkip)
  (dSeq (dIfS (dOr (dNot (dB (dOp (isiP "str") [(.nm 3)]))) (dB (dOp niDP [(.nm 3), (.nm 1)]))) dBad dSkip)
  (dSeq (dSet 4 (dCall F_best_gain [(dTake 1), (dTake 2), (dTake 3)]))
  (dRet (dOp tupleP [(.tm (dLc (dPlain (.tm (dTupX [.star (dTake 0), .one (dC .non)]))) (.nm 5) (dB (dOp eqP [(.tm (dCall F_gain_of [(dTake 1), (dTake 2), (dTake 3), (dTake 5)])), (.nm 4)])) (dTake 5) [5]))]))))))
def F_liked_best := bodyF 4 2 d_liked_best
theorem ok_liked_best {G : Wd} (T : Tp G) (h_best_gain : Fn G "best_gain" 3 3 F_best_gain) (h_check_wishes : Fn G "check_wishes" 6 2 F_check_wishes) (h_gain_of : Fn G "gain_of" 2 4 F_gain_of) (h_is_prices_of : Fn G "is_prices_of" 4 2 F_is_prices_of) : SSs G c_liked_best 6 (defBody s_liked_best) d_liked_best :=
  (sss_cons (ss_expr (se_call h_check_wishes (by decide) rfl (by decide +kernel) (by decide +kernel) (sv_cons (se_take (i := 0) rfl (vs_by (by decide +kernel)) (by decide +kernel) (by decide +kernel)) (sv_cons (se_take (i := 1) rfl (vs_by (by decide +kernel)) (by decide +kernel) (by decide +kernel)) sv_nil))))
  (sss_cons (ss_if (st_not (st_val (se_call h_is_prices_of (by decide) rfl (by decide +kernel) (by decide +kernel) (sv_cons (se_take (i := 0) rfl (vs_by (by decide +kernel)) (by decide +kernel) (by decide +kernel)) (sv_cons (se_take (i := 2) rfl (vs_by (by decide +kernel)) (by decide +kernel) (by decide +kernel)) sv_nil))))) (sss_one ss_bad) sss_nil)
  (sss_cons (ss_if (sw_st (sw_or (st_not (st_val (se_isi (T.b_isinstance (by decide +kernel)) (T.b_str (by decide +kernel)) (so_nm (i := 3) rfl (vs_by (by decide +kernel)) (by decide +kernel) (by decide +kernel))))) (sw_or1 (st_cmp o_ni (so_nm (i := 3) rfl (vs_by (by decide +kernel)) (by decide +kernel) (by decide +kernel)) (so_nm (i := 1) rfl (vs_by (by decide +kernel)) (by decide +kernel) (by decide +kernel)))))) (sss_one ss_bad) sss_nil)
  (sss_cons (ss_set (i := 4) (loc_by (by decide +kernel)) (se_call h_best_gain (by decide) rfl (by decide +kernel) (by decide +kernel) (sv_cons (se_take (i := 1) rfl (vs_by (by decide +kernel)) (by decide +kernel) (by decide +kernel)) (sv_cons (se_take (i := 2) rfl (vs_by (by decide +kernel)) (by decide +kernel) (by decide +kernel)) (sv_cons (se_take (i := 3) rfl (vs_by (by decide +kernel)) (by decide +kernel) (by decide +kernel)) sv_nil)))))
  (sss_one (ss_ret (se_tuplec (T.b_tuple (by decide +kernel)) (sa_cons (so_tm (se_lc (own := [("seat", 5)]) (by decide +kernel) (si_plain (so_tm (se_tupX (sx_star (se_take (i := 0) rfl (vs_by (by decide +kernel)) (by decide +kernel) (by decide +kernel)) (sx_one se_non sx_nil))))) (sg_nm (i := 5) (loc_by (by decide +kernel))) (sp_one (st_cmp o_eq (so_tm (se_call h_gain_of (by decide) rfl (by decide +kernel) (by decide +kernel) (sv_cons (se_take (i := 1) rfl (vs_by (by decide +kernel)) (by decide +kernel) (by decide +kernel)) (sv_cons (se_take (i := 2) rfl (vs_by (by decide +kernel)) (by decide +kernel) (by decide +kernel)) (sv_cons (se_take (i := 3) rfl (vs_by (by decide +kernel)) (by decide +kernel) (by decide +kernel)) (sv_cons (se_take (i := 5) rfl (vs_by (by decide +kernel)) (by decide +kernel) (by decide +kernel)) sv_nil)))))) (so_nm (i := 4) rfl (vs_by (by decide +kernel)) (by decide +kernel) (by decide +kernel)))) (se_take (i := 5) rfl (vs_by (by decide +kernel)) (by decide +kernel) (by decide +kernel)) (by decide +kernel))) sa_nil))))))))

/-! are_calm -/
abbrev s_are_calm : Stmt := topS 26
abbrev c_are_calm : Cs := ⟨["seats", "wishes", "prices", "sale", "seat", "one"], defScope s_are_calm, fun _ => true⟩
def d_are_calm : AS → RS := (dSeq (dExpr (dCall F_check_wishes [(dTake 0), (dTake 1)]))
  (dSeq (dIfS (dNot (dB (dCall F_is_prices_of [(dTake 0), (dTake 2)]))) dBad dSkip)
  (dSeq (dIfS (dNot (dB (dCall F_is_sale [(dTake 0), (dTake 1), (dTake 3)]))) dBad dSkip)
  (dSeq (dIfS (dB (dOp anyP [(.tm (dLc (dPlain (.nm 0)) (.nm 4) dYes (dAndV (dOp gtP [(.tm (dOp ixP [(.nm 2), (.nm 4)])), (.tm (dC (.int 0)))]) (dOp (inVP true) [(.nm 4), (.nm 3)])) [4]))])) (dRet (dC (.bl false))) dSkip)
  (dRet (dOp allP [(.tm (dLc (dPlain (.nm 3)) (.nm 5) dYes (dOp eqP [(.tm (dCall F_gain_of [(dTake 1), (dTake 2), (dTake 5), (dOp ixP [(.nm 3), (.nm 5)])])), (.tm (dCall F_best_gain [(dTake 1), (dTake 2), (dTake 5)]))]) [5]))]))))))
def F_are_calm := bodyF 4 2 d_are_calm
theorem ok_are_calm {G : Wd} (T : Tp G) (h_best_gain : Fn G "best_gain" 3 3 F_best_gain) (h_check_wishes : Fn G "check_wishes" 6 2 F_check_wishes) (h_gain_of : Fn G "gain_of" 2 4 F_gain_of) (h_is_prices_of : Fn G "is_prices_of" 4 2 F_is_prices_of) (h_is_sale : Fn G "is_sale" 7 3 F_is_sale) : SSs G c_are_calm 7 (defBody s_are_calm) d_are_calm :=
  (sss_cons (ss_expr (se_call h_check_wishes (by decide) rfl (by decide +kernel) (by decide +kernel) (sv_cons (se_take (i := 0) rfl (vs_by (by decide +kernel)) (by decide +kernel) (by decide +kernel)) (sv_cons (se_take (i := 1) rfl (vs_by (by decide +kernel)) (by decide +kernel) (by decide +kernel)) sv_nil))))
  (sss_cons (ss_if (st_not (st_val (se_call h_is_prices_of (by decide) rfl (by decide +kernel) (by decide +kernel) (sv_cons (se_take (i := 0) rfl (vs_by (by decide +kernel)) (by decide +kernel) (by decide +kernel)) (sv_cons (se_take (i := 2) rfl (vs_by (by decide +kernel)) (by decide +kernel) (by decide +kernel)) sv_nil))))) (sss_one ss_bad) sss_nil)
  (sss_cons (ss_if (st_not (st_val (se_call h_is_sale (by decide) rfl (by decide +kernel) (by decide +kernel) (sv_cons (se_take (i := 0) rfl (vs_by (by decide +kernel)) (by decide +kernel) (by decide +kernel)) (sv_cons (se_take (i := 1) rfl (vs_by (by decide +kernel)) (by decide +kernel) (by decide +kernel)) (sv_cons (se_take (i := 3) rfl (vs_by (by decide +kernel)) (by decide +kernel) (by decide +kernel)) sv_nil)))))) (sss_one ss_bad) sss_nil)
  (sss_cons (ss_if (st_val (se_any (T.b_any (by decide +kernel)) (sa_cons (so_tm (se_lc (own := [("seat", 4)]) (by decide +kernel) (si_plain (so_nm (i := 0) rfl (vs_by (by decide +kernel)) (by decide +kernel) (by decide +kernel))) (sg_nm (i := 4) (loc_by (by decide +kernel))) sp_nil (se_and (se_cmp o_gt (so_tm (se_ix (so_nm (i := 2) rfl (vs_by (by decide +kernel)) (by decide +kernel) (by decide +kernel)) (so_nm (i := 4) rfl (vs_by (by decide +kernel)) (by decide +kernel) (by decide +kernel)))) (so_tm se_int)) (se_one (se_niVals (so_nm (i := 4) rfl (vs_by (by decide +kernel)) (by decide +kernel) (by decide +kernel)) (so_nm (i := 3) rfl (vs_by (by decide +kernel)) (by decide +kernel) (by decide +kernel))))) (by decide +kernel))) sa_nil))) (sss_one (ss_ret se_bl)) sss_nil)
  (sss_one (ss_ret (se_all (T.b_all (by decide +kernel)) (sa_cons (so_tm (se_lc (own := [("one", 5)]) (by decide +kernel) (si_plain (so_nm (i := 3) rfl (vs_by (by decide +kernel)) (by decide +kernel) (by decide +kernel))) (sg_nm (i := 5) (loc_by (by decide +kernel))) sp_nil (se_cmp o_eq (so_tm (se_call h_gain_of (by decide) rfl (by decide +kernel) (by decide +kernel) (sv_cons (se_take (i := 1) rfl (vs_by (by decide +kernel)) (by decide +kernel) (by decide +kernel)) (sv_cons (se_take (i := 2) rfl (vs_by (by decide +kernel)) (by decide +kernel) (by decide +kernel)) (sv_cons (se_take (i := 5) rfl (vs_by (by decide +kernel)) (by decide +kernel) (by decide +kernel)) (sv_cons (se_ix (so_nm (i := 3) rfl (vs_by (by decide +kernel)) (by decide +kernel) (by decide +kernel)) (so_nm (i := 5) rfl (vs_by (by decide +kernel)) (by decide +kernel) (by decide +kernel))) sv_nil)))))) (so_tm (se_call h_best_gain (by decide) rfl (by decide +kernel) (by decide +kernel) (sv_cons (se_take (i := 1) rfl (vs_by (by decide +kernel)) (by decide +kernel) (by decide +kernel)) (sv_cons (se_take (i := 2) rfl (vs_by (by decide +kernel)) (by decide +kernel) (by decide +kernel)) (sv_cons (se_take (i := 5) rfl (vs_by (by decide +kernel)) (by decide +kernel) (by decide +kernel)) sv_nil)))))) (by decide +kernel))) sa_nil))))))))

/-! can_be_calm -/
abbrev s_can_be_calm : Stmt := topS 27
abbrev c_can_be_calm : Cs := ⟨["seats", "wishes", "prices"], defScope s_can_be_calm, fun _ => true⟩
def d_can_be_calm : AS → RS := (dSeq (dExpr (dCall F_check_wishes [(dTake 0), (dTake 1)]))
  (dSeq (dIfS (dNot (dB (dCall F_is_prices_of [(dTake 0), (dTake 2)]))) dBad dSkip)
  (dRet (dCall F_are_calm [(dTake 0), (dTake 1), (dTake 2), (dOp ixP [(.tm (dCall F_best_sale [(dTake 0), (dTake 1)])), (.tm (dC (.int 1)))])]))))
def F_can_be_calm := bodyF 3 0 d_can_be_calm
theorem ok_can_be_calm {G : Wd} (T : Tp G) (h_are_calm : Fn G "are_calm" 8 4 F_are_calm) (h_best_sale : Fn G "best_sale" 7 2 F_best_sale) (h_check_wishes : Fn G "check_wishes" 6 2 F_check_wishes) (h_is_prices_of : Fn G "is_prices_of" 4 2 F_is_prices_of) : SSs G c_can_be_calm 8 (defBody s_can_be_calm) d_can_be_calm :=
  (sss_cons (ss_expr (se_call h_check_wishes (by decide) rfl (by decide +kernel) (by decide +kernel) (sv_cons (se_take (i := 0) rfl (vs_by (by decide +kernel)) (by decide +kernel) (by decide +kernel)) (sv_cons (se_take (i := 1) rfl (vs_by (by decide +kernel)) (by decide +kernel) (by decide +kernel)) sv_nil))))
  (sss_cons (ss_if (st_not (st_val (se_call h_is_prices_of (by decide) rfl (by decide +kernel) (by decide +kernel) (sv_cons (se_take (i := 0) rfl (vs_by (by decide +kernel)) (by decide +kernel) (by decide +kernel)) (sv_cons (se_take (i := 2) rfl (vs_by (by decide +kernel)) (by decide +kernel) (by decide +kernel)) sv_nil))))) (sss_one ss_bad) sss_nil)
  (sss_one (ss_ret (se_call h_are_calm (by decide) rfl (by decide +kernel) (by decide +kernel) (sv_cons (se_take (i := 0) rfl (vs_by (by decide +kernel)) (by decide +kernel) (by decide +kernel)) (sv_cons (se_take (i := 1) rfl (vs_by (by decide +kernel)) (by decide +kernel) (by decide +kernel)) (sv_cons (se_take (i := 2) rfl (vs_by (by decide +kernel)) (by decide +kernel) (by decide +kernel)) (sv_cons (se_ix (so_tm (se_call h_best_sale (by decide) rfl (by decide +kernel) (by decide +kernel) (sv_cons (se_take (i := 0) rfl (vs_by (by decide +kernel)) (by decide +kernel) (by decide +kernel)) (sv_cons (se_take (i := 1) rfl (vs_by (by decide +kernel)) (by decide +kernel) (by decide +kernel)) sv_nil)))) (so_tm se_int)) sv_nil)))))))))

/-! least_prices -/
abbrev s_least_prices : Stmt := topS 28
abbrev c_least_prices : Cs := ⟨["seats", "wishes", "seat", "worth", "found"], defScope s_least_prices, fun _ => true⟩
def d_least_prices : AS → RS := (dSeq (dExpr (dCall F_check_wishes [(dTake 0), (dTake 1)]))
  (dSeq (dPars [(3, (dCall F_best_worth [(dTake 0), (dTake 1)])), (4, dDct0)])
  (dSeq (dFor (dPlain (.nm 0)) (.nm 2) (dPut 4 (.nm 2) (dOp subP [(.tm (dCall F_best_worth [(dTupX [.star (dTake 0), .one (dTake 2)]), (dTake 1)])), (.nm 3)])))
  (dRet (dTake 4)))))
def F_least_prices := bodyF 2 3 d_least_prices
theorem ok_least_prices {G : Wd} (T : Tp G) (h_best_worth : Fn G "best_worth" 2 2 F_best_worth) (h_check_wishes : Fn G "check_wishes" 6 2 F_check_wishes) : SSs G c_least_prices 6 (defBody s_least_prices) d_least_prices :=
  (sss_cons (ss_expr (se_call h_check_wishes (by decide) rfl (by decide +kernel) (by decide +kernel) (sv_cons (se_take (i := 0) rfl (vs_by (by decide +kernel)) (by decide +kernel) (by decide +kernel)) (sv_cons (se_take (i := 1) rfl (vs_by (by decide +kernel)) (by decide +kernel) (by decide +kernel)) sv_nil))))
  (sss_cons (ss_pars2 (i := 3) (j := 4) rfl rfl (by decide) (by decide +kernel) (by decide +kernel) (sv_cons (se_call h_best_worth (by decide) rfl (by decide +kernel) (by decide +kernel) (sv_cons (se_take (i := 0) rfl (vs_by (by decide +kernel)) (by decide +kernel) (by decide +kernel)) (sv_cons (se_take (i := 1) rfl (vs_by (by decide +kernel)) (by decide +kernel) (by decide +kernel)) sv_nil))) (sv_cons se_dct0 sv_nil)) (by decide +kernel))
  (sss_cons (ss_for (si_plain (so_nm (i := 0) rfl (vs_by (by decide +kernel)) (by decide +kernel) (by decide +kernel))) (sg_nm (i := 2) (loc_by (by decide +kernel))) (sss_one (ss_put (i := 4) rfl (vs_by (by decide +kernel)) (so_nm (i := 2) rfl (vs_by (by decide +kernel)) (by decide +kernel) (by decide +kernel)) (se_sub (so_tm (se_call h_best_worth (by decide) rfl (by decide +kernel) (by decide +kernel) (sv_cons (se_tupX (sx_star (se_take (i := 0) rfl (vs_by (by decide +kernel)) (by decide +kernel) (by decide +kernel)) (sx_one (se_take (i := 2) rfl (vs_by (by decide +kernel)) (by decide +kernel) (by decide +kernel)) sx_nil))) (sv_cons (se_take (i := 1) rfl (vs_by (by decide +kernel)) (by decide +kernel) (by decide +kernel)) sv_nil)))) (so_nm (i := 3) rfl (vs_by (by decide +kernel)) (by decide +kernel) (by decide +kernel))) (hdd := by decide +kernel) (hcd := by decide +kernel))))
  (sss_one (ss_ret (se_take (i := 4) rfl (vs_by (by decide +kernel)) (by decide +kernel) (by decide +kernel)))))))

/-! most_prices -/
abbrev s_most_prices : Stmt := topS 29
abbrev c_most_prices : Cs := ⟨["seats", "wishes", "seat", "worth", "found", "late"], defScope s_most_prices, fun _ => true⟩
def d_most_prices : AS → RS := (dSeq (dExpr (dCall F_check_wishes [(dTake 0), (dTake 1)]))
  (dSeq (dPars [(3, (dCall F_best_worth [(dTake 0), (dTake 1)])), (4, dDct0)])
  (dSeq (dFor (dPlain (.nm 0)) (.nm 2) (dPut 4 (.nm 2) (dOp subP [(.nm 3), (.tm (dCall F_best_worth [(dOp tupleP [(.tm (dLc (dPlain (.nm 0)) (.nm 5) (dB (dOp neP [(.nm 5), (.nm 2)])) (dTake 5) [5]))]), (dTake 1)]))])))
  (dRet (dTake 4)))))
def F_most_prices := bodyF 2 4 d_most_prices
theorem ok_most_prices {G : Wd} (T : Tp G) (h_best_worth : Fn G "best_worth" 2 2 F_best_worth) (h_check_wishes : Fn G "check_wishes" 6 2 F_check_wishes) : SSs G c_most_prices 6 (defBody s_most_prices) d_most_prices :=
  (sss_cons (ss_expr (se_call h_check_wishes (by decide) rfl (by decide +kernel) (by decide +kernel) (sv_cons (se_take (i := 0) rfl (vs_by (by decide +kernel)) (by decide +kernel) (by decide +kernel)) (sv_cons (se_take (i := 1) rfl (vs_by (by decide +kernel)) (by decide +kernel) (by decide +kernel)) sv_nil))))
  (sss_cons (ss_pars2 (i := 3) (j := 4) rfl rfl (by decide) (by decide +kernel) (by decide +kernel) (sv_cons (se_call h_best_worth (by decide) rfl (by decide +kernel) (by decide +kernel) (sv_cons (se_take (i := 0) rfl (vs_by (by decide +kernel)) (by decide +kernel) (by decide +kernel)) (sv_cons (se_take (i := 1) rfl (vs_by (by decide +kernel)) (by decide +kernel) (by decide +kernel)) sv_nil))) (sv_cons se_dct0 sv_nil)) (by decide +kernel))
  (sss_cons (ss_for (si_plain (so_nm (i := 0) rfl (vs_by (by decide +kernel)) (by decide +kernel) (by decide +kernel))) (sg_nm (i := 2) (loc_by (by decide +kernel))) (sss_one (ss_put (i := 4) rfl (vs_by (by decide +kernel)) (so_nm (i := 2) rfl (vs_by (by decide +kernel)) (by decide +kernel) (by decide +kernel)) (se_sub (so_nm (i := 3) rfl (vs_by (by decide +kernel)) (by decide +kernel) (by decide +kernel)) (so_tm (se_call h_best_worth (by decide) rfl (by decide +kernel) (by decide +kernel) (sv_cons (se_tuplec (T.b_tuple (by decide +kernel)) (sa_cons (so_tm (se_lc (own := [("late", 5)]) (by decide +kernel) (si_plain (so_nm (i := 0) rfl (vs_by (by decide +kernel)) (by decide +kernel) (by decide +kernel))) (sg_nm (i := 5) (loc_by (by decide +kernel))) (sp_one (st_cmp o_ne (so_nm (i := 5) rfl (vs_by (by decide +kernel)) (by decide +kernel) (by decide +kernel)) (so_nm (i := 2) rfl (vs_by (by decide +kernel)) (by decide +kernel) (by decide +kernel)))) (se_take (i := 5) rfl (vs_by (by decide +kernel)) (by decide +kernel) (by decide +kernel)) (by decide +kernel))) sa_nil)) (sv_cons (se_take (i := 1) rfl (vs_by (by decide +kernel)) (by decide +kernel) (by decide +kernel)) sv_nil))))) (hdd := by decide +kernel) (hcd := by decide +kernel))))
  (sss_one (ss_ret (se_take (i := 4) rfl (vs_by (by decide +kernel)) (by decide +kernel) (by decide +kernel)))))))

/-! gains -/
abbrev s_gains : Stmt := topS 30
abbrev c_gains : Cs := ⟨["seats", "wishes", "prices", "sale", "one"], defScope s_gains, fun _ => true⟩
def d_gains : AS → RS := (dSeq (dExpr (dCall F_are_calm [(dTake 0), (dTake 1), (dTake 2), (dTake 3)]))
  (dRet (dDc (dPlain (.tm (dOp sortedP [(.nm 3)]))) (.nm 4) dYes (dTake 4) (dCall F_gain_of [(dTake 1), (dTake 2), (dTake 4), (dOp ixP [(.nm 3), (.nm 4)])]) [4])))
def F_gains := bodyF 4 1 d_gains
theorem ok_gains {G : Wd} (T : Tp G) (h_are_calm : Fn G "are_calm" 8 4 F_are_calm) (h_gain_of : Fn G "gain_of" 2 4 F_gain_of) : SSs G c_gains 8 (defBody s_gains) d_gains :=
  (sss_cons (ss_expr (se_call h_are_calm (by decide) rfl (by decide +kernel) (by decide +kernel) (sv_cons (se_take (i := 0) rfl (vs_by (by decide +kernel)) (by decide +kernel) (by decide +kernel)) (sv_cons (se_take (i := 1) rfl (vs_by (by decide +kernel)) (by decide +kernel) (by decide +kernel)) (sv_cons (se_take (i := 2) rfl (vs_by (by decide +kernel)) (by decide +kernel) (by decide +kernel)) (sv_cons (se_take (i := 3) rfl (vs_by (by decide +kernel)) (by decide +kernel) (by decide +kernel)) sv_nil))))))
  (sss_one (ss_ret (se_dc (own := [("one", 4)]) (by decide +kernel) (si_plain (so_tm (se_sorted (T.b_sorted (by decide +kernel)) (sa_cons (so_nm (i := 3) rfl (vs_by (by decide +kernel)) (by decide +kernel) (by decide +kernel)) sa_nil)))) (sg_nm (i := 4) (loc_by (by decide +kernel))) sp_nil (se_take (i := 4) rfl (vs_by (by decide +kernel)) (by decide +kernel) (by decide +kernel)) (se_call h_gain_of (by decide) rfl (by decide +kernel) (by decide +kernel) (sv_cons (se_take (i := 1) rfl (vs_by (by decide +kernel)) (by decide +kernel) (by decide +kernel)) (sv_cons (se_take (i := 2) rfl (vs_by (by decide +kernel)) (by decide +kernel) (by decide +kernel)) (sv_cons (se_take (i := 4) rfl (vs_by (by decide +kernel)) (by decide +kernel) (by decide +kernel)) (sv_cons (se_ix (so_nm (i := 3) rfl (vs_by (by decide +kernel)) (by decide +kernel) (by decide +kernel)) (so_nm (i := 4) rfl (vs_by (by decide +kernel)) (by decide +kernel) (by decide +kernel))) sv_nil))))) (by decide +kernel)))))

/-! gain_by_telling -/
abbrev s_gain_by_telling : Stmt := topS 31
abbrev c_gain_by_telling : Cs := ⟨["seats", "wishes", "person", "wish", "told", "seat", "one"], defScope s_gain_by_telling, fun _ => true⟩
def d_gain_by_telling : AS → RS := (dSeq (dExpr (dCall F_check_wishes [(dTake 0), (dTake 1)]))
  (dSeq (dIfS (dOr (dNot (dB (dOp (isiP "str") [(.nm 2)]))) (dB (dOp niDP [(.nm 2), (.nm 1)]))) dBad dSkip)
  (dSeq (dIfS (dNot (dB (dCall F_is_wish [(dTake 0), (dTake 3)]))) dBad dSkip)
  (dSeq (dSet 4 (dDc (dPlain (.nm 1)) (.nm 6) dYes (dTake 6) (dIf (dB (dOp eqP [(.nm 6), (.nm 2)])) (dTake 3) (dOp ixP [(.nm 1), (.nm 6)])) [6]))
  (dSeq (dSet 5 (dOp ixP [(.tm (dOp ixP [(.tm (dCall F_best_sale [(dTake 0), (dTake 4)])), (.tm (dC (.int 1)))])), (.nm 2)]))
  (dRet (dIf (dB (dOp isNP [(.nm 5), (.tm (dC .non))])) (dC (.int 0)) (dOp subP [(.tm (dGet2 (.tm (dOp ixP [(.nm 1), (.nm 2)])) (dTake 5) (dC (.int 0)))), (.tm (dOp ixP [(.tm (dCall F_least_prices [(dTake 0), (dTake 4)])), (.nm 5)]))]))))))))
def F_gain_by_telling := bodyF 4 3 d_gain_by_telling
theorem ok_gain_by_telling {G : Wd} (T : Tp G) (h_best_sale : Fn G "best_sale" 7 2 F_best_sale) (h_check_wishes : Fn G "check_wishes" 6 2 F_check_wishes) (h_is_wish : Fn G "is_wish" 4 2 F_is_wish) (h_least_prices : Fn G "least_prices" 7 2 F_least_prices) : SSs G c_gain_by_telling 7 (defBody s_gain_by_telling) d_gain_by_telling :=
  (sss_cons (ss_expr (se_call h_check_wishes (by decide) rfl (by decide +kernel) (by decide +kernel) (sv_cons (se_take (i := 0) rfl (vs_by (by decide +kernel)) (by decide +kernel) (by decide +kernel)) (sv_cons (se_take (i := 1) rfl (vs_by (by decide +kernel)) (by decide +kernel) (by decide +kernel)) sv_nil))))
  (sss_cons (ss_if (sw_st (sw_or (st_not (st_val (se_isi (T.b_isinstance (by decide +kernel)) (T.b_str (by decide +kernel)) (so_nm (i := 2) rfl (vs_by (by decide +kernel)) (by decide +kernel) (by decide +kernel))))) (sw_or1 (st_cmp o_ni (so_nm (i := 2) rfl (vs_by (by decide +kernel)) (by decide +kernel) (by decide +kernel)) (so_nm (i := 1) rfl (vs_by (by decide +kernel)) (by decide +kernel) (by decide +kernel)))))) (sss_one ss_bad) sss_nil)
  (sss_cons (ss_if (st_not (st_val (se_call h_is_wish (by decide) rfl (by decide +kernel) (by decide +kernel) (sv_cons (se_take (i := 0) rfl (vs_by (by decide +kernel)) (by decide +kernel) (by decide +kernel)) (sv_cons (se_take (i := 3) rfl (vs_by (by decide +kernel)) (by decide +kernel) (by decide +kernel)) sv_nil))))) (sss_one ss_bad) sss_nil)
  (sss_cons (ss_setDc (i := 4) (own := [("one", 6)]) rfl (by decide +kernel) (sw_dc (by decide +kernel)) (by decide +kernel) (si_plain (so_nm (i := 1) rfl (vs_by (by decide +kernel)) (by decide +kernel) (by decide +kernel))) (sg_nm (i := 6) (loc_by (by decide +kernel))) sp_nil (se_take (i := 6) rfl (vs_by (by decide +kernel)) (by decide +kernel) (by decide +kernel)) (se_if (st_cmp o_eq (so_nm (i := 6) rfl (vs_by (by decide +kernel)) (by decide +kernel) (by decide +kernel)) (so_nm (i := 2) rfl (vs_by (by decide +kernel)) (by decide +kernel) (by decide +kernel))) (se_take (i := 3) rfl (vs_by (by decide +kernel)) (by decide +kernel) (by decide +kernel)) (se_ix (so_nm (i := 1) rfl (vs_by (by decide +kernel)) (by decide +kernel) (by decide +kernel)) (so_nm (i := 6) rfl (vs_by (by decide +kernel)) (by decide +kernel) (by decide +kernel)))) (by decide +kernel))
  (sss_cons (ss_set (i := 5) (loc_by (by decide +kernel)) (se_ix (so_tm (se_ix (so_tm (se_call h_best_sale (by decide) rfl (by decide +kernel) (by decide +kernel) (sv_cons (se_take (i := 0) rfl (vs_by (by decide +kernel)) (by decide +kernel) (by decide +kernel)) (sv_cons (se_take (i := 4) rfl (vs_by (by decide +kernel)) (by decide +kernel) (by decide +kernel)) sv_nil)))) (so_tm se_int))) (so_nm (i := 2) rfl (vs_by (by decide +kernel)) (by decide +kernel) (by decide +kernel))))
  (sss_one (ss_ret (se_if (st_cmp o_isN (so_nm (i := 5) rfl (vs_by (by decide +kernel)) (by decide +kernel) (by decide +kernel)) (so_tm se_non)) se_int (se_sub (so_tm (se_get2 (so_tm (se_ix (so_nm (i := 1) rfl (vs_by (by decide +kernel)) (by decide +kernel) (by decide +kernel)) (so_nm (i := 2) rfl (vs_by (by decide +kernel)) (by decide +kernel) (by decide +kernel)))) (se_take (i := 5) rfl (vs_by (by decide +kernel)) (by decide +kernel) (by decide +kernel)) se_int)) (so_tm (se_ix (so_tm (se_call h_least_prices (by decide) rfl (by decide +kernel) (by decide +kernel) (sv_cons (se_take (i := 0) rfl (vs_by (by decide +kernel)) (by decide +kernel) (by decide +kernel)) (sv_cons (se_take (i := 4) rfl (vs_by (by decide +kernel)) (by decide +kernel) (by decide +kernel)) sv_nil)))) (so_nm (i := 5) rfl (vs_by (by decide +kernel)) (by decide +kernel) (by decide +kernel)))))))))))))

/-! why_price -/
abbrev s_why_price : Stmt := topS 32
abbrev c_why_price : Cs := ⟨["seats", "wishes", "prices", "seat", "one"], defScope s_why_price, fun _ => true⟩
def d_why_price : AS → RS := (dSeq (dExpr (dCall F_check_wishes [(dTake 0), (dTake 1)]))
  (dSeq (dIfS (dNot (dB (dCall F_is_prices_of [(dTake 0), (dTake 2)]))) dBad dSkip)
  (dSeq (dIfS (dOr (dNot (dB (dOp (isiP "str") [(.nm 3)]))) (dB (dOp niDP [(.nm 3), (.nm 0)]))) dBad dSkip)
  (dRet (dLc (dPlain (.tm (dOp sortedP [(.nm 1)]))) (.nm 4) (dB (dOp inDP [(.nm 3), (.tm (dCall F_liked_best [(dTake 0), (dTake 1), (dTake 2), (dTake 4)]))])) (dTake 4) [4])))))
def F_why_price := bodyF 4 1 d_why_price
theorem ok_why_price {G : Wd} (T : Tp G) (h_check_wishes : Fn G "check_wishes" 6 2 F_check_wishes) (h_is_prices_of : Fn G "is_prices_of" 4 2 F_is_prices_of) (h_liked_best : Fn G "liked_best" 7 4 F_liked_best) : SSs G c_why_price 7 (defBody s_why_price) d_why_price :=
  (sss_cons (ss_expr (se_call h_check_wishes (by decide) rfl (by decide +kernel) (by decide +kernel) (sv_cons (se_take (i := 0) rfl (vs_by (by decide +kernel)) (by decide +kernel) (by decide +kernel)) (sv_cons (se_take (i := 1) rfl (vs_by (by decide +kernel)) (by decide +kernel) (by decide +kernel)) sv_nil))))
  (sss_cons (ss_if (st_not (st_val (se_call h_is_prices_of (by decide) rfl (by decide +kernel) (by decide +kernel) (sv_cons (se_take (i := 0) rfl (vs_by (by decide +kernel)) (by decide +kernel) (by decide +kernel)) (sv_cons (se_take (i := 2) rfl (vs_by (by decide +kernel)) (by decide +kernel) (by decide +kernel)) sv_nil))))) (sss_one ss_bad) sss_nil)
  (sss_cons (ss_if (sw_st (sw_or (st_not (st_val (se_isi (T.b_isinstance (by decide +kernel)) (T.b_str (by decide +kernel)) (so_nm (i := 3) rfl (vs_by (by decide +kernel)) (by decide +kernel) (by decide +kernel))))) (sw_or1 (st_cmp o_ni (so_nm (i := 3) rfl (vs_by (by decide +kernel)) (by decide +kernel) (by decide +kernel)) (so_nm (i := 0) rfl (vs_by (by decide +kernel)) (by decide +kernel) (by decide +kernel)))))) (sss_one ss_bad) sss_nil)
  (sss_one (ss_ret (se_lc (own := [("one", 4)]) (by decide +kernel) (si_plain (so_tm (se_sorted (T.b_sorted (by decide +kernel)) (sa_cons (so_nm (i := 1) rfl (vs_by (by decide +kernel)) (by decide +kernel) (by decide +kernel)) sa_nil)))) (sg_nm (i := 4) (loc_by (by decide +kernel))) (sp_one (st_cmp o_in (so_nm (i := 3) rfl (vs_by (by decide +kernel)) (by decide +kernel) (by decide +kernel)) (so_tm (se_call h_liked_best (by decide) rfl (by decide +kernel) (by decide +kernel) (sv_cons (se_take (i := 0) rfl (vs_by (by decide +kernel)) (by decide +kernel) (by decide +kernel)) (sv_cons (se_take (i := 1) rfl (vs_by (by decide +kernel)) (by decide +kernel) (by decide +kernel)) (sv_cons (se_take (i := 2) rfl (vs_by (by decide +kernel)) (by decide +kernel) (by decide +kernel)) (sv_cons (se_take (i := 4) rfl (vs_by (by decide +kernel)) (by decide +kernel) (by decide +kernel)) sv_nil)))))))) (se_take (i := 4) rfl (vs_by (by decide +kernel)) (by decide +kernel) (by decide +kernel)) (by decide +kernel)))))))

/-! sale_lines -/
abbrev s_sale_lines : Stmt := topS 33
abbrev c_sale_lines : Cs := ⟨["sale", "prices", "found", "one"], defScope s_sale_lines, fun _ => true⟩
def d_sale_lines : AS → RS := (dSeq (dSet 2 (dLst []))
  (dSeq (dFor (dPlain (.tm (dOp sortedP [(.nm 0)]))) (.nm 3) (dExpr (dApp 2 (dOp addP [(.tm (dOp addP [(.nm 3), (.tm (dC (.str ": ")))])), (.tm (dIf (dB (dOp isNP [(.tm (dOp ixP [(.nm 0), (.nm 3)])), (.tm (dC .non))])) (dC (.str "none")) (dOp addP [(.tm (dOp addP [(.tm (dOp ixP [(.nm 0), (.nm 3)])), (.tm (dC (.str " at ")))])), (.tm (dOp strP [(.tm (dOp ixP [(.nm 1), (.tm (dOp ixP [(.nm 0), (.nm 3)]))]))]))])))]))))
  (dRet (dTake 2))))
def F_sale_lines := bodyF 2 2 d_sale_lines
theorem ok_sale_lines {G : Wd} (T : Tp G) : SSs G c_sale_lines 1 (defBody s_sale_lines) d_sale_lines :=
  (sss_cons (ss_set (i := 2) (loc_by (by decide +kernel)) (se_lst sv_nil))
  (sss_cons (ss_for (si_plain (so_tm (se_sorted (T.b_sorted (by decide +kernel)) (sa_cons (so_nm (i := 0) rfl (vs_by (by decide +kernel)) (by decide +kernel) (by decide +kernel)) sa_nil)))) (sg_nm (i := 3) (loc_by (by decide +kernel))) (sss_one (ss_expr (se_app (i := 2) rfl (vs_by (by decide +kernel)) (se_add (so_tm (se_add (so_nm (i := 3) rfl (vs_by (by decide +kernel)) (by decide +kernel) (by decide +kernel)) (so_tm se_str))) (so_tm (se_if (st_cmp o_isN (so_tm (se_ix (so_nm (i := 0) rfl (vs_by (by decide +kernel)) (by decide +kernel) (by decide +kernel)) (so_nm (i := 3) rfl (vs_by (by decide +kernel)) (by decide +kernel) (by decide +kernel)))) (so_tm se_non)) se_str (se_add (so_tm (se_add (so_tm (se_ix (so_nm (i := 0) rfl (vs_by (by decide +kernel)) (by decide +kernel) (by decide +kernel)) (so_nm (i := 3) rfl (vs_by (by decide +kernel)) (by decide +kernel) (by decide +kernel)))) (so_tm se_str))) (so_tm (se_strc (T.b_str (by decide +kernel)) (sa_cons (so_tm (se_ix (so_nm (i := 1) rfl (vs_by (by decide +kernel)) (by decide +kernel) (by decide +kernel)) (so_tm (se_ix (so_nm (i := 0) rfl (vs_by (by decide +kernel)) (by decide +kernel) (by decide +kernel)) (so_nm (i := 3) rfl (vs_by (by decide +kernel)) (by decide +kernel) (by decide +kernel)))))) sa_nil))))))) (hd := by decide +kernel) (hcd := by decide +kernel)))))
  (sss_one (ss_ret (se_take (i := 2) rfl (vs_by (by decide +kernel)) (by decide +kernel) (by decide +kernel))))))

/-! lowered -/
abbrev s_lowered : Stmt := topS 35
abbrev c_lowered : Cs := ⟨["prices", "some", "seat"], defScope s_lowered, fun _ => true⟩
def d_lowered : AS → RS := (dRet (dDc (dPlain (.tm (dOp sortedP [(.nm 0)]))) (.nm 2) dYes (dTake 2) (dOp subP [(.tm (dOp ixP [(.nm 0), (.nm 2)])), (.tm (dIf (dB (dOp inDP [(.nm 2), (.nm 1)])) (dC (.int 1)) (dC (.int 0))))]) [2]))
def F_lowered := bodyF 2 1 d_lowered
theorem ok_lowered {G : Wd} (T : Tp G) : SSs G c_lowered 1 (defBody s_lowered) d_lowered :=
  (sss_one (ss_ret (se_dc (own := [("seat", 2)]) (by decide +kernel) (si_plain (so_tm (se_sorted (T.b_sorted (by decide +kernel)) (sa_cons (so_nm (i := 0) rfl (vs_by (by decide +kernel)) (by decide +kernel) (by decide +kernel)) sa_nil)))) (sg_nm (i := 2) (loc_by (by decide +kernel))) sp_nil (se_take (i := 2) rfl (vs_by (by decide +kernel)) (by decide +kernel) (by decide +kernel)) (se_sub (so_tm (se_ix (so_nm (i := 0) rfl (vs_by (by decide +kernel)) (by decide +kernel) (by decide +kernel)) (so_nm (i := 2) rfl (vs_by (by decide +kernel)) (by decide +kernel) (by decide +kernel)))) (so_tm (se_if (st_cmp o_in (so_nm (i := 2) rfl (vs_by (by decide +kernel)) (by decide +kernel) (by decide +kernel)) (so_nm (i := 1) rfl (vs_by (by decide +kernel)) (by decide +kernel) (by decide +kernel))) se_int se_int))) (by decide +kernel))))

/-! parts_of_seats -/
abbrev s_parts_of_seats : Stmt := topS 36
abbrev c_parts_of_seats : Cs := ⟨["seats", "found", "seat", "some"], defScope s_parts_of_seats, fun _ => true⟩
def d_parts_of_seats : AS → RS := (dSeq (dSet 1 (dLst [(dTup [])]))
  (dSeq (dFor (dPlain (.nm 0)) (.nm 2) (dSet 1 (dOp addP [(.nm 1), (.tm (dLc (dPlain (.nm 1)) (.nm 3) dYes (dTupX [.star (dTake 3), .one (dTake 2)]) [3]))])))
  (dRet (dTake 1))))
def F_parts_of_seats := bodyF 1 3 d_parts_of_seats
theorem ok_parts_of_seats {G : Wd} (T : Tp G) : SSs G c_parts_of_seats 1 (defBody s_parts_of_seats) d_parts_of_seats :=
  (sss_cons (ss_set (i := 1) (loc_by (by decide +kernel)) (se_lst (sv_cons (se_tup sv_nil) sv_nil)))
  (sss_cons (ss_for (si_plain (so_nm (i := 0) rfl (vs_by (by decide +kernel)) (by decide +kernel) (by decide +kernel))) (sg_nm (i := 2) (loc_by (by decide +kernel))) (sss_one (ss_set (i := 1) (loc_by (by decide +kernel)) (se_add (so_nm (i := 1) rfl (vs_by (by decide +kernel)) (by decide +kernel) (by decide +kernel)) (so_tm (se_lc (own := [("some", 3)]) (by decide +kernel) (si_plain (so_nm (i := 1) rfl (vs_by (by decide +kernel)) (by decide +kernel) (by decide +kernel))) (sg_nm (i := 3) (loc_by (by decide +kernel))) sp_nil (se_tupX (sx_star (se_take (i := 3) rfl (vs_by (by decide +kernel)) (by decide +kernel) (by decide +kernel)) (sx_one (se_take (i := 2) rfl (vs_by (by decide +kernel)) (by decide +kernel) (by decide +kernel)) sx_nil))) (by decide +kernel)))))))
  (sss_one (ss_ret (se_take (i := 1) rfl (vs_by (by decide +kernel)) (by decide +kernel) (by decide +kernel))))))

/-! is_least -/
abbrev s_is_least : Stmt := topS 34
abbrev c_is_least : Cs := ⟨["seats", "wishes", "prices", "some", "seat"], defScope s_is_least, fun _ => true⟩
def d_is_least : AS → RS := (dSeq (dIfS (dNot (dB (dCall F_can_be_calm [(dTake 0), (dTake 1), (dTake 2)]))) (dRet (dC (.bl false))) dSkip)
  (dRet (dNotV (dOp anyP [(.tm (dLc (dPlain (.tm (dCall F_parts_of_seats [(dTake 0)]))) (.nm 3) (dAnd (dB (dOp neP [(.nm 3), (.tm (dTup []))])) (dB (dOp allP [(.tm (dLc (dPlain (.nm 3)) (.nm 4) dYes (dOp gtP [(.tm (dOp ixP [(.nm 2), (.nm 4)])), (.tm (dC (.int 0)))]) [4]))]))) (dCall F_can_be_calm [(dTake 0), (dTake 1), (dCall F_lowered [(dTake 2), (dTake 3)])]) [3]))]))))
def F_is_least := bodyF 3 2 d_is_least
theorem ok_is_least {G : Wd} (T : Tp G) (h_can_be_calm : Fn G "can_be_calm" 9 3 F_can_be_calm) (h_lowered : Fn G "lowered" 2 2 F_lowered) (h_parts_of_seats : Fn G "parts_of_seats" 2 1 F_parts_of_seats) : SSs G c_is_least 9 (defBody s_is_least) d_is_least :=
  (sss_cons (ss_if (st_not (st_val (se_call h_can_be_calm (by decide) rfl (by decide +kernel) (by decide +kernel) (sv_cons (se_take (i := 0) rfl (vs_by (by decide +kernel)) (by decide +kernel) (by decide +kernel)) (sv_cons (se_take (i := 1) rfl (vs_by (by decide +kernel)) (by decide +kernel) (by decide +kernel)) (sv_cons (se_take (i := 2) rfl (vs_by (by decide +kernel)) (by decide +kernel) (by decide +kernel)) sv_nil)))))) (sss_one (ss_ret se_bl)) sss_nil)
  (sss_one (ss_ret (se_not (se_any (T.b_any (by decide +kernel)) (sa_cons (so_tm (se_lc (own := [("some", 3)]) (by decide +kernel) (si_plain (so_tm (se_call h_parts_of_seats (by decide) rfl (by decide +kernel) (by decide +kernel) (sv_cons (se_take (i := 0) rfl (vs_by (by decide +kernel)) (by decide +kernel) (by decide +kernel)) sv_nil)))) (sg_nm (i := 3) (loc_by (by decide +kernel))) (sp_one (sw_st (sw_and (st_cmp o_ne (so_nm (i := 3) rfl (vs_by (by decide +kernel)) (by decide +kernel) (by decide +kernel)) (so_tm (se_tup sv_nil))) (sw_and1 (st_val (se_all (T.b_all (by decide +kernel)) (sa_cons (so_tm (se_lc (own := [("seat", 4)]) (by decide +kernel) (si_plain (so_nm (i := 3) rfl (vs_by (by decide +kernel)) (by decide +kernel) (by decide +kernel))) (sg_nm (i := 4) (loc_by (by decide +kernel))) sp_nil (se_cmp o_gt (so_tm (se_ix (so_nm (i := 2) rfl (vs_by (by decide +kernel)) (by decide +kernel) (by decide +kernel)) (so_nm (i := 4) rfl (vs_by (by decide +kernel)) (by decide +kernel) (by decide +kernel)))) (so_tm se_int)) (by decide +kernel))) sa_nil))))))) (se_call h_can_be_calm (by decide) rfl (by decide +kernel) (by decide +kernel) (sv_cons (se_take (i := 0) rfl (vs_by (by decide +kernel)) (by decide +kernel) (by decide +kernel)) (sv_cons (se_take (i := 1) rfl (vs_by (by decide +kernel)) (by decide +kernel) (by decide +kernel)) (sv_cons (se_call h_lowered (by decide) rfl (by decide +kernel) (by decide +kernel) (sv_cons (se_take (i := 2) rfl (vs_by (by decide +kernel)) (by decide +kernel) (by decide +kernel)) (sv_cons (se_take (i := 3) rfl (vs_by (by decide +kernel)) (by decide +kernel) (by decide +kernel)) sv_nil))) sv_nil)))) (by decide +kernel))) sa_nil))))))

/-! _law_cell_at -/
abbrev s__law_cell_at : Stmt := topS 38
abbrev c__law_cell_at : Cs := ⟨["script", "k"], defScope s__law_cell_at, fun _ => true⟩
def d__law_cell_at : AS → RS := (dSeq (dIfS (dB (dOp ltP [(.nm 1), (.tm (dOp lenP [(.nm 0)]))])) (dRet (dOp ixP [(.nm 0), (.nm 1)])) dSkip)
  (dRet (dC (.int 0))))
def F__law_cell_at := bodyF 2 0 d__law_cell_at
theorem ok__law_cell_at {G : Wd} (T : Tp G) : SSs G c__law_cell_at 1 (defBody s__law_cell_at) d__law_cell_at :=
  (sss_cons (ss_if (st_cmp o_lt (so_nm (i := 1) rfl (vs_by (by decide +kernel)) (by decide +kernel) (by decide +kernel)) (so_tm (se_len (T.b_len (by decide +kernel)) (sa_cons (so_nm (i := 0) rfl (vs_by (by decide +kernel)) (by decide +kernel) (by decide +kernel)) sa_nil)))) (sss_one (ss_ret (se_ix (so_nm (i := 0) rfl (vs_by (by decide +kernel)) (by decide +kernel) (by decide +kernel)) (so_nm (i := 1) rfl (vs_by (by decide +kernel)) (by decide +kernel) (by decide +kernel))))) sss_nil)
  (sss_one (ss_ret se_int)))

/-! _law_draw -/
abbrev s__law_draw : Stmt := topS 39
abbrev c__law_draw : Cs := ⟨["cell", "k", "bound", "primes"], defScope s__law_draw, fun _ => true⟩
def d__law_draw : AS → RS := (dSeq (dSet 3 (dTup [(dC (.int 1000003)), (dC (.int 1000033)), (dC (.int 1000037)), (dC (.int 1000039)), (dC (.int 1000081)), (dC (.int 1000099)), (dC (.int 1000117)), (dC (.int 1000121)), (dC (.int 1000133)), (dC (.int 1000151)), (dC (.int 1000159)), (dC (.int 1000171)), (dC (.int 1000183)), (dC (.int 1000187)), (dC (.int 1000193)), (dC (.int 1000199))]))
  (dRet (dOp modP [(.tm (dOp modP [(.tm (dOp intP [(.tm (dOp addP [(.tm (dOp mulP [(.nm 0), (.tm (dC (.int 48271)))])), (.tm (dOp mulP [(.nm 1), (.tm (dC (.int 69621)))]))]))])), (.tm (dOp ixP [(.nm 3), (.tm (dOp modP [(.tm (dOp intP [(.nm 1)])), (.tm (dC (.int 16)))]))]))])), (.nm 2)])))
def F__law_draw := bodyF 3 1 d__law_draw
theorem ok__law_draw {G : Wd} (T : Tp G) : SSs G c__law_draw 1 (defBody s__law_draw) d__law_draw :=
  (sss_cons (ss_set (i := 3) (loc_by (by decide +kernel)) (se_tup (sv_cons se_int (sv_cons se_int (sv_cons se_int (sv_cons se_int (sv_cons se_int (sv_cons se_int (sv_cons se_int (sv_cons se_int (sv_cons se_int (sv_cons se_int (sv_cons se_int (sv_cons se_int (sv_cons se_int (sv_cons se_int (sv_cons se_int (sv_cons se_int sv_nil))))))))))))))))))
  (sss_one (ss_ret (se_mod (so_tm (se_mod (so_tm (se_intc (T.b_int (by decide +kernel)) (sa_cons (so_tm (se_add (so_tm (se_mul (so_nm (i := 0) rfl (vs_by (by decide +kernel)) (by decide +kernel) (by decide +kernel)) (so_tm se_int))) (so_tm (se_mul (so_nm (i := 1) rfl (vs_by (by decide +kernel)) (by decide +kernel) (by decide +kernel)) (so_tm se_int))))) sa_nil))) (so_tm (se_ix (so_nm (i := 3) rfl (vs_by (by decide +kernel)) (by decide +kernel) (by decide +kernel)) (so_tm (se_mod (so_tm (se_intc (T.b_int (by decide +kernel)) (sa_cons (so_nm (i := 1) rfl (vs_by (by decide +kernel)) (by decide +kernel) (by decide +kernel)) sa_nil))) (so_tm se_int))))))) (so_nm (i := 2) rfl (vs_by (by decide +kernel)) (by decide +kernel) (by decide +kernel))))))

/-! _law_number -/
abbrev s__law_number : Stmt := topS 40
abbrev c__law_number : Cs := ⟨["cell", "k", "bound", "scale", "lap", "remains", "small"], defScope s__law_number, fun _ => true⟩
def d__law_number : AS → RS := (dSeq (dSet 3 (dC (.int 1)))
  (dSeq (dFor (dRng1 (.tm (dOp modP [(.tm (dOp intP [(.nm 1)])), (.tm (dC (.int 24)))]))) (.nm 4) (dSet 3 (dOp mulP [(.nm 3), (.tm (dC (.int 1009)))])))
  (dSeq (dSet 5 (dOp fdivP [(.tm (dOp subP [(.nm 0), (.tm (dOp powP [(.tm (dC (.int 10))), (.tm (dC (.int 18)))]))])), (.nm 3)]))
  (dSeq (dIfS (dB (dOp gtP [(.nm 5), (.tm (dC (.int 0)))])) (dRet (dOp modP [(.tm (dOp modP [(.tm (dOp intP [(.nm 5)])), (.tm (dC (.int 1009)))])), (.nm 2)])) dSkip)
  (dSeq (dSet 6 (dOp modP [(.tm (dOp intP [(.nm 0)])), (.tm (dC (.int 1000003)))]))
  (dRet (dOp modP [(.tm (dCall F__law_draw [(dOp mulP [(.tm (dOp addP [(.nm 6), (.tm (dOp mulP [(.tm (dC (.int 977))), (.nm 1)]))])), (.tm (dOp addP [(.tm (dOp addP [(.nm 6), (.tm (dOp mulP [(.tm (dC (.int 31))), (.nm 1)]))])), (.tm (dC (.int 5)))]))]), (dOp addP [(.tm (dOp modP [(.tm (dOp intP [(.nm 1)])), (.tm (dC (.int 9)))])), (.tm (dC (.int 1)))]), (dC (.int 999983))])), (.nm 2)])))))))
def F__law_number := bodyF 3 4 d__law_number
theorem ok__law_number {G : Wd} (T : Tp G) (h__law_draw : Fn G "_law_draw" 2 3 F__law_draw) : SSs G c__law_number 2 (defBody s__law_number) d__law_number :=
  (sss_cons (ss_set (i := 3) (loc_by (by decide +kernel)) se_int)
  (sss_cons (ss_for (si_rng1 (T.b_range (by decide +kernel)) (sa_cons (so_tm (se_mod (so_tm (se_intc (T.b_int (by decide +kernel)) (sa_cons (so_nm (i := 1) rfl (vs_by (by decide +kernel)) (by decide +kernel) (by decide +kernel)) sa_nil))) (so_tm se_int))) sa_nil)) (sg_nm (i := 4) (loc_by (by decide +kernel))) (sss_one (ss_set (i := 3) (loc_by (by decide +kernel)) (se_mul (so_nm (i := 3) rfl (vs_by (by decide +kernel)) (by decide +kernel) (by decide +kernel)) (so_tm se_int)))))
  (sss_cons (ss_set (i := 5) (loc_by (by decide +kernel)) (se_fdiv (so_tm (se_sub (so_nm (i := 0) rfl (vs_by (by decide +kernel)) (by decide +kernel) (by decide +kernel)) (so_tm (se_pow (so_tm se_int) (so_tm se_int))))) (so_nm (i := 3) rfl (vs_by (by decide +kernel)) (by decide +kernel) (by decide +kernel))))
  (sss_cons (ss_if (st_cmp o_gt (so_nm (i := 5) rfl (vs_by (by decide +kernel)) (by decide +kernel) (by decide +kernel)) (so_tm se_int)) (sss_one (ss_ret (se_mod (so_tm (se_mod (so_tm (se_intc (T.b_int (by decide +kernel)) (sa_cons (so_nm (i := 5) rfl (vs_by (by decide +kernel)) (by decide +kernel) (by decide +kernel)) sa_nil))) (so_tm se_int))) (so_nm (i := 2) rfl (vs_by (by decide +kernel)) (by decide +kernel) (by decide +kernel))))) sss_nil)
  (sss_cons (ss_set (i := 6) (loc_by (by decide +kernel)) (se_mod (so_tm (se_intc (T.b_int (by decide +kernel)) (sa_cons (so_nm (i := 0) rfl (vs_by (by decide +kernel)) (by decide +kernel) (by decide +kernel)) sa_nil))) (so_tm se_int)))
  (sss_one (ss_ret (se_mod (so_tm (se_call h__law_draw (by decide) rfl (by decide +kernel) (by decide +kernel) (sv_cons (se_mul (so_tm (se_add (so_nm (i := 6) rfl (vs_by (by decide +kernel)) (by decide +kernel) (by decide +kernel)) (so_tm (se_mul (so_tm se_int) (so_nm (i := 1) rfl (vs_by (by decide +kernel)) (by decide +kernel) (by decide +kernel)))))) (so_tm (se_add (so_tm (se_add (so_nm (i := 6) rfl (vs_by (by decide +kernel)) (by decide +kernel) (by decide +kernel)) (so_tm (se_mul (so_tm se_int) (so_nm (i := 1) rfl (vs_by (by decide +kernel)) (by decide +kernel) (by decide +kernel)))))) (so_tm se_int)))) (sv_cons (se_add (so_tm (se_mod (so_tm (se_intc (T.b_int (by decide +kernel)) (sa_cons (so_nm (i := 1) rfl (vs_by (by decide +kernel)) (by decide +kernel) (by decide +kernel)) sa_nil))) (so_tm se_int))) (so_tm se_int)) (sv_cons se_int sv_nil))))) (so_nm (i := 2) rfl (vs_by (by decide +kernel)) (by decide +kernel) (by decide +kernel))))))))))

/-! _law_next -/
abbrev s__law_next : Stmt := topS 41
abbrev c__law_next : Cs := ⟨["draw", "bound", "at", "cell"], defScope s__law_next, fun _ => true⟩
def d__law_next : AS → RS := (dSeq (dPut 0 (.tm (dC (.int 2))) (dOp addP [(.tm (dOp ixP [(.nm 0), (.tm (dC (.int 2)))])), (.tm (dC (.int 1)))]))
  (dSeq (dSet 2 (dOp fdivP [(.tm (dOp ixP [(.nm 0), (.tm (dC (.int 2)))])), (.tm (dC (.int 12)))]))
  (dSeq (dSet 3 (dOp addP [(.tm (dCall F__law_cell_at [(dOp ixP [(.nm 0), (.tm (dC (.int 0)))]), (dOp addP [(.tm (dOp ixP [(.nm 0), (.tm (dC (.int 1)))])), (.nm 2)])])), (.tm (dOp mulP [(.tm (dC (.int 31))), (.nm 2)]))]))
  (dRet (dCall F__law_number [(dTake 3), (dOp addP [(.tm (dOp modP [(.tm (dOp intP [(.tm (dOp ixP [(.nm 0), (.tm (dC (.int 2)))]))])), (.tm (dC (.int 12)))])), (.tm (dC (.int 1)))]), (dTake 1)])))))
def F__law_next := bodyIO 2 2 d__law_next
theorem ok__law_next {G : Wd} (T : Tp G) (h__law_cell_at : Fn G "_law_cell_at" 2 2 F__law_cell_at) (h__law_number : Fn G "_law_number" 3 3 F__law_number) : SSs G c__law_next 3 (defBody s__law_next) d__law_next :=
  (sss_cons (ss_put (i := 0) rfl (vs_by (by decide +kernel)) (so_tm se_int) (se_add (so_tm (se_ix (so_nm (i := 0) rfl (vs_by (by decide +kernel)) (by decide +kernel) (by decide +kernel)) (so_tm se_int))) (so_tm se_int)) (hdd := by decide +kernel) (hcd := by decide +kernel))
  (sss_cons (ss_set (i := 2) (loc_by (by decide +kernel)) (se_fdiv (so_tm (se_ix (so_nm (i := 0) rfl (vs_by (by decide +kernel)) (by decide +kernel) (by decide +kernel)) (so_tm se_int))) (so_tm se_int)))
  (sss_cons (ss_set (i := 3) (loc_by (by decide +kernel)) (se_add (so_tm (se_call h__law_cell_at (by decide) rfl (by decide +kernel) (by decide +kernel) (sv_cons (se_ix (so_nm (i := 0) rfl (vs_by (by decide +kernel)) (by decide +kernel) (by decide +kernel)) (so_tm se_int)) (sv_cons (se_add (so_tm (se_ix (so_nm (i := 0) rfl (vs_by (by decide +kernel)) (by decide +kernel) (by decide +kernel)) (so_tm se_int))) (so_nm (i := 2) rfl (vs_by (by decide +kernel)) (by decide +kernel) (by decide +kernel))) sv_nil)))) (so_tm (se_mul (so_tm se_int) (so_nm (i := 2) rfl (vs_by (by decide +kernel)) (by decide +kernel) (by decide +kernel))))))
  (sss_one (ss_ret (se_call h__law_number (by decide) rfl (by decide +kernel) (by decide +kernel) (sv_cons (se_take (i := 3) rfl (vs_by (by decide +kernel)) (by decide +kernel) (by decide +kernel)) (sv_cons (se_add (so_tm (se_mod (so_tm (se_intc (T.b_int (by decide +kernel)) (sa_cons (so_tm (se_ix (so_nm (i := 0) rfl (vs_by (by decide +kernel)) (by decide +kernel) (by decide +kernel)) (so_tm se_int))) sa_nil))) (so_tm se_int))) (so_tm se_int)) (sv_cons (se_take (i := 1) rfl (vs_by (by decide +kernel)) (by decide +kernel) (by decide +kernel)) sv_nil)))))))))

/-! law -/
abbrev s_law : Stmt := topS 42
abbrev c_law : Cs := ⟨["script", "draw", "one", "two", "none", "chain", "high", "low", "same", "wide", "name"], defScope s_law, fun _ => true⟩
def d_law : AS → RS := (dSeq (dPars [(6, (dOp addP [(.tm (dC (.int 11))), (.tm (dCallIO F__law_next 1 [(dC (.int 20))]))])), (7, (dOp addP [(.tm (dC (.int 1))), (.tm (dCallIO F__law_next 1 [(dC (.int 10))]))]))])
  (dSeq (dSet 2 (dDisp [((dC (.str "a")), (dDisp [((dC (.str "s")), (dTake 7))])), ((dC (.str "b")), (dDisp [((dC (.str "s")), (dTake 6))])), ((dC (.str "c")), dDct0)]))
  (dSeq (dIfS (dOr (dB (dOp neP [(.tm (dCall F_best_sale [(dTup [(dC (.str "s"))]), (dTake 2)])), (.tm (dTup [(dTake 6), (dDisp [((dC (.str "a")), (dC .non)), ((dC (.str "b")), (dC (.str "s"))), ((dC (.str "c")), (dC .non))])]))])) (dOr (dB (dOp neP [(.tm (dCall F_least_prices [(dTup [(dC (.str "s"))]), (dTake 2)])), (.tm (dDisp [((dC (.str "s")), (dTake 7))]))])) (dOr (dB (dOp neP [(.tm (dCall F_most_prices [(dTup [(dC (.str "s"))]), (dTake 2)])), (.tm (dDisp [((dC (.str "s")), (dTake 6))]))])) (dB (dOp neP [(.tm (dCall F_gain_by_telling [(dTup [(dC (.str "s"))]), (dTake 2), (dC (.str "a")), (dDisp [((dC (.str "s")), (dC (.int 30)))])])), (.tm (dOp subP [(.nm 7), (.nm 6)]))]))))) (dRet (dC (.bl false))) dSkip)
  (dSeq (dIfS (dOr (dNot (dB (dCall F_is_least [(dTup [(dC (.str "s"))]), (dTake 2), (dDisp [((dC (.str "s")), (dTake 7))])]))) (dOr (dB (dCall F_is_least [(dTup [(dC (.str "s"))]), (dTake 2), (dDisp [((dC (.str "s")), (dOp subP [(.nm 7), (.tm (dC (.int 1)))]))])])) (dOr (dB (dCall F_is_least [(dTup [(dC (.str "s"))]), (dTake 2), (dDisp [((dC (.str "s")), (dOp addP [(.nm 7), (.tm (dC (.int 1)))]))])])) (dOr (dNot (dB (dCall F_can_be_calm [(dTup [(dC (.str "s"))]), (dTake 2), (dDisp [((dC (.str "s")), (dTake 6))])]))) (dB (dCall F_can_be_calm [(dTup [(dC (.str "s"))]), (dTake 2), (dDisp [((dC (.str "s")), (dOp addP [(.nm 6), (.tm (dC (.int 1)))]))])])))))) (dRet (dC (.bl false))) dSkip)
  (dSeq (dSet 3 (dDisp [((dC (.str "a")), (dDisp [((dC (.str "s")), (dC (.int 5))), ((dC (.str "t")), (dC (.int 3)))])), ((dC (.str "b")), (dDisp [((dC (.str "s")), (dC (.int 4)))]))]))
  (dSeq (dIfS (dOr (dB (dOp neP [(.tm (dCall F_best_sale [(dTup [(dC (.str "s")), (dC (.str "t"))]), (dTake 3)])), (.tm (dTup [(dC (.int 7)), (dDisp [((dC (.str "a")), (dC (.str "t"))), ((dC (.str "b")), (dC (.str "s")))])]))])) (dOr (dB (dOp neP [(.tm (dCall F_least_prices [(dTup [(dC (.str "s")), (dC (.str "t"))]), (dTake 3)])), (.tm (dDisp [((dC (.str "s")), (dC (.int 2))), ((dC (.str "t")), (dC (.int 0)))]))])) (dB (dOp neP [(.tm (dCall F_most_prices [(dTup [(dC (.str "s")), (dC (.str "t"))]), (dTake 3)])), (.tm (dDisp [((dC (.str "s")), (dC (.int 4))), ((dC (.str "t")), (dC (.int 2)))]))])))) (dRet (dC (.bl false))) dSkip)
  (dSeq (dIfS (dOr (dB (dOp neP [(.tm (dCall F_gains [(dTup [(dC (.str "s")), (dC (.str "t"))]), (dTake 3), (dDisp [((dC (.str "s")), (dC (.int 2))), ((dC (.str "t")), (dC (.int 0)))]), (dDisp [((dC (.str "a")), (dC (.str "t"))), ((dC (.str "b")), (dC (.str "s")))])])), (.tm (dDisp [((dC (.str "a")), (dC (.int 3))), ((dC (.str "b")), (dC (.int 2)))]))])) (dOr (dB (dOp neP [(.tm (dCall F_liked_best [(dTup [(dC (.str "s")), (dC (.str "t"))]), (dTake 3), (dDisp [((dC (.str "s")), (dC (.int 2))), ((dC (.str "t")), (dC (.int 0)))]), (dC (.str "a"))])), (.tm (dTup [(dC (.str "s")), (dC (.str "t"))]))])) (dB (dOp neP [(.tm (dCall F_liked_best [(dTup [(dC (.str "s")), (dC (.str "t"))]), (dTake 3), (dDisp [((dC (.str "s")), (dC (.int 4))), ((dC (.str "t")), (dC (.int 3)))]), (dC (.str "b"))])), (.tm (dTup [(dC (.str "s")), (dC .non)]))])))) (dRet (dC (.bl false))) dSkip)
  (dSeq (dIfS (dOr (dB (dOp neP [(.tm (dCall F_why_price [(dTup [(dC (.str "s")), (dC (.str "t"))]), (dTake 3), (dDisp [((dC (.str "s")), (dC (.int 2))), ((dC (.str "t")), (dC (.int 0)))]), (dC (.str "s"))])), (.tm (dLst [(dC (.str "a")), (dC (.str "b"))]))])) (dB (dOp neP [(.tm (dCall F_sale_lines [(dDisp [((dC (.str "a")), (dC (.str "t"))), ((dC (.str "b")), (dC (.str "s"))), ((dC (.str "c")), (dC .non))]), (dDisp [((dC (.str "s")), (dC (.int 2))), ((dC (.str "t")), (dC (.int 0)))])])), (.tm (dLst [(dC (.str "a: t at 0")), (dC (.str "b: s at 2")), (dC (.str "c: none"))]))]))) (dRet (dC (.bl false))) dSkip)
  (dSeq (dIfS (dOr (dNot (dB (dCall F_are_calm [(dTup [(dC (.str "s")), (dC (.str "t"))]), (dTake 3), (dDisp [((dC (.str "s")), (dC (.int 3))), ((dC (.str "t")), (dC (.int 1)))]), (dDisp [((dC (.str "a")), (dC (.str "t"))), ((dC (.str "b")), (dC (.str "s")))])]))) (dB (dCall F_are_calm [(dTup [(dC (.str "s")), (dC (.str "t"))]), (dTake 3), (dDisp [((dC (.str "s")), (dC (.int 3))), ((dC (.str "t")), (dC (.int 0)))]), (dDisp [((dC (.str "a")), (dC (.str "s"))), ((dC (.str "b")), (dC .non))])]))) (dRet (dC (.bl false))) dSkip)
  (dSeq (dPars [(8, (dOp dictP [(.tm (dLc (dPlain (.tm (dC (.str "abc")))) (.nm 10) dYes (dTup [(dTake 10), (dDisp [((dC (.str "s")), (dC (.int 7))), ((dC (.str "t")), (dC (.int 7)))])]) [10]))])), (9, (dOp dictP [(.tm (dLc (dPlain (.tm (dC (.str "abc")))) (.nm 10) dYes (dTup [(dTake 10), (dDisp [((dC (.str "s")), (dC (.int 7))), ((dC (.str "t")), (dC (.int 7))), ((dC (.str "u")), (dC (.int 7)))])]) [10]))]))])
  (dSeq (dIfS (dOr (dB (dOp neP [(.tm (dCall F_best_sale [(dTup [(dC (.str "s")), (dC (.str "t"))]), (dTake 8)])), (.tm (dTup [(dC (.int 14)), (dDisp [((dC (.str "a")), (dC (.str "s"))), ((dC (.str "b")), (dC (.str "t"))), ((dC (.str "c")), (dC .non))])]))])) (dOr (dB (dOp neP [(.tm (dCall F_least_prices [(dTup [(dC (.str "s")), (dC (.str "t"))]), (dTake 8)])), (.tm (dDisp [((dC (.str "s")), (dC (.int 7))), ((dC (.str "t")), (dC (.int 7)))]))])) (dOr (dB (dOp neP [(.tm (dCall F_most_prices [(dTup [(dC (.str "s")), (dC (.str "t"))]), (dTake 8)])), (.tm (dDisp [((dC (.str "s")), (dC (.int 7))), ((dC (.str "t")), (dC (.int 7)))]))])) (dB (dOp neP [(.tm (dCall F_least_prices [(dTup [(dC (.str "s")), (dC (.str "t")), (dC (.str "u"))]), (dTake 9)])), (.tm (dDisp [((dC (.str "s")), (dC (.int 0))), ((dC (.str "t")), (dC (.int 0))), ((dC (.str "u")), (dC (.int 0)))]))]))))) (dRet (dC (.bl false))) dSkip)
  (dSeq (dSet 4 (dDisp [((dC (.str "a")), dDct0), ((dC (.str "b")), dDct0)]))
  (dSeq (dIfS (dOr (dB (dOp neP [(.tm (dCall F_best_sale [(dTup [(dC (.str "s"))]), (dTake 4)])), (.tm (dTup [(dC (.int 0)), (dDisp [((dC (.str "a")), (dC (.str "s"))), ((dC (.str "b")), (dC .non))])]))])) (dOr (dB (dOp neP [(.tm (dCall F_least_prices [(dTup [(dC (.str "s"))]), (dTake 4)])), (.tm (dDisp [((dC (.str "s")), (dC (.int 0)))]))])) (dOr (dB (dOp neP [(.tm (dCall F_most_prices [(dTup [(dC (.str "s"))]), (dTake 4)])), (.tm (dDisp [((dC (.str "s")), (dC (.int 0)))]))])) (dB (dOp neP [(.tm (dCall F_liked_best [(dTup [(dC (.str "s"))]), (dTake 4), (dDisp [((dC (.str "s")), (dC (.int 0)))]), (dC (.str "a"))])), (.tm (dTup [(dC (.str "s")), (dC .non)]))]))))) (dRet (dC (.bl false))) dSkip)
  (dSeq (dSet 5 (dDisp [((dC (.str "a")), (dDisp [((dC (.str "s")), (dC (.int 10)))])), ((dC (.str "b")), (dDisp [((dC (.str "s")), (dC (.int 9))), ((dC (.str "t")), (dC (.int 8)))])), ((dC (.str "c")), (dDisp [((dC (.str "t")), (dC (.int 7))), ((dC (.str "u")), (dC (.int 6)))]))]))
  (dSeq (dIfS (dOr (dB (dOp neP [(.tm (dCall F_best_sale [(dTup [(dC (.str "s")), (dC (.str "t")), (dC (.str "u"))]), (dTake 5)])), (.tm (dTup [(dC (.int 24)), (dDisp [((dC (.str "a")), (dC (.str "s"))), ((dC (.str "b")), (dC (.str "t"))), ((dC (.str "c")), (dC (.str "u")))])]))])) (dB (dOp neP [(.tm (dCall F_least_prices [(dTup [(dC (.str "s")), (dC (.str "t")), (dC (.str "u"))]), (dTake 5)])), (.tm (dDisp [((dC (.str "s")), (dC (.int 2))), ((dC (.str "t")), (dC (.int 1))), ((dC (.str "u")), (dC (.int 0)))]))]))) (dRet (dC (.bl false))) dSkip)
  (dRet (dOp eqP [(.tm (dCall F_gains [(dTup [(dC (.str "s")), (dC (.str "t")), (dC (.str "u"))]), (dTake 5), (dDisp [((dC (.str "s")), (dC (.int 2))), ((dC (.str "t")), (dC (.int 1))), ((dC (.str "u")), (dC (.int 0)))]), (dDisp [((dC (.str "a")), (dC (.str "s"))), ((dC (.str "b")), (dC (.str "t"))), ((dC (.str "c")), (dC (.str "u")))])])), (.tm (dDisp [((dC (.str "a")), (dC (.int 8))), ((dC (.str "b")), (dC (.int 7))), ((dC (.str "c")), (dC (.int 6)))]))])))))))))))))))))

theorem ok_law {G : Wd} (T : Tp G) (h__law_next : FnIO G "_law_next" 4 2 F__law_next) (h_are_calm : Fn G "are_calm" 8 4 F_are_calm) (h_best_sale : Fn G "best_sale" 7 2 F_best_sale) (h_can_be_calm : Fn G "can_be_calm" 9 3 F_can_be_calm) (h_gain_by_telling : Fn G "gain_by_telling" 8 4 F_gain_by_telling) (h_gains : Fn G "gains" 9 4 F_gains) (h_is_least : Fn G "is_least" 10 3 F_is_least) (h_least_prices : Fn G "least_prices" 7 2 F_least_prices) (h_liked_best : Fn G "liked_best" 7 4 F_liked_best) (h_most_prices : Fn G "most_prices" 7 2 F_most_prices) (h_sale_lines : Fn G "sale_lines" 2 2 F_sale_lines) (h_why_price : Fn G "why_price" 8 4 F_why_price) : SSs G c_law 10 ((defBody s_law).tail) d_law :=
  (sss_cons (ss_pars2 (i := 6) (j := 7) rfl rfl (by decide) (by decide +kernel) (by decide +kernel) (sv_cons (se_add (so_tm se_int) (so_tm (se_callIO (i := 1) h__law_next (by decide) rfl (by decide +kernel) (by decide +kernel) rfl (vs_by (by decide +kernel)) (sv_cons se_int sv_nil) (hdd := by decide +kernel) (hcd := by decide +kernel)))) (sv_cons (se_add (so_tm se_int) (so_tm (se_callIO (i := 1) h__law_next (by decide) rfl (by decide +kernel) (by decide +kernel) rfl (vs_by (by decide +kernel)) (sv_cons se_int sv_nil) (hdd := by decide +kernel) (hcd := by decide +kernel)))) sv_nil)) (by decide +kernel))
  (sss_cons (ss_set (i := 2) (loc_by (by decide +kernel)) (se_disp (sps_cons se_str (se_disp (sps_cons se_str (se_take (i := 7) rfl (vs_by (by decide +kernel)) (by decide +kernel) (by decide +kernel)) sps_nil)) (sps_cons se_str (se_disp (sps_cons se_str (se_take (i := 6) rfl (vs_by (by decide +kernel)) (by decide +kernel) (by decide +kernel)) sps_nil)) (sps_cons se_str se_dct0 sps_nil)))))
  (sss_cons (ss_if (sw_st (sw_or (st_cmp o_ne (so_tm (se_call h_best_sale (by decide) rfl (by decide +kernel) (by decide +kernel) (sv_cons (se_tup (sv_cons se_str sv_nil)) (sv_cons (se_take (i := 2) rfl (vs_by (by decide +kernel)) (by decide +kernel) (by decide +kernel)) sv_nil)))) (so_tm (se_tup (sv_cons (se_take (i := 6) rfl (vs_by (by decide +kernel)) (by decide +kernel) (by decide +kernel)) (sv_cons (se_disp (sps_cons se_str se_non (sps_cons se_str se_str (sps_cons se_str se_non sps_nil)))) sv_nil))))) (sw_or (st_cmp o_ne (so_tm (se_call h_least_prices (by decide) rfl (by decide +kernel) (by decide +kernel) (sv_cons (se_tup (sv_cons se_str sv_nil)) (sv_cons (se_take (i := 2) rfl (vs_by (by decide +kernel)) (by decide +kernel) (by decide +kernel)) sv_nil)))) (so_tm (se_disp (sps_cons se_str (se_take (i := 7) rfl (vs_by (by decide +kernel)) (by decide +kernel) (by decide +kernel)) sps_nil)))) (sw_or (st_cmp o_ne (so_tm (se_call h_most_prices (by decide) rfl (by decide +kernel) (by decide +kernel) (sv_cons (se_tup (sv_cons se_str sv_nil)) (sv_cons (se_take (i := 2) rfl (vs_by (by decide +kernel)) (by decide +kernel) (by decide +kernel)) sv_nil)))) (so_tm (se_disp (sps_cons se_str (se_take (i := 6) rfl (vs_by (by decide +kernel)) (by decide +kernel) (by decide +kernel)) sps_nil)))) (sw_or1 (st_cmp o_ne (so_tm (se_call h_gain_by_telling (by decide) rfl (by decide +kernel) (by decide +kernel) (sv_cons (se_tup (sv_cons se_str sv_nil)) (sv_cons (se_take (i := 2) rfl (vs_by (by decide +kernel)) (by decide +kernel) (by decide +kernel)) (sv_cons se_str (sv_cons (se_disp (sps_cons se_str se_int sps_nil)) sv_nil)))))) (so_tm (se_sub (so_nm (i := 7) rfl (vs_by (by decide +kernel)) (by decide +kernel) (by decide +kernel)) (so_nm (i := 6) rfl (vs_by (by decide +kernel)) (by decide +kernel) (by decide +kernel)))))))))) (sss_one (ss_ret se_bl)) sss_nil)
  (sss_cons (ss_if (sw_st (sw_or (st_not (st_val (se_call h_is_least (by decide) rfl (by decide +kernel) (by decide +kernel) (sv_cons (se_tup (sv_cons se_str sv_nil)) (sv_cons (se_take (i := 2) rfl (vs_by (by decide +kernel)) (by decide +kernel) (by decide +kernel)) (sv_cons (se_disp (sps_cons se_str (se_take (i := 7) rfl (vs_by (by decide +kernel)) (by decide +kernel) (by decide +kernel)) sps_nil)) sv_nil)))))) (sw_or (st_val (se_call h_is_least (by decide) rfl (by decide +kernel) (by decide +kernel) (sv_cons (se_tup (sv_cons se_str sv_nil)) (sv_cons (se_take (i := 2) rfl (vs_by (by decide +kernel)) (by decide +kernel) (by decide +kernel)) (sv_cons (se_disp (sps_cons se_str (se_sub (so_nm (i := 7) rfl (vs_by (by decide +kernel)) (by decide +kernel) (by decide +kernel)) (so_tm se_int)) sps_nil)) sv_nil))))) (sw_or (st_val (se_call h_is_least (by decide) rfl (by decide +kernel) (by decide +kernel) (sv_cons (se_tup (sv_cons se_str sv_nil)) (sv_cons (se_take (i := 2) rfl (vs_by (by decide +kernel)) (by decide +kernel) (by decide +kernel)) (sv_cons (se_disp (sps_cons se_str (se_add (so_nm (i := 7) rfl (vs_by (by decide +kernel)) (by decide +kernel) (by decide +kernel)) (so_tm se_int)) sps_nil)) sv_nil))))) (sw_or (st_not (st_val (se_call h_can_be_calm (by decide) rfl (by decide +kernel) (by decide +kernel) (sv_cons (se_tup (sv_cons se_str sv_nil)) (sv_cons (se_take (i := 2) rfl (vs_by (by decide +kernel)) (by decide +kernel) (by decide +kernel)) (sv_cons (se_disp (sps_cons se_str (se_take (i := 6) rfl (vs_by (by decide +kernel)) (by decide +kernel) (by decide +kernel)) sps_nil)) sv_nil)))))) (sw_or1 (st_val (se_call h_can_be_calm (by decide) rfl (by decide +kernel) (by decide +kernel) (sv_cons (se_tup (sv_cons se_str sv_nil)) (sv_cons (se_take (i := 2) rfl (vs_by (by decide +kernel)) (by decide +kernel) (by decide +kernel)) (sv_cons (se_disp (sps_cons se_str (se_add (so_nm (i := 6) rfl (vs_by (by decide +kernel)) (by decide +kernel) (by decide +kernel)) (so_tm se_int)) sps_nil)) sv_nil))))))))))) (sss_one (ss_ret se_bl)) sss_nil)
  (sss_cons (ss_set (i := 3) (loc_by (by decide +kernel)) (se_disp (sps_cons se_str (se_disp (sps_cons se_str se_int (sps_cons se_str se_int sps_nil))) (sps_cons se_str (se_disp (sps_cons se_str se_int sps_nil)) sps_nil))))
  (sss_cons (ss_if (sw_st (sw_or (st_cmp o_ne (so_tm (se_call h_best_sale (by decide) rfl (by decide +kernel) (by decide +kernel) (sv_cons (se_tup (sv_cons se_str (sv_cons se_str sv_nil))) (sv_cons (se_take (i := 3) rfl (vs_by (by decide +kernel)) (by decide +kernel) (by decide +kernel)) sv_nil)))) (so_tm (se_tup (sv_cons se_int (sv_cons (se_disp (sps_cons se_str se_str (sps_cons se_str se_str sps_nil))) sv_nil))))) (sw_or (st_cmp o_ne (so_tm (se_call h_least_prices (by decide) rfl (by decide +kernel) (by decide +kernel) (sv_cons (se_tup (sv_cons se_str (sv_cons se_str sv_nil))) (sv_cons (se_take (i := 3) rfl (vs_by (by decide +kernel)) (by decide +kernel) (by decide +kernel)) sv_nil)))) (so_tm (se_disp (sps_cons se_str se_int (sps_cons se_str se_int sps_nil))))) (sw_or1 (st_cmp o_ne (so_tm (se_call h_most_prices (by decide) rfl (by decide +kernel) (by decide +kernel) (sv_cons (se_tup (sv_cons se_str (sv_cons se_str sv_nil))) (sv_cons (se_take (i := 3) rfl (vs_by (by decide +kernel)) (by decide +kernel) (by decide +kernel)) sv_nil)))) (so_tm (se_disp (sps_cons se_str se_int (sps_cons se_str se_int sps_nil))))))))) (sss_one (ss_ret se_bl)) sss_nil)
  (sss_cons (ss_if (sw_st (sw_or (st_cmp o_ne (so_tm (se_call h_gains (by decide) rfl (by decide +kernel) (by decide +kernel) (sv_cons (se_tup (sv_cons se_str (sv_cons se_str sv_nil))) (sv_cons (se_take (i := 3) rfl (vs_by (by decide +kernel)) (by decide +kernel) (by decide +kernel)) (sv_cons (se_disp (sps_cons se_str se_int (sps_cons se_str se_int sps_nil))) (sv_cons (se_disp (sps_cons se_str se_str (sps_cons se_str se_str sps_nil))) sv_nil)))))) (so_tm (se_disp (sps_cons se_str se_int (sps_cons se_str se_int sps_nil))))) (sw_or (st_cmp o_ne (so_tm (se_call h_liked_best (by decide) rfl (by decide +kernel) (by decide +kernel) (sv_cons (se_tup (sv_cons se_str (sv_cons se_str sv_nil))) (sv_cons (se_take (i := 3) rfl (vs_by (by decide +kernel)) (by decide +kernel) (by decide +kernel)) (sv_cons (se_disp (sps_cons se_str se_int (sps_cons se_str se_int sps_nil))) (sv_cons se_str sv_nil)))))) (so_tm (se_tup (sv_cons se_str (sv_cons se_str sv_nil))))) (sw_or1 (st_cmp o_ne (so_tm (se_call h_liked_best (by decide) rfl (by decide +kernel) (by decide +kernel) (sv_cons (se_tup (sv_cons se_str (sv_cons se_str sv_nil))) (sv_cons (se_take (i := 3) rfl (vs_by (by decide +kernel)) (by decide +kernel) (by decide +kernel)) (sv_cons (se_disp (sps_cons se_str se_int (sps_cons se_str se_int sps_nil))) (sv_cons se_str sv_nil)))))) (so_tm (se_tup (sv_cons se_str (sv_cons se_non sv_nil))))))))) (sss_one (ss_ret se_bl)) sss_nil)
  (sss_cons (ss_if (sw_st (sw_or (st_cmp o_ne (so_tm (se_call h_why_price (by decide) rfl (by decide +kernel) (by decide +kernel) (sv_cons (se_tup (sv_cons se_str (sv_cons se_str sv_nil))) (sv_cons (se_take (i := 3) rfl (vs_by (by decide +kernel)) (by decide +kernel) (by decide +kernel)) (sv_cons (se_disp (sps_cons se_str se_int (sps_cons se_str se_int sps_nil))) (sv_cons se_str sv_nil)))))) (so_tm (se_lst (sv_cons se_str (sv_cons se_str sv_nil))))) (sw_or1 (st_cmp o_ne (so_tm (se_call h_sale_lines (by decide) rfl (by decide +kernel) (by decide +kernel) (sv_cons (se_disp (sps_cons se_str se_str (sps_cons se_str se_str (sps_cons se_str se_non sps_nil)))) (sv_cons (se_disp (sps_cons se_str se_int (sps_cons se_str se_int sps_nil))) sv_nil)))) (so_tm (se_lst (sv_cons se_str (sv_cons se_str (sv_cons se_str sv_nil))))))))) (sss_one (ss_ret se_bl)) sss_nil)
  (sss_cons (ss_if (sw_st (sw_or (st_not (st_val (se_call h_are_calm (by decide) rfl (by decide +kernel) (by decide +kernel) (sv_cons (se_tup (sv_cons se_str (sv_cons se_str sv_nil))) (sv_cons (se_take (i := 3) rfl (vs_by (by decide +kernel)) (by decide +kernel) (by decide +kernel)) (sv_cons (se_disp (sps_cons se_str se_int (sps_cons se_str se_int sps_nil))) (sv_cons (se_disp (sps_cons se_str se_str (sps_cons se_str se_str sps_nil))) sv_nil))))))) (sw_or1 (st_val (se_call h_are_calm (by decide) rfl (by decide +kernel) (by decide +kernel) (sv_cons (se_tup (sv_cons se_str (sv_cons se_str sv_nil))) (sv_cons (se_take (i := 3) rfl (vs_by (by decide +kernel)) (by decide +kernel) (by decide +kernel)) (sv_cons (se_disp (sps_cons se_str se_int (sps_cons se_str se_int sps_nil))) (sv_cons (se_disp (sps_cons se_str se_str (sps_cons se_str se_non sps_nil))) sv_nil))))))))) (sss_one (ss_ret se_bl)) sss_nil)
  (sss_cons (ss_pars2 (i := 8) (j := 9) rfl rfl (by decide) (by decide +kernel) (by decide +kernel) (sv_cons (se_dictc (T.b_dict (by decide +kernel)) (sa_cons (so_tm (se_lc (own := [("name", 10)]) (by decide +kernel) (si_plain (so_tm se_str)) (sg_nm (i := 10) (loc_by (by decide +kernel))) sp_nil (se_tup (sv_cons (se_take (i := 10) rfl (vs_by (by decide +kernel)) (by decide +kernel) (by decide +kernel)) (sv_cons (se_disp (sps_cons se_str se_int (sps_cons se_str se_int sps_nil))) sv_nil))) (by decide +kernel))) sa_nil)) (sv_cons (se_dictc (T.b_dict (by decide +kernel)) (sa_cons (so_tm (se_lc (own := [("name", 10)]) (by decide +kernel) (si_plain (so_tm se_str)) (sg_nm (i := 10) (loc_by (by decide +kernel))) sp_nil (se_tup (sv_cons (se_take (i := 10) rfl (vs_by (by decide +kernel)) (by decide +kernel) (by decide +kernel)) (sv_cons (se_disp (sps_cons se_str se_int (sps_cons se_str se_int (sps_cons se_str se_int sps_nil)))) sv_nil))) (by decide +kernel))) sa_nil)) sv_nil)) (by decide +kernel))
  (sss_cons (ss_if (sw_st (sw_or (st_cmp o_ne (so_tm (se_call h_best_sale (by decide) rfl (by decide +kernel) (by decide +kernel) (sv_cons (se_tup (sv_cons se_str (sv_cons se_str sv_nil))) (sv_cons (se_take (i := 8) rfl (vs_by (by decide +kernel)) (by decide +kernel) (by decide +kernel)) sv_nil)))) (so_tm (se_tup (sv_cons se_int (sv_cons (se_disp (sps_cons se_str se_str (sps_cons se_str se_str (sps_cons se_str se_non sps_nil)))) sv_nil))))) (sw_or (st_cmp o_ne (so_tm (se_call h_least_prices (by decide) rfl (by decide +kernel) (by decide +kernel) (sv_cons (se_tup (sv_cons se_str (sv_cons se_str sv_nil))) (sv_cons (se_take (i := 8) rfl (vs_by (by decide +kernel)) (by decide +kernel) (by decide +kernel)) sv_nil)))) (so_tm (se_disp (sps_cons se_str se_int (sps_cons se_str se_int sps_nil))))) (sw_or (st_cmp o_ne (so_tm (se_call h_most_prices (by decide) rfl (by decide +kernel) (by decide +kernel) (sv_cons (se_tup (sv_cons se_str (sv_cons se_str sv_nil))) (sv_cons (se_take (i := 8) rfl (vs_by (by decide +kernel)) (by decide +kernel) (by decide +kernel)) sv_nil)))) (so_tm (se_disp (sps_cons se_str se_int (sps_cons se_str se_int sps_nil))))) (sw_or1 (st_cmp o_ne (so_tm (se_call h_least_prices (by decide) rfl (by decide +kernel) (by decide +kernel) (sv_cons (se_tup (sv_cons se_str (sv_cons se_str (sv_cons se_str sv_nil)))) (sv_cons (se_take (i := 9) rfl (vs_by (by decide +kernel)) (by decide +kernel) (by decide +kernel)) sv_nil)))) (so_tm (se_disp (sps_cons se_str se_int (sps_cons se_str se_int (sps_cons se_str se_int sps_nil))))))))))) (sss_one (ss_ret se_bl)) sss_nil)
  (sss_cons (ss_set (i := 4) (loc_by (by decide +kernel)) (se_disp (sps_cons se_str se_dct0 (sps_cons se_str se_dct0 sps_nil))))
  (sss_cons (ss_if (sw_st (sw_or (st_cmp o_ne (so_tm (se_call h_best_sale (by decide) rfl (by decide +kernel) (by decide +kernel) (sv_cons (se_tup (sv_cons se_str sv_nil)) (sv_cons (se_take (i := 4) rfl (vs_by (by decide +kernel)) (by decide +kernel) (by decide +kernel)) sv_nil)))) (so_tm (se_tup (sv_cons se_int (sv_cons (se_disp (sps_cons se_str se_str (sps_cons se_str se_non sps_nil))) sv_nil))))) (sw_or (st_cmp o_ne (so_tm (se_call h_least_prices (by decide) rfl (by decide +kernel) (by decide +kernel) (sv_cons (se_tup (sv_cons se_str sv_nil)) (sv_cons (se_take (i := 4) rfl (vs_by (by decide +kernel)) (by decide +kernel) (by decide +kernel)) sv_nil)))) (so_tm (se_disp (sps_cons se_str se_int sps_nil)))) (sw_or (st_cmp o_ne (so_tm (se_call h_most_prices (by decide) rfl (by decide +kernel) (by decide +kernel) (sv_cons (se_tup (sv_cons se_str sv_nil)) (sv_cons (se_take (i := 4) rfl (vs_by (by decide +kernel)) (by decide +kernel) (by decide +kernel)) sv_nil)))) (so_tm (se_disp (sps_cons se_str se_int sps_nil)))) (sw_or1 (st_cmp o_ne (so_tm (se_call h_liked_best (by decide) rfl (by decide +kernel) (by decide +kernel) (sv_cons (se_tup (sv_cons se_str sv_nil)) (sv_cons (se_take (i := 4) rfl (vs_by (by decide +kernel)) (by decide +kernel) (by decide +kernel)) (sv_cons (se_disp (sps_cons se_str se_int sps_nil)) (sv_cons se_str sv_nil)))))) (so_tm (se_tup (sv_cons se_str (sv_cons se_non sv_nil)))))))))) (sss_one (ss_ret se_bl)) sss_nil)
  (sss_cons (ss_set (i := 5) (loc_by (by decide +kernel)) (se_disp (sps_cons se_str (se_disp (sps_cons se_str se_int sps_nil)) (sps_cons se_str (se_disp (sps_cons se_str se_int (sps_cons se_str se_int sps_nil))) (sps_cons se_str (se_disp (sps_cons se_str se_int (sps_cons se_str se_int sps_nil))) sps_nil)))))
  (sss_cons (ss_if (sw_st (sw_or (st_cmp o_ne (so_tm (se_call h_best_sale (by decide) rfl (by decide +kernel) (by decide +kernel) (sv_cons (se_tup (sv_cons se_str (sv_cons se_str (sv_cons se_str sv_nil)))) (sv_cons (se_take (i := 5) rfl (vs_by (by decide +kernel)) (by decide +kernel) (by decide +kernel)) sv_nil)))) (so_tm (se_tup (sv_cons se_int (sv_cons (se_disp (sps_cons se_str se_str (sps_cons se_str se_str (sps_cons se_str se_str sps_nil)))) sv_nil))))) (sw_or1 (st_cmp o_ne (so_tm (se_call h_least_prices (by decide) rfl (by decide +kernel) (by decide +kernel) (sv_cons (se_tup (sv_cons se_str (sv_cons se_str (sv_cons se_str sv_nil)))) (sv_cons (se_take (i := 5) rfl (vs_by (by decide +kernel)) (by decide +kernel) (by decide +kernel)) sv_nil)))) (so_tm (se_disp (sps_cons se_str se_int (sps_cons se_str se_int (sps_cons se_str se_int sps_nil))))))))) (sss_one (ss_ret se_bl)) sss_nil)
  (sss_one (ss_ret (se_cmp o_eq (so_tm (se_call h_gains (by decide) rfl (by decide +kernel) (by decide +kernel) (sv_cons (se_tup (sv_cons se_str (sv_cons se_str (sv_cons se_str sv_nil)))) (sv_cons (se_take (i := 5) rfl (vs_by (by decide +kernel)) (by decide +kernel) (by decide +kernel)) (sv_cons (se_disp (sps_cons se_str se_int (sps_cons se_str se_int (sps_cons se_str se_int sps_nil)))) (sv_cons (se_disp (sps_cons se_str se_str (sps_cons se_str se_str (sps_cons se_str se_str sps_nil)))) sv_nil)))))) (so_tm (se_disp (sps_cons se_str se_int (sps_cons se_str se_int (sps_cons se_str se_int sps_nil)))))))))))))))))))))))

end Den.Lk58
set_option Elab.async false
set_option linter.all false
set_option maxRecDepth 100000
set_option maxHeartbeats 4000000
namespace Den.Lk58
open PySem L2 PyProof.Rows Den
theorem ixT_int (ns : List Int) (k : Nat) (h : k < ns.length) : ixL [.tup (ns.map .int), .int k] = some (.val (.int ns[k])) := by
  have e : atI (ns.map PV.int) (k : Nat) = some (.int ns[k]) := atI_nat (by rw [List.getElem?_map, List.getElem?_eq_getElem h]; rfl)
  show (atI (ns.map PV.int) (k : Nat)).map RV.val = _
  rw [e]; rfl
theorem ixL_int (ns : List Int) (k : Nat) (h : k < ns.length) : ixL [.lst (ns.map .int), .int k] = some (.val (.int ns[k])) := by
  have e : atI (ns.map PV.int) (k : Nat) = some (.int ns[k]) := atI_nat (by rw [List.getElem?_map, List.getElem?_eq_getElem h]; rfl)
  show (atI (ns.map PV.int) (k : Nat)).map RV.val = _
  rw [e]; rfl
theorem mulP_is (i j : Int) (h : -(2 ^ 64) < j ∧ j < 2 ^ 64) : mulP [.int i, .int j] = some (.val (.int (i * j))) := if_pos (.inr h)
theorem mulP_is' (i j : Int) (h : -(2 ^ 64) < i ∧ i < 2 ^ 64) : mulP [.int i, .int j] = some (.val (.int (i * j))) := if_pos (.inl h)
theorem modP_is (i j : Int) (h : 0 < j) : modP [.int i, .int j] = some (.val (.int (i % j))) := if_pos h
theorem fdivP_is (i j : Int) (h : 0 < j ∧ j < 2 ^ 2000) : fdivP [.int i, .int j] = some (.val (.int (i / j))) := if_pos h
theorem powP_is (i j : Int) (h : 0 ≤ j ∧ j ≤ 1000 ∧ 0 ≤ i ∧ i < 2 ^ 64) : powP [.int i, .int j] = some (.val (.int (i ^ j.toNat))) := if_pos h
theorem cell_at (ns : List Int) (k : Int) (hk0 : 0 ≤ k) : ∃ z, F__law_cell_at [.lst (ns.map .int), .int k] = some (.int z) := by
  by_cases h : k < (ns.length : Int)
  · have hk : k.toNat < ns.length := by omega
    refine ⟨ns[k.toNat], ?_⟩
    have e := ixL_int ns k.toNat hk
    have ek : (k.toNat : Int) = k := by omega
    rw [ek] at e
    simp [F__law_cell_at, d__law_cell_at, bodyF, startS, dSeq, dSet, dTup, evV, dC, RV.pv, putS, freeS, List.length_cons, List.length_nil, if_true, List.map_cons, List.map_nil, List.replicate, List.cons_append, List.nil_append, List.getElem?_cons_succ, List.getElem?_cons_zero, List.set_cons_succ, List.set_cons_zero, dRet, dOp, evs, peek, intP, addP, subP, ixP, dIfS, dB, dSkip, lenP, ltP, cmpP, cmpOk, ltD, dTake, dCall,  h, e]
  · refine ⟨0, ?_⟩
    simp [F__law_cell_at, d__law_cell_at, bodyF, startS, dSeq, dSet, dTup, evV, dC, RV.pv, putS, freeS, List.length_cons, List.length_nil, if_true, List.map_cons, List.map_nil, List.replicate, List.cons_append, List.nil_append, List.getElem?_cons_succ, List.getElem?_cons_zero, List.set_cons_succ, List.set_cons_zero, dRet, dOp, evs, peek, intP, addP, subP, ixP, dIfS, dB, dSkip, lenP, ltP, cmpP, cmpOk, ltD, dTake, dCall,  h]
def primesL : List Int := [1000003, 1000033, 1000037, 1000039, 1000081, 1000099, 1000117, 1000121, 1000133, 1000151, 1000159, 1000171, 1000183, 1000187, 1000193, 1000199]
theorem primes_pos : ∀ x ∈ primesL, 0 < x := by decide
theorem draw_is (a k b : Int) (hk : 0 ≤ k) (hb : 0 < b) : ∃ z, 0 ≤ z ∧ z < b ∧ F__law_draw [.int a, .int k, .int b] = some (.int z) := by
  have hj : (k % 16).toNat < primesL.length := by show (k % 16).toNat < 16; omega
  have e := ixT_int primesL (k % 16).toNat hj
  have p0 : 0 < primesL[(k % 16).toNat] := primes_pos _ (List.getElem_mem hj)
  have ek : ((k % 16).toNat : Int) = k % 16 := by omega
  rw [ek] at e
  have em : primesL.map PV.int = [PV.int 1000003, PV.int 1000033, PV.int 1000037, PV.int 1000039, PV.int 1000081, PV.int 1000099, PV.int 1000117, PV.int 1000121, PV.int 1000133, PV.int 1000151, PV.int 1000159, PV.int 1000171, PV.int 1000183, PV.int 1000187, PV.int 1000193, PV.int 1000199] := rfl
  rw [em] at e
  generalize primesL[(k % 16).toNat] = p at e p0
  refine ⟨(a * 48271 + k * 69621) % p % b, Int.emod_nonneg _ (by omega), Int.emod_lt_of_pos _ hb, ?_⟩
  have m1 := mulP_is a 48271 (by decide)
  have m2 := mulP_is k 69621 (by decide)
  have m3 := modP_is k 16 (by decide)
  have m4 := modP_is (a * 48271 + k * 69621) p p0
  have m5 := modP_is ((a * 48271 + k * 69621) % p) b hb
  simp only [F__law_draw, d__law_draw, bodyF, startS, dSeq, dSet, dTup, evV, dC, RV.pv, putS, freeS, List.length_cons, List.length_nil, if_true, List.map_cons, List.map_nil, List.replicate, List.cons_append, List.nil_append, List.getElem?_cons_succ, List.getElem?_cons_zero, List.set_cons_succ, List.set_cons_zero, dRet, dOp, evs, peek, intP, addP, subP, ixP, dIfS, dB, dSkip, lenP, ltP, cmpP, cmpOk, ltD, dTake, dCall,  m1, m2, m3, m4, m5, e]
theorem loop_scale (cell k b : PV) : ∀ (l : List PV) (s : Int) (x : Slot), freeS (some x) = true → ∃ x', freeS (some x') = true ∧ loopS (.nm 4) (dSet 3 (dOp mulP [.nm 3, .tm (dC (.int 1009))])) l [.val cell, .val k, .val b, .val (.int s), x, .un, .un] = .next [.val cell, .val k, .val b, .val (.int (s * 1009 ^ l.length)), x', .un, .un]
  | [], s, x, hx => ⟨x, hx, by rw [List.length_nil, Int.pow_zero, Int.mul_one]; rfl⟩
  | p :: l, s, x, hx => by
    obtain ⟨x', hx', e⟩ := loop_scale cell k b l (s * 1009) (.val p) rfl
    refine ⟨x', hx', ?_⟩
    have m1 := mulP_is s 1009 (by decide)
    have hp : s * 1009 ^ (p :: l).length = s * 1009 * 1009 ^ l.length := by
      rw [List.length_cons, Int.pow_succ, Int.mul_assoc, Int.mul_comm 1009]
    rw [hp, ← e, loopS]
    simp only [bindT, List.getElem?_cons_succ, List.getElem?_cons_zero, hx, if_true, List.set_cons_succ, List.set_cons_zero]
    simp only [bodyF, startS, dSeq, dSet, dTup, evV, dC, RV.pv, putS, freeS, List.length_cons, List.length_nil, if_true, List.map_cons, List.map_nil, List.replicate, List.cons_append, List.nil_append, List.getElem?_cons_succ, List.getElem?_cons_zero, List.set_cons_succ, List.set_cons_zero, dRet, dOp, evs, peek, intP, addP, subP, ixP, dIfS, dB, dSkip, lenP, ltP, cmpP, cmpOk, ltD, dTake, dCall,  m1]
theorem scale_ok : ∀ m, m < 24 → 0 < (1009 : Int) ^ m ∧ (1009 : Int) ^ m < 2 ^ 2000 := by decide
theorem number_is (c k b : Int) (hk : 0 ≤ k) (hk2 : k < 24) (hb : 0 < b) : ∃ z, 0 ≤ z ∧ z < b ∧ F__law_number [.int c, .int k, .int b] = some (.int z) := by
  have p1 := powP_is 10 18 (by decide)
  generalize (10 : Int) ^ (18 : Int).toNat = g at p1
  have m3 := modP_is k 24 (by decide)
  have hs : small (k % 24) = true := by unfold small; rw [decide_eq_true_eq]; omega
  obtain ⟨x, hx, lp⟩ := loop_scale (.int c) (.int k) (.int b) (rngP 0 1 (k % 24).toNat) 1 .un rfl
  have hm : (rngP 0 1 (k % 24).toNat).length < 24 := by
    unfold rngP; rw [List.length_map, List.length_range]; omega
  have sc := scale_ok _ hm
  rw [Int.one_mul] at lp
  generalize (1009 : Int) ^ (rngP 0 1 (k % 24).toNat).length = w at lp sc
  have m4 := fdivP_is (c - g) w sc
  generalize hr : (c - g) / w = r at m4
  have m5 := modP_is r 1009 (by decide)
  have m6 := modP_is (r % 1009) b hb
  have m7 := modP_is c 1000003 (by decide)
  have s0 : 0 ≤ c % 1000003 := Int.emod_nonneg _ (by decide)
  have s1 : c % 1000003 < 1000003 := Int.emod_lt_of_pos _ (by decide)
  generalize c % 1000003 = q at m7 s0 s1
  have m8 := mulP_is' 977 k (by decide)
  have m9 := mulP_is' 31 k (by decide)
  have m10 := mulP_is' (q + 977 * k) (q + 31 * k + 5) (by omega)
  have m11 := modP_is k 9 (by decide)
  obtain ⟨d, d0, d1, ed⟩ := draw_is ((q + 977 * k) * (q + 31 * k + 5)) (k % 9 + 1) 999983 (by omega) (by decide)
  have m12 := modP_is d b hb
  by_cases h : 0 < r
  · refine ⟨r % 1009 % b, Int.emod_nonneg _ (by omega), Int.emod_lt_of_pos _ hb, ?_⟩
    have gt : gtP [.int r, .int 0] = some (.val (.bl true)) := by simp [gtP, cmpP, cmpOk, ltD, h]
    simp only [F__law_number, d__law_number, bodyF, startS, dSeq, dSet, dTup, evV, dC, RV.pv, putS, freeS, List.length_cons, List.length_nil, if_true, List.map_cons, List.map_nil, List.replicate, List.cons_append, List.nil_append, List.getElem?_cons_succ, List.getElem?_cons_zero, List.set_cons_succ, List.set_cons_zero, dRet, dOp, evs, peek, intP, addP, subP, ixP, dIfS, dB, dSkip, lenP, ltP, cmpP, cmpOk, ltD, dTake, dCall,  dFor, dRng1, m3, hs, lp, p1, m4, gt, m5, m6, unlk, List.foldl_nil]
  · refine ⟨d % b, Int.emod_nonneg _ (by omega), Int.emod_lt_of_pos _ hb, ?_⟩
    have gt : gtP [.int r, .int 0] = some (.val (.bl false)) := by simp [gtP, cmpP, cmpOk, ltD, h]
    simp only [F__law_number, d__law_number, bodyF, startS, dSeq, dSet, dTup, evV, dC, RV.pv, putS, freeS, List.length_cons, List.length_nil, if_true, List.map_cons, List.map_nil, List.replicate, List.cons_append, List.nil_append, List.getElem?_cons_succ, List.getElem?_cons_zero, List.set_cons_succ, List.set_cons_zero, dRet, dOp, evs, peek, intP, addP, subP, ixP, dIfS, dB, dSkip, lenP, ltP, cmpP, cmpOk, ltD, dTake, dCall,  dFor, dRng1, m3, hs, lp, p1, m4, gt, m7, m8, m9, m10, m11, ed, m12, unlk, List.foldl_nil]
/-- one number drawn: it lies below the bound; the place moves by one -/
theorem next_is (ns : List Int) (n b : Int) (hn : 0 ≤ n) (hb : 0 < b) : ∃ z, 0 ≤ z ∧ z < b ∧ F__law_next (.lst [.lst (ns.map .int), .int 0, .int n]) [.int b] = some (.int z, .lst [.lst (ns.map .int), .int 0, .int (n + 1)]) := by
  have m1 := fdivP_is (n + 1) 12 (by decide)
  obtain ⟨c, ec⟩ := cell_at ns (0 + (n + 1) / 12) (by omega)
  have m2 := mulP_is' 31 ((n + 1) / 12) (by decide)
  have m3 := modP_is (n + 1) 12 (by decide)
  obtain ⟨z, z0, z1, ez⟩ := number_is (c + 31 * ((n + 1) / 12)) ((n + 1) % 12 + 1) b (by omega) (by omega) hb
  refine ⟨z, z0, z1, ?_⟩
  have i2 : ∀ v, ixL [.lst [.lst (ns.map .int), .int 0, v], .int 2] = some (.val v) := fun v => rfl
  have i0 : ∀ v, ixL [.lst [.lst (ns.map .int), .int 0, v], .int 0] = some (.val (.lst (ns.map .int))) := fun v => rfl
  have i1 : ∀ v, ixL [.lst [.lst (ns.map .int), .int 0, v], .int 1] = some (.val (.int 0)) := fun v => rfl
  have k2 : ixN 3 2 = some 2 := rfl
  simp only [F__law_next, d__law_next, bodyIO, outIO, dPut, bodyF, startS, dSeq, dSet, dTup, evV, dC, RV.pv, putS, freeS, List.length_cons, List.length_nil, if_true, List.map_cons, List.map_nil, List.replicate, List.cons_append, List.nil_append, List.getElem?_cons_succ, List.getElem?_cons_zero, List.set_cons_succ, List.set_cons_zero, dRet, dOp, evs, peek, intP, addP, subP, ixP, dIfS, dB, dSkip, lenP, ltP, cmpP, cmpOk, ltD, dTake, dCall,  i2, i0, i1, k2, m1, ec, m2, m3, ez]

end Den.Lk58
set_option Elab.async false
set_option linter.all false
set_option maxRecDepth 100000
namespace Den.Lk58
open PySem L2 PyProof.Rows Den
def law_1 : AS → RS := (dPars [(6, (dOp addP [(.tm (dC (.int 11))), (.tm (dCallIO F__law_next 1 [(dC (.int 20))]))])), (7, (dOp addP [(.tm (dC (.int 1))), (.tm (dCallIO F__law_next 1 [(dC (.int 10))]))]))])
def law_2 : AS → RS := (dSet 2 (dDisp [((dC (.str "a")), (dDisp [((dC (.str "s")), (dTake 7))])), ((dC (.str "b")), (dDisp [((dC (.str "s")), (dTake 6))])), ((dC (.str "c")), dDct0)]))
def law_3 : AS → RS := (dIfS (dOr (dB (dOp neP [(.tm (dCall F_best_sale [(dTup [(dC (.str "s"))]), (dTake 2)])), (.tm (dTup [(dTake 6), (dDisp [((dC (.str "a")), (dC .non)), ((dC (.str "b")), (dC (.str "s"))), ((dC (.str "c")), (dC .non))])]))])) (dOr (dB (dOp neP [(.tm (dCall F_least_prices [(dTup [(dC (.str "s"))]), (dTake 2)])), (.tm (dDisp [((dC (.str "s")), (dTake 7))]))])) (dOr (dB (dOp neP [(.tm (dCall F_most_prices [(dTup [(dC (.str "s"))]), (dTake 2)])), (.tm (dDisp [((dC (.str "s")), (dTake 6))]))])) (dB (dOp neP [(.tm (dCall F_gain_by_telling [(dTup [(dC (.str "s"))]), (dTake 2), (dC (.str "a")), (dDisp [((dC (.str "s")), (dC (.int 30)))])])), (.tm (dOp subP [(.nm 7), (.nm 6)]))]))))) (dRet (dC (.bl false))) dSkip)
def law_4 : AS → RS := (dIfS (dOr (dNot (dB (dCall F_is_least [(dTup [(dC (.str "s"))]), (dTake 2), (dDisp [((dC (.str "s")), (dTake 7))])]))) (dOr (dB (dCall F_is_least [(dTup [(dC (.str "s"))]), (dTake 2), (dDisp [((dC (.str "s")), (dOp subP [(.nm 7), (.tm (dC (.int 1)))]))])])) (dOr (dB (dCall F_is_least [(dTup [(dC (.str "s"))]), (dTake 2), (dDisp [((dC (.str "s")), (dOp addP [(.nm 7), (.tm (dC (.int 1)))]))])])) (dOr (dNot (dB (dCall F_can_be_calm [(dTup [(dC (.str "s"))]), (dTake 2), (dDisp [((dC (.str "s")), (dTake 6))])]))) (dB (dCall F_can_be_calm [(dTup [(dC (.str "s"))]), (dTake 2), (dDisp [((dC (.str "s")), (dOp addP [(.nm 6), (.tm (dC (.int 1)))]))])])))))) (dRet (dC (.bl false))) dSkip)
def law_5 : AS → RS := (dSet 3 (dDisp [((dC (.str "a")), (dDisp [((dC (.str "s")), (dC (.int 5))), ((dC (.str "t")), (dC (.int 3)))])), ((dC (.str "b")), (dDisp [((dC (.str "s")), (dC (.int 4)))]))]))
def law_6 : AS → RS := (dIfS (dOr (dB (dOp neP [(.tm (dCall F_best_sale [(dTup [(dC (.str "s")), (dC (.str "t"))]), (dTake 3)])), (.tm (dTup [(dC (.int 7)), (dDisp [((dC (.str "a")), (dC (.str "t"))), ((dC (.str "b")), (dC (.str "s")))])]))])) (dOr (dB (dOp neP [(.tm (dCall F_least_prices [(dTup [(dC (.str "s")), (dC (.str "t"))]), (dTake 3)])), (.tm (dDisp [((dC (.str "s")), (dC (.int 2))), ((dC (.str "t")), (dC (.int 0)))]))])) (dB (dOp neP [(.tm (dCall F_most_prices [(dTup [(dC (.str "s")), (dC (.str "t"))]), (dTake 3)])), (.tm (dDisp [((dC (.str "s")), (dC (.int 4))), ((dC (.str "t")), (dC (.int 2)))]))])))) (dRet (dC (.bl false))) dSkip)
def law_7 : AS → RS := (dIfS (dOr (dB (dOp neP [(.tm (dCall F_gains [(dTup [(dC (.str "s")), (dC (.str "t"))]), (dTake 3), (dDisp [((dC (.str "s")), (dC (.int 2))), ((dC (.str "t")), (dC (.int 0)))]), (dDisp [((dC (.str "a")), (dC (.str "t"))), ((dC (.str "b")), (dC (.str "s")))])])), (.tm (dDisp [((dC (.str "a")), (dC (.int 3))), ((dC (.str "b")), (dC (.int 2)))]))])) (dOr (dB (dOp neP [(.tm (dCall F_liked_best [(dTup [(dC (.str "s")), (dC (.str "t"))]), (dTake 3), (dDisp [((dC (.str "s")), (dC (.int 2))), ((dC (.str "t")), (dC (.int 0)))]), (dC (.str "a"))])), (.tm (dTup [(dC (.str "s")), (dC (.str "t"))]))])) (dB (dOp neP [(.tm (dCall F_liked_best [(dTup [(dC (.str "s")), (dC (.str "t"))]), (dTake 3), (dDisp [((dC (.str "s")), (dC (.int 4))), ((dC (.str "t")), (dC (.int 3)))]), (dC (.str "b"))])), (.tm (dTup [(dC (.str "s")), (dC .non)]))])))) (dRet (dC (.bl false))) dSkip)
def law_8 : AS → RS := (dIfS (dOr (dB (dOp neP [(.tm (dCall F_why_price [(dTup [(dC (.str "s")), (dC (.str "t"))]), (dTake 3), (dDisp [((dC (.str "s")), (dC (.int 2))), ((dC (.str "t")), (dC (.int 0)))]), (dC (.str "s"))])), (.tm (dLst [(dC (.str "a")), (dC (.str "b"))]))])) (dB (dOp neP [(.tm (dCall F_sale_lines [(dDisp [((dC (.str "a")), (dC (.str "t"))), ((dC (.str "b")), (dC (.str "s"))), ((dC (.str "c")), (dC .non))]), (dDisp [((dC (.str "s")), (dC (.int 2))), ((dC (.str "t")), (dC (.int 0)))])])), (.tm (dLst [(dC (.str "a: t at 0")), (dC (.str "b: s at 2")), (dC (.str "c: none"))]))]))) (dRet (dC (.bl false))) dSkip)
def law_9 : AS → RS := (dIfS (dOr (dNot (dB (dCall F_are_calm [(dTup [(dC (.str "s")), (dC (.str "t"))]), (dTake 3), (dDisp [((dC (.str "s")), (dC (.int 3))), ((dC (.str "t")), (dC (.int 1)))]), (dDisp [((dC (.str "a")), (dC (.str "t"))), ((dC (.str "b")), (dC (.str "s")))])]))) (dB (dCall F_are_calm [(dTup [(dC (.str "s")), (dC (.str "t"))]), (dTake 3), (dDisp [((dC (.str "s")), (dC (.int 3))), ((dC (.str "t")), (dC (.int 0)))]), (dDisp [((dC (.str "a")), (dC (.str "s"))), ((dC (.str "b")), (dC .non))])]))) (dRet (dC (.bl false))) dSkip)
def law_10 : AS → RS := (dPars [(8, (dOp dictP [(.tm (dLc (dPlain (.tm (dC (.str "abc")))) (.nm 10) dYes (dTup [(dTake 10), (dDisp [((dC (.str "s")), (dC (.int 7))), ((dC (.str "t")), (dC (.int 7)))])]) [10]))])), (9, (dOp dictP [(.tm (dLc (dPlain (.tm (dC (.str "abc")))) (.nm 10) dYes (dTup [(dTake 10), (dDisp [((dC (.str "s")), (dC (.int 7))), ((dC (.str "t")), (dC (.int 7))), ((dC (.str "u")), (dC (.int 7)))])]) [10]))]))])
def law_11 : AS → RS := (dIfS (dOr (dB (dOp neP [(.tm (dCall F_best_sale [(dTup [(dC (.str "s")), (dC (.str "t"))]), (dTake 8)])), (.tm (dTup [(dC (.int 14)), (dDisp [((dC (.str "a")), (dC (.str "s"))), ((dC (.str "b")), (dC (.str "t"))), ((dC (.str "c")), (dC .non))])]))])) (dOr (dB (dOp neP [(.tm (dCall F_least_prices [(dTup [(dC (.str "s")), (dC (.str "t"))]), (dTake 8)])), (.tm (dDisp [((dC (.str "s")), (dC (.int 7))), ((dC (.str "t")), (dC (.int 7)))]))])) (dOr (dB (dOp neP [(.tm (dCall F_most_prices [(dTup [(dC (.str "s")), (dC (.str "t"))]), (dTake 8)])), (.tm (dDisp [((dC (.str "s")), (dC (.int 7))), ((dC (.str "t")), (dC (.int 7)))]))])) (dB (dOp neP [(.tm (dCall F_least_prices [(dTup [(dC (.str "s")), (dC (.str "t")), (dC (.str "u"))]), (dTake 9)])), (.tm (dDisp [((dC (.str "s")), (dC (.int 0))), ((dC (.str "t")), (dC (.int 0))), ((dC (.str "u")), (dC (.int 0)))]))]))))) (dRet (dC (.bl false))) dSkip)
def law_12 : AS → RS := (dSet 4 (dDisp [((dC (.str "a")), dDct0), ((dC (.str "b")), dDct0)]))
def law_13 : AS → RS := (dIfS (dOr (dB (dOp neP [(.tm (dCall F_best_sale [(dTup [(dC (.str "s"))]), (dTake 4)])), (.tm (dTup [(dC (.int 0)), (dDisp [((dC (.str "a")), (dC (.str "s"))), ((dC (.str "b")), (dC .non))])]))])) (dOr (dB (dOp neP [(.tm (dCall F_least_prices [(dTup [(dC (.str "s"))]), (dTake 4)])), (.tm (dDisp [((dC (.str "s")), (dC (.int 0)))]))])) (dOr (dB (dOp neP [(.tm (dCall F_most_prices [(dTup [(dC (.str "s"))]), (dTake 4)])), (.tm (dDisp [((dC (.str "s")), (dC (.int 0)))]))])) (dB (dOp neP [(.tm (dCall F_liked_best [(dTup [(dC (.str "s"))]), (dTake 4), (dDisp [((dC (.str "s")), (dC (.int 0)))]), (dC (.str "a"))])), (.tm (dTup [(dC (.str "s")), (dC .non)]))]))))) (dRet (dC (.bl false))) dSkip)
def law_14 : AS → RS := (dSet 5 (dDisp [((dC (.str "a")), (dDisp [((dC (.str "s")), (dC (.int 10)))])), ((dC (.str "b")), (dDisp [((dC (.str "s")), (dC (.int 9))), ((dC (.str "t")), (dC (.int 8)))])), ((dC (.str "c")), (dDisp [((dC (.str "t")), (dC (.int 7))), ((dC (.str "u")), (dC (.int 6)))]))]))
def law_15 : AS → RS := (dIfS (dOr (dB (dOp neP [(.tm (dCall F_best_sale [(dTup [(dC (.str "s")), (dC (.str "t")), (dC (.str "u"))]), (dTake 5)])), (.tm (dTup [(dC (.int 24)), (dDisp [((dC (.str "a")), (dC (.str "s"))), ((dC (.str "b")), (dC (.str "t"))), ((dC (.str "c")), (dC (.str "u")))])]))])) (dB (dOp neP [(.tm (dCall F_least_prices [(dTup [(dC (.str "s")), (dC (.str "t")), (dC (.str "u"))]), (dTake 5)])), (.tm (dDisp [((dC (.str "s")), (dC (.int 2))), ((dC (.str "t")), (dC (.int 1))), ((dC (.str "u")), (dC (.int 0)))]))]))) (dRet (dC (.bl false))) dSkip)
def law_16 : AS → RS := (dRet (dOp eqP [(.tm (dCall F_gains [(dTup [(dC (.str "s")), (dC (.str "t")), (dC (.str "u"))]), (dTake 5), (dDisp [((dC (.str "s")), (dC (.int 2))), ((dC (.str "t")), (dC (.int 1))), ((dC (.str "u")), (dC (.int 0)))]), (dDisp [((dC (.str "a")), (dC (.str "s"))), ((dC (.str "b")), (dC (.str "t"))), ((dC (.str "c")), (dC (.str "u")))])])), (.tm (dDisp [((dC (.str "a")), (dC (.int 8))), ((dC (.str "b")), (dC (.int 7))), ((dC (.str "c")), (dC (.int 6)))]))]))
theorem d_law_eq : d_law = dSeq law_1 (dSeq law_2 (dSeq law_3 (dSeq law_4 (dSeq law_5 (dSeq law_6 (dSeq law_7 (dSeq law_8 (dSeq law_9 (dSeq law_10 (dSeq law_11 (dSeq law_12 (dSeq law_13 (dSeq law_14 (dSeq law_15 law_16)))))))))))))) := rfl
end Den.Lk58
set_option Elab.async false
set_option linter.all false
set_option maxRecDepth 100000
set_option maxHeartbeats 4000000
namespace Den.Lk58
open PySem L2 PyProof.Rows Den
def lawB : AS → RS := dSeq law_5 (dSeq law_6 (dSeq law_7 (dSeq law_8 (dSeq law_9 (dSeq law_10 (dSeq law_11 (dSeq law_12 (dSeq law_13 (dSeq law_14 (dSeq law_15 law_16))))))))))
def isRet : RS → Bool
  | .ret (.bl true) _ => true
  | _ => false
theorem isRet_of {r : RS} (h : isRet r = true) : ∃ S', r = .ret (.bl true) S' := by
  unfold isRet at h
  split at h
  · exact ⟨_, rfl⟩
  · cases h
theorem chkB (y a b : Slot) (p : PV) : isRet (lawB [.un, y, .val p, .un, .un, .un, a, b, .un, .un, .un]) = true := by kernel_rfl
def lawA : AS → RS := dSeq law_2 (dSeq law_3 law_4)
def isA : RS → Bool
  | .next [.un, _, .val _, .un, .un, .un, _, _, .un, .un, .un] => true
  | _ => false
theorem isA_of {r : RS} (h : isA r = true) : ∃ y p a b, r = .next [.un, y, .val p, .un, .un, .un, a, b, .un, .un, .un] := by
  unfold isA at h
  split at h
  · exact ⟨_, _, _, _, rfl⟩
  · cases h
def R0 (y : Slot) (h l : Int) : AS := [.un, y, .un, .un, .un, .un, .val (.int h), .val (.int l), .un, .un, .un]
def rowA (y : Slot) (h : Nat) : Bool := (List.range 10).all fun l => isA (lawA (R0 y (11 + (h : Int)) (1 + (l : Int))))
theorem chkA_0 (y : Slot) : rowA y 0 = true := by kernel_rfl
theorem chkA_1 (y : Slot) : rowA y 1 = true := by kernel_rfl
theorem chkA_2 (y : Slot) : rowA y 2 = true := by kernel_rfl
theorem chkA_3 (y : Slot) : rowA y 3 = true := by kernel_rfl
theorem chkA_4 (y : Slot) : rowA y 4 = true := by kernel_rfl
theorem chkA_5 (y : Slot) : rowA y 5 = true := by kernel_rfl
theorem chkA_6 (y : Slot) : rowA y 6 = true := by kernel_rfl
theorem chkA_7 (y : Slot) : rowA y 7 = true := by kernel_rfl
theorem chkA_8 (y : Slot) : rowA y 8 = true := by kernel_rfl
theorem chkA_9 (y : Slot) : rowA y 9 = true := by kernel_rfl
theorem chkA_10 (y : Slot) : rowA y 10 = true := by kernel_rfl
theorem chkA_11 (y : Slot) : rowA y 11 = true := by kernel_rfl
theorem chkA_12 (y : Slot) : rowA y 12 = true := by kernel_rfl
theorem chkA_13 (y : Slot) : rowA y 13 = true := by kernel_rfl
theorem chkA_14 (y : Slot) : rowA y 14 = true := by kernel_rfl
theorem chkA_15 (y : Slot) : rowA y 15 = true := by kernel_rfl
theorem chkA_16 (y : Slot) : rowA y 16 = true := by kernel_rfl
theorem chkA_17 (y : Slot) : rowA y 17 = true := by kernel_rfl
theorem chkA_18 (y : Slot) : rowA y 18 = true := by kernel_rfl
theorem chkA_19 (y : Slot) : rowA y 19 = true := by kernel_rfl
theorem chkA (y : Slot) : ∀ h : Nat, h < 20 → rowA y h = true
  | 0, _ => chkA_0 y
  | 1, _ => chkA_1 y
  | 2, _ => chkA_2 y
  | 3, _ => chkA_3 y
  | 4, _ => chkA_4 y
  | 5, _ => chkA_5 y
  | 6, _ => chkA_6 y
  | 7, _ => chkA_7 y
  | 8, _ => chkA_8 y
  | 9, _ => chkA_9 y
  | 10, _ => chkA_10 y
  | 11, _ => chkA_11 y
  | 12, _ => chkA_12 y
  | 13, _ => chkA_13 y
  | 14, _ => chkA_14 y
  | 15, _ => chkA_15 y
  | 16, _ => chkA_16 y
  | 17, _ => chkA_17 y
  | 18, _ => chkA_18 y
  | 19, _ => chkA_19 y
  | n + 20, h => absurd h (by omega)
theorem seq3 {a b c x : AS → RS} {S S4 : AS} (h : dSeq a (dSeq b c) S = .next S4) : dSeq a (dSeq b (dSeq c x)) S = x S4 := by
  unfold dSeq at h ⊢
  cases e1 : a S with
  | next S1 =>
    rw [e1] at h
    dsimp only at h ⊢
    cases e2 : b S1 with
    | next S2 =>
      rw [e2] at h
      dsimp only at h ⊢
      rw [h]
    | _ => rw [e2] at h; cases h
  | _ => rw [e1] at h; cases h
theorem seq1 {a x : AS → RS} {S S4 : AS} (h : a S = .next S4) : dSeq a x S = x S4 := by
  unfold dSeq
  rw [h]
theorem plain (ns : List Int) (h : ns.length ≤ 63) : ∃ S', d_law (lawS c_law.N.length 1 ns) = .ret (.bl true) S' := by
  obtain ⟨z, z0, z1, e1⟩ := next_is ns 0 20 (by decide) (by decide)
  obtain ⟨y, y0, y1, e2⟩ := next_is ns (0 + 1) 10 (by decide) (by decide)
  obtain ⟨z, rfl⟩ : ∃ z' : Nat, z = z' := ⟨z.toNat, by omega⟩
  obtain ⟨y, rfl⟩ : ∃ y' : Nat, y = y' := ⟨y.toNat, by omega⟩
  have h1 : law_1 [.un, .own false false (.lst [.lst (ns.map .int), .int 0, .int 0]), .un, .un, .un, .un, .un, .un, .un, .un, .un] = .next (R0 (.own false false (.lst [.lst (ns.map .int), .int 0, .int (0 + 1 + 1)])) (11 + (z : Int)) (1 + (y : Int))) := by
    simp only [wp_seq, sq_ap, wp_next, wp_ret, wp_brk, wp_ite, dSkip_ap, dBrk_ap, dRet_ap, ret1_ok, dExpr_ap, expr1_ok, dIfS_ap, ifs1_ok, dSet_ap, set1_ok, set2_some, dUnp_ap, unp1_ok, dOp_ap, op1_ok, op2_some, dC_ap, evs_nil, evs_tm, ev1_ok, ev2_ok, evs_nm, ev3_some, ev4_ok, ev5_some, evV_nil, evV_cons, ev1V_ok, dTup_ap, tup1_ok, dLst_ap, lst1_ok, dB_ap, b1_ok, b2_some, dAnd_ap, and1_ok, dOr_ap, or1_ok, dNot_ap, not1_ok, dYes_ap, dIf_ap, if1_ok, dAndV_ap, dOrV_ap, dNotV_ap, notV1_ok, dCall_ap, call1_ok, call2_some, dApp_ap, app1_true, app2_ok, appS, isLstS_own, dPlain_ap, pl1_ok, pl2_some, evI_tm, evi1_ok, evI_nm, evN_val, evN_own, dRng1_ap, dRng2_ap, dRng3_ap, rngK_ok, RV.asB_bl, pv_val, pv_fresh, peek_ap, pkS_val, pkS_own, putS, freeS_un, freeS_val, freeS_own, dTake_ap, softS, List.getElem?_cons_succ, List.getElem?_cons_zero, List.set_cons_succ, List.set_cons_zero, if_true, Bool.false_eq_true, if_false, Bool.not_true, Bool.not_false, decide_true, decide_false, Option.map_some, bindT_nm, bindT_tup, bindTs_nil, bindTs_cons, bindMore_some, List.length_cons, List.length_nil, addP_int, subP_int, negP_int, ltP_int, gtP_int, leP_int, geP_int, eqP_int, neP_int, eqP_bl, neP_bl, eqP_str, neP_str, ltP_str, items_lst, items_tup, items_dS, unlk_nil, dPars_nil, dPars_cons, pars1_ok, pars2_next, dAug_ap, aug1_some, aug2_ok, aug3_some, slI_val, RV.asI_int, law_1, dCallIO_ap, isOwn_own, io1_true, io2_ok, ioS_own, io3_some, e1, e2]
    rfl
  have hA := List.all_eq_true.mp (chkA (.own false false (.lst [.lst (ns.map .int), .int 0, .int (0 + 1 + 1)])) z (by omega)) y (List.mem_range.mpr (by omega))
  obtain ⟨y1, p, a, b, eA⟩ := isA_of hA
  rw [d_law_eq, show lawS c_law.N.length 1 ns = [.un, .own false false (.lst [.lst (ns.map .int), .int 0, .int 0]), .un, .un, .un, .un, .un, .un, .un, .un, .un] from rfl, seq1 h1, seq3 eA]
  exact isRet_of (chkB y1 a b p)
end Den.Lk58
set_option Elab.async false
set_option linter.all false
set_option maxRecDepth 100000
set_option maxHeartbeats 4000000
namespace Den.Lk58
open PySem L2 PyProof.Rows Den

structure Dfs (G : Wd) : Prop where
  d_is_whole : Df G "is_whole" s_is_whole
  d_is_from : Df G "is_from" s_is_from
  d_is_name : Df G "is_name" s_is_name
  d_ascends : Df G "ascends" s_ascends
  d_is_seats : Df G "is_seats" s_is_seats
  d_is_wish : Df G "is_wish" s_is_wish
  d_is_wishes : Df G "is_wishes" s_is_wishes
  d_check_wishes : Df G "check_wishes" s_check_wishes
  d_is_sale : Df G "is_sale" s_is_sale
  d_is_prices_of : Df G "is_prices_of" s_is_prices_of
  d_best_worth : Df G "best_worth" s_best_worth
  d_best_sale : Df G "best_sale" s_best_sale
  d_gain_of : Df G "gain_of" s_gain_of
  d_best_gain : Df G "best_gain" s_best_gain
  d_liked_best : Df G "liked_best" s_liked_best
  d_are_calm : Df G "are_calm" s_are_calm
  d_can_be_calm : Df G "can_be_calm" s_can_be_calm
  d_least_prices : Df G "least_prices" s_least_prices
  d_most_prices : Df G "most_prices" s_most_prices
  d_gains : Df G "gains" s_gains
  d_gain_by_telling : Df G "gain_by_telling" s_gain_by_telling
  d_why_price : Df G "why_price" s_why_price
  d_sale_lines : Df G "sale_lines" s_sale_lines
  d_lowered : Df G "lowered" s_lowered
  d_parts_of_seats : Df G "parts_of_seats" s_parts_of_seats
  d_is_least : Df G "is_least" s_is_least
  d__law_cell_at : Df G "_law_cell_at" s__law_cell_at
  d__law_draw : Df G "_law_draw" s__law_draw
  d__law_number : Df G "_law_number" s__law_number
  d__law_next : Df G "_law_next" s__law_next
  d_law : Df G "law" s_law

theorem f_is_whole {G : Wd} (T : Tp G) (D : Dfs G) : Fn G "is_whole" 2 1 F_is_whole := mkFn (ps := ["thing"]) D.d_is_whole (fun _ _ _ _ _ _ us hl => match us, hl with | [_], _ => rfl) (by decide +kernel) (ok_is_whole T )

theorem f_is_from {G : Wd} (T : Tp G) (D : Dfs G) : Fn G "is_from" 3 3 F_is_from := mkFn (ps := ["thing", "least", "most"]) D.d_is_from (fun _ _ _ _ _ _ us hl => match us, hl with | [_, _, _], _ => rfl) (by decide +kernel) (ok_is_from T (f_is_whole T D))

theorem f_is_name {G : Wd} (T : Tp G) (D : Dfs G) : Fn G "is_name" 2 1 F_is_name := mkFn (ps := ["thing"]) D.d_is_name (fun _ _ _ _ _ _ us hl => match us, hl with | [_], _ => rfl) (by decide +kernel) (ok_is_name T )

theorem f_ascends {G : Wd} (T : Tp G) (D : Dfs G) : Fn G "ascends" 2 1 F_ascends := mkFn (ps := ["things"]) D.d_ascends (fun _ _ _ _ _ _ us hl => match us, hl with | [_], _ => rfl) (by decide +kernel) (ok_ascends T )

theorem f_is_seats {G : Wd} (T : Tp G) (D : Dfs G) : Fn G "is_seats" 3 1 F_is_seats := mkFn (ps := ["thing"]) D.d_is_seats (fun _ _ _ _ _ _ us hl => match us, hl with | [_], _ => rfl) (by decide +kernel) (ok_is_seats T (f_ascends T D) (f_is_name T D))

theorem f_is_wish {G : Wd} (T : Tp G) (D : Dfs G) : Fn G "is_wish" 4 2 F_is_wish := mkFn (ps := ["seats", "thing"]) D.d_is_wish (fun _ _ _ _ _ _ us hl => match us, hl with | [_, _], _ => rfl) (by decide +kernel) (ok_is_wish T (f_is_from T D))

theorem f_is_wishes {G : Wd} (T : Tp G) (D : Dfs G) : Fn G "is_wishes" 5 2 F_is_wishes := mkFn (ps := ["seats", "thing"]) D.d_is_wishes (fun _ _ _ _ _ _ us hl => match us, hl with | [_, _], _ => rfl) (by decide +kernel) (ok_is_wishes T (f_is_name T D) (f_is_seats T D) (f_is_wish T D))

theorem f_check_wishes {G : Wd} (T : Tp G) (D : Dfs G) : Fn G "check_wishes" 6 2 F_check_wishes := mkFn (ps := ["seats", "wishes"]) D.d_check_wishes (fun _ _ _ _ _ _ us hl => match us, hl with | [_, _], _ => rfl) (by decide +kernel) (ok_check_wishes T (f_is_wishes T D))

theorem f_is_sale {G : Wd} (T : Tp G) (D : Dfs G) : Fn G "is_sale" 7 3 F_is_sale := mkFn (ps := ["seats", "wishes", "thing"]) D.d_is_sale (fun _ _ _ _ _ _ us hl => match us, hl with | [_, _, _], _ => rfl) (by decide +kernel) (ok_is_sale T (f_check_wishes T D))

theorem f_is_prices_of {G : Wd} (T : Tp G) (D : Dfs G) : Fn G "is_prices_of" 4 2 F_is_prices_of := mkFn (ps := ["seats", "thing"]) D.d_is_prices_of (fun _ _ _ _ _ _ us hl => match us, hl with | [_, _], _ => rfl) (by decide +kernel) (ok_is_prices_of T (f_is_from T D) (f_is_seats T D))

theorem f_best_worth {G : Wd} (T : Tp G) (D : Dfs G) : Fn G "best_worth" 2 2 F_best_worth := mkFn (ps := ["seats", "wishes"]) D.d_best_worth (fun _ _ _ _ _ _ us hl => match us, hl with | [_, _], _ => rfl) (by decide +kernel) (ok_best_worth T )

theorem f_best_sale {G : Wd} (T : Tp G) (D : Dfs G) : Fn G "best_sale" 7 2 F_best_sale := mkFn (ps := ["seats", "wishes"]) D.d_best_sale (fun _ _ _ _ _ _ us hl => match us, hl with | [_, _], _ => rfl) (by decide +kernel) (ok_best_sale T (f_best_worth T D) (f_check_wishes T D))

theorem f_gain_of {G : Wd} (T : Tp G) (D : Dfs G) : Fn G "gain_of" 2 4 F_gain_of := mkFn (ps := ["wishes", "prices", "person", "seat"]) D.d_gain_of (fun _ _ _ _ _ _ us hl => match us, hl with | [_, _, _, _], _ => rfl) (by decide +kernel) (ok_gain_of T )

theorem f_best_gain {G : Wd} (T : Tp G) (D : Dfs G) : Fn G "best_gain" 3 3 F_best_gain := mkFn (ps := ["wishes", "prices", "person"]) D.d_best_gain (fun _ _ _ _ _ _ us hl => match us, hl with | [_, _, _], _ => rfl) (by decide +kernel) (ok_best_gain T (f_gain_of T D))

theorem f_liked_best {G : Wd} (T : Tp G) (D : Dfs G) : Fn G "liked_best" 7 4 F_liked_best := mkFn (ps := ["seats", "wishes", "prices", "person"]) D.d_liked_best (fun _ _ _ _ _ _ us hl => match us, hl with | [_, _, _, _], _ => rfl) (by decide +kernel) (ok_liked_best T (f_best_gain T D) (f_check_wishes T D) (f_gain_of T D) (f_is_prices_of T D))

theorem f_are_calm {G : Wd} (T : Tp G) (D : Dfs G) : Fn G "are_calm" 8 4 F_are_calm := mkFn (ps := ["seats", "wishes", "prices", "sale"]) D.d_are_calm (fun _ _ _ _ _ _ us hl => match us, hl with | [_, _, _, _], _ => rfl) (by decide +kernel) (ok_are_calm T (f_best_gain T D) (f_check_wishes T D) (f_gain_of T D) (f_is_prices_of T D) (f_is_sale T D))

theorem f_can_be_calm {G : Wd} (T : Tp G) (D : Dfs G) : Fn G "can_be_calm" 9 3 F_can_be_calm := mkFn (ps := ["seats", "wishes", "prices"]) D.d_can_be_calm (fun _ _ _ _ _ _ us hl => match us, hl with | [_, _, _], _ => rfl) (by decide +kernel) (ok_can_be_calm T (f_are_calm T D) (f_best_sale T D) (f_check_wishes T D) (f_is_prices_of T D))

theorem f_least_prices {G : Wd} (T : Tp G) (D : Dfs G) : Fn G "least_prices" 7 2 F_least_prices := mkFn (ps := ["seats", "wishes"]) D.d_least_prices (fun _ _ _ _ _ _ us hl => match us, hl with | [_, _], _ => rfl) (by decide +kernel) (ok_least_prices T (f_best_worth T D) (f_check_wishes T D))

theorem f_most_prices {G : Wd} (T : Tp G) (D : Dfs G) : Fn G "most_prices" 7 2 F_most_prices := mkFn (ps := ["seats", "wishes"]) D.d_most_prices (fun _ _ _ _ _ _ us hl => match us, hl with | [_, _], _ => rfl) (by decide +kernel) (ok_most_prices T (f_best_worth T D) (f_check_wishes T D))

theorem f_gains {G : Wd} (T : Tp G) (D : Dfs G) : Fn G "gains" 9 4 F_gains := mkFn (ps := ["seats", "wishes", "prices", "sale"]) D.d_gains (fun _ _ _ _ _ _ us hl => match us, hl with | [_, _, _, _], _ => rfl) (by decide +kernel) (ok_gains T (f_are_calm T D) (f_gain_of T D))

theorem f_gain_by_telling {G : Wd} (T : Tp G) (D : Dfs G) : Fn G "gain_by_telling" 8 4 F_gain_by_telling := mkFn (ps := ["seats", "wishes", "person", "wish"]) D.d_gain_by_telling (fun _ _ _ _ _ _ us hl => match us, hl with | [_, _, _, _], _ => rfl) (by decide +kernel) (ok_gain_by_telling T (f_best_sale T D) (f_check_wishes T D) (f_is_wish T D) (f_least_prices T D))

theorem f_why_price {G : Wd} (T : Tp G) (D : Dfs G) : Fn G "why_price" 8 4 F_why_price := mkFn (ps := ["seats", "wishes", "prices", "seat"]) D.d_why_price (fun _ _ _ _ _ _ us hl => match us, hl with | [_, _, _, _], _ => rfl) (by decide +kernel) (ok_why_price T (f_check_wishes T D) (f_is_prices_of T D) (f_liked_best T D))

theorem f_sale_lines {G : Wd} (T : Tp G) (D : Dfs G) : Fn G "sale_lines" 2 2 F_sale_lines := mkFn (ps := ["sale", "prices"]) D.d_sale_lines (fun _ _ _ _ _ _ us hl => match us, hl with | [_, _], _ => rfl) (by decide +kernel) (ok_sale_lines T )

theorem f_lowered {G : Wd} (T : Tp G) (D : Dfs G) : Fn G "lowered" 2 2 F_lowered := mkFn (ps := ["prices", "some"]) D.d_lowered (fun _ _ _ _ _ _ us hl => match us, hl with | [_, _], _ => rfl) (by decide +kernel) (ok_lowered T )

theorem f_parts_of_seats {G : Wd} (T : Tp G) (D : Dfs G) : Fn G "parts_of_seats" 2 1 F_parts_of_seats := mkFn (ps := ["seats"]) D.d_parts_of_seats (fun _ _ _ _ _ _ us hl => match us, hl with | [_], _ => rfl) (by decide +kernel) (ok_parts_of_seats T )

theorem f_is_least {G : Wd} (T : Tp G) (D : Dfs G) : Fn G "is_least" 10 3 F_is_least := mkFn (ps := ["seats", "wishes", "prices"]) D.d_is_least (fun _ _ _ _ _ _ us hl => match us, hl with | [_, _, _], _ => rfl) (by decide +kernel) (ok_is_least T (f_can_be_calm T D) (f_lowered T D) (f_parts_of_seats T D))

theorem f__law_cell_at {G : Wd} (T : Tp G) (D : Dfs G) : Fn G "_law_cell_at" 2 2 F__law_cell_at := mkFn (ps := ["script", "k"]) D.d__law_cell_at (fun _ _ _ _ _ _ us hl => match us, hl with | [_, _], _ => rfl) (by decide +kernel) (ok__law_cell_at T )

theorem f__law_draw {G : Wd} (T : Tp G) (D : Dfs G) : Fn G "_law_draw" 2 3 F__law_draw := mkFn (ps := ["cell", "k", "bound"]) D.d__law_draw (fun _ _ _ _ _ _ us hl => match us, hl with | [_, _, _], _ => rfl) (by decide +kernel) (ok__law_draw T )

theorem f__law_number {G : Wd} (T : Tp G) (D : Dfs G) : Fn G "_law_number" 3 3 F__law_number := mkFn (ps := ["cell", "k", "bound"]) D.d__law_number (fun _ _ _ _ _ _ us hl => match us, hl with | [_, _, _], _ => rfl) (by decide +kernel) (ok__law_number T (f__law_draw T D))

theorem f__law_next {G : Wd} (T : Tp G) (D : Dfs G) : FnIO G "_law_next" 4 2 F__law_next := mkFnIO (ps := ["draw", "bound"]) D.d__law_next (fun _ _ _ _ _ _ us hl => match us, hl with | [_, _], _ => rfl) (by decide +kernel) (ok__law_next T (f__law_cell_at T D) (f__law_number T D))

theorem law_ok {G : Wd} (T : Tp G) (D : Dfs G) {f : Addr} {fd : FuncData} (F : Fun G.K "law" "law" s_law f fd) : FnOk G.P G.w G.K G.mg G.base CX0 11 f fd ["script"] (spLaw G.K) :=
  fn_law (N := c_law.N) (i := 1) F (by decide +kernel) rfl rfl rfl (by decide) (by decide +kernel) (by decide +kernel) (ok_law T (f__law_next T D) (f_are_calm T D) (f_best_sale T D) (f_can_be_calm T D) (f_gain_by_telling T D) (f_gains T D) (f_is_least T D) (f_least_prices T D) (f_liked_best T D) (f_most_prices T D) (f_sale_lines T D) (f_why_price T D)) plain

theorem all_mk {l : PySem.W.OpenLaw} {w : World} {K : PySem.W.Frag} {h : Heap} {mg : Str → Option Value} {fa : Addr} (X : K.In h) (G : h.Ns mainGlobals mg) (hfa : mg "law" = some (.ref fa))
    {f_is_whole : Addr} {oc_is_whole kV_is_whole dc_is_whole pm_is_whole cd_is_whole ct_is_whole : Value} {od_is_whole an_is_whole : Option Addr} {sl_is_whole : Array (Option Value)}
    (a_is_whole : PySem.W.nsIn K mainGlobals "is_whole" = some (some (.ref f_is_whole))) (l_is_whole : K.lookup f_is_whole = some ⟨oc_is_whole, od_is_whole, .func (PySem.W.fnOf "is_whole" "is_whole" (defArgs s_is_whole) (defBody s_is_whole) (defScope s_is_whole) .none kV_is_whole dc_is_whole pm_is_whole an_is_whole cd_is_whole ct_is_whole), sl_is_whole⟩) (c_is_whole : PySem.W.codeIn K cd_is_whole "is_whole" = true) (k_is_whole : PySem.W.keepIn K (.ref f_is_whole) = true)
    {f_is_from : Addr} {oc_is_from kV_is_from dc_is_from pm_is_from cd_is_from ct_is_from : Value} {od_is_from an_is_from : Option Addr} {sl_is_from : Array (Option Value)}
    (a_is_from : PySem.W.nsIn K mainGlobals "is_from" = some (some (.ref f_is_from))) (l_is_from : K.lookup f_is_from = some ⟨oc_is_from, od_is_from, .func (PySem.W.fnOf "is_from" "is_from" (defArgs s_is_from) (defBody s_is_from) (defScope s_is_from) .none kV_is_from dc_is_from pm_is_from an_is_from cd_is_from ct_is_from), sl_is_from⟩) (c_is_from : PySem.W.codeIn K cd_is_from "is_from" = true) (k_is_from : PySem.W.keepIn K (.ref f_is_from) = true)
    {f_is_name : Addr} {oc_is_name kV_is_name dc_is_name pm_is_name cd_is_name ct_is_name : Value} {od_is_name an_is_name : Option Addr} {sl_is_name : Array (Option Value)}
    (a_is_name : PySem.W.nsIn K mainGlobals "is_name" = some (some (.ref f_is_name))) (l_is_name : K.lookup f_is_name = some ⟨oc_is_name, od_is_name, .func (PySem.W.fnOf "is_name" "is_name" (defArgs s_is_name) (defBody s_is_name) (defScope s_is_name) .none kV_is_name dc_is_name pm_is_name an_is_name cd_is_name ct_is_name), sl_is_name⟩) (c_is_name : PySem.W.codeIn K cd_is_name "is_name" = true) (k_is_name : PySem.W.keepIn K (.ref f_is_name) = true)
    {f_ascends : Addr} {oc_ascends kV_ascends dc_ascends pm_ascends cd_ascends ct_ascends : Value} {od_ascends an_ascends : Option Addr} {sl_ascends : Array (Option Value)}
    (a_ascends : PySem.W.nsIn K mainGlobals "ascends" = some (some (.ref f_ascends))) (l_ascends : K.lookup f_ascends = some ⟨oc_ascends, od_ascends, .func (PySem.W.fnOf "ascends" "ascends" (defArgs s_ascends) (defBody s_ascends) (defScope s_ascends) .none kV_ascends dc_ascends pm_ascends an_ascends cd_ascends ct_ascends), sl_ascends⟩) (c_ascends : PySem.W.codeIn K cd_ascends "ascends" = true) (k_ascends : PySem.W.keepIn K (.ref f_ascends) = true)
    {f_is_seats : Addr} {oc_is_seats kV_is_seats dc_is_seats pm_is_seats cd_is_seats ct_is_seats : Value} {od_is_seats an_is_seats : Option Addr} {sl_is_seats : Array (Option Value)}
    (a_is_seats : PySem.W.nsIn K mainGlobals "is_seats" = some (some (.ref f_is_seats))) (l_is_seats : K.lookup f_is_seats = some ⟨oc_is_seats, od_is_seats, .func (PySem.W.fnOf "is_seats" "is_seats" (defArgs s_is_seats) (defBody s_is_seats) (defScope s_is_seats) .none kV_is_seats dc_is_seats pm_is_seats an_is_seats cd_is_seats ct_is_seats), sl_is_seats⟩) (c_is_seats : PySem.W.codeIn K cd_is_seats "is_seats" = true) (k_is_seats : PySem.W.keepIn K (.ref f_is_seats) = true)
    {f_is_wish : Addr} {oc_is_wish kV_is_wish dc_is_wish pm_is_wish cd_is_wish ct_is_wish : Value} {od_is_wish an_is_wish : Option Addr} {sl_is_wish : Array (Option Value)}
    (a_is_wish : PySem.W.nsIn K mainGlobals "is_wish" = some (some (.ref f_is_wish))) (l_is_wish : K.lookup f_is_wish = some ⟨oc_is_wish, od_is_wish, .func (PySem.W.fnOf "is_wish" "is_wish" (defArgs s_is_wish) (defBody s_is_wish) (defScope s_is_wish) .none kV_is_wish dc_is_wish pm_is_wish an_is_wish cd_is_wish ct_is_wish), sl_is_wish⟩) (c_is_wish : PySem.W.codeIn K cd_is_wish "is_wish" = true) (k_is_wish : PySem.W.keepIn K (.ref f_is_wish) = true)
    {f_is_wishes : Addr} {oc_is_wishes kV_is_wishes dc_is_wishes pm_is_wishes cd_is_wishes ct_is_wishes : Value} {od_is_wishes an_is_wishes : Option Addr} {sl_is_wishes : Array (Option Value)}
    (a_is_wishes : PySem.W.nsIn K mainGlobals "is_wishes" = some (some (.ref f_is_wishes))) (l_is_wishes : K.lookup f_is_wishes = some ⟨oc_is_wishes, od_is_wishes, .func (PySem.W.fnOf "is_wishes" "is_wishes" (defArgs s_is_wishes) (defBody s_is_wishes) (defScope s_is_wishes) .none kV_is_wishes dc_is_wishes pm_is_wishes an_is_wishes cd_is_wishes ct_is_wishes), sl_is_wishes⟩) (c_is_wishes : PySem.W.codeIn K cd_is_wishes "is_wishes" = true) (k_is_wishes : PySem.W.keepIn K (.ref f_is_wishes) = true)
    {f_check_wishes : Addr} {oc_check_wishes kV_check_wishes dc_check_wishes pm_check_wishes cd_check_wishes ct_check_wishes : Value} {od_check_wishes an_check_wishes : Option Addr} {sl_check_wishes : Array (Option Value)}
    (a_check_wishes : PySem.W.nsIn K mainGlobals "check_wishes" = some (some (.ref f_check_wishes))) (l_check_wishes : K.lookup f_check_wishes = some ⟨oc_check_wishes, od_check_wishes, .func (PySem.W.fnOf "check_wishes" "check_wishes" (defArgs s_check_wishes) (defBody s_check_wishes) (defScope s_check_wishes) .none kV_check_wishes dc_check_wishes pm_check_wishes an_check_wishes cd_check_wishes ct_check_wishes), sl_check_wishes⟩) (c_check_wishes : PySem.W.codeIn K cd_check_wishes "check_wishes" = true) (k_check_wishes : PySem.W.keepIn K (.ref f_check_wishes) = true)
    {f_is_sale : Addr} {oc_is_sale kV_is_sale dc_is_sale pm_is_sale cd_is_sale ct_is_sale : Value} {od_is_sale an_is_sale : Option Addr} {sl_is_sale : Array (Option Value)}
    (a_is_sale : PySem.W.nsIn K mainGlobals "is_sale" = some (some (.ref f_is_sale))) (l_is_sale : K.lookup f_is_sale = some ⟨oc_is_sale, od_is_sale, .func (PySem.W.fnOf "is_sale" "is_sale" (defArgs s_is_sale) (defBody s_is_sale) (defScope s_is_sale) .none kV_is_sale dc_is_sale pm_is_sale an_is_sale cd_is_sale ct_is_sale), sl_is_sale⟩) (c_is_sale : PySem.W.codeIn K cd_is_sale "is_sale" = true) (k_is_sale : PySem.W.keepIn K (.ref f_is_sale) = true)
    {f_is_prices_of : Addr} {oc_is_prices_of kV_is_prices_of dc_is_prices_of pm_is_prices_of cd_is_prices_of ct_is_prices_of : Value} {od_is_prices_of an_is_prices_of : Option Addr} {sl_is_prices_of : Array (Option Value)}
    (a_is_prices_of : PySem.W.nsIn K mainGlobals "is_prices_of" = some (some (.ref f_is_prices_of))) (l_is_prices_of : K.lookup f_is_prices_of = some ⟨oc_is_prices_of, od_is_prices_of, .func (PySem.W.fnOf "is_prices_of" "is_prices_of" (defArgs s_is_prices_of) (defBody s_is_prices_of) (defScope s_is_prices_of) .none kV_is_prices_of dc_is_prices_of pm_is_prices_of an_is_prices_of cd_is_prices_of ct_is_prices_of), sl_is_prices_of⟩) (c_is_prices_of : PySem.W.codeIn K cd_is_prices_of "is_prices_of" = true) (k_is_prices_of : PySem.W.keepIn K (.ref f_is_prices_of) = true)
    {f_best_worth : Addr} {oc_best_worth kV_best_worth dc_best_worth pm_best_worth cd_best_worth ct_best_worth : Value} {od_best_worth an_best_worth : Option Addr} {sl_best_worth : Array (Option Value)}
    (a_best_worth : PySem.W.nsIn K mainGlobals "best_worth" = some (some (.ref f_best_worth))) (l_best_worth : K.lookup f_best_worth = some ⟨oc_best_worth, od_best_worth, .func (PySem.W.fnOf "best_worth" "best_worth" (defArgs s_best_worth) (defBody s_best_worth) (defScope s_best_worth) .none kV_best_worth dc_best_worth pm_best_worth an_best_worth cd_best_worth ct_best_worth), sl_best_worth⟩) (c_best_worth : PySem.W.codeIn K cd_best_worth "best_worth" = true) (k_best_worth : PySem.W.keepIn K (.ref f_best_worth) = true)
    {f_best_sale : Addr} {oc_best_sale kV_best_sale dc_best_sale pm_best_sale cd_best_sale ct_best_sale : Value} {od_best_sale an_best_sale : Option Addr} {sl_best_sale : Array (Option Value)}
    (a_best_sale : PySem.W.nsIn K mainGlobals "best_sale" = some (some (.ref f_best_sale))) (l_best_sale : K.lookup f_best_sale = some ⟨oc_best_sale, od_best_sale, .func (PySem.W.fnOf "best_sale" "best_sale" (defArgs s_best_sale) (defBody s_best_sale) (defScope s_best_sale) .none kV_best_sale dc_best_sale pm_best_sale an_best_sale cd_best_sale ct_best_sale), sl_best_sale⟩) (c_best_sale : PySem.W.codeIn K cd_best_sale "best_sale" = true) (k_best_sale : PySem.W.keepIn K (.ref f_best_sale) = true)
    {f_gain_of : Addr} {oc_gain_of kV_gain_of dc_gain_of pm_gain_of cd_gain_of ct_gain_of : Value} {od_gain_of an_gain_of : Option Addr} {sl_gain_of : Array (Option Value)}
    (a_gain_of : PySem.W.nsIn K mainGlobals "gain_of" = some (some (.ref f_gain_of))) (l_gain_of : K.lookup f_gain_of = some ⟨oc_gain_of, od_gain_of, .func (PySem.W.fnOf "gain_of" "gain_of" (defArgs s_gain_of) (defBody s_gain_of) (defScope s_gain_of) .none kV_gain_of dc_gain_of pm_gain_of an_gain_of cd_gain_of ct_gain_of), sl_gain_of⟩) (c_gain_of : PySem.W.codeIn K cd_gain_of "gain_of" = true) (k_gain_of : PySem.W.keepIn K (.ref f_gain_of) = true)
    {f_best_gain : Addr} {oc_best_gain kV_best_gain dc_best_gain pm_best_gain cd_best_gain ct_best_gain : Value} {od_best_gain an_best_gain : Option Addr} {sl_best_gain : Array (Option Value)}
    (a_best_gain : PySem.W.nsIn K mainGlobals "best_gain" = some (some (.ref f_best_gain))) (l_best_gain : K.lookup f_best_gain = some ⟨oc_best_gain, od_best_gain, .func (PySem.W.fnOf "best_gain" "best_gain" (defArgs s_best_gain) (defBody s_best_gain) (defScope s_best_gain) .none kV_best_gain dc_best_gain pm_best_gain an_best_gain cd_best_gain ct_best_gain), sl_best_gain⟩) (c_best_gain : PySem.W.codeIn K cd_best_gain "best_gain" = true) (k_best_gain : PySem.W.keepIn K (.ref f_best_gain) = true)
    {f_liked_best : Addr} {oc_liked_best kV_liked_best dc_liked_best pm_liked_best cd_liked_best ct_liked_best : Value} {od_liked_best an_liked_best : Option Addr} {sl_liked_best : Array (Option Value)}
    (a_liked_best : PySem.W.nsIn K mainGlobals "liked_best" = some (some (.ref f_liked_best))) (l_liked_best : K.lookup f_liked_best = some ⟨oc_liked_best, od_liked_best, .func (PySem.W.fnOf "liked_best" "liked_best" (defArgs s_liked_best) (defBody s_liked_best) (defScope s_liked_best) .none kV_liked_best dc_liked_best pm_liked_best an_liked_best cd_liked_best ct_liked_best), sl_liked_best⟩) (c_liked_best : PySem.W.codeIn K cd_liked_best "liked_best" = true) (k_liked_best : PySem.W.keepIn K (.ref f_liked_best) = true)
    {f_are_calm : Addr} {oc_are_calm kV_are_calm dc_are_calm pm_are_calm cd_are_calm ct_are_calm : Value} {od_are_calm an_are_calm : Option Addr} {sl_are_calm : Array (Option Value)}
    (a_are_calm : PySem.W.nsIn K mainGlobals "are_calm" = some (some (.ref f_are_calm))) (l_are_calm : K.lookup f_are_calm = some ⟨oc_are_calm, od_are_calm, .func (PySem.W.fnOf "are_calm" "are_calm" (defArgs s_are_calm) (defBody s_are_calm) (defScope s_are_calm) .none kV_are_calm dc_are_calm pm_are_calm an_are_calm cd_are_calm ct_are_calm), sl_are_calm⟩) (c_are_calm : PySem.W.codeIn K cd_are_calm "are_calm" = true) (k_are_calm : PySem.W.keepIn K (.ref f_are_calm) = true)
    {f_can_be_calm : Addr} {oc_can_be_calm kV_can_be_calm dc_can_be_calm pm_can_be_calm cd_can_be_calm ct_can_be_calm : Value} {od_can_be_calm an_can_be_calm : Option Addr} {sl_can_be_calm : Array (Option Value)}
    (a_can_be_calm : PySem.W.nsIn K mainGlobals "can_be_calm" = some (some (.ref f_can_be_calm))) (l_can_be_calm : K.lookup f_can_be_calm = some ⟨oc_can_be_calm, od_can_be_calm, .func (PySem.W.fnOf "can_be_calm" "can_be_calm" (defArgs s_can_be_calm) (defBody s_can_be_calm) (defScope s_can_be_calm) .none kV_can_be_calm dc_can_be_calm pm_can_be_calm an_can_be_calm cd_can_be_calm ct_can_be_calm), sl_can_be_calm⟩) (c_can_be_calm : PySem.W.codeIn K cd_can_be_calm "can_be_calm" = true) (k_can_be_calm : PySem.W.keepIn K (.ref f_can_be_calm) = true)
    {f_least_prices : Addr} {oc_least_prices kV_least_prices dc_least_prices pm_least_prices cd_least_prices ct_least_prices : Value} {od_least_prices an_least_prices : Option Addr} {sl_least_prices : Array (Option Value)}
    (a_least_prices : PySem.W.nsIn K mainGlobals "least_prices" = some (some (.ref f_least_prices))) (l_least_prices : K.lookup f_least_prices = some ⟨oc_least_prices, od_least_prices, .func (PySem.W.fnOf "least_prices" "least_prices" (defArgs s_least_prices) (defBody s_least_prices) (defScope s_least_prices) .none kV_least_prices dc_least_prices pm_least_prices an_least_prices cd_least_prices ct_least_prices), sl_least_prices⟩) (c_least_prices : PySem.W.codeIn K cd_least_prices "least_prices" = true) (k_least_prices : PySem.W.keepIn K (.ref f_least_prices) = true)
    {f_most_prices : Addr} {oc_most_prices kV_most_prices dc_most_prices pm_most_prices cd_most_prices ct_most_prices : Value} {od_most_prices an_most_prices : Option Addr} {sl_most_prices : Array (Option Value)}
    (a_most_prices : PySem.W.nsIn K mainGlobals "most_prices" = some (some (.ref f_most_prices))) (l_most_prices : K.lookup f_most_prices = some ⟨oc_most_prices, od_most_prices, .func (PySem.W.fnOf "most_prices" "most_prices" (defArgs s_most_prices) (defBody s_most_prices) (defScope s_most_prices) .none kV_most_prices dc_most_prices pm_most_prices an_most_prices cd_most_prices ct_most_prices), sl_most_prices⟩) (c_most_prices : PySem.W.codeIn K cd_most_prices "most_prices" = true) (k_most_prices : PySem.W.keepIn K (.ref f_most_prices) = true)
    {f_gains : Addr} {oc_gains kV_gains dc_gains pm_gains cd_gains ct_gains : Value} {od_gains an_gains : Option Addr} {sl_gains : Array (Option Value)}
    (a_gains : PySem.W.nsIn K mainGlobals "gains" = some (some (.ref f_gains))) (l_gains : K.lookup f_gains = some ⟨oc_gains, od_gains, .func (PySem.W.fnOf "gains" "gains" (defArgs s_gains) (defBody s_gains) (defScope s_gains) .none kV_gains dc_gains pm_gains an_gains cd_gains ct_gains), sl_gains⟩) (c_gains : PySem.W.codeIn K cd_gains "gains" = true) (k_gains : PySem.W.keepIn K (.ref f_gains) = true)
    {f_gain_by_telling : Addr} {oc_gain_by_telling kV_gain_by_telling dc_gain_by_telling pm_gain_by_telling cd_gain_by_telling ct_gain_by_telling : Value} {od_gain_by_telling an_gain_by_telling : Option Addr} {sl_gain_by_telling : Array (Option Value)}
    (a_gain_by_telling : PySem.W.nsIn K mainGlobals "gain_by_telling" = some (some (.ref f_gain_by_telling))) (l_gain_by_telling : K.lookup f_gain_by_telling = some ⟨oc_gain_by_telling, od_gain_by_telling, .func (PySem.W.fnOf "gain_by_telling" "gain_by_telling" (defArgs s_gain_by_telling) (defBody s_gain_by_telling) (defScope s_gain_by_telling) .none kV_gain_by_telling dc_gain_by_telling pm_gain_by_telling an_gain_by_telling cd_gain_by_telling ct_gain_by_telling), sl_gain_by_telling⟩) (c_gain_by_telling : PySem.W.codeIn K cd_gain_by_telling "gain_by_telling" = true) (k_gain_by_telling : PySem.W.keepIn K (.ref f_gain_by_telling) = true)
    {f_why_price : Addr} {oc_why_price kV_why_price dc_why_price pm_why_price cd_why_price ct_why_price : Value} {od_why_price an_why_price : Option Addr} {sl_why_price : Array (Option Value)}
    (a_why_price : PySem.W.nsIn K mainGlobals "why_price" = some (some (.ref f_why_price))) (l_why_price : K.lookup f_why_price = some ⟨oc_why_price, od_why_price, .func (PySem.W.fnOf "why_price" "why_price" (defArgs s_why_price) (defBody s_why_price) (defScope s_why_price) .none kV_why_price dc_why_price pm_why_price an_why_price cd_why_price ct_why_price), sl_why_price⟩) (c_why_price : PySem.W.codeIn K cd_why_price "why_price" = true) (k_why_price : PySem.W.keepIn K (.ref f_why_price) = true)
    {f_sale_lines : Addr} {oc_sale_lines kV_sale_lines dc_sale_lines pm_sale_lines cd_sale_lines ct_sale_lines : Value} {od_sale_lines an_sale_lines : Option Addr} {sl_sale_lines : Array (Option Value)}
    (a_sale_lines : PySem.W.nsIn K mainGlobals "sale_lines" = some (some (.ref f_sale_lines))) (l_sale_lines : K.lookup f_sale_lines = some ⟨oc_sale_lines, od_sale_lines, .func (PySem.W.fnOf "sale_lines" "sale_lines" (defArgs s_sale_lines) (defBody s_sale_lines) (defScope s_sale_lines) .none kV_sale_lines dc_sale_lines pm_sale_lines an_sale_lines cd_sale_lines ct_sale_lines), sl_sale_lines⟩) (c_sale_lines : PySem.W.codeIn K cd_sale_lines "sale_lines" = true) (k_sale_lines : PySem.W.keepIn K (.ref f_sale_lines) = true)
    {f_lowered : Addr} {oc_lowered kV_lowered dc_lowered pm_lowered cd_lowered ct_lowered : Value} {od_lowered an_lowered : Option Addr} {sl_lowered : Array (Option Value)}
    (a_lowered : PySem.W.nsIn K mainGlobals "lowered" = some (some (.ref f_lowered))) (l_lowered : K.lookup f_lowered = some ⟨oc_lowered, od_lowered, .func (PySem.W.fnOf "lowered" "lowered" (defArgs s_lowered) (defBody s_lowered) (defScope s_lowered) .none kV_lowered dc_lowered pm_lowered an_lowered cd_lowered ct_lowered), sl_lowered⟩) (c_lowered : PySem.W.codeIn K cd_lowered "lowered" = true) (k_lowered : PySem.W.keepIn K (.ref f_lowered) = true)
    {f_parts_of_seats : Addr} {oc_parts_of_seats kV_parts_of_seats dc_parts_of_seats pm_parts_of_seats cd_parts_of_seats ct_parts_of_seats : Value} {od_parts_of_seats an_parts_of_seats : Option Addr} {sl_parts_of_seats : Array (Option Value)}
    (a_parts_of_seats : PySem.W.nsIn K mainGlobals "parts_of_seats" = some (some (.ref f_parts_of_seats))) (l_parts_of_seats : K.lookup f_parts_of_seats = some ⟨oc_parts_of_seats, od_parts_of_seats, .func (PySem.W.fnOf "parts_of_seats" "parts_of_seats" (defArgs s_parts_of_seats) (defBody s_parts_of_seats) (defScope s_parts_of_seats) .none kV_parts_of_seats dc_parts_of_seats pm_parts_of_seats an_parts_of_seats cd_parts_of_seats ct_parts_of_seats), sl_parts_of_seats⟩) (c_parts_of_seats : PySem.W.codeIn K cd_parts_of_seats "parts_of_seats" = true) (k_parts_of_seats : PySem.W.keepIn K (.ref f_parts_of_seats) = true)
    {f_is_least : Addr} {oc_is_least kV_is_least dc_is_least pm_is_least cd_is_least ct_is_least : Value} {od_is_least an_is_least : Option Addr} {sl_is_least : Array (Option Value)}
    (a_is_least : PySem.W.nsIn K mainGlobals "is_least" = some (some (.ref f_is_least))) (l_is_least : K.lookup f_is_least = some ⟨oc_is_least, od_is_least, .func (PySem.W.fnOf "is_least" "is_least" (defArgs s_is_least) (defBody s_is_least) (defScope s_is_least) .none kV_is_least dc_is_least pm_is_least an_is_least cd_is_least ct_is_least), sl_is_least⟩) (c_is_least : PySem.W.codeIn K cd_is_least "is_least" = true) (k_is_least : PySem.W.keepIn K (.ref f_is_least) = true)
    {f__law_cell_at : Addr} {oc__law_cell_at kV__law_cell_at dc__law_cell_at pm__law_cell_at cd__law_cell_at ct__law_cell_at : Value} {od__law_cell_at an__law_cell_at : Option Addr} {sl__law_cell_at : Array (Option Value)}
    (a__law_cell_at : PySem.W.nsIn K mainGlobals "_law_cell_at" = some (some (.ref f__law_cell_at))) (l__law_cell_at : K.lookup f__law_cell_at = some ⟨oc__law_cell_at, od__law_cell_at, .func (PySem.W.fnOf "_law_cell_at" "_law_cell_at" (defArgs s__law_cell_at) (defBody s__law_cell_at) (defScope s__law_cell_at) .none kV__law_cell_at dc__law_cell_at pm__law_cell_at an__law_cell_at cd__law_cell_at ct__law_cell_at), sl__law_cell_at⟩) (c__law_cell_at : PySem.W.codeIn K cd__law_cell_at "_law_cell_at" = true) (k__law_cell_at : PySem.W.keepIn K (.ref f__law_cell_at) = true)
    {f__law_draw : Addr} {oc__law_draw kV__law_draw dc__law_draw pm__law_draw cd__law_draw ct__law_draw : Value} {od__law_draw an__law_draw : Option Addr} {sl__law_draw : Array (Option Value)}
    (a__law_draw : PySem.W.nsIn K mainGlobals "_law_draw" = some (some (.ref f__law_draw))) (l__law_draw : K.lookup f__law_draw = some ⟨oc__law_draw, od__law_draw, .func (PySem.W.fnOf "_law_draw" "_law_draw" (defArgs s__law_draw) (defBody s__law_draw) (defScope s__law_draw) .none kV__law_draw dc__law_draw pm__law_draw an__law_draw cd__law_draw ct__law_draw), sl__law_draw⟩) (c__law_draw : PySem.W.codeIn K cd__law_draw "_law_draw" = true) (k__law_draw : PySem.W.keepIn K (.ref f__law_draw) = true)
    {f__law_number : Addr} {oc__law_number kV__law_number dc__law_number pm__law_number cd__law_number ct__law_number : Value} {od__law_number an__law_number : Option Addr} {sl__law_number : Array (Option Value)}
    (a__law_number : PySem.W.nsIn K mainGlobals "_law_number" = some (some (.ref f__law_number))) (l__law_number : K.lookup f__law_number = some ⟨oc__law_number, od__law_number, .func (PySem.W.fnOf "_law_number" "_law_number" (defArgs s__law_number) (defBody s__law_number) (defScope s__law_number) .none kV__law_number dc__law_number pm__law_number an__law_number cd__law_number ct__law_number), sl__law_number⟩) (c__law_number : PySem.W.codeIn K cd__law_number "_law_number" = true) (k__law_number : PySem.W.keepIn K (.ref f__law_number) = true)
    {f__law_next : Addr} {oc__law_next kV__law_next dc__law_next pm__law_next cd__law_next ct__law_next : Value} {od__law_next an__law_next : Option Addr} {sl__law_next : Array (Option Value)}
    (a__law_next : PySem.W.nsIn K mainGlobals "_law_next" = some (some (.ref f__law_next))) (l__law_next : K.lookup f__law_next = some ⟨oc__law_next, od__law_next, .func (PySem.W.fnOf "_law_next" "_law_next" (defArgs s__law_next) (defBody s__law_next) (defScope s__law_next) .none kV__law_next dc__law_next pm__law_next an__law_next cd__law_next ct__law_next), sl__law_next⟩) (c__law_next : PySem.W.codeIn K cd__law_next "_law_next" = true) (k__law_next : PySem.W.keepIn K (.ref f__law_next) = true)
    (m_all : PySem.W.nsIn K mainGlobals "all" = some none)
    (m_any : PySem.W.nsIn K mainGlobals "any" = some none)
    (m_bool : PySem.W.nsIn K mainGlobals "bool" = some none)
    (m_dict : PySem.W.nsIn K mainGlobals "dict" = some none)
    (m_enumerate : PySem.W.nsIn K mainGlobals "enumerate" = some none)
    (m_int : PySem.W.nsIn K mainGlobals "int" = some none)
    (m_isinstance : PySem.W.nsIn K mainGlobals "isinstance" = some none)
    (m_len : PySem.W.nsIn K mainGlobals "len" = some none)
    (m_max : PySem.W.nsIn K mainGlobals "max" = some none)
    (m_range : PySem.W.nsIn K mainGlobals "range" = some none)
    (m_set : PySem.W.nsIn K mainGlobals "set" = some none)
    (m_sorted : PySem.W.nsIn K mainGlobals "sorted" = some none)
    (m_str : PySem.W.nsIn K mainGlobals "str" = some none)
    (m_tuple : PySem.W.nsIn K mainGlobals "tuple" = some none)
    (m_zip : PySem.W.nsIn K mainGlobals "zip" = some none)
    {t_FIGURES : Tok} (g_FIGURES : PySem.W.nsIn K mainGlobals "FIGURES" = some (some (.str "0123456789" t_FIGURES)))
    {p_KEPT : Addr} {po_KEPT : Option Addr} {pi_KEPT : Array Value} {pn_KEPT : Nat} {ps_KEPT : Array (Option Value)} (g_KEPT : PySem.W.nsIn K mainGlobals "KEPT" = some (some (.ref p_KEPT))) (q_KEPT : K.lookup p_KEPT = some ⟨.type "tuple", po_KEPT, .seq pi_KEPT pn_KEPT, ps_KEPT⟩) (z_KEPT : pi_KEPT.size ≤ sizeLine) (v_KEPT : Vals ((["at", "by", "from", "need", "of", "on", "to", "with"] : List Str).map V.str) pi_KEPT.toList)
    {t_LETTERS : Tok} (g_LETTERS : PySem.W.nsIn K mainGlobals "LETTERS" = some (some (.str "abcdefghijklmnopqrstuvwxyz" t_LETTERS)))
    {t_MOST_NAME : Tok} (g_MOST_NAME : PySem.W.nsIn K mainGlobals "MOST_NAME" = some (some (.int 8 t_MOST_NAME)))
    {t_MOST_SEATS : Tok} (g_MOST_SEATS : PySem.W.nsIn K mainGlobals "MOST_SEATS" = some (some (.int 6 t_MOST_SEATS)))
    {t_MOST_WORTH : Tok} (g_MOST_WORTH : PySem.W.nsIn K mainGlobals "MOST_WORTH" = some (some (.int 30 t_MOST_WORTH)))
    {f_law : Addr} {oc_law kV_law dc_law pm_law cd_law ct_law : Value} {od_law an_law : Option Addr} {sl_law : Array (Option Value)}
    (a_law : PySem.W.nsIn K mainGlobals "law" = some (some (.ref f_law))) (l_law : K.lookup f_law = some ⟨oc_law, od_law, .func (PySem.W.fnOf "law" "law" (defArgs s_law) (defBody s_law) (defScope s_law) .none kV_law dc_law pm_law an_law cd_law ct_law), sl_law⟩) (c_law : PySem.W.codeIn K cd_law "law" = true) (k_law : PySem.W.keepIn K (.ref f_law) = true) :
    ∃ fd : FuncData, (∀ (s : Shared) (v : Value), BindsTo s fd ⟨[v], []⟩ [("script", v)]) ∧ ∀ base : Heap, K.In base → base.Ns mainGlobals mg → FnOk l.prog w K mg base CX0 11 fa fd ["script"] (spLaw K) := by
  have e := hfa.symm.trans (PySem.W.mg_of X G a_law)
  cases e
  refine ⟨PySem.W.fnOf "law" "law" (defArgs s_law) (defBody s_law) (defScope s_law) .none kV_law dc_law pm_law an_law cd_law ct_law, fun s v => .of_eq rfl, fun base _ _ => ?_⟩
  have T : Tp ⟨l.prog, w, K, mg, base⟩ := { m_all := PySem.W.mg_none_of X G m_all, m_any := PySem.W.mg_none_of X G m_any, m_bool := PySem.W.mg_none_of X G m_bool, m_dict := PySem.W.mg_none_of X G m_dict, m_enumerate := PySem.W.mg_none_of X G m_enumerate, m_int := PySem.W.mg_none_of X G m_int, m_isinstance := PySem.W.mg_none_of X G m_isinstance, m_len := PySem.W.mg_none_of X G m_len, m_max := PySem.W.mg_none_of X G m_max, m_range := PySem.W.mg_none_of X G m_range, m_set := PySem.W.mg_none_of X G m_set, m_sorted := PySem.W.mg_none_of X G m_sorted, m_str := PySem.W.mg_none_of X G m_str, m_tuple := PySem.W.mg_none_of X G m_tuple, m_zip := PySem.W.mg_none_of X G m_zip, k_FIGURES := ⟨_, PySem.W.mg_of X G g_FIGURES⟩, k_KEPT := ktup_mk (G := ⟨l.prog, w, K, mg, base⟩) X G g_KEPT q_KEPT z_KEPT v_KEPT, k_LETTERS := ⟨_, PySem.W.mg_of X G g_LETTERS⟩, k_MOST_NAME := ⟨_, PySem.W.mg_of X G g_MOST_NAME⟩, k_MOST_SEATS := ⟨_, PySem.W.mg_of X G g_MOST_SEATS⟩, k_MOST_WORTH := ⟨_, PySem.W.mg_of X G g_MOST_WORTH⟩ }
  have D : Dfs ⟨l.prog, w, K, mg, base⟩ := { d_is_whole := df_mk (G := ⟨l.prog, w, K, mg, base⟩) X G a_is_whole l_is_whole c_is_whole k_is_whole, d_is_from := df_mk (G := ⟨l.prog, w, K, mg, base⟩) X G a_is_from l_is_from c_is_from k_is_from, d_is_name := df_mk (G := ⟨l.prog, w, K, mg, base⟩) X G a_is_name l_is_name c_is_name k_is_name, d_ascends := df_mk (G := ⟨l.prog, w, K, mg, base⟩) X G a_ascends l_ascends c_ascends k_ascends, d_is_seats := df_mk (G := ⟨l.prog, w, K, mg, base⟩) X G a_is_seats l_is_seats c_is_seats k_is_seats, d_is_wish := df_mk (G := ⟨l.prog, w, K, mg, base⟩) X G a_is_wish l_is_wish c_is_wish k_is_wish, d_is_wishes := df_mk (G := ⟨l.prog, w, K, mg, base⟩) X G a_is_wishes l_is_wishes c_is_wishes k_is_wishes, d_check_wishes := df_mk (G := ⟨l.prog, w, K, mg, base⟩) X G a_check_wishes l_check_wishes c_check_wishes k_check_wishes, d_is_sale := df_mk (G := ⟨l.prog, w, K, mg, base⟩) X G a_is_sale l_is_sale c_is_sale k_is_sale, d_is_prices_of := df_mk (G := ⟨l.prog, w, K, mg, base⟩) X G a_is_prices_of l_is_prices_of c_is_prices_of k_is_prices_of, d_best_worth := df_mk (G := ⟨l.prog, w, K, mg, base⟩) X G a_best_worth l_best_worth c_best_worth k_best_worth, d_best_sale := df_mk (G := ⟨l.prog, w, K, mg, base⟩) X G a_best_sale l_best_sale c_best_sale k_best_sale, d_gain_of := df_mk (G := ⟨l.prog, w, K, mg, base⟩) X G a_gain_of l_gain_of c_gain_of k_gain_of, d_best_gain := df_mk (G := ⟨l.prog, w, K, mg, base⟩) X G a_best_gain l_best_gain c_best_gain k_best_gain, d_liked_best := df_mk (G := ⟨l.prog, w, K, mg, base⟩) X G a_liked_best l_liked_best c_liked_best k_liked_best, d_are_calm := df_mk (G := ⟨l.prog, w, K, mg, base⟩) X G a_are_calm l_are_calm c_are_calm k_are_calm, d_can_be_calm := df_mk (G := ⟨l.prog, w, K, mg, base⟩) X G a_can_be_calm l_can_be_calm c_can_be_calm k_can_be_calm, d_least_prices := df_mk (G := ⟨l.prog, w, K, mg, base⟩) X G a_least_prices l_least_prices c_least_prices k_least_prices, d_most_prices := df_mk (G := ⟨l.prog, w, K, mg, base⟩) X G a_most_prices l_most_prices c_most_prices k_most_prices, d_gains := df_mk (G := ⟨l.prog, w, K, mg, base⟩) X G a_gains l_gains c_gains k_gains, d_gain_by_telling := df_mk (G := ⟨l.prog, w, K, mg, base⟩) X G a_gain_by_telling l_gain_by_telling c_gain_by_telling k_gain_by_telling, d_why_price := df_mk (G := ⟨l.prog, w, K, mg, base⟩) X G a_why_price l_why_price c_why_price k_why_price, d_sale_lines := df_mk (G := ⟨l.prog, w, K, mg, base⟩) X G a_sale_lines l_sale_lines c_sale_lines k_sale_lines, d_lowered := df_mk (G := ⟨l.prog, w, K, mg, base⟩) X G a_lowered l_lowered c_lowered k_lowered, d_parts_of_seats := df_mk (G := ⟨l.prog, w, K, mg, base⟩) X G a_parts_of_seats l_parts_of_seats c_parts_of_seats k_parts_of_seats, d_is_least := df_mk (G := ⟨l.prog, w, K, mg, base⟩) X G a_is_least l_is_least c_is_least k_is_least, d__law_cell_at := df_mk (G := ⟨l.prog, w, K, mg, base⟩) X G a__law_cell_at l__law_cell_at c__law_cell_at k__law_cell_at, d__law_draw := df_mk (G := ⟨l.prog, w, K, mg, base⟩) X G a__law_draw l__law_draw c__law_draw k__law_draw, d__law_number := df_mk (G := ⟨l.prog, w, K, mg, base⟩) X G a__law_number l__law_number c__law_number k__law_number, d__law_next := df_mk (G := ⟨l.prog, w, K, mg, base⟩) X G a__law_next l__law_next c__law_next k__law_next, d_law := df_mk (G := ⟨l.prog, w, K, mg, base⟩) X G a_law l_law c_law k_law }
  exact law_ok T D (fun_mk (st := s_law) l_law c_law k_law)

end Den.Lk58

open PySem PySem.W PyProof.Rows

set_option maxHeartbeats 0 in
theorem PySem.Challenge.cw_callforpapers_k58_known_markets_holds : PySem.Challenge.rw_callforpapers_k58_known_markets.Holds := by
  w_on; o_law; k_head; (case hw => w_witness2)
  k_fill
  refine L2.walk_ofB (l := PySem.Challenge.rw_callforpapers_k58_known_markets) (n := 63) (k := 11) (x := "script") (CX := fun _ => L2.CX0) (sp := fun w => Den.spLaw _) rfl (by decide) rfl ⟨rfl, by decide, by decide⟩ (fun w h Y => PySem.W.kIn_of Y) ?F (fun _ _ a ns hl hb _ hS => ⟨a, ns, rfl, hS, hl, hb, fun _ => rfl⟩) (fun _ _ _ _ _ h => h)
  case F =>
    intro w mg fa h KX G hmg
    refine' Den.Lk58.all_mk KX G hmg ?a_is_whole ?l_is_whole ?c_is_whole ?k_is_whole ?a_is_from ?l_is_from ?c_is_from ?k_is_from ?a_is_name ?l_is_name ?c_is_name ?k_is_name ?a_ascends ?l_ascends ?c_ascends ?k_ascends ?a_is_seats ?l_is_seats ?c_is_seats ?k_is_seats ?a_is_wish ?l_is_wish ?c_is_wish ?k_is_wish ?a_is_wishes ?l_is_wishes ?c_is_wishes ?k_is_wishes ?a_check_wishes ?l_check_wishes ?c_check_wishes ?k_check_wishes ?a_is_sale ?l_is_sale ?c_is_sale ?k_is_sale ?a_is_prices_of ?l_is_prices_of ?c_is_prices_of ?k_is_prices_of ?a_best_worth ?l_best_worth ?c_best_worth ?k_best_worth ?a_best_sale ?l_best_sale ?c_best_sale ?k_best_sale ?a_gain_of ?l_gain_of ?c_gain_of ?k_gain_of ?a_best_gain ?l_best_gain ?c_best_gain ?k_best_gain ?a_liked_best ?l_liked_best ?c_liked_best ?k_liked_best ?a_are_calm ?l_are_calm ?c_are_calm ?k_are_calm ?a_can_be_calm ?l_can_be_calm ?c_can_be_calm ?k_can_be_calm ?a_least_prices ?l_least_prices ?c_least_prices ?k_least_prices ?a_most_prices ?l_most_prices ?c_most_prices ?k_most_prices ?a_gains ?l_gains ?c_gains ?k_gains ?a_gain_by_telling ?l_gain_by_telling ?c_gain_by_telling ?k_gain_by_telling ?a_why_price ?l_why_price ?c_why_price ?k_why_price ?a_sale_lines ?l_sale_lines ?c_sale_lines ?k_sale_lines ?a_lowered ?l_lowered ?c_lowered ?k_lowered ?a_parts_of_seats ?l_parts_of_seats ?c_parts_of_seats ?k_parts_of_seats ?a_is_least ?l_is_least ?c_is_least ?k_is_least ?a__law_cell_at ?l__law_cell_at ?c__law_cell_at ?k__law_cell_at ?a__law_draw ?l__law_draw ?c__law_draw ?k__law_draw ?a__law_number ?l__law_number ?c__law_number ?k__law_number ?a__law_next ?l__law_next ?c__law_next ?k__law_next ?m_all ?m_any ?m_bool ?m_dict ?m_enumerate ?m_int ?m_isinstance ?m_len ?m_max ?m_range ?m_set ?m_sorted ?m_str ?m_tuple ?m_zip ?g_FIGURES ?g_KEPT ?q_KEPT ?z_KEPT ?v_KEPT ?g_LETTERS ?g_MOST_NAME ?g_MOST_SEATS ?g_MOST_WORTH ?a_law ?l_law ?c_law ?k_law
    (case a_is_whole => k_is); (case l_is_whole => k_is); (case c_is_whole => k_is); (case k_is_whole => k_is); (case a_is_from => k_is); (case l_is_from => k_is); (case c_is_from => k_is); (case k_is_from => k_is); (case a_is_name => k_is); (case l_is_name => k_is); (case c_is_name => k_is); (case k_is_name => k_is); (case a_ascends => k_is); (case l_ascends => k_is); (case c_ascends => k_is); (case k_ascends => k_is); (case a_is_seats => k_is); (case l_is_seats => k_is); (case c_is_seats => k_is); (case k_is_seats => k_is); (case a_is_wish => k_is); (case l_is_wish => k_is); (case c_is_wish => k_is); (case k_is_wish => k_is); (case a_is_wishes => k_is); (case l_is_wishes => k_is); (case c_is_wishes => k_is); (case k_is_wishes => k_is); (case a_check_wishes => k_is); (case l_check_wishes => k_is); (case c_check_wishes => k_is); (case k_check_wishes => k_is); (case a_is_sale => k_is); (case l_is_sale => k_is); (case c_is_sale => k_is); (case k_is_sale => k_is); (case a_is_prices_of => k_is); (case l_is_prices_of => k_is); (case c_is_prices_of => k_is); (case k_is_prices_of => k_is); (case a_best_worth => k_is); (case l_best_worth => k_is); (case c_best_worth => k_is); (case k_best_worth => k_is); (case a_best_sale => k_is); (case l_best_sale => k_is); (case c_best_sale => k_is); (case k_best_sale => k_is); (case a_gain_of => k_is); (case l_gain_of => k_is); (case c_gain_of => k_is); (case k_gain_of => k_is); (case a_best_gain => k_is); (case l_best_gain => k_is); (case c_best_gain => k_is); (case k_best_gain => k_is); (case a_liked_best => k_is); (case l_liked_best => k_is); (case c_liked_best => k_is); (case k_liked_best => k_is); (case a_are_calm => k_is); (case l_are_calm => k_is); (case c_are_calm => k_is); (case k_are_calm => k_is); (case a_can_be_calm => k_is); (case l_can_be_calm => k_is); (case c_can_be_calm => k_is); (case k_can_be_calm => k_is); (case a_least_prices => k_is); (case l_least_prices => k_is); (case c_least_prices => k_is); (case k_least_prices => k_is); (case a_most_prices => k_is); (case l_most_prices => k_is); (case c_most_prices => k_is); (case k_most_prices => k_is); (case a_gains => k_is); (case l_gains => k_is); (case c_gains => k_is); (case k_gains => k_is); (case a_gain_by_telling => k_is); (case l_gain_by_telling => k_is); (case c_gain_by_telling => k_is); (case k_gain_by_telling => k_is); (case a_why_price => k_is); (case l_why_price => k_is); (case c_why_price => k_is); (case k_why_price => k_is); (case a_sale_lines => k_is); (case l_sale_lines => k_is); (case c_sale_lines => k_is); (case k_sale_lines => k_is); (case a_lowered => k_is); (case l_lowered => k_is); (case c_lowered => k_is); (case k_lowered => k_is); (case a_parts_of_seats => k_is); (case l_parts_of_seats => k_is); (case c_parts_of_seats => k_is); (case k_parts_of_seats => k_is); (case a_is_least => k_is); (case l_is_least => k_is); (case c_is_least => k_is); (case k_is_least => k_is); (case a__law_cell_at => k_is); (case l__law_cell_at => k_is); (case c__law_cell_at => k_is); (case k__law_cell_at => k_is); (case a__law_draw => k_is); (case l__law_draw => k_is); (case c__law_draw => k_is); (case k__law_draw => k_is); (case a__law_number => k_is); (case l__law_number => k_is); (case c__law_number => k_is); (case k__law_number => k_is); (case a__law_next => k_is); (case l__law_next => k_is); (case c__law_next => k_is); (case k__law_next => k_is); (case m_all => k_is); (case m_any => k_is); (case m_bool => k_is); (case m_dict => k_is); (case m_enumerate => k_is); (case m_int => k_is); (case m_isinstance => k_is); (case m_len => k_is); (case m_max => k_is); (case m_range => k_is); (case m_set => k_is); (case m_sorted => k_is); (case m_str => k_is); (case m_tuple => k_is); (case m_zip => k_is); (case g_FIGURES => k_is); (case g_KEPT => k_is); (case q_KEPT => k_is); (case g_LETTERS => k_is); (case g_MOST_NAME => k_is); (case g_MOST_SEATS => k_is); (case g_MOST_WORTH => k_is); (case a_law => k_is); (case l_law => k_is); (case c_law => k_is); (case k_law => k_is)
    (case z_KEPT => decide +kernel); (case v_KEPT => exact (.cons ⟨_, rfl⟩ (.cons ⟨_, rfl⟩ (.cons ⟨_, rfl⟩ (.cons ⟨_, rfl⟩ (.cons ⟨_, rfl⟩ (.cons ⟨_, rfl⟩ (.cons ⟨_, rfl⟩ (.cons ⟨_, rfl⟩ .nil)))))))))
