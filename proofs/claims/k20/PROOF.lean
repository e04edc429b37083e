import PyProof.Rows.All
import HandS.ForMost
import HandS.ForExc
import HandS.Wide
import HandS.TupAny
import HandS.TupLe
import HandS.TupMul
import HandS.Deep
import HandS.Flow
import HandS.Rev
import HandS.IsInst
import KE.KTupSum
import KE.KExcSuper
import HandS.ExcInit
import HandS.TryMany
import HandS.Style
import HandS.Iter
import HandS.Zip
import KE.GoesEnum
import KE.GoesZip
import HandS.SortInts
import HandS.Text
import HandS.Replace
import KE.DataCmp
import PySem.Challenge.RW_notewhole_k20_whole_digits_to_the_left
set_option Elab.async false
set_option linter.all false
set_option maxRecDepth 100000
/-! DL1: pure data, slots, the relation to the layer's abstract heap, lifted readings. -/
namespace DL
open PySem PySem.Spec L2

/-- pure data -/
inductive D where
  | non
  | bl (b : Bool)
  | int (i : Int)
  | str (x : Str)
  | tup (xs : List D)
  | lst (xs : List D)
  | frl (xs : List D)

mutual
/-- v shows d; what d is made of stands in F (and never changes) -/
def Rp (K : PySem.W.Frag) (F : Hp) : D → V → Prop
  | .non, v => v = .non
  | .bl b, v => v = .bl b
  | .int i, v => v = .int i
  | .str x, v => v = .str x
  | .tup ds, v => ∃ a vs, v = .ref a ∧ SqT K F a vs ∧ Rps K F ds vs
  | .lst ds, v => ∃ a vs, v = .ref a ∧ F a = some (.lst vs) ∧ Rps K F ds vs
  | .frl ds, v => ∃ a vs, v = .ref a ∧ SqL K F a vs ∧ Rps K F ds vs
def Rps (K : PySem.W.Frag) (F : Hp) : List D → List V → Prop
  | [], vs => vs = []
  | d :: ds, vs => ∃ v r, vs = v :: r ∧ Rp K F d v ∧ Rps K F ds r
end

theorem sqT_mono {K : PySem.W.Frag} {F F' : Hp} (s : Same F F') {a : Addr} {xs : List V} (h : SqT K F a xs) : SqT K F' a xs := by
  rcases h with (h | ⟨o, h⟩) | h
  · exact .inl (.inl (s _ _ h))
  · exact .inl (.inr ⟨o, s _ _ h⟩)
  · exact .inr h

mutual
theorem Rp.mono {K : PySem.W.Frag} {F F' : Hp} (s : Same F F') : ∀ {d : D} {v : V}, Rp K F d v → Rp K F' d v
  | .non, _, h => h
  | .bl _, _, h => h
  | .int _, _, h => h
  | .str _, _, h => h
  | .tup _, _, h => by
    obtain ⟨a, vs, e, q, r⟩ := h
    exact ⟨a, vs, e, sqT_mono s q, Rps.mono s r⟩
  | .lst _, _, h => by
    obtain ⟨a, vs, e, q, r⟩ := h
    exact ⟨a, vs, e, s _ _ q, Rps.mono s r⟩
  | .frl _, _, h => by
    obtain ⟨a, vs, e, q, r⟩ := h
    exact ⟨a, vs, e, s.seq q, Rps.mono s r⟩
theorem Rps.mono {K : PySem.W.Frag} {F F' : Hp} (s : Same F F') : ∀ {ds : List D} {vs : List V}, Rps K F ds vs → Rps K F' ds vs
  | [], _, h => h
  | _ :: _, _, h => by
    obtain ⟨v, r, e, h1, h2⟩ := h
    exact ⟨v, r, e, Rp.mono s h1, Rps.mono s h2⟩
end

section
variable {K : PySem.W.Frag} {F : Hp}
theorem Rps.length : ∀ {ds : List D} {vs : List V}, Rps K F ds vs → vs.length = ds.length
  | [], _, h => by
    have e : _ = [] := h
    rw [e]; rfl
  | _ :: _, _, h => by
    obtain ⟨v, r, e, _, h2⟩ := h
    rw [e, List.length_cons, List.length_cons, Rps.length h2]
theorem Rps.append : ∀ {ds es : List D} {vs ws : List V}, Rps K F ds vs → Rps K F es ws → Rps K F (ds ++ es) (vs ++ ws)
  | [], _, _, _, h, h' => by
    have e : _ = [] := h
    rw [e]; exact h'
  | _ :: _, _, _, _, h, h' => by
    obtain ⟨v, r, e, h1, h2⟩ := h
    rw [e]
    exact ⟨v, _, rfl, h1, Rps.append h2 h'⟩
theorem Rps.one {d : D} {v : V} (h : Rp K F d v) : Rps K F [d] [v] := ⟨v, [], rfl, h, rfl⟩
theorem Rps.get : ∀ {ds : List D} {vs : List V} {i : Nat} {d : D}, Rps K F ds vs → ds[i]? = some d → ∃ v, vs[i]? = some v ∧ Rp K F d v
  | [], _, _, _, _, e => by simp at e
  | _ :: _, _, 0, _, h, e => by
    obtain ⟨v, r, rfl, h1, _⟩ := h
    have e' := Option.some.inj e
    subst e'
    exact ⟨v, rfl, h1⟩
  | _ :: _, _, i + 1, _, h, e => by
    obtain ⟨v, r, rfl, _, h2⟩ := h
    have e' : _ := Rps.get (i := i) h2 e
    exact e'
theorem Rps.take : ∀ {ds : List D} {vs : List V} (n : Nat), Rps K F ds vs → Rps K F (ds.take n) (vs.take n)
  | _, _, 0, _ => by simp [Rps]
  | [], _, n + 1, h => by
    have e : _ = [] := h
    subst e
    exact rfl
  | _ :: _, _, n + 1, h => by
    obtain ⟨v, r, rfl, h1, h2⟩ := h
    exact ⟨v, _, rfl, h1, Rps.take n h2⟩
theorem Rps.drop : ∀ {ds : List D} {vs : List V} (n : Nat), Rps K F ds vs → Rps K F (ds.drop n) (vs.drop n)
  | _, _, 0, h => h
  | [], _, n + 1, h => by
    have e : _ = [] := h
    subst e
    exact rfl
  | _ :: _, _, n + 1, h => by
    obtain ⟨v, r, rfl, h1, h2⟩ := h
    exact Rps.drop n h2
theorem Rps.reverse : ∀ {ds : List D} {vs : List V}, Rps K F ds vs → Rps K F ds.reverse vs.reverse
  | [], _, h => by
    have e : _ = [] := h
    subst e
    exact rfl
  | _ :: _, _, h => by
    obtain ⟨v, r, rfl, h1, h2⟩ := h
    rw [List.reverse_cons, List.reverse_cons]
    exact Rps.append (Rps.reverse h2) (Rps.one h1)
theorem Rps.set : ∀ {ds : List D} {vs : List V} (i : Nat) {d : D} {v : V}, Rps K F ds vs → Rp K F d v → Rps K F (ds.set i d) (vs.set i v)
  | [], _, _, _, _, h, _ => by
    have e : _ = [] := h
    subst e
    exact rfl
  | _ :: _, _, 0, _, v, h, h' => by
    obtain ⟨u, r, rfl, h1, h2⟩ := h
    exact ⟨v, r, rfl, h', h2⟩
  | _ :: _, _, i + 1, _, _, h, h' => by
    obtain ⟨u, r, rfl, h1, h2⟩ := h
    exact ⟨u, _, rfl, h1, Rps.set i h2 h'⟩
theorem Rps.dropLast {ds : List D} {vs : List V} (h : Rps K F ds vs) : Rps K F ds.dropLast vs.dropLast := by
  rw [List.dropLast_eq_take, List.dropLast_eq_take, h.length]
  exact h.take _
theorem Rps.erase : ∀ {ds : List D} {vs : List V} (i : Nat), Rps K F ds vs → Rps K F (ds.eraseIdx i) (vs.eraseIdx i)
  | [], _, _, h => by
    have e : _ = [] := h
    subst e
    exact rfl
  | _ :: _, _, 0, h => by
    obtain ⟨u, r, rfl, _, h2⟩ := h
    exact h2
  | _ :: _, _, i + 1, h => by
    obtain ⟨u, r, rfl, h1, h2⟩ := h
    exact ⟨u, _, rfl, h1, Rps.erase i h2⟩
theorem Rps.ints : ∀ {ns : List Int} {vs : List V}, Rps K F (ns.map D.int) vs → vs = ns.map V.int
  | [], _, h => h
  | n :: r, _, h => by
    obtain ⟨u, w, rfl, h1, h2⟩ := h
    have e : u = .int n := h1
    rw [e, Rps.ints h2]; rfl
theorem Rps.bls : ∀ {ns : List Bool} {vs : List V}, Rps K F (ns.map D.bl) vs → vs = ns.map V.bl
  | [], _, h => h
  | n :: r, _, h => by
    obtain ⟨u, w, rfl, h1, h2⟩ := h
    have e : u = .bl n := h1
    rw [e, Rps.bls h2]; rfl
theorem Rps.strs : ∀ {ns : List Str} {vs : List V}, Rps K F (ns.map D.str) vs → vs = ns.map V.str
  | [], _, h => h
  | n :: r, _, h => by
    obtain ⟨u, w, rfl, h1, h2⟩ := h
    have e : u = .str n := h1
    rw [e, Rps.strs h2]; rfl
theorem Rps.ofInts : ∀ (ns : List Int), Rps K F (ns.map D.int) (ns.map V.int)
  | [] => rfl
  | _ :: r => ⟨_, _, rfl, rfl, Rps.ofInts r⟩
theorem Rps.ofStrs : ∀ (ns : List Str), Rps K F (ns.map D.str) (ns.map V.str)
  | [] => rfl
  | _ :: r => ⟨_, _, rfl, rfl, Rps.ofStrs r⟩
theorem Rps.nil {vs : List V} (h : Rps K F [] vs) : vs = [] := h
theorem Rps.cons {d : D} {ds : List D} {vs : List V} (h : Rps K F (d :: ds) vs) : ∃ v r, vs = v :: r ∧ Rp K F d v ∧ Rps K F ds r := h
theorem Rps.ne {ds : List D} {vs : List V} (h : Rps K F ds vs) : (vs = [] ↔ ds = []) := by
  rw [← List.length_eq_zero_iff, ← List.length_eq_zero_iff, h.length]
theorem Rps.isEmpty {ds : List D} {vs : List V} (h : Rps K F ds vs) : vs.isEmpty = ds.isEmpty := by
  cases ds with
  | nil => rw [h.nil]; rfl
  | cons d r =>
    obtain ⟨v, w, e, _⟩ := h.cons
    rw [e]; rfl
end

/-- a key of a dict: a number or a text; a row of such -/
def keyD : D → Option Key
  | .int i => some (.inl i)
  | .str x => some (.inr x)
  | _ => none
def keysD : List D → Option (List Key)
  | [] => some []
  | d :: r => match keyD d, keysD r with
    | some k, some ks => some (k :: ks)
    | _, _ => none
/-- what an owned object holds: a list, a dict with plain keys, a dict with rows as keys -/
inductive Nd where
  | lst (xs : List D)
  | dct (kvs : List (D × D))
  | dcT (kvs : List (List D × D))
/-- a list -/
def Nd.isL : Nd → Bool
  | .lst _ => true
  | _ => false
/-- pairs of a dict -/
def RKs {α κ : Type} (key : α → Option κ) (K : PySem.W.Frag) (F : Hp) : List (α × D) → List (κ × V) → Prop
  | [], vs => vs = []
  | (d, e) :: r, vs => ∃ k v w, vs = (k, v) :: w ∧ key d = some k ∧ Rp K F e v ∧ RKs key K F r w
theorem RKs.mono {α κ : Type} {key : α → Option κ} {K : PySem.W.Frag} {F F' : Hp} (s : Same F F') : ∀ {ds : List (α × D)} {vs : List (κ × V)}, RKs key K F ds vs → RKs key K F' ds vs
  | [], _, h => h
  | _ :: _, _, h => by
    obtain ⟨k, v, w, e, h1, h2, h3⟩ := h
    exact ⟨k, v, w, e, h1, Rp.mono s h2, RKs.mono s h3⟩
def RNd (K : PySem.W.Frag) (F H : Hp) : Nd → Addr → Prop
  | .lst xs, a => ∃ vs, H a = some (.lst vs) ∧ Rps K F xs vs
  | .dct xs, a => ∃ vs, H a = some (.dK vs) ∧ RKs keyD K F xs vs
  | .dcT xs, a => ∃ vs, H a = some (.dT vs) ∧ RKs keysD K F xs vs
/-- of a list -/
def RNl (K : PySem.W.Frag) (F H : Hp) : Nd → Addr → Prop
  | .lst xs, a => ∃ vs, H a = some (.lst vs) ∧ Rps K F xs vs
  | _, _ => False
theorem RNd.there {K : PySem.W.Frag} {F H : Hp} : ∀ {n : Nd} {a : Addr}, RNd K F H n a → ∃ o, H a = some o
  | .lst _, _, ⟨vs, e, _⟩ => ⟨_, e⟩
  | .dct _, _, ⟨vs, e, _⟩ => ⟨_, e⟩
  | .dcT _, _, ⟨vs, e, _⟩ => ⟨_, e⟩
theorem RNd.move {K : PySem.W.Frag} {F F' H H' : Hp} (s : Same F F') : ∀ {n : Nd} {a : Addr}, RNd K F H n a → H' a = H a → RNd K F' H' n a
  | .lst _, _, ⟨vs, e, r⟩, q => ⟨vs, q.trans e, r.mono s⟩
  | .dct _, _, ⟨vs, e, r⟩, q => ⟨vs, q.trans e, r.mono s⟩
  | .dcT _, _, ⟨vs, e, r⟩, q => ⟨vs, q.trans e, r.mono s⟩
theorem RNl.nd {K : PySem.W.Frag} {F H : Hp} : ∀ {n : Nd} {a : Addr}, RNl K F H n a → RNd K F H n a
  | .lst _, _, h => h
theorem RNl.isL {K : PySem.W.Frag} {F H : Hp} : ∀ {n : Nd} {a : Addr}, RNl K F H n a → n.isL = true
  | .lst _, _, h => rfl
theorem RNd.nl {K : PySem.W.Frag} {F H : Hp} : ∀ {n : Nd} {a : Addr}, RNd K F H n a → n.isL = true → RNl K F H n a
  | .lst _, _, h, _ => h
theorem RNl.there {K : PySem.W.Frag} {F H : Hp} {n : Nd} {a : Addr} (h : RNl K F H n a) : ∃ o, H a = some o := h.nd.there
theorem RNl.move {K : PySem.W.Frag} {F F' H H' : Hp} (s : Same F F') {n : Nd} {a : Addr} (h : RNl K F H n a) (q : H' a = H a) : RNl K F' H' n a := (h.nd.move s q).nl h.isL

/-- a slot: pure data, an object that nothing else refers to, or the k-th object of the caller's that may be changed -/
inductive Sl where
  | p (d : D)
  | ow (k : Option Nat) (n : Nd)
abbrev Sg := List (Option Sl)
/-- a value: pure data, a fresh object, the object of the slot i -/
inductive Vl where
  | p (d : D)
  | ow (n : Nd)
  | al (i : Nat) (n : Nd)

/-- what must be kept; the caller's objects that may be changed -/
structure Bs where
  h : Hp
  A : List Addr
instance : CoeFun Bs (fun _ => Addr → Option HO) := ⟨Bs.h⟩
instance : Coe Bs Hp := ⟨Bs.h⟩
def Bs.add (B : Bs) (a : Addr) (o : HO) : Bs := ⟨upd B.h a o, B.A⟩
def BLe (B B1 : Bs) : Prop := Same B.h B1.h ∧ B.A = B1.A
theorem BLe.refl (B : Bs) : BLe B B := ⟨Same.refl _, rfl⟩
theorem BLe.add {B : Bs} {a : Addr} {o : HO} (hb : B a = none) : BLe B (B.add a o) := ⟨fun b u q => (upd_ne (ne_of_none q hb)).trans q, rfl⟩
def RSl (K : PySem.W.Frag) (B : Bs) (F H : Hp) : Sl → V → Prop
  | .p d, v => Rp K F d v
  | .ow k n, v => ∃ a, v = .ref a ∧ RNd K F H n a ∧ F a = none ∧ B a = none ∧ ∀ j, k = some j → B.A[j]? = some a

/-- the state σ, H shows ε; F: what never changes; B: what must be kept -/
structure Rep (K : PySem.W.Frag) (B : Bs) (F H : Hp) (σ : St) (ε : Sg) : Prop where
  fh : Same F H
  bh : Same B.h H
  len : σ.length = ε.length
  val : ∀ (i : Nat) (s : Sl), ε[i]? = some (some s) → ∃ v, σ[i]? = some (some v) ∧ RSl K B F H s v
  sep : ∀ (i j : Nat) (k l : Option Nat) (n m : Nd) (a : Addr), i ≠ j → ε[i]? = some (some (.ow k n)) → ε[j]? = some (some (.ow l m)) → σ[i]? = some (some (.ref a)) → σ[j]? ≠ some (some (.ref a))
def RVl (K : PySem.W.Frag) (B : Bs) (F H : Hp) (σ : St) (ε : Sg) : Vl → V → Prop
  | .p d, v => Rp K F d v
  | .ow n, v => ∃ a, v = .ref a ∧ RNl K F H n a ∧ F a = none ∧ B a = none ∧ ∀ (i : Nat) (k : Option Nat) (m : Nd), ε[i]? = some (some (Sl.ow k m)) → σ[i]? ≠ some (some (V.ref a))
  | .al i n, v => (∃ k, ε[i]? = some (some (.ow k n))) ∧ σ[i]? = some (some v) ∧ n.isL = true

/-- F grows, but not into B -/
def Ext (B : Bs) (F F' : Hp) : Prop := Same F F' ∧ ∀ a, F a = none → B a ≠ none → F' a = none
theorem Ext.refl (B : Bs) (F : Hp) : Ext B F F := ⟨Same.refl F, fun _ h _ => h⟩
theorem Ext.trans {B : Bs} {F F1 F2 : Hp} (a : Ext B F F1) (b : Ext B F1 F2) : Ext B F F2 :=
  ⟨a.1.trans b.1, fun c h q => b.2 c (a.2 c h q) q⟩
theorem Ext.weak {B B1 : Bs} {F F' : Hp} (s : BLe B B1) (e : Ext B1 F F') : Ext B F F' :=
  ⟨e.1, fun a h q => e.2 a h fun z => by
    cases hb : B a with
    | none => exact q hb
    | some o => rw [s.1 a o hb] at z; cases z⟩

/-- an alias still stands -/
def stb : Vl → Sg → Prop
  | .al i n, ε => ∃ k, ε[i]? = some (some (.ow k n))
  | _, _ => True

section
variable {K : PySem.W.Frag} {B B1 : Bs} {F F' H H' : Hp} {σ : St} {ε ε' : Sg} {x : Vl} {v : V}
theorem same_none {A C : Hp} (s : Same A C) {a : Addr} (h : C a = none) : A a = none := by
  cases q : A a with
  | none => rfl
  | some o => rw [s a o q] at h; cases h
theorem Rep.weak (s : BLe B B1) (r : Rep K B1 F H σ ε) : Rep K B F H σ ε :=
  ⟨r.fh, s.1.trans r.bh, r.len, fun i sl e => by
    obtain ⟨v, h1, h2⟩ := r.val i sl e
    refine ⟨v, h1, ?_⟩
    cases sl with
    | p d => exact h2
    | ow k n =>
      obtain ⟨a, e1, e2, e3, e4, e5⟩ := h2
      exact ⟨a, e1, e2, e3, same_none s.1 e4, by rw [s.2]; exact e5⟩, r.sep⟩
theorem RVl.weak (s : BLe B B1) (r : RVl K B1 F H σ ε x v) : RVl K B F H σ ε x v := by
  cases x with
  | p d => exact r
  | ow n =>
    obtain ⟨a, e1, e2, e3, e4, e5⟩ := r
    exact ⟨a, e1, e2, e3, same_none s.1 e4, e5⟩
  | al i n => exact r
/-- an object kept apart while something else runs -/
theorem Rep.guard {a : Addr} {o : HO} (r : Rep K B F H σ ε) (ha : H a = some o) (hb : B a = none) (hn : ∀ (i : Nat) (k : Option Nat) (m : Nd), ε[i]? = some (some (Sl.ow k m)) → σ[i]? ≠ some (some (V.ref a))) : Rep K (B.add a o) F H σ ε := by
  refine ⟨r.fh, fun b u q => ?_, r.len, fun i sl e => ?_, r.sep⟩
  · have q' : upd B.h a o b = some u := q
    by_cases hba : b = a
    · subst hba; rw [upd_same] at q'; cases q'; exact ha
    · rw [upd_ne hba] at q'; exact r.bh b u q'
  · obtain ⟨v, h1, h2⟩ := r.val i sl e
    refine ⟨v, h1, ?_⟩
    cases sl with
    | p d => exact h2
    | ow k m =>
      obtain ⟨c, e1, e2, e3, e4, e5⟩ := h2
      refine ⟨c, e1, e2, e3, ?_, e5⟩
      have hc : c ≠ a := fun z => by
        subst z; subst e1
        exact hn i k m e h1
      exact (upd_ne hc).trans e4
/-- a value is held while something else is reckoned -/
theorem Rep.hold (r : Rep K B F H σ ε) (rv : RVl K B F H σ ε x v) : ∃ B1, BLe B B1 ∧ Rep K B1 F H σ ε ∧
    (∀ F' H' ε', Ext B1 F F' → Rep K B1 F' H' σ ε' → stb x ε' → RVl K B F' H' σ ε' x v) ∧ ∀ n a, x = .ow n → v = .ref a → B1 a ≠ none := by
  cases x with
  | p d => exact ⟨B, BLe.refl B, r, fun F' H' ε' e _ _ => Rp.mono e.1 rv, fun n a e _ => by cases e⟩
  | al i n => exact ⟨B, BLe.refl B, r, fun F' H' ε' _ _ s => ⟨s, rv.2⟩, fun n a e _ => by cases e⟩
  | ow n =>
    obtain ⟨a, rfl, hn, hf, hb, hs⟩ := rv
    obtain ⟨o, ho⟩ := hn.there
    have hB : (B.add a o) a = some o := upd_same
    refine ⟨B.add a o, BLe.add hb, r.guard ho hb hs, fun F' H' ε' e r' _ => ?_, fun n2 a2 _ ev => ?_⟩
    · have ha : H' a = some o := r'.bh a o hB
      refine ⟨a, rfl, hn.move e.1 (ha.trans ho.symm), e.2 a hf (by rw [hB]; exact Option.some_ne_none _), hb, fun i k m em es => ?_⟩
      obtain ⟨v, h1, h2⟩ := r'.val i _ em
      obtain ⟨c, e1, _, _, e4, _⟩ := h2
      rw [h1] at es
      have e5 : v = .ref a := Option.some.inj (Option.some.inj es)
      rw [e1] at e5
      have e6 : c = a := V.ref.inj e5
      rw [e6, hB] at e4
      cases e4
    · have e9 : a = a2 := V.ref.inj ev
      subst e9
      rw [hB]
      exact Option.some_ne_none _
end

/-- an error: its class, its fields -/
structure Er where
  C : Addr
  ns : List Str
  ds : List D
def REr (K : PySem.W.Frag) (F H : Hp) (e : Er) (c : Value) (d : Option Addr) : Prop :=
  c = .ref e.C ∧ ∃ dx vs, d = some dx ∧ H dx = some (.xd (e.ns.zip vs)) ∧ Rps K F e.ds vs

/-- what an expression does to a pure state: the value and the state behind it, or an error and the state -/
abbrev DX := Er → Sg → Prop
abbrev DE := Sg → (Vl → Sg → Prop) → DX → Prop
abbrev DT := Sg → (Bool → Sg → Prop) → DX → Prop
abbrev DA := Sg → (List Vl → Sg → Prop) → DX → Prop
structure DN where
  nx : Sg → Prop
  rt : Vl → Sg → Prop
  er : DX
  bk : Sg → Prop := fun _ => False
  ct : Sg → Prop := fun _ => False
/-- the state's spine is reckoned before it goes on -/
def nf : Sg → (Sg → Prop) → Prop
  | [], k => k []
  | a :: l, k => nf l fun l' => k (a :: l')
theorem nf_eq : ∀ (ε : Sg) (k : Sg → Prop), nf ε k = k ε
  | [], _ => rfl
  | _ :: l, k => nf_eq l _
def DN.onNx (P : DN) (q : Sg → Prop) : DN := { P with nx := q }
def DN.onEr (P : DN) (q : DX) : DN := { P with er := q }
def DN.loop (P : DN) (q : Sg → Prop) : DN := { P with nx := q, ct := q, bk := P.nx }
abbrev DS := DN → Sg → Prop

/-- what is wanted of errors, against the layer's wish -/
def Erw (K : PySem.W.Frag) (W : WX) (B : Bs) (F : Hp) (σ : St) (R : DX) : Prop :=
  ∀ c d H' F' e ε', Ext B F F' → Rep K B F' H' σ ε' → REr K F' H' e c d → R e ε' → W c d σ H'
def lift (K : PySem.W.Frag) (W : WX) (t : DE) : TE := fun σ H Q => ∃ ε B F R RE, Rep K B F H σ ε ∧ t ε R RE ∧
  (∀ v H' F' x ε', Ext B F F' → Rep K B F' H' σ ε' → RVl K B F' H' σ ε' x v → R x ε' → Q v H') ∧ Erw K W B F σ RE
def liftT (K : PySem.W.Frag) (W : WX) (t : DT) : TT := fun σ H Q => ∃ ε B F R RE, Rep K B F H σ ε ∧ t ε R RE ∧
  (∀ b H' F' ε', Ext B F F' → Rep K B F' H' σ ε' → R b ε' → Q b H') ∧ Erw K W B F σ RE
inductive RVls (K : PySem.W.Frag) (B : Bs) (F H : Hp) (σ : St) (ε : Sg) : List Vl → List V → Prop
  | nil : RVls K B F H σ ε [] []
  | cons {x : Vl} {xs : List Vl} {v : V} {vs : List V} : RVl K B F H σ ε x v → RVls K B F H σ ε xs vs →
      (∀ n a, x = .ow n → v = .ref a → ∀ (j : Nat) (m : Nd), xs[j]? = some (Vl.ow m) → vs[j]? ≠ some (.ref a)) → RVls K B F H σ ε (x :: xs) (v :: vs)
def liftA (K : PySem.W.Frag) (W : WX) (t : DA) : TA := fun σ H Q => ∃ ε B F R RE, Rep K B F H σ ε ∧ t ε R RE ∧
  (∀ vs H' F' xs ε', Ext B F F' → Rep K B F' H' σ ε' → RVls K B F' H' σ ε' xs vs → R xs ε' → Q vs H') ∧ Erw K W B F σ RE
def liftS (K : PySem.W.Frag) (W : WX) (t : DS) : TS := fun Dd σ H => ∃ ε B F P, Rep K B F H σ ε ∧ t P ε ∧
  (∀ σ' H' F' ε', Ext B F F' → Rep K B F' H' σ' ε' → P.nx ε' → Dd.nx σ' H') ∧
  (∀ σ' H' F' ε', Ext B F F' → Rep K B F' H' σ' ε' → P.bk ε' → Dd.bk σ' H') ∧
  (∀ σ' H' F' ε', Ext B F F' → Rep K B F' H' σ' ε' → P.ct ε' → Dd.ct σ' H') ∧
  (∀ σ' v H' F' x ε', Ext B F F' → Rep K B F' H' σ' ε' → RVl K B F' H' σ' ε' x v → P.rt x ε' → Dd.rt v H') ∧
  (∀ σ', Erw K W B F σ' P.er)

section
variable {K : PySem.W.Frag} {W : WX} {B B1 : Bs} {F F1 F' H H' : Hp} {σ : St} {ε ε' : Sg} {R : DX}
theorem Erw.weak (s : BLe B B1) (e : Ext B F F1) (w : Erw K W B F σ R) : Erw K W B1 F1 σ R := fun c d H' F' e' ε' x r q h =>
  w c d H' F' e' ε' (e.trans (x.weak s)) (r.weak s) q h
theorem Erw.ext (e : Ext B F F1) (w : Erw K W B F σ R) : Erw K W B F1 σ R := w.weak (BLe.refl B) e
theorem RVls.weak (s : BLe B B1) : ∀ {xs : List Vl} {vs : List V}, RVls K B1 F H σ ε xs vs → RVls K B F H σ ε xs vs
  | _, _, .nil => .nil
  | _, _, .cons a b c => .cons (a.weak s) (RVls.weak s b) c
theorem RVls.length {xs : List Vl} {vs : List V} (h : RVls K B F H σ ε xs vs) : xs.length = vs.length := by
  induction h with
  | nil => rfl
  | cons _ _ _ ih => rw [List.length_cons, List.length_cons, ih]
theorem RVls.get {xs : List Vl} {vs : List V} (h : RVls K B F H σ ε xs vs) : ∀ {j : Nat} {x : Vl}, xs[j]? = some x → ∃ v, vs[j]? = some v ∧ RVl K B F H σ ε x v := by
  induction h with
  | nil => intro j x e; simp at e
  | cons a _ _ ih =>
    intro j x e
    cases j with
    | zero =>
      have e' := Option.some.inj e
      subst e'
      exact ⟨_, rfl, a⟩
    | succ j => exact ih (j := j) (by simpa using e)
end

/-- the layer's readings, weakened -/
theorem PE_imp {X : Cx} {e : Expr} {t t' : TE} (h : PE X e t) (i : ∀ σ H Q, t' σ H Q → t σ H Q) : PE X e t' := ⟨fun pins s σ H Q I q => h.run pins s σ H Q I (i _ _ _ q)⟩
theorem PT_imp {X : Cx} {e : Expr} {t t' : TT} (h : PT X e t) (i : ∀ σ H Q, t' σ H Q → t σ H Q) : PT X e t' := ⟨fun pins s σ H Q I q => h.run pins s σ H Q I (i _ _ _ q)⟩
theorem PA_imp {X : Cx} {e : List Expr} {t t' : TA} (h : PA X e t) (i : ∀ σ H Q, t' σ H Q → t σ H Q) : PA X e t' := ⟨fun pos pins s σ H Q I q => h.run pos pins s σ H Q I (i _ _ _ q)⟩
theorem PS_imp {X : Cx} {e : Stmt} {t t' : TS} (h : PS X e t) (i : ∀ D σ H, t' D σ H → t D σ H) : PS X e t' := ⟨fun pins s σ H D I q => h.run pins s σ H D I (i _ _ _ q)⟩
theorem PSs_imp {X : Cx} {e : List Stmt} {t t' : TS} (h : PSs X e t) (i : ∀ D σ H, t' D σ H → t D σ H) : PSs X e t' := ⟨fun pins s σ H D I q => h.run pins s σ H D I (i _ _ _ q)⟩
end DL

/-! DL2: names, constants, operators, comparisons, displays, subscripts. -/
namespace DL
open PySem PySem.Spec L2

section
variable {K : PySem.W.Frag} {W : WX}
/-! ### names and constants -/
def dVar (i : Nat) : DE := fun ε R _ => match ε[i]? with
  | some (some (.p d)) => R (.p d) ε
  | some (some (.ow _ n)) => n.isL = true ∧ R (.al i n) ε
  | _ => False
def dC (d : D) : DE := fun ε R _ => R (.p d) ε
theorem lift_var {i : Nat} {σ : L2.St} {H : Hp} {Q : VK} (h : lift K W (dVar i) σ H Q) : tVar i σ H Q := by
  obtain ⟨ε, B, F, R, RE, r, t, q, _⟩ := h
  unfold dVar at t
  split at t
  · rename_i d e
    obtain ⟨v, h1, h2⟩ := r.val i _ e
    exact ⟨v, h1, q v H F (.p d) ε (Ext.refl _ _) r h2 t⟩
  · rename_i k n e
    obtain ⟨v, h1, h2⟩ := r.val i _ e
    exact ⟨v, h1, q v H F (.al i n) ε (Ext.refl _ _) r ⟨⟨k, e⟩, h1, t.1⟩ t.2⟩
  · exact t.elim
theorem lift_c {d : D} {v : V} {σ : L2.St} {H : Hp} {Q : VK} (hv : ∀ F, Rp K F d v) (h : lift K W (dC d) σ H Q) : tC v σ H Q := by
  obtain ⟨ε, B, F, R, RE, r, t, q, _⟩ := h
  exact q v H F (.p d) ε (Ext.refl _ _) r (hv F) t
end
section
variable {X : Cx} {W : WX} {e : Expr}
theorem de_var {i : Nat} (h : PE X e (tVar i)) : PE X e (lift X.K W (dVar i)) := PE_imp h fun _ _ _ => lift_var
theorem de_c {d : D} {v : V} (hv : ∀ F, Rp X.K F d v) (h : PE X e (tC v)) : PE X e (lift X.K W (dC d)) := PE_imp h fun _ _ _ => lift_c hv
theorem de_int {i : Int} {j : Nat} {pos : Pos} : PE X (.Constant (.int i) j pos) (lift X.K W (dC (.int i))) := de_c (fun _ => rfl) pe_int
theorem de_bl {i : Bool} {j : Nat} {pos : Pos} : PE X (.Constant (.bool i) j pos) (lift X.K W (dC (.bl i))) := de_c (fun _ => rfl) pe_bl
theorem de_non {j : Nat} {pos : Pos} : PE X (.Constant .none j pos) (lift X.K W (dC .non)) := de_c (fun _ => rfl) pe_non
theorem de_str {i : Str} {j : Nat} {pos : Pos} : PE X (.Constant (.str i) j pos) (lift X.K W (dC (.str i))) := de_c (fun _ => rfl) pe_str
theorem de_glob {x : Str} {v : V} {u : Value} {d : D} {pos : Pos} (hv : ∀ F, Rp X.K F d v) (hg : Gl X x) (hm : X.mg x = some u) (r : RelV v u) (hd : (x == ("__debug__" : Str)) = false := by decide) :
    PE X (.Name x pos) (lift X.K W (dC d)) := de_c hv (pe_glob hg hm r hd)
end

/-! ### sequences behind values -/
def lsOf : Vl → Option (List D)
  | .p (.lst xs) => some xs
  | .ow (.lst xs) => some xs
  | .al _ (.lst xs) => some xs
  | _ => none
def sqOf : Vl → Option (List D)
  | .p (.lst xs) => some xs
  | .p (.tup xs) => some xs
  | .p (.frl xs) => some xs
  | .ow (.lst xs) => some xs
  | .al _ (.lst xs) => some xs
  | _ => none
/-- the data behind a value -/
def vD : Vl → D
  | .p d => d
  | .ow (.lst xs) => .lst xs
  | .al _ (.lst xs) => .lst xs
  | _ => .non
section
variable {K : PySem.W.Frag} {B : Bs} {F H : Hp} {σ : L2.St} {ε : Sg} {x : Vl} {v : V} {xs : List D}
theorem Rep.al {i : Nat} {n : Nd} (r : Rep K B F H σ ε) (h : ∃ k, ε[i]? = some (some (.ow k n))) (hv : σ[i]? = some (some v) ∧ n.isL = true) : ∃ a, v = .ref a ∧ RNl K F H n a ∧ F a = none ∧ B a = none := by
  obtain ⟨k, h⟩ := h
  obtain ⟨hv, hn⟩ := hv
  obtain ⟨u, h1, h2⟩ := r.val i _ h
  rw [hv] at h1
  have e : v = u := Option.some.inj (Option.some.inj h1)
  subst e
  obtain ⟨a, q1, q2, q3, q4, _⟩ := h2
  exact ⟨a, q1, q2.nl hn, q3, q4⟩
theorem ls_of (r : Rep K B F H σ ε) (rv : RVl K B F H σ ε x v) (h : lsOf x = some xs) : ∃ a vs, v = .ref a ∧ H a = some (.lst vs) ∧ Rps K F xs vs := by
  unfold lsOf at h
  split at h <;> cases h
  · obtain ⟨a, vs, e, q, s⟩ := rv
    exact ⟨a, vs, e, r.fh _ _ q, s⟩
  · obtain ⟨a, e, ⟨vs, q, s⟩, _⟩ := rv
    exact ⟨a, vs, e, q, s⟩
  · obtain ⟨a, e, ⟨vs, q, s⟩, _⟩ := r.al rv.1 rv.2
    exact ⟨a, vs, e, q, s⟩
theorem sq_of (r : Rep K B F H σ ε) (rv : RVl K B F H σ ε x v) (h : sqOf x = some xs) : ∃ a vs, v = .ref a ∧ (SqL K H a vs ∨ SqT K H a vs) ∧ Rps K F xs vs := by
  unfold sqOf at h
  split at h <;> cases h
  · obtain ⟨a, vs, e, q, s⟩ := rv
    exact ⟨a, vs, e, .inl (SqL.of (r.fh _ _ q)), s⟩
  · obtain ⟨a, vs, e, q, s⟩ := rv
    exact ⟨a, vs, e, .inr (sqT_mono r.fh q), s⟩
  · obtain ⟨a, vs, e, q, s⟩ := rv
    exact ⟨a, vs, e, .inl (r.fh.seq q), s⟩
  · obtain ⟨a, e, ⟨vs, q, s⟩, _⟩ := rv
    exact ⟨a, vs, e, .inl (SqL.of q), s⟩
  · obtain ⟨a, e, ⟨vs, q, s⟩, _⟩ := r.al rv.1 rv.2
    exact ⟨a, vs, e, .inl (SqL.of q), s⟩
/-- laying something new, not frozen -/
theorem Rep.lay {p : Addr} {o : HO} (r : Rep K B F H σ ε) (hp : H p = none) : Rep K B F (upd H p o) σ ε := by
  have s : Same H (upd H p o) := fun b u q => by rw [upd_ne (ne_of_none q hp)]; exact q
  refine ⟨r.fh.trans s, r.bh.trans s, r.len, fun i sl e => ?_, r.sep⟩
  obtain ⟨v, h1, h2⟩ := r.val i sl e
  refine ⟨v, h1, ?_⟩
  cases sl with
  | p d => exact h2
  | ow k n =>
    obtain ⟨a, e1, e2, e3, e4⟩ := h2
    obtain ⟨o', ho⟩ := e2.there
    exact ⟨a, e1, e2.move (Same.refl F) (upd_ne (ne_of_none ho hp)), e3, e4⟩
/-- .. and frozen -/
theorem Ext.lay {p : Addr} {o : HO} (hf : F p = none) (hb : B p = none) : Ext B F (upd F p o) :=
  ⟨fun b u q => by rw [upd_ne (ne_of_none q hf)]; exact q, fun a h q => by
    have : a ≠ p := fun z => by subst z; exact q hb
    rw [upd_ne this]; exact h⟩
theorem Rep.freeze {p : Addr} {o : HO} (r : Rep K B F H σ ε) (hp : H p = none) : Rep K B (upd F p o) (upd H p o) σ ε := by
  have hf : F p = none := same_none r.fh hp
  have hb : B p = none := same_none r.bh hp
  have s : Same H (upd H p o) := fun b u q => by rw [upd_ne (ne_of_none q hp)]; exact q
  have sf : Same F (upd F p o) := fun b u q => by rw [upd_ne (ne_of_none q hf)]; exact q
  refine ⟨fun b u q => ?_, r.bh.trans s, r.len, fun i sl e => ?_, r.sep⟩
  · by_cases hbp : b = p
    · subst hbp; rw [upd_same] at q ⊢; exact q
    · rw [upd_ne hbp] at q ⊢; exact r.fh b u q
  · obtain ⟨v, h1, h2⟩ := r.val i sl e
    refine ⟨v, h1, ?_⟩
    cases sl with
    | p d => exact Rp.mono sf h2
    | ow k n =>
      obtain ⟨a, e1, e2, e3, e4⟩ := h2
      obtain ⟨o', ho⟩ := e2.there
      have hap : a ≠ p := ne_of_none ho hp
      exact ⟨a, e1, e2.move sf (upd_ne hap), by rw [upd_ne hap]; exact e3, e4⟩
/-- a fresh list at p -/
theorem RVl.fresh {p : Addr} {vs : List V} (r : Rep K B F H σ ε) (hp : H p = none) (s : Rps K F xs vs) : RVl K B F (upd H p (.lst vs)) σ ε (.ow (.lst xs)) (.ref p) := by
  refine ⟨p, rfl, ⟨vs, upd_same, s⟩, same_none r.fh hp, same_none r.bh hp, fun i k m e es => ?_⟩
  obtain ⟨v, h1, h2⟩ := r.val i _ e
  obtain ⟨a, e1, e2, _⟩ := h2
  rw [h1] at es
  have e5 : v = .ref p := Option.some.inj (Option.some.inj es)
  rw [e1] at e5
  have e6 : a = p := V.ref.inj e5
  obtain ⟨o, ho⟩ := e2.there
  rw [e6, hp] at ho
  cases ho
theorem RVl.tup {p : Addr} {vs : List V} (hf : F p = none) (s : Rps K F xs vs) : RVl K B (upd F p (.tup vs)) (upd H p (.tup vs)) σ ε (.p (.tup xs)) (.ref p) :=
  ⟨p, vs, rfl, SqT.of upd_same, s.mono fun b u q => by rw [upd_ne (ne_of_none q hf)]; exact q⟩
end

/-! ### two operands -/
def dBin (q : Vl → Vl → (Vl → Prop) → Prop) (ta tb : DE) : DE := fun ε R E => ta ε (fun x ε1 => tb ε1 (fun y ε2 => stb x ε2 ∧ q x y fun z => R z ε2) E) E
def OpD (K : PySem.W.Frag) (r : R2) (q : Vl → Vl → (Vl → Prop) → Prop) : Prop := ∀ (B : Bs) (F H : Hp) (σ : L2.St) (ε : Sg) (x y : Vl) (v w : V) (Q : VK) (R : Vl → Prop), Rep K B F H σ ε → RVl K B F H σ ε x v → RVl K B F H σ ε y w → q x y R →
  (∀ v' H' F' z, Ext B F F' → Rep K B F' H' σ ε → RVl K B F' H' σ ε z v' → R z → Q v' H') → r v w H Q
section
variable {K : PySem.W.Frag} {W : WX}
theorem lift_bin {r : R2} {q : Vl → Vl → (Vl → Prop) → Prop} {ta tb : DE} (hq : OpD K r q) {σ : L2.St} {H : Hp} {Q : VK} (h : lift K W (dBin q ta tb) σ H Q) : tOp r (lift K W ta) (lift K W tb) σ H Q := by
  obtain ⟨ε, B, F, R, RE, rp, t, c, we⟩ := h
  refine ⟨ε, B, F, _, RE, rp, t, fun v H1 F1 x ε1 e1 r1 rv1 t1 => ?_, we⟩
  obtain ⟨B1, sB, r2, back, _⟩ := r1.hold rv1
  refine ⟨ε1, B1, F1, _, RE, r2, t1, fun w H2 F2 y ε2 e2 r3 rv2 t2 => ?_, we.weak sB e1⟩
  have e2' := e2.weak sB
  exact hq B F2 H2 σ ε2 x y v w Q _ (r3.weak sB) (back F2 H2 ε2 e2 r3 t2.1) (rv2.weak sB) t2.2 fun v' H' F' z e3 r4 rv3 h3 => c v' H' F' z ε2 ((e1.trans e2').trans e3) r4 rv3 h3
end
section
variable {X : Cx} {W : WX} {a b : Expr} {ta tb : DE} {pos : Pos} {r : R2} {q : Vl → Vl → (Vl → Prop) → Prop}
theorem de_op {op : Operator} (ho : OpR X (binaryOp op) r) (hq : OpD X.K r q) (ha : PE X a (lift X.K W ta)) (hb : PE X b (lift X.K W tb)) : PE X (.BinOp a op b pos) (lift X.K W (dBin q ta tb)) := PE_imp (pe_op ho ha hb) fun _ _ _ => lift_bin hq
theorem de_cmp {op : CmpOp} (ho : OpR X (compareOp op) r) (hq : OpD X.K r q) (hm : behindInMarks op b = false) (ha : PE X a (lift X.K W ta)) (hb : PE X b (lift X.K W tb)) : PE X (.Compare a [op] [b] pos) (lift X.K W (dBin q ta tb)) := PE_imp (pe_cmpR ho ha hb hm) fun _ _ _ => lift_bin hq
theorem de_ix (hr : IxR X r) (hq : OpD X.K r q) (hs : PlainIx b) (ha : PE X a (lift X.K W ta)) (hb : PE X b (lift X.K W tb)) : PE X (.Subscript a b pos) (lift X.K W (dBin q ta tb)) := PE_imp (pe_ix hr ha hb hs) fun _ _ _ => lift_bin hq
end

/-! ### + - * // % ** -/
def b2n (b : Bool) : Int := if b then 1 else 0
def addq : Vl → Vl → (Vl → Prop) → Prop
  | .p (.int i), .p (.int j), R => R (.p (.int (i + j)))
  | .p (.int i), .p (.bl j), R => R (.p (.int (i + b2n j)))
  | .p (.bl i), .p (.int j), R => R (.p (.int (b2n i + j)))
  | .p (.bl i), .p (.bl j), R => R (.p (.int (b2n i + b2n j)))
  | .p (.str i), .p (.str j), R => i.length + j.length ≤ sizeLine ∧ R (.p (.str (i ++ j)))
  | .p (.tup xs), .p (.tup ys), R => xs.length + ys.length ≤ sizeLine ∧ R (.p (.tup (xs ++ ys)))
  | x, y, R => ∃ xs ys, lsOf x = some xs ∧ lsOf y = some ys ∧ xs.length + ys.length ≤ sizeLine ∧ R (.ow (.lst (xs ++ ys)))
def rAddB : R2 := fun x y H Q => (∃ i j, x = .int i ∧ y = .bl j ∧ Q (.int (i + b2n j)) H) ∨ (∃ i j, x = .bl i ∧ y = .int j ∧ Q (.int (b2n i + j)) H) ∨ (∃ i j, x = .bl i ∧ y = .bl j ∧ Q (.int (b2n i + b2n j)) H)
def rSubB : R2 := fun x y H Q => (∃ i j, x = .int i ∧ y = .bl j ∧ Q (.int (i - b2n j)) H) ∨ (∃ i j, x = .bl i ∧ y = .int j ∧ Q (.int (b2n i - j)) H) ∨ (∃ i j, x = .bl i ∧ y = .bl j ∧ Q (.int (b2n i - b2n j)) H)
section
variable {X : Cx}
theorem op_addB : OpR X (binaryOp .Add) rAddB := by
  intro pins s σ H x y v u Q I rx ry h
  rcases h with ⟨i, j, rfl, rfl, q⟩ | ⟨i, j, rfl, rfl, q⟩ | ⟨i, j, rfl, rfl, q⟩
  · obtain ⟨t, rfl⟩ := rx
    cases ry
    exact PySem.add_int_bool ⟨.int _, H, I.tok _, ⟨_, rfl⟩, q⟩
  · obtain ⟨t, rfl⟩ := ry
    cases rx
    exact PySem.IntBool.add_bool_int ⟨.int _, H, I.tok _, ⟨_, rfl⟩, q⟩
  · cases rx
    cases ry
    exact PyProof.Rows.add_bool ⟨.int _, H, I.tok _, ⟨_, rfl⟩, q⟩
theorem op_subB : OpR X (binaryOp .Sub) rSubB := by
  intro pins s σ H x y v u Q I rx ry h
  rcases h with ⟨i, j, rfl, rfl, q⟩ | ⟨i, j, rfl, rfl, q⟩ | ⟨i, j, rfl, rfl, q⟩
  · obtain ⟨t, rfl⟩ := rx
    cases ry
    exact PySem.IntBool.sub_int_bool ⟨.int _, H, I.tok _, ⟨_, rfl⟩, q⟩
  · obtain ⟨t, rfl⟩ := ry
    cases rx
    exact PySem.IntBool.sub_bool_int ⟨.int _, H, I.tok _, ⟨_, rfl⟩, q⟩
  · cases rx
    cases ry
    exact PyProof.Rows.sub_bool ⟨.int _, H, I.tok _, ⟨_, rfl⟩, q⟩
end

/-! ### tuple * int, whatever the int -/
theorem tmul_same (l : Addr) (items : Array Value) (n : Nat) (dd : Option Addr) (sl : Array (Option Value)) (x : Int) (u : Tok) (a0 : (decide (x < -(2 ^ 63)) || decide (x ≥ 2 ^ 63)) = false) (a1 : (items.isEmpty || x == 1) = true) :
    Meets (Builtin.«tuple.__mul__» ⟨[.ref l, .int x u], []⟩) (fun _ R s => s.heap.get? l = some { cls := .type "tuple", dict := dd, data := .seq items n, slots := sl } ∧ R (.ok (.ret (Value.ref l))) s) :=
  .of_wp fun prog w A R s h => by
    obtain ⟨hp, g, d, tk, os⟩ := s
    obtain ⟨hl, h⟩ := h
    have f1 := AutoSeq1.idx_int
    wp_walk using wpAny_loadPart' hl
    repeat (first
      | (refine wpAny_ite_false (decide_eq_false (by rw [a0]; exact Bool.false_ne_true)) ?_; wp_walk using wpAny_loadPart' hl)
      | (refine wpAny_ite_true (decide_eq_true a1) ?_; wp_walk using wpAny_loadPart' hl))
    exact ⟨_, rfl, h⟩
theorem tmul_none (l : Addr) (items : Array Value) (n : Nat) (dd : Option Addr) (sl : Array (Option Value)) (x : Int) (u : Tok) (a0 : (decide (x < -(2 ^ 63)) || decide (x ≥ 2 ^ 63)) = false) (a1 : (items.isEmpty || x == 1) = false) (a2 : (decide (x ≤ 0) || items.isEmpty) = true) :
    Meets (Builtin.«tuple.__mul__» ⟨[.ref l, .int x u], []⟩) (fun _ R s => s.heap.get? l = some { cls := .type "tuple", dict := dd, data := .seq items n, slots := sl } ∧
      R (.ok (.ret (Value.ref s.heap.objs.size))) { s with heap := s.heap.push { cls := Value.type "tuple", data := Data.seq #[] }, toks := s.toks }) :=
  .of_wp fun prog w A R s h => by
    obtain ⟨hp, g, d, tk, os⟩ := s
    obtain ⟨hl, h⟩ := h
    have f1 := AutoSeq1.idx_int
    wp_walk using wpAny_loadPart' hl
    repeat (first
      | (refine wpAny_ite_false (decide_eq_false (by rw [a0]; exact Bool.false_ne_true)) ?_; wp_walk using wpAny_loadPart' hl)
      | (refine wpAny_ite_false (decide_eq_false (by rw [a1]; exact Bool.false_ne_true)) ?_; wp_walk using wpAny_loadPart' hl)
      | (refine wpAny_ite_true (decide_eq_true a2) ?_; wp_walk using wpAny_loadPart' hl))
    exact ⟨_, rfl, h⟩
end DL

/-! DL3: the operators over pure data. -/
namespace DL
open PySem PySem.Spec L2

def rRepA (K : PySem.W.Frag) : R2 := fun x y H Q => ∃ l k xs, x = .ref l ∧ y = .int k ∧ SqT K H l xs ∧ -(2 ^ 63) ≤ k ∧ k < 2 ^ 63 ∧ xs.length * k.toNat ≤ sizeLine ∧
  ((List.replicate k.toNat xs).flatten = xs → Q (.ref l) H) ∧ ∀ p, H p = none → Q (.ref p) (upd H p (.tup (List.replicate k.toNat xs).flatten))
theorem flat_one {α : Type} (xs : List α) : (List.replicate 1 xs).flatten = xs := by simp
theorem flat_nil {α : Type} (k : Nat) : (List.replicate k ([] : List α)).flatten = [] := by
  induction k with
  | zero => rfl
  | succ k ih => rw [List.replicate_succ, List.flatten_cons, ih]; rfl
section
variable {X : Cx}
theorem op_repA : OpR X (binaryOp .Mult) (rRepA X.K) := by
  intro pins s σ H x y v u Q I rx ry h
  obtain ⟨l, k, xs, rfl, rfl, hT, h1, h2, hz, qs, qn⟩ := h
  cases rx
  obtain ⟨t, rfl⟩ := ry
  obtain ⟨its, r, ⟨⟨cls, dd, data, sl⟩, ho, hc, n, hd⟩, hs⟩ := I.tuple hT
  simp only at hc hd
  subst hc hd
  have hle : its.length = xs.length := r.length.symm
  have c0 : (decide (k < -(2 ^ 63)) || decide (k ≥ 2 ^ 63)) = false := by
    rw [decide_eq_false (by omega), decide_eq_false (by omega)] <;> rfl
  have go : ∀ {R : Prop}, R → R := fun h => h
  refine wpAny_binaryOp_repeat_ref (T := "tuple") (U := "int") (by decide) ⟨_, ho, rfl⟩ (fun s' => typeIs_int s' k t) noFill_tuple_mul F.fills_int_mul F.slot_int_rmul repeat_tuple F.slot_int_index.lookup
    (call_meets F.slot_int_rmul (typeIs_int s k t) F.entry_int_rmul (F.args_int_rmul_2 _ _) (int_rmul_tuple k t l its.toArray n dd sl) ⟨ho, rfl, ⟨_, ho, rfl⟩, ?_⟩)
  by_cases e1 : (its.toArray.isEmpty || k == 1) = true
  · refine call_meets F.slot_tuple_mul ⟨_, ho, rfl⟩ F.entry_tuple_mul (F.args_tuple_mul_2 _ _) (tmul_same l its.toArray n dd sl k t c0 e1) ⟨ho, ?_⟩
    refine ⟨.ref l, H, I, rfl, qs ?_⟩
    rw [Bool.or_eq_true] at e1
    rcases e1 with e1 | e1
    · have e2 : xs = [] := by
        apply List.eq_nil_of_length_eq_zero
        rw [← hle]
        cases its with
        | nil => rfl
        | cons a b => cases e1
      rw [e2, flat_nil]
    · have e2 : k = 1 := by simpa using e1
      subst e2
      exact flat_one xs
  · have e1' : (its.toArray.isEmpty || k == 1) = false := by
      cases q : (its.toArray.isEmpty || k == 1) with
      | false => rfl
      | true => exact absurd q e1
    by_cases e2 : (decide (k ≤ 0) || its.toArray.isEmpty) = true
    · refine call_meets F.slot_tuple_mul ⟨_, ho, rfl⟩ F.entry_tuple_mul (F.args_tuple_mul_2 _ _) (tmul_none l its.toArray n dd sl k t c0 e1' e2) ⟨ho, ?_⟩
      have e3 : (List.replicate k.toNat xs).flatten = [] := by
        rw [Bool.or_eq_true] at e2
        rcases e2 with e2 | e2
        · have : k.toNat = 0 := by have := of_decide_eq_true e2; omega
          rw [this]; rfl
        · rw [Bool.or_eq_false_iff] at e1'
          rw [e1'.1] at e2; cases e2
      refine ⟨.ref s.heap.objs.size, _, I.laid (t' := s.toks) (o := .tup []) (fun b ob q => Heap.get?_push_of_some _ q) (Nat.le_refl _) ?_, rfl, ?_⟩
      · exact ⟨Nat.zero_le _, [], .nil, PyProof.Rows.IsTup.new _ _⟩
      · rw [← e3]; exact qn _ (I.hok.fresh (Nat.le_refl _))
    · have e2' : (decide (k ≤ 0) || its.toArray.isEmpty) = false := by
        cases q : (decide (k ≤ 0) || its.toArray.isEmpty) with
        | false => rfl
        | true => exact absurd q e2
      have hk : 0 < k := by
        rw [Bool.or_eq_false_iff] at e2'
        have := of_decide_eq_false e2'.1
        omega
      have hmul : ((its.toArray.size : Nat) : Int) * k = ((xs.length * k.toNat : Nat) : Int) := by
        rw [List.size_toArray, hle, Int.natCast_mul, Int.toNat_of_nonneg (by omega)]
      have hsl : (sizeLine : Nat) = 16777216 := sizeLine_eq
      have c3 : ¬ ((its.toArray.size : Nat) : Int) * k > (2 ^ 63 - 1) / 8 := by
        rw [hmul]; omega
      have c4 : Builtin.Tuple.tupleTooMany (((its.toArray.size : Nat) : Int) * k) = false := by
        unfold Builtin.Tuple.tupleTooMany
        rw [hmul]
        exact decide_eq_false (by omega)
      have flen : (List.replicate k.toNat its).flatten.length ≤ sizeLine := by
        rw [PyProof.Rows.lm_len_rep_flat, hle, Nat.mul_comm]; exact hz
      refine call_meets F.slot_tuple_mul ⟨_, ho, rfl⟩ F.entry_tuple_mul (F.args_tuple_mul_2 _ _) (tuple_mulW l its.toArray n dd sl k t c0 e1' e2' c3 c4 (by rw [size_rep, List.size_toArray]; exact flen)) ⟨ho, ?_⟩
      rw [size_rep]
      refine ⟨.ref s.heap.objs.size, _, I.laid (t' := s.toks) (o := .tup (List.replicate k.toNat xs).flatten) (fun b ob q => Heap.get?_push_of_some _ q) (Nat.le_refl _) ?_, rfl, qn _ (I.hok.fresh (Nat.le_refl _))⟩
      exact ⟨by rw [PyProof.Rows.lm_len_rep_flat, Nat.mul_comm]; exact hz, _, r.rep k.toNat, PyProof.Rows.IsTup.new _ _⟩
/-- a text times an int -/
def rRepS : R2 := fun x y H Q => ∃ z k, x = .str z ∧ y = .int k ∧ MulOk z k ∧ Q (.str (Txt.mul z k)) H
theorem op_repS : OpR X (binaryOp .Mult) rRepS := by
  intro pins s σ H x y v u Q I rx ry h
  obtain ⟨z, k, rfl, rfl, ok, q⟩ := h
  obtain ⟨t, rfl⟩ := rx
  obtain ⟨t2, rfl⟩ := ry
  exact SB.mul ok fun t' k' => ⟨.str _, H, I.tok _, ⟨_, rfl⟩, q⟩
end

/-! ### what the operators need and give -/
section
variable {K : PySem.W.Frag}
theorem rep_rps {F : Hp} {ds : List D} {vs : List V} (h : Rps K F ds vs) : ∀ k : Nat, Rps K F (List.replicate k ds).flatten (List.replicate k vs).flatten
  | 0 => rfl
  | k + 1 => by
    rw [List.replicate_succ, List.flatten_cons, List.replicate_succ, List.flatten_cons]
    exact h.append (rep_rps h k)
section
variable {B : Bs} {F H : Hp} {σ : L2.St} {ε : Sg} {Q : VK} {R : Vl → Prop}
abbrev Fin2 (K : PySem.W.Frag) (B : Bs) (F H : Hp) (σ : L2.St) (ε : Sg) (R : Vl → Prop) (Q : VK) : Prop := ∀ (v' : V) (H' F' : Hp) (z : Vl), Ext B F F' → Rep K B F' H' σ ε → RVl K B F' H' σ ε z v' → R z → Q v' H'
theorem fin_p (c : Fin2 K B F H σ ε R Q) (r : Rep K B F H σ ε) {d : D} {v : V} (q : R (.p d)) (h : Rp K F d v) : Q v H := c v H F (.p d) (Ext.refl _ _) r h q
theorem fin_tup (c : Fin2 K B F H σ ε R Q) (r : Rep K B F H σ ε) {p : Addr} {xs : List D} {vs : List V} (hp : H p = none) (s : Rps K F xs vs) (q : R (.p (.tup xs))) : Q (.ref p) (upd H p (.tup vs)) := by
  have hf := same_none r.fh hp
  exact c _ _ _ _ (Ext.lay hf (same_none r.bh hp)) (r.freeze hp) (RVl.tup hf s) q
theorem fin_lst (c : Fin2 K B F H σ ε R Q) (r : Rep K B F H σ ε) {p : Addr} {xs : List D} {vs : List V} (hp : H p = none) (s : Rps K F xs vs) (q : R (.ow (.lst xs))) : Q (.ref p) (upd H p (.lst vs)) :=
  c _ _ F _ (Ext.refl _ _) (r.lay hp) (RVl.fresh r hp s) q
end
def rAddA (K : PySem.W.Frag) : R2 := fun x y H Q => (rI0 (fun i j => .int (i + j)) x y H Q ∨ rAddB x y H Q) ∨ (∃ i j, x = .str i ∧ y = .str j ∧ i.length + j.length ≤ sizeLine ∧ Q (.str (i ++ j)) H) ∨ (rCatA K x y H Q ∨ rCat x y H Q)
theorem op_addA {X : Cx} : OpR X (binaryOp .Add) (rAddA X.K) := (op_add.or op_addB).or (op_add_str.or (op_catA.or op_cat))
theorem opd_add : OpD K (rAddA K) addq := by
  intro B F H σ ε x y v w Q R r rx ry q c
  unfold addq at q
  split at q
  · cases rx; cases ry
    exact .inl (.inl ⟨_, _, rfl, rfl, fin_p c r q rfl⟩)
  · cases rx; cases ry
    exact .inl (.inr (.inl ⟨_, _, rfl, rfl, fin_p c r q rfl⟩))
  · cases rx; cases ry
    exact .inl (.inr (.inr (.inl ⟨_, _, rfl, rfl, fin_p c r q rfl⟩)))
  · cases rx; cases ry
    exact .inl (.inr (.inr (.inr ⟨_, _, rfl, rfl, fin_p c r q rfl⟩)))
  · cases rx; cases ry
    exact .inr (.inl ⟨_, _, rfl, rfl, q.1, fin_p c r q.2 rfl⟩)
  · obtain ⟨a, vs, rfl, ha, hs⟩ := rx
    obtain ⟨b, ws, rfl, hb, ht⟩ := ry
    refine .inr (.inr (.inl ⟨a, b, vs, ws, rfl, rfl, sqT_mono r.fh ha, sqT_mono r.fh hb, by rw [hs.length, ht.length]; exact q.1, fun e => ?_, fun _ e => ?_, fun _ _ p hp => ?_⟩))
    · have e' := hs.ne.mp e
      have q2 := q.2
      rw [e', List.nil_append] at q2
      exact fin_p c r q2 ⟨b, ws, rfl, hb, ht⟩
    · have e' := ht.ne.mp e
      have q2 := q.2
      rw [e', List.append_nil] at q2
      exact fin_p c r q2 ⟨a, vs, rfl, ha, hs⟩
    · have hf := same_none r.fh hp
      exact c _ _ _ _ (Ext.lay hf (same_none r.bh hp)) (r.freeze hp) (RVl.tup hf (hs.append ht)) q.2
  · obtain ⟨xs, ys, e1, e2, hz, q⟩ := q
    obtain ⟨a, vs, rfl, ha, hs⟩ := ls_of r rx e1
    obtain ⟨b, ws, rfl, hb, ht⟩ := ls_of r ry e2
    refine .inr (.inr (.inr ⟨a, b, vs, ws, rfl, rfl, ha, hb, by rw [hs.length, ht.length]; exact hz, fun p hp => ?_⟩))
    exact c _ _ F _ (Ext.refl _ _) (r.lay hp) (RVl.fresh r hp (hs.append ht)) q
def subq : Vl → Vl → (Vl → Prop) → Prop
  | .p (.int i), .p (.int j), R => R (.p (.int (i - j)))
  | .p (.int i), .p (.bl j), R => R (.p (.int (i - b2n j)))
  | .p (.bl i), .p (.int j), R => R (.p (.int (b2n i - j)))
  | .p (.bl i), .p (.bl j), R => R (.p (.int (b2n i - b2n j)))
  | _, _, _ => False
def rSubA : R2 := fun x y H Q => rI0 (fun i j => .int (i - j)) x y H Q ∨ rSubB x y H Q
theorem op_subA {X : Cx} : OpR X (binaryOp .Sub) rSubA := op_sub.or op_subB
theorem opd_sub : OpD K rSubA subq := by
  intro B F H σ ε x y v w Q R r rx ry q c
  unfold subq at q
  split at q
  · cases rx; cases ry
    exact .inl ⟨_, _, rfl, rfl, fin_p c r q rfl⟩
  · cases rx; cases ry
    exact .inr (.inl ⟨_, _, rfl, rfl, fin_p c r q rfl⟩)
  · cases rx; cases ry
    exact .inr (.inr (.inl ⟨_, _, rfl, rfl, fin_p c r q rfl⟩))
  · cases rx; cases ry
    exact .inr (.inr (.inr ⟨_, _, rfl, rfl, fin_p c r q rfl⟩))
  · exact q.elim
/-- a product that the machine makes -/
def MulC (i j : Int) : Prop := CMul i j ∨ CMulW i j
def mulq : Vl → Vl → (Vl → Prop) → Prop
  | .p (.int i), .p (.int j), R => MulC i j ∧ R (.p (.int (i * j)))
  | .p (.str x), .p (.int j), R => MulOk x j ∧ R (.p (.str (Txt.mul x j)))
  | .p (.tup xs), .p (.int k), R => (-(2 ^ 63) ≤ k ∧ k < 2 ^ 63 ∧ xs.length * k.toNat ≤ sizeLine) ∧ R (.p (.tup (List.replicate k.toNat xs).flatten))
  | x, .p (.int k), R => ∃ xs, lsOf x = some xs ∧ (-(2 ^ 63) ≤ k ∧ k < 2 ^ 63 ∧ xs.length * k.toNat ≤ sizeLine) ∧ R (.ow (.lst (List.replicate k.toNat xs).flatten))
  | _, _, _ => False
def rMulA (K : PySem.W.Frag) : R2 := fun x y H Q => (rI CMul (fun i j => .int (i * j)) x y H Q ∨ rI CMulW (fun i j => .int (i * j)) x y H Q) ∨ rRepS x y H Q ∨ (rRepA K x y H Q ∨ rRep x y H Q)
theorem op_mulA {X : Cx} : OpR X (binaryOp .Mult) (rMulA X.K) := (op_mul.or op_mulW).or (op_repS.or (op_repA.or op_rep))
theorem opd_mul : OpD K (rMulA K) mulq := by
  intro B F H σ ε x y v w Q R r rx ry q c
  unfold mulq at q
  split at q
  · cases rx; cases ry
    obtain ⟨h | h, q⟩ := q
    · exact .inl (.inl ⟨_, _, rfl, rfl, h, fin_p c r q rfl⟩)
    · exact .inl (.inr ⟨_, _, rfl, rfl, h, fin_p c r q rfl⟩)
  · cases rx; cases ry
    exact .inr (.inl ⟨_, _, rfl, rfl, q.1, fin_p c r q.2 rfl⟩)
  · obtain ⟨a, vs, rfl, ha, hs⟩ := rx
    cases ry
    obtain ⟨⟨h1, h2, h3⟩, q⟩ := q
    refine .inr (.inr (.inl ⟨a, _, vs, rfl, rfl, sqT_mono r.fh ha, h1, h2, by rw [hs.length]; exact h3, fun e => ?_, fun p hp => ?_⟩))
    · refine fin_p c r q ⟨a, vs, rfl, ha, ?_⟩
      rw [← e]
      exact rep_rps hs _
    · have hf := same_none r.fh hp
      exact c _ _ _ _ (Ext.lay hf (same_none r.bh hp)) (r.freeze hp) (RVl.tup hf (rep_rps hs _)) q
  · obtain ⟨xs, e1, ⟨h1, h2, h3⟩, q⟩ := q
    obtain ⟨a, vs, rfl, ha, hs⟩ := ls_of r rx e1
    cases ry
    refine .inr (.inr (.inr ⟨a, _, vs, rfl, rfl, ha, h1, h2, by rw [hs.length]; exact h3, fun p hp => ?_⟩))
    exact c _ _ F _ (Ext.refl _ _) (r.lay hp) (RVl.fresh r hp (rep_rps hs _)) q
  · exact q.elim
/-- a divisor that the machine takes -/
def DivC (j : Int) : Prop := j ≠ 0 ∧ (j.natAbs < 1073741824 ∨ j.natAbs.log2 < 9000)
def CDivL (_ j : Int) : Prop := j ≠ 0 ∧ j.natAbs.log2 < 9000
theorem op_fdivL {X : Cx} : OpR X (binaryOp .FloorDiv) (rI CDivL fun i j => .int (i.fdiv j)) := opI fun _ _ _ _ _ _ _ hc q => PyProof.Rows.floordiv_int hc.1 q (.inl (PyProof.noPylong_of_log2 hc.2))
def fdivq : Vl → Vl → (Vl → Prop) → Prop
  | .p (.int i), .p (.int j), R => DivC j ∧ R (.p (.int (i.fdiv j)))
  | _, _, _ => False
def rDivA : R2 := fun x y H Q => rI CDivN (fun i j => .int (i.fdiv j)) x y H Q ∨ rI CDivL (fun i j => .int (i.fdiv j)) x y H Q
theorem op_fdivA {X : Cx} : OpR X (binaryOp .FloorDiv) rDivA := op_fdivN.or op_fdivL
theorem opd_fdiv : OpD K rDivA fdivq := by
  intro B F H σ ε x y v w Q R r rx ry q c
  unfold fdivq at q
  split at q
  · cases rx; cases ry
    obtain ⟨⟨h0, h | h⟩, q⟩ := q
    · exact .inl ⟨_, _, rfl, rfl, ⟨h0, h⟩, fin_p c r q rfl⟩
    · exact .inr ⟨_, _, rfl, rfl, ⟨h0, h⟩, fin_p c r q rfl⟩
  · exact q.elim
def fmodq : Vl → Vl → (Vl → Prop) → Prop
  | .p (.int i), .p (.int j), R => j ≠ 0 ∧ R (.p (.int (i.fmod j)))
  | _, _, _ => False
theorem opd_fmod : OpD K (rI (fun _ j => j ≠ 0) fun i j => .int (i.fmod j)) fmodq := by
  intro B F H σ ε x y v w Q R r rx ry q c
  unfold fmodq at q
  split at q
  · cases rx; cases ry
    exact ⟨_, _, rfl, rfl, q.1, fin_p c r q.2 rfl⟩
  · exact q.elim
def powq : Vl → Vl → (Vl → Prop) → Prop
  | .p (.int i), .p (.int j), R => (0 ≤ j ∧ j ≤ 1000000 ∧ i.natAbs < 2 ^ 64) ∧ R (.p (.int (i ^ j.toNat)))
  | _, _, _ => False
theorem opd_pow : OpD K (rI CPow fun i j => .int (i ^ j.toNat)) powq := by
  intro B F H σ ε x y v w Q R r rx ry q c
  unfold powq at q
  split at q
  · cases rx; cases ry
    exact ⟨_, _, rfl, rfl, q.1, fin_p c r q.2 rfl⟩
  · exact q.elim
end
section
variable {X : Cx} {W : WX} {a b : Expr} {ta tb : DE} {pos : Pos}
theorem de_add (ha : PE X a (lift X.K W ta)) (hb : PE X b (lift X.K W tb)) : PE X (.BinOp a .Add b pos) (lift X.K W (dBin addq ta tb)) := de_op op_addA opd_add ha hb
theorem de_sub (ha : PE X a (lift X.K W ta)) (hb : PE X b (lift X.K W tb)) : PE X (.BinOp a .Sub b pos) (lift X.K W (dBin subq ta tb)) := de_op op_subA opd_sub ha hb
theorem de_mul (ha : PE X a (lift X.K W ta)) (hb : PE X b (lift X.K W tb)) : PE X (.BinOp a .Mult b pos) (lift X.K W (dBin mulq ta tb)) := de_op op_mulA opd_mul ha hb
theorem de_fdiv (ha : PE X a (lift X.K W ta)) (hb : PE X b (lift X.K W tb)) : PE X (.BinOp a .FloorDiv b pos) (lift X.K W (dBin fdivq ta tb)) := de_op op_fdivA opd_fdiv ha hb
theorem de_mod (ha : PE X a (lift X.K W ta)) (hb : PE X b (lift X.K W tb)) : PE X (.BinOp a .Mod b pos) (lift X.K W (dBin fmodq ta tb)) := de_op op_modN opd_fmod ha hb
theorem de_pow (ha : PE X a (lift X.K W ta)) (hb : PE X b (lift X.K W tb)) : PE X (.BinOp a .Pow b pos) (lift X.K W (dBin powq ta tb)) := de_op op_pow opd_pow ha hb
end
end DL

/-! DL4: equality, order, membership, truth, and, or, not, subscripts, slices, displays. -/
namespace DL
open PySem PySem.Spec L2

/-! ### equality -/
mutual
def toP : D → PyData
  | .non => .none
  | .bl b => .bool b
  | .int i => .int i
  | .str x => .str x
  | .tup xs => .tuple (toPs xs)
  | .lst xs => .list (toPs xs)
  | .frl xs => .list (toPs xs)
def toPs : List D → List PyData
  | [] => []
  | d :: r => toP d :: toPs r
end
mutual
theorem Rp.dp {K : PySem.W.Frag} {F H : Hp} (s : Same F H) : ∀ {d : D} {v : V}, Rp K F d v → Dp K H v (toP d)
  | .non, _, h => by
    have e : _ = V.non := h
    subst e; exact .non
  | .bl _, _, h => by
    have e : _ = V.bl _ := h
    subst e; exact .bl _
  | .int _, _, h => by
    have e : _ = V.int _ := h
    subst e; exact .int _
  | .str _, _, h => by
    have e : _ = V.str _ := h
    subst e; exact .str _
  | .tup _, _, h => by
    obtain ⟨a, vs, rfl, q, r⟩ := h
    exact .tup (sqT_mono s q) (Rps.dp s r)
  | .lst _, _, h => by
    obtain ⟨a, vs, rfl, q, r⟩ := h
    exact .lst (SqL.of (s _ _ q)) (Rps.dp s r)
  | .frl _, _, h => by
    obtain ⟨a, vs, rfl, q, r⟩ := h
    exact .lst (s.seq q) (Rps.dp s r)
theorem Rps.dp {K : PySem.W.Frag} {F H : Hp} (s : Same F H) : ∀ {d : List D} {v : List V}, Rps K F d v → DpAll K H v (toPs d)
  | [], _, h => by
    have e : _ = [] := h
    subst e; exact .nil
  | _ :: _, _, h => by
    obtain ⟨v, r, rfl, h1, h2⟩ := h
    exact .cons (Rp.dp s h1) (Rps.dp s h2)
end
/-- compared as Python does, by the parts -/
theorem beq_eq_dec {α : Type} [DecidableEq α] [BEq α] [LawfulBEq α] (a b : α) : (a == b) = decide (a = b) := by
  by_cases h : a = b
  · subst h; simp
  · simp [h]
def lock (n : Nat) (b : Bool) : Bool := if n = 0 then b else lock (n - 1) b
termination_by n
theorem lock_is (b : Bool) : lock 0 b = b := by unfold lock; rfl
/-- equality of texts; it is not reckoned by unfolding -/
def seqD (x y : Str) : Bool := lock 0 (decide (x = y))
mutual
def deq : D → D → Bool
  | .non, .non => true
  | .bl a, .bl b => decide (a = b)
  | .bl a, .int j => decide (b2n a = j)
  | .int i, .bl b => decide (i = b2n b)
  | .int i, .int j => decide (i = j)
  | .str x, .str y => seqD x y
  | .tup xs, .tup ys => deqs xs ys
  | .lst xs, .lst ys => deqs xs ys
  | .lst xs, .frl ys => deqs xs ys
  | .frl xs, .lst ys => deqs xs ys
  | .frl xs, .frl ys => deqs xs ys
  | _, _ => false
def deqs : List D → List D → Bool
  | [], [] => true
  | x :: xs, y :: ys => deq x y && deqs xs ys
  | _, _ => false
end
mutual
theorem deq_eqv : ∀ a b : D, deq a b = PyData.eqv (toP a) (toP b)
  | .non, b => by cases b <;> simp [deq, toP, PyData.eqv]
  | .bl a, b => by cases b <;> simp [deq, toP, PyData.eqv, b2n, Bool.beq_eq_decide_eq, beq_eq_dec] <;> rfl
  | .int a, b => by cases b <;> simp [deq, toP, PyData.eqv, b2n, beq_eq_dec] <;> rfl
  | .str a, b => by cases b <;> simp [deq, toP, PyData.eqv, seqD, lock_is, beq_eq_dec]
  | .tup xs, b => by
    cases b with
    | tup ys => simp only [deq, toP, PyData.eqv]; exact deqs_eqv xs ys
    | _ => simp [deq, toP, PyData.eqv]
  | .lst xs, b => by
    cases b with
    | lst ys => simp only [deq, toP, PyData.eqv]; exact deqs_eqv xs ys
    | frl ys => simp only [deq, toP, PyData.eqv]; exact deqs_eqv xs ys
    | _ => simp [deq, toP, PyData.eqv]
  | .frl xs, b => by
    cases b with
    | lst ys => simp only [deq, toP, PyData.eqv]; exact deqs_eqv xs ys
    | frl ys => simp only [deq, toP, PyData.eqv]; exact deqs_eqv xs ys
    | _ => simp [deq, toP, PyData.eqv]
theorem deqs_eqv : ∀ a b : List D, deqs a b = PyData.eqvAll (toPs a) (toPs b)
  | [], [] => by simp [deqs, toPs, PyData.eqvAll]
  | [], _ :: _ => by simp [deqs, toPs, PyData.eqvAll]
  | _ :: _, [] => by simp [deqs, toPs, PyData.eqvAll]
  | x :: xs, y :: ys => by simp only [deqs, toPs, PyData.eqvAll, deq_eqv x y, deqs_eqv xs ys]
end
mutual
/-- texts are texts, at most so deep -/
def dok : Nat → D → Bool
  | _, .str x => PyData.strOk x
  | 0, .tup _ => false
  | 0, .lst _ => false
  | 0, .frl _ => false
  | n + 1, .tup xs => doks n xs
  | n + 1, .lst xs => doks n xs
  | n + 1, .frl xs => doks n xs
  | _, _ => true
def doks : Nat → List D → Bool
  | _, [] => true
  | n, d :: r => dok n d && doks n r
end
mutual
theorem dok_shape : ∀ (n : Nat) (d : D), dok n d = true → (toP d).canLay0 = true ∧ (toP d).depth ≤ n
  | _, .non, _ => ⟨rfl, Nat.zero_le _⟩
  | _, .bl _, _ => ⟨rfl, Nat.zero_le _⟩
  | _, .int _, _ => ⟨rfl, Nat.zero_le _⟩
  | 0, .str x, h => ⟨by simp only [dok] at h; exact h, Nat.zero_le _⟩
  | _ + 1, .str x, h => ⟨by simp only [dok] at h; exact h, Nat.zero_le _⟩
  | 0, .tup _, h => by simp [dok] at h
  | 0, .lst _, h => by simp [dok] at h
  | 0, .frl _, h => by simp [dok] at h
  | n + 1, .tup xs, h => by
    simp only [dok] at h
    obtain ⟨h1, h2⟩ := doks_shape n xs h
    exact ⟨h1, Nat.succ_le_succ h2⟩
  | n + 1, .lst xs, h => by
    simp only [dok] at h
    obtain ⟨h1, h2⟩ := doks_shape n xs h
    exact ⟨h1, Nat.succ_le_succ h2⟩
  | n + 1, .frl xs, h => by
    simp only [dok] at h
    obtain ⟨h1, h2⟩ := doks_shape n xs h
    exact ⟨h1, Nat.succ_le_succ h2⟩
theorem doks_shape : ∀ (n : Nat) (d : List D), doks n d = true → PyData.canLayAll0 (toPs d) = true ∧ PyData.depthAll (toPs d) ≤ n
  | _, [], _ => ⟨rfl, Nat.zero_le _⟩
  | n, d :: r, h => by
    simp only [doks, Bool.and_eq_true] at h
    obtain ⟨h1, h2⟩ := dok_shape n d h.1
    obtain ⟨h3, h4⟩ := doks_shape n r h.2
    refine ⟨?_, ?_⟩
    · simp only [toPs, PyData.canLayAll0, h1, h3, Bool.and_self]
    · simp only [toPs, PyData.depthAll]; omega
end
theorem dok_shaped {d : D} (h : dok 60 d = true) : SeqAt.shaped (toP d) = true := by
  obtain ⟨h1, h2⟩ := dok_shape 60 d h
  unfold SeqAt.shaped
  rw [h1, Bool.true_and]
  exact decide_eq_true (by omega)
def eqq : Vl → Vl → (Vl → Prop) → Prop := fun x y R => (dok 60 (vD x) = true ∧ dok 60 (vD y) = true) ∧ R (.p (.bl (deq (vD x) (vD y))))
def neq : Vl → Vl → (Vl → Prop) → Prop := fun x y R => (dok 60 (vD x) = true ∧ dok 60 (vD y) = true) ∧ R (.p (.bl (!deq (vD x) (vD y))))
section
variable {K : PySem.W.Frag} {B : Bs} {F H : Hp} {σ : L2.St} {ε : Sg} {x : Vl} {v : V}
theorem vD_dp (r : Rep K B F H σ ε) (rv : RVl K B F H σ ε x v) : Dp K H v (toP (vD x)) := by
  cases x with
  | p d => exact Rp.dp r.fh rv
  | ow n =>
    cases n with
    | lst xs =>
      obtain ⟨a, rfl, ⟨vs, q, s⟩, _⟩ := rv
      exact .lst (SqL.of q) (s.dp r.fh)
    | dct xs => obtain ⟨a, _, z, _⟩ := rv; exact z.elim
    | dcT xs => obtain ⟨a, _, z, _⟩ := rv; exact z.elim
  | al i n =>
    cases n with
    | dct xs => cases rv.2.2
    | dcT xs => cases rv.2.2
    | lst xs =>
      obtain ⟨a, rfl, ⟨vs, q, s⟩, _⟩ := r.al rv.1 rv.2
      exact .lst (SqL.of q) (s.dp r.fh)
end
section
variable {K : PySem.W.Frag}
theorem opd_eq : OpD K (rEqD K) eqq := by
  intro B F H σ ε x y v w Q R r rx ry q c
  have q2 := q.2
  rw [deq_eqv] at q2
  exact ⟨_, _, vD_dp r rx, vD_dp r ry, dok_shaped q.1.1, dok_shaped q.1.2, fin_p c r q2 rfl⟩
theorem opd_ne : OpD K (rNeD K) neq := by
  intro B F H σ ε x y v w Q R r rx ry q c
  have q2 := q.2
  rw [deq_eqv] at q2
  exact ⟨_, _, vD_dp r rx, vD_dp r ry, dok_shaped q.1.1, dok_shaped q.1.2, fin_p c r q2 rfl⟩
/-! ### order of ints -/
def cmpq (f : Int → Int → Bool) : Vl → Vl → (Vl → Prop) → Prop
  | .p (.int i), .p (.int j), R => R (.p (.bl (f i j)))
  | _, _, _ => False
theorem opd_cmp {f : Int → Int → Bool} : OpD K (rI0 fun i j => .bl (f i j)) (cmpq f) := by
  intro B F H σ ε x y v w Q R r rx ry q c
  unfold cmpq at q
  split at q
  · cases rx; cases ry
    exact ⟨_, _, rfl, rfl, fin_p (d := .bl _) c r q rfl⟩
  · exact q.elim
def ltq := cmpq fun i j => decide (i < j)
def leq := cmpq fun i j => decide (i ≤ j)
def gtq := cmpq fun i j => decide (j < i)
def geq := cmpq fun i j => decide (j ≤ i)
/-! ### is None -/
def isNon : Vl → Bool
  | .p .non => true
  | _ => false
def isNq : Vl → Vl → (Vl → Prop) → Prop
  | x, .p .non, R => R (.p (.bl (isNon x)))
  | _, _, _ => False
def notNq : Vl → Vl → (Vl → Prop) → Prop
  | x, .p .non, R => R (.p (.bl (!isNon x)))
  | _, _, _ => False
theorem isN_of {B : Bs} {F H : Hp} {σ : L2.St} {ε : Sg} {x : Vl} {v : V} (r : Rep K B F H σ ε) (rv : RVl K B F H σ ε x v) : decide (v = .non) = isNon x := by
  cases x with
  | p d =>
    cases d with
    | non => cases rv; rfl
    | bl b => cases rv; rfl
    | int b => cases rv; rfl
    | str b => cases rv; rfl
    | tup b => obtain ⟨a, vs, rfl, _⟩ := rv; rfl
    | lst b => obtain ⟨a, vs, rfl, _⟩ := rv; rfl
    | frl b => obtain ⟨a, vs, rfl, _⟩ := rv; rfl
  | ow n => obtain ⟨a, rfl, _⟩ := rv; rfl
  | al i n => obtain ⟨a, rfl, _⟩ := r.al rv.1 rv.2; rfl
def rIsN : R2 := fun x y H Q => y = .non ∧ Q (.bl (decide (x = .non))) H
def rNotN : R2 := fun x y H Q => y = .non ∧ Q (.bl (!decide (x = .non))) H
theorem opd_isN : OpD K rIsN isNq := by
  intro B F H σ ε x y v w Q R r rx ry q c
  unfold isNq at q
  split at q
  · cases ry
    exact ⟨rfl, fin_p (d := .bl _) c r q (by rw [isN_of r rx]; rfl)⟩
  · exact q.elim
theorem opd_notN : OpD K rNotN notNq := by
  intro B F H σ ε x y v w Q R r rx ry q c
  unfold notNq at q
  split at q
  · cases ry
    exact ⟨rfl, fin_p (d := .bl _) c r q (by rw [isN_of r rx]; rfl)⟩
  · exact q.elim
end
end DL

/-! DL5: truth, and, or, not, conditional expressions, arguments, freezing, displays, subscripts, slices. -/
namespace DL
open PySem PySem.Spec L2

/-! ### ways -/
/-- what must hold on either way -/
structure IfB (b : Bool) (p q : Prop) : Prop where
  t : b = true → p
  f : b = false → q
theorem ifb {b : Bool} {p q : Prop} (h : IfB b p q) : if b = true then p else q := by
  cases b with
  | true => exact h.t rfl
  | false => exact h.f rfl
/-! ### truth -/
def truq : Vl → (Bool → Prop) → Prop
  | .p .non, R => R false
  | .p (.bl b), R => R b
  | .p (.int i), R => R (i != 0)
  | .p (.str x), R => x.length ≤ sizeLine ∧ R ((x.length : Int) != 0)
  | .p (.tup xs), R => R (!xs.isEmpty)
  | x, R => ∃ xs, lsOf x = some xs ∧ R (!xs.isEmpty)
section
variable {K : PySem.W.Frag} {W : WX} {B : Bs} {F H : Hp} {σ : L2.St} {ε : Sg} {x : Vl} {v : V}
theorem tru_of (r : Rep K B F H σ ε) (rv : RVl K B F H σ ε x v) {R : Bool → Prop} (h : truq x R) : ∃ k, TruV K v H k ∧ R k := by
  unfold truq at h
  split at h
  · cases rv; exact ⟨_, rfl, h⟩
  · cases rv; exact ⟨_, rfl, h⟩
  · cases rv; exact ⟨_, rfl, h⟩
  · cases rv; exact ⟨_, ⟨h.1, rfl⟩, h.2⟩
  · obtain ⟨a, vs, rfl, q, s⟩ := rv
    exact ⟨_, .inr (.inl ⟨vs, sqT_mono r.fh q, by rw [s.isEmpty]⟩), h⟩
  · obtain ⟨xs, e, h⟩ := h
    obtain ⟨a, vs, rfl, q, s⟩ := ls_of r rv e
    exact ⟨_, .inl ⟨vs, SqL.of q, by rw [s.isEmpty]⟩, h⟩
def dTru (te : DE) : DT := fun ε R E => te ε (fun x ε1 => truq x fun k => R k ε1) E
theorem lift_tru {te : DE} {σ : L2.St} {H : Hp} {Q : Bool → Hp → Prop} (h : liftT K W (dTru te) σ H Q) : lift K W te σ H fun x H' => ∃ k, TruV K x H' k ∧ Q k H' := by
  obtain ⟨ε, B, F, R, RE, r, t, c, we⟩ := h
  refine ⟨ε, B, F, _, RE, r, t, fun v H' F' x ε' e r' rv q => ?_, we⟩
  obtain ⟨k, hk, q⟩ := tru_of r' rv q
  exact ⟨k, hk, c k H' F' ε' e r' q⟩
/-- a test that is a comparison -/
def dTst (te : DE) : DT := fun ε R E => te ε (fun x ε1 => match x with | .p (.bl b) => R b ε1 | _ => False) E
theorem lift_tst {te : DE} {σ : L2.St} {H : Hp} {Q : Bool → Hp → Prop} (h : liftT K W (dTst te) σ H Q) : tTest (lift K W te) σ H Q := by
  obtain ⟨ε, B, F, R, RE, r, t, c, we⟩ := h
  refine ⟨ε, B, F, _, RE, r, t, fun v H' F' x ε' e r' rv q => ?_, we⟩
  split at q
  · cases rv; exact ⟨_, rfl, c _ H' F' ε' e r' q⟩
  · exact q.elim
def dAnd (t u : DT) : DT := fun ε R E => t ε (fun c ε1 => IfB c (u ε1 R E) (R false ε1)) E
def dOr (t u : DT) : DT := fun ε R E => t ε (fun c ε1 => IfB c (R true ε1) (u ε1 R E)) E
def dNot (t : DT) : DT := fun ε R E => t ε (fun c ε1 => R (!c) ε1) E
theorem lift_and {t u : DT} {σ : L2.St} {H : Hp} {Q : Bool → Hp → Prop} (h : liftT K W (dAnd t u) σ H Q) : tAnd (liftT K W t) (liftT K W u) σ H Q := by
  obtain ⟨ε, B, F, R, RE, r, t, c, we⟩ := h
  refine ⟨ε, B, F, _, RE, r, t, fun b H' F' ε' e r' q => ?_, we⟩
  replace q := ifb q
  cases b with
  | true => exact ⟨ε', B, F', R, RE, r', q, fun b2 H2 F2 ε2 e2 r2 q2 => c b2 H2 F2 ε2 (e.trans e2) r2 q2, we.ext e⟩
  | false => exact c _ H' F' ε' e r' q
theorem lift_or {t u : DT} {σ : L2.St} {H : Hp} {Q : Bool → Hp → Prop} (h : liftT K W (dOr t u) σ H Q) : tOr (liftT K W t) (liftT K W u) σ H Q := by
  obtain ⟨ε, B, F, R, RE, r, t, c, we⟩ := h
  refine ⟨ε, B, F, _, RE, r, t, fun b H' F' ε' e r' q => ?_, we⟩
  replace q := ifb q
  cases b with
  | false => exact ⟨ε', B, F', R, RE, r', q, fun b2 H2 F2 ε2 e2 r2 q2 => c b2 H2 F2 ε2 (e.trans e2) r2 q2, we.ext e⟩
  | true => exact c _ H' F' ε' e r' q
theorem lift_not {t : DT} {σ : L2.St} {H : Hp} {Q : Bool → Hp → Prop} (h : liftT K W (dNot t) σ H Q) : tNot (liftT K W t) σ H Q := by
  obtain ⟨ε, B, F, R, RE, r, t, c, we⟩ := h
  exact ⟨ε, B, F, _, RE, r, t, fun b H' F' ε' e r' q => c _ H' F' ε' e r' q, we⟩
/-- by truth, as values -/
def dOrV (ta tb : DE) : DE := fun ε R E => ta ε (fun x ε1 => truq x fun k => IfB k (R x ε1) (tb ε1 R E)) E
def dAndV (ta tb : DE) : DE := fun ε R E => ta ε (fun x ε1 => truq x fun k => IfB k (tb ε1 R E) (R x ε1)) E
def dNotV (ta : DE) : DE := fun ε R E => ta ε (fun x ε1 => truq x fun k => R (.p (.bl (!k))) ε1) E
theorem lift_orV {ta tb : DE} {σ : L2.St} {H : Hp} {Q : VK} (h : lift K W (dOrV ta tb) σ H Q) : tOrT K (lift K W ta) (lift K W tb) σ H Q := by
  obtain ⟨ε, B, F, R, RE, r, t, c, we⟩ := h
  refine ⟨ε, B, F, _, RE, r, t, fun v H' F' x ε' e r' rv q => ?_, we⟩
  obtain ⟨k, hk, q⟩ := tru_of r' rv q
  refine ⟨k, hk, ?_⟩
  replace q := ifb q
  cases k with
  | true => exact c v H' F' x ε' e r' rv q
  | false => exact ⟨ε', B, F', R, RE, r', q, fun v2 H2 F2 x2 ε2 e2 r2 rv2 q2 => c v2 H2 F2 x2 ε2 (e.trans e2) r2 rv2 q2, we.ext e⟩
theorem lift_andV {ta tb : DE} {σ : L2.St} {H : Hp} {Q : VK} (h : lift K W (dAndV ta tb) σ H Q) : tAndT K (lift K W ta) (lift K W tb) σ H Q := by
  obtain ⟨ε, B, F, R, RE, r, t, c, we⟩ := h
  refine ⟨ε, B, F, _, RE, r, t, fun v H' F' x ε' e r' rv q => ?_, we⟩
  obtain ⟨k, hk, q⟩ := tru_of r' rv q
  refine ⟨k, hk, ?_⟩
  replace q := ifb q
  cases k with
  | false => exact c v H' F' x ε' e r' rv q
  | true => exact ⟨ε', B, F', R, RE, r', q, fun v2 H2 F2 x2 ε2 e2 r2 rv2 q2 => c v2 H2 F2 x2 ε2 (e.trans e2) r2 rv2 q2, we.ext e⟩
theorem lift_notV {ta : DE} {σ : L2.St} {H : Hp} {Q : VK} (h : lift K W (dNotV ta) σ H Q) : tNotT K (lift K W ta) σ H Q := by
  obtain ⟨ε, B, F, R, RE, r, t, c, we⟩ := h
  refine ⟨ε, B, F, _, RE, r, t, fun v H' F' x ε' e r' rv q => ?_, we⟩
  obtain ⟨k, hk, q⟩ := tru_of r' rv q
  exact ⟨k, hk, c _ H' F' (.p (.bl _)) ε' e r' rfl q⟩
def dIf (t : DT) (ta tb : DE) : DE := fun ε R E => t ε (fun c ε1 => IfB c (ta ε1 R E) (tb ε1 R E)) E
theorem lift_if {t : DT} {ta tb : DE} {σ : L2.St} {H : Hp} {Q : VK} (h : lift K W (dIf t ta tb) σ H Q) : tIf (liftT K W t) (lift K W ta) (lift K W tb) σ H Q := by
  obtain ⟨ε, B, F, R, RE, r, t, c, we⟩ := h
  refine ⟨ε, B, F, _, RE, r, t, fun b H' F' ε' e r' q => ?_, we⟩
  replace q := ifb q
  cases b with
  | true => exact ⟨ε', B, F', R, RE, r', q, fun v2 H2 F2 x2 ε2 e2 r2 rv2 q2 => c v2 H2 F2 x2 ε2 (e.trans e2) r2 rv2 q2, we.ext e⟩
  | false => exact ⟨ε', B, F', R, RE, r', q, fun v2 H2 F2 x2 ε2 e2 r2 rv2 q2 => c v2 H2 F2 x2 ε2 (e.trans e2) r2 rv2 q2, we.ext e⟩
/-! ### one operand -/
def dUn (q : Vl → (Vl → Prop) → Prop) (ta : DE) : DE := fun ε R E => ta ε (fun x ε1 => q x fun z => R z ε1) E
def negq : Vl → (Vl → Prop) → Prop
  | .p (.int i), R => R (.p (.int (-i)))
  | _, _ => False
theorem lift_neg {ta : DE} {σ : L2.St} {H : Hp} {Q : VK} (h : lift K W (dUn negq ta) σ H Q) : tUn (rU fun i => .int (-i)) (lift K W ta) σ H Q := by
  obtain ⟨ε, B, F, R, RE, r, t, c, we⟩ := h
  refine ⟨ε, B, F, _, RE, r, t, fun v H' F' x ε' e r' rv q => ?_, we⟩
  unfold negq at q
  split at q
  · cases rv; exact ⟨_, rfl, c _ H' F' (.p (.int _)) ε' e r' rfl q⟩
  · exact q.elim
end
section
variable {X : Cx} {W : WX} {a b c : Expr} {rest : List Expr} {ta tb : DE} {t u : DT} {pos : Pos}
theorem dt_tru (ha : PE X a (lift X.K W ta)) (he : ∀ whole, isTrue a X.env whole = (do let v ← whole; standAt a.pos; holding [v] (truthy v)) := by intro _; rfl) : PT X a (liftT X.K W (dTru ta)) := PT_imp (pt_truth ha he) fun _ _ _ => lift_tru
theorem dt_cmp {op : CmpOp} {r : R2} {q : Vl → Vl → (Vl → Prop) → Prop} (ho : OpR X (compareOp op) r) (hq : OpD X.K r q) (hm : behindInMarks op b = false) (ha : PE X a (lift X.K W ta)) (hb : PE X b (lift X.K W tb)) :
    PT X (.Compare a [op] [b] pos) (liftT X.K W (dTst (dBin q ta tb))) := by
  refine PT_imp (pt_cmpR ho ha hb hm) fun σ H Q h => ?_
  obtain ⟨ε, B, F, R, RE, r, t, c, we⟩ := h
  have h2 : lift X.K W (dBin q ta tb) σ H fun x H' => ∃ k, x = .bl k ∧ Q k H' := by
    refine ⟨ε, B, F, _, RE, r, t, fun v H' F' x ε' e r' rv q => ?_, we⟩
    split at q
    · cases rv; exact ⟨_, rfl, c _ H' F' ε' e r' q⟩
    · exact q.elim
  exact lift_bin hq h2
theorem dt_not (ha : PT X a (liftT X.K W t)) : PT X (.UnaryOp .Not a pos) (liftT X.K W (dNot t)) := PT_imp (pt_not ha) fun _ _ _ => lift_not
theorem PW_imp {e : Expr} {t t' : TT} (h : PW X e t) (i : ∀ σ H Q, t' σ H Q → t σ H Q) : PW X e t' := ⟨fun wh pins s σ H Q I q => h.run wh pins s σ H Q I (i _ _ _ q)⟩
theorem dw_and1 (ha : PT X a (liftT X.K W t)) : PW X (.BoolOp .And [a] pos) (liftT X.K W t) := pw_and1 ha
theorem dw_or1 (ha : PT X a (liftT X.K W t)) : PW X (.BoolOp .Or [a] pos) (liftT X.K W t) := pw_or1 ha
theorem dw_and (ha : PT X a (liftT X.K W t)) (hb : PW X (.BoolOp .And (b :: rest) pos) (liftT X.K W u)) : PW X (.BoolOp .And (a :: b :: rest) pos) (liftT X.K W (dAnd t u)) := PW_imp (pw_and ha hb) fun _ _ _ => lift_and
theorem dw_or (ha : PT X a (liftT X.K W t)) (hb : PW X (.BoolOp .Or (b :: rest) pos) (liftT X.K W u)) : PW X (.BoolOp .Or (a :: b :: rest) pos) (liftT X.K W (dOr t u)) := PW_imp (pw_or ha hb) fun _ _ _ => lift_or
theorem de_one {op} (ha : PE X a (lift X.K W ta)) : PE X (.BoolOp op [a] pos) (lift X.K W ta) := pe_one ha
theorem de_and (ha : PE X a (lift X.K W ta)) (hb : PE X (.BoolOp .And (b :: rest) pos) (lift X.K W tb)) : PE X (.BoolOp .And (a :: b :: rest) pos) (lift X.K W (dAndV ta tb)) := PE_imp (pe_andT ha hb) fun _ _ _ => lift_andV
theorem de_or (ha : PE X a (lift X.K W ta)) (hb : PE X (.BoolOp .Or (b :: rest) pos) (lift X.K W tb)) : PE X (.BoolOp .Or (a :: b :: rest) pos) (lift X.K W (dOrV ta tb)) := PE_imp (pe_orT ha hb) fun _ _ _ => lift_orV
theorem de_not (ha : PE X a (lift X.K W ta)) : PE X (.UnaryOp .Not a pos) (lift X.K W (dNotV ta)) := PE_imp (pe_notT ha) fun _ _ _ => lift_notV
theorem de_if (hc : PT X c (liftT X.K W t)) (ha : PE X a (lift X.K W ta)) (hb : PE X b (lift X.K W tb)) : PE X (.IfExp c a b pos) (lift X.K W (dIf t ta tb)) := PE_imp (pe_ifExp hc ha hb) fun _ _ _ => lift_if
theorem de_neg (ha : PE X a (lift X.K W ta)) : PE X (.UnaryOp .USub a pos) (lift X.K W (dUn negq ta)) := PE_imp (pe_un un_neg ha) fun _ _ _ => lift_neg
end

/-! ### arguments -/
def dNil : DA := fun ε R _ => R [] ε
def dCons (ta : DE) (tr : DA) : DA := fun ε R E => ta ε (fun x ε1 => tr ε1 (fun xs ε2 => stb x ε2 ∧ R (x :: xs) ε2) E) E
section
variable {K : PySem.W.Frag} {W : WX}
theorem lift_nil {σ : L2.St} {H : Hp} {Q : List V → Hp → Prop} (h : liftA K W dNil σ H Q) : tNil σ H Q := by
  obtain ⟨ε, B, F, R, RE, r, t, c, we⟩ := h
  exact c [] H F [] ε (Ext.refl _ _) r .nil t
theorem lift_cons {ta : DE} {tr : DA} {σ : L2.St} {H : Hp} {Q : List V → Hp → Prop} (h : liftA K W (dCons ta tr) σ H Q) : tCons (lift K W ta) (liftA K W tr) σ H Q := by
  obtain ⟨ε, B, F, R, RE, r, t, c, we⟩ := h
  refine ⟨ε, B, F, _, RE, r, t, fun v H1 F1 x ε1 e1 r1 rv1 t1 => ?_, we⟩
  obtain ⟨B1, sB, r2, back, hB⟩ := r1.hold rv1
  refine ⟨ε1, B1, F1, _, RE, r2, t1, fun vs H2 F2 xs ε2 e2 r3 rv2 t2 => ?_, we.weak sB e1⟩
  have e2' := e2.weak sB
  have hx := back F2 H2 ε2 e2 r3 t2.1
  refine c (v :: vs) H2 F2 (x :: xs) ε2 (e1.trans e2') (r3.weak sB) (.cons hx (rv2.weak sB) fun n a ex ev j m ej es => ?_) t2.2
  subst ex ev
  obtain ⟨w, hw, q⟩ := rv2.get ej
  obtain ⟨b, rfl, _, _, hb, _⟩ := q
  rw [es] at hw
  have e' : a = b := V.ref.inj (Option.some.inj hw)
  subst e'
  exact hB n a rfl rfl hb
theorem da_nil {X : Cx} : PA X [] (liftA X.K W dNil) := PA_imp pa_nil fun _ _ _ => lift_nil
theorem da_cons {X : Cx} {e : Expr} {es : List Expr} {te : DE} {t : DA} (ha : PE X e (lift X.K W te)) (hr : PA X es (liftA X.K W t)) (hs : starEach (e :: es) X.env = (false, eval e X.env) :: starEach es X.env := by rfl) : PA X (e :: es) (liftA X.K W (dCons te t)) :=
  PA_imp (pa_cons ha hr hs) fun _ _ _ => lift_cons
end

/-! ### freezing -/
def frz : Vl → Sg → (D → Sg → Prop) → Prop
  | .p d, ε, R => R d ε
  | .ow (.lst xs), ε, R => R (.lst xs) ε
  | .al i (.lst xs), ε, R => ε[i]? = some (some (.ow none (.lst xs))) ∧ R (.lst xs) (ε.set i (some (.p (.lst xs))))
  | _, _, _ => False
/-- not the same slot's object twice -/
def apart : Vl → Vl → Bool
  | .al i _, .al j _ => i != j
  | _, _ => true
def frzs : List Vl → Sg → (List D → Sg → Prop) → Prop
  | [], ε, R => R [] ε
  | x :: r, ε, R => frz x ε fun d ε1 => r.all (apart x) = true ∧ frzs r ε1 fun ds ε2 => R (d :: ds) ε2
section
variable {K : PySem.W.Frag} {B : Bs} {F H : Hp} {σ : L2.St} {ε : Sg} {x : Vl} {v : V}
/-- an object that nothing else refers to, from now on fixed -/
theorem Rep.fix {a : Addr} {o : HO} (r : Rep K B F H σ ε) (ho : H a = some o) (hf : F a = none) (hn : ∀ (i : Nat) (k : Option Nat) (m : Nd), ε[i]? = some (some (Sl.ow k m)) → σ[i]? ≠ some (some (V.ref a))) : Rep K B (upd F a o) H σ ε := by
  have sf : Same F (upd F a o) := fun b u q => by rw [upd_ne (ne_of_none q hf)]; exact q
  refine ⟨fun b u q => ?_, r.bh, r.len, fun i sl e => ?_, r.sep⟩
  · by_cases hb : b = a
    · subst hb; rw [upd_same] at q; cases q; exact ho
    · rw [upd_ne hb] at q; exact r.fh b u q
  · obtain ⟨v, h1, h2⟩ := r.val i sl e
    refine ⟨v, h1, ?_⟩
    cases sl with
    | p d => exact Rp.mono sf h2
    | ow k n =>
      obtain ⟨c, e1, e2, e3, e4⟩ := h2
      have hc : c ≠ a := fun z => by
        subst z; subst e1
        exact hn i k n e h1
      exact ⟨c, e1, e2.move sf rfl, by rw [upd_ne hc]; exact e3, e4⟩
theorem frz_ok (r : Rep K B F H σ ε) (rv : RVl K B F H σ ε x v) {R : D → Sg → Prop} (h : frz x ε R) : ∃ F' ε' d, Ext B F F' ∧ Rep K B F' H σ ε' ∧ Rp K F' d v ∧ R d ε' ∧
    (∀ y w, RVl K B F H σ ε y w → (∀ n a, y = .ow n → w = .ref a → ∀ m, x = .ow m → v ≠ .ref a) → (∀ i n, y = .al i n → ∀ m, x ≠ .al i m) → RVl K B F' H σ ε' y w) := by
  cases x with
  | p d => exact ⟨F, ε, d, Ext.refl _ _, r, rv, h, fun y w q _ _ => q⟩
  | ow n =>
    cases n with
    | lst xs =>
      obtain ⟨a, rfl, ⟨vs, ha, s⟩, hf, hb, hn⟩ := rv
      have sf : Same F (upd F a (.lst vs)) := fun b u q => by rw [upd_ne (ne_of_none q hf)]; exact q
      refine ⟨upd F a (.lst vs), ε, .lst xs, Ext.lay hf hb, r.fix ha hf hn, ⟨a, vs, rfl, upd_same, s.mono sf⟩, h, fun y w q q1 q2 => ?_⟩
      cases y with
      | p d => exact Rp.mono sf q
      | al i m => exact q
      | ow m =>
        obtain ⟨b, e1, e2, e3, e4, e5⟩ := q
        have hba : b ≠ a := fun z => by
          subst z
          exact q1 m b rfl e1 _ rfl rfl
        exact ⟨b, e1, e2.move sf rfl, by rw [upd_ne hba]; exact e3, e4, e5⟩
    | dct xs => exact h.elim
    | dcT xs => exact h.elim
  | al i n =>
    cases n with
    | dct xs => exact h.elim
    | dcT xs => exact h.elim
    | lst xs =>
      obtain ⟨hi, h⟩ := h
      obtain ⟨_, hv⟩ := rv
      obtain ⟨a, rfl, ⟨vs, ha, s⟩, hf, hb⟩ := r.al ⟨_, hi⟩ hv
      have hv := hv.1
      have sf : Same F (upd F a (.lst vs)) := fun b u q => by rw [upd_ne (ne_of_none q hf)]; exact q
      have hlt : i < ε.length := by
        rcases Nat.lt_or_ge i ε.length with z | z
        · exact z
        · rw [List.getElem?_eq_none z] at hi; cases hi
      have get : ∀ j, i ≠ j → (ε.set i (some (.p (.lst xs))))[j]? = ε[j]? := fun j hj => List.getElem?_set_ne hj
      refine ⟨upd F a (.lst vs), ε.set i (some (.p (.lst xs))), .lst xs, Ext.lay hf hb, ⟨fun b u q => ?_, r.bh, by rw [List.length_set]; exact r.len, fun j sl e => ?_, fun j k l1 l2 n m c hjk ej ek sj => ?_⟩, ⟨a, vs, rfl, upd_same, s.mono sf⟩, h, fun y w q q1 q2 => ?_⟩
      · by_cases hba : b = a
        · subst hba; rw [upd_same] at q; cases q; exact ha
        · rw [upd_ne hba] at q; exact r.fh b u q
      · by_cases hj : i = j
        · subst hj
          rw [List.getElem?_set_self hlt] at e
          cases e
          exact ⟨.ref a, hv, a, vs, rfl, upd_same, s.mono sf⟩
        · rw [get j hj] at e
          obtain ⟨v, h1, h2⟩ := r.val j sl e
          refine ⟨v, h1, ?_⟩
          cases sl with
          | p d => exact Rp.mono sf h2
          | ow k n =>
            obtain ⟨c, e1, e2, e3, e4⟩ := h2
            have hc : c ≠ a := fun z => by
              subst z; subst e1
              exact r.sep i j _ _ _ _ c hj hi e hv h1
            exact ⟨c, e1, e2.move sf rfl, by rw [upd_ne hc]; exact e3, e4⟩
      · by_cases hj : i = j
        · subst hj; rw [List.getElem?_set_self hlt] at ej; cases ej
        · by_cases hk : i = k
          · subst hk; rw [List.getElem?_set_self hlt] at ek; cases ek
          · rw [get j hj] at ej
            rw [get k hk] at ek
            exact r.sep j k l1 l2 n m c hjk ej ek sj
      · cases y with
        | p d => exact Rp.mono sf q
        | al j m =>
          have hij : i ≠ j := fun z => by
            subst z
            exact q2 i m rfl _ rfl
          exact ⟨by rw [get j hij]; exact q.1, q.2⟩
        | ow m =>
          obtain ⟨b, e1, e2, e3, e4, e5⟩ := q
          have hba : b ≠ a := fun z => by
            subst z
            exact e5 i _ _ hi hv
          refine ⟨b, e1, e2.move sf rfl, by rw [upd_ne hba]; exact e3, e4, fun j k m ej => ?_⟩
          by_cases hj : i = j
          · subst hj; rw [List.getElem?_set_self hlt] at ej; cases ej
          · rw [get j hj] at ej; exact e5 j k m ej
theorem frzs_ok : ∀ {xs : List Vl} {vs : List V} {F : Hp} {ε : Sg}, Rep K B F H σ ε → RVls K B F H σ ε xs vs → ∀ {R : List D → Sg → Prop}, frzs xs ε R → ∃ F' ε' ds, Ext B F F' ∧ Rep K B F' H σ ε' ∧ Rps K F' ds vs ∧ R ds ε'
  | _, _, F, ε, r, .nil, R, h => ⟨F, ε, [], Ext.refl _ _, r, rfl, h⟩
  | _, _, F, ε, r, .cons (x := x) (xs := xs) (v := v) (vs := vs) a b d, R, h => by
    obtain ⟨F1, ε1, d1, e1, r1, p1, h1, carry⟩ := frz_ok r a h
    have b1 : RVls K B F1 H σ ε1 xs vs := by
      have hal := h1.1
      clear h1 h
      have gen : ∀ {ys : List Vl} {ws : List V}, RVls K B F H σ ε ys ws → (∀ n a, x = .ow n → v = .ref a → ∀ (j : Nat) (m : Nd), ys[j]? = some (Vl.ow m) → ws[j]? ≠ some (.ref a)) →
          ys.all (apart x) = true → RVls K B F1 H σ ε1 ys ws := by
        intro ys ws hyw
        induction hyw with
        | nil => intro _ _; exact .nil
        | @cons y ys w ws q1 q2 q3 ih =>
          intro hd hall
          rw [List.all_cons, Bool.and_eq_true] at hall
          refine .cons (carry y w q1 (fun n c ey ew m ex ev => ?_) (fun i n ey m ex => ?_)) (ih (fun n c ex ev j m ej => hd n c ex ev (j + 1) m ej) hall.2) q3
          · subst ey ew ex
            exact hd m c rfl ev 0 n rfl rfl
          · subst ey ex
            simp [apart] at hall
      exact gen b d hal
    obtain ⟨F2, ε2, ds, e2, r2, p2, h2⟩ := frzs_ok r1 b1 h1.2
    exact ⟨F2, ε2, d1 :: ds, e1.trans e2, r2, ⟨v, vs, rfl, Rp.mono e2.1 p1, p2⟩, h2⟩
end
end DL

/-! DL6: displays, subscripts, slices, built-in functions by values. -/
namespace DL
open PySem PySem.Spec L2

/-! ### displays -/
def dTup (ta : DA) : DE := fun ε R E => ta ε (fun xs ε1 => frzs xs ε1 fun ds ε2 => ds.length ≤ sizeLine ∧ R (.p (.tup ds)) ε2) E
def dLst (ta : DA) : DE := fun ε R E => ta ε (fun xs ε1 => frzs xs ε1 fun ds ε2 => ds.length ≤ sizeLine ∧ R (.ow (.lst ds)) ε2) E
section
variable {K : PySem.W.Frag} {W : WX} {ta : DA} {σ : L2.St} {H : Hp} {Q : VK}
theorem lift_tup (h : lift K W (dTup ta) σ H Q) : tTup (liftA K W ta) σ H Q := by
  obtain ⟨ε, B, F, R, RE, r, t, c, we⟩ := h
  refine ⟨ε, B, F, _, RE, r, t, fun vs H1 F1 xs ε1 e1 r1 rv q => ?_, we⟩
  obtain ⟨F2, ε2, ds, e2, r2, p2, hz, q⟩ := frzs_ok r1 rv q
  refine ⟨by rw [p2.length]; exact hz, fun p hp => ?_⟩
  have hf := same_none r2.fh hp
  exact c _ _ _ (.p (.tup ds)) ε2 ((e1.trans e2).trans (Ext.lay hf (same_none r2.bh hp))) (r2.freeze hp) (RVl.tup hf p2) q
theorem lift_lst (h : lift K W (dLst ta) σ H Q) : tLst (liftA K W ta) σ H Q := by
  obtain ⟨ε, B, F, R, RE, r, t, c, we⟩ := h
  refine ⟨ε, B, F, _, RE, r, t, fun vs H1 F1 xs ε1 e1 r1 rv q => ?_, we⟩
  obtain ⟨F2, ε2, ds, e2, r2, p2, hz, q⟩ := frzs_ok r1 rv q
  exact ⟨by rw [p2.length]; exact hz, fun p hp => c _ _ F2 (.ow (.lst ds)) ε2 (e1.trans e2) (r2.lay hp) (RVl.fresh r2 hp p2) q⟩
end
theorem de_tup {X : Cx} {W : WX} {es : List Expr} {ta : DA} {k : Nat} {pos : Pos} (h : PA X es (liftA X.K W ta)) : PE X (.Tuple es k pos) (lift X.K W (dTup ta)) := PE_imp (pe_tup h) fun _ _ _ => lift_tup
theorem de_lst {X : Cx} {W : WX} {es : List Expr} {ta : DA} {pos : Pos} (h : PA X es (liftA X.K W ta)) : PE X (.List es pos) (lift X.K W (dLst ta)) := PE_imp (pe_lst h) fun _ _ _ => lift_lst

/-! ### xs[i] -/
def ixq : Vl → Vl → (Vl → Prop) → Prop
  | .p (.str z), .p (.int i), R => z.length ≤ sizeLine ∧ (match atI z.cps.toList i with | some c => R (.p (.str ⟨#[c]⟩)) | none => False)
  | x, .p (.int i), R => ∃ xs, sqOf x = some xs ∧ (match atI xs i with | some d => R (.p d) | none => False)
  | _, _, _ => False
section
variable {K : PySem.W.Frag}
theorem Rps.atI {F : Hp} {ds : List D} {vs : List V} {i : Int} {d : D} (h : Rps K F ds vs) (e : atI ds i = some d) : ∃ v, L2.atI vs i = some v ∧ Rp K F d v := by
  unfold L2.atI at e ⊢
  rw [h.length]
  cases q : ixN ds.length i with
  | none => rw [q] at e; cases e
  | some j =>
    rw [q] at e
    exact h.get e
theorem opd_ix : OpD K (rIx K) ixq := by
  intro B F H σ ε x y v w Q R r rx ry q c
  unfold ixq at q
  split at q
  · cases rx; cases ry
    obtain ⟨hz, q⟩ := q
    split at q
    · rename_i e
      exact .inr (.inr ⟨_, _, _, rfl, rfl, hz, e, fin_p c r q rfl⟩)
    · exact q.elim
  · obtain ⟨xs, e, q⟩ := q
    cases ry
    split at q
    · rename_i d e2
      obtain ⟨a, vs, rfl, hs, rp⟩ := sq_of r rx e
      obtain ⟨v, hv, hp⟩ := rp.atI e2
      rcases hs with hs | hs
      · exact .inl ⟨a, vs, _, v, rfl, rfl, hs, hv, fin_p c r q hp⟩
      · exact .inr (.inl ⟨a, vs, _, v, rfl, rfl, hs, hv, fin_p c r q hp⟩)
    · exact q.elim
  · exact q.elim
end
theorem de_sub_ix {X : Cx} {W : WX} {a b : Expr} {ta tb : DE} {pos : Pos} (ha : PE X a (lift X.K W ta)) (hb : PE X b (lift X.K W tb)) (hs : PlainIx b := by intro _ _; rfl) : PE X (.Subscript a b pos) (lift X.K W (dBin ixq ta tb)) := de_ix ix_seq opd_ix hs ha hb

/-! ### xs[lo:hi] -/
abbrev DO := Sg → (Option Int → Sg → Prop) → DX → Prop
def liftO (K : PySem.W.Frag) (W : WX) (t : DO) : TO := fun σ H Q => ∃ ε B F R RE, Rep K B F H σ ε ∧ t ε R RE ∧
  (∀ o H' F' ε', Ext B F F' → Rep K B F' H' σ ε' → R o ε' → Q o H') ∧ Erw K W B F σ RE
def dNoPart : DO := fun ε R _ => R none ε
def dPart (te : DE) : DO := fun ε R E => te ε (fun x ε1 => match x with | .p (.int i) => R (some i) ε1 | _ => False) E
def cutD {α : Type} (xs : List α) (lo hi : Option Int) : List α := (xs.drop (HT.sIx xs.length 0 lo)).take (HT.sIx xs.length xs.length hi - HT.sIx xs.length 0 lo)
def slq : Vl → Option Int → Option Int → (Vl → Prop) → Prop
  | .p (.str z), lo, hi, R => z.length ≤ sizeLine ∧ R (.p (.str (cutS z lo hi)))
  | .p (.tup xs), lo, hi, R => R (.p (.tup (cutD xs lo hi)))
  | x, lo, hi, R => ∃ xs, sqOf x = some xs ∧ R (.ow (.lst (cutD xs lo hi)))
def dSl (te : DE) (tl th : DO) : DE := fun ε R E => te ε (fun x ε1 => tl ε1 (fun l ε2 => th ε2 (fun h ε3 => stb x ε3 ∧ slq x l h fun z => R z ε3) E) E) E
def rSlX (K : PySem.W.Frag) : V → Option Int → Option Int → Hp → VK → Prop := fun x lo hi H Q => rSlA K x lo hi H Q ∨ (rSlL K x lo hi H Q ∨ rSlS x lo hi H Q)
theorem sl_all {X : Cx} : SlR X (rSlX X.K) := sl_tupA.or (sl_list.or sl_str)
theorem Rps.cut {K : PySem.W.Frag} {F : Hp} {ds : List D} {vs : List V} (h : Rps K F ds vs) (lo hi : Option Int) : Rps K F (cutD ds lo hi) (cutV vs lo hi) := by
  unfold cutD cutV
  rw [h.length]
  exact (h.drop _).take _
theorem cutD_whole {α : Type} {xs : List α} {lo hi : Option Int} (h : HT.sIx xs.length 0 lo = 0 ∧ HT.sIx xs.length xs.length hi = xs.length) : cutD xs lo hi = xs := by
  unfold cutD
  rw [h.1, h.2]
  simp
section
variable {K : PySem.W.Frag} {W : WX}
theorem lift_opart {σ : L2.St} {H : Hp} {te : DE} {Q : Option Int → Hp → Prop} (h : liftO K W (dPart te) σ H Q) : tPart (lift K W te) σ H Q := by
  obtain ⟨ε, B, F, R, RE, r, t, c, we⟩ := h
  refine ⟨ε, B, F, _, RE, r, t, fun v H' F' x ε' e r' rv q => ?_, we⟩
  split at q
  · cases rv; exact ⟨_, rfl, c _ H' F' ε' e r' q⟩
  · exact q.elim
theorem lift_onone {σ : L2.St} {H : Hp} {Q : Option Int → Hp → Prop} (h : liftO K W dNoPart σ H Q) : tNoPart σ H Q := by
  obtain ⟨ε, B, F, R, RE, r, t, c, we⟩ := h
  exact c none H F ε (Ext.refl _ _) r t
theorem slq_ok {B : Bs} {F H : Hp} {σ : L2.St} {ε : Sg} {x : Vl} {v : V} {lo hi : Option Int} {R : Vl → Prop} {Q : VK} (r : Rep K B F H σ ε) (rx : RVl K B F H σ ε x v) (q : slq x lo hi R) (c : Fin2 K B F H σ ε R Q) : rSlX K v lo hi H Q := by
  unfold slq at q
  split at q
  · cases rx
    exact .inr (.inr ⟨_, rfl, q.1, fin_p c r q.2 rfl⟩)
  · obtain ⟨a, vs, rfl, ha, hs⟩ := rx
    refine .inl ⟨a, vs, rfl, sqT_mono r.fh ha, fun e => ?_, fun _ p hp => fin_tup c r hp (hs.cut _ _) q⟩
    rw [hs.length] at e
    rw [cutD_whole e] at q
    exact fin_p c r q ⟨a, vs, rfl, ha, hs⟩
  · obtain ⟨xs, e, q⟩ := q
    rename_i x' n1 n2
    obtain ⟨a, vs, rfl, hs, rp⟩ := sq_of r rx e
    rcases hs with hs | hs
    · exact .inr (.inl ⟨a, vs, rfl, hs, fun p hp => fin_lst c r hp (rp.cut _ _) q⟩)
    · cases x with
      | p d =>
        cases d with
        | tup _ => exact (n2 _ rfl).elim
        | lst _ =>
          obtain ⟨b, ws, e2, hb, hw⟩ := rx
          cases e2
          exact .inr (.inl ⟨a, ws, rfl, SqL.of (r.fh _ _ hb), fun p hp => fin_lst c r hp ((show Rps K F xs ws by cases e; exact hw).cut _ _) q⟩)
        | frl _ =>
          obtain ⟨b, ws, e2, hb, hw⟩ := rx
          cases e2
          exact .inr (.inl ⟨a, ws, rfl, r.fh.seq hb, fun p hp => fin_lst c r hp ((show Rps K F xs ws by cases e; exact hw).cut _ _) q⟩)
        | _ => cases e
      | ow n =>
        cases n with
        | dct _ => cases e
        | dcT _ => cases e
        | lst _ =>
          obtain ⟨b, e2, ⟨ws, hb, hw⟩, _⟩ := rx
          cases e2
          exact .inr (.inl ⟨a, ws, rfl, SqL.of hb, fun p hp => fin_lst c r hp ((show Rps K F xs ws by cases e; exact hw).cut _ _) q⟩)
      | al i n =>
        cases n with
        | dct _ => cases e
        | dcT _ => cases e
        | lst _ =>
          obtain ⟨b, e2, ⟨ws, hb, hw⟩, _⟩ := r.al rx.1 rx.2
          cases e2
          exact .inr (.inl ⟨a, ws, rfl, SqL.of hb, fun p hp => fin_lst c r hp ((show Rps K F xs ws by cases e; exact hw).cut _ _) q⟩)
theorem lift_sl {te : DE} {tl th : DO} {σ : L2.St} {H : Hp} {Q : VK} (h : lift K W (dSl te tl th) σ H Q) : tSl (rSlX K) (lift K W te) (liftO K W tl) (liftO K W th) σ H Q := by
  obtain ⟨ε, B, F, R, RE, r, t, c, we⟩ := h
  refine ⟨ε, B, F, _, RE, r, t, fun v H1 F1 x ε1 e1 r1 rv1 t1 => ?_, we⟩
  obtain ⟨B1, sB, r2, back, _⟩ := r1.hold rv1
  refine ⟨ε1, B1, F1, _, RE, r2, t1, fun lo H2 F2 ε2 e2 r3 t2 => ?_, we.weak sB e1⟩
  refine ⟨ε2, B1, F2, _, RE, r3, t2, fun hi H3 F3 ε3 e3 r4 t3 => ?_, (we.weak sB e1).ext e2⟩
  have e23 := e2.trans e3
  have e' := e23.weak sB
  exact slq_ok (r4.weak sB) (back F3 H3 ε3 e23 r4 t3.1) t3.2 fun v' H' F' z e4 r5 rv5 q5 => c v' H' F' z ε3 ((e1.trans e').trans e4) r5 rv5 q5
end
section
variable {X : Cx} {W : WX} {e : Expr} {te : DE} {tl th : DO} {lo hi : Option Expr} {pos p2 : Pos}
theorem PO_imp {e : Option Expr} {t t' : TO} (h : PO X e t) (i : ∀ σ H Q, t' σ H Q → t σ H Q) : PO X e t' := ⟨fun pins s σ H Q I q => h.run pins s σ H Q I (i _ _ _ q)⟩
theorem do_none : PO X none (liftO X.K W dNoPart) := PO_imp po_none fun _ _ _ => lift_onone
theorem do_some (h : PE X e (lift X.K W te)) : PO X (some e) (liftO X.K W (dPart te)) := PO_imp (po_some h) fun _ _ _ => lift_opart
theorem de_slice (he : PE X e (lift X.K W te)) (hl : PO X lo (liftO X.K W tl)) (hu : PO X hi (liftO X.K W th)) : PE X (.Subscript e (.Slice lo hi none p2) pos) (lift X.K W (dSl te tl th)) := PE_imp (pe_slice sl_all he hl hu) fun _ _ _ => lift_sl
end

/-! ### built-in functions by values -/
abbrev CQ := List Vl → Sg → (Vl → Sg → Prop) → Prop
def CalD (K : PySem.W.Frag) (r : List V → Hp → VK → Prop) (q : CQ) : Prop := ∀ (B : Bs) (F H : Hp) (σ : L2.St) (ε : Sg) (xs : List Vl) (vs : List V) (Q : VK) (R : Vl → Sg → Prop), Rep K B F H σ ε → RVls K B F H σ ε xs vs → q xs ε R →
  (∀ v' H' F' z ε', Ext B F F' → Rep K B F' H' σ ε' → RVl K B F' H' σ ε' z v' → R z ε' → Q v' H') → r vs H Q
def dCal (q : CQ) (ta : DA) : DE := fun ε R E => ta ε (fun xs ε1 => q xs ε1 R) E
theorem lift_cal {K : PySem.W.Frag} {W : WX} {r : List V → Hp → VK → Prop} {q : CQ} {ta : DA} (hq : CalD K r q) {σ : L2.St} {H : Hp} {Q : VK} (h : lift K W (dCal q ta) σ H Q) : tCB r (liftA K W ta) σ H Q := by
  obtain ⟨ε, B, F, R, RE, rp, t, c, we⟩ := h
  refine ⟨ε, B, F, _, RE, rp, t, fun vs H1 F1 xs ε1 e1 r1 rv q => ?_, we⟩
  exact hq B F1 H1 σ ε1 xs vs Q _ r1 rv q fun v' H' F' z ε' e2 r2 rv2 q2 => c v' H' F' z ε' (e1.trans e2) r2 rv2 q2
section
variable {X : Cx} {W : WX} {e : Expr} {es : List Expr} {ta : DA} {x : Str} {p pos : Pos} {r : List V → Hp → VK → Prop} {q : CQ} {id T : String}
theorem de_callB (hq : CalD X.K r q) (hc : CallR X (.builtin id) r) (hv : bootBuiltins x = some (.builtin id)) (hm : X.mg x = none) (ha : PA X (e :: es) (liftA X.K W ta)) (hg : Gl X x := by rfl) (hn : x ≠ "__name__" := by decide) (hdb : (x == ("__debug__" : Str)) = false := by decide)
    (he : starEach (e :: es) X.env = (false, eval e X.env) :: starEach es X.env := by rfl) (hpl : (backTo pos (starEach es X.env)).any (·.1) = false := by rfl) : PE X (.Call (.Name x p) (e :: es) [] pos) (lift X.K W (dCal q ta)) :=
  PE_imp (pe_callB hc hg hm hv ha hn hdb he hpl) fun _ _ _ => lift_cal hq
theorem de_callT (hq : CalD X.K r q) (hc : CallR X (.type T) r) (hv : bootBuiltins x = some (.type T)) (hm : X.mg x = none) (ha : PA X (e :: es) (liftA X.K W ta)) (hg : Gl X x := by rfl) (hn : x ≠ "__name__" := by decide) (hdb : (x == ("__debug__" : Str)) = false := by decide)
    (he : starEach (e :: es) X.env = (false, eval e X.env) :: starEach es X.env := by rfl) (hpl : (backTo pos (starEach es X.env)).any (·.1) = false := by rfl) : PE X (.Call (.Name x p) (e :: es) [] pos) (lift X.K W (dCal q ta)) :=
  PE_imp (pe_callTy hc hg hm hv ha hn hdb he hpl) fun _ _ _ => lift_cal hq
end
end DL

/-! DL7: statements over pure states. -/
namespace DL
open PySem PySem.Spec L2

section
variable {K : PySem.W.Frag} {W : WX} {B : Bs} {F H : Hp} {σ : L2.St} {ε : Sg} {x : Vl} {v : V}
theorem set_get {α : Type} {l : List α} {i j : Nat} {a b : α} (h : (l.set i a)[j]? = some b) : (i = j ∧ b = a ∧ i < l.length) ∨ (i ≠ j ∧ l[j]? = some b) := by
  by_cases e : i = j
  · subst e
    rcases Nat.lt_or_ge i l.length with z | z
    · rw [List.getElem?_set_self z] at h
      exact .inl ⟨rfl, (Option.some.inj h).symm, z⟩
    · rw [List.getElem?_eq_none (by simpa using z)] at h; cases h
  · rw [List.getElem?_set_ne e] at h
    exact .inr ⟨e, h⟩
/-- a slot is written -/
theorem Rep.setP {i : Nat} {d : D} (r : Rep K B F H σ ε) (h : Rp K F d v) : Rep K B F H (σ.set i (some v)) (ε.set i (some (.p d))) := by
  refine ⟨r.fh, r.bh, by rw [List.length_set, List.length_set]; exact r.len, fun j s e => ?_, fun j k l1 l2 n m a hjk ej ek sj sk => ?_⟩
  · rcases set_get e with ⟨rfl, e2, hl⟩ | ⟨hij, e⟩
    · cases e2
      exact ⟨v, List.getElem?_set_self (by rw [r.len]; exact hl), h⟩
    · obtain ⟨w, h1, h2⟩ := r.val j s e
      exact ⟨w, by rw [List.getElem?_set_ne hij]; exact h1, h2⟩
  · rcases set_get ej with ⟨_, e2, _⟩ | ⟨hij, ej⟩
    · cases e2
    · rcases set_get ek with ⟨_, e2, _⟩ | ⟨hik, ek⟩
      · cases e2
      · rw [List.getElem?_set_ne hij] at sj
        rw [List.getElem?_set_ne hik] at sk
        exact r.sep j k l1 l2 n m a hjk ej ek sj sk
theorem Rep.setN {i : Nat} {n : Nd} (r : Rep K B F H σ ε) (h : ∃ a, v = .ref a ∧ RNd K F H n a ∧ F a = none ∧ B a = none ∧ ∀ (i : Nat) (k : Option Nat) (m : Nd), ε[i]? = some (some (Sl.ow k m)) → σ[i]? ≠ some (some (V.ref a))) : Rep K B F H (σ.set i (some v)) (ε.set i (some (.ow none n))) := by
  obtain ⟨a, rfl, h1, h2, h3, h4⟩ := h
  refine ⟨r.fh, r.bh, by rw [List.length_set, List.length_set]; exact r.len, fun j s e => ?_, fun j k l1 l2 n2 m2 c hjk ej ek sj sk => ?_⟩
  · rcases set_get e with ⟨rfl, e2, hl⟩ | ⟨hij, e⟩
    · cases e2
      exact ⟨.ref a, List.getElem?_set_self (by rw [r.len]; exact hl), a, rfl, h1, h2, h3, fun _ z => by cases z⟩
    · obtain ⟨w, q1, q2⟩ := r.val j s e
      exact ⟨w, by rw [List.getElem?_set_ne hij]; exact q1, q2⟩
  · rcases set_get ej with ⟨rfl, _, hl⟩ | ⟨hij, ej⟩
    · rcases set_get ek with ⟨e2, _⟩ | ⟨hik, ek⟩
      · exact hjk e2
      · rw [List.getElem?_set_self (by rw [r.len]; exact hl)] at sj
        rw [List.getElem?_set_ne hik] at sk
        have e9 : V.ref a = V.ref c := Option.some.inj (Option.some.inj sj)
        cases e9
        exact h4 k _ m2 ek sk
    · rw [List.getElem?_set_ne hij] at sj
      rcases set_get ek with ⟨rfl, _, hl⟩ | ⟨hik, ek⟩
      · rw [List.getElem?_set_self (by rw [r.len]; exact hl)] at sk
        have e9 : V.ref a = V.ref c := Option.some.inj (Option.some.inj sk)
        cases e9
        exact h4 j _ n2 ej sj
      · rw [List.getElem?_set_ne hik] at sk
        exact r.sep j k l1 l2 n2 m2 c hjk ej ek sj sk
/-- an owned list is rewritten -/
theorem Rep.put {i : Nat} {kk : Option Nat} {a : Addr} {xs ys : List D} {ws : List V} (r : Rep K B F H σ ε) (hi : ε[i]? = some (some (.ow kk (.lst xs)))) (hs : σ[i]? = some (some (.ref a))) (hw : Rps K F ys ws) :
    Rep K B F (upd H a (.lst ws)) σ (ε.set i (some (.ow kk (.lst ys)))) := by
  obtain ⟨u0, hu, c, e1, h1, h2, h3, hA⟩ := r.val i _ hi
  rw [hs] at hu
  have hu' : V.ref a = u0 := Option.some.inj (Option.some.inj hu)
  subst hu'
  cases e1
  refine ⟨fun b u q => ?_, fun b u q => ?_, by rw [List.length_set]; exact r.len, fun j s e => ?_, fun j k l1 l2 n2 m2 c hjk ej ek sj sk => ?_⟩
  · rw [upd_ne (ne_of_none q h2)]; exact r.fh b u q
  · rw [upd_ne (ne_of_none q h3)]; exact r.bh b u q
  · rcases set_get e with ⟨rfl, e2, hl⟩ | ⟨hij, e⟩
    · cases e2
      exact ⟨.ref a, hs, a, rfl, ⟨ws, upd_same, hw⟩, h2, h3, hA⟩
    · obtain ⟨w, q1, q2⟩ := r.val j s e
      refine ⟨w, q1, ?_⟩
      cases s with
      | p d => exact q2
      | ow k n =>
        obtain ⟨b, e1, e2, e3, e4⟩ := q2
        subst e1
        have hba : b ≠ a := fun z => by
          subst z
          exact r.sep i j _ _ _ _ b hij hi e hs q1
        exact ⟨b, rfl, e2.move (Same.refl F) (upd_ne hba), e3, e4⟩
  · rcases set_get ej with ⟨rfl, _, hl⟩ | ⟨hij, ej⟩
    · rcases set_get ek with ⟨e2, _⟩ | ⟨hik, ek⟩
      · exact hjk e2
      · exact r.sep _ k _ _ _ m2 c hik hi ek sj sk
    · rcases set_get ek with ⟨rfl, _, hl⟩ | ⟨hik, ek⟩
      · exact r.sep j _ _ _ n2 _ c (Ne.symm hij) ej hi sj sk
      · exact r.sep j k l1 l2 n2 m2 c hjk ej ek sj sk
theorem Rep.setO {i : Nat} {n : Nd} (r : Rep K B F H σ ε) (h : RVl K B F H σ ε (.ow n) v) : Rep K B F H (σ.set i (some v)) (ε.set i (some (.ow none n))) := by
  obtain ⟨a, e, h1, h2⟩ := h
  exact r.setN ⟨a, e, h1.nd, h2⟩
/-- what a name's binding makes of the state -/
def bindq (i : Nat) : Vl → Sg → (Sg → Prop) → Prop
  | .p d, ε, R => R (ε.set i (some (.p d)))
  | .ow n, ε, R => R (ε.set i (some (.ow none n)))
  | .al j (.lst xs), ε, R => ε[j]? = some (some (.ow none (.lst xs))) ∧ R ((ε.set j (some (.p (.lst xs)))).set i (some (.p (.lst xs))))
  | _, _, _ => False
theorem bind_ok {i : Nat} (r : Rep K B F H σ ε) (rv : RVl K B F H σ ε x v) {R : Sg → Prop} (h : bindq i x ε R) : ∃ F' ε', Ext B F F' ∧ Rep K B F' H (σ.set i (some v)) ε' ∧ R ε' := by
  cases x with
  | p d => exact ⟨F, _, Ext.refl _ _, r.setP rv, h⟩
  | ow n => exact ⟨F, _, Ext.refl _ _, r.setO rv, h⟩
  | al j n =>
    cases n with
    | dct xs => exact h.elim
    | dcT xs => exact h.elim
    | lst xs =>
      have z : frz (.al j (.lst xs)) ε (fun d ε1 => d = .lst xs ∧ ε1 = ε.set j (some (.p (.lst xs)))) := ⟨h.1, rfl, rfl⟩
      obtain ⟨F', ε', d, e, r', p, ⟨e1, e2⟩, _⟩ := frz_ok r rv z
      subst e1 e2
      exact ⟨F', _, e, r'.setP p, h.2⟩
end

/-! ### targets -/
abbrev DG := Vl → Sg → (Sg → Prop) → DX → Prop
abbrev DGs := List D → Sg → (Sg → Prop) → DX → Prop
def liftG (K : PySem.W.Frag) (W : WX) (g : DG) : TG := fun v σ H Q => ∃ ε B F x R RE, Rep K B F H σ ε ∧ RVl K B F H σ ε x v ∧ g x ε R RE ∧
  (∀ σ' H' F' ε', Ext B F F' → Rep K B F' H' σ' ε' → R ε' → Q σ' H') ∧ ∀ σ', Erw K W B F σ' RE
def liftGs (K : PySem.W.Frag) (W : WX) (g : DGs) : TGs := fun vs σ H Q => ∃ ε B F xs R RE, Rep K B F H σ ε ∧ Rps K F xs vs ∧ g xs ε R RE ∧
  (∀ σ' H' F' ε', Ext B F F' → Rep K B F' H' σ' ε' → R ε' → Q σ' H') ∧ ∀ σ', Erw K W B F σ' RE
def gN (i : Nat) : DG := fun x ε R _ => bindq i x ε R
def gT (n : Nat) (gs : DGs) : DG := fun x ε R E => match x with
  | .p (.tup ds) => ds.length = n ∧ gs ds ε R E
  | _ => False
def gsN : DGs := fun ds ε R _ => ds = [] ∧ R ε
def gsC (g : DG) (gs : DGs) : DGs := fun ds ε R E => match ds with
  | d :: r => g (.p d) ε (fun ε1 => gs r ε1 R E) E
  | [] => False
/-- o[i] = .., o the owned list of slot k -/
def gSub (to ti : DE) : DG := fun x ε R E => frz x ε fun d ε1 => to ε1 (fun o ε2 => ti ε2 (fun i ε3 => stb o ε3 ∧ match o, i with
  | .al k (.lst xs), .p (.int n) => (match ixN xs.length n with | some j => (match ε3[k]? with | some (some (.ow kk _)) => R (ε3.set k (some (.ow kk (.lst (xs.set j d))))) | _ => False) | none => False)
  | _, _ => False) E) E
section
variable {K : PySem.W.Frag} {W : WX}
theorem lift_gN {i : Nat} {v : V} {σ : L2.St} {H : Hp} {Q : L2.St → Hp → Prop} (h : liftG K W (gN i) v σ H Q) : gName i v σ H Q := by
  obtain ⟨ε, B, F, x, R, RE, r, rv, g, c, we⟩ := h
  obtain ⟨F', ε', e, r', q⟩ := bind_ok r rv g
  exact c _ H F' ε' e r' q
theorem lift_gsN {v : List V} {σ : L2.St} {H : Hp} {Q : L2.St → Hp → Prop} (h : liftGs K W gsN v σ H Q) : gNil v σ H Q := by
  obtain ⟨ε, B, F, x, R, RE, r, rv, ⟨e, g⟩, c, we⟩ := h
  subst e
  exact ⟨rv.nil, c _ H F ε (Ext.refl _ _) r g⟩
theorem lift_gsC {g : DG} {gs : DGs} {v : List V} {σ : L2.St} {H : Hp} {Q : L2.St → Hp → Prop} (h : liftGs K W (gsC g gs) v σ H Q) : gCons (liftG K W g) (liftGs K W gs) v σ H Q := by
  obtain ⟨ε, B, F, xs, R, RE, r, rv, q, c, we⟩ := h
  unfold gsC at q
  split at q
  · obtain ⟨w, ws, rfl, h1, h2⟩ := rv.cons
    refine ⟨w, ws, rfl, ε, B, F, .p _, _, RE, r, h1, q, fun σ' H' F' ε' e r' q' => ?_, we⟩
    exact ⟨ε', B, F', _, R, RE, r', h2.mono e.1, q', fun σ2 H2 F2 ε2 e2 r2 q2 => c σ2 H2 F2 ε2 (e.trans e2) r2 q2, fun σ2 => (we σ2).ext e⟩
  · exact q.elim
theorem lift_gT {n : Nat} {gs : DGs} {v : V} {σ : L2.St} {H : Hp} {Q : L2.St → Hp → Prop} (h : liftG K W (gT n gs) v σ H Q) : gTup K n (liftGs K W gs) v σ H Q := by
  obtain ⟨ε, B, F, x, R, RE, r, rv, q, c, we⟩ := h
  unfold gT at q
  split at q
  · obtain ⟨a, vs, rfl, ha, hs⟩ := rv
    exact ⟨a, vs, rfl, sqT_mono r.fh ha, by rw [hs.length]; exact q.1, ε, B, F, _, R, RE, r, hs, q.2, c, we⟩
  · exact q.elim
theorem lift_gSub {to ti : DE} {v : V} {σ : L2.St} {H : Hp} {Q : L2.St → Hp → Prop} (h : liftG K W (gSub to ti) v σ H Q) : L2.gSub (lift K W to) (lift K W ti) rSetL v σ H Q := by
  obtain ⟨ε, B, F, x, R, RE, r, rv, q, c, we⟩ := h
  obtain ⟨F1, ε1, d, e1, r1, p1, q1, _⟩ := frz_ok r rv q
  refine ⟨ε1, B, F1, _, RE, r1, q1, fun ov H2 F2 o ε2 e2 r2 rv2 q2 => ?_, (we σ).ext e1⟩
  refine ⟨ε2, B, F2, _, RE, r2, q2, fun iv H3 F3 i ε3 e3 r3 rv3 q3 => ?_, ((we σ).ext e1).ext e2⟩
  obtain ⟨st, q3⟩ := q3
  split at q3
  · rename_i k xs n
    split at q3
    · rename_i j hj
      cases rv3
      obtain ⟨a, e9, ⟨vs, ha, hs⟩, _⟩ := r3.al st rv2.2
      subst e9
      refine ⟨a, vs, n, j, rfl, rfl, ha, by rw [hs.length]; exact hj, ?_⟩
      obtain ⟨kk, st⟩ := st
      rw [st] at q3
      exact c σ _ F3 _ ((e1.trans e2).trans e3) (r3.put st rv2.2.1 (hs.set j ((p1.mono e2.1).mono e3.1))) q3
    · exact q3.elim
  · exact q3.elim
end
section
variable {X : Cx} {W : WX} {pos : Pos}
theorem PG_imp {e : Expr} {t t' : TG} (h : PG X e t) (i : ∀ v σ H Q, t' v σ H Q → t v σ H Q) : PG X e t' := ⟨fun pins s σ H v u Q I r q => h.run pins s σ H v u Q I r (i _ _ _ _ q)⟩
theorem PGs_imp {e : List Expr} {t t' : TGs} (h : PGs X e t) (i : ∀ v σ H Q, t' v σ H Q → t v σ H Q) : PGs X e t' := ⟨fun pins s σ H v u Q I r q => h.run pins s σ H v u Q I r (i _ _ _ _ q)⟩
theorem dg_name {i : Nat} {x : Str} (hN : X.N.Nodup) (hi : X.N[i]? = some x) (hx : Loc X.env.scope x) (hf : X.fn x = true ∨ X.env.scope.names.lookup x = some .local := by first | exact .inl rfl | exact .inr rfl | assumption) : PG X (.Name x pos) (liftG X.K W (gN i)) :=
  PG_imp (pg_name hN hi hx hf) fun _ _ _ _ => lift_gN
theorem dgs_nil : PGs X [] (liftGs X.K W gsN) := PGs_imp pgs_nil fun _ _ _ _ => lift_gsN
theorem dgs_cons {e : Expr} {es : List Expr} {t : DG} {u : DGs} (h1 : PG X e (liftG X.K W t)) (h2 : PGs X es (liftGs X.K W u))
    (hs : (assignEach (e :: es) X.env).map (·.2) = assign e X.env :: (assignEach es X.env).map (·.2) := by rfl) : PGs X (e :: es) (liftGs X.K W (gsC t u)) := PGs_imp (pgs_cons h1 h2 hs) fun _ _ _ _ => lift_gsC
theorem dg_tup {es : List Expr} {k : Nat} {t : DGs} {n : Nat} (hc : X.calm = true) (h : PGs X es (liftGs X.K W t))
    (hn : (assignEach es X.env).length = n := by rfl) (hst : (assignEach es X.env).findIdx? (·.1) = none := by rfl) : PG X (.Tuple es k pos) (liftG X.K W (gT n t)) := PG_imp (pg_tup hc h hn hst) fun _ _ _ _ => lift_gT
theorem dg_sub {o i : Expr} {to ti : DE} (ho : PE X o (lift X.K W to)) (hi : PE X i (lift X.K W ti))
    (ha : ∀ v, assign (.Subscript o i pos) X.env v = (do
      let ov ← holding [v] (eval o X.env)
      let iv ← holding [v, ov] (eval i X.env)
      standAt pos
      holding [v, ov, iv] (setItem ov iv v)
      release [v, ov, iv] []) := by intro _; rfl) : PG X (.Subscript o i pos) (liftG X.K W (gSub to ti)) := PG_imp (pg_sub ho hi set_list ha) fun _ _ _ _ => lift_gSub
end

/-! ### statements -/
def dSet (te : DE) (g : DG) : DS := fun P ε => te ε (fun x ε1 => g x ε1 P.nx P.er) P.er
def dDrop (te : DE) : DS := fun P ε => te ε (fun _ ε1 => P.nx ε1) P.er
def dRet (te : DE) : DS := fun P ε => te ε P.rt P.er
def dRetN : DS := fun P ε => P.rt (.p .non) ε
def dNext : DS := fun P ε => P.nx ε
def dBrk : DS := fun P ε => P.bk ε
def dCnt : DS := fun P ε => P.ct ε
def dNever : DS := fun _ _ => False
def dSeq (t u : DS) : DS := fun P ε => t (P.onNx fun ε1 => nf ε1 (u P)) ε
/-- a named rest: a place to stop at -/
structure Tl (t : DS) (P : DN) (ε : Sg) : Prop where
  go : t P ε
def dTail (t : DS) : DS := fun P ε => Tl t P ε
theorem dTail_eq (t : DS) : dTail t = t := funext fun _ => funext fun _ => propext ⟨fun h => h.go, .mk⟩
def dIfS (c : DT) (t u : DS) : DS := fun P ε => c ε (fun b ε1 => IfB b (t P ε1) (u P ε1)) P.er
structure DWh (c : DT) (b : DS) (P : DN) (ε : Sg) : Prop where
  ex : ∃ I : Nat → Sg → Prop, (∃ m, I m ε) ∧ ∀ m ε', I m ε' → c ε' (fun k ε1 => IfB k (b (P.loop fun e => ∃ m', m' < m ∧ I m' e) ε1) (P.nx ε1)) P.er
def dWhile (c : DT) (b : DS) : DS := fun P ε => DWh c b P ε
section
variable {K : PySem.W.Frag} {W : WX} {Dd : Ends} {σ : L2.St} {H : Hp}
theorem lift_set {te : DE} {g : DG} (h : liftS K W (dSet te g) Dd σ H) : tAsg (lift K W te) (liftG K W g) Dd σ H := by
  obtain ⟨ε, B, F, P, r, t, c, cb, cc, cr, we⟩ := h
  refine ⟨ε, B, F, _, P.er, r, t, fun v H' F' x ε' e r' rv q => ?_, we σ⟩
  exact ⟨ε', B, F', x, P.nx, P.er, r', rv, q, fun σ2 H2 F2 ε2 e2 r2 q2 => c σ2 H2 F2 ε2 (e.trans e2) r2 q2, fun σ2 => (we σ2).ext e⟩
theorem lift_drop {te : DE} (h : liftS K W (dDrop te) Dd σ H) : tDrop (lift K W te) Dd σ H := by
  obtain ⟨ε, B, F, P, r, t, c, cb, cc, cr, we⟩ := h
  exact ⟨ε, B, F, _, P.er, r, t, fun v H' F' x ε' e r' rv q => c σ H' F' ε' e r' q, we σ⟩
theorem lift_ret {te : DE} (h : liftS K W (dRet te) Dd σ H) : tRet (lift K W te) Dd σ H := by
  obtain ⟨ε, B, F, P, r, t, c, cb, cc, cr, we⟩ := h
  exact ⟨ε, B, F, _, P.er, r, t, fun v H' F' x ε' e r' rv q => cr σ v H' F' x ε' e r' rv q, we σ⟩
theorem lift_retN (h : liftS K W dRetN Dd σ H) : tRetN Dd σ H := by
  obtain ⟨ε, B, F, P, r, t, c, cb, cc, cr, we⟩ := h
  exact cr σ .non H F (.p .non) ε (Ext.refl _ _) r rfl t
theorem lift_next (h : liftS K W dNext Dd σ H) : tNext Dd σ H := by
  obtain ⟨ε, B, F, P, r, t, c, cb, cc, cr, we⟩ := h
  exact c σ H F ε (Ext.refl _ _) r t
theorem lift_brk (h : liftS K W dBrk Dd σ H) : tBreak Dd σ H := by
  obtain ⟨ε, B, F, P, r, t, c, cb, cc, cr, we⟩ := h
  exact cb σ H F ε (Ext.refl _ _) r t
theorem lift_cnt (h : liftS K W dCnt Dd σ H) : tCont Dd σ H := by
  obtain ⟨ε, B, F, P, r, t, c, cb, cc, cr, we⟩ := h
  exact cc σ H F ε (Ext.refl _ _) r t
theorem lift_seq {t u : DS} (h : liftS K W (dSeq t u) Dd σ H) : tSeq (liftS K W t) (liftS K W u) Dd σ H := by
  obtain ⟨ε, B, F, P, r, t, c, cb, cc, cr, we⟩ := h
  refine ⟨ε, B, F, _, r, t, fun σ' H' F' ε' e r' q => ?_, cb, cc, cr, we⟩
  have q : u P ε' := nf_eq ε' (u P) ▸ q
  exact ⟨ε', B, F', P, r', q, fun σ2 H2 F2 ε2 e2 r2 q2 => c σ2 H2 F2 ε2 (e.trans e2) r2 q2, fun σ2 H2 F2 ε2 e2 r2 q2 => cb σ2 H2 F2 ε2 (e.trans e2) r2 q2, fun σ2 H2 F2 ε2 e2 r2 q2 => cc σ2 H2 F2 ε2 (e.trans e2) r2 q2,
    fun σ2 v2 H2 F2 x2 ε2 e2 r2 rv2 q2 => cr σ2 v2 H2 F2 x2 ε2 (e.trans e2) r2 rv2 q2, fun σ2 => (we σ2).ext e⟩
theorem lift_ifS {k : DT} {t u : DS} (h : liftS K W (dIfS k t u) Dd σ H) : tIfS (liftT K W k) (liftS K W t) (liftS K W u) Dd σ H := by
  obtain ⟨ε, B, F, P, r, t, c, cb, cc, cr, we⟩ := h
  refine ⟨ε, B, F, _, P.er, r, t, fun b H' F' ε' e r' q => ?_, we σ⟩
  have go : ∀ {z : DS}, z P ε' → liftS K W z Dd σ H' := fun {z} q => ⟨ε', B, F', P, r', q, fun σ2 H2 F2 ε2 e2 r2 q2 => c σ2 H2 F2 ε2 (e.trans e2) r2 q2, fun σ2 H2 F2 ε2 e2 r2 q2 => cb σ2 H2 F2 ε2 (e.trans e2) r2 q2, fun σ2 H2 F2 ε2 e2 r2 q2 => cc σ2 H2 F2 ε2 (e.trans e2) r2 q2,
    fun σ2 v2 H2 F2 x2 ε2 e2 r2 rv2 q2 => cr σ2 v2 H2 F2 x2 ε2 (e.trans e2) r2 rv2 q2, fun σ2 => (we σ2).ext e⟩
  replace q := ifb q
  cases b with
  | true => exact go q
  | false => exact go q
theorem lift_while {k : DT} {b : DS} (h : liftS K W (dWhile k b) Dd σ H) : tWhile (liftT K W k) (liftS K W b) Dd σ H := by
  obtain ⟨ε, B, F, P, r, ⟨I, ⟨m0, i0⟩, turn⟩, c, cb, cc, cr, we⟩ := h
  refine ⟨fun m σ H => ∃ ε' F', Ext B F F' ∧ Rep K B F' H σ ε' ∧ I m ε', ⟨m0, ε, F, Ext.refl _ _, r, i0⟩, ?_⟩
  rintro m σ1 H1 ⟨ε1, F1, e1, r1, i1⟩
  refine ⟨ε1, B, F1, _, P.er, r1, turn m ε1 i1, fun bb H2 F2 ε2 e2 r2 q => ?_, (we σ1).ext e1⟩
  have e12 := e1.trans e2
  replace q := ifb q
  cases bb with
  | false => exact c σ1 H2 F2 ε2 e12 r2 q
  | true =>
    refine ⟨fun σ' H' => ∃ m' ε' F', m' < m ∧ Ext B F F' ∧ Rep K B F' H' σ' ε' ∧ I m' ε', fun σ' H' ⟨m', ε', F', l, e', r', i'⟩ => ⟨m', l, ε', F', e', r', i'⟩, ?_⟩
    exact ⟨ε2, B, F2, _, r2, q, fun σ3 H3 F3 ε3 e3 r3 ⟨m', q1, q2⟩ => ⟨m', ε3, F3, q1, e12.trans e3, r3, q2⟩, fun σ3 H3 F3 ε3 e3 r3 q3 => c σ3 H3 F3 ε3 (e12.trans e3) r3 q3, fun σ3 H3 F3 ε3 e3 r3 ⟨m', q1, q2⟩ => ⟨m', ε3, F3, q1, e12.trans e3, r3, q2⟩,
      fun σ2 v2 H2 F2 x2 ε2 e2 r2 rv2 q2 => cr σ2 v2 H2 F2 x2 ε2 (e12.trans e2) r2 rv2 q2, fun σ2 => (we σ2).ext e12⟩
end
section
variable {X : Cx} {W : WX} {st : Stmt} {rest sa sb : List Stmt} {t u : DS} {e : Expr} {te : DE} {k : DT} {pos : Pos}
theorem ds_set {i : Nat} {x : Str} {pos' : Pos} (hN : X.N.Nodup) (hi : X.N[i]? = some x) (hx : Loc X.env.scope x) (he : PE X e (lift X.K W te)) (hs : swapsWith e (some (.Name x pos')) pos.line X.env = pure false := by rfl) (hf : X.fn x = true ∨ X.env.scope.names.lookup x = some .local := by first | exact .inl rfl | exact .inr rfl | assumption) :
    PS X (.Assign [.Name x pos'] e pos) (liftS X.K W (dSet te (gN i))) := by
  refine PS_imp (ps_set hN hi hx he hs hf) fun D σ H h => ?_
  obtain ⟨ε, B, F, R, RE, r, t, c, we⟩ := lift_set h
  exact ⟨ε, B, F, R, RE, r, t, fun v H' F' x ε' e r' rv q => lift_gN (c v H' F' x ε' e r' rv q), we⟩
theorem ds_asg {tg : Expr} {g : DG} (he : PE X e (lift X.K W te)) (hg : PG X tg (liftG X.K W g)) (hs : swapsWithSole [tg] e pos.line X.env = pure false := by rfl) (hw : swappedStores [tg] e X.env = pure none := by rfl)
    (h1 : (assignEach [tg] X.env).map (·.2) = [assign tg X.env] := by rfl) : PS X (.Assign [tg] e pos) (liftS X.K W (dSet te g)) := PS_imp (ps_asg he hg hs hw h1) fun _ _ _ => lift_set
theorem ds_expr (he : PE X e (lift X.K W te)) (hs : swapsWith e none pos.line X.env = pure false := by rfl) : PS X (.Expr e pos) (liftS X.K W (dDrop te)) := PS_imp (ps_expr he hs) fun _ _ _ => lift_drop
theorem ds_ret (he : PE X e (lift X.K W te)) : PS X (.Return (some e) pos) (liftS X.K W (dRet te)) := PS_imp (ps_ret he) fun _ _ _ => lift_ret
theorem ds_retN : PS X (.Return none pos) (liftS X.K W dRetN) := PS_imp ps_retN fun _ _ _ => lift_retN
theorem ds_pass : PS X (.Pass pos) (liftS X.K W dNext) := PS_imp ps_pass fun _ _ _ => lift_next
theorem ds_break : PS X (.Break pos) (liftS X.K W dBrk) := PS_imp ps_break fun _ _ _ => lift_brk
theorem ds_continue : PS X (.Continue pos) (liftS X.K W dCnt) := PS_imp ps_continue fun _ _ _ => lift_cnt
theorem ds_never : PS X st (liftS X.K W dNever) := PS_imp ps_never fun _ _ _ ⟨_, _, _, _, _, z, _⟩ => z
theorem dss_nil : PSs X [] (liftS X.K W dNext) := PSs_imp pss_nil fun _ _ _ => lift_next
theorem dss_one (h : PS X st (liftS X.K W t)) : PSs X [st] (liftS X.K W t) := pss_one h
theorem dss_cons (h : PS X st (liftS X.K W t)) (h2 : PSs X rest (liftS X.K W u)) : PSs X (st :: rest) (liftS X.K W (dSeq t u)) := PSs_imp (pss_cons h h2) fun _ _ _ => lift_seq
theorem dss_tail (h : PSs X rest (liftS X.K W u)) : PSs X rest (liftS X.K W (dTail u)) := by rw [dTail_eq]; exact h
theorem ds_if {c : Expr} (hc : PT X c (liftT X.K W k)) (ha : PSs X sa (liftS X.K W t)) (hb : PSs X sb (liftS X.K W u)) : PS X (.If c sa sb pos) (liftS X.K W (dIfS k t u)) := PS_imp (ps_if hc ha hb) fun _ _ _ => lift_ifS
theorem ds_while {c : Expr} (hp : PassesOwn (model X.prog X.w) X.A X.env X.xe) (hc : PT X c (liftT X.K W k)) (hb : PSs X sa (liftS X.K W t)) : PS X (.While c sa [] pos) (liftS X.K W (dWhile k t)) := PS_imp (ps_while hp hc hb) fun _ _ _ => lift_while
end
end DL

/-! DL8: for loops, list comprehensions. -/
namespace DL
open PySem PySem.Spec L2

/-- J runs through xs, whatever happens meanwhile -/
def IterOk (K : PySem.W.Frag) (B : Bs) (F : Hp) (J : It) (xs : List D) : Prop := ∀ (F1 H1 : Hp) (σ1 : L2.St) (ε1 : Sg) (B1 : Bs), Same F F1 → True → Rep K B1 F1 H1 σ1 ε1 →
  (∀ i d, xs[i]? = some d → J.go i H1 ∧ ∀ x H2, J.yld i H1 x H2 → ∃ F2, Ext B1 F1 F2 ∧ Rep K B1 F2 H2 σ1 ε1 ∧ Rp K F2 d x ∧ Same H1 H2) ∧ J.stop xs.length H1
abbrev DI := Sg → (List D → Sg → Prop) → DX → Prop
def liftI (K : PySem.W.Frag) (W : WX) (t : DI) : TI := fun σ H R => ∃ ε B F R' RE, Rep K B F H σ ε ∧ t ε R' RE ∧
  (∀ J H' F' xs ε', Ext B F F' → Rep K B F' H' σ ε' → IterOk K B F' J xs → R' xs ε' → R J H') ∧ Erw K W B F σ RE
def dFold (g : DG) (b : DS) (P : DN) : List D → Sg → Prop
  | [], ε => P.nx ε
  | x :: r, ε => g (.p x) ε (fun ε1 => nf ε1 (b (P.loop (dFold g b P r)))) P.er
structure DFo (g : DG) (b : DS) (P : DN) (xs : List D) (ε : Sg) : Prop where
  go : dFold g b P xs ε
def dFor (di : DI) (g : DG) (b : DS) : DS := fun P ε => di ε (fun xs ε1 => DFo g b P xs ε1) P.er
section
variable {K : PySem.W.Frag} {W : WX} {Dd : Ends} {σ : L2.St} {H : Hp}
theorem lift_for {di : DI} {g : DG} {b : DS} (h : liftS K W (dFor di g b) Dd σ H) : tFor (liftI K W di) (liftG K W g) (liftS K W b) Dd σ H := by
  obtain ⟨ε, B, F, P, r, t, c, cb, cc, cr, we⟩ := h
  refine ⟨ε, B, F, _, P.er, r, t, fun J H1 F1 xs ε1 e1 r1 ok q => ?_, we σ⟩
  replace q := q.go
  refine ⟨fun i m σ' H' => m = xs.length - i ∧ i ≤ xs.length ∧ ∃ F2 ε2, Ext B F1 F2 ∧ Rep K B F2 H' σ' ε2 ∧ dFold g b P (xs.drop i) ε2, ⟨_, rfl, Nat.zero_le _, F1, ε1, Ext.refl _ _, r1, q⟩, ?_⟩
  rintro i m σ2 H2 ⟨rfl, hi, F2, ε2, e2, r2, q2⟩
  obtain ⟨hgo, hst⟩ := ok F2 H2 σ2 ε2 B e2.1 trivial r2
  have e12 := e1.trans e2
  by_cases hlt : i < xs.length
  · have hx : xs[i]? = some xs[i] := List.getElem?_eq_getElem hlt
    obtain ⟨h1, h2⟩ := hgo i _ hx
    rw [List.drop_eq_getElem_cons hlt] at q2
    refine .inr ⟨h1, fun σ' H' => ∃ F3 ε3, Ext B F1 F3 ∧ Rep K B F3 H' σ' ε3 ∧ dFold g b P (xs.drop (i + 1)) ε3, fun σ' H' ⟨F3, ε3, e3, r3, q3⟩ => ⟨_, by omega, rfl, hlt, F3, ε3, e3, r3, q3⟩, fun x H' y => ?_⟩
    obtain ⟨F3, e3, r3, p3, _⟩ := h2 x H' y
    have e13 := e12.trans e3
    refine ⟨ε2, B, F3, .p _, _, P.er, r3, p3, q2, fun σ4 H4 F4 ε4 e4 r4 q4 => ?_, fun σ' => (we σ').ext e13⟩
    have e14 := e13.trans e4
    have q4 : b (P.loop (dFold g b P (xs.drop (i + 1)))) ε4 := nf_eq ε4 (b (P.loop (dFold g b P (xs.drop (i + 1))))) ▸ q4
    exact ⟨ε4, B, F4, _, r4, q4, fun σ5 H5 F5 ε5 e5 r5 q5 => ⟨F5, ε5, ((e2.trans e3).trans e4).trans e5, r5, q5⟩, fun σ5 H5 F5 ε5 e5 r5 q5 => c σ5 H5 F5 ε5 (e14.trans e5) r5 q5, fun σ5 H5 F5 ε5 e5 r5 q5 => ⟨F5, ε5, ((e2.trans e3).trans e4).trans e5, r5, q5⟩,
      fun σ5 v5 H5 F5 x5 ε5 e5 r5 rv5 q5 => cr σ5 v5 H5 F5 x5 ε5 (e14.trans e5) r5 rv5 q5, fun σ5 => (we σ5).ext e14⟩
  · have e : i = xs.length := by omega
    subst e
    rw [List.drop_length] at q2
    exact .inl ⟨hst, c σ2 H2 F2 ε2 e12 r2 q2⟩
end
section
variable {X : Cx} {W : WX} {tg iter e : Expr} {te : DE} {pos p : Pos}
theorem PI_imp {w w' : TI} (h : PI X tg iter w) (i : ∀ σ H R, w' σ H R → w σ H R) : PI X tg iter w' := ⟨fun pins s σ H R I q => h.run pins s σ H R I (i _ _ _ q)⟩
theorem ds_for {body : List Stmt} {di : DI} {g : DG} {tb : DS} (hp : PassesOwn (model X.prog X.w) X.A X.env X.xe) (hc : X.calm = true) (hi : PI X tg iter (liftI X.K W di)) (hg : PG X tg (liftG X.K W g)) (hb : PSs X body (liftS X.K W tb))
    (hs : ∀ x, foldedSetIterable iter X.env x = pure x := by intro _; rfl) : PS X (.For tg iter body [] pos) (liftS X.K W (dFor di g tb)) := PS_imp (ps_for hp hc hi hg hb hs) fun _ _ _ => lift_for

/-! ### what is walked: lists, tuples, texts -/
/-- a list, a tuple or a text, by its value -/
theorem pi_val {te : TE} (he : PE X e te) : PI X tg e (fun σ H R => te σ H fun x H1 => (∃ a xs, x = .ref a ∧ SqL X.K H1 a xs ∧ R (Itl X.K a) H1) ∨ (∃ a xs, x = .ref a ∧ SqT X.K H1 a xs ∧ R (Itt X.K a) H1) ∨ ∃ z, x = .str z ∧ R (Its z) H1) := by
  refine ⟨fun pins s σ H R I h => ?_⟩
  -- the value is known before it is walked: each road by its own rule, over a constant
  refine thn (he.run pins s σ H _ I h) fun v s1 ⟨x, H1, I1, r1, q1⟩ => ?_
  rcases q1 with ⟨a, xs, e1, hq, q⟩ | ⟨a, xs, e1, hq, q⟩ | ⟨z, e1, q⟩
  · subst e1
    cases r1
    obtain ⟨its, rv, pl, hz⟩ := I1.list hq
    refine wpAny_pyIter_list pl.isList ⟨_, [s1.heap.objs.size], _, _, H1, rfl, I1.kept (t' := s1.toks) fun b o q => Heap.get?_push_of_some _ q, turn_list a _, ⟨_, Heap.get?_push_size _ rfl, rfl, rfl⟩, fun b hb => ?_, q⟩
    rw [List.mem_singleton] at hb
    subst hb
    exact I1.fpOk (Nat.le_refl _) (I1.hok.fresh (Nat.le_refl _))
  · subst e1
    cases r1
    obtain ⟨its, rv, pl, hz⟩ := I1.tuple hq
    refine wpAny_pyIter_tuple pl ⟨_, [s1.heap.objs.size], _, _, H1, rfl, I1.kept (t' := s1.toks) fun b o q => Heap.get?_push_of_some _ q, turn_tuple a _, ⟨_, Heap.get?_push_size _ rfl, rfl, rfl⟩, fun b hb => ?_, q⟩
    rw [List.mem_singleton] at hb
    subst hb
    exact I1.fpOk (Nat.le_refl _) (I1.hok.fresh (Nat.le_refl _))
  · subst e1
    obtain ⟨t, rfl⟩ := r1
    cases ha : z.cps.all (· < 128)
    · exact wpAny_pyIter_wide ha (pi_one (tk := s1.toks) I1 _ (turn_str _ z t "str_iterator" (.inr rfl)) ⟨_, Heap.get?_push_size _ rfl, rfl, rfl⟩ q)
    · exact wpAny_pyIter_ascii ha (pi_one (tk := s1.toks) I1 _ (turn_str _ z t "str_ascii_iterator" (.inl rfl)) ⟨_, Heap.get?_push_size _ rfl, rfl, rfl⟩ q)
end
/-- the signs of a text -/
def signs (z : Str) : List D := z.cps.toList.map fun c => .str ⟨#[c]⟩
def itemsOf : D → Option (List D)
  | .tup xs => some xs
  | .lst xs => some xs
  | .frl xs => some xs
  | .str z => some (signs z)
  | _ => none
def diVal (te : DE) : DI := fun ε R E => te ε (fun x ε1 => frz x ε1 fun d ε2 => match itemsOf d with | some xs => R xs ε2 | none => False) E
def rangeL (lo : Int) (n : Nat) : List D := (List.range n).map fun i => .int (lo + (i : Nat))
def diRange1 (ta : DE) : DI := fun ε R E => ta ε (fun x ε1 => match x with
  | .p (.int j) => (-(2 ^ 62) ≤ j ∧ j < 2 ^ 62) ∧ R (rangeL 0 j.toNat) ε1
  | _ => False) E
def diRange2 (ta tb : DE) : DI := fun ε R E => ta ε (fun x ε1 => tb ε1 (fun y ε2 => match x, y with
  | .p (.int i), .p (.int j) => (-(2 ^ 62) ≤ i ∧ i < 2 ^ 62 ∧ -(2 ^ 62) ≤ j ∧ j < 2 ^ 62) ∧ R (rangeL i (j - i).toNat) ε2
  | _, _ => False) E) E
section
variable {K : PySem.W.Frag} {W : WX} {B : Bs} {F : Hp}
theorem sqL_inj {K : PySem.W.Frag} {F H : Hp} {a : Addr} {vs : List V} (h : F a = some (.lst vs) ∨ SqL K F a vs) (s : Same F H) : SqL K H a vs := by
  rcases h with h | h
  · exact SqL.of (s _ _ h)
  · exact s.seq h
theorem ok_range {lo : Int} {n : Nat} : IterOk K B F (Itr lo n) (rangeL lo n) := by
  intro F1 H1 σ1 ε1 B1 sf sb r
  have hl : (rangeL lo n).length = n := by simp [rangeL]
  refine ⟨fun i d e => ?_, by rw [hl]; exact Nat.le_refl _⟩
  have hi : i < n := by rw [← hl]; exact (List.getElem?_eq_some_iff.mp e).1
  refine ⟨hi, fun x H2 ⟨e1, e2⟩ => ?_⟩
  subst e1 e2
  refine ⟨F1, Ext.refl _ _, r, ?_, Same.refl _⟩
  simp only [rangeL, List.getElem?_map, List.getElem?_range hi, Option.map_some, Option.some.injEq] at e
  subst e
  exact rfl
theorem ok_list {a : Addr} {xs : List D} {vs : List V} (h : SqL K F a vs) (s : Rps K F xs vs) : IterOk K B F (Itl K a) xs := by
  intro F1 H1 σ1 ε1 B1 sf sb r
  have h1 : SqL K H1 a vs := r.fh.seq (sf.seq h)
  refine ⟨fun i d e => ?_, ⟨vs, h1, by rw [s.length]; exact Nat.le_refl _⟩⟩
  obtain ⟨v, hv, p⟩ := s.get e
  refine ⟨⟨vs, v, h1, hv⟩, fun x H2 ⟨e1, e2⟩ => ?_⟩
  subst e1
  have e3 := e2 vs h1
  rw [hv] at e3
  cases e3
  exact ⟨F1, Ext.refl _ _, r, p.mono sf, Same.refl _⟩
theorem ok_tup {a : Addr} {xs : List D} {vs : List V} (h : SqT K F a vs) (s : Rps K F xs vs) : IterOk K B F (Itt K a) xs := by
  intro F1 H1 σ1 ε1 B1 sf sb r
  have h1 : SqT K H1 a vs := sqT_mono r.fh (sqT_mono sf h)
  refine ⟨fun i d e => ?_, ⟨vs, h1, by rw [s.length]; exact Nat.le_refl _⟩⟩
  obtain ⟨v, hv, p⟩ := s.get e
  refine ⟨⟨vs, v, h1, hv⟩, fun x H2 ⟨e1, e2⟩ => ?_⟩
  subst e1
  have e3 := e2 vs h1
  rw [hv] at e3
  cases e3
  exact ⟨F1, Ext.refl _ _, r, p.mono sf, Same.refl _⟩
theorem ok_str {z : Str} : IterOk K B F (Its z) (signs z) := by
  intro F1 H1 σ1 ε1 B1 sf sb r
  have hl : (signs z).length = z.cps.size := by simp [signs]
  refine ⟨fun i d e => ?_, by rw [hl]; exact Nat.le_refl _⟩
  have hi : i < z.cps.size := by rw [← hl]; exact (List.getElem?_eq_some_iff.mp e).1
  refine ⟨hi, fun x H2 ⟨e1, c, e2, e3⟩ => ?_⟩
  subst e1 e3
  refine ⟨F1, Ext.refl _ _, r, ?_, Same.refl _⟩
  simp only [signs, List.getElem?_map, Array.getElem?_toList, e2, Option.map_some, Option.some.injEq] at e
  subst e
  exact rfl
theorem lift_val {te : DE} {σ : L2.St} {H : Hp} {R : It → Hp → Prop} (h : liftI K W (diVal te) σ H R) : lift K W te σ H fun x H1 => (∃ a xs, x = .ref a ∧ SqL K H1 a xs ∧ R (Itl K a) H1) ∨ (∃ a xs, x = .ref a ∧ SqT K H1 a xs ∧ R (Itt K a) H1) ∨ ∃ z, x = .str z ∧ R (Its z) H1 := by
  obtain ⟨ε, B, F, R', RE, r, t, c, we⟩ := h
  refine ⟨ε, B, F, _, RE, r, t, fun v H1 F1 x ε1 e1 r1 rv q => ?_, we⟩
  obtain ⟨F2, ε2, d, e2, r2, p2, q, _⟩ := frz_ok r1 rv q
  have e12 := e1.trans e2
  split at q
  · rename_i xs hxs
    cases d with
    | tup ys =>
      cases hxs
      obtain ⟨a, vs, rfl, ha, hs⟩ := p2
      exact .inr (.inl ⟨a, vs, rfl, sqT_mono r2.fh ha, c _ H1 F2 _ ε2 e12 r2 (ok_tup ha hs) q⟩)
    | lst ys =>
      cases hxs
      obtain ⟨a, vs, rfl, ha, hs⟩ := p2
      exact .inl ⟨a, vs, rfl, SqL.of (r2.fh _ _ ha), c _ H1 F2 _ ε2 e12 r2 (ok_list (SqL.of ha) hs) q⟩
    | frl ys =>
      cases hxs
      obtain ⟨a, vs, rfl, ha, hs⟩ := p2
      exact .inl ⟨a, vs, rfl, r2.fh.seq ha, c _ H1 F2 _ ε2 e12 r2 (ok_list ha hs) q⟩
    | str z =>
      cases hxs
      cases p2
      exact .inr (.inr ⟨z, rfl, c _ H1 F2 _ ε2 e12 r2 ok_str q⟩)
    | _ => cases hxs
  · exact q.elim
theorem lift_range1 {te : DE} {σ : L2.St} {H : Hp} {R : It → Hp → Prop} (h : liftI K W (diRange1 te) σ H R) : iRng1 (tCons (lift K W te) tNil) σ H R := by
  obtain ⟨ε, B, F, R', RE, r, t, c, we⟩ := h
  refine ⟨ε, B, F, _, RE, r, t, fun v H1 F1 x ε1 e1 r1 rv q => ?_, we⟩
  split at q
  · cases rv
    exact ⟨_, rfl, q.1.1, q.1.2, c _ H1 F1 _ ε1 e1 r1 ok_range q.2⟩
  · exact q.elim
theorem lift_range2 {ta tb : DE} {σ : L2.St} {H : Hp} {R : It → Hp → Prop} (h : liftI K W (diRange2 ta tb) σ H R) : iRng2 (tCons (lift K W ta) (tCons (lift K W tb) tNil)) σ H R := by
  obtain ⟨ε, B, F, R', RE, r, t, c, we⟩ := h
  refine ⟨ε, B, F, _, RE, r, t, fun v H1 F1 x ε1 e1 r1 rv q => ?_, we⟩
  obtain ⟨B1, sB, r2, back, _⟩ := r1.hold rv
  refine ⟨ε1, B1, F1, _, RE, r2, q, fun w H2 F2 y ε2 e2 r3 rv2 q => ?_, we.weak sB e1⟩
  split at q
  · cases rv
    cases rv2
    exact ⟨_, _, rfl, q.1, c _ H2 F2 _ ε2 (e1.trans (e2.weak sB)) (r3.weak sB) ok_range q.2⟩
  · exact q.elim
end
section
variable {X : Cx} {W : WX} {tg e a b : Expr} {te ta tb : DE} {pos p : Pos}
theorem di_val (he : PE X e (lift X.K W te)) : PI X tg e (liftI X.K W (diVal te)) := PI_imp (pi_val he) fun _ _ _ => lift_val
theorem di_range1 (hm : X.mg "range" = none) (ha : PE X a (lift X.K W ta)) (hg : Gl X "range" := by rfl) (hs : starEach [a] X.env = [(false, eval a X.env)] := by rfl) (h1 : starEach (a :: []) X.env = (false, eval a X.env) :: starEach [] X.env := by rfl) : PI X tg (.Call (.Name "range" p) [a] [] pos) (liftI X.K W (diRange1 ta)) :=
  PI_imp (pi_range1 hg hm (pa_cons ha pa_nil h1) hs) fun _ _ _ => lift_range1
theorem di_range2 (hm : X.mg "range" = none) (ha : PE X a (lift X.K W ta)) (hb : PE X b (lift X.K W tb)) (hg : Gl X "range" := by rfl) (hs : starEach [a, b] X.env = [(false, eval a X.env), (false, eval b X.env)] := by rfl) (hs2 : starEach [b] X.env = [(false, eval b X.env)] := by rfl)
    (h1 : starEach (a :: [b]) X.env = (false, eval a X.env) :: starEach [b] X.env := by rfl) (h2 : starEach (b :: []) X.env = (false, eval b X.env) :: starEach [] X.env := by rfl) : PI X tg (.Call (.Name "range" p) [a, b] [] pos) (liftI X.K W (diRange2 ta tb)) :=
  PI_imp (pi_range2 hg hm (pa_cons ha (pa_cons hb pa_nil h2) h1) hs hs2) fun _ _ _ => lift_range2
end
end DL

/-! DL9: list comprehensions over pure data. -/
namespace DL
open PySem PySem.Spec L2

/-- no error is let out of a block -/
abbrev WF : WX := fun _ _ _ _ => False
inductive Tg where
  | n (i : Nat)
  | t (is : List Nat)
def namesG : List Nat → TGs
  | [] => gNil
  | i :: r => gCons (gName i) (namesG r)
def tgG (K : PySem.W.Frag) : Tg → TG
  | .n i => gName i
  | .t is => gTup K is.length (namesG is)
def Tg.ix : Tg → List Nat
  | .n i => [i]
  | .t is => is
def setsV : L2.St → List Nat → List V → L2.St
  | σ, i :: r, v :: vs => setsV (σ.set i (some v)) r vs
  | σ, _, _ => σ
def setsD : Sg → List Nat → List D → Sg
  | ε, i :: r, d :: ds => setsD (ε.set i (some (.p d))) r ds
  | ε, _, _ => ε
def tgD : Tg → D → Sg → (Sg → Prop) → Prop
  | .n i, d, ε, R => R (ε.set i (some (.p d)))
  | .t is, .tup ds, ε, R => ds.length = is.length ∧ R (setsD ε is ds)
  | _, _, _, _ => False
def wipeD (ε : Sg) : List Nat → Sg
  | [] => ε
  | v :: vs => (wipeD ε vs).set v none
/-- these slots own nothing -/
def ownfree (ε : Sg) (vs : List Nat) : Bool := vs.all fun i => match ε[i]? with
  | some (some (.ow _ _)) => false
  | _ => true
section
variable {K : PySem.W.Frag} {B : Bs} {F H : Hp} {σ : L2.St} {ε : Sg}
theorem Rep.clear {i : Nat} (r : Rep K B F H σ ε) : Rep K B F H (σ.set i none) (ε.set i none) := by
  refine ⟨r.fh, r.bh, by rw [List.length_set, List.length_set]; exact r.len, fun j s e => ?_, fun j k l1 l2 n m a hjk ej ek sj sk => ?_⟩
  · rcases set_get e with ⟨_, e2, _⟩ | ⟨hij, e⟩
    · cases e2
    · obtain ⟨v, h1, h2⟩ := r.val j s e
      exact ⟨v, by rw [List.getElem?_set_ne hij]; exact h1, h2⟩
  · rcases set_get ej with ⟨_, e2, _⟩ | ⟨hij, ej⟩
    · cases e2
    · rcases set_get ek with ⟨_, e2, _⟩ | ⟨hik, ek⟩
      · cases e2
      · rw [List.getElem?_set_ne hij] at sj
        rw [List.getElem?_set_ne hik] at sk
        exact r.sep j k l1 l2 n m a hjk ej ek sj sk
theorem Rep.wipe (r : Rep K B F H σ ε) : ∀ vs : List Nat, Rep K B F H (L2.wipe σ vs) (wipeD ε vs)
  | [] => r
  | _ :: vs => (Rep.wipe r vs).clear
theorem wipeD_some {ε : Sg} {i : Nat} {s : Sl} : ∀ {vs : List Nat}, (wipeD ε vs)[i]? = some (some s) → ε[i]? = some (some s) ∧ i ∉ vs
  | [], h => ⟨h, by simp⟩
  | v :: vs, h => by
    rcases set_get h with ⟨_, e2, _⟩ | ⟨hij, h⟩
    · cases e2
    · obtain ⟨h1, h2⟩ := wipeD_some h
      exact ⟨h1, by simp only [List.mem_cons, not_or]; exact ⟨fun z => hij z.symm, h2⟩⟩
theorem wipeD_keep {ε : Sg} {i : Nat} : ∀ {vs : List Nat}, i ∉ vs → (wipeD ε vs)[i]? = ε[i]?
  | [], _ => rfl
  | v :: vs, h => by
    simp only [List.mem_cons, not_or] at h
    show ((wipeD ε vs).set v none)[i]? = _
    rw [List.getElem?_set_ne (fun z => h.1 z.symm)]
    exact wipeD_keep h.2
theorem wipe_set {σ : L2.St} {i : Nat} {x : Option V} : ∀ {vs : List Nat}, i ∈ vs → L2.wipe (σ.set i x) vs = L2.wipe σ vs := by
  intro vs h
  apply List.ext_getElem?
  intro j
  have key : ∀ (τ : L2.St) (vs : List Nat), (L2.wipe τ vs)[j]? = if j ∈ vs then (τ[j]?).map (fun _ => none) else τ[j]? := by
    intro τ vs
    induction vs with
    | nil => simp [L2.wipe]
    | cons v vs ih =>
      show ((L2.wipe τ vs).set v none)[j]? = _
      by_cases hv : v = j
      · subst hv
        simp only [List.mem_cons, true_or, if_true]
        rcases Nat.lt_or_ge v τ.length with z | z
        · rw [List.getElem?_set_self (by rw [L2.wipe_length]; exact z), List.getElem?_eq_getElem z]; rfl
        · rw [List.getElem?_eq_none (by rw [List.length_set, L2.wipe_length]; exact z), List.getElem?_eq_none z]; rfl
      · rw [List.getElem?_set_ne hv, ih]
        have : (j ∈ v :: vs) = (j ∈ vs) := by simp [Ne.symm hv]
        simp only [this]
  rw [key, key]
  by_cases hj : j ∈ vs
  · rw [if_pos hj, if_pos hj]
    by_cases hij : i = j
    · subst hij
      rcases Nat.lt_or_ge i σ.length with z | z
      · rw [List.getElem?_set_self z, List.getElem?_eq_getElem z]; rfl
      · rw [List.getElem?_eq_none (by simpa using z), List.getElem?_eq_none z]
    · rw [List.getElem?_set_ne hij]
  · have hij : i ≠ j := fun z => hj (z ▸ h)
    rw [if_neg hj, if_neg hj, List.getElem?_set_ne hij]
theorem wipe_wipe {σ : L2.St} : ∀ (us vs : List Nat), (∀ i ∈ us, i ∈ vs) → L2.wipe (L2.wipe σ us) vs = L2.wipe σ vs
  | [], _, _ => rfl
  | u :: us, vs, h => by
    show L2.wipe ((L2.wipe σ us).set u none) vs = _
    rw [wipe_set (h u (by simp))]
    exact wipe_wipe us vs fun i hi => h i (by simp [hi])
theorem wipe_sets : ∀ {is : List Nat} {σ : L2.St} {ws : List V} {vs : List Nat}, (∀ i ∈ is, i ∈ vs) → L2.wipe (setsV σ is ws) vs = L2.wipe σ vs
  | [], _, _, _, _ => rfl
  | i :: r, σ, [], _, _ => rfl
  | i :: r, σ, w :: ws, vs, h => by
    show L2.wipe (setsV (σ.set i (some w)) r ws) vs = _
    rw [wipe_sets fun j hj => h j (by simp [hj]), wipe_set (h i (by simp))]
theorem Rep.sets : ∀ {is : List Nat} {σ : L2.St} {ε : Sg} {ds : List D} {ws : List V}, Rep K B F H σ ε → Rps K F ds ws → ds.length = is.length → Rep K B F H (setsV σ is ws) (setsD ε is ds)
  | [], _, _, [], _, r, h, _ => by rw [h.nil]; exact r
  | [], _, _, _ :: _, _, _, _, e => by cases e
  | i :: is, _, _, [], _, _, _, e => by cases e
  | i :: is, σ, ε, d :: ds, _, r, h, e => by
    obtain ⟨w, ws, rfl, h1, h2⟩ := h.cons
    exact Rep.sets (is := is) (σ := σ.set i (some w)) (ε := ε.set i (some (.p d))) (r.setP h1) h2 (by simpa using e)
theorem names_ok : ∀ {is : List Nat} {σ : L2.St} {H : Hp} {ws : List V} {Q : L2.St → Hp → Prop}, ws.length = is.length → Q (setsV σ is ws) H → namesG is ws σ H Q
  | [], _, _, [], _, _, q => ⟨rfl, q⟩
  | [], _, _, _ :: _, _, e, _ => by cases e
  | _ :: _, _, _, [], _, e, _ => by cases e
  | i :: is, σ, H, w :: ws, Q, e, q => ⟨w, ws, rfl, names_ok (is := is) (by simpa using e) q⟩
theorem tg_ok {tg : Tg} {d : D} {v : V} {vs : List Nat} {R : Sg → Prop} {Q : L2.St → Hp → Prop} (r : Rep K B F H σ ε) (h : Rp K F d v) (hi : ∀ i ∈ tg.ix, i ∈ vs) (q : tgD tg d ε R)
    (c : ∀ σ' ε', Rep K B F H σ' ε' → L2.wipe σ' vs = L2.wipe σ vs → R ε' → Q σ' H) : tgG K tg v σ H Q := by
  cases tg with
  | n i => exact c _ _ (r.setP h) (wipe_set (hi i (by simp [Tg.ix]))) q
  | t is =>
    cases d with
    | tup ds =>
      obtain ⟨a, ws, rfl, ha, hs⟩ := h
      have hl : ws.length = is.length := by rw [hs.length]; exact q.1
      exact ⟨a, ws, rfl, sqT_mono r.fh ha, hl, names_ok hl (c _ _ (r.sets hs q.1) (wipe_sets hi) q.2)⟩
    | _ => exact False.elim q
end
def dYes : DT := fun ε R _ => R true ε
abbrev EF : DX := fun _ _ => False
def lcFold (tg : Tg) (tt : DT) (te : DE) (vs : List Nat) (ε0 : Sg) (R : List D → Prop) : List D → List D → Prop
  | [], acc => R acc
  | x :: r, acc => tgD tg x ε0 fun ε2 => tt ε2 (fun b ε3 => IfB b (te ε3 (fun y ε4 => frz y ε4 fun d ε5 => wipeD ε5 vs = ε0 ∧ acc.length < sizeLine ∧ lcFold tg tt te vs ε0 R r (acc ++ [d])) EF)
      (wipeD ε3 vs = ε0 ∧ lcFold tg tt te vs ε0 R r acc)) EF
structure DLC (tg : Tg) (tt : DT) (te : DE) (vs : List Nat) (ε0 : Sg) (R : List D → Prop) (xs : List D) : Prop where
  go : lcFold tg tt te vs ε0 R xs []
def dLc (di : DI) (tg : Tg) (tt : DT) (te : DE) (vs : List Nat) : DE := fun ε R E => di ε (fun xs ε1 => ownfree ε1 vs = true ∧ (tg.ix.all fun i => vs.contains i) = true ∧ DLC tg tt te vs (wipeD ε1 vs) (fun ys => R (.ow (.lst ys)) ε1) xs) E
section
variable {K : PySem.W.Frag} {W : WX}
theorem lift_lc {di : DI} {tg : Tg} {tt : DT} {te : DE} {vs : List Nat} {σ : L2.St} {H : Hp} {Q : VK} (h : lift K W (dLc di tg tt te vs) σ H Q) : tLc (liftI K W di) (tgG K tg) (liftT K WF tt) (lift K WF te) vs σ H Q := by
  obtain ⟨ε, B, F, R, RE, r, t, c, we⟩ := h
  refine ⟨ε, B, F, _, RE, r, t, fun J H1 F1 xs ε1 e1 r1 ok ⟨hof, hix, q⟩ D hD => ?_, we⟩
  have hix' : ∀ i ∈ tg.ix, i ∈ vs := fun i hi => by simpa using (List.all_eq_true.mp hix) i hi
  have hB : B D = none := same_none r1.bh hD
  have hF : F1 D = none := same_none r1.fh hD
  refine ⟨fun i m H' => m = xs.length - i ∧ i ≤ xs.length ∧ ∃ F' acc accV, Ext B F1 F' ∧ F' D = none ∧ H' D = some (.lst accV) ∧ Rps K F' acc accV ∧ Rep K B F' H' (L2.wipe σ vs) (wipeD ε1 vs) ∧
    (∀ (i : Nat) (k : Option Nat) (m : Nd), (wipeD ε1 vs)[i]? = some (some (Sl.ow k m)) → (L2.wipe σ vs)[i]? ≠ some (some (V.ref D))) ∧ lcFold tg tt te vs (wipeD ε1 vs) (fun ys => R (.ow (.lst ys)) ε1) (xs.drop i) acc,
    ⟨_, rfl, Nat.zero_le _, F1, [], [], Ext.refl _ _, hF, upd_same, rfl, (r1.lay hD).wipe vs, fun i k m e es => ?_, q.go⟩, ?_⟩
  · obtain ⟨v, h1, h2⟩ := (r1.wipe vs).val i _ e
    obtain ⟨a, e2, e3, _⟩ := h2
    rw [es] at h1
    have e9 : V.ref D = v := Option.some.inj (Option.some.inj h1)
    subst e9
    cases e2
    obtain ⟨o, ho⟩ := e3.there
    rw [hD] at ho; cases ho
  · rintro i m H2 ⟨rfl, hi, F2, acc, accV, e2, f2, h2, p2, r2, n2, q2⟩
    have gB : ∀ {o : HO}, BLe B (B.add D o) := BLe.add hB
    have gD : ∀ {o : HO}, (B.add D o) D = some o := upd_same
    have g2 := r2.guard h2 hB n2
    obtain ⟨hgo, hst⟩ := ok F2 H2 _ _ _ e2.1 trivial g2
    by_cases hlt : i < xs.length
    · have hx : xs[i]? = some xs[i] := List.getElem?_eq_getElem hlt
      obtain ⟨hg1, hg2⟩ := hgo i _ hx
      rw [List.drop_eq_getElem_cons hlt] at q2
      refine .inr ⟨hg1, fun H' => ∃ F' acc accV, Ext B F1 F' ∧ F' D = none ∧ H' D = some (.lst accV) ∧ Rps K F' acc accV ∧ Rep K B F' H' (L2.wipe σ vs) (wipeD ε1 vs) ∧
        lcFold tg tt te vs (wipeD ε1 vs) (fun ys => R (.ow (.lst ys)) ε1) (xs.drop (i + 1)) acc, fun H' ⟨F', acc', accV', z1, z2, z3, z4, z5, z6⟩ => ⟨_, by omega, rfl, hlt, F', acc', accV', z1, z2, z3, z4, z5, n2, z6⟩, fun x H3 y => ?_⟩
      obtain ⟨F3, e3, r3, p3, s3⟩ := hg2 x H3 y
      refine tg_ok r3 p3 hix' q2 fun σ4 ε4 r4 w4 q4 => ⟨w4.trans (wipe_wipe vs vs fun _ h => h), ?_⟩
      refine ⟨ε4, _, F3, _, EF, r4, q4, fun b H5 F5 ε5 e5 r5 q5 => ?_, fun _ _ _ _ _ _ _ _ _ z => z.elim⟩
      have e35 := e3.trans e5
      have hD5 : H5 D = some (.lst accV) := r5.bh D _ gD
      have f5 : F5 D = none := e35.2 D f2 (by rw [gD]; exact Option.some_ne_none _)
      have eB5 : Ext B F1 F5 := e2.trans (e35.weak gB)
      have back : ∀ {H' F' : Hp} {ε' : Sg}, Rep K (B.add D (.lst accV)) F' H' σ4 ε' → wipeD ε' vs = wipeD ε1 vs → Rep K B F' H' (L2.wipe σ vs) (wipeD ε1 vs) := fun {H' F' ε'} r' we' => by
        have z := (r'.weak gB).wipe vs
        rw [we', w4, wipe_wipe vs vs fun _ h => h] at z
        exact z
      replace q5 := ifb q5
      cases b with
      | false =>
        obtain ⟨we5, q5⟩ := q5
        exact ⟨F5, acc, accV, eB5, f5, hD5, p2.mono e35.1, back r5 we5, q5⟩
      | true =>
        refine ⟨ε5, _, F5, _, EF, r5, q5, fun v H6 F6 z ε6 e6 r6 rv6 q6 => ?_, fun _ _ _ _ _ _ _ _ _ z => z.elim⟩
        obtain ⟨F7, ε7, d, e7, r7, p7, ⟨we7, hz, q7⟩, _⟩ := frz_ok r6 rv6 q6
        have e37 := (e35.trans e6).trans e7
        have hD7 : H6 D = some (.lst accV) := r7.bh D _ gD
        have f7 : F7 D = none := e37.2 D f2 (by rw [gD]; exact Option.some_ne_none _)
        refine ⟨accV, hD7, by rw [(p2.mono e37.1).length]; exact hz, F7, acc ++ [d], accV ++ [v], e2.trans (e37.weak gB), f7, upd_same, (p2.mono e37.1).append (Rps.one p7), ?_, q7⟩
        have rb := back r7 we7
        refine ⟨fun b u q => ?_, fun b u q => ?_, rb.len, fun j s ej => ?_, rb.sep⟩
        · rw [upd_ne (ne_of_none q f7)]; exact rb.fh b u q
        · rw [upd_ne (ne_of_none q hB)]; exact rb.bh b u q
        · obtain ⟨w, h1, h2'⟩ := rb.val j s ej
          refine ⟨w, h1, ?_⟩
          cases s with
          | p d => exact h2'
          | ow k n =>
            obtain ⟨b, y1, y2, y3, y4⟩ := h2'
            subst y1
            have hbD : b ≠ D := fun z => by
              subst z
              exact n2 j k n ej h1
            exact ⟨b, rfl, y2.move (Same.refl _) (upd_ne hbD), y3, y4⟩
    · have e : i = xs.length := by omega
      subst e
      rw [List.drop_length] at q2
      refine .inl ⟨hst, ?_⟩
      have rr : Rep K B F2 H2 σ ε1 := by
        refine ⟨r2.fh, r2.bh, r1.len, fun j s ej => ?_, fun j k l1 l2 n m a hjk ej ek sj sk => ?_⟩
        · by_cases hj : j ∈ vs
          · have hz : (match ε1[j]? with | some (some (Sl.ow _ _)) => false | _ => true) = true := (List.all_eq_true.mp hof) j hj
            rw [ej] at hz
            cases s with
            | ow k n => cases hz
            | p d =>
              obtain ⟨v, h1, h2'⟩ := r1.val j _ ej
              exact ⟨v, h1, Rp.mono e2.1 h2'⟩
          · obtain ⟨v, h1, h2'⟩ := r2.val j s (by rw [wipeD_keep hj]; exact ej)
            exact ⟨v, (L2.wipe_some h1).1, h2'⟩
        · have hj : ∀ {j : Nat} {k : Option Nat} {n : Nd}, ε1[j]? = some (some (Sl.ow k n)) → j ∉ vs := fun {j k n} ej hj => by
            have hz : (match ε1[j]? with | some (some (Sl.ow _ _)) => false | _ => true) = true := (List.all_eq_true.mp hof) j hj
            rw [ej] at hz
            cases hz
          exact r1.sep j k l1 l2 n m a hjk ej ek sj sk
      refine c _ H2 F2 (.ow (.lst acc)) ε1 (e1.trans e2) rr ⟨D, rfl, ⟨accV, h2, p2⟩, f2, hB, fun j k m ej es => ?_⟩ q2
      obtain ⟨v, h1, h2'⟩ := r1.val j _ ej
      obtain ⟨a, y1, y2, _⟩ := h2'
      rw [es] at h1
      have e9 : V.ref D = v := Option.some.inj (Option.some.inj h1)
      subst e9
      cases y1
      obtain ⟨o, ho⟩ := y2.there
      rw [hD] at ho; cases ho
end
section
variable {X : Cx} {W : WX} {elt tg iter : Expr} {ifs : List Expr} {scope : Scope} {own : List (Str × Nat)} {pos : Pos} {di : DI} {g : Tg} {tt : DT} {te : DE}
theorem dts_nil : PTs X [] (liftT X.K W dYes) := by
  refine ⟨fun pins s σ H Q I h => pts_nil.run pins s σ H Q I ?_⟩
  obtain ⟨ε, B, F, R, RE, r, t, c, _⟩ := h
  exact c true H F ε (Ext.refl _ _) r t
theorem dts_one {c : Expr} (h : PT X c (liftT X.K W tt)) : PTs X [c] (liftT X.K W tt) := pts_one h
theorem de_lc (hc : X.calm = true) (hN : X.N.Nodup) (hi : PI X tg iter (liftI X.K W di)) (ok : BlkOk X.N X.env.scope scope own)
    (hg : ∀ (s : Shared) (H : Hp) (C : Addr) (cl : List (Str × Addr)) (fp : List Addr), PG (X.blk s H scope (compEnvC scope cl C X.env) fp) tg (tgG X.K g))
    (ht : ∀ (s : Shared) (H : Hp) (C : Addr) (cl : List (Str × Addr)) (fp : List Addr), PTs (X.blk s H scope (compEnvC scope cl C X.env) fp) ifs (liftT X.K WF tt))
    (he : ∀ (s : Shared) (H : Hp) (C : Addr) (cl : List (Str × Addr)) (fp : List Addr), PE (X.blk s H scope (compEnvC scope cl C X.env) fp) elt (lift X.K WF te)) (hs : ∀ x, foldedSetIterable iter X.env x = pure x := by intro _; rfl) :
    PE X (.ListComp elt [⟨tg, iter, ifs, 0⟩] scope pos) (lift X.K W (dLc di g tt te (own.map (·.2)))) := PE_imp (pe_lc hc hN hi ok hg ht he hs) fun _ _ _ => lift_lc
theorem ds_setLc {i : Nat} {y : Str} {py spos : Pos} (hc : X.calm = true) (hN : X.N.Nodup) (hy : X.N[i]? = some y) (hyl : X.env.scope.names.lookup y = some .local)
    (hsw : swapsWith (.ListComp elt [⟨tg, iter, ifs, 0⟩] scope pos) (some (.Name y py)) spos.line X.env = pure true) (hi : PI X tg iter (liftI X.K W di)) (ok : BlkOk X.N X.env.scope scope own)
    (hg : ∀ (s : Shared) (H : Hp) (C : Addr) (cl : List (Str × Addr)) (fp : List Addr), PG (X.blk s H scope (compEnvC scope cl C X.env) fp) tg (tgG X.K g))
    (ht : ∀ (s : Shared) (H : Hp) (C : Addr) (cl : List (Str × Addr)) (fp : List Addr), PTs (X.blk s H scope (compEnvC scope cl C X.env) fp) ifs (liftT X.K WF tt))
    (he : ∀ (s : Shared) (H : Hp) (C : Addr) (cl : List (Str × Addr)) (fp : List Addr), PE (X.blk s H scope (compEnvC scope cl C X.env) fp) elt (lift X.K WF te)) (hs : ∀ x, foldedSetIterable iter X.env x = pure x := by intro _; rfl) :
    PS X (.Assign [.Name y py] (.ListComp elt [⟨tg, iter, ifs, 0⟩] scope pos) spos) (liftS X.K W (dSet (dLc di g tt te (own.map (·.2))) (gN i))) := by
  refine PS_imp (ps_setLc hc hN hy hyl hsw hi ok hg ht he hs) fun D σ H h => ?_
  obtain ⟨ε, B, F, R, RE, r, t, c, we⟩ := lift_set h
  have h2 : lift X.K W (dLc di g tt te (own.map (·.2))) σ H fun x H1 => gName i x σ H1 D.nx := ⟨ε, B, F, R, RE, r, t, fun v H' F' x ε' e r' rv q => lift_gN (c v H' F' x ε' e r' rv q), we⟩
  exact lift_lc h2
end
end DL

/-! DL10: contracts of defs, calls, list methods. -/
namespace DL
open PySem PySem.Spec L2

/-- what a def is worth: over pure arguments; over an object that it may change, and pure arguments -/
abbrev PCt := List D → (Vl → Prop) → (Er → Prop) → Prop
abbrev RCt := Nd → List D → (Vl → Nd → Prop) → (Er → Nd → Prop) → Prop
/-- a result: pure data, or a fresh object -/
def RRs (K : PySem.W.Frag) (H F' H' : Hp) : Vl → V → Prop
  | .p d, v => Rp K F' d v
  | .ow n, v => ∃ a, v = .ref a ∧ RNl K F' H' n a ∧ F' a = none ∧ H a = none
  | .al _ _, _ => False
structure Fr0 (F H F' H' : Hp) : Prop where
  f : Same F F'
  fh : Same F' H'
  h : Same H H'
  n : ∀ b, F b = none → H b ≠ none → F' b = none
structure FrA (a : Addr) (F H F' H' : Hp) : Prop where
  f : Same F F'
  fh : Same F' H'
  h : ∀ b o, b ≠ a → H b = some o → H' b = some o
  n : ∀ b, F b = none → H b ≠ none → F' b = none
def spP (K : PySem.W.Frag) (c : PCt) : Sp := fun vs H Q E => ∃ F ds R RE, Same F H ∧ Rps K F ds vs ∧ c ds R RE ∧
  (∀ v H' F' x, Fr0 F H F' H' → RRs K H F' H' x v → R x → Q v H') ∧ (∀ cl d H' F' e, Fr0 F H F' H' → REr K F' H' e cl d → RE e → E cl d H')
def spR (K : PySem.W.Frag) (c : RCt) : Sp := fun vs H Q E => ∃ F a ws n ds R RE, vs = .ref a :: ws ∧ Same F H ∧ F a = none ∧ RNd K F H n a ∧ Rps K F ds ws ∧ c n ds R RE ∧
  (∀ v H' F' x n', FrA a F H F' H' → RNd K F' H' n' a → RRs K H F' H' x v → R x n' → Q v H') ∧ (∀ cl d H' F' e n', FrA a F H F' H' → RNd K F' H' n' a → REr K F' H' e cl d → RE e n' → E cl d H')
/-- the value that a def hands back -/
def retq : Vl → Sg → (Vl → Prop) → Prop
  | .p d, _, R => R (.p d)
  | .ow n, _, R => R (.ow n)
  | .al i n, ε, R => ε[i]? = some (some (.ow none n)) ∧ R (.ow n)
def startD (N : List Str) (l : List (Option Sl)) : Sg := l ++ List.replicate (N.length - l.length) none
def pEnds (R : Vl → Prop) (RE : Er → Prop) : DN := { nx := fun _ => R (.p .non), rt := fun x ε => retq x ε R, er := fun e _ => RE e }
def rEnds (R : Vl → Nd → Prop) (RE : Er → Nd → Prop) : DN where
  nx := fun (ε : Sg) => match ε[0]? with | some (some (Sl.ow (some 0) n)) => R (.p .non) n | _ => False
  rt := fun x (ε : Sg) => match ε[0]? with | some (some (Sl.ow (some 0) n)) => retq x ε fun y => R y n | _ => False
  er := fun e (ε : Sg) => match ε[0]? with | some (some (Sl.ow (some 0) n)) => RE e n | _ => False
section
variable {K : PySem.W.Frag}
theorem rep_start {F H : Hp} {ds : List D} {vs : List V} {N : List Str} (s : Same F H) (h : Rps K F ds vs) : Rep K ⟨H, []⟩ F H (start N vs) (startD N (ds.map fun d => some (.p d))) := by
  have hl : vs.length = (ds.map fun d => some (Sl.p d)).length := by rw [List.length_map, h.length]
  refine ⟨s, Same.refl H, by simp [L2.start, startD, h.length], fun i sl e => ?_, fun i j k l n m a hij ei ej _ => ?_⟩
  · unfold startD at e
    rw [List.getElem?_append] at e
    split at e
    · rename_i hi
      rw [List.getElem?_map] at e
      cases q : ds[i]? with
      | none => rw [q] at e; cases e
      | some d =>
        rw [q] at e
        cases e
        obtain ⟨v, hv, p⟩ := h.get q
        refine ⟨v, ?_, p⟩
        unfold L2.start
        rw [List.getElem?_append_left (by rw [List.length_map, hl]; exact hi), List.getElem?_map, hv]
        rfl
    · rw [List.getElem?_replicate] at e
      split at e <;> cases e
  · unfold startD at ei
    rw [List.getElem?_append] at ei
    split at ei
    · rw [List.getElem?_map] at ei
      cases q : ds[i]? with
      | none => rw [q] at ei; cases ei
      | some d => rw [q] at ei; cases ei
    · rw [List.getElem?_replicate] at ei
      split at ei <;> cases ei
theorem Ext.fr {F H F' H' : Hp} {A : List Addr} (e : Ext ⟨H, A⟩ F F') (s : Same F' H') (b : Same H H') : Fr0 F H F' H' := ⟨e.1, s, b, e.2⟩
end
section
variable {P : Program} {w : World} {K : PySem.W.Frag} {mg : Str → Option Value} {base : Heap}
abbrev cxF (P : Program) (w : World) (K : PySem.W.Frag) (mg : Str → Option Value) (base : Heap) (N : List Str) (qual : Str) (st : Stmt) (f : Addr) (cdv : Value) (A : Around) (outer : List Env) (s : Shared) (H : Hp) (E : XK) : Cx :=
  cxOf (L2.CX P w) P w K mg base N qual (defScope st) f cdv A outer s H E
abbrev wE (E : XK) : WX := fun c d _ H => E c d H
theorem okP {x qual : Str} {st : Stmt} {f : Addr} {fd : FuncData} {N ps : List Str} {k : Nat} {c : PCt} {t : DS} (F : Fun K x qual st f fd) (S : FnScope N ps (defScope st)) (len : ∀ ds R RE, c ds R RE → ds.length = ps.length)
    (body : ∀ (cdv : Value) (A : Around) (outer : List Env) (s : Shared) (H : Hp) (E : XK), Room k (A.deeper (PyProof.Rows.envOfC qual (defScope st) s.heap.objs.size f cdv)) →
      Takes (cxF P w K mg base N qual st f cdv A outer s H E) (wE E) → PassesOwn (model P w) (A.deeper (PyProof.Rows.envOfC qual (defScope st) s.heap.objs.size f cdv)) (PyProof.Rows.envOfC qual (defScope st) s.heap.objs.size f cdv) (cxF P w K mg base N qual st f cdv A outer s H E).xe →
      PSs (cxF P w K mg base N qual st f cdv A outer s H E) (defBody st) (liftS K (wE E) t))
    (vc : ∀ ds R RE, c ds R RE → t (pEnds R RE) (startD N (ds.map fun d => some (.p d)))) : FnOk P w K mg base (L2.CX P w) (k + 1) f fd ps (spP K c) := by
  refine F.okX S (fun vs H Q E h => ?_) fun cdv A outer s H vs Q E hr h => ?_
  · obtain ⟨F0, ds, R, RE, _, h2, h3, _⟩ := h
    rw [h2.length]; exact len _ _ _ h3
  · obtain ⟨F0, ds, R, RE, h1, h2, h3, h4, h5⟩ := h
    refine ⟨_, body cdv A outer s H E hr (takes_of rfl rfl rfl rfl) (passes_of rfl), _, ⟨H, []⟩, F0, _, rep_start h1 h2, vc ds R RE h3, fun σ' H' F' ε' e r q => ?_, fun _ _ _ _ _ _ z => z, fun _ _ _ _ _ _ z => z, fun σ' v H' F' x ε' e r rv q => ?_, fun σ' cl d H' F' e ε' ex r re q => ?_⟩
    · exact h4 .non H' F' (.p .non) (e.fr r.fh r.bh) rfl q
    · have q' : retq x ε' R := q
      cases x with
      | p d => exact h4 v H' F' (.p d) (e.fr r.fh r.bh) rv q'
      | ow n =>
        obtain ⟨a, e1, e2, e3, e4, _⟩ := rv
        exact h4 v H' F' (.ow n) (e.fr r.fh r.bh) ⟨a, e1, e2, e3, e4⟩ q'
      | al i n =>
        obtain ⟨a, e1, e2, e3, e4⟩ := r.al rv.1 rv.2
        exact h4 v H' F' (.ow n) (e.fr r.fh r.bh) ⟨a, e1, e2, e3, e4⟩ q'.2
    · exact h5 cl d H' F' e (ex.fr r.fh r.bh) re q
theorem rep_startR {F H : Hp} {a : Addr} {n : Nd} {ds : List D} {vs : List V} {N : List Str} (s : Same F H) (hf : F a = none) (hn : RNd K F H n a) (h : Rps K F ds vs) :
    Rep K ⟨fun b => if b = a then none else H b, [a]⟩ F H (L2.start N (.ref a :: vs)) (startD N (some (.ow (some 0) n) :: ds.map fun d => some (.p d))) := by
  have hl : vs.length = (ds.map fun d => some (Sl.p d)).length := by rw [List.length_map, h.length]
  have only : ∀ {i : Nat} {k : Option Nat} {m : Nd}, (startD N (some (.ow (some 0) n) :: ds.map fun d => some (.p d)))[i]? = some (some (Sl.ow k m)) → i = 0 := fun {i k m} e => by
    cases i with
    | zero => rfl
    | succ i =>
      unfold startD at e
      rw [List.cons_append, List.getElem?_cons_succ, List.getElem?_append] at e
      split at e
      · rw [List.getElem?_map] at e
        cases q : ds[i]? with
        | none => rw [q] at e; cases e
        | some d => rw [q] at e; cases e
      · rw [List.getElem?_replicate] at e
        split at e <;> cases e
  refine ⟨s, fun b o q => ?_, by simp [L2.start, startD, h.length], fun i sl e => ?_, fun i j k l n' m a hij ei ej _ => (hij ((only ei).trans (only ej).symm)).elim⟩
  · have q' : (if b = a then none else H b) = some o := q
    split at q'
    · cases q'
    · exact q'
  · cases i with
    | zero =>
      unfold startD at e
      rw [List.cons_append, List.getElem?_cons_zero] at e
      cases e
      exact ⟨.ref a, rfl, a, rfl, hn, hf, if_pos rfl, fun j q => by cases q; rfl⟩
    | succ i =>
      unfold startD at e
      rw [List.cons_append, List.getElem?_cons_succ, List.getElem?_append] at e
      split at e
      · rename_i hi
        rw [List.getElem?_map] at e
        cases q : ds[i]? with
        | none => rw [q] at e; cases e
        | some d =>
          rw [q] at e
          cases e
          obtain ⟨v, hv, p⟩ := h.get q
          refine ⟨v, ?_, p⟩
          unfold L2.start
          rw [List.map_cons, List.cons_append, List.getElem?_cons_succ, List.getElem?_append_left (by rw [List.length_map, hl]; exact hi), List.getElem?_map, hv]
          rfl
      · rw [List.getElem?_replicate] at e
        split at e <;> cases e
theorem okR {x qual : Str} {st : Stmt} {f : Addr} {fd : FuncData} {N ps : List Str} {k : Nat} {c : RCt} {t : DS} (F : Fun K x qual st f fd) (S : FnScope N ps (defScope st)) (len : ∀ n ds R RE, c n ds R RE → ds.length + 1 = ps.length)
    (body : ∀ (cdv : Value) (A : Around) (outer : List Env) (s : Shared) (H : Hp) (E : XK), Room k (A.deeper (PyProof.Rows.envOfC qual (defScope st) s.heap.objs.size f cdv)) →
      Takes (cxF P w K mg base N qual st f cdv A outer s H E) (wE E) → PassesOwn (model P w) (A.deeper (PyProof.Rows.envOfC qual (defScope st) s.heap.objs.size f cdv)) (PyProof.Rows.envOfC qual (defScope st) s.heap.objs.size f cdv) (cxF P w K mg base N qual st f cdv A outer s H E).xe →
      PSs (cxF P w K mg base N qual st f cdv A outer s H E) (defBody st) (liftS K (wE E) t))
    (vc : ∀ n ds R RE, c n ds R RE → t (rEnds R RE) (startD N (some (.ow (some 0) n) :: ds.map fun d => some (.p d)))) : FnOk P w K mg base (L2.CX P w) (k + 1) f fd ps (spR K c) := by
  refine F.okX S (fun vs H Q E h => ?_) fun cdv A outer s H vs Q E hr h => ?_
  · obtain ⟨F0, a, ws, n, ds, R, RE, rfl, _, _, _, h2, h3, _⟩ := h
    rw [List.length_cons, h2.length]; exact len _ _ _ _ h3
  · obtain ⟨F0, a, ws, n, ds, R, RE, rfl, h1, hfa, hna, h2, h3, h4, h5⟩ := h
    have hBa : ∀ b, b ≠ a → (if b = a then none else H b) = H b := fun b hb => if_neg hb
    -- what is found at the end
    have fin : ∀ {σ' : L2.St} {H' F' : Hp} {ε' : Sg} {n' : Nd}, Ext ⟨fun b => if b = a then none else H b, [a]⟩ F0 F' → Rep K ⟨fun b => if b = a then none else H b, [a]⟩ F' H' σ' ε' → ε'[0]? = some (some (.ow (some 0) n')) → FrA a F0 H F' H' ∧ RNd K F' H' n' a ∧ F' a = none := fun {σ' H' F' ε' n'} e r q => by
      obtain ⟨v, hv, b, e1, e2, e3, e4, e5⟩ := r.val 0 _ q
      have hb : some a = some b := e5 0 rfl
      cases hb
      refine ⟨⟨e.1, r.fh, fun b o hb q => r.bh b o ((hBa b hb).trans q), fun b hb q => ?_⟩, e2, e3⟩
      by_cases hba : b = a
      · subst hba; exact e3
      · exact e.2 b hb (by show (if b = a then none else H b) ≠ none; rw [hBa b hba]; exact q)
    refine ⟨_, body cdv A outer s H E hr (takes_of rfl rfl rfl rfl) (passes_of rfl), _, ⟨fun b => if b = a then none else H b, [a]⟩, F0, _, rep_startR h1 hfa hna h2, vc n ds R RE h3, fun σ' H' F' ε' e r q => ?_, fun _ _ _ _ _ _ z => z, fun _ _ _ _ _ _ z => z, fun σ' v H' F' x ε' e r rv q => ?_, fun σ' cl d H' F' e ε' ex r re q => ?_⟩
    · have q' : (match ε'[0]? with | some (some (Sl.ow (some 0) n)) => R (.p .non) n | _ => False) := q
      split at q'
      · rename_i n' e0
        obtain ⟨f1, f2, _⟩ := fin e r e0
        exact h4 .non H' F' (.p .non) n' f1 f2 rfl q'
      · exact q'.elim
    · have q' : (match ε'[0]? with | some (some (Sl.ow (some 0) n)) => retq x ε' fun y => R y n | _ => False) := q
      split at q'
      · rename_i n' e0
        obtain ⟨f1, f2, f3⟩ := fin e r e0
        have fresh : ∀ {b : Addr} {m : Nd}, RNl K F' H' m b → F' b = none → (if b = a then none else H b) = none → b ≠ a → RRs K H F' H' (.ow m) (.ref b) := fun {b m} q1 q2 q3 q4 => ⟨b, rfl, q1, q2, by rw [← hBa b q4]; exact q3⟩
        cases x with
        | p d => exact h4 v H' F' (.p d) n' f1 f2 rv q'
        | ow m =>
          obtain ⟨b, e1, e2, e3, e4, e5⟩ := rv
          subst e1
          obtain ⟨v0, hv0, b0, y1, y2, y3, y4, y5⟩ := r.val 0 _ e0
          have hb : some a = some b0 := y5 0 rfl
          cases hb
          subst y1
          exact h4 _ H' F' (.ow m) n' f1 f2 (fresh e2 e3 e4 fun z => by subst z; exact e5 0 _ _ e0 hv0) q'
        | al i m =>
          obtain ⟨q1, q'⟩ := q'
          obtain ⟨b, e1, e2, e3, e4⟩ := r.al rv.1 rv.2
          subst e1
          obtain ⟨v0, hv0, b0, y1, y2, y3, y4, y5⟩ := r.val 0 _ e0
          have hb : some a = some b0 := y5 0 rfl
          cases hb
          subst y1
          have hi : i ≠ 0 := fun z => by
            subst z
            rw [e0] at q1
            cases q1
          exact h4 _ H' F' (.ow m) n' f1 f2 (fresh e2 e3 e4 fun z => by subst z; exact r.sep i 0 _ _ _ _ _ hi q1 e0 rv.2.1 hv0) q'
      · exact q'.elim
    · have q' : (match ε'[0]? with | some (some (Sl.ow (some 0) n)) => RE e n | _ => False) := q
      split at q'
      · rename_i n' e0
        obtain ⟨f1, f2, _⟩ := fin ex r e0
        exact h5 cl d H' F' e n' f1 f2 re q'
      · exact q'.elim
end

/-! ### calls -/
def dCallP (c : PCt) (ta : DA) : DE := fun ε R E => ta ε (fun xs ε1 => frzs xs ε1 fun ds ε2 => c ds (fun x => R x ε2) fun e => E e ε2) E
def dCallR (c : RCt) (ta : DA) : DE := fun ε R E => ta ε (fun xs ε1 => match xs with
  | x :: r => frzs r ε1 fun ds ε2 => (match x with
    | .al i _ => (match ε2[i]? with
      | some (some (.ow k n)) => c n ds (fun y n' => R y (ε2.set i (some (.ow k n')))) fun e n' => E e (ε2.set i (some (.ow k n')))
      | _ => False)
    | .ow n => c n ds (fun y _ => R y ε2) fun e _ => E e ε2
    | _ => False)
  | [] => False) E
section
variable {K : PySem.W.Frag} {W : WX}
theorem Rep.after {B : Bs} {F H F' H' : Hp} {σ : L2.St} {ε : Sg} (r : Rep K B F H σ ε) (f : Fr0 F H F' H') : Rep K B F' H' σ ε := by
  refine ⟨f.fh, r.bh.trans f.h, r.len, fun i sl e => ?_, r.sep⟩
  obtain ⟨v, h1, h2⟩ := r.val i sl e
  refine ⟨v, h1, ?_⟩
  cases sl with
  | p d => exact Rp.mono f.f h2
  | ow k n =>
    obtain ⟨a, e1, e2, e3, e4⟩ := h2
    obtain ⟨o, ho⟩ := e2.there
    exact ⟨a, e1, e2.move f.f ((f.h _ _ ho).trans ho.symm), f.n a e3 (by rw [ho]; exact Option.some_ne_none _), e4⟩
theorem Fr0.ext {B : Bs} {F H F' H' : Hp} (f : Fr0 F H F' H') (b : Same B.h H) : Ext B F F' := ⟨f.f, fun a h q => f.n a h fun z => q (same_none b z)⟩
theorem RRs.vl {B : Bs} {F H F' H' : Hp} {σ : L2.St} {ε : Sg} {x : Vl} {v : V} (r : Rep K B F H σ ε) (rr : RRs K H F' H' x v) : RVl K B F' H' σ ε x v := by
  cases x with
  | p d => exact rr
  | ow n =>
    obtain ⟨a, e1, e2, e3, e4⟩ := rr
    refine ⟨a, e1, e2, e3, same_none r.bh e4, fun i k m ei es => ?_⟩
    obtain ⟨u, h1, b, y1, y2, _⟩ := r.val i _ ei
    rw [es] at h1
    have e9 : V.ref a = u := Option.some.inj (Option.some.inj h1)
    subst e9
    cases y1
    obtain ⟨o, ho⟩ := y2.there
    rw [e4] at ho; cases ho
  | al i n => exact rr.elim
theorem lift_callP {c : PCt} {ta : DA} {σ : L2.St} {H : Hp} {Q : VK} (h : lift K W (dCallP c ta) σ H Q) : tCallS (spP K c) (WE W) (liftA K W ta) σ H Q := by
  obtain ⟨ε, B, F, R, RE, r, t, cc, we⟩ := h
  refine ⟨ε, B, F, _, RE, r, t, fun vs H1 F1 xs ε1 e1 r1 rv q => ?_, we⟩
  obtain ⟨F2, ε2, ds, e2, r2, p2, q⟩ := frzs_ok r1 rv q
  have e12 := e1.trans e2
  exact ⟨F2, ds, _, _, r2.fh, p2, q, fun v H' F' x f rr q => cc v H' F' x ε2 (e12.trans (f.ext r2.bh)) (r2.after f) (rr.vl r2) q,
    fun cl d H' F' e f re q => we cl d H' F' e ε2 (e12.trans (f.ext r2.bh)) (r2.after f) re q⟩
/-- behind a call that changed a slot's object -/
theorem Rep.afterA {B : Bs} {F H F' H' : Hp} {σ : L2.St} {ε : Sg} {i : Nat} {a : Addr} {k : Option Nat} {n n' : Nd} (r : Rep K B F H σ ε) (hi : ε[i]? = some (some (.ow k n))) (hs : σ[i]? = some (some (.ref a))) (f : FrA a F H F' H') (hn : RNd K F' H' n' a) : Rep K B F' H' σ (ε.set i (some (.ow k n'))) := by
  obtain ⟨u0, hu, c, e1, h1, h2, h3, hA⟩ := r.val i _ hi
  rw [hs] at hu
  have hu' : V.ref a = u0 := Option.some.inj (Option.some.inj hu)
  subst hu'
  cases e1
  obtain ⟨oa, hoa⟩ := h1.there
  have fa : F' a = none := f.n a h2 (by rw [hoa]; exact Option.some_ne_none _)
  refine ⟨f.fh, fun b o q => f.h b o (fun z => by subst z; rw [h3] at q; cases q) (r.bh b o q), by rw [List.length_set]; exact r.len, fun j s e => ?_, fun j k' l1 l2 n2 m2 c hjk ej ek sj sk => ?_⟩
  · rcases set_get e with ⟨rfl, e2, hl⟩ | ⟨hij, e⟩
    · cases e2
      exact ⟨.ref a, hs, a, rfl, hn, fa, h3, hA⟩
    · obtain ⟨w, q1, q2⟩ := r.val j s e
      refine ⟨w, q1, ?_⟩
      cases s with
      | p d => exact Rp.mono f.f q2
      | ow k2 m =>
        obtain ⟨b, e1, e2, e3, e4⟩ := q2
        subst e1
        have hba : b ≠ a := fun z => by
          subst z
          exact r.sep i j _ _ _ _ b hij hi e hs q1
        obtain ⟨o, ho⟩ := e2.there
        exact ⟨b, rfl, e2.move f.f ((f.h _ _ hba ho).trans ho.symm), f.n b e3 (by rw [ho]; exact Option.some_ne_none _), e4⟩
  · rcases set_get ej with ⟨rfl, _, hl⟩ | ⟨hij, ej⟩
    · rcases set_get ek with ⟨e2, _⟩ | ⟨hik, ek⟩
      · exact hjk e2
      · exact r.sep _ k' _ _ _ m2 c hik hi ek sj sk
    · rcases set_get ek with ⟨rfl, _, hl⟩ | ⟨hik, ek⟩
      · exact r.sep j _ _ _ n2 _ c (Ne.symm hij) ej hi sj sk
      · exact r.sep j k' l1 l2 n2 m2 c hjk ej ek sj sk
theorem FrA.ext {B : Bs} {a : Addr} {F H F' H' : Hp} (f : FrA a F H F' H') (b : Same B.h H) : Ext B F F' := ⟨f.f, fun a h q => f.n a h fun z => q (same_none b z)⟩
end
end DL

/-! DL11: calls that change an object, call rules, list methods. -/
namespace DL
open PySem PySem.Spec L2
section
variable {K : PySem.W.Frag} {W : WX}
theorem RVls.guard {B : Bs} {F H : Hp} {σ : L2.St} {ε : Sg} {a : Addr} {o : HO} : ∀ {xs : List Vl} {vs : List V}, RVls K B F H σ ε xs vs → (∀ (j : Nat) (m : Nd), xs[j]? = some (Vl.ow m) → vs[j]? ≠ some (.ref a)) → RVls K (B.add a o) F H σ ε xs vs
  | _, _, .nil, _ => .nil
  | _, _, .cons (x := x) h1 h2 h3, n => by
    refine .cons ?_ (RVls.guard h2 fun j m e => n (j + 1) m e) h3
    cases x with
    | p d => exact h1
    | al i n => exact h1
    | ow m =>
      obtain ⟨b, e1, e2, e3, e4, e5⟩ := h1
      subst e1
      have hb : b ≠ a := fun z => by subst z; exact n 0 m rfl rfl
      exact ⟨b, rfl, e2, e3, (upd_ne hb).trans e4, e5⟩
theorem Rep.afterT {B : Bs} {F H F' H' : Hp} {σ : L2.St} {ε : Sg} {a : Addr} (r : Rep K B F H σ ε) (hb : B a = none) (hn : ∀ (i : Nat) (k : Option Nat) (m : Nd), ε[i]? = some (some (Sl.ow k m)) → σ[i]? ≠ some (some (V.ref a))) (f : FrA a F H F' H') : Rep K B F' H' σ ε := by
  refine ⟨f.fh, fun b o q => f.h b o (fun z => by subst z; rw [hb] at q; cases q) (r.bh b o q), r.len, fun j s e => ?_, r.sep⟩
  obtain ⟨w, q1, q2⟩ := r.val j s e
  refine ⟨w, q1, ?_⟩
  cases s with
  | p d => exact Rp.mono f.f q2
  | ow k2 m =>
    obtain ⟨b, e1, e2, e3, e4⟩ := q2
    subst e1
    have hba : b ≠ a := fun z => by
      subst z
      exact hn j _ _ e q1
    obtain ⟨o, ho⟩ := e2.there
    exact ⟨b, rfl, e2.move f.f ((f.h _ _ hba ho).trans ho.symm), f.n b e3 (by rw [ho]; exact Option.some_ne_none _), e4⟩
theorem RRs.vlA {B : Bs} {H F' H' : Hp} {σ : L2.St} {ε : Sg} {x : Vl} {v : V} (r : ∀ (i : Nat) (k : Option Nat) (m : Nd), ε[i]? = some (some (Sl.ow k m)) → ∃ b o, σ[i]? = some (some (V.ref b)) ∧ H b = some o) (bh : Same B.h H) (rr : RRs K H F' H' x v) : RVl K B F' H' σ ε x v := by
  cases x with
  | p d => exact rr
  | ow n =>
    obtain ⟨a, e1, e2, e3, e4⟩ := rr
    refine ⟨a, e1, e2, e3, same_none bh e4, fun i k m ei es => ?_⟩
    obtain ⟨b, o, h1, h2⟩ := r i k m ei
    rw [es] at h1
    have e9 : V.ref a = V.ref b := Option.some.inj (Option.some.inj h1)
    cases e9
    rw [e4] at h2; cases h2
  | al i n => exact rr.elim
theorem Rep.own_at {B : Bs} {F H : Hp} {σ : L2.St} {ε : Sg} (r : Rep K B F H σ ε) {i : Nat} {k : Option Nat} {m : Nd} (e : ε[i]? = some (some (Sl.ow k m))) : ∃ b o, σ[i]? = some (some (V.ref b)) ∧ H b = some o := by
  obtain ⟨v, h1, b, rfl, h2, _⟩ := r.val i _ e
  obtain ⟨o, ho⟩ := h2.there
  exact ⟨b, o, h1, ho⟩
theorem lift_callR {c : RCt} {ta : DA} {σ : L2.St} {H : Hp} {Q : VK} (h : lift K W (dCallR c ta) σ H Q) : tCallS (spR K c) (WE W) (liftA K W ta) σ H Q := by
  obtain ⟨ε, B, F, R, RE, r, t, cc, we⟩ := h
  refine ⟨ε, B, F, _, RE, r, t, fun vs H1 F1 xs ε1 e1 r1 rv q => ?_, we⟩
  cases rv with
  | nil => exact q.elim
  | @cons x xr v vr h1 h2 h3 =>
    cases x with
    | p d =>
      obtain ⟨F2, ε2, ds, _, _, _, q⟩ := frzs_ok r1 h2 q
      exact q.elim
    | al i n0 =>
      obtain ⟨F2, ε2, ds, e2, r2, p2, q⟩ := frzs_ok r1 h2 q
      have e12 := e1.trans e2
      have q' : (match ε2[i]? with
        | some (some (.ow k n)) => c n ds (fun y n' => R y (ε2.set i (some (.ow k n')))) fun e n' => RE e (ε2.set i (some (.ow k n')))
        | _ => False) := q
      split at q'
      · rename_i k n ei
        obtain ⟨u, hu, a, eu, hn, hf, hb, _⟩ := r2.val i _ ei
        have hv := h1.2.1
        rw [hu] at hv
        have ev : u = v := Option.some.inj (Option.some.inj hv)
        subst ev
        subst eu
        refine ⟨F2, a, vr, n, ds, _, _, rfl, r2.fh, hf, hn, p2, q', fun v' H' F' y n' f hn' rr q => ?_, fun cl d H' F' e n' f hn' re q => ?_⟩
        · refine cc v' H' F' y _ (e12.trans (f.ext r2.bh)) (r2.afterA ei hu f hn') (rr.vlA (fun j k m ej => ?_) r2.bh) q
          rcases set_get ej with ⟨rfl, _, _⟩ | ⟨_, ej⟩
          · exact r2.own_at ei
          · exact r2.own_at ej
        · exact we cl d H' F' e _ (e12.trans (f.ext r2.bh)) (r2.afterA ei hu f hn') re q
      · exact q'.elim
    | ow n =>
      obtain ⟨a, ev, hn, hf, hb, hs⟩ := h1
      subst ev
      obtain ⟨o, ho⟩ := hn.there
      have g1 := r1.guard ho hb hs
      have hB : (B.add a o) a = some o := upd_same
      obtain ⟨F2, ε2, ds, e2, r2, p2, q⟩ := frzs_ok g1 (h2.guard fun j m ej => h3 n a rfl rfl j m ej) q
      have f2 : F2 a = none := e2.2 a hf (by rw [hB]; exact Option.some_ne_none _)
      have e12 := e1.trans (e2.weak (BLe.add hb))
      have r3 := r2.weak (BLe.add hb)
      have hs2 : ∀ (i : Nat) (k : Option Nat) (m : Nd), ε2[i]? = some (some (Sl.ow k m)) → σ[i]? ≠ some (some (V.ref a)) := fun i k m ei es => by
        obtain ⟨u, h1, b, y1, _, _, y4, _⟩ := r2.val i _ ei
        rw [es] at h1
        have e9 : V.ref a = u := Option.some.inj (Option.some.inj h1)
        subst e9
        cases y1
        rw [hB] at y4; cases y4
      refine ⟨F2, a, vr, n, ds, _, _, rfl, r2.fh, f2, (hn.move e2.1 rfl).nd, p2, q, fun v' H' F' y n' f hn' rr q => ?_, fun cl d H' F' e n' f hn' re q => ?_⟩
      · exact cc v' H' F' y _ (e12.trans (f.ext r3.bh)) (r3.afterT hb hs2 f) (rr.vlA (fun j k m ej => r3.own_at ej) r3.bh) q
      · exact we cl d H' F' e _ (e12.trans (f.ext r3.bh)) (r3.afterT hb hs2 f) re q
end
section
variable {X : Cx} {W : WX} {k : Nat} {f : Addr} {fd : FuncData} {ps : List Str} {x : Str} {p pos : Pos} {e : Expr} {es : List Expr} {ta : DA}
theorem de_call {c : PCt} (tk : Takes X W) (F : FnOk X.prog X.w X.K X.mg X.base (L2.CX X.prog X.w) k f fd ps (spP X.K c)) (hr : Room k X.A) (hm : X.mg x = some (.ref f)) (hk : PySem.W.keepIn X.K (.ref f) = true) (hb : Binds X.K fd ps [])
    (ha : PA X (e :: es) (liftA X.K W ta)) (hg : Gl X x := by rfl) (hdb : (x == ("__debug__" : Str)) = false := by decide) (he : starEach (e :: es) X.env = (false, eval e X.env) :: starEach es X.env := by rfl) (hpl : (backTo pos (starEach es X.env)).any (·.1) = false := by rfl) :
    PE X (.Call (.Name x p) (e :: es) [] pos) (lift X.K W (dCallP c ta)) := PE_imp (pe_callS F hr hg hm hk hb (fun σ => passAt tk σ) ha hdb he hpl) fun _ _ _ => lift_callP
theorem de_callR {c : RCt} (tk : Takes X W) (F : FnOk X.prog X.w X.K X.mg X.base (L2.CX X.prog X.w) k f fd ps (spR X.K c)) (hr : Room k X.A) (hm : X.mg x = some (.ref f)) (hk : PySem.W.keepIn X.K (.ref f) = true) (hb : Binds X.K fd ps [])
    (ha : PA X (e :: es) (liftA X.K W ta)) (hg : Gl X x := by rfl) (hdb : (x == ("__debug__" : Str)) = false := by decide) (he : starEach (e :: es) X.env = (false, eval e X.env) :: starEach es X.env := by rfl) (hpl : (backTo pos (starEach es X.env)).any (·.1) = false := by rfl) :
    PE X (.Call (.Name x p) (e :: es) [] pos) (lift X.K W (dCallR c ta)) := PE_imp (pe_callS F hr hg hm hk hb (fun σ => passAt tk σ) ha hdb he hpl) fun _ _ _ => lift_callR
end

/-! ### methods of the list in slot i -/
/-- what a method makes of the list's items and its arguments: the value, the items behind it -/
abbrev MQ := List D → List D → (D → List D → Prop) → Prop
def dMt (i : Nat) (q : MQ) (ta : DA) : DE := fun ε R E => (match ε[i]? with | some (some (.ow _ (.lst _))) => True | _ => False) ∧ ta ε (fun ys ε1 => frzs ys ε1 fun ds ε2 => match ε2[i]? with
  | some (some (.ow k (.lst xs))) => q xs ds fun d xs' => R (.p d) (ε2.set i (some (.ow k (.lst xs'))))
  | _ => False) E
def MtD (K : PySem.W.Frag) (r : V → List V → Hp → VK → Prop) (q : MQ) : Prop := ∀ (F H : Hp) (a : Addr) (xs ds : List D) (vs ws : List V) (Q : VK) (R : D → List D → Prop), Same F H → H a = some (.lst vs) → Rps K F xs vs → Rps K F ds ws → q xs ds R →
  (∀ d v xs' vs', Rp K F d v → Rps K F xs' vs' → R d xs' → Q v (upd H a (.lst vs'))) → r (.ref a) ws H Q
section
variable {K : PySem.W.Frag} {W : WX}
theorem lift_mt {i : Nat} {q : MQ} {r : V → List V → Hp → VK → Prop} {ta : DA} {σ : L2.St} {H : Hp} {Q : VK} (hq : MtD K r q) (h : lift K W (dMt i q ta) σ H Q) : tBM K "list" r (tVar i) (liftA K W ta) σ H Q := by
  obtain ⟨ε, B, F, R, RE, rp, ⟨t0, t⟩, c, we⟩ := h
  split at t0
  · rename_i k xs ei
    obtain ⟨v, hv, a, ev, ⟨vs, ha, hs⟩, _⟩ := rp.val i _ ei
    subst ev
    refine ⟨.ref a, hv, .inl ⟨rfl, vs, SqL.of ha⟩, ε, B, F, _, RE, rp, t, fun ws H1 F1 ys ε1 e1 r1 rv q1 => ?_, we⟩
    obtain ⟨F2, ε2, ds, e2, r2, p2, q1⟩ := frzs_ok r1 rv q1
    split at q1
    · rename_i k2 xs2 ei2
      obtain ⟨v2, hv2, b, ev2, ⟨vs2, hb, hs2⟩, _⟩ := r2.val i _ ei2
      rw [hv] at hv2
      have e9 : V.ref a = v2 := Option.some.inj (Option.some.inj hv2)
      subst e9
      cases ev2
      exact hq F2 H1 a xs2 ds vs2 ws Q _ r2.fh hb hs2 p2 q1 fun d v xs' vs' hd hxs q => c v _ F2 (.p d) _ (e1.trans e2) (r2.put ei2 hv hxs) hd q
    · exact q1.elim
  · exact t0.elim
def appq : MQ := fun xs ds R => match ds with
  | [d] => xs.length < sizeLine ∧ R .non (xs ++ [d])
  | _ => False
theorem mtd_append : MtD K rAppend appq := by
  intro F H a xs ds vs ws Q R s ha hx hd q c
  unfold appq at q
  split at q
  · obtain ⟨w, r, rfl, h1, h2⟩ := hd.cons
    have e := h2.nil
    subst e
    exact ⟨a, vs, w, rfl, rfl, ha, by rw [hx.length]; exact q.1, c .non .non _ _ rfl (hx.append (Rps.one h1)) q.2⟩
  · exact q.elim
def popq : MQ := fun xs ds R => ds = [] ∧ match xs.getLast? with
  | some d => R d xs.dropLast
  | none => False
theorem mtd_pop : MtD K rPop popq := by
  intro F H a xs ds vs ws Q R s ha hx hd ⟨e, q⟩ c
  subst e
  have e2 := hd.nil
  subst e2
  split at q
  · rename_i d hl
    rw [List.getLast?_eq_getElem?] at hl
    obtain ⟨v, hv, p⟩ := hx.get hl
    exact ⟨a, vs, v, rfl, rfl, ha, by rw [hx.length]; exact hv, c d v _ _ p hx.dropLast q⟩
  · exact q.elim
def popAtq : MQ := fun xs ds R => match ds with
  | [.int i] => (-(2 ^ 63) ≤ i ∧ i < 2 ^ 63) ∧ match seqIndex? i xs.length with
    | some k => (match xs[k]? with | some d => R d (xs.eraseIdx k) | none => False)
    | none => False
  | _ => False
theorem mtd_popAt : MtD K rPopAt popAtq := by
  intro F H a xs ds vs ws Q R s ha hx hd q c
  unfold popAtq at q
  split at q
  · rename_i i
    obtain ⟨w, r, rfl, h1, h2⟩ := hd.cons
    have e := h2.nil
    subst e
    cases h1
    obtain ⟨⟨q1, q2⟩, q⟩ := q
    split at q
    · rename_i k hk
      split at q
      · rename_i d hd'
        obtain ⟨v, hv, p⟩ := hx.get hd'
        exact ⟨a, vs, i, k, v, rfl, rfl, ha, q1, q2, by rw [hx.length]; exact hk, hv, c d v _ _ p (hx.erase k) q⟩
      · exact q.elim
    · exact q.elim
  · exact q.elim
def revq : MQ := fun xs ds R => ds = [] ∧ R .non xs.reverse
theorem mtd_reverse : MtD K rReverse revq := by
  intro F H a xs ds vs ws Q R s ha hx hd ⟨e, q⟩ c
  subst e
  have e2 := hd.nil
  subst e2
  exact ⟨a, vs, rfl, rfl, ha, c .non .non _ _ rfl hx.reverse q⟩
end
section
variable {X : Cx} {W : WX} {o e : Expr} {es : List Expr} {ta : DA} {apos cpos : Pos} {i : Nat}
theorem de_append (ho : PE X o (tVar i)) (ha : PA X (e :: es) (liftA X.K W ta))
    (hbase : attributeBase o "append" X.env (eval o X.env) = eval o X.env := by rfl)
    (hfew : ((backTo cpos (starEach (e :: es) X.env)).all (fun x => !x.1) && (backToKw cpos (keywordEach [] X.env)).all (fun x => x.1.isSome)
      && decide ((e :: es).length + ([] : List Keyword).length + (if ([] : List Keyword).isEmpty then 0 else 1) < 30)) = true := by rfl)
    (hline : (apos.endLine == cpos.line) = true := by rfl) (hs : starEach (e :: es) X.env = (false, eval e X.env) :: starEach es X.env := by rfl) (hplain : (backTo cpos (starEach es X.env)).any (·.1) = false := by rfl) :
    PE X (.Call (.Attribute o "append" apos) (e :: es) [] cpos) (lift X.K W (dMt i appq ta)) :=
  PE_imp (pe_bm F.plainAttrs_list F.slot_list_append F.type_list_append mt_append ho ha hbase hfew hline hs hplain) fun _ _ _ => lift_mt mtd_append
end
end DL

/-! DL12: built-in functions over pure data. -/
namespace DL
open PySem PySem.Spec L2

def intOf : D → Option Int
  | .int i => some i
  | _ => none
/-- ints, if all are -/
def intsOf : List D → Option (List Int)
  | [] => some []
  | .int i :: r => (intsOf r).map (i :: ·)
  | _ => none
def blsOf : List D → Option (List Bool)
  | [] => some []
  | .bl i :: r => (blsOf r).map (i :: ·)
  | _ => none
theorem intsOf_eq : ∀ {ds : List D} {ns : List Int}, intsOf ds = some ns → ds = ns.map D.int
  | [], ns, h => by cases h; rfl
  | .int i :: r, ns, h => by
    simp only [intsOf] at h
    cases q : intsOf r with
    | none => rw [q] at h; cases h
    | some m => rw [q] at h; cases h; rw [intsOf_eq q]; rfl
  | .non :: _, _, h => by cases h
  | .bl _ :: _, _, h => by cases h
  | .str _ :: _, _, h => by cases h
  | .tup _ :: _, _, h => by cases h
  | .lst _ :: _, _, h => by cases h
  | .frl _ :: _, _, h => by cases h
theorem blsOf_eq : ∀ {ds : List D} {ns : List Bool}, blsOf ds = some ns → ds = ns.map D.bl
  | [], ns, h => by cases h; rfl
  | .bl i :: r, ns, h => by
    simp only [blsOf] at h
    cases q : blsOf r with
    | none => rw [q] at h; cases h
    | some m => rw [q] at h; cases h; rw [blsOf_eq q]; rfl
  | .non :: _, _, h => by cases h
  | .int _ :: _, _, h => by cases h
  | .str _ :: _, _, h => by cases h
  | .tup _ :: _, _, h => by cases h
  | .lst _ :: _, _, h => by cases h
  | .frl _ :: _, _, h => by cases h
theorem intsOf_map : ∀ ns : List Int, intsOf (ns.map D.int) = some ns
  | [] => rfl
  | n :: r => by simp [intsOf, intsOf_map r]
theorem blsOf_map : ∀ ns : List Bool, blsOf (ns.map D.bl) = some ns
  | [] => rfl
  | n :: r => by simp [blsOf, blsOf_map r]

section
variable {K : PySem.W.Frag} {B : Bs} {F H : Hp} {σ : L2.St} {ε : Sg}
theorem RVls.one {x : Vl} {vs : List V} (h : RVls K B F H σ ε [x] vs) : ∃ v, vs = [v] ∧ RVl K B F H σ ε x v := by
  cases h with
  | cons a b _ => cases b; exact ⟨_, rfl, a⟩
theorem RVls.two {x y : Vl} {vs : List V} (h : RVls K B F H σ ε [x, y] vs) : ∃ v w, vs = [v, w] ∧ RVl K B F H σ ε x v ∧ RVl K B F H σ ε y w := by
  cases h with
  | cons a b _ =>
    obtain ⟨w, rfl, hb⟩ := b.one
    exact ⟨_, w, rfl, a, hb⟩
end
section
variable {K : PySem.W.Frag}
/-! ### len, abs, int, tuple, list, min, max -/
def lenq : CQ := fun xs ε R => match xs with
  | [.p (.str z)] => z.length ≤ sizeLine ∧ R (.p (.int z.length)) ε
  | [x] => ∃ ds, sqOf x = some ds ∧ R (.p (.int ds.length)) ε
  | _ => False
def rLenX (K : PySem.W.Frag) : List V → Hp → VK → Prop := fun xs H Q => ∃ x n, xs = [x] ∧ LenV K x H n ∧ Q (.int n) H
theorem cd_len : CalD K (rLenX K) lenq := by
  intro B F H σ ε xs vs Q R r rv q c
  unfold lenq at q
  split at q
  · obtain ⟨v, rfl, h⟩ := rv.one
    cases h
    exact ⟨_, _, rfl, ⟨q.1, rfl⟩, c _ H F (.p (.int _)) ε (Ext.refl _ _) r rfl q.2⟩
  · obtain ⟨ds, e, q⟩ := q
    obtain ⟨v, rfl, h⟩ := rv.one
    obtain ⟨a, ws, rfl, hs, rp⟩ := sq_of r h e
    refine ⟨.ref a, ds.length, rfl, ?_, c _ H F (.p (.int _)) ε (Ext.refl _ _) r rfl q⟩
    rcases hs with hs | hs
    · exact .inl ⟨ws, hs, rp.length.symm⟩
    · exact .inr ⟨ws, hs, rp.length.symm⟩
  · exact q.elim
def absq : CQ := fun xs ε R => match xs with
  | [.p (.int i)] => R (.p (.int (i.natAbs : Nat))) ε
  | _ => False
theorem cd_abs : CalD K (fun xs H Q => ∃ i, xs = [.int i] ∧ Q (.int (if i < 0 then -i else i)) H) absq := by
  intro B F H σ ε xs vs Q R r rv q c
  unfold absq at q
  split at q
  · rename_i i
    obtain ⟨v, rfl, h⟩ := rv.one
    cases h
    refine ⟨i, rfl, c _ H F (.p (.int _)) ε (Ext.refl _ _) r ?_ q⟩
    show V.int _ = V.int _
    congr 1
    split <;> omega
  · exact q.elim
def intq : CQ := fun xs ε R => match xs with
  | [.p (.int i)] => R (.p (.int i)) ε
  | [.p (.bl i)] => R (.p (.int (b2n i))) ε
  | _ => False
theorem cd_int : CalD K (fun xs H Q => (∃ i, xs = [.int i] ∧ Q (.int i) H) ∨ ∃ k, xs = [.bl k] ∧ Q (.int (if k then 1 else 0)) H) intq := by
  intro B F H σ ε xs vs Q R r rv q c
  unfold intq at q
  split at q
  · obtain ⟨v, rfl, h⟩ := rv.one
    cases h
    exact .inl ⟨_, rfl, c _ H F (.p (.int _)) ε (Ext.refl _ _) r rfl q⟩
  · obtain ⟨v, rfl, h⟩ := rv.one
    cases h
    exact .inr ⟨_, rfl, c _ H F (.p (.int _)) ε (Ext.refl _ _) r rfl q⟩
  · exact q.elim
def tupq : CQ := fun xs ε R => match xs with
  | [x] => ∃ ds, sqOf x = some ds ∧ R (.p (.tup ds)) ε
  | _ => False
def rTupX (K : PySem.W.Frag) : List V → Hp → VK → Prop := fun xs H Q => ∃ p ys, xs = [.ref p] ∧ ((SqL K H p ys ∧ ∀ l, H l = none → Q (.ref l) (upd H l (.tup ys))) ∨ (SqT K H p ys ∧ Q (.ref p) H))
theorem sq_kind {B : Bs} {F H : Hp} {σ : L2.St} {ε : Sg} {x : Vl} {v : V} {xs : List D} (r : Rep K B F H σ ε) (rv : RVl K B F H σ ε x v) (h : sqOf x = some xs) : (∃ a vs, v = .ref a ∧ SqL K H a vs ∧ Rps K F xs vs) ∨ (x = .p (.tup xs)) := by
  unfold sqOf at h
  split at h <;> cases h
  · obtain ⟨a, vs, e, q, s⟩ := rv
    exact .inl ⟨a, vs, e, SqL.of (r.fh _ _ q), s⟩
  · exact .inr rfl
  · obtain ⟨a, vs, e, q, s⟩ := rv
    exact .inl ⟨a, vs, e, r.fh.seq q, s⟩
  · obtain ⟨a, e, ⟨vs, q, s⟩, _⟩ := rv
    exact .inl ⟨a, vs, e, SqL.of q, s⟩
  · obtain ⟨a, e, ⟨vs, q, s⟩, _⟩ := r.al rv.1 rv.2
    exact .inl ⟨a, vs, e, SqL.of q, s⟩
theorem cd_tup : CalD K (rTupX K) tupq := by
  intro B F H σ ε xs vs Q R r rv q c
  unfold tupq at q
  split at q
  · obtain ⟨ds, e, q⟩ := q
    obtain ⟨v, rfl, h⟩ := rv.one
    have c' : Fin2 K B F H σ ε (fun z => R z ε) Q := fun v' H' F' z e r rv q => c v' H' F' z ε e r rv q
    rcases sq_kind r h e with ⟨a, ws, rfl, hs, rp⟩ | rfl
    · exact ⟨a, ws, rfl, .inl ⟨hs, fun l hl => fin_tup c' r hl rp q⟩⟩
    · obtain ⟨a, ws, rfl, hs, rp⟩ := h
      exact ⟨a, ws, rfl, .inr ⟨sqT_mono r.fh hs, fin_p c' r q ⟨a, ws, rfl, hs, rp⟩⟩⟩
  · exact q.elim
def lisq : CQ := fun xs ε R => match xs with
  | [x] => ∃ ds, sqOf x = some ds ∧ R (.ow (.lst ds)) ε
  | _ => False
theorem cd_list : CalD K (fun xs H Q => ∃ p ys, xs = [.ref p] ∧ (SqL K H p ys ∨ SqT K H p ys) ∧ ∀ l, H l = none → Q (.ref l) (upd H l (.lst ys))) lisq := by
  intro B F H σ ε xs vs Q R r rv q c
  unfold lisq at q
  split at q
  · obtain ⟨ds, e, q⟩ := q
    obtain ⟨v, rfl, h⟩ := rv.one
    have c' : Fin2 K B F H σ ε (fun z => R z ε) Q := fun v' H' F' z e r rv q => c v' H' F' z ε e r rv q
    obtain ⟨a, ws, rfl, hs, rp⟩ := sq_of r h e
    exact ⟨a, ws, rfl, hs, fun l hl => fin_lst c' r hl rp q⟩
  · exact q.elim
def maxq : CQ := fun xs ε R => match xs with
  | [.p (.int i), .p (.int j)] => R (.p (.int (max i j))) ε
  | [x] => ∃ ds ns, sqOf x = some ds ∧ intsOf ds = some ns ∧ (0 < ns.length ∧ ∀ m, m ∈ ns → (∀ y, y ∈ ns → y ≤ m) → R (.p (.int m)) ε)
  | _ => False
def minq : CQ := fun xs ε R => match xs with
  | [.p (.int i), .p (.int j)] => R (.p (.int (min i j))) ε
  | [x] => ∃ ds ns, sqOf x = some ds ∧ intsOf ds = some ns ∧ (0 < ns.length ∧ ∀ m, m ∈ ns → (∀ y, y ∈ ns → m ≤ y) → R (.p (.int m)) ε)
  | _ => False
def max2q : CQ := fun xs ε R => match xs with
  | [.p (.int i), .p (.int j)] => R (.p (.int (max i j))) ε
  | _ => False
def min2q : CQ := fun xs ε R => match xs with
  | [.p (.int i), .p (.int j)] => R (.p (.int (min i j))) ε
  | _ => False
theorem cd_max2 : CalD K (fun xs H Q => ∃ i j, xs = [.int i, .int j] ∧ Q (.int (if j > i then j else i)) H) max2q := by
  intro B F H σ ε xs vs Q R r rv q c
  unfold max2q at q
  split at q
  · rename_i i j
    obtain ⟨v, w, rfl, h1, h2⟩ := rv.two
    cases h1; cases h2
    refine ⟨i, j, rfl, c _ H F (.p (.int _)) ε (Ext.refl _ _) r ?_ q⟩
    show V.int _ = V.int _
    congr 1
    split <;> omega
  · exact q.elim
theorem cd_min2 : CalD K (fun xs H Q => ∃ i j, xs = [.int i, .int j] ∧ Q (.int (if j < i then j else i)) H) min2q := by
  intro B F H σ ε xs vs Q R r rv q c
  unfold min2q at q
  split at q
  · rename_i i j
    obtain ⟨v, w, rfl, h1, h2⟩ := rv.two
    cases h1; cases h2
    refine ⟨i, j, rfl, c _ H F (.p (.int _)) ε (Ext.refl _ _) r ?_ q⟩
    show V.int _ = V.int _
    congr 1
    split <;> omega
  · exact q.elim
/-! ### sums, any, all -/
def rSumX (K : PySem.W.Frag) : List V → Hp → VK → Prop := fun vs H Q => rSum K vs H Q ∨ ∃ (a : Addr) (ns : List Int), vs = [V.ref a] ∧ SqT K H a (ns.map V.int) ∧ Q (.int ns.sum) H
theorem cr_sumT {X : Cx} (hc : X.calm = true) : CallR X (.builtin "sum") (fun vs H Q => ∃ (a : Addr) (ns : List Int), vs = [V.ref a] ∧ SqT X.K H a (ns.map V.int) ∧ Q (.int ns.sum) H) := by
  intro pins s σ H vs us Q I r h
  obtain ⟨a, ns, rfl, hs, q⟩ := h
  obtain ⟨its, rv, hl, _⟩ := I.tuple hs
  rw [Vals.ref1 r]
  have hi := rv.ints
  obtain ⟨xs, e⟩ := hi.allInts.items
  have hn : PySem.numsOf (intItems xs).toList = ns := by rw [← e]; exact hi.numsOf
  rw [PySem.nums_intItems] at hn
  rw [e] at hl
  refine PySem.W.ktm_sumG (I.ok.hd hc) hl fun h' tk t' hk => ?_
  rw [PySem.preSum_eq, List.take_of_length_le (by simp), hn]
  exact ⟨.int _, H, I.kept hk, ⟨_, rfl⟩, q⟩
def sumq : CQ := fun xs ε R => match xs with
  | [x] => ∃ ds, sqOf x = some ds ∧ match intsOf ds with | some ns => R (.p (.int ns.sum)) ε | none => False
  | _ => False
theorem cd_sum : CalD K (rSumX K) sumq := by
  intro B F H σ ε xs vs Q R r rv q c
  unfold sumq at q
  split at q
  · obtain ⟨ds, e, q⟩ := q
    split at q
    · rename_i ns en
      obtain ⟨v, rfl, h⟩ := rv.one
      have e2 := intsOf_eq en
      subst e2
      rcases sq_kind r h e with ⟨a, ws, rfl, hs, rp⟩ | rfl
      · rw [rp.ints] at hs
        exact .inl ⟨a, ns, rfl, hs, c _ H F (.p (.int _)) ε (Ext.refl _ _) r rfl q⟩
      · obtain ⟨a, ws, rfl, hs, rp⟩ := h
        rw [rp.ints] at hs
        exact .inr ⟨a, ns, rfl, sqT_mono r.fh hs, c _ H F (.p (.int _)) ε (Ext.refl _ _) r rfl q⟩
    · exact q.elim
  · exact q.elim
def anyq : CQ := fun xs ε R => match xs with
  | [x] => ∃ ds, lsOf x = some ds ∧ match blsOf ds with | some ns => R (.p (.bl (ns.any id))) ε | none => False
  | _ => False
def allq : CQ := fun xs ε R => match xs with
  | [x] => ∃ ds, lsOf x = some ds ∧ match blsOf ds with | some ns => R (.p (.bl (ns.all id))) ε | none => False
  | _ => False
theorem cd_any : CalD K (rAny K) anyq := by
  intro B F H σ ε xs vs Q R r rv q c
  unfold anyq at q
  split at q
  · obtain ⟨ds, e, q⟩ := q
    split at q
    · rename_i ns en
      obtain ⟨v, rfl, h⟩ := rv.one
      have e2 := blsOf_eq en
      subst e2
      obtain ⟨a, ws, rfl, hs, rp⟩ := ls_of r h e
      rw [rp.bls] at hs
      exact ⟨a, ns, rfl, SqL.of hs, c _ H F (.p (.bl _)) ε (Ext.refl _ _) r rfl q⟩
    · exact q.elim
  · exact q.elim
theorem cd_all : CalD K (rAll K) allq := by
  intro B F H σ ε xs vs Q R r rv q c
  unfold allq at q
  split at q
  · obtain ⟨ds, e, q⟩ := q
    split at q
    · rename_i ns en
      obtain ⟨v, rfl, h⟩ := rv.one
      have e2 := blsOf_eq en
      subst e2
      obtain ⟨a, ws, rfl, hs, rp⟩ := ls_of r h e
      rw [rp.bls] at hs
      exact ⟨a, ns, rfl, SqL.of hs, c _ H F (.p (.bl _)) ε (Ext.refl _ _) r rfl q⟩
    · exact q.elim
  · exact q.elim
end
section
variable {X : Cx} {W : WX} {e e2 : Expr} {ta : DA} {p pos : Pos}
theorem de_len (hm : X.mg "len" = none) (ha : PA X [e] (liftA X.K W ta)) (hg : Gl X "len" := by rfl) (he : starEach (e :: []) X.env = (false, eval e X.env) :: starEach [] X.env := by rfl) (hpl : (backTo pos (starEach [] X.env)).any (·.1) = false := by rfl) : PE X (.Call (.Name "len" p) [e] [] pos) (lift X.K W (dCal lenq ta)) :=
  de_callB cd_len call_len boot_len hm ha hg (by decide) (by decide) he hpl
theorem de_abs (hm : X.mg "abs" = none) (ha : PA X [e] (liftA X.K W ta)) (hg : Gl X "abs" := by rfl) (he : starEach (e :: []) X.env = (false, eval e X.env) :: starEach [] X.env := by rfl) (hpl : (backTo pos (starEach [] X.env)).any (·.1) = false := by rfl) : PE X (.Call (.Name "abs" p) [e] [] pos) (lift X.K W (dCal absq ta)) :=
  de_callB cd_abs call_abs (by decide +kernel) hm ha hg (by decide) (by decide) he hpl
theorem de_intc (hm : X.mg "int" = none) (ha : PA X [e] (liftA X.K W ta)) (hg : Gl X "int" := by rfl) (he : starEach (e :: []) X.env = (false, eval e X.env) :: starEach [] X.env := by rfl) (hpl : (backTo pos (starEach [] X.env)).any (·.1) = false := by rfl) : PE X (.Call (.Name "int" p) [e] [] pos) (lift X.K W (dCal intq ta)) :=
  de_callT cd_int call_int1 (by decide +kernel) hm ha hg (by decide) (by decide) he hpl
theorem de_tuple (hm : X.mg "tuple" = none) (ha : PA X [e] (liftA X.K W ta)) (hg : Gl X "tuple" := by rfl) (he : starEach (e :: []) X.env = (false, eval e X.env) :: starEach [] X.env := by rfl) (hpl : (backTo pos (starEach [] X.env)).any (·.1) = false := by rfl) : PE X (.Call (.Name "tuple" p) [e] [] pos) (lift X.K W (dCal tupq ta)) :=
  de_callT cd_tup call_tuple_of (by decide +kernel) hm ha hg (by decide) (by decide) he hpl
theorem de_list (hm : X.mg "list" = none) (ha : PA X [e] (liftA X.K W ta)) (hg : Gl X "list" := by rfl) (he : starEach (e :: []) X.env = (false, eval e X.env) :: starEach [] X.env := by rfl) (hpl : (backTo pos (starEach [] X.env)).any (·.1) = false := by rfl) : PE X (.Call (.Name "list" p) [e] [] pos) (lift X.K W (dCal lisq ta)) :=
  de_callT cd_list call_list_of (by decide +kernel) hm ha hg (by decide) (by decide) he hpl
theorem de_max2 (hc : X.calm = true) (hm : X.mg "max" = none) (ha : PA X [e, e2] (liftA X.K W ta)) (hg : Gl X "max" := by rfl) (he : starEach (e :: [e2]) X.env = (false, eval e X.env) :: starEach [e2] X.env := by rfl) (hpl : (backTo pos (starEach [e2] X.env)).any (·.1) = false := by rfl) : PE X (.Call (.Name "max" p) [e, e2] [] pos) (lift X.K W (dCal max2q ta)) :=
  de_callB cd_max2 (call_max2 hc) (by decide +kernel) hm ha hg (by decide) (by decide) he hpl
theorem de_min2 (hc : X.calm = true) (hm : X.mg "min" = none) (ha : PA X [e, e2] (liftA X.K W ta)) (hg : Gl X "min" := by rfl) (he : starEach (e :: [e2]) X.env = (false, eval e X.env) :: starEach [e2] X.env := by rfl) (hpl : (backTo pos (starEach [e2] X.env)).any (·.1) = false := by rfl) : PE X (.Call (.Name "min" p) [e, e2] [] pos) (lift X.K W (dCal min2q ta)) :=
  de_callB cd_min2 (call_min2 hc) (by decide +kernel) hm ha hg (by decide) (by decide) he hpl
theorem de_sum (hc : X.calm = true) (hm : X.mg "sum" = none) (ha : PA X [e] (liftA X.K W ta)) (hg : Gl X "sum" := by rfl) (he : starEach (e :: []) X.env = (false, eval e X.env) :: starEach [] X.env := by rfl) (hpl : (backTo pos (starEach [] X.env)).any (·.1) = false := by rfl) : PE X (.Call (.Name "sum" p) [e] [] pos) (lift X.K W (dCal sumq ta)) :=
  de_callB cd_sum ((cr_sum hc).or (cr_sumT hc)) (by decide +kernel) hm ha hg (by decide) (by decide) he hpl
theorem de_any (hc : X.calm = true) (hm : X.mg "any" = none) (ha : PA X [e] (liftA X.K W ta)) (hg : Gl X "any" := by rfl) (he : starEach (e :: []) X.env = (false, eval e X.env) :: starEach [] X.env := by rfl) (hpl : (backTo pos (starEach [] X.env)).any (·.1) = false := by rfl) : PE X (.Call (.Name "any" p) [e] [] pos) (lift X.K W (dCal anyq ta)) :=
  de_callB cd_any (cr_any hc) (by decide +kernel) hm ha hg (by decide) (by decide) he hpl
theorem de_all (hc : X.calm = true) (hm : X.mg "all" = none) (ha : PA X [e] (liftA X.K W ta)) (hg : Gl X "all" := by rfl) (he : starEach (e :: []) X.env = (false, eval e X.env) :: starEach [] X.env := by rfl) (hpl : (backTo pos (starEach [] X.env)).any (·.1) = false := by rfl) : PE X (.Call (.Name "all" p) [e] [] pos) (lift X.K W (dCal allq ta)) :=
  de_callB cd_all (cr_all hc) (by decide +kernel) hm ha hg (by decide) (by decide) he hpl
end
end DL

/-! DL13: isinstance of built-in types. -/
namespace DL
open PySem PySem.Spec L2

def tyD : D → String
  | .non => "NoneType"
  | .bl _ => "bool"
  | .int _ => "int"
  | .str _ => "str"
  | .tup _ => "tuple"
  | .lst _ => "list"
  | .frl _ => "list"
def isaT (T : String) (t : String) : Bool := t == T || (T == "int" && t == "bool")
def tyNames : List String := ["NoneType", "bool", "int", "str", "tuple", "list"]
def isaNames : List String := ["tuple", "list", "int", "bool", "str"]
theorem kit_table : (tyNames.all fun t => isaNames.all fun T => decide (kitB t T = some (isaT T t))) = true := by decide +kernel
theorem kit_isa {K : PySem.W.Frag} {t T : String} (ht : t ∈ tyNames) (hT : T ∈ isaNames) : PySem.W.kitOne K (.type t) (.type T) = some (isaT T t) := by
  have h := List.all_eq_true.mp (List.all_eq_true.mp kit_table t ht) T hT
  exact kit_ty (of_decide_eq_true h)
theorem tyD_mem (d : D) : tyD d ∈ tyNames := by
  cases d <;> simp [tyD, tyNames]
section
variable {K : PySem.W.Frag} {W : WX}
theorem tyX_L {H : Hp} {a : Addr} {vs : List V} (h : SqL K H a vs) : TyX K H (.ref a) (.type "list") := by
  rcases h with (h | ⟨o, h⟩) | ⟨o, its, n, h, hc, _⟩
  · exact .base (.lst h)
  · exact .base (.frz h)
  · exact .kList h hc
theorem tyX_T {H : Hp} {a : Addr} {vs : List V} (h : SqT K H a vs) : TyX K H (.ref a) (.type "tuple") := by
  rcases h with (h | ⟨o, h⟩) | ⟨o, its, n, h, hc, _⟩
  · exact .base (.tup h)
  · exact .fTuple h
  · exact .kTuple h hc
theorem tyX_D {F H : Hp} (s : Same F H) {d : D} {v : V} (h : Rp K F d v) : TyX K H v (.type (tyD d)) := by
  cases d with
  | non => cases h; exact .base .non
  | bl b => cases h; exact .base (.bl b)
  | int b => cases h; exact .base (.int b)
  | str b => cases h; exact .base (.str b)
  | tup xs => obtain ⟨a, vs, rfl, q, _⟩ := h; exact tyX_T (sqT_mono s q)
  | lst xs => obtain ⟨a, vs, rfl, q, _⟩ := h; exact tyX_L (SqL.of (s _ _ q))
  | frl xs => obtain ⟨a, vs, rfl, q, _⟩ := h; exact tyX_L (s.seq q)
theorem vD_ty {B : Bs} {F H : Hp} {σ : L2.St} {ε : Sg} {x : Vl} {v : V} (r : Rep K B F H σ ε) (rv : RVl K B F H σ ε x v) : TyX K H v (.type (tyD (vD x))) := by
  cases x with
  | p d => exact tyX_D r.fh rv
  | ow n =>
    cases n with
    | lst xs => obtain ⟨a, rfl, ⟨vs, q, _⟩, _⟩ := rv; exact tyX_L (SqL.of q)
    | dct xs => obtain ⟨a, _, z, _⟩ := rv; exact z.elim
    | dcT xs => obtain ⟨a, _, z, _⟩ := rv; exact z.elim
  | al i n =>
    cases n with
    | lst xs => obtain ⟨a, rfl, ⟨vs, q, _⟩, _⟩ := r.al rv.1 rv.2; exact tyX_L (SqL.of q)
    | dct xs => cases rv.2.2
    | dcT xs => cases rv.2.2
def dIsi (T : String) (te : DE) : DE := fun ε R E => te ε (fun x ε1 => R (.p (.bl (isaT T (tyD (vD x))))) ε1) E
theorem lift_isi {T : String} {te : DE} {σ : L2.St} {H : Hp} {Q : VK} (hT : T ∈ isaNames) (h : lift K W (dIsi T te) σ H Q) : tCB (rIsi K) (tCons (lift K W te) (tCons (tC (.ty T)) tNil)) σ H Q := by
  obtain ⟨ε, B, F, R, RE, r, t, c, we⟩ := h
  refine ⟨ε, B, F, _, RE, r, t, fun v H1 F1 x ε1 e1 r1 rv q => ?_, we⟩
  exact ⟨v, .ty T, _, _, _, rfl, .ty T, vD_ty r1 rv, kit_isa (tyD_mem _) hT, c _ H1 F1 (.p (.bl _)) ε1 e1 r1 rfl q⟩
end
theorem boot_isi : bootBuiltins "isinstance" = some (.builtin "isinstance") := by decide +kernel
theorem de_isi {X : Cx} {W : WX} {e : Expr} {te : DE} {T : Str} {Ts : String} {p p2 pos : Pos} (hT : Ts ∈ isaNames) (hb : bootBuiltins T = some (.type Ts)) (hm : X.mg "isinstance" = none) (hmT : X.mg T = none) (ha : PE X e (lift X.K W te)) (hg : Gl X "isinstance" := by rfl) (hgT : Gl X T := by rfl)
    (hn : T ≠ "__name__" := by decide) (hd : (T == ("__debug__" : Str)) = false := by decide)
    (h1 : starEach (e :: [.Name T p2]) X.env = (false, eval e X.env) :: starEach [.Name T p2] X.env := by rfl) (h2 : starEach (.Name T p2 :: []) X.env = (false, eval (.Name T p2) X.env) :: starEach [] X.env := by rfl) (hpl : (backTo pos (starEach [.Name T p2] X.env)).any (·.1) = false := by rfl) :
    PE X (.Call (.Name "isinstance" p) [e, .Name T p2] [] pos) (lift X.K W (dIsi Ts te)) :=
  PE_imp (pe_callB call_isi hg hm boot_isi (pa_cons ha (pa_cons (pe_bltn (v := .ty Ts) hgT hmT hb rfl hn hd) pa_nil h2) h1) (by decide) (by decide) h1 hpl) fun _ _ _ => lift_isi hT
theorem boot_ty_tuple : bootBuiltins "tuple" = some (.type "tuple") := by decide +kernel
theorem boot_ty_list : bootBuiltins "list" = some (.type "list") := by decide +kernel
theorem boot_ty_int : bootBuiltins "int" = some (.type "int") := by decide +kernel
theorem boot_ty_bool : bootBuiltins "bool" = some (.type "bool") := by decide +kernel
theorem boot_ty_str : bootBuiltins "str" = some (.type "str") := by decide +kernel
end DL

/-! DX1: an error class under an own base over ValueError; the base's __init__ says super().__init__(what) and keeps what. -/
namespace PySem
namespace NoteX
open PySem.W PySem.Calls PySem.HandSPX
/-! ### the text of __init__ -/
/-- the line on which the class begins -/
abbrev ln : Nat := 2
def nA : Arguments := { posonlyargs := [], args := [{ arg := "self", annotation := none, pos := ⟨ln + 2, 17, ln + 2, 21⟩ }, { arg := "what", annotation := none, pos := ⟨ln + 2, 23, ln + 2, 27⟩ }], vararg := none, kwonlyargs := [], kw_defaults := [], kwarg := none, defaults := [] }
def nB : List Stmt :=
  [.Expr (.Call (.Attribute (.Call (.Name "super" ⟨ln + 3, 8, ln + 3, 13⟩) [] [] ⟨ln + 3, 8, ln + 3, 15⟩) "__init__" ⟨ln + 3, 8, ln + 3, 24⟩) [.Name "what" ⟨ln + 3, 25, ln + 3, 29⟩] [] ⟨ln + 3, 8, ln + 3, 30⟩) ⟨ln + 3, 8, ln + 3, 30⟩,
   .Assign [.Attribute (.Name "self" ⟨ln + 4, 8, ln + 4, 12⟩) "what" ⟨ln + 4, 8, ln + 4, 17⟩] (.Name "what" ⟨ln + 4, 20, ln + 4, 24⟩) ⟨ln + 4, 8, ln + 4, 24⟩]
def nS : Scope := { kind := .function, names := [(PySem.Str.ofString "self", .local), (PySem.Str.ofString "what", .local), (PySem.Str.ofString "__class__", .free), (PySem.Str.ofString "super", .globalImplicit)], isGenerator := false, isCoroutine := false, more := [] }
/-- what the written part says of the base class D (NoteError) and its __init__ at fI -/
structure BaseTxt (P : Program) (K : Frag) (mg : Str → Option Value) (D fI : Addr) : Prop where
  fn : ∃ (oc : Value) (od : Option Addr) (doc pm : Value) (an : Option Addr) (cda cc : Addr) (ct : Value) (osl : Array (Option Value)) (ccl cl : Value) (cdd cld : Option Addr) (ccs csl : Array (Option Value)) (vs : Array Value) (file : Str) (tf : Tok),
    K.lookup fI = some ⟨oc, od, .func (ksFn "__init__" "NoteError.__init__" nA nB nS .none .none doc pm an (.ref cda) ct cc), osl⟩ ∧ codeIn K (.ref cda) "NoteError.__init__" = true ∧
    K.lookup cda = some ⟨ccl, cdd, .fields vs, ccs⟩ ∧ vs[2]? = some (.str file tf) ∧ ((P.main.file : Str) == file) = true ∧ K.lookup cc = some ⟨cl, cld, .cell (some (.ref D)), csl⟩
  tI : typeIn K (.ref fI) = some (.type "function")
  clD : ∃ cd, clsIn K D = some cd
  opq : nsIn K cStatics "thirdparty.any" = some none
  sup : mg "super" = none
  top : (P.main.scope.names.lookup ("super" : Str)).isSome = false
/-- .. and of a class C under it -/
structure ErrTxt (K : Frag) (mg : Str → Option Value) (D fI : Addr) (x : Str) (C : Addr) : Prop where
  gC : mg x = some (.ref C)
  cls : ∃ nm q N bs bm sn sub ab col dd k0 k1 k2 k3 k5, K.lookup C = some (excClassObj nm q C N bs bm true sn sub ab col dd k0 k1 k2 k3 k5 "ValueError.__new__") ∧ refsVE bm = true
  sa : findIn K (.ref C) "__setattr__" = some (some (.builtin "object.__setattr__"))
  noN : findIn K (.ref C) "what" = some none
  iC : findIn K (.ref C) "__init__" = some (some (.ref fI))
  kC : keepIn K (.ref C) = true
  exC : subIn K (.ref C) (.type "BaseException") = some true
  veC : subIn K (.ref C) (.type "ValueError") = some true
  tyC : typeIn K (.ref C) = some (.type "type")
  ups : ks_superIn K C D "__init__" = some (some (.builtin "ValueError.__init__"))
  mD : mroIn K C (.ref D) = some true
theorem one_line (v : Value) : [v].length ≤ sizeLine := by rw [sizeLine_eq]; exact (by decide : 1 ≤ 16777216)
theorem mw_one : ((Value.type "method-wrapper" == Value.type "method" || Value.type "method-wrapper" == Value.type "builtin_function_or_method" ||
    Value.type "method-wrapper" == Value.type "method-wrapper") : Bool) = true := by decide
theorem call_wrapped {prog : Program} {w : World} {A : Around} {E : Value → Shared → Prop} {h : Heap} {g : Array GenState} {d : Drawn} {t : Nat} {os : OsState}
    {nm q : Str} {C N : Addr} {bs bm : List Value} {hdct : Bool} {sn : List Str} {sub : List Value} {ab : Bool} {col : Option Bool} {dd : Option Addr} {k0 k1 k2 k3 k5 : Option Value} {u e t0 : Addr} {rest : List Value} {Q : Value → Shared → Prop}
    (hC : h.get? C = some (excClassObj nm q C N bs bm hdct sn sub ab col dd k0 k1 k2 k3 k5 "ValueError.__new__")) (he : h.get? e = some (excO C t0)) (hu : h.get? u = some (kxs_mw "ValueError.__init__" e)) (hrest : rest.length ≤ sizeLine)
    (hq : ∀ h' t1, (∀ b o, b ≠ e → h.get? b = some o → h'.get? b = some o) → h'.get? e = some (excO C t1) → Q .none ⟨h', g, d, t, os⟩) :
    wpAny (model prog w) A (call (.ref u) rest) Q E ⟨h, g, d, t, os⟩ := by
  refine wpAny_call (codeAny_of_tree ?_)
  show wpAny _ A.in1 (callAny (.ref u) ⟨rest, []⟩) _ _ _
  simp only [callAny]
  refine wpAny_bind (wpAny_load hu ?_)
  simp only [kxs_mw, mw_one, if_true]
  refine KFB.if_so (by decide) ?_
  refine wpAny_bind (check_bound_init F.excBase_ValueError.toExcCallFacts hC he rfl ?_)
  refine wpAny_bind (wpAny_pure (wpAny_pure ?_))
  refine ⟨plainId_quiet F.excBase_ValueError.init.plain _, codeAny_builtin F.excBase_ValueError.initEntry ?_⟩
  exact exc_init_tree (cls := .ref C) (t0 := t0) (dv := none) (c2 := .none) (c3 := .none) (b4 := .bool false) he hrest fun h' k z _ => hq h' _ k z
/-- what __init__ leaves of a fresh error at x -/
structure Kept (h h' : Heap) (x C dx t1 : Addr) (v : Value) : Prop where
  keep : ∀ b o, b ≠ x → h.get? b = some o → h'.get? b = some o
  obj : h'.get? x = some { cls := .ref C, dict := some dx, data := .fields #[.ref t1, .none, .none, .none, .bool false, .none] }
  dbig : h.objs.size ≤ dx
  dne : dx ≠ x
  ns : h'.Ns1 dx (fun y => if y = "what" then some v else none)
section
variable {prog : Program} {w : World} {A : Around} {E : Value → Shared → Prop} {R : Result → Shared → Prop} {s : Shared} {K : Frag} {mg mb : Str → Option Value} {C D fI : Addr} {xn : Str}
theorem note_init (T : BaseTxt prog K mg D fI) (U : ErrTxt K mg D fI xn C) {x t0 : Addr} {v : Value} (X : K.In s.heap) (hG : s.heap.Ns mainGlobals mg) (hB : s.heap.Ns builtinsNs mb) (hb : mb "super" = bootBuiltins "super") (hlim : s.heap.NoLimit)
    (hx : s.heap.get? x = some (excO C t0)) (hnx : K.lookup x = none) (hxG : x ≠ mainGlobals) (hroom : A.depth < recursionLimit)
    (hq : ∀ h' tk dx t1, Kept s.heap h' x C dx t1 v → R (.ok (.ret .none)) { s with heap := h', toks := tk }) :
    codeAny (model prog w) A (.call (.ref fI) ⟨[.ref x, v], []⟩) R s := by
  obtain ⟨oc, od, doc, pm, an, cda, cc, ct, osl, ccl, cl, cdd, cld, ccs, csl, vs, file, tf, ho, hcd, hcode, hvs, hfile, hcell⟩ := T.fn
  obtain ⟨nm, q, N, bs, bm, sn, sub, ab, col, dd, k0, k1, k2, k3, k5, hC, hbm⟩ := U.cls
  obtain ⟨cdD, hD⟩ := T.clD
  have hcl : clsIn K C = some { name := nm, bases := bs, mro := .ref C :: bm, ns := N, qualname := q, hasDict := true, slotNames := sn, subclasses := sub, abstract := ab, collection := col, hasDel := false } := by unfold clsIn; rw [hC] <;> rfl
  refine ks_codeAny_call_defAt (fd := ksFn "__init__" "NoteError.__init__" nA nB nS .none .none doc pm an (.ref cda) ct cc) (body := nB) (binds := [("self", .ref x), ("what", v)]) hroom (X _ _ ho) rfl hlim (codeRec_of X hcd) rfl
    (BindsTo.of_eq (by first | rfl | with_unfolding_all rfl)) (by show ∀ x ∈ nS.names, x.2 ≠ .cell; decide) (fun y hy => by
      rcases List.mem_cons.mp hy with rfl | hy
      · rfl
      · rw [List.mem_singleton] at hy
        subst hy
        rfl) (fun h₁ hns hk₁ => ?_) rfl rfl rfl
  have X₁ : K.In h₁ := X.keeps hk₁
  have hx₁ := hk₁ _ _ hx
  have hxL : s.heap.objs.size ≠ x := Nat.ne_of_gt (Heap.lt_size hx)
  have hsz : s.heap.objs.size < h₁.objs.size := hns.lt
  obtain ⟨oD, hD1, hD2⟩ : ∃ oD, h₁.get? D = some oD ∧ oD.data = .cls cdD := by
    unfold clsIn at hD
    split at hD
    · rename_i c d cd' sl z
      cases hD
      exact ⟨_, X₁ _ _ z, rfl⟩
    · cases hD
  have kSelf : ∀ {L a : Addr} {cd : Value}, (ksEnv "NoteError.__init__" nS L a cd cc).kindOf "self" = some .local := rfl
  -- super().__init__(what)
  refine ks_wpAt_execs_cons (ks_wpAt_Expr_any (ks_wpAt_MethodCall ?_))
  refine ks_wpAt_super_base (env := ksEnv "NoteError.__init__" nS s.heap.objs.size fI (.ref cda) cc) (ar := { arg := "self", annotation := none, pos := ⟨ln + 2, 17, ln + 2, 21⟩ }) rfl rfl (by decide) rfl (X₁ _ _ ho) rfl rfl rfl (X₁ _ _ hcode) rfl hvs hfile T.top ?_
  have hG₁ : h₁.Ns mainGlobals mg := hG.keeps hk₁
  have hB₁ : h₁.Ns builtinsNs mb := hB.keeps hk₁
  refine ks_loadName_global rfl rfl (loadGlobal_builtin (env := ksEnv "NoteError.__init__" nS s.heap.objs.size fI (.ref cda) cc) hG₁ T.sup hB₁ (hb.trans (by first | boot_by_name | decide +kernel)) ⟨rfl, ?_⟩)
  refine wpAny_loadName_free (env := ksEnv "NoteError.__init__" nS s.heap.objs.size fI (.ref cda) cc) rfl rfl rfl ⟨_, X₁ _ _ hcell, rfl⟩ ?_
  refine wpAny_loadName_local (env := ksEnv "NoteError.__init__" nS s.heap.objs.size fI (.ref cda) cc) (v := .ref x) rfl rfl hns (by first | rfl | with_unfolding_all rfl) ?_
  refine ks_wpAny_isType_cls hD1 hD2 ⟨rfl, ?_⟩
  refine ks_wpAny_call_super hD1 hD2 hx₁ rfl (fun c e => by cases e) (looks_mroIn X₁ U.mD) (fun h₂ e₂ k₂ => ?_)
  have X₂ : K.In h₂ := X₁.keeps k₂
  have hx₂ := k₂ _ _ hx₁
  have I₂ : PySem.W.InstAt h₂ x (excO C t0) C none := ⟨hx₂, rfl, rfl, trivial⟩
  have hsup : alongIn K "__init__" (((.ref C :: bm).dropWhile (· != .ref D)).drop 1) = some (some (.builtin "ValueError.__init__")) := by
    have z := U.ups
    unfold ks_superIn at z
    rw [hcl] at z
    exact z
  refine kxs_getMethod kxs_ValueError e₂ (looks_opaque X₂ T.opq) (l₀ := .ref C :: bm) (fun A Q E s k q => wpAny_bind ((looks_clsIn X₂ hcl) A _ E s k (wpAny_pure q))) rfl X₂ hsup (I₂.type.andThen (looks_subIn X₂ U.veC)) (ks_ne X₂ I₂ hcl) (by decide) ?_
  have X₃ : K.In (h₂.push (kxs_mw "ValueError.__init__" x)) := X₂.keeps fun b o e => Heap.get?_push_of_some _ e
  have hx₃ : (h₂.push (kxs_mw "ValueError.__init__" x)).get? x = some (excO C t0) := Heap.get?_push_of_some _ hx₂
  have hns₃ : (h₂.push (kxs_mw "ValueError.__init__" x)).Ns s.heap.objs.size _ := hns.keeps fun b o e => Heap.get?_push_of_some _ (k₂ b o e)
  refine kxs_callWith (i := "ValueError.__init__") (x := x) rfl (evalArgs_plain ?_)
  show wpAny _ _ (spliced ((false, eval (.Name "what" ⟨ln + 3, 25, ln + 3, 29⟩) (ksEnv "NoteError.__init__" nS s.heap.objs.size fI (.ref cda) cc)) :: [])) _ _ _
  refine Calls.spliced_cons ?_
  refine wpAny_Name (wpAny_loadName_local (env := ksEnv "NoteError.__init__" nS s.heap.objs.size fI (.ref cda) cc) (v := v) rfl rfl hns₃ (by first | rfl | with_unfolding_all rfl) ?_) (by decide)
  refine Calls.spliced_nil ⟨Heap.get?_push_size _ rfl, ?_⟩
  show wpAny _ _ (call (.ref h₂.objs.size) [v]) _ _ _
  refine call_wrapped (X₃ _ _ hC) hx₃ (Heap.get?_push_size _ rfl) (one_line v) fun h₄ t1 k₄ hx₄ => ?_
  have hns₄ : h₄.Ns s.heap.objs.size _ := hns₃.at fun o e => k₄ _ o hxL e
  have X₄ : K.In h₄ := fun a o e => k₄ a o (fun z => by subst z; rw [hnx] at e; cases e) (X₃ _ _ e)
  -- self.what = what
  refine ks_wpAt_execs_cons (ks_wpAt_Assign_Attr ?_)
  refine wpAt_of_wpAny (wpAny_Name (wpAny_loadName_local (env := ksEnv "NoteError.__init__" nS s.heap.objs.size fI (.ref cda) cc) (v := v) rfl rfl hns₄ (by first | rfl | with_unfolding_all rfl) ?_) (by decide))
  refine wpAny_Name (wpAny_loadName_local (env := ksEnv "NoteError.__init__" nS s.heap.objs.size fI (.ref cda) cc) (v := .ref x) rfl rfl hns₄ (by first | rfl | with_unfolding_all rfl) ?_) (by decide)
  refine set_plain X₄ (ox := excO C t1) (od := none) ⟨hx₄, rfl, rfl, trivial⟩ U.sa ?_
  refine exc_osa X₄ hx₄ hcl (show refsVE (.ref C :: bm) = true from hbm) rfl U.noN (fun h₅ tk₅ dx k₅ dn dne hx₅ hn₅ => ?_)
  show PySem.wpAt _ _ _ (execs [] _) _ _ _
  refine wpAt_of_wpAny (wpAny_execs_nil ?_)
  have old : ∀ b o, b ≠ x → s.heap.get? b = some o → h₅.get? b = some o := fun b o hb e => k₅ b o hb (k₄ b o hb (Heap.get?_push_of_some _ (k₂ b o (hk₁ b o e))))
  refine hq h₅ tk₅ dx t1 ⟨old, hx₅, ?_, dne, hn₅⟩
  have z₄ : s.heap.objs.size < h₄.objs.size := hns₄.lt
  exact Nat.le_of_lt (Nat.lt_of_lt_of_le z₄ dn)
/-- a made error -/
structure Made (h h' : Heap) (e C d : Addr) (v : Value) : Prop where
  keep : ∀ b o, h.get? b = some o → h'.get? b = some o
  new : h.objs.size ≤ e
  obj : ∃ oe vs, h'.get? e = some oe ∧ oe.cls = .ref C ∧ oe.dict = some d ∧ oe.data = .fields vs ∧ vs[1]? = some .none
  dbig : h.objs.size ≤ d
  dne : d ≠ e
  ns : h'.Ns1 d (fun y => if y = "what" then some v else none)
theorem note_made (T : BaseTxt prog K mg D fI) (U : ErrTxt K mg D fI xn C) {v : Value} (X : K.In s.heap) (hG : s.heap.Ns mainGlobals mg) (hB : s.heap.Ns builtinsNs mb) (hb : mb "super" = bootBuiltins "super") (hlim : s.heap.NoLimit) (hroom : A.depth + 1 < recursionLimit)
    (hq : ∀ h' tk e d, Made s.heap h' e C d v → R (.ok (.ret (.ref e))) { s with heap := h', toks := tk }) : codeAny (model prog w) A (.call (.ref C) ⟨[v], []⟩) R s := by
  obtain ⟨nm, q, N, bs, bm, sn, sub, ab, col, dd, k0, k1, k2, k3, k5, hC, hbm⟩ := U.cls
  obtain ⟨hp, g, dr, tk, os⟩ := s
  have k : ∀ b o, hp.get? b = some o → ((hp.push (kdv_tup [v])).push (excO C hp.objs.size)).get? b = some o := fun b o e => Heap.get?_push_of_some _ (Heap.get?_push_of_some _ e)
  have hget : ((hp.push (kdv_tup [v])).push (excO C hp.objs.size)).get? (hp.objs.size + 1) = some (excO C hp.objs.size) := by heap_get
  have big : ∀ {a : Addr} {o : Obj}, hp.get? a = some o → a ≠ hp.objs.size + 1 := fun e z => absurd (Nat.lt_of_succ_lt (z ▸ Heap.lt_size e)) (Nat.lt_irrefl _)
  have hnx : K.lookup (hp.objs.size + 1) = none := by
    cases e : K.lookup (hp.objs.size + 1) with
    | none => rfl
    | some o => exact (big (X _ _ e) rfl).elim
  have hxG : hp.objs.size + 1 ≠ mainGlobals := by
    obtain ⟨o, es, ep, e, _⟩ := hG
    exact (big e).symm
  refine call_own F.excBase_ValueError (fun Z => refsVE_contains Z bm hbm) (X _ _ hC) (looks_findIn X U.iC) (fun self => bind_fn X self T.tI) (one_line v) ?_
  refine note_init (s := ⟨(hp.push (kdv_tup [v])).push (excO C hp.objs.size), g, dr, tk, os⟩) T U (X.keeps k) (hG.keeps k) (hB.keeps k) hb (hlim.keeps k) hget hnx hxG hroom fun h' tk' dx t1 ⟨k', hx, dn, dne, hns⟩ => ?_
  have old : ∀ b o, hp.get? b = some o → h'.get? b = some o := fun b o e => k' b o (big e) (k b o e)
  have z : hp.objs.size + 1 + 1 ≤ dx := by
    have q := dn
    rw [Heap.size_push, Heap.size_push] at q
    exact q
  exact ⟨rfl, hq h' tk' (hp.objs.size + 1) dx ⟨old, Nat.le_succ _, ⟨_, _, hx, rfl, rfl, rfl, rfl⟩, Nat.le_of_lt (Nat.lt_of_succ_lt z), dne, hns⟩⟩
end
end NoteX
end PySem
namespace DL
open PySem PySem.Spec L2 PySem.NoteX
theorem relO_what {v : V} {u : Value} (r : RelV v u) (f : Str) : RelO (List.lookup f [(("what" : Str), v)]) (if f = "what" then some u else none) := by
  by_cases hw : f = "what"
  · subst hw
    rw [if_pos rfl, show List.lookup ("what" : Str) [(("what" : Str), v)] = some v by simp [List.lookup]]
    exact r
  · rw [if_neg hw, show List.lookup f [(("what" : Str), v)] = none by simp [List.lookup, show (f == ("what" : Str)) = false by simpa using hw]]
    trivial
section
variable {X : Cx} {D₀ C fI : Addr} {x : Str}
/-- C(e) -/
def tMk (C : Addr) (ta : TA) : L2.St → Hp → XK → Prop := fun σ H Q => ta σ H fun vs H1 => ∃ v, vs = [v] ∧ ∀ d, H1 d = none → Q (.ref C) (some d) (upd H1 d (.xd [(("what" : Str), v)]))
theorem pmk_note {a : Expr} {ta : TA} {p pos : Pos} {k : Nat} (T : BaseTxt X.prog X.K X.mg D₀ fI) (U : ErrTxt X.K X.mg D₀ fI x C) (hr : Room k X.A) (ha : PA X [a] ta) (hg : Gl X x := by rfl) (hd : (x == ("__debug__" : Str)) = false := by decide)
    (he : starEach (a :: []) X.env = (false, eval a X.env) :: starEach [] X.env := by rfl) (hpl : (backTo pos (starEach [] X.env)).any (·.1) = false := by rfl) :
    PMk X (.Call (.Name x p) [a] [] pos) (tMk C ta) := by
  intro pins s σ H Q I h
  refine wpAny_Call_Name_kw (ld_glob I hg U.gC ?_ hd)
  refine PySem.W.callWith_K (h₀ := X.base) I.ok.mod.kin U.kC (thn (ha.run pos pins s σ H _ I h) fun us s1 ⟨vs, H1, I1, r1, v, ev, q1⟩ => ⟨I1.kIn, ?_⟩) he hpl
  subst ev
  obtain ⟨u, rfl, rv⟩ := r1.one
  show wpAny _ _ (call (.ref C) [u]) _ _ _
  have hlim := I1.nolimit
  have bk := I1.bk
  obtain ⟨mb, hB, hb⟩ := I1.mod.blt
  have hG := I1.mod.glob.keeps bk
  have hB' := hB.keeps bk
  obtain ⟨hp, g, dr, tk, os⟩ := s1
  refine wpAny_call (note_made T U I1.kIn hG hB' (hb _ (by decide)) hlim (by have := hr.dp; omega) fun h' tk' e d M => ?_)
  show MkP X pins σ Q (.ref e) ⟨h', g, dr, tk', os⟩
  obtain ⟨oe, fv, hoe, hc, hd', hdat, h1⟩ := M.obj
  have hns := M.ns
  obtain ⟨G', g1, g2⟩ := restrict h' fun b => decide (b ≠ e)
  have gk : ∀ b, b ≠ e → G'.get? b = h'.get? b := fun b hb => g1 b (decide_eq_true hb)
  have ge : G'.get? e = none := g2 e (by simp)
  have old : ∀ b o, hp.get? b = some o → G'.get? b = some o := fun b o q => (gk b (Nat.ne_of_lt (Nat.lt_of_lt_of_le (Heap.lt_size q) M.new))).trans (M.keep b o q)
  have ob : ObjOk X.prog X.w (upd H1 d (.xd [(("what" : Str), v)])) G' d (.xd [(("what" : Str), v)]) :=
    ⟨_, hns.at (fun o q => (gk d M.dne).trans q), fun f => relO_what rv f⟩
  have J : Inv X pins σ (upd H1 d (.xd [(("what" : Str), v)])) ⟨G', g, dr, tk', os⟩ := I1.laid (t' := tk') old M.dbig ob
  refine ⟨e, oe, fv, ⟨G', g, dr, tk', os⟩, _, .ref C, some d, rfl, J, fun b o q => ?_, ge, hoe, ⟨hc, hd'⟩, hdat, h1, ?_, rfl, I1.bare, raises_own U.exC U.tyC, q1 d (I1.hok.fresh M.dbig)⟩
  · by_cases hb : b = e
    · have q' : G'.get? b = some o := q
      rw [hb, ge] at q'; cases q'
    · exact (gk b hb).symm.trans q
  · rw [upd_ne (Ne.symm M.dne)]
    exact I1.hok.fresh M.new
end
/-! ### raise, over pure states -/
def dRaise (C : Addr) (ta : DA) : DS := fun P ε => ta ε (fun xs ε1 => frzs xs ε1 fun ds ε2 => match ds with
  | [d] => P.er ⟨C, ["what"], [d]⟩ ε2
  | _ => False) P.er
theorem lift_raise {K : PySem.W.Frag} {W : WX} {C : Addr} {ta : DA} {Dd : Ends} {σ : L2.St} {H : Hp} (h : liftS K W (dRaise C ta) Dd σ H) : tMk C (liftA K W ta) σ H fun cls d H' => W cls d σ H' := by
  obtain ⟨ε, B, F, P, r, t, c, cb, cc, cr, we⟩ := h
  refine ⟨ε, B, F, _, P.er, r, t, fun vs H1 F1 xs ε1 e1 r1 rv q => ?_, we σ⟩
  obtain ⟨F2, ε2, ds, e2, r2, p2, q⟩ := frzs_ok r1 rv q
  split at q
  · rename_i d
    obtain ⟨v, rr, rfl, h1, h2⟩ := p2.cons
    have e := h2.nil
    subst e
    refine ⟨v, rfl, fun dx hdx => ?_⟩
    exact we σ (.ref C) (some dx) _ F2 ⟨C, ["what"], [d]⟩ ε2 (e1.trans e2) (r2.lay hdx) ⟨rfl, dx, [v], rfl, upd_same, Rps.one h1⟩ q
  · exact q.elim
theorem ds_raise {X : Cx} {W : WX} {D₀ C fI : Addr} {x : Str} {a : Expr} {ta : DA} {p pos pos2 : Pos} {k : Nat} (hc : X.calm = true) (tk : Takes X W) (T : BaseTxt X.prog X.K X.mg D₀ fI) (U : ErrTxt X.K X.mg D₀ fI x C) (hr : Room k X.A) (ha : PA X [a] (liftA X.K W ta)) (hg : Gl X x := by rfl) (hd : (x == ("__debug__" : Str)) = false := by decide)
    (he : starEach (a :: []) X.env = (false, eval a X.env) :: starEach [] X.env := by rfl) (hpl : (backTo pos (starEach [] X.env)).any (·.1) = false := by rfl) :
    PS X (.Raise (some (.Call (.Name x p) [a] [] pos)) none pos2) (liftS X.K W (dRaise C ta)) :=
  PS_imp (ps_raise hc tk (pmk_note T U hr ha hg hd he hpl)) fun _ _ _ => lift_raise
end DL

/-! DX2: try with several clauses, each with a name; over pure states. -/
namespace DL
open PySem PySem.Spec PyProof.Rows L2
open PySem.HandSPX (setFlight_upZ lands_againZ)

/-- a clause: its class, the slot of its name, what its suite does -/
structure Cl where
  c : Value
  i : Nat
  ts : Addr → Value → Option Addr → TS
abbrev endsOff (i : Nat) (D : Ends) : Ends where
  nx := fun τ G => D.nx (τ.set i none) G
  rt := D.rt
  bk := fun τ G => D.bk (τ.set i none) G
  ct := fun τ G => D.ct (τ.set i none) G
def wCls (K : PySem.W.Frag) (Wo : WX) (D : Ends) : List Cl → WX
  | [] => Wo
  | k :: r => fun cls d τ G => ∃ b, PySem.W.exmOne K cls k.c = some b ∧ (b = true → ∀ a, G a = none → k.ts a cls d (endsOff k.i D) (τ.set k.i (some (.ref a))) G) ∧ (b = false → wCls K Wo D r cls d τ G)
inductive ClsOk (X : Cx) : List ExceptHandler → List Cl → Prop
  | nil : ClsOk X [] []
  | cons {x n : Str} {k : Cl} {b₀ : Stmt} {su : List Stmt} {p q : Pos} {hds : List ExceptHandler} {l : List Cl} (hc : Names X x k.c) (hi : X.N[k.i]? = some n) (hl : X.env.kindOf n = some .local)
      (hsu : ∀ (a : Addr) (oe : Obj) (cls : Value) (d : Option Addr) (pn : List (Addr × Obj)), Zc cls d oe → (∃ vs, oe.data = .fields vs) → PSs (X.suite a ((a, oe) :: pn)) (b₀ :: su) (k.ts a cls d)) (r : ClsOk X hds l) :
      ClsOk X (.ExceptHandler (some (.Name x p)) (some n) (b₀ :: su) q :: hds) (k :: l)
section
variable {X : Cx} {body : List Stmt} {h₀ : ExceptHandler} {hds : List ExceptHandler} {l : List Cl} {pos : Pos} {tb : WX → TS} {Wo : WX}
/-- an error that lies over the frames, its frame noted, meets the clauses -/
theorem meets_clauses (hs : X.stack = X.env :: X.outer) (hf : X.env.frame = some X.env.locals) (hN : X.N.Nodup) (tk : Takes X Wo) {pins : List (Addr × Obj)} {τ : L2.St} {G : Hp} {sI s' : Shared} {a : Addr} {B h3 : Heap} {cls : Value} {d : Option Addr} {D : Ends}
    (J : Inv X pins τ G sI) (nb : ∀ b o, sI.heap.get? b = some o → b ∉ frs X.stack → B.get? b = some o) (up : sI.heap.UpToSlots h3) (fl : PySem.HandSPX.FlyingZ B (X.env :: X.outer) a (Zc cls d) h3) (na : G a = none) (os : s'.os = sI.os) (ag : AllBare s'.gens)
    {hs2 : List ExceptHandler} {l2 : List Cl} (hk : ClsOk X hs2 l2) : wCls X.K Wo D l2 cls d τ G → wpAny (model X.prog X.w) X.A (handleBy (.ref a) X.env hs2) (SP X pins D) X.xe { s' with heap := h3 } := by
  have apart : ∀ {h : Heap} {o : Obj} {vs : Array Value}, h.FunFrames B (X.env :: X.outer) → h.get? a = some o → o.data = .fields vs → a ≠ X.env.locals ∧ a ∉ X.fs := fun {h o vs} ff e dd => by
    have no : a ∉ frs (X.env :: X.outer) := fun hm => by
      obtain ⟨_, o2, e2, hnf⟩ := ff.mem hm
      rw [e] at e2; cases e2
      exact hnf _ dd
    refine ⟨fun z => no (List.mem_filterMap.mpr ⟨X.env, List.mem_cons_self, by rw [hf, z]⟩), fun hm => ?_⟩
    obtain ⟨e3, h4, q⟩ := List.mem_filterMap.mp hm
    exact no (List.mem_filterMap.mpr ⟨e3, List.mem_cons_of_mem _ h4, q⟩)
  have ground : ∀ {h : Heap}, sI.heap.UpToSlots h → PySem.HandSPX.FlyingZ B (X.env :: X.outer) a (Zc cls d) h → ∃ oe, (∃ vs, oe.data = .fields vs) ∧ Zc cls d oe ∧ h.get? a = some oe ∧ Inv (X.suite a ((a, oe) :: (X.pn ++ pins))) [] τ G { s' with heap := h } ∧ Inv X pins τ G { s' with heap := h } := fun {h} u f => by
    obtain ⟨oe, vs, he, hz, hd⟩ := f.there
    obtain ⟨n1, n2⟩ := apart f.2.2.1 he hd
    have J2 : Inv X pins τ G { s' with heap := h } := J.landed nb f.1 u os ag
    exact ⟨oe, ⟨vs, hd⟩, hz, he, J2.suite he hd na n1 n2, J2⟩
  induction hk with
  | nil =>
    intro w
    obtain ⟨k1, k2, k3, oe, vs, T, oT, tt, he, hz, hd, h1, hr⟩ := id fl
    have away : wpAny (model X.prog X.w) X.A (setFlight (.ref a) X.env.frame) (fun _ s4 => wpAny (model X.prog X.w) X.A (throw (.ref a) : Sem Flow) (SP X pins D) X.xe s4) X.xe { s' with heap := h3 } := by
      rw [hf]
      refine setFlight_upZ fl fun h4 hh4 up4 => wpAny_throw (tk _ _ ⟨a, B, sI, pins, τ, G, cls, d, rfl, J, nb, up.trans up4, .inr (.inr ?_), na, os, ag, w⟩)
      rw [hs]; exact hh4
    refine wpAny_handleBy_nil ?_
    unfold PySem.passOn
    refine wpAny_bind (wpAny_field he hd h1 ?_)
    rw [if_neg (by simp)]
    first
      | exact wpAny_bind (wpAny_pure (wpAny_bind away))
      | exact wpAny_bind away
  | @cons x n k b₀ su p q hs3 l3 hc hi hl hsu r ih =>
    intro w
    obtain ⟨b, hb, hyes, hno⟩ := w
    obtain ⟨oe, _, hz, he, S3, J3⟩ := ground up fl
    refine wpAny_handleBy_cons (codeAny_handlers_test ?_) (by intro z; cases z)
    have LT : PySem.W.Looks (model X.prog X.w) h3 (typeOf (.ref a)) cls := fun A Q E s kk z => wpAny_typeOf_ref (kk _ _ he) (by rw [hz.1]; exact z)
    have seen : ∀ {Q : Value → Shared → Prop} {E : Value → Shared → Prop}, Q k.c { s' with heap := h3 } → wpAny (model X.prog X.w) (X.A.mark (some (.ref a))) (eval (.Name x p) X.env) Q E { s' with heap := h3 } := fun {Q E} z => by
      obtain ⟨hg, hdb, hm | ⟨hm, hv, hn⟩⟩ := hc
      · exact ld_glob (X := X.suite a ((a, oe) :: (X.pn ++ pins))) S3 hg hm z hdb
      · exact ld_blt (X := X.suite a ((a, oe) :: (X.pn ++ pins))) S3 hg hm hv z hn hdb
    refine seen ((PySem.W.exm_one (M := model X.prog X.w) J3.kIn LT hb).here ?_)
    cases b with
    | false => exact ih (hno rfl)
    | true =>
      refine codeAny_handlers_suite_as (lands_againZ fl fun h4 fl4 up4 => ?_)
      obtain ⟨oe4, hd4, hz4, he4, S4, J4⟩ := ground (up.trans up4) fl4
      refine store_ok (X := X.suite a ((a, oe4) :: (X.pn ++ pins))) (v := .ref a) S4 hN hi (.inl hl) rfl (fun s5 S5 => ?_) (.inr hl)
      refine wpAny_mono ((hsu a oe4 cls d (X.pn ++ pins) hz4 hd4).run [] s5 _ G _ S5 (hyes rfl a na)) (fun f s6 hsp => ?_) (fun _ _ z => z.elim)
      have off : ∀ {τ6 : L2.St} {G6 : Hp} {Q : Shared → Prop}, Inv (X.suite a ((a, oe4) :: (X.pn ++ pins))) [] τ6 G6 s6 → (∀ s7, Inv X pins (τ6.set k.i none) G6 s7 → Q s7) →
          wpAny (model X.prog X.w) X.A (do bindName X.env n .none; unbindBehindTheSuite X.env n q) (fun _ s7 => Q s7) X.xe s6 := fun {τ6 G6 Q} S6 z => gone_ok (S6.unsuite J.ok) hN hi hl z
      cases f with
      | next => obtain ⟨τ6, G6, S6, q6⟩ := hsp; exact off S6 fun s7 J7 => ⟨_, G6, J7, q6⟩
      | brk => obtain ⟨τ6, G6, S6, q6⟩ := hsp; exact off S6 fun s7 J7 => ⟨_, G6, J7, q6⟩
      | cont => obtain ⟨τ6, G6, S6, q6⟩ := hsp; exact off S6 fun s7 J7 => ⟨_, G6, J7, q6⟩
      | ret u => obtain ⟨v6, τ6, G6, S6, r6, q6⟩ := hsp; exact off S6 fun s7 J7 => ⟨v6, _, G6, J7, r6, q6⟩
theorem ps_tryA (hs : X.stack = X.env :: X.outer) (hf : X.env.frame = some X.env.locals) (hN : X.N.Nodup) (tk : Takes X Wo)
    (hb : ∀ (W : WX) (pn : List (Addr × Obj)) (xe : Value → Shared → Prop), Takes (X.tr pn xe) W → PassesOwn (model X.prog X.w) X.A X.env xe → PSs (X.tr pn xe) body (tb W))
    (hh : ClsOk X (h₀ :: hds) l) : PS X (.Try body (h₀ :: hds) [] [] pos) (fun D τ G => tb (wCls X.K Wo D l) D τ G) := by
  refine ⟨fun pins s σ H D I h => wpAny_Try_except ?_⟩
  have hfr : X.A.frames = some (X.env :: X.outer) := by rw [I.ok.frames, hs]
  have run := (hb (wCls X.K Wo D l) (X.pn ++ pins) (fun e s₁ => wpAny (model X.prog X.w) X.A (noteFrame e X.env) (fun _ s₂ => wpAny (model X.prog X.w) X.A (setFlight e none) (fun _ s₃ =>
    wpAny (model X.prog X.w) X.A (handleBy e X.env (h₀ :: hds)) (SP X pins D) X.xe s₃) X.xe s₂) X.xe s₁) (fun u s' xx => by
      obtain ⟨a, B, sI, pins', τ, G, cls, d, rfl, J', nb, up, sky, na, os, ag, w⟩ := xx
      have J : Inv X pins τ G sI := J'.ofTry I.ok
      have sky' : Sky B (X.env :: X.outer) a (Zc cls d) X.env.locals s'.heap := by rw [← hs]; exact sky
      show wpAny (model X.prog X.w) X.A (noteFrame (.ref a) X.env) _ _ _
      exact Sky.land Zc.steady hfr hf sky' fun h3 fl3 up3 => meets_clauses hs hf hN tk J nb (up.trans up3) fl3 na os ag hh w) PassesOwn.looking).run [] s σ H D (I.toTry _) h
  refine wpAny_mono run (fun f s1 hsp => ?_) fun _ _ z => z
  cases f with
  | next => obtain ⟨τ, G, J, q⟩ := hsp; exact wpAny_execs_nil ⟨τ, G, J.ofTry I.ok, q⟩
  | brk => obtain ⟨τ, G, J, q⟩ := hsp; exact ⟨τ, G, J.ofTry I.ok, q⟩
  | cont => obtain ⟨τ, G, J, q⟩ := hsp; exact ⟨τ, G, J.ofTry I.ok, q⟩
  | ret u => obtain ⟨v, τ, G, J, r, q⟩ := hsp; exact ⟨v, τ, G, J.ofTry I.ok, r, q⟩
end

/-! ### over pure states -/
/-- a clause: its class, the slot of its name, its suite -/
structure CD where
  C : Addr
  i : Nat
  t : DS
abbrev offD (i : Nat) (P : DN) : DN where
  nx := fun ε => P.nx (ε.set i none)
  rt := P.rt
  er := fun _ _ => False
  bk := fun ε => P.bk (ε.set i none)
  ct := fun ε => P.ct (ε.set i none)
def dMeets (K : PySem.W.Frag) (P : DN) : List CD → DX
  | [] => P.er
  | k :: r => fun e ε => ∃ b, PySem.W.exmOne K (.ref e.C) (.ref k.C) = some b ∧ (b = true → k.t (offD k.i P) (ε.set k.i none)) ∧ (b = false → dMeets K P r e ε)
def dTry (K : PySem.W.Frag) (tb : DS) (l : List CD) : DS := fun P ε => tb (P.onEr (dMeets K P l)) ε
def clOf (K : PySem.W.Frag) (k : CD) : Cl := ⟨.ref k.C, k.i, fun _ _ _ => liftS K WF k.t⟩
theorem Rep.hide {K : PySem.W.Frag} {B : Bs} {F H : Hp} {σ : L2.St} {ε : Sg} (i : Nat) (o : Option V) (r : Rep K B F H σ ε) : Rep K B F H (σ.set i o) (ε.set i none) := by
  have at' : ∀ {j : Nat} {s : Sl}, (ε.set i none)[j]? = some (some s) → i ≠ j ∧ ε[j]? = some (some s) := fun {j s} e => by
    rw [List.getElem?_set] at e
    split at e
    · split at e <;> cases e
    · rename_i h; exact ⟨h, e⟩
  refine ⟨r.fh, r.bh, by rw [List.length_set, List.length_set, r.len], fun j s e => ?_, fun j k a b n m c hjk ej ek sj => ?_⟩
  · obtain ⟨hij, e⟩ := at' e
    obtain ⟨v, h1, h2⟩ := r.val j s e
    exact ⟨v, by rw [List.getElem?_set_ne hij]; exact h1, h2⟩
  · obtain ⟨h1, e1⟩ := at' ej
    obtain ⟨h2, e2⟩ := at' ek
    rw [List.getElem?_set_ne h1] at sj
    rw [List.getElem?_set_ne h2]
    exact r.sep j k a b n m c hjk e1 e2 sj
theorem lift_meets {K : PySem.W.Frag} {Wo : WX} {B : Bs} {F : Hp} {P : DN} {Dd : Ends}
    (c : ∀ σ' H' F' ε', Ext B F F' → Rep K B F' H' σ' ε' → P.nx ε' → Dd.nx σ' H') (cb : ∀ σ' H' F' ε', Ext B F F' → Rep K B F' H' σ' ε' → P.bk ε' → Dd.bk σ' H')
    (cc : ∀ σ' H' F' ε', Ext B F F' → Rep K B F' H' σ' ε' → P.ct ε' → Dd.ct σ' H')
    (cr : ∀ σ' v H' F' x ε', Ext B F F' → Rep K B F' H' σ' ε' → RVl K B F' H' σ' ε' x v → P.rt x ε' → Dd.rt v H')
    (we : ∀ σ', Erw K Wo B F σ' P.er) : ∀ (l : List CD) (σ' : L2.St), Erw K (wCls K Wo Dd (l.map (clOf K))) B F σ' (dMeets K P l)
  | [], σ' => we σ'
  | k :: l, σ' => fun cls d H' F' e ε' ex r re q => by
    obtain ⟨b, hb, hy, hn⟩ := q
    refine ⟨b, by rw [re.1]; exact hb, fun z a _ => ?_, fun z => lift_meets c cb cc cr we l σ' cls d H' F' e ε' ex r re (hn z)⟩
    refine ⟨ε'.set k.i none, B, F', offD k.i P, r.hide k.i _, hy z, fun σ2 H2 F2 ε2 e2 r2 q2 => ?_, fun σ2 H2 F2 ε2 e2 r2 q2 => ?_, fun σ2 H2 F2 ε2 e2 r2 q2 => ?_, fun σ2 v2 H2 F2 x2 ε2 e2 r2 rv2 q2 => cr σ2 v2 H2 F2 x2 ε2 (ex.trans e2) r2 rv2 q2, fun σ2 cl d2 H2 F2 e2 ε2 _ _ _ q2 => q2⟩
    · exact c _ H2 F2 _ (ex.trans e2) (r2.hide k.i none) q2
    · exact cb _ H2 F2 _ (ex.trans e2) (r2.hide k.i none) q2
    · exact cc _ H2 F2 _ (ex.trans e2) (r2.hide k.i none) q2
inductive ClsD (X : Cx) : List ExceptHandler → List CD → Prop
  | nil : ClsD X [] []
  | cons {x n : Str} {k : CD} {b₀ : Stmt} {su : List Stmt} {p q : Pos} {hds : List ExceptHandler} {l : List CD} (hc : Names X x (.ref k.C)) (hi : X.N[k.i]? = some n) (hl : X.env.kindOf n = some .local)
      (hsu : ∀ (a : Addr) (pn : List (Addr × Obj)), PSs (X.suite a pn) (b₀ :: su) (liftS X.K WF k.t)) (r : ClsD X hds l) :
      ClsD X (.ExceptHandler (some (.Name x p)) (some n) (b₀ :: su) q :: hds) (k :: l)
theorem ClsD.ok {X : Cx} : ∀ {hds : List ExceptHandler} {l : List CD}, ClsD X hds l → ClsOk X hds (l.map (clOf X.K))
  | _, _, .nil => .nil
  | _, _, .cons hc hi hl hsu r => .cons (k := clOf X.K _) hc hi hl (fun a oe _ _ pn _ _ => hsu a ((a, oe) :: pn)) (ClsD.ok r)
theorem ds_try {X : Cx} {W : WX} {body : List Stmt} {h₀ : ExceptHandler} {hds : List ExceptHandler} {l : List CD} {pos : Pos} {tb : DS} (hs : X.stack = X.env :: X.outer) (hf : X.env.frame = some X.env.locals) (hN : X.N.Nodup) (tk : Takes X W)
    (hb : ∀ (W : WX) (pn : List (Addr × Obj)) (xe : Value → Shared → Prop), Takes (X.tr pn xe) W → PassesOwn (model X.prog X.w) X.A X.env xe → PSs (X.tr pn xe) body (liftS X.K W tb))
    (hh : ClsD X (h₀ :: hds) l) : PS X (.Try body (h₀ :: hds) [] [] pos) (liftS X.K W (dTry X.K tb l)) := by
  refine PS_imp (ps_tryA hs hf hN tk (tb := fun W => liftS X.K W tb) hb hh.ok) fun D τ G h => ?_
  obtain ⟨ε, B, F, P, r, t, c, cb, cc, cr, we⟩ := h
  exact ⟨ε, B, F, P.onEr (dMeets X.K P l), r, t, c, cb, cc, cr, fun σ' => lift_meets c cb cc cr we l σ'⟩
end DL

/-! DX3: chained comparisons, parallel assignments, calls of list methods. -/
namespace DL
open PySem PySem.Spec PyProof.Rows L2
/-! ### a op b op c, b pure -/
def isP : Vl → Bool
  | .p _ => true
  | _ => false
def dChain (q q' : Vl → Vl → (Vl → Prop) → Prop) (ta tb tc : DE) : DE := fun ε R E => ta ε (fun x ε1 => tb ε1 (fun y ε2 => stb x ε2 ∧ isP y = true ∧ q x y fun z => match z with
  | .p (.bl k) => IfB k (tc ε2 (fun w ε3 => q' y w fun z => R z ε3) E) (R (.p (.bl false)) ε2)
  | _ => False) E) E
section
variable {K : PySem.W.Frag} {W : WX}
theorem lift_chain {r r' : R2} {q q' : Vl → Vl → (Vl → Prop) → Prop} {ta tb tc : DE} (hq : OpD K r q) (hq' : OpD K r' q') {σ : L2.St} {H : Hp} {Q : VK} (h : lift K W (dChain q q' ta tb tc) σ H Q) : tChain r r' (lift K W ta) (lift K W tb) (lift K W tc) σ H Q := by
  obtain ⟨ε, B, F, R, RE, rp, t, c, we⟩ := h
  refine ⟨ε, B, F, _, RE, rp, t, fun v H1 F1 x ε1 e1 r1 rv1 t1 => ?_, we⟩
  obtain ⟨B1, sB, r2, back, _⟩ := r1.hold rv1
  refine ⟨ε1, B1, F1, _, RE, r2, t1, fun u H2 F2 y ε2 e2 r3 rv2 t2 => ?_, we.weak sB e1⟩
  have e2' := e2.weak sB
  obtain ⟨t21, t22, t23⟩ := t2
  cases y with
  | ow n => cases t22
  | al i n => cases t22
  | p d =>
  refine hq B F2 H2 σ ε2 x (.p d) v u _ _ (r3.weak sB) (back F2 H2 ε2 e2 r3 t21) (rv2.weak sB) t23 fun v' H' F' z e3 r4 rv3 h3 => ?_
  split at h3
  · rename_i k
    cases rv3
    refine ⟨k, rfl, ?_⟩
    replace h3 := ifb h3
    cases k with
    | false => exact c _ H' F' (.p (.bl false)) ε2 ((e1.trans e2').trans e3) r4 rfl h3
    | true =>
      refine ⟨ε2, B, F', _, RE, r4, h3, fun w H4 F4 x4 ε4 e4 r6 rv4 t4 => ?_, we.ext ((e1.trans e2').trans e3)⟩
      exact hq' B F4 H4 σ ε4 (.p d) x4 u w Q _ r6 (Rp.mono (e3.trans e4).1 rv2) rv4 t4 fun v5 H5 F5 z5 e5 r7 rv5 h5 => c v5 H5 F5 z5 ε4 ((((e1.trans e2').trans e3).trans e4).trans e5) r7 rv5 h5
  · exact h3.elim
/-! ### x, y = a, b with plain local names -/
def slotq : Vl → Option Sl
  | .p d => some (.p d)
  | .ow n => some (.ow none n)
  | .al _ _ => none
/-- the values as slots: as they are, or all fixed -/
def slots : List Vl → Sg → (List Sl → Sg → Prop) → Prop := fun xs ε R => match xs.mapM slotq with
  | some l => R l ε
  | none => frzs xs ε fun ds ε1 => R (ds.map .p) ε1
/-- slot by slot -/
def putAll : List Nat → List Sl → Sg → Sg
  | i :: is, s :: l, ε => putAll is l (ε.set i (some s))
  | _, _, ε => ε
def dPar (is : List Nat) (ta : DA) : DS := fun P ε => ta ε (fun xs ε1 => slots xs ε1 fun l ε2 => l.length = is.length ∧ P.nx (putAll is l ε2)) P.er
def putV : List Nat → List V → L2.St → L2.St
  | i :: is, v :: l, σ => putV is l (σ.set i (some v))
  | _, _, σ => σ
theorem RVl.setKeep {B : Bs} {F H : Hp} {σ : L2.St} {ε : Sg} {i : Nat} {x y : Vl} {v w : V} {s : Sl} (hs : slotq x = some s) (ht : ∃ t, slotq y = some t) (rv : RVl K B F H σ ε y w) (ne : ∀ n a, x = .ow n → v = .ref a → ∀ m, y = .ow m → w ≠ .ref a) :
    RVl K B F H (σ.set i (some v)) (ε.set i (some s)) y w := by
  cases y with
  | p d => exact rv
  | al j n => obtain ⟨t, ht⟩ := ht; cases ht
  | ow m =>
    obtain ⟨a, rfl, h1, h2, h3, h4⟩ := rv
    refine ⟨a, rfl, h1, h2, h3, fun j k n ej es => ?_⟩
    rcases set_get ej with ⟨rfl, e2, hl⟩ | ⟨hij, ej⟩
    · rcases set_get es with ⟨_, e3, _⟩ | ⟨hij, _⟩
      · cases x with
        | p d => cases hs; cases e2
        | al j n => cases hs
        | ow n' => exact ne n' a rfl (Option.some.inj e3.symm) m rfl rfl
      · exact hij rfl
    · rw [List.getElem?_set_ne hij] at es
      exact h4 j k n ej es
theorem par_keep {B : Bs} {F H : Hp} {x : Vl} {v : V} {s : Sl} (hs : slotq x = some s) {i : Nat} : ∀ {xs : List Vl} {vs : List V} {σ : L2.St} {ε : Sg} {l : List Sl}, RVls K B F H σ ε xs vs → xs.mapM slotq = some l →
    (∀ n a, x = .ow n → v = .ref a → ∀ (j : Nat) (m : Nd), xs[j]? = some (Vl.ow m) → vs[j]? ≠ some (.ref a)) → RVls K B F H (σ.set i (some v)) (ε.set i (some s)) xs vs
  | _, _, σ, ε, l, .nil, _, _ => .nil
  | _, _, σ, ε, l, .cons (x := y) (xs := ys) (v := w) (vs := ws) a b d, hl, ne => by
    rw [List.mapM_cons] at hl
    cases hy : slotq y with
    | none => rw [hy] at hl; cases hl
    | some t =>
      cases hys : ys.mapM slotq with
      | none => rw [hy, hys] at hl; cases hl
      | some l2 =>
        exact .cons (a.setKeep hs ⟨t, hy⟩ fun n c ex ev m ey ew => ne n c ex ev 0 m (by rw [ey]; rfl) (by rw [ew]; rfl)) (par_keep hs b hys fun n c ex ev j m ej => ne n c ex ev (j + 1) m ej) d
theorem putAll_ok {B : Bs} {F H : Hp} : ∀ {is : List Nat} {xs : List Vl} {vs : List V} {σ : L2.St} {ε : Sg} {l : List Sl}, Rep K B F H σ ε → RVls K B F H σ ε xs vs → xs.mapM slotq = some l → l.length = is.length → Rep K B F H (putV is vs σ) (putAll is l ε)
  | is, _, _, σ, ε, l, r, .nil, hl, hn => by
    cases hl
    cases is with
    | nil => exact r
    | cons _ _ => cases hn
  | is, _, _, σ, ε, l, r, .cons (x := y) (xs := ys) (v := w) (vs := ws) a b d, hl, hn => by
    rw [List.mapM_cons] at hl
    cases hy : slotq y with
    | none => rw [hy] at hl; cases hl
    | some t =>
      cases hys : ys.mapM slotq with
      | none => rw [hy, hys] at hl; cases hl
      | some l2 =>
        rw [hy, hys] at hl
        cases hl
        cases is with
        | nil => cases hn
        | cons i is =>
          have r2 : Rep K B F H (σ.set i (some w)) (ε.set i (some t)) := by
            cases y with
            | p d => cases hy; exact r.setP a
            | ow n => cases hy; exact r.setO a
            | al j n => cases hy
          have z := putAll_ok (is := is) r2 (par_keep hy b hys d) hys (Nat.succ.inj hn)
          exact z
theorem putAll_frz {B : Bs} {F H : Hp} : ∀ {is : List Nat} {ds : List D} {vs : List V} {σ : L2.St} {ε : Sg}, Rep K B F H σ ε → Rps K F ds vs → ds.length = is.length → Rep K B F H (putV is vs σ) (putAll is (ds.map .p) ε)
  | is, [], vs, σ, ε, r, h, hn => by
    have e := h.nil
    subst e
    cases is with
    | nil => exact r
    | cons _ _ => cases hn
  | is, d :: ds, vs, σ, ε, r, h, hn => by
    obtain ⟨v, ws, rfl, h1, h2⟩ := h.cons
    cases is with
    | nil => cases hn
    | cons i is =>
      have z := putAll_frz (is := is) (r.setP (i := i) h1) h2 (Nat.succ.inj hn)
      exact z
theorem slots_len : ∀ {xs : List Vl} {l : List Sl}, xs.mapM slotq = some l → l.length = xs.length
  | [], l, h => by cases h; rfl
  | x :: xs, l, h => by
    rw [List.mapM_cons] at h
    cases hy : slotq x with
    | none => rw [hy] at h; cases h
    | some t =>
      cases hys : xs.mapM slotq with
      | none => rw [hy, hys] at h; cases h
      | some l2 =>
        rw [hy, hys] at h
        cases h
        rw [List.length_cons, List.length_cons, slots_len hys]
theorem lift_par {is : List Nat} {ta : DA} {Dd : Ends} {σ : L2.St} {H : Hp} (h : liftS K W (dPar is ta) Dd σ H) : liftA K W ta σ H fun vs H1 => vs.length = is.length ∧ Dd.nx (putV is vs σ) H1 := by
  obtain ⟨ε, B, F, P, r, t, c, cb, cc, cr, we⟩ := h
  refine ⟨ε, B, F, _, P.er, r, t, fun vs H1 F1 xs ε1 e1 r1 rv q => ?_, we σ⟩
  unfold slots at q
  split at q
  · rename_i l hl
    have hlen : l.length = xs.length := slots_len hl
    exact ⟨by rw [← rv.length, ← hlen]; exact q.1, c _ H1 F1 _ e1 (putAll_ok r1 rv hl q.1) q.2⟩
  · obtain ⟨F2, ε2, ds, e2, r2, p2, q⟩ := frzs_ok r1 rv q
    rw [List.length_map] at q
    exact ⟨by rw [p2.length]; exact q.1, c _ H1 F2 _ (e1.trans e2) (putAll_frz r2 p2 q.1) q.2⟩
end
section
variable {X : Cx} {W : WX} {a b c : Expr} {ta tb tc : DE} {pos : Pos}
theorem de_chain {op op' : CmpOp} {r r' : R2} {q q' : Vl → Vl → (Vl → Prop) → Prop} (ho : OpR X (compareOp op) r) (ho' : OpR X (compareOp op') r') (hq : OpD X.K r q) (hq' : OpD X.K r' q') (ha : PE X a (lift X.K W ta)) (hb : PE X b (lift X.K W tb)) (hc : PE X c (lift X.K W tc))
    (hm : lastMarks [op, op'] [b, c] = false := by with_unfolding_all rfl) : PE X (.Compare a [op, op'] [b, c] pos) (lift X.K W (dChain q q' ta tb tc)) := PE_imp (pe_chain ho ho' ha hb hc hm) fun _ _ _ => lift_chain hq hq'
theorem dt_chain {op op' : CmpOp} {r r' : R2} {q q' : Vl → Vl → (Vl → Prop) → Prop} (ho : OpR X (compareOp op) r) (ho' : OpR X (compareOp op') r') (hq : OpD X.K r q) (hq' : OpD X.K r' q') (ha : PE X a (lift X.K W ta)) (hb : PE X b (lift X.K W tb)) (hc : PE X c (lift X.K W tc))
    (hm : lastMarks [op, op'] [b, c] = false := by with_unfolding_all rfl) : PT X (.Compare a [op, op'] [b, c] pos) (liftT X.K W (dTst (dChain q q' ta tb tc))) := by
  refine PT_imp (pt_chain ho ho' ha hb hc hm) fun σ H Q h => ?_
  obtain ⟨ε, B, F, R, RE, r, t, c, we⟩ := h
  have h2 : lift X.K W (dChain q q' ta tb tc) σ H fun x H' => ∃ k, x = .bl k ∧ Q k H' := by
    refine ⟨ε, B, F, _, RE, r, t, fun v H' F' x ε' e r' rv q => ?_, we⟩
    split at q
    · cases rv; exact ⟨_, rfl, c _ H' F' ε' e r' q⟩
    · exact q.elim
  exact lift_chain hq hq' h2
theorem ds_par2 {i j : Nat} {x y : Str} {ta : DA} {px py pt : Pos} {kt k2 pt2} (hc : X.calm = true) (hN : X.N.Nodup) (hi : X.N[i]? = some x) (hj : X.N[j]? = some y) (hij : i ≠ j)
    (hx : X.env.scope.names.lookup x = some .local) (hy : X.env.scope.names.lookup y = some .local) (ha : PA X [a, b] (liftA X.K W ta))
    (hw : swappedStores [.Tuple [.Name x px, .Name y py] kt pt] (.Tuple [a, b] k2 pt2) X.env = pure (some [x, y]))
    (hs : swapsWithSole [.Tuple [.Name x px, .Name y py] kt pt] (.Tuple [a, b] k2 pt2) pos.line X.env = pure false := by rfl) :
    PS X (.Assign [.Tuple [.Name x px, .Name y py] kt pt] (.Tuple [a, b] k2 pt2) pos) (liftS X.K W (dPar [i, j] ta)) := by
  refine PS_imp (ps_par hc hN hi hj hij hx hy ha hw hs) fun D σ H h => ?_
  obtain ⟨ε, B, F, R, RE, r, t, c, we⟩ := lift_par h
  refine ⟨ε, B, F, R, RE, r, t, fun vs H' F' x ε' e r' rv q => ?_, we⟩
  obtain ⟨q1, q2⟩ := c vs H' F' x ε' e r' rv q
  match vs, q1 with
  | [v, w], _ => exact ⟨v, w, rfl, q2⟩
theorem ds_par3 {i j l : Nat} {x y z : Str} {ta : DA} {px py pz pt : Pos} {kt k2 pt2} (hc : X.calm = true) (hN : X.N.Nodup) (hi : X.N[i]? = some x) (hj : X.N[j]? = some y) (hl : X.N[l]? = some z) (hij : i ≠ j) (hil : i ≠ l) (hjl : j ≠ l)
    (hx : X.env.scope.names.lookup x = some .local) (hy : X.env.scope.names.lookup y = some .local) (hz : X.env.scope.names.lookup z = some .local) (ha : PA X [a, b, c] (liftA X.K W ta))
    (hw : swappedStores [.Tuple [.Name x px, .Name y py, .Name z pz] kt pt] (.Tuple [a, b, c] k2 pt2) X.env = pure (some [x, y, z]))
    (hs : swapsWithSole [.Tuple [.Name x px, .Name y py, .Name z pz] kt pt] (.Tuple [a, b, c] k2 pt2) pos.line X.env = pure false := by rfl) :
    PS X (.Assign [.Tuple [.Name x px, .Name y py, .Name z pz] kt pt] (.Tuple [a, b, c] k2 pt2) pos) (liftS X.K W (dPar [i, j, l] ta)) := by
  refine PS_imp (ps_par3 hc hN hi hj hl hij hil hjl hx hy hz ha hw hs) fun D σ H h => ?_
  obtain ⟨ε, B, F, R, RE, r, t, c, we⟩ := lift_par h
  refine ⟨ε, B, F, R, RE, r, t, fun vs H' F' x ε' e r' rv q => ?_, we⟩
  obtain ⟨q1, q2⟩ := c vs H' F' x ε' e r' rv q
  match vs, q1 with
  | [v, w, u], _ => exact ⟨v, w, u, rfl, q2⟩
end
end DL

/-! DX4: is of bools, membership. -/
namespace DL
open PySem PySem.Spec PyProof.Rows L2
def isBq : Vl → Vl → (Vl → Prop) → Prop
  | .p (.bl a), .p (.bl b), R => R (.p (.bl (decide (a = b))))
  | _, _, _ => False
def notBq : Vl → Vl → (Vl → Prop) → Prop
  | .p (.bl a), .p (.bl b), R => R (.p (.bl (!decide (a = b))))
  | _, _, _ => False
/-- membership in a list or a tuple by equality, or a sign in a text -/
def inD (x : D) (xs : List D) : Bool := xs.any fun y => deq y x
def inq : Vl → Vl → (Vl → Prop) → Prop := fun x y R => ∃ xs, sqOf y = some xs ∧ dok 58 (vD x) = true ∧ doks 58 xs = true ∧ R (.p (.bl (inD (vD x) xs)))
def ninq : Vl → Vl → (Vl → Prop) → Prop := fun x y R => ∃ xs, sqOf y = some xs ∧ dok 58 (vD x) = true ∧ doks 58 xs = true ∧ R (.p (.bl (!inD (vD x) xs)))
section
variable {K : PySem.W.Frag}
theorem opd_isB : OpD K (fun x y H Q => ∃ a b, x = .bl a ∧ y = .bl b ∧ Q (.bl (decide (a = b))) H) isBq := by
  intro B F H σ ε x y v w Q R r rx ry q c
  unfold isBq at q
  split at q
  · cases rx; cases ry
    exact ⟨_, _, rfl, rfl, fin_p (d := .bl _) c r q rfl⟩
  · exact q.elim
theorem opd_notB : OpD K (fun x y H Q => ∃ a b, x = .bl a ∧ y = .bl b ∧ Q (.bl (!decide (a = b))) H) notBq := by
  intro B F H σ ε x y v w Q R r rx ry q c
  unfold notBq at q
  split at q
  · cases rx; cases ry
    exact ⟨_, _, rfl, rfl, fin_p (d := .bl _) c r q rfl⟩
  · exact q.elim
end
end DL

/-! DV1: for the conditions that are left: loops, equality of data, sizes of numbers. -/
namespace DL
open PySem PySem.Spec L2
/-! ### ways that are known -/
theorem IfB.tt {p q : Prop} (h : p) : IfB true p q := ⟨fun _ => h, fun z => (nomatch z)⟩
theorem IfB.ff {p q : Prop} (h : q) : IfB false p q := ⟨fun z => (nomatch z), fun _ => h⟩
theorem to {α : Type} {R : α → Prop} {x y : α} (h : R x) (e : x = y) : R y := e ▸ h
theorem bl_to {R : Vl → Prop} {a b : Bool} (h : R (.p (.bl a))) (e : a = b) : R (.p (.bl b)) := e ▸ h
theorem int_to {R : Vl → Prop} {a b : Int} (h : R (.p (.int a))) (e : a = b) : R (.p (.int b)) := e ▸ h
theorem meets_t {o : Option Bool} {p q : Prop} (h : o = some true) (hp : p) : ∃ b, o = some b ∧ (b = true → p) ∧ (b = false → q) := ⟨true, h, fun _ => hp, fun z => (nomatch z)⟩
theorem meets_f {o : Option Bool} {p q : Prop} (h : o = some false) (hq : q) : ∃ b, o = some b ∧ (b = true → p) ∧ (b = false → q) := ⟨false, h, fun z => (nomatch z), fun _ => hq⟩
/-! ### loops -/
theorem fold_ind {g : DG} {b : DS} {P : DN} (I : List D → Sg → Prop) (done : ∀ ε, I [] ε → P.nx ε)
    (step : ∀ x r ε, I (x :: r) ε → ∀ nx : Sg → Prop, (∀ ε', I r ε' → nx ε') → g (.p x) ε (fun ε1 => nf ε1 (b (P.loop nx))) P.er) (xs : List D) (ε : Sg) (h : I xs ε) : DFo g b P xs ε := by
  refine ⟨?_⟩
  induction xs generalizing ε with
  | nil => exact done ε h
  | cons x r ih => exact step x r ε h _ fun ε' h' => ih ε' h'
/-- over the images of things -/
theorem fold_map {α : Type} {g : DG} {b : DS} {P : DN} (u : α → D) (I : List α → Sg → Prop) (done : ∀ ε, I [] ε → P.nx ε)
    (step : ∀ x r ε, I (x :: r) ε → ∀ nx : Sg → Prop, (∀ ε', I r ε' → nx ε') → g (.p (u x)) ε (fun ε1 => nf ε1 (b (P.loop nx))) P.er) (xs : List α) (ε : Sg) (h : I xs ε) : DFo g b P (xs.map u) ε := by
  refine ⟨?_⟩
  induction xs generalizing ε with
  | nil => exact done ε h
  | cons x r ih => exact step x r ε h _ fun ε' h' => ih ε' h'
/-- over a range: the turns so far -/
theorem fold_range {g : DG} {b : DS} {P : DN} {lo : Int} {n : Nat} (I : Nat → Sg → Prop) (done : ∀ ε, I n ε → P.nx ε)
    (step : ∀ k ε, k < n → I k ε → ∀ nx : Sg → Prop, (∀ ε', I (k + 1) ε' → nx ε') → g (.p (.int (lo + (k : Nat)))) ε (fun ε1 => nf ε1 (b (P.loop nx))) P.er) (ε : Sg) (h : I 0 ε) : DFo g b P (rangeL lo n) ε := by
  refine ⟨?_⟩
  have go : ∀ (m k : Nat) (ε : Sg), k + m = n → I k ε → dFold g b P ((List.range' k m).map fun i => .int (lo + (i : Nat))) ε := by
    intro m
    induction m with
    | zero =>
      intro k ε e h
      have e' : k = n := by omega
      subst e'
      exact done ε h
    | succ m ih =>
      intro k ε e h
      rw [List.range'_succ, List.map_cons]
      exact step k ε (by omega) h _ fun ε' h' => ih (k + 1) ε' (by omega) h'
  have z := go n 0 ε (by omega) h
  unfold rangeL
  rw [List.range_eq_range']
  exact z
/-- a while: the states are shown by things -/
theorem while_run {α : Type} {c : DT} {b : DS} {P : DN} {ε : Sg} (u : α → Sg) (J : α → Prop) (μ : α → Nat) (a0 : α) (h0 : ε = u a0) (j0 : J a0)
    (step : ∀ a, J a → c (u a) (fun k ε1 => IfB k (b (P.loop fun e => ∃ m', m' < μ a ∧ ∃ a', e = u a' ∧ J a' ∧ μ a' = m') ε1) (P.nx ε1)) P.er) : DWh c b P ε :=
  .mk ⟨fun m e => ∃ a, e = u a ∧ J a ∧ μ a = m, ⟨_, a0, h0, j0, rfl⟩, fun m ε' ⟨a, e, j, hm⟩ => by
    subst e hm
    exact step a j⟩
/-- one turn of a list comprehension -/
def lcStep (tg : Tg) (tt : DT) (te : DE) (vs : List Nat) (ε0 : Sg) (x : D) (acc : List D) (k : List D → Prop) : Prop :=
  tgD tg x ε0 fun ε2 => tt ε2 (fun b ε3 => IfB b (te ε3 (fun y ε4 => frz y ε4 fun d ε5 => wipeD ε5 vs = ε0 ∧ acc.length < sizeLine ∧ k (acc ++ [d])) EF) (wipeD ε3 vs = ε0 ∧ k acc)) EF
theorem lc_run {α : Type} {tg : Tg} {tt : DT} {te : DE} {vs : List Nat} {ε0 : Sg} {R : List D → Prop} (u : α → D) (f : α → Option D) :
    ∀ (xs : List α) (acc : List D), (∀ x, x ∈ xs → ∀ (acc : List D) (k : List D → Prop), acc.length < sizeLine → k (acc ++ (f x).toList) → lcStep tg tt te vs ε0 (u x) acc k) → acc.length + xs.length ≤ sizeLine →
      R (acc ++ xs.filterMap f) → lcFold tg tt te vs ε0 R (xs.map u) acc
  | [], acc, _, _, h => by
    rw [List.filterMap_nil, List.append_nil] at h
    exact h
  | x :: r, acc, hs, hl, h => by
    rw [List.length_cons] at hl
    refine hs x List.mem_cons_self acc (fun acc' => lcFold tg tt te vs ε0 R (r.map u) acc') (by omega) ?_
    refine lc_run u f r _ (fun y hy => hs y (List.mem_cons_of_mem _ hy)) ?_ ?_
    · rw [List.length_append]
      have : (f x).toList.length ≤ 1 := by cases f x <;> simp
      omega
    · rw [List.append_assoc]
      have : (f x).toList ++ r.filterMap f = (x :: r).filterMap f := by
        cases e : f x with
        | none => simp [List.filterMap_cons, e]
        | some d => simp [List.filterMap_cons, e]
      rw [this]; exact h
theorem lc_list {tg : Tg} {tt : DT} {te : DE} {vs : List Nat} {ε0 : Sg} {R : List D → Prop} (f : D → Option D) (xs : List D) (hs : ∀ x, x ∈ xs → ∀ (acc : List D) (k : List D → Prop), acc.length < sizeLine → k (acc ++ (f x).toList) → lcStep tg tt te vs ε0 x acc k)
    (hl : xs.length ≤ sizeLine) (h : R (xs.filterMap f)) : DLC tg tt te vs ε0 R xs := by
  refine ⟨?_⟩
  have z := lc_run (tg := tg) (tt := tt) (te := te) (vs := vs) (ε0 := ε0) (R := R) id f xs [] hs (by simpa using hl) (by simpa using h)
  rwa [List.map_id] at z
theorem lc_range {tg : Tg} {tt : DT} {te : DE} {vs : List Nat} {ε0 : Sg} {R : List D → Prop} {lo : Int} {n : Nat} (f : Nat → Option D) (hs : ∀ x, x < n → ∀ (acc : List D) (k : List D → Prop), acc.length < sizeLine → k (acc ++ (f x).toList) → lcStep tg tt te vs ε0 (.int (lo + (x : Nat))) acc k)
    (hl : n ≤ sizeLine) (h : R ((List.range n).filterMap f)) : DLC tg tt te vs ε0 R (rangeL lo n) :=
  .mk <| lc_run (fun i : Nat => D.int (lo + (i : Nat))) f (List.range n) [] (fun x hx => hs x (List.mem_range.mp hx)) (by simpa using hl) (by simpa using h)

/-! ### equality -/
theorem deq_ii (x y : Int) : deq (.int x) (.int y) = decide (x = y) := rfl
theorem deq_bb (x y : Bool) : deq (.bl x) (.bl y) = decide (x = y) := rfl
theorem deq_ss (x y : Str) : deq (.str x) (.str y) = decide (x = y) := lock_is _
theorem deq_tt (xs ys : List D) : deq (.tup xs) (.tup ys) = deqs xs ys := rfl
theorem deq_ll (xs ys : List D) : deq (.lst xs) (.lst ys) = deqs xs ys := rfl
theorem deq_lt (xs ys : List D) : deq (.lst xs) (.tup ys) = false := rfl
theorem deq_tl (xs ys : List D) : deq (.tup xs) (.lst ys) = false := rfl
theorem deqs_nn : deqs [] [] = true := rfl
theorem deqs_nc (y : D) (ys : List D) : deqs [] (y :: ys) = false := rfl
theorem deqs_cn (y : D) (ys : List D) : deqs (y :: ys) [] = false := rfl
theorem deqs_cc (x y : D) (xs ys : List D) : deqs (x :: xs) (y :: ys) = (deq x y && deqs xs ys) := rfl
theorem deq_nn : deq .non .non = true := rfl
theorem deqs_ints (xs ys : List Int) : deqs (xs.map .int) (ys.map .int) = decide (xs = ys) := by
  induction xs generalizing ys with
  | nil =>
    cases ys with
    | nil => simp [deqs_nn]
    | cons y ys => simp [deqs_nc]
  | cons x xs ih =>
    cases ys with
    | nil => simp [deqs_cn]
    | cons y ys => simp [deqs_cc, deq_ii, ih, Bool.decide_and]
mutual
theorem deq_rfl : ∀ d : D, deq d d = true
  | .non => deq_nn
  | .bl b => by rw [deq_bb]; simp
  | .int b => by rw [deq_ii]; simp
  | .str b => by rw [deq_ss]; simp
  | .tup xs => by rw [deq_tt]; exact deqs_rfl xs
  | .lst xs => by rw [deq_ll]; exact deqs_rfl xs
  | .frl xs => by
    exact deqs_rfl xs
theorem deqs_rfl : ∀ d : List D, deqs d d = true
  | [] => deqs_nn
  | d :: r => by rw [deqs_cc, deq_rfl d, deqs_rfl r]; rfl
end
theorem doks_ints (n : Nat) (xs : List Int) : doks n (xs.map .int) = true := by
  induction xs with
  | nil => cases n <;> simp [doks]
  | cons x xs ih => cases n <;> simp [doks, dok, ih]
theorem dok_int (n : Nat) (x : Int) : dok n (.int x) = true := by cases n <;> simp [dok]
/-! ### data of some depth, lists not too long -/
mutual
def dsz : Nat → D → Bool
  | _, .str x => PyData.strOk x
  | 0, .tup _ => false
  | 0, .lst _ => false
  | 0, .frl _ => false
  | n + 1, .tup xs => Nat.ble xs.length 16777216 && dszs n xs
  | n + 1, .lst xs => Nat.ble xs.length 16777216 && dszs n xs
  | n + 1, .frl xs => Nat.ble xs.length 16777216 && dszs n xs
  | _, _ => true
def dszs : Nat → List D → Bool
  | _, [] => true
  | n, d :: r => dsz n d && dszs n r
end
theorem dszs_get {n : Nat} : ∀ {xs : List D}, dszs n xs = true → ∀ (k : Nat) (h : k < xs.length), dsz n xs[k] = true
  | [], _, k, h => absurd h (Nat.not_lt_zero _)
  | d :: r, z, 0, h => by
    simp only [dszs, Bool.and_eq_true] at z
    exact z.1
  | d :: r, z, k + 1, h => by
    simp only [dszs, Bool.and_eq_true] at z
    exact dszs_get z.2 k (by simpa using h)
mutual
theorem dsz_dok : ∀ (n : Nat) (d : D), dsz n d = true → ∀ m, n ≤ m → dok m d = true
  | _, .non, _, m, _ => by cases m <;> rfl
  | _, .bl _, _, m, _ => by cases m <;> rfl
  | _, .int _, _, m, _ => by cases m <;> rfl
  | 0, .str x, h, m, _ => by simp only [dsz] at h; cases m <;> simpa only [dok] using h
  | _ + 1, .str x, h, m, _ => by simp only [dsz] at h; cases m <;> simpa only [dok] using h
  | 0, .tup _, h, _, _ => by simp [dsz] at h
  | 0, .lst _, h, _, _ => by simp [dsz] at h
  | 0, .frl _, h, _, _ => by simp [dsz] at h
  | n + 1, .tup xs, h, m, hm => by
    simp only [dsz, Bool.and_eq_true] at h
    cases m with
    | zero => omega
    | succ m => simp only [dok]; exact dszs_doks n xs h.2 m (by omega)
  | n + 1, .lst xs, h, m, hm => by
    simp only [dsz, Bool.and_eq_true] at h
    cases m with
    | zero => omega
    | succ m => simp only [dok]; exact dszs_doks n xs h.2 m (by omega)
  | n + 1, .frl xs, h, m, hm => by
    simp only [dsz, Bool.and_eq_true] at h
    cases m with
    | zero => omega
    | succ m => simp only [dok]; exact dszs_doks n xs h.2 m (by omega)
theorem dszs_doks : ∀ (n : Nat) (d : List D), dszs n d = true → ∀ m, n ≤ m → doks m d = true
  | _, [], _, m, _ => by cases m <;> rfl
  | n, d :: r, h, m, hm => by
    simp only [dszs, Bool.and_eq_true] at h
    simp only [doks, dsz_dok n d h.1 m hm, dszs_doks n r h.2 m hm, Bool.and_self]
end
/-! ### whole division -/
theorem fmod_pos (x : Int) {y : Int} (h : 0 < y) : x.fmod y = x % y := Int.fmod_eq_emod_of_nonneg x (Int.le_of_lt h)
theorem fdiv_pos (x : Int) {y : Int} (h : 0 < y) : x.fdiv y = x / y := Int.fdiv_eq_ediv_of_nonneg x (Int.le_of_lt h)
theorem pow_nn {a : Int} (h : 0 ≤ a) : ∀ n : Nat, 0 ≤ a ^ n
  | 0 => by simp
  | n + 1 => by rw [Int.pow_succ]; exact Int.mul_nonneg (pow_nn h n) h
theorem pow_pos {a : Int} (h : 0 < a) : ∀ n : Nat, 0 < a ^ n
  | 0 => by simp
  | n + 1 => by rw [Int.pow_succ]; exact Int.mul_pos (pow_pos h n) h
theorem pow_mono {a b : Int} (h : 0 ≤ a) (ab : a ≤ b) : ∀ n : Nat, a ^ n ≤ b ^ n
  | 0 => by simp
  | n + 1 => by rw [Int.pow_succ, Int.pow_succ]; exact Int.mul_le_mul (pow_mono h ab n) ab h (pow_nn (Int.le_trans h ab) n)
/-- a base from 2 on grows beyond its exponent -/
theorem pow_big {b : Int} (h : 2 ≤ b) : ∀ k : Nat, (k : Int) + 1 ≤ b ^ k
  | 0 => by simp
  | k + 1 => by
    rw [Int.pow_succ]
    have : b ^ k * 2 ≤ b ^ k * b := Int.mul_le_mul_of_nonneg_left h (pow_nn (by omega) k)
    have := pow_big h k
    omega
theorem pow_ge {b : Int} (h : 1 ≤ b) : ∀ k : Nat, 1 ≤ k → b ≤ b ^ k
  | 0, z => by omega
  | 1, _ => by rw [Int.pow_one]; exact Int.le_refl _
  | k + 2, _ => by
    rw [Int.pow_succ]
    have h1 := pow_ge h (k + 1) (by omega)
    have : b ^ (k + 1) * 1 ≤ b ^ (k + 1) * b := Int.mul_le_mul_of_nonneg_left h (pow_nn (by omega) _)
    omega
theorem gcd_fmod (a b : Int) : Int.gcd b (a.fmod b) = Int.gcd a b := by
  rw [Int.gcd_comm, Int.fmod_def]
  have h : a - b * a.fdiv b = a + (-(a.fdiv b)) * b := by rw [Int.neg_mul, Int.mul_comm (a.fdiv b) b]; omega
  rw [h, Int.gcd_add_mul_right_left]
theorem ediv_le_abs (n j : Int) (hj : 0 < j) : (n / j).natAbs ≤ n.natAbs := by
  by_cases h : n < 0
  · have h1 : n ≤ n / j := Int.le_ediv_of_mul_le hj (by
      have : n * j ≤ n * 1 := Int.mul_le_mul_of_nonpos_left (by omega) (by omega)
      omega)
    have h2 : n / j < 0 := Int.ediv_neg_of_neg_of_pos h hj
    omega
  · have h : 0 ≤ n := by omega
    have h1 : n / j ≤ n := Int.ediv_le_self j h
    have h2 : 0 ≤ n / j := Int.ediv_nonneg h (by omega)
    omega
theorem sz_len {n : Nat} (h : n ≤ 1000) : n ≤ sizeLine := Nat.le_of_lt (small1000 h)
theorem strOk_lit (s : String) : PyData.strOk (PySem.Str.ofString s) = true := by
  rw [PySem.Str.ofString_eq_toList]
  unfold PyData.strOk
  rw [Array.all_eq_true]
  intro i hi
  rw [List.getElem_toArray, List.getElem_map]
  refine decide_eq_true ?_
  have h := (s.toList[i]'(by simpa using hi)).valid
  rcases h with h | h
  · exact Nat.lt_of_lt_of_le h (by decide)
  · exact h.2
theorem dok_str (n : Nat) (s : String) : dok n (.str (PySem.Str.ofString s)) = true := by cases n <;> simp only [dok, strOk_lit]
theorem dsz_str (n : Nat) (s : String) : dsz n (.str (PySem.Str.ofString s)) = true := by cases n <;> simp only [dsz, strOk_lit]
/-! ### sizes -/
theorem log2_le_of_lt {x a : Nat} (h : x < 2 ^ a) : x.log2 ≤ a := by
  by_cases hx : x = 0
  · subst hx; simp
  · exact Nat.le_of_lt ((Nat.log2_lt hx).mpr h)
theorem mulC_of {i j : Int} {a b : Nat} (h : i.natAbs < 2 ^ a) (h' : j.natAbs < 2 ^ b) (ab : a + b < 1000000) : MulC i j := by
  refine .inr ?_
  show i.natAbs.log2 + j.natAbs.log2 < 1000000
  have h1 := log2_le_of_lt h
  have h2 := log2_le_of_lt h'
  omega
theorem mulC_small {i j : Int} (h : i.natAbs < 2 ^ 64) : MulC i j := .inl (.inl (by constructor <;> omega))
theorem mulC_small' {i j : Int} (h : j.natAbs < 2 ^ 64) : MulC i j := .inl (.inr (by constructor <;> omega))
theorem divC_small {j : Int} (h : j ≠ 0) (h' : j.natAbs < 1073741824) : DivC j := ⟨h, .inl h'⟩
theorem divC_pos {j : Int} {a : Nat} (h : 0 < j) (h' : j.natAbs < 2 ^ a) (ha : a < 9000) : DivC j := ⟨by omega, .inr (Nat.lt_of_le_of_lt (log2_le_of_lt h') ha)⟩
theorem divC_big {j : Int} {a : Nat} (h : j ≠ 0) (h' : j.natAbs < 2 ^ a) (ha : a < 9000) : DivC j := ⟨h, .inr (Nat.lt_of_le_of_lt (log2_le_of_lt h') ha)⟩
theorem sz_mul {i j : Int} {a b : Nat} (h : i.natAbs < 2 ^ a) (h' : j.natAbs < 2 ^ b) : (i * j).natAbs < 2 ^ (a + b) := by
  rw [Int.natAbs_mul, Nat.pow_add]
  exact Nat.mul_lt_mul'' h h'
theorem sz_add {i j : Int} {a b : Nat} (h : i.natAbs < 2 ^ a) (h' : j.natAbs < 2 ^ b) : (i + j).natAbs < 2 ^ (max a b + 1) := by
  have h1 : 2 ^ a ≤ 2 ^ max a b := Nat.pow_le_pow_right (by decide) (Nat.le_max_left a b)
  have h2 : 2 ^ b ≤ 2 ^ max a b := Nat.pow_le_pow_right (by decide) (Nat.le_max_right a b)
  rw [Nat.pow_succ]
  omega
theorem sz_mono {i : Int} {a b : Nat} (h : i.natAbs < 2 ^ a) (ab : a ≤ b) : i.natAbs < 2 ^ b := Nat.lt_of_lt_of_le h (Nat.pow_le_pow_right (by decide) ab)
theorem sz_pow {i : Int} {a : Nat} (h : i.natAbs < 2 ^ a) : ∀ n : Nat, (i ^ n).natAbs < 2 ^ (a * n + 1)
  | 0 => by simp
  | n + 1 => by
    rw [Int.pow_succ, Nat.mul_succ]
    have z := sz_mul (sz_pow h n) h
    rwa [show a * n + 1 + a = a * n + a + 1 by omega] at z
end DL

/-! DV2: the numbers of notewhole in plain Lean: fractions, orders, sources of picks. -/
namespace DL
open PySem PySem.Spec PyProof.Rows L2 PySem.NoteX
abbrev erD (C : Addr) (s : String) : Er := ⟨C, ["what"], [.str (PySem.Str.ofString s)]⟩
abbrev sD (s : String) : Vl := .p (.str (PySem.Str.ofString s))
abbrev iD (i : Int) : Vl := .p (.int i)
/-- a source of picks -/
def gs (n : Nd) : Prop := ∃ a b : Int, n = .lst [.int a, .int b] ∧ 0 ≤ a ∧ 0 ≤ b ∧ b < 2147483648
theorem gs_isL {n : Nd} (h : gs n) : n.isL = true := by obtain ⟨a, b, rfl, _⟩ := h; rfl
/-- the divisor with the sign of what is under -/
def cm (n u : Int) : Int := if u < 0 then -(Int.gcd n u : Int) else (Int.gcd n u : Int)
def frD (n u : Int) : D := .tup [.int (n.fdiv (cm n u)), .int (u.fdiv (cm n u))]
def frOk (n u : Int) : Prop := u ≠ 0 ∧ u.natAbs < 1073741824 ∧ n.natAbs < 2 ^ 1000
def sm (n u : Int) : Prop := n.natAbs < 2 ^ 400 ∧ u.natAbs < 32768
/-- e is the least power from 1 on that leaves 1 -/
def ordr (b m : Int) (e : Nat) : Prop := 1 ≤ e ∧ (b ^ e).fmod m = Int.fmod 1 m ∧ ∀ j : Nat, 1 ≤ j → j < e → (b ^ j).fmod m ≠ Int.fmod 1 m
def divs (n : Int) : List D := (List.range n.toNat).filterMap fun i => if n.fmod (1 + (i : Nat)) = 0 then some (.int (1 + (i : Nat))) else none
def same_n (n : Nat) : PCt := fun ds R RE => ∃ d, ds = [d, d] ∧ dsz n d = true ∧ R (.p (.bl true))
theorem sz_fdiv {n j : Int} {a : Nat} (h : n.natAbs < 2 ^ a) (ha : a ≤ 1000 := by decide) : (n.fdiv j).natAbs < 2 ^ 1300 := by
  have h1 : (n.fdiv j).natAbs ≤ n.natAbs + 1 := by
    rcases Int.lt_trichotomy j 0 with hj | hj | hj
    · have e : n.fdiv j = (-n).fdiv (-j) := by rw [Int.neg_fdiv_neg]
      rw [e, fdiv_pos _ (by omega)]
      have h2 := ediv_le_abs (-n) (-j) (by omega)
      omega
    · subst hj; simp
    · rw [fdiv_pos _ hj]
      have h2 := ediv_le_abs n j hj
      omega
  have p1 : (2 : Nat) ^ 1300 = 2 ^ 300 * 2 ^ 1000 := by rw [← Nat.pow_add]
  have p2 : (2 : Nat) ^ a ≤ 2 ^ 1000 := Nat.pow_le_pow_right (by decide) ha
  have p3 : (2 : Nat) ≤ 2 ^ 300 := by decide +kernel
  have p4 : 2 * (2 : Nat) ^ 1000 ≤ 2 ^ 300 * 2 ^ 1000 := Nat.mul_le_mul_right _ p3
  omega
theorem sz_small {i : Int} {a : Nat} (b : Nat) (h : i.natAbs < 2 ^ a) (hab : a ≤ b := by decide) : i.natAbs < 2 ^ b := sz_mono h hab
theorem fr_sz {a d c b : Int} (h1 : sm a b) (h2 : sm c d) : (a * d + c * b).natAbs < 2 ^ 1000 ∧ (a * d - c * b).natAbs < 2 ^ 1000 ∧ (a * c).natAbs < 2 ^ 1000 ∧ (a * d).natAbs < 2 ^ 1000 ∧ (b * d).natAbs < 1073741824 := by
  obtain ⟨h1, h1'⟩ := h1
  obtain ⟨h2, h2'⟩ := h2
  have x1 := sz_mul (b := 15) h1 h2'
  have x2 := sz_mul (b := 15) h2 h1'
  have x3 := sz_mul h1 h2
  have x4 := sz_mul (a := 15) (b := 15) h1' h2'
  have x5 : (-(c * b)).natAbs < 2 ^ (400 + 15) := by rw [Int.natAbs_neg]; exact x2
  refine ⟨sz_mono (sz_add x1 x2) (by decide), sz_mono (sz_add x1 x5) (by decide), sz_mono x3 (by decide), sz_mono x1 (by decide), x4⟩
theorem sm_s {a b : Int} (h : sm a b) : b.natAbs < 2 ^ 64 := by
  have := h.2
  omega
theorem pig : ∀ (m : Nat) (f : Nat → Nat), (∀ i, i ≤ m → f i < m) → ∃ i j, i < j ∧ j ≤ m ∧ f i = f j
  | 0, f, h => absurd (h 0 (Nat.le_refl 0)) (Nat.not_lt_zero _)
  | m + 1, f, h => by
    by_cases hv : ∃ i, i ≤ m ∧ f i = f (m + 1)
    · obtain ⟨i, hi, e⟩ := hv
      exact ⟨i, m + 1, by omega, Nat.le_refl _, e⟩
    · have no : ∀ i, i ≤ m → f i ≠ f (m + 1) := fun i hi e => hv ⟨i, hi, e⟩
      obtain ⟨i, j, hij, hj, e⟩ := pig m (fun i => if f i = m then f (m + 1) else f i) (fun i hi => by
        have h1 := h i (by omega)
        have h2 := h (m + 1) (Nat.le_refl _)
        have h3 := no i hi
        show (if f i = m then f (m + 1) else f i) < m
        split <;> omega)
      refine ⟨i, j, hij, by omega, ?_⟩
      have h3 := no i (by omega)
      have h4 := no j hj
      have e : (if f i = m then f (m + 1) else f i) = (if f j = m then f (m + 1) else f j) := e
      split at e <;> split at e <;> omega
theorem least {P : Nat → Prop} : ∀ n, P n → ∃ k, k ≤ n ∧ P k ∧ ∀ j, j < k → ¬ P j := by
  intro n
  induction n using Nat.strongRecOn with
  | _ n ih =>
    intro h
    by_cases hx : ∃ j, j < n ∧ P j
    · obtain ⟨j, hj, hp⟩ := hx
      obtain ⟨k, h1, h2, h3⟩ := ih j hj hp
      exact ⟨k, by omega, h2, h3⟩
    · exact ⟨n, Nat.le_refl n, h, fun j hj hp => hx ⟨j, hj, hp⟩⟩
theorem cop_pow {b m : Int} (h : Int.gcd b m = 1) (i : Nat) : Int.gcd (b ^ i) m = 1 := by
  have h1 : Nat.Coprime (b.natAbs ^ i) m.natAbs := Nat.Coprime.pow_left i h
  rw [← Int.natAbs_pow] at h1
  exact h1
theorem cop_dvd {a b m : Int} (h : Int.gcd a m = 1) (d : m ∣ a * b) : m ∣ b := by
  have h1 : Nat.Coprime m.natAbs a.natAbs := Nat.Coprime.symm h
  have h2 : m.natAbs ∣ a.natAbs * b.natAbs := by rw [← Int.natAbs_mul]; exact Int.natAbs_dvd_natAbs.mpr d
  exact Int.natAbs_dvd_natAbs.mp (h1.dvd_of_dvd_mul_left h2)
theorem ordr_is {b m : Int} (hm : 1 ≤ m) (h : Int.gcd b m = 1) : ∃ e : Nat, (e : Int) ≤ m ∧ ordr b m e := by
  have ef : ∀ x : Int, x.fmod m = x % m := fun x => fmod_pos x (by omega)
  obtain ⟨i, j, hij, hj, e⟩ := pig m.toNat (fun i => (b ^ i % m).toNat) fun i _ => by
    have h1 := Int.emod_nonneg (b ^ i) (show m ≠ 0 by omega)
    have h2 := Int.emod_lt_of_pos (b ^ i) (show 0 < m by omega)
    show (b ^ i % m).toNat < m.toNat
    omega
  have e : (b ^ i % m).toNat = (b ^ j % m).toNat := e
  have e2 : b ^ i % m = b ^ j % m := by
    have h1 := Int.emod_nonneg (b ^ i) (show m ≠ 0 by omega)
    have h2 := Int.emod_nonneg (b ^ j) (show m ≠ 0 by omega)
    omega
  have d1 : m ∣ b ^ i * (b ^ (j - i) - 1) := by
    have h1 : b ^ i * (b ^ (j - i) - 1) = b ^ j - b ^ i := by
      rw [Int.mul_sub, ← Int.pow_add, Int.mul_one, show i + (j - i) = j by omega]
    rw [h1]
    exact Int.dvd_of_emod_eq_zero (by rw [Int.sub_emod, e2]; simp)
  have d2 : m ∣ b ^ (j - i) - 1 := cop_dvd (cop_pow h i) d1
  have d3 : b ^ (j - i) % m = 1 % m := by
    have := Int.emod_eq_emod_iff_emod_sub_eq_zero.mpr (Int.emod_eq_zero_of_dvd d2)
    exact this
  obtain ⟨k, hk, ⟨k1, k2⟩, k3⟩ := least (P := fun e => 1 ≤ e ∧ b ^ e % m = 1 % m) (j - i) ⟨by omega, d3⟩
  refine ⟨k, by omega, k1, by rw [ef, ef]; exact k2, fun l h1 h2 h3 => ?_⟩
  rw [ef, ef] at h3
  exact k3 l h2 ⟨h1, h3⟩
theorem pow_step {b m : Int} (hm : 1 ≤ m) (e : Nat) : ((b ^ e).fmod m * b).fmod m = (b ^ (e + 1)).fmod m := by
  rw [fmod_pos _ (by omega), fmod_pos _ (by omega), fmod_pos _ (by omega), Int.pow_succ, Int.mul_emod, Int.emod_emod, ← Int.mul_emod]
theorem gs_mk {a b : Int} (h1 : 0 ≤ a) (h2 : 0 ≤ b) (h3 : b < 2147483648) : gs (.lst [.int a, .int b]) := ⟨a, b, rfl, h1, h2, h3⟩
theorem fmod_in (x : Int) {m : Int} (h : 0 < m) : 0 ≤ x.fmod m ∧ x.fmod m < m := ⟨Int.fmod_nonneg_of_pos x h, Int.fmod_lt_of_pos x h⟩
theorem great_step {w p : Int} {k : Nat} (h0 : 0 ≤ w) (h : w < 100000007 ^ k) (p0 : 0 ≤ p) (p1 : p < 100000007) : 0 ≤ w * 100000007 + p ∧ w * 100000007 + p < 100000007 ^ (k + 1) := by
  rw [Int.pow_succ]
  omega
theorem great_bound {w : Int} {k : Nat} (h : w < 100000007 ^ k) (hk : k ≤ 6) : w < 2 ^ 190 := by
  have : ((100000007 : Int) ^ k) ≤ 100000007 ^ 6 := by
    have h1 : (100000007 : Nat) ^ k ≤ 100000007 ^ 6 := Nat.pow_le_pow_right (by decide) hk
    have h2 : ((100000007 ^ k : Nat) : Int) ≤ ((100000007 ^ 6 : Nat) : Int) := Int.ofNat_le.mpr h1
    rw [Int.natCast_pow, Int.natCast_pow] at h2
    exact h2
  have h3 : (100000007 : Int) ^ 6 ≤ 2 ^ 190 := by decide +kernel
  omega
theorem gcd_step {x y : Nat} (hy : 0 < y) : ((x : Int).fmod (y : Int)) = ((x % y : Nat) : Int) := by
  rw [fmod_pos _ (by omega)]
  rfl
theorem gcd_half {x y : Nat} (hy : 0 < y) (h : y ≤ x) : y * (x % y) * 2 ≤ x * y := by
  have h1 := Nat.mod_lt x hy
  have h2 := Nat.div_add_mod x y
  have h3 : 1 ≤ x / y := (Nat.le_div_iff_mul_le hy).mpr (by omega)
  have h4 : y * 1 ≤ y * (x / y) := Nat.mul_le_mul_left _ h3
  have h5 : x % y * 2 ≤ x := by omega
  rw [Nat.mul_assoc, Nat.mul_comm x y]
  exact Nat.mul_le_mul_left _ h5
theorem same_list {n m : Nat} {xs : List D} {k : Nat} (hn : n = m + 1) (hd : dszs m xs = true) {IHc : PCt} (hI : ∀ m ds R RE, n = m + 1 → same_n m ds R RE → IHc ds R RE) (hk : k < xs.length) {R : Vl → Prop} {RE : Er → Prop} (h : R (.p (.bl true))) : IHc [xs[k], xs[k]] R RE :=
  hI m _ R RE hn ⟨xs[k], rfl, dszs_get hd k hk, h⟩
theorem at_nat {xs : List D} {k : Nat} (hk : k < xs.length) : atI xs (0 + (k : Nat)) = some xs[k] := by
  rw [Int.zero_add]
  exact atI_nat (List.getElem?_eq_getElem hk)
theorem cm_abs (n u : Int) : (cm n u).natAbs = Int.gcd n u := by
  unfold cm
  split <;> omega
theorem cm_pos (n u : Int) (h : u ≠ 0) : 0 < Int.gcd n u := Int.gcd_pos_of_ne_zero_right _ h
theorem cm_dvd (n u : Int) : cm n u ∣ n ∧ cm n u ∣ u := by
  have h1 := Int.gcd_dvd_left n u
  have h2 := Int.gcd_dvd_right n u
  unfold cm
  split
  · exact ⟨Int.neg_dvd.mpr h1, Int.neg_dvd.mpr h2⟩
  · exact ⟨h1, h2⟩
theorem fdiv_mul {a b : Int} (h : b ∣ a) : a.fdiv b * b = a := by
  rw [Int.fdiv_eq_ediv_of_dvd h]
  exact Int.ediv_mul_cancel h
theorem fr_le {n u x : Int} (h : u ≠ 0) (hx : cm n u ∣ x) : (x.fdiv (cm n u)).natAbs ≤ x.natAbs := by
  have e := fdiv_mul hx
  have h1 : x.natAbs = (x.fdiv (cm n u)).natAbs * (cm n u).natAbs := by rw [← Int.natAbs_mul, e]
  have h2 := cm_pos n u h
  rw [cm_abs] at h1
  rw [h1]
  exact Nat.le_mul_of_pos_right _ h2
theorem fr_pos {n u : Int} (h : u ≠ 0) : 0 < u.fdiv (cm n u) := by
  have e := fdiv_mul (cm_dvd n u).2
  have h2 := cm_pos n u h
  generalize u.fdiv (cm n u) = q at e
  rcases Int.lt_trichotomy q 0 with hq | hq | hq
  · exfalso
    unfold cm at e
    split at e
    · have : 0 ≤ q * -(Int.gcd n u : Int) := Int.mul_nonneg_of_nonpos_of_nonpos (by omega) (by omega)
      omega
    · have : q * (Int.gcd n u : Int) < 0 := Int.mul_neg_of_neg_of_pos hq (by omega)
      omega
  · subst hq
    omega
  · exact hq
theorem fr_cop {n u : Int} (h : u ≠ 0) : Int.gcd (n.fdiv (cm n u)) (u.fdiv (cm n u)) = 1 := by
  have e1 := fdiv_mul (cm_dvd n u).1
  have e2 := fdiv_mul (cm_dvd n u).2
  have h2 := cm_pos n u h
  have g : Int.gcd n u = Int.gcd (n.fdiv (cm n u)) (u.fdiv (cm n u)) * (cm n u).natAbs := by
    have z := Int.gcd_mul_right (n.fdiv (cm n u)) (cm n u) (u.fdiv (cm n u))
    rw [e1, e2] at z
    exact z
  rw [cm_abs] at g
  exact Nat.eq_of_mul_eq_mul_right h2 (by omega)
theorem frOk_sm {n u : Int} (h : sm n u) (h0 : u ≠ 0) : frOk n u := ⟨h0, Nat.lt_trans h.2 (by decide), Nat.lt_trans h.1 (Nat.pow_lt_pow_right (by decide) (by decide))⟩
theorem sm_fr {n u : Int} (h : sm n u) (h0 : u ≠ 0) : sm (n.fdiv (cm n u)) (u.fdiv (cm n u)) :=
  ⟨Nat.lt_of_le_of_lt (fr_le h0 (cm_dvd n u).1) h.1, Nat.lt_of_le_of_lt (fr_le h0 (cm_dvd n u).2) h.2⟩
theorem divs_ints (n : Int) : ∃ ns : List Int, divs n = ns.map .int := by
  refine ⟨(List.range n.toNat).filterMap fun i => if n.fmod (1 + (i : Nat)) = 0 then some (1 + ((i : Nat) : Int)) else none, ?_⟩
  rw [List.map_filterMap]
  unfold divs
  congr 1
  funext i
  split <;> rfl
theorem divs_ok (n : Int) : dok 60 (.tup (divs n)) = true := by
  obtain ⟨ns, e⟩ := divs_ints n
  rw [e]
  exact doks_ints 59 ns
/-- two orders are one -/
theorem ordr_one {b m : Int} {e e' : Nat} (h : ordr b m e) (h' : ordr b m e') : e = e' := by
  rcases Nat.lt_trichotomy e e' with z | z | z
  · exact absurd h.2.1 (h'.2.2 e h.1 z)
  · exact z
  · exact absurd h'.2.1 (h.2.2 e' h'.1 z)
theorem log_le {b n : Int} {l k : Nat} (hb : 2 ≤ b) (h : b ^ l ≤ n) (hn : n < 2 ^ k) : l < k := by
  have h1 := pow_mono (show (0 : Int) ≤ 2 by decide) hb l
  have h2 : ((2 ^ l : Nat) : Int) < ((2 ^ k : Nat) : Int) := by
    rw [Int.natCast_pow, Int.natCast_pow]
    exact Int.lt_of_le_of_lt (Int.le_trans h1 h) hn
  exact (Nat.pow_lt_pow_iff_right (by decide)).mp (Int.ofNat_lt.mp h2)
end DL

/-! DX5: more things to walk: backwards, by steps, with numbers, in pairs. -/
namespace DL
open PySem PySem.Spec PyProof.Rows L2 RT RZ
/-! ### backwards -/
def diRev (te : DE) : DI := fun ε R E => te ε (fun x ε1 => frz x ε1 fun d ε2 => ∃ xs, sqOf (.p d) = some xs ∧ R xs.reverse ε2) E
section
variable {K : PySem.W.Frag} {W : WX} {B : Bs} {F : Hp}
theorem get_rev {α : Type} {xs : List α} {i : Nat} {d : α} (e : xs.reverse[i]? = some d) : i < xs.length ∧ xs[xs.length - 1 - i]? = some d := by
  have hi : i < xs.length := by
    have := (List.getElem?_eq_some_iff.mp e).1
    rwa [List.length_reverse] at this
  rw [List.getElem?_reverse hi] at e
  exact ⟨hi, e⟩
theorem ok_revL {a : Addr} {xs : List D} {vs : List V} (h : SqL K F a vs) (s : Rps K F xs vs) : IterOk K B F (Itv K a vs.length) xs.reverse := by
  intro F1 H1 σ1 ε1 B1 sf sb r
  have h1 : SqL K H1 a vs := r.fh.seq (sf.seq h)
  refine ⟨fun i d e => ?_, by rw [List.length_reverse, ← s.length]; exact Nat.le_refl _⟩
  obtain ⟨hi, e⟩ := get_rev e
  obtain ⟨v, hv, p⟩ := s.get e
  rw [← s.length] at hi hv
  refine ⟨⟨hi, vs, v, h1, hv⟩, fun x H2 ⟨e1, e2⟩ => ?_⟩
  subst e1
  have e3 := e2 vs h1
  rw [hv] at e3
  cases e3
  exact ⟨F1, Ext.refl _ _, r, p.mono sf, Same.refl _⟩
theorem ok_revT {a : Addr} {xs : List D} {vs : List V} (h : SqT K F a vs) (s : Rps K F xs vs) : IterOk K B F (ItvT K a vs.length) xs.reverse := by
  intro F1 H1 σ1 ε1 B1 sf sb r
  have h1 : SqT K H1 a vs := sqT_mono r.fh (sqT_mono sf h)
  refine ⟨fun i d e => ?_, by rw [List.length_reverse, ← s.length]; exact Nat.le_refl _⟩
  obtain ⟨hi, e⟩ := get_rev e
  obtain ⟨v, hv, p⟩ := s.get e
  rw [← s.length] at hi hv
  refine ⟨⟨hi, vs, v, h1, hv⟩, fun x H2 ⟨e1, e2⟩ => ?_⟩
  subst e1
  have e3 := e2 vs h1
  rw [hv] at e3
  cases e3
  exact ⟨F1, Ext.refl _ _, r, p.mono sf, Same.refl _⟩
/-- a frozen sequence: where it stands -/
theorem sqP_kind {d : D} {v : V} {xs : List D} (h : Rp K F d v) (e : sqOf (.p d) = some xs) : ∃ a vs, v = .ref a ∧ Rps K F xs vs ∧ (SqL K F a vs ∨ SqT K F a vs) := by
  cases d with
  | tup ys => cases e; obtain ⟨a, vs, rfl, q, s⟩ := h; exact ⟨a, vs, rfl, s, .inr q⟩
  | lst ys => cases e; obtain ⟨a, vs, rfl, q, s⟩ := h; exact ⟨a, vs, rfl, s, .inl (SqL.of q)⟩
  | frl ys => cases e; obtain ⟨a, vs, rfl, q, s⟩ := h; exact ⟨a, vs, rfl, s, .inl q⟩
  | _ => cases e
theorem lift_rev {te : DE} {σ : L2.St} {H : Hp} {R : It → Hp → Prop} (h : liftI K W (diRev te) σ H R) : iRevA K (lift K W te) σ H R := by
  obtain ⟨ε, B, F, R', RE, r, t, c, we⟩ := h
  refine ⟨ε, B, F, _, RE, r, t, fun v H1 F1 x ε1 e1 r1 rv q => ?_, we⟩
  obtain ⟨F2, ε2, d, e2, r2, p2, ⟨xs, hx, q⟩, _⟩ := frz_ok r1 rv q
  have e12 := e1.trans e2
  obtain ⟨a, vs, rfl, s, hk⟩ := sqP_kind p2 hx
  refine ⟨a, vs, rfl, ?_⟩
  rcases hk with hk | hk
  · exact .inl ⟨r2.fh.seq hk, c _ H1 F2 _ ε2 e12 r2 (ok_revL hk s) q⟩
  · exact .inr ⟨sqT_mono r2.fh hk, c _ H1 F2 _ ε2 e12 r2 (ok_revT hk s) q⟩
end
theorem di_rev {X : Cx} {W : WX} {tg e : Expr} {te : DE} {p pos : Pos} (hm : X.mg "reversed" = none) (he : PE X e (lift X.K W te)) (hg : Gl X "reversed" := by rfl) (hs : starEach [e] X.env = (false, eval e X.env) :: starEach [] X.env := by rfl) :
    PI X tg (.Call (.Name "reversed" p) [e] [] pos) (liftI X.K W (diRev te)) := PI_imp (pi_revA hg hm he hs) fun _ _ _ => lift_rev
end DL

set_option maxHeartbeats 1000000
/-! DR1: tuple(reversed(a tuple)), list(reversed(a list or a tuple)). -/
namespace RT
open PySem PySem.Spec PyProof.Rows L2
theorem asInt_int (i : Int) (t : Tok) : asInt? (.int i t) = pure (some i) := rfl
theorem nolen_rt : typeLookup (.type "reversed") "__len__" = pure none := by rw [typeLookup_type, builtinLookup_eq_fast]; kernel_rfl
theorem hint_rt : typeLookup (.type "reversed") "__length_hint__" = pure (some (.builtin "reversed.__length_hint__")) := by rw [typeLookup_type, builtinLookup_eq_fast]; kernel_rfl
theorem slot_rt_hint : Slot "reversed" "__length_hint__" "reversed.__length_hint__" :=
  .of (owner := "reversed") (n := "__length_hint__") (by rw [typeLookup_type, builtinLookup_eq_fast]; kernel_rfl) (by decide +kernel) (by decide +kernel) (by decide +kernel)
    (by first | exact .inl (by decide +kernel) | exact .inr (by decide +kernel)) (by rw [isSubtype_type]; kernel_rfl)
theorem entry_rt_hint : entryFor table "reversed.__length_hint__" = some Builtin.«reversed.__length_hint__» := entryFor_of_tree (by kernel_rfl)
theorem args_rt_hint (a : Value) : argsOk "reversed.__length_hint__" ⟨[a], []⟩ := by
  unfold argsOk; rw [signature?_of (id := "reversed.__length_hint__") (n := "__length_hint__".toList.reverse) (o := ['d', 'e', 's', 'r', 'e', 'v', 'e', 'r']) (by kernel_rfl) owner_rt]; kernel_rfl
section
variable {prog : Program} {w : World} {A : Around} {E : Value → Shared → Prop} {s : Shared}
theorem walks_rt (hh : A.handled = none) (I t : Addr) (hne : t ≠ I) (items : Array Value) (hsz : items.size ≤ sizeLine) :
    Walks prog w A I [I, t] [I] items.size (fun i v => items[items.size - 1 - i]? = some v) (fun i h => i ≤ items.size ∧ IsRt h I t ((items.size : Int) - 1 - (i : Int)) ∧ IsTup h t items) where
  sub := fun b hb => by simp at hb; simp [hb]
  frame := fun _ _ _ x hk => ⟨x.1, x.2.1.at fun o e => hk I (by simp) o e, by obtain ⟨o, ho, r⟩ := x.2.2; exact ⟨o, hk t (by simp) o ho, r⟩⟩
  item := fun i s Q E hi x hQ => by
    have e : (items.size : Int) - 1 - (i : Int) = ((items.size - 1 - i : Nat) : Int) := by omega
    have hit := x.2.1
    rw [e] at hit
    have hx : items[items.size - 1 - i]? = some (items[items.size - 1 - i]'(by omega)) := Array.getElem?_eq_getElem (by omega)
    refine next_rt_item hit x.2.2 hx hsz fun h' hit' hs' => ?_
    have e2 : ((items.size - 1 - i : Nat) : Int) - 1 = (items.size : Int) - 1 - ((i + 1 : Nat) : Int) := by omega
    rw [e2] at hit'
    exact hQ _ h' (s.toks + 1) hx ⟨hi, hit', by obtain ⟨o, ho, r⟩ := x.2.2; exact ⟨o, (hs'.2 t hne).trans ho, r⟩⟩ fun b o hb eo => hs'.extBut b o (fun h => hb (by simp [h])) eo
  done := fun s Q E x hQ => by
    have e : (items.size : Int) - 1 - (items.size : Int) = -1 := by omega
    have hit := x.2.1
    rw [e] at hit
    exact next_rt_end hh hit fun h' he' => hQ h' s.toks fun b o hb eo => he' b o (fun h => hb (by simp [h])) eo
  self := fun _ _ _ _ x hQ => iter_rt x.2.1 hQ
theorem hint_meets {it t : Addr} {items : Array Value} {Q : Bool → Shared → Prop} (hit1 : IsRt s.heap it t ((items.size : Int) - 1)) (ht1 : IsTup s.heap t items) (hn : items.size ≤ sizeLine)
    (hQ : ∀ tk, Q ((items.size : Int) != 0) { s with toks := tk }) : wpAny (model prog w) A (Builtin.List.listLengthHint (.ref it)) Q E s := by
  obtain ⟨hp, gn, dr, tk0, os⟩ := s
  have hT : Shared.TypeIs ⟨hp, gn, dr, tk0, os⟩ (.ref it) "reversed" := IsRt.typeIs hit1
  dsimp only at hit1 ht1 hQ
  unfold Builtin.List.listLengthHint
  refine wpAny_bind (wpAny_specialOf hT nolen_rt ?_)
  show wpAny _ _ (specialOf (Value.ref it) (Str.ofString "__length_hint__") >>= _) _ _ _
  refine wpAny_bind (wpAny_specialOf hT hint_rt ?_)
  generalize hid : ("reversed.__length_hint__" : String) = id0
  wp_delta
  rw [show splitId id0 = some ("reversed", "__length_hint__") from by subst hid; decide +kernel]
  subst hid
  refine wpAny_bind (wpAny_isInstance (b := true) hT (by rw [isSubtype_type]; kernel_rfl) ?_)
  rw [if_neg (by decide)]
  show wpAny _ _ (if _ then _ else _) _ _ _
  rw [if_neg (by decide +kernel)]
  refine wpAny_bind (wpAny_rule ?_)
  simp only [slot_rt_hint.bind]
  refine wpAny_bind (wpAny_pure ?_)
  refine wpAny_bind (wpAny_attempt (wpAny_call_entry slot_rt_hint hT entry_rt_hint ?_ (args_rt_hint _)))
  unfold Builtin.«reversed.__length_hint__»
  refine wpAny_bind (wpAny_of_eq (a := Value.ref it) rfl ?_)
  obtain ⟨oi1, hoi1, hci1, hdi1⟩ := id hit1
  refine wpAny_bind (wpAny_field hoi1 hdi1 (x := .ref t) rfl ?_)
  rw [if_neg (by simp)]
  have hn2 : (items.size : Int) < 2 ^ 63 := by have := sizeLine_eq; omega
  refine wpAny_bind (len_tuple  ht1 hn2 ?_)
  refine wpAny_bind (wpAny_pure ?_)
  refine wpAny_bind (wpAny_field hoi1 hdi1 (x := rawInt ((items.size : Int) - 1)) rfl ?_)
  show wpAny _ _ (if (items.size : Int) < (items.size : Int) - 1 + 1 then _ else _) _ _ _
  rw [if_neg (by omega)]
  unfold retInt
  refine wpAny_bind (wpAny_mkInt ?_)
  refine wpAny_pure ⟨_, rfl, ?_⟩
  rw [show (items.size : Int) - 1 + 1 = (items.size : Int) by omega]
  dsimp only
  rw [asInt_int]
  refine wpAny_bind ?_
  refine wpAny_pure ?_
  have f1 : Builtin.List.listFitsIndex (items.size : Int) = true := by
    unfold Builtin.List.listFitsIndex
    simp only [Bool.and_eq_true, decide_eq_true_eq]
    exact ⟨by omega, hn2⟩
  have f2 : Builtin.List.listTooLong (items.size : Int).toNat = false := by
    unfold Builtin.List.listTooLong
    simp only [Int.toNat_natCast, decide_eq_false_iff_not, Nat.not_lt]
    exact hn
  show wpAny _ _ (if (!Builtin.List.listFitsIndex (items.size : Int)) = true then _ else _) _ _ _
  rw [if_neg (by rw [f1]; decide)]
  rw [if_neg (by omega), if_neg (by rw [f2]; decide)]
  exact wpAny_pure (hQ _)
theorem extend_rt {R : Result → Shared → Prop} {it t : Addr} {items : Array Value} (hh : A.handled = none) (hit : IsRt s.heap it t ((items.size : Int) - 1)) (ht : IsTup s.heap t items) (hne : t ≠ it) (hn : items.size ≤ sizeLine)
    (S : Addr) (res : Value) (c₀ : Nat) (hS : s.heap.get? S = some { cls := .type "list", data := .seq #[] c₀ })
    (hR : ∀ (h' : Heap) (tk : Nat) (acc' : Array Value) (c' : Nat), (∀ b o, b ≠ S → b ≠ it → s.heap.get? b = some o → h'.get? b = some o) → h'.get? S = some { cls := .type "list", dict := none, data := .seq acc' c', slots := #[] } →
      ItemsOf (fun i v => items[items.size - 1 - i]? = some v) acc' items.size → R (.ok (.ret res)) { s with heap := h', toks := tk }) :
    wpAny (model prog w) A.in1 (Builtin.List.listExtendWith (.ref S) (.ref it) res)
      (fun fin s' => match fin with | .done f => R (.ok f) s' | .again c' => c'.quiet = true ∧ codeAny (model prog w) A c' R s') (fun e s' => R (.error e) s') s := by
  have W := (walks_rt (prog := prog) (w := w) (A := A.in1) hh it t hne items hn).toS
  obtain ⟨oi, hoi, hoc, hod⟩ := id hit
  obtain ⟨ol, hol, hlc, hld⟩ := id ht
  have hSi : S ≠ it := fun e => by rw [e, hoi] at hS; cases hS; simp at hoc
  have hSl : S ≠ t := fun e => by rw [e, hol] at hS; cases hS; simp at hlc
  have hSf : S ∉ [it, t] := by simp only [List.mem_cons, List.not_mem_nil, or_false, not_or]; exact ⟨hSi, hSl⟩
  have hT : s.TypeIs (.ref it) "reversed" := IsRt.typeIs hit
  have h1 : Builtin.List.listSameRef (.ref S) (.ref it) = false := by simp [Builtin.List.listSameRef, hSi]
  have key : ∀ (h : Heap) (c₁ tk : Nat), (∀ b o, b ≠ S → s.heap.get? b = some o → h.get? b = some o) →
      h.get? S = some { cls := .type "list", data := .seq #[] c₁ } → codeAny (model prog w) A (.builtin "list.extend.loop" ⟨[.ref S, .ref it, res], []⟩) R { s with heap := h, toks := tk } := by
    intro h c₁ tk hk hS₁
    have e0 : ((items.size : Nat) : Int) - 1 - ((0 : Nat) : Int) = (items.size : Int) - 1 := by omega
    refine codeAny_extend_loopS W hn S hSf res items.size 0 _ #[] c₁ rfl (Nat.zero_le _) ⟨Nat.zero_le _, by rw [e0]; exact hit.at fun o e => hk it o (Ne.symm hSi) e, ⟨ol, hk t _ (Ne.symm hSl) hol, hlc, hld⟩⟩ hS₁ (ItemsOf.nil _) fun s' acc' c' hm hS' hacc => ?_
    rw [Moved.eq_with hm]
    refine hR s'.heap s'.toks acc' c' (fun b o hb hb2 e => hm.heap b o (fun hmem => ?_) (hk b o hb e)) hS' hacc
    rcases List.mem_cons.mp hmem with e' | hmem
    · exact hb e'
    · exact hb2 (List.mem_singleton.mp hmem)
  unfold Builtin.List.listExtendWith
  refine wpAny_bind (wpAny_typeOf hT ?_)
  rw [if_neg (by rw [h1]; decide)]
  refine wpAny_bind (iter_rt hit ?_)
  refine wpAny_bind (wpAny_holding ?_)
  refine hint_meets hit ht hn fun tk0 => ?_
  refine wpAny_ite_split (fun _ => ?_) (fun _ => wpAny_pure ⟨plainId_quiet F.plain_extend_loop _, key _ c₀ _ (fun b o _ e => e) hS⟩)
  refine wpAny_bind (wpAny_rule ?_)
  refine wpAny_bind ?_
  show wpAny _ _ (updateSeq S (·.push .none) >>= fun _ => updateSeq S (·.pop)) _ _ _
  refine wpAny_bind (wpAny_updateSeq hS rfl ?_)
  have hS₂ := Heap.get?_update_self (Obj.mapSeq (·.push Value.none)) hS rfl
  refine wpAny_updateSeq (hz := by seq_fits) hS₂ rfl ?_
  have hS₃ := Heap.get?_update_self (Obj.mapSeq (·.pop)) hS₂ rfl
  refine wpAny_pure ⟨plainId_quiet F.plain_extend_loop _, key _ _ _ (fun b o hb e => ?_) hS₃⟩
  exact (Heap.get?_update_other _ _ (Ne.symm hb)).trans ((Heap.get?_update_other _ _ (Ne.symm hb)).trans e)
theorem extend_rl {R : Result → Shared → Prop} {it t : Addr} {items : Array Value} (hh : A.handled = none) (hit : s.heap.IsRevIter it t ((items.size : Int) - 1)) (ht : s.heap.IsList t items) (hne : t ≠ it) (hn : items.size ≤ sizeLine)
    (S : Addr) (res : Value) (c₀ : Nat) (hSl : S ≠ t) (hS : s.heap.get? S = some { cls := .type "list", data := .seq #[] c₀ })
    (hR : ∀ (h' : Heap) (tk : Nat) (acc' : Array Value) (c' : Nat), (∀ b o, b ≠ S → b ≠ it → s.heap.get? b = some o → h'.get? b = some o) → h'.get? S = some { cls := .type "list", dict := none, data := .seq acc' c', slots := #[] } →
      ItemsOf (fun i v => items[items.size - 1 - i]? = some v) acc' items.size → R (.ok (.ret res)) { s with heap := h', toks := tk }) :
    wpAny (model prog w) A.in1 (Builtin.List.listExtendWith (.ref S) (.ref it) res)
      (fun fin s' => match fin with | .done f => R (.ok f) s' | .again c' => c'.quiet = true ∧ codeAny (model prog w) A c' R s') (fun e s' => R (.error e) s') s := by
  have W := (Walks.listRev (prog := prog) (w := w) (A := A.in1) hh it t hne items).toS
  obtain ⟨oi, hoi, hoc, hod⟩ := id hit
  have hSi : S ≠ it := fun e => by rw [e, hoi] at hS; cases hS; simp at hoc
  have hSf : S ∉ [it, t] := by simp only [List.mem_cons, List.not_mem_nil, or_false, not_or]; exact ⟨hSi, hSl⟩
  have hT : s.TypeIs (.ref it) "list_reverseiterator" := Heap.IsRevIter.typeIs hit
  have h1 : Builtin.List.listSameRef (.ref S) (.ref it) = false := by simp [Builtin.List.listSameRef, hSi]
  unfold Builtin.List.listExtendWith
  refine wpAny_bind (wpAny_typeOf hT ?_)
  rw [if_neg (by rw [h1]; decide)]
  refine wpAny_bind (wpAny_pyIter_revIter hit ?_)
  refine wpAny_bind (wpAny_holding ?_)
  unfold Builtin.List.listLengthHint
  refine wpAny_bind (wpAny_specialOf hT nolen_lri ?_)
  show wpAny _ A.in1 (specialOf (Value.ref it) (Str.ofString "__length_hint__") >>= _) _ _ _
  refine wpAny_bind (wpAny_specialOf hT hint_lri ?_)
  generalize hid : ("list_reverseiterator.__length_hint__" : String) = id0
  wp_delta
  rw [show splitId id0 = some ("list_reverseiterator", "__length_hint__") from by subst hid; decide +kernel]
  subst hid
  refine wpAny_bind (wpAny_isInstance (b := true) hT (by rw [isSubtype_type]; kernel_rfl) ?_)
  refine wpAny_pure ?_
  rw [if_neg (by decide)]
  have e0 : ((items.size : Nat) : Int) - 1 - ((0 : Nat) : Int) = (items.size : Int) - 1 := by omega
  refine wpAny_pure ⟨plainId_quiet F.plain_extend_loop _, codeAny_extend_loopS W hn S hSf res items.size 0 _ #[] c₀ rfl (Nat.zero_le _) ⟨Nat.zero_le _, by rw [e0]; exact hit, ht⟩ hS (ItemsOf.nil _) fun s' acc' c' hm hS' hacc => ?_⟩
  rw [Moved.eq_with hm]
  refine hR s'.heap s'.toks acc' c' (fun b o hb hb2 e => hm.heap b o (fun hmem => ?_) e) hS' hacc
  rcases List.mem_cons.mp hmem with e' | hmem
  · exact hb e'
  · exact hb2 (List.mem_singleton.mp hmem)
theorem code_iadd_rt {R : Result → Shared → Prop} {it t : Addr} {items : Array Value} (hh : A.handled = none) (hit : IsRt s.heap it t ((items.size : Int) - 1)) (ht : IsTup s.heap t items) (hne : t ≠ it) (hn : items.size ≤ sizeLine)
    (S : Addr) (c₀ : Nat) (hS : s.heap.get? S = some { cls := .type "list", data := .seq #[] c₀ })
    (hR : ∀ (h' : Heap) (tk : Nat) (acc' : Array Value) (c' : Nat), (∀ b o, b ≠ S → b ≠ it → s.heap.get? b = some o → h'.get? b = some o) → h'.get? S = some { cls := .type "list", dict := none, data := .seq acc' c', slots := #[] } →
      ItemsOf (fun i v => items[items.size - 1 - i]? = some v) acc' items.size → R (.ok (.ret (.ref S))) { s with heap := h', toks := tk }) :
    codeAny (model prog w) A (.builtin "list.__iadd__" ⟨[.ref S, .ref it], []⟩) R s := by
  refine codeAny_builtin F.entry_list_iadd ?_
  rw [Around.under_plainId F.plain_list_iadd _]
  exact extend_rt hh hit ht hne hn S _ c₀ hS hR
theorem collect_rt {it t : Addr} {items : Array Value} {Q : List Value → Shared → Prop} (hh : A.handled = none) (hit : IsRt s.heap it t ((items.size : Int) - 1)) (ht : IsTup s.heap t items) (hne : t ≠ it) (hn : items.size ≤ sizeLine)
    (hQ : ∀ (h' : Heap) (tk : Nat) (acc : Array Value), (∀ b o, b ≠ it → s.heap.get? b = some o → h'.get? b = some o) → ItemsOf (fun i v => items[items.size - 1 - i]? = some v) acc items.size → Q acc.toList { s with heap := h', toks := tk }) :
    wpAny (model prog w) A (collect (.ref it)) Q E s := by
  obtain ⟨oi, hoi, hoc, hod⟩ := id hit
  obtain ⟨ol, hol, hlc, hld⟩ := id ht
  unfold collect
  refine wpAny_bind (wpAny_runValue (codeAny_builtin F.entry_proto_collect ?_))
  rw [Around.under_plainId F.plain_proto_collect _]
  show wpAny _ A.in1 (newList [] >>= fun l' => again (.builtin "list.__iadd__" ⟨[l', .ref it], []⟩)) _ _ s
  refine wpAny_bind (wpAny_newObj_type ?_)
  have hS₁ : (s.heap.push { cls := .type "list", data := .seq ([] : List Value).toArray }).get? s.heap.objs.size = some { cls := .type "list", data := .seq ([] : List Value).toArray } := Heap.get?_push_size _ rfl
  have hit1 : IsRt (s.heap.push { cls := .type "list", data := .seq ([] : List Value).toArray }) it t ((items.size : Int) - 1) := hit.at fun o e => Heap.get?_push_of_some _ e
  have ht1 : IsTup (s.heap.push { cls := .type "list", data := .seq ([] : List Value).toArray }) t items := ⟨ol, Heap.get?_push_of_some _ hol, hlc, hld⟩
  refine wpAny_pure ⟨plainId_quiet F.plain_list_iadd _, code_iadd_rt (s := { s with heap := s.heap.push { cls := .type "list", data := .seq ([] : List Value).toArray } }) hh hit1 ht1 hne hn s.heap.objs.size 0 hS₁ fun h' tk acc c' hk hS' hacc => ?_⟩
  show wpAny _ A (load s.heap.objs.size >>= _) _ _ _
  refine wpAny_bind (wpAny_load hS' ?_)
  refine wpAny_pure ?_
  exact hQ h' tk acc (fun b o hb e => hk b o (Nat.ne_of_lt (Heap.lt_size e)) hb (Heap.get?_push_of_some _ e)) hacc
theorem code_tuple_new_rt {it l : Addr} {items : Array Value} {Q₁ : Value → Shared → Prop} (hh : A.handled = none) (hit : IsRt s.heap it l ((items.size : Int) - 1)) (hl : IsTup s.heap l items) (hne : l ≠ it) (hn : items.size ≤ sizeLine)
    (h : ∀ (h' : Heap) (tk : Nat) (acc : Array Value), (∀ b o, b ≠ it → s.heap.get? b = some o → h'.get? b = some o) → ItemsOf (fun i v => items[items.size - 1 - i]? = some v) acc items.size →
      Q₁ (.ref h'.objs.size) { s with heap := h'.push { cls := .type "tuple", data := .seq acc }, toks := tk }) :
    codeAny (model prog w) A (.call (.builtin "tuple.__new__") ⟨[.type "tuple", .ref it], []⟩) (wants Q₁ E) s := by
  refine codeAny_of_tree ?_
  show wpAny _ A.in1 (do checkBuiltinCall "tuple.__new__" ⟨[.type "tuple", .ref it], []⟩; again (.builtin "tuple.__new__" ⟨[.type "tuple", .ref it], []⟩)) _ _ s
  refine wpAny_bind (wpAny_of_eq (F.newCall_tuple_1 _) (wpAny_pure ⟨plainId_quiet F.plain_tuple_new _, codeAny_builtin F.entry_tuple_new ?_⟩))
  rw [Around.under_plainId F.plain_tuple_new _]
  have hsub := sub_tuple_self
  have hinit := init_tuple_lookup
  have hmh := madeHere_tuple
  have hTI : s.TypeIs (.ref it) "reversed" := hit.typeIs
  have hh1 : A.in1.handled = none := hh
  wp_walk using wpAny_typeOf hTI, collect_rt (A := A.in1) hh1 hit hl hne hn
  intro h' tk acc hk hacc
  show wpAny _ _ (Builtin.Tuple.tupleExact acc.toList.toArray >>= fun v => ret v) _ _ _
  unfold Builtin.Tuple.tupleExact
  refine wpAny_bind (wpAny_newObj_type ?_ (by show acc.toList.toArray.size ≤ sizeLine; simp only [Array.toArray_toList]; rw [hacc.1]; exact hn))
  refine wpAny_pure ?_
  have e : acc.toList.toArray = acc := by simp
  rw [e]
  exact h h' tk acc hk hacc
theorem call_tuple_rt {it l : Addr} {items : Array Value} {Q : Value → Shared → Prop} (hh : A.handled = none) (hit : IsRt s.heap it l ((items.size : Int) - 1)) (hl : IsTup s.heap l items) (hne : l ≠ it) (hn : items.size ≤ sizeLine)
    (hQ : ∀ (h' : Heap) (tk : Nat) (acc : Array Value), (∀ b o, b ≠ it → s.heap.get? b = some o → h'.get? b = some o) → ItemsOf (fun i v => items[items.size - 1 - i]? = some v) acc items.size →
      Q (.ref h'.objs.size) { s with heap := h'.push { cls := .type "tuple", data := .seq acc }, toks := tk }) :
    wpAny (model prog w) A (call (.type "tuple") [.ref it]) Q E s := by
  refine callType_codes (Q₁ := fun obj s₁ => s₁.TypeIs obj "tuple" ∧ Q obj s₁) F.called_tuple (F.typeCall_tuple_1 _) F.entry_object_init
    (code_tuple_new_rt (A := A.in1) hh hit hl hne hn fun h' tk acc hk hacc => ⟨⟨_, Heap.get?_push_size _ rfl, rfl⟩, hQ h' tk acc hk hacc⟩) fun obj s₁ h₁ => ?_
  exact ⟨h₁.1, F.args_object_init_2 obj _, object_init_meets F.called_tuple.init.lookup F.called_tuple.made (by decide) prog w A.in1 _ s₁ ⟨h₁.1, rfl, h₁.2⟩⟩
theorem list_init_x {R : Result → Shared → Prop} {it : Addr} (S : Addr) (hS : s.heap.get? S = some { cls := .type "list", data := .seq #[] })
    (hx : ∀ (c₀ : Nat) (hp : Heap), hp.get? S = some { cls := .type "list", data := .seq #[] c₀ } → (∀ b o, b ≠ S → s.heap.get? b = some o → hp.get? b = some o) →
      wpAny (model prog w) A.in1 (Builtin.List.listExtendWith (.ref S) (.ref it) .none)
        (fun fin s' => match fin with | .done f => R (.ok f) s' | .again c' => c'.quiet = true ∧ codeAny (model prog w) A c' R s') (fun e s' => R (.error e) s') { s with heap := hp }) :
    wpAny (model prog w) A.in1 (Builtin.«list.__init__» ⟨[.ref S, .ref it], []⟩)
      (fun fin s' => match fin with | .done f => R (.ok f) s' | .again c' => c'.quiet = true ∧ codeAny (model prog w) A c' R s') (fun e s' => R (.error e) s') s := by
  show wpAny _ _ (do let old ← Builtin.List.listItems (.ref S); Builtin.List.listUpdate (.ref S) (fun _ => #[]); letGo old.toList.reverse; Builtin.List.listExtendWith (.ref S) (.ref it) .none) _ _ _
  refine wpAny_bind ?_
  unfold Builtin.List.listItems
  refine wpAny_bind (wpAny_seqItems hS rfl (wpAny_pure ?_))
  show wpAny _ _ (updateSeq S (fun _ => #[]) >>= fun _ => letGo (#[] : Array Value).toList.reverse >>= fun _ => Builtin.List.listExtendWith (.ref S) (.ref it) .none) _ _ _
  refine wpAny_bind (wpAny_updateSeq hS rfl ?_)
  have hS₂ := Heap.get?_update_self (Obj.mapSeq (fun _ => (#[] : Array Value))) hS rfl
  refine wpAny_bind (wpAny_letGo ?_)
  exact hx _ _ hS₂ fun b o hb e => (Heap.get?_update_other _ _ (Ne.symm hb)).trans e
theorem call_list_rt {it t : Addr} {items : Array Value} {Q : Value → Shared → Prop} (hh : A.handled = none) (hit : IsRt s.heap it t ((items.size : Int) - 1)) (ht : IsTup s.heap t items) (hne : t ≠ it) (hn : items.size ≤ sizeLine)
    (hQ : ∀ (h' : Heap) (tk : Nat) (acc : Array Value) (c' : Nat), (∀ b o, b ≠ it → s.heap.get? b = some o → h'.get? b = some o) →
      h'.get? s.heap.objs.size = some { cls := .type "list", dict := none, data := .seq acc c', slots := #[] } → ItemsOf (fun i v => items[items.size - 1 - i]? = some v) acc items.size →
      Q (.ref s.heap.objs.size) { s with heap := h', toks := tk }) : wpAny (model prog w) A (call (.type "list") [.ref it]) Q E s := by
  refine callType_codes (Q₁ := fun obj s₁ => obj = .ref s.heap.objs.size ∧ s₁ = { s with heap := s.heap.push { cls := .type "list", data := .seq #[] } }) F.called_list (F.typeCall_list_1 _) F.entry_list_init
    (code_list_new _ ⟨rfl, rfl⟩) fun obj s₁ h₁ => ?_
  obtain ⟨rfl, rfl⟩ := h₁
  have hS : (s.heap.push { cls := .type "list", data := .seq #[] }).get? s.heap.objs.size = some { cls := .type "list", data := .seq #[] } := Heap.get?_push_size _ rfl
  obtain ⟨ol, hol, hlc, hld⟩ := id ht
  obtain ⟨oi, hoi, hoc, hod⟩ := id hit
  refine ⟨⟨_, hS, rfl⟩, F.args_list_init_2 _ _, list_init_x (A := A.in1) _ hS fun c₀ hp hS1 hk => ?_⟩
  have up : ∀ b o, s.heap.get? b = some o → hp.get? b = some o := fun b o e => hk b o (Nat.ne_of_lt (Heap.lt_size e)) (Heap.get?_push_of_some _ e)
  refine extend_rt (A := A.in1) hh (hit.at fun o e => up it o e) ⟨ol, up t _ hol, hlc, hld⟩ hne hn _ .none c₀ hS1 fun h' tk acc' c' hk2 hS' hacc => ?_
  exact ⟨rfl, hQ h' tk acc' c' (fun b o hb e => hk2 b o (Nat.ne_of_lt (Heap.lt_size e)) hb (up b o e)) hS' hacc⟩
theorem call_list_rl {it t : Addr} {items : Array Value} {Q : Value → Shared → Prop} (hh : A.handled = none) (hit : s.heap.IsRevIter it t ((items.size : Int) - 1)) (ht : s.heap.IsList t items) (hne : t ≠ it) (hn : items.size ≤ sizeLine)
    (hQ : ∀ (h' : Heap) (tk : Nat) (acc : Array Value) (c' : Nat), (∀ b o, b ≠ it → s.heap.get? b = some o → h'.get? b = some o) →
      h'.get? s.heap.objs.size = some { cls := .type "list", dict := none, data := .seq acc c', slots := #[] } → ItemsOf (fun i v => items[items.size - 1 - i]? = some v) acc items.size →
      Q (.ref s.heap.objs.size) { s with heap := h', toks := tk }) : wpAny (model prog w) A (call (.type "list") [.ref it]) Q E s := by
  refine callType_codes (Q₁ := fun obj s₁ => obj = .ref s.heap.objs.size ∧ s₁ = { s with heap := s.heap.push { cls := .type "list", data := .seq #[] } }) F.called_list (F.typeCall_list_1 _) F.entry_list_init
    (code_list_new _ ⟨rfl, rfl⟩) fun obj s₁ h₁ => ?_
  obtain ⟨rfl, rfl⟩ := h₁
  have hS : (s.heap.push { cls := .type "list", data := .seq #[] }).get? s.heap.objs.size = some { cls := .type "list", data := .seq #[] } := Heap.get?_push_size _ rfl
  obtain ⟨ol, hol, hlr⟩ := id ht
  obtain ⟨oi, hoi, hoc, hod⟩ := id hit
  refine ⟨⟨_, hS, rfl⟩, F.args_list_init_2 _ _, list_init_x (A := A.in1) _ hS fun c₀ hp hS1 hk => ?_⟩
  have up : ∀ b o, s.heap.get? b = some o → hp.get? b = some o := fun b o e => hk b o (Nat.ne_of_lt (Heap.lt_size e)) (Heap.get?_push_of_some _ e)
  refine extend_rl (A := A.in1) hh (hit.at fun o e => up it o e) ⟨ol, up t _ hol, hlr⟩ hne hn _ .none c₀ (Nat.ne_of_gt (Heap.lt_size hol)) hS1 fun h' tk acc' c' hk2 hS' hacc => ?_
  exact ⟨rfl, hQ h' tk acc' c' (fun b o hb e => hk2 b o (Nat.ne_of_lt (Heap.lt_size e)) hb (up b o e)) hS' hacc⟩
end
/-- tuple(reversed(x)), list(reversed(x)), x a list or a tuple -/
def tTupRevA (K : PySem.W.Frag) (te : TE) : TE := fun σ H Q => te σ H fun v H1 => ∃ (a : Addr) (xs : List V), v = .ref a ∧ (SqL K H1 a xs ∨ SqT K H1 a xs) ∧ ∀ q, H1 q = none → Q (.ref q) (upd H1 q (.tup xs.reverse))
def tLisRevA (K : PySem.W.Frag) (te : TE) : TE := fun σ H Q => te σ H fun v H1 => ∃ (a : Addr) (xs : List V), v = .ref a ∧ (SqL K H1 a xs ∨ SqT K H1 a xs) ∧ ∀ q, H1 q = none → Q (.ref q) (upd H1 q (.lst xs.reverse))
section
variable {X : Cx}
theorem pe_tupRevA {e : Expr} {te : TE} {p p2 pos pos2 : Pos} (hc : X.calm = true) (hg : Gl X "tuple") (hm : X.mg "tuple" = none) (hg2 : Gl X "reversed") (hm2 : X.mg "reversed" = none) (he : PE X e te)
    (hs : starEach [e] X.env = (false, eval e X.env) :: starEach [] X.env := by rfl)
    (hs2 : starEach [.Call (.Name "reversed" p2) [e] [] pos2] X.env = (false, eval (.Call (.Name "reversed" p2) [e] [] pos2) X.env) :: starEach [] X.env := by rfl) :
    PE X (.Call (.Name "tuple" p) [.Call (.Name "reversed" p2) [e] [] pos2] [] pos) (tTupRevA X.K te) := by
  refine ⟨fun pins s σ H Q I h => ?_⟩
  refine Call_ (ld_blt I hg hm boot_tuple (PyProof.Rows.callWith_type1 (args_cons (Call_ (ld_blt I hg2 hm2 PyProof.Rows.boot_reversed (PyProof.Rows.callWith_type1 (args_cons (thn (he.run pins s σ H _ I h) fun u s1 ⟨v, H1, I1, r1, q1⟩ => args_nil ?_) hs) hs rfl))) hs2) hs2 rfl))
  obtain ⟨a, xs, ev, hq, q⟩ := q1
  subst ev
  obtain rfl : u = Value.ref a := r1
  obtain ⟨f0, f1, f2, f3, f4, f5⟩ := I1.fpOk (H' := H1) (b := s1.heap.objs.size) (Nat.le_refl _) (I1.hok.fresh (Nat.le_refl _))
  rcases hq with hq | hq
  · obtain ⟨its, rv, p', hz⟩ := I1.list hq
    refine call_reversed_list p'.isList (args_nil ?_)
    have k0 : ∀ b o, s1.heap.get? b = some o → (s1.heap.push (revObj a ((its.toArray.size : Int) - 1))).get? b = some o := fun b o e => Heap.get?_push_of_some _ e
    have I2 : Inv X pins σ H1 { s1 with heap := s1.heap.push (revObj a ((its.toArray.size : Int) - 1)) } := I1.kept (t' := s1.toks) k0
    have hl := p'.isList
    obtain ⟨ol, hol, _⟩ := id hl
    have hne : a ≠ s1.heap.objs.size := Nat.ne_of_lt (Heap.lt_size hol)
    have hn : its.toArray.size ≤ sizeLine := by rw [List.size_toArray, ← rv.length]; exact hz
    refine call_tuple_rev (s := { s1 with heap := s1.heap.push (revObj a ((its.toArray.size : Int) - 1)) }) (I1.ok.hd hc) ⟨_, Heap.get?_push_size _ rfl, rfl, rfl⟩ (hl.push _) hne hn fun h' tk acc hk hi => ?_
    have I3 : Inv X pins σ H1 { s1 with heap := h', toks := tk } := I2.turned (t' := tk) (fun b o hb e => hk b o hb e) f0 f1 f3 f4 f5
    refine ⟨.ref h'.objs.size, upd H1 h'.objs.size (.tup xs.reverse), I3.laid (t' := tk) (fun c o e => Heap.get?_push_of_some _ e) (Nat.le_refl _) (show ObjOk X.prog X.w _ _ _ (.tup xs.reverse) from ⟨by rw [List.length_reverse]; exact hz, acc.toList, vals_rev rv hi, ?_⟩), rfl, q _ (I3.hok.fresh (Nat.le_refl _))⟩
    rw [Array.toArray_toList]
    exact IsTup.new _ _
  · obtain ⟨its, rv, p', hz⟩ := I1.tuple hq
    have hl := rv.length
    have hn := line63
    have hn2 : its.toArray.size ≤ sizeLine := by rw [List.size_toArray, ← rv.length]; exact hz
    refine call_reversed_tup p' (fun A E Q k => len_tuple p' (by simp only [List.size_toArray] <;> omega) k) (args_nil ?_)
    obtain ⟨ol, hol, hlc, hld⟩ := id p'
    have hne : a ≠ s1.heap.objs.size := Nat.ne_of_lt (Heap.lt_size hol)
    refine call_tuple_rt (items := its.toArray) (I1.ok.hd hc) ⟨_, Heap.get?_push_size _ rfl, rfl, rfl⟩ ⟨ol, Heap.get?_push_of_some _ hol, hlc, hld⟩ hne hn2 fun h' tk acc hk hi => ?_
    have I3 : Inv X pins σ H1 { s1 with heap := h', toks := tk } := I1.turned (t' := tk) (fun b o hb e => hk b o hb (Heap.get?_push_of_some _ e)) f0 f1 f3 f4 f5
    refine ⟨.ref h'.objs.size, upd H1 h'.objs.size (.tup xs.reverse), I3.laid (t' := tk) (fun c o e => Heap.get?_push_of_some _ e) (Nat.le_refl _) (show ObjOk X.prog X.w _ _ _ (.tup xs.reverse) from ⟨by rw [List.length_reverse]; exact hz, acc.toList, vals_rev rv hi, ?_⟩), rfl, q _ (I3.hok.fresh (Nat.le_refl _))⟩
    rw [Array.toArray_toList]
    exact IsTup.new _ _
theorem pe_lisRevA {e : Expr} {te : TE} {p p2 pos pos2 : Pos} (hc : X.calm = true) (hg : Gl X "list") (hm : X.mg "list" = none) (hg2 : Gl X "reversed") (hm2 : X.mg "reversed" = none) (he : PE X e te)
    (hs : starEach [e] X.env = (false, eval e X.env) :: starEach [] X.env := by rfl)
    (hs2 : starEach [.Call (.Name "reversed" p2) [e] [] pos2] X.env = (false, eval (.Call (.Name "reversed" p2) [e] [] pos2) X.env) :: starEach [] X.env := by rfl) :
    PE X (.Call (.Name "list" p) [.Call (.Name "reversed" p2) [e] [] pos2] [] pos) (tLisRevA X.K te) := by
  refine ⟨fun pins s σ H Q I h => ?_⟩
  refine Call_ (ld_blt I hg hm boot_list (PyProof.Rows.callWith_type1 (args_cons (Call_ (ld_blt I hg2 hm2 PyProof.Rows.boot_reversed (PyProof.Rows.callWith_type1 (args_cons (thn (he.run pins s σ H _ I h) fun u s1 ⟨v, H1, I1, r1, q1⟩ => args_nil ?_) hs) hs rfl))) hs2) hs2 rfl))
  obtain ⟨a, xs, ev, hq, q⟩ := q1
  subst ev
  obtain rfl : u = Value.ref a := r1
  obtain ⟨f0, f1, f2, f3, f4, f5⟩ := I1.fpOk (H' := H1) (b := s1.heap.objs.size) (Nat.le_refl _) (I1.hok.fresh (Nat.le_refl _))
  rcases hq with hq | hq
  · obtain ⟨its, rv, p', hz⟩ := I1.list hq
    refine call_reversed_list p'.isList (args_nil ?_)
    have hl := p'.isList
    obtain ⟨ol, hol, _⟩ := id hl
    have hne : a ≠ s1.heap.objs.size := Nat.ne_of_lt (Heap.lt_size hol)
    have hn : its.toArray.size ≤ sizeLine := by rw [List.size_toArray, ← rv.length]; exact hz
    have hz1 : (s1.heap.push (revObj a ((its.toArray.size : Int) - 1))).objs.size = s1.heap.objs.size + 1 := Heap.size_push ..
    have hfr : H1 (s1.heap.objs.size + 1) = none := I1.hok.fresh (Nat.le_add_right _ _)
    refine call_list_rl (s := { s1 with heap := s1.heap.push (revObj a ((its.toArray.size : Int) - 1)) }) (items := its.toArray) (I1.ok.hd hc) ⟨_, Heap.get?_push_size _ rfl, rfl, rfl⟩ (hl.push _) hne hn fun h' tk acc c' hk hS hi => ?_
    dsimp only at hS hk ⊢
    rw [hz1] at hS ⊢
    refine ⟨.ref (s1.heap.objs.size + 1), upd H1 (s1.heap.objs.size + 1) (.lst xs.reverse), I1.laid (t' := tk) (fun b o e => hk b o (Nat.ne_of_lt (Heap.lt_size e)) (Heap.get?_push_of_some _ e)) (Nat.le_add_right _ _) (show ObjOk X.prog X.w _ _ _ (.lst xs.reverse) from ⟨by rw [List.length_reverse]; exact hz, acc.toList, c', vals_rev rv hi, ?_⟩), rfl, q _ hfr⟩
    rw [Array.toArray_toList]; exact hS
  · obtain ⟨its, rv, p', hz⟩ := I1.tuple hq
    have hl := rv.length
    have hn := line63
    have hn2 : its.toArray.size ≤ sizeLine := by rw [List.size_toArray, ← rv.length]; exact hz
    refine call_reversed_tup p' (fun A E Q k => len_tuple p' (by simp only [List.size_toArray] <;> omega) k) (args_nil ?_)
    obtain ⟨ol, hol, hlc, hld⟩ := id p'
    have hne : a ≠ s1.heap.objs.size := Nat.ne_of_lt (Heap.lt_size hol)
    have hfr : H1 (s1.heap.objs.size + 1) = none := I1.hok.fresh (Nat.le_add_right _ _)
    refine call_list_rt (items := its.toArray) (I1.ok.hd hc) ⟨_, Heap.get?_push_size _ rfl, rfl, rfl⟩ ⟨ol, Heap.get?_push_of_some _ hol, hlc, hld⟩ hne hn2 fun h' tk acc c' hk hS hi => ?_
    dsimp only at hS hk ⊢
    rw [Heap.size_push] at hS ⊢
    refine ⟨.ref (s1.heap.objs.size + 1), upd H1 (s1.heap.objs.size + 1) (.lst xs.reverse), I1.laid (t' := tk) (fun b o e => hk b o (Nat.ne_of_lt (Heap.lt_size e)) (Heap.get?_push_of_some _ e)) (Nat.le_add_right _ _) (show ObjOk X.prog X.w _ _ _ (.lst xs.reverse) from ⟨by rw [List.length_reverse]; exact hz, acc.toList, c', vals_rev rv hi, ?_⟩), rfl, q _ hfr⟩
    rw [Array.toArray_toList]; exact hS
end
end RT

set_option maxHeartbeats 1000000
/-! DR2: t[::-1] of a tuple. -/
namespace RT
open PySem PySem.Spec PyProof.Rows L2 HT
section
variable {prog : Program} {w : World} {A : Around} {E : Value → Shared → Prop} {s : Shared}
theorem sliceApplied_rev {sl : Addr} {vl vu vs : Value} {n : Nat} {Q : Int × Int × Nat → Shared → Prop} (hs : s.heap.IsSliceOf sl vl vu vs) (pl : IsPart vl none) (pu : IsPart vu none) (ps : IsPart vs (some (-1)))
    (h : Q ((n : Int) - 1, -1, n) s) : wpAny (model prog w) A (Builtin.Slice.sliceApplied (.ref sl) (pure (n : Int))) Q E s := by
  obtain ⟨os, hos, hcs, hds⟩ := id hs
  unfold Builtin.Slice.sliceApplied Builtin.Slice.sliceFields
  refine wpAny_bind (wpAny_bind (wpAny_field hos hds (x := vl) rfl (wpAny_bind (wpAny_field hos hds (x := vu) rfl (wpAny_bind (wpAny_field hos hds (x := vs) rfl (wpAny_pure ?_)))))))
  refine wpAny_bind (slicePart_ ps ?_)
  show wpAny _ _ (if ((-1 : Int) == 0) = true then _ else _) _ _ s
  rw [if_neg (by decide)]
  refine wpAny_bind (slicePart_ pl (wpAny_bind (slicePart_ pu (wpAny_bind (wpAny_pure ?_)))))
  have e1 : Builtin.Slice.sliceAdjust none none (-1) (n : Int) = ((n : Int) - 1, -1) := by
    simp [Builtin.Slice.sliceAdjust]
  have e2 : Builtin.Slice.slicePlaces ((n : Int) - 1) (-1) (-1) = n := by
    unfold Builtin.Slice.slicePlaces
    rw [if_neg (by decide)]
    by_cases hn : n = 0
    · subst hn; rfl
    · rw [if_pos (by omega)]
      have : ((n : Int) - 1 - -1 - 1) / -(-1) + 1 = (n : Int) := by simp
      rw [this]; rfl
  show wpAny _ _ (match Builtin.Slice.sliceAdjust none none (-1) (n : Int) with | (lo, hi) => pure (lo, (-1 : Int), Builtin.Slice.slicePlaces lo hi (-1))) _ _ s
  rw [e1]
  show wpAny _ _ (pure (((n : Int) - 1), (-1 : Int), Builtin.Slice.slicePlaces ((n : Int) - 1) (-1) (-1))) _ _ s
  rw [e2]
  exact wpAny_pure h
theorem pick_rev (xs : Array Value) : ((List.range xs.size).filterMap fun (m : Nat) => xs[((xs.size : Int) - 1 + (m : Int) * (-1)).toNat]?).toArray = xs.toList.reverse.toArray := by
  congr 1
  have : ∀ (n : Nat), n ≤ xs.size → (List.range n).filterMap (fun (m : Nat) => xs[((xs.size : Int) - 1 + (m : Int) * (-1)).toNat]?) = xs.toList.reverse.take n := by
    intro n
    induction n with
    | zero => intro _; rfl
    | succ n ih =>
      intro hn
      have hlt : xs.size - 1 - n < xs.size := by omega
      have e : ((xs.size : Int) - 1 + (n : Int) * (-1)).toNat = xs.size - 1 - n := by omega
      rw [List.range_succ, List.filterMap_append, ih (by omega)]
      simp only [List.filterMap_cons, List.filterMap_nil, e]
      rw [Array.getElem?_eq_getElem hlt]
      have hl : n < xs.toList.reverse.length := by rw [List.length_reverse, Array.length_toList]; omega
      rw [List.take_succ_eq_append_getElem hl]
      simp [List.getElem_reverse]
  rw [this _ (Nat.le_refl _)]
  rw [List.take_of_length_le (by rw [List.length_reverse, Array.length_toList]; exact Nat.le_refl _)]
theorem getItem_tuple_rev {t sl : Addr} {items : Array Value} {vl vu vs : Value} {Q : Value → Shared → Prop} (ht : IsTup s.heap t items) (hs : s.heap.IsSliceOf sl vl vu vs) (pl : IsPart vl none) (pu : IsPart vu none) (ps : IsPart vs (some (-1)))
    (h : Q (.ref s.heap.objs.size) { s with heap := s.heap.push { cls := .type "tuple", data := .seq items.toList.reverse.toArray } })
    (hsz : items.size ≤ sizeLine) : wpAny (model prog w) A (getItem (.ref t) (.ref sl)) Q E s := by
  have htake : sizeOk (.seq items.toList.reverse.toArray) := by
    show items.toList.reverse.toArray.size ≤ sizeLine
    rw [List.size_toArray, List.length_reverse, Array.length_toList]
    exact hsz
  obtain ⟨os, hos, hcs, hds⟩ := id hs
  have hTs : s.TypeIs (.ref sl) "slice" := ⟨os, hos, hcs⟩
  unfold getItem
  try with_reducible refine wpAny_holding ?_
  first | refine wpAny_bind (wpAny_pure ?_) | skip
  refine wpAny_bind (wpAny_sequenceKey ht.typeIs (by decide) ?_)
  refine wpAny_bind (wpAny_callSpecial?_slot (name := Str.ofString "__getitem__") ht.typeIs PyProof.Rows.slot_tuple_getitem
    (wpAny_call_entry PyProof.Rows.slot_tuple_getitem ht.typeIs entry_tuple_getitem ?_ (args_tuple_getitem _ _)))
  show wpAny _ _ (Builtin.Tuple.tupleItemsOf (.ref t) >>= _) _ _ s
  refine wpAny_bind (tupleItemsOf_ ht ?_)
  refine wpAny_bind (wpAny_typeOf hTs ?_)
  rw [if_pos (by decide)]
  refine wpAny_bind (sliceApplied_rev hs pl pu ps ?_)
  have hno : ¬ ((((items.size : Int) - 1) == 0 && (-1 : Int) == 1 && items.size == items.size) = true) := by simp
  show wpAny _ _ (if (((items.size : Int) - 1) == 0 && (-1 : Int) == 1 && items.size == items.size) = true then _ else _) _ _ s
  rw [if_neg hno, pick_rev]
  first
    | exact wpAny_bind (m := Builtin.Tuple.tupleExact _) (wpAny_newObj_type (wpAny_pure ⟨_, rfl, wpAny_pure h⟩) htake)
    | exact wpAny_bind (m := Builtin.Tuple.tupleExact _) (wpAny_newObj_type (wpAny_bind (wpAny_pure (wpAny_pure ⟨_, rfl, wpAny_pure h⟩))) htake)
    | exact wpAny_bind (wpAny_bind (m := Builtin.Tuple.tupleExact _) (wpAny_newObj_type (wpAny_pure (wpAny_pure ⟨_, rfl, wpAny_pure h⟩)) htake))
    | exact wpAny_bind (wpAny_bind (m := Builtin.Tuple.tupleExact _) (wpAny_newObj_type (wpAny_pure ⟨_, rfl, wpAny_pure h⟩) htake))
end
/-! ### x[::-1], x a list or a tuple -/
def tRevA (K : PySem.W.Frag) (te : TE) : TE := fun σ H Q => te σ H fun x H1 => ∃ a xs, x = .ref a ∧ ((SqL K H1 a xs ∧ ∀ p, H1 p = none → Q (.ref p) (upd H1 p (.lst xs.reverse))) ∨ (SqT K H1 a xs ∧ ∀ p, H1 p = none → Q (.ref p) (upd H1 p (.tup xs.reverse))))
theorem pe_revA {X : Cx} {e : Expr} {te : TE} {k : Nat} {p1 p2 p3 pos : Pos} (he : PE X e te) : PE X (.Subscript e (.Slice none none (some (.UnaryOp .USub (.Constant (.int 1) k p1) p2)) p3) pos) (tRevA X.K te) := by
  refine ⟨fun pins s σ H Q I h => ?_⟩
  refine Subscript_ (thn (he.run pins s σ H _ I h) fun v s1 ⟨x, H1, I1, r1, q1⟩ => ?_)
  obtain ⟨a, xs, ex, q⟩ := q1
  subst ex
  cases r1
  have hst : PO X (some (.UnaryOp .USub (.Constant (.int 1) k p1) p2)) (tPart (tUn (rU fun i => .int (-i)) (tC (.int 1)))) := po_some (pe_un un_neg pe_int)
  refine wpAny_Slice (thn (po_none.run pins s1 σ H1 (fun o H2 => o = none ∧ H2 = H1) I1 ⟨rfl, rfl⟩) fun vl s2 ⟨l, H2, I2, pl, el, e2⟩ => ?_)
  subst el e2
  refine thn (po_none.run pins s2 σ H2 (fun o H3 => o = none ∧ H3 = H2) I2 ⟨rfl, rfl⟩) fun vu s3 ⟨u, H3, I3, pu, eu, e3⟩ => ?_
  subst eu e3
  refine thn (hst.run pins s3 σ H3 (fun o H4 => o = some (-1) ∧ H4 = H3) I3 ⟨1, rfl, -1, rfl, rfl, rfl⟩) fun vs s4 ⟨o, H4, I4, ps, eo, e4⟩ => ?_
  subst eo e4
  have I5 : Inv X pins σ H4 { s4 with heap := s4.heap.push { cls := .type "slice", data := .fields #[vl, vu, vs] } } := I4.kept (t' := s4.toks) fun b ob q => Heap.get?_push_of_some _ q
  rcases q with ⟨hx, q⟩ | ⟨hx, q⟩
  · obtain ⟨its, r, ht, hz⟩ := I5.list hx
    have hlen := r.length
    show wpAny (model X.prog X.w) X.A (subscriptTail e (.Slice none none (some (.UnaryOp .USub (.Constant (.int 1) k p1) p2)) p3) (.ref a) (.ref s4.heap.objs.size)) (EP X pins σ Q) X.xe { s4 with heap := s4.heap.push { cls := .type "slice", data := .fields #[vl, vu, vs] } }
    refine tail_any (ops := [.ref a, .ref s4.heap.objs.size]) ht.isList.typeIs (PySem.slot_list_getitem.lookup) ?_ (by with_unfolding_all rfl)
    refine wpAny_getItem_list_slice ht.isList (Heap.IsSliceOf.new _ vl vu vs) pl pu ps (by decide) ?_ (by rw [List.size_toArray]; omega)
    rw [PySem.W.krv_pick]
    refine ⟨.ref _, _, I5.laid (t' := s4.toks) (o := .lst xs.reverse) (fun b ob q => Heap.get?_push_of_some _ q) (Nat.le_refl _) ?_, rfl, q _ (I5.hok.fresh (Nat.le_refl _))⟩
    exact ⟨by rw [List.length_reverse]; exact hz, _, 0, r.reverse, Heap.get?_push_size _ rfl⟩
  · obtain ⟨its, r, ht, hz⟩ := I5.tuple hx
    have hlen := r.length
    show wpAny (model X.prog X.w) X.A (subscriptTail e (.Slice none none (some (.UnaryOp .USub (.Constant (.int 1) k p1) p2)) p3) (.ref a) (.ref s4.heap.objs.size)) (EP X pins σ Q) X.xe { s4 with heap := s4.heap.push { cls := .type "slice", data := .fields #[vl, vu, vs] } }
    refine tail_any (ops := [.ref a, .ref s4.heap.objs.size]) ht.typeIs (PyProof.Rows.slot_tuple_getitem.lookup) ?_ (by with_unfolding_all rfl)
    refine getItem_tuple_rev ht (Heap.IsSliceOf.new _ vl vu vs) pl pu ps ?_ (by rw [List.size_toArray]; omega)
    refine ⟨.ref _, _, I5.laid (t' := s4.toks) (o := .tup xs.reverse) (fun b ob q => Heap.get?_push_of_some _ q) (Nat.le_refl _) ?_, rfl, q _ (I5.hok.fresh (Nat.le_refl _))⟩
    refine ⟨by rw [List.length_reverse]; exact hz, its.toArray.toList.reverse, r.reverse, IsTup.new _ _⟩
end RT

set_option maxHeartbeats 1000000
/-! DR3: enumerate(x), zip(x, y), zip(x, y, z) over lists, tuples, texts. -/
namespace RT
open PySem PySem.Spec PyProof.Rows L2 HT
theorem valsV {xs : List V} {its : List Value} (rv : Vals xs its) {j : Nat} {u : Value} (h : its[j]? = some u) : ∃ x, xs[j]? = some x ∧ RelV x u := by
  have hl := rv.length
  have hj : j < xs.length := by
    have := (List.getElem?_eq_some_iff.mp h).1
    omega
  obtain ⟨u', hu, r⟩ := rv.get (List.getElem?_eq_getElem hj)
  rw [h] at hu
  cases hu
  exact ⟨_, List.getElem?_eq_getElem hj, r⟩
/-- what is gone through from its first item on -/
structure Src0 (P : Program) (w : World) (K : PySem.W.Frag) where
  xs : List V
  fp : List Addr
  here : Hp → Prop
  tn : Addr → Nat → Heap → Prop
  obj : ∀ it i h, tn it i h → ∃ o, h.get? it = some o ∧ ∀ v, o.data ≠ .cell v
  keep : ∀ it i h h', tn it i h → (∀ o, h.get? it = some o → h'.get? it = some o) → tn it i h'
  draw : ∀ (X : Cx), X.prog = P → X.w = w → X.K = K → ∀ (pins : List (Addr × Obj)) (s : Shared) (σ : L2.St) (H : Hp), Inv X pins σ H s → here H → ∀ (A : Around) (it : Addr) (i : Nat), A.handled = none → it ∉ fp → tn it i s.heap →
    ∃ (Pv : Nat → Value → Prop) (St : Nat → Heap → Prop), Draws P w A it (it :: fp) xs.length Pv St ∧ St i s.heap ∧ (∀ j h, St j h → tn it j h) ∧ (∀ j u, Pv j u → ∃ x, xs[j]? = some x ∧ RelV x u)
structure Src (P : Program) (w : World) (K : PySem.W.Frag) extends Src0 P w K where
  v : V
  start : ∀ (X : Cx), X.prog = P → X.w = w → X.K = K → ∀ (pins : List (Addr × Obj)) (s : Shared) (σ : L2.St) (H : Hp) (u : Value), Inv X pins σ H s → here H → RelV v u →
    ∃ (o : Obj) (Hh : Heap → Prop), Begins u o Hh ∧ Hh s.heap ∧ (∀ it h, h.get? it = some o → tn it 0 h) ∧ ∀ b ∈ fp, b < s.heap.objs.size
def srcT (P : Program) (w : World) (K : PySem.W.Frag) (a : Addr) (xs : List V) : Src P w K where
  v := .ref a
  xs := xs
  fp := [a]
  here H := SqT K H a xs
  tn it i h := h.IsTupleIter it a i
  obj it i h t := by obtain ⟨o, e, _, d⟩ := t; exact ⟨o, e, fun v q => by rw [d] at q; cases q⟩
  keep it i h h' t k := t.at fun o e => k o e
  draw X hP hw hK pins s σ H I hq A it i hh hne t := by
    subst hP hw hK
    obtain ⟨its, rv, p, hz⟩ := I.tuple hq
    have hl : xs.length = its.toArray.size := by rw [List.size_toArray]; exact rv.length
    have hne' : a ≠ it := fun e => hne (by simp [e])
    refine ⟨_, _, hl ▸ Draws.tuple hh it a hne' its.toArray, ⟨t, p⟩, fun j h st => st.1, fun j u pu => ?_⟩
    have pu : its.toArray[j]? = some u := pu
    exact valsV rv (by simpa using pu)
  start X hP hw hK pins s σ H u I hq ru := by
    subst hP hw hK
    obtain ⟨its, rv, p, hz⟩ := I.tuple hq
    obtain rfl : u = Value.ref a := ru
    obtain ⟨o, ho, _⟩ := id p
    exact ⟨_, _, begins_tuple a its.toArray, p, fun it h e => ⟨_, e, rfl, rfl⟩, fun b hb => by rw [List.mem_singleton.mp hb]; exact Heap.lt_size ho⟩
def srcL (P : Program) (w : World) (K : PySem.W.Frag) (a : Addr) (xs : List V) : Src P w K where
  v := .ref a
  xs := xs
  fp := [a]
  here H := SqL K H a xs
  tn it i h := h.IsListIter it a i
  obj it i h t := by obtain ⟨o, e, _, d⟩ := t; exact ⟨o, e, fun v q => by rw [d] at q; cases q⟩
  keep it i h h' t k := t.at fun o e => k o e
  draw X hP hw hK pins s σ H I hq A it i hh hne t := by
    subst hP hw hK
    obtain ⟨its, rv, p, hz⟩ := I.list hq
    have hl : xs.length = its.toArray.size := by rw [List.size_toArray]; exact rv.length
    have hne' : a ≠ it := fun e => hne (by simp [e])
    refine ⟨_, _, hl ▸ Draws.list hh it a hne' its.toArray, ⟨t, p.isList⟩, fun j h st => st.1, fun j u pu => ?_⟩
    have pu : its.toArray[j]? = some u := pu
    exact valsV rv (by simpa using pu)
  start X hP hw hK pins s σ H u I hq ru := by
    subst hP hw hK
    obtain ⟨its, rv, p, hz⟩ := I.list hq
    obtain rfl : u = Value.ref a := ru
    have p2 := p.isList
    obtain ⟨o, ho, _⟩ := id p2
    exact ⟨_, _, begins_list a its.toArray, p2, fun it h e => ⟨_, e, rfl, rfl⟩, fun b hb => by rw [List.mem_singleton.mp hb]; exact Heap.lt_size ho⟩
def srcS (P : Program) (w : World) (K : PySem.W.Frag) (z : Str) : Src P w K where
  v := .str z
  xs := z.cps.toList.map fun c => .str ⟨#[c]⟩
  fp := []
  here H := True
  tn it i h := ∃ t, h.IsStrIter it (strIterType z) z t i
  obj it i h t := by obtain ⟨_, o, e, _, d⟩ := t; exact ⟨o, e, fun v q => by rw [d] at q; cases q⟩
  keep it i h h' t k := by obtain ⟨t, o, q, r⟩ := t; exact ⟨t, o, k o q, r⟩
  draw X hP hw hK pins s σ H I hq A it i hh hne t := by
    subst hP hw hK
    obtain ⟨t, q⟩ := t
    have hl : (z.cps.toList.map fun c => V.str ⟨#[c]⟩).length = z.cps.size := by simp
    refine ⟨_, _, hl ▸ Draws.text hh it z t, q, fun j h st => ⟨t, st⟩, fun j u pu => ?_⟩
    obtain ⟨c, t', hc, rfl⟩ : ∃ c t', z.cps[j]? = some c ∧ u = .str ⟨#[c]⟩ t' := pu
    exact ⟨.str ⟨#[c]⟩, by rw [List.getElem?_map, Array.getElem?_toList, hc]; rfl, ⟨_, rfl⟩⟩
  start X hP hw hK pins s σ H u I hq ru := by
    subst hP hw hK
    obtain ⟨t, rfl⟩ := ru
    exact ⟨_, _, begins_text z t, trivial, fun it h e => ⟨t, _, e, rfl, rfl⟩, fun b hb => by simp at hb⟩

/-! ### enumerate -/
section
variable {P : Program} {w : World} {K : PySem.W.Frag}
def ItE (S : Src0 P w K) : It :=
  ⟨fun i H => i < S.xs.length ∧ S.here H, fun i H v H' => ∃ T x, v = .ref T ∧ H T = none ∧ H' = upd H T (.tup [.int (i : Nat), x]) ∧ S.xs[i]? = some x, fun i H => i = S.xs.length ∧ S.here H⟩
theorem turn_enumS {elts : List Expr} {kk : Nat} {tpos : Pos} (S : Src0 P w K) (e it : Addr) :
    Turn P w K (.Tuple elts kk tpos) (ItE S) [e, it] e (fun i h => (∃ old, IsEnum h e it ((i : Nat) : Int) old) ∧ S.tn it i h ∧ e ≠ it ∧ e ∉ S.fp ∧ it ∉ S.fp) where
  mem := by simp
  obj := fun i h st b hb => by
    obtain ⟨⟨old, he⟩, ht, _⟩ := st
    have e' : b = e ∨ b = it := by simpa using hb
    rcases e' with z | z
    · rw [z]; exact ⟨_, he, fun v q => nomatch q⟩
    · rw [z]; exact S.obj it i h ht
  keep := fun i h h' st k => let ⟨⟨old, he⟩, hi, hne⟩ := st; ⟨⟨old, k e (by simp) _ he⟩, S.keep it i h h' hi fun o q => k it (by simp) o q, hne⟩
  item := by
    intro X hP hw hK hc i pins s σ H E I hf st hg
    subst hP hw hK
    obtain ⟨⟨old, he⟩, hit, hne, hef, hif⟩ := st
    obtain ⟨hin, hhere⟩ := hg
    obtain ⟨Pv, St, D, st0, stn, pv⟩ := S.draw X rfl rfl rfl pins s σ H I hhere X.A.in1 it i (I.ok.hd hc) hif hit
    have hel : e < s.heap.objs.size := Heap.lt_size he
    have hil : it < s.heap.objs.size := by obtain ⟨_, q, _⟩ := S.obj it i _ hit; exact Heap.lt_size q
    have hef2 : e ∉ it :: S.fp := fun hm => (List.mem_cons.mp hm).elim hne hef
    refine wpAny_pyNext_enum_itemC D he st0 hin hne hef2 fun u h' tk hpu ho hst' hT hsz hk => ?_
    obtain ⟨x, hx, ru⟩ := pv i u hpu
    refine ⟨_, rfl, wpAny_letOwnedTupleGo_enum (s := { s with heap := h', toks := tk + 1 }) ho fun h'' he' sb => ?_⟩
    have hT2 : h''.get? s.heap.objs.size = some { cls := .type "tuple", data := .seq #[.int i tk, u] } := (sb.2 _ (Nat.ne_of_gt hel)).trans hT
    have new : ObjOk X.prog X.w (upd H s.heap.objs.size (.tup [.int (i : Nat), x])) h'' s.heap.objs.size (.tup [.int (i : Nat), x]) :=
      ⟨by show 2 ≤ sizeLine; decide, [.int i tk, u], .cons ⟨_, rfl⟩ (.cons ru .nil), ⟨_, hT2, rfl, _, rfl⟩⟩
    have I1 : Inv X pins σ (upd H s.heap.objs.size (.tup [.int (i : Nat), x])) { s with heap := h'', toks := tk + 1 } :=
      I.turnedNew (t' := tk + 1) (ch := [e, it]) (fun b ob hb q => (sb.2 b (fun z => hb (by simp [z]))).trans (hk b ob (fun z => hb (by simp [z])) (fun z => hb (by simp [z])) q)) hf (Nat.le_refl _) new
    refine ⟨.ref s.heap.objs.size, _, I1, rfl, ⟨_, x, rfl, I.hok.fresh (Nat.le_refl _), rfl, hx⟩, ⟨⟨u, ?_⟩, S.keep it _ _ _ (stn _ _ hst') fun o q => (sb.2 it (Ne.symm hne)).trans q, hne, hef, hif⟩, fun b hb => ?_⟩
    · have e1 : ((i + 1 : Nat) : Int) = (i : Int) + 1 := by omega
      rw [e1]; exact he'
    · have hb' : b < s.heap.objs.size := by
        have e' : b = e ∨ b = it := by simpa using hb
        rcases e' with z | z
        · rw [z]; exact hel
        · rw [z]; exact hil
      rw [upd_ne (Nat.ne_of_lt hb')]
      exact (hf b hb).1
  done := by
    intro X hP hw hK hc i pins s σ H E I hf st hg
    subst hP hw hK
    obtain ⟨⟨old, he⟩, hit, hne, hef, hif⟩ := st
    obtain ⟨rfl, hhere⟩ := hg
    obtain ⟨Pv, St, D, st0, stn, pv⟩ := S.draw X rfl rfl rfl pins s σ H I hhere X.A.in1 it _ (I.ok.hd hc) hif hit
    obtain ⟨f0, f1, f2, f3, f4, f5⟩ := hf it (by simp)
    exact wpAny_pyNext_enum_endD D he st0 fun h' eb => ⟨rfl, I.turned (t' := s.toks) (fun b o hb q => eb b o hb q) f0 f1 f3 f4 f5⟩
  self := fun A i s Q E st h => let ⟨⟨_, he⟩, _⟩ := st; wpAny_pyIter_enum he h
end
set_option maxHeartbeats 1000000 in
theorem meets_enumerate_newB1 {v : Value} {o : Obj} {H : Heap → Prop} (B : Begins v o H) :
    Meets (Builtin.«enumerate.__new__» ⟨[.type "enumerate", v], []⟩) (fun _ R s => H s.heap ∧
      R (.ok (.ret (.ref (s.heap.push o).objs.size))) { s with heap := (s.heap.push o).push { cls := .type "enumerate", data := .fields #[.none, .bool false, .ref s.heap.objs.size, rawInt 0, .none, .none] } }) :=
  .of_wp fun prog w A R s h => by
    obtain ⟨hp, g, d, tk, os⟩ := s; obtain ⟨h1, h⟩ := h
    have hsub := sub_enumerate
    have q1 : ∀ {A' : Around} {E : Value → Shared → Prop} {Q : Value → Shared → Prop}, Q (.ref hp.objs.size) ⟨hp.push o, g, d, tk, os⟩ → wpAny (model prog w) A' (pyIter v) Q E ⟨hp, g, d, tk, os⟩ :=
      fun q => B.iter prog w _ _ ⟨hp, g, d, tk, os⟩ _ h1 q
    wp_walk using q1
    refine wpAny_stack_any fun st => wpAny_pure ?_
    split
    · rename_i c _ _ _ _ _
      cases (c == Value.type "enumerate")
      · wp_walk using q1
        exact ⟨_, rfl, h⟩
      · wp_walk using q1
        exact ⟨_, rfl, h⟩
    · wp_walk using q1
      exact ⟨_, rfl, h⟩
theorem enum_begins1 {prog : Program} {w : World} {A : Around} {E : Value → Shared → Prop} {s : Shared} {v : Value} {o : Obj} {H : Heap → Prop} {Q : Value → Shared → Prop} (B : Begins v o H) (h1 : H s.heap)
    (h : ∀ h', IsEnum h' (s.heap.objs.size + 1) s.heap.objs.size 0 .none → h'.get? s.heap.objs.size = some o → h'.objs.size = s.heap.objs.size + 2 →
      (∀ b o, s.heap.get? b = some o → h'.get? b = some o) → Q (.ref (s.heap.objs.size + 1)) { s with heap := h' }) :
    wpAny (model prog w) A (call (.type "enumerate") [v]) Q E s := by
  refine callType_new F.called_enumerate (by decide) (F.typeCall_enumerate_1 _) (F.newCall_enumerate_1 _) (fun obj => F.args_object_init_2 obj _) F.entry_enumerate_new
    (meets_enumerate_newB1 B) ⟨h1, ?_⟩
  have hz : (s.heap.push o).objs.size = s.heap.objs.size + 1 := Heap.size_push ..
  show _ ∧ _
  rw [hz]
  have he : IsEnum ((s.heap.push o).push { cls := .type "enumerate", data := .fields #[.none, .bool false, .ref s.heap.objs.size, rawInt 0, .none, .none] }) (s.heap.objs.size + 1) s.heap.objs.size 0 .none := by
    have := Heap.get?_push_size (s.heap.push o) (o := { cls := .type "enumerate", data := .fields #[.none, .bool false, .ref s.heap.objs.size, rawInt 0, .none, .none] }) rfl
    rw [hz] at this; exact this
  refine ⟨⟨_, he, rfl⟩, h _ he (Heap.get?_push_of_some _ (Heap.get?_push_size _ B.free)) (by rw [Heap.size_push, hz]) fun b o x => Heap.get?_push_of_some _ (Heap.get?_push_of_some _ x)⟩
def iEnumS (P : Program) (w : World) (K : PySem.W.Frag) (ta : TA) : TI := fun σ H R => ta σ H fun vs H1 => ∃ S : Src P w K, vs = [S.v] ∧ S.here H1 ∧ R (ItE S.toSrc0) H1
theorem pi_enumS {X : Cx} {e : Expr} {ta : TA} {p pos tpos : Pos} {elts : List Expr} {kk : Nat} (hg : Gl X "enumerate") (hm : X.mg "enumerate" = none) (ha : PA X [e] ta) (hs : starEach [e] X.env = [(false, eval e X.env)] := by rfl) :
    PI X (.Tuple elts kk tpos) (.Call (.Name "enumerate" p) [e] [] pos) (iEnumS X.prog X.w X.K ta) := by
  refine ⟨fun pins s σ H R I h => ?_⟩
  refine Call_ (ld_blt I hg hm boot_enumerate (PyProof.Rows.callWith_type1 (thn (ha.run pos pins s σ H _ I h) fun us s1 ⟨vs, H1, I1, r1, q1⟩ => ?_) hs rfl))
  obtain ⟨S, ex, hq, q⟩ := q1
  subst ex
  cases r1 with
  | cons r rr =>
    cases rr
    obtain ⟨o, Hh, B, h1, t0, hlt⟩ := S.start X rfl rfl rfl pins s1 σ H1 _ I1 hq r
    refine enum_begins1 B h1 fun h' he hit hsz hk => wpAny_pyIter_enum he ?_
    have I2 : Inv X pins σ H1 { s1 with heap := h' } := I1.kept (t' := s1.toks) hk
    refine ⟨s1.heap.objs.size + 1, [s1.heap.objs.size + 1, s1.heap.objs.size], _, _, H1, rfl, I2, turn_enumS S.toSrc0 (s1.heap.objs.size + 1) s1.heap.objs.size, ⟨⟨.none, he⟩, t0 _ _ hit, Nat.succ_ne_self _, fun hm => ?_, fun hm => ?_⟩, fun b hb => ?_, q⟩
    · have := hlt _ hm; exact absurd this (by show ¬ (s1.heap.objs.size + 1 < s1.heap.objs.size); omega)
    · exact absurd (hlt _ hm) (Nat.lt_irrefl _)
    · have e' : b = s1.heap.objs.size + 1 ∨ b = s1.heap.objs.size := by simpa using hb
      have hle : s1.heap.objs.size ≤ b := by
        rcases e' with z | z
        · rw [z]; exact Nat.le_add_right _ _
        · rw [z]; exact Nat.le_refl _
      exact I1.fpOk hle (I1.hok.fresh hle)
/-! ### zip of two, of three -/
section
variable {P : Program} {w : World} {K : PySem.W.Frag}
def ItZ (S1 S2 : Src0 P w K) : It :=
  ⟨fun i H => i < S1.xs.length ∧ i < S2.xs.length ∧ S1.here H ∧ S2.here H, fun i H v H' => ∃ T x y, v = .ref T ∧ H T = none ∧ H' = upd H T (.tup [x, y]) ∧ S1.xs[i]? = some x ∧ S2.xs[i]? = some y,
   fun i H => i ≤ S1.xs.length ∧ i ≤ S2.xs.length ∧ (i = S1.xs.length ∨ i = S2.xs.length) ∧ S1.here H ∧ S2.here H⟩
theorem turn_zipS {elts : List Expr} {kk : Nat} {tpos : Pos} (S1 S2 : Src0 P w K) {z TI TO i1 i2 : Addr} (D : ZipSep2 z TI TO i1 i2 (i1 :: S1.fp) (i2 :: S2.fp)) (n1 : i1 ∉ S1.fp) (n2 : i2 ∉ S2.fp) :
    Turn P w K (.Tuple elts kk tpos) (ItZ S1 S2) [z, TI, TO, i1, i2] z (fun i h => IsZip h z TI TO .none ∧ IsTupOf2 h TI (.ref i1) (.ref i2) ∧ (∃ x y, IsTupOf2 h TO x y) ∧ S1.tn i1 i h ∧ S2.tn i2 i h) where
  mem := by simp
  obj := fun i h st c hc => by
    obtain ⟨hz, hTI, ⟨x, y, hTO⟩, t1, t2⟩ := st
    have e' : c = z ∨ c = TI ∨ c = TO ∨ c = i1 ∨ c = i2 := by simpa using hc
    rcases e' with q | q | q | q | q
    · rw [q]; exact ⟨_, hz, fun v q => nomatch q⟩
    · rw [q]; exact ⟨_, hTI, fun v q => nomatch q⟩
    · rw [q]; exact ⟨_, hTO, fun v q => nomatch q⟩
    · rw [q]; exact S1.obj _ _ _ t1
    · rw [q]; exact S2.obj _ _ _ t2
  keep := fun i h h' st k => by
    obtain ⟨hz, hTI, ⟨x, y, hTO⟩, h1, h2⟩ := st
    exact ⟨k z (by simp) _ hz, k TI (by simp) _ hTI, ⟨x, y, k TO (by simp) _ hTO⟩, S1.keep _ _ _ _ h1 fun o q => k i1 (by simp) o q, S2.keep _ _ _ _ h2 fun o q => k i2 (by simp) o q⟩
  item := by
    intro X hP hw hK hc i pins s σ H E I hf st hg
    subst hP hw hK
    obtain ⟨hz, hTI, ⟨x0, y0, hTO⟩, h1, h2⟩ := st
    obtain ⟨l1, l2, hh1, hh2⟩ := hg
    obtain ⟨Pv1, St1, D1, st1, stn1, pv1⟩ := S1.draw X rfl rfl rfl pins s σ H I hh1 X.A.in1 i1 i (I.ok.hd hc) n1 h1
    obtain ⟨Pv2, St2, D2, st2, stn2, pv2⟩ := S2.draw X rfl rfl rfl pins s σ H I hh2 X.A.in1 i2 i (I.ok.hd hc) n2 h2
    have hzl : z < s.heap.objs.size := Heap.lt_size hz
    refine wpAny_pyNext_zipD2_item D D1 D2 hz hTI hTO st1 st2 l1 l2 fun u u2 h' tk p1 p2 z' TO' h1' h2' hT hsz hk => ?_
    obtain ⟨x, hx, ru⟩ := pv1 i u p1
    obtain ⟨y, hy, ru2⟩ := pv2 i u2 p2
    refine ⟨_, rfl, wpAny_letOwnedTupleGo_zip (s := { s with heap := h', toks := tk }) z' fun h'' z'' sb => ?_⟩
    have hT2 : h''.get? s.heap.objs.size = some { cls := .type "tuple", data := .seq #[u, u2] } := (sb.2 _ (Nat.ne_of_gt hzl)).trans hT
    have new : ObjOk X.prog X.w (upd H s.heap.objs.size (.tup [x, y])) h'' s.heap.objs.size (.tup [x, y]) :=
      ⟨by show 2 ≤ sizeLine; decide, [u, u2], .cons ru (.cons ru2 .nil), ⟨_, hT2, rfl, _, rfl⟩⟩
    have I1 : Inv X pins σ (upd H s.heap.objs.size (.tup [x, y])) { s with heap := h'', toks := tk } :=
      I.turnedNew (t' := tk) (ch := [z, TI, TO, i1, i2]) (fun c o hb q => (sb.2 c (fun q' => hb (by simp [q']))).trans (hk c o (fun q' => hb (by simp [q'])) (fun q' => hb (by simp [q'])) (fun q' => hb (by simp [q'])) (fun q' => hb (by simp [q'])) q)) hf (Nat.le_refl _) new
    refine ⟨.ref s.heap.objs.size, _, I1, rfl, ⟨_, x, y, rfl, I.hok.fresh (Nat.le_refl _), rfl, hx, hy⟩, ⟨z'', ?_, ⟨u, u2, ?_⟩, ?_, ?_⟩, fun c hcm => ?_⟩
    · exact (sb.2 _ D.TIz).trans (hk _ _ D.TIz D.TITO D.TIi1 D.TIi2 hTI)
    · exact (sb.2 _ D.TOz).trans TO'
    · exact S1.keep _ _ _ _ (stn1 _ _ h1') fun o q => (sb.2 _ (Ne.symm D.zi1)).trans q
    · exact S2.keep _ _ _ _ (stn2 _ _ h2') fun o q => (sb.2 _ (Ne.symm D.zi2)).trans q
    · have hlt : c < s.heap.objs.size := by
        have e' : c = z ∨ c = TI ∨ c = TO ∨ c = i1 ∨ c = i2 := by simpa using hcm
        rcases e' with q | q | q | q | q
        · rw [q]; exact hzl
        · rw [q]; exact Heap.lt_size hTI
        · rw [q]; exact Heap.lt_size hTO
        · rw [q]; obtain ⟨_, e1, _⟩ := S1.obj _ _ _ h1; exact Heap.lt_size e1
        · rw [q]; obtain ⟨_, e2, _⟩ := S2.obj _ _ _ h2; exact Heap.lt_size e2
      rw [upd_ne (Nat.ne_of_lt hlt)]
      exact (hf c hcm).1
  done := by
    intro X hP hw hK hc i pins s σ H E I hf st hg
    subst hP hw hK
    obtain ⟨hz, hTI, ⟨x0, y0, hTO⟩, h1, h2⟩ := st
    obtain ⟨l1, l2, he, hh1, hh2⟩ := hg
    obtain ⟨Pv1, St1, D1, st1, stn1, pv1⟩ := S1.draw X rfl rfl rfl pins s σ H I hh1 X.A.in1 i1 i (I.ok.hd hc) n1 h1
    obtain ⟨Pv2, St2, D2, st2, stn2, pv2⟩ := S2.draw X rfl rfl rfl pins s σ H I hh2 X.A.in1 i2 i (I.ok.hd hc) n2 h2
    exact wpAny_pyNext_zipD2_end D D1 D2 hz hTI hTO st1 st2 l1 l2 he fun h' tk hk => ⟨rfl, I.turnedL (t' := tk) (ch := [z, TI, TO, i1, i2]) (fun c o hb q =>
      hk c o (fun q' => hb (by simp [q'])) (fun q' => hb (by simp [q'])) (fun q' => hb (by simp [q'])) (fun q' => hb (by simp [q'])) q) hf⟩
  self := fun A i s Q E st h => wpAny_pyIter_zip st.1 h
def ItZ3 (S1 S2 S3 : Src0 P w K) : It :=
  ⟨fun i H => i < S1.xs.length ∧ i < S2.xs.length ∧ i < S3.xs.length ∧ S1.here H ∧ S2.here H ∧ S3.here H,
   fun i H v H' => ∃ T x y c, v = .ref T ∧ H T = none ∧ H' = upd H T (.tup [x, y, c]) ∧ S1.xs[i]? = some x ∧ S2.xs[i]? = some y ∧ S3.xs[i]? = some c,
   fun i H => i ≤ S1.xs.length ∧ i ≤ S2.xs.length ∧ i ≤ S3.xs.length ∧ (i = S1.xs.length ∨ i = S2.xs.length ∨ i = S3.xs.length) ∧ S1.here H ∧ S2.here H ∧ S3.here H⟩
theorem turn_zip3S {elts : List Expr} {kk : Nat} {tpos : Pos} (S1 S2 S3 : Src0 P w K) {z TI TO i1 i2 i3 : Addr} (D : ZipSep3 z TI TO i1 i2 i3 (i1 :: S1.fp) (i2 :: S2.fp) (i3 :: S3.fp)) (n1 : i1 ∉ S1.fp) (n2 : i2 ∉ S2.fp) (n3 : i3 ∉ S3.fp) :
    Turn P w K (.Tuple elts kk tpos) (ItZ3 S1 S2 S3) [z, TI, TO, i1, i2, i3] z (fun i h => IsZip h z TI TO .none ∧ IsTupOf3 h TI (.ref i1) (.ref i2) (.ref i3) ∧ (∃ x y c, IsTupOf3 h TO x y c) ∧ S1.tn i1 i h ∧ S2.tn i2 i h ∧ S3.tn i3 i h) where
  mem := by simp
  obj := fun i h st c hc => by
    obtain ⟨hz, hTI, ⟨x, y, c', hTO⟩, t1, t2, t3⟩ := st
    have e' : c = z ∨ c = TI ∨ c = TO ∨ c = i1 ∨ c = i2 ∨ c = i3 := by simpa using hc
    rcases e' with q | q | q | q | q | q
    · rw [q]; exact ⟨_, hz, fun v q => nomatch q⟩
    · rw [q]; exact ⟨_, hTI, fun v q => nomatch q⟩
    · rw [q]; exact ⟨_, hTO, fun v q => nomatch q⟩
    · rw [q]; exact S1.obj _ _ _ t1
    · rw [q]; exact S2.obj _ _ _ t2
    · rw [q]; exact S3.obj _ _ _ t3
  keep := fun i h h' st k => by
    obtain ⟨hz, hTI, ⟨x, y, c, hTO⟩, h1, h2, h3⟩ := st
    exact ⟨k z (by simp) _ hz, k TI (by simp) _ hTI, ⟨x, y, c, k TO (by simp) _ hTO⟩, S1.keep _ _ _ _ h1 fun o q => k i1 (by simp) o q, S2.keep _ _ _ _ h2 fun o q => k i2 (by simp) o q, S3.keep _ _ _ _ h3 fun o q => k i3 (by simp) o q⟩
  item := by
    intro X hP hw hK hc i pins s σ H E I hf st hg
    subst hP hw hK
    obtain ⟨hz, hTI, ⟨x0, y0, c0, hTO⟩, h1, h2, h3⟩ := st
    obtain ⟨l1, l2, l3, hh1, hh2, hh3⟩ := hg
    obtain ⟨Pv1, St1, D1, st1, stn1, pv1⟩ := S1.draw X rfl rfl rfl pins s σ H I hh1 X.A.in1 i1 i (I.ok.hd hc) n1 h1
    obtain ⟨Pv2, St2, D2, st2, stn2, pv2⟩ := S2.draw X rfl rfl rfl pins s σ H I hh2 X.A.in1 i2 i (I.ok.hd hc) n2 h2
    obtain ⟨Pv3, St3, D3, st3, stn3, pv3⟩ := S3.draw X rfl rfl rfl pins s σ H I hh3 X.A.in1 i3 i (I.ok.hd hc) n3 h3
    have hzl : z < s.heap.objs.size := Heap.lt_size hz
    refine wpAny_pyNext_zipD3_item D D1 D2 D3 hz hTI hTO st1 st2 st3 l1 l2 l3 fun u u2 u3 h' tk p1 p2 p3 z' TO' h1' h2' h3' hT hsz hk => ?_
    obtain ⟨x, hx, ru⟩ := pv1 i u p1
    obtain ⟨y, hy, ru2⟩ := pv2 i u2 p2
    obtain ⟨c, hcx, ru3⟩ := pv3 i u3 p3
    refine ⟨_, rfl, wpAny_letOwnedTupleGo_zip (s := { s with heap := h', toks := tk }) z' fun h'' z'' sb => ?_⟩
    have hT2 : h''.get? s.heap.objs.size = some { cls := .type "tuple", data := .seq #[u, u2, u3] } := (sb.2 _ (Nat.ne_of_gt hzl)).trans hT
    have new : ObjOk X.prog X.w (upd H s.heap.objs.size (.tup [x, y, c])) h'' s.heap.objs.size (.tup [x, y, c]) :=
      ⟨by show 3 ≤ sizeLine; decide, [u, u2, u3], .cons ru (.cons ru2 (.cons ru3 .nil)), ⟨_, hT2, rfl, _, rfl⟩⟩
    have I1 : Inv X pins σ (upd H s.heap.objs.size (.tup [x, y, c])) { s with heap := h'', toks := tk } :=
      I.turnedNew (t' := tk) (ch := [z, TI, TO, i1, i2, i3]) (fun c o hb q => (sb.2 c (fun q' => hb (by simp [q']))).trans (hk c o (fun q' => hb (by simp [q'])) (fun q' => hb (by simp [q'])) (fun q' => hb (by simp [q'])) (fun q' => hb (by simp [q'])) (fun q' => hb (by simp [q'])) q)) hf (Nat.le_refl _) new
    refine ⟨.ref s.heap.objs.size, _, I1, rfl, ⟨_, x, y, c, rfl, I.hok.fresh (Nat.le_refl _), rfl, hx, hy, hcx⟩, ⟨z'', ?_, ⟨u, u2, u3, ?_⟩, ?_, ?_, ?_⟩, fun c hcm => ?_⟩
    · exact (sb.2 _ D.TIz).trans (hk _ _ D.TIz D.TITO D.TIi1 D.TIi2 D.TIi3 hTI)
    · exact (sb.2 _ D.TOz).trans TO'
    · exact S1.keep _ _ _ _ (stn1 _ _ h1') fun o q => (sb.2 _ (Ne.symm D.zi1)).trans q
    · exact S2.keep _ _ _ _ (stn2 _ _ h2') fun o q => (sb.2 _ (Ne.symm D.zi2)).trans q
    · exact S3.keep _ _ _ _ (stn3 _ _ h3') fun o q => (sb.2 _ (Ne.symm D.zi3)).trans q
    · have hlt : c < s.heap.objs.size := by
        have e' : c = z ∨ c = TI ∨ c = TO ∨ c = i1 ∨ c = i2 ∨ c = i3 := by simpa using hcm
        rcases e' with q | q | q | q | q | q
        · rw [q]; exact hzl
        · rw [q]; exact Heap.lt_size hTI
        · rw [q]; exact Heap.lt_size hTO
        · rw [q]; obtain ⟨_, e1, _⟩ := S1.obj _ _ _ h1; exact Heap.lt_size e1
        · rw [q]; obtain ⟨_, e2, _⟩ := S2.obj _ _ _ h2; exact Heap.lt_size e2
        · rw [q]; obtain ⟨_, e3, _⟩ := S3.obj _ _ _ h3; exact Heap.lt_size e3
      rw [upd_ne (Nat.ne_of_lt hlt)]
      exact (hf c hcm).1
  done := by
    intro X hP hw hK hc i pins s σ H E I hf st hg
    subst hP hw hK
    obtain ⟨hz, hTI, ⟨x0, y0, c0, hTO⟩, h1, h2, h3⟩ := st
    obtain ⟨l1, l2, l3, he, hh1, hh2, hh3⟩ := hg
    obtain ⟨Pv1, St1, D1, st1, stn1, pv1⟩ := S1.draw X rfl rfl rfl pins s σ H I hh1 X.A.in1 i1 i (I.ok.hd hc) n1 h1
    obtain ⟨Pv2, St2, D2, st2, stn2, pv2⟩ := S2.draw X rfl rfl rfl pins s σ H I hh2 X.A.in1 i2 i (I.ok.hd hc) n2 h2
    obtain ⟨Pv3, St3, D3, st3, stn3, pv3⟩ := S3.draw X rfl rfl rfl pins s σ H I hh3 X.A.in1 i3 i (I.ok.hd hc) n3 h3
    exact wpAny_pyNext_zipD3_end D D1 D2 D3 hz hTI hTO st1 st2 st3 l1 l2 l3 he fun h' tk hk => ⟨rfl, I.turnedL (t' := tk) (ch := [z, TI, TO, i1, i2, i3]) (fun c o hb q =>
      hk c o (fun q' => hb (by simp [q'])) (fun q' => hb (by simp [q'])) (fun q' => hb (by simp [q'])) (fun q' => hb (by simp [q'])) (fun q' => hb (by simp [q'])) q) hf⟩
  self := fun A i s Q E st h => wpAny_pyIter_zip st.1 h
end
def iZipS (P : Program) (w : World) (K : PySem.W.Frag) (ta : TA) : TI := fun σ H R => ta σ H fun vs H1 => ∃ S1 S2 : Src P w K, vs = [S1.v, S2.v] ∧ S1.here H1 ∧ S2.here H1 ∧ R (ItZ S1.toSrc0 S2.toSrc0) H1
def iZip3S (P : Program) (w : World) (K : PySem.W.Frag) (ta : TA) : TI := fun σ H R => ta σ H fun vs H1 => ∃ S1 S2 S3 : Src P w K, vs = [S1.v, S2.v, S3.v] ∧ S1.here H1 ∧ S2.here H1 ∧ S3.here H1 ∧ R (ItZ3 S1.toSrc0 S2.toSrc0 S3.toSrc0) H1
theorem pi_zipS {X : Cx} {e e2 : Expr} {ta : TA} {p pos tpos : Pos} {elts : List Expr} {kk : Nat} (hg : Gl X "zip") (hm : X.mg "zip" = none) (ha : PA X [e, e2] ta)
    (hs : starEach [e, e2] X.env = (false, eval e X.env) :: starEach [e2] X.env := by rfl) (hpl : (backTo pos (starEach [e2] X.env)).any (·.1) = false := by rfl) :
    PI X (.Tuple elts kk tpos) (.Call (.Name "zip" p) [e, e2] [] pos) (iZipS X.prog X.w X.K ta) := by
  refine ⟨fun pins s σ H R I h => ?_⟩
  refine Call_ (ld_blt I hg hm PyProof.Rows.boot_zip (PyProof.Rows.callWith_type1 (thn (ha.run pos pins s σ H _ I h) fun us s1 ⟨vs, H1, I1, r1, q1⟩ => ?_) hs hpl))
  obtain ⟨S1, S2, ex, hq1, hq2, q⟩ := q1
  subst ex
  cases r1 with
  | cons r rr =>
    cases rr with
    | cons r' rr =>
      cases rr
      obtain ⟨o1, Hh1, B1, b1, t1, lt1⟩ := S1.start X rfl rfl rfl pins s1 σ H1 _ I1 hq1 r
      obtain ⟨o2, Hh2, B2, b2, t2, lt2⟩ := S2.start X rfl rfl rfl pins s1 σ H1 _ I1 hq2 r'
      refine zip_begins2 B1 B2 b1 b2 fun h' hz hTI hTO h1 h2 hsz hk => wpAny_pyIter_zip hz ?_
      have I2 : Inv X pins σ H1 { s1 with heap := h' } := I1.kept (t' := s1.toks) hk
      refine ⟨s1.heap.objs.size + 4, [s1.heap.objs.size + 4, s1.heap.objs.size + 2, s1.heap.objs.size + 3, s1.heap.objs.size, s1.heap.objs.size + 1], _, _, H1, rfl, I2, turn_zipS S1.toSrc0 S2.toSrc0 (zip_sep2 lt1 lt2) (fun hm => absurd (lt1 _ hm) (Nat.lt_irrefl _)) (fun hm => absurd (lt2 _ hm) (by show ¬ (s1.heap.objs.size + 1 < s1.heap.objs.size); omega)),
        ⟨hz, hTI, ⟨_, _, hTO⟩, t1 _ _ h1, t2 _ _ h2⟩, fun c hcm => ?_, q⟩
      have e' : c = s1.heap.objs.size + 4 ∨ c = s1.heap.objs.size + 2 ∨ c = s1.heap.objs.size + 3 ∨ c = s1.heap.objs.size ∨ c = s1.heap.objs.size + 1 := by simpa using hcm
      have hle : s1.heap.objs.size ≤ c := by
        rcases e' with z | z | z | z | z <;> rw [z] <;> first | exact Nat.le_add_right _ _ | exact Nat.le_refl _
      exact I1.fpOk hle (I1.hok.fresh hle)
theorem pi_zip3S {X : Cx} {e e2 e3 : Expr} {ta : TA} {p pos tpos : Pos} {elts : List Expr} {kk : Nat} (hg : Gl X "zip") (hm : X.mg "zip" = none) (ha : PA X [e, e2, e3] ta)
    (hs : starEach [e, e2, e3] X.env = (false, eval e X.env) :: starEach [e2, e3] X.env := by rfl) (hpl : (backTo pos (starEach [e2, e3] X.env)).any (·.1) = false := by rfl) :
    PI X (.Tuple elts kk tpos) (.Call (.Name "zip" p) [e, e2, e3] [] pos) (iZip3S X.prog X.w X.K ta) := by
  refine ⟨fun pins s σ H R I h => ?_⟩
  refine Call_ (ld_blt I hg hm PyProof.Rows.boot_zip (PyProof.Rows.callWith_type1 (thn (ha.run pos pins s σ H _ I h) fun us s1 ⟨vs, H1, I1, r1, q1⟩ => ?_) hs hpl))
  obtain ⟨S1, S2, S3, ex, hq1, hq2, hq3, q⟩ := q1
  subst ex
  cases r1 with
  | cons r rr =>
    cases rr with
    | cons r' rr =>
      cases rr with
      | cons r'' rr =>
        cases rr
        obtain ⟨o1, Hh1, B1, b1, t1, lt1⟩ := S1.start X rfl rfl rfl pins s1 σ H1 _ I1 hq1 r
        obtain ⟨o2, Hh2, B2, b2, t2, lt2⟩ := S2.start X rfl rfl rfl pins s1 σ H1 _ I1 hq2 r'
        obtain ⟨o3, Hh3, B3, b3, t3, lt3⟩ := S3.start X rfl rfl rfl pins s1 σ H1 _ I1 hq3 r''
        refine zip_begins3 B1 B2 B3 b1 b2 b3 fun h' hz hTI hTO h1 h2 h3 hsz hk => wpAny_pyIter_zip hz ?_
        have I2 : Inv X pins σ H1 { s1 with heap := h' } := I1.kept (t' := s1.toks) hk
        refine ⟨s1.heap.objs.size + 5, [s1.heap.objs.size + 5, s1.heap.objs.size + 3, s1.heap.objs.size + 4, s1.heap.objs.size, s1.heap.objs.size + 1, s1.heap.objs.size + 2], _, _, H1, rfl, I2,
          turn_zip3S S1.toSrc0 S2.toSrc0 S3.toSrc0 (zip_sep3 lt1 lt2 lt3) (fun hm => absurd (lt1 _ hm) (Nat.lt_irrefl _)) (fun hm => absurd (lt2 _ hm) (by show ¬ (s1.heap.objs.size + 1 < s1.heap.objs.size); omega)) (fun hm => absurd (lt3 _ hm) (by show ¬ (s1.heap.objs.size + 2 < s1.heap.objs.size); omega)),
          ⟨hz, hTI, ⟨_, _, _, hTO⟩, t1 _ _ h1, t2 _ _ h2, t3 _ _ h3⟩, fun c hcm => ?_, q⟩
        have e' : c = s1.heap.objs.size + 5 ∨ c = s1.heap.objs.size + 3 ∨ c = s1.heap.objs.size + 4 ∨ c = s1.heap.objs.size ∨ c = s1.heap.objs.size + 1 ∨ c = s1.heap.objs.size + 2 := by simpa using hcm
        have hle : s1.heap.objs.size ≤ c := by
          rcases e' with z | z | z | z | z | z <;> rw [z] <;> first | exact Nat.le_add_right _ _ | exact Nat.le_refl _
        exact I1.fpOk hle (I1.hok.fresh hle)
end RT

/-! DX6: tuple(reversed(x)), list(reversed(x)), x[::-1], enumerate, zip, range with a step, in, min and max of a list, sorted, join. -/
namespace DL
open PySem PySem.Spec PyProof.Rows L2 RT
section
variable {K : PySem.W.Frag} {W : WX}
theorem lift_1 {q : Vl → (Vl → Prop) → Prop} {te : DE} {r : V → Hp → VK → Prop} {σ : L2.St} {H : Hp} {Q : VK}
    (hq : ∀ (B : Bs) (F H : Hp) (σ : L2.St) (ε : Sg) (x : Vl) (v : V) (Q : VK) (R : Vl → Prop), Rep K B F H σ ε → RVl K B F H σ ε x v → q x R → Fin2 K B F H σ ε R Q → r v H Q)
    (h : lift K W (dUn q te) σ H Q) : lift K W te σ H fun v H1 => r v H1 Q := by
  obtain ⟨ε, B, F, R, RE, rp, t, c, we⟩ := h
  refine ⟨ε, B, F, _, RE, rp, t, fun v H1 F1 x ε1 e1 r1 rv q => ?_, we⟩
  exact hq B F1 H1 σ ε1 x v Q _ r1 rv q fun v' H' F' z e2 r2 rv2 q2 => c v' H' F' z ε1 (e1.trans e2) r2 rv2 q2
def tupRevq : Vl → (Vl → Prop) → Prop := fun x R => ∃ xs, sqOf x = some xs ∧ R (.p (.tup xs.reverse))
def lisRevq : Vl → (Vl → Prop) → Prop := fun x R => ∃ xs, sqOf x = some xs ∧ R (.ow (.lst xs.reverse))
/-- x[::-1] -/
def revSlq : Vl → (Vl → Prop) → Prop := fun x R => match x with
  | .p (.tup xs) => R (.p (.tup xs.reverse))
  | x => ∃ xs, sqOf x = some xs ∧ R (.ow (.lst xs.reverse))
theorem lift_tupRev {te : DE} {σ : L2.St} {H : Hp} {Q : VK} (h : lift K W (dUn tupRevq te) σ H Q) : tTupRevA K (lift K W te) σ H Q := by
  refine lift_1 (r := fun v H1 Q => ∃ (a : Addr) (xs : List V), v = .ref a ∧ (SqL K H1 a xs ∨ SqT K H1 a xs) ∧ ∀ q, H1 q = none → Q (.ref q) (upd H1 q (.tup xs.reverse))) (fun B F H σ ε x v Q R r rv q c => ?_) h
  obtain ⟨xs, e, q⟩ := q
  obtain ⟨a, vs, rfl, hs, rp⟩ := sq_of r rv e
  exact ⟨a, vs, rfl, hs, fun p hp => fin_tup c r hp rp.reverse q⟩
theorem lift_lisRev {te : DE} {σ : L2.St} {H : Hp} {Q : VK} (h : lift K W (dUn lisRevq te) σ H Q) : tLisRevA K (lift K W te) σ H Q := by
  refine lift_1 (r := fun v H1 Q => ∃ (a : Addr) (xs : List V), v = .ref a ∧ (SqL K H1 a xs ∨ SqT K H1 a xs) ∧ ∀ q, H1 q = none → Q (.ref q) (upd H1 q (.lst xs.reverse))) (fun B F H σ ε x v Q R r rv q c => ?_) h
  obtain ⟨xs, e, q⟩ := q
  obtain ⟨a, vs, rfl, hs, rp⟩ := sq_of r rv e
  exact ⟨a, vs, rfl, hs, fun p hp => fin_lst c r hp rp.reverse q⟩
theorem lift_revSl {te : DE} {σ : L2.St} {H : Hp} {Q : VK} (h : lift K W (dUn revSlq te) σ H Q) : tRevA K (lift K W te) σ H Q := by
  refine lift_1 (r := fun x H1 Q => ∃ a xs, x = .ref a ∧ ((SqL K H1 a xs ∧ ∀ p, H1 p = none → Q (.ref p) (upd H1 p (.lst xs.reverse))) ∨ (SqT K H1 a xs ∧ ∀ p, H1 p = none → Q (.ref p) (upd H1 p (.tup xs.reverse))))) (fun B F H σ ε x v Q R r rv q c => ?_) h
  unfold revSlq at q
  split at q
  · obtain ⟨a, ws, rfl, hs, rp⟩ := rv
    exact ⟨a, ws, rfl, .inr ⟨sqT_mono r.fh hs, fun p hp => fin_tup c r hp rp.reverse q⟩⟩
  · rename_i y hy
    obtain ⟨xs, e, q⟩ := q
    rcases sq_kind r rv e with ⟨a, vs, rfl, hs, rp⟩ | e2
    · exact ⟨a, vs, rfl, .inl ⟨hs, fun p hp => fin_lst c r hp rp.reverse q⟩⟩
    · exact absurd e2 (hy _)
end
section
variable {X : Cx} {W : WX} {e : Expr} {te : DE} {p p1 p2 p3 pos pos2 : Pos}
theorem de_tupRev (hc : X.calm = true) (hm : X.mg "tuple" = none) (hm2 : X.mg "reversed" = none) (he : PE X e (lift X.K W te)) (hg : Gl X "tuple" := by rfl) (hg2 : Gl X "reversed" := by rfl)
    (hs : starEach [e] X.env = (false, eval e X.env) :: starEach [] X.env := by rfl)
    (hs2 : starEach [.Call (.Name "reversed" p2) [e] [] pos2] X.env = (false, eval (.Call (.Name "reversed" p2) [e] [] pos2) X.env) :: starEach [] X.env := by rfl) :
    PE X (.Call (.Name "tuple" p) [.Call (.Name "reversed" p2) [e] [] pos2] [] pos) (lift X.K W (dUn tupRevq te)) := PE_imp (pe_tupRevA hc hg hm hg2 hm2 he hs hs2) fun _ _ _ => lift_tupRev
theorem de_lisRev (hc : X.calm = true) (hm : X.mg "list" = none) (hm2 : X.mg "reversed" = none) (he : PE X e (lift X.K W te)) (hg : Gl X "list" := by rfl) (hg2 : Gl X "reversed" := by rfl)
    (hs : starEach [e] X.env = (false, eval e X.env) :: starEach [] X.env := by rfl)
    (hs2 : starEach [.Call (.Name "reversed" p2) [e] [] pos2] X.env = (false, eval (.Call (.Name "reversed" p2) [e] [] pos2) X.env) :: starEach [] X.env := by rfl) :
    PE X (.Call (.Name "list" p) [.Call (.Name "reversed" p2) [e] [] pos2] [] pos) (lift X.K W (dUn lisRevq te)) := PE_imp (pe_lisRevA hc hg hm hg2 hm2 he hs hs2) fun _ _ _ => lift_lisRev
theorem de_revSl {k : Nat} (he : PE X e (lift X.K W te)) : PE X (.Subscript e (.Slice none none (some (.UnaryOp .USub (.Constant (.int 1) k p1) p2)) p3) pos) (lift X.K W (dUn revSlq te)) := PE_imp (pe_revA he) fun _ _ _ => lift_revSl
end

/-! ### enumerate, zip -/
def enumL (xs : List D) : List D := (List.range xs.length).map fun i => .tup [.int (i : Nat), xs.getD i .non]
def zipL (xs ys : List D) : List D := (List.range (min xs.length ys.length)).map fun i => .tup [xs.getD i .non, ys.getD i .non]
def zip3L (xs ys zs : List D) : List D := (List.range (min (min xs.length ys.length) zs.length)).map fun i => .tup [xs.getD i .non, ys.getD i .non, zs.getD i .non]
def diEnum (ta : DA) : DI := fun ε R E => ta ε (fun xs ε1 => frzs xs ε1 fun ds ε2 => match ds with
  | [d] => (match itemsOf d with | some xs => R (enumL xs) ε2 | none => False)
  | _ => False) E
def diZip (ta : DA) : DI := fun ε R E => ta ε (fun xs ε1 => frzs xs ε1 fun ds ε2 => match ds with
  | [d, d2] => (match itemsOf d, itemsOf d2 with | some xs, some ys => R (zipL xs ys) ε2 | _, _ => False)
  | _ => False) E
def diZip3 (ta : DA) : DI := fun ε R E => ta ε (fun xs ε1 => frzs xs ε1 fun ds ε2 => match ds with
  | [d, d2, d3] => (match itemsOf d, itemsOf d2, itemsOf d3 with | some xs, some ys, some zs => R (zip3L xs ys zs) ε2 | _, _, _ => False)
  | _ => False) E
theorem get_map {β : Type} {n : Nat} {f : Nat → β} {i : Nat} {d : β} (e : ((List.range n).map f)[i]? = some d) : i < n ∧ f i = d := by
  rw [List.getElem?_map] at e
  by_cases hi : i < n
  · rw [List.getElem?_range hi] at e
    exact ⟨hi, Option.some.inj e⟩
  · rw [List.getElem?_eq_none (by rw [List.length_range]; omega)] at e
    cases e
section
variable {K : PySem.W.Frag} {W : WX} {B : Bs} {F : Hp} {P : Program} {w : World}
/-- a source stands for items -/
def SrcOk (K : PySem.W.Frag) (F : Hp) (S : Src0 P w K) (xs : List D) : Prop := (∀ F1, Same F F1 → S.here F1) ∧ Rps K F xs S.xs
theorem Rps.ofSigns : ∀ (cs : List Nat), Rps K F (cs.map fun c => D.str ⟨#[c]⟩) (cs.map fun c => V.str ⟨#[c]⟩)
  | [] => rfl
  | _ :: r => ⟨_, _, rfl, rfl, Rps.ofSigns r⟩
theorem src_of {d : D} {v : V} {xs : List D} (h : Rp K F d v) (e : itemsOf d = some xs) : ∃ S : Src P w K, v = S.v ∧ SrcOk K F S.toSrc0 xs := by
  cases d with
  | tup ys => cases e; obtain ⟨a, vs, rfl, q, s⟩ := h; exact ⟨srcT P w K a vs, rfl, fun F1 z => sqT_mono z q, s⟩
  | lst ys => cases e; obtain ⟨a, vs, rfl, q, s⟩ := h; exact ⟨srcL P w K a vs, rfl, fun F1 z => SqL.of (z _ _ q), s⟩
  | frl ys => cases e; obtain ⟨a, vs, rfl, q, s⟩ := h; exact ⟨srcL P w K a vs, rfl, fun F1 z => z.seq q, s⟩
  | str z => cases e; cases h; exact ⟨srcS P w K z, rfl, fun _ _ => trivial, Rps.ofSigns _⟩
  | _ => cases e
theorem SrcOk.mono {F' : Hp} {S : Src0 P w K} {xs : List D} (s : Same F F') (h : SrcOk K F S xs) : SrcOk K F' S xs := ⟨fun F1 z => h.1 F1 fun b u q => z b u (s b u q), h.2.mono s⟩
theorem getD_of {xs : List D} {i : Nat} (h : i < xs.length) : xs[i]? = some (xs.getD i .non) := by
  rw [List.getD_eq_getElem?_getD, List.getElem?_eq_getElem h]; rfl
theorem ok_enum {S : Src0 P w K} {xs : List D} (h : SrcOk K F S xs) : IterOk K B F (ItE S) (enumL xs) := by
  intro F1 H1 σ1 ε1 B1 sf sb r
  have hl : (enumL xs).length = xs.length := by simp [enumL]
  have hx := h.2.length
  have here : S.here H1 := h.1 H1 fun b u q => r.fh b u (sf b u q)
  refine ⟨fun i d e => ?_, by rw [hl]; exact ⟨hx.symm, here⟩⟩
  obtain ⟨hi, e⟩ := get_map e
  refine ⟨⟨by rw [hx]; exact hi, here⟩, fun x H2 y => ?_⟩
  obtain ⟨T, u, rfl, hT, rfl, hu⟩ := y
  obtain ⟨u', hu', p⟩ := h.2.get (getD_of hi)
  rw [hu] at hu'
  cases hu'
  have hF : F1 T = none := same_none r.fh hT
  have sF : Same F1 (upd F1 T (.tup [.int (i : Nat), u])) := fun b o q => by rw [upd_ne (ne_of_none q hF)]; exact q
  refine ⟨_, Ext.lay hF (same_none r.bh hT), r.freeze hT, ?_, fun b o q => by rw [upd_ne (ne_of_none q hT)]; exact q⟩
  subst e
  exact ⟨T, _, rfl, .inl (Rd.of upd_same), ⟨_, _, rfl, rfl, ⟨_, _, rfl, (p.mono sf).mono sF, rfl⟩⟩⟩
theorem ok_zip {S1 S2 : Src0 P w K} {xs ys : List D} (h1 : SrcOk K F S1 xs) (h2 : SrcOk K F S2 ys) : IterOk K B F (ItZ S1 S2) (zipL xs ys) := by
  intro F1 H1 σ1 ε1 B1 sf sb r
  have hl : (zipL xs ys).length = min xs.length ys.length := by simp [zipL]
  have hx := h1.2.length
  have hy := h2.2.length
  have here1 : S1.here H1 := h1.1 H1 fun b u q => r.fh b u (sf b u q)
  have here2 : S2.here H1 := h2.1 H1 fun b u q => r.fh b u (sf b u q)
  refine ⟨fun i d e => ?_, by rw [hl]; exact ⟨by omega, by omega, by omega, here1, here2⟩⟩
  obtain ⟨hi, e⟩ := get_map e
  have hi1 : i < xs.length := by omega
  have hi2 : i < ys.length := by omega
  refine ⟨⟨by omega, by omega, here1, here2⟩, fun x H2 y => ?_⟩
  obtain ⟨T, u, u2, rfl, hT, rfl, hu, hu2⟩ := y
  obtain ⟨u', hu', p⟩ := h1.2.get (getD_of hi1)
  rw [hu] at hu'
  cases hu'
  obtain ⟨u', hu', p2⟩ := h2.2.get (getD_of hi2)
  rw [hu2] at hu'
  cases hu'
  have hF : F1 T = none := same_none r.fh hT
  have sF : Same F1 (upd F1 T (.tup [u, u2])) := fun b o q => by rw [upd_ne (ne_of_none q hF)]; exact q
  refine ⟨_, Ext.lay hF (same_none r.bh hT), r.freeze hT, ?_, fun b o q => by rw [upd_ne (ne_of_none q hT)]; exact q⟩
  subst e
  exact ⟨T, _, rfl, .inl (Rd.of upd_same), ⟨_, _, rfl, (p.mono sf).mono sF, ⟨_, _, rfl, (p2.mono sf).mono sF, rfl⟩⟩⟩
theorem ok_zip3 {S1 S2 S3 : Src0 P w K} {xs ys zs : List D} (h1 : SrcOk K F S1 xs) (h2 : SrcOk K F S2 ys) (h3 : SrcOk K F S3 zs) : IterOk K B F (ItZ3 S1 S2 S3) (zip3L xs ys zs) := by
  intro F1 H1 σ1 ε1 B1 sf sb r
  have hl : (zip3L xs ys zs).length = min (min xs.length ys.length) zs.length := by simp [zip3L]
  have hx := h1.2.length
  have hy := h2.2.length
  have hz := h3.2.length
  have here1 : S1.here H1 := h1.1 H1 fun b u q => r.fh b u (sf b u q)
  have here2 : S2.here H1 := h2.1 H1 fun b u q => r.fh b u (sf b u q)
  have here3 : S3.here H1 := h3.1 H1 fun b u q => r.fh b u (sf b u q)
  refine ⟨fun i d e => ?_, by rw [hl]; exact ⟨by omega, by omega, by omega, by omega, here1, here2, here3⟩⟩
  obtain ⟨hi, e⟩ := get_map e
  have hi1 : i < xs.length := by omega
  have hi2 : i < ys.length := by omega
  have hi3 : i < zs.length := by omega
  refine ⟨⟨by omega, by omega, by omega, here1, here2, here3⟩, fun x H2 y => ?_⟩
  obtain ⟨T, u, u2, u3, rfl, hT, rfl, hu, hu2, hu3⟩ := y
  obtain ⟨u', hu', p⟩ := h1.2.get (getD_of hi1)
  rw [hu] at hu'
  cases hu'
  obtain ⟨u', hu', p2⟩ := h2.2.get (getD_of hi2)
  rw [hu2] at hu'
  cases hu'
  obtain ⟨u', hu', p3⟩ := h3.2.get (getD_of hi3)
  rw [hu3] at hu'
  cases hu'
  have hF : F1 T = none := same_none r.fh hT
  have sF : Same F1 (upd F1 T (.tup [u, u2, u3])) := fun b o q => by rw [upd_ne (ne_of_none q hF)]; exact q
  refine ⟨_, Ext.lay hF (same_none r.bh hT), r.freeze hT, ?_, fun b o q => by rw [upd_ne (ne_of_none q hT)]; exact q⟩
  subst e
  exact ⟨T, _, rfl, .inl (Rd.of upd_same), ⟨_, _, rfl, (p.mono sf).mono sF, ⟨_, _, rfl, (p2.mono sf).mono sF, ⟨_, _, rfl, (p3.mono sf).mono sF, rfl⟩⟩⟩⟩
theorem lift_enum {ta : DA} {σ : L2.St} {H : Hp} {R : It → Hp → Prop} (h : liftI K W (diEnum ta) σ H R) : iEnumS P w K (liftA K W ta) σ H R := by
  obtain ⟨ε, B, F, R', RE, r, t, c, we⟩ := h
  refine ⟨ε, B, F, _, RE, r, t, fun vs H1 F1 xs ε1 e1 r1 rv q => ?_, we⟩
  obtain ⟨F2, ε2, ds, e2, r2, p2, q⟩ := frzs_ok r1 rv q
  have e12 := e1.trans e2
  split at q
  · split at q
    · rename_i d ys hys
      obtain ⟨v, r', rfl, pd, pn⟩ := p2.cons
      have e := pn.nil
      subst e
      obtain ⟨S, hv, ok⟩ := src_of (P := P) (w := w) pd hys
      exact ⟨S, by rw [hv], ok.1 H1 r2.fh, c _ H1 F2 _ ε2 e12 r2 (ok_enum ok) q⟩
    · exact q.elim
  · exact q.elim
theorem lift_zip {ta : DA} {σ : L2.St} {H : Hp} {R : It → Hp → Prop} (h : liftI K W (diZip ta) σ H R) : iZipS P w K (liftA K W ta) σ H R := by
  obtain ⟨ε, B, F, R', RE, r, t, c, we⟩ := h
  refine ⟨ε, B, F, _, RE, r, t, fun vs H1 F1 xs ε1 e1 r1 rv q => ?_, we⟩
  obtain ⟨F2, ε2, ds, e2, r2, p2, q⟩ := frzs_ok r1 rv q
  have e12 := e1.trans e2
  split at q
  · split at q
    · rename_i d d2 xs ys hxs hys
      obtain ⟨v, r', rfl, pd, pn⟩ := p2.cons
      obtain ⟨v2, r'', rfl, pd2, pn2⟩ := pn.cons
      have e := pn2.nil
      subst e
      obtain ⟨S, rfl, ok⟩ := src_of (P := P) (w := w) pd hxs
      obtain ⟨S2, rfl, ok2⟩ := src_of (P := P) (w := w) pd2 hys
      exact ⟨S, S2, rfl, ok.1 H1 r2.fh, ok2.1 H1 r2.fh, c _ H1 F2 _ ε2 e12 r2 (ok_zip ok ok2) q⟩
    · exact q.elim
  · exact q.elim
theorem lift_zip3 {ta : DA} {σ : L2.St} {H : Hp} {R : It → Hp → Prop} (h : liftI K W (diZip3 ta) σ H R) : iZip3S P w K (liftA K W ta) σ H R := by
  obtain ⟨ε, B, F, R', RE, r, t, c, we⟩ := h
  refine ⟨ε, B, F, _, RE, r, t, fun vs H1 F1 xs ε1 e1 r1 rv q => ?_, we⟩
  obtain ⟨F2, ε2, ds, e2, r2, p2, q⟩ := frzs_ok r1 rv q
  have e12 := e1.trans e2
  split at q
  · split at q
    · rename_i d d2 d3 xs ys zs hxs hys hzs
      obtain ⟨v, r', rfl, pd, pn⟩ := p2.cons
      obtain ⟨v2, r'', rfl, pd2, pn2⟩ := pn.cons
      obtain ⟨v3, r''', rfl, pd3, pn3⟩ := pn2.cons
      have e := pn3.nil
      subst e
      obtain ⟨S, rfl, ok⟩ := src_of (P := P) (w := w) pd hxs
      obtain ⟨S2, rfl, ok2⟩ := src_of (P := P) (w := w) pd2 hys
      obtain ⟨S3, rfl, ok3⟩ := src_of (P := P) (w := w) pd3 hzs
      exact ⟨S, S2, S3, rfl, ok.1 H1 r2.fh, ok2.1 H1 r2.fh, ok3.1 H1 r2.fh, c _ H1 F2 _ ε2 e12 r2 (ok_zip3 ok ok2 ok3) q⟩
    · exact q.elim
  · exact q.elim
end
section
variable {X : Cx} {W : WX} {e e2 e3 : Expr} {ta : DA} {p pos tpos : Pos} {elts : List Expr} {kk : Nat}
theorem di_enum (hm : X.mg "enumerate" = none) (ha : PA X [e] (liftA X.K W ta)) (hg : Gl X "enumerate" := by rfl) (hs : starEach [e] X.env = [(false, eval e X.env)] := by rfl) :
    PI X (.Tuple elts kk tpos) (.Call (.Name "enumerate" p) [e] [] pos) (liftI X.K W (diEnum ta)) := PI_imp (pi_enumS hg hm ha hs) fun _ _ _ => lift_enum
theorem di_zip (hm : X.mg "zip" = none) (ha : PA X [e, e2] (liftA X.K W ta)) (hg : Gl X "zip" := by rfl) (hs : starEach [e, e2] X.env = (false, eval e X.env) :: starEach [e2] X.env := by rfl) (hpl : (backTo pos (starEach [e2] X.env)).any (·.1) = false := by rfl) :
    PI X (.Tuple elts kk tpos) (.Call (.Name "zip" p) [e, e2] [] pos) (liftI X.K W (diZip ta)) := PI_imp (pi_zipS hg hm ha hs hpl) fun _ _ _ => lift_zip
theorem di_zip3 (hm : X.mg "zip" = none) (ha : PA X [e, e2, e3] (liftA X.K W ta)) (hg : Gl X "zip" := by rfl) (hs : starEach [e, e2, e3] X.env = (false, eval e X.env) :: starEach [e2, e3] X.env := by rfl) (hpl : (backTo pos (starEach [e2, e3] X.env)).any (·.1) = false := by rfl) :
    PI X (.Tuple elts kk tpos) (.Call (.Name "zip" p) [e, e2, e3] [] pos) (liftI X.K W (diZip3 ta)) := PI_imp (pi_zip3S hg hm ha hs hpl) fun _ _ _ => lift_zip3
end

/-! ### range with a step -/
def stepL (lo c : Int) (n : Nat) : List D := (List.range n).map fun i => .int (lo + (i : Nat) * c)
def diRange3 (ta : DA) : DI := fun ε R E => ta ε (fun xs ε1 => match xs with
  | [.p (.int i), .p (.int j), .p (.int c)] => ∃ n, RgC i j c n ∧ R (stepL i c n) ε1
  | _ => False) E
section
variable {K : PySem.W.Frag} {W : WX} {B : Bs} {F : Hp}
theorem ok_step {lo c : Int} {n : Nat} : IterOk K B F (Itc lo c n) (stepL lo c n) := by
  intro F1 H1 σ1 ε1 B1 sf sb r
  have hl : (stepL lo c n).length = n := by simp [stepL]
  refine ⟨fun i d e => ?_, by rw [hl]; exact Nat.le_refl _⟩
  obtain ⟨hi, e⟩ := get_map e
  refine ⟨hi, fun x H2 ⟨e1, e2⟩ => ?_⟩
  subst e1 e2 e
  exact ⟨F1, Ext.refl _ _, r, rfl, Same.refl _⟩
theorem RVls.three {H : Hp} {σ : L2.St} {ε : Sg} {x y z : Vl} {vs : List V} (h : RVls K B F H σ ε [x, y, z] vs) : ∃ v w u, vs = [v, w, u] ∧ RVl K B F H σ ε x v ∧ RVl K B F H σ ε y w ∧ RVl K B F H σ ε z u := by
  cases h with
  | cons a b _ =>
    obtain ⟨w, u, rfl, hb, hc⟩ := b.two
    exact ⟨_, w, u, rfl, a, hb, hc⟩
theorem lift_range3 {ta : DA} {σ : L2.St} {H : Hp} {R : It → Hp → Prop} (h : liftI K W (diRange3 ta) σ H R) : iRng3 (liftA K W ta) σ H R := by
  obtain ⟨ε, B, F, R', RE, r, t, c, we⟩ := h
  refine ⟨ε, B, F, _, RE, r, t, fun vs H1 F1 xs ε1 e1 r1 rv q => ?_, we⟩
  split at q
  · obtain ⟨n, hn, q⟩ := q
    obtain ⟨v, w, u, rfl, h1, h2, h3⟩ := rv.three
    cases h1; cases h2; cases h3
    exact ⟨_, _, _, n, rfl, hn, c _ H1 F1 _ ε1 e1 r1 ok_step q⟩
  · exact q.elim
end
theorem di_range3 {X : Cx} {W : WX} {tg a b c : Expr} {ta : DA} {p pos : Pos} (hm : X.mg "range" = none) (ha : PA X [a, b, c] (liftA X.K W ta)) (hg : Gl X "range" := by rfl)
    (hs : starEach [a, b, c] X.env = (false, eval a X.env) :: starEach [b, c] X.env := by rfl) (hpl : (backTo pos (starEach [b, c] X.env)).any (·.1) = false := by rfl) :
    PI X tg (.Call (.Name "range" p) [a, b, c] [] pos) (liftI X.K W (diRange3 ta)) := PI_imp (pi_range3 hg hm ha hs hpl) fun _ _ _ => lift_range3

/-! ### in, not in -/
def flatD : D → Bool
  | .non => true
  | .bl _ => true
  | .int _ => true
  | .str _ => true
  | _ => false
def inFq : Vl → Vl → (Vl → Prop) → Prop
  | .p (.str s), .p (.str z), R => ∃ c, s = ⟨#[c]⟩ ∧ R (.p (.bl (decide (c ∈ z.cps.toList))))
  | x, y, R => ∃ xs, sqOf y = some xs ∧ flatD (vD x) = true ∧ xs.all flatD = true ∧ R (.p (.bl (inD (vD x) xs)))
def ninFq : Vl → Vl → (Vl → Prop) → Prop
  | .p (.str s), .p (.str z), R => ∃ c, s = ⟨#[c]⟩ ∧ R (.p (.bl (!decide (c ∈ z.cps.toList))))
  | x, y, R => ∃ xs, sqOf y = some xs ∧ flatD (vD x) = true ∧ xs.all flatD = true ∧ R (.p (.bl (!inD (vD x) xs)))
def rInA (K : PySem.W.Frag) : R2 := fun x y H Q => rIn K false x y H Q ∨ ∃ (c : Nat) (z : Str), x = .str ⟨#[c]⟩ ∧ y = .str z ∧ Q (.bl (decide (c ∈ z.cps.toList))) H
def rNinA (K : PySem.W.Frag) : R2 := fun x y H Q => rIn K true x y H Q ∨ ∃ (c : Nat) (z : Str), x = .str ⟨#[c]⟩ ∧ y = .str z ∧ Q (.bl (!decide (c ∈ z.cps.toList))) H
theorem op_inA {X : Cx} (_u : Unit) : OpR X (compareOp .In) (rInA X.K) := op_in_seq.or op_in_sign
theorem op_ninA {X : Cx} (_u : Unit) : OpR X (compareOp .NotIn) (rNinA X.K) := op_notIn_seq.or op_notIn_sign
section
variable {K : PySem.W.Frag} {F : Hp}
theorem flat_rp {d : D} {v : V} (h : Rp K F d v) (f : flatD d = true) : flatV v = true := by
  cases d <;> cases f <;> cases h <;> rfl
theorem flat_eq {d e : D} {v w : V} (h : Rp K F d v) (f : flatD d = true) (h' : Rp K F e w) (f' : flatD e = true) : eqV v w = deq d e := by
  cases d <;> cases f <;> cases h <;> cases e <;> cases f' <;> cases h' <;> simp [eqV, deq, b2n, seqD, lock_is, Bool.beq_eq_decide_eq, beq_eq_dec] <;> rfl
theorem flat_all : ∀ {xs : List D} {vs : List V}, Rps K F xs vs → xs.all flatD = true → vs.all flatV = true
  | [], vs, h, _ => by rw [h.nil]; rfl
  | d :: r, vs, h, f => by
    obtain ⟨v, r', rfl, h1, h2⟩ := h.cons
    rw [List.all_cons, Bool.and_eq_true] at f ⊢
    exact ⟨flat_rp h1 f.1, flat_all h2 f.2⟩
theorem flat_in {d : D} {v : V} (h : Rp K F d v) (f : flatD d = true) : ∀ {xs : List D} {vs : List V}, Rps K F xs vs → xs.all flatD = true → inV v vs = inD d xs
  | [], vs, h', _ => by rw [h'.nil]; rfl
  | e :: r, vs, h', f' => by
    obtain ⟨w, r', rfl, h1, h2⟩ := h'.cons
    rw [List.all_cons, Bool.and_eq_true] at f'
    show (eqV w v || inV v r') = (deq e d || inD d r)
    rw [flat_eq h1 f'.1 h f, flat_in h f h2 f'.2]
theorem vD_flat {B : Bs} {H : Hp} {σ : L2.St} {ε : Sg} {x : Vl} {v : V} (rx : RVl K B F H σ ε x v) (f : flatD (vD x) = true) : Rp K F (vD x) v := by
  cases x with
  | p d => exact rx
  | ow n =>
    cases n with
    | lst xs => cases f
    | dct xs => obtain ⟨a, _, z, _⟩ := rx; exact z.elim
    | dcT xs => obtain ⟨a, _, z, _⟩ := rx; exact z.elim
  | al i n =>
    cases n with
    | lst xs => cases f
    | dct xs => cases rx.2.2
    | dcT xs => cases rx.2.2
theorem opd_in : OpD K (rInA K) inFq := by
  intro B F H σ ε x y v w Q R r rx ry q c
  unfold inFq at q
  split at q
  · obtain ⟨cc, rfl, q⟩ := q
    cases rx; cases ry
    exact .inr ⟨cc, _, rfl, rfl, fin_p (d := .bl _) c r q rfl⟩
  · obtain ⟨xs, e, f, fs, q⟩ := q
    obtain ⟨a, vs, rfl, hs, rp⟩ := sq_of r ry e
    have rx' := vD_flat rx f
    refine .inl ⟨a, vs, rfl, hs, flat_rp rx' f, flat_all rp fs, ?_⟩
    rw [if_neg (by decide), flat_in rx' f rp fs]
    exact fin_p (d := .bl _) c r q rfl
theorem opd_nin : OpD K (rNinA K) ninFq := by
  intro B F H σ ε x y v w Q R r rx ry q c
  unfold ninFq at q
  split at q
  · obtain ⟨cc, rfl, q⟩ := q
    cases rx; cases ry
    exact .inr ⟨cc, _, rfl, rfl, fin_p (d := .bl _) c r q rfl⟩
  · obtain ⟨xs, e, f, fs, q⟩ := q
    obtain ⟨a, vs, rfl, hs, rp⟩ := sq_of r ry e
    have rx' := vD_flat rx f
    refine .inl ⟨a, vs, rfl, hs, flat_rp rx' f, flat_all rp fs, ?_⟩
    rw [if_pos (by decide), flat_in rx' f rp fs]
    exact fin_p (d := .bl _) c r q rfl
end

/-! ### max, min, sorted of a list of ints; join -/
def max1q : CQ := fun xs ε R => match xs with
  | [x] => ∃ ds ns, lsOf x = some ds ∧ intsOf ds = some ns ∧ 0 < ns.length ∧ ∀ m, m ∈ ns → (∀ y, y ∈ ns → y ≤ m) → R (.p (.int m)) ε
  | _ => False
def min1q : CQ := fun xs ε R => match xs with
  | [x] => ∃ ds ns, lsOf x = some ds ∧ intsOf ds = some ns ∧ 0 < ns.length ∧ ∀ m, m ∈ ns → (∀ y, y ∈ ns → m ≤ y) → R (.p (.int m)) ε
  | _ => False
def sortq : CQ := fun xs ε R => match xs with
  | [x] => ∃ ds ns, lsOf x = some ds ∧ intsOf ds = some ns ∧ ∀ ns' : List Int, ns'.Perm ns → ns'.Pairwise (· ≤ ·) → R (.ow (.lst (ns'.map .int))) ε
  | _ => False
section
variable {K : PySem.W.Frag}
theorem ls_ints {B : Bs} {F H : Hp} {σ : L2.St} {ε : Sg} {x : Vl} {v : V} {ds : List D} {ns : List Int} (r : Rep K B F H σ ε) (rv : RVl K B F H σ ε x v) (h : lsOf x = some ds) (e : intsOf ds = some ns) : ∃ a, v = .ref a ∧ SqL K H a (ns.map V.int) := by
  have e2 := intsOf_eq e
  subst e2
  obtain ⟨a, ws, rfl, hs, rp⟩ := ls_of r rv h
  rw [rp.ints] at hs
  exact ⟨a, rfl, SqL.of hs⟩
theorem cd_max1 : CalD K (rMax K) max1q := by
  intro B F H σ ε xs vs Q R r rv q c
  unfold max1q at q
  split at q
  · obtain ⟨ds, ns, e, en, h0, q⟩ := q
    obtain ⟨v, rfl, h⟩ := rv.one
    obtain ⟨a, rfl, hs⟩ := ls_ints r h e en
    exact ⟨a, ns, rfl, hs, h0, fun m h1 h2 => c _ H F (.p (.int _)) ε (Ext.refl _ _) r rfl (q m h1 h2)⟩
  · exact q.elim
theorem cd_min1 : CalD K (rMin K) min1q := by
  intro B F H σ ε xs vs Q R r rv q c
  unfold min1q at q
  split at q
  · obtain ⟨ds, ns, e, en, h0, q⟩ := q
    obtain ⟨v, rfl, h⟩ := rv.one
    obtain ⟨a, rfl, hs⟩ := ls_ints r h e en
    exact ⟨a, ns, rfl, hs, h0, fun m h1 h2 => c _ H F (.p (.int _)) ε (Ext.refl _ _) r rfl (q m h1 h2)⟩
  · exact q.elim
theorem cd_sort : CalD K (rSortedI K) sortq := by
  intro B F H σ ε xs vs Q R r rv q c
  unfold sortq at q
  split at q
  · obtain ⟨ds, ns, e, en, q⟩ := q
    obtain ⟨v, rfl, h⟩ := rv.one
    obtain ⟨a, rfl, hs⟩ := ls_ints r h e en
    have c' : Fin2 K B F H σ ε (fun z => R z ε) Q := fun v' H' F' z e r rv q => c v' H' F' z ε e r rv q
    exact ⟨a, ns, rfl, hs, fun ns' p h1 h2 hp => fin_lst c' r hp (Rps.ofInts ns') (q ns' h1 h2)⟩
  · exact q.elim
end
section
variable {X : Cx} {W : WX} {e : Expr} {ta : DA} {p pos : Pos}
theorem de_max1 (hc : X.calm = true) (hm : X.mg "max" = none) (ha : PA X [e] (liftA X.K W ta)) (hg : Gl X "max" := by rfl) (he : starEach (e :: []) X.env = (false, eval e X.env) :: starEach [] X.env := by rfl) (hpl : (backTo pos (starEach [] X.env)).any (·.1) = false := by rfl) : PE X (.Call (.Name "max" p) [e] [] pos) (lift X.K W (dCal max1q ta)) :=
  de_callB cd_max1 (cr_max hc) (by decide +kernel) hm ha hg (by decide) (by decide) he hpl
theorem de_min1 (hc : X.calm = true) (hm : X.mg "min" = none) (ha : PA X [e] (liftA X.K W ta)) (hg : Gl X "min" := by rfl) (he : starEach (e :: []) X.env = (false, eval e X.env) :: starEach [] X.env := by rfl) (hpl : (backTo pos (starEach [] X.env)).any (·.1) = false := by rfl) : PE X (.Call (.Name "min" p) [e] [] pos) (lift X.K W (dCal min1q ta)) :=
  de_callB cd_min1 (cr_min hc) (by decide +kernel) hm ha hg (by decide) (by decide) he hpl
theorem de_sorted (hm : X.mg "sorted" = none) (ha : PA X [e] (liftA X.K W ta)) (hg : Gl X "sorted" := by rfl) (he : starEach (e :: []) X.env = (false, eval e X.env) :: starEach [] X.env := by rfl) (hpl : (backTo pos (starEach [] X.env)).any (·.1) = false := by rfl) : PE X (.Call (.Name "sorted" p) [e] [] pos) (lift X.K W (dCal sortq ta)) :=
  de_callB cd_sort cr_sortedI (by decide +kernel) hm ha hg (by decide) (by decide) he hpl
end
def strsOf : List D → Option (List Str)
  | [] => some []
  | .str i :: r => (strsOf r).map (i :: ·)
  | _ => none
theorem strsOf_eq : ∀ {ds : List D} {ns : List Str}, strsOf ds = some ns → ds = ns.map D.str
  | [], ns, h => by cases h; rfl
  | .str i :: r, ns, h => by
    simp only [strsOf] at h
    cases q : strsOf r with
    | none => rw [q] at h; cases h
    | some m => rw [q] at h; cases h; rw [strsOf_eq q]; rfl
  | .non :: _, _, h => by cases h
  | .bl _ :: _, _, h => by cases h
  | .int _ :: _, _, h => by cases h
  | .tup _ :: _, _, h => by cases h
  | .lst _ :: _, _, h => by cases h
  | .frl _ :: _, _, h => by cases h
theorem strsOf_map : ∀ ns : List Str, strsOf (ns.map D.str) = some ns
  | [] => rfl
  | n :: r => by simp [strsOf, strsOf_map r]
/-- a method of a text, one argument -/
def dM1 (q : Str → Vl → (Vl → Prop) → Prop) (to te : DE) : DE := fun ε R E => to ε (fun x ε1 => match x with
  | .p (.str a) => te ε1 (fun y ε2 => q a y fun z => R z ε2) E
  | _ => False) E
theorem lift_m1 {K : PySem.W.Frag} {W : WX} {r : V → List V → Hp → VK → Prop} {q : Str → Vl → (Vl → Prop) → Prop} {to te : DE} {σ : L2.St} {H : Hp} {Q : VK}
    (hq : ∀ (B : Bs) (F H : Hp) (σ : L2.St) (ε : Sg) (a : Str) (y : Vl) (w : V) (Q : VK) (R : Vl → Prop), Rep K B F H σ ε → RVl K B F H σ ε y w → q a y R → Fin2 K B F H σ ε R Q → r (.str a) [w] H Q)
    (h : lift K W (dM1 q to te) σ H Q) : tM1 r (lift K W to) (lift K W te) σ H Q := by
  obtain ⟨ε, B, F, R, RE, rp, t, c, we⟩ := h
  refine ⟨ε, B, F, _, RE, rp, t, fun v H1 F1 x ε1 e1 r1 rv q => ?_, we⟩
  split at q
  · rename_i a
    have ev : v = .str a := rv
    subst ev
    refine ⟨⟨a, rfl⟩, ε1, B, F1, _, RE, r1, q, fun w H2 F2 y ε2 e2 r2 rv2 q2 => ?_, we.ext e1⟩
    exact hq B F2 H2 σ ε2 a y w Q _ r2 rv2 q2 fun v' H' F' z e3 r4 rv3 h3 => c v' H' F' z ε2 ((e1.trans e2).trans e3) r4 rv3 h3
  · exact q.elim
/-- a.join(xs) -/
def joinq : Str → Vl → (Vl → Prop) → Prop := fun a y R => ∃ ds ys, sqOf y = some ds ∧ strsOf ds = some ys ∧ (ys.map (·.length)).sum + ys.length * a.length ≤ 16777216 ∧ R (.p (.str (Txt.join a ys)))
theorem de_join {X : Cx} {W : WX} {o e : Expr} {to te : DE} {apos pos : Pos} (ho : PE X o (lift X.K W to)) (he : PE X e (lift X.K W te)) (hs : starEach [e] X.env = [(false, eval e X.env)] := by rfl) (hbase : attributeBase o "join" X.env (eval o X.env) = eval o X.env := by rfl) (hline : (apos.endLine == pos.line) = true := by rfl) :
    PE X (.Call (.Attribute o "join" apos) [e] [] pos) (lift X.K W (dM1 joinq to te)) := PE_imp (pe_join ho he hs hbase hline) fun σ H Q h => by
  refine lift_m1 (fun B F H σ ε a y w Q R r rv q c => ?_) h
  obtain ⟨ds, ys, e, es, hl, q⟩ := q
  obtain ⟨p, vs, rfl, hs, rp⟩ := sq_of r rv e
  have e2 := strsOf_eq es
  subst e2
  rw [rp.strs] at hs
  exact ⟨a, p, ys, rfl, rfl, hs, hl, fin_p (d := .str _) c r q rfl⟩
/-- a.index(b): the first place -/
def sixq : Str → Vl → (Vl → Prop) → Prop := fun a y R => match y with
  | .p (.str b) => ∃ i rest, Builtin.Str.occurrences a b 0 a.length 1 = i :: rest ∧ R (.p (.int (i : Nat)))
  | _ => False
theorem de_sindex {X : Cx} {W : WX} {o e : Expr} {to te : DE} {apos pos : Pos} (ho : PE X o (lift X.K W to)) (he : PE X e (lift X.K W te)) (hs : starEach [e] X.env = [(false, eval e X.env)] := by rfl) (hbase : attributeBase o "index" X.env (eval o X.env) = eval o X.env := by rfl) (hline : (apos.endLine == pos.line) = true := by rfl) :
    PE X (.Call (.Attribute o "index" apos) [e] [] pos) (lift X.K W (dM1 sixq to te)) := PE_imp (pe_m1 F.slot_str_index F.type_str_index mt_sindex ho he hs hbase hline) fun σ H Q h => by
  refine lift_m1 (fun B F H σ ε a y w Q R r rv q c => ?_) h
  unfold sixq at q
  split at q
  · obtain ⟨i, rest, e, q⟩ := q
    have ew := rv
    cases ew
    exact ⟨a, _, i, rest, rfl, rfl, e, fin_p (d := .int _) c r q rfl⟩
  · exact q.elim
end DL

/-! DX7: xs.pop(), xs.pop(i), xs.extend(ys). -/
namespace DL
open PySem PySem.Spec PyProof.Rows L2 RT
def extq : MQ := fun xs ds R => match ds with
  | [.lst ys] => xs.length + ys.length ≤ sizeLine ∧ R .non (xs ++ ys)
  | _ => False
section
variable {K : PySem.W.Frag} {W : WX}
theorem mtd_ext : MtD K rExtend extq := by
  intro F H a xs ds vs ws Q R s ha hx hd q c
  unfold extq at q
  split at q
  · rename_i ys
    obtain ⟨w, r, rfl, h1, h2⟩ := hd.cons
    have e := h2.nil
    subst e
    obtain ⟨b, zs, rfl, hb, hz⟩ := h1
    exact ⟨a, b, vs, zs, rfl, rfl, ha, s _ _ hb, by rw [hx.length, hz.length]; exact q.1, c .non .non _ _ rfl (hx.append hz) q.2⟩
  · exact q.elim
def dMt0 (i : Nat) (q : MQ) : DE := fun ε R E => match ε[i]? with
  | some (some (.ow k (.lst xs))) => q xs [] fun d xs' => R (.p d) (ε.set i (some (.ow k (.lst xs'))))
  | _ => False
theorem lift_mt0 {i : Nat} {q : MQ} {r : V → List V → Hp → VK → Prop} {σ : L2.St} {H : Hp} {Q : VK} (hq : MtD K r q) (h : lift K W (dMt0 i q) σ H Q) : tBM0 K "list" r (tVar i) σ H Q := by
  obtain ⟨ε, B, F, R, RE, rp, t, c, we⟩ := h
  unfold dMt0 at t
  split at t
  · rename_i k xs ei
    obtain ⟨v, hv, a, ev, ⟨vs, ha, hs⟩, _⟩ := rp.val i _ ei
    subst ev
    refine ⟨.ref a, hv, .inl ⟨rfl, vs, SqL.of ha⟩, ?_⟩
    exact hq F H a xs [] vs [] Q _ rp.fh ha hs rfl t fun d v xs' vs' hd hxs q => c v _ F (.p d) _ (Ext.refl _ _) (rp.put ei hv hxs) hd q
  · exact t.elim
end
section
variable {X : Cx} {W : WX} {o e : Expr} {es : List Expr} {ta : DA} {apos cpos : Pos} {i : Nat}
theorem de_popAt (ho : PE X o (tVar i)) (ha : PA X (e :: es) (liftA X.K W ta))
    (hbase : attributeBase o "pop" X.env (eval o X.env) = eval o X.env := by rfl)
    (hfew : ((backTo cpos (starEach (e :: es) X.env)).all (fun x => !x.1) && (backToKw cpos (keywordEach [] X.env)).all (fun x => x.1.isSome)
      && decide ((e :: es).length + ([] : List Keyword).length + (if ([] : List Keyword).isEmpty then 0 else 1) < 30)) = true := by rfl)
    (hline : (apos.endLine == cpos.line) = true := by rfl) (hs : starEach (e :: es) X.env = (false, eval e X.env) :: starEach es X.env := by rfl) (hplain : (backTo cpos (starEach es X.env)).any (·.1) = false := by rfl) :
    PE X (.Call (.Attribute o "pop" apos) (e :: es) [] cpos) (lift X.K W (dMt i popAtq ta)) :=
  PE_imp (pe_bm F.plainAttrs_list F.slot_list_pop F.type_list_pop mt_popAt ho ha hbase hfew hline hs hplain) fun _ _ _ => lift_mt mtd_popAt
theorem de_extend (ho : PE X o (tVar i)) (ha : PA X (e :: es) (liftA X.K W ta))
    (hbase : attributeBase o "extend" X.env (eval o X.env) = eval o X.env := by rfl)
    (hfew : ((backTo cpos (starEach (e :: es) X.env)).all (fun x => !x.1) && (backToKw cpos (keywordEach [] X.env)).all (fun x => x.1.isSome)
      && decide ((e :: es).length + ([] : List Keyword).length + (if ([] : List Keyword).isEmpty then 0 else 1) < 30)) = true := by rfl)
    (hline : (apos.endLine == cpos.line) = true := by rfl) (hs : starEach (e :: es) X.env = (false, eval e X.env) :: starEach es X.env := by rfl) (hplain : (backTo cpos (starEach es X.env)).any (·.1) = false := by rfl) :
    PE X (.Call (.Attribute o "extend" apos) (e :: es) [] cpos) (lift X.K W (dMt i extq ta)) :=
  PE_imp (pe_bm F.plainAttrs_list F.slot_list_extend F.type_list_extend mt_extend ho ha hbase hfew hline hs hplain) fun _ _ _ => lift_mt mtd_ext
theorem de_pop (ho : PE X o (tVar i)) (hbase : attributeBase o "pop" X.env (eval o X.env) = eval o X.env := by rfl) (hline : (apos.endLine == cpos.line) = true := by rfl) :
    PE X (.Call (.Attribute o "pop" apos) [] [] cpos) (lift X.K W (dMt0 i popq)) :=
  PE_imp (pe_bm0 F.plainAttrs_list F.slot_list_pop F.type_list_pop mt_pop ho hbase hline) fun _ _ _ => lift_mt0 mtd_pop
end
end DL

/-! DX8: order of data of any depth. -/
namespace DL
open PySem PySem.Spec PyProof.Rows L2 RT
def dlt (x y : D) : Bool := lock 0 (PySem.W.dataLt (toP x) (toP y))
theorem dlt_is (x y : D) : dlt x y = PySem.W.dataLt (toP x) (toP y) := lock_is _
def alk (x y : D) : Bool := PySem.W.alike (toP x) (toP y)
def isSeq : D → Bool
  | .tup _ => true
  | .lst _ => true
  | .frl _ => true
  | .str _ => true
  | _ => false
def cmpA (f : Int → Int → Bool) (g : D → D → Bool) : Vl → Vl → (Vl → Prop) → Prop := fun x y R => match x, y with
  | .p (.int i), .p (.int j) => R (.p (.bl (f i j)))
  | x, y => (isSeq (vD x) = true ∧ alk (vD x) (vD y) = true) ∧ (dok 60 (vD x) = true ∧ dok 60 (vD y) = true) ∧ R (.p (.bl (g (vD x) (vD y))))
def ltA := cmpA (fun i j => decide (i < j)) dlt
def leA := cmpA (fun i j => decide (i ≤ j)) fun x y => !dlt y x
def gtA := cmpA (fun i j => decide (j < i)) fun x y => dlt y x
def geA := cmpA (fun i j => decide (j ≤ i)) fun x y => !dlt x y
def rDataC (K : PySem.W.Frag) (g : PyData → PyData → Bool) : R2 := fun x y H Q => ∃ d e, Dp K H x d ∧ Dp K H y e ∧ SeqAt.shaped d = true ∧ SeqAt.shaped e = true ∧ PySem.W.alike d e = true ∧ d ≠ .none ∧ Q (.bl (g d e)) H
section
variable {X : Cx}
theorem op_ltData (hu : X.A.units + 64 < cLine) : OpR X (compareOp .Lt) (rDataC X.K PySem.W.dataLt) := by
  intro pins s σ H x y v u Q I rx ry h
  obtain ⟨d, e, hd, he, sd, se, al, hn, q⟩ := h
  obtain ⟨as, r1⟩ := Dp.reads I d x v hd rx
  obtain ⟨bs, r2⟩ := Dp.reads I e y u he ry
  exact PySem.W.lt_data r1 r2 al hn (SeqAt.room_of_shaped sd hu) ⟨.bl _, H, I, rfl, q⟩
theorem op_gtData (hu : X.A.units + 64 < cLine) : OpR X (compareOp .Gt) (rDataC X.K fun d e => PySem.W.dataLt e d) := by
  intro pins s σ H x y v u Q I rx ry h
  obtain ⟨d, e, hd, he, sd, se, al, hn, q⟩ := h
  obtain ⟨as, r1⟩ := Dp.reads I d x v hd rx
  obtain ⟨bs, r2⟩ := Dp.reads I e y u he ry
  exact PySem.W.gt_data r1 r2 al hn (SeqAt.room_of_shaped sd hu) ⟨.bl _, H, I, rfl, q⟩
theorem op_leData (hu : X.A.units + 64 < cLine) : OpR X (compareOp .LtE) (rDataC X.K fun d e => !PySem.W.dataLt e d) := by
  intro pins s σ H x y v u Q I rx ry h
  obtain ⟨d, e, hd, he, sd, se, al, hn, q⟩ := h
  obtain ⟨as, r1⟩ := Dp.reads I d x v hd rx
  obtain ⟨bs, r2⟩ := Dp.reads I e y u he ry
  exact PySem.W.le_data r1 r2 al hn (SeqAt.room_of_shaped sd hu) ⟨.bl _, H, I, rfl, q⟩
theorem op_geData (hu : X.A.units + 64 < cLine) : OpR X (compareOp .GtE) (rDataC X.K fun d e => !PySem.W.dataLt d e) := by
  intro pins s σ H x y v u Q I rx ry h
  obtain ⟨d, e, hd, he, sd, se, al, hn, q⟩ := h
  obtain ⟨as, r1⟩ := Dp.reads I d x v hd rx
  obtain ⟨bs, r2⟩ := Dp.reads I e y u he ry
  exact PySem.W.ge_data r1 r2 al hn (SeqAt.room_of_shaped sd hu) ⟨.bl _, H, I, rfl, q⟩
def rCmpA (K : PySem.W.Frag) (f : Int → Int → Bool) (g : PyData → PyData → Bool) : R2 := fun x y H Q => rI0 (fun i j => .bl (f i j)) x y H Q ∨ rDataC K g x y H Q
theorem op_ltA (hu : X.A.units + 64 < cLine) : OpR X (compareOp .Lt) (rCmpA X.K (fun i j => decide (i < j)) PySem.W.dataLt) := op_lt.or (op_ltData hu)
theorem op_gtA (hu : X.A.units + 64 < cLine) : OpR X (compareOp .Gt) (rCmpA X.K (fun i j => decide (j < i)) fun d e => PySem.W.dataLt e d) := op_gt.or (op_gtData hu)
theorem op_leA (hu : X.A.units + 64 < cLine) : OpR X (compareOp .LtE) (rCmpA X.K (fun i j => decide (i ≤ j)) fun d e => !PySem.W.dataLt e d) := op_le.or (op_leData hu)
theorem op_geA (hu : X.A.units + 64 < cLine) : OpR X (compareOp .GtE) (rCmpA X.K (fun i j => decide (j ≤ i)) fun d e => !PySem.W.dataLt d e) := op_ge.or (op_geData hu)
end
theorem opd_cmpA {K : PySem.W.Frag} {f : Int → Int → Bool} {g : D → D → Bool} {g' : PyData → PyData → Bool} (hg : ∀ x y, g x y = g' (toP x) (toP y)) : OpD K (rCmpA K f g') (cmpA f g) := by
  intro B F H σ ε x y v w Q R r rx ry q c
  unfold cmpA at q
  split at q
  · cases rx; cases ry
    exact .inl ⟨_, _, rfl, rfl, fin_p (d := .bl _) c r q rfl⟩
  · obtain ⟨⟨qs, qa⟩, ⟨q1, q2⟩, q⟩ := q
    rw [hg] at q
    refine .inr ⟨_, _, vD_dp r rx, vD_dp r ry, dok_shaped q1, dok_shaped q2, qa, fun e => ?_, fin_p (d := .bl _) c r q rfl⟩
    cases hx : vD x <;> rw [hx] at qs e <;> first | (cases qs; done) | (simp [toP] at e; done)
theorem opd_ltA {K : PySem.W.Frag} : OpD K (rCmpA K (fun i j => decide (i < j)) PySem.W.dataLt) ltA := opd_cmpA fun x y => dlt_is x y
theorem opd_gtA {K : PySem.W.Frag} : OpD K (rCmpA K (fun i j => decide (j < i)) fun d e => PySem.W.dataLt e d) gtA := opd_cmpA fun x y => dlt_is y x
theorem opd_leA {K : PySem.W.Frag} : OpD K (rCmpA K (fun i j => decide (i ≤ j)) fun d e => !PySem.W.dataLt e d) leA := opd_cmpA fun x y => by rw [dlt_is y x]
theorem opd_geA {K : PySem.W.Frag} : OpD K (rCmpA K (fun i j => decide (j ≤ i)) fun d e => !PySem.W.dataLt d e) geA := opd_cmpA fun x y => by rw [dlt_is x y]
/-! ### what the order says -/
theorem dlt_int (a b : Int) : dlt (.int a) (.int b) = decide (a < b) := by rw [dlt_is]; exact PySem.W.dataLt_int a b
theorem dlt_str (a b : Str) : dlt (.str a) (.str b) = decide (a.cps.toList < b.cps.toList) := by rw [dlt_is]; exact PySem.W.dataLt_str a b
theorem dlt_tup (xs ys : List D) : dlt (.tup xs) (.tup ys) = PyProof.Rows.lexLt PyProof.Rows.itemOrd (PySem.W.keyToksAll (toPs xs)) (PySem.W.keyToksAll (toPs ys)) := by rw [dlt_is]; exact PySem.W.dataLt_tuple _ _
theorem dlt_cons {x y : D} {xs ys : List D} (h : alk x y = true) : dlt (.tup (x :: xs)) (.tup (y :: ys)) = if deq x y = true then dlt (.tup xs) (.tup ys) else dlt x y := by
  rw [dlt_tup, dlt_tup]
  show PyProof.Rows.lexLt PyProof.Rows.itemOrd (PySem.W.keyToksAll (toP x :: toPs xs)) (PySem.W.keyToksAll (toP y :: toPs ys)) = _
  rw [deq_eqv]
  cases e : PyData.eqv (toP x) (toP y) with
  | true => rw [PySem.W.dataLt_all_yes h e, if_pos rfl]
  | false => rw [PySem.W.dataLt_all_no h e, if_neg (by decide), dlt_is]
theorem dlt_nil (ys : List D) : dlt (.tup []) (.tup ys) = !ys.isEmpty := by
  rw [dlt_tup, ← PySem.W.firstLt_toks _ _ (by cases ys <;> rfl)]
  cases ys with
  | nil => rfl
  | cons y r => simp [toPs, SeqAt.firstLt]
theorem dlt_cons_nil (x : D) (xs : List D) : dlt (.tup (x :: xs)) (.tup []) = false := by
  rw [dlt_tup, ← PySem.W.firstLt_toks _ _ (by rfl)]
  simp [toPs, SeqAt.firstLt]
theorem alk_cons (x y : D) (xs ys : List D) : alk (.tup (x :: xs)) (.tup (y :: ys)) = (alk x y && alk (.tup xs) (.tup ys)) := by simp only [alk, toP, toPs, PySem.W.alike, PySem.W.alikeAll]
theorem alk_nil (ys : List D) : alk (.tup []) (.tup ys) = true := by simp only [alk, toP, toPs, PySem.W.alike]; cases toPs ys <;> rfl
theorem alk_nil' (ys : List D) : alk (.tup ys) (.tup []) = true := by simp only [alk, toP, toPs, PySem.W.alike]; cases toPs ys <;> rfl
theorem alk_ints : ∀ ns ms : List Int, alk (.tup (ns.map D.int)) (.tup (ms.map D.int)) = true
  | [], ms => alk_nil _
  | _ :: _, [] => alk_nil' _
  | n :: ns, m :: ms => by rw [List.map_cons, List.map_cons, alk_cons, alk_ints ns ms]; rfl
/-- rows of ints, by the first place where they differ -/
def ilt : List Int → List Int → Bool
  | [], ms => !ms.isEmpty
  | _ :: _, [] => false
  | n :: ns, m :: ms => if n = m then ilt ns ms else decide (n < m)
theorem dlt_ints : ∀ ns ms : List Int, dlt (.tup (ns.map D.int)) (.tup (ms.map D.int)) = ilt ns ms
  | [], ms => by rw [List.map_nil, dlt_nil]; cases ms <;> rfl
  | _ :: _, [] => by rw [List.map_cons, List.map_nil, dlt_cons_nil]; rfl
  | n :: ns, m :: ms => by
    rw [List.map_cons, List.map_cons, dlt_cons rfl, dlt_ints ns ms, dlt_int]
    show (if decide (n = m) = true then _ else _) = if n = m then _ else _
    simp only [decide_eq_true_eq]
end DL

/-! DX9: [e for x in xs if c for y in ys if d]. -/
namespace DL
open PySem PySem.Spec PyProof.Rows L2 RT
def lc2Fold (tg : Tg) (tt : DT) (di1 : DI) (tg1 : Tg) (tt1 : DT) (te : DE) (vs vs1 : List Nat) (ε0 : Sg) (R : List D → Prop) : List D → List D → Prop
  | [], acc => R acc
  | x :: r, acc => tgD tg x ε0 fun ε2 => tt ε2 (fun b ε3 => IfB b
      (di1 ε3 (fun ys ε4 => ownfree ε4 vs1 = true ∧ lcFold tg1 tt1 te vs1 (wipeD ε4 vs1) (fun acc' => wipeD (wipeD ε4 vs1) vs = ε0 ∧ lc2Fold tg tt di1 tg1 tt1 te vs vs1 ε0 R r acc') ys acc) EF)
      (wipeD ε3 vs = ε0 ∧ lc2Fold tg tt di1 tg1 tt1 te vs vs1 ε0 R r acc)) EF
structure DLC2 (tg : Tg) (tt : DT) (di1 : DI) (tg1 : Tg) (tt1 : DT) (te : DE) (vs vs1 : List Nat) (ε0 : Sg) (R : List D → Prop) (xs : List D) : Prop where
  go : lc2Fold tg tt di1 tg1 tt1 te vs vs1 ε0 R xs []
def dLc2 (di : DI) (tg : Tg) (tt : DT) (di1 : DI) (tg1 : Tg) (tt1 : DT) (te : DE) (vs vs1 : List Nat) : DE := fun ε R E => di ε (fun xs ε1 => (ownfree ε1 vs = true ∧ (tg.ix.all fun i => vs.contains i) = true ∧ (tg1.ix.all fun i => vs1.contains i) = true ∧ (vs1.all fun i => vs.contains i) = true) ∧
  DLC2 tg tt di1 tg1 tt1 te vs vs1 (wipeD ε1 vs) (fun ys => R (.ow (.lst ys)) ε1) xs) E
section
variable {K : PySem.W.Frag} {W : WX}
theorem lift_lc2 {di : DI} {tg : Tg} {tt : DT} {di1 : DI} {tg1 : Tg} {tt1 : DT} {te : DE} {vs vs1 : List Nat} {σ : L2.St} {H : Hp} {Q : VK} (h : lift K W (dLc2 di tg tt di1 tg1 tt1 te vs vs1) σ H Q) :
    tLc2 (liftI K W di) (tgG K tg) (liftT K WF tt) (liftI K WF di1) (tgG K tg1) (liftT K WF tt1) (lift K WF te) vs vs1 σ H Q := by
  obtain ⟨ε, B, F, R, RE, r, t, c, we⟩ := h
  refine ⟨ε, B, F, _, RE, r, t, fun J H1 F1 xs ε1 e1 r1 ok ⟨⟨hof, hix, hix1, hvs⟩, q⟩ D hD => ?_, we⟩
  have hix' : ∀ i ∈ tg.ix, i ∈ vs := fun i hi => by simpa using (List.all_eq_true.mp hix) i hi
  have hix1' : ∀ i ∈ tg1.ix, i ∈ vs1 := fun i hi => by simpa using (List.all_eq_true.mp hix1) i hi
  have hvs' : ∀ i ∈ vs1, i ∈ vs := fun i hi => by simpa using (List.all_eq_true.mp hvs) i hi
  have hB : B D = none := same_none r1.bh hD
  have hF : F1 D = none := same_none r1.fh hD
  refine ⟨fun i m H' => m = xs.length - i ∧ i ≤ xs.length ∧ ∃ F' acc accV, Ext B F1 F' ∧ F' D = none ∧ H' D = some (.lst accV) ∧ Rps K F' acc accV ∧ Rep K B F' H' (L2.wipe σ vs) (wipeD ε1 vs) ∧
    (∀ (i : Nat) (k : Option Nat) (m : Nd), (wipeD ε1 vs)[i]? = some (some (Sl.ow k m)) → (L2.wipe σ vs)[i]? ≠ some (some (V.ref D))) ∧ lc2Fold tg tt di1 tg1 tt1 te vs vs1 (wipeD ε1 vs) (fun ys => R (.ow (.lst ys)) ε1) (xs.drop i) acc,
    ⟨_, rfl, Nat.zero_le _, F1, [], [], Ext.refl _ _, hF, upd_same, rfl, (r1.lay hD).wipe vs, fun i k m e es => ?_, q.go⟩, ?_⟩
  · obtain ⟨v, h1, h2⟩ := (r1.wipe vs).val i _ e
    obtain ⟨a, e2, e3, _⟩ := h2
    rw [es] at h1
    have e9 : V.ref D = v := Option.some.inj (Option.some.inj h1)
    subst e9
    cases e2
    obtain ⟨o, ho⟩ := e3.there
    rw [hD] at ho; cases ho
  · rintro i m H2 ⟨rfl, hi, F2, acc, accV, e2, f2, h2, p2, r2, n2, q2⟩
    have gB : ∀ {o : HO}, BLe B (B.add D o) := BLe.add hB
    have gD : ∀ {o : HO}, (B.add D o) D = some o := upd_same
    have g2 := r2.guard h2 hB n2
    obtain ⟨hgo, hst⟩ := ok F2 H2 _ _ _ e2.1 trivial g2
    by_cases hlt : i < xs.length
    · have hx : xs[i]? = some xs[i] := List.getElem?_eq_getElem hlt
      obtain ⟨hg1, hg2⟩ := hgo i _ hx
      rw [List.drop_eq_getElem_cons hlt] at q2
      refine .inr ⟨hg1, fun H' => ∃ F' acc accV, Ext B F1 F' ∧ F' D = none ∧ H' D = some (.lst accV) ∧ Rps K F' acc accV ∧ Rep K B F' H' (L2.wipe σ vs) (wipeD ε1 vs) ∧
        lc2Fold tg tt di1 tg1 tt1 te vs vs1 (wipeD ε1 vs) (fun ys => R (.ow (.lst ys)) ε1) (xs.drop (i + 1)) acc, fun H' ⟨F', acc', accV', z1, z2, z3, z4, z5, z6⟩ => ⟨_, by omega, rfl, hlt, F', acc', accV', z1, z2, z3, z4, z5, n2, z6⟩, fun x H3 y => ?_⟩
      obtain ⟨F3, e3, r3, p3, s3⟩ := hg2 x H3 y
      refine tg_ok r3 p3 hix' q2 fun σ4 ε4 r4 w4 q4 => ⟨w4.trans (wipe_wipe vs vs fun _ h => h), ?_⟩
      have w4' : L2.wipe σ4 vs = L2.wipe σ vs := w4.trans (wipe_wipe vs vs fun _ h => h)
      refine ⟨ε4, _, F3, _, EF, r4, q4, fun b H5 F5 ε5 e5 r5 q5 => ?_, fun _ _ _ _ _ _ _ _ _ z => z.elim⟩
      have e35 := e3.trans e5
      have hD5 : H5 D = some (.lst accV) := r5.bh D _ gD
      have f5 : F5 D = none := e35.2 D f2 (by rw [gD]; exact Option.some_ne_none _)
      have eB5 : Ext B F1 F5 := e2.trans (e35.weak gB)
      have back : ∀ {H' F' : Hp} {ε' : Sg}, Rep K B F' H' σ4 ε' → wipeD ε' vs = wipeD ε1 vs → Rep K B F' H' (L2.wipe σ vs) (wipeD ε1 vs) := fun {H' F' ε'} r' we' => by
        have z := r'.wipe vs
        rw [we', w4'] at z
        exact z
      replace q5 := ifb q5
      cases b with
      | false =>
        obtain ⟨we5, q5⟩ := q5
        exact ⟨F5, acc, accV, eB5, f5, hD5, p2.mono e35.1, back (r5.weak gB) we5, q5⟩
      | true =>
        refine ⟨ε5, _, F5, _, EF, r5, q5, fun J1 H6 F6 ys ε6 e6 r6 ok1 q6 => ?_, fun _ _ _ _ _ _ _ _ _ z => z.elim⟩
        obtain ⟨hof6, q6⟩ := q6
        have e36 := e35.trans e6
        have hD6 : H6 D = some (.lst accV) := r6.bh D _ gD
        have f6 : F6 D = none := e36.2 D f2 (by rw [gD]; exact Option.some_ne_none _)
        have eB6 : Ext B F1 F6 := e2.trans (e36.weak gB)
        have hn6 : ∀ (i : Nat) (k : Option Nat) (m : Nd), (wipeD ε6 vs1)[i]? = some (some (Sl.ow k m)) → (L2.wipe σ4 vs1)[i]? ≠ some (some (V.ref D)) := fun j k m ej es => by
          obtain ⟨v, h1, a, e2', e3', e4', e5', _⟩ := (r6.wipe vs1).val j _ ej
          rw [es] at h1
          have e9 : V.ref D = v := Option.some.inj (Option.some.inj h1)
          subst e9
          cases e2'
          rw [gD] at e5'; cases e5'
        refine ⟨fun j k H' => k = ys.length - j ∧ j ≤ ys.length ∧ ∃ F' acc accV, Ext B F1 F' ∧ Same F6 F' ∧ F' D = none ∧ H' D = some (.lst accV) ∧ Rps K F' acc accV ∧ Rep K B F' H' (L2.wipe σ4 vs1) (wipeD ε6 vs1) ∧
          lcFold tg1 tt1 te vs1 (wipeD ε6 vs1) (fun acc' => wipeD (wipeD ε6 vs1) vs = wipeD ε1 vs ∧ lc2Fold tg tt di1 tg1 tt1 te vs vs1 (wipeD ε1 vs) (fun ys => R (.ow (.lst ys)) ε1) (xs.drop (i + 1)) acc') (ys.drop j) acc,
          ⟨_, rfl, Nat.zero_le _, F6, acc, accV, eB6, Same.refl _, f6, hD6, p2.mono e36.1, (r6.weak gB).wipe vs1, q6⟩, ?_⟩
        rintro j k H7 ⟨rfl, hj, F7, acc7, accV7, e7, s7, f7, h7, p7, r7, q7⟩
        have g7 := r7.guard h7 hB hn6
        obtain ⟨hgo1, hst1⟩ := ok1 F7 H7 _ _ _ s7 trivial g7
        by_cases hlt1 : j < ys.length
        · have hy : ys[j]? = some ys[j] := List.getElem?_eq_getElem hlt1
          obtain ⟨hy1, hy2⟩ := hgo1 j _ hy
          rw [List.drop_eq_getElem_cons hlt1] at q7
          refine .inr ⟨hy1, fun H' => ∃ F' acc accV, Ext B F1 F' ∧ Same F6 F' ∧ F' D = none ∧ H' D = some (.lst accV) ∧ Rps K F' acc accV ∧ Rep K B F' H' (L2.wipe σ4 vs1) (wipeD ε6 vs1) ∧
            lcFold tg1 tt1 te vs1 (wipeD ε6 vs1) (fun acc' => wipeD (wipeD ε6 vs1) vs = wipeD ε1 vs ∧ lc2Fold tg tt di1 tg1 tt1 te vs vs1 (wipeD ε1 vs) (fun ys => R (.ow (.lst ys)) ε1) (xs.drop (i + 1)) acc') (ys.drop (j + 1)) acc,
            fun H' ⟨F', acc', accV', z1, z0, z2, z3, z4, z5, z6⟩ => ⟨_, by omega, rfl, hlt1, F', acc', accV', z1, z0, z2, z3, z4, z5, z6⟩, fun x1 H8 y1 => ?_⟩
          obtain ⟨F8, e8, r8, p8, s8⟩ := hy2 x1 H8 y1
          refine tg_ok r8 p8 hix1' q7 fun σ9 ε9 r9 w9 q9 => ⟨w9.trans (wipe_wipe vs1 vs1 fun _ h => h), ?_⟩
          have w9' : L2.wipe σ9 vs1 = L2.wipe σ4 vs1 := w9.trans (wipe_wipe vs1 vs1 fun _ h => h)
          refine ⟨ε9, _, F8, _, EF, r9, q9, fun b1 H10 F10 ε10 e10 r10 q10 => ?_, fun _ _ _ _ _ _ _ _ _ z => z.elim⟩
          have e810 := e8.trans e10
          have hD10 : H10 D = some (.lst accV7) := r10.bh D _ gD
          have f10 : F10 D = none := e810.2 D f7 (by rw [gD]; exact Option.some_ne_none _)
          have back1 : ∀ {H' F' : Hp} {ε' : Sg}, Rep K (B.add D (.lst accV7)) F' H' σ9 ε' → wipeD ε' vs1 = wipeD ε6 vs1 → Rep K B F' H' (L2.wipe σ4 vs1) (wipeD ε6 vs1) := fun {H' F' ε'} r' we' => by
            have z := (r'.weak gB).wipe vs1
            rw [we', w9'] at z
            exact z
          replace q10 := ifb q10
          cases b1 with
          | false =>
            obtain ⟨we10, q10⟩ := q10
            exact ⟨F10, acc7, accV7, e7.trans (e810.weak gB), fun b u z => e810.1 b u (s7 b u z), f10, hD10, p7.mono e810.1, back1 r10 we10, q10⟩
          | true =>
            refine ⟨ε10, _, F10, _, EF, r10, q10, fun v H11 F11 z ε11 e11 r11 rv11 q11 => ?_, fun _ _ _ _ _ _ _ _ _ z => z.elim⟩
            obtain ⟨F12, ε12, d, e12, r12, p12, ⟨we12, hz, q12⟩, _⟩ := frz_ok r11 rv11 q11
            have e37 := (e810.trans e11).trans e12
            have hD12 : H11 D = some (.lst accV7) := r12.bh D _ gD
            have f12 : F12 D = none := e37.2 D f7 (by rw [gD]; exact Option.some_ne_none _)
            refine ⟨accV7, hD12, by rw [(p7.mono e37.1).length]; exact hz, F12, acc7 ++ [d], accV7 ++ [v], e7.trans (e37.weak gB), fun b u z => e37.1 b u (s7 b u z), f12, upd_same, (p7.mono e37.1).append (Rps.one p12), ?_, q12⟩
            have rb := back1 r12 we12
            refine ⟨fun b u q => ?_, fun b u q => ?_, rb.len, fun j s ej => ?_, rb.sep⟩
            · rw [upd_ne (ne_of_none q f12)]; exact rb.fh b u q
            · rw [upd_ne (ne_of_none q hB)]; exact rb.bh b u q
            · obtain ⟨w, h1, h2'⟩ := rb.val j s ej
              refine ⟨w, h1, ?_⟩
              cases s with
              | p d => exact h2'
              | ow k n =>
                obtain ⟨b, y1, y2, y3, y4⟩ := h2'
                subst y1
                have hbD : b ≠ D := fun z => by
                  subst z
                  exact hn6 j k n ej h1
                exact ⟨b, rfl, y2.move (Same.refl _) (upd_ne hbD), y3, y4⟩
        · have e : j = ys.length := by omega
          subst e
          rw [List.drop_length] at q7
          obtain ⟨we7, q7⟩ := q7
          have z := r7.wipe vs
          rw [we7, wipe_wipe vs1 vs hvs', w4'] at z
          exact .inl ⟨hst1, F7, acc7, accV7, e7, f7, h7, p7, z, q7⟩
    · have e : i = xs.length := by omega
      subst e
      rw [List.drop_length] at q2
      refine .inl ⟨hst, ?_⟩
      have rr : Rep K B F2 H2 σ ε1 := by
        refine ⟨r2.fh, r2.bh, r1.len, fun j s ej => ?_, fun j k l1 l2 n m a hjk ej ek sj sk => ?_⟩
        · by_cases hj : j ∈ vs
          · have hz : (match ε1[j]? with | some (some (Sl.ow _ _)) => false | _ => true) = true := (List.all_eq_true.mp hof) j hj
            rw [ej] at hz
            cases s with
            | ow k n => cases hz
            | p d =>
              obtain ⟨v, h1, h2'⟩ := r1.val j _ ej
              exact ⟨v, h1, Rp.mono e2.1 h2'⟩
          · obtain ⟨v, h1, h2'⟩ := r2.val j s (by rw [wipeD_keep hj]; exact ej)
            exact ⟨v, (L2.wipe_some h1).1, h2'⟩
        · have hj : ∀ {j : Nat} {k : Option Nat} {n : Nd}, ε1[j]? = some (some (Sl.ow k n)) → j ∉ vs := fun {j k n} ej hj => by
            have hz : (match ε1[j]? with | some (some (Sl.ow _ _)) => false | _ => true) = true := (List.all_eq_true.mp hof) j hj
            rw [ej] at hz
            cases hz
          exact r1.sep j k l1 l2 n m a hjk ej ek sj sk
      refine c _ H2 F2 (.ow (.lst acc)) ε1 (e1.trans e2) rr ⟨D, rfl, ⟨accV, h2, p2⟩, f2, hB, fun j k m ej es => ?_⟩ q2
      obtain ⟨v, h1, h2'⟩ := r1.val j _ ej
      obtain ⟨a, y1, y2, _⟩ := h2'
      rw [es] at h1
      have e9 : V.ref D = v := Option.some.inj (Option.some.inj h1)
      subst e9
      cases y1
      obtain ⟨o, ho⟩ := y2.there
      rw [hD] at ho; cases ho
end
section
variable {X : Cx} {W : WX} {elt tg iter tg1 iter1 : Expr} {ifs ifs1 : List Expr} {scope : Scope} {own : List (Str × Nat)} {vs1 : List Nat} {pos : Pos} {di di1 : DI} {g g1 : Tg} {tt tt1 : DT} {te : DE}
theorem de_lc2 (hc : X.calm = true) (hN : X.N.Nodup) (hi : PI X tg iter (liftI X.K W di)) (ok : BlkOk X.N X.env.scope scope own) (hv : ∀ i ∈ vs1, i ∈ own.map (·.2))
    (hg : ∀ (s : Shared) (H : Hp) (C : Addr) (cl : List (Str × Addr)) (fp : List Addr), PG (X.blk s H scope (compEnvC scope cl C X.env) fp) tg (tgG X.K g))
    (ht : ∀ (s : Shared) (H : Hp) (C : Addr) (cl : List (Str × Addr)) (fp : List Addr), PTs (X.blk s H scope (compEnvC scope cl C X.env) fp) ifs (liftT X.K WF tt))
    (hi1 : ∀ (s : Shared) (H : Hp) (C : Addr) (cl : List (Str × Addr)) (fp : List Addr), PI (X.blk s H scope (compEnvC scope cl C X.env) fp) tg1 iter1 (liftI X.K WF di1))
    (hg1 : ∀ (s : Shared) (H : Hp) (C : Addr) (cl : List (Str × Addr)) (fp : List Addr), PG (X.blk s H scope (compEnvC scope cl C X.env) fp) tg1 (tgG X.K g1))
    (ht1 : ∀ (s : Shared) (H : Hp) (C : Addr) (cl : List (Str × Addr)) (fp : List Addr), PTs (X.blk s H scope (compEnvC scope cl C X.env) fp) ifs1 (liftT X.K WF tt1))
    (he : ∀ (s : Shared) (H : Hp) (C : Addr) (cl : List (Str × Addr)) (fp : List Addr), PE (X.blk s H scope (compEnvC scope cl C X.env) fp) elt (lift X.K WF te)) (hs : ∀ x, foldedSetIterable iter X.env x = pure x := by intro _; rfl) (hs1 : ∀ env x, foldedSetIterable iter1 env x = pure x := by intro _ _; rfl) :
    PE X (.ListComp elt [⟨tg, iter, ifs, 0⟩, ⟨tg1, iter1, ifs1, 0⟩] scope pos) (lift X.K W (dLc2 di g tt di1 g1 tt1 te (own.map (·.2)) vs1)) := PE_imp (pe_lc2 hc hN hi ok hv hg ht hi1 hg1 ht1 he hs hs1) fun _ _ _ => lift_lc2
theorem ds_setLc2 {i : Nat} {y : Str} {py spos : Pos} (hc : X.calm = true) (hN : X.N.Nodup) (hy : X.N[i]? = some y) (hyl : X.env.scope.names.lookup y = some .local)
    (hsw : swapsWith (.ListComp elt [⟨tg, iter, ifs, 0⟩, ⟨tg1, iter1, ifs1, 0⟩] scope pos) (some (.Name y py)) spos.line X.env = pure true) (hi : PI X tg iter (liftI X.K W di)) (ok : BlkOk X.N X.env.scope scope own) (hv : ∀ i ∈ vs1, i ∈ own.map (·.2))
    (hg : ∀ (s : Shared) (H : Hp) (C : Addr) (cl : List (Str × Addr)) (fp : List Addr), PG (X.blk s H scope (compEnvC scope cl C X.env) fp) tg (tgG X.K g))
    (ht : ∀ (s : Shared) (H : Hp) (C : Addr) (cl : List (Str × Addr)) (fp : List Addr), PTs (X.blk s H scope (compEnvC scope cl C X.env) fp) ifs (liftT X.K WF tt))
    (hi1 : ∀ (s : Shared) (H : Hp) (C : Addr) (cl : List (Str × Addr)) (fp : List Addr), PI (X.blk s H scope (compEnvC scope cl C X.env) fp) tg1 iter1 (liftI X.K WF di1))
    (hg1 : ∀ (s : Shared) (H : Hp) (C : Addr) (cl : List (Str × Addr)) (fp : List Addr), PG (X.blk s H scope (compEnvC scope cl C X.env) fp) tg1 (tgG X.K g1))
    (ht1 : ∀ (s : Shared) (H : Hp) (C : Addr) (cl : List (Str × Addr)) (fp : List Addr), PTs (X.blk s H scope (compEnvC scope cl C X.env) fp) ifs1 (liftT X.K WF tt1))
    (he : ∀ (s : Shared) (H : Hp) (C : Addr) (cl : List (Str × Addr)) (fp : List Addr), PE (X.blk s H scope (compEnvC scope cl C X.env) fp) elt (lift X.K WF te)) (hs : ∀ x, foldedSetIterable iter X.env x = pure x := by intro _; rfl) (hs1 : ∀ env x, foldedSetIterable iter1 env x = pure x := by intro _ _; rfl) :
    PS X (.Assign [.Name y py] (.ListComp elt [⟨tg, iter, ifs, 0⟩, ⟨tg1, iter1, ifs1, 0⟩] scope pos) spos) (liftS X.K W (dSet (dLc2 di g tt di1 g1 tt1 te (own.map (·.2)) vs1) (gN i))) := by
  refine PS_imp (ps_setLc2 hc hN hy hyl hsw hi ok hv hg ht hi1 hg1 ht1 he hs hs1) fun D σ H h => ?_
  obtain ⟨ε, B, F, R, RE, r, t, c, we⟩ := lift_set h
  have h2 : lift X.K W (dLc2 di g tt di1 g1 tt1 te (own.map (·.2)) vs1) σ H fun x H1 => gName i x σ H1 D.nx := ⟨ε, B, F, R, RE, r, t, fun v H' F' x ε' e r' rv q => lift_gN (c v H' F' x ε' e r' rv q), we⟩
  exact lift_lc2 h2
end
end DL

set_option maxHeartbeats 1000000
/-! DR4: zip(reversed(t), reversed(u)) of tuples. -/
namespace RT
open PySem PySem.Spec PyProof.Rows L2 HT
section
variable {prog : Program} {w : World} {A : Around} {E : Value → Shared → Prop} {s : Shared}
theorem nextOf_rt_item {it t : Addr} {i : Nat} {items : Array Value} {x : Value} {Q : Value → Shared → Prop} (hit : IsRt s.heap it t (i : Int)) (ht : IsTup s.heap t items) (hx : items[i]? = some x) (hsz : items.size ≤ sizeLine)
    (hQ : ∀ h', IsRt h' it t ((i : Int) - 1) → Heap.SameBut it s.heap h' → Q x { s with heap := h', toks := s.toks + 1 }) : wpAny (model prog w) A (Builtin.SmallTypes.nextOf (.ref it)) Q E s := by
  obtain ⟨o, ho, hc, hd⟩ := id hit
  have hi : i < items.size := (Array.getElem?_eq_some_iff.mp hx).1
  have hT : s.TypeIs (.ref t) "tuple" := IsTup.typeOf' ht
  rw [sizeLine_eq] at hsz
  unfold Builtin.SmallTypes.nextOf
  refine wpAny_bind (wpAny_callSpecial?_slot (name := Str.ofString "__next__") hit.typeIs slot_rt_next
    (wpAny_call_entry slot_rt_next hit.typeIs entry_rt_next ?_ (args_rt_next _)))
  unfold Builtin.«reversed.__next__»
  refine wpAny_bind (wpAny_of_eq (a := (Value.ref it, [])) rfl ?_)
  try dsimp only
  refine wpAny_bind (wpAny_field ho hd (x := .ref t) rfl ?_)
  try dsimp only
  refine wpAny_bind (wpAny_field ho hd (x := rawInt (i : Int)) rfl ?_)
  show wpAny _ _ (if (i : Int) < 0 then _ else _) _ _ s
  rw [if_neg (by omega)]
  try dsimp only
  refine wpAny_bind (wpAny_specialOf hT get_tuple ?_)
  try dsimp only
  try rw [if_neg (by decide)]
  try dsimp only
  refine wpAny_bind (wpAny_mkInt ?_)
  refine wpAny_bind (wpAny_attempt ?_)
  have fin : seqIndex? (i : Int) items.size = some i := seqIndex_of (by omega) (by omega)
  refine PyProof.Rows.getItem_tuple (s := { s with toks := s.toks + 1 }) ht (by omega) (by omega) fin hx ?_
  try dsimp only
  refine wpAny_bind (wpAny_field (s := { s with toks := s.toks + 1 }) ho hd (x := rawInt (i : Int)) rfl ?_)
  try dsimp only
  refine wpAny_bind (wpAny_setField (s := { s with toks := s.toks + 1 }) ho hd (by simp) ?_)
  first
  | refine wpAny_pure ⟨x, rfl, wpAny_pure (hQ _ ?_ (Heap.SameBut.update ..))⟩
  | refine wpAny_bind (wpAny_pure (wpAny_pure ⟨x, rfl, wpAny_pure (hQ _ ?_ (Heap.SameBut.update ..))⟩))
  exact ⟨_, Heap.get?_update_self _ ho (Obj.isFreed_of_fields (Obj.data_mapFields hd _)), (Obj.cls_mapFields ..).trans hc, by
    rw [Obj.data_mapFields hd]; simp⟩
theorem nextOf_rt_end {it t : Addr} {Q : Value → Shared → Prop} (hh : A.handled = none) (hit : IsRt s.heap it t (-1))
    (hE : ∀ h' e, Heap.ExtBut it s.heap h' → (∃ o, h'.get? e = some o ∧ o.cls = .type "StopIteration") → E (.ref e) { s with heap := h' }) : wpAny (model prog w) A (Builtin.SmallTypes.nextOf (.ref it)) Q E s := by
  obtain ⟨o, ho, hc, hd⟩ := id hit
  unfold Builtin.SmallTypes.nextOf
  refine wpAny_bind (wpAny_callSpecial?_slot (name := Str.ofString "__next__") hit.typeIs slot_rt_next
    (wpAny_call_entry slot_rt_next hit.typeIs entry_rt_next ?_ (args_rt_next _)))
  unfold Builtin.«reversed.__next__»
  refine wpAny_bind (wpAny_of_eq (a := (Value.ref it, [])) rfl ?_)
  try dsimp only
  refine wpAny_bind (wpAny_field ho hd (x := .ref t) rfl ?_)
  try dsimp only
  refine wpAny_bind (wpAny_field ho hd (x := rawInt (-1)) rfl ?_)
  show wpAny _ _ (if (-1 : Int) < 0 then _ else _) _ _ s
  rw [if_pos (by decide)]
  try dsimp only
  refine wpAny_bind (wpAny_rule ?_)
  refine wpAny_bind ?_
  wp_delta
  refine wpAny_bind (wpAny_setField ho hd (by simp) ?_)
  have ho2 := Heap.get?_update_self (Obj.mapFields (·.setIfInBounds 1 (rawInt (-1)))) ho (Obj.isFreed_of_fields (Obj.data_mapFields hd _))
  refine wpAny_setField (s := { s with heap := s.heap.update it (Obj.mapFields (·.setIfInBounds 1 (rawInt (-1)))) }) ho2 (Obj.data_mapFields hd _) (by simp) ?_
  try dsimp only
  first
  | show wpAny _ _ (newExc (.type "StopIteration") [] >>= _) _ _ _
  | (refine wpAny_bind ?_; show wpAny _ _ (newExc (.type "StopIteration") [] >>= _) _ _ _)
  | (refine wpAny_bind ?_; wp_delta; show wpAny _ _ (newExc (.type "StopIteration") [] >>= _) _ _ _)
  refine wpAny_bind ?_
  simp only [newExc, newTuple]
  refine wpAny_bind (wpAny_newObj_type ?_ (by size_fits))
  refine wpAny_bind (m := firstArgMember _ _) (wpAny_of_eq (a := Value.none) (by first | rfl | (simp only [firstArgMember]; rfl)) ?_)
  refine wpAny_newObj_type ?_ (by size_fits)
  simp only [raiseNew]
  refine wpAny_bind (wpAny_handled ?_)
  first | rw [show A.in1.handled = none from hh] | rw [hh]
  refine wpAny_bind (wpAny_pure (wpAny_throw ?_))
  refine hE _ _ (((?_ : Heap.ExtBut it s.heap _).push _).push _) ⟨_, Heap.get?_push_size _ rfl, rfl⟩
  exact fun b ob hb e => (Heap.get?_update_other _ _ (Ne.symm hb)).trans ((Heap.get?_update_other _ _ (Ne.symm hb)).trans e)
theorem Draws.rt (hh : A.handled = none) (it t : Addr) (hne : t ≠ it) (items : Array Value) (hsz : items.size ≤ sizeLine) :
    Draws prog w A it [it, t] items.size (fun i v => items[items.size - 1 - i]? = some v) (fun i h => i ≤ items.size ∧ IsRt h it t ((items.size : Int) - 1 - (i : Int)) ∧ IsTup h t items) where
  live := fun _ _ st => let ⟨o, ho, _⟩ := st.2.1; ⟨o, ho⟩
  frame := fun _ _ _ x hk => ⟨x.1, x.2.1.at fun o e => hk it (by simp) o e, by obtain ⟨o, ho, r⟩ := x.2.2; exact ⟨o, hk t (by simp) o ho, r⟩⟩
  item := fun i s Q E hi x hQ => by
    have e : (items.size : Int) - 1 - (i : Int) = ((items.size - 1 - i : Nat) : Int) := by omega
    have hit := x.2.1
    rw [e] at hit
    have hx : items[items.size - 1 - i]? = some (items[items.size - 1 - i]'(by omega)) := Array.getElem?_eq_getElem (by omega)
    refine nextOf_rt_item hit x.2.2 hx hsz fun h' hit' hs' => ?_
    have e2 : ((items.size - 1 - i : Nat) : Int) - 1 = (items.size : Int) - 1 - ((i + 1 : Nat) : Int) := by omega
    rw [e2] at hit'
    exact hQ _ h' (s.toks + 1) hx ⟨hi, hit', by obtain ⟨o, ho, r⟩ := x.2.2; exact ⟨o, (hs'.2 t hne).trans ho, r⟩⟩ hs'
  done := fun s Q E x hE => by
    have e : (items.size : Int) - 1 - (items.size : Int) = -1 := by omega
    have hit := x.2.1
    rw [e] at hit
    exact nextOf_rt_end hh hit hE
end
theorem revV {xs : List V} {its : List Value} (rv : Vals xs its) {j : Nat} {u : Value} (h : its.toArray[its.toArray.size - 1 - j]? = some u) (hj : j < xs.length) : ∃ x, xs.reverse[j]? = some x ∧ RelV x u := by
  have hl := rv.length
  rw [List.size_toArray, List.getElem?_toArray] at h
  obtain ⟨x, hx, r⟩ := valsV rv h
  refine ⟨x, ?_, r⟩
  rw [List.getElem?_reverse hj, hl]
  exact hx
def srcRt (P : Program) (w : World) (K : PySem.W.Frag) (a : Addr) (xs : List V) : Src0 P w K where
  xs := xs.reverse
  fp := [a]
  here H := SqT K H a xs
  tn it i h := i ≤ xs.length ∧ IsRt h it a ((xs.length : Int) - 1 - (i : Int))
  obj it i h t := by obtain ⟨_, o, e, _, d⟩ := t; exact ⟨o, e, fun v q => by rw [d] at q; cases q⟩
  keep it i h h' t k := ⟨t.1, t.2.at fun o e => k o e⟩
  draw X hP hw hK pins s σ H I hq A it i hh hne t := by
    subst hP hw hK
    obtain ⟨its, rv, p, hz⟩ := I.tuple hq
    have hl : xs.length = its.toArray.size := by rw [List.size_toArray]; exact rv.length
    have hl2 : xs.reverse.length = its.toArray.size := by rw [List.length_reverse]; exact hl
    have hne' : a ≠ it := fun e => hne (by simp [e])
    refine ⟨fun i v => i < its.toArray.size ∧ its.toArray[its.toArray.size - 1 - i]? = some v, fun i h => i ≤ its.toArray.size ∧ IsRt h it a ((its.toArray.size : Int) - 1 - (i : Int)) ∧ IsTup h a its.toArray, ?_, ⟨by rw [← hl]; exact t.1, by rw [← hl]; exact t.2, p⟩, fun j h st => ⟨by rw [hl]; exact st.1, by rw [hl]; exact st.2.1⟩, fun j u pu => revV rv pu.2 (by rw [hl]; exact pu.1)⟩
    show Draws _ _ _ it [it, a] xs.reverse.length _ _
    rw [hl2]
    have D := Draws.rt (prog := X.prog) (w := X.w) hh it a hne' its.toArray (by rw [← hl]; exact hz)
    exact { live := D.live, frame := D.frame, item := fun i s Q E hi st hQ => D.item i s Q E hi st fun x h' tk px st' sb => hQ x h' tk ⟨hi, px⟩ st' sb, done := D.done }
abbrev ziT (h : Heap) (i1 i2 : Addr) : Heap := h.push { cls := .type "tuple", data := .seq #[.ref i1, .ref i2] }
abbrev ziO (h : Heap) (i1 i2 : Addr) : Heap := (ziT h i1 i2).push { cls := .type "tuple", data := .seq #[.none, .none] }
abbrev ziZ (h : Heap) (i1 i2 : Addr) : Heap := (ziO h i1 i2).push { cls := .type "zip", data := .fields #[.none, .bool false, .bool false, .ref h.objs.size, .ref (ziT h i1 i2).objs.size] }
def SelfIt (i : Addr) (h : Heap) : Prop := ∀ (prog : Program) (w : World) (A : Around) (E : Value → Shared → Prop) (s : Shared) (Q : Value → Shared → Prop), s.heap = h → Q (.ref i) s → wpAny (model prog w) A (pyIter (.ref i)) Q E s
theorem meets_zip_newI2 {i1 i2 : Addr} :
    Meets (Builtin.«zip.__new__» ⟨[.type "zip", .ref i1, .ref i2], []⟩) (fun _ R s => (SelfIt i1 s.heap ∧ SelfIt i2 s.heap) ∧
      R (.ok (.ret (.ref (ziO s.heap i1 i2).objs.size))) { s with heap := ziZ s.heap i1 i2 }) :=
  .of_wp fun prog w A R s h => by
    obtain ⟨hp, g, d, tk, os⟩ := s; obtain ⟨⟨h1, h2⟩, h⟩ := h
    have hsub := sub_zip
    have q1 : ∀ {A' : Around} {E : Value → Shared → Prop} {Q : Value → Shared → Prop}, Q (.ref i1) ⟨hp, g, d, tk, os⟩ → wpAny (model prog w) A' (pyIter (.ref i1)) Q E ⟨hp, g, d, tk, os⟩ :=
      fun q => h1 prog w _ _ ⟨hp, g, d, tk, os⟩ _ rfl q
    have q2 : ∀ {A' : Around} {E : Value → Shared → Prop} {Q : Value → Shared → Prop}, Q (.ref i2) ⟨hp, g, d, tk, os⟩ → wpAny (model prog w) A' (pyIter (.ref i2)) Q E ⟨hp, g, d, tk, os⟩ :=
      fun q => h2 prog w _ _ ⟨hp, g, d, tk, os⟩ _ rfl q
    wp_walk using q1, q2
    exact ⟨_, rfl, h⟩
theorem zip_self2 {prog : Program} {w : World} {A : Around} {E : Value → Shared → Prop} {s : Shared} {i1 i2 : Addr} {Q : Value → Shared → Prop} (h1 : SelfIt i1 s.heap) (h2 : SelfIt i2 s.heap)
    (h : ∀ h', IsZip h' (s.heap.objs.size + 2) s.heap.objs.size (s.heap.objs.size + 1) .none → IsTupOf2 h' s.heap.objs.size (.ref i1) (.ref i2) → IsTupOf2 h' (s.heap.objs.size + 1) .none .none →
      (∀ c o, s.heap.get? c = some o → h'.get? c = some o) → Q (.ref (s.heap.objs.size + 2)) { s with heap := h' }) :
    wpAny (model prog w) A (call (.type "zip") [.ref i1, .ref i2]) Q E s := by
  refine callType_new F.called_zip (by decide) (F.typeCall_zip_2 _ _) (F.newCall_zip_2 _ _) (fun obj => F.args_object_init_3 obj _ _) F.entry_zip_new
    meets_zip_newI2 ⟨⟨h1, h2⟩, ?_⟩
  have zT : (ziT s.heap i1 i2).objs.size = s.heap.objs.size + 1 := by rw [Heap.size_push]
  have zO : (ziO s.heap i1 i2).objs.size = s.heap.objs.size + 2 := by rw [Heap.size_push, zT]
  have gZ : (ziZ s.heap i1 i2).get? (ziO s.heap i1 i2).objs.size = some { cls := .type "zip", data := .fields #[.none, .bool false, .bool false, .ref s.heap.objs.size, .ref (ziT s.heap i1 i2).objs.size] } := Heap.get?_push_size _ rfl
  have gO : (ziZ s.heap i1 i2).get? (ziT s.heap i1 i2).objs.size = some { cls := .type "tuple", data := .seq #[.none, .none] } := Heap.get?_push_of_some _ (Heap.get?_push_size _ rfl)
  have gT : (ziZ s.heap i1 i2).get? s.heap.objs.size = some { cls := .type "tuple", data := .seq #[.ref i1, .ref i2] } := Heap.get?_push_of_some _ (Heap.get?_push_of_some _ (Heap.get?_push_size _ rfl))
  rw [zO, zT] at gZ
  rw [zT] at gO
  show _ ∧ _
  rw [zO]
  exact ⟨⟨_, gZ, rfl⟩, h _ gZ gT gO fun c o e => Heap.get?_push_of_some _ (Heap.get?_push_of_some _ (Heap.get?_push_of_some _ e))⟩
theorem self_rt {it t : Addr} {i : Int} {h : Heap} (hit : IsRt h it t i) : SelfIt it h := fun prog w A E s Q e q => iter_rt (s := s) (by rw [e]; exact hit) q
theorem notin2 {x y z : Nat} (h1 : x ≠ y) (h2 : x ≠ z) : x ∉ [y, z] := by simp; exact ⟨h1, h2⟩
theorem sepR {N r a b : Nat} (h1 : a < r) (h2 : r < N) (h3 : b < N) (nb : r ≠ b) : ZipSep2 (N + 1 + 2) (N + 1) (N + 1 + 1) r N [r, a] [N, b] :=
  { TIz := show (N + 1 : Nat) ≠ N + 1 + 2 by omega, TOz := show (N + 1 + 1 : Nat) ≠ N + 1 + 2 by omega, TITO := show (N + 1 : Nat) ≠ N + 1 + 1 by omega, TIi1 := show (N + 1 : Nat) ≠ r by omega, mem1 := List.mem_cons_self ..,
    zf1 := notin2 (show (N + 1 + 2 : Nat) ≠ r by omega) (show (N + 1 + 2 : Nat) ≠ a by omega), Tf1 := notin2 (show (N + 1 + 1 : Nat) ≠ r by omega) (show (N + 1 + 1 : Nat) ≠ a by omega),
    TIi2 := show (N + 1 : Nat) ≠ N by omega, mem2 := List.mem_cons_self .., zf2 := notin2 (show (N + 1 + 2 : Nat) ≠ N by omega) (show (N + 1 + 2 : Nat) ≠ b by omega), Tf2 := notin2 (show (N + 1 + 1 : Nat) ≠ N by omega) (show (N + 1 + 1 : Nat) ≠ b by omega),
    sep1_2 := notin2 (show (r : Nat) ≠ N by omega) nb, sep2_1 := notin2 (show (N : Nat) ≠ r by omega) (show (N : Nat) ≠ a by omega) }
theorem not1 {x y : Nat} (h : y < x) : x ∉ [y] := by simp; omega
theorem le3 {N c : Nat} (h : c = N + 1 + 2 ∨ c = N + 1 ∨ c = N + 1 + 1 ∨ c = N) : N ≤ c := by omega
/-- zip(reversed(x), reversed(y)), x, y tuples -/
def iZipR (P : Program) (w : World) (K : PySem.W.Frag) (te te2 : TE) : TI := fun σ H R => te σ H fun v H1 => ∃ (a : Addr) (xs : List V), v = .ref a ∧ SqT K H1 a xs ∧ te2 σ H1 fun v2 H2 => ∃ (b : Addr) (ys : List V), v2 = .ref b ∧ SqT K H2 a xs ∧ SqT K H2 b ys ∧ R (ItZ (srcRt P w K a xs) (srcRt P w K b ys)) H2
theorem pi_zipR {X : Cx} {e e2 : Expr} {te te2 : TE} {p p2 p3 pos pos2 pos3 tpos : Pos} {elts : List Expr} {kk : Nat} (hg : Gl X "zip") (hm : X.mg "zip" = none) (hg2 : Gl X "reversed") (hm2 : X.mg "reversed" = none) (he : PE X e te) (he2 : PE X e2 te2)
    (hs1 : starEach [e] X.env = (false, eval e X.env) :: starEach [] X.env := by rfl) (hs2 : starEach [e2] X.env = (false, eval e2 X.env) :: starEach [] X.env := by rfl)
    (hs : starEach [.Call (.Name "reversed" p2) [e] [] pos2, .Call (.Name "reversed" p3) [e2] [] pos3] X.env = (false, eval (.Call (.Name "reversed" p2) [e] [] pos2) X.env) :: starEach [.Call (.Name "reversed" p3) [e2] [] pos3] X.env := by rfl)
    (hs3 : starEach [.Call (.Name "reversed" p3) [e2] [] pos3] X.env = (false, eval (.Call (.Name "reversed" p3) [e2] [] pos3) X.env) :: starEach [] X.env := by rfl)
    (hpl : (backTo pos (starEach [.Call (.Name "reversed" p3) [e2] [] pos3] X.env)).any (·.1) = false := by rfl) :
    PI X (.Tuple elts kk tpos) (.Call (.Name "zip" p) [.Call (.Name "reversed" p2) [e] [] pos2, .Call (.Name "reversed" p3) [e2] [] pos3] [] pos) (iZipR X.prog X.w X.K te te2) := by
  refine ⟨fun pins s σ H R I h => ?_⟩
  have hn63 := line63
  refine Call_ (ld_blt I hg hm PyProof.Rows.boot_zip (PyProof.Rows.callWith_type1 (args_cons (Call_ (ld_blt I hg2 hm2 PyProof.Rows.boot_reversed (PyProof.Rows.callWith_type1 (args_cons (thn (he.run pins s σ H _ I h) fun u s1 ⟨v, H1, I1, r1, q1⟩ => args_nil ?_) hs1) hs1 rfl))) hs) hs hpl))
  obtain ⟨a, xs, ev, hq, q⟩ := q1
  subst ev
  obtain rfl : u = Value.ref a := r1
  obtain ⟨its, rv, p', hz⟩ := I1.tuple hq
  have hl := rv.length
  refine call_reversed_tup p' (fun A E Q k => len_tuple p' (by simp only [List.size_toArray] <;> omega) k) ?_
  have fr1 : FpOk X pins H1 s1.heap.objs.size := I1.fpOk (Nat.le_refl _) (I1.hok.fresh (Nat.le_refl _))
  generalize hh2 : s1.heap.push (rtObj a ((its.toArray.size : Int) - 1)) = h2
  have k2 : ∀ c o, s1.heap.get? c = some o → h2.get? c = some o := fun c o e => by rw [← hh2]; exact Heap.get?_push_of_some _ e
  have g2 : h2.get? s1.heap.objs.size = some (rtObj a ((its.toArray.size : Int) - 1)) := by rw [← hh2]; exact Heap.get?_push_size _ rfl
  have I2 : Inv X pins σ H1 { s1 with heap := h2, toks := s1.toks + 1 + 1 } := I1.kept k2
  have I2p := I2.pinned (fp := [s1.heap.objs.size]) (fun b hb => by rw [List.mem_singleton.mp hb]; exact fr1) (fun b hb => by rw [List.mem_singleton.mp hb]; exact ⟨_, g2, fun v z => nomatch z⟩)
  refine args_cons (Call_ (ld_blt I2p hg2 hm2 PyProof.Rows.boot_reversed (PyProof.Rows.callWith_type1 (args_cons (thn (he2.run _ _ σ H1 _ I2p q) fun u2 s2 ⟨v2, H2, I3p, r2, q2⟩ => args_nil ?_) hs2) hs2 rfl))) hs3
  obtain ⟨b, ys, ev2, hqa, hqb, q⟩ := q2
  subst ev2
  obtain rfl : u2 = Value.ref b := r2
  obtain ⟨its2, rv2, p2', hz2⟩ := I3p.tuple hqb
  have hl2 := rv2.length
  refine call_reversed_tup p2' (fun A E Q k => len_tuple p2' (by simp only [List.size_toArray] <;> omega) k) (args_nil ?_)
  obtain ⟨pg, pH, pL, pF, pC⟩ := I3p.pin (s1.heap.objs.size, _) (List.mem_append_right _ (List.mem_append_right _ (mem_pinsAt (List.mem_singleton.mpr rfl) g2)))
  have I3 : Inv X pins σ H2 s2 := I3p.unpinned
  generalize hh3 : s2.heap.push (rtObj b ((its2.toArray.size : Int) - 1)) = h3
  have k3 : ∀ c o, s2.heap.get? c = some o → h3.get? c = some o := fun c o e => by rw [← hh3]; exact Heap.get?_push_of_some _ e
  have g3 : h3.get? s2.heap.objs.size = some (rtObj b ((its2.toArray.size : Int) - 1)) := by rw [← hh3]; exact Heap.get?_push_size _ rfl
  have z3 : h3.objs.size = s2.heap.objs.size + 1 := by rw [← hh3, Heap.size_push]
  have I4 : Inv X pins σ H2 { s2 with heap := h3, toks := s2.toks + 1 + 1 } := I3.kept k3
  have hr1 : IsRt h3 s1.heap.objs.size a ((its.toArray.size : Int) - 1) := ⟨_, k3 _ _ pg, rfl, rfl⟩
  have hr2 : IsRt h3 s2.heap.objs.size b ((its2.toArray.size : Int) - 1) := ⟨_, g3, rfl, rfl⟩
  have l1 : s1.heap.objs.size < s2.heap.objs.size := Heap.lt_size pg
  obtain ⟨its', rva, pa, _⟩ := I3.tuple hqa
  obtain ⟨oa, hoa, hca, _⟩ := id p'
  obtain ⟨ob, hob, hcb, _⟩ := id p2'
  have la : a < s1.heap.objs.size := Heap.lt_size hoa
  have lb : b < s2.heap.objs.size := Heap.lt_size hob
  have nb : s1.heap.objs.size ≠ b := fun e => by rw [← e, pg] at hob; cases hob; simp [rtObj] at hcb
  refine zip_self2 (s := { s2 with heap := h3, toks := s2.toks + 1 + 1 }) (self_rt hr1) (self_rt hr2) fun h' hz hTI hTO hk => wpAny_pyIter_zip hz ?_
  dsimp only at hz hTI hTO hk ⊢
  rw [z3] at hz hTI hTO ⊢
  have I5 : Inv X pins σ H2 { s2 with heap := h', toks := s2.toks + 1 + 1 } := I4.kept (t' := s2.toks + 1 + 1) hk
  have D := sepR la l1 lb nb
  refine ⟨s2.heap.objs.size + 1 + 2, [s2.heap.objs.size + 1 + 2, s2.heap.objs.size + 1, s2.heap.objs.size + 1 + 1, s1.heap.objs.size, s2.heap.objs.size], _, _, H2, rfl, I5, turn_zipS (srcRt X.prog X.w X.K a xs) (srcRt X.prog X.w X.K b ys) D (not1 la) (not1 lb),
    ⟨hz, hTI, ⟨_, _, hTO⟩, ⟨Nat.zero_le _, ?_⟩, ⟨Nat.zero_le _, ?_⟩⟩, fun c hcm => ?_, q⟩
  · have e : (xs.length : Int) - 1 - ((0 : Nat) : Int) = (its.toArray.size : Int) - 1 := by rw [List.size_toArray]; omega
    rw [e]; exact hr1.at fun o e => hk _ o e
  · have e : (ys.length : Int) - 1 - ((0 : Nat) : Int) = (its2.toArray.size : Int) - 1 := by rw [List.size_toArray]; omega
    rw [e]; exact hr2.at fun o e => hk _ o e
  · have e' : c = s2.heap.objs.size + 1 + 2 ∨ c = s2.heap.objs.size + 1 ∨ c = s2.heap.objs.size + 1 + 1 ∨ c = s1.heap.objs.size ∨ c = s2.heap.objs.size := by simpa using hcm
    have big : s2.heap.objs.size ≤ c → FpOk X pins H2 c := fun hle => I3.fpOk hle (I3.hok.fresh hle)
    rcases e' with z | z | z | z | z
    · exact big (le3 (.inl z))
    · exact big (le3 (.inr (.inl z)))
    · exact big (le3 (.inr (.inr (.inl z))))
    · rw [z]; exact ⟨pH, fr1.2.1, fr1.2.2.1, fr1.2.2.2.1, fr1.2.2.2.2⟩
    · exact big (le3 (.inr (.inr (.inr z))))
end RT

/-! DX10: zip(reversed(t), reversed(u)) of tuples. -/
namespace DL
open PySem PySem.Spec PyProof.Rows L2 RT
def diZipR (te te2 : DE) : DI := fun ε R E => te ε (fun x ε1 => match x with
  | .p (.tup xs) => te2 ε1 (fun y ε2 => match y with
    | .p (.tup ys) => R (zipL xs.reverse ys.reverse) ε2
    | _ => False) E
  | _ => False) E
theorem lift_zipR {K : PySem.W.Frag} {W : WX} {P : Program} {w : World} {te te2 : DE} {σ : L2.St} {H : Hp} {R : It → Hp → Prop} (h : liftI K W (diZipR te te2) σ H R) : iZipR P w K (lift K W te) (lift K W te2) σ H R := by
  obtain ⟨ε, B, F, R', RE, r, t, c, we⟩ := h
  refine ⟨ε, B, F, _, RE, r, t, fun v H1 F1 x ε1 e1 r1 rv q => ?_, we⟩
  split at q
  · rename_i xs
    obtain ⟨a, vs, rfl, hq, s⟩ := rv
    refine ⟨a, vs, rfl, sqT_mono r1.fh hq, ε1, B, F1, _, RE, r1, q, fun v2 H2 F2 y ε2 e2 r2 rv2 q2 => ?_, we.ext e1⟩
    split at q2
    · rename_i ys
      obtain ⟨b, vs2, rfl, hq2, s2⟩ := rv2
      have hq' := sqT_mono e2.1 hq
      exact ⟨b, vs2, rfl, sqT_mono r2.fh hq', sqT_mono r2.fh hq2, c _ H2 F2 _ ε2 (e1.trans e2) r2
        (ok_zip (S1 := srcRt P w K a vs) (S2 := srcRt P w K b vs2) ⟨fun F' z => sqT_mono z hq', (s.mono e2.1).reverse⟩ ⟨fun F' z => sqT_mono z hq2, s2.reverse⟩) q2⟩
    · exact q2.elim
  · exact q.elim
theorem di_zipR {X : Cx} {W : WX} {e e2 : Expr} {te te2 : DE} {p p2 p3 pos pos2 pos3 tpos : Pos} {elts : List Expr} {kk : Nat} (hm : X.mg "zip" = none) (hm2 : X.mg "reversed" = none) (he : PE X e (lift X.K W te)) (he2 : PE X e2 (lift X.K W te2)) (hg : Gl X "zip" := by rfl) (hg2 : Gl X "reversed" := by rfl)
    (hs1 : starEach [e] X.env = (false, eval e X.env) :: starEach [] X.env := by rfl) (hs2 : starEach [e2] X.env = (false, eval e2 X.env) :: starEach [] X.env := by rfl)
    (hs : starEach [.Call (.Name "reversed" p2) [e] [] pos2, .Call (.Name "reversed" p3) [e2] [] pos3] X.env = (false, eval (.Call (.Name "reversed" p2) [e] [] pos2) X.env) :: starEach [.Call (.Name "reversed" p3) [e2] [] pos3] X.env := by rfl)
    (hs3 : starEach [.Call (.Name "reversed" p3) [e2] [] pos3] X.env = (false, eval (.Call (.Name "reversed" p3) [e2] [] pos3) X.env) :: starEach [] X.env := by rfl)
    (hpl : (backTo pos (starEach [.Call (.Name "reversed" p3) [e2] [] pos3] X.env)).any (·.1) = false := by rfl) :
    PI X (.Tuple elts kk tpos) (.Call (.Name "zip" p) [.Call (.Name "reversed" p2) [e] [] pos2, .Call (.Name "reversed" p3) [e2] [] pos3] [] pos) (liftI X.K W (diZipR te te2)) := PI_imp (pi_zipR hg hm hg2 hm2 he he2 hs1 hs2 hs hs3 hpl) fun _ _ _ => lift_zipR
end DL

namespace DL
open PySem PySem.Spec PyProof.Rows L2 RT
theorem extend_tupX (l : Addr) (items : Array Value) (n : Nat) (b : Addr) (items2 : Array Value) (n2 : Nat) (dd : Option Addr) (sl : Array (Option Value)) (hs0 : ¬(!items.isEmpty && Builtin.List.listTooLong (items.size + items2.size)) = true) (hs1 : items.size ≤ sizeLine) (hs2 : items.size + items2.size ≤ sizeLine + 1) :
    Meets (Builtin.«list.extend» ⟨[.ref l, .ref b], []⟩) (fun _ R s => s.heap.get? l = some { cls := .type "list", dict := none, data := .seq items n, slots := #[] } ∧ s.heap.get? b = some { cls := .type "tuple", dict := dd, data := .seq items2 n2, slots := sl } ∧ R (.ok (.ret Value.none)) { s with heap := s.heap.update l (Obj.mapSeq fun x => x ++ items2), toks := s.toks }) :=
  .of_wp fun prog w A R s h => by
    obtain ⟨hp, g, d, tk, os⟩ := s; obtain ⟨hl, hb, h⟩ := h; have f1 := AutoSeq1.idx_int; have f2 := AutoSeq1.sub_tuple_tuple; have f3 := AutoSeq1.sub_list_list; have f4 := AutoSeq1.sub_tuple_list; have f5 := AutoSeq1.sub_list_tuple;
    have hz' : (items ++ items2).size ≤ sizeLine + 1 := by rw [Array.size_append]; exact hs2
    wp_walk using (wpAny_updateSeq hl rfl (hz := hs1) (_hz' := hz')), AutoSeq1.wpAny_loadPart' hl, AutoSeq1.wpAny_loadPart' hb; exact ⟨_, rfl, h⟩
def rExtT (K : PySem.W.Frag) : V → List V → Hp → VK → Prop := fun x vs H Q => ∃ l b xs zs, x = .ref l ∧ vs = [.ref b] ∧ H l = some (.lst xs) ∧ SqT K H b zs ∧ xs.length + zs.length ≤ sizeLine ∧ Q .non (upd H l (.lst (xs ++ zs)))
theorem mt_extendT {X : Cx} : MtM X "list.extend" (rExtT X.K) := by
  intro pins s σ H x vs v us Q I rx rv h
  obtain ⟨l, b, xs, zs, rfl, rfl, hH, hB, hz, q⟩ := h
  cases rx
  obtain ⟨u, rfl, ru⟩ := rv.one
  cases ru
  obtain ⟨z, its, n, r, hl, e⟩ := I.lstM hH
  obtain ⟨its2, r2, p2, hl2⟩ := I.tuple hB
  obtain ⟨⟨cls2, dd2, data2, sl2⟩, ho2, hc2, n2, hd2⟩ := id p2
  simp only at hc2 hd2
  subst hc2 hd2
  have hll := r2.length
  have hsz : its.toArray.size + its2.toArray.size ≤ sizeLine := by rw [List.size_toArray, List.size_toArray]; omega
  have hlong : ¬ (!its.toArray.isEmpty && Builtin.List.listTooLong (its.toArray.size + its2.toArray.size)) = true := by
    rw [notLongL hsz, Bool.and_false]
    exact Bool.false_ne_true
  refine call_meets F.slot_list_extend ⟨_, e, rfl⟩ F.entry_list_extend (F.args_list_extend_2 _ _)
    (extend_tupX l its.toArray n b its2.toArray n2 dd2 sl2 hlong (by rw [List.size_toArray]; omega) (by omega)) ⟨e, ho2, ?_⟩
  refine ⟨.non, _, I.lset (its' := its ++ its2) hH e (by simp) (r.append r2) ?_, rfl, q⟩
  rw [List.length_append]
  omega
/-- xs.extend(ys), ys a list or a tuple -/
def extAq : MQ := fun xs ds R => match ds with
  | [.lst ys] => xs.length + ys.length ≤ sizeLine ∧ R .non (xs ++ ys)
  | [.tup ys] => xs.length + ys.length ≤ sizeLine ∧ R .non (xs ++ ys)
  | _ => False
def rExtA (K : PySem.W.Frag) : V → List V → Hp → VK → Prop := fun x vs H Q => rExtend x vs H Q ∨ rExtT K x vs H Q
theorem mt_extendA {X : Cx} : MtM X "list.extend" (rExtA X.K) := fun pins s σ H x vs v us Q I rx rv h => h.elim (mt_extend pins s σ H x vs v us Q I rx rv) (mt_extendT pins s σ H x vs v us Q I rx rv)
theorem mtd_extA {K : PySem.W.Frag} : MtD K (rExtA K) extAq := by
  intro F H a xs ds vs ws Q R s ha hx hd q c
  unfold extAq at q
  split at q
  · rename_i ys
    obtain ⟨w, r, rfl, h1, h2⟩ := hd.cons
    have e := h2.nil
    subst e
    obtain ⟨b, zs, rfl, hb, hz⟩ := h1
    exact .inl ⟨a, b, vs, zs, rfl, rfl, ha, s _ _ hb, by rw [hx.length, hz.length]; exact q.1, c .non .non _ _ rfl (hx.append hz) q.2⟩
  · rename_i ys
    obtain ⟨w, r, rfl, h1, h2⟩ := hd.cons
    have e := h2.nil
    subst e
    obtain ⟨b, zs, rfl, hb, hz⟩ := h1
    exact .inr ⟨a, b, vs, zs, rfl, rfl, ha, sqT_mono s hb, by rw [hx.length, hz.length]; exact q.1, c .non .non _ _ rfl (hx.append hz) q.2⟩
  · exact q.elim
theorem de_extendA {X : Cx} {W : WX} {o e : Expr} {es : List Expr} {ta : DA} {apos cpos : Pos} {i : Nat} (ho : PE X o (tVar i)) (ha : PA X (e :: es) (liftA X.K W ta))
    (hbase : attributeBase o "extend" X.env (eval o X.env) = eval o X.env := by rfl)
    (hfew : ((backTo cpos (starEach (e :: es) X.env)).all (fun x => !x.1) && (backToKw cpos (keywordEach [] X.env)).all (fun x => x.1.isSome)
      && decide ((e :: es).length + ([] : List Keyword).length + (if ([] : List Keyword).isEmpty then 0 else 1) < 30)) = true := by rfl)
    (hline : (apos.endLine == cpos.line) = true := by rfl) (hs : starEach (e :: es) X.env = (false, eval e X.env) :: starEach es X.env := by rfl) (hplain : (backTo cpos (starEach es X.env)).any (·.1) = false := by rfl) :
    PE X (.Call (.Attribute o "extend" apos) (e :: es) [] cpos) (lift X.K W (dMt i extAq ta)) :=
  PE_imp (pe_bm F.plainAttrs_list F.slot_list_extend F.type_list_extend mt_extendA ho ha hbase hfew hline hs hplain) fun _ _ _ => lift_mt mtd_extA
end DL

/-! DX12: list comprehensions in which an owned thing changes (calls by reference). -/
namespace DL
open PySem PySem.Spec L2
/-- what is owned was owned -/
def sameOw : Sg → Sg → Prop
  | [], [] => True
  | a :: r, b :: r' => (∀ k m, a = some (.ow k m) → ∃ k' m', b = some (.ow k' m')) ∧ sameOw r r'
  | _, _ => False
theorem sameOw.refl : ∀ ε : Sg, sameOw ε ε
  | [] => trivial
  | a :: r => ⟨fun k m e => ⟨k, m, e⟩, sameOw.refl r⟩
theorem sameOw.hd {k k' : Option Nat} {n n' : Nd} (l : Sg) : sameOw (some (.ow k n) :: l) (some (.ow k' n') :: l) := ⟨fun _ _ _ => ⟨_, _, rfl⟩, .refl l⟩
theorem sameOw.get : ∀ {ε ε' : Sg} {i : Nat} {k : Option Nat} {m : Nd}, sameOw ε ε' → ε[i]? = some (some (.ow k m)) → ∃ k' m', ε'[i]? = some (some (.ow k' m'))
  | [], _, _, _, _, _, e => by simp at e
  | _ :: _, [], _, _, _, h, _ => h.elim
  | a :: r, b :: r', 0, k, m, h, e => by
    rw [List.getElem?_cons_zero] at e
    obtain ⟨k', m', z⟩ := h.1 k m (Option.some.inj e)
    exact ⟨k', m', by rw [List.getElem?_cons_zero, z]⟩
  | a :: r, b :: r', i + 1, k, m, h, e => by
    rw [List.getElem?_cons_succ] at e ⊢
    exact sameOw.get h.2 e
theorem sameOw.len : ∀ {ε ε' : Sg}, sameOw ε ε' → ε.length = ε'.length
  | [], [], _ => rfl
  | [], _ :: _, h => h.elim
  | _ :: _, [], h => h.elim
  | _ :: r, _ :: r', h => by rw [List.length_cons, List.length_cons, sameOw.len h.2]
/-- the slots vs as they were -/
def bkAt (vs : List Nat) : Nat → Sg → Sg → Sg
  | i, a :: r, b :: r' => cond (vs.contains i) a b :: bkAt vs (i + 1) r r'
  | _, _, _ => []
theorem bkAt_get (vs : List Nat) : ∀ (i : Nat) (ε ε' : Sg) (j : Nat), ε.length = ε'.length → (bkAt vs i ε ε')[j]? = cond (vs.contains (i + j)) ε[j]? ε'[j]?
  | i, [], [], j, _ => by
    show ([] : Sg)[j]? = _
    cases vs.contains (i + j) <;> simp
  | i, [], _ :: _, j, e => by cases e
  | i, _ :: _, [], j, e => by cases e
  | i, a :: r, b :: r', 0, _ => by
    show some (cond (vs.contains i) a b) = _
    rw [Nat.add_zero]
    cases vs.contains i <;> rfl
  | i, a :: r, b :: r', j + 1, e => by
    show (bkAt vs (i + 1) r r')[j]? = _
    rw [bkAt_get vs (i + 1) r r' j (by simpa using e), show i + 1 + j = i + (j + 1) by omega]
    rfl
theorem bkAt_len (vs : List Nat) : ∀ (i : Nat) (ε ε' : Sg), ε.length = ε'.length → (bkAt vs i ε ε').length = ε.length
  | i, [], [], _ => rfl
  | i, [], _ :: _, e => by cases e
  | i, _ :: _, [], e => by cases e
  | i, a :: r, b :: r', e => by
    show (bkAt vs (i + 1) r r').length + 1 = _
    rw [bkAt_len vs (i + 1) r r' (by simpa using e), List.length_cons]
def lcFoldW (tg : Tg) (tt : DT) (te : DE) (vs : List Nat) (ε0 : Sg) (R : List D → Sg → Prop) : List D → List D → Sg → Prop
  | [], acc, ε => R acc ε
  | x :: r, acc, ε => tgD tg x ε fun ε2 => tt ε2 (fun b ε3 => IfB b (te ε3 (fun y ε4 => frz y ε4 fun d ε5 => sameOw (wipeD ε5 vs) ε0 ∧ acc.length < sizeLine ∧ lcFoldW tg tt te vs ε0 R r (acc ++ [d]) (wipeD ε5 vs)) EF)
      (sameOw (wipeD ε3 vs) ε0 ∧ lcFoldW tg tt te vs ε0 R r acc (wipeD ε3 vs))) EF
structure DLCW (tg : Tg) (tt : DT) (te : DE) (vs : List Nat) (ε0 : Sg) (R : List D → Sg → Prop) (xs : List D) : Prop where
  go : lcFoldW tg tt te vs ε0 R xs [] ε0
def dLcW (di : DI) (tg : Tg) (tt : DT) (te : DE) (vs : List Nat) : DE := fun ε R E => di ε (fun xs ε1 => ownfree ε1 vs = true ∧ (tg.ix.all fun i => vs.contains i) = true ∧ DLCW tg tt te vs (wipeD ε1 vs) (fun ys ε' => R (.ow (.lst ys)) (bkAt vs 0 ε1 ε')) xs) E
section
variable {K : PySem.W.Frag} {W : WX}
theorem wipeD_len (ε : Sg) : ∀ vs : List Nat, (wipeD ε vs).length = ε.length
  | [] => rfl
  | v :: vs => by
    show ((wipeD ε vs).set v none).length = _
    rw [List.length_set, wipeD_len ε vs]
theorem lift_lcW {di : DI} {tg : Tg} {tt : DT} {te : DE} {vs : List Nat} {σ : L2.St} {H : Hp} {Q : VK} (h : lift K W (dLcW di tg tt te vs) σ H Q) : tLc (liftI K W di) (tgG K tg) (liftT K WF tt) (lift K WF te) vs σ H Q := by
  obtain ⟨ε, B, F, R, RE, r, t, c, we⟩ := h
  refine ⟨ε, B, F, _, RE, r, t, fun J H1 F1 xs ε1 e1 r1 ok ⟨hof, hix, q⟩ D hD => ?_, we⟩
  have hix' : ∀ i ∈ tg.ix, i ∈ vs := fun i hi => by simpa using (List.all_eq_true.mp hix) i hi
  have hB : B D = none := same_none r1.bh hD
  have hF : F1 D = none := same_none r1.fh hD
  have n0 : ∀ (i : Nat) (k : Option Nat) (m : Nd), (wipeD ε1 vs)[i]? = some (some (Sl.ow k m)) → (L2.wipe σ vs)[i]? ≠ some (some (V.ref D)) := fun i k m e es => by
    obtain ⟨v, h1, h2⟩ := (r1.wipe vs).val i _ e
    obtain ⟨a, e2, e3, _⟩ := h2
    rw [es] at h1
    have e9 : V.ref D = v := Option.some.inj (Option.some.inj h1)
    subst e9
    cases e2
    obtain ⟨o, ho⟩ := e3.there
    rw [hD] at ho; cases ho
  refine ⟨fun i m H' => m = xs.length - i ∧ i ≤ xs.length ∧ ∃ F' acc accV ε', Ext B F1 F' ∧ F' D = none ∧ H' D = some (.lst accV) ∧ Rps K F' acc accV ∧ Rep K B F' H' (L2.wipe σ vs) ε' ∧
    sameOw ε' (wipeD ε1 vs) ∧ lcFoldW tg tt te vs (wipeD ε1 vs) (fun ys ε' => R (.ow (.lst ys)) (bkAt vs 0 ε1 ε')) (xs.drop i) acc ε',
    ⟨_, rfl, Nat.zero_le _, F1, [], [], _, Ext.refl _ _, hF, upd_same, rfl, (r1.lay hD).wipe vs, .refl _, q.go⟩, ?_⟩
  · rintro i m H2 ⟨rfl, hi, F2, acc, accV, ε', e2, f2, h2, p2, r2, sm, q2⟩
    have n2 : ∀ (i : Nat) (k : Option Nat) (m : Nd), ε'[i]? = some (some (Sl.ow k m)) → (L2.wipe σ vs)[i]? ≠ some (some (V.ref D)) := fun i k m e => by
      obtain ⟨k', m', e'⟩ := sm.get e
      exact n0 i k' m' e'
    have gB : ∀ {o : HO}, BLe B (B.add D o) := BLe.add hB
    have gD : ∀ {o : HO}, (B.add D o) D = some o := upd_same
    have g2 := r2.guard h2 hB n2
    obtain ⟨hgo, hst⟩ := ok F2 H2 _ _ _ e2.1 trivial g2
    by_cases hlt : i < xs.length
    · have hx : xs[i]? = some xs[i] := List.getElem?_eq_getElem hlt
      obtain ⟨hg1, hg2⟩ := hgo i _ hx
      rw [List.drop_eq_getElem_cons hlt] at q2
      refine .inr ⟨hg1, fun H' => ∃ F' acc accV ε', Ext B F1 F' ∧ F' D = none ∧ H' D = some (.lst accV) ∧ Rps K F' acc accV ∧ Rep K B F' H' (L2.wipe σ vs) ε' ∧ sameOw ε' (wipeD ε1 vs) ∧
        lcFoldW tg tt te vs (wipeD ε1 vs) (fun ys ε' => R (.ow (.lst ys)) (bkAt vs 0 ε1 ε')) (xs.drop (i + 1)) acc ε', fun H' ⟨F', acc', accV', ε'', z1, z2, z3, z4, z5, z7, z6⟩ => ⟨_, by omega, rfl, hlt, F', acc', accV', ε'', z1, z2, z3, z4, z5, z7, z6⟩, fun x H3 y => ?_⟩
      obtain ⟨F3, e3, r3, p3, s3⟩ := hg2 x H3 y
      refine tg_ok r3 p3 hix' q2 fun σ4 ε4 r4 w4 q4 => ⟨w4.trans (wipe_wipe vs vs fun _ h => h), ?_⟩
      refine ⟨ε4, _, F3, _, EF, r4, q4, fun b H5 F5 ε5 e5 r5 q5 => ?_, fun _ _ _ _ _ _ _ _ _ z => z.elim⟩
      have e35 := e3.trans e5
      have hD5 : H5 D = some (.lst accV) := r5.bh D _ gD
      have f5 : F5 D = none := e35.2 D f2 (by rw [gD]; exact Option.some_ne_none _)
      have eB5 : Ext B F1 F5 := e2.trans (e35.weak gB)
      have back : ∀ {H' F' : Hp} {ε' : Sg}, Rep K (B.add D (.lst accV)) F' H' σ4 ε' → Rep K B F' H' (L2.wipe σ vs) (wipeD ε' vs) := fun {H' F' ε'} r' => by
        have z := (r'.weak gB).wipe vs
        rw [w4, wipe_wipe vs vs fun _ h => h] at z
        exact z
      replace q5 := ifb q5
      cases b with
      | false =>
        obtain ⟨we5, q5⟩ := q5
        exact ⟨F5, acc, accV, _, eB5, f5, hD5, p2.mono e35.1, back r5, we5, q5⟩
      | true =>
        refine ⟨ε5, _, F5, _, EF, r5, q5, fun v H6 F6 z ε6 e6 r6 rv6 q6 => ?_, fun _ _ _ _ _ _ _ _ _ z => z.elim⟩
        obtain ⟨F7, ε7, d, e7, r7, p7, ⟨we7, hz, q7⟩, _⟩ := frz_ok r6 rv6 q6
        have e37 := (e35.trans e6).trans e7
        have hD7 : H6 D = some (.lst accV) := r7.bh D _ gD
        have f7 : F7 D = none := e37.2 D f2 (by rw [gD]; exact Option.some_ne_none _)
        refine ⟨accV, hD7, by rw [(p2.mono e37.1).length]; exact hz, F7, acc ++ [d], accV ++ [v], _, e2.trans (e37.weak gB), f7, upd_same, (p2.mono e37.1).append (Rps.one p7), ?_, we7, q7⟩
        have rb := back r7
        refine ⟨fun b u q => ?_, fun b u q => ?_, rb.len, fun j s ej => ?_, rb.sep⟩
        · rw [upd_ne (ne_of_none q f7)]; exact rb.fh b u q
        · rw [upd_ne (ne_of_none q hB)]; exact rb.bh b u q
        · obtain ⟨w, h1, h2'⟩ := rb.val j s ej
          refine ⟨w, h1, ?_⟩
          cases s with
          | p d => exact h2'
          | ow k n =>
            obtain ⟨b, y1, y2, y3, y4⟩ := h2'
            subst y1
            have hbD : b ≠ D := fun z => by
              subst z
              obtain ⟨k', m', e'⟩ := we7.get ej
              exact n0 j k' m' e' h1
            exact ⟨b, rfl, y2.move (Same.refl _) (upd_ne hbD), y3, y4⟩
    · have e : i = xs.length := by omega
      subst e
      rw [List.drop_length] at q2
      refine .inl ⟨hst, ?_⟩
      have le : ε1.length = ε'.length := by rw [sm.len, wipeD_len]
      have gt : ∀ j, (bkAt vs 0 ε1 ε')[j]? = cond (vs.contains j) ε1[j]? ε'[j]? := fun j => by rw [bkAt_get vs 0 ε1 ε' j le, Nat.zero_add]
      have ow1 : ∀ {j : Nat} {k : Option Nat} {n : Nd}, (bkAt vs 0 ε1 ε')[j]? = some (some (Sl.ow k n)) → j ∉ vs ∧ ε'[j]? = some (some (Sl.ow k n)) ∧ ∃ k' m', ε1[j]? = some (some (Sl.ow k' m')) := fun {j k n} ej => by
        rw [gt] at ej
        by_cases hj : j ∈ vs
        · have hc : vs.contains j = true := by simpa using hj
          rw [hc] at ej
          have hz : (match ε1[j]? with | some (some (Sl.ow _ _)) => false | _ => true) = true := (List.all_eq_true.mp hof) j hj
          have ej : ε1[j]? = some (some (Sl.ow k n)) := ej
          rw [ej] at hz
          cases hz
        · have hc : vs.contains j = false := by simpa using hj
          rw [hc] at ej
          obtain ⟨k', m', e'⟩ := sm.get ej
          rw [wipeD_keep hj] at e'
          exact ⟨hj, ej, k', m', e'⟩
      have rr : Rep K B F2 H2 σ (bkAt vs 0 ε1 ε') := by
        refine ⟨r2.fh, r2.bh, by rw [bkAt_len vs 0 ε1 ε' le]; exact r1.len, fun j s ej => ?_, fun j k l1 l2 n m a hjk ej ek sj sk => ?_⟩
        · by_cases hj : j ∈ vs
          · have hc : vs.contains j = true := by simpa using hj
            rw [gt, hc] at ej
            have ej : ε1[j]? = some (some s) := ej
            have hz : (match ε1[j]? with | some (some (Sl.ow _ _)) => false | _ => true) = true := (List.all_eq_true.mp hof) j hj
            rw [ej] at hz
            cases s with
            | ow k n => cases hz
            | p d =>
              obtain ⟨v, h1, h2'⟩ := r1.val j _ ej
              exact ⟨v, h1, Rp.mono e2.1 h2'⟩
          · have hc : vs.contains j = false := by simpa using hj
            rw [gt, hc] at ej
            have ej : ε'[j]? = some (some s) := ej
            obtain ⟨v, h1, h2'⟩ := r2.val j s ej
            exact ⟨v, (L2.wipe_some h1).1, h2'⟩
        · obtain ⟨_, _, k1, m1, y1⟩ := ow1 ej
          obtain ⟨_, _, k2, m2, y2⟩ := ow1 ek
          exact r1.sep j k k1 k2 m1 m2 a hjk y1 y2 sj sk
      refine c _ H2 F2 (.ow (.lst acc)) _ (e1.trans e2) rr ⟨D, rfl, ⟨accV, h2, p2⟩, f2, hB, fun j k m ej es => ?_⟩ q2
      obtain ⟨_, _, k1, m1, y1⟩ := ow1 ej
      obtain ⟨v, h1, h2'⟩ := r1.val j _ y1
      obtain ⟨a, z1, z2, _⟩ := h2'
      rw [es] at h1
      have e9 : V.ref D = v := Option.some.inj (Option.some.inj h1)
      subst e9
      cases z1
      obtain ⟨o, ho⟩ := z2.there
      rw [hD] at ho; cases ho
end
section
variable {X : Cx} {W : WX} {elt tg iter : Expr} {ifs : List Expr} {scope : Scope} {own : List (Str × Nat)} {pos : Pos} {di : DI} {g : Tg} {tt : DT} {te : DE}
theorem de_lcW (hc : X.calm = true) (hN : X.N.Nodup) (hi : PI X tg iter (liftI X.K W di)) (ok : BlkOk X.N X.env.scope scope own)
    (hg : ∀ (s : Shared) (H : Hp) (C : Addr) (cl : List (Str × Addr)) (fp : List Addr), PG (X.blk s H scope (compEnvC scope cl C X.env) fp) tg (tgG X.K g))
    (ht : ∀ (s : Shared) (H : Hp) (C : Addr) (cl : List (Str × Addr)) (fp : List Addr), PTs (X.blk s H scope (compEnvC scope cl C X.env) fp) ifs (liftT X.K WF tt))
    (he : ∀ (s : Shared) (H : Hp) (C : Addr) (cl : List (Str × Addr)) (fp : List Addr), PE (X.blk s H scope (compEnvC scope cl C X.env) fp) elt (lift X.K WF te)) (hs : ∀ x, foldedSetIterable iter X.env x = pure x := by intro _; rfl) :
    PE X (.ListComp elt [⟨tg, iter, ifs, 0⟩] scope pos) (lift X.K W (dLcW di g tt te (own.map (·.2)))) := PE_imp (pe_lc hc hN hi ok hg ht he hs) fun _ _ _ => lift_lcW
theorem ds_setLcW {i : Nat} {y : Str} {py spos : Pos} (hc : X.calm = true) (hN : X.N.Nodup) (hy : X.N[i]? = some y) (hyl : X.env.scope.names.lookup y = some .local)
    (hsw : swapsWith (.ListComp elt [⟨tg, iter, ifs, 0⟩] scope pos) (some (.Name y py)) spos.line X.env = pure true) (hi : PI X tg iter (liftI X.K W di)) (ok : BlkOk X.N X.env.scope scope own)
    (hg : ∀ (s : Shared) (H : Hp) (C : Addr) (cl : List (Str × Addr)) (fp : List Addr), PG (X.blk s H scope (compEnvC scope cl C X.env) fp) tg (tgG X.K g))
    (ht : ∀ (s : Shared) (H : Hp) (C : Addr) (cl : List (Str × Addr)) (fp : List Addr), PTs (X.blk s H scope (compEnvC scope cl C X.env) fp) ifs (liftT X.K WF tt))
    (he : ∀ (s : Shared) (H : Hp) (C : Addr) (cl : List (Str × Addr)) (fp : List Addr), PE (X.blk s H scope (compEnvC scope cl C X.env) fp) elt (lift X.K WF te)) (hs : ∀ x, foldedSetIterable iter X.env x = pure x := by intro _; rfl) :
    PS X (.Assign [.Name y py] (.ListComp elt [⟨tg, iter, ifs, 0⟩] scope pos) spos) (liftS X.K W (dSet (dLcW di g tt te (own.map (·.2))) (gN i))) := by
  refine PS_imp (ps_setLc hc hN hy hyl hsw hi ok hg ht he hs) fun D σ H h => ?_
  obtain ⟨ε, B, F, R, RE, r, t, c, we⟩ := lift_set h
  have h2 : lift X.K W (dLcW di g tt te (own.map (·.2))) σ H fun x H1 => gName i x σ H1 D.nx := ⟨ε, B, F, R, RE, r, t, fun v H' F' x ε' e r' rv q => lift_gN (c v H' F' x ε' e r' rv q), we⟩
  exact lift_lcW h2
end
/-! use -/
/-- over a range, every turn gives one; st says what stands in the slots -/
theorem lcw_range {tg : Tg} {tt : DT} {te : DE} {vs : List Nat} {ε0 : Sg} {R : List D → Sg → Prop} {lo : Int} {n : Nat} (I : Nat → List D → Sg → Prop) (h0 : I 0 [] ε0)
    (hs : ∀ k acc ε, k < n → I k acc ε → ∀ nx : List D → Sg → Prop, (∀ acc' ε', I (k + 1) acc' ε' → nx acc' ε') →
      tgD tg (.int (lo + (k : Nat))) ε fun ε2 => tt ε2 (fun b ε3 => IfB b (te ε3 (fun y ε4 => frz y ε4 fun d ε5 => sameOw (wipeD ε5 vs) ε0 ∧ acc.length < sizeLine ∧ nx (acc ++ [d]) (wipeD ε5 vs)) EF) (sameOw (wipeD ε3 vs) ε0 ∧ nx acc (wipeD ε3 vs))) EF)
    (h : ∀ acc ε, I n acc ε → R acc ε) : DLCW tg tt te vs ε0 R (rangeL lo n) := by
  refine ⟨?_⟩
  have go : ∀ (m k : Nat) (acc : List D) (ε : Sg), k + m = n → I k acc ε → lcFoldW tg tt te vs ε0 R ((List.range' k m).map fun i => .int (lo + (i : Nat))) acc ε := by
    intro m
    induction m with
    | zero =>
      intro k acc ε e hi
      have e' : k = n := by omega
      subst e'
      exact h acc ε hi
    | succ m ih =>
      intro k acc ε e hi
      rw [List.range'_succ, List.map_cons]
      exact hs k acc ε (by omega) hi (fun acc' ε' => lcFoldW tg tt te vs ε0 R ((List.range' (k + 1) m).map fun i => .int (lo + (i : Nat))) acc' ε') fun acc' ε' h' => ih (k + 1) acc' ε' (by omega) h'
  have z := go n 0 [] ε0 (by omega) h0
  unfold rangeL
  rw [List.range_eq_range']
  exact z
end DL

/-! DK1: dicts in slots. -/
namespace DL
open PySem PySem.Spec L2
section
variable {α κ : Type} [DecidableEq κ]
/-- what a dict holds at a key -/
def dval (key : α → Option κ) (kvs : List (α × D)) (d : α) : Option D := (kvs.find? fun kv => decide (key kv.1 = key d)).map (·.2)
/-- in its place, or at the end -/
def dput (key : α → Option κ) (kvs : List (α × D)) (d : α) (e : D) : List (α × D) :=
  if (kvs.any fun kv => decide (key kv.1 = key d)) = true then kvs.map (fun kv => if key kv.1 = key d then (kv.1, e) else kv) else kvs ++ [(d, e)]
variable {key : α → Option κ} {K : PySem.W.Frag} {F : Hp}
theorem RKs.length : ∀ {ds : List (α × D)} {vs : List (κ × V)}, RKs key K F ds vs → vs.length = ds.length
  | [], _, h => by
    have e : _ = [] := h
    rw [e]; rfl
  | _ :: _, _, h => by
    obtain ⟨k, v, w, rfl, _, _, h3⟩ := h
    rw [List.length_cons, List.length_cons, RKs.length h3]
theorem RKs.any {d : α} {k : κ} (hk : key d = some k) : ∀ {ds : List (α × D)} {vs : List (κ × V)}, RKs key K F ds vs → (ds.any fun kv => decide (key kv.1 = key d)) = vs.any fun kv => decide (kv.1 = k)
  | [], _, h => by
    have e : _ = [] := h
    rw [e]; rfl
  | (d1, e1) :: _, _, h => by
    obtain ⟨k1, v, w, rfl, h1, _, h3⟩ := h
    rw [List.any_cons, List.any_cons, RKs.any hk h3]
    show (decide (key d1 = key d) || _) = (decide (k1 = k) || _)
    rw [h1, hk]
    simp
theorem RKs.val {d : α} {k : κ} (hk : key d = some k) : ∀ {ds : List (α × D)} {vs : List (κ × V)}, RKs key K F ds vs → (dval key ds d = none ∧ valV vs k = none) ∨ ∃ e v, dval key ds d = some e ∧ valV vs k = some v ∧ Rp K F e v
  | [], _, h => by
    have e : _ = [] := h
    rw [e]
    exact .inl ⟨rfl, rfl⟩
  | (d1, e1) :: r, _, h => by
    obtain ⟨k1, v, w, rfl, h1, h2, h3⟩ := h
    by_cases q : k1 = k
    · subst q
      refine .inr ⟨e1, v, ?_, valV_pos rfl, h2⟩
      simp [dval, List.find?_cons, h1, hk]
    · have e : dval key ((d1, e1) :: r) d = dval key r d := by
        simp [dval, List.find?_cons, h1, hk, q]
      rw [e, valV_neg (p := (k1, v)) q]
      exact RKs.val hk h3
theorem RKs.snoc {d : α} {k : κ} {e : D} {v : V} (hk : key d = some k) (he : Rp K F e v) : ∀ {ds : List (α × D)} {vs : List (κ × V)}, RKs key K F ds vs → RKs key K F (ds ++ [(d, e)]) (vs ++ [(k, v)])
  | [], _, h => by
    have e0 : _ = [] := h
    rw [e0]
    exact ⟨k, v, [], rfl, hk, he, rfl⟩
  | (d1, e1) :: r, _, h => by
    obtain ⟨k1, v1, w, rfl, h1, h2, h3⟩ := h
    exact ⟨k1, v1, _, rfl, h1, h2, RKs.snoc hk he h3⟩
theorem RKs.repl {d : α} {k : κ} {e : D} {v : V} (hk : key d = some k) (he : Rp K F e v) : ∀ {ds : List (α × D)} {vs : List (κ × V)}, RKs key K F ds vs →
    RKs key K F (ds.map fun kv => if key kv.1 = key d then (kv.1, e) else kv) (vs.map fun kv => if kv.1 = k then (kv.1, v) else kv)
  | [], _, h => by
    have e0 : _ = [] := h
    rw [e0]
    rfl
  | (d1, e1) :: r, _, h => by
    obtain ⟨k1, v1, w, rfl, h1, h2, h3⟩ := h
    rw [List.map_cons, List.map_cons]
    by_cases q : k1 = k
    · have q' : key d1 = key d := by rw [h1, hk, q]
      rw [if_pos q', if_pos q]
      exact ⟨k1, v, _, rfl, h1, he, RKs.repl hk he h3⟩
    · have q' : ¬ key d1 = key d := by rw [h1, hk]; simpa using q
      rw [if_neg q', if_neg q]
      exact ⟨k1, v1, _, rfl, h1, h2, RKs.repl hk he h3⟩
theorem RKs.put {d : α} {k : κ} {e : D} {v : V} (hk : key d = some k) (he : Rp K F e v) {ds : List (α × D)} {vs : List (κ × V)} (h : RKs key K F ds vs) : RKs key K F (dput key ds d e) (putK vs k v) := by
  unfold dput putK
  rw [RKs.any hk h]
  split
  · exact RKs.repl hk he h
  · exact RKs.snoc hk he h
/-! plain facts -/
theorem dval_nil (d : α) : dval key ([] : List (α × D)) d = none := rfl
theorem dval_cons (d1 : α) (e1 : D) (r : List (α × D)) (d : α) : dval key ((d1, e1) :: r) d = if key d1 = key d then some e1 else dval key r d := by
  unfold dval
  by_cases h : key d1 = key d
  · simp [List.find?_cons, h]
  · simp [List.find?_cons, h]
theorem dval_any (d : α) : ∀ kvs : List (α × D), (kvs.any fun kv => decide (key kv.1 = key d)) = (dval key kvs d).isSome
  | [] => rfl
  | (d1, e1) :: r => by
    rw [List.any_cons, dval_any d r, dval_cons]
    by_cases h : key d1 = key d
    · simp [h]
    · simp [h]
theorem dval_repl (d j : α) (e : D) : ∀ kvs : List (α × D), dval key (kvs.map fun kv => if key kv.1 = key d then (kv.1, e) else kv) j = if key j = key d then (dval key kvs j).map (fun _ => e) else dval key kvs j
  | [] => by simp [dval_nil]
  | (d1, e1) :: r => by
    rw [List.map_cons]
    by_cases h : key d1 = key d
    · rw [if_pos h, dval_cons, dval_cons, dval_repl d j e r]
      by_cases q : key j = key d
      · have : key d1 = key j := h.trans q.symm
        simp [this, q]
      · have : ¬ key d1 = key j := fun z => q (z.symm.trans h)
        simp [this, q]
    · rw [if_neg h, dval_cons, dval_cons, dval_repl d j e r]
      by_cases q : key j = key d
      · simp [h, q]
      · simp [q]
theorem dval_snoc (d j : α) (e : D) : ∀ kvs : List (α × D), dval key kvs d = none → dval key (kvs ++ [(d, e)]) j = if key j = key d then some e else dval key kvs j
  | [], _ => by
    rw [List.nil_append, dval_cons, dval_nil]
    by_cases q : key j = key d
    · rw [if_pos q.symm, if_pos q]
    · rw [if_neg fun z => q z.symm, if_neg q]
  | (d1, e1) :: r, h => by
    rw [dval_cons] at h
    split at h
    · cases h
    · rename_i n
      rw [List.cons_append, dval_cons, dval_cons, dval_snoc d j e r h]
      by_cases q : key j = key d
      · have : ¬ key d1 = key j := fun z => n (z.trans q)
        rw [if_neg this, if_pos q, if_pos q]
      · rw [if_neg q, if_neg q]
theorem dval_put (kvs : List (α × D)) (d j : α) (e : D) : dval key (dput key kvs d e) j = if key j = key d then some e else dval key kvs j := by
  unfold dput
  rw [dval_any]
  split
  · rename_i h
    rw [dval_repl]
    by_cases q : key j = key d
    · rw [if_pos q, if_pos q]
      have : dval key kvs j = dval key kvs d := by unfold dval; rw [q]
      rw [this]
      cases z : dval key kvs d with
      | none => rw [z] at h; cases h
      | some x => rfl
    · rw [if_neg q, if_neg q]
  · rename_i h
    refine dval_snoc d j e kvs ?_
    cases z : dval key kvs d with
    | none => rfl
    | some x => rw [z] at h; exact absurd rfl h
theorem length_dput (kvs : List (α × D)) (d : α) (e : D) : (dput key kvs d e).length ≤ kvs.length + 1 := by
  unfold dput
  split
  · rw [List.length_map]; omega
  · rw [List.length_append]; exact Nat.le_refl _
end
/-! ### the objects -/
section
variable {K : PySem.W.Frag} {B : Bs} {F F' H H' : Hp} {σ : L2.St} {ε ε' : Sg}
/-- the object of the slot i changes -/
theorem Rep.putN {i : Nat} {kk : Option Nat} {a : Addr} {n n' : Nd} {o : HO} (r : Rep K B F H σ ε) (hi : ε[i]? = some (some (.ow kk n))) (hs : σ[i]? = some (some (.ref a))) (hw : RNd K F (upd H a o) n' a) :
    Rep K B F (upd H a o) σ (ε.set i (some (.ow kk n'))) := by
  obtain ⟨u0, hu, c, e1, h1, h2, h3, hA⟩ := r.val i _ hi
  rw [hs] at hu
  have hu' : V.ref a = u0 := Option.some.inj (Option.some.inj hu)
  rw [e1] at hu'
  cases hu'
  refine ⟨fun b u q => ?_, fun b u q => ?_, by rw [List.length_set]; exact r.len, fun j s e => ?_, fun j k l1 l2 n2 m2 c hjk ej ek sj sk => ?_⟩
  · rw [upd_ne (ne_of_none q h2)]; exact r.fh b u q
  · rw [upd_ne (ne_of_none q h3)]; exact r.bh b u q
  · rcases set_get e with ⟨rfl, e2, hl⟩ | ⟨hij, e⟩
    · cases e2
      exact ⟨.ref a, hs, a, rfl, hw, h2, h3, hA⟩
    · obtain ⟨w, q1, q2⟩ := r.val j s e
      refine ⟨w, q1, ?_⟩
      cases s with
      | p d => exact q2
      | ow k n =>
        obtain ⟨b, e1, e2, e3, e4⟩ := q2
        subst e1
        have hba : b ≠ a := fun z => by
          subst z
          exact r.sep i j _ _ _ _ b hij hi e hs q1
        exact ⟨b, rfl, e2.move (Same.refl F) (upd_ne hba), e3, e4⟩
  · rcases set_get ej with ⟨rfl, _, hl⟩ | ⟨hij, ej⟩
    · rcases set_get ek with ⟨e2, _⟩ | ⟨hik, ek⟩
      · exact hjk e2
      · exact r.sep _ k _ _ _ m2 c hik hi ek sj sk
    · rcases set_get ek with ⟨rfl, _, hl⟩ | ⟨hik, ek⟩
      · exact r.sep j _ _ _ n2 _ c (Ne.symm hij) ej hi sj sk
      · exact r.sep j k l1 l2 n2 m2 c hjk ej ek sj sk
end
/-! ### what is done with a dict -/
/-- x = {} -/
def dNewD (i : Nat) : DS := fun P ε => P.nx (ε.set i (some (.ow none (.dct []))))
/-- the slot holds a dict -/
def isDq (ε : Sg) (i : Nat) : Prop := match ε[i]? with | some (some (.ow _ (.dct _))) => True | _ => False
/-- k in d, k not in d -/
def dDIn (i : Nat) (ty : DE) : DE := fun ε R E => ty ε (fun y ε1 => match y, ε1[i]? with
  | .p d, some (some (.ow _ (.dct kvs))) => (keyD d).isSome = true ∧ R (.p (.bl (dval keyD kvs d).isSome)) ε1
  | _, _ => False) E
def dDNin (i : Nat) (ty : DE) : DE := fun ε R E => ty ε (fun y ε1 => match y, ε1[i]? with
  | .p d, some (some (.ow _ (.dct kvs))) => (keyD d).isSome = true ∧ R (.p (.bl (!(dval keyD kvs d).isSome))) ε1
  | _, _ => False) E
/-- d[k] -/
def dDGet (i : Nat) (ty : DE) : DE := fun ε R E => isDq ε i ∧ ty ε (fun y ε1 => match y, ε1[i]? with
  | .p d, some (some (.ow _ (.dct kvs))) => (keyD d).isSome = true ∧ (match dval keyD kvs d with | some e => R (.p e) ε1 | none => False)
  | _, _ => False) E
/-- d.get(k, x) -/
def dDGet2 (i : Nat) (ty tx : DE) : DE := fun ε R E => isDq ε i ∧ ty ε (fun y ε1 => stb y ε1 ∧ tx ε1 (fun x ε2 => match y, x, ε2[i]? with
  | .p d, .p f, some (some (.ow _ (.dct kvs))) => (keyD d).isSome = true ∧ R (.p ((dval keyD kvs d).getD f)) ε2
  | _, _, _ => False) E) E
/-- d[k] = v -/
def dDPut (i : Nat) (ty tv : DE) : DS := fun P ε => tv ε (fun x ε1 => frz x ε1 fun e ε2 => isDq ε2 i ∧ ty ε2 (fun y ε3 => match y, ε3[i]? with
  | .p d, some (some (.ow k (.dct kvs))) => (keyD d).isSome = true ∧ kvs.length < sizeLine ∧ P.nx (ε3.set i (some (.ow k (.dct (dput keyD kvs d e)))))
  | _, _ => False) P.er) P.er
section
variable {K : PySem.W.Frag} {W : WX} {B : Bs} {F F' H H' : Hp} {σ : L2.St} {ε ε' : Sg}
theorem keyV {d : D} {v : V} {k : Key} (r : Rp K F d v) (h : keyD d = some k) : v = kV k := by
  cases d <;> cases h <;> exact r
theorem Rep.dict {i : Nat} {k : Option Nat} {kvs : List (D × D)} (r : Rep K B F H σ ε) (hi : ε[i]? = some (some (.ow k (.dct kvs)))) : ∃ a vs, σ[i]? = some (some (.ref a)) ∧ H a = some (.dK vs) ∧ RKs keyD K F kvs vs := by
  obtain ⟨v, hv, a, rfl, ⟨vs, h1, h2⟩, _⟩ := r.val i _ hi
  exact ⟨a, vs, hv, h1, h2⟩
theorem lift_din {i : Nat} {ty : DE} {Q : VK} (h : lift K W (dDIn i ty) σ H Q) : tDIn (lift K W ty) (tVar i) σ H Q := by
  obtain ⟨ε, B, F, R, RE, r, t, c, we⟩ := h
  refine ⟨ε, B, F, _, RE, r, t, fun v H1 F1 y ε1 e1 r1 rv q => ?_, we⟩
  split at q
  · rename_i d k kvs ei
    obtain ⟨hk, q⟩ := q
    obtain ⟨kk, hk⟩ := Option.isSome_iff_exists.mp hk
    obtain ⟨a, vs, hv, ha, hs⟩ := r1.dict ei
    have ev := keyV rv hk
    subst ev
    refine ⟨.ref a, hv, a, _, rfl, DGet.k ha, ?_⟩
    have e : (valV vs kk).isSome = (dval keyD kvs d).isSome := by
      rcases RKs.val hk hs with ⟨z1, z2⟩ | ⟨_, _, z1, z2, _⟩ <;> rw [z1, z2] <;> rfl
    rw [e]
    exact c _ H1 F1 (.p (.bl _)) ε1 e1 r1 rfl q
  · exact q.elim
theorem lift_dnin {i : Nat} {ty : DE} {Q : VK} (h : lift K W (dDNin i ty) σ H Q) : tDNotIn (lift K W ty) (tVar i) σ H Q := by
  obtain ⟨ε, B, F, R, RE, r, t, c, we⟩ := h
  refine ⟨ε, B, F, _, RE, r, t, fun v H1 F1 y ε1 e1 r1 rv q => ?_, we⟩
  split at q
  · rename_i d k kvs ei
    obtain ⟨hk, q⟩ := q
    obtain ⟨kk, hk⟩ := Option.isSome_iff_exists.mp hk
    obtain ⟨a, vs, hv, ha, hs⟩ := r1.dict ei
    have ev := keyV rv hk
    subst ev
    refine ⟨.ref a, hv, a, _, rfl, DGet.k ha, ?_⟩
    have e : (valV vs kk).isSome = (dval keyD kvs d).isSome := by
      rcases RKs.val hk hs with ⟨z1, z2⟩ | ⟨_, _, z1, z2, _⟩ <;> rw [z1, z2] <;> rfl
    rw [e]
    exact c _ H1 F1 (.p (.bl _)) ε1 e1 r1 rfl q
  · exact q.elim
theorem isDq_var {i : Nat} (r : Rep K B F H σ ε) (h : isDq ε i) : ∃ a vs, σ[i]? = some (some (.ref a)) ∧ H a = some (.dK vs) := by
  unfold isDq at h
  split at h
  · rename_i k kvs ei
    obtain ⟨a, vs, hv, ha, _⟩ := r.dict ei
    exact ⟨a, vs, hv, ha⟩
  · exact h.elim
theorem lift_dget {i : Nat} {ty : DE} {Q : VK} (h : lift K W (dDGet i ty) σ H Q) : tDGet (tVar i) (lift K W ty) σ H Q := by
  obtain ⟨ε, B, F, R, RE, r, ⟨t0, t⟩, c, we⟩ := h
  obtain ⟨a0, vs0, hv0, _⟩ := isDq_var r t0
  refine ⟨.ref a0, hv0, ε, B, F, _, RE, r, t, fun v H1 F1 y ε1 e1 r1 rv q => ?_, we⟩
  split at q
  · rename_i d k kvs ei
    obtain ⟨hk, q⟩ := q
    obtain ⟨kk, hk⟩ := Option.isSome_iff_exists.mp hk
    obtain ⟨a, vs, hv, ha, hs⟩ := r1.dict ei
    rw [hv0] at hv
    have e9 : V.ref a0 = V.ref a := Option.some.inj (Option.some.inj hv)
    cases e9
    have ev := keyV rv hk
    subst ev
    rcases RKs.val hk hs with ⟨z1, z2⟩ | ⟨e, w, z1, z2, p⟩
    · rw [z1] at q; exact q.elim
    · rw [z1] at q
      exact ⟨a0, w, rfl, z2 ▸ DGet.k ha, c _ H1 F1 (.p e) ε1 e1 r1 p q⟩
  · exact q.elim
theorem lift_dget2 {i : Nat} {ty tx : DE} {Q : VK} (h : lift K W (dDGet2 i ty tx) σ H Q) : tDGet2 (tVar i) (lift K W ty) (lift K W tx) σ H Q := by
  obtain ⟨ε, B, F, R, RE, r, ⟨t0, t⟩, c, we⟩ := h
  obtain ⟨a0, vs0, hv0, ha0⟩ := isDq_var r t0
  refine ⟨.ref a0, hv0, a0, rfl, .inl ⟨vs0, .inl ha0⟩, ε, B, F, _, RE, r, t, fun v H1 F1 y ε1 e1 r1 rv q => ?_, we⟩
  obtain ⟨st, q⟩ := q
  refine ⟨ε1, B, F1, _, RE, r1, q, fun v2 H2 F2 x ε2 e2 r2 rv2 q3 => ?_, we.ext e1⟩
  clear q t
  split at q3
  · rename_i d f k kvs ei
    obtain ⟨hk, q⟩ := q3
    obtain ⟨kk, hk⟩ := Option.isSome_iff_exists.mp hk
    obtain ⟨a, vs, hv, ha, hs⟩ := r2.dict ei
    rw [hv0] at hv
    have e9 : V.ref a0 = V.ref a := Option.some.inj (Option.some.inj hv)
    cases e9
    have ev := keyV rv hk
    subst ev
    refine ⟨_, DGet.k ha, ?_⟩
    rcases RKs.val hk hs with ⟨z1, z2⟩ | ⟨e, w, z1, z2, p⟩
    · rw [z1] at q
      rw [z2]
      exact c _ H2 F2 (.p f) ε2 (e1.trans e2) r2 rv2 q
    · rw [z1] at q
      rw [z2]
      exact c _ H2 F2 (.p e) ε2 (e1.trans e2) r2 p q
  · exact q3.elim
theorem lift_dput {i : Nat} {ty tv : DE} {Dd : Ends} (h : liftS K W (dDPut i ty tv) Dd σ H) : sDPut (tVar i) (lift K W ty) (lift K W tv) Dd σ H := by
  obtain ⟨ε, B, F, P, r, t, c, cb, cc, cr, we⟩ := h
  refine ⟨ε, B, F, _, P.er, r, t, fun v H1 F1 x ε1 e1 r1 rv q => ?_, we σ⟩
  obtain ⟨F2, ε2, e, e2, r2, p2, ⟨t0, q⟩, _⟩ := frz_ok r1 rv q
  obtain ⟨a0, vs0, hv0, _⟩ := isDq_var r2 t0
  refine ⟨.ref a0, hv0, ε2, B, F2, _, P.er, r2, q, fun v2 H3 F3 y ε3 e3 r3 rv3 q => ?_, ((we σ).ext e1).ext e2⟩
  split at q
  · rename_i d k kvs ei
    obtain ⟨hk, hl, q⟩ := q
    obtain ⟨kk, hk⟩ := Option.isSome_iff_exists.mp hk
    obtain ⟨a, vs, hv, ha, hs⟩ := r3.dict ei
    rw [hv0] at hv
    have e9 : V.ref a0 = V.ref a := Option.some.inj (Option.some.inj hv)
    cases e9
    have ev := keyV rv3 hk
    subst ev
    refine ⟨a0, _, rfl, DPut.k ha (by rw [hs.length]; exact hl), c σ _ F3 _ ((e1.trans e2).trans e3) (r3.putN (n' := .dct _) ei hv0 ⟨_, upd_same, hs.put hk (p2.mono e3.1)⟩) q⟩
  · exact q.elim
theorem lift_newd {i : Nat} {Dd : Ends} (h : liftS K W (dNewD i) Dd σ H) : tAsg tDNewK (gName i) Dd σ H := by
  obtain ⟨ε, B, F, P, r, t, c, cb, cc, cr, we⟩ := h
  intro p hp
  have hf : F p = none := same_none r.fh hp
  have hb : B p = none := same_none r.bh hp
  have r1 := r.lay (o := .dK []) hp
  refine c _ _ F _ (Ext.refl _ _) (r1.setN (n := .dct []) ⟨p, rfl, ⟨[], upd_same, rfl⟩, hf, hb, fun j k m ej es => ?_⟩) t
  obtain ⟨b, o, h1, h2⟩ := r.own_at ej
  rw [es] at h1
  have e9 : V.ref p = V.ref b := Option.some.inj (Option.some.inj h1)
  cases e9
  rw [hp] at h2; cases h2
end
section
variable {X : Cx} {W : WX} {o e f : Expr} {ty tx tv : DE} {pos apos cpos pos' : Pos} {i : Nat}
theorem de_din (hu : X.A.units + 64 < cLine) (hm : behindInMarks .In o = false) (hi : PE X e (lift X.K W ty)) (ho : PE X o (tVar i)) : PE X (.Compare e [.In] [o] pos) (lift X.K W (dDIn i ty)) :=
  PE_imp (pe_cmp (pc_din (by omega) hi ho) hm) fun _ _ _ => lift_din
theorem de_dnin (hu : X.A.units + 64 < cLine) (hm : behindInMarks .NotIn o = false) (hi : PE X e (lift X.K W ty)) (ho : PE X o (tVar i)) : PE X (.Compare e [.NotIn] [o] pos) (lift X.K W (dDNin i ty)) :=
  PE_imp (pe_cmp (pc_dnotin (by omega) hi ho) hm) fun _ _ _ => lift_dnin
theorem dt_din (hu : X.A.units + 64 < cLine) (hm : behindInMarks .In o = false) (hi : PE X e (lift X.K W ty)) (ho : PE X o (tVar i)) : PT X (.Compare e [.In] [o] pos) (liftT X.K W (dTst (dDIn i ty))) := by
  refine PT_imp (pt_cmp (pc_din (by omega) hi ho) hm) fun σ H Q h => ?_
  obtain ⟨ε, B, F, R, RE, r, t, c, we⟩ := h
  have h2 : lift X.K W (dDIn i ty) σ H fun x H' => ∃ k, x = .bl k ∧ Q k H' := by
    refine ⟨ε, B, F, _, RE, r, t, fun v H' F' x ε' e r' rv q => ?_, we⟩
    split at q
    · cases rv; exact ⟨_, rfl, c _ H' F' ε' e r' q⟩
    · exact q.elim
  exact lift_din h2
theorem dt_dnin (hu : X.A.units + 64 < cLine) (hm : behindInMarks .NotIn o = false) (hi : PE X e (lift X.K W ty)) (ho : PE X o (tVar i)) : PT X (.Compare e [.NotIn] [o] pos) (liftT X.K W (dTst (dDNin i ty))) := by
  refine PT_imp (pt_cmp (pc_dnotin (by omega) hi ho) hm) fun σ H Q h => ?_
  obtain ⟨ε, B, F, R, RE, r, t, c, we⟩ := h
  have h2 : lift X.K W (dDNin i ty) σ H fun x H' => ∃ k, x = .bl k ∧ Q k H' := by
    refine ⟨ε, B, F, _, RE, r, t, fun v H' F' x ε' e r' rv q => ?_, we⟩
    split at q
    · cases rv; exact ⟨_, rfl, c _ H' F' ε' e r' q⟩
    · exact q.elim
  exact lift_dnin h2
theorem de_dget (hu : X.A.units + 64 < cLine) (ho : PE X o (tVar i)) (hi : PE X e (lift X.K W ty)) (hs : NoSl e) : PE X (.Subscript o e pos) (lift X.K W (dDGet i ty)) := PE_imp (pe_dget (by omega) ho hi hs) fun _ _ _ => lift_dget
theorem de_dget2 (hu : X.A.units + 64 < cLine) (ho : PE X o (tVar i)) (hi : PE X e (lift X.K W ty)) (hx : PE X f (lift X.K W tx)) (m : M2 X o "get" apos e f cpos) : PE X (.Call (.Attribute o "get" apos) [e, f] [] cpos) (lift X.K W (dDGet2 i ty tx)) :=
  PE_imp (pe_dget2 (by omega) ho hi hx m) fun _ _ _ => lift_dget2
theorem ds_dput (hu : X.A.units + 64 < cLine) (ho : PE X o (tVar i)) (hi : PE X e (lift X.K W ty)) (hv : PE X f (lift X.K W tv)) (hs : swapsWith f (some (.Subscript o e pos')) pos.line X.env = pure false := by rfl) :
    PS X (.Assign [.Subscript o e pos'] f pos) (liftS X.K W (dDPut i ty tv)) := PS_imp (ps_dput (by omega) ho hi hv hs) fun _ _ _ => lift_dput
theorem ds_newd {x : Str} (hN : X.N.Nodup) (hi : X.N[i]? = some x) (hx : Loc X.env.scope x) (hs : swapsWith (.Dict [] [] pos) (some (.Name x pos')) apos.line X.env = pure false := by rfl) (hf : X.fn x = true ∨ X.env.scope.names.lookup x = some .local := by first | exact .inl rfl | exact .inr rfl | assumption) :
    PS X (.Assign [.Name x pos'] (.Dict [] [] pos) apos) (liftS X.K W (dNewD i)) := PS_imp (ps_set hN hi hx pe_dnewK hs hf) fun _ _ _ => lift_newd
end
end DL

/-! DV3: words of digits. -/
namespace DL
open PySem PySem.Spec PyProof.Rows L2 RT
/-- a tuple of ints -/
abbrev tI (ws : List Int) : D := .tup (ws.map .int)
/-- a tuple or a list of ints -/
def isW (d : D) (ws : List Int) : Prop := d = .tup (ws.map .int) ∨ d = .lst (ws.map .int)
/-- what a word is worth -/
def bval (b : Int) (ws : List Int) : Int := ws.foldl (fun a d => a * b + d) 0
theorem bval_nil (b : Int) : bval b [] = 0 := rfl
theorem bval_snoc (b : Int) (ws : List Int) (d : Int) : bval b (ws ++ [d]) = bval b ws * b + d := by simp [bval]
theorem foldl_b (b : Int) : ∀ (ws : List Int) (a : Int), ws.foldl (fun a d => a * b + d) a = a * b ^ ws.length + bval b ws
  | [], a => by simp [bval]
  | d :: r, a => by
    rw [List.foldl_cons, foldl_b b r]
    show _ = _ + (d :: r).foldl (fun a d => a * b + d) 0
    rw [List.foldl_cons, foldl_b b r, List.length_cons, Int.pow_succ, Int.add_mul, Int.zero_mul, Int.zero_add]
    have : a * b * b ^ r.length = a * (b ^ r.length * b) := by rw [Int.mul_assoc, Int.mul_comm b]
    rw [this, Int.add_assoc]
theorem bval_append (b : Int) (xs ys : List Int) : bval b (xs ++ ys) = bval b xs * b ^ ys.length + bval b ys := by
  show (xs ++ ys).foldl _ 0 = _
  rw [List.foldl_append]
  exact foldl_b b ys _
theorem bval_cons (b x : Int) (xs : List Int) : bval b (x :: xs) = x * b ^ xs.length + bval b xs := by
  have := bval_append b [x] xs
  rw [List.singleton_append] at this
  rw [this]
  simp [bval]
/-! ### digits from one on -/
def okw (b : Int) (ws : List Int) : Prop := ∀ d, d ∈ ws → 1 ≤ d ∧ d ≤ b
theorem okw_nil (b : Int) : okw b [] := fun _ h => (nomatch h)
theorem okw_cons {b x : Int} {xs : List Int} : okw b (x :: xs) ↔ (1 ≤ x ∧ x ≤ b) ∧ okw b xs :=
  ⟨fun h => ⟨h x (by simp), fun d hd => h d (by simp [hd])⟩, fun h d hd => by
    rcases List.mem_cons.mp hd with e | hd
    · rw [e]; exact h.1
    · exact h.2 d hd⟩
theorem okw_append {b : Int} {xs ys : List Int} : okw b (xs ++ ys) ↔ okw b xs ∧ okw b ys :=
  ⟨fun h => ⟨fun d hd => h d (by simp [hd]), fun d hd => h d (by simp [hd])⟩, fun h d hd => (List.mem_append.mp hd).elim (h.1 d) (h.2 d)⟩
theorem okw_rep {b x : Int} (h : 1 ≤ x) (h' : x ≤ b) (n : Nat) : okw b (List.replicate n x) := fun d hd => by rw [List.eq_of_mem_replicate hd]; exact ⟨h, h'⟩
theorem okw_rev {b : Int} {xs : List Int} (h : okw b xs) : okw b xs.reverse := fun d hd => h d (List.mem_reverse.mp hd)
/-- n times the digit x -/
def rp (b x : Int) (n : Nat) : Int := bval b (List.replicate n x)
theorem rp_zero (b x : Int) : rp b x 0 = 0 := rfl
theorem rp_succ (b x : Int) (n : Nat) : rp b x (n + 1) = rp b x n * b + x := by
  unfold rp
  rw [List.replicate_succ', bval_snoc]
theorem rp_id (b : Int) : ∀ n, b ^ n + rp b 1 n = rp b b n + 1
  | 0 => by simp [rp_zero]
  | n + 1 => by
    rw [rp_succ, rp_succ, Int.pow_succ]
    have ih := rp_id b n
    have : (b ^ n + rp b 1 n) * b = (rp b b n + 1) * b := by rw [ih]
    rw [Int.add_mul, Int.add_mul, Int.one_mul] at this
    omega
theorem rp_b (b : Int) : ∀ n, rp b b n = rp b 1 n * b
  | 0 => by simp [rp_zero]
  | n + 1 => by rw [rp_succ, rp_succ, rp_b b n, Int.add_mul, Int.one_mul]
theorem rp_next (b : Int) (n : Nat) : rp b 1 (n + 1) = rp b b n + 1 := by rw [rp_succ, rp_b]
theorem rp_pow (b : Int) (n : Nat) : rp b 1 (n + 1) = rp b 1 n + b ^ n := by
  have := rp_id b n
  rw [rp_next]; omega
theorem okw_bounds {b : Int} (hb : 1 ≤ b) : ∀ {ws : List Int}, okw b ws → rp b 1 ws.length ≤ bval b ws ∧ bval b ws ≤ rp b b ws.length
  | [], _ => ⟨Int.le_refl _, Int.le_refl _⟩
  | x :: xs, h => by
    obtain ⟨⟨h1, h2⟩, h3⟩ := okw_cons.mp h
    obtain ⟨i1, i2⟩ := okw_bounds hb h3
    have e1 : rp b 1 (x :: xs).length = 1 * b ^ xs.length + rp b 1 xs.length := by
      show bval b (List.replicate (xs.length + 1) 1) = _
      rw [List.replicate_succ, bval_cons, List.length_replicate]; rfl
    have e2 : rp b b (x :: xs).length = b * b ^ xs.length + rp b b xs.length := by
      show bval b (List.replicate (xs.length + 1) b) = _
      rw [List.replicate_succ, bval_cons, List.length_replicate]; rfl
    rw [e1, e2, bval_cons]
    have p := pow_pos (show 0 < b by omega) xs.length
    have m1 := Int.mul_le_mul_of_nonneg_right h1 (Int.le_of_lt p)
    have m2 := Int.mul_le_mul_of_nonneg_right h2 (Int.le_of_lt p)
    omega
theorem rp_nn {b : Int} (hb : 1 ≤ b) (n : Nat) : (n : Int) ≤ rp b 1 n := by
  induction n with
  | zero => exact Int.le_refl _
  | succ n ih =>
    rw [rp_pow]
    have := pow_pos (show 0 < b by omega) n
    omega
theorem okw_nn {b : Int} (hb : 1 ≤ b) {ws : List Int} (h : okw b ws) : 0 ≤ bval b ws := by
  have := okw_bounds hb h
  have := rp_nn hb ws.length
  omega
theorem rp_mono {b : Int} (hb : 1 ≤ b) {m n : Nat} (h : m ≤ n) : rp b 1 m ≤ rp b 1 n := by
  induction n with
  | zero => rw [Nat.le_zero.mp h]; exact Int.le_refl _
  | succ n ih =>
    rcases Nat.lt_or_ge n m with q | q
    · rw [show m = n + 1 by omega]; exact Int.le_refl _
    · rw [rp_pow]
      have := pow_pos (show 0 < b by omega) n
      have := ih q
      omega
theorem ilt_val {b : Int} (hb : 1 ≤ b) : ∀ {xs ys : List Int}, okw b xs → okw b ys → xs.length = ys.length → ilt xs ys = true → bval b xs < bval b ys
  | [], [], _, _, _, h => by cases h
  | [], _ :: _, _, _, e, _ => by cases e
  | _ :: _, [], _, _, e, _ => by cases e
  | x :: xs, y :: ys, hx, hy, e, h => by
    obtain ⟨⟨x1, x2⟩, x3⟩ := okw_cons.mp hx
    obtain ⟨⟨y1, y2⟩, y3⟩ := okw_cons.mp hy
    have e' : xs.length = ys.length := by simpa using e
    rw [bval_cons, bval_cons, e']
    unfold ilt at h
    by_cases hxy : x = y
    · rw [if_pos hxy] at h
      have := ilt_val hb x3 y3 e' h
      rw [hxy]; omega
    · rw [if_neg hxy] at h
      have hlt : x < y := of_decide_eq_true h
      have b1 := (okw_bounds hb x3).2
      have b2 := (okw_bounds hb y3).1
      rw [e'] at b1
      have i := rp_id b ys.length
      have p := pow_pos (show 0 < b by omega) ys.length
      have m := Int.mul_le_mul_of_nonneg_right (show x + 1 ≤ y by omega) (Int.le_of_lt p)
      rw [Int.add_mul, Int.one_mul] at m
      omega
/-- the shorter first -/
def slt (xs ys : List Int) : Bool := if xs.length = ys.length then ilt xs ys else decide (xs.length < ys.length)
theorem slt_val {b : Int} (hb : 1 ≤ b) {xs ys : List Int} (hx : okw b xs) (hy : okw b ys) (h : slt xs ys = true) : bval b xs < bval b ys := by
  unfold slt at h
  by_cases e : xs.length = ys.length
  · rw [if_pos e] at h
    exact ilt_val hb hx hy e h
  · rw [if_neg e] at h
    have hlt : xs.length < ys.length := of_decide_eq_true h
    have b1 := (okw_bounds hb hx).2
    have b2 := (okw_bounds hb hy).1
    have m := rp_mono hb (show xs.length + 1 ≤ ys.length by omega)
    rw [rp_next] at m
    omega
theorem ilt_tri : ∀ {xs ys : List Int}, xs.length = ys.length → ilt xs ys = true ∨ xs = ys ∨ ilt ys xs = true
  | [], [], _ => .inr (.inl rfl)
  | [], _ :: _, e => by cases e
  | _ :: _, [], e => by cases e
  | x :: xs, y :: ys, e => by
    unfold ilt
    by_cases hxy : x = y
    · subst hxy
      rw [if_pos rfl, if_pos rfl]
      rcases ilt_tri (xs := xs) (ys := ys) (by simpa using e) with q | q | q
      · exact .inl q
      · exact .inr (.inl (by rw [q]))
      · exact .inr (.inr q)
    · rw [if_neg hxy, if_neg (Ne.symm hxy)]
      rcases Int.lt_or_gt_of_ne hxy with q | q
      · exact .inl (decide_eq_true q)
      · exact .inr (.inr (decide_eq_true q))
theorem slt_tri (xs ys : List Int) : slt xs ys = true ∨ xs = ys ∨ slt ys xs = true := by
  unfold slt
  by_cases e : xs.length = ys.length
  · rw [if_pos e, if_pos e.symm]; exact ilt_tri e
  · rw [if_neg e, if_neg (Ne.symm e)]
    rcases Nat.lt_or_gt_of_ne e with q | q
    · exact .inl (decide_eq_true q)
    · exact .inr (.inr (decide_eq_true q))
theorem okw_inj {b : Int} (hb : 1 ≤ b) {xs ys : List Int} (hx : okw b xs) (hy : okw b ys) (h : bval b xs = bval b ys) : xs = ys := by
  rcases slt_tri xs ys with q | q | q
  · have := slt_val hb hx hy q; omega
  · exact q
  · have := slt_val hb hy hx q; omega
theorem slt_iff {b : Int} (hb : 1 ≤ b) {xs ys : List Int} (hx : okw b xs) (hy : okw b ys) : slt xs ys = decide (bval b xs < bval b ys) := by
  rcases slt_tri xs ys with q | q | q
  · rw [q]; exact (decide_eq_true (slt_val hb hx hy q)).symm
  · subst q
    rw [decide_eq_false (Int.lt_irrefl _)]
    cases z : slt xs xs with
    | false => rfl
    | true => exact absurd (slt_val hb hx hx z) (Int.lt_irrefl _)
  · have z := slt_val hb hy hx q
    rw [decide_eq_false (by omega)]
    cases z' : slt xs ys with
    | false => rfl
    | true => have := slt_val hb hx hy z'; omega
theorem okw_len {b : Int} (hb : 2 ≤ b) {ws : List Int} (h : okw b ws) {k : Nat} (hv : bval b ws < 2 ^ k) : ws.length ≤ k := by
  have b1 := (okw_bounds (by omega) h).1
  rcases Nat.lt_or_ge k ws.length with q | q
  · exfalso
    have m := rp_mono (show 1 ≤ b by omega) (show k + 1 ≤ ws.length by omega)
    rw [rp_pow] at m
    have p := pow_mono (show (0 : Int) ≤ 2 by decide) hb k
    have := rp_nn (show 1 ≤ b by omega) k
    omega
  · exact q
/-- least digit first -/
def rvl (b : Int) : List Int → Int
  | [] => 0
  | d :: r => d + b * rvl b r
theorem bval_rev (b : Int) : ∀ ws, bval b ws.reverse = rvl b ws
  | [] => rfl
  | d :: r => by rw [List.reverse_cons, bval_snoc, bval_rev b r]; show _ = d + b * rvl b r; rw [Int.mul_comm, Int.add_comm]
theorem rvl_snoc (b : Int) : ∀ (ws : List Int) (d : Int), rvl b (ws ++ [d]) = rvl b ws + b ^ ws.length * d
  | [], d => by simp [rvl]
  | x :: r, d => by
    show x + b * rvl b (r ++ [d]) = x + b * rvl b r + _
    rw [rvl_snoc b r d, List.length_cons, Int.pow_succ, Int.mul_add]
    rw [show b ^ r.length * b * d = b * (b ^ r.length * d) by rw [Int.mul_comm (b ^ r.length) b, Int.mul_assoc]]
    omega
theorem isW_sq {d : D} {ws : List Int} (h : isW d ws) : sqOf (.p d) = some (ws.map .int) := by
  rcases h with rfl | rfl <;> rfl
theorem seq_ints {xs ys : List Int} (h : xs = ys) : deq (tI xs) (tI ys) = true := by subst h; exact deq_rfl _
theorem deq_tI (xs ys : List Int) : deq (tI xs) (tI ys) = decide (xs = ys) := deqs_ints xs ys
theorem dok_tI (n : Nat) (xs : List Int) : dok (n + 1) (tI xs) = true := doks_ints n xs
/-! ### comprehensions over what things show -/
theorem lc_of {α : Type} {tg : Tg} {tt : DT} {te : DE} {vs : List Nat} {ε0 : Sg} {R : List D → Prop} (u : α → D) (f : α → Option D) (xs : List α) (hl : xs.length ≤ sizeLine)
    (hs : ∀ x, x ∈ xs → ∀ (acc : List D) (k : List D → Prop), acc.length < sizeLine → k (acc ++ (f x).toList) → lcStep tg tt te vs ε0 (u x) acc k) (h : R (xs.filterMap f)) : DLC tg tt te vs ε0 R (xs.map u) :=
  .mk (lc_run u f xs [] hs (by simpa using hl) (by simpa using h))
/-- every item gives one -/
theorem lc_all {α β : Type} {tg : Tg} {tt : DT} {te : DE} {vs : List Nat} {ε0 : Sg} {R : List D → Prop} (u : α → D) (c : β → D) (g : α → β) (xs : List α) (hl : xs.length ≤ sizeLine)
    (hs : ∀ x, x ∈ xs → ∀ (acc : List D) (k : List D → Prop), acc.length < sizeLine → k (acc ++ [c (g x)]) → lcStep tg tt te vs ε0 (u x) acc k) (h : R ((xs.map g).map c)) : DLC tg tt te vs ε0 R (xs.map u) := by
  refine lc_of u (fun x => some (c (g x))) xs hl (fun x hx acc k ha hk => hs x hx acc k ha hk) ?_
  rw [List.map_map] at h
  have e : xs.filterMap (fun x => some (c (g x))) = xs.map (c ∘ g) := by
    induction xs with
    | nil => rfl
    | cons x r ih => simp
  rw [e]; exact h
/-- over a range, every turn gives one -/
theorem lc_rall {β : Type} {tg : Tg} {tt : DT} {te : DE} {vs : List Nat} {ε0 : Sg} {R : List D → Prop} {lo : Int} {n : Nat} (c : β → D) (g : Nat → β) (hl : n ≤ sizeLine)
    (hs : ∀ x, x < n → ∀ (acc : List D) (k : List D → Prop), acc.length < sizeLine → k (acc ++ [c (g x)]) → lcStep tg tt te vs ε0 (.int (lo + (x : Nat))) acc k) (h : R (((List.range n).map g).map c)) : DLC tg tt te vs ε0 R (rangeL lo n) :=
  lc_all (fun i : Nat => D.int (lo + (i : Nat))) c g (List.range n) (by simpa using hl) (fun x hx => hs x (List.mem_range.mp hx)) h
/-- no item gives any -/
theorem lc_none {α : Type} {tg : Tg} {tt : DT} {te : DE} {vs : List Nat} {ε0 : Sg} {R : List D → Prop} (u : α → D) (xs : List α) (hl : xs.length ≤ sizeLine)
    (hs : ∀ x, x ∈ xs → ∀ (acc : List D) (k : List D → Prop), acc.length < sizeLine → k acc → lcStep tg tt te vs ε0 (u x) acc k) (h : R []) : DLC tg tt te vs ε0 R (xs.map u) := by
  refine lc_of u (fun _ => none) xs hl (fun x hx acc k ha hk => hs x hx acc k ha (by simpa using hk)) ?_
  have e : xs.filterMap (fun _ => (none : Option D)) = [] := by simp
  rw [e]; exact h
theorem any_not {ws : List Int} {g : Int → Bool} {p : Int → Prop} (hg : ∀ d, g d = false ↔ p d) : (ws.map g).any id = false ↔ ∀ d, d ∈ ws → p d := by
  induction ws with
  | nil => simp
  | cons x r ih =>
    rw [List.map_cons, List.any_cons, Bool.or_eq_false_iff, ih]
    exact ⟨fun ⟨a, b⟩ d hd => by
      rcases List.mem_cons.mp hd with e | e
      · rw [e]; exact (hg x).mp a
      · exact b d e, fun h => ⟨(hg x).mpr (h x (by simp)), fun d hd => h d (by simp [hd])⟩⟩
/-! ### places of rows of ints -/
theorem at_ints {ns : List Int} {j : Nat} {x : Int} (h : ns[j]? = some x) : atI (ns.map D.int) (j : Int) = some (.int x) := atI_nat (by rw [List.getElem?_map, h]; rfl)
theorem mid_get (q : List Int) (x : Int) (r : List Int) : (q ++ x :: r)[q.length]? = some x := by simp
theorem mid_set (q : List Int) (x y : Int) (r : List Int) : (q ++ x :: r).set q.length y = q ++ y :: r := by simp
theorem at_mid (q : List Int) (x : Int) (r : List Int) : atI ((q ++ x :: r).map D.int) (q.length : Int) = some (.int x) := at_ints (mid_get q x r)
theorem ix_ints {ns : List Int} {j : Nat} (h : j < ns.length) : ixN (ns.map D.int).length (j : Int) = some j := by unfold L2.ixN; rw [if_pos (by omega), if_pos (by rw [List.length_map]; omega)]; rfl
theorem set_ints (ns : List Int) (j : Nat) (y : Int) : (ns.map D.int).set j (.int y) = (ns.set j y).map D.int := by rw [List.map_set]
theorem last_of {ns : List Int} : ns = [] ∨ ∃ q x, ns = q ++ [x] := by
  rcases List.eq_nil_or_concat ns with h | ⟨q, x, h⟩
  · exact .inl h
  · exact .inr ⟨q, x, by rw [h, List.concat_eq_append]⟩
/-! ### two clauses -/
def lc2Step (tg : Tg) (tt : DT) (di1 : DI) (tg1 : Tg) (tt1 : DT) (te : DE) (vs vs1 : List Nat) (ε0 : Sg) (x : D) (acc : List D) (k : List D → Prop) : Prop :=
  tgD tg x ε0 fun ε2 => tt ε2 (fun b ε3 => IfB b
      (di1 ε3 (fun ys ε4 => ownfree ε4 vs1 = true ∧ lcFold tg1 tt1 te vs1 (wipeD ε4 vs1) (fun acc' => wipeD (wipeD ε4 vs1) vs = ε0 ∧ k acc') ys acc) EF)
      (wipeD ε3 vs = ε0 ∧ k acc)) EF
theorem lc2_run {α : Type} {tg : Tg} {tt : DT} {di1 : DI} {tg1 : Tg} {tt1 : DT} {te : DE} {vs vs1 : List Nat} {ε0 : Sg} {R : List D → Prop} (u : α → D) (f : α → List D) :
    ∀ (xs : List α) (acc : List D), (∀ x, x ∈ xs → ∀ (acc : List D) (k : List D → Prop), acc.length + (f x).length ≤ sizeLine → k (acc ++ f x) → lc2Step tg tt di1 tg1 tt1 te vs vs1 ε0 (u x) acc k) →
      acc.length + (xs.flatMap f).length ≤ sizeLine → R (acc ++ xs.flatMap f) → lc2Fold tg tt di1 tg1 tt1 te vs vs1 ε0 R (xs.map u) acc
  | [], acc, _, _, h => by
    rw [List.flatMap_nil, List.append_nil] at h
    exact h
  | x :: r, acc, hs, hl, h => by
    rw [List.flatMap_cons, List.length_append] at hl
    refine hs x List.mem_cons_self acc (fun acc' => lc2Fold tg tt di1 tg1 tt1 te vs vs1 ε0 R (r.map u) acc') (by omega) ?_
    refine lc2_run u f r _ (fun y hy => hs y (List.mem_cons_of_mem _ hy)) ?_ ?_
    · rw [List.length_append]; omega
    · rw [List.append_assoc, ← List.flatMap_cons]; exact h
theorem lc2_of {α : Type} {tg : Tg} {tt : DT} {di1 : DI} {tg1 : Tg} {tt1 : DT} {te : DE} {vs vs1 : List Nat} {ε0 : Sg} {R : List D → Prop} (u : α → D) (f : α → List D) (xs : List α) (hl : (xs.flatMap f).length ≤ sizeLine)
    (hs : ∀ x, x ∈ xs → ∀ (acc : List D) (k : List D → Prop), acc.length + (f x).length ≤ sizeLine → k (acc ++ f x) → lc2Step tg tt di1 tg1 tt1 te vs vs1 ε0 (u x) acc k) (h : R (xs.flatMap f)) :
    DLC2 tg tt di1 tg1 tt1 te vs vs1 ε0 R (xs.map u) := .mk (lc2_run u f xs [] hs (by simpa using hl) (by simpa using h))
/-- the inner clause over a range, every turn gives one -/
theorem lcF_range {tg : Tg} {tt : DT} {te : DE} {vs : List Nat} {ε0 : Sg} {R : List D → Prop} {lo : Int} {n : Nat} {acc : List D} (g : Nat → D) (hl : acc.length + n ≤ sizeLine)
    (hs : ∀ x, x < n → ∀ (acc : List D) (k : List D → Prop), acc.length < sizeLine → k (acc ++ [g x]) → lcStep tg tt te vs ε0 (.int (lo + (x : Nat))) acc k) (h : R (acc ++ (List.range n).map g)) : lcFold tg tt te vs ε0 R (rangeL lo n) acc := by
  have e : (List.range n).filterMap (fun i => some (g i)) = (List.range n).map g := List.filterMap_eq_map' ▸ rfl
  exact lc_run (fun i : Nat => D.int (lo + (i : Nat))) (fun i => some (g i)) (List.range n) acc (fun x hx acc k ha hk => hs x (List.mem_range.mp hx) acc k ha hk) (by simpa using hl) (by rw [e]; exact h)
theorem rep_ints (n : Nat) (x : Int) : (List.replicate n [D.int x]).flatten = (List.replicate n x).map D.int := by
  induction n with
  | zero => rfl
  | succ n ih => rw [List.replicate_succ, List.flatten_cons, ih, List.replicate_succ]; rfl
theorem rep_sz {k : Int} (x : D) (h0 : 0 ≤ k) (h1 : k ≤ 10000) : -(2 ^ 63) ≤ k ∧ k < 2 ^ 63 ∧ [x].length * k.toNat ≤ sizeLine := by
  refine ⟨by omega, by omega, ?_⟩
  rw [sizeLine_eq, List.length_singleton]; omega
end DL

/-! DV4: digits of a base. -/
namespace DL
open PySem PySem.Spec PyProof.Rows L2 RT
def okd (b : Int) (ws : List Int) : Prop := ∀ d, d ∈ ws → 0 ≤ d ∧ d < b
def nolead (ws : List Int) : Prop := ∀ x, ws.head? = some x → x ≠ 0
def canon (b : Int) (ws : List Int) : Prop := okd b ws ∧ nolead ws
theorem okd_nil (b : Int) : okd b [] := fun _ h => (nomatch h)
theorem canon_nil (b : Int) : canon b [] := ⟨okd_nil b, fun _ h => (nomatch h)⟩
theorem okd_cons {b x : Int} {xs : List Int} : okd b (x :: xs) ↔ (0 ≤ x ∧ x < b) ∧ okd b xs :=
  ⟨fun h => ⟨h x (by simp), fun d hd => h d (by simp [hd])⟩, fun h d hd => by
    rcases List.mem_cons.mp hd with e | hd
    · rw [e]; exact h.1
    · exact h.2 d hd⟩
theorem okd_append {b : Int} {xs ys : List Int} : okd b (xs ++ ys) ↔ okd b xs ∧ okd b ys :=
  ⟨fun h => ⟨fun d hd => h d (by simp [hd]), fun d hd => h d (by simp [hd])⟩, fun h d hd => (List.mem_append.mp hd).elim (h.1 d) (h.2 d)⟩
theorem okd_rev {b : Int} {xs : List Int} (h : okd b xs) : okd b xs.reverse := fun d hd => h d (List.mem_reverse.mp hd)
theorem okd_rep {b : Int} (hb : 1 ≤ b) (n : Nat) : okd b (List.replicate n 0) := fun d hd => by rw [List.eq_of_mem_replicate hd]; exact ⟨Int.le_refl 0, by omega⟩
theorem canon_cons {b x : Int} {xs : List Int} : canon b (x :: xs) ↔ (1 ≤ x ∧ x < b) ∧ okd b xs :=
  ⟨fun h => by
    obtain ⟨h1, h2⟩ := okd_cons.mp h.1
    have := h.2 x rfl
    exact ⟨⟨by omega, h1.2⟩, h2⟩, fun h => ⟨okd_cons.mpr ⟨⟨by omega, h.1.2⟩, h.2⟩, fun y hy => by cases hy; omega⟩⟩
theorem okd_bounds {b : Int} (hb : 1 ≤ b) : ∀ {ws : List Int}, okd b ws → 0 ≤ bval b ws ∧ bval b ws < b ^ ws.length
  | [], _ => ⟨Int.le_refl _, by simp [bval]⟩
  | x :: xs, h => by
    obtain ⟨⟨h1, h2⟩, h3⟩ := okd_cons.mp h
    obtain ⟨i1, i2⟩ := okd_bounds hb h3
    rw [bval_cons, List.length_cons, Int.pow_succ]
    have p := pow_pos (show 0 < b by omega) xs.length
    have m1 := Int.mul_le_mul_of_nonneg_right h1 (Int.le_of_lt p)
    have m2 := Int.mul_le_mul_of_nonneg_right (show x + 1 ≤ b by omega) (Int.le_of_lt p)
    rw [Int.add_mul, Int.one_mul, Int.mul_comm b] at m2
    omega
theorem okd_inj {b : Int} (hb : 1 ≤ b) : ∀ {xs ys : List Int}, okd b xs → okd b ys → xs.length = ys.length → bval b xs = bval b ys → xs = ys
  | [], [], _, _, _, _ => rfl
  | [], _ :: _, _, _, e, _ => by cases e
  | _ :: _, [], _, _, e, _ => by cases e
  | x :: xs, y :: ys, hx, hy, e, h => by
    obtain ⟨⟨x1, x2⟩, x3⟩ := okd_cons.mp hx
    obtain ⟨⟨y1, y2⟩, y3⟩ := okd_cons.mp hy
    have e' : xs.length = ys.length := by simpa using e
    rw [bval_cons, bval_cons, e'] at h
    have b1 := okd_bounds hb x3
    have b2 := okd_bounds hb y3
    rw [e'] at b1
    have p := pow_pos (show 0 < b by omega) ys.length
    have hxy : x = y := by
      rcases Int.lt_trichotomy x y with q | q | q
      · have m := Int.mul_le_mul_of_nonneg_right (show x + 1 ≤ y by omega) (Int.le_of_lt p)
        rw [Int.add_mul, Int.one_mul] at m
        omega
      · exact q
      · have m := Int.mul_le_mul_of_nonneg_right (show y + 1 ≤ x by omega) (Int.le_of_lt p)
        rw [Int.add_mul, Int.one_mul] at m
        omega
    subst hxy
    rw [okd_inj hb x3 y3 e' (by omega)]
theorem canon_low {b : Int} (hb : 2 ≤ b) {ws : List Int} (h : canon b ws) (hne : ws ≠ []) : b ^ (ws.length - 1) ≤ bval b ws := by
  cases ws with
  | nil => exact absurd rfl hne
  | cons x xs =>
    obtain ⟨h1, h2⟩ := canon_cons.mp h
    have b1 := okd_bounds (show 1 ≤ b by omega) h2
    have p := pow_pos (show 0 < b by omega) xs.length
    have m := Int.mul_le_mul_of_nonneg_right h1.1 (Int.le_of_lt p)
    rw [Int.one_mul] at m
    rw [bval_cons, List.length_cons, Nat.add_sub_cancel]
    omega
theorem pow_le_pow {b : Int} (hb : 1 ≤ b) {m n : Nat} (h : m ≤ n) : b ^ m ≤ b ^ n := by
  induction n with
  | zero => rw [Nat.le_zero.mp h]; exact Int.le_refl _
  | succ n ih =>
    rcases Nat.lt_or_ge n m with q | q
    · rw [show m = n + 1 by omega]; exact Int.le_refl _
    · have i := ih q
      have p := pow_pos (show 0 < b by omega) n
      have := Int.mul_le_mul_of_nonneg_left hb (Int.le_of_lt p)
      rw [Int.mul_one] at this
      rw [Int.pow_succ]; omega
theorem canon_len_lt {b : Int} (hb : 2 ≤ b) {xs ys : List Int} (hx : canon b xs) (hy : canon b ys) (h : xs.length < ys.length) : bval b xs < bval b ys := by
  have b1 := (okd_bounds (show 1 ≤ b by omega) hx.1).2
  have b2 := canon_low hb hy (by intro z; subst z; simp at h)
  have := pow_le_pow (show 1 ≤ b by omega) (show xs.length ≤ ys.length - 1 by omega)
  omega
theorem canon_inj {b : Int} (hb : 2 ≤ b) {xs ys : List Int} (hx : canon b xs) (hy : canon b ys) (h : bval b xs = bval b ys) : xs = ys := by
  refine okd_inj (by omega) hx.1 hy.1 ?_ h
  rcases Nat.lt_trichotomy xs.length ys.length with q | q | q
  · have := canon_len_lt hb hx hy q; omega
  · exact q
  · have := canon_len_lt hb hy hx q; omega
theorem canon_len {b : Int} (hb : 2 ≤ b) {ws : List Int} (h : canon b ws) {k : Nat} (hv : bval b ws < 2 ^ k) : ws.length ≤ k := by
  rcases Nat.lt_or_ge k ws.length with q | q
  · exfalso
    have l := canon_low hb h (by intro z; subst z; simp at q)
    have := pow_le_pow (show 1 ≤ b by omega) (show k ≤ ws.length - 1 by omega)
    have := pow_mono (show (0 : Int) ≤ 2 by decide) hb k
    omega
  · exact q
theorem ilt_iff {b : Int} (hb : 1 ≤ b) : ∀ {xs ys : List Int}, okd b xs → okd b ys → xs.length = ys.length → ilt xs ys = true → bval b xs < bval b ys
  | [], [], _, _, _, h => by cases h
  | [], _ :: _, _, _, e, _ => by cases e
  | _ :: _, [], _, _, e, _ => by cases e
  | x :: xs, y :: ys, hx, hy, e, h => by
    obtain ⟨⟨x1, x2⟩, x3⟩ := okd_cons.mp hx
    obtain ⟨⟨y1, y2⟩, y3⟩ := okd_cons.mp hy
    have e' : xs.length = ys.length := by simpa using e
    rw [bval_cons, bval_cons, e']
    unfold ilt at h
    by_cases hxy : x = y
    · rw [if_pos hxy] at h
      have := ilt_iff hb x3 y3 e' h
      rw [hxy]; omega
    · rw [if_neg hxy] at h
      have hlt : x < y := of_decide_eq_true h
      have b1 := okd_bounds hb x3
      have b2 := okd_bounds hb y3
      rw [e'] at b1
      have p := pow_pos (show 0 < b by omega) ys.length
      have m := Int.mul_le_mul_of_nonneg_right (show x + 1 ≤ y by omega) (Int.le_of_lt p)
      rw [Int.add_mul, Int.one_mul] at m
      omega
theorem slt_canon {b : Int} (hb : 2 ≤ b) {xs ys : List Int} (hx : canon b xs) (hy : canon b ys) : slt xs ys = decide (bval b xs < bval b ys) := by
  have one : ∀ {xs ys : List Int}, canon b xs → canon b ys → slt xs ys = true → bval b xs < bval b ys := fun {xs ys} hx hy h => by
    unfold slt at h
    by_cases e : xs.length = ys.length
    · rw [if_pos e] at h; exact ilt_iff (by omega) hx.1 hy.1 e h
    · rw [if_neg e] at h; exact canon_len_lt hb hx hy (of_decide_eq_true h)
  rcases slt_tri xs ys with q | q | q
  · rw [q]; exact (decide_eq_true (one hx hy q)).symm
  · subst q
    rw [decide_eq_false (Int.lt_irrefl _)]
    cases z : slt xs xs with
    | false => rfl
    | true => exact absurd (one hx hx z) (Int.lt_irrefl _)
  · have z := one hy hx q
    rw [decide_eq_false (by omega)]
    cases z' : slt xs ys with
    | false => rfl
    | true => have := one hx hy z'; omega
theorem bval_zeros (b : Int) (n : Nat) (ws : List Int) : bval b (List.replicate n 0 ++ ws) = bval b ws := by
  induction n with
  | zero => rfl
  | succ n ih => rw [List.replicate_succ, List.cons_append, bval_cons, ih, Int.zero_mul, Int.zero_add]
/-- the last is not 0: as it stands, least digit first -/
theorem canon_rev {b : Int} {fs : List Int} (h : okd b fs) (hl : ∀ q x, fs = q ++ [x] → x ≠ 0) : canon b fs.reverse := by
  refine ⟨okd_rev h, fun x hx => ?_⟩
  rcases last_of (ns := fs) with rfl | ⟨q, y, rfl⟩
  · cases hx
  · rw [List.reverse_append] at hx
    cases hx
    exact hl q x rfl
/-- what a long division leaves: a number's digits, least first, the last not 0 -/
theorem canon_step {b : Int} (hb : 2 ≤ b) {fs : List Int} {left n : Int} (h : okd b fs) (l0 : 0 ≤ left) (hv : rvl b fs + b ^ fs.length * left = n) : fs.length ≤ 0 ∨ (b : Int) ^ fs.length * left ≤ n := by
  right
  have := okd_bounds (show 1 ≤ b by omega) (okd_rev h)
  rw [bval_rev] at this
  omega
/-- over what stands at 0, 1, .. -/
theorem fold_idx {g : DG} {b : DS} {P : DN} {n : Nat} (u : Nat → D) (I : Nat → Sg → Prop) (done : ∀ ε, I n ε → P.nx ε)
    (step : ∀ k ε, k < n → I k ε → ∀ nx : Sg → Prop, (∀ ε', I (k + 1) ε' → nx ε') → g (.p (u k)) ε (fun ε1 => nf ε1 (b (P.loop nx))) P.er) (ε : Sg) (h : I 0 ε) : DFo g b P ((List.range n).map u) ε := by
  refine ⟨?_⟩
  have go : ∀ (m k : Nat) (ε : Sg), k + m = n → I k ε → dFold g b P ((List.range' k m).map u) ε := by
    intro m
    induction m with
    | zero =>
      intro k ε e h
      have e' : k = n := by omega
      subst e'
      exact done ε h
    | succ m ih =>
      intro k ε e h
      rw [List.range'_succ, List.map_cons]
      exact step k ε (by omega) h _ fun ε' h' => ih (k + 1) ε' (by omega) h'
  have z := go n 0 ε (by omega) h
  rw [List.range_eq_range']
  exact z
theorem rv_take (b : Int) : ∀ (ws : List Int) (s : Nat), ws.length ≤ s → rvl b ((List.range s).map fun k => ws.getD k 0) = rvl b ws
  | [], s, _ => by
    have : ∀ s, rvl b ((List.range s).map fun _ => (0 : Int)) = 0 := fun s => by
      induction s with
      | zero => rfl
      | succ s ih => rw [List.range_succ, List.map_append, List.map_singleton, rvl_snoc, ih]; simp
    exact this s
  | x :: r, s, h => by
    cases s with
    | zero => simp at h
    | succ s =>
      rw [List.range_succ_eq_map, List.map_cons, List.map_map]
      show (x :: r).getD 0 0 + b * rvl b ((List.range s).map fun k => (x :: r).getD (k + 1) 0) = x + b * rvl b r
      have ih := rv_take b r s (by simpa using h)
      have e : ((List.range s).map fun k => (x :: r).getD (k + 1) 0) = (List.range s).map fun k => r.getD k 0 := rfl
      rw [e, ih]; rfl
/-- those that p takes -/
theorem lc_filter {α : Type} {tg : Tg} {tt : DT} {te : DE} {vs : List Nat} {ε0 : Sg} {R : List D → Prop} (u : α → D) (p : α → Bool) (xs : List α) (hl : xs.length ≤ sizeLine)
    (hs : ∀ x, x ∈ xs → ∀ (acc : List D) (k : List D → Prop), acc.length < sizeLine → (p x = true → k (acc ++ [u x])) → (p x = false → k acc) → lcStep tg tt te vs ε0 (u x) acc k) (h : R ((xs.filter p).map u)) : DLC tg tt te vs ε0 R (xs.map u) := by
  refine lc_of u (fun x => if p x then some (u x) else none) xs hl (fun x hx acc k ha hk => hs x hx acc k ha (fun e => by simpa [e] using hk) (fun e => by simpa [e] using hk)) ?_
  have e : xs.filterMap (fun x => if p x then some (u x) else none) = (xs.filter p).map u := by
    clear h hs hl
    induction xs with
    | nil => rfl
    | cons x r ih => cases q : p x <;> simp [List.filterMap_cons, List.filter_cons, q, ih]
  rw [e]; exact h
theorem filter_nil {α : Type} {p : α → Bool} {xs : List α} : xs.filter p = [] ↔ ∀ x, x ∈ xs → p x = false := by
  rw [List.filter_eq_nil_iff]; simp
theorem deq_nil (l : List Int) : deq (.lst (l.map .int)) (.lst []) = decide (l = []) := by cases l <;> rfl
theorem in01 (c : Int) : inD (.int c) [.int 0, .int 1] = decide (c = 0 ∨ c = 1) := by
  show (decide (0 = c) || (decide (1 = c) || false)) = _
  rw [Bool.or_false, ← Bool.decide_or]
  exact decide_eq_decide.mpr (by constructor <;> rintro (h | h) <;> simp [h])
end DL

namespace DL
open PySem PySem.Spec PyProof.Rows L2 RT
/-! ### shapes of claims that are bent -/
inductive Sh where
  | int
  | non
  | str (s : String)
  | many (s : Sh)
  | tup (l : List Sh)
mutual
/-- data of a shape, rows of at most n -/
def Sh.has : Sh → Nat → D → Prop
  | .int, _, d => ∃ i, d = .int i
  | .non, _, d => d = .non
  | .str s, _, d => d = .str (PySem.Str.ofString s)
  | .many s, n, d => ∃ ds, d = .tup ds ∧ ds.length ≤ n ∧ ∀ x, x ∈ ds → Sh.has s n x
  | .tup l, n, d => ∃ ds, d = .tup ds ∧ Sh.hass l n ds
def Sh.hass : List Sh → Nat → List D → Prop
  | [], _, ds => ds = []
  | s :: r, n, ds => ∃ d e, ds = d :: e ∧ Sh.has s n d ∧ Sh.hass r n e
end
mutual
/-- how deep -/
def Sh.dep : Sh → Nat
  | .many s => s.dep + 1
  | .tup l => Sh.deps l + 1
  | _ => 0
def Sh.deps : List Sh → Nat
  | [] => 0
  | s :: r => max s.dep (Sh.deps r)
end
mutual
/-- at most so many numbers and rows -/
def Sh.cap : Sh → Nat → Nat
  | .int, _ => 1
  | .many s, n => 1 + n * s.cap n
  | .tup l, n => 1 + Sh.caps l n
  | _, _ => 0
def Sh.caps : List Sh → Nat → Nat
  | [], _ => 0
  | s :: r, n => s.cap n + Sh.caps r n
end
/-- is a row or a text -/
def Sh.row : Sh → Bool
  | .int => false
  | .non => false
  | _ => true
mutual
/-- fixed rows hold a row or a text -/
def Sh.ok : Sh → Bool
  | .many s => s.ok
  | .tup l => Nat.ble l.length 1000 && (l.any Sh.row && Sh.oks l)
  | _ => true
def Sh.oks : List Sh → Bool
  | [] => true
  | s :: r => s.ok && Sh.oks r
end
theorem hass_len : ∀ {l : List Sh} {n : Nat} {ds : List D}, Sh.hass l n ds → ds.length = l.length
  | [], _, _, h => by unfold Sh.hass at h; subst h; rfl
  | s :: r, n, _, h => by unfold Sh.hass at h; obtain ⟨d, e, rfl, _, h⟩ := h; simp [hass_len h]
theorem hass_snoc : ∀ {l : List Sh} {s : Sh} {n : Nat} {ds : List D} {d : D}, Sh.hass l n ds → s.has n d → Sh.hass (l ++ [s]) n (ds ++ [d])
  | [], s, n, _, d, h, hd => by
    unfold Sh.hass at h; subst h
    simp only [List.nil_append, Sh.hass]
    exact ⟨d, [], rfl, hd, rfl⟩
  | t :: r, s, n, _, d, h, hd => by
    unfold Sh.hass at h
    obtain ⟨x, e, rfl, h1, h2⟩ := h
    rw [List.cons_append, List.cons_append]
    unfold Sh.hass
    exact ⟨x, _, rfl, h1, hass_snoc h2 hd⟩
theorem caps_snoc : ∀ (l : List Sh) (s : Sh) (n : Nat), Sh.caps (l ++ [s]) n = Sh.caps l n + s.cap n
  | [], s, n => by simp [Sh.caps]
  | t :: r, s, n => by rw [List.cons_append, Sh.caps, Sh.caps, caps_snoc r s n]; omega
theorem caps_app : ∀ (l m : List Sh) (n : Nat), Sh.caps (l ++ m) n = Sh.caps l n + Sh.caps m n
  | [], m, n => by simp [Sh.caps]
  | t :: r, m, n => by rw [List.cons_append, Sh.caps, Sh.caps, caps_app r m n]; omega
theorem hass_rep {s : Sh} {n : Nat} : ∀ {ds : List D}, (∀ x, x ∈ ds → s.has n x) → Sh.hass (List.replicate ds.length s) n ds
  | [], _ => by rw [List.length_nil, List.replicate_zero]; unfold Sh.hass; rfl
  | d :: r, h => by
    rw [List.length_cons, List.replicate_succ]
    unfold Sh.hass
    exact ⟨d, r, rfl, h d (by simp), hass_rep fun x hx => h x (by simp [hx])⟩
theorem rep_hass {s : Sh} {n : Nat} : ∀ {k : Nat} {ds : List D}, Sh.hass (List.replicate k s) n ds → ds.length = k ∧ ∀ x, x ∈ ds → s.has n x
  | 0, ds, h => by
    rw [List.replicate_zero] at h
    unfold Sh.hass at h
    subst h
    exact ⟨rfl, fun x hx => (nomatch hx)⟩
  | k + 1, ds, h => by
    rw [List.replicate_succ] at h
    unfold Sh.hass at h
    obtain ⟨d, e, rfl, h1, h2⟩ := h
    obtain ⟨h3, h4⟩ := rep_hass h2
    refine ⟨by simp [h3], fun x hx => ?_⟩
    rcases List.mem_cons.mp hx with rfl | hx
    · exact h1
    · exact h4 x hx
theorem caps_rep (s : Sh) (n : Nat) : ∀ k, Sh.caps (List.replicate k s) n = k * s.cap n
  | 0 => by simp [Sh.caps]
  | k + 1 => by rw [List.replicate_succ, Sh.caps, caps_rep s n k, Nat.succ_mul]; omega
theorem deps_mem : ∀ {l : List Sh} {s : Sh}, s ∈ l → s.dep ≤ Sh.deps l
  | t :: r, s, h => by
    unfold Sh.deps
    rcases List.mem_cons.mp h with rfl | h
    · exact Nat.le_max_left _ _
    · exact Nat.le_trans (deps_mem h) (Nat.le_max_right _ _)
theorem oks_mem : ∀ {l : List Sh} {s : Sh}, Sh.oks l = true → s ∈ l → s.ok = true
  | t :: r, s, o, h => by
    unfold Sh.oks at o
    rw [Bool.and_eq_true] at o
    rcases List.mem_cons.mp h with rfl | h
    · exact o.1
    · exact oks_mem o.2 h
theorem doks_all {m : Nat} : ∀ {ds : List D}, (∀ x, x ∈ ds → dok m x = true) → doks m ds = true
  | [], _ => by cases m <;> simp [doks]
  | d :: r, h => by
    have := doks_all (m := m) (ds := r) fun x hx => h x (by simp [hx])
    cases m <;> simp [doks, h d (by simp), this]
theorem doks_mem {m : Nat} : ∀ {ds : List D}, doks m ds = true → ∀ x, x ∈ ds → dok m x = true
  | d :: r, h, x, hx => by
    have h : dok m d = true ∧ doks m r = true := by cases m <;> simpa [doks] using h
    rcases List.mem_cons.mp hx with rfl | hx
    · exact h.1
    · exact doks_mem h.2 x hx
theorem strOk_of (s : String) : PyData.strOk (PySem.Str.ofString s) = true := by
  have := dok_str 1 s
  simpa only [dok] using this
mutual
theorem has_dok : ∀ (s : Sh) (n : Nat) (d : D), s.has n d → ∀ m, s.dep ≤ m → dok m d = true
  | .int, _, _, h, m, _ => by unfold Sh.has at h; obtain ⟨i, rfl⟩ := h; exact dok_int _ _
  | .non, _, _, h, m, _ => by unfold Sh.has at h; subst h; cases m <;> rfl
  | .str s, _, _, h, m, _ => by
    unfold Sh.has at h; subst h
    exact dok_str m s
  | .many s, n, _, h, m, hm => by
    unfold Sh.has at h
    obtain ⟨ds, rfl, _, h⟩ := h
    unfold Sh.dep at hm
    cases m with
    | zero => omega
    | succ m =>
      show doks m ds = true
      exact doks_all fun x hx => has_dok s n x (h x hx) m (by omega)
  | .tup l, n, _, h, m, hm => by
    unfold Sh.has at h
    obtain ⟨ds, rfl, h⟩ := h
    unfold Sh.dep at hm
    cases m with
    | zero => omega
    | succ m =>
      show doks m ds = true
      exact hass_dok l n ds h m (by omega)
theorem hass_dok : ∀ (l : List Sh) (n : Nat) (ds : List D), Sh.hass l n ds → ∀ m, Sh.deps l ≤ m → doks m ds = true
  | [], _, _, h, m, _ => by unfold Sh.hass at h; subst h; cases m <;> simp [doks]
  | s :: r, n, _, h, m, hm => by
    unfold Sh.hass at h
    obtain ⟨d, e, rfl, h1, h2⟩ := h
    unfold Sh.deps at hm
    have a := has_dok s n d h1 m (by omega)
    have b := hass_dok r n e h2 m (by omega)
    cases m <;> simp [doks, a, b]
end
/-- a tuple or a text -/
def isRow : D → Bool
  | .tup _ => true
  | .str _ => true
  | _ => false
theorem row_has : ∀ {s : Sh} {n : Nat} {d : D}, s.has n d → isRow d = s.row
  | .int, _, _, h => by unfold Sh.has at h; obtain ⟨i, rfl⟩ := h; rfl
  | .non, _, _, h => by unfold Sh.has at h; subst h; rfl
  | .str s, _, _, h => by unfold Sh.has at h; subst h; rfl
  | .many s, n, _, h => by unfold Sh.has at h; obtain ⟨ds, rfl, _⟩ := h; rfl
  | .tup l, n, _, h => by unfold Sh.has at h; obtain ⟨ds, rfl, _⟩ := h; rfl
theorem hass_row : ∀ {l : List Sh} {n : Nat} {ds : List D}, Sh.hass l n ds → l.any Sh.row = true → ∃ x, x ∈ ds ∧ isRow x = true
  | [], _, _, _, a => by simp at a
  | t :: r, n, _, h, a => by
    unfold Sh.hass at h
    obtain ⟨d, e, rfl, h1, h2⟩ := h
    rw [List.any_cons, Bool.or_eq_true] at a
    rcases a with a | a
    · exact ⟨d, by simp, by rw [row_has h1]; exact a⟩
    · obtain ⟨x, hx, z⟩ := hass_row h2 a
      exact ⟨x, by simp [hx], z⟩
theorem dep_many (t : Sh) : (Sh.many t).dep = t.dep + 1 := by conv => lhs; unfold Sh.dep
theorem dep_tup (l : List Sh) : (Sh.tup l).dep = Sh.deps l + 1 := by conv => lhs; unfold Sh.dep
theorem cap_many (t : Sh) (n : Nat) : (Sh.many t).cap n = 1 + n * t.cap n := by conv => lhs; unfold Sh.cap
theorem cap_tup (l : List Sh) (n : Nat) : (Sh.tup l).cap n = 1 + Sh.caps l n := by conv => lhs; unfold Sh.cap
theorem has_cases {s : Sh} {n : Nat} {d : D} (h : s.has n d) (o : s.ok = true) (hn : n < 1000000) :
    (∃ i, d = .int i ∧ (∀ j, s.has n (.int j)) ∧ 1 ≤ s.cap n) ∨ d = .non ∨ (∃ z, d = .str (PySem.Str.ofString z)) ∨
    ∃ ds L, d = .tup ds ∧ Sh.hass L n ds ∧ ds.length < 2000000 ∧ (∀ t, t ∈ L → t.dep + 1 ≤ s.dep ∧ t.ok = true) ∧ Sh.caps L n + 1 ≤ s.cap n ∧ (∀ es, Sh.hass L n es → s.has n (.tup es)) ∧
      ((∀ x, x ∈ ds → isRow x = false) → ∀ k, s.has n (.tup (ds.take k))) := by
  cases s with
  | int => 
    unfold Sh.has at h
    obtain ⟨i, rfl⟩ := h
    exact .inl ⟨i, rfl, fun j => by unfold Sh.has; exact ⟨j, rfl⟩, by simp [Sh.cap]⟩
  | non => unfold Sh.has at h; exact .inr (.inl h)
  | str z => unfold Sh.has at h; exact .inr (.inr (.inl ⟨z, h⟩))
  | many t =>
    unfold Sh.has at h
    obtain ⟨ds, rfl, h1, h2⟩ := h
    refine .inr (.inr (.inr ⟨ds, List.replicate ds.length t, rfl, hass_rep h2, by omega, fun u hu => ?_, ?_, fun es he => ?_, fun _ k => ?_⟩))
    · have := (List.mem_replicate.mp hu).2
      subst this
      unfold Sh.ok at o
      exact ⟨by rw [dep_many]; exact Nat.le_refl _, o⟩
    · rw [caps_rep]
      rw [cap_many]
      have := Nat.mul_le_mul_right (t.cap n) h1
      omega
    · obtain ⟨e1, e2⟩ := rep_hass he
      unfold Sh.has
      exact ⟨es, rfl, by omega, e2⟩
    · unfold Sh.has
      refine ⟨_, rfl, by rw [List.length_take]; omega, fun x hx => h2 x (List.mem_of_mem_take hx)⟩
  | tup l =>
    unfold Sh.has at h
    obtain ⟨ds, rfl, h⟩ := h
    unfold Sh.ok at o
    rw [Bool.and_eq_true, Bool.and_eq_true] at o
    have hl := hass_len h
    have ol := Nat.le_of_ble_eq_true o.1
    refine .inr (.inr (.inr ⟨ds, l, rfl, h, by omega, fun u hu => ⟨?_, oks_mem o.2.2 hu⟩, ?_, fun es he => ?_, fun z => ?_⟩))
    · have := deps_mem hu
      rw [dep_tup]
      omega
    · rw [cap_tup]; omega
    · unfold Sh.has
      exact ⟨es, rfl, he⟩
    · obtain ⟨x, hx, e⟩ := hass_row h o.2.1
      rw [z x hx] at e
      cases e
theorem lc_filt {tg : Tg} {tt : DT} {te : DE} {vs : List Nat} {ε0 : Sg} {R : List D → Prop} (p : D → Bool) (xs : List D) (hl : xs.length ≤ sizeLine)
    (hs : ∀ x, x ∈ xs → ∀ (acc : List D) (k : List D → Prop), acc.length < sizeLine → (p x = true → k (acc ++ [x])) → (p x = false → k acc) → lcStep tg tt te vs ε0 x acc k) (h : R (xs.filter p)) : DLC tg tt te vs ε0 R xs := by
  have := lc_filter (tg := tg) (tt := tt) (te := te) (vs := vs) (ε0 := ε0) (R := R) (fun x : D => x) p xs hl hs (by rwa [List.map_id'])
  rwa [List.map_id'] at this
theorem deq_nilD (l : List D) : deq (.lst l) (.lst []) = l.isEmpty := by cases l <;> rfl
/-- a row of numbers -/
abbrev Sh.ints : Sh := .many .int
theorem has_ints {n : Nat} {d : D} (h : Sh.ints.has n d) : ∃ ws : List Int, d = tI ws ∧ ws.length ≤ n := by
  unfold Sh.ints Sh.has at h
  obtain ⟨ds, rfl, h1, h2⟩ := h
  have : ∀ ds : List D, (∀ x, x ∈ ds → Sh.int.has n x) → ∃ ws : List Int, ds = ws.map .int := by
    intro ds
    induction ds with
    | nil => exact fun _ => ⟨[], rfl⟩
    | cons d r ih =>
      intro h
      obtain ⟨ws, rfl⟩ := ih fun x hx => h x (by simp [hx])
      have hd := h d (by simp)
      unfold Sh.has at hd
      obtain ⟨i, rfl⟩ := hd
      exact ⟨i :: ws, rfl⟩
  obtain ⟨ws, rfl⟩ := this ds h2
  exact ⟨ws, rfl, by rwa [List.length_map] at h1⟩
theorem ints_has {n : Nat} (ws : List Int) (h : ws.length ≤ n) : Sh.ints.has n (tI ws) := by
  unfold Sh.ints Sh.has
  refine ⟨_, rfl, by rwa [List.length_map], fun x hx => ?_⟩
  obtain ⟨i, _, rfl⟩ := List.mem_map.mp hx
  unfold Sh.has
  exact ⟨i, rfl⟩
end DL

set_option maxHeartbeats 4000000
/-! DK2: sorted of a list of tuples of ints. -/
namespace DL
theorem ilt_nil (ms : List Int) : ilt [] ms = !ms.isEmpty := rfl
theorem ilt_cn (n : Int) (ns : List Int) : ilt (n :: ns) [] = false := rfl
theorem ilt_cc (n m : Int) (ns ms : List Int) : ilt (n :: ns) (m :: ms) = if n = m then ilt ns ms else decide (n < m) := rfl
theorem ilt_asym : ∀ xs ys : List Int, ilt xs ys = true → ilt ys xs = false
  | [], [], h => by rw [ilt_nil] at h; cases h
  | [], y :: ys, _ => rfl
  | x :: xs, [], h => by rw [ilt_cn] at h; cases h
  | x :: xs, y :: ys, h => by
    rw [ilt_cc] at h ⊢
    by_cases e : x = y
    · rw [if_pos e] at h
      rw [if_pos e.symm]
      exact ilt_asym xs ys h
    · rw [if_neg e] at h
      rw [if_neg (Ne.symm e)]
      have := of_decide_eq_true h
      exact decide_eq_false (by omega)
theorem ilt_anti : ∀ xs ys : List Int, ilt xs ys = false → ilt ys xs = false → xs = ys
  | [], [], _, _ => rfl
  | [], y :: ys, h, _ => by rw [ilt_nil] at h; cases h
  | x :: xs, [], _, h => by rw [ilt_nil] at h; cases h
  | x :: xs, y :: ys, h, h' => by
    rw [ilt_cc] at h h'
    by_cases e : x = y
    · rw [if_pos e] at h
      rw [if_pos e.symm] at h'
      rw [e, ilt_anti xs ys h h']
    · rw [if_neg e] at h
      rw [if_neg (Ne.symm e)] at h'
      have := of_decide_eq_false h
      have := of_decide_eq_false h'
      omega
theorem ilt_tr : ∀ xs ys zs : List Int, ilt ys xs = false → ilt zs ys = false → ilt zs xs = false
  | [], _, [], _, _ => rfl
  | [], _, _ :: _, _, _ => rfl
  | x :: xs, [], _, h, _ => by rw [ilt_nil] at h; cases h
  | x :: xs, y :: ys, [], _, h => by rw [ilt_nil] at h; cases h
  | x :: xs, y :: ys, z :: zs, h1, h2 => by
    rw [ilt_cc] at h1 h2 ⊢
    by_cases e1 : y = x
    · rw [if_pos e1] at h1
      subst e1
      by_cases e2 : z = y
      · rw [if_pos e2] at h2 ⊢
        exact ilt_tr xs ys zs h1 h2
      · rw [if_neg e2] at h2 ⊢
        exact h2
    · rw [if_neg e1] at h1
      have h1 := of_decide_eq_false h1
      by_cases e2 : z = y
      · subst e2
        rw [if_neg e1]
        exact decide_eq_false h1
      · rw [if_neg e2] at h2
        have h2 := of_decide_eq_false h2
        rw [if_neg (by omega)]
        exact decide_eq_false (by omega)
theorem sorted_one : ∀ {l m : List (List Int)}, l.Perm m → l.Pairwise (fun a b => ilt b a = false) → m.Pairwise (fun a b => ilt b a = false) → l = m
  | [], m, p, _, _ => (List.Perm.eq_nil p.symm).symm
  | x :: l, [], p, _, _ => absurd p.length_eq (by simp)
  | x :: l, y :: m, p, hl, hm => by
    have hl' := List.pairwise_cons.mp hl
    have hm' := List.pairwise_cons.mp hm
    have rf : ∀ z : List Int, ilt z z = false := fun z => by
      cases q : ilt z z with
      | false => rfl
      | true => rw [ilt_asym z z q] at q; exact q.symm
    have h1 : ilt y x = false := by
      rcases List.mem_cons.mp (p.mem_iff.mpr (List.mem_cons_self (a := y) (l := m))) with e | h
      · rw [e]; exact rf x
      · exact hl'.1 y h
    have h2 : ilt x y = false := by
      rcases List.mem_cons.mp (p.mem_iff.mp (List.mem_cons_self (a := x) (l := l))) with e | h
      · rw [e]; exact rf y
      · exact hm'.1 x h
    have e := ilt_anti x y h2 h1
    subst e
    rw [sorted_one p.cons_inv hl'.2 hm'.2]
end DL
namespace DL.ST
open PySem PyProof.Rows Srt SrtO L2
section
variable {prog : Program} {w : World} {A : Around} {E : Value → Shared → Prop} {s : Shared} {Q : Bool → Shared → Prop}
theorem swo (k : Value → List Int) : Swo fun v u => DL.ilt (k v) (k u) := ⟨fun x y h => ilt_asym _ _ h, fun x y z h1 h2 => ilt_tr _ _ _ h1 h2⟩
theorem lex {b : Bool} {xs ys : List Value} {ns ms : List Int} (i : Nat) (hx : IntsAre xs ns) (hy : IntsAre ys ms) (h : Q (ilt ns ms) s) : PySem.W.KatLex prog w A b (decide (ns.length < ms.length)) Q (xs.zip ys) i s := by
  induction hx generalizing ys ms i with
  | nil =>
    cases hy with
    | nil => exact PySem.W.kat_nil h
    | cons q u hy => exact PySem.W.kat_nil h
  | @cons p t xs ns hx ih =>
    cases hy with
    | nil => exact PySem.W.kat_nil h
    | @cons q u ys ms hy =>
      show PySem.W.KatLex prog w A b _ Q ((Value.int p t, Value.int q u) :: xs.zip ys) i s
      refine PySem.W.kat_cons (wpAny_eqBool_int ?_)
      rw [ilt_cc] at h
      have el : decide ((p :: ns).length < (q :: ms).length) = decide (ns.length < ms.length) := decide_eq_decide.mpr (by rw [List.length_cons, List.length_cons]; omega)
      rw [el]
      by_cases e : p = q
      · subst e
        rw [beq_self_eq_true]
        rw [if_pos rfl] at h
        refine PySem.W.kat_yes ?_
        first
          | exact ih (i + 1) hy h
          | exact ih _ _ (i + 1) hy h
      · rw [show (p == q) = false from beq_eq_false_iff_ne.mpr e]
        rw [if_neg e] at h
        exact PySem.W.kat_no (TS.oneLt_ints _ h)
theorem tup_cmp {vs : List Value} (hp : ∀ v ∈ vs, ∃ ns, TS.TupInts s.heap v ns) {k : Value → List Int} (hk : ∀ v ∈ vs, ∀ ns, TS.TupInts s.heap v ns → k v = ns) : SrtO.Cmp prog w A s (tuples' true) (fun p => p.1 ∈ vs) (lt2 fun v u => ilt (k v) (k u)) := by
  intro p q hm hm'
  obtain ⟨ns, tp⟩ := hp _ hm
  obtain ⟨ms, tq⟩ := hp _ hm'
  show wpAny (model prog w) A (keyLt' (tuples' true) p.1 q.1) (fun r s' => s' = s ∧ r = ilt (k p.1) (k q.1)) (fun _ _ => False) s
  rw [hk _ hm _ tp, hk _ hm' _ tq]
  obtain ⟨a, xs, e1, ⟨o, ho, hc, n, hdt⟩, i⟩ := tp
  obtain ⟨a', ys, e2, ⟨o', ho', hc', n', hdt'⟩, i'⟩ := tq
  rw [e1, e2]
  refine PySem.W.kat_lt ho hdt ho' hdt' ?_
  have l1 := i.length
  have l2 := i'.length
  rw [Array.length_toList] at l1 l2
  have e : decide (xs.size < ys.size) = decide (ns.length < ms.length) := decide_eq_decide.mpr (by omega)
  rw [e]
  exact lex 0 i i' ⟨rfl, rfl⟩
theorem firsts {h : Heap} : ∀ vs : List Value, (∀ v ∈ vs, ∃ ns, TS.TupInts h v ns ∧ ns ≠ []) → ∃ fs, PySem.W.KatTups h vs fs ∧ fs.length = vs.length ∧ ∀ f, f ∈ fs → ∃ n t, f = Value.int n t
  | [], _ => ⟨[], PySem.W.KatTups.nil, rfl, fun f hf => by simp at hf⟩
  | v :: vs, x => by
    obtain ⟨fs, k, hl, hi⟩ := firsts vs fun u hu => x u (List.mem_cons_of_mem _ hu)
    obtain ⟨ns, ⟨a, xs, rfl, ⟨o, ho, hc, n, hdt⟩, i⟩, hn⟩ := x v (List.mem_cons_self ..)
    obtain ⟨y, ys, e⟩ : ∃ y ys, xs.toList = y :: ys := by
      cases q : xs.toList with
      | nil =>
        rw [q] at i
        have l := i.length
        rw [List.length_nil] at l
        exact absurd (List.eq_nil_of_length_eq_zero (by omega)) hn
      | cons y ys => exact ⟨y, ys, rfl⟩
    obtain ⟨m, t, hy⟩ := i.all y (by rw [e]; exact List.mem_cons_self ..)
    refine ⟨y :: fs, PySem.W.KatTups.cons ho hc hdt ?_ k, by simp [hl], ?_⟩
    · have z := congrArg (fun l : List Value => l[0]?) e
      simpa using z
    · intro f hf
      rcases List.mem_cons.mp hf with rfl | hf
      · exact ⟨m, t, hy⟩
      · exact hi f hf
theorem sortable {a : Addr} {vs : List Value} {k : Value → List Int} (h0 : 0 < vs.length) (hp : ∀ v ∈ vs, ∃ ns, TS.TupInts s.heap v ns ∧ ns ≠ [] ∧ k v = ns) (ha : ∀ o, s.heap.get? a = some o → o.cls ≠ .type "tuple") :
    SortableO prog w A s a vs fun v u => ilt (k v) (k u) := by
  intro h' keep
  have hp' : ∀ v ∈ vs, ∃ ns, TS.TupInts h' v ns ∧ ns ≠ [] ∧ k v = ns := fun v hm => by
    obtain ⟨ns, t, n, e⟩ := hp v hm
    exact ⟨ns, t.keeps fun b o e c => keep b o (fun z => by subst z; exact ha o e c) e, n, e⟩
  obtain ⟨fs, h1, h2, h3⟩ := firsts vs fun v hm => by
    obtain ⟨ns, t, n, _⟩ := hp' v hm
    exact ⟨ns, t, n⟩
  refine ⟨tuples' true, fun Q E hq => ?_, tup_cmp (s := { s with heap := h' }) (fun v hm => by
    obtain ⟨ns, t, _, _⟩ := hp' v hm
    exact ⟨ns, t⟩) fun v hm ns t => by
    obtain ⟨ms, t', _, e⟩ := hp' v hm
    rw [e, ← t.ints, ← t'.ints]⟩
  refine PySem.W.kat_kind (T := .type "int") h1 (by omega) (fun f hm => ?_) (by rfl) ?_
  · obtain ⟨x, t, rfl⟩ := h3 f hm
    exact PySem.W.Looks.now
  · have e : (Value.type "int" != Value.type "tuple") = true := by first | decide +kernel | rfl | decide
    rw [e]
    exact hq
end
end DL.ST
namespace DL
open PySem PySem.Spec L2
def TupI (K : PySem.W.Frag) (H : Hp) (x : V) (ns : List Int) : Prop := ∃ t, x = .ref t ∧ SqT K H t (ns.map V.int)
def rSortedTs (K : PySem.W.Frag) : List V → Hp → VK → Prop := fun vs H Q => ∃ (a : Addr) (xs : List V), vs = [V.ref a] ∧ SqL K H a xs ∧ (∀ x ∈ xs, ∃ ns, TupI K H x ns ∧ ns ≠ []) ∧
  ∀ (ys : List V) (p : Addr), ys.Perm xs → ys.Pairwise (fun x y => ∀ n m, TupI K H x n → TupI K H y m → ilt m n = false) → H p = none → Q (.ref p) (upd H p (.lst ys))
section
variable {X : Cx}
theorem tupI_raw {pins : List (Addr × Obj)} {σ : L2.St} {H : Hp} {s : Shared} (I : Inv X pins σ H s) {t : Addr} {ns : List Int} (h : SqT X.K H t (ns.map V.int)) : TS.TupInts s.heap (.ref t) ns := by
  obtain ⟨its, rv, hT, _⟩ := I.tuple h
  exact ⟨t, its.toArray, rfl, hT, by simpa using rv.ints⟩
theorem cr_sortedTs : CallR X (.builtin "sorted") (rSortedTs X.K) := by
  intro pins s σ H vs us Q I r h
  obtain ⟨a, xs, rfl, hs, hx, q⟩ := h
  obtain ⟨its, rv, hl, hz⟩ := I.list hs
  rw [Vals.ref1 r]
  obtain ⟨e1, e2⟩ := refs_back rv fun x m => by
    obtain ⟨ns, ⟨t, e, _⟩, _⟩ := hx x m
    exact ⟨t, e⟩
  have hraw : ∀ v ∈ its, ∃ ns, TS.TupInts s.heap v ns ∧ ns ≠ [] ∧ TS.intsOf s.heap v = ns := fun v hv => by
    obtain ⟨t, rfl⟩ := e2 v hv
    have hm : V.ref t ∈ xs := by rw [e1]; exact List.mem_map.mpr ⟨_, hv, rfl⟩
    obtain ⟨ns, ⟨t', e, ht⟩, hn⟩ := hx _ hm
    cases e
    have z := tupI_raw I ht
    exact ⟨ns, z, hn, z.ints⟩
  refine SrtO.sorted_ord (ST.swo (TS.intsOf s.heap)) hl.isList (by rw [← rv.length]; exact hz) (fun h2 h₁ a' ha kk => ?_) fun out h1 h2 => ?_
  · refine ST.sortable (s := { s with heap := h₁ }) (by omega) (fun v hm => ?_) fun o e => ?_
    · obtain ⟨ns, t, n, e⟩ := hraw v hm
      exact ⟨ns, t.keeps fun b o e _ => (kk b o e).2, n, e⟩
    · have e' : some o = some (PyProof.Rows.seqObj "list" its.toArray 0) := e.symm.trans ha
      cases e'
      intro c
      exact absurd (Value.type.inj c) (by decide)
  · obtain ⟨ep, he'⟩ := PyProof.Rows.sortedAll_at s.heap its out.toArray
    have h3 : ∀ u ∈ out, ∃ a, u = Value.ref a := fun u hu => e2 u (h2.perm.mem_iff.mp hu)
    have hp : (out.map backV).Perm xs := by
      rw [e1]
      exact h2.perm.map backV
    have hlen : (out.map backV).length ≤ sizeLine := by
      rw [hp.length_eq]
      exact hz
    refine ⟨.ref _, upd H (s.heap.objs.size + 1) (.lst (out.map backV)), I.laid (t' := s.toks) (fun _ _ => PyProof.Rows.sortedAll_old) (Nat.le_succ _) ⟨hlen, out, ep, vals_back h3, he'⟩, rfl, q _ _ hp ?_ (I.hok.fresh (Nat.le_succ _))⟩
    rw [List.pairwise_map]
    refine List.Pairwise.imp_of_mem (fun {u v} hu hv huv n m hn hm => ?_) h1
    obtain ⟨t, rfl⟩ := h3 u hu
    obtain ⟨t', rfl⟩ := h3 v hv
    obtain ⟨t1, et, ht⟩ := hn
    obtain ⟨t2, et', ht'⟩ := hm
    cases et
    cases et'
    rw [← (tupI_raw I ht).ints, ← (tupI_raw I ht').ints]
    exact huv
end
/-! ### data -/
def tupsOf : List D → Option (List (List Int))
  | [] => some []
  | .tup ds :: r => match intsOf ds, tupsOf r with
    | some ns, some w => some (ns :: w)
    | _, _ => none
  | _ => none
theorem tupsOf_eq : ∀ {ds : List D} {ws : List (List Int)}, tupsOf ds = some ws → ds = ws.map fun w => .tup (w.map .int)
  | [], _, h => by cases h; rfl
  | d :: r, ws, h => by
    cases d with
    | tup es =>
      unfold tupsOf at h
      split at h
      · rename_i ns w e1 e2
        cases h
        rw [intsOf_eq e1, tupsOf_eq e2]
        rfl
      · cases h
    | _ => simp [tupsOf] at h
theorem tupsOf_map : ∀ ws : List (List Int), tupsOf (ws.map fun w => .tup (w.map .int)) = some ws
  | [] => rfl
  | w :: r => by
    rw [List.map_cons]
    unfold tupsOf
    rw [intsOf_map, tupsOf_map r]
section
variable {K : PySem.W.Frag} {F H : Hp}
theorem rp_tupI {w : List Int} {v : V} (h : Rp K F (.tup (w.map .int)) v) : TupI K F v w := by
  obtain ⟨a, vs, rfl, q, r⟩ := h
  rw [r.ints] at q
  exact ⟨a, rfl, q⟩
theorem rps_perm {vs us : List V} (p : us.Perm vs) : ∀ {ws : List (List Int)}, Rps K F (ws.map fun w => D.tup (w.map .int)) vs → ∃ ws' : List (List Int), Rps K F (ws'.map fun w => D.tup (w.map .int)) us ∧ ws'.Perm ws := by
  induction p with
  | nil => exact fun {ws} h => ⟨ws, h, .refl _⟩
  | cons x p ih =>
    intro ws h
    cases ws with
    | nil => cases h
    | cons w r =>
      obtain ⟨v, t, e, h1, h2⟩ := h
      cases e
      obtain ⟨r', h3, h4⟩ := ih h2
      exact ⟨w :: r', ⟨_, _, rfl, h1, h3⟩, h4.cons w⟩
  | swap x y l =>
    intro ws h
    cases ws with
    | nil => cases h
    | cons w r =>
      obtain ⟨v, t, e, h1, h2⟩ := h
      cases e
      cases r with
      | nil => cases h2
      | cons w2 r =>
        obtain ⟨v2, t2, e2, h3, h4⟩ := h2
        cases e2
        exact ⟨w2 :: w :: r, ⟨_, _, rfl, h3, _, _, rfl, h1, h4⟩, .swap w w2 r⟩
  | trans p q ih1 ih2 =>
    intro ws h
    obtain ⟨w1, a1, a2⟩ := ih2 h
    obtain ⟨w2, b1, b2⟩ := ih1 a1
    exact ⟨w2, b1, b2.trans a2⟩
theorem rps_mem : ∀ {ws : List (List Int)} {vs : List V}, Rps K F (ws.map fun w => D.tup (w.map .int)) vs → ∀ v ∈ vs, ∃ w, w ∈ ws ∧ TupI K F v w
  | [], _, h, v, hv => by
    have e : _ = [] := h
    rw [e] at hv; cases hv
  | w :: r, _, h, v, hv => by
    obtain ⟨v', t, rfl, h1, h2⟩ := h
    rcases List.mem_cons.mp hv with rfl | hv
    · exact ⟨w, by simp, rp_tupI h1⟩
    · obtain ⟨u, a, b⟩ := rps_mem h2 v hv
      exact ⟨u, by simp [a], b⟩
theorem mem_rps : ∀ {ws : List (List Int)} {vs : List V}, Rps K F (ws.map fun w => D.tup (w.map .int)) vs → ∀ w ∈ ws, ∃ v, v ∈ vs ∧ TupI K F v w
  | w :: r, _, h, u, hu => by
    obtain ⟨v', t, rfl, h1, h2⟩ := h
    rcases List.mem_cons.mp hu with rfl | hu
    · exact ⟨v', by simp, rp_tupI h1⟩
    · obtain ⟨x, a, b⟩ := mem_rps h2 u hu
      exact ⟨x, by simp [a], b⟩
theorem rps_pw {P : List Int → List Int → Prop} : ∀ {ws : List (List Int)} {vs : List V}, Rps K F (ws.map fun w => D.tup (w.map .int)) vs → vs.Pairwise (fun x y => ∀ n m, TupI K F x n → TupI K F y m → P n m) → ws.Pairwise P
  | [], _, _, _ => .nil
  | w :: r, _, h, p => by
    obtain ⟨v', t, rfl, h1, h2⟩ := h
    have p' := List.pairwise_cons.mp p
    refine List.pairwise_cons.mpr ⟨fun u hu => ?_, rps_pw h2 p'.2⟩
    obtain ⟨v, hv, tv⟩ := mem_rps h2 u hu
    exact p'.1 v hv _ _ (rp_tupI h1) tv
theorem TupI.mono (s : Same F H) {v : V} {w : List Int} (h : TupI K F v w) : TupI K H v w := by
  obtain ⟨t, e, q⟩ := h
  exact ⟨t, e, sqT_mono s q⟩
end
def sortTq : CQ := fun xs ε R => match xs with
  | [x] => ∃ ds ws, lsOf x = some ds ∧ tupsOf ds = some ws ∧ (∀ w, w ∈ ws → w ≠ []) ∧ ∀ ws' : List (List Int), ws'.Perm ws → ws'.Pairwise (fun a b => ilt b a = false) → R (.ow (.lst (ws'.map fun w => .tup (w.map .int)))) ε
  | _ => False
theorem cd_sortT {K : PySem.W.Frag} : CalD K (rSortedTs K) sortTq := by
  intro B F H σ ε xs vs Q R r rv q c
  unfold sortTq at q
  split at q
  · obtain ⟨ds, ws, e, en, hne, q⟩ := q
    obtain ⟨v, rfl, h⟩ := rv.one
    obtain ⟨a, us, rfl, hs, rp⟩ := ls_of r h e
    have c' : Fin2 K B F H σ ε (fun z => R z ε) Q := fun v' H' F' z e r rv q => c v' H' F' z ε e r rv q
    rw [tupsOf_eq en] at rp
    refine ⟨a, us, rfl, SqL.of hs, fun x hx => ?_, fun ys p h1 h2 hp => ?_⟩
    · obtain ⟨w, hw, t⟩ := rps_mem rp x hx
      exact ⟨w, t.mono r.fh, hne w hw⟩
    · obtain ⟨ws', p1, p2⟩ := rps_perm h1 rp
      refine fin_lst c' r hp p1 (q ws' p2 (rps_pw p1 (h2.imp fun {x y} z n m hn hm => z n m (hn.mono r.fh) (hm.mono r.fh))))
  · exact q.elim
section
variable {X : Cx} {W : WX} {e : Expr} {ta : DA} {p pos : Pos}
theorem de_sortedT (hm : X.mg "sorted" = none) (ha : PA X [e] (liftA X.K W ta)) (hg : Gl X "sorted" := by rfl) (he : starEach (e :: []) X.env = (false, eval e X.env) :: starEach [] X.env := by rfl) (hpl : (backTo pos (starEach [] X.env)).any (·.1) = false := by rfl) : PE X (.Call (.Name "sorted" p) [e] [] pos) (lift X.K W (dCal sortTq ta)) :=
  de_callB cd_sortT cr_sortedTs (by decide +kernel) hm ha hg (by decide) (by decide) he hpl
end
end DL

/-! DV6: digits at places, claims of four words, digits told by rests. -/
namespace DL
open PySem PySem.Spec PyProof.Rows L2 RT
/-- the digit at place k, 0 beyond -/
def dg (ws : List Int) (k : Nat) : Int := ws.reverse.getD k 0
/-- a claim -/
abbrev clm (xs ys cs zs : List Int) : D := .tup [.str (PySem.Str.ofString "sum"), tI xs, tI ys, tI cs, tI zs]
theorem dd_1 {b x : Int} (h : 0 ≤ x) : decide (0 ≤ x ∧ x < b) = decide (x < b) := by simp [h]
theorem dd_0 {b x : Int} (h : x < 0) : decide (0 ≤ x ∧ x < b) = false := decide_eq_false (by omega)
theorem dg_in {b : Int} (hb : 1 ≤ b) {ws : List Int} (h : okd b ws) (k : Nat) : 0 ≤ dg ws k ∧ dg ws k < b := by
  unfold dg
  rw [List.getD_eq_getElem?_getD]
  cases e : ws.reverse[k]? with
  | none => exact ⟨Int.le_refl _, by show (0 : Int) < b; omega⟩
  | some d => exact h d (List.mem_reverse.mp (List.mem_of_getElem? e))
theorem dg_beyond {ws : List Int} {k : Nat} (h : ws.length ≤ k) : dg ws k = 0 := by
  unfold dg
  rw [List.getD_eq_getElem?_getD, List.getElem?_eq_none (by rw [List.length_reverse]; exact h)]; rfl
theorem dg_top {b : Int} {ws : List Int} (h : canon b ws) (hne : ws ≠ []) : 1 ≤ dg ws (ws.length - 1) := by
  cases ws with
  | nil => exact absurd rfl hne
  | cons x r =>
    have z := canon_cons.mp h
    have e : dg (x :: r) ((x :: r).length - 1) = x := by
      unfold dg
      rw [List.getD_eq_getElem?_getD, List.reverse_cons]
      simp
    rw [e]; exact z.1.1
theorem dg_rev (fs : List Int) (k : Nat) : dg fs.reverse k = fs.getD k 0 := by unfold dg; rw [List.reverse_reverse]
theorem dg_cons_lt (x : Int) (r : List Int) (k : Nat) (h : k < r.length) : dg (x :: r) k = dg r k := by
  unfold dg
  rw [List.getD_eq_getElem?_getD, List.getD_eq_getElem?_getD, List.reverse_cons, List.getElem?_append_left (by rw [List.length_reverse]; exact h)]
theorem dg_cons_top (x : Int) (r : List Int) : dg (x :: r) r.length = x := by
  unfold dg
  rw [List.getD_eq_getElem?_getD, List.reverse_cons]
  simp
theorem rv_dg (b : Int) (ws : List Int) (s : Nat) (h : ws.length ≤ s) : rvl b ((List.range s).map (dg ws)) = bval b ws := by
  have := rv_take b ws.reverse s (by rw [List.length_reverse]; exact h)
  rw [show bval b ws = rvl b ws.reverse by rw [← bval_rev, List.reverse_reverse], ← this]; rfl
/-- the digits with zeros ahead, turned round, place by place -/
theorem wide_get (ws : List Int) (s : Nat) (h : ws.length ≤ s) (k : Nat) (hk : k < s) : ((List.replicate (s - ws.length) (0 : Int) ++ ws).map D.int).reverse.getD k .non = .int (dg ws k) := by
  rw [← List.map_reverse, List.getD_eq_getElem?_getD, List.getElem?_map, List.reverse_append, List.reverse_replicate]
  unfold dg
  rw [List.getD_eq_getElem?_getD]
  rcases Nat.lt_or_ge k ws.length with q | q
  · rw [List.getElem?_append_left (by rw [List.length_reverse]; exact q)]
    rw [List.getElem?_eq_getElem (by rw [List.length_reverse]; exact q)]; rfl
  · rw [List.getElem?_append_right (by rw [List.length_reverse]; exact q), List.getElem?_eq_none (l := ws.reverse) (by rw [List.length_reverse]; exact q), List.getElem?_replicate, List.length_reverse, if_pos (by omega)]; rfl
theorem wide_at (ws : List Int) (n k : Nat) (hk : k < n + ws.length) : ((List.replicate n (0 : Int) ++ ws).reverse)[k]? = some (dg ws k) := by
  rw [List.reverse_append, List.reverse_replicate]
  unfold dg
  rw [List.getD_eq_getElem?_getD]
  rcases Nat.lt_or_ge k ws.length with q | q
  · rw [List.getElem?_append_left (by rw [List.length_reverse]; exact q), List.getElem?_eq_getElem (by rw [List.length_reverse]; exact q)]; rfl
  · rw [List.getElem?_append_right (by rw [List.length_reverse]; exact q), List.getElem?_eq_none (l := ws.reverse) (by rw [List.length_reverse]; exact q), List.getElem?_replicate, List.length_reverse, if_pos (by omega)]; rfl
/-- the carries' ends -/
theorem getD_at {ws : List Int} {k : Nat} (h : k < ws.length) : ws[k]? = some (ws.getD k 0) := by rw [List.getD_eq_getElem?_getD, List.getElem?_eq_getElem h]; rfl
theorem at_last {ws : List Int} (h : ws ≠ []) : atI (ws.map D.int) (-1) = some (.int (ws.getD (ws.length - 1) 0)) := by
  rcases last_of (ns := ws) with e | ⟨q, x, rfl⟩
  · exact absurd e h
  · rw [List.map_append, List.map_singleton, atI_last, List.getD_eq_getElem?_getD]; simp
theorem canon_short {b : Int} (hb : 2 ≤ b) {ws : List Int} (cw : canon b ws) {s : Nat} (h : bval b ws < b ^ s) : ws.length ≤ s := by
  rcases Nat.lt_or_ge s ws.length with q | q
  · have := canon_low hb cw (fun e => by subst e; cases q)
    have := pow_le_pow (show 1 ≤ b by omega) (show s ≤ ws.length - 1 by omega)
    omega
  · exact q
theorem nil_of {b : Int} (hb : 2 ≤ b) {ws : List Int} (ok : canon b ws) (h : bval b ws = 0) : ws = [] := canon_inj hb ok (canon_nil b) h
/-- the shape of a claim -/
def shC : Sh := .tup [.str "sum", .ints, .ints, .ints, .ints]
theorem shC_ok : shC.ok = true := by decide
theorem shC_dep : shC.dep ≤ 5 := by decide
theorem shC_cap : shC.cap 500 < 1000000000 := by decide
theorem clm_has {xs ys cs zs : List Int} (h1 : xs.length ≤ 500) (h2 : ys.length ≤ 500) (h3 : cs.length ≤ 500) (h4 : zs.length ≤ 500) : shC.has 500 (clm xs ys cs zs) := by
  unfold shC
  rw [Sh.has]
  refine ⟨_, rfl, ?_⟩
  simp only [Sh.hass]
  exact ⟨_, _, rfl, by rw [Sh.has], _, _, rfl, ints_has xs h1, _, _, rfl, ints_has ys h2, _, _, rfl, ints_has cs h3, _, _, rfl, ints_has zs h4, rfl⟩
theorem has_clm {d : D} (h : shC.has 500 d) : ∃ xs ys cs zs : List Int, d = clm xs ys cs zs ∧ xs.length ≤ 500 ∧ ys.length ≤ 500 ∧ cs.length ≤ 500 ∧ zs.length ≤ 500 := by
  unfold shC at h
  rw [Sh.has] at h
  obtain ⟨ds, rfl, h⟩ := h
  simp only [Sh.hass] at h
  obtain ⟨d0, _, rfl, h0, d1, _, rfl, h1, d2, _, rfl, h2, d3, _, rfl, h3, d4, _, rfl, h4, rfl⟩ := h
  rw [Sh.has] at h0
  subst h0
  obtain ⟨xs, rfl, l1⟩ := has_ints h1
  obtain ⟨ys, rfl, l2⟩ := has_ints h2
  obtain ⟨cs, rfl, l3⟩ := has_ints h3
  obtain ⟨zs, rfl, l4⟩ := has_ints h4
  exact ⟨xs, ys, cs, zs, rfl, l1, l2, l3, l4⟩/-! ### digits that rests tell -/
/-- the last is not 0 -/
def notop (fs : List Int) : Prop := ∀ q x, fs = q ++ [x] → x ≠ 0
theorem notop_nil : notop [] := fun q x h => by simp at h
theorem notop_rev {ws : List Int} (h : nolead ws) : notop ws.reverse := fun q x e => by
  have e' : ws = x :: q.reverse := by
    have := congrArg List.reverse e
    rwa [List.reverse_reverse, List.reverse_append] at this
  exact h x (by rw [e']; rfl)
theorem rev_notop {fs : List Int} (h : notop fs) : nolead fs.reverse := fun x hx => by
  rcases last_of (ns := fs) with rfl | ⟨q, y, rfl⟩
  · cases hx
  · rw [List.reverse_append] at hx
    cases hx
    exact h q x rfl
theorem notop_tail {x : Int} {r : List Int} (h : notop (x :: r)) : notop r := fun q y e => h (x :: q) y (by rw [e]; rfl)
theorem notop_snoc {fs : List Int} {x : Int} (h : x ≠ 0) : notop (fs ++ [x]) := fun q y e => by
  have ex := List.append_inj_right' e rfl
  cases ex
  exact h
theorem dvd_small {b z : Int} (h : b ∣ z) (h' : z.natAbs < b.natAbs) : z = 0 := by
  have := Int.natAbs_dvd_natAbs.mpr h
  have := Nat.eq_zero_of_dvd_of_lt this h'
  omega
section
variable {b : Int} (hb : b ≠ 0) (S : Int → Prop) (h0 : S 0) (hS : ∀ x y, S x → S y → b ∣ x - y → x = y)
include hb h0 hS
theorem rvl_zero : ∀ {fs : List Int}, (∀ d, d ∈ fs → S d) → notop fs → rvl b fs = 0 → fs = []
  | [], _, _, _ => rfl
  | x :: r, h, t, e => by
    rw [rvl] at e
    have ex : x = 0 := hS x 0 (h x (by simp)) h0 ⟨-rvl b r, by rw [Int.mul_neg]; omega⟩
    subst ex
    have er : rvl b r = 0 := by
      have : b * rvl b r = 0 := by omega
      rcases Int.mul_eq_zero.mp this with z | z
      · exact absurd z hb
      · exact z
    have := rvl_zero (fun d hd => h d (by simp [hd])) (notop_tail t) er
    subst this
    exact absurd rfl (t [] 0 rfl)
theorem rvl_inj : ∀ {xs ys : List Int}, (∀ d, d ∈ xs → S d) → (∀ d, d ∈ ys → S d) → notop xs → notop ys → rvl b xs = rvl b ys → xs = ys
  | [], ys, _, hy, _, ty, e => (rvl_zero hb S h0 hS hy ty (by rw [← e]; rfl)).symm
  | x :: r, [], hx, _, tx, _, e => rvl_zero hb S h0 hS hx tx (by rw [e]; rfl)
  | x :: r, y :: q, hx, hy, tx, ty, e => by
    rw [rvl, rvl] at e
    have ex : x = y := hS x y (hx x (by simp)) (hy y (by simp)) ⟨rvl b q - rvl b r, by rw [Int.mul_sub]; omega⟩
    subst ex
    have er : rvl b r = rvl b q := by
      have : b * (rvl b r - rvl b q) = 0 := by rw [Int.mul_sub]; omega
      rcases Int.mul_eq_zero.mp this with z | z
      · exact absurd z hb
      · omega
    rw [rvl_inj (fun d hd => hx d (by simp [hd])) (fun d hd => hy d (by simp [hd])) (notop_tail tx) (notop_tail ty) er]
theorem bval_inj {xs ys : List Int} (hx : ∀ d, d ∈ xs → S d) (hy : ∀ d, d ∈ ys → S d) (nx : nolead xs) (ny : nolead ys) (e : bval b xs = bval b ys) : xs = ys := by
  have ex : ∀ ws : List Int, bval b ws = rvl b ws.reverse := fun ws => by rw [← bval_rev, List.reverse_reverse]
  rw [ex, ex] at e
  have z := rvl_inj hb S h0 hS (fun d hd => hx d (List.mem_reverse.mp hd)) (fun d hd => hy d (List.mem_reverse.mp hd)) (notop_rev nx) (notop_rev ny) e
  have := congrArg List.reverse z
  rwa [List.reverse_reverse, List.reverse_reverse] at this
end
/-! how long such words get, and that they end -/
def LJ (l : Int) (k : Nat) : Prop := (2 ≤ l.natAbs → (l.natAbs - 1) * 2 ^ k ≤ 2 ^ 300) ∧ (l = 0 → k ≤ 303) ∧ (l = 1 → k ≤ 302) ∧ (l = -1 → k ≤ 301)
def LM (l : Int) : Nat := 2 * l.natAbs + if l < 0 then 1 else 0
theorem LJ_init {l : Int} (h : l.natAbs < 2 ^ 300) : LJ l 0 := ⟨fun _ => by rw [Nat.pow_zero]; omega, fun _ => by omega, fun _ => by omega, fun _ => by omega⟩
theorem LJ_short {l : Int} {k : Nat} (h : LJ l k) : k ≤ 303 := by
  obtain ⟨h1, h2, h3, h4⟩ := h
  by_cases q : 2 ≤ l.natAbs
  · have h1 := h1 q
    have h5 : 1 * 2 ^ k ≤ (l.natAbs - 1) * 2 ^ k := Nat.mul_le_mul_right _ (by omega)
    have h6 : 2 ^ k ≤ 2 ^ 300 := by omega
    have := (Nat.pow_le_pow_iff_right (a := 2) (by decide)).mp h6
    omega
  · rcases (show l = 0 ∨ l = 1 ∨ l = -1 by omega) with e | e | e
    · exact h2 e
    · have := h3 e; omega
    · have := h4 e; omega
theorem LJ_step {l l' : Int} {k : Nat} (h : LJ l k) (hz : l ≠ 0) (hh : 2 * l'.natAbs ≤ l.natAbs + 1) (h1 : l = 1 → l' = 0) (h2 : l = -1 → l' = 1 ∨ l' = 0) : LJ l' (k + 1) := by
  obtain ⟨a1, a2, a3, a4⟩ := h
  by_cases q : 2 ≤ l.natAbs
  · have b1 := a1 q
    have h5 : 1 * 2 ^ k ≤ (l.natAbs - 1) * 2 ^ k := Nat.mul_le_mul_right _ (by omega)
    have h6 : 2 ^ k ≤ 2 ^ 300 := by omega
    have h7 := (Nat.pow_le_pow_iff_right (a := 2) (by decide)).mp h6
    refine ⟨fun _ => ?_, fun _ => by omega, fun _ => by omega, fun _ => by omega⟩
    have h8 : (2 * (l'.natAbs - 1)) * 2 ^ k ≤ (l.natAbs - 1) * 2 ^ k := Nat.mul_le_mul_right _ (by omega)
    rw [Nat.pow_succ, Nat.mul_comm (2 ^ k) 2, ← Nat.mul_assoc, Nat.mul_comm (l'.natAbs - 1) 2]
    omega
  · rcases (show l = 1 ∨ l = -1 by omega) with e | e
    · have e' := h1 e
      have := a3 e
      subst e'
      exact ⟨fun z => absurd z (by decide), fun _ => by omega, fun z => absurd z (by decide), fun z => absurd z (by decide)⟩
    · have := a4 e
      rcases h2 e with e' | e' <;> subst e'
      · exact ⟨fun z => absurd z (by decide), fun _ => by omega, fun z => by omega, fun z => absurd z (by decide)⟩
      · exact ⟨fun z => absurd z (by decide), fun _ => by omega, fun z => absurd z (by decide), fun z => absurd z (by decide)⟩
theorem LM_step {l l' : Int} (hz : l ≠ 0) (hh : 2 * l'.natAbs ≤ l.natAbs + 1) (h1 : l = 1 → l' = 0) (h2 : l = -1 → l' = 1 ∨ l' = 0) : LM l' < LM l := by
  unfold LM
  by_cases q : 2 ≤ l.natAbs
  · split <;> split <;> omega
  · rcases (show l = 1 ∨ l = -1 by omega) with e | e
    · have e' := h1 e
      subst e' e
      decide
    · subst e
      rcases h2 rfl with e' | e' <;> subst e' <;> decide
/-- one more digit -/
theorem rv_step {b n left d l' : Int} {fs : List Int} (h : rvl b fs + b ^ fs.length * left = n) (hd : left - d = b * l') : rvl b (fs ++ [d]) + b ^ (fs ++ [d]).length * l' = n := by
  rw [rvl_snoc, List.length_append, List.length_singleton, Int.pow_succ, Int.mul_assoc, ← hd, Int.mul_sub]
  omega
end DL

set_option maxHeartbeats 0
namespace LW
open PySem PySem.Spec PyProof.Rows L2 DL PySem.NoteX
def topS (i : Nat) : Stmt := PySem.Challenge.pw_notewhole_k20_whole_digits_to_the_left.main.body.getD i (.Pass ⟨0, 0, 0, 0⟩)
abbrev s_power : Stmt := topS 6
abbrev N_power : List Str := ["base", "e", "result", "left", "factor"]
theorem sc_power : FnScope N_power ["base", "e"] (defScope s_power) := ⟨rfl, rfl, rfl, by decide +kernel, rfl, by decide +kernel, by decide +kernel⟩
abbrev s_checked : Stmt := topS 9
abbrev N_checked : List Str := ["n"]
theorem sc_checked : FnScope N_checked ["n"] (defScope s_checked) := ⟨rfl, rfl, rfl, by decide +kernel, rfl, by decide +kernel, by decide +kernel⟩
abbrev s_shared : Stmt := topS 10
abbrev N_shared : List Str := ["one", "other"]
theorem sc_shared : FnScope N_shared ["one", "other"] (defScope s_shared) := ⟨rfl, rfl, rfl, by decide +kernel, rfl, by decide +kernel, by decide +kernel⟩
abbrev s_fraction : Stmt := topS 11
abbrev N_fraction : List Str := ["number", "under", "common"]
theorem sc_fraction : FnScope N_fraction ["number", "under"] (defScope s_fraction) := ⟨rfl, rfl, rfl, by decide +kernel, rfl, by decide +kernel, by decide +kernel⟩
abbrev s_is_fraction : Stmt := topS 12
abbrev N_is_fraction : List Str := ["pair"]
theorem sc_is_fraction : FnScope N_is_fraction ["pair"] (defScope s_is_fraction) := ⟨rfl, rfl, rfl, by decide +kernel, rfl, by decide +kernel, by decide +kernel⟩
abbrev s_known : Stmt := topS 13
abbrev N_known : List Str := ["pair", "found"]
theorem sc_known : FnScope N_known ["pair"] (defScope s_known) := ⟨rfl, rfl, rfl, by decide +kernel, rfl, by decide +kernel, by decide +kernel⟩
abbrev s_prime_of : Stmt := topS 15
abbrev N_prime_of : List Str := ["p", "d"]
theorem sc_prime_of : FnScope N_prime_of ["p"] (defScope s_prime_of) := ⟨rfl, rfl, rfl, by decide +kernel, rfl, by decide +kernel, by decide +kernel⟩
abbrev s_places_of : Stmt := topS 18
abbrev N_places_of : List Str := ["places"]
theorem sc_places_of : FnScope N_places_of ["places"] (defScope s_places_of) := ⟨rfl, rfl, rfl, by decide +kernel, rfl, by decide +kernel, by decide +kernel⟩
abbrev s_back : Stmt := topS 19
abbrev N_back : List Str := ["number", "modulus", "one", "other", "left", "right", "often"]
theorem sc_back : FnScope N_back ["number", "modulus"] (defScope s_back) := ⟨rfl, rfl, rfl, by decide +kernel, rfl, by decide +kernel, by decide +kernel⟩
abbrev s_of_fraction : Stmt := topS 20
abbrev N_of_fraction : List Str := ["p", "pair", "places", "number", "under", "whole", "left", "found", "step"]
theorem sc_of_fraction : FnScope N_of_fraction ["p", "pair", "places"] (defScope s_of_fraction) := ⟨rfl, rfl, rfl, by decide +kernel, rfl, by decide +kernel, by decide +kernel⟩
abbrev s_going_round : Stmt := topS 21
abbrev N_going_round : List Str := ["p", "pair", "number", "under", "helper", "seen", "found", "left", "digit"]
theorem sc_going_round : FnScope N_going_round ["p", "pair"] (defScope s_going_round) := ⟨rfl, rfl, rfl, by decide +kernel, rfl, by decide +kernel, by decide +kernel⟩
abbrev s_value_of : Stmt := topS 22
abbrev N_value_of : List Str := ["p", "front", "round_of", "low", "own", "scale", "under", "at", "digit"]
theorem sc_value_of : FnScope N_value_of ["p", "front", "round_of"] (defScope s_value_of) := ⟨rfl, rfl, rfl, by decide +kernel, rfl, by decide +kernel, by decide +kernel⟩
abbrev s_often : Stmt := topS 23
abbrev N_often : List Str := ["p", "pair", "number", "under", "count"]
theorem sc_often : FnScope N_often ["p", "pair"] (defScope s_often) := ⟨rfl, rfl, rfl, by decide +kernel, rfl, by decide +kernel, by decide +kernel⟩
abbrev s_polynomial_at : Stmt := topS 24
abbrev N_polynomial_at : List Str := ["numbers", "x", "whole", "number"]
theorem sc_polynomial_at : FnScope N_polynomial_at ["numbers", "x"] (defScope s_polynomial_at) := ⟨rfl, rfl, rfl, by decide +kernel, rfl, by decide +kernel, by decide +kernel⟩
abbrev s_slope : Stmt := topS 25
abbrev N_slope : List Str := ["numbers", "at", "number"]
theorem sc_slope : FnScope N_slope ["numbers"] (defScope s_slope) := ⟨rfl, rfl, rfl, by decide +kernel, rfl, by decide +kernel, by decide +kernel⟩
abbrev s_lifted : Stmt := topS 26
abbrev N_lifted : List Str := ["p", "numbers", "begin", "places", "here", "found", "scale", "helper", "step", "digit"]
theorem sc_lifted : FnScope N_lifted ["p", "numbers", "begin", "places"] (defScope s_lifted) := ⟨rfl, rfl, rfl, by decide +kernel, rfl, by decide +kernel, by decide +kernel⟩
abbrev s_lifted_right : Stmt := topS 27
abbrev N_lifted_right : List Str := ["p", "numbers", "places", "claim", "begin", "good", "word", "here", "digit", "at"]
theorem sc_lifted_right : FnScope N_lifted_right ["p", "numbers", "places", "claim"] (defScope s_lifted_right) := ⟨rfl, rfl, rfl, by decide +kernel, rfl, by decide +kernel, by decide +kernel⟩
abbrev s_square_roots : Stmt := topS 28
abbrev N_square_roots : List Str := ["p", "n", "places", "found", "begin"]
theorem sc_square_roots : FnScope N_square_roots ["p", "n", "places"] (defScope s_square_roots) := ⟨rfl, rfl, rfl, by decide +kernel, rfl, by decide +kernel, by decide +kernel⟩
abbrev s_added : Stmt := topS 29
abbrev N_added : List Str := ["p", "one", "other", "carry", "found", "a", "b", "whole"]
theorem sc_added : FnScope N_added ["p", "one", "other"] (defScope s_added) := ⟨rfl, rfl, rfl, by decide +kernel, rfl, by decide +kernel, by decide +kernel⟩
abbrev s_product : Stmt := topS 30
abbrev N_product : List Str := ["p", "one", "other", "size", "whole", "found", "step", "at", "a", "b"]
theorem sc_product : FnScope N_product ["p", "one", "other"] (defScope s_product) := ⟨rfl, rfl, rfl, by decide +kernel, rfl, by decide +kernel, by decide +kernel⟩
abbrev s_own_squares : Stmt := topS 31
abbrev N_own_squares : List Str := ["base", "places", "whole", "n"]
theorem sc_own_squares : FnScope N_own_squares ["base", "places"] (defScope s_own_squares) := ⟨rfl, rfl, rfl, by decide +kernel, rfl, by decide +kernel, by decide +kernel⟩
abbrev s__law_cell : Stmt := topS 33
abbrev N__law_cell : List Str := ["script", "k"]
theorem sc__law_cell : FnScope N__law_cell ["script", "k"] (defScope s__law_cell) := ⟨rfl, rfl, rfl, by decide +kernel, rfl, by decide +kernel, by decide +kernel⟩
abbrev s__law_source : Stmt := topS 34
abbrev N__law_source : List Str := ["cell", "k"]
theorem sc__law_source : FnScope N__law_source ["cell", "k"] (defScope s__law_source) := ⟨rfl, rfl, rfl, by decide +kernel, rfl, by decide +kernel, by decide +kernel⟩
abbrev s__law_pick : Stmt := topS 35
abbrev N__law_pick : List Str := ["source", "many", "picked", "mixed"]
theorem sc__law_pick : FnScope N__law_pick ["source", "many"] (defScope s__law_pick) := ⟨rfl, rfl, rfl, by decide +kernel, rfl, by decide +kernel, by decide +kernel⟩
abbrev s__law_great : Stmt := topS 37
abbrev N__law_great : List Str := ["source", "way", "whole", "turn"]
theorem sc__law_great : FnScope N__law_great ["source"] (defScope s__law_great) := ⟨rfl, rfl, rfl, by decide +kernel, rfl, by decide +kernel, by decide +kernel⟩
abbrev s__law_gcd : Stmt := topS 38
abbrev N__law_gcd : List Str := ["one", "other", "step"]
theorem sc__law_gcd : FnScope N__law_gcd ["one", "other"] (defScope s__law_gcd) := ⟨rfl, rfl, rfl, by decide +kernel, rfl, by decide +kernel, by decide +kernel⟩
abbrev s__law_changed : Stmt := topS 39
abbrev N__law_changed : List Str := ["part", "at", "more", "found", "seen", "one", "made", "count"]
theorem sc__law_changed : FnScope N__law_changed ["part", "at", "more"] (defScope s__law_changed) := ⟨rfl, rfl, rfl, by decide +kernel, rfl, by decide +kernel, by decide +kernel⟩
abbrev s__law_cut : Stmt := topS 40
abbrev N__law_cut : List Str := ["part", "at", "inner", "found", "seen", "one", "made", "count"]
theorem sc__law_cut : FnScope N__law_cut ["part", "at"] (defScope s__law_cut) := ⟨rfl, rfl, rfl, by decide +kernel, rfl, by decide +kernel, by decide +kernel⟩
abbrev s__law_bent : Stmt := topS 41
abbrev N__law_bent : List Str := ["source", "claim", "found", "numbers", "tuples", "more", "turn"]
theorem sc__law_bent : FnScope N__law_bent ["source", "claim"] (defScope s__law_bent) := ⟨rfl, rfl, rfl, by decide +kernel, rfl, by decide +kernel, by decide +kernel⟩
abbrev s__law_power : Stmt := topS 42
abbrev N__law_power : List Str := ["base", "e", "result", "step"]
theorem sc__law_power : FnScope N__law_power ["base", "e"] (defScope s__law_power) := ⟨rfl, rfl, rfl, by decide +kernel, rfl, by decide +kernel, by decide +kernel⟩
abbrev s__law_value : Stmt := topS 43
abbrev N__law_value : List Str := ["p", "low", "whole", "digit"]
theorem sc__law_value : FnScope N__law_value ["p", "low"] (defScope s__law_value) := ⟨rfl, rfl, rfl, by decide +kernel, rfl, by decide +kernel, by decide +kernel⟩
abbrev s__law_at : Stmt := topS 44
abbrev N__law_at : List Str := ["numbers", "x", "whole", "power_v", "number"]
theorem sc__law_at : FnScope N__law_at ["numbers", "x"] (defScope s__law_at) := ⟨rfl, rfl, rfl, by decide +kernel, rfl, by decide +kernel, by decide +kernel⟩
abbrev s__law_slope : Stmt := topS 45
abbrev N__law_slope : List Str := ["numbers", "k"]
theorem sc__law_slope : FnScope N__law_slope ["numbers"] (defScope s__law_slope) := ⟨rfl, rfl, rfl, by decide +kernel, rfl, by decide +kernel, by decide +kernel⟩
abbrev s__law_due : Stmt := topS 46
abbrev N__law_due : List Str := ["p", "numbers", "places", "claim", "begin", "fits", "word", "digit"]
theorem sc__law_due : FnScope N__law_due ["p", "numbers", "places", "claim"] (defScope s__law_due) := ⟨rfl, rfl, rfl, by decide +kernel, rfl, by decide +kernel, by decide +kernel⟩
abbrev s__law_refused : Stmt := topS 47
abbrev N__law_refused : List Str := ["which", "one", "two", "three", "e"]
theorem sc__law_refused : FnScope N__law_refused ["which", "one", "two", "three"] (defScope s__law_refused) := ⟨rfl, rfl, rfl, by decide +kernel, rfl, by decide +kernel, by decide +kernel⟩
abbrev s__law_roots_right : Stmt := topS 48
abbrev N__law_roots_right : List Str := ["source", "p", "n", "places", "told", "due", "begin", "base", "size", "whole", "word", "k"]
theorem sc__law_roots_right : FnScope N__law_roots_right ["source", "p"] (defScope s__law_roots_right) := ⟨rfl, rfl, rfl, by decide +kernel, rfl, by decide +kernel, by decide +kernel⟩
abbrev s__law_right : Stmt := topS 49
abbrev N__law_right : List Str := ("source" :: "p" :: "sign" :: "pair" :: "number" :: "under" :: "places" :: "word" :: "front" :: "own" :: "long" :: "other" :: "second" :: "summed" :: "times" :: "count" :: "step" :: "numbers" :: "x" :: "begin" :: "claim" :: "told" :: "one" :: "said" :: "modulus" :: "a" :: "refused" :: "which" :: "two" :: "three" :: "due" :: "digit" :: "size" :: "k" :: [])
theorem sc__law_right : FnScope N__law_right ["source"] (defScope s__law_right) := ⟨rfl, rfl, rfl, by decide +kernel, rfl, by decide +kernel, by decide +kernel⟩
abbrev s_law : Stmt := topS 50
abbrev N_law : List Str := ["script", "k"]
theorem sc_law : FnScope N_law ["script"] (defScope s_law) := ⟨rfl, rfl, rfl, by decide +kernel, rfl, by decide +kernel, by decide +kernel⟩
/-- where things stand -/
structure Ad where
  f_power : Addr
  d_power : FuncData
  f_checked : Addr
  d_checked : FuncData
  f_shared : Addr
  d_shared : FuncData
  f_fraction : Addr
  d_fraction : FuncData
  f_is_fraction : Addr
  d_is_fraction : FuncData
  f_known : Addr
  d_known : FuncData
  f_prime_of : Addr
  d_prime_of : FuncData
  f_places_of : Addr
  d_places_of : FuncData
  f_back : Addr
  d_back : FuncData
  f_of_fraction : Addr
  d_of_fraction : FuncData
  f_going_round : Addr
  d_going_round : FuncData
  f_value_of : Addr
  d_value_of : FuncData
  f_often : Addr
  d_often : FuncData
  f_polynomial_at : Addr
  d_polynomial_at : FuncData
  f_slope : Addr
  d_slope : FuncData
  f_lifted : Addr
  d_lifted : FuncData
  f_lifted_right : Addr
  d_lifted_right : FuncData
  f_square_roots : Addr
  d_square_roots : FuncData
  f_added : Addr
  d_added : FuncData
  f_product : Addr
  d_product : FuncData
  f_own_squares : Addr
  d_own_squares : FuncData
  f__law_cell : Addr
  d__law_cell : FuncData
  f__law_source : Addr
  d__law_source : FuncData
  f__law_pick : Addr
  d__law_pick : FuncData
  f__law_great : Addr
  d__law_great : FuncData
  f__law_gcd : Addr
  d__law_gcd : FuncData
  f__law_changed : Addr
  d__law_changed : FuncData
  f__law_cut : Addr
  d__law_cut : FuncData
  f__law_bent : Addr
  d__law_bent : FuncData
  f__law_power : Addr
  d__law_power : FuncData
  f__law_value : Addr
  d__law_value : FuncData
  f__law_at : Addr
  d__law_at : FuncData
  f__law_slope : Addr
  d__law_slope : FuncData
  f__law_due : Addr
  d__law_due : FuncData
  f__law_refused : Addr
  d__law_refused : FuncData
  f__law_roots_right : Addr
  d__law_roots_right : FuncData
  f__law_right : Addr
  d__law_right : FuncData
  f_law : Addr
  d_law : FuncData
  C_NoteError : Addr
  C_BadNumber : Addr
  C_BadFraction : Addr
  C_TooLarge : Addr
  fI : Addr
  u_SCALE : Value
  u_LIMIT : Value
  u_MOST_PLACES : Value
/-- what the top has written -/
structure Tx (P : Program) (K : PySem.W.Frag) (mg : Str → Option Value) (A : Ad) : Prop where
  F_power : Fun K "power" "power" s_power A.f_power A.d_power
  g_power : mg "power" = some (.ref A.f_power)
  F_checked : Fun K "checked" "checked" s_checked A.f_checked A.d_checked
  g_checked : mg "checked" = some (.ref A.f_checked)
  F_shared : Fun K "shared" "shared" s_shared A.f_shared A.d_shared
  g_shared : mg "shared" = some (.ref A.f_shared)
  F_fraction : Fun K "fraction" "fraction" s_fraction A.f_fraction A.d_fraction
  g_fraction : mg "fraction" = some (.ref A.f_fraction)
  F_is_fraction : Fun K "is_fraction" "is_fraction" s_is_fraction A.f_is_fraction A.d_is_fraction
  g_is_fraction : mg "is_fraction" = some (.ref A.f_is_fraction)
  F_known : Fun K "known" "known" s_known A.f_known A.d_known
  g_known : mg "known" = some (.ref A.f_known)
  F_prime_of : Fun K "prime_of" "prime_of" s_prime_of A.f_prime_of A.d_prime_of
  g_prime_of : mg "prime_of" = some (.ref A.f_prime_of)
  F_places_of : Fun K "places_of" "places_of" s_places_of A.f_places_of A.d_places_of
  g_places_of : mg "places_of" = some (.ref A.f_places_of)
  F_back : Fun K "back" "back" s_back A.f_back A.d_back
  g_back : mg "back" = some (.ref A.f_back)
  F_of_fraction : Fun K "of_fraction" "of_fraction" s_of_fraction A.f_of_fraction A.d_of_fraction
  g_of_fraction : mg "of_fraction" = some (.ref A.f_of_fraction)
  F_going_round : Fun K "going_round" "going_round" s_going_round A.f_going_round A.d_going_round
  g_going_round : mg "going_round" = some (.ref A.f_going_round)
  F_value_of : Fun K "value_of" "value_of" s_value_of A.f_value_of A.d_value_of
  g_value_of : mg "value_of" = some (.ref A.f_value_of)
  F_often : Fun K "often" "often" s_often A.f_often A.d_often
  g_often : mg "often" = some (.ref A.f_often)
  F_polynomial_at : Fun K "polynomial_at" "polynomial_at" s_polynomial_at A.f_polynomial_at A.d_polynomial_at
  g_polynomial_at : mg "polynomial_at" = some (.ref A.f_polynomial_at)
  F_slope : Fun K "slope" "slope" s_slope A.f_slope A.d_slope
  g_slope : mg "slope" = some (.ref A.f_slope)
  F_lifted : Fun K "lifted" "lifted" s_lifted A.f_lifted A.d_lifted
  g_lifted : mg "lifted" = some (.ref A.f_lifted)
  F_lifted_right : Fun K "lifted_right" "lifted_right" s_lifted_right A.f_lifted_right A.d_lifted_right
  g_lifted_right : mg "lifted_right" = some (.ref A.f_lifted_right)
  F_square_roots : Fun K "square_roots" "square_roots" s_square_roots A.f_square_roots A.d_square_roots
  g_square_roots : mg "square_roots" = some (.ref A.f_square_roots)
  F_added : Fun K "added" "added" s_added A.f_added A.d_added
  g_added : mg "added" = some (.ref A.f_added)
  F_product : Fun K "product" "product" s_product A.f_product A.d_product
  g_product : mg "product" = some (.ref A.f_product)
  F_own_squares : Fun K "own_squares" "own_squares" s_own_squares A.f_own_squares A.d_own_squares
  g_own_squares : mg "own_squares" = some (.ref A.f_own_squares)
  F__law_cell : Fun K "_law_cell" "_law_cell" s__law_cell A.f__law_cell A.d__law_cell
  g__law_cell : mg "_law_cell" = some (.ref A.f__law_cell)
  F__law_source : Fun K "_law_source" "_law_source" s__law_source A.f__law_source A.d__law_source
  g__law_source : mg "_law_source" = some (.ref A.f__law_source)
  F__law_pick : Fun K "_law_pick" "_law_pick" s__law_pick A.f__law_pick A.d__law_pick
  g__law_pick : mg "_law_pick" = some (.ref A.f__law_pick)
  F__law_great : Fun K "_law_great" "_law_great" s__law_great A.f__law_great A.d__law_great
  g__law_great : mg "_law_great" = some (.ref A.f__law_great)
  F__law_gcd : Fun K "_law_gcd" "_law_gcd" s__law_gcd A.f__law_gcd A.d__law_gcd
  g__law_gcd : mg "_law_gcd" = some (.ref A.f__law_gcd)
  F__law_changed : Fun K "_law_changed" "_law_changed" s__law_changed A.f__law_changed A.d__law_changed
  g__law_changed : mg "_law_changed" = some (.ref A.f__law_changed)
  F__law_cut : Fun K "_law_cut" "_law_cut" s__law_cut A.f__law_cut A.d__law_cut
  g__law_cut : mg "_law_cut" = some (.ref A.f__law_cut)
  F__law_bent : Fun K "_law_bent" "_law_bent" s__law_bent A.f__law_bent A.d__law_bent
  g__law_bent : mg "_law_bent" = some (.ref A.f__law_bent)
  F__law_power : Fun K "_law_power" "_law_power" s__law_power A.f__law_power A.d__law_power
  g__law_power : mg "_law_power" = some (.ref A.f__law_power)
  F__law_value : Fun K "_law_value" "_law_value" s__law_value A.f__law_value A.d__law_value
  g__law_value : mg "_law_value" = some (.ref A.f__law_value)
  F__law_at : Fun K "_law_at" "_law_at" s__law_at A.f__law_at A.d__law_at
  g__law_at : mg "_law_at" = some (.ref A.f__law_at)
  F__law_slope : Fun K "_law_slope" "_law_slope" s__law_slope A.f__law_slope A.d__law_slope
  g__law_slope : mg "_law_slope" = some (.ref A.f__law_slope)
  F__law_due : Fun K "_law_due" "_law_due" s__law_due A.f__law_due A.d__law_due
  g__law_due : mg "_law_due" = some (.ref A.f__law_due)
  F__law_refused : Fun K "_law_refused" "_law_refused" s__law_refused A.f__law_refused A.d__law_refused
  g__law_refused : mg "_law_refused" = some (.ref A.f__law_refused)
  F__law_roots_right : Fun K "_law_roots_right" "_law_roots_right" s__law_roots_right A.f__law_roots_right A.d__law_roots_right
  g__law_roots_right : mg "_law_roots_right" = some (.ref A.f__law_roots_right)
  F__law_right : Fun K "_law_right" "_law_right" s__law_right A.f__law_right A.d__law_right
  g__law_right : mg "_law_right" = some (.ref A.f__law_right)
  F_law : Fun K "law" "law" s_law A.f_law A.d_law
  g_law : mg "law" = some (.ref A.f_law)
  base : BaseTxt P K mg A.C_NoteError A.fI
  m_NoteError : mg "NoteError" = some (.ref A.C_NoteError)
  m_BadNumber : mg "BadNumber" = some (.ref A.C_BadNumber)
  m_BadFraction : mg "BadFraction" = some (.ref A.C_BadFraction)
  m_TooLarge : mg "TooLarge" = some (.ref A.C_TooLarge)
  e_BadNumber : ErrTxt K mg A.C_NoteError A.fI "BadNumber" A.C_BadNumber
  e_BadFraction : ErrTxt K mg A.C_NoteError A.fI "BadFraction" A.C_BadFraction
  e_TooLarge : ErrTxt K mg A.C_NoteError A.fI "TooLarge" A.C_TooLarge
  n_abs : mg "abs" = none
  n_any : mg "any" = none
  n_bool : mg "bool" = none
  n_enumerate : mg "enumerate" = none
  n_int : mg "int" = none
  n_isinstance : mg "isinstance" = none
  n_len : mg "len" = none
  n_list : mg "list" = none
  n_min : mg "min" = none
  n_range : mg "range" = none
  n_reversed : mg "reversed" = none
  n_str : mg "str" = none
  n_sum : mg "sum" = none
  n_tuple : mg "tuple" = none
  n_zip : mg "zip" = none
  x_BadNumber_BadFraction : PySem.W.exmOne K (.ref A.C_BadNumber) (.ref A.C_BadFraction) = some false
  x_BadNumber_BadNumber : PySem.W.exmOne K (.ref A.C_BadNumber) (.ref A.C_BadNumber) = some true
  x_BadNumber_TooLarge : PySem.W.exmOne K (.ref A.C_BadNumber) (.ref A.C_TooLarge) = some false
  x_BadNumber_NoteError : PySem.W.exmOne K (.ref A.C_BadNumber) (.ref A.C_NoteError) = some true
  x_BadFraction_BadFraction : PySem.W.exmOne K (.ref A.C_BadFraction) (.ref A.C_BadFraction) = some true
  x_BadFraction_BadNumber : PySem.W.exmOne K (.ref A.C_BadFraction) (.ref A.C_BadNumber) = some false
  x_BadFraction_TooLarge : PySem.W.exmOne K (.ref A.C_BadFraction) (.ref A.C_TooLarge) = some false
  x_BadFraction_NoteError : PySem.W.exmOne K (.ref A.C_BadFraction) (.ref A.C_NoteError) = some true
  x_TooLarge_BadFraction : PySem.W.exmOne K (.ref A.C_TooLarge) (.ref A.C_BadFraction) = some false
  x_TooLarge_BadNumber : PySem.W.exmOne K (.ref A.C_TooLarge) (.ref A.C_BadNumber) = some false
  x_TooLarge_TooLarge : PySem.W.exmOne K (.ref A.C_TooLarge) (.ref A.C_TooLarge) = some true
  x_TooLarge_NoteError : PySem.W.exmOne K (.ref A.C_TooLarge) (.ref A.C_NoteError) = some true
  k_SCALE_m : mg "SCALE" = some A.u_SCALE
  k_SCALE_r : RelV (.int 100000000000000000000000000000000000000000000000000) A.u_SCALE
  k_LIMIT_m : mg "LIMIT" = some A.u_LIMIT
  k_LIMIT_r : RelV (.int 10000000000000000000000000000000000000000000000000000000000000000000000000000000000000000000000000000000000000000000000000000000000000000000000000000000000000000000000000000000000000000000000000000000000000000000000000000000000000000000000000000000000000000000000000000000000000000000000000000000000000000000000000000000000000000000000000000000000000000000000000000000000000000000000000000000000000000) A.u_LIMIT
  k_MOST_PLACES_m : mg "MOST_PLACES" = some A.u_MOST_PLACES
  k_MOST_PLACES_r : RelV (.int 200) A.u_MOST_PLACES
section
variable {P : Program} {K : PySem.W.Frag} {mg : Str → Option Value} {A : Ad}
theorem Tx.b_power (T : Tx P K mg A) : Binds K A.d_power ["base", "e"] [] := T.F_power.binds fun _ _ _ _ _ _ us hl => match us, hl with | [_, _], _ => rfl
theorem Tx.b_checked (T : Tx P K mg A) : Binds K A.d_checked ["n"] [] := T.F_checked.binds fun _ _ _ _ _ _ us hl => match us, hl with | [_], _ => rfl
theorem Tx.b_shared (T : Tx P K mg A) : Binds K A.d_shared ["one", "other"] [] := T.F_shared.binds fun _ _ _ _ _ _ us hl => match us, hl with | [_, _], _ => rfl
theorem Tx.b_fraction (T : Tx P K mg A) : Binds K A.d_fraction ["number", "under"] [] := T.F_fraction.binds fun _ _ _ _ _ _ us hl => match us, hl with | [_, _], _ => rfl
theorem Tx.b_is_fraction (T : Tx P K mg A) : Binds K A.d_is_fraction ["pair"] [] := T.F_is_fraction.binds fun _ _ _ _ _ _ us hl => match us, hl with | [_], _ => rfl
theorem Tx.b_known (T : Tx P K mg A) : Binds K A.d_known ["pair"] [] := T.F_known.binds fun _ _ _ _ _ _ us hl => match us, hl with | [_], _ => rfl
theorem Tx.b_prime_of (T : Tx P K mg A) : Binds K A.d_prime_of ["p"] [] := T.F_prime_of.binds fun _ _ _ _ _ _ us hl => match us, hl with | [_], _ => rfl
theorem Tx.b_places_of (T : Tx P K mg A) : Binds K A.d_places_of ["places"] [] := T.F_places_of.binds fun _ _ _ _ _ _ us hl => match us, hl with | [_], _ => rfl
theorem Tx.b_back (T : Tx P K mg A) : Binds K A.d_back ["number", "modulus"] [] := T.F_back.binds fun _ _ _ _ _ _ us hl => match us, hl with | [_, _], _ => rfl
theorem Tx.b_of_fraction (T : Tx P K mg A) : Binds K A.d_of_fraction ["p", "pair", "places"] [] := T.F_of_fraction.binds fun _ _ _ _ _ _ us hl => match us, hl with | [_, _, _], _ => rfl
theorem Tx.b_going_round (T : Tx P K mg A) : Binds K A.d_going_round ["p", "pair"] [] := T.F_going_round.binds fun _ _ _ _ _ _ us hl => match us, hl with | [_, _], _ => rfl
theorem Tx.b_value_of (T : Tx P K mg A) : Binds K A.d_value_of ["p", "front", "round_of"] [] := T.F_value_of.binds fun _ _ _ _ _ _ us hl => match us, hl with | [_, _, _], _ => rfl
theorem Tx.b_often (T : Tx P K mg A) : Binds K A.d_often ["p", "pair"] [] := T.F_often.binds fun _ _ _ _ _ _ us hl => match us, hl with | [_, _], _ => rfl
theorem Tx.b_polynomial_at (T : Tx P K mg A) : Binds K A.d_polynomial_at ["numbers", "x"] [] := T.F_polynomial_at.binds fun _ _ _ _ _ _ us hl => match us, hl with | [_, _], _ => rfl
theorem Tx.b_slope (T : Tx P K mg A) : Binds K A.d_slope ["numbers"] [] := T.F_slope.binds fun _ _ _ _ _ _ us hl => match us, hl with | [_], _ => rfl
theorem Tx.b_lifted (T : Tx P K mg A) : Binds K A.d_lifted ["p", "numbers", "begin", "places"] [] := T.F_lifted.binds fun _ _ _ _ _ _ us hl => match us, hl with | [_, _, _, _], _ => rfl
theorem Tx.b_lifted_right (T : Tx P K mg A) : Binds K A.d_lifted_right ["p", "numbers", "places", "claim"] [] := T.F_lifted_right.binds fun _ _ _ _ _ _ us hl => match us, hl with | [_, _, _, _], _ => rfl
theorem Tx.b_square_roots (T : Tx P K mg A) : Binds K A.d_square_roots ["p", "n", "places"] [] := T.F_square_roots.binds fun _ _ _ _ _ _ us hl => match us, hl with | [_, _, _], _ => rfl
theorem Tx.b_added (T : Tx P K mg A) : Binds K A.d_added ["p", "one", "other"] [] := T.F_added.binds fun _ _ _ _ _ _ us hl => match us, hl with | [_, _, _], _ => rfl
theorem Tx.b_product (T : Tx P K mg A) : Binds K A.d_product ["p", "one", "other"] [] := T.F_product.binds fun _ _ _ _ _ _ us hl => match us, hl with | [_, _, _], _ => rfl
theorem Tx.b_own_squares (T : Tx P K mg A) : Binds K A.d_own_squares ["base", "places"] [] := T.F_own_squares.binds fun _ _ _ _ _ _ us hl => match us, hl with | [_, _], _ => rfl
theorem Tx.b__law_cell (T : Tx P K mg A) : Binds K A.d__law_cell ["script", "k"] [] := T.F__law_cell.binds fun _ _ _ _ _ _ us hl => match us, hl with | [_, _], _ => rfl
theorem Tx.b__law_source (T : Tx P K mg A) : Binds K A.d__law_source ["cell", "k"] [] := T.F__law_source.binds fun _ _ _ _ _ _ us hl => match us, hl with | [_, _], _ => rfl
theorem Tx.b__law_pick (T : Tx P K mg A) : Binds K A.d__law_pick ["source", "many"] [] := T.F__law_pick.binds fun _ _ _ _ _ _ us hl => match us, hl with | [_, _], _ => rfl
theorem Tx.b__law_great (T : Tx P K mg A) : Binds K A.d__law_great ["source"] [] := T.F__law_great.binds fun _ _ _ _ _ _ us hl => match us, hl with | [_], _ => rfl
theorem Tx.b__law_gcd (T : Tx P K mg A) : Binds K A.d__law_gcd ["one", "other"] [] := T.F__law_gcd.binds fun _ _ _ _ _ _ us hl => match us, hl with | [_, _], _ => rfl
theorem Tx.b__law_changed (T : Tx P K mg A) : Binds K A.d__law_changed ["part", "at", "more"] [] := T.F__law_changed.binds fun _ _ _ _ _ _ us hl => match us, hl with | [_, _, _], _ => rfl
theorem Tx.b__law_cut (T : Tx P K mg A) : Binds K A.d__law_cut ["part", "at"] [] := T.F__law_cut.binds fun _ _ _ _ _ _ us hl => match us, hl with | [_, _], _ => rfl
theorem Tx.b__law_bent (T : Tx P K mg A) : Binds K A.d__law_bent ["source", "claim"] [] := T.F__law_bent.binds fun _ _ _ _ _ _ us hl => match us, hl with | [_, _], _ => rfl
theorem Tx.b__law_power (T : Tx P K mg A) : Binds K A.d__law_power ["base", "e"] [] := T.F__law_power.binds fun _ _ _ _ _ _ us hl => match us, hl with | [_, _], _ => rfl
theorem Tx.b__law_value (T : Tx P K mg A) : Binds K A.d__law_value ["p", "low"] [] := T.F__law_value.binds fun _ _ _ _ _ _ us hl => match us, hl with | [_, _], _ => rfl
theorem Tx.b__law_at (T : Tx P K mg A) : Binds K A.d__law_at ["numbers", "x"] [] := T.F__law_at.binds fun _ _ _ _ _ _ us hl => match us, hl with | [_, _], _ => rfl
theorem Tx.b__law_slope (T : Tx P K mg A) : Binds K A.d__law_slope ["numbers"] [] := T.F__law_slope.binds fun _ _ _ _ _ _ us hl => match us, hl with | [_], _ => rfl
theorem Tx.b__law_due (T : Tx P K mg A) : Binds K A.d__law_due ["p", "numbers", "places", "claim"] [] := T.F__law_due.binds fun _ _ _ _ _ _ us hl => match us, hl with | [_, _, _, _], _ => rfl
theorem Tx.b__law_refused (T : Tx P K mg A) : Binds K A.d__law_refused ["which", "one", "two", "three"] [] := T.F__law_refused.binds fun _ _ _ _ _ _ us hl => match us, hl with | [_, _, _, _], _ => rfl
theorem Tx.b__law_roots_right (T : Tx P K mg A) : Binds K A.d__law_roots_right ["source", "p"] [] := T.F__law_roots_right.binds fun _ _ _ _ _ _ us hl => match us, hl with | [_, _], _ => rfl
theorem Tx.b__law_right (T : Tx P K mg A) : Binds K A.d__law_right ["source"] [] := T.F__law_right.binds fun _ _ _ _ _ _ us hl => match us, hl with | [_], _ => rfl
theorem Tx.b_law (T : Tx P K mg A) : Binds K A.d_law ["script"] [] := T.F_law.binds fun _ _ _ _ _ _ us hl => match us, hl with | [_], _ => rfl
end
local macro_rules | `(tactic| walk_at "d") => `(tactic| ((try conv => whnf); repeat' (first
  | (refine Tl.mk ?_; (try conv => whnf))
  | (refine IfB.tt ?_; (try conv => whnf))
  | (refine IfB.ff ?_; (try conv => whnf))
  | ((with_reducible refine IfB.mk ?_ ?_) <;> (intro hc; (try simp only [decide_eq_true_eq, decide_eq_false_iff_not, Bool.not_eq_true', Bool.not_eq_false', Bool.true_eq_false, Bool.false_eq_true, reduceCtorEq, vD, deq_ii, deq_bb, deq_ss, Int.not_lt, Int.not_le, Decidable.not_not, ne_eq, Bool.not_true, Bool.not_false, not_true_eq_false, not_false_eq_true] at hc); (try conv => whnf)))
  | (refine And.intro (by first | exact True.intro | exact (show stb _ _ from ⟨_, rfl⟩) | exact Eq.refl _ | exact (show dok _ _ = true ∧ dok _ _ = true from And.intro (by first | assumption | (simp only [vD, dok, doks, dok_str, Bool.and_self]; done) | rfl) (by first | assumption | (simp only [vD, dok, doks, dok_str, Bool.and_self]; done) | rfl)) | assumption | exact gs_isL (by assumption) | exact mulC_small (by decide) | exact mulC_small' (by decide) | exact divC_small (by decide) (by decide) | exact sz_len (Nat.le_of_ble_eq_true rfl) | decide) ?_; (try conv => whnf))
  | (refine Exists.intro _ (And.intro (rfl : sqOf _ = some _) ?_); (try conv => whnf))
  | (refine Exists.intro _ (Exists.intro _ (And.intro (rfl : lsOf _ = some _) (And.intro (rfl : lsOf _ = some _) ?_))); (try conv => whnf))
  | (refine Exists.intro _ (And.intro (rfl : lsOf _ = some _) ?_); (try conv => whnf))
  | (refine meets_t (by assumption) ?_; (try conv => whnf))
  | (refine meets_f (by assumption) ?_; (try conv => whnf)))))
local macro_rules | `(tactic| walk_at "s") => `(tactic| ((try conv => whnf); repeat' (first
  | (refine IfB.tt ?_; (try conv => whnf))
  | (refine IfB.ff ?_; (try conv => whnf))
  | ((with_reducible refine IfB.mk ?_ ?_) <;> (intro hc; (try simp only [decide_eq_true_eq, decide_eq_false_iff_not, Bool.not_eq_true', Bool.not_eq_false', Bool.true_eq_false, Bool.false_eq_true, reduceCtorEq, vD, deq_ii, deq_bb, deq_ss, Int.not_lt, Int.not_le, Decidable.not_not, ne_eq, Bool.not_true, Bool.not_false, not_true_eq_false, not_false_eq_true] at hc); (try conv => whnf)))
  | (refine And.intro (by first | exact True.intro | exact (show stb _ _ from ⟨_, rfl⟩) | exact Eq.refl _ | exact (show dok _ _ = true ∧ dok _ _ = true from And.intro (by first | assumption | (simp only [vD, dok, doks, dok_str, Bool.and_self]; done) | rfl) (by first | assumption | (simp only [vD, dok, doks, dok_str, Bool.and_self]; done) | rfl)) | assumption | exact gs_isL (by assumption) | exact mulC_small (by decide) | exact mulC_small' (by decide) | exact divC_small (by decide) (by decide) | exact sz_len (Nat.le_of_ble_eq_true rfl) | decide) ?_; (try conv => whnf))
  | (refine Exists.intro _ (And.intro (rfl : sqOf _ = some _) ?_); (try conv => whnf))
  | (refine Exists.intro _ (Exists.intro _ (And.intro (rfl : lsOf _ = some _) (And.intro (rfl : lsOf _ = some _) ?_))); (try conv => whnf))
  | (refine Exists.intro _ (And.intro (rfl : lsOf _ = some _) ?_); (try conv => whnf))
  | (refine meets_t (by assumption) ?_; (try conv => whnf))
  | (refine meets_f (by assumption) ?_; (try conv => whnf)))))

def c_power (A : Ad) : PCt := fun ds R RE => match ds with
  | [.int b, .int e] => (e < 0 → RE (erD A.C_BadNumber "power")) ∧ (0 ≤ e → (∃ n : Nat, b.natAbs < 2 ^ n ∧ 2 * n * e.toNat < 900000) ∧ R (iD (b ^ e.toNat)))
  | _ => False
def c_checked (A : Ad) : PCt := fun ds R RE => match ds with
  | [.int n] => n.natAbs < 2 ^ 1300 ∧ R (iD n)
  | _ => False
def c_shared (A : Ad) : PCt := fun ds R RE => match ds with
  | [.int a, .int b] => R (iD (Int.gcd a b))
  | _ => False
def c_is_fraction (A : Ad) : PCt := fun ds R RE => match ds with
  | [.tup [.int n, .int u]] => R (.p (.bl (decide (0 < u) && decide (Int.gcd n u = 1))))
  | _ => False
def c_known (A : Ad) : PCt := fun ds R RE => ∃ x n u, ds = [x] ∧ sqOf (.p x) = some [.int n, .int u] ∧ (¬ (0 < u ∧ Int.gcd n u = 1) → RE (erD A.C_BadFraction "fraction")) ∧ (0 < u ∧ Int.gcd n u = 1 → R (.p (.tup [.int n, .int u])))
def c__law_cell (A : Ad) : PCt := fun ds R RE => ∃ (ns : List Int) (k : Nat), ds = [.frl (ns.map .int), .int k] ∧ ∀ x : Int, R (iD x)
def c__law_source (A : Ad) : PCt := fun ds R RE => ∃ (c : Int) (k : Nat), ds = [.int c, .int k] ∧ k < 1000 ∧ ∀ n, gs n → R (.ow n)
def c__law_pick (A : Ad) : RCt := fun n ds R RE => gs n ∧ ∃ m : Int, ds = [.int m] ∧ 0 < m ∧ m < 1000000000 ∧ ∀ (p : Int) (n' : Nd), gs n' → 0 ≤ p → p < m → R (iD p) n'
def c__law_great (A : Ad) : RCt := fun n ds R RE => gs n ∧ ds = [] ∧ ∀ (v : Int) (n' : Nd), gs n' → 0 ≤ v → v < 2 ^ 190 → R (iD v) n'
def c__law_gcd (A : Ad) : PCt := fun ds R RE => match ds with
  | [.int a, .int b] => b.natAbs < 2 ^ 5000 ∧ R (iD (Int.gcd a b))
  | _ => False
def r__law_changed (A : Ad) (n : Nat) : PCt := fun ds R RE => ∃ (s : Sh) (N : Nat) (d : D) (a m : Int), ds = [d, .int a, .int m] ∧ s.has N d ∧ s.ok = true ∧ s.dep ≤ n ∧ N < 1000000 ∧ ∀ d' (c : Nat), s.has N d' → c ≤ s.cap N → R (.p (.tup [d', .int c]))
def c__law_changed (A : Ad) : PCt := r__law_changed A 5
def r__law_cut (A : Ad) (n : Nat) : PCt := fun ds R RE => ∃ (s : Sh) (N : Nat) (d : D) (a : Int), ds = [d, .int a] ∧ s.has N d ∧ s.ok = true ∧ s.dep ≤ n ∧ n ≤ 50 ∧ N < 1000000 ∧ ∀ d' (c : Nat), s.has N d' → c ≤ s.cap N → R (.p (.tup [d', .int c]))
def c__law_cut (A : Ad) : PCt := r__law_cut A 5
def c__law_bent (A : Ad) : RCt := fun n ds R RE => gs n ∧ ∃ (s : Sh) (N : Nat) (d : D), ds = [d] ∧ s.has N d ∧ s.ok = true ∧ s.dep ≤ 5 ∧ N < 1000000 ∧ s.cap N < 1000000000 ∧ ∀ n' (es : List D), gs n' → es.length ≤ 9 → (∀ x, x ∈ es → s.has N x) → R (.ow (.lst es)) n'
def c__law_power (A : Ad) : PCt := fun ds R RE => match ds with
  | [.int b, .int e] => (0 ≤ e ∧ e < 100000 ∧ ∃ n : Nat, b.natAbs < 2 ^ n ∧ n * e.toNat + n < 900000) ∧ R (iD (b ^ e.toNat))
  | _ => False
/-! the contracts -/
/-- primes up to 31 -/
def pr (p : Int) : Prop := 2 ≤ p ∧ p ≤ 31 ∧ ∀ d, 2 ≤ d → d < p → p % d ≠ 0
/-- k times the first, k + 1 times the second, .. -/
def scl (k : Int) : List Int → List Int
  | [] => []
  | c :: r => k * c :: scl (k + 1) r
/-- the slope -/
def sl (ns : List Int) : List Int := scl 1 ns.tail
/-- a beginning that fits -/
def good (p b : Int) (ns : List Int) : Prop := p ∣ rvl b ns ∧ ¬ p ∣ rvl b (sl ns)
def smp (B : Nat) (ns : List Int) : Prop := ns.length ≤ 6 ∧ ∀ c, c ∈ ns → c.natAbs ≤ B
def Lift (p : Int) (ns : List Int) (b : Int) (k : Nat) (ws : List Int) : Prop := okd p ws ∧ ws.length = k ∧ (∀ x, ws.head? = some x → x = b) ∧ p ^ k ∣ rvl (rvl p ws) ns
inductive All2 {α β : Type} (P : α → β → Prop) : List α → List β → Prop
  | nil : All2 P [] []
  | cons {a b l m} : P a b → All2 P l m → All2 P (a :: l) (b :: m)
def roots (p n : Int) : List Int := ((List.range p.toNat).map fun i : Nat => (i : Int)).filter fun b => decide ((b * b - n) % p = 0)
def osq (w : Nat) : List Int := ((List.range w).map fun i : Nat => (i : Int)).filter fun n => decide ((n * n - n) % (w : Int) = 0)
def vp (p n : Int) (a : Nat) : Prop := p ^ a ∣ n ∧ ¬ p ^ (a + 1) ∣ n
def frW (n u : Int) : Prop := u ≠ 0 ∧ u.natAbs < 2 ^ 8000 ∧ (n.fdiv (cm n u)).natAbs < 2 ^ 1300 ∧ (u.fdiv (cm n u)).natAbs < 2 ^ 1300
/-- digits that lead back -/
structure Rnd (p n u : Int) (fs os : List Int) : Prop where
  ok : okd p (fs ++ os)
  ne : os ≠ []
  len : (fs ++ os).length ≤ 400
  ex : ∃ L : Nat → Int, L 0 = n ∧ (∀ k, k < (fs ++ os).length → L k = u * (fs ++ os).getD k 0 + p * L (k + 1)) ∧ L (fs ++ os).length = L fs.length ∧ ∀ i j, i < j → j < (fs ++ os).length → L i ≠ L j
abbrev clR (b : Int) (ws : List Int) : D := .tup [.str (PySem.Str.ofString "root"), .int b, tI ws]
abbrev clN (b : Int) : D := .tup [.str (PySem.Str.ofString "rootless"), .int b]
def c_fraction (A : Ad) : PCt := fun ds R RE => match ds with
  | [.int n, .int u] => (u = 0 → RE (erD A.C_BadFraction "under")) ∧ (u ≠ 0 → frW n u ∧ R (.p (frD n u)))
  | _ => False
def c_prime_of (A : Ad) : PCt := fun ds R RE => match ds with
  | [.int p] => (p = 4 → RE (erD A.C_BadNumber "prime")) ∧ (p ≠ 4 → pr p ∧ R (iD p))
  | _ => False
def c_places_of (A : Ad) : PCt := fun ds R RE => match ds with
  | [.int n] => (¬ (0 ≤ n ∧ n ≤ 200) → RE (erD A.C_TooLarge "places")) ∧ (0 ≤ n → n ≤ 200 → R (iD n))
  | _ => False
def c_back (A : Ad) : PCt := fun ds R RE => match ds with
  | [.int a, .int m] => 2 ≤ m ∧ m.natAbs < 2 ^ 1000 ∧ (Int.gcd a m ≠ 1 → RE (erD A.C_BadNumber "shared")) ∧ (Int.gcd a m = 1 → ∀ x, 0 ≤ x → x < m → m ∣ a * x - 1 → R (iD x))
  | _ => False
def c_of_fraction (A : Ad) : PCt := fun ds R RE => ∃ p d n u k, ds = [.int p, d, .int k] ∧ sqOf (.p d) = some [.int n, .int u] ∧ n.natAbs < 2 ^ 400 ∧ u.natAbs < 2 ^ 100 ∧
  (¬ (0 < u ∧ Int.gcd n u = 1) → RE (erD A.C_BadFraction "fraction")) ∧ (0 < u ∧ Int.gcd n u = 1 → (p = 4 → RE (erD A.C_BadNumber "prime")) ∧ (p ≠ 4 → pr p ∧ (u % p = 0 → RE (erD A.C_BadFraction "bottom")) ∧
    (u % p ≠ 0 → (¬ (0 ≤ k ∧ k ≤ 200) → RE (erD A.C_TooLarge "places")) ∧ (0 ≤ k → k ≤ 200 → k ≤ 31 ∧ ∀ ws, okd p ws → ws.length = k.toNat → p ^ k.toNat ∣ rvl p ws * u - n → R (.p (tI ws))))))
def c_going_round (A : Ad) : PCt := fun ds R RE => ∃ p d n u, ds = [.int p, d] ∧ sqOf (.p d) = some [.int n, .int u] ∧ 0 < u ∧ Int.gcd n u = 1 ∧ pr p ∧ n.natAbs < 2 ^ 200 ∧ (u % p = 0 → RE (erD A.C_BadFraction "bottom")) ∧
  (u % p ≠ 0 → (2000 < u → RE (erD A.C_TooLarge "bottom")) ∧ (u ≤ 2000 → u ≤ 60 ∧ ∀ fs os, Rnd p n u fs os → R (.p (.tup [tI fs, tI os]))))
def c_value_of (A : Ad) : PCt := fun ds R RE => ∃ p fs os, ds = [.int p, tI fs, tI os] ∧ pr p ∧ os ≠ [] ∧ fs.length ≤ 400 ∧ os.length ≤ 400 ∧ okd p fs ∧ okd p os ∧
  frW (rvl p fs * (1 - p ^ os.length) + rvl p os * p ^ fs.length) (1 - p ^ os.length) ∧ R (.p (frD (rvl p fs * (1 - p ^ os.length) + rvl p os * p ^ fs.length) (1 - p ^ os.length)))
def c_often (A : Ad) : PCt := fun ds R RE => ∃ p d n u, ds = [.int p, d] ∧ sqOf (.p d) = some [.int n, .int u] ∧ 0 < u ∧ Int.gcd n u = 1 ∧ pr p ∧ n.natAbs < 2 ^ 400 ∧ u.natAbs < 2 ^ 100 ∧ (n = 0 → RE (erD A.C_BadFraction "zero")) ∧
  (n ≠ 0 → ∀ a b : Nat, vp p n a → vp p u b → R (iD ((a : Int) - (b : Int))))
def c_polynomial_at (A : Ad) : PCt := fun ds R RE => ∃ (ns : List Int) (x : Int), ds = [tI ns, .int x] ∧ smp 10000 ns ∧ x.natAbs < 2 ^ 100 ∧ R (iD (rvl x ns))
def c_slope (A : Ad) : PCt := fun ds R RE => ∃ ns : List Int, ds = [tI ns] ∧ ns.length ≤ 10 ∧ R (.p (tI (sl ns)))
def c_lifted (A : Ad) : PCt := fun ds R RE => ∃ (p : Int) (ns : List Int) (b k : Int), ds = [.int p, tI ns, .int b, .int k] ∧ pr p ∧ smp 1000 ns ∧ (¬ (0 ≤ b ∧ b < p) → RE (erD A.C_BadNumber "begin")) ∧
  (0 ≤ b → b < p → (¬ good p b ns → R (.p (clN b))) ∧ (good p b ns → 0 ≤ k ∧ k ≤ 12 ∧ ∀ ws, Lift p ns b k.toNat ws → R (.p (clR b ws))))
def c_lifted_right (A : Ad) : PCt := fun ds R RE => ∃ (p : Int) (ns : List Int) (b k : Int) (cl : D), ds = [.int p, tI ns, .int k, cl] ∧ 2 ≤ p ∧ p ≤ 31 ∧ smp 1000 ns ∧ 0 ≤ k ∧ k ≤ 12 ∧
  ((cl = clN b ∧ ∀ t : Bool, (t = true ↔ 0 ≤ b ∧ b < p ∧ ¬ good p b ns) → R (.p (.bl t))) ∨
   ∃ ws : List Int, cl = clR b ws ∧ ws.length ≤ 1000 ∧ ∀ t : Bool, (t = true ↔ 0 ≤ b ∧ b < p ∧ good p b ns ∧ Lift p ns b k.toNat ws) → R (.p (.bl t)))
def c_square_roots (A : Ad) : PCt := fun ds R RE => match ds with
  | [.int p, .int n, .int k] => pr p ∧ ((p = 2 ∨ Int.gcd n p ≠ 1) → RE (erD A.C_BadNumber "number")) ∧
    (p ≠ 2 → Int.gcd n p = 1 → 1 ≤ k ∧ k ≤ 6 ∧ 1 ≤ n ∧ n ≤ 200 ∧ ∀ wss, All2 (fun b w => Lift p [-n, 0, 1] b k.toNat w) (roots p n) wss → R (.p (.tup (wss.map fun w => tI w))))
  | _ => False
def c_added (A : Ad) : PCt := fun ds R RE => ∃ (p : Int) (xs ys : List Int), ds = [.int p, tI xs, tI ys] ∧ pr p ∧ xs.length = ys.length ∧ xs.length ≤ 100 ∧ okd p xs ∧ okd p ys ∧ ∀ zs, okd p zs → zs.length = xs.length → p ^ xs.length ∣ rvl p zs - (rvl p xs + rvl p ys) → R (.p (tI zs))
def c_product (A : Ad) : PCt := fun ds R RE => ∃ (p : Int) (xs ys : List Int), ds = [.int p, tI xs, tI ys] ∧ pr p ∧ xs.length = ys.length ∧ xs.length ≤ 100 ∧ okd p xs ∧ okd p ys ∧ ∀ zs, okd p zs → zs.length = xs.length → p ^ xs.length ∣ rvl p zs - rvl p xs * rvl p ys → R (.p (tI zs))
def c_own_squares (A : Ad) : PCt := fun ds R RE => match ds with
  | [.int b, .int k] => b ≤ 100 ∧ k ≤ 10 ∧ ((b < 2 ∨ k < 1 ∨ 100000 < b ^ k.toNat) → RE (erD A.C_TooLarge "places")) ∧ (2 ≤ b → 1 ≤ k → b ^ k.toNat ≤ 100000 → R (.p (tI (osq (b ^ k.toNat).toNat))))
  | _ => False
def c__law_value (A : Ad) : PCt := fun ds R RE => ∃ (p : Int) (ws : List Int), ds = [.int p, tI ws] ∧ p.natAbs < 2 ^ 64 ∧ R (iD (rvl p ws))
def c__law_at (A : Ad) : PCt := fun ds R RE => ∃ (ns : List Int) (x : Int), ds = [tI ns, .int x] ∧ smp 10000 ns ∧ x.natAbs < 2 ^ 100 ∧ R (iD (rvl x ns))
def c__law_slope (A : Ad) : PCt := fun ds R RE => ∃ ns : List Int, ds = [tI ns] ∧ ns.length ≤ 10 ∧ R (.p (tI (sl ns)))
def c__law_due (A : Ad) : PCt := fun ds R RE => ∃ (p : Int) (ns : List Int) (b k : Int) (cl : D), ds = [.int p, tI ns, .int k, cl] ∧ 2 ≤ p ∧ p ≤ 31 ∧ smp 1000 ns ∧ 0 ≤ k ∧ k ≤ 12 ∧
  ((cl = clN b ∧ ∀ t : Bool, (t = true ↔ 0 ≤ b ∧ b < p ∧ ¬ good p b ns) → R (.p (.bl t))) ∨
   ∃ ws : List Int, cl = clR b ws ∧ ws.length ≤ 1000 ∧ ∀ t : Bool, (t = true ↔ 0 ≤ b ∧ b < p ∧ good p b ns ∧ Lift p ns b k.toNat ws) → R (.p (.bl t)))
inductive Ref : List D → String → Prop
  | r0 {p n u k : Int} : pr p → 0 < u → Int.gcd n u = 1 → u % p = 0 → n.natAbs < 2 ^ 200 → u ≤ 60 → Ref [.int 0, .int p, .tup [.int n, .int u], .int k] "fraction"
  | r1 {p n u : Int} : pr p → 0 < u → Int.gcd n u = 1 → u % p = 0 → n.natAbs < 2 ^ 200 → u ≤ 60 → Ref [.int 1, .int p, .tup [.int n, .int u], .non] "fraction"
  | r2 {a m : Int} : Int.gcd a m ≠ 1 → 2 ≤ m → m < 1000 → Ref [.int 2, .int a, .int m, .non] "number"
  | r3 : Ref [.int 4, .int 2, .int 3, .int 2] "number"
  | r4 {p : Int} : pr p → Ref [.int 4, .int p, .int p, .int 2] "number"
  | r5 : Ref [.int 5, .int 1, .int 2, .non] "large"
  | r6 : Ref [.int 5, .int 10, .int 6, .non] "large"
  | r7 : Ref [.int 5, .int 10, .int 0, .non] "large"
  | a0 : Ref [.int 0, .int 4, .tup [.int 1, .int 3], .int 5] "number"
  | a1 : Ref [.int 0, .int 5, .tup [.int 1, .int 3], .int 201] "large"
  | a2 : Ref [.int 0, .int 5, .tup [.int 2, .int 4], .int 5] "fraction"
  | a3 : Ref [.int 1, .int 5, .tup [.int 1, .int 2001], .non] "large"
  | a4 : Ref [.int 3, .int 5, .tup [.int 1, .int 1], .int 5] "number"
  | a5 : Ref [.int 6, .int 5, .tup [.int 0, .int 1], .non] "fraction"
def c__law_refused (A : Ad) : PCt := fun ds R RE => ∃ s, Ref ds s ∧ R (sD s)
def c__law_roots_right (A : Ad) : RCt := fun n ds R RE => gs n ∧ ∃ p, ds = [.int p] ∧ pr p ∧ ∀ n', R (.p (.bl true)) n'
def c__law_right (A : Ad) : RCt := fun n ds R RE => gs n ∧ ds = [] ∧ ∀ n', R (.p (.bl true)) n'
def c_law (A : Ad) : PCt := fun ds R RE => ∃ ns : List Int, ds = [.frl (ns.map .int)] ∧ ns.length ≤ 63 ∧ R (.p (.bl true))

def t_power_5 (K : PySem.W.Frag) (A : Ad) : DS :=
 (dRet (dVar 2))
def t_power_4 (K : PySem.W.Frag) (A : Ad) : DS :=
 (dSeq (dWhile (dTst (dBin gtA (dVar 3) (dC (.int 0))))
 (dSeq (dIfS (dTst (dBin eqq (dBin fmodq (dVar 3) (dC (.int 2))) (dC (.int 1))))
 (dSet (dBin mulq (dVar 2) (dVar 4)) (gN 2))
 dNext)
 (dSeq (dSet (dBin mulq (dVar 4) (dVar 4)) (gN 4))
 (dSet (dBin fdivq (dVar 3) (dC (.int 2))) (gN 3)))))
 (dTail (t_power_5 K A)))
def t_power_3 (K : PySem.W.Frag) (A : Ad) : DS :=
 (dSeq (dSet (dVar 0) (gN 4))
 (dTail (t_power_4 K A)))
def t_power_2 (K : PySem.W.Frag) (A : Ad) : DS :=
 (dSeq (dSet (dVar 1) (gN 3))
 (dTail (t_power_3 K A)))
def t_power_1 (K : PySem.W.Frag) (A : Ad) : DS :=
 (dSeq (dSet (dC (.int 1)) (gN 2))
 (dTail (t_power_2 K A)))
def t_power (K : PySem.W.Frag) (A : Ad) : DS :=
 (dSeq (dIfS (dTst (dBin ltA (dVar 1) (dC (.int 0))))
 (dRaise A.C_BadNumber (dCons (dC (.str (PySem.Str.ofString "power"))) dNil))
 dNext)
 (dTail (t_power_1 K A)))
def t_checked (K : PySem.W.Frag) (A : Ad) : DS :=
 (dSeq (dIfS (dTst (dBin geA (dCal absq (dCons (dVar 0) dNil)) (dC (.int 10000000000000000000000000000000000000000000000000000000000000000000000000000000000000000000000000000000000000000000000000000000000000000000000000000000000000000000000000000000000000000000000000000000000000000000000000000000000000000000000000000000000000000000000000000000000000000000000000000000000000000000000000000000000000000000000000000000000000000000000000000000000000000000000000000000000000000))))
 (dRaise A.C_TooLarge (dCons (dC (.str (PySem.Str.ofString "number"))) dNil))
 dNext)
 (dRet (dVar 0)))
def t_shared (K : PySem.W.Frag) (A : Ad) : DS :=
 (dSeq (dPar [0, 1] (dCons (dCal absq (dCons (dVar 0) dNil)) (dCons (dCal absq (dCons (dVar 1) dNil)) dNil)))
 (dSeq (dWhile (dTst (dBin neq (dVar 1) (dC (.int 0))))
 (dPar [0, 1] (dCons (dVar 1) (dCons (dBin fmodq (dVar 0) (dVar 1)) dNil))))
 (dRet (dVar 0))))
def t_fraction_3 (K : PySem.W.Frag) (A : Ad) : DS :=
 (dRet (dTup (dCons (dCallP (c_checked A) (dCons (dBin fdivq (dVar 0) (dVar 2)) dNil)) (dCons (dCallP (c_checked A) (dCons (dBin fdivq (dVar 1) (dVar 2)) dNil)) dNil))))
def t_fraction_2 (K : PySem.W.Frag) (A : Ad) : DS :=
 (dSeq (dIfS (dTst (dBin ltA (dVar 1) (dC (.int 0))))
 (dSet (dUn negq (dVar 2)) (gN 2))
 dNext)
 (dTail (t_fraction_3 K A)))
def t_fraction_1 (K : PySem.W.Frag) (A : Ad) : DS :=
 (dSeq (dSet (dCallP (c_shared A) (dCons (dVar 0) (dCons (dVar 1) dNil))) (gN 2))
 (dTail (t_fraction_2 K A)))
def t_fraction (K : PySem.W.Frag) (A : Ad) : DS :=
 (dSeq (dIfS (dTst (dBin eqq (dVar 1) (dC (.int 0))))
 (dRaise A.C_BadFraction (dCons (dC (.str (PySem.Str.ofString "under"))) dNil))
 dNext)
 (dTail (t_fraction_1 K A)))
def t_is_fraction (K : PySem.W.Frag) (A : Ad) : DS :=
 (dRet (dAndV (dBin eqq (dCal lenq (dCons (dVar 0) dNil)) (dC (.int 2))) (dAndV (dBin gtA (dBin ixq (dVar 0) (dC (.int 1))) (dC (.int 0))) (dBin eqq (dCallP (c_shared A) (dCons (dBin ixq (dVar 0) (dC (.int 0))) (dCons (dBin ixq (dVar 0) (dC (.int 1))) dNil))) (dC (.int 1))))))
def t_known (K : PySem.W.Frag) (A : Ad) : DS :=
 (dSeq (dSet (dCal tupq (dCons (dVar 0) dNil)) (gN 1))
 (dSeq (dIfS (dNot (dTru (dCallP (c_is_fraction A) (dCons (dVar 1) dNil))))
 (dRaise A.C_BadFraction (dCons (dC (.str (PySem.Str.ofString "fraction"))) dNil))
 dNext)
 (dRet (dVar 1))))
def t_prime_of (K : PySem.W.Frag) (A : Ad) : DS :=
 (dSeq (dIfS (dOr (dNot (dTst (dChain leA leA (dC (.int 2)) (dVar 0) (dC (.int 997))))) (dTru (dCal anyq (dCons (dLc (diRange2 (dC (.int 2)) (dVar 0)) (.n 1) (dTst (dBin leA (dBin mulq (dVar 1) (dVar 1)) (dVar 0))) (dBin eqq (dBin fmodq (dVar 0) (dVar 1)) (dC (.int 0))) [1]) dNil))))
 (dRaise A.C_BadNumber (dCons (dC (.str (PySem.Str.ofString "prime"))) dNil))
 dNext)
 (dRet (dVar 0)))
def t_places_of (K : PySem.W.Frag) (A : Ad) : DS :=
 (dSeq (dIfS (dNot (dTst (dChain leA leA (dC (.int 0)) (dVar 0) (dC (.int 200)))))
 (dRaise A.C_TooLarge (dCons (dC (.str (PySem.Str.ofString "places"))) dNil))
 dNext)
 (dRet (dVar 0)))
def t_back_4 (K : PySem.W.Frag) (A : Ad) : DS :=
 (dRet (dBin fmodq (dVar 4) (dVar 1)))
def t_back_3 (K : PySem.W.Frag) (A : Ad) : DS :=
 (dSeq (dIfS (dTst (dBin neq (dVar 2) (dC (.int 1))))
 (dRaise A.C_BadNumber (dCons (dC (.str (PySem.Str.ofString "shared"))) dNil))
 dNext)
 (dTail (t_back_4 K A)))
def t_back_2 (K : PySem.W.Frag) (A : Ad) : DS :=
 (dSeq (dWhile (dTst (dBin neq (dVar 3) (dC (.int 0))))
 (dSeq (dSet (dBin fdivq (dVar 2) (dVar 3)) (gN 6))
 (dSeq (dPar [2, 3] (dCons (dVar 3) (dCons (dBin subq (dVar 2) (dBin mulq (dVar 6) (dVar 3))) dNil)))
 (dPar [4, 5] (dCons (dVar 5) (dCons (dBin subq (dVar 4) (dBin mulq (dVar 6) (dVar 5))) dNil))))))
 (dTail (t_back_3 K A)))
def t_back_1 (K : PySem.W.Frag) (A : Ad) : DS :=
 (dSeq (dSet (dTup (dCons (dC (.int 0)) (dCons (dC (.int 1)) dNil))) (gT 2 (gsC (gN 4) (gsC (gN 5) gsN))))
 (dTail (t_back_2 K A)))
def t_back (K : PySem.W.Frag) (A : Ad) : DS :=
 (dSeq (dPar [2, 3] (dCons (dVar 1) (dCons (dBin fmodq (dVar 0) (dVar 1)) dNil)))
 (dTail (t_back_1 K A)))
def t_of_fraction_6 (K : PySem.W.Frag) (A : Ad) : DS :=
 (dRet (dCal tupq (dCons (dVar 7) dNil)))
def t_of_fraction_5 (K : PySem.W.Frag) (A : Ad) : DS :=
 (dSeq (dFor (diRange1 (dVar 2)) (gN 8)
 (dSeq (dDrop (dMt 7 appq (dCons (dBin fmodq (dVar 6) (dVar 0)) dNil)))
 (dSet (dBin fdivq (dVar 6) (dVar 0)) (gN 6))))
 (dTail (t_of_fraction_6 K A)))
def t_of_fraction_4 (K : PySem.W.Frag) (A : Ad) : DS :=
 (dSeq (dSet (dLst dNil) (gN 7))
 (dTail (t_of_fraction_5 K A)))
def t_of_fraction_3 (K : PySem.W.Frag) (A : Ad) : DS :=
 (dSeq (dSet (dIf (dTst (dBin gtA (dVar 5) (dC (.int 1)))) (dBin fmodq (dBin mulq (dVar 3) (dCallP (c_back A) (dCons (dVar 4) (dCons (dVar 5) dNil)))) (dVar 5)) (dC (.int 0))) (gN 6))
 (dTail (t_of_fraction_4 K A)))
def t_of_fraction_2 (K : PySem.W.Frag) (A : Ad) : DS :=
 (dSeq (dSet (dCallP (c_power A) (dCons (dVar 0) (dCons (dCallP (c_places_of A) (dCons (dVar 2) dNil)) dNil))) (gN 5))
 (dTail (t_of_fraction_3 K A)))
def t_of_fraction_1 (K : PySem.W.Frag) (A : Ad) : DS :=
 (dSeq (dIfS (dTst (dBin eqq (dBin fmodq (dVar 4) (dCallP (c_prime_of A) (dCons (dVar 0) dNil))) (dC (.int 0))))
 (dRaise A.C_BadFraction (dCons (dC (.str (PySem.Str.ofString "bottom"))) dNil))
 dNext)
 (dTail (t_of_fraction_2 K A)))
def t_of_fraction (K : PySem.W.Frag) (A : Ad) : DS :=
 (dSeq (dSet (dCallP (c_known A) (dCons (dVar 1) dNil)) (gT 2 (gsC (gN 3) (gsC (gN 4) gsN))))
 (dTail (t_of_fraction_1 K A)))
def t_going_round_8 (K : PySem.W.Frag) (A : Ad) : DS :=
 (dRet (dTup (dCons (dCal tupq (dCons (dSl (dVar 6) dNoPart (dPart (dDGet 5 (dVar 7)))) dNil)) (dCons (dCal tupq (dCons (dSl (dVar 6) (dPart (dDGet 5 (dVar 7))) dNoPart) dNil)) dNil))))
def t_going_round_7 (K : PySem.W.Frag) (A : Ad) : DS :=
 (dSeq (dWhile (dTst (dDNin 5 (dVar 7)))
 (dSeq (dDPut 5 (dVar 7) (dCal lenq (dCons (dVar 6) dNil)))
 (dSeq (dSet (dBin fmodq (dBin mulq (dVar 7) (dVar 4)) (dVar 0)) (gN 8))
 (dSeq (dDrop (dMt 6 appq (dCons (dVar 8) dNil)))
 (dSet (dBin fdivq (dBin subq (dVar 7) (dBin mulq (dVar 8) (dVar 3))) (dVar 0)) (gN 7))))))
 (dTail (t_going_round_8 K A)))
def t_going_round_6 (K : PySem.W.Frag) (A : Ad) : DS :=
 (dSeq (dSet (dVar 2) (gN 7))
 (dTail (t_going_round_7 K A)))
def t_going_round_5 (K : PySem.W.Frag) (A : Ad) : DS :=
 (dSeq (dSet (dLst dNil) (gN 6))
 (dTail (t_going_round_6 K A)))
def t_going_round_4 (K : PySem.W.Frag) (A : Ad) : DS :=
 (dSeq (dNewD 5)
 (dTail (t_going_round_5 K A)))
def t_going_round_3 (K : PySem.W.Frag) (A : Ad) : DS :=
 (dSeq (dSet (dIf (dTst (dBin gtA (dVar 3) (dC (.int 1)))) (dCallP (c_back A) (dCons (dVar 3) (dCons (dVar 0) dNil))) (dC (.int 1))) (gN 4))
 (dTail (t_going_round_4 K A)))
def t_going_round_2 (K : PySem.W.Frag) (A : Ad) : DS :=
 (dSeq (dIfS (dTst (dBin gtA (dVar 3) (dC (.int 2000))))
 (dRaise A.C_TooLarge (dCons (dC (.str (PySem.Str.ofString "bottom"))) dNil))
 dNext)
 (dTail (t_going_round_3 K A)))
def t_going_round_1 (K : PySem.W.Frag) (A : Ad) : DS :=
 (dSeq (dIfS (dTst (dBin eqq (dBin fmodq (dVar 3) (dCallP (c_prime_of A) (dCons (dVar 0) dNil))) (dC (.int 0))))
 (dRaise A.C_BadFraction (dCons (dC (.str (PySem.Str.ofString "bottom"))) dNil))
 dNext)
 (dTail (t_going_round_2 K A)))
def t_going_round (K : PySem.W.Frag) (A : Ad) : DS :=
 (dSeq (dSet (dCallP (c_known A) (dCons (dVar 1) dNil)) (gT 2 (gsC (gN 2) (gsC (gN 3) gsN))))
 (dTail (t_going_round_1 K A)))
def t_value_of_5 (K : PySem.W.Frag) (A : Ad) : DS :=
 (dRet (dCallP (c_fraction A) (dCons (dBin addq (dBin mulq (dVar 3) (dVar 6)) (dBin mulq (dVar 4) (dVar 5))) (dCons (dVar 6) dNil))))
def t_value_of_4 (K : PySem.W.Frag) (A : Ad) : DS :=
 (dSeq (dSet (dBin subq (dC (.int 1)) (dCallP (c_power A) (dCons (dVar 0) (dCons (dCal lenq (dCons (dVar 2) dNil)) dNil)))) (gN 6))
 (dTail (t_value_of_5 K A)))
def t_value_of_3 (K : PySem.W.Frag) (A : Ad) : DS :=
 (dSeq (dSet (dCallP (c_power A) (dCons (dCallP (c_prime_of A) (dCons (dVar 0) dNil)) (dCons (dCal lenq (dCons (dVar 1) dNil)) dNil))) (gN 5))
 (dTail (t_value_of_4 K A)))
def t_value_of_2 (K : PySem.W.Frag) (A : Ad) : DS :=
 (dSeq (dSet (dCal sumq (dCons (dLc (diEnum (dCons (dVar 2) dNil)) (.t [7, 8]) dYes (dBin mulq (dVar 8) (dCallP (c_power A) (dCons (dVar 0) (dCons (dVar 7) dNil)))) [7, 8]) dNil)) (gN 4))
 (dTail (t_value_of_3 K A)))
def t_value_of_1 (K : PySem.W.Frag) (A : Ad) : DS :=
 (dSeq (dSet (dCal sumq (dCons (dLc (diEnum (dCons (dVar 1) dNil)) (.t [7, 8]) dYes (dBin mulq (dVar 8) (dCallP (c_power A) (dCons (dVar 0) (dCons (dVar 7) dNil)))) [7, 8]) dNil)) (gN 3))
 (dTail (t_value_of_2 K A)))
def t_value_of (K : PySem.W.Frag) (A : Ad) : DS :=
 (dSeq (dIfS (dNot (dTru (dVar 2)))
 (dRaise A.C_BadNumber (dCons (dC (.str (PySem.Str.ofString "round"))) dNil))
 dNext)
 (dTail (t_value_of_1 K A)))
def t_often_5 (K : PySem.W.Frag) (A : Ad) : DS :=
 (dRet (dVar 4))
def t_often_4 (K : PySem.W.Frag) (A : Ad) : DS :=
 (dSeq (dWhile (dTst (dBin eqq (dBin fmodq (dVar 3) (dVar 0)) (dC (.int 0))))
 (dSeq (dSet (dBin fdivq (dVar 3) (dVar 0)) (gN 3))
 (dSet (dBin subq (dVar 4) (dC (.int 1))) (gN 4))))
 (dTail (t_often_5 K A)))
def t_often_3 (K : PySem.W.Frag) (A : Ad) : DS :=
 (dSeq (dWhile (dTst (dBin eqq (dBin fmodq (dVar 2) (dCallP (c_prime_of A) (dCons (dVar 0) dNil))) (dC (.int 0))))
 (dSeq (dSet (dBin fdivq (dVar 2) (dVar 0)) (gN 2))
 (dSet (dBin addq (dVar 4) (dC (.int 1))) (gN 4))))
 (dTail (t_often_4 K A)))
def t_often_2 (K : PySem.W.Frag) (A : Ad) : DS :=
 (dSeq (dSet (dC (.int 0)) (gN 4))
 (dTail (t_often_3 K A)))
def t_often_1 (K : PySem.W.Frag) (A : Ad) : DS :=
 (dSeq (dIfS (dTst (dBin eqq (dVar 2) (dC (.int 0))))
 (dRaise A.C_BadFraction (dCons (dC (.str (PySem.Str.ofString "zero"))) dNil))
 dNext)
 (dTail (t_often_2 K A)))
def t_often (K : PySem.W.Frag) (A : Ad) : DS :=
 (dSeq (dSet (dCallP (c_known A) (dCons (dVar 1) dNil)) (gT 2 (gsC (gN 2) (gsC (gN 3) gsN))))
 (dTail (t_often_1 K A)))
def t_polynomial_at (K : PySem.W.Frag) (A : Ad) : DS :=
 (dSeq (dSet (dC (.int 0)) (gN 2))
 (dSeq (dFor (diRev (dVar 0)) (gN 3)
 (dSet (dBin addq (dBin mulq (dVar 2) (dVar 1)) (dVar 3)) (gN 2)))
 (dRet (dVar 2))))
def t_slope (K : PySem.W.Frag) (A : Ad) : DS :=
 (dRet (dSl (dCal tupq (dCons (dLc (diEnum (dCons (dVar 0) dNil)) (.t [1, 2]) dYes (dBin mulq (dVar 1) (dVar 2)) [1, 2]) dNil)) (dPart (dC (.int 1))) dNoPart))
def t_lifted_8 (K : PySem.W.Frag) (A : Ad) : DS :=
 (dRet (dTup (dCons (dC (.str (PySem.Str.ofString "root"))) (dCons (dVar 2) (dCons (dCal tupq (dCons (dSl (dVar 5) dNoPart (dPart (dVar 3))) dNil)) dNil)))))
def t_lifted_7 (K : PySem.W.Frag) (A : Ad) : DS :=
 (dSeq (dFor (diRange1 (dBin subq (dCallP (c_places_of A) (dCons (dVar 3) dNil)) (dC (.int 1)))) (gN 8)
 (dSeq (dSet (dBin fmodq (dBin mulq (dUn negq (dBin fdivq (dCallP (c_polynomial_at A) (dCons (dVar 1) (dCons (dVar 4) dNil))) (dVar 6))) (dVar 7)) (dVar 0)) (gN 9))
 (dSeq (dSet (dBin addq (dVar 4) (dBin mulq (dVar 9) (dVar 6))) (gN 4))
 (dSeq (dSet (dBin mulq (dVar 6) (dVar 0)) (gN 6))
 (dDrop (dMt 5 appq (dCons (dVar 9) dNil)))))))
 (dTail (t_lifted_8 K A)))
def t_lifted_6 (K : PySem.W.Frag) (A : Ad) : DS :=
 (dSeq (dSet (dCallP (c_back A) (dCons (dCallP (c_polynomial_at A) (dCons (dCallP (c_slope A) (dCons (dVar 1) dNil)) (dCons (dVar 2) dNil))) (dCons (dVar 0) dNil))) (gN 7))
 (dTail (t_lifted_7 K A)))
def t_lifted_5 (K : PySem.W.Frag) (A : Ad) : DS :=
 (dSeq (dSet (dVar 0) (gN 6))
 (dTail (t_lifted_6 K A)))
def t_lifted_4 (K : PySem.W.Frag) (A : Ad) : DS :=
 (dSeq (dSet (dLst (dCons (dVar 2) dNil)) (gN 5))
 (dTail (t_lifted_5 K A)))
def t_lifted_3 (K : PySem.W.Frag) (A : Ad) : DS :=
 (dSeq (dSet (dVar 2) (gN 4))
 (dTail (t_lifted_4 K A)))
def t_lifted_2 (K : PySem.W.Frag) (A : Ad) : DS :=
 (dSeq (dIfS (dOr (dTst (dBin neq (dBin fmodq (dCallP (c_polynomial_at A) (dCons (dVar 1) (dCons (dVar 2) dNil))) (dVar 0)) (dC (.int 0)))) (dTst (dBin eqq (dBin fmodq (dCallP (c_polynomial_at A) (dCons (dCallP (c_slope A) (dCons (dVar 1) dNil)) (dCons (dVar 2) dNil))) (dVar 0)) (dC (.int 0)))))
 (dRet (dTup (dCons (dC (.str (PySem.Str.ofString "rootless"))) (dCons (dVar 2) dNil))))
 dNext)
 (dTail (t_lifted_3 K A)))
def t_lifted_1 (K : PySem.W.Frag) (A : Ad) : DS :=
 (dSeq (dIfS (dNot (dTst (dChain leA ltA (dC (.int 0)) (dVar 2) (dVar 0))))
 (dRaise A.C_BadNumber (dCons (dC (.str (PySem.Str.ofString "begin"))) dNil))
 dNext)
 (dTail (t_lifted_2 K A)))
def t_lifted (K : PySem.W.Frag) (A : Ad) : DS :=
 (dSeq (dDrop (dCallP (c_prime_of A) (dCons (dVar 0) dNil)))
 (dTail (t_lifted_1 K A)))
def t_lifted_right_7 (K : PySem.W.Frag) (A : Ad) : DS :=
 (dRet (dOrV (dBin eqq (dVar 2) (dC (.int 0))) (dBin eqq (dBin fmodq (dCallP (c_polynomial_at A) (dCons (dVar 1) (dCons (dVar 7) dNil))) (dCallP (c_power A) (dCons (dVar 0) (dCons (dVar 2) dNil)))) (dC (.int 0)))))
def t_lifted_right_6 (K : PySem.W.Frag) (A : Ad) : DS :=
 (dSeq (dSet (dCal sumq (dCons (dLc (diEnum (dCons (dVar 6) dNil)) (.t [9, 8]) dYes (dBin mulq (dVar 8) (dCallP (c_power A) (dCons (dVar 0) (dCons (dVar 9) dNil)))) [9, 8]) dNil)) (gN 7))
 (dTail (t_lifted_right_7 K A)))
def t_lifted_right_5 (K : PySem.W.Frag) (A : Ad) : DS :=
 (dSeq (dIfS (dOr (dNot (dTru (dVar 5))) (dOr (dTst (dBin neq (dCal lenq (dCons (dVar 6) dNil)) (dVar 2))) (dOr (dTru (dCal anyq (dCons (dLc (diVal (dVar 6)) (.n 8) dYes (dNotV (dChain leA ltA (dC (.int 0)) (dVar 8) (dVar 0))) [8]) dNil))) (dAnd (dTru (dVar 6)) (dTst (dBin neq (dBin ixq (dVar 6) (dC (.int 0))) (dVar 4)))))))
 (dRet (dC (.bl false)))
 dNext)
 (dTail (t_lifted_right_6 K A)))
def t_lifted_right_4 (K : PySem.W.Frag) (A : Ad) : DS :=
 (dSeq (dSet (dBin ixq (dVar 3) (dC (.int 2))) (gN 6))
 (dTail (t_lifted_right_5 K A)))
def t_lifted_right_3 (K : PySem.W.Frag) (A : Ad) : DS :=
 (dSeq (dIfS (dTst (dBin eqq (dBin ixq (dVar 3) (dC (.int 0))) (dC (.str (PySem.Str.ofString "rootless")))))
 (dRet (dNotV (dVar 5)))
 dNext)
 (dTail (t_lifted_right_4 K A)))
def t_lifted_right_2 (K : PySem.W.Frag) (A : Ad) : DS :=
 (dSeq (dSet (dAndV (dBin eqq (dBin fmodq (dCallP (c_polynomial_at A) (dCons (dVar 1) (dCons (dVar 4) dNil))) (dVar 0)) (dC (.int 0))) (dBin neq (dBin fmodq (dCallP (c_polynomial_at A) (dCons (dCallP (c_slope A) (dCons (dVar 1) dNil)) (dCons (dVar 4) dNil))) (dVar 0)) (dC (.int 0)))) (gN 5))
 (dTail (t_lifted_right_3 K A)))
def t_lifted_right_1 (K : PySem.W.Frag) (A : Ad) : DS :=
 (dSeq (dIfS (dNot (dTst (dChain leA ltA (dC (.int 0)) (dVar 4) (dVar 0))))
 (dRet (dC (.bl false)))
 dNext)
 (dTail (t_lifted_right_2 K A)))
def t_lifted_right (K : PySem.W.Frag) (A : Ad) : DS :=
 (dSeq (dSet (dBin ixq (dVar 3) (dC (.int 1))) (gN 4))
 (dTail (t_lifted_right_1 K A)))
def t_square_roots_3 (K : PySem.W.Frag) (A : Ad) : DS :=
 (dRet (dCal tupq (dCons (dVar 3) dNil)))
def t_square_roots_2 (K : PySem.W.Frag) (A : Ad) : DS :=
 (dSeq (dFor (diRange1 (dVar 0)) (gN 4)
 (dIfS (dTst (dBin eqq (dBin fmodq (dBin subq (dBin mulq (dVar 4) (dVar 4)) (dVar 1)) (dVar 0)) (dC (.int 0))))
 (dDrop (dMt 3 appq (dCons (dBin ixq (dCallP (c_lifted A) (dCons (dVar 0) (dCons (dTup (dCons (dUn negq (dVar 1)) (dCons (dC (.int 0)) (dCons (dC (.int 1)) dNil)))) (dCons (dVar 4) (dCons (dVar 2) dNil))))) (dC (.int 2))) dNil)))
 dNext))
 (dTail (t_square_roots_3 K A)))
def t_square_roots_1 (K : PySem.W.Frag) (A : Ad) : DS :=
 (dSeq (dSet (dLst dNil) (gN 3))
 (dTail (t_square_roots_2 K A)))
def t_square_roots (K : PySem.W.Frag) (A : Ad) : DS :=
 (dSeq (dIfS (dOr (dTst (dBin eqq (dCallP (c_prime_of A) (dCons (dVar 0) dNil)) (dC (.int 2)))) (dTst (dBin neq (dCallP (c_shared A) (dCons (dVar 1) (dCons (dVar 0) dNil))) (dC (.int 1)))))
 (dRaise A.C_BadNumber (dCons (dC (.str (PySem.Str.ofString "number"))) dNil))
 dNext)
 (dTail (t_square_roots_1 K A)))
def t_added_3 (K : PySem.W.Frag) (A : Ad) : DS :=
 (dRet (dCal tupq (dCons (dVar 4) dNil)))
def t_added_2 (K : PySem.W.Frag) (A : Ad) : DS :=
 (dSeq (dFor (diZip (dCons (dVar 1) (dCons (dVar 2) dNil))) (gT 2 (gsC (gN 5) (gsC (gN 6) gsN)))
 (dSeq (dSet (dBin addq (dBin addq (dVar 5) (dVar 6)) (dVar 3)) (gN 7))
 (dSeq (dDrop (dMt 4 appq (dCons (dBin fmodq (dVar 7) (dCallP (c_prime_of A) (dCons (dVar 0) dNil))) dNil)))
 (dSet (dBin fdivq (dVar 7) (dVar 0)) (gN 3)))))
 (dTail (t_added_3 K A)))
def t_added_1 (K : PySem.W.Frag) (A : Ad) : DS :=
 (dSeq (dSet (dLst dNil) (gN 4))
 (dTail (t_added_2 K A)))
def t_added (K : PySem.W.Frag) (A : Ad) : DS :=
 (dSeq (dSet (dC (.int 0)) (gN 3))
 (dTail (t_added_1 K A)))
def t_product_5 (K : PySem.W.Frag) (A : Ad) : DS :=
 (dRet (dCal tupq (dCons (dVar 5) dNil)))
def t_product_4 (K : PySem.W.Frag) (A : Ad) : DS :=
 (dSeq (dFor (diRange1 (dVar 3)) (gN 6)
 (dSeq (dDrop (dMt 5 appq (dCons (dBin fmodq (dVar 4) (dVar 0)) dNil)))
 (dSet (dBin fdivq (dVar 4) (dVar 0)) (gN 4))))
 (dTail (t_product_5 K A)))
def t_product_3 (K : PySem.W.Frag) (A : Ad) : DS :=
 (dSeq (dSet (dLst dNil) (gN 5))
 (dTail (t_product_4 K A)))
def t_product_2 (K : PySem.W.Frag) (A : Ad) : DS :=
 (dSeq (dSet (dBin mulq (dVar 4) (dCal sumq (dCons (dLc (diEnum (dCons (dSl (dVar 2) dNoPart (dPart (dVar 3))) dNil)) (.t [7, 9]) dYes (dBin mulq (dVar 9) (dCallP (c_power A) (dCons (dVar 0) (dCons (dVar 7) dNil)))) [7, 9]) dNil))) (gN 4))
 (dTail (t_product_3 K A)))
def t_product_1 (K : PySem.W.Frag) (A : Ad) : DS :=
 (dSeq (dSet (dCal sumq (dCons (dLc (diEnum (dCons (dSl (dVar 1) dNoPart (dPart (dVar 3))) dNil)) (.t [7, 8]) dYes (dBin mulq (dVar 8) (dCallP (c_power A) (dCons (dCallP (c_prime_of A) (dCons (dVar 0) dNil)) (dCons (dVar 7) dNil)))) [7, 8]) dNil)) (gN 4))
 (dTail (t_product_2 K A)))
def t_product (K : PySem.W.Frag) (A : Ad) : DS :=
 (dSeq (dSet (dCal min2q (dCons (dCal lenq (dCons (dVar 1) dNil)) (dCons (dCal lenq (dCons (dVar 2) dNil)) dNil))) (gN 3))
 (dTail (t_product_1 K A)))
def t_own_squares (K : PySem.W.Frag) (A : Ad) : DS :=
 (dSeq (dIfS (dOr (dTst (dBin ltA (dVar 0) (dC (.int 2)))) (dOr (dNot (dTst (dBin leA (dC (.int 1)) (dVar 1)))) (dTst (dBin gtA (dCallP (c_power A) (dCons (dVar 0) (dCons (dVar 1) dNil))) (dC (.int 100000))))))
 (dRaise A.C_TooLarge (dCons (dC (.str (PySem.Str.ofString "places"))) dNil))
 dNext)
 (dSeq (dSet (dCallP (c_power A) (dCons (dVar 0) (dCons (dVar 1) dNil))) (gN 2))
 (dRet (dCal tupq (dCons (dLc (diRange1 (dVar 2)) (.n 3) (dTst (dBin eqq (dBin fmodq (dBin subq (dBin mulq (dVar 3) (dVar 3)) (dVar 3)) (dVar 2)) (dC (.int 0)))) (dVar 3) [3]) dNil)))))
def t__law_cell (K : PySem.W.Frag) (A : Ad) : DS :=
 (dSeq (dIfS (dTst (dBin ltA (dVar 1) (dCal lenq (dCons (dVar 0) dNil))))
 (dRet (dBin ixq (dVar 0) (dVar 1)))
 dNext)
 (dRet (dC (.int 0))))
def t__law_source (K : PySem.W.Frag) (A : Ad) : DS :=
 (dSeq (dIfS (dTst (dBin geA (dVar 0) (dBin powq (dC (.int 10)) (dC (.int 18)))))
 (dRet (dLst (dCons (dBin subq (dVar 0) (dBin powq (dC (.int 10)) (dC (.int 18)))) (dCons (dBin addq (dVar 1) (dC (.int 1))) dNil))))
 dNext)
 (dRet (dLst (dCons (dC (.int 0)) (dCons (dBin fmodq (dCal intq (dCons (dBin addq (dBin addq (dBin mulq (dVar 0) (dC (.int 7919))) (dBin mulq (dVar 1) (dC (.int 104729)))) (dC (.int 1))) dNil)) (dC (.int 2147483647))) dNil)))))
def t__law_pick_3 (K : PySem.W.Frag) (A : Ad) : DS :=
 (dRet (dBin fmodq (dCal intq (dCons (dBin fdivq (dVar 3) (dC (.int 16))) dNil)) (dVar 1)))
def t__law_pick_2 (K : PySem.W.Frag) (A : Ad) : DS :=
 (dSeq (dSet (dBin fmodq (dCal intq (dCons (dBin addq (dBin addq (dBin mulq (dBin ixq (dVar 0) (dC (.int 1))) (dC (.int 69621))) (dBin fdivq (dBin ixq (dVar 0) (dC (.int 1))) (dC (.int 127)))) (dC (.int 7))) dNil)) (dC (.int 2147483629))) (gN 3))
 (dTail (t__law_pick_3 K A)))
def t__law_pick_1 (K : PySem.W.Frag) (A : Ad) : DS :=
 (dSeq (dSet (dBin fmodq (dCal intq (dCons (dBin addq (dBin mulq (dBin ixq (dVar 0) (dC (.int 1))) (dC (.int 48271))) (dC (.int 12345))) dNil)) (dC (.int 2147483647))) (gSub (dVar 0) (dC (.int 1))))
 (dTail (t__law_pick_2 K A)))
def t__law_pick (K : PySem.W.Frag) (A : Ad) : DS :=
 (dSeq (dIfS (dTst (dBin gtA (dBin ixq (dVar 0) (dC (.int 0))) (dC (.int 1))))
 (dSeq (dSet (dBin fmodq (dCal intq (dCons (dBin ixq (dVar 0) (dC (.int 0))) dNil)) (dVar 1)) (gN 2))
 (dSeq (dSet (dBin fdivq (dBin ixq (dVar 0) (dC (.int 0))) (dVar 1)) (gSub (dVar 0) (dC (.int 0))))
 (dRet (dVar 2))))
 dNext)
 (dTail (t__law_pick_1 K A)))
def t__law_great_5 (K : PySem.W.Frag) (A : Ad) : DS :=
 (dRet (dVar 2))
def t__law_great_4 (K : PySem.W.Frag) (A : Ad) : DS :=
 (dSeq (dFor (diRange1 (dBin addq (dC (.int 1)) (dCallR (c__law_pick A) (dCons (dVar 0) (dCons (dC (.int 6)) dNil))))) (gN 3)
 (dSet (dBin addq (dBin mulq (dVar 2) (dC (.int 100000007))) (dCallR (c__law_pick A) (dCons (dVar 0) (dCons (dC (.int 100000007)) dNil)))) (gN 2)))
 (dTail (t__law_great_5 K A)))
def t__law_great_3 (K : PySem.W.Frag) (A : Ad) : DS :=
 (dSeq (dSet (dC (.int 0)) (gN 2))
 (dTail (t__law_great_4 K A)))
def t__law_great_2 (K : PySem.W.Frag) (A : Ad) : DS :=
 (dSeq (dIfS (dTst (dBin eqq (dVar 1) (dC (.int 1))))
 (dRet (dCallR (c__law_pick A) (dCons (dVar 0) (dCons (dC (.int 100000)) dNil))))
 dNext)
 (dTail (t__law_great_3 K A)))
def t__law_great_1 (K : PySem.W.Frag) (A : Ad) : DS :=
 (dSeq (dIfS (dTst (dBin eqq (dVar 1) (dC (.int 0))))
 (dRet (dCallR (c__law_pick A) (dCons (dVar 0) (dCons (dC (.int 30)) dNil))))
 dNext)
 (dTail (t__law_great_2 K A)))
def t__law_great (K : PySem.W.Frag) (A : Ad) : DS :=
 (dSeq (dSet (dCallR (c__law_pick A) (dCons (dVar 0) (dCons (dC (.int 4)) dNil))) (gN 1))
 (dTail (t__law_great_1 K A)))
def t__law_gcd (K : PySem.W.Frag) (A : Ad) : DS :=
 (dSeq (dPar [0, 1] (dCons (dCal absq (dCons (dVar 0) dNil)) (dCons (dCal absq (dCons (dVar 1) dNil)) dNil)))
 (dSeq (dFor (diRange1 (dC (.int 20000))) (gN 2)
 (dSeq (dIfS (dTst (dBin eqq (dVar 1) (dC (.int 0))))
 (dRet (dVar 0))
 dNext)
 (dPar [0, 1] (dCons (dVar 1) (dCons (dBin fmodq (dCal intq (dCons (dVar 0) dNil)) (dVar 1)) dNil)))))
 (dRet (dVar 0))))
def t__law_changed (K : PySem.W.Frag) (A : Ad) (IHc : PCt) : DS :=
 (dSeq (dIfS (dTru (dIsi "tuple" (dVar 0)))
 (dSeq (dSet (dLst dNil) (gN 3))
 (dSeq (dSet (dC (.int 0)) (gN 4))
 (dSeq (dFor (diVal (dVar 0)) (gN 5)
 (dSeq (dSet (dCallP IHc (dCons (dVar 5) (dCons (dBin subq (dVar 1) (dVar 4)) (dCons (dVar 2) dNil)))) (gT 2 (gsC (gN 6) (gsC (gN 7) gsN))))
 (dSeq (dDrop (dMt 3 appq (dCons (dVar 6) dNil)))
 (dSet (dBin addq (dVar 4) (dVar 7)) (gN 4)))))
 (dRet (dTup (dCons (dCal tupq (dCons (dVar 3) dNil)) (dCons (dVar 4) dNil)))))))
 dNext)
 (dSeq (dIfS (dOr (dNot (dTru (dIsi "int" (dVar 0)))) (dTst (dBin neq (dVar 1) (dC (.int 0)))))
 (dRet (dTup (dCons (dVar 0) (dCons (dCal intq (dCons (dIsi "int" (dVar 0)) dNil)) dNil))))
 dNext)
 (dRet (dTup (dCons (dBin addq (dVar 0) (dVar 2)) (dCons (dC (.int 1)) dNil))))))
def t__law_cut_6 (K : PySem.W.Frag) (A : Ad) (IHc : PCt) : DS :=
 (dRet (dTup (dCons (dCal tupq (dCons (dVar 3) dNil)) (dCons (dVar 4) dNil))))
def t__law_cut_5 (K : PySem.W.Frag) (A : Ad) (IHc : PCt) : DS :=
 (dSeq (dFor (diVal (dVar 0)) (gN 5)
 (dSeq (dSet (dCallP IHc (dCons (dVar 5) (dCons (dBin subq (dVar 1) (dVar 4)) dNil))) (gT 2 (gsC (gN 6) (gsC (gN 7) gsN))))
 (dSeq (dDrop (dMt 3 appq (dCons (dVar 6) dNil)))
 (dSet (dBin addq (dVar 4) (dVar 7)) (gN 4)))))
 (dTail (t__law_cut_6 K A IHc)))
def t__law_cut_4 (K : PySem.W.Frag) (A : Ad) (IHc : PCt) : DS :=
 (dSeq (dSet (dC (.int 0)) (gN 4))
 (dTail (t__law_cut_5 K A IHc)))
def t__law_cut_3 (K : PySem.W.Frag) (A : Ad) (IHc : PCt) : DS :=
 (dSeq (dSet (dLst dNil) (gN 3))
 (dTail (t__law_cut_4 K A IHc)))
def t__law_cut_2 (K : PySem.W.Frag) (A : Ad) (IHc : PCt) : DS :=
 (dSeq (dIfS (dTst (dBin eqq (dVar 2) (dLst dNil)))
 (dRet (dTup (dCons (dBin ixq (dLst (dCons (dVar 0) (dCons (dSl (dVar 0) dNoPart (dPart (dUn negq (dC (.int 1))))) dNil))) (dCal intq (dCons (dBin eqq (dVar 1) (dC (.int 0))) dNil))) (dCons (dC (.int 1)) dNil))))
 dNext)
 (dTail (t__law_cut_3 K A IHc)))
def t__law_cut_1 (K : PySem.W.Frag) (A : Ad) (IHc : PCt) : DS :=
 (dSeq (dSet (dLc (diVal (dVar 0)) (.n 5) (dOr (dTru (dIsi "tuple" (dVar 5))) (dTru (dIsi "str" (dVar 5)))) (dVar 5) [5]) (gN 2))
 (dTail (t__law_cut_2 K A IHc)))
def t__law_cut (K : PySem.W.Frag) (A : Ad) (IHc : PCt) : DS :=
 (dSeq (dIfS (dNot (dTru (dIsi "tuple" (dVar 0))))
 (dRet (dTup (dCons (dVar 0) (dCons (dC (.int 0)) dNil))))
 dNext)
 (dTail (t__law_cut_1 K A IHc)))
def t__law_bent_5 (K : PySem.W.Frag) (A : Ad) : DS :=
 (dRet (dVar 2))
def t__law_bent_4 (K : PySem.W.Frag) (A : Ad) : DS :=
 (dSeq (dFor (diRange1 (dC (.int 2))) (gN 6)
 (dIfS (dTst (dBin gtA (dVar 4) (dC (.int 0))))
 (dDrop (dMt 2 appq (dCons (dBin ixq (dCallP (c__law_cut A) (dCons (dVar 1) (dCons (dCallR (c__law_pick A) (dCons (dVar 0) (dCons (dVar 4) dNil))) dNil))) (dC (.int 0))) dNil)))
 dNext))
 (dTail (t__law_bent_5 K A)))
def t__law_bent_3 (K : PySem.W.Frag) (A : Ad) : DS :=
 (dSeq (dFor (diVal (dLst (dCons (dC (.int 1)) (dCons (dBin subq (dC (.int 0)) (dC (.int 1))) (dCons (dC (.int 2)) (dCons (dBin subq (dC (.int 0)) (dC (.int 3))) (dCons (dC (.int 1)) (dCons (dBin subq (dC (.int 0)) (dC (.int 1))) dNil)))))))) (gN 5)
 (dIfS (dTst (dBin gtA (dVar 3) (dC (.int 0))))
 (dDrop (dMt 2 appq (dCons (dBin ixq (dCallP (c__law_changed A) (dCons (dVar 1) (dCons (dCallR (c__law_pick A) (dCons (dVar 0) (dCons (dVar 3) dNil))) (dCons (dVar 5) dNil)))) (dC (.int 0))) dNil)))
 dNext))
 (dTail (t__law_bent_4 K A)))
def t__law_bent_2 (K : PySem.W.Frag) (A : Ad) : DS :=
 (dSeq (dSet (dBin ixq (dCallP (c__law_cut A) (dCons (dVar 1) (dCons (dBin subq (dC (.int 0)) (dC (.int 1))) dNil))) (dC (.int 1))) (gN 4))
 (dTail (t__law_bent_3 K A)))
def t__law_bent_1 (K : PySem.W.Frag) (A : Ad) : DS :=
 (dSeq (dSet (dBin ixq (dCallP (c__law_changed A) (dCons (dVar 1) (dCons (dBin subq (dC (.int 0)) (dC (.int 1))) (dCons (dC (.int 0)) dNil)))) (dC (.int 1))) (gN 3))
 (dTail (t__law_bent_2 K A)))
def t__law_bent (K : PySem.W.Frag) (A : Ad) : DS :=
 (dSeq (dSet (dLst (dCons (dVar 1) dNil)) (gN 2))
 (dTail (t__law_bent_1 K A)))
def t__law_power (K : PySem.W.Frag) (A : Ad) : DS :=
 (dSeq (dSet (dC (.int 1)) (gN 2))
 (dSeq (dFor (diRange1 (dVar 1)) (gN 3)
 (dSet (dBin mulq (dVar 2) (dVar 0)) (gN 2)))
 (dRet (dVar 2))))
def t__law_value (K : PySem.W.Frag) (A : Ad) : DS :=
 (dSeq (dSet (dC (.int 0)) (gN 2))
 (dSeq (dFor (diRev (dVar 1)) (gN 3)
 (dSet (dBin addq (dBin mulq (dVar 2) (dVar 0)) (dVar 3)) (gN 2)))
 (dRet (dVar 2))))
def t__law_at_3 (K : PySem.W.Frag) (A : Ad) : DS :=
 (dRet (dVar 2))
def t__law_at_2 (K : PySem.W.Frag) (A : Ad) : DS :=
 (dSeq (dFor (diVal (dVar 0)) (gN 4)
 (dSeq (dSet (dBin addq (dVar 2) (dBin mulq (dVar 4) (dVar 3))) (gN 2))
 (dSet (dBin mulq (dVar 3) (dVar 1)) (gN 3))))
 (dTail (t__law_at_3 K A)))
def t__law_at_1 (K : PySem.W.Frag) (A : Ad) : DS :=
 (dSeq (dSet (dC (.int 1)) (gN 3))
 (dTail (t__law_at_2 K A)))
def t__law_at (K : PySem.W.Frag) (A : Ad) : DS :=
 (dSeq (dSet (dC (.int 0)) (gN 2))
 (dTail (t__law_at_1 K A)))
def t__law_slope (K : PySem.W.Frag) (A : Ad) : DS :=
 (dRet (dCal tupq (dCons (dLc (diRange2 (dC (.int 1)) (dCal lenq (dCons (dVar 0) dNil))) (.n 1) dYes (dBin mulq (dVar 1) (dBin ixq (dVar 0) (dVar 1))) [1]) dNil)))
def t__law_due_5 (K : PySem.W.Frag) (A : Ad) : DS :=
 (dRet (dBin eqq (dBin fmodq (dCal intq (dCons (dCallP (c__law_at A) (dCons (dVar 1) (dCons (dCallP (c__law_value A) (dCons (dVar 0) (dCons (dVar 6) dNil))) dNil))) dNil)) (dCallP (c__law_power A) (dCons (dVar 0) (dCons (dVar 2) dNil)))) (dC (.int 0))))
def t__law_due_4 (K : PySem.W.Frag) (A : Ad) : DS :=
 (dSeq (dIfS (dOr (dNot (dTru (dVar 5))) (dOr (dTst (dBin neq (dCal lenq (dCons (dVar 6) dNil)) (dVar 2))) (dOr (dTst (dBin neq (dLc (diVal (dVar 6)) (.n 7) (dNot (dTst (dChain leA ltA (dC (.int 0)) (dVar 7) (dVar 0)))) (dVar 7) [7]) (dLst dNil))) (dAnd (dTst (dBin neq (dVar 6) (dTup dNil))) (dTst (dBin neq (dBin ixq (dVar 6) (dC (.int 0))) (dVar 4)))))))
 (dRet (dC (.bl false)))
 dNext)
 (dTail (t__law_due_5 K A)))
def t__law_due_3 (K : PySem.W.Frag) (A : Ad) : DS :=
 (dSeq (dSet (dBin ixq (dVar 3) (dC (.int 2))) (gN 6))
 (dTail (t__law_due_4 K A)))
def t__law_due_2 (K : PySem.W.Frag) (A : Ad) : DS :=
 (dSeq (dIfS (dTst (dBin eqq (dBin ixq (dVar 3) (dC (.int 0))) (dC (.str (PySem.Str.ofString "rootless")))))
 (dRet (dAndV (dChain leA ltA (dC (.int 0)) (dVar 4) (dVar 0)) (dNotV (dVar 5))))
 dNext)
 (dTail (t__law_due_3 K A)))
def t__law_due_1 (K : PySem.W.Frag) (A : Ad) : DS :=
 (dSeq (dSet (dAndV (dChain leA ltA (dC (.int 0)) (dVar 4) (dVar 0)) (dAndV (dBin eqq (dBin fmodq (dCal intq (dCons (dCallP (c__law_at A) (dCons (dVar 1) (dCons (dVar 4) dNil))) dNil)) (dVar 0)) (dC (.int 0))) (dBin neq (dBin fmodq (dCal intq (dCons (dCallP (c__law_at A) (dCons (dCallP (c__law_slope A) (dCons (dVar 1) dNil)) (dCons (dVar 4) dNil))) dNil)) (dVar 0)) (dC (.int 0))))) (gN 5))
 (dTail (t__law_due_2 K A)))
def t__law_due (K : PySem.W.Frag) (A : Ad) : DS :=
 (dSeq (dSet (dBin ixq (dVar 3) (dC (.int 1))) (gN 4))
 (dTail (t__law_due_1 K A)))
def t__law_refused (K : PySem.W.Frag) (A : Ad) : DS :=
 (dSeq (dTry K (dIfS (dTst (dBin eqq (dVar 0) (dC (.int 0))))
 (dDrop (dCallP (c_of_fraction A) (dCons (dVar 1) (dCons (dVar 2) (dCons (dVar 3) dNil)))))
 (dIfS (dTst (dBin eqq (dVar 0) (dC (.int 1))))
 (dDrop (dCallP (c_going_round A) (dCons (dVar 1) (dCons (dVar 2) dNil))))
 (dIfS (dTst (dBin eqq (dVar 0) (dC (.int 2))))
 (dDrop (dCallP (c_back A) (dCons (dVar 1) (dCons (dVar 2) dNil))))
 (dIfS (dTst (dBin eqq (dVar 0) (dC (.int 3))))
 (dDrop (dCallP (c_lifted A) (dCons (dVar 1) (dCons (dVar 2) (dCons (dVar 3) (dCons (dC (.int 3)) dNil))))))
 (dIfS (dTst (dBin eqq (dVar 0) (dC (.int 4))))
 (dDrop (dCallP (c_square_roots A) (dCons (dVar 1) (dCons (dVar 2) (dCons (dVar 3) dNil)))))
 (dIfS (dTst (dBin eqq (dVar 0) (dC (.int 5))))
 (dDrop (dCallP (c_own_squares A) (dCons (dVar 1) (dCons (dVar 2) dNil))))
 (dDrop (dCallP (c_often A) (dCons (dVar 1) (dCons (dVar 2) dNil)))))))))) [⟨A.C_BadFraction, 4, (dRet (dC (.str (PySem.Str.ofString "fraction"))))⟩, ⟨A.C_BadNumber, 4, (dRet (dC (.str (PySem.Str.ofString "number"))))⟩, ⟨A.C_TooLarge, 4, (dRet (dC (.str (PySem.Str.ofString "large"))))⟩, ⟨A.C_NoteError, 4, (dRet (dC (.str (PySem.Str.ofString "strange"))))⟩])
 (dRet (dC (.str (PySem.Str.ofString "")))))
def t__law_roots_right_6 (K : PySem.W.Frag) (A : Ad) : DS :=
 (dRet (dAndV (dBin eqq (dCallP (c__law_refused A) (dCons (dC (.int 5)) (dCons (dC (.int 10)) (dCons (dC (.int 0)) (dCons (dC .non) dNil))))) (dC (.str (PySem.Str.ofString "large")))) (dBin eqq (dCallP (c_own_squares A) (dCons (dC (.int 10)) (dCons (dC (.int 2)) dNil))) (dTup (dCons (dC (.int 0)) (dCons (dC (.int 1)) (dCons (dC (.int 25)) (dCons (dC (.int 76)) dNil))))))))
def t__law_roots_right_5 (K : PySem.W.Frag) (A : Ad) : DS :=
 (dSeq (dIfS (dOr (dTst (dBin neq (dCallP (c__law_refused A) (dCons (dC (.int 4)) (dCons (dC (.int 2)) (dCons (dC (.int 3)) (dCons (dC (.int 2)) dNil))))) (dC (.str (PySem.Str.ofString "number"))))) (dOr (dTst (dBin neq (dCallP (c__law_refused A) (dCons (dC (.int 4)) (dCons (dVar 1) (dCons (dVar 1) (dCons (dC (.int 2)) dNil))))) (dC (.str (PySem.Str.ofString "number"))))) (dOr (dTst (dBin neq (dCallP (c__law_refused A) (dCons (dC (.int 5)) (dCons (dC (.int 1)) (dCons (dC (.int 2)) (dCons (dC .non) dNil))))) (dC (.str (PySem.Str.ofString "large"))))) (dTst (dBin neq (dCallP (c__law_refused A) (dCons (dC (.int 5)) (dCons (dC (.int 10)) (dCons (dC (.int 6)) (dCons (dC .non) dNil))))) (dC (.str (PySem.Str.ofString "large"))))))))
 (dRet (dC (.bl false)))
 dNext)
 (dTail (t__law_roots_right_6 K A)))
def t__law_roots_right_4 (K : PySem.W.Frag) (A : Ad) : DS :=
 (dSeq (dIfS (dTst (dBin neq (dCallP (c_own_squares A) (dCons (dVar 7) (dCons (dVar 8) dNil))) (dCal tupq (dCons (dLc (diRange1 (dVar 9)) (.n 11) (dTst (dBin eqq (dBin fmodq (dCal intq (dCons (dBin subq (dBin mulq (dVar 11) (dVar 11)) (dVar 11)) dNil)) (dVar 9)) (dC (.int 0)))) (dVar 11) [11]) dNil))))
 (dRet (dC (.bl false)))
 dNext)
 (dTail (t__law_roots_right_5 K A)))
def t__law_roots_right_3 (K : PySem.W.Frag) (A : Ad) : DS :=
 (dSeq (dSet (dCallP (c__law_power A) (dCons (dVar 7) (dCons (dVar 8) dNil))) (gN 9))
 (dTail (t__law_roots_right_4 K A)))
def t__law_roots_right_2 (K : PySem.W.Frag) (A : Ad) : DS :=
 (dSeq (dPar [7, 8] (dCons (dBin addq (dC (.int 2)) (dCallR (c__law_pick A) (dCons (dVar 0) (dCons (dC (.int 11)) dNil)))) (dCons (dBin addq (dC (.int 1)) (dCallR (c__law_pick A) (dCons (dVar 0) (dCons (dC (.int 3)) dNil)))) dNil)))
 (dTail (t__law_roots_right_3 K A)))
def t__law_roots_right_1 (K : PySem.W.Frag) (A : Ad) : DS :=
 (dSeq (dIfS (dAnd (dTst (dBin gtA (dVar 1) (dC (.int 2)))) (dTst (dBin neq (dBin fmodq (dCal intq (dCons (dVar 2) dNil)) (dVar 1)) (dC (.int 0)))))
 (dSeq (dSet (dCallP (c_square_roots A) (dCons (dVar 1) (dCons (dVar 2) (dCons (dVar 3) dNil)))) (gN 4))
 (dSeq (dSet (dLst dNil) (gN 5))
 (dSeq (dFor (diRange1 (dVar 1)) (gN 6)
 (dIfS (dTst (dBin eqq (dBin fmodq (dCal intq (dCons (dBin subq (dBin mulq (dVar 6) (dVar 6)) (dVar 2)) dNil)) (dVar 1)) (dC (.int 0))))
 (dDrop (dMt 5 appq (dCons (dVar 6) dNil)))
 dNext))
 (dSeq (dIfS (dOr (dTst (dBin neq (dLc (diVal (dVar 4)) (.n 10) dYes (dBin ixq (dVar 10) (dC (.int 0))) [10]) (dVar 5))) (dTst (dBin neq (dLc (diVal (dVar 4)) (.n 10) (dOr (dTst (dBin neq (dBin fmodq (dCal intq (dCons (dBin subq (dBin mulq (dCallP (c__law_value A) (dCons (dVar 1) (dCons (dVar 10) dNil))) (dCallP (c__law_value A) (dCons (dVar 1) (dCons (dVar 10) dNil)))) (dVar 2)) dNil)) (dCallP (c__law_power A) (dCons (dVar 1) (dCons (dVar 3) dNil)))) (dC (.int 0)))) (dTst (dBin neq (dCal lenq (dCons (dVar 10) dNil)) (dVar 3)))) (dVar 10) [10]) (dLst dNil))))
 (dRet (dC (.bl false)))
 dNext)
 (dIfS (dAnd (dTst (dBin eqq (dCal lenq (dCons (dVar 4) dNil)) (dC (.int 2)))) (dTst (dBin neq (dCallP (c_added A) (dCons (dVar 1) (dCons (dBin ixq (dVar 4) (dC (.int 0))) (dCons (dBin ixq (dVar 4) (dC (.int 1))) dNil)))) (dBin mulq (dTup (dCons (dC (.int 0)) dNil)) (dVar 3)))))
 (dRet (dC (.bl false)))
 dNext)))))
 dNext)
 (dTail (t__law_roots_right_2 K A)))
def t__law_roots_right (K : PySem.W.Frag) (A : Ad) : DS :=
 (dSeq (dSet (dTup (dCons (dBin addq (dC (.int 1)) (dCallR (c__law_pick A) (dCons (dVar 0) (dCons (dC (.int 200)) dNil)))) (dCons (dBin addq (dC (.int 1)) (dCallR (c__law_pick A) (dCons (dVar 0) (dCons (dC (.int 6)) dNil)))) dNil))) (gT 2 (gsC (gN 2) (gsC (gN 3) gsN))))
 (dTail (t__law_roots_right_1 K A)))
def t__law_right_18 (K : PySem.W.Frag) (A : Ad) : DS :=
 (dRet (dCallR (c__law_roots_right A) (dCons (dVar 0) (dCons (dVar 1) dNil))))
def t__law_right_17 (K : PySem.W.Frag) (A : Ad) : DS :=
 (dSeq (dFor (diVal (dBin addq (dVar 26) (dLst (dCons (dTup (dCons (dC (.int 1)) (dCons (dC (.int 5)) (dCons (dTup (dCons (dC (.int 1)) (dCons (dC (.int 2001)) dNil))) (dCons (dC .non) (dCons (dC (.str (PySem.Str.ofString "large"))) dNil)))))) (dCons (dTup (dCons (dC (.int 3)) (dCons (dC (.int 5)) (dCons (dTup (dCons (dC (.int 1)) (dCons (dC (.int 1)) dNil))) (dCons (dC (.int 5)) (dCons (dC (.str (PySem.Str.ofString "number"))) dNil)))))) (dCons (dTup (dCons (dC (.int 6)) (dCons (dC (.int 5)) (dCons (dTup (dCons (dC (.int 0)) (dCons (dC (.int 1)) dNil))) (dCons (dC .non) (dCons (dC (.str (PySem.Str.ofString "fraction"))) dNil)))))) dNil)))))) (gT 5 (gsC (gN 27) (gsC (gN 22) (gsC (gN 28) (gsC (gN 29) (gsC (gN 30) gsN))))))
 (dIfS (dTst (dBin neq (dCallP (c__law_refused A) (dCons (dVar 27) (dCons (dVar 22) (dCons (dVar 28) (dCons (dVar 29) dNil))))) (dVar 30)))
 (dRet (dC (.bl false)))
 dNext))
 (dTail (t__law_right_18 K A)))
def t__law_right_16 (K : PySem.W.Frag) (A : Ad) : DS :=
 (dSeq (dSet (dLst (dCons (dTup (dCons (dC (.int 0)) (dCons (dC (.int 4)) (dCons (dTup (dCons (dC (.int 1)) (dCons (dC (.int 3)) dNil))) (dCons (dC (.int 5)) (dCons (dC (.str (PySem.Str.ofString "number"))) dNil)))))) (dCons (dTup (dCons (dC (.int 0)) (dCons (dC (.int 5)) (dCons (dTup (dCons (dC (.int 1)) (dCons (dC (.int 3)) dNil))) (dCons (dC (.int 201)) (dCons (dC (.str (PySem.Str.ofString "large"))) dNil)))))) (dCons (dTup (dCons (dC (.int 0)) (dCons (dC (.int 5)) (dCons (dTup (dCons (dC (.int 2)) (dCons (dC (.int 4)) dNil))) (dCons (dC (.int 5)) (dCons (dC (.str (PySem.Str.ofString "fraction"))) dNil)))))) dNil)))) (gN 26))
 (dTail (t__law_right_17 K A)))
def t__law_right_15 (K : PySem.W.Frag) (A : Ad) : DS :=
 (dSeq (dIfS (dTst (dBin eqq (dCallP (c__law_gcd A) (dCons (dVar 25) (dCons (dVar 24) dNil))) (dC (.int 1))))
 (dIfS (dOr (dNot (dTst (dChain leA ltA (dC (.int 0)) (dCallP (c_back A) (dCons (dVar 25) (dCons (dVar 24) dNil))) (dVar 24)))) (dTst (dBin neq (dBin fmodq (dCal intq (dCons (dBin subq (dBin mulq (dVar 25) (dCallP (c_back A) (dCons (dVar 25) (dCons (dVar 24) dNil)))) (dC (.int 1))) dNil)) (dVar 24)) (dC (.int 0)))))
 (dRet (dC (.bl false)))
 dNext)
 (dIfS (dTst (dBin neq (dCallP (c__law_refused A) (dCons (dC (.int 2)) (dCons (dVar 25) (dCons (dVar 24) (dCons (dC .non) dNil))))) (dC (.str (PySem.Str.ofString "number")))))
 (dRet (dC (.bl false)))
 dNext))
 (dTail (t__law_right_16 K A)))
def t__law_right_14 (K : PySem.W.Frag) (A : Ad) : DS :=
 (dSeq (dPar [24, 25] (dCons (dBin addq (dC (.int 2)) (dCallR (c__law_pick A) (dCons (dVar 0) (dCons (dC (.int 500)) dNil)))) (dCons (dBin subq (dCallR (c__law_pick A) (dCons (dVar 0) (dCons (dC (.int 1000)) dNil))) (dC (.int 500))) dNil)))
 (dTail (t__law_right_15 K A)))
def t__law_right_13 (K : PySem.W.Frag) (A : Ad) : DS :=
 (dSeq (dFor (diVal (dLst (dCons (dVar 20) (dCons (dTup (dCons (dC (.str (PySem.Str.ofString "rootless"))) (dCons (dVar 19) dNil))) (dCons (dTup (dCons (dC (.str (PySem.Str.ofString "root"))) (dCons (dVar 19) (dCons (dBin mulq (dTup (dCons (dVar 19) dNil)) (dVar 6)) dNil)))) dNil))))) (gN 21)
 (dFor (diVal (dCallR (c__law_bent A) (dCons (dVar 0) (dCons (dVar 21) dNil)))) (gN 22)
 (dSeq (dSet (dCallP (c_lifted_right A) (dCons (dVar 1) (dCons (dVar 17) (dCons (dVar 6) (dCons (dVar 22) dNil))))) (gN 23))
 (dIfS (dOr (dNot (dTru (dIsi "bool" (dVar 23)))) (dTst (dBin neq (dVar 23) (dCallP (c__law_due A) (dCons (dVar 1) (dCons (dVar 17) (dCons (dVar 6) (dCons (dVar 22) dNil))))))))
 (dRet (dC (.bl false)))
 dNext))))
 (dTail (t__law_right_14 K A)))
def t__law_right_12 (K : PySem.W.Frag) (A : Ad) : DS :=
 (dSeq (dIfS (dOr (dTst (dBin ninFq (dBin ixq (dVar 20) (dC (.int 0))) (dTup (dCons (dC (.str (PySem.Str.ofString "root"))) (dCons (dC (.str (PySem.Str.ofString "rootless"))) dNil))))) (dOr (dTst (dBin neq (dBin ixq (dVar 20) (dC (.int 1))) (dVar 19))) (dNot (dTru (dCallP (c__law_due A) (dCons (dVar 1) (dCons (dVar 17) (dCons (dVar 6) (dCons (dVar 20) dNil)))))))))
 (dRet (dC (.bl false)))
 dNext)
 (dTail (t__law_right_13 K A)))
def t__law_right_11 (K : PySem.W.Frag) (A : Ad) : DS :=
 (dSeq (dSet (dCallP (c_lifted A) (dCons (dVar 1) (dCons (dVar 17) (dCons (dVar 19) (dCons (dVar 6) dNil))))) (gN 20))
 (dTail (t__law_right_12 K A)))
def t__law_right_10 (K : PySem.W.Frag) (A : Ad) : DS :=
 (dSeq (dPar [19, 6] (dCons (dCallR (c__law_pick A) (dCons (dVar 0) (dCons (dVar 1) dNil))) (dCons (dCallR (c__law_pick A) (dCons (dVar 0) (dCons (dC (.int 12)) dNil))) dNil)))
 (dTail (t__law_right_11 K A)))
def t__law_right_9 (K : PySem.W.Frag) (A : Ad) : DS :=
 (dSeq (dIfS (dOr (dTst (dBin neq (dCallP (c_polynomial_at A) (dCons (dVar 17) (dCons (dVar 18) dNil))) (dCallP (c__law_at A) (dCons (dVar 17) (dCons (dVar 18) dNil))))) (dTst (dBin neq (dCallP (c_slope A) (dCons (dVar 17) dNil)) (dCallP (c__law_slope A) (dCons (dVar 17) dNil)))))
 (dRet (dC (.bl false)))
 dNext)
 (dTail (t__law_right_10 K A)))
def t__law_right_8 (K : PySem.W.Frag) (A : Ad) : DS :=
 (dSeq (dSet (dBin subq (dCallR (c__law_pick A) (dCons (dVar 0) (dCons (dC (.int 100)) dNil))) (dC (.int 50))) (gN 18))
 (dTail (t__law_right_9 K A)))
def t__law_right_7 (K : PySem.W.Frag) (A : Ad) : DS :=
 (dSeq (dSet (dCal tupq (dCons (dLcW (diRange1 (dBin addq (dC (.int 1)) (dCallR (c__law_pick A) (dCons (dVar 0) (dCons (dC (.int 5)) dNil))))) (.n 33) dYes (dBin subq (dCallR (c__law_pick A) (dCons (dVar 0) (dCons (dC (.int 19)) dNil))) (dC (.int 9))) [33]) dNil)) (gN 17))
 (dTail (t__law_right_8 K A)))
def t__law_right_6 (K : PySem.W.Frag) (A : Ad) : DS :=
 (dSeq (dIfS (dTst (dBin neq (dVar 4) (dC (.int 0))))
 (dSeq (dSet (dC (.int 0)) (gN 15))
 (dSeq (dFor (diRange1 (dC (.int 200))) (gN 16)
 (dSeq (dIfS (dTst (dBin eqq (dBin fmodq (dCal intq (dCons (dVar 4) dNil)) (dVar 1)) (dC (.int 0))))
 (dSeq (dSet (dBin fdivq (dVar 4) (dVar 1)) (gN 4))
 (dSet (dBin addq (dVar 15) (dC (.int 1))) (gN 15)))
 dNext)
 (dIfS (dTst (dBin eqq (dBin fmodq (dCal intq (dCons (dVar 5) dNil)) (dVar 1)) (dC (.int 0))))
 (dSeq (dSet (dBin fdivq (dVar 5) (dVar 1)) (gN 5))
 (dSet (dBin subq (dVar 15) (dC (.int 1))) (gN 15)))
 dNext)))
 (dIfS (dTst (dBin neq (dCallP (c_often A) (dCons (dVar 1) (dCons (dVar 3) dNil))) (dVar 15)))
 (dRet (dC (.bl false)))
 dNext)))
 dNext)
 (dTail (t__law_right_7 K A)))
def t__law_right_5 (K : PySem.W.Frag) (A : Ad) : DS :=
 (dSeq (dIfS (dTst (dBin eqq (dBin fmodq (dCal intq (dCons (dVar 5) dNil)) (dVar 1)) (dC (.int 0))))
 (dIfS (dOr (dTst (dBin neq (dCallP (c__law_refused A) (dCons (dC (.int 0)) (dCons (dVar 1) (dCons (dVar 3) (dCons (dVar 6) dNil))))) (dC (.str (PySem.Str.ofString "fraction"))))) (dTst (dBin neq (dCallP (c__law_refused A) (dCons (dC (.int 1)) (dCons (dVar 1) (dCons (dVar 3) (dCons (dC .non) dNil))))) (dC (.str (PySem.Str.ofString "fraction"))))))
 (dRet (dC (.bl false)))
 dNext)
 (dSeq (dSet (dCallP (c_of_fraction A) (dCons (dVar 1) (dCons (dCal lisq (dCons (dVar 3) dNil)) (dCons (dVar 6) dNil)))) (gN 7))
 (dSeq (dIfS (dOr (dTst (dBin neq (dCal lenq (dCons (dVar 7) dNil)) (dVar 6))) (dOr (dTst (dBin neq (dLc (diVal (dVar 7)) (.n 31) (dNot (dTst (dChain leA ltA (dC (.int 0)) (dVar 31) (dVar 1)))) (dVar 31) [31]) (dLst dNil))) (dTst (dBin neq (dBin fmodq (dCal intq (dCons (dBin subq (dBin mulq (dCallP (c__law_value A) (dCons (dVar 1) (dCons (dVar 7) dNil))) (dVar 5)) (dVar 4)) dNil)) (dCallP (c__law_power A) (dCons (dVar 1) (dCons (dVar 6) dNil)))) (dC (.int 0))))))
 (dRet (dC (.bl false)))
 dNext)
 (dSeq (dSet (dCallP (c_going_round A) (dCons (dVar 1) (dCons (dVar 3) dNil))) (gT 2 (gsC (gN 8) (gsC (gN 9) gsN))))
 (dSeq (dSet (dBin addq (dVar 8) (dBin mulq (dVar 9) (dC (.int 40)))) (gN 10))
 (dSeq (dIfS (dOr (dTst (dBin eqq (dVar 9) (dTup dNil))) (dOr (dTst (dBin neq (dSl (dVar 10) dNoPart (dPart (dVar 6))) (dVar 7))) (dOr (dTst (dBin neq (dCallP (c_value_of A) (dCons (dVar 1) (dCons (dVar 8) (dCons (dVar 9) dNil)))) (dVar 3))) (dAnd (dTst (dBin neq (dVar 8) (dTup dNil))) (dTst (dBin eqq (dBin ixq (dVar 8) (dUn negq (dC (.int 1)))) (dBin ixq (dVar 9) (dUn negq (dC (.int 1))))))))))
 (dRet (dC (.bl false)))
 dNext)
 (dSeq (dIfS (dTst (dBin neq (dLc (diRange2 (dC (.int 1)) (dCal lenq (dCons (dVar 9) dNil))) (.n 32) (dAnd (dTst (dBin eqq (dBin fmodq (dCal intq (dCons (dCal lenq (dCons (dVar 9) dNil)) dNil)) (dVar 32)) (dC (.int 0)))) (dTst (dBin eqq (dBin mulq (dSl (dVar 9) dNoPart (dPart (dVar 32))) (dBin fdivq (dCal lenq (dCons (dVar 9) dNil)) (dVar 32))) (dVar 9)))) (dVar 32) [32]) (dLst dNil)))
 (dRet (dC (.bl false)))
 dNext)
 (dSeq (dSet (dCallP (c_fraction A) (dCons (dBin subq (dCallR (c__law_pick A) (dCons (dVar 0) (dCons (dC (.int 200)) dNil))) (dC (.int 100))) (dCons (dBin ixq (dLst (dCons (dC (.int 1)) (dCons (dBin addq (dC (.int 1)) (dVar 1)) dNil))) (dCallR (c__law_pick A) (dCons (dVar 0) (dCons (dC (.int 2)) dNil)))) dNil))) (gN 11))
 (dSeq (dSet (dCallP (c_of_fraction A) (dCons (dVar 1) (dCons (dVar 11) (dCons (dVar 6) dNil)))) (gN 12))
 (dSeq (dSet (dCallP (c_fraction A) (dCons (dBin addq (dBin mulq (dVar 4) (dBin ixq (dVar 11) (dC (.int 1)))) (dBin mulq (dBin ixq (dVar 11) (dC (.int 0))) (dVar 5))) (dCons (dBin mulq (dVar 5) (dBin ixq (dVar 11) (dC (.int 1)))) dNil))) (gN 13))
 (dSeq (dSet (dCallP (c_fraction A) (dCons (dBin mulq (dVar 4) (dBin ixq (dVar 11) (dC (.int 0)))) (dCons (dBin mulq (dVar 5) (dBin ixq (dVar 11) (dC (.int 1)))) dNil))) (gN 14))
 (dIfS (dOr (dTst (dBin neq (dCallP (c_added A) (dCons (dVar 1) (dCons (dVar 7) (dCons (dVar 12) dNil)))) (dCallP (c_of_fraction A) (dCons (dVar 1) (dCons (dVar 13) (dCons (dVar 6) dNil)))))) (dTst (dBin neq (dCallP (c_product A) (dCons (dVar 1) (dCons (dVar 7) (dCons (dVar 12) dNil)))) (dCallP (c_of_fraction A) (dCons (dVar 1) (dCons (dVar 14) (dCons (dVar 6) dNil)))))))
 (dRet (dC (.bl false)))
 dNext))))))))))))
 (dTail (t__law_right_6 K A)))
def t__law_right_4 (K : PySem.W.Frag) (A : Ad) : DS :=
 (dSeq (dSet (dCallR (c__law_pick A) (dCons (dVar 0) (dCons (dC (.int 31)) dNil))) (gN 6))
 (dTail (t__law_right_5 K A)))
def t__law_right_3 (K : PySem.W.Frag) (A : Ad) : DS :=
 (dSeq (dSet (dVar 3) (gT 2 (gsC (gN 4) (gsC (gN 5) gsN))))
 (dTail (t__law_right_4 K A)))
def t__law_right_2 (K : PySem.W.Frag) (A : Ad) : DS :=
 (dSeq (dSet (dCallP (c_fraction A) (dCons (dBin mulq (dVar 2) (dBin ixq (dLst (dCons (dCallR (c__law_pick A) (dCons (dVar 0) (dCons (dC (.int 100)) dNil))) (dCons (dCallR (c__law_great A) (dCons (dVar 0) dNil)) dNil))) (dCallR (c__law_pick A) (dCons (dVar 0) (dCons (dC (.int 2)) dNil))))) (dCons (dBin addq (dC (.int 1)) (dCallR (c__law_pick A) (dCons (dVar 0) (dCons (dC (.int 60)) dNil)))) dNil))) (gN 3))
 (dTail (t__law_right_3 K A)))
def t__law_right_1 (K : PySem.W.Frag) (A : Ad) : DS :=
 (dSeq (dSet (dBin subq (dC (.int 1)) (dBin mulq (dC (.int 2)) (dCallR (c__law_pick A) (dCons (dVar 0) (dCons (dC (.int 2)) dNil))))) (gN 2))
 (dTail (t__law_right_2 K A)))
def t__law_right (K : PySem.W.Frag) (A : Ad) : DS :=
 (dSeq (dSet (dBin ixq (dLst (dCons (dC (.int 2)) (dCons (dC (.int 3)) (dCons (dC (.int 5)) (dCons (dC (.int 7)) (dCons (dC (.int 11)) (dCons (dC (.int 13)) (dCons (dC (.int 31)) dNil)))))))) (dCallR (c__law_pick A) (dCons (dVar 0) (dCons (dC (.int 7)) dNil)))) (gN 1))
 (dTail (t__law_right_1 K A)))
def t_law (K : PySem.W.Frag) (A : Ad) : DS :=
 (dSeq (dFor (diRange1 (dBin addq (dCal min2q (dCons (dCal lenq (dCons (dVar 0) dNil)) (dCons (dC (.int 7)) dNil))) (dC (.int 3)))) (gN 1)
 (dIfS (dNot (dTru (dCallR (c__law_right A) (dCons (dCallP (c__law_source A) (dCons (dCallP (c__law_cell A) (dCons (dVar 0) (dCons (dVar 1) dNil))) (dCons (dVar 1) dNil))) dNil))))
 (dRet (dC (.bl false)))
 dNext))
 (dRet (dC (.bl true))))
theorem vc_power {K A} : ∀ ds R RE, c_power A ds R RE → t_power K A (pEnds R RE) (startD N_power (ds.map fun d => some (.p d))) := by
  intro ds R RE h
  unfold c_power at h
  split at h
  · rename_i a b
    walk_at "d"
    · rename_i hc
      exact h.1 hc
    · rename_i hc
      obtain ⟨⟨n, hn, hn2⟩, h⟩ := h.2 hc
      have eb : (b.toNat : Int) = b := by omega
      refine while_run (fun q : Nat × Nat × Nat => [some (.p (.int a)), some (.p (.int b)), some (.p (.int (a ^ q.1))), some (.p (.int q.2.2)), some (.p (.int (a ^ q.2.1)))]) (fun q => q.1 + q.2.1 * q.2.2 = b.toNat) (fun q => q.2.2) (0, 1, b.toNat) ?_ (by simp) ?_
      · simp only [eb, Int.pow_zero, Int.pow_one]
      rintro ⟨r, f, l⟩ hr
      have hr : r + f * l = b.toNat := hr
      have bd : ∀ i : Nat, i ≤ b.toNat → (a ^ i).natAbs < 2 ^ (n * b.toNat + 1) := fun i hi => sz_mono (sz_pow hn i) (Nat.add_le_add_right (Nat.mul_le_mul_left _ hi) 1)
      have hb : (n * b.toNat + 1) + (n * b.toNat + 1) < 1000000 := by
        rw [Nat.mul_assoc] at hn2
        omega
      walk_at "d"
      · rename_i h1 h2
        have hl : 0 < l := by have h1 : (0 : Int) < (l : Nat) := h1; omega
        have h2 : (l : Int).fmod 2 = 1 := h2
        rw [Int.fmod_eq_emod_of_nonneg _ (by decide)] at h2
        have hf : f * l = f * (l / 2) + f * (l / 2) + f := by
          have : l = l / 2 + l / 2 + 1 := by omega
          conv => lhs; rw [this]
          rw [Nat.mul_add, Nat.mul_add, Nat.mul_one]
        have f1 : f ≤ b.toNat := by omega
        have r1 : r ≤ b.toNat := by omega
        refine ⟨mulC_of (bd r r1) (bd f f1) hb, ?_⟩
        walk_at "d"
        refine ⟨mulC_of (bd f f1) (bd f f1) hb, ?_⟩
        walk_at "d"
        refine ⟨l / 2, by show l / 2 < l; omega, (r + f, f + f, l / 2), ?_, by show r + f + (f + f) * (l / 2) = b.toNat; rw [Nat.add_mul]; omega, rfl⟩
        have e3 : (l : Int).fdiv 2 = ((l / 2 : Nat) : Int) := by rw [Int.fdiv_eq_ediv_of_nonneg _ (by decide)]; omega
        show [some (Sl.p (D.int a)), some (.p (.int b)), some (.p (.int (a ^ r * a ^ f))), some (.p (.int ((l : Int).fdiv 2))), some (.p (.int (a ^ f * a ^ f)))] = _
        rw [e3, ← Int.pow_add, ← Int.pow_add]
      · rename_i h1 h2
        have hl : 0 < l := by have h1 : (0 : Int) < (l : Nat) := h1; omega
        have h2 : ¬ (l : Int).fmod 2 = 1 := h2
        rw [Int.fmod_eq_emod_of_nonneg _ (by decide)] at h2
        have hf : f * l = f * (l / 2) + f * (l / 2) := by
          have : l = l / 2 + l / 2 := by omega
          conv => lhs; rw [this]
          rw [Nat.mul_add]
        have f1 : f ≤ b.toNat := by
          have : f * 1 ≤ f * (l / 2) := Nat.mul_le_mul_left _ (by omega)
          omega
        refine ⟨mulC_of (bd f f1) (bd f f1) hb, ?_⟩
        walk_at "d"
        refine ⟨l / 2, by show l / 2 < l; omega, (r, f + f, l / 2), ?_, by show r + (f + f) * (l / 2) = b.toNat; rw [Nat.add_mul]; omega, rfl⟩
        have e3 : (l : Int).fdiv 2 = ((l / 2 : Nat) : Int) := by rw [Int.fdiv_eq_ediv_of_nonneg _ (by decide)]; omega
        show [some (Sl.p (D.int a)), some (.p (.int b)), some (.p (.int (a ^ r))), some (.p (.int ((l : Int).fdiv 2))), some (.p (.int (a ^ f * a ^ f)))] = _
        rw [e3, ← Int.pow_add]
      · rename_i h1
        have hl : l = 0 := by have h1 : (l : Int) ≤ 0 := h1; omega
        subst hl
        have e : r = b.toNat := by omega
        subst e
        exact h
  · exact h.elim

theorem vc_checked {K A} : ∀ ds R RE, c_checked A ds R RE → t_checked K A (pEnds R RE) (startD N_checked (ds.map fun d => some (.p d))) := by
  intro ds R RE h
  unfold c_checked at h
  split at h
  · rename_i n
    walk_at "d"
    · rename_i hc
      refine absurd hc (Int.not_le.mpr ?_)
      exact Int.ofNat_lt.mpr (Nat.lt_of_lt_of_le h.1 (by decide +kernel))
    · exact h.2
  · exact h.elim

theorem vc_shared {K A} : ∀ ds R RE, c_shared A ds R RE → t_shared K A (pEnds R RE) (startD N_shared (ds.map fun d => some (.p d))) := by
  intro ds R RE h
  unfold c_shared at h
  split at h
  · rename_i a b
    walk_at "d"
    refine while_run (fun q : Int × Int => [some (.p (.int q.1)), some (.p (.int q.2))]) (fun q => 0 ≤ q.1 ∧ 0 ≤ q.2 ∧ Int.gcd q.1 q.2 = Int.gcd a b) (fun q => q.2.toNat) (a.natAbs, b.natAbs) rfl ⟨Int.natCast_nonneg _, Int.natCast_nonneg _, rfl⟩ ?_
    rintro ⟨x, y⟩ ⟨hx, hy, hg⟩
    walk_at "d"
    · have hm := Int.fmod_nonneg_of_pos x (show 0 < y by omega)
      have hm2 := Int.fmod_lt_of_pos x (show 0 < y by omega)
      exact ⟨_, by show (x.fmod y).toNat < y.toNat; omega, (y, x.fmod y), rfl, ⟨hy, hm, by rw [gcd_fmod]; exact hg⟩, rfl⟩
    · rename_i hc
      have hc : y = 0 := hc
      subst hc
      have hg : (Int.gcd x 0) = Int.gcd a b := hg
      rw [Int.gcd_zero_right] at hg
      have e : x = (Int.gcd a b : Int) := by omega
      rw [e]
      exact h
  · exact h.elim

theorem vc_is_fraction {K A} : ∀ ds R RE, c_is_fraction A ds R RE → t_is_fraction K A (pEnds R RE) (startD N_is_fraction (ds.map fun d => some (.p d))) := by
  intro ds R RE h
  unfold c_is_fraction at h
  split at h
  · rename_i n u
    walk_at "d"
    · rename_i h1 h2
      refine bl_to h ?_
      simp [vD, deq_ii, h2]
      omega
    · rename_i h1 h2
      refine bl_to h ?_
      have : ¬ 0 < u := by omega
      simp [this]
  · exact h.elim

theorem vc_known {K A} : ∀ ds R RE, c_known A ds R RE → t_known K A (pEnds R RE) (startD N_known (ds.map fun d => some (.p d))) := by
  rintro ds R RE ⟨x, n, u, rfl, hx, h1, h2⟩
  walk_at "d"
  refine ⟨_, hx, ?_⟩
  walk_at "d"
  · rename_i hc
    refine h1 fun z => ?_
    simp [z.1, z.2] at hc
  · rename_i hc
    simp only [Bool.and_eq_true, decide_eq_true_eq] at hc
    exact h2 hc

theorem vc__law_cell {K A} : ∀ ds R RE, c__law_cell A ds R RE → t__law_cell K A (pEnds R RE) (startD N__law_cell (ds.map fun d => some (.p d))) := by
  rintro ds R RE ⟨ns, k, rfl, h⟩
  walk_at "d"
  · rename_i hc
    have hk : k < (ns.map D.int).length := by
      have hc : (k : Int) < ((ns.map D.int).length : Nat) := hc
      omega
    have hk2 : k < ns.length := by simpa using hk
    have e : atI (ns.map D.int) (k : Int) = some (.int ns[k]) := atI_nat (by simp [hk2])
    show match atI (ns.map D.int) (k : Int) with | some d => _ | none => False
    rw [e]
    exact h _
  · exact h 0

theorem vc__law_source {K A} : ∀ ds R RE, c__law_source A ds R RE → t__law_source K A (pEnds R RE) (startD N__law_source (ds.map fun d => some (.p d))) := by
  rintro ds R RE ⟨c, k, rfl, hk, h⟩
  walk_at "d"
  · rename_i hc
    have hc : (10 : Int) ^ 18 ≤ c := hc
    exact h _ (gs_mk (a := c - 10 ^ 18) (by omega) (by omega) (by omega))
  · have z := fmod_in (c * 7919 + k * 104729 + 1) (m := 2147483647) (by decide)
    exact h _ (gs_mk (by decide) z.1 (by omega))

theorem vc__law_pick {K A} : ∀ n ds R RE, c__law_pick A n ds R RE → t__law_pick K A (rEnds R RE) (startD N__law_pick (some (.ow (some 0) n) :: ds.map fun d => some (.p d))) := by
  rintro n ds R RE ⟨⟨a, b, rfl, ha, hb, hb2⟩, m, rfl, hm, hm2, h⟩
  have hm0 : m ≠ 0 := by omega
  have dm : DivC m := divC_small hm0 (by omega)
  walk_at "d"
  · rename_i hc
    have z := fmod_in a hm
    refine h _ _ (gs_mk ?_ hb hb2) z.1 z.2
    show 0 ≤ a.fdiv m
    rw [fdiv_pos _ hm]
    exact Int.ediv_nonneg ha (by omega)
  · have z := fmod_in (b * 48271 + 12345) (m := 2147483647) (by decide)
    have z2 := fmod_in (((((b * 48271 + 12345).fmod 2147483647) * 69621 + ((b * 48271 + 12345).fmod 2147483647).fdiv 127 + 7).fmod 2147483629).fdiv 16) hm
    exact h _ _ (gs_mk ha z.1 (by omega)) z2.1 z2.2

theorem vc__law_great {K A} : ∀ n ds R RE, c__law_great A n ds R RE → t__law_great K A (rEnds R RE) (startD N__law_great (some (.ow (some 0) n) :: ds.map fun d => some (.p d))) := by
  rintro n ds R RE ⟨hg, rfl, h⟩
  walk_at "d"
  refine ⟨_, rfl, by decide, by decide, fun way n1 hg1 w0 w1 => ?_⟩
  have b64 : ∀ p : Int, p < 100000 → p < 2 ^ 190 := fun p hp => Int.lt_of_lt_of_le hp (by decide +kernel)
  walk_at "d"
  · refine ⟨_, rfl, by decide, by decide, fun p n2 hg2 p0 p1 => ?_⟩
    walk_at "d"
    exact h p n2 hg2 p0 (b64 p (by omega))
  · refine ⟨_, rfl, by decide, by decide, fun p n2 hg2 p0 p1 => ?_⟩
    walk_at "d"
    exact h p n2 hg2 p0 (b64 p p1)
  · refine ⟨_, rfl, by decide, by decide, fun p n2 hg2 p0 p1 => ?_⟩
    walk_at "d"
    refine ⟨by omega, ?_⟩
    walk_at "d"
    refine fold_range (fun k ε => ∃ (w : Int) (n' : Nd) (st : Option Sl), ε = [some (.ow (some 0) n'), some (.p (.int way)), some (.p (.int w)), st] ∧ gs n' ∧ 0 ≤ w ∧ w < 100000007 ^ k) ?_ ?_ _ ⟨0, n2, none, rfl, hg2, by decide, by decide⟩
    · rintro _ ⟨w, n', st, rfl, g1, w2, w3⟩
      walk_at "d"
      exact h w n' g1 w2 (great_bound w3 (by omega))
    · rintro k _ hk ⟨w, n', st, rfl, g1, w2, w3⟩ nx hnx
      walk_at "d"
      refine ⟨_, rfl, by decide, by decide, fun q n3 hg3 q0 q1 => ?_⟩
      walk_at "d"
      have z := great_step w2 w3 q0 q1
      exact hnx _ ⟨_, n3, _, rfl, hg3, z.1, z.2⟩

theorem vc__law_gcd {K A} : ∀ ds R RE, c__law_gcd A ds R RE → t__law_gcd K A (pEnds R RE) (startD N__law_gcd (ds.map fun d => some (.p d))) := by
  intro ds R RE h
  unfold c__law_gcd at h
  split at h
  · rename_i a b
    obtain ⟨hb, h⟩ := h
    walk_at "d"
    refine fold_range (fun k ε => ∃ (x y : Nat) (st : Option Sl), ε = [some (.p (.int x)), some (.p (.int y)), st] ∧ Nat.gcd x y = Int.gcd a b ∧ (k = 0 → y < 2 ^ 5000) ∧ (1 ≤ k → y < x ∧ x * y * 2 ^ (k - 1) < 2 ^ 10000)) ?_ ?_ _ ⟨a.natAbs, b.natAbs, none, rfl, rfl, fun _ => hb, fun z => by omega⟩
    · rintro _ ⟨x, y, st, rfl, hg, _, h2⟩
      obtain ⟨h3, h4⟩ := h2 (by decide)
      have hy : y = 0 := by
        by_cases hy : y = 0
        · exact hy
        · have p1 : 1 ≤ x * y := Nat.mul_pos (by omega) (by omega)
          have p2 : 1 * 2 ^ (Int.toNat 20000 - 1) ≤ x * y * 2 ^ (Int.toNat 20000 - 1) := Nat.mul_le_mul_right _ p1
          have p3 : (2 : Nat) ^ 10000 ≤ 2 ^ (Int.toNat 20000 - 1) := Nat.pow_le_pow_right (by decide) (by decide)
          omega
      subst hy
      rw [Nat.gcd_zero_right] at hg
      walk_at "d"
      rw [hg]
      exact h
    · rintro k _ hk ⟨x, y, st, rfl, hg, h1, h2⟩ nx hnx
      walk_at "d"
      · rename_i hc
        have hc : (y : Int) = 0 := hc
        have hy : y = 0 := by omega
        subst hy
        rw [Nat.gcd_zero_right] at hg
        rw [hg]
        exact h
      · rename_i hc
        have hc : ¬ (y : Int) = 0 := hc
        have hy : 0 < y := by omega
        refine hnx _ ⟨y, x % y, _, by rw [← gcd_step hy]; rfl, by rw [Nat.gcd_comm x y, Nat.gcd_rec] at hg; rw [Nat.gcd_comm]; exact hg, fun z => by omega, fun _ => ⟨Nat.mod_lt x hy, ?_⟩⟩
        by_cases k0 : k = 0
        · subst k0
          have y1 := h1 rfl
          have y2 := Nat.lt_trans (Nat.mod_lt x hy) y1
          have z := Nat.mul_lt_mul'' y1 y2
          rw [← Nat.pow_add] at z
          simpa using z
        · obtain ⟨h3, h4⟩ := h2 (by omega)
          refine Nat.lt_of_le_of_lt ?_ h4
          have e : k + 1 - 1 = k - 1 + 1 := by omega
          rw [e, Nat.pow_succ, Nat.mul_comm (2 ^ (k - 1)) 2, ← Nat.mul_assoc]
          exact Nat.mul_le_mul_right _ (gcd_half hy (by omega))
  · exact h.elim

theorem vc__law_changed {K A} (n : Nat) (IHc : PCt) (hI : ∀ m ds R RE, n = m + 1 → r__law_changed A m ds R RE → IHc ds R RE) : ∀ ds R RE, r__law_changed A n ds R RE → t__law_changed K A IHc (pEnds R RE) (startD N__law_changed (ds.map fun d => some (.p d))) := by
  rintro ds R RE ⟨s, N, d, a, m, rfl, hs, ok, hdep, hN, h⟩
  rcases has_cases hs ok hN with ⟨i, rfl, hj, hc⟩ | rfl | ⟨z, rfl⟩ | ⟨ds, L, rfl, hL, hl, hm, hcap, hb, _⟩
  · walk_at "d"
    · exact h _ 1 hs hc
    · exact h _ 1 (hj _) hc
  · walk_at "d"
    exact h _ 0 hs (Nat.zero_le _)
  · walk_at "d"
    exact h _ 0 hs (Nat.zero_le _)
  · walk_at "d"
    refine fold_ind (fun r ε => ∃ (Ld Lr : List Sh) (es : List D) (c : Nat) (s5 s6 s7 : Option Sl), L = Ld ++ Lr ∧ Sh.hass Lr N r ∧ Sh.hass Ld N es ∧ c ≤ Sh.caps Ld N ∧ ε = [some (.p (.tup ds)), some (.p (.int a)), some (.p (.int m)), some (.ow none (.lst es)), some (.p (.int c)), s5, s6, s7]) ?_ ?_ ds _ ⟨[], L, [], 0, _, _, _, rfl, hL, by unfold Sh.hass; rfl, Nat.zero_le _, rfl⟩
    · rintro ε ⟨Ld, Lr, es, c, s5, s6, s7, e, hr, hd, hc, rfl⟩
      have e0 : Lr = [] := List.eq_nil_of_length_eq_zero (hass_len hr).symm
      rw [e0, List.append_nil] at e
      subst e
      walk_at "d"
      exact h _ c (hb _ hd) (by omega)
    · rintro x r ε ⟨Ld, Lr, es, c, s5, s6, s7, e, hr, hd, hc, rfl⟩ nx hn
      cases Lr with
      | nil => unfold Sh.hass at hr; cases hr
      | cons t Lr =>
        unfold Sh.hass at hr
        obtain ⟨x', r', e', hx, hr⟩ := hr
        cases e'
        have ht := hm t (by rw [e]; simp)
        obtain ⟨k, rfl⟩ : ∃ k, n = k + 1 := ⟨n - 1, by omega⟩
        have les : es.length < sizeLine := by
          have z1 := hass_len hd
          have z2 := hass_len hL
          rw [e, List.length_append, List.length_cons] at z2
          rw [sizeLine_eq]
          omega
        walk_at "d"
        refine hI k _ _ _ rfl ⟨t, N, _, _, _, rfl, hx, ht.2, by omega, hN, fun d' c' h1 h2 => ?_⟩
        walk_at "d"
        exact hn _ ⟨Ld ++ [t], Lr, es ++ [d'], c + c', _, _, _, by rw [e]; simp, hr, hass_snoc hd h1, by rw [caps_snoc]; omega, by rw [Int.natCast_add]; rfl⟩
theorem vc__law_cut {K A} (n : Nat) (IHc : PCt) (hI : ∀ m ds R RE, n = m + 1 → r__law_cut A m ds R RE → IHc ds R RE) : ∀ ds R RE, r__law_cut A n ds R RE → t__law_cut K A IHc (pEnds R RE) (startD N__law_cut (ds.map fun d => some (.p d))) := by
  rintro ds R RE ⟨s, N, d, a, rfl, hs, ok, hdep, h50, hN, h⟩
  have dk := has_dok s N d hs 60 (by omega)
  rcases has_cases hs ok hN with ⟨i, rfl, hj, hc⟩ | rfl | ⟨z, rfl⟩ | ⟨ds, L, rfl, hL, hl, hm, hcap, hb, hcut⟩
  · walk_at "d"
    exact h _ 0 hs (Nat.zero_le _)
  · walk_at "d"
    exact h _ 0 hs (Nat.zero_le _)
  · walk_at "d"
    exact h _ 0 hs (Nat.zero_le _)
  · have dd : ∀ x, x ∈ ds → dok 59 x = true := doks_mem dk
    have d0 : ∀ es : List D, (∀ x, x ∈ es → x ∈ ds) → dok 60 (.lst es) = true := fun es h => show doks 59 es = true from doks_all fun x hx => dd x (h x hx)
    have df := d0 (ds.filter isRow) fun x hx => (List.mem_filter.mp hx).1
    walk_at "d"
    refine lc_filt isRow ds (by rw [sizeLine_eq]; omega) (fun x hx acc k ha h1 h2 => ?_) ?_
    · cases x with
      | tup _ => walk_at "d"; exact h1 rfl
      | str _ => walk_at "d"; exact h1 rfl
      | _ => walk_at "d"; exact h2 rfl
    · walk_at "d"
      · rename_i hc
        rw [deq_nilD] at hc
        have hz := List.isEmpty_iff.mp hc
        have hk := hcut fun x hx => by
          cases e : isRow x with
          | false => rfl
          | true =>
            have : x ∈ ds.filter isRow := List.mem_filter.mpr ⟨hx, e⟩
            rw [hz] at this
            cases this
        obtain ⟨k, ek⟩ : ∃ k, DL.cutD ds none (some (-1)) = ds.take k := ⟨_, rfl⟩
        rw [ek]
        cases deq (vD (Vl.p (D.int a))) (vD (Vl.p (D.int 0))) with
        | false =>
          rw [show atI [D.tup ds, D.tup (ds.take k)] (b2n false) = some (D.tup ds) from rfl]
          walk_at "d"
          exact h _ 1 hs (by omega)
        | true =>
          rw [show atI [D.tup ds, D.tup (ds.take k)] (b2n true) = some (D.tup (ds.take k)) from rfl]
          walk_at "d"
          exact h _ 1 (hk k) (by omega)
      · rename_i hc
        refine fold_ind (fun r ε => ∃ (Ld Lr : List Sh) (es : List D) (c : Nat) (s5 s6 s7 : Option Sl), L = Ld ++ Lr ∧ Sh.hass Lr N r ∧ Sh.hass Ld N es ∧ c ≤ Sh.caps Ld N ∧ ε = [some (.p (.tup ds)), some (.p (.int a)), some (.ow none (.lst (ds.filter isRow))), some (.ow none (.lst es)), some (.p (.int c)), s5, s6, s7]) ?_ ?_ ds _ ⟨[], L, [], 0, _, _, _, rfl, hL, by unfold Sh.hass; rfl, Nat.zero_le _, rfl⟩
        · rintro ε ⟨Ld, Lr, es, c, s5, s6, s7, e, hr, hd, hc, rfl⟩
          have e0 : Lr = [] := List.eq_nil_of_length_eq_zero (hass_len hr).symm
          rw [e0, List.append_nil] at e
          subst e
          walk_at "d"
          exact h _ c (hb _ hd) (by omega)
        · rintro x r ε ⟨Ld, Lr, es, c, s5, s6, s7, e, hr, hd, hc, rfl⟩ nx hn
          cases Lr with
          | nil => unfold Sh.hass at hr; cases hr
          | cons t Lr =>
            unfold Sh.hass at hr
            obtain ⟨x', r', e', hx, hr⟩ := hr
            cases e'
            have ht := hm t (by rw [e]; simp)
            obtain ⟨k, rfl⟩ : ∃ k, n = k + 1 := ⟨n - 1, by omega⟩
            have les : es.length < sizeLine := by
              have z1 := hass_len hd
              have z2 := hass_len hL
              rw [e, List.length_append, List.length_cons] at z2
              rw [sizeLine_eq]
              omega
            walk_at "d"
            refine hI k _ _ _ rfl ⟨t, N, _, _, rfl, hx, ht.2, by omega, by omega, hN, fun d' c' h1 h2 => ?_⟩
            walk_at "d"
            exact hn _ ⟨Ld ++ [t], Lr, es ++ [d'], c + c', _, _, _, by rw [e]; simp, hr, hass_snoc hd h1, by rw [caps_snoc]; omega, by rw [Int.natCast_add]; rfl⟩
theorem vc__law_bent {K A} : ∀ n ds R RE, c__law_bent A n ds R RE → t__law_bent K A (rEnds R RE) (startD N__law_bent (some (.ow (some 0) n) :: ds.map fun d => some (.p d))) := by
  rintro n ds R RE ⟨hg, s, N, d, rfl, hs, ok, dep, hN, hcap, h⟩
  walk_at "d"
  refine ⟨s, N, d, _, _, rfl, hs, ok, dep, hN, fun d1 c1 h1 hc1 => ?_⟩
  walk_at "d"
  refine ⟨s, N, d, _, rfl, hs, ok, dep, by omega, hN, fun d2 c2 h2 hc2 => ?_⟩
  walk_at "d"
  refine fold_ind (fun r ε => ∃ (n : Nd) (es : List D) (s5 s6 : Option Sl), gs n ∧ (∀ x, x ∈ r → ∃ i : Int, x = .int i) ∧ es.length + r.length ≤ 7 ∧ (∀ x, x ∈ es → s.has N x) ∧ ε = [some (.ow (some 0) n), some (.p d), some (.ow none (.lst es)), some (.p (.int c1)), some (.p (.int c2)), s5, s6]) ?_ ?_ _ _ ⟨n, [d], _, _, hg, fun x hx => by
    simp only [List.mem_cons, List.not_mem_nil, or_false] at hx
    rcases hx with rfl | rfl | rfl | rfl | rfl | rfl <;> exact ⟨_, rfl⟩, by simp, fun x hx => by rw [List.mem_singleton.mp hx]; exact hs, rfl⟩
  · rintro ε ⟨n, es, s5, s6, hg, _, hl, he, rfl⟩
    walk_at "d"
    refine fold_range (fun k ε => ∃ (n : Nd) (es : List D) (s5 s6 : Option Sl), gs n ∧ es.length ≤ 7 + k ∧ (∀ x, x ∈ es → s.has N x) ∧ ε = [some (.ow (some 0) n), some (.p d), some (.ow none (.lst es)), some (.p (.int c1)), some (.p (.int c2)), s5, s6]) ?_ ?_ _ ⟨n, es, _, _, hg, by simpa using hl, he, rfl⟩
    · rintro ε ⟨n, es, s5, s6, hg, hl, he, rfl⟩
      walk_at "d"
      exact h n es hg (by simpa using hl) he
    · rintro k ε hk ⟨n, es, s5, s6, hg, hl, he, rfl⟩ nx hn
      have les : es.length < sizeLine := by
        rw [sizeLine_eq]
        have : k < 2 := by simpa using hk
        omega
      walk_at "d"
      · rename_i hc
        refine ⟨_, rfl, by omega, by omega, fun p n' hg' p0 p1 => ?_⟩
        walk_at "d"
        refine ⟨s, N, d, _, rfl, hs, ok, dep, by omega, hN, fun d3 c3 h3 hc3 => ?_⟩
        walk_at "d"
        exact hn _ ⟨n', es ++ [d3], _, _, hg', by rw [List.length_append, List.length_singleton]; omega, fun x hx => by
          rcases List.mem_append.mp hx with hx | hx
          · exact he x hx
          · rw [List.mem_singleton.mp hx]; exact h3, rfl⟩
      · exact hn _ ⟨n, es, _, _, hg, by omega, he, rfl⟩
  · rintro x r ε ⟨n, es, s5, s6, hg, hx, hl, he, rfl⟩ nx hn
    obtain ⟨i, rfl⟩ := hx x (by simp)
    rw [List.length_cons] at hl
    have les : es.length < sizeLine := by
      rw [sizeLine_eq]
      omega
    walk_at "d"
    · rename_i hc
      refine ⟨_, rfl, by omega, by omega, fun p n' hg' p0 p1 => ?_⟩
      walk_at "d"
      refine ⟨s, N, d, _, _, rfl, hs, ok, dep, hN, fun d3 c3 h3 hc3 => ?_⟩
      walk_at "d"
      exact hn _ ⟨n', es ++ [d3], _, _, hg', fun y hy => hx y (by simp [hy]), by rw [List.length_append, List.length_singleton]; omega, fun x hx => by
        rcases List.mem_append.mp hx with hx | hx
        · exact he x hx
        · rw [List.mem_singleton.mp hx]; exact h3, rfl⟩
    · exact hn _ ⟨n, es, _, _, hg, fun y hy => hx y (by simp [hy]), by omega, he, rfl⟩

theorem vc__law_power {K A} : ∀ ds R RE, c__law_power A ds R RE → t__law_power K A (pEnds R RE) (startD N__law_power (ds.map fun d => some (.p d))) := by
  intro ds R RE h
  unfold c__law_power at h
  split at h
  · rename_i b e
    obtain ⟨⟨he, he2, n, hn, hne⟩, h⟩ := h
    walk_at "d"
    refine ⟨by omega, ?_⟩
    walk_at "d"
    refine fold_range (fun k ε => ∃ st : Option Sl, ε = [some (.p (.int b)), some (.p (.int e)), some (.p (.int (b ^ k))), st]) ?_ ?_ _ ⟨none, ?_⟩
    · rintro _ ⟨st, rfl⟩
      walk_at "d"
      exact h
    · rintro k _ hk ⟨st, rfl⟩ nx hnx
      walk_at "d"
      refine ⟨?_, ?_⟩
      · refine mulC_of (sz_pow hn k) hn ?_
        have : n * k ≤ n * e.toNat := Nat.mul_le_mul_left _ (by omega)
        omega
      · walk_at "d"
        exact hnx _ ⟨_, by rw [Int.pow_succ]; rfl⟩
    · rw [Int.pow_zero]
  · exact h.elim

theorem vc_fraction {K A} : ∀ ds R RE, c_fraction A ds R RE → t_fraction K A (pEnds R RE) (startD N_fraction (ds.map fun d => some (.p d))) := by
  intro ds R RE h
  unfold c_fraction at h
  split at h
  · rename_i n u
    have hg2 : Int.gcd n u ≤ u.natAbs ∨ u = 0 := by
      by_cases hz : u = 0
      · exact .inr hz
      · exact .inl (Nat.le_of_dvd (by omega) (Int.gcd_dvd_natAbs_right n u))
    walk_at "d"
    · rename_i hc
      exact h.1 hc
    · rename_i hc hu
      obtain ⟨⟨_, hu2, hn, hm⟩, h⟩ := h.2 hc
      have hg : 0 < Int.gcd n u := Int.gcd_pos_of_ne_zero_right _ hc
      have hc2 : cm n u = -(Int.gcd n u : Int) := if_pos hu
      rw [hc2] at hn hm
      have dc : DivC (-(Int.gcd n u : Int)) := divC_big (a := 8000) (by omega) (Nat.lt_of_le_of_lt (show _ ≤ u.natAbs by omega) hu2) (by decide)
      walk_at "d"
      unfold frD at h
      rw [hc2] at h
      exact h
    · rename_i hc hu
      obtain ⟨⟨_, hu2, hn, hm⟩, h⟩ := h.2 hc
      have hg : 0 < Int.gcd n u := Int.gcd_pos_of_ne_zero_right _ hc
      have hc2 : cm n u = (Int.gcd n u : Int) := if_neg (by omega)
      rw [hc2] at hn hm
      have dc : DivC (Int.gcd n u : Int) := divC_big (a := 8000) (by omega) (Nat.lt_of_le_of_lt (show _ ≤ u.natAbs by omega) hu2) (by decide)
      walk_at "d"
      unfold frD at h
      rw [hc2] at h
      exact h
  · exact h.elim
theorem filt_map {α β : Type} (p : α → Bool) (c : α → β) (xs : List α) : xs.filterMap (fun x => if p x then some (c x) else none) = (xs.filter p).map c := by
  induction xs with
  | nil => rfl
  | cons x r ih => cases q : p x <;> simp [List.filterMap_cons, List.filter_cons, q, ih]
theorem vc_prime_of {K A} : ∀ ds R RE, c_prime_of A ds R RE → t_prime_of K A (pEnds R RE) (startD N_prime_of (ds.map fun d => some (.p d))) := by
  intro ds R RE h
  unfold c_prime_of at h
  split at h
  · rename_i p
    obtain ⟨h4, h⟩ := h
    have small : 2 ≤ p ∧ p ≤ 31 := by
      by_cases q : p = 4
      · omega
      · have := (h q).1; exact ⟨this.1, this.2.1⟩
    obtain ⟨s1, s2⟩ := small
    obtain ⟨P, rfl⟩ : ∃ P : Nat, p = P := ⟨p.toNat, by omega⟩
    have any : (((List.range ((P : Int) - 2).toNat).filter fun i : Nat => decide ((2 + (i : Int)) * (2 + (i : Int)) ≤ P)).map fun i : Nat => decide ((P : Int).fmod (2 + (i : Int)) = 0)).any id = decide (P = 4) := by
      by_cases q : P = 4
      · subst q; decide
      · rw [decide_eq_false q, List.any_eq_false]
        intro x hx
        obtain ⟨i, hi, rfl⟩ := List.mem_map.mp hx
        have hi := List.mem_range.mp (List.mem_filter.mp hi).1
        have := (h (by omega)).1.2.2 (2 + (i : Int)) (by omega) (by omega)
        rw [fmod_pos _ (show (0 : Int) < 2 + (i : Int) by omega)]
        simpa using this
    walk_at "d"
    · omega
    · refine ⟨⟨by decide, by decide, by omega, by omega⟩, rfl, rfl, ?_⟩
      refine lc_of (fun i : Nat => D.int (2 + (i : Int))) (fun i => if decide ((2 + (i : Int)) * (2 + (i : Int)) ≤ P) then some (D.bl (decide ((P : Int).fmod (2 + (i : Int)) = 0))) else none) (List.range ((P : Int) - 2).toNat) (by rw [List.length_range, sizeLine_eq]; omega) (fun i hi acc k ha hk => ?_) ?_
      · have mm : MulC (2 + (i : Int)) (2 + (i : Int)) := by have := List.mem_range.mp hi; exact mulC_small (by omega)
        have nz : (2 + (i : Int)) ≠ 0 := by omega
        walk_at "d"
        · rename_i c
          rw [decide_eq_true c] at hk
          exact hk
        · rename_i c
          rw [decide_eq_false (show ¬ (2 + (i : Int)) * (2 + (i : Int)) ≤ P by omega)] at hk
          simpa using hk
      · have e : (List.range ((P : Int) - 2).toNat).filterMap (fun i : Nat => if decide ((2 + (i : Int)) * (2 + (i : Int)) ≤ P) then some (D.bl (decide ((P : Int).fmod (2 + (i : Int)) = 0))) else none) = ((((List.range ((P : Int) - 2).toNat).filter fun i : Nat => decide ((2 + (i : Int)) * (2 + (i : Int)) ≤ P)).map fun i : Nat => decide ((P : Int).fmod (2 + (i : Int)) = 0))).map D.bl := by
          rw [filt_map (fun i : Nat => decide ((2 + (i : Int)) * (2 + (i : Int)) ≤ P)) (fun i : Nat => D.bl (decide ((P : Int).fmod (2 + (i : Int)) = 0))), List.map_map]
          rfl
        rw [e]
        walk_at "d"
        rw [blsOf_map]
        dsimp only
        rw [any]
        walk_at "d"
        · rename_i c
          exact h4 (by omega)
        · rename_i c
          exact (h (by omega)).2
    · omega
  · exact h.elim
theorem vc_places_of {K A} : ∀ ds R RE, c_places_of A ds R RE → t_places_of K A (pEnds R RE) (startD N_places_of (ds.map fun d => some (.p d))) := by
  intro ds R RE h
  unfold c_places_of at h
  split at h
  · rename_i b
    walk_at "d"
    · exact h.1 (fun z => by omega)
    · exact h.2 (by omega) (by omega)
    · exact h.1 (fun z => by omega)
  · exact h.elim
/-- Euclid's steps, with what they are made of -/
structure BkJ (a m x y l r : Int) : Prop where
  pos : 0 ≤ y
  lt : y < x
  dl : m ∣ a * l - x
  dr : m ∣ a * r - y
  gcd : Int.gcd x y = Int.gcd a m
  top : x ≤ m
  bnd : x * (r.natAbs : Int) + y * (l.natAbs : Int) ≤ m
theorem BkJ.rle {a m x y l r : Int} (j : BkJ a m x y l r) : r.natAbs ≤ m.natAbs := by
  have b := j.bnd
  have p := j.pos
  have q := j.lt
  have h1 : 1 * (r.natAbs : Int) ≤ x * (r.natAbs : Int) := Int.mul_le_mul_of_nonneg_right (by omega) (by omega)
  have h2 : 0 ≤ y * (l.natAbs : Int) := Int.mul_nonneg p (by omega)
  omega
theorem BkJ.step {a m x y l r : Int} (j : BkJ a m x y l r) (hy : y ≠ 0) : BkJ a m y (x - x.fdiv y * y) r (l - x.fdiv y * r) := by
  have y0 : 0 < y := by have := j.pos; omega
  have e : x - x.fdiv y * y = x.fmod y := by rw [Int.fmod_def, Int.mul_comm]
  have q0 : 0 ≤ x.fdiv y := by rw [fdiv_pos x y0]; exact Int.ediv_nonneg (by have := j.lt; omega) (by omega)
  obtain ⟨k1, e1⟩ := j.dl
  obtain ⟨k2, e2⟩ := j.dr
  refine ⟨by rw [e]; exact (fmod_in x y0).1, by rw [e]; exact (fmod_in x y0).2, j.dr, ⟨k1 - x.fdiv y * k2, ?_⟩, by rw [e, gcd_fmod]; exact j.gcd, by have := j.lt; have := j.top; omega, ?_⟩
  · have h1 : a * (x.fdiv y * r) = x.fdiv y * (m * k2 + y) := by rw [← e2, Int.sub_add_cancel, Int.mul_left_comm]
    rw [Int.mul_sub, Int.mul_sub, h1, Int.mul_add, Int.mul_left_comm m]
    omega
  · have b := j.bnd
    generalize x.fdiv y = q at *
    have h1 : ((l - q * r).natAbs : Int) ≤ (l.natAbs : Int) + q * (r.natAbs : Int) := by
      have : (l - q * r).natAbs ≤ l.natAbs + (q * r).natAbs := by omega
      rw [Int.natAbs_mul] at this
      have z : ((q.natAbs * r.natAbs : Nat) : Int) = q * (r.natAbs : Int) := by rw [Int.natCast_mul, Int.natAbs_of_nonneg q0]
      omega
    have h2 := Int.mul_le_mul_of_nonneg_left h1 (Int.le_of_lt y0)
    rw [Int.mul_add] at h2
    rw [Int.sub_mul]
    have h3 : y * (q * (r.natAbs : Int)) = q * y * (r.natAbs : Int) := by rw [Int.mul_comm q y, Int.mul_assoc]
    omega
theorem vc_back {K A} : ∀ ds R RE, c_back A ds R RE → t_back K A (pEnds R RE) (startD N_back (ds.map fun d => some (.p d))) := by
  intro ds R RE h
  unfold c_back at h
  split at h
  · rename_i a m
    obtain ⟨m2, hm, he, h⟩ := h
    have mz : m ≠ 0 := by omega
    have am := fmod_in a (show 0 < m by omega)
    walk_at "d"
    have j0 : BkJ a m m (a.fmod m) 0 1 := by
      refine ⟨am.1, am.2, ⟨-1, by omega⟩, ⟨a.fdiv m, ?_⟩, gcd_fmod a m, Int.le_refl _, by simp⟩
      rw [Int.fmod_def, Int.mul_one]; omega
    refine while_run (fun x : Int × Int × Int × Int × Option Sl => [some (.p (.int a)), some (.p (.int m)), some (.p (.int x.1)), some (.p (.int x.2.1)), some (.p (.int x.2.2.1)), some (.p (.int x.2.2.2.1)), x.2.2.2.2])
      (fun x => BkJ a m x.1 x.2.1 x.2.2.1 x.2.2.2.1) (fun x => x.2.1.toNat) (m, a.fmod m, 0, 1, none) rfl j0 ?_
    rintro ⟨x, y, l, r, s6⟩ hJ
    replace hJ : BkJ a m x y l r := hJ
    have j1 := hJ.pos
    have j2 := hJ.lt
    have hx : x ≤ m := hJ.top
    have sx : x.natAbs < 2 ^ 1000 := Nat.lt_of_le_of_lt (by omega) hm
    have sy : y.natAbs < 2 ^ 1000 := Nat.lt_of_le_of_lt (by omega) hm
    have sq : (x.fdiv y).natAbs < 2 ^ 1000 := by
      by_cases hy : y = 0
      · subst hy; rw [Int.fdiv_zero]; exact Nat.pow_pos (by decide)
      · rw [fdiv_pos x (by omega)]
        have := ediv_le_abs x y (by omega)
        omega
    have sr : r.natAbs < 2 ^ 1000 := Nat.lt_of_le_of_lt (show r.natAbs ≤ m.natAbs from hJ.rle) hm
    have m1 : MulC (x.fdiv y) y := mulC_of sq sy (by decide)
    have m2 : MulC (x.fdiv y) r := mulC_of sq sr (by decide)
    have dy : y ≠ 0 → DivC y := fun z => divC_big z sy (by decide)
    walk_at "d"
    · rename_i hc
      replace hc : y ≠ 0 := hc
      have d := dy hc
      walk_at "d"
      refine ⟨(x - x.fdiv y * y).toNat, ?_, (y, x - x.fdiv y * y, r, l - x.fdiv y * r, some (.p (.int (x.fdiv y)))), rfl, hJ.step hc, rfl⟩
      have := (hJ.step hc).lt
      have := (hJ.step hc).pos
      show (x - x.fdiv y * y).toNat < y.toNat
      omega
    · rename_i hc c
      replace hc : y = 0 := by simpa using hc
      subst hc
      have g := hJ.gcd
      rw [Int.gcd_zero_right] at g
      exact he (fun z => c (show x = 1 by omega))
    · rename_i hc c
      replace hc : y = 0 := by simpa using hc
      subst hc
      have g := hJ.gcd
      rw [Int.gcd_zero_right] at g
      replace c : x = 1 := by simpa using c
      have lm := fmod_in l (show 0 < m by omega)
      refine h (by omega) (l.fmod m) lm.1 lm.2 ?_
      obtain ⟨k, hk⟩ := hJ.dl
      refine ⟨k - a * l.fdiv m, ?_⟩
      rw [Int.fmod_def, Int.mul_sub, Int.mul_sub, ← Int.mul_assoc a m, Int.mul_comm a m, Int.mul_assoc m a]
      omega
  · exact h.elim

theorem rvl_bd {p : Int} (hp : 1 ≤ p) : ∀ {ws : List Int}, okd p ws → 0 ≤ rvl p ws ∧ rvl p ws < p ^ ws.length
  | [], _ => ⟨Int.le_refl _, by simp [rvl]⟩
  | x :: r, h => by
    obtain ⟨⟨h1, h2⟩, h3⟩ := okd_cons.mp h
    obtain ⟨i1, i2⟩ := rvl_bd hp h3
    rw [rvl, List.length_cons, Int.pow_succ]
    have m1 := Int.mul_nonneg (show 0 ≤ p by omega) i1
    have m2 := Int.mul_le_mul_of_nonneg_left (show rvl p r + 1 ≤ p ^ r.length by omega) (show 0 ≤ p by omega)
    rw [Int.mul_add, Int.mul_one, Int.mul_comm p (p ^ r.length)] at m2
    omega
/-- digits told by the rest -/
theorem rvl_same {p : Int} (hp : 2 ≤ p) : ∀ {xs ys : List Int}, okd p xs → okd p ys → xs.length = ys.length → p ^ xs.length ∣ rvl p xs - rvl p ys → xs = ys := by
  intro xs ys hx hy hl hd
  have bx := rvl_bd (show 1 ≤ p by omega) hx
  have byy := rvl_bd (show 1 ≤ p by omega) hy
  rw [← hl] at byy
  have e := dvd_small hd (by omega)
  have go : ∀ {xs ys : List Int}, okd p xs → okd p ys → xs.length = ys.length → rvl p xs = rvl p ys → xs = ys := by
    intro xs
    induction xs with
    | nil =>
      intro ys _ _ hl _
      exact (List.eq_nil_of_length_eq_zero hl.symm).symm
    | cons x r ih =>
      intro ys hx hy hl e
      cases ys with
      | nil => cases hl
      | cons y q =>
        obtain ⟨⟨x1, x2⟩, x3⟩ := okd_cons.mp hx
        obtain ⟨⟨y1, y2⟩, y3⟩ := okd_cons.mp hy
        rw [rvl, rvl] at e
        have exy : x = y := by
          have dv : p ∣ x - y := ⟨rvl p q - rvl p r, by rw [Int.mul_sub]; omega⟩
          have := dvd_small dv (by omega)
          omega
        subst exy
        have er : rvl p r = rvl p q := by
          have : p * (rvl p r - rvl p q) = 0 := by rw [Int.mul_sub]; omega
          rcases Int.mul_eq_zero.mp this with z | z <;> omega
        rw [ih x3 y3 (by simpa using hl) er]
  exact go hx hy hl (by omega)
/-- low digits, one by one -/
theorem low_step {p w l : Int} {fs : List Int} (hp : 0 < p) (h : rvl p fs + p ^ fs.length * l = w) : rvl p (fs ++ [l % p]) + p ^ (fs ++ [l % p]).length * (l / p) = w := by
  refine rv_step h ?_
  have := Int.mul_ediv_add_emod l p
  omega
theorem pr_pos {p : Int} (h : pr p) : 2 ≤ p ∧ p ≤ 31 := ⟨h.1, h.2.1⟩
theorem pr_cop {p a : Int} (h : pr p) (hn : ¬ p ∣ a) : Int.gcd a p = 1 := by
  have d1 := Int.gcd_dvd_left a p
  have d2 := Int.gcd_dvd_right a p
  have p2 := h.1
  have g0 : 0 < Int.gcd a p := Int.gcd_pos_of_ne_zero_right _ (by omega)
  have gl : ((Int.gcd a p : Nat) : Int) ≤ p := Int.le_of_dvd (by omega) d2
  by_cases e1 : Int.gcd a p = 1
  · exact e1
  · exfalso
    by_cases e2 : ((Int.gcd a p : Nat) : Int) = p
    · rw [e2] at d1; exact hn d1
    · exact h.2.2 _ (by omega) (by omega) (Int.emod_eq_zero_of_dvd d2)
theorem pr_not4 {p : Int} (h : pr p) : p ≠ 4 := fun e => by
  subst e
  exact h.2.2 2 (by decide) (by decide) (by decide)
theorem cop_pow2 {a p : Int} (h : Int.gcd a p = 1) (k : Nat) : Int.gcd a (p ^ k) = 1 := by
  rw [Int.gcd_comm]
  exact cop_pow (by rw [Int.gcd_comm]; exact h) k
theorem of_stage {K A} {R : Vl → Prop} {RE : Er → Prop} {p n u : Int} {d : D} {k : Nat} (hp : pr p) (hk : k ≤ 31) (h : ∀ ws, okd p ws → ws.length = k → p ^ k ∣ rvl p ws * u - n → R (.p (tI ws))) (w : Int) (w0 : 0 ≤ w) (w1 : w < p ^ k) (wd : p ^ k ∣ w * u - n) (s5 : Option Sl) :
    t_of_fraction_4 K A (pEnds R RE) [some (.p (.int p)), some (.p d), some (.p (.int k)), some (.p (.int n)), some (.p (.int u)), s5, some (.p (.int w)), none, none] := by
  have p2 := pr_pos hp
  have pz : p ≠ 0 := by omega
  have dp : DivC p := divC_small (by omega) (by omega)
  walk_at "d"
  refine ⟨by omega, ?_⟩
  rw [Int.toNat_natCast]
  refine fold_range (fun j ε => ∃ (fs : List Int) (l : Int) (s8 : Option Sl), fs.length = j ∧ okd p fs ∧ 0 ≤ l ∧ rvl p fs + p ^ fs.length * l = w ∧ ε = [some (.p (.int p)), some (.p d), some (.p (.int k)), some (.p (.int n)), some (.p (.int u)), s5, some (.p (.int l)), some (.ow none (.lst (fs.map .int))), s8]) ?_ ?_ _ ⟨[], w, _, rfl, okd_nil _, w0, by simp [rvl], rfl⟩
  · rintro ε ⟨fs, l, s8, hl, ok, l0, hv, rfl⟩
    walk_at "d"
    have b := rvl_bd (show 1 ≤ p by omega) ok
    have pp := pow_pos (show 0 < p by omega) fs.length
    have lz : l = 0 := by
      by_cases z : l = 0
      · exact z
      · exfalso
        have := Int.mul_le_mul_of_nonneg_left (show 1 ≤ l by omega) (Int.le_of_lt pp)
        rw [← hl] at w1
        omega
    subst lz
    refine h fs ok hl ?_
    have e : rvl p fs = w := by rw [← hv]; simp
    rw [e]; exact wd
  · rintro j ε hj ⟨fs, l, s8, hl, ok, l0, hv, rfl⟩ nx hnx
    have sf : (fs.map D.int).length < sizeLine := by rw [List.length_map, sizeLine_eq]; omega
    walk_at "d"
    rw [fmod_pos l (show 0 < p by omega), fdiv_pos l (show 0 < p by omega)]
    refine hnx _ ⟨fs ++ [l % p], l / p, some (.p (.int (0 + (j : Nat)))), by rw [List.length_append, hl]; rfl, okd_append.mpr ⟨ok, okd_cons.mpr ⟨⟨Int.emod_nonneg _ (by omega), Int.emod_lt_of_pos _ (by omega)⟩, okd_nil _⟩⟩, Int.ediv_nonneg l0 (by omega), low_step (by omega) hv, ?_⟩
    rw [List.map_append]; rfl
theorem vc_of_fraction {K A} : ∀ ds R RE, c_of_fraction A ds R RE → t_of_fraction K A (pEnds R RE) (startD N_of_fraction (ds.map fun d => some (.p d))) := by
  rintro ds R RE ⟨p, d, n, u, k, rfl, hsq, hn, hu, hbad, h⟩
  walk_at "d"
  refine ⟨d, n, u, rfl, hsq, hbad, fun hk => ?_⟩
  obtain ⟨h4, h⟩ := h hk
  walk_at "d"
  intro p4
  obtain ⟨hp, hb, h⟩ := h p4
  have p2 := pr_pos hp
  have pz : p ≠ 0 := by omega
  have eu : u.fmod p = u % p := fmod_pos u (by omega)
  refine ⟨hp, ?_⟩
  walk_at "s"
  · rename_i c
    rw [eu] at c
    exact hb c
  rename_i c
  rw [eu] at c
  obtain ⟨hlim, h⟩ := h c
  refine .mk ?_
  walk_at "s"
  intro k0 k200
  obtain ⟨k31, h⟩ := h k0 k200
  obtain ⟨k, rfl⟩ : ∃ j : Nat, k = j := ⟨k.toNat, by omega⟩
  rw [Int.toNat_natCast] at h
  have cop : Int.gcd u (p ^ k) = 1 := cop_pow2 (pr_cop hp fun z => c (Int.emod_eq_zero_of_dvd z)) k
  have sp : (p ^ k).natAbs < 2 ^ 200 := sz_mono (sz_pow (a := 5) (show p.natAbs < 2 ^ 5 by omega) k) (by omega)
  have pp := pow_pos (show 0 < p by omega) k
  walk_at "s"
  refine ⟨fun z => absurd z (by omega), fun _ => ⟨⟨5, by omega, by rw [Int.toNat_natCast]; omega⟩, ?_⟩⟩
  rw [Int.toNat_natCast]
  walk_at "s"
  refine .mk ?_
  walk_at "s"
  · rename_i c2
    refine ⟨Nat.lt_of_lt_of_le sp (Nat.pow_le_pow_right (by decide) (by decide)), fun z => absurd cop z, fun _ x x0 x1 xd => ?_⟩
    have sx : x.natAbs < 2 ^ 200 := Nat.lt_of_le_of_lt (by omega) sp
    have mm : MulC n x := mulC_of hn sx (by decide)
    have pz2 : p ^ k ≠ 0 := by omega
    walk_at "s"
    refine .mk ?_
    rw [fmod_pos _ pp]
    refine of_stage hp (by omega) h _ (Int.emod_nonneg _ pz2) (Int.emod_lt_of_pos _ pp) ?_ _
    obtain ⟨q, hq⟩ := xd
    have e := Int.mul_ediv_add_emod (n * x) (p ^ k)
    refine ⟨n * q - (n * x) / p ^ k * u, ?_⟩
    have e1 : (n * x) % p ^ k = n * x - p ^ k * ((n * x) / p ^ k) := by omega
    have e2 : n * x * u = n * (p ^ k * q) + n := by rw [← hq, Int.mul_sub, Int.mul_one, Int.mul_assoc, Int.mul_comm x u]; omega
    rw [e1, Int.sub_mul, e2, Int.mul_sub, Int.mul_left_comm n, Int.mul_assoc (p ^ k)]
    omega
  · rename_i c2
    have one : p ^ k = 1 := by omega
    refine .mk ?_
    refine of_stage hp (by omega) h 0 (Int.le_refl _) (by omega) ?_ _
    rw [one]
    exact Int.one_dvd _
theorem smp_bound {x : Int} (hx : x.natAbs < 2 ^ 100) : ∀ {ns : List Int}, (∀ c, c ∈ ns → c.natAbs ≤ 10000) → (rvl x ns).natAbs < 2 ^ (101 * ns.length + 14)
  | [], _ => by simp [rvl]
  | c :: r, h => by
    have i := smp_bound hx (ns := r) fun d hd => h d (by simp [hd])
    have hc := h c (by simp)
    rw [rvl, List.length_cons]
    have m : (x * rvl x r).natAbs < 2 ^ (100 + (101 * r.length + 14)) := sz_mul hx i
    have e : 2 ^ (101 * (r.length + 1) + 14) = 2 * 2 ^ (100 + (101 * r.length + 14)) := by
      rw [show 101 * (r.length + 1) + 14 = (100 + (101 * r.length + 14)) + 1 by omega, Nat.pow_succ, Nat.mul_comm]
    have g : 2 ^ 14 ≤ 2 ^ (100 + (101 * r.length + 14)) := Nat.pow_le_pow_right (by decide) (by omega)
    rw [e]
    omega
theorem rvl_app (b : Int) : ∀ (xs ys : List Int), rvl b (xs ++ ys) = rvl b xs + b ^ xs.length * rvl b ys
  | [], ys => by simp [rvl]
  | x :: r, ys => by
    show x + b * rvl b (r ++ ys) = x + b * rvl b r + _
    rw [rvl_app b r ys, List.length_cons, Int.pow_succ, Int.mul_add, Int.mul_comm (b ^ r.length) b, Int.mul_assoc]
    omega
theorem vc_polynomial_at {K A} : ∀ ds R RE, c_polynomial_at A ds R RE → t_polynomial_at K A (pEnds R RE) (startD N_polynomial_at (ds.map fun d => some (.p d))) := by
  rintro ds R RE ⟨ns, x, rfl, hs, hx, h⟩
  walk_at "d"
  rw [← List.map_reverse]
  refine fold_map D.int (fun r ε => ∃ (done : List Int) (s3 : Option Sl), ns.reverse = done ++ r ∧ ε = [some (.p (tI ns)), some (.p (.int x)), some (.p (.int (rvl x done.reverse))), s3]) ?_ ?_ ns.reverse _ ⟨[], _, rfl, rfl⟩
  · rintro ε ⟨done, s3, e, rfl⟩
    rw [List.append_nil] at e
    walk_at "d"
    rw [← e, List.reverse_reverse]
    exact h
  · rintro c r ε ⟨done, s3, e, rfl⟩ nx hn
    have len : done.length ≤ 6 := by
      have := congrArg List.length e
      rw [List.length_reverse, List.length_append] at this
      have := hs.1
      omega
    have sb := smp_bound hx (ns := done.reverse) fun c hc => hs.2 c (by
      have : c ∈ ns.reverse := by rw [e]; exact List.mem_append_left _ (List.mem_reverse.mp hc)
      exact List.mem_reverse.mp this)
    rw [List.length_reverse] at sb
    have mm : MulC (rvl x done.reverse) x := mulC_of sb hx (by omega)
    walk_at "d"
    refine hn _ ⟨done ++ [c], some (.p (.int c)), by rw [e]; simp, ?_⟩
    rw [List.reverse_append, List.reverse_cons, List.reverse_nil, List.nil_append, List.cons_append, List.nil_append, rvl, Int.mul_comm x, Int.add_comm c]
    rfl
theorem vc__law_value {K A} : ∀ ds R RE, c__law_value A ds R RE → t__law_value K A (pEnds R RE) (startD N__law_value (ds.map fun d => some (.p d))) := by
  rintro ds R RE ⟨p, ws, rfl, hp, h⟩
  have mb : ∀ w : Int, MulC w p := fun w => mulC_small' hp
  walk_at "d"
  rw [← List.map_reverse]
  refine fold_map D.int (fun r ε => ∃ (done : List Int) (s3 : Option Sl), ws.reverse = done ++ r ∧ ε = [some (.p (.int p)), some (.p (tI ws)), some (.p (.int (rvl p done.reverse))), s3]) ?_ ?_ ws.reverse _ ⟨[], _, rfl, rfl⟩
  · rintro ε ⟨done, s3, e, rfl⟩
    rw [List.append_nil] at e
    walk_at "d"
    rw [← e, List.reverse_reverse]
    exact h
  · rintro c r ε ⟨done, s3, e, rfl⟩ nx hn
    have mm := mb (rvl p done.reverse)
    walk_at "d"
    refine hn _ ⟨done ++ [c], some (.p (.int c)), by rw [e]; simp, ?_⟩
    rw [List.reverse_append, List.reverse_cons, List.reverse_nil, List.nil_append, List.cons_append, List.nil_append, rvl, Int.mul_comm p, Int.add_comm c]
    rfl
theorem vc__law_at {K A} : ∀ ds R RE, c__law_at A ds R RE → t__law_at K A (pEnds R RE) (startD N__law_at (ds.map fun d => some (.p d))) := by
  rintro ds R RE ⟨ns, x, rfl, hs, hx, h⟩
  walk_at "d"
  refine fold_map D.int (fun r ε => ∃ (done : List Int) (s4 : Option Sl), ns = done ++ r ∧ ε = [some (.p (tI ns)), some (.p (.int x)), some (.p (.int (rvl x done))), some (.p (.int (x ^ done.length))), s4]) ?_ ?_ ns _ ⟨[], none, rfl, by rw [show x ^ ([] : List Int).length = 1 from Int.pow_zero x]; rfl⟩
  · rintro ε ⟨done, s3, e, rfl⟩
    rw [List.append_nil] at e
    subst e
    walk_at "d"
    exact h
  · rintro c r ε ⟨done, s3, e, rfl⟩ nx hn
    have len : done.length ≤ 6 := by
      have := congrArg List.length e
      rw [List.length_append] at this
      have := hs.1
      omega
    have hc := hs.2 c (by rw [e]; simp)
    have sp : (x ^ done.length).natAbs < 2 ^ 700 := sz_mono (sz_pow hx done.length) (by omega)
    have m1 : MulC c (x ^ done.length) := mulC_small (by omega)
    have m2 : MulC (x ^ done.length) x := mulC_of sp hx (by decide)
    walk_at "d"
    refine hn _ ⟨done ++ [c], some (.p (.int c)), by rw [e]; simp, ?_⟩
    rw [rvl_snoc, List.length_append, List.length_singleton, Int.pow_succ, Int.mul_comm c]
    rfl
theorem scl_range : ∀ (k : Int) (r : List Int), scl k r = (List.range r.length).map fun i : Nat => (k + i) * r.getD i 0
  | _, [] => rfl
  | k, c :: r => by
    rw [scl, scl_range (k + 1) r, List.length_cons, List.range_succ_eq_map, List.map_cons, List.map_map]
    congr 1
    · simp
    · refine List.map_congr_left fun i _ => ?_
      show (k + 1 + (i : Int)) * r.getD i 0 = (k + ((i + 1 : Nat) : Int)) * (c :: r).getD (i + 1) 0
      rw [show k + 1 + (i : Int) = k + ((i + 1 : Nat) : Int) by omega]
      rfl
theorem sl_range (ns : List Int) : sl ns = (List.range (ns.length - 1)).map fun i : Nat => (1 + (i : Int)) * ns.getD (i + 1) 0 := by
  unfold sl
  rw [scl_range, List.length_tail]
  refine List.map_congr_left fun i _ => ?_
  cases ns <;> simp
theorem cut_tail {α : Type} (xs : List α) : DL.cutD xs (some 1) none = xs.tail := by
  unfold DL.cutD
  cases xs with
  | nil => rfl
  | cons x r =>
    have e1 : HT.sIx (x :: r).length 0 (some 1) = 1 := by simp [HT.sIx]
    have e2 : HT.sIx (x :: r).length (x :: r).length none = (x :: r).length := rfl
    rw [e1, e2]
    simp
theorem vc_slope {K A} : ∀ ds R RE, c_slope A ds R RE → t_slope K A (pEnds R RE) (startD N_slope (ds.map fun d => some (.p d))) := by
  rintro ds R RE ⟨ns, rfl, hl, h⟩
  have lN : (ns.map D.int).length = ns.length := List.length_map ..
  walk_at "d"
  unfold enumL
  rw [lN]
  refine lc_all (fun i : Nat => D.tup [.int (i : Nat), (ns.map D.int).getD i .non]) D.int (fun i : Nat => (i : Int) * ns.getD i 0) (List.range ns.length) (by rw [List.length_range, sizeLine_eq]; omega) (fun i hi acc k ha hk => ?_) ?_
  · have hi := List.mem_range.mp hi
    have g1 : (ns.map D.int).getD i .non = .int (ns.getD i 0) := by
      rw [List.getD_eq_getElem?_getD, List.getElem?_map, List.getD_eq_getElem?_getD, List.getElem?_eq_getElem hi]; rfl
    have mm : MulC (i : Int) (ns.getD i 0) := mulC_small (by omega)
    rw [g1]
    walk_at "d"
    exact hk
  · walk_at "d"
    rw [cut_tail]
    have e : ((List.range ns.length).map fun i : Nat => (i : Int) * ns.getD i 0).tail = sl ns := by
      rw [sl_range]
      cases ns with
      | nil => rfl
      | cons c r =>
        rw [List.length_cons, Nat.add_sub_cancel, List.range_succ_eq_map, List.map_cons, List.tail_cons, List.map_map]
        refine List.map_congr_left fun i _ => ?_
        show ((i + 1 : Nat) : Int) * (c :: r).getD (i + 1) 0 = (1 + (i : Int)) * (c :: r).getD (i + 1) 0
        rw [show (1 : Int) + i = ((i + 1 : Nat) : Int) by omega]
    rw [← List.map_tail, e]
    exact h
theorem vc__law_slope {K A} : ∀ ds R RE, c__law_slope A ds R RE → t__law_slope K A (pEnds R RE) (startD N__law_slope (ds.map fun d => some (.p d))) := by
  rintro ds R RE ⟨ns, rfl, hl, h⟩
  have lN : (ns.map D.int).length = ns.length := List.length_map ..
  walk_at "d"
  refine ⟨by omega, rfl, rfl, ?_⟩
  refine lc_all (fun i : Nat => D.int (1 + (i : Nat))) D.int (fun i : Nat => (1 + (i : Int)) * ns.getD (i + 1) 0) (List.range (((ns.map D.int).length : Int) - 1).toNat) (by rw [List.length_range, sizeLine_eq]; omega) (fun i hi acc k ha hk => ?_) ?_
  · have hi := List.mem_range.mp hi
    have g1 : atI (ns.map D.int) (1 + (i : Nat)) = some (.int (ns.getD (i + 1) 0)) := by
      rw [show (1 : Int) + (i : Nat) = ((i + 1 : Nat) : Int) by omega]; exact at_ints (DL.getD_at (by omega))
    have mm : MulC (1 + (i : Int)) (ns.getD (i + 1) 0) := mulC_small (by omega)
    walk_at "d"
    rw [g1]
    walk_at "d"
    exact hk
  · walk_at "d"
    rw [sl_range] at h
    rw [show (((ns.map D.int).length : Int) - 1).toNat = ns.length - 1 by omega]
    exact h

theorem getD_map (ws : List Int) (i : Nat) (h : i < ws.length) : (ws.map D.int).getD i .non = .int (ws.getD i 0) := by
  rw [List.getD_eq_getElem?_getD, List.getElem?_map, List.getD_eq_getElem?_getD, List.getElem?_eq_getElem h]; rfl
theorem take_more {xs : List Int} {j : Nat} (h : j < xs.length) : xs.take (j + 1) = xs.take j ++ [xs.getD j 0] := by
  rw [List.take_succ, DL.getD_at h]; rfl
theorem rvl_more (p : Int) {xs : List Int} {j : Nat} (h : j < xs.length) : rvl p (xs.take (j + 1)) = rvl p (xs.take j) + p ^ j * xs.getD j 0 := by
  rw [take_more h, rvl_snoc, List.length_take, Nat.min_eq_left (Nat.le_of_lt h)]
theorem sum_snoc (l : List Int) (x : Int) : (l ++ [x]).sum = l.sum + x := by
  induction l with
  | nil => simp
  | cons y r ih => rw [List.cons_append, List.sum_cons, List.sum_cons, ih, Int.add_assoc]
theorem sum_pw (p : Int) (xs : List Int) : ∀ j, j ≤ xs.length → ((List.range j).map fun i => xs.getD i 0 * p ^ i).sum = rvl p (xs.take j)
  | 0, _ => by simp [rvl]
  | j + 1, h => by
    rw [List.range_succ, List.map_append, List.map_singleton, sum_snoc, sum_pw p xs j (by omega), rvl_more p (by omega), Int.mul_comm (xs.getD j 0)]
theorem okd_get {p : Int} (hp : 1 ≤ p) {xs : List Int} (h : okd p xs) (j : Nat) : 0 ≤ xs.getD j 0 ∧ xs.getD j 0 < p := by
  rw [List.getD_eq_getElem?_getD]
  cases e : xs[j]? with
  | none => exact ⟨Int.le_refl _, by show (0 : Int) < p; omega⟩
  | some d => exact h d (List.mem_of_getElem? e)
theorem sz_p {p : Int} (hp : pr p) (k : Nat) : (p ^ k).natAbs < 2 ^ (5 * k + 1) := sz_pow (show p.natAbs < 2 ^ 5 by have := pr_pos hp; omega) k
theorem vc_added {K A} : ∀ ds R RE, c_added A ds R RE → t_added K A (pEnds R RE) (startD N_added (ds.map fun d => some (.p d))) := by
  rintro ds R RE ⟨p, xs, ys, rfl, hp, hl, hx, ox, oy, h⟩
  have p2 := pr_pos hp
  have pz : p ≠ 0 := by omega
  have dp : DivC p := divC_small (by omega) (by omega)
  walk_at "d"
  unfold zipL
  rw [show min (xs.map D.int).length (ys.map D.int).length = xs.length by rw [List.length_map, List.length_map]; omega]
  refine fold_idx _ (fun j ε => ∃ (fs : List Int) (c : Int) (s5 s6 s7 : Option Sl), fs.length = j ∧ okd p fs ∧ rvl p fs + p ^ j * c = rvl p (xs.take j) + rvl p (ys.take j) ∧ ε = [some (.p (.int p)), some (.p (tI xs)), some (.p (tI ys)), some (.p (.int c)), some (.ow none (.lst (fs.map .int))), s5, s6, s7]) ?_ ?_ _ ⟨[], 0, _, _, _, rfl, okd_nil _, by simp [rvl], rfl⟩
  · rintro ε ⟨fs, c, s5, s6, s7, hf, ok, hv, rfl⟩
    walk_at "d"
    refine h fs ok hf ⟨-c, ?_⟩
    rw [List.take_of_length_le (Nat.le_refl _), List.take_of_length_le (by omega)] at hv
    rw [Int.mul_neg]; omega
  · rintro j ε hj ⟨fs, c, s5, s6, s7, hf, ok, hv, rfl⟩ nx hnx
    have sf : (fs.map D.int).length < sizeLine := by rw [List.length_map, sizeLine_eq]; omega
    rw [getD_map xs j hj, getD_map ys j (by omega)]
    walk_at "d"
    refine ⟨fun z => absurd z (pr_not4 hp), fun _ => ⟨hp, ?_⟩⟩
    walk_at "d"
    rw [fmod_pos _ (show 0 < p by omega), fdiv_pos _ (show 0 < p by omega)]
    have em := Int.mul_ediv_add_emod (xs.getD j 0 + ys.getD j 0 + c) p
    generalize hw : xs.getD j 0 + ys.getD j 0 + c = w at *
    refine hnx _ ⟨fs ++ [w % p], w / p, some (.p (.int (xs.getD j 0))), some (.p (.int (ys.getD j 0))), some (.p (.int w)), by rw [List.length_append, hf]; rfl, okd_append.mpr ⟨ok, okd_cons.mpr ⟨⟨Int.emod_nonneg _ (by omega), Int.emod_lt_of_pos _ (by omega)⟩, okd_nil _⟩⟩, ?_, ?_⟩
    · rw [rvl_more p hj, rvl_more p (show j < ys.length by omega), rvl_snoc, hf, Int.pow_succ, Int.mul_assoc]
      have e : p ^ j * (w % p) + p ^ j * (p * (w / p)) = p ^ j * xs.getD j 0 + p ^ j * ys.getD j 0 + p ^ j * c := by
        rw [← Int.mul_add, ← Int.mul_add, ← Int.mul_add]
        congr 1; omega
      omega
    · rw [List.map_append]; rfl
theorem lc_enum {tg : Tg} {tt : DT} {te : DE} {vs : List Nat} {ε0 : Sg} {R : List D → Prop} (g : Nat → Int) (ws : List Int) (hl : ws.length ≤ 10000)
    (hs : ∀ i, i < ws.length → ∀ (acc : List D) (k : List D → Prop), acc.length < sizeLine → k (acc ++ [.int (g i)]) → lcStep tg tt te vs ε0 (.tup [.int (i : Nat), .int (ws.getD i 0)]) acc k) (h : R (((List.range ws.length).map g).map D.int)) :
    DLC tg tt te vs ε0 R (enumL (ws.map D.int)) := by
  unfold enumL
  rw [List.length_map]
  refine lc_all (fun i : Nat => D.tup [.int (i : Nat), (ws.map D.int).getD i .non]) D.int g (List.range ws.length) (by rw [List.length_range, sizeLine_eq]; omega) (fun i hi acc k ha hk => ?_) h
  have hi := List.mem_range.mp hi
  rw [getD_map ws i hi]
  exact hs i hi acc k ha hk
theorem cut_n {α : Type} (xs : List α) (k : Nat) (h : k ≤ xs.length) : DL.cutD xs none (some (k : Int)) = xs.take k := by
  unfold DL.cutD
  have e1 : HT.sIx xs.length 0 none = 0 := rfl
  have e2 : HT.sIx xs.length xs.length (some (k : Int)) = k := by rw [HT.sIx_nat]; omega
  rw [e1, e2]; rfl
theorem pw_mul {p x : Int} (hp : pr p) (h0 : 0 ≤ x) (h1 : x < p) {i : Nat} : MulC x (p ^ i) := mulC_small (by have := pr_pos hp; omega)
theorem rvl_sz {p : Int} (hp : pr p) {ws : List Int} (h : okd p ws) {k : Nat} (hl : ws.length ≤ k) : (rvl p ws).natAbs < 2 ^ (5 * k + 1) := by
  have b := rvl_bd (show 1 ≤ p by have := pr_pos hp; omega) h
  have s := sz_p hp ws.length
  refine Nat.lt_of_lt_of_le (show (rvl p ws).natAbs < 2 ^ (5 * ws.length + 1) by omega) (Nat.pow_le_pow_right (by decide) (by omega))
theorem vc_product {K A} : ∀ ds R RE, c_product A ds R RE → t_product K A (pEnds R RE) (startD N_product (ds.map fun d => some (.p d))) := by
  rintro ds R RE ⟨p, xs, ys, rfl, hp, hl, hx, ox, oy, h⟩
  have p2 := pr_pos hp
  have pz : p ≠ 0 := by omega
  have dp : DivC p := divC_small (by omega) (by omega)
  have lx : (xs.map D.int).length = xs.length := List.length_map ..
  have ly : (ys.map D.int).length = ys.length := List.length_map ..
  have es : min ((xs.map D.int).length : Int) ((ys.map D.int).length : Int) = (xs.length : Nat) := by omega
  have pw : ∀ i : Nat, i < 100 → (∃ n : Nat, p.natAbs < 2 ^ n ∧ 2 * n * ((i : Nat) : Int).toNat < 900000) := fun i hi => ⟨5, by omega, by rw [Int.toNat_natCast]; omega⟩
  have sx := sum_pw p xs xs.length (Nat.le_refl _)
  have sy := sum_pw p ys ys.length (Nat.le_refl _)
  rw [List.take_of_length_le (Nat.le_refl _)] at sx sy
  have mm : MulC (rvl p xs) (rvl p ys) := mulC_of (rvl_sz hp ox (k := 100) hx) (rvl_sz hp oy (k := 100) (by omega)) (by decide)
  walk_at "s"
  rw [es]
  refine .mk ?_
  walk_at "s"
  rw [cut_n _ _ (by omega), ← List.map_take, List.take_of_length_le (Nat.le_refl _)]
  refine lc_enum (fun i => xs.getD i 0 * p ^ i) xs (by omega) (fun i hi acc k ha hk => ?_) ?_
  · have hd := okd_get (show 1 ≤ p by omega) ox i
    have m := pw_mul hp hd.1 hd.2 (i := i)
    walk_at "d"
    refine ⟨fun z => absurd z (pr_not4 hp), fun _ => ⟨hp, ?_⟩⟩
    walk_at "d"
    refine ⟨fun z => absurd z (by omega), fun _ => ⟨pw i (by omega), ?_⟩⟩
    rw [Int.toNat_natCast]
    walk_at "d"
    exact hk
  walk_at "s"
  rw [intsOf_map]
  dsimp only
  rw [sx]
  walk_at "s"
  refine .mk ?_
  walk_at "s"
  rw [cut_n _ _ (by omega), ← List.map_take, List.take_of_length_le (by omega)]
  refine lc_enum (fun i => ys.getD i 0 * p ^ i) ys (by omega) (fun i hi acc k ha hk => ?_) ?_
  · have hd := okd_get (show 1 ≤ p by omega) oy i
    have m := pw_mul hp hd.1 hd.2 (i := i)
    walk_at "d"
    refine ⟨fun z => absurd z (by omega), fun _ => ⟨pw i (by omega), ?_⟩⟩
    rw [Int.toNat_natCast]
    walk_at "d"
    exact hk
  walk_at "s"
  rw [intsOf_map]
  dsimp only
  rw [sy]
  walk_at "d"
  refine ⟨by omega, ?_⟩
  rw [Int.toNat_natCast]
  have W0 := Int.mul_nonneg (rvl_bd (show 1 ≤ p by omega) ox).1 (rvl_bd (show 1 ≤ p by omega) oy).1
  generalize hW : rvl p xs * rvl p ys = W at *
  refine fold_range (fun j ε => ∃ (fs : List Int) (l : Int) (s6 : Option Sl), fs.length = j ∧ okd p fs ∧ rvl p fs + p ^ fs.length * l = W ∧ ε = [some (.p (.int p)), some (.p (tI xs)), some (.p (tI ys)), some (.p (.int (xs.length : Nat))), some (.p (.int l)), some (.ow none (.lst (fs.map .int))), s6, none, none, none]) ?_ ?_ _ ⟨[], W, _, rfl, okd_nil _, by simp [rvl], rfl⟩
  · rintro ε ⟨fs, l, s6, hf, ok, hv, rfl⟩
    walk_at "d"
    refine h fs ok hf ⟨-l, ?_⟩
    rw [hf] at hv
    rw [Int.mul_neg]; omega
  · rintro j ε hj ⟨fs, l, s6, hf, ok, hv, rfl⟩ nx hnx
    have sf : (fs.map D.int).length < sizeLine := by rw [List.length_map, sizeLine_eq]; omega
    walk_at "d"
    rw [fmod_pos l (show 0 < p by omega), fdiv_pos l (show 0 < p by omega)]
    refine hnx _ ⟨fs ++ [l % p], l / p, some (.p (.int (0 + (j : Nat)))), by rw [List.length_append, hf]; rfl, okd_append.mpr ⟨ok, okd_cons.mpr ⟨⟨Int.emod_nonneg _ (by omega), Int.emod_lt_of_pos _ (by omega)⟩, okd_nil _⟩⟩, low_step (by omega) hv, ?_⟩
    rw [List.map_append]; rfl
theorem vc_own_squares {K A} : ∀ ds R RE, c_own_squares A ds R RE → t_own_squares K A (pEnds R RE) (startD N_own_squares (ds.map fun d => some (.p d))) := by
  intro ds R RE h
  unfold c_own_squares at h
  split at h
  · rename_i b k
    obtain ⟨b1, k1, hbad, h⟩ := h
    walk_at "s"
    · exact hbad (.inl (by omega))
    · exact hbad (.inr (.inl (by omega)))
    · rename_i c1 c2
      obtain ⟨k, rfl⟩ : ∃ j : Nat, k = j := ⟨k.toNat, by omega⟩
      refine ⟨fun z => absurd z (by omega), fun _ => ⟨⟨7, by omega, by rw [Int.toNat_natCast]; omega⟩, ?_⟩⟩
      walk_at "s"
      · rename_i c3
        exact hbad (.inr (.inr c3))
      · rename_i c3
        replace h := h c1 c2 c3
        refine ⟨fun z => absurd z (by omega), fun _ => ⟨⟨7, by omega, by rw [Int.toNat_natCast]; omega⟩, ?_⟩⟩
        have pp := pow_pos (show 0 < b by omega) (k : Int).toNat
        generalize b ^ (k : Int).toNat = w at *
        obtain ⟨W, rfl⟩ : ∃ j : Nat, w = j := ⟨w.toNat, by omega⟩
        rw [Int.toNat_natCast] at h
        have wz : (W : Int) ≠ 0 := by omega
        walk_at "d"
        refine ⟨by omega, rfl, rfl, ?_⟩
        rw [Int.toNat_natCast]
        have er : rangeL 0 W = ((List.range W).map fun i : Nat => (i : Int)).map D.int := by
          unfold rangeL
          rw [List.map_map]
          exact List.map_congr_left fun i _ => by show D.int (0 + (i : Int)) = D.int i; rw [Int.zero_add]
        rw [er]
        refine lc_filter D.int (fun n => decide ((n * n - n) % (W : Int) = 0)) _ (by rw [List.length_map, List.length_range, sizeLine_eq]; omega) (fun n hn acc kk ha h1 h0 => ?_) ?_
        · obtain ⟨i, hi, rfl⟩ := List.mem_map.mp hn
          have hi := List.mem_range.mp hi
          have m : MulC (i : Int) (i : Int) := mulC_small (by omega)
          have e : ((i : Int) * (i : Int) - (i : Int)).fmod (W : Int) = ((i : Int) * (i : Int) - (i : Int)) % (W : Int) := fmod_pos _ (by omega)
          walk_at "d"
          · rename_i c
            rw [e] at c
            exact h1 (decide_eq_true c)
          · rename_i c
            rw [e] at c
            exact h0 (decide_eq_false c)
        · walk_at "d"
          exact h
  · exact h.elim
theorem vc_often {K A} : ∀ ds R RE, c_often A ds R RE → t_often K A (pEnds R RE) (startD N_often (ds.map fun d => some (.p d))) := by
  rintro ds R RE ⟨p, d, n, u, rfl, hsq, u0, hg, hp, hn, hu, hz, h⟩
  have p2 := pr_pos hp
  have pz : p ≠ 0 := by omega
  have dp : DivC p := divC_small (by omega) (by omega)
  walk_at "d"
  refine ⟨d, n, u, rfl, hsq, fun z => absurd ⟨u0, hg⟩ z, fun _ => ?_⟩
  walk_at "d"
  · rename_i c
    exact hz c
  · rename_i c
    have oneL : ∀ {x y : Int} {j : Nat}, y * p ^ j = x → y ≠ 0 → ¬ p ∣ y → vp p x j := fun {x y j} e ny nd => by
      refine ⟨⟨y, by rw [← e, Int.mul_comm]⟩, fun ⟨q, hq⟩ => nd ⟨q, ?_⟩⟩
      have pj := pow_pos (show 0 < p by omega) j
      rw [← e, Int.pow_succ, Int.mul_comm y, Int.mul_assoc] at hq
      exact Int.eq_of_mul_eq_mul_left (by omega) hq
    refine while_run (fun x : Int × Nat => [some (.p (.int p)), some (.p d), some (.p (.int x.1)), some (.p (.int u)), some (.p (.int (x.2 : Nat)))])
      (fun x => x.1 ≠ 0 ∧ x.1 * p ^ x.2 = n) (fun x => x.1.natAbs) (n, 0) rfl ⟨c, by simp⟩ ?_
    rintro ⟨x, a⟩ hJ
    replace hJ : x ≠ 0 ∧ x * p ^ a = n := hJ
    obtain ⟨x0, hx⟩ := hJ
    have ex : x.fmod p = x % p := fmod_pos x (by omega)
    walk_at "d"
    refine ⟨fun z => absurd z (pr_not4 hp), fun _ => ⟨hp, ?_⟩⟩
    walk_at "d"
    · rename_i c1
      rw [ex] at c1
      rw [fdiv_pos x (show 0 < p by omega)]
      have em := Int.mul_ediv_add_emod x p
      have lt : (x / p).natAbs < x.natAbs := by
        have e2 : p * (x / p) = x := by omega
        generalize x / p = y at *
        have : x.natAbs = p.natAbs * y.natAbs := by rw [← e2, Int.natAbs_mul]
        have y0 : y ≠ 0 := fun z => by subst z; simp at e2; exact x0 e2.symm
        have := Nat.mul_le_mul_right y.natAbs (show 2 ≤ p.natAbs by omega)
        omega
      refine ⟨_, lt, (x / p, a + 1), rfl, ⟨fun z => ?_, ?_⟩, rfl⟩
      · replace z : x / p = 0 := z
        rw [z] at em; omega
      · show x / p * p ^ (a + 1) = n
        rw [Int.pow_succ, Int.mul_comm (p ^ a), ← Int.mul_assoc, Int.mul_comm (x / p), show p * (x / p) = x by omega]; exact hx
    · rename_i c1
      rw [ex] at c1
      have va : vp p n a := oneL hx x0 fun z => c1 (Int.emod_eq_zero_of_dvd z)
      refine while_run (fun y : Int × Nat => [some (.p (.int p)), some (.p d), some (.p (.int x)), some (.p (.int y.1)), some (.p (.int ((a : Int) - (y.2 : Nat))))])
        (fun y => y.1 ≠ 0 ∧ y.1 * p ^ y.2 = u) (fun y => y.1.natAbs) (u, 0) (by simp) ⟨by show u ≠ 0; omega, by simp⟩ ?_
      rintro ⟨y, b⟩ hJ
      replace hJ : y ≠ 0 ∧ y * p ^ b = u := hJ
      obtain ⟨y0, hy⟩ := hJ
      have ey : y.fmod p = y % p := fmod_pos y (by omega)
      walk_at "d"
      · rename_i c2
        rw [ey] at c2
        rw [fdiv_pos y (show 0 < p by omega)]
        have em := Int.mul_ediv_add_emod y p
        have lt : (y / p).natAbs < y.natAbs := by
          have e2 : p * (y / p) = y := by omega
          generalize y / p = z at *
          have : y.natAbs = p.natAbs * z.natAbs := by rw [← e2, Int.natAbs_mul]
          have z0 : z ≠ 0 := fun q => by subst q; simp at e2; exact y0 e2.symm
          have := Nat.mul_le_mul_right z.natAbs (show 2 ≤ p.natAbs by omega)
          omega
        refine ⟨_, lt, (y / p, b + 1), ?_, ⟨fun z => ?_, ?_⟩, rfl⟩
        · show [_, _, _, _, some (Sl.p (.int ((a : Int) - (b : Nat) - 1)))] = [_, _, _, _, some (Sl.p (.int ((a : Int) - ((b + 1 : Nat) : Int))))]
          rw [show (a : Int) - (b : Nat) - 1 = (a : Int) - ((b + 1 : Nat) : Int) by omega]
        · replace z : y / p = 0 := z
          rw [z] at em; omega
        · show y / p * p ^ (b + 1) = u
          rw [Int.pow_succ, Int.mul_comm (p ^ b), ← Int.mul_assoc, Int.mul_comm (y / p), show p * (y / p) = y by omega]; exact hy
      · rename_i c2
        rw [ey] at c2
        exact h c a b va (oneL hy y0 fun z => c2 (Int.emod_eq_zero_of_dvd z))
theorem vc_value_of {K A} : ∀ ds R RE, c_value_of A ds R RE → t_value_of K A (pEnds R RE) (startD N_value_of (ds.map fun d => some (.p d))) := by
  rintro ds R RE ⟨p, fs, os, rfl, hp, hne, hf, ho, okf, oko, hw, h⟩
  have p2 := pr_pos hp
  have hb : (p ^ fs.length).natAbs < 2 ^ 3000 := sz_mono (sz_p hp fs.length) (by omega)
  have hc : (p ^ os.length).natAbs < 2 ^ 3000 := sz_mono (sz_p hp os.length) (by omega)
  have lF : (fs.map D.int).length = fs.length := List.length_map ..
  have lO : (os.map D.int).length = os.length := List.length_map ..
  have pw : ∀ i : Nat, i ≤ 400 → (∃ n : Nat, p.natAbs < 2 ^ n ∧ 2 * n * ((i : Nat) : Int).toNat < 900000) := fun i hi => ⟨5, by omega, by rw [Int.toNat_natCast]; omega⟩
  have sx := sum_pw p fs fs.length (Nat.le_refl _)
  have sy := sum_pw p os os.length (Nat.le_refl _)
  rw [List.take_of_length_le (Nat.le_refl _)] at sx sy
  have zx : (rvl p fs).natAbs < 2 ^ 3000 := sz_mono (rvl_sz hp okf hf) (by decide)
  have zy : (rvl p os).natAbs < 2 ^ 3000 := sz_mono (rvl_sz hp oko ho) (by decide)
  have zc : (1 - p ^ os.length).natAbs < 2 ^ 3001 := by
    have : 2 ^ 3001 = 2 * 2 ^ 3000 := by rw [Nat.pow_succ, Nat.mul_comm]
    omega
  have m1 : MulC (rvl p fs) (1 - p ^ os.length) := mulC_of zx zc (by decide)
  have m2 : MulC (rvl p os) (p ^ fs.length) := mulC_of zy hb (by decide)
  walk_at "s"
  · rename_i c
    exact absurd (by simpa using c) hne
  refine .mk ?_
  walk_at "s"
  refine lc_enum (fun i => fs.getD i 0 * p ^ i) fs (by omega) (fun i hi acc k ha hk => ?_) ?_
  · have hd := okd_get (show 1 ≤ p by omega) okf i
    have m := pw_mul hp hd.1 hd.2 (i := i)
    walk_at "d"
    refine ⟨fun z => absurd z (by omega), fun _ => ⟨pw i (by omega), ?_⟩⟩
    rw [Int.toNat_natCast]
    walk_at "d"
    exact hk
  walk_at "s"
  rw [intsOf_map]
  dsimp only
  rw [sx]
  walk_at "s"
  refine .mk ?_
  walk_at "s"
  refine lc_enum (fun i => os.getD i 0 * p ^ i) os (by omega) (fun i hi acc k ha hk => ?_) ?_
  · have hd := okd_get (show 1 ≤ p by omega) oko i
    have m := pw_mul hp hd.1 hd.2 (i := i)
    walk_at "d"
    refine ⟨fun z => absurd z (by omega), fun _ => ⟨pw i (by omega), ?_⟩⟩
    rw [Int.toNat_natCast]
    walk_at "d"
    exact hk
  walk_at "s"
  rw [intsOf_map]
  dsimp only
  rw [sy]
  walk_at "s"
  refine .mk ?_
  walk_at "s"
  refine ⟨fun z => absurd z (pr_not4 hp), fun _ => ⟨hp, ?_⟩⟩
  walk_at "s"
  rw [lF]
  refine ⟨fun z => absurd z (by omega), fun _ => ⟨pw fs.length hf, ?_⟩⟩
  rw [Int.toNat_natCast]
  walk_at "s"
  refine .mk ?_
  walk_at "s"
  rw [lO]
  refine ⟨fun z => absurd z (by omega), fun _ => ⟨pw os.length ho, ?_⟩⟩
  rw [Int.toNat_natCast]
  walk_at "s"
  refine .mk ?_
  walk_at "s"
  refine ⟨fun z => absurd z hw.1, fun _ => ⟨hw, ?_⟩⟩
  exact h

/-! polynomials -/
theorem rvl_dvd (x y : Int) : ∀ ns : List Int, x - y ∣ rvl x ns - rvl y ns
  | [] => ⟨0, by simp [rvl]⟩
  | c :: r => by
    obtain ⟨k, hk⟩ := rvl_dvd x y r
    refine ⟨x * k + rvl y r, ?_⟩
    rw [rvl, rvl]
    have e : rvl x r = rvl y r + (x - y) * k := by omega
    rw [e, Int.mul_add, Int.mul_add, ← Int.mul_assoc, ← Int.mul_assoc, Int.mul_comm x (x - y), Int.sub_mul x y (rvl y r)]
    omega
def dvv (x : Int) : List Int → Int
  | [] => 0
  | _ :: r => rvl x r + x * dvv x r
theorem rvl_scl (x : Int) : ∀ (k : Int) (ns : List Int), rvl x (scl k ns) = k * rvl x ns + x * dvv x ns
  | k, [] => by simp [scl, rvl, dvv]
  | k, c :: r => by
    rw [scl, rvl, rvl, dvv, rvl_scl x (k + 1) r]
    have e1 : x * ((k + 1) * rvl x r + x * dvv x r) = k * (x * rvl x r) + x * (rvl x r + x * dvv x r) := by
      rw [Int.mul_add, Int.mul_add, Int.add_mul, Int.one_mul, Int.mul_add, Int.mul_left_comm x k]; omega
    rw [e1, Int.mul_add k c]; omega
theorem rvl_sl (x : Int) (ns : List Int) : rvl x (sl ns) = dvv x ns := by
  unfold sl
  rw [rvl_scl]
  cases ns with
  | nil => simp [rvl, dvv]
  | cons c r => rw [List.tail_cons, Int.one_mul]; rfl
theorem taylor (x h : Int) : ∀ ns : List Int, ∃ g, rvl (x + h) ns = rvl x ns + h * rvl x (sl ns) + h * h * g := by
  intro ns
  rw [rvl_sl]
  induction ns with
  | nil => exact ⟨0, by simp [rvl, dvv]⟩
  | cons c r ih =>
    obtain ⟨g, hg⟩ := ih
    refine ⟨dvv x r + x * g + h * g, ?_⟩
    rw [rvl, rvl, dvv, hg]
    generalize rvl x r = A
    generalize dvv x r = D
    simp only [Int.add_mul, Int.mul_add]
    have e1 : x * (h * D) = h * (x * D) := Int.mul_left_comm ..
    have e2 : x * (h * h * g) = h * h * (x * g) := Int.mul_left_comm ..
    have e3 : h * (h * D) = h * h * D := (Int.mul_assoc ..).symm
    have e4 : h * (h * h * g) = h * h * (h * g) := by rw [Int.mul_left_comm]
    rw [e1, e2, e3, e4]
    omega
/-- one place more -/
theorem hensel {p s x b t d hl : Int} {ns : List Int} (ps : p ∣ s) (ft : rvl x ns = s * t) (xb : p ∣ x - b) (hh : p ∣ rvl b (sl ns) * hl - 1) (hd : p ∣ d + t * hl) : s * p ∣ rvl (x + d * s) ns := by
  obtain ⟨g, hg⟩ := taylor x (d * s) ns
  have db : p ∣ rvl x (sl ns) - rvl b (sl ns) := Int.dvd_trans xb (rvl_dvd x b (sl ns))
  obtain ⟨k1, e1⟩ := db
  obtain ⟨k2, e2⟩ := hh
  obtain ⟨k3, e3⟩ := hd
  obtain ⟨k4, e4⟩ := ps
  generalize rvl x (sl ns) = F at *
  generalize rvl b (sl ns) = G at *
  have in1 : p ∣ t + d * F + d * d * s * g := by
    have a1 : d = p * k3 - t * hl := by omega
    have a2 : F = G + p * k1 := by omega
    have a3 : G * hl = p * k2 + 1 := by omega
    -- t + dF = t + (p k3 - t hl) G + d p k1
    refine ⟨k3 * G - t * k2 + d * k1 + d * d * k4 * g, ?_⟩
    have b1 : d * F = d * G + p * (d * k1) := by rw [a2, Int.mul_add, Int.mul_left_comm]
    have b2 : d * G = p * (k3 * G) - t * (p * k2 + 1) := by
      conv => lhs; rw [a1]
      rw [Int.sub_mul, Int.mul_assoc, Int.mul_assoc t hl, Int.mul_comm hl G, a3]
    have b3 : d * d * s * g = p * (d * d * k4 * g) := by rw [e4]; simp only [Int.mul_assoc, Int.mul_left_comm]
    have b4 : t * (p * k2 + 1) = p * (t * k2) + t := by rw [Int.mul_add, Int.mul_one, Int.mul_left_comm]
    rw [b1, b2, b3, b4, Int.mul_add, Int.mul_add, Int.mul_sub]
    omega
  obtain ⟨q, hq⟩ := in1
  refine ⟨q, ?_⟩
  rw [hg, ft, Int.mul_assoc s p, ← hq]
  have c1 : d * s * F = s * (d * F) := by rw [Int.mul_comm d s, Int.mul_assoc]
  have c2 : d * s * (d * s) * g = s * (d * d * s * g) := by simp only [Int.mul_assoc, Int.mul_left_comm]
  rw [c1, c2, Int.mul_add, Int.mul_add]
theorem scl_mem : ∀ {k : Int} {ns : List Int} {c : Int}, c ∈ scl k ns → ∃ i : Nat, i < ns.length ∧ c = (k + i) * ns.getD i 0
  | k, x :: r, c, h => by
    rw [scl] at h
    rcases List.mem_cons.mp h with rfl | h
    · exact ⟨0, by simp, by simp⟩
    · obtain ⟨i, hi, e⟩ := scl_mem h
      refine ⟨i + 1, by simpa using hi, ?_⟩
      rw [e]
      show (k + 1 + (i : Int)) * r.getD i 0 = (k + ((i + 1 : Nat) : Int)) * (x :: r).getD (i + 1) 0
      rw [show k + 1 + (i : Int) = k + ((i + 1 : Nat) : Int) by omega]; rfl
theorem scl_len : ∀ (k : Int) (ns : List Int), (scl k ns).length = ns.length
  | _, [] => rfl
  | k, c :: r => by rw [scl, List.length_cons, scl_len, List.length_cons]
theorem smp_up {ns : List Int} (h : smp 1000 ns) : smp 10000 ns := ⟨h.1, fun c hc => Nat.le_trans (h.2 c hc) (by decide)⟩
theorem smp_sl {ns : List Int} (h : smp 1000 ns) : smp 10000 (sl ns) := by
  refine ⟨by unfold sl; rw [scl_len, List.length_tail]; have := h.1; omega, fun c hc => ?_⟩
  obtain ⟨i, hi, e⟩ := scl_mem hc
  rw [List.length_tail] at hi
  have hm : ns.tail.getD i 0 ∈ ns := by
    rw [List.getD_eq_getElem?_getD, List.getElem?_eq_getElem (by rw [List.length_tail]; omega)]
    exact List.mem_of_mem_tail (List.getElem_mem ..)
  have b := h.2 _ hm
  have l := h.1
  rw [e, Int.natAbs_mul]
  have : (1 + (i : Int)).natAbs ≤ 6 := by omega
  exact Nat.le_trans (Nat.mul_le_mul this b) (by decide)
theorem fdiv_dvd {p a : Int} (hp : 0 < p) : a.fmod p = 0 ↔ p ∣ a := by
  rw [fmod_pos a hp]
  exact ⟨Int.dvd_of_emod_eq_zero, Int.emod_eq_zero_of_dvd⟩
theorem vc_lifted {K A} : ∀ ds R RE, c_lifted A ds R RE → t_lifted K A (pEnds R RE) (startD N_lifted (ds.map fun d => some (.p d))) := by
  rintro ds R RE ⟨p, ns, b, k, rfl, hp, hs, he, h⟩
  have p2 := pr_pos hp
  have pz : p ≠ 0 := by omega
  have b2 : 0 ≤ b → b < p → b.natAbs < 2 ^ 100 := fun b0 b1 => Nat.lt_of_lt_of_le (show b.natAbs < 2 ^ 5 by omega) (Nat.pow_le_pow_right (by decide) (by decide))
  walk_at "s"
  refine ⟨fun z => absurd z (pr_not4 hp), fun _ => ⟨hp, ?_⟩⟩
  walk_at "s"
  refine .mk ?_
  walk_at "s"
  · rename_i c1 c2
    exact he fun z => by omega
  · rename_i c1 c2
    replace h := h c1 c2
    refine .mk ?_
    walk_at "s"
    refine ⟨ns, b, rfl, smp_up hs, b2 c1 c2, ?_⟩
    walk_at "s"
    · rename_i c3
      rw [fdiv_dvd (show 0 < p by omega)] at c3
      exact h.1 fun z => c3 z.1
    · rename_i c3
      rw [fdiv_dvd (show 0 < p by omega)] at c3
      refine ⟨ns, rfl, by have := hs.1; omega, ?_⟩
      walk_at "s"
      refine ⟨sl ns, b, rfl, smp_sl hs, b2 c1 c2, ?_⟩
      walk_at "s"
      · rename_i c4
        rw [fdiv_dvd (show 0 < p by omega)] at c4
        exact h.1 fun z => z.2 c4
      · rename_i c4
        rw [fdiv_dvd (show 0 < p by omega)] at c4
        obtain ⟨k0, k1, h⟩ := h.2 ⟨c3, c4⟩
        obtain ⟨k, rfl⟩ : ∃ j : Nat, k = j := ⟨k.toNat, by omega⟩
        rw [Int.toNat_natCast] at h
        have cop : Int.gcd (rvl b (sl ns)) p = 1 := pr_cop hp c4
        have pn : p.natAbs < 2 ^ 1000 := Nat.lt_of_lt_of_le (show p.natAbs < 2 ^ 5 by omega) (Nat.pow_le_pow_right (by decide) (by decide))
        have klim : ¬ (0 ≤ (k : Int) ∧ (k : Int) ≤ 200) → RE (erD A.C_TooLarge "places") := fun z => absurd (show 0 ≤ (k : Int) ∧ (k : Int) ≤ 200 by omega) z
        walk_at "d"
        refine ⟨ns, rfl, by have := hs.1; omega, ?_⟩
        walk_at "d"
        refine ⟨sl ns, b, rfl, smp_sl hs, b2 c1 c2, ?_⟩
        walk_at "d"
        refine ⟨p2.1, pn, fun z => absurd cop z, fun _ hl hl0 hl1 hld => ?_⟩
        walk_at "d"
        intro _ _
        walk_at "d"
        refine ⟨by omega, ?_⟩
        have mh : ∀ w : Int, MulC w hl := fun w => mulC_small' (by omega)
        have mp : ∀ w : Int, MulC w p := fun w => mulC_small' (by omega)
        refine fold_range (fun j ε => ∃ (fs : List Int) (s8 s9 : Option Sl), fs.length = j + 1 ∧ okd p fs ∧ fs.head? = some b ∧ p ^ (j + 1) ∣ rvl (rvl p fs) ns ∧ p ∣ rvl p fs - b ∧
          ε = [some (.p (.int p)), some (.p (tI ns)), some (.p (.int b)), some (.p (.int k)), some (.p (.int (rvl p fs))), some (.ow none (.lst (fs.map .int))), some (.p (.int (p ^ (j + 1)))), some (.p (.int hl)), s8, s9]) ?_ ?_ _ ⟨[b], none, none, rfl, okd_cons.mpr ⟨⟨c1, c2⟩, okd_nil _⟩, rfl, by rw [Int.pow_succ, Int.pow_zero, Int.one_mul]; simpa [rvl] using c3, ⟨0, by simp [rvl]⟩, by
            rw [Int.pow_succ, Int.pow_zero, Int.one_mul, show rvl p [b] = b by simp [rvl]]; rfl⟩
        · rintro ε ⟨fs, s8, s9, lf, ok, hd, dv, _, rfl⟩
          have ck : k ≤ fs.length := by omega
          walk_at "d"
          rw [cut_n _ _ (by rw [List.length_map]; exact ck), ← List.map_take]
          refine h (fs.take k) ⟨fun d hd => ok d (List.mem_of_mem_take hd), by rw [List.length_take]; omega, fun x hx => ?_, ?_⟩
          · cases k with
            | zero => simp at hx
            | succ k =>
              cases fs with
              | nil => cases hd
              | cons y r => cases hd; cases hx; rfl
          · cases k with
            | zero => rw [Int.pow_zero]; exact Int.one_dvd _
            | succ k =>
              rw [List.take_of_length_le (by omega)]
              rwa [show ((((k + 1 : Nat) : Int) - 1).toNat + 1) = k + 1 by omega] at dv
        · rintro j ε hj ⟨fs, s8, s9, lf, ok, hd, dv, xb, rfl⟩ nx hnx
          have hj2 : j + 1 ≤ 12 := by omega
          have bx := rvl_bd (show 1 ≤ p by omega) ok
          have sz := sz_p hp fs.length
          have sx : (rvl p fs).natAbs < 2 ^ 100 := Nat.lt_of_lt_of_le (show (rvl p fs).natAbs < 2 ^ (5 * fs.length + 1) by omega) (Nat.pow_le_pow_right (by decide) (by omega))
          have pp := pow_pos (show 0 < p by omega) (j + 1)
          have ds : DivC (p ^ (j + 1)) := divC_pos pp (sz_p hp (j + 1)) (by omega)
          have sf : (fs.map D.int).length < sizeLine := by rw [List.length_map, sizeLine_eq]; omega
          obtain ⟨t, ht⟩ := dv
          have et : (rvl (rvl p fs) ns).fdiv (p ^ (j + 1)) = t := by rw [ht, Int.mul_comm, Int.mul_fdiv_cancel _ (by omega)]
          have m1 := mh (-t)
          walk_at "d"
          refine ⟨ns, rvl p fs, rfl, smp_up hs, sx, ?_⟩
          walk_at "d"
          rw [et]
          walk_at "d"
          have ed : (-t * hl).fmod p = (-t * hl) % p := fmod_pos _ (by omega)
          rw [ed]
          have d0 : 0 ≤ (-t * hl) % p := Int.emod_nonneg _ (by omega)
          have d1 : (-t * hl) % p < p := Int.emod_lt_of_pos _ (by omega)
          have em := Int.mul_ediv_add_emod (-t * hl) p
          have m2 : MulC ((-t * hl) % p) (p ^ (j + 1)) := mulC_small (by omega)
          have m3 := mp (p ^ (j + 1))
          generalize hdg : (-t * hl) % p = dg at *
          walk_at "d"
          have ps : p ∣ p ^ (j + 1) := ⟨p ^ j, by rw [Int.pow_succ, Int.mul_comm]⟩
          have hens := hensel ps ht xb hld (d := dg) ⟨-((-t * hl) / p), by rw [Int.mul_neg]; rw [Int.neg_mul] at em ⊢; omega⟩
          refine hnx _ ⟨fs ++ [dg], some (.p (.int (0 + (j : Nat)))), some (.p (.int dg)), by rw [List.length_append, lf]; rfl, okd_append.mpr ⟨ok, okd_cons.mpr ⟨⟨d0, d1⟩, okd_nil _⟩⟩, ?_, ?_, ?_, ?_⟩
          · cases fs with
            | nil => cases hd
            | cons y r => exact hd
          · rw [rvl_snoc, lf, Int.mul_comm (p ^ (j + 1)) dg, Int.pow_succ]; exact hens
          · rw [rvl_snoc, lf]
            obtain ⟨q, hq⟩ := xb
            refine ⟨q + p ^ j * dg, ?_⟩
            rw [Int.pow_succ, Int.mul_add, ← hq, Int.mul_comm (p ^ j) p, Int.mul_assoc]; omega
          · rw [rvl_snoc, lf, Int.mul_comm (p ^ (j + 1)) dg, Int.pow_succ p (j + 1), List.map_append]; rfl
  · rename_i c1
    exact he fun z => by omega
section
variable {K : PySem.W.Frag} {A : Ad} {R : Vl → Prop} {RE : Er → Prop}
theorem lr_1 {p b k : Int} {ns : List Int} {cl : D} (p1 : 2 ≤ p) (p2 : p ≤ 31) (hs : smp 1000 ns) (hno : ¬ (0 ≤ b ∧ b < p) → R (.p (.bl false)))
    (hgo : ∀ g : Bool, (g = true ↔ good p b ns) → 0 ≤ b → b < p → t_lifted_right_3 K A (pEnds R RE) [some (.p (.int p)), some (.p (tI ns)), some (.p (.int k)), some (.p cl), some (.p (.int b)), some (.p (.bl g)), none, none, none, none]) :
    t_lifted_right_1 K A (pEnds R RE) [some (.p (.int p)), some (.p (tI ns)), some (.p (.int k)), some (.p cl), some (.p (.int b)), none, none, none, none, none] := by
  have pz : p ≠ 0 := by omega
  have b2 : 0 ≤ b → b < p → b.natAbs < 2 ^ 100 := fun b0 b1 => Nat.lt_of_lt_of_le (show b.natAbs < 2 ^ 5 by omega) (Nat.pow_le_pow_right (by decide) (by decide))
  walk_at "s"
  · exact hno fun z => by omega
  · rename_i c1 c2
    refine .mk ?_
    walk_at "s"
    refine ⟨ns, b, rfl, smp_up hs, b2 c1 c2, ?_⟩
    walk_at "s"
    · rename_i c3
      rw [fdiv_dvd (show 0 < p by omega)] at c3
      refine ⟨ns, rfl, by have := hs.1; omega, ?_⟩
      walk_at "s"
      refine ⟨sl ns, b, rfl, smp_sl hs, b2 c1 c2, ?_⟩
      walk_at "s"
      refine .mk (hgo _ ?_ c1 c2)
      show (!decide ((rvl b (sl ns)).fmod p = 0)) = true ↔ _
      rw [Bool.not_eq_true', decide_eq_false_iff_not, fdiv_dvd (show 0 < p by omega)]
      exact ⟨fun z => ⟨c3, z⟩, fun z => z.2⟩
    · rename_i c3
      have e : deq (.int ((rvl b ns).fmod p)) (.int 0) = false := by rw [deq_ii]; exact decide_eq_false c3
      have c4 := c3
      rw [fdiv_dvd (show 0 < p by omega)] at c4
      refine .mk (hgo _ ?_ c1 c2)
      rw [show deq (vD (Vl.p (D.int ((rvl b ns).fmod p)))) (vD (Vl.p (D.int 0))) = false from e]
      exact ⟨fun z => (nomatch z), fun z => absurd z.1 c4⟩
  · exact hno fun z => by omega
end
theorem root_ne : ¬ PySem.Str.ofString "root" = PySem.Str.ofString "rootless" := by decide +kernel
theorem vc_lifted_right {K A} : ∀ ds R RE, c_lifted_right A ds R RE → t_lifted_right K A (pEnds R RE) (startD N_lifted_right (ds.map fun d => some (.p d))) := by
  rintro ds R RE ⟨p, ns, b, k, cl, rfl, p1, p2, hs, k0, k1, h⟩
  have pz : p ≠ 0 := by omega
  rcases h with ⟨rfl, h⟩ | ⟨ws, rfl, hw, h⟩
  · walk_at "s"
    refine .mk (lr_1 p1 p2 hs (fun z => h false ⟨fun z => (nomatch z), fun q => absurd ⟨q.1, q.2.1⟩ z⟩) fun g hg b0 b1 => ?_)
    walk_at "s"
    refine h _ ?_
    rw [Bool.not_eq_true']
    refine ⟨fun z => ⟨b0, b1, fun q => by rw [hg.mpr q] at z; cases z⟩, fun z => ?_⟩
    cases g with
    | false => rfl
    | true => exact absurd (hg.mp rfl) z.2.2
  · have no : ¬ (0 ≤ b ∧ b < p ∧ good p b ns ∧ Lift p ns b k.toNat ws) → R (.p (.bl false)) := fun z => h false ⟨fun z => (nomatch z), fun q => absurd q z⟩
    walk_at "s"
    refine .mk (lr_1 p1 p2 hs (fun z => no fun q => z ⟨q.1, q.2.1⟩) fun g hg b0 b1 => ?_)
    walk_at "s"
    · rename_i hc
      exact absurd hc root_ne
    refine .mk ?_
    walk_at "s"
    refine .mk ?_
    have lW : (ws.map D.int).length = ws.length := List.length_map ..
    have hsz : ws.length ≤ sizeLine := by rw [sizeLine_eq]; omega
    have fin : (ws.map fun x => !decide (0 ≤ x ∧ x < p)).any id = false ↔ okd p ws := any_not (p := fun d => 0 ≤ d ∧ d < p) (fun d => by simp)
    cases g with
    | false =>
      have ng : ¬ good p b ns := fun q => by have := hg.mpr q; cases this
      walk_at "s"
      exact no fun q => ng q.2.2.1
    | true =>
    have gd := hg.mp rfl
    walk_at "s"
    · rename_i c
      exact no fun q => by have := q.2.2.2.2.1; omega
    rename_i c
    have lk : ws.length = k.toNat := by omega
    refine lc_all D.int D.bl (fun x => !decide (0 ≤ x ∧ x < p)) ws hsz (fun x hx acc kk ha hk => ?_) ?_
    · walk_at "d"
      · rename_i hc
        rw [dd_1 hc] at hk
        exact hk
      · rename_i hc
        rw [dd_0 hc] at hk
        exact hk
    walk_at "s"
    rw [blsOf_map]
    dsimp only
    generalize hany : ((ws.map fun x => !decide (0 ≤ x ∧ x < p)).any id) = t at fin
    cases t with
    | true =>
      walk_at "s"
      exact no fun q => by have := fin.mpr q.2.2.2.1; cases this
    | false =>
    have ok := fin.mp rfl
    have rest : (∀ x, ws.head? = some x → x = b) → t_lifted_right_6 K A (pEnds R RE) [some (.p (.int p)), some (.p (tI ns)), some (.p (.int k)), some (.p (clR b ws)), some (.p (.int b)), some (.p (.bl true)), some (.p (tI ws)), none, none, none] := fun hd => by
      have bx := rvl_bd (show 1 ≤ p by omega) ok
      have sz : (p ^ ws.length).natAbs < 2 ^ (5 * ws.length + 1) := sz_pow (show p.natAbs < 2 ^ 5 by omega) ws.length
      have sx : (rvl p ws).natAbs < 2 ^ 100 := Nat.lt_of_lt_of_le (show (rvl p ws).natAbs < 2 ^ (5 * ws.length + 1) by omega) (Nat.pow_le_pow_right (by decide) (by omega))
      have sm := sum_pw p ws ws.length (Nat.le_refl _)
      rw [List.take_of_length_le (Nat.le_refl _)] at sm
      obtain ⟨j, rfl⟩ : ∃ j : Nat, k = j := ⟨k.toNat, by omega⟩
      rw [Int.toNat_natCast] at h lk
      walk_at "s"
      refine lc_enum (fun i => ws.getD i 0 * p ^ i) ws (by omega) (fun i hi acc kk ha hk => ?_) ?_
      · have hdg := okd_get (show 1 ≤ p by omega) ok i
        have m : MulC (ws.getD i 0) (p ^ i) := mulC_small (by omega)
        walk_at "d"
        refine ⟨fun z => absurd z (by omega), fun _ => ⟨⟨5, by omega, by rw [Int.toNat_natCast]; omega⟩, ?_⟩⟩
        rw [Int.toNat_natCast]
        walk_at "d"
        exact hk
      walk_at "s"
      rw [intsOf_map]
      dsimp only
      rw [sm]
      walk_at "s"
      refine .mk ?_
      walk_at "s"
      · rename_i c5
        have j0 : j = 0 := by omega
        subst j0
        refine bl_to (h true ⟨fun _ => ⟨b0, b1, gd, ok, lk, hd, by rw [Int.pow_zero]; exact Int.one_dvd _⟩, fun _ => rfl⟩) ?_
        rfl
      · refine ⟨ns, rvl p ws, rfl, smp_up hs, sx, ?_⟩
        walk_at "s"
        refine ⟨fun z => absurd z (by omega), fun _ => ⟨⟨5, by omega, by rw [Int.toNat_natCast]; omega⟩, ?_⟩⟩
        rw [Int.toNat_natCast]
        have pp := pow_pos (show 0 < p by omega) j
        have pnz : p ^ j ≠ 0 := by omega
        walk_at "s"
        refine h _ ?_
        show decide ((rvl (rvl p ws) ns).fmod (p ^ j) = 0) = true ↔ _
        rw [decide_eq_true_eq, fdiv_dvd pp]
        exact ⟨fun z => ⟨b0, b1, gd, ok, lk, hd, z⟩, fun z => z.2.2.2.2.2.2⟩
    walk_at "s"
    · cases ws with
      | nil => rename_i hc; cases hc
      | cons x r =>
        rw [show atI (List.map D.int (x :: r)) 0 = some (.int x) from at_mid [] x r]
        walk_at "s"
        · rename_i hc
          exact no fun q => hc (q.2.2.2.2.2.1 x rfl)
        · rename_i hc
          exact .mk (rest fun y hy => by cases hy; exact hc)
    · rename_i hc
      cases ws with
      | nil => exact .mk (rest fun y hy => (nomatch hy))
      | cons x r => cases hc

section
variable {K : PySem.W.Frag} {A : Ad} {R : Vl → Prop} {RE : Er → Prop}
theorem du_1 {p b k : Int} {ns : List Int} {cl : D} (p1 : 2 ≤ p) (p2 : p ≤ 31) (hs : smp 1000 ns)
    (hgo : ∀ g : Bool, (g = true ↔ 0 ≤ b ∧ b < p ∧ good p b ns) → t__law_due_2 K A (pEnds R RE) [some (.p (.int p)), some (.p (tI ns)), some (.p (.int k)), some (.p cl), some (.p (.int b)), some (.p (.bl g)), none, none]) :
    t__law_due_1 K A (pEnds R RE) [some (.p (.int p)), some (.p (tI ns)), some (.p (.int k)), some (.p cl), some (.p (.int b)), none, none, none] := by
  have pz : p ≠ 0 := by omega
  have b2 : 0 ≤ b → b < p → b.natAbs < 2 ^ 100 := fun b0 b1 => Nat.lt_of_lt_of_le (show b.natAbs < 2 ^ 5 by omega) (Nat.pow_le_pow_right (by decide) (by decide))
  walk_at "s"
  · rename_i c1 c2
    refine ⟨ns, b, rfl, smp_up hs, b2 c1 c2, ?_⟩
    walk_at "s"
    · rename_i c3
      rw [fdiv_dvd (show 0 < p by omega)] at c3
      refine ⟨ns, rfl, by have := hs.1; omega, ?_⟩
      walk_at "s"
      refine ⟨sl ns, b, rfl, smp_sl hs, b2 c1 c2, ?_⟩
      walk_at "s"
      refine .mk (hgo _ ?_)
      show (!decide ((rvl b (sl ns)).fmod p = 0)) = true ↔ _
      rw [Bool.not_eq_true', decide_eq_false_iff_not, fdiv_dvd (show 0 < p by omega)]
      exact ⟨fun z => ⟨c1, c2, c3, z⟩, fun z => z.2.2.2⟩
    · rename_i c3
      have e : deq (.int ((rvl b ns).fmod p)) (.int 0) = false := by rw [deq_ii]; exact decide_eq_false c3
      have c4 := c3
      rw [fdiv_dvd (show 0 < p by omega)] at c4
      refine .mk (hgo _ ?_)
      rw [show deq (vD (Vl.p (D.int ((rvl b ns).fmod p)))) (vD (Vl.p (D.int 0))) = false from e]
      exact ⟨fun z => (nomatch z), fun z => absurd z.2.2.1 c4⟩
  · rename_i c1 c2
    refine .mk (hgo _ ?_)
    show decide (b < p) = true ↔ _
    rw [decide_eq_true_eq]
    exact ⟨fun z => by omega, fun z => z.2.1⟩
  · rename_i c1
    refine .mk (hgo _ ?_)
    exact ⟨fun z => (nomatch z), fun z => by omega⟩
end
theorem vc__law_due {K A} : ∀ ds R RE, c__law_due A ds R RE → t__law_due K A (pEnds R RE) (startD N__law_due (ds.map fun d => some (.p d))) := by
  rintro ds R RE ⟨p, ns, b, k, cl, rfl, p1, p2, hs, k0, k1, h⟩
  have pz : p ≠ 0 := by omega
  rcases h with ⟨rfl, h⟩ | ⟨ws, rfl, hw, h⟩
  · walk_at "s"
    refine .mk (du_1 p1 p2 hs fun g hg => ?_)
    walk_at "s"
    · rename_i c1 c2
      refine h _ ?_
      rw [Bool.not_eq_true']
      refine ⟨fun z => ⟨c1, c2, fun q => by rw [hg.mpr ⟨c1, c2, q⟩] at z; cases z⟩, fun z => ?_⟩
      cases g with
      | false => rfl
      | true => exact absurd (hg.mp rfl).2.2 z.2.2
    · rename_i c1 c2
      refine h _ ?_
      show decide (b < p) = true ↔ _
      rw [decide_eq_true_eq]
      exact ⟨fun z => by omega, fun z => z.2.1⟩
    · rename_i c1
      refine h _ ?_
      exact ⟨fun z => (nomatch z), fun z => by omega⟩
  · have no : ¬ (0 ≤ b ∧ b < p ∧ good p b ns ∧ Lift p ns b k.toNat ws) → R (.p (.bl false)) := fun z => h false ⟨fun z => (nomatch z), fun q => absurd q z⟩
    walk_at "s"
    refine .mk (du_1 p1 p2 hs fun g hg => ?_)
    walk_at "s"
    all_goals try (exfalso; refine root_ne ?_; assumption)
    refine .mk ?_
    walk_at "s"
    refine .mk ?_
    have lW : (ws.map D.int).length = ws.length := List.length_map ..
    have hsz : ws.length ≤ sizeLine := by rw [sizeLine_eq]; omega
    cases g with
    | false =>
      walk_at "s"
      exact no fun q => by have := hg.mpr ⟨q.1, q.2.1, q.2.2.1⟩; cases this
    | true =>
    obtain ⟨b0, b1, gd⟩ := hg.mp rfl
    walk_at "s"
    · rename_i c
      exact no fun q => by have := q.2.2.2.2.1; omega
    rename_i c
    have lk : ws.length = k.toNat := by omega
    have fin : ws.filter (fun x => !decide (0 ≤ x ∧ x < p)) = [] ↔ okd p ws := by
      rw [filter_nil]
      exact ⟨fun z d hd => by simpa using z d hd, fun z d hd => by simpa using z d hd⟩
    refine lc_filter D.int (fun x => !decide (0 ≤ x ∧ x < p)) ws hsz (fun x hx acc k ha h1 h0 => ?_) ?_
    · walk_at "d"
      · exact h1 (by simp; omega)
      · exact h0 (by simp; omega)
      · exact h1 (by simp; omega)
    have d1 : dok 60 (.lst ((ws.filter fun x => !decide (0 ≤ x ∧ x < p)).map .int)) = true := doks_ints 59 _
    have dw := dok_tI 59 ws
    have rest : okd p ws → (∀ x, ws.head? = some x → x = b) → t__law_due_5 K A (pEnds R RE) [some (.p (.int p)), some (.p (tI ns)), some (.p (.int k)), some (.p (clR b ws)), some (.p (.int b)), some (.p (.bl true)), some (.p (tI ws)), none] := fun ok hd => by
      have bx := rvl_bd (show 1 ≤ p by omega) ok
      have sz : (p ^ ws.length).natAbs < 2 ^ (5 * ws.length + 1) := sz_pow (show p.natAbs < 2 ^ 5 by omega) ws.length
      have sx : (rvl p ws).natAbs < 2 ^ 100 := Nat.lt_of_lt_of_le (show (rvl p ws).natAbs < 2 ^ (5 * ws.length + 1) by omega) (Nat.pow_le_pow_right (by decide) (by omega))
      obtain ⟨j, rfl⟩ : ∃ j : Nat, k = j := ⟨k.toNat, by omega⟩
      rw [Int.toNat_natCast] at h lk
      have pp := pow_pos (show 0 < p by omega) j
      have pnz : p ^ j ≠ 0 := by omega
      walk_at "s"
      refine ⟨p, ws, rfl, by omega, ?_⟩
      walk_at "s"
      refine ⟨ns, rvl p ws, rfl, smp_up hs, sx, ?_⟩
      walk_at "s"
      refine ⟨⟨by omega, by omega, 5, by omega, by rw [Int.toNat_natCast]; omega⟩, ?_⟩
      rw [Int.toNat_natCast]
      walk_at "s"
      refine h _ ?_
      show decide ((rvl (rvl p ws) ns).fmod (p ^ j) = 0) = true ↔ _
      rw [decide_eq_true_eq, fdiv_dvd pp]
      exact ⟨fun z => ⟨b0, b1, gd, ok, lk, hd, z⟩, fun z => z.2.2.2.2.2.2⟩
    walk_at "s"
    · rename_i hc
      rw [deq_nil] at hc
      exact no fun q => by rw [decide_eq_true (fin.mpr q.2.2.2.1)] at hc; cases hc
    · rename_i hc hne
      rw [deq_nil] at hc
      have ok := fin.mp (of_decide_eq_true hc)
      cases ws with
      | nil => cases hne
      | cons x r =>
        rw [show atI (List.map D.int (x :: r)) 0 = some (.int x) from at_mid [] x r]
        walk_at "s"
        · rename_i hc
          exact no fun q => hc (q.2.2.2.2.2.1 x rfl)
        · rename_i hc
          exact .mk (rest ok fun y hy => by cases hy; exact hc)
    · rename_i hc hne
      rw [deq_nil] at hc
      have ok := fin.mp (of_decide_eq_true hc)
      cases ws with
      | nil => exact .mk (rest ok fun y hy => (nomatch hy))
      | cons x r => cases hne
theorem all2_snoc {α β : Type} {P : α → β → Prop} {l : List α} {m : List β} {a : α} {b : β} (h : All2 P l m) (hp : P a b) : All2 P (l ++ [a]) (m ++ [b]) := by
  induction h with
  | nil => exact .cons hp .nil
  | cons h1 _ ih => exact .cons h1 ih
theorem sq_rvl (b n : Int) : rvl b [-n, 0, 1] = b * b - n := by simp [rvl]; omega
theorem sq_sl (b n : Int) : rvl b (sl [-n, 0, 1]) = 2 * b := by
  have e : sl [-n, 0, 1] = [0, 2] := rfl
  rw [e]; simp [rvl]; omega
theorem sq_good {p n b : Int} (hp : pr p) (h2 : p ≠ 2) (hg : Int.gcd n p = 1) (hb : (b * b - n) % p = 0) : good p b [-n, 0, 1] := by
  have p1 := pr_pos hp
  refine ⟨by rw [sq_rvl]; exact Int.dvd_of_emod_eq_zero hb, fun z => ?_⟩
  rw [sq_sl] at z
  have c2 : Int.gcd 2 p = 1 := pr_cop hp fun q => by have := Int.le_of_dvd (by decide) q; omega
  have pb := cop_dvd c2 z
  have pn : p ∣ n := by
    obtain ⟨k, hk⟩ := Int.dvd_of_emod_eq_zero hb
    obtain ⟨j, hj⟩ := pb
    refine ⟨j * b - k, ?_⟩
    rw [Int.mul_sub, ← Int.mul_assoc, ← hj]; omega
  have : p ∣ (Int.gcd n p : Int) := Int.dvd_coe_gcd pn (Int.dvd_refl p)
  rw [hg] at this
  have := Int.le_of_dvd (by decide) this
  omega
theorem vc_square_roots {K A} : ∀ ds R RE, c_square_roots A ds R RE → t_square_roots K A (pEnds R RE) (startD N_square_roots (ds.map fun d => some (.p d))) := by
  intro ds R RE h
  unfold c_square_roots at h
  split at h
  · rename_i p n k
    obtain ⟨hp, hbad, h⟩ := h
    have p1 := pr_pos hp
    have pz : p ≠ 0 := by omega
    walk_at "d"
    refine ⟨fun z => absurd z (pr_not4 hp), fun _ => ⟨hp, ?_⟩⟩
    walk_at "d"
    · rename_i c
      exact hbad (.inl c)
    · rename_i c1 c2
      exact hbad (.inr (by omega))
    · rename_i c1 c2
      obtain ⟨k0, k6, n1, n2, h⟩ := h c1 (by omega)
      refine ⟨by omega, ?_⟩
      obtain ⟨P, rfl⟩ : ∃ P : Nat, p = P := ⟨p.toNat, by omega⟩
      rw [Int.toNat_natCast]
      refine fold_range (fun j ε => ∃ (wss : List (List Int)) (s4 : Option Sl), All2 (fun b w => Lift P [-n, 0, 1] b k.toNat w) (((List.range j).map fun i : Nat => (i : Int)).filter fun b => decide ((b * b - n) % (P : Int) = 0)) wss ∧ wss.length ≤ j ∧
        ε = [some (.p (.int P)), some (.p (.int n)), some (.p (.int k)), some (.ow none (.lst (wss.map fun w => tI w))), s4]) ?_ ?_ _ ⟨[], none, .nil, Nat.zero_le _, rfl⟩
      · rintro ε ⟨wss, s4, ha, _, rfl⟩
        walk_at "d"
        exact h wss ha
      · rintro j ε hj ⟨wss, s4, ha, hl, rfl⟩ nx hnx
        have m : MulC (0 + (j : Int)) (0 + (j : Int)) := mulC_small (by omega)
        have sf : (wss.map fun w => tI w).length < sizeLine := by rw [List.length_map, sizeLine_eq]; omega
        have em : ((0 + (j : Int)) * (0 + (j : Int)) - n).fmod (P : Int) = ((j : Int) * (j : Int) - n) % (P : Int) := by rw [fmod_pos _ (by omega), Int.zero_add]
        walk_at "d"
        · rename_i c
          rw [em] at c
          have gd := sq_good hp c1 (by omega) c
          have sm : smp 1000 [-n, 0, 1] := ⟨show 3 ≤ 6 by decide, fun c hc => by
            simp only [List.mem_cons, List.not_mem_nil, or_false] at hc
            rcases hc with rfl | rfl | rfl <;> omega⟩
          refine ⟨P, [-n, 0, 1], 0 + (j : Int), k, rfl, hp, sm, fun z => absurd (show 0 ≤ (0 + (j : Int)) ∧ (0 + (j : Int)) < P by omega) z, fun _ _ => ⟨fun z => absurd (by rw [Int.zero_add]; exact gd) z, fun _ => ⟨by omega, by omega, fun ws hw => ?_⟩⟩⟩
          walk_at "d"
          refine hnx _ ⟨wss ++ [ws], some (.p (.int (0 + (j : Nat)))), ?_, by rw [List.length_append, List.length_singleton]; omega, by rw [List.map_append]; rfl⟩
          rw [List.range_succ, List.map_append, List.filter_append]
          have e : ([j].map fun i : Nat => (i : Int)).filter (fun b => decide ((b * b - n) % (P : Int) = 0)) = [(j : Int)] := by simp [c]
          rw [e]
          rw [Int.zero_add] at hw
          exact all2_snoc ha hw
        · rename_i c
          rw [em] at c
          refine hnx _ ⟨wss, some (.p (.int (0 + (j : Nat)))), ?_, by omega, rfl⟩
          rw [List.range_succ, List.map_append, List.filter_append]
          have e : ([j].map fun i : Nat => (i : Int)).filter (fun b => decide ((b * b - n) % (P : Int) = 0)) = [] := by simp [c]
          rw [e, List.append_nil]
          exact ha
  · exact h.elim

/-! digits that go round -/
def kv (ls : List Int) : List (D × D) := (List.range ls.length).map fun i : Nat => (.int (ls.getD i 0), .int (i : Int))
theorem kv_len (ls : List Int) : (kv ls).length = ls.length := by unfold kv; rw [List.length_map, List.length_range]
theorem getD_app {ws : List Int} {x : Int} {k : Nat} (h : k < ws.length) : (ws ++ [x]).getD k 0 = ws.getD k 0 := by
  rw [List.getD_eq_getElem?_getD, List.getElem?_append_left h, List.getD_eq_getElem?_getD]
theorem getD_end (ws : List Int) (x : Int) : (ws ++ [x]).getD ws.length 0 = x := by
  rw [List.getD_eq_getElem?_getD]; simp
theorem kv_snoc (ls : List Int) (l : Int) : kv (ls ++ [l]) = kv ls ++ [(.int l, .int (ls.length : Nat))] := by
  unfold kv
  rw [List.length_append, List.length_singleton, List.range_succ, List.map_append, List.map_singleton, getD_end]
  congr 1
  exact List.map_congr_left fun i hi => by rw [getD_app (List.mem_range.mp hi)]
theorem kv_val : ∀ (k : Nat) (ls : List Int) (l : Int), ls.length ≤ k → ls.Nodup → (l ∉ ls ∧ dval keyD (kv ls) (.int l) = none) ∨ ∃ i, i < ls.length ∧ ls.getD i 0 = l ∧ dval keyD (kv ls) (.int l) = some (.int (i : Int))
  | k, ls, l, hk, nd => by
    rcases last_of (ns := ls) with rfl | ⟨q, x, rfl⟩
    · exact .inl ⟨by simp, rfl⟩
    · rw [List.length_append, List.length_singleton] at hk
      cases k with
      | zero => omega
      | succ k =>
      have nq : q.Nodup := (List.nodup_append.mp nd).1
      have xq : x ∉ q := fun h => (List.nodup_append.mp nd).2.2 x h x (by simp) rfl
      have dx : dval keyD (kv q) (.int x) = none := by
        rcases kv_val k q x (by omega) nq with h | ⟨i, hi, e, _⟩
        · exact h.2
        · refine absurd ?_ xq
          rw [← e, List.getD_eq_getElem?_getD, List.getElem?_eq_getElem hi]
          exact List.getElem_mem ..
      rw [kv_snoc, dval_snoc _ _ _ _ dx]
      by_cases e : l = x
      · subst e
        refine .inr ⟨q.length, by rw [List.length_append, List.length_singleton]; omega, getD_end q l, by rw [if_pos rfl]⟩
      · have ne : ¬ keyD (.int l) = keyD (.int x) := fun z => e (by cases z; rfl)
        rw [if_neg ne]
        rcases kv_val k q l (by omega) nq with ⟨h1, h2⟩ | ⟨i, hi, h1, h2⟩
        · exact .inl ⟨by simp [h1, e], h2⟩
        · exact .inr ⟨i, by rw [List.length_append, List.length_singleton]; omega, by rw [getD_app hi]; exact h1, h2⟩
theorem kv_put {ls : List Int} {l : Int} (nd : ls.Nodup) (h : l ∉ ls) : dput keyD (kv ls) (.int l) (.int (ls.length : Nat)) = kv (ls ++ [l]) := by
  have dn : dval keyD (kv ls) (.int l) = none := by
    rcases kv_val _ ls l (Nat.le_refl _) nd with z | ⟨i, hi, e, _⟩
    · exact z.2
    · refine absurd ?_ h
      rw [← e, List.getD_eq_getElem?_getD, List.getElem?_eq_getElem hi]
      exact List.getElem_mem ..
  rw [kv_snoc]
  unfold dput
  rw [dval_any, dn]; rfl
theorem nodup_few {B : Nat} {l : List Int} (nd : l.Nodup) (h : ∀ x, x ∈ l → x.natAbs ≤ B) : l.length ≤ 2 * B + 1 := by
  rcases Nat.lt_or_ge (2 * B + 1) l.length with q | q
  · exfalso
    have mem : ∀ i, i < l.length → l.getD i 0 ∈ l := fun i hi => by
      rw [List.getD_eq_getElem?_getD, List.getElem?_eq_getElem hi]; exact List.getElem_mem ..
    obtain ⟨i, j, hij, hj, e⟩ := pig (2 * B + 1) (fun i => (l.getD i 0 + B).toNat) fun i hi => by
      have := h _ (mem i (by omega))
      show (l.getD i 0 + B).toNat < _
      omega
    replace e : (l.getD i 0 + B).toNat = (l.getD j 0 + B).toNat := e
    have h1 := h _ (mem i (by omega))
    have h2 := h _ (mem j (by omega))
    have e2 : l.getD i 0 = l.getD j 0 := by omega
    have := List.pairwise_iff_getElem.mp nd i j (by omega) (by omega) hij
    rw [List.getD_eq_getElem?_getD, List.getElem?_eq_getElem (by omega), List.getD_eq_getElem?_getD, List.getElem?_eq_getElem (by omega)] at e2
    exact this e2
  · exact q
structure GrJ (p n u : Int) (ls : List Int) (l : Int) (ds : List Int) : Prop where
  nd : ls.Nodup
  len : ds.length = ls.length
  ok : okd p ds
  st : (ls ++ [l]).getD 0 0 = n
  step : ∀ i, i < ls.length → ls.getD i 0 = u * ds.getD i 0 + p * (ls ++ [l]).getD (i + 1) 0
  bnd : ∀ i, i ≤ ls.length → ((ls ++ [l]).getD i 0).natAbs ≤ u.natAbs ∨ (((ls ++ [l]).getD i 0).natAbs - u.natAbs) * 2 ^ i ≤ n.natAbs
theorem GrJ.few {p n u l : Int} {ls ds : List Int} (j : GrJ p n u ls l ds) (hn : n.natAbs < 2 ^ 200) (hu : u.natAbs ≤ 60) : ls.length ≤ 321 := by
  have nd2 : (ls.drop 200).Nodup := List.Sublist.nodup (List.drop_sublist 200 ls) j.nd
  have := nodup_few (B := 60) nd2 fun x hx => by
    obtain ⟨i, hi, e⟩ := List.mem_iff_getElem.mp hx
    rw [List.length_drop] at hi
    rw [List.getElem_drop] at e
    have b := j.bnd (200 + i) (by omega)
    rw [getD_app (by omega), List.getD_eq_getElem?_getD, List.getElem?_eq_getElem (by omega)] at b
    replace b : (ls[200 + i]).natAbs ≤ u.natAbs ∨ ((ls[200 + i]).natAbs - u.natAbs) * 2 ^ (200 + i) ≤ n.natAbs := b
    rw [e] at b
    rcases b with b | b
    · omega
    · rcases Nat.lt_or_ge u.natAbs x.natAbs with q | q
      · exfalso
        have h1 : 1 * 2 ^ (200 + i) ≤ (x.natAbs - u.natAbs) * 2 ^ (200 + i) := Nat.mul_le_mul_right _ (by omega)
        have h2 : 2 ^ 200 ≤ 2 ^ (200 + i) := Nat.pow_le_pow_right (by decide) (by omega)
        omega
      · omega
  rw [List.length_drop] at this
  omega
theorem GrJ.next {p n u l hl : Int} {ls ds : List Int} (hp : pr p) (u0 : 0 < u) (hh : p ∣ u * hl - 1) (j : GrJ p n u ls l ds) (hnew : l ∉ ls) :
    (l - (l * hl) % p * u).fdiv p * p = l - (l * hl) % p * u ∧ GrJ p n u (ls ++ [l]) ((l - (l * hl) % p * u).fdiv p) (ds ++ [(l * hl) % p]) := by
  have p2 := pr_pos hp
  have d0 : 0 ≤ (l * hl) % p := Int.emod_nonneg _ (by omega)
  have d1 : (l * hl) % p < p := Int.emod_lt_of_pos _ (by omega)
  have em := Int.mul_ediv_add_emod (l * hl) p
  have dv : p ∣ l - (l * hl) % p * u := by
    obtain ⟨k, hk⟩ := hh
    refine ⟨(l * hl) / p * u - l * k, ?_⟩
    have e1 : (l * hl) % p = l * hl - p * ((l * hl) / p) := by omega
    have e2 : l * hl * u = l * (p * k) + l := by rw [← hk, Int.mul_sub, Int.mul_one, Int.mul_assoc, Int.mul_comm hl u]; omega
    rw [e1, Int.sub_mul, e2, Int.mul_sub, Int.mul_left_comm l, Int.mul_assoc p]
    omega
  generalize hd : (l * hl) % p = d at *
  have ex := fdiv_mul dv
  generalize hl' : (l - d * u).fdiv p = l' at *
  refine ⟨ex, ⟨?_, by rw [List.length_append, List.length_append, j.len]; rfl, okd_append.mpr ⟨j.ok, okd_cons.mpr ⟨⟨d0, d1⟩, okd_nil _⟩⟩, ?_, fun i hi => ?_, fun i hi => ?_⟩⟩
  · refine List.nodup_append.mpr ⟨j.nd, by simp, fun a ha b hb e => ?_⟩
    rw [List.mem_singleton.mp hb] at e
    exact hnew (e ▸ ha)
  · rw [getD_app (by rw [List.length_append]; exact Nat.succ_pos _)]; exact j.st
  · rw [List.length_append, List.length_singleton] at hi
    rcases Nat.lt_or_ge i ls.length with q | q
    · rw [getD_app q, getD_app (show i < ds.length by rw [j.len]; exact q), getD_app (by rw [List.length_append, List.length_singleton]; omega)]
      exact j.step i q
    · have e : i = ls.length := by omega
      subst e
      have e1 : (ls ++ [l] ++ [l']).getD (ls.length + 1) 0 = l' := by
        have := getD_end (ls ++ [l]) l'
        rwa [List.length_append, List.length_singleton] at this
      have e2 : (ds ++ [d]).getD ls.length 0 = d := by rw [← j.len]; exact getD_end _ _
      rw [getD_end, e1, e2, Int.mul_comm u d, Int.mul_comm p l', ex]; omega
  · rw [List.length_append, List.length_singleton] at hi
    rcases Nat.lt_or_ge ls.length i with q | q
    · have e : i = ls.length + 1 := by omega
      subst e
      have e1 : (ls ++ [l] ++ [l']).getD (ls.length + 1) 0 = l' := by
        have := getD_end (ls ++ [l]) l'
        rwa [List.length_append, List.length_singleton] at this
      have b := j.bnd ls.length (Nat.le_refl _)
      rw [getD_end] at b
      rw [e1]
      have key : 2 * (l'.natAbs - u.natAbs) ≤ l.natAbs - u.natAbs := by
        rcases Nat.lt_or_ge u.natAbs l'.natAbs with z | z
        · have h1 : p.natAbs * l'.natAbs ≤ l.natAbs + (p.natAbs - 1) * u.natAbs := by
            have e3 : (l' * p).natAbs = p.natAbs * l'.natAbs := by rw [Int.natAbs_mul, Nat.mul_comm]
            have e4 : (d * u).natAbs ≤ (p.natAbs - 1) * u.natAbs := by rw [Int.natAbs_mul]; exact Nat.mul_le_mul_right _ (by omega)
            rw [← e3, ex]
            omega
          have e5 : p.natAbs * u.natAbs = (p.natAbs - 1) * u.natAbs + u.natAbs := by
            have := Nat.succ_mul (p.natAbs - 1) u.natAbs
            rwa [show (p.natAbs - 1).succ = p.natAbs by omega] at this
          have h2 : p.natAbs * (l'.natAbs - u.natAbs) ≤ l.natAbs - u.natAbs := by
            rw [Nat.mul_sub]; omega
          have h3 : 2 * (l'.natAbs - u.natAbs) ≤ p.natAbs * (l'.natAbs - u.natAbs) := Nat.mul_le_mul_right _ (by omega)
          omega
        · omega
      rcases Nat.lt_or_ge u.natAbs l'.natAbs with z | z
      · right
        have b' : (l.natAbs - u.natAbs) * 2 ^ ls.length ≤ n.natAbs := by
          rcases b with b | b
          · omega
          · exact b
        rw [Nat.pow_succ, Nat.mul_comm (2 ^ ls.length) 2, ← Nat.mul_assoc, Nat.mul_comm _ 2]
        exact Nat.le_trans (Nat.mul_le_mul_right _ key) b'
      · exact .inl z
    · rw [getD_app (by rw [List.length_append, List.length_singleton]; omega)]
      exact j.bnd i (by omega)
theorem cut_from {α : Type} (xs : List α) (k : Nat) (h : k ≤ xs.length) : DL.cutD xs (some (k : Int)) none = xs.drop k := by
  unfold DL.cutD
  have e1 : HT.sIx xs.length 0 (some (k : Int)) = k := by rw [HT.sIx_nat]; omega
  have e2 : HT.sIx xs.length xs.length none = xs.length := rfl
  rw [e1, e2, List.take_of_length_le (by rw [List.length_drop]; exact Nat.le_refl _)]
theorem gr_4 {K A} {R : Vl → Prop} {RE : Er → Prop} {p n u hl : Int} {d : D} (hp : pr p) (u0 : 0 < u) (u60 : u ≤ 60) (hn : n.natAbs < 2 ^ 200) (h0 : 0 ≤ hl) (h1 : hl < 32) (hh : p ∣ u * hl - 1)
    (h : ∀ fs os, Rnd p n u fs os → R (.p (.tup [tI fs, tI os]))) :
    t_going_round_4 K A (pEnds R RE) [some (.p (.int p)), some (.p d), some (.p (.int n)), some (.p (.int u)), some (.p (.int hl)), none, none, none, none] := by
  have p2 := pr_pos hp
  have pz : p ≠ 0 := by omega
  have dp : DivC p := divC_small (by omega) (by omega)
  have mh : ∀ w : Int, MulC w hl := fun w => mulC_small' (by omega)
  have mu : ∀ w : Int, MulC w u := fun w => mulC_small' (by omega)
  walk_at "d"
  refine while_run (fun x : List Int × Int × List Int × Option Sl => [some (.p (.int p)), some (.p d), some (.p (.int n)), some (.p (.int u)), some (.p (.int hl)), some (.ow none (.dct (kv x.1))), some (.ow none (.lst (x.2.2.1.map .int))), some (.p (.int x.2.1)), x.2.2.2])
    (fun x => GrJ p n u x.1 x.2.1 x.2.2.1) (fun x => 400 - x.1.length) ([], n, [], none) rfl ⟨List.nodup_nil, rfl, okd_nil _, rfl, fun i hi => (nomatch hi), fun i hi => ?_⟩ ?_
  · have e : i = 0 := Nat.le_zero.mp hi
    subst e
    right
    show (n.natAbs - u.natAbs) * 2 ^ 0 ≤ n.natAbs
    rw [Nat.pow_zero]; omega
  rintro ⟨ls, l, ds, s8⟩ hJ
  replace hJ : GrJ p n u ls l ds := hJ
  have few := hJ.few hn (by omega)
  have dl := hJ.len
  have sf : (ds.map D.int).length < sizeLine := by rw [List.length_map, sizeLine_eq]; omega
  have sk : (kv ls).length < sizeLine := by rw [kv_len, sizeLine_eq]; omega
  have m1 := mh l
  have em : (l * hl).fmod p = (l * hl) % p := fmod_pos _ (by omega)
  rcases kv_val _ ls l (Nat.le_refl _) hJ.nd with ⟨hnew, hv⟩ | ⟨f, hf, e, hv⟩
  · have m2 := mu ((l * hl).fmod p)
    have hnx := hJ.next hp u0 hh hnew
    walk_at "d"
    · rw [em]
      rw [show ((ds.map D.int).length : Int) = (ls.length : Nat) by rw [List.length_map, dl], kv_put hJ.nd hnew]
      refine ⟨400 - (ls.length + 1), by show _ < 400 - ls.length; omega, (ls ++ [l], _, ds ++ [(l * hl) % p], some (.p (.int ((l * hl) % p)))), ?_, hnx.2, by rw [List.length_append]; rfl⟩
      rw [List.map_append]; rfl
    · rename_i c
      rw [hv] at c
      cases c
  · walk_at "d"
    · rename_i c
      rw [hv] at c
      cases c
    · rename_i c
      rw [hv]
      walk_at "d"
      rw [hv]
      walk_at "d"
      rw [cut_n _ _ (by rw [List.length_map, dl]; omega), cut_from _ _ (by rw [List.length_map, dl]; omega), ← List.map_take, ← List.map_drop]
      refine h (ds.take f) (ds.drop f) ⟨by rw [List.take_append_drop]; exact hJ.ok, fun z => ?_, by rw [List.take_append_drop, dl]; omega, fun i => (ls ++ [l]).getD i 0, hJ.st, ?_, ?_, ?_⟩
      · have := congrArg List.length z
        rw [List.length_drop, dl] at this
        simp at this
        omega
      · rw [List.take_append_drop, dl]
        intro k hk
        have := hJ.step k hk
        show (ls ++ [l]).getD k 0 = u * ds.getD k 0 + p * (ls ++ [l]).getD (k + 1) 0
        rw [getD_app hk]; exact this
      · rw [List.take_append_drop, List.length_take, dl, Nat.min_eq_left (by omega)]
        show (ls ++ [l]).getD ls.length 0 = (ls ++ [l]).getD f 0
        rw [getD_end, getD_app hf, e]
      · rw [List.take_append_drop, dl]
        intro i j hij hj e2
        replace e2 : (ls ++ [l]).getD i 0 = (ls ++ [l]).getD j 0 := e2
        rw [getD_app (by omega), getD_app hj] at e2
        have := List.pairwise_iff_getElem.mp hJ.nd i j (by omega) hj hij
        rw [List.getD_eq_getElem?_getD, List.getElem?_eq_getElem (by omega), List.getD_eq_getElem?_getD, List.getElem?_eq_getElem hj] at e2
        exact this e2
theorem vc_going_round {K A} : ∀ ds R RE, c_going_round A ds R RE → t_going_round K A (pEnds R RE) (startD N_going_round (ds.map fun d => some (.p d))) := by
  rintro ds R RE ⟨p, d, n, u, rfl, hsq, u0, hg, hp, hn, hb, h⟩
  have p2 := pr_pos hp
  have pz : p ≠ 0 := by omega
  have dp : DivC p := divC_small (by omega) (by omega)
  have eu : u.fmod p = u % p := fmod_pos u (by omega)
  walk_at "d"
  refine ⟨d, n, u, rfl, hsq, fun z => absurd ⟨u0, hg⟩ z, fun _ => ?_⟩
  walk_at "s"
  refine .mk ?_
  walk_at "s"
  refine ⟨fun z => absurd z (pr_not4 hp), fun _ => ⟨hp, ?_⟩⟩
  walk_at "s"
  · rename_i c
    rw [eu] at c
    exact hb c
  rename_i c
  rw [eu] at c
  obtain ⟨hbig, h⟩ := h c
  refine .mk ?_
  walk_at "s"
  · rename_i c2
    exact hbig c2
  rename_i c2
  obtain ⟨u60, h⟩ := h c2
  refine .mk ?_
  walk_at "s"
  · rename_i c3
    have pn : p.natAbs < 2 ^ 1000 := Nat.lt_of_lt_of_le (show p.natAbs < 2 ^ 5 by omega) (Nat.pow_le_pow_right (by decide) (by decide))
    have cop : Int.gcd u p = 1 := pr_cop hp fun z => c (Int.emod_eq_zero_of_dvd z)
    refine ⟨p2.1, pn, fun z => absurd cop z, fun _ hl hl0 hl1 hld => ?_⟩
    walk_at "s"
    exact .mk (gr_4 hp u0 u60 hn hl0 (by omega) hld h)
  · rename_i c3
    have u1 : u = 1 := by omega
    exact .mk (gr_4 hp u0 u60 hn (by decide) (by decide) (by rw [u1]; exact ⟨0, by simp⟩) h)

theorem pr_5 : pr 5 := ⟨by decide, by decide, fun d h1 h2 => by
  rcases (show d = 2 ∨ d = 3 ∨ d = 4 by omega) with rfl | rfl | rfl <;> decide⟩
theorem pr_2 : pr 2 := ⟨by decide, by decide, fun d h1 h2 => by omega⟩
theorem sz_lit {x : Int} {k : Nat} (h : x.natAbs < 2 ^ 60) (hk : 60 ≤ k := by decide) : x.natAbs < 2 ^ k := sz_mono h hk
theorem vc__law_refused {P : Program} {K mg A} (T : Tx P K mg A) : ∀ ds R RE, c__law_refused A ds R RE → t__law_refused K A (pEnds R RE) (startD N__law_refused (ds.map fun d => some (.p d))) := by
  rintro ds R RE ⟨s, hr, h⟩
  have f1 := T.x_BadFraction_BadFraction
  have n1 := T.x_BadNumber_BadFraction
  have n2 := T.x_BadNumber_BadNumber
  have l1 := T.x_TooLarge_BadFraction
  have l2 := T.x_TooLarge_BadNumber
  have l3 := T.x_TooLarge_TooLarge
  cases hr with
  | r0 hp u0 hg hz hn hu =>
    walk_at "d"
    refine ⟨_, _, _, _, _, rfl, rfl, sz_mono hn (by decide), sz_lit (by omega), fun z => absurd ⟨u0, hg⟩ z, fun _ => ⟨fun z => absurd z (pr_not4 hp), fun _ => ⟨hp, fun _ => ?_, fun z => absurd hz z⟩⟩⟩
    walk_at "d"
    exact h
  | r1 hp u0 hg hz hn hu =>
    walk_at "d"
    refine ⟨_, _, _, _, rfl, rfl, u0, hg, hp, hn, fun _ => ?_, fun z => absurd hz z⟩
    walk_at "d"
    exact h
  | r2 hg m0 m1 =>
    walk_at "d"
    refine ⟨sz_lit (by omega), fun _ => ?_, fun z => absurd z hg⟩
    walk_at "d"
    exact h
  | r3 =>
    walk_at "d"
    refine ⟨pr_2, fun _ => ?_, fun z => absurd rfl z⟩
    walk_at "d"
    exact h
  | r4 hp =>
    walk_at "d"
    refine ⟨fun _ => ?_, fun _ z => ?_⟩
    · walk_at "d"
      exact h
    · have := pr_pos hp
      rw [Int.gcd_self] at z
      omega
  | r5 =>
    walk_at "d"
    refine ⟨fun _ => ?_, fun z => absurd z (by decide)⟩
    walk_at "d"
    exact h
  | r6 =>
    walk_at "d"
    refine ⟨fun _ => ?_, fun _ _ z => absurd z (by decide)⟩
    walk_at "d"
    exact h
  | r7 =>
    walk_at "d"
    refine ⟨fun _ => ?_, fun _ z => absurd z (by decide)⟩
    walk_at "d"
    exact h
  | a0 =>
    walk_at "d"
    refine ⟨_, _, _, _, _, rfl, rfl, sz_lit (by decide), sz_lit (by decide), fun z => absurd (by decide) z, fun _ => ⟨fun _ => ?_, fun z => absurd rfl z⟩⟩
    walk_at "d"
    exact h
  | a1 =>
    walk_at "d"
    refine ⟨_, _, _, _, _, rfl, rfl, sz_lit (by decide), sz_lit (by decide), fun z => absurd (by decide) z, fun _ => ⟨fun z => absurd z (by decide), fun _ => ⟨pr_5, fun z => absurd z (by decide), fun _ => ⟨fun _ => ?_, fun _ z => absurd z (by decide)⟩⟩⟩⟩
    walk_at "d"
    exact h
  | a2 =>
    walk_at "d"
    refine ⟨_, _, _, _, _, rfl, rfl, sz_lit (by decide), sz_lit (by decide), fun _ => ?_, fun z => absurd z (by decide)⟩
    walk_at "d"
    exact h
  | a3 =>
    walk_at "d"
    refine ⟨_, _, _, _, rfl, rfl, by decide, by decide, pr_5, sz_lit (by decide), fun z => absurd z (by decide), fun _ => ⟨fun _ => ?_, fun z => absurd z (by decide)⟩⟩
    walk_at "d"
    exact h
  | a4 =>
    walk_at "d"
    refine ⟨5, [1, 1], 5, 3, rfl, pr_5, ⟨by decide, by decide⟩, fun _ => ?_, fun _ z => absurd z (by decide)⟩
    walk_at "d"
    exact h
  | a5 =>
    walk_at "d"
    refine ⟨_, _, _, _, rfl, rfl, by decide, by decide, pr_5, sz_lit (by decide), sz_lit (by decide), fun _ => ?_, fun z => absurd rfl z⟩
    walk_at "d"
    exact h
theorem all2_len {α β : Type} {P : α → β → Prop} {l : List α} {m : List β} (h : All2 P l m) : l.length = m.length := by
  induction h with
  | nil => rfl
  | cons _ _ ih => rw [List.length_cons, List.length_cons, ih]
theorem all2_mem {α β : Type} {P : α → β → Prop} {l : List α} {m : List β} (h : All2 P l m) : ∀ b, b ∈ m → ∃ a, a ∈ l ∧ P a b := by
  induction h with
  | nil => intro b hb; cases hb
  | cons h1 _ ih =>
    intro b hb
    rcases List.mem_cons.mp hb with rfl | hb
    · exact ⟨_, by simp, h1⟩
    · obtain ⟨a, ha, hp⟩ := ih b hb
      exact ⟨a, by simp [ha], hp⟩
theorem all2_map {α β : Type} {P : α → β → Prop} {l : List α} {m : List β} (h : All2 P l m) (f : β → α) (hf : ∀ a b, P a b → f b = a) : m.map f = l := by
  induction h with
  | nil => rfl
  | cons h1 _ ih => rw [List.map_cons, hf _ _ h1, ih]
theorem roots_lt (p n : Int) : (roots p n).Pairwise (· < ·) := by
  unfold roots
  refine List.Pairwise.filter _ (List.pairwise_map.mpr ?_)
  exact List.Pairwise.imp (fun {a b} h => by omega) List.pairwise_lt_range
theorem roots_mem {p n b : Int} (h : b ∈ roots p n) : 0 ≤ b ∧ b < p := by
  unfold roots at h
  obtain ⟨i, hi, rfl⟩ := List.mem_map.mp (List.mem_filter.mp h).1
  have := List.mem_range.mp hi
  omega
/-- the two roots add up to 0 -/
theorem roots_sum {p n b c : Int} {k : Nat} {v w : List Int} (hp : pr p) (hk : 1 ≤ k) (hb : 0 ≤ b) (hbc : b < c) (hc : c < p) (h1 : Lift p [-n, 0, 1] b k v) (h2 : Lift p [-n, 0, 1] c k w) : p ^ k ∣ rvl p v + rvl p w := by
  have hd : ∀ {x : Int} {u : List Int}, Lift p [-n, 0, 1] x k u → p ∣ rvl p u - x := fun {x u} h => by
    cases u with
    | nil => have := h.2.1; simp at this; omega
    | cons y r =>
      have := h.2.2.1 y rfl
      subst this
      exact ⟨rvl p r, by rw [rvl]; omega⟩
  have d1 := h1.2.2.2
  have d2 := h2.2.2.2
  rw [sq_rvl] at d1 d2
  have dd : p ^ k ∣ (rvl p v - rvl p w) * (rvl p v + rvl p w) := by
    have := Int.dvd_sub d1 d2
    have e : (rvl p v - rvl p w) * (rvl p v + rvl p w) = rvl p v * rvl p v - n - (rvl p w * rvl p w - n) := by
      rw [Int.sub_mul, Int.mul_add, Int.mul_add, Int.mul_comm (rvl p w) (rvl p v)]; omega
    rw [e]; exact this
  refine cop_dvd (cop_pow2 (pr_cop hp fun z => ?_) k) dd
  obtain ⟨k1, e1⟩ := hd h1
  obtain ⟨k2, e2⟩ := hd h2
  obtain ⟨k3, e3⟩ := z
  have dv : p ∣ b - c := ⟨k3 - k1 + k2, by rw [Int.mul_add, Int.mul_sub]; omega⟩
  have := dvd_small dv (by omega)
  omega
section
variable {K : PySem.W.Frag} {A : Ad} {R : Vl → Nd → Prop} {RE : Er → Nd → Prop}
theorem rr_2 (h : ∀ n', R (.p (.bl true)) n') (ns : Nd) (hg : gs ns) (p : Int) (hp : pr p) (x2 x3 x4 x5 x6 : Option Sl) :
    t__law_roots_right_2 K A (rEnds R RE) [some (.ow (some 0) ns), some (.p (.int p)), x2, x3, x4, x5, x6, none, none, none, none, none] := by
  walk_at "s"
  refine ⟨_, rfl, by decide, by decide, fun q n1 hg1 q0 q1 => ?_⟩
  walk_at "s"
  refine ⟨_, rfl, by decide, by decide, fun r n2 hg2 r0 r1 => ?_⟩
  walk_at "s"
  refine .mk ?_
  generalize hb : 2 + q = b
  obtain ⟨k, hk⟩ : ∃ k : Nat, 1 + r = k := ⟨(1 + r).toNat, by omega⟩
  rw [hk]
  have k1 : 1 ≤ k := by omega
  have k3 : k ≤ 3 := by omega
  have b2 : 2 ≤ b := by omega
  have b12 : b ≤ 12 := by omega
  have pb : b ^ k ≤ 1728 := by
    have e1 := pow_mono (show (0 : Int) ≤ b by omega) b12 k
    have e2 : (12 : Int) ^ k ≤ 12 ^ 3 := pow_le_pow (by decide) k3
    have e3 : (12 : Int) ^ 3 = 1728 := by decide
    omega
  have pp := pow_pos (show 0 < b by omega) k
  walk_at "s"
  refine ⟨⟨by omega, by omega, 4, by omega, by rw [Int.toNat_natCast]; omega⟩, ?_⟩
  rw [Int.toNat_natCast]
  walk_at "s"
  refine .mk ?_
  have hbad : (b < 2 ∨ (k : Int) < 1 ∨ 100000 < b ^ (k : Int).toNat) → False := fun z => by rw [Int.toNat_natCast] at z; omega
  walk_at "s"
  refine ⟨by omega, by omega, fun z => (hbad z).elim, fun _ _ _ => ?_⟩
  rw [Int.toNat_natCast]
  obtain ⟨W, hW⟩ : ∃ W : Nat, b ^ k = W := ⟨(b ^ k).toNat, by omega⟩
  rw [hW]
  rw [hW] at pb pp
  rw [Int.toNat_natCast]
  have wz : (W : Int) ≠ 0 := by omega
  have do1 : dok 60 (tI (osq W)) = true := dok_tI 59 _
  walk_at "s"
  refine ⟨by omega, rfl, rfl, ?_⟩
  rw [Int.toNat_natCast]
  have er : rangeL 0 W = ((List.range W).map fun i : Nat => (i : Int)).map D.int := by
    unfold rangeL
    rw [List.map_map]
    exact List.map_congr_left fun i _ => by show D.int (0 + (i : Int)) = D.int i; rw [Int.zero_add]
  rw [er]
  refine lc_filter D.int (fun n => decide ((n * n - n) % (W : Int) = 0)) _ (by rw [List.length_map, List.length_range, sizeLine_eq]; omega) (fun n hn acc kk ha h1 h0 => ?_) ?_
  · obtain ⟨i, hi, rfl⟩ := List.mem_map.mp hn
    have hi := List.mem_range.mp hi
    have m : MulC (i : Int) (i : Int) := mulC_small (by omega)
    have e : ((i : Int) * (i : Int) - (i : Int)).fmod (W : Int) = ((i : Int) * (i : Int) - (i : Int)) % (W : Int) := fmod_pos _ (by omega)
    walk_at "d"
    · rename_i c
      rw [e] at c
      exact h1 (decide_eq_true c)
    · rename_i c
      rw [e] at c
      exact h0 (decide_eq_false c)
  walk_at "s"
  · rename_i c
    rw [show deq (tI (osq W)) (.tup ((((List.range W).map fun i : Nat => (i : Int)).filter fun n => decide ((n * n - n) % (W : Int) = 0)).map D.int)) = true from deq_rfl _] at c
    cases c
  refine .mk ?_
  walk_at "s"
  refine ⟨_, .r3, ?_⟩
  walk_at "s"
  refine ⟨_, .r4 hp, ?_⟩
  walk_at "s"
  refine ⟨_, .r5, ?_⟩
  walk_at "s"
  refine ⟨_, .r6, ?_⟩
  walk_at "s"
  refine .mk ?_
  walk_at "s"
  refine ⟨_, .r7, ?_⟩
  have eo : osq 100 = [0, 1, 25, 76] := by decide +kernel
  walk_at "s"
  refine ⟨fun z => absurd z (by decide), fun _ _ _ => ?_⟩
  rw [show ((10 : Int) ^ (2 : Int).toNat).toNat = 100 from rfl, eo]
  walk_at "s"
  exact h _
end
theorem vc__law_roots_right {K A} : ∀ n ds R RE, c__law_roots_right A n ds R RE → t__law_roots_right K A (rEnds R RE) (startD N__law_roots_right (some (.ow (some 0) n) :: ds.map fun d => some (.p d))) := by
  rintro ns ds R RE ⟨hg, p, rfl, hp, h⟩
  have p1 := pr_pos hp
  walk_at "s"
  refine ⟨_, rfl, by decide, by decide, fun q n1 hg1 q0 q1 => ?_⟩
  walk_at "s"
  refine ⟨_, rfl, by decide, by decide, fun r n2 hg2 r0 r1 => ?_⟩
  generalize hN : 1 + q = n
  obtain ⟨k, hk⟩ : ∃ k : Nat, 1 + r = k := ⟨(1 + r).toNat, by omega⟩
  have k1 : 1 ≤ k := by omega
  have k6 : k ≤ 6 := by omega
  have pz : p ≠ 0 := by omega
  walk_at "s"
  rw [hk]
  refine .mk ?_
  have en : n.fmod p = n % p := fmod_pos n (by omega)
  walk_at "s"
  · rename_i c1 c2
    rw [en] at c2
    have hnp : ¬ p ∣ n := fun z => c2 (Int.emod_eq_zero_of_dvd z)
    have cop := pr_cop hp hnp
    refine ⟨fun z => ?_, fun _ _ => ⟨by omega, by omega, by omega, by omega, fun wss ha => ?_⟩⟩
    · rcases z with z | z
      · omega
      · exact absurd cop z
    rw [Int.toNat_natCast] at ha
    obtain ⟨P, rfl⟩ : ∃ P : Nat, p = P := ⟨p.toNat, by omega⟩
    have lr : (roots P n).length ≤ 31 := by
      unfold roots
      refine Nat.le_trans (List.length_filter_le _ _) ?_
      rw [List.length_map, List.length_range]; omega
    have lw := all2_len ha
    have wne : ∀ w, w ∈ wss → ∃ b, b ∈ roots P n ∧ Lift P [-n, 0, 1] b k w := all2_mem ha
    have hz : wss.length ≤ sizeLine := by rw [sizeLine_eq]; omega
    have d1 : dok 60 (.lst ((roots P n).map .int)) = true := doks_ints 59 _
    walk_at "s"
    refine ⟨by omega, ?_⟩
    rw [Int.toNat_natCast]
    refine fold_range (fun j ε => ∃ (s6 : Option Sl), ε = [some (.ow (some 0) n2), some (.p (.int P)), some (.p (.int n)), some (.p (.int k)), some (.p (.tup (wss.map fun w => tI w))), some (.ow none (.lst ((((List.range j).map fun i : Nat => (i : Int)).filter fun b => decide ((b * b - n) % (P : Int) = 0)).map .int))), s6, none, none, none, none, none]) ?_ ?_ _ ⟨none, rfl⟩
    · rintro ε ⟨s6, rfl⟩
      have er : (((List.range P).map fun i : Nat => (i : Int)).filter fun b => decide ((b * b - n) % (P : Int) = 0)) = roots P n := by unfold roots; rw [Int.toNat_natCast]
      rw [er]
      walk_at "s"
      refine lc_all (fun w : List Int => tI w) D.int (fun w => w.headD 0) wss hz (fun w hw acc kk ha' hkk => ?_) ?_
      · obtain ⟨b, hb, hL⟩ := wne w hw
        cases w with
        | nil => have := hL.2.1; simp at this; omega
        | cons x r =>
          walk_at "d"
          rw [show atI (List.map D.int (x :: r)) 0 = some (.int x) from at_mid [] x r]
          walk_at "d"
          exact hkk
      have eh : wss.map (fun w => w.headD 0) = roots P n := all2_map ha _ fun b w hL => by
        cases w with
        | nil => have := hL.2.1; simp at this; omega
        | cons x r => exact hL.2.2.1 x rfl
      rw [eh]
      walk_at "s"
      · rename_i c
        rw [show deq (.lst ((roots P n).map .int)) (.lst ((roots P n).map .int)) = true from deq_rfl _] at c
        cases c
      refine lc_none (fun w : List Int => tI w) wss hz (fun w hw acc kk ha' hkk => ?_) ?_
      · obtain ⟨b, hb, hL⟩ := wne w hw
        have rb := roots_mem hb
        have bx := rvl_sz hp hL.1 (k := 6) (by have := hL.2.1; omega)
        have mm : MulC (rvl P w) (rvl P w) := mulC_of bx bx (by decide)
        have pp := pow_pos (show (0 : Int) < P by omega) k
        have pnz : (P : Int) ^ k ≠ 0 := by omega
        have dv := hL.2.2.2
        rw [sq_rvl] at dv
        have e0 := (fdiv_dvd pp).mpr dv
        walk_at "d"
        refine ⟨P, w, rfl, by omega, ?_⟩
        walk_at "d"
        refine ⟨P, w, rfl, by omega, ?_⟩
        walk_at "d"
        refine ⟨⟨by omega, by omega, 5, by omega, by rw [Int.toNat_natCast]; omega⟩, ?_⟩
        rw [Int.toNat_natCast]
        walk_at "d"
        · exact absurd e0 (by assumption)
        · rename_i c3 c4
          refine absurd ?_ c4
          rw [List.length_map, hL.2.1]
        · exact hkk
      walk_at "s"
      · rename_i c
        rw [List.length_map] at c
        match wss, ha, c with
        | [v, w], ha, _ =>
          obtain ⟨b0, b1, h1, h2, er2⟩ : ∃ b0 b1, Lift P [-n, 0, 1] b0 k v ∧ Lift P [-n, 0, 1] b1 k w ∧ roots P n = [b0, b1] := by
            cases hr : roots P n with
            | nil => rw [hr] at ha; cases ha
            | cons b0 l =>
              rw [hr] at ha
              cases ha with
              | cons g1 g =>
                cases g with
                | cons g2 g => cases g; exact ⟨_, _, g1, g2, rfl⟩
          have lt := roots_lt P n
          rw [er2] at lt
          have lt2 : b0 < b1 := (List.pairwise_cons.mp lt).1 b1 (by simp)
          have r0 := roots_mem (p := P) (n := n) (b := b0) (by rw [er2]; simp)
          have r1 := roots_mem (p := P) (n := n) (b := b1) (by rw [er2]; simp)
          have sm := roots_sum hp k1 r0.1 lt2 r1.2 h1 h2
          have drep : dok 60 (tI (List.replicate k 0)) = true := dok_tI 59 _
          walk_at "s"
          refine ⟨P, v, w, rfl, hp, by rw [h1.2.1, h2.2.1], by rw [h1.2.1]; omega, h1.1, h2.1, fun zs ok lz dz => ?_⟩
          have ez : zs = List.replicate k 0 := by
            refine rvl_same (show (2 : Int) ≤ P by omega) ok (okd_rep (by omega) k) (by rw [lz, h1.2.1, List.length_replicate]) ?_
            have e0 : rvl P (List.replicate k 0) = 0 := by
              have : ∀ j, rvl P (List.replicate j 0) = 0 := fun j => by
                induction j with
                | zero => rfl
                | succ j ih => rw [List.replicate_succ, rvl, ih]; simp
              exact this k
            rw [e0, lz, h1.2.1, Int.sub_zero]
            rw [h1.2.1] at dz
            have := Int.dvd_add dz sm
            rwa [Int.sub_add_cancel] at this
          subst ez
          have hrep := rep_sz (.int 0) (k := (k : Int)) (by omega) (by omega)
          walk_at "s"
          rw [Int.toNat_natCast, rep_ints]
          walk_at "s"
          · rename_i c
            rw [show deq (tI (List.replicate k 0)) (.tup ((List.replicate k (0 : Int)).map D.int)) = true from deq_rfl _] at c
            cases c
          exact .mk (rr_2 h n2 hg2 P hp _ _ _ _ _)
        | [], _, c => simp at c
        | [_], _, c => simp at c
        | _ :: _ :: _ :: _, _, c => simp at c; omega
      · exact .mk (rr_2 h n2 hg2 P hp _ _ _ _ _)
    · rintro j ε hj ⟨s6, rfl⟩ nx hnx
      have m : MulC (0 + (j : Int)) (0 + (j : Int)) := mulC_small (by omega)
      have em : ((0 + (j : Int)) * (0 + (j : Int)) - n).fmod (P : Int) = ((j : Int) * (j : Int) - n) % (P : Int) := by rw [fmod_pos _ (by omega), Int.zero_add]
      have sf : ((((List.range j).map fun i : Nat => (i : Int)).filter fun b => decide ((b * b - n) % (P : Int) = 0)).map D.int).length < sizeLine := by
        rw [List.length_map, sizeLine_eq]
        have := List.length_filter_le (fun b : Int => decide ((b * b - n) % (P : Int) = 0)) ((List.range j).map fun i : Nat => (i : Int))
        rw [List.length_map, List.length_range] at this
        omega
      walk_at "d"
      · rename_i c
        rw [em] at c
        refine hnx _ ⟨some (.p (.int (0 + (j : Nat)))), ?_⟩
        rw [List.range_succ, List.map_append, List.filter_append, List.map_append]
        have e : ([j].map fun i : Nat => (i : Int)).filter (fun b => decide ((b * b - n) % (P : Int) = 0)) = [(j : Int)] := by simp [c]
        rw [e, Int.zero_add]; rfl
      · rename_i c
        rw [em] at c
        refine hnx _ ⟨some (.p (.int (0 + (j : Nat)))), ?_⟩
        rw [List.range_succ, List.map_append, List.filter_append]
        have e : ([j].map fun i : Nat => (i : Int)).filter (fun b => decide ((b * b - n) % (P : Int) = 0)) = [] := by simp [c]
        rw [e, List.append_nil]
  all_goals exact .mk (rr_2 h n2 hg2 p hp _ _ _ _ _)

/-! fractions -/
/-- what stands for n / u in lowest terms -/
def red (n u a b : Int) : Prop := 0 < b ∧ Int.gcd a b = 1 ∧ a * u = n * b ∧ b ∣ u ∧ a ∣ n
theorem red_of {n u : Int} (h : u ≠ 0) : red n u (n.fdiv (cm n u)) (u.fdiv (cm n u)) := by
  have e1 := fdiv_mul (cm_dvd n u).1
  have e2 := fdiv_mul (cm_dvd n u).2
  refine ⟨fr_pos h, fr_cop h, ?_, ⟨cm n u, e2.symm⟩, ⟨cm n u, e1.symm⟩⟩
  generalize cm n u = c at *
  generalize n.fdiv c = a at *
  generalize u.fdiv c = b at *
  rw [← e1, ← e2, Int.mul_assoc, Int.mul_comm c b]
theorem red_one {a b c d : Int} (hb : 0 < b) (hd : 0 < d) (h1 : Int.gcd a b = 1) (h2 : Int.gcd c d = 1) (e : a * d = c * b) : a = c ∧ b = d := by
  have b1 : b ∣ d := by
    have : b ∣ a * d := ⟨c, by rw [e, Int.mul_comm]⟩
    exact cop_dvd h1 this
  have b2 : d ∣ b := by
    have : d ∣ c * b := ⟨a, by rw [← e, Int.mul_comm]⟩
    exact cop_dvd h2 this
  have l1 := Int.le_of_dvd hd b1
  have l2 := Int.le_of_dvd hb b2
  have eb : b = d := by omega
  subst eb
  exact ⟨Int.eq_of_mul_eq_mul_right (by omega) e, rfl⟩
theorem frD_is {n u a b : Int} (h : u ≠ 0) (hb : 0 < b) (hg : Int.gcd a b = 1) (e : n * b = a * u) : frD n u = .tup [.int a, .int b] ∧ n.fdiv (cm n u) = a ∧ u.fdiv (cm n u) = b := by
  obtain ⟨r1, r2, r3, _, _⟩ := red_of (n := n) h
  have z := red_one r1 hb r2 hg (by
    have h1 : n.fdiv (cm n u) * b * u = a * u.fdiv (cm n u) * u := by
      rw [Int.mul_right_comm, r3, Int.mul_right_comm a, ← e, Int.mul_right_comm]
    exact Int.eq_of_mul_eq_mul_right h h1)
  exact ⟨by unfold frD; rw [z.1, z.2], z.1, z.2⟩
/-- words of two fractions of one value -/
theorem same_word {p : Int} (hp : pr p) {k : Nat} {zs ws : List Int} {D N d m : Int} (oz : okd p zs) (ow : okd p ws) (lz : zs.length = k) (lw : ws.length = k) (hz : p ^ k ∣ rvl p zs * D - N) (hw : p ^ k ∣ rvl p ws * d - m) (e : m * D = N * d)
    (cd : ¬ p ∣ d) (cD : ¬ p ∣ D) : zs = ws := by
  have p2 := pr_pos hp
  refine rvl_same p2.1 oz ow (by rw [lz, lw]) ?_
  rw [lz]
  have c1 := cop_pow2 (pr_cop hp cd) k
  have c2 := cop_pow2 (pr_cop hp cD) k
  refine cop_dvd c1 (cop_dvd c2 ?_)
  obtain ⟨a, ha⟩ := hz
  obtain ⟨b, hb⟩ := hw
  refine ⟨d * a - D * b, ?_⟩
  generalize rvl p zs = Z at *
  generalize rvl p ws = W at *
  have h1 : Z * D * d = p ^ k * a * d + N * d := by rw [← Int.add_mul]; congr 1; omega
  have h2 : W * d * D = p ^ k * b * D + m * D := by rw [← Int.add_mul]; congr 1; omega
  have g1 : D * (d * (Z - W)) = Z * D * d - W * d * D := by
    rw [Int.mul_sub, Int.mul_sub]
    have i1 : D * (d * Z) = Z * D * d := by rw [Int.mul_comm d Z, ← Int.mul_assoc, Int.mul_comm D Z]
    have i2 : D * (d * W) = W * d * D := by rw [Int.mul_comm d W, Int.mul_comm]
    rw [i1, i2]
  rw [g1, h1, h2, e, Int.mul_sub, Int.mul_comm d a, Int.mul_comm D b, ← Int.mul_assoc, ← Int.mul_assoc]
  omega
theorem pr_dvd {p a b : Int} (hp : pr p) (ha : ¬ p ∣ a) (hb : ¬ p ∣ b) : ¬ p ∣ a * b := fun h => hb (cop_dvd (pr_cop hp ha) h)
theorem not_dvd {p a b : Int} (h : ¬ p ∣ b) (hd : a ∣ b) : ¬ p ∣ a := fun z => h (Int.dvd_trans z hd)
/-! digits that go round -/
theorem rnd_seg {p u : Int} {ds : List Int} {L : Nat → Int} (h : ∀ k, k < ds.length → L k = u * ds.getD k 0 + p * L (k + 1)) (i : Nat) : ∀ j, i + j ≤ ds.length → L i = u * rvl p ((ds.drop i).take j) + p ^ j * L (i + j)
  | 0, _ => by simp [rvl]
  | j + 1, hj => by
    have ih := rnd_seg h i j (by omega)
    have hs := h (i + j) (by omega)
    have g : (ds.drop i).getD j 0 = ds.getD (i + j) 0 := by rw [List.getD_eq_getElem?_getD, List.getElem?_drop, List.getD_eq_getElem?_getD]
    rw [rvl_more p (show j < (ds.drop i).length by rw [List.length_drop]; omega), g, Int.pow_succ, Int.mul_add]
    rw [ih, hs, Int.mul_add, Int.mul_left_comm (p ^ j) u, Int.mul_assoc (p ^ j) p]
    have : i + j + 1 = i + (j + 1) := by omega
    rw [this]
    omega
theorem rnd_all {p n u : Int} {fs os : List Int} (h : Rnd p n u fs os) : ∃ l, n = u * rvl p fs + p ^ fs.length * l ∧ l = u * rvl p os + p ^ os.length * l ∧
    (∀ s, 1 ≤ s → s < os.length → ∃ y, y ≠ l ∧ l = u * rvl p (os.take s) + p ^ s * y) ∧ (∀ f o, 1 ≤ fs.length → fs.getD (fs.length - 1) 0 = f → os.getD (os.length - 1) 0 = o → f ≠ o) := by
  obtain ⟨L, l0, st, rn, ne⟩ := h.ex
  have lo : 1 ≤ os.length := by
    cases os with
    | nil => exact absurd rfl h.ne
    | cons x r => exact Nat.succ_pos _
  have ll : (fs ++ os).length = fs.length + os.length := List.length_append
  have df : (fs ++ os).drop fs.length = os := by simp
  refine ⟨L fs.length, ?_, ?_, fun s s1 s2 => ⟨L (fs.length + s), fun e => ne fs.length (fs.length + s) (by omega) (by omega) e.symm, ?_⟩, fun f o f1 hf ho e => ?_⟩
  · have := rnd_seg st 0 fs.length (by omega)
    rw [List.drop_zero, Nat.zero_add, l0] at this
    simpa using this
  · have := rnd_seg st fs.length os.length (by omega)
    rw [df, List.take_of_length_le (Nat.le_refl _), ← ll, rn] at this
    exact this
  · have := rnd_seg st fs.length s (by omega)
    rwa [df] at this
  · have a := st (fs.length - 1) (by omega)
    have b := st (fs.length + os.length - 1) (by omega)
    have g1 : (fs ++ os).getD (fs.length - 1) 0 = f := by
      rw [List.getD_eq_getElem?_getD, List.getElem?_append_left (by omega), ← List.getD_eq_getElem?_getD]; exact hf
    have g2 : (fs ++ os).getD (fs.length + os.length - 1) 0 = o := by
      rw [List.getD_eq_getElem?_getD, List.getElem?_append_right (by omega), show fs.length + os.length - 1 - fs.length = os.length - 1 by omega, ← List.getD_eq_getElem?_getD]; exact ho
    rw [g1, show fs.length - 1 + 1 = fs.length by omega] at a
    rw [g2, show fs.length + os.length - 1 + 1 = (fs ++ os).length by omega, rn] at b
    exact ne (fs.length - 1) (fs.length + os.length - 1) (by omega) (by omega) (by rw [a, b, e])
def rpt (m : Nat) (v : List Int) : List Int := (List.replicate m v).flatten
theorem rpt_succ (m : Nat) (v : List Int) : rpt (m + 1) v = v ++ rpt m v := by unfold rpt; rw [List.replicate_succ, List.flatten_cons]
theorem rpt_len (m : Nat) (v : List Int) : (rpt m v).length = m * v.length := by
  induction m with
  | zero => simp [rpt]
  | succ m ih => rw [rpt_succ, List.length_append, ih, Nat.succ_mul]; omega
theorem rpt_okd {p : Int} {v : List Int} (h : okd p v) (m : Nat) : okd p (rpt m v) := by
  induction m with
  | zero => exact okd_nil p
  | succ m ih => rw [rpt_succ]; exact okd_append.mpr ⟨h, ih⟩
theorem rpt_val {p u l : Int} {os : List Int} (h : l = u * rvl p os + p ^ os.length * l) : ∀ m, l = u * rvl p (rpt m os) + p ^ (rpt m os).length * l
  | 0 => by simp [rpt, rvl]
  | m + 1 => by
    have ih := rpt_val h m
    rw [rpt_succ, rvl_app, List.length_append, Int.pow_add, Int.mul_add, Int.mul_assoc]
    generalize rvl p (rpt m os) = A at *
    generalize p ^ (rpt m os).length = B at *
    generalize p ^ os.length = C at *
    have e : C * l = u * (C * A) + C * (B * l) := by
      conv => lhs; rw [ih]
      rw [Int.mul_add, Int.mul_left_comm]
    omega
/-- the digits of the number, as many as asked -/
theorem long_word {p n u l : Int} {fs os : List Int} (h0 : n = u * rvl p fs + p ^ fs.length * l) (h1 : l = u * rvl p os + p ^ os.length * l) (m k : Nat) (hk : k ≤ (fs ++ rpt m os).length) : p ^ k ∣ rvl p ((fs ++ rpt m os).take k) * u - n := by
  have e : n = u * rvl p (fs ++ rpt m os) + p ^ (fs ++ rpt m os).length * l := by
    have h2 := rpt_val h1 m
    rw [rvl_app, List.length_append, Int.pow_add, Int.mul_add, Int.mul_assoc]
    generalize rvl p (rpt m os) = A at *
    generalize p ^ (rpt m os).length = B at *
    generalize p ^ fs.length = C at *
    have e : C * l = u * (C * A) + C * (B * l) := by
      conv => lhs; rw [h2]
      rw [Int.mul_add, Int.mul_left_comm]
    omega
  generalize hW : fs ++ rpt m os = W at *
  have s := rvl_app p (W.take k) (W.drop k)
  rw [List.take_append_drop, List.length_take, Nat.min_eq_left hk] at s
  have pw : p ^ W.length = p ^ k * p ^ (W.length - k) := by rw [← Int.pow_add]; congr 1; omega
  refine ⟨-(u * rvl p (W.drop k) + p ^ (W.length - k) * l), ?_⟩
  rw [e, s, pw, Int.mul_neg, Int.mul_add, Int.mul_add, Int.mul_comm (rvl p (W.take k)) u, Int.mul_left_comm u, Int.mul_assoc (p ^ k)]
  omega
/-- no shorter round -/
theorem prim {p u l y : Int} (hp : 2 ≤ p) {os v : List Int} {m : Nat} (hm : 1 ≤ m) (e : rpt m v = os) (h1 : l = u * rvl p os + p ^ os.length * l) (hv : 1 ≤ v.length) (hy : l = u * rvl p v + p ^ v.length * y) : y = l := by
  subst e
  have G : ∀ m, ∃ g : Int, rvl p (rpt m v) = rvl p v * g ∧ (1 - p ^ v.length) * g = 1 - p ^ (rpt m v).length ∧ (1 ≤ m → 1 ≤ g) ∧ 0 ≤ g := by
    intro m
    induction m with
    | zero => exact ⟨0, by simp [rpt, rvl], by simp [rpt], fun z => absurd z (by decide), Int.le_refl _⟩
    | succ m ih =>
      obtain ⟨g, g1, g2, g3, g4⟩ := ih
      have q0 := pow_pos (show 0 < p by omega) v.length
      have qg := Int.mul_nonneg (Int.le_of_lt q0) g4
      refine ⟨1 + p ^ v.length * g, ?_, ?_, fun _ => by omega, by omega⟩
      · rw [rpt_succ, rvl_app, g1, Int.mul_add, Int.mul_one, Int.mul_left_comm]
      · rw [rpt_succ, List.length_append, Int.pow_add, Int.mul_add, Int.mul_one, Int.mul_left_comm, g2, Int.mul_sub, Int.mul_one]
        omega
  obtain ⟨g, g1, g2, g3, _⟩ := G m
  have g0 := g3 hm
  rw [g1] at h1
  generalize p ^ (rpt m v).length = Q at *
  have q0 := pow_big (show (2 : Int) ≤ p from hp) v.length
  generalize hq : p ^ v.length = q at *
  generalize rvl p v = V at *
  have e1 : l * (1 - q) * g = u * V * g := by
    rw [Int.mul_assoc, g2, Int.mul_sub, Int.mul_one, Int.mul_comm l Q, Int.mul_assoc u V g]; omega
  have e2 : l * (1 - q) = u * V := Int.eq_of_mul_eq_mul_right (by omega) e1
  rw [Int.mul_sub, Int.mul_one, Int.mul_comm l q] at e2
  have e3 : q * y = q * l := by omega
  exact Int.eq_of_mul_eq_mul_left (by omega) e3
theorem vp_one {p x : Int} (hp : 2 ≤ p) {a b : Nat} (ha : vp p x a) (hb : vp p x b) : a = b := by
  have go : ∀ {a b : Nat}, vp p x a → vp p x b → ¬ a < b := fun {a b} ha hb h => by
    refine ha.2 (Int.dvd_trans ?_ hb.1)
    exact ⟨p ^ (b - (a + 1)), by rw [← Int.pow_add]; congr 1; omega⟩
  have := go ha hb
  have := go hb ha
  omega
theorem vp_of {p x y : Int} (hp : 2 ≤ p) {a : Nat} (e : y * p ^ a = x) (nd : ¬ p ∣ y) : vp p x a := by
  refine ⟨⟨y, by rw [← e, Int.mul_comm]⟩, fun ⟨q, hq⟩ => nd ⟨q, ?_⟩⟩
  have pj := pow_pos (show 0 < p by omega) a
  rw [← e, Int.pow_succ, Int.mul_comm y, Int.mul_assoc] at hq
  exact Int.eq_of_mul_eq_mul_left (by omega) hq
theorem pow_no {p x y : Int} (hp : 2 ≤ p) {a : Nat} (e : y * p ^ a = x) (hy : y ≠ 0) (hx : x.natAbs < 2 ^ a) : False := by
  have h1 : x.natAbs = y.natAbs * (p ^ a).natAbs := by rw [← e, Int.natAbs_mul]
  have h2 : 2 ^ a ≤ (p ^ a).natAbs := by rw [Int.natAbs_pow]; exact Nat.pow_le_pow_left (by omega) a
  have h3 : 1 * (p ^ a).natAbs ≤ y.natAbs * (p ^ a).natAbs := Nat.mul_le_mul_right _ (by omega)
  omega

section
variable {K : PySem.W.Frag} {A : Ad} {R : Vl → Nd → Prop} {RE : Er → Nd → Prop}
def refT (x : D) : Prop := ∃ w a b c s, x = .tup [w, a, b, c, .str (PySem.Str.ofString s)] ∧ Ref [w, a, b, c] s
theorem right_16 (h : ∀ n', R (.p (.bl true)) n') (ns : Nd) (hg : gs ns) (p : Int) (hp : pr p) (x2 x3 x4 x5 x6 x7 x8 x9 x10 x11 x12 x13 x14 x15 x16 x17 x18 x19 x20 x21 x22 x23 x24 x25 : Option Sl) :
    t__law_right_16 K A (rEnds R RE) (some (.ow (some 0) ns) :: some (.p (.int p)) :: x2 :: x3 :: x4 :: x5 :: x6 :: x7 :: x8 :: x9 :: x10 :: x11 :: x12 :: x13 :: x14 :: x15 :: x16 :: x17 :: x18 :: x19 :: x20 :: x21 :: x22 :: x23 :: x24 :: x25 :: none :: none :: none :: none :: none :: none :: none :: none :: []) := by
  walk_at "s"
  refine .mk ?_
  walk_at "s"
  refine fold_ind (fun r ε => ∃ (s22 s26 s27 s28 s29 s30 : Option Sl), (∀ x, x ∈ r → refT x) ∧ ε = (some (.ow (some 0) ns) :: some (.p (.int p)) :: x2 :: x3 :: x4 :: x5 :: x6 :: x7 :: x8 :: x9 :: x10 :: x11 :: x12 :: x13 :: x14 :: x15 :: x16 :: x17 :: x18 :: x19 :: x20 :: x21 :: s22 :: x23 :: x24 :: x25 :: s26 :: s27 :: s28 :: s29 :: s30 :: none :: none :: none :: [])) ?_ ?_ _ _ ⟨_, _, _, _, _, _, fun x hx => by
    simp only [List.cons_append, List.nil_append, List.mem_cons, List.not_mem_nil, or_false] at hx
    rcases hx with rfl | rfl | rfl | rfl | rfl | rfl
    · exact ⟨_, _, _, _, _, rfl, .a0⟩
    · exact ⟨_, _, _, _, _, rfl, .a1⟩
    · exact ⟨_, _, _, _, _, rfl, .a2⟩
    · exact ⟨_, _, _, _, _, rfl, .a3⟩
    · exact ⟨_, _, _, _, _, rfl, .a4⟩
    · exact ⟨_, _, _, _, _, rfl, .a5⟩, rfl⟩
  · rintro ε ⟨s22, s26, s27, s28, s29, s30, _, rfl⟩
    walk_at "d"
    exact ⟨p, rfl, hp, h⟩
  · rintro x r ε ⟨s22, s26, s27, s28, s29, s30, hx, rfl⟩ nx hn
    obtain ⟨w, a, b, c, s, rfl, hr⟩ := hx x (by simp)
    walk_at "d"
    refine ⟨s, hr, ?_⟩
    walk_at "d"
    exact hn _ ⟨_, _, _, _, _, _, fun y hy => hx y (by simp [hy]), rfl⟩
theorem right_14 (h : ∀ n', R (.p (.bl true)) n') (ns : Nd) (hg : gs ns) (p : Int) (hp : pr p) (x2 x3 x4 x5 x6 x7 x8 x9 x10 x11 x12 x13 x14 x15 x16 x17 x18 x19 x20 x21 x22 x23 : Option Sl) :
    t__law_right_14 K A (rEnds R RE) (some (.ow (some 0) ns) :: some (.p (.int p)) :: x2 :: x3 :: x4 :: x5 :: x6 :: x7 :: x8 :: x9 :: x10 :: x11 :: x12 :: x13 :: x14 :: x15 :: x16 :: x17 :: x18 :: x19 :: x20 :: x21 :: x22 :: x23 :: none :: none :: none :: none :: none :: none :: none :: none :: none :: none :: []) := by
  walk_at "s"
  refine ⟨_, rfl, by decide, by decide, fun q n1 hg1 q0 q1 => ?_⟩
  walk_at "s"
  refine ⟨_, rfl, by decide, by decide, fun r n2 hg2 r0 r1 => ?_⟩
  generalize hm : 2 + q = m
  generalize ha : r - 500 = a
  have m2 : 2 ≤ m := by omega
  have m3 : m < 1000 := by omega
  have mz : m ≠ 0 := by omega
  walk_at "s"
  rw [ha]
  refine .mk ?_
  walk_at "s"
  refine ⟨sz_lit (by omega), ?_⟩
  walk_at "s"
  · rename_i c
    have cop : Int.gcd a m = 1 := by omega
    refine ⟨sz_lit (by omega), fun z => absurd cop z, fun _ x x0 x1 xd => ?_⟩
    walk_at "s"
    all_goals try (exfalso; omega)
    refine ⟨sz_lit (by omega), fun z => absurd cop z, fun _ y y0 y1 yd => ?_⟩
    have my : MulC a y := mulC_small (by omega)
    have e := (fdiv_dvd (show 0 < m by omega)).mpr yd
    walk_at "s"
    · exact absurd e (by assumption)
    · exact .mk (right_16 h n2 hg2 p hp _ _ _ _ _ _ _ _ _ _ _ _ _ _ _ _ _ _ _ _ _ _ _ _)
  · rename_i c
    have cop : Int.gcd a m ≠ 1 := fun z => c (by rw [z]; rfl)
    refine ⟨_, .r2 cop m2 m3, ?_⟩
    walk_at "s"
    exact .mk (right_16 h n2 hg2 p hp _ _ _ _ _ _ _ _ _ _ _ _ _ _ _ _ _ _ _ _ _ _ _ _)
def shN : Sh := .tup [.str "rootless", .int]
def shR : Sh := .tup [.str "root", .int, .ints]
theorem shN_has (b : Int) : shN.has 500 (clN b) := by
  unfold shN
  rw [Sh.has]
  refine ⟨_, rfl, ?_⟩
  simp only [Sh.hass]
  exact ⟨_, _, rfl, by rw [Sh.has], _, _, rfl, by rw [Sh.has]; exact ⟨b, rfl⟩, rfl⟩
theorem shR_has (b : Int) {ws : List Int} (h : ws.length ≤ 500) : shR.has 500 (clR b ws) := by
  unfold shR
  rw [Sh.has]
  refine ⟨_, rfl, ?_⟩
  simp only [Sh.hass]
  exact ⟨_, _, rfl, by rw [Sh.has], _, _, rfl, by rw [Sh.has]; exact ⟨b, rfl⟩, _, _, rfl, ints_has ws h, rfl⟩
theorem has_shN {d : D} (h : shN.has 500 d) : ∃ b, d = clN b := by
  unfold shN at h
  rw [Sh.has] at h
  obtain ⟨ds, rfl, h⟩ := h
  simp only [Sh.hass] at h
  obtain ⟨d0, _, rfl, h0, d1, _, rfl, h1, rfl⟩ := h
  rw [Sh.has] at h0
  unfold Sh.has at h1
  obtain ⟨b, rfl⟩ := h1
  subst h0
  exact ⟨b, rfl⟩
theorem has_shR {d : D} (h : shR.has 500 d) : ∃ b ws, d = clR b ws ∧ ws.length ≤ 500 := by
  unfold shR at h
  rw [Sh.has] at h
  obtain ⟨ds, rfl, h⟩ := h
  simp only [Sh.hass] at h
  obtain ⟨d0, _, rfl, h0, d1, _, rfl, h1, d2, _, rfl, h2, rfl⟩ := h
  rw [Sh.has] at h0
  unfold Sh.has at h1
  obtain ⟨b, rfl⟩ := h1
  subst h0
  obtain ⟨ws, rfl, l⟩ := has_ints h2
  exact ⟨b, ws, rfl, l⟩
def shp (x : D) : Prop := shN.has 500 x ∨ shR.has 500 x
theorem right_13 (h : ∀ n', R (.p (.bl true)) n') (ns : Nd) (hg : gs ns) (p : Int) (hp : pr p) (cs : List Int) (hs : smp 1000 cs) (b k : Int) (cl : D) (hc : shp cl) (k0 : 0 ≤ k) (k1 : k ≤ 12) (x2 x3 x4 x5 x7 x8 x9 x10 x11 x12 x13 x14 x15 x16 x18 : Option Sl) :
    t__law_right_13 K A (rEnds R RE) (some (.ow (some 0) ns) :: some (.p (.int p)) :: x2 :: x3 :: x4 :: x5 :: some (.p (.int k)) :: x7 :: x8 :: x9 :: x10 :: x11 :: x12 :: x13 :: x14 :: x15 :: x16 :: some (.p (tI cs)) :: x18 :: some (.p (.int b)) :: some (.p cl) :: none :: none :: none :: none :: none :: none :: none :: none :: none :: none :: none :: none :: none :: []) := by
  have p2 := pr_pos hp
  have hrz := rep_sz (.int b) (k := k) k0 (by omega)
  walk_at "s"
  rw [rep_ints]
  refine fold_ind (fun r ε => ∃ (ns : Nd) (s21 s22 s23 : Option Sl), gs ns ∧ (∀ x, x ∈ r → shp x) ∧ ε = (some (.ow (some 0) ns) :: some (.p (.int p)) :: x2 :: x3 :: x4 :: x5 :: some (.p (.int k)) :: x7 :: x8 :: x9 :: x10 :: x11 :: x12 :: x13 :: x14 :: x15 :: x16 :: some (.p (tI cs)) :: x18 :: some (.p (.int b)) :: some (.p cl) :: s21 :: s22 :: s23 :: none :: none :: none :: none :: none :: none :: none :: none :: none :: none :: [])) ?_ ?_ _ _ ⟨ns, _, _, _, hg, fun x hx => by
    simp only [List.mem_cons, List.not_mem_nil, or_false] at hx
    rcases hx with rfl | rfl | rfl
    · exact hc
    · exact .inl (shN_has b)
    · exact .inr (shR_has b (by rw [List.length_replicate]; omega)), rfl⟩
  · rintro ε ⟨ns, s21, s22, s23, hg, _, rfl⟩
    walk_at "s"
    exact .mk (right_14 h ns hg p hp _ _ _ _ _ _ _ _ _ _ _ _ _ _ _ _ _ _ _ _ _ _)
  · rintro x r ε ⟨ns, s21, s22, s23, hg, hx, rfl⟩ nx hnx
    have hxx := hx x (by simp)
    obtain ⟨sh, hsh, so, sd, sc, hback⟩ : ∃ sh : Sh, sh.has 500 x ∧ sh.ok = true ∧ sh.dep ≤ 5 ∧ sh.cap 500 < 1000000000 ∧ ∀ y, sh.has 500 y → shp y := by
      rcases hxx with q | q
      · exact ⟨shN, q, by decide, by decide, by decide, fun y hy => .inl hy⟩
      · exact ⟨shR, q, by decide, by decide, by decide, fun y hy => .inr hy⟩
    walk_at "d"
    refine ⟨sh, 500, x, rfl, hsh, so, sd, by decide, sc, fun n' es hg' hl he => ?_⟩
    walk_at "d"
    refine fold_ind (fun r ε => ∃ (s22 s23 : Option Sl), (∀ x, x ∈ r → shp x) ∧ ε = (some (.ow (some 0) n') :: some (.p (.int p)) :: x2 :: x3 :: x4 :: x5 :: some (.p (.int k)) :: x7 :: x8 :: x9 :: x10 :: x11 :: x12 :: x13 :: x14 :: x15 :: x16 :: some (.p (tI cs)) :: x18 :: some (.p (.int b)) :: some (.p cl) :: some (.p x) :: s22 :: s23 :: none :: none :: none :: none :: none :: none :: none :: none :: none :: none :: [])) ?_ ?_ _ _ ⟨_, _, fun y hy => hback y (he y hy), rfl⟩
    · rintro ε ⟨s22, s23, _, rfl⟩
      walk_at "d"
      exact hnx _ ⟨n', _, _, _, hg', fun y hy => hx y (by simp [hy]), rfl⟩
    · rintro y r ε ⟨s22, s23, hy, rfl⟩ nx2 hn2
      have tail : ∀ z, z ∈ r → shp z := fun z hz => hy z (by simp [hz])
      rcases hy y (by simp) with q | q
      · obtain ⟨c, rfl⟩ := has_shN q
        walk_at "d"
        refine ⟨p, cs, c, k, _, rfl, p2.1, p2.2, hs, k0, k1, .inl ⟨rfl, fun t ht => ?_⟩⟩
        walk_at "d"
        refine ⟨p, cs, c, k, _, rfl, p2.1, p2.2, hs, k0, k1, .inl ⟨rfl, fun t' ht' => ?_⟩⟩
        have e : t' = t := by rw [Bool.eq_iff_iff, ht, ht']
        subst e
        walk_at "d"
        exact hn2 _ ⟨_, _, tail, rfl⟩
      · obtain ⟨c, ws, rfl, lw⟩ := has_shR q
        walk_at "d"
        refine ⟨p, cs, c, k, _, rfl, p2.1, p2.2, hs, k0, k1, .inr ⟨ws, rfl, by omega, fun t ht => ?_⟩⟩
        walk_at "d"
        refine ⟨p, cs, c, k, _, rfl, p2.1, p2.2, hs, k0, k1, .inr ⟨ws, rfl, by omega, fun t' ht' => ?_⟩⟩
        have e : t' = t := by rw [Bool.eq_iff_iff, ht, ht']
        subst e
        walk_at "d"
        exact hn2 _ ⟨_, _, tail, rfl⟩
theorem in_rt1 : inD (.str (PySem.Str.ofString "root")) [.str (PySem.Str.ofString "root"), .str (PySem.Str.ofString "rootless")] = true := by
  show (deq _ _ || _) = true
  rw [deq_rfl]; rfl
theorem in_rt2 : inD (.str (PySem.Str.ofString "rootless")) [.str (PySem.Str.ofString "root"), .str (PySem.Str.ofString "rootless")] = true := by
  show (deq _ _ || (deq _ _ || _)) = true
  rw [deq_rfl (.str (PySem.Str.ofString "rootless"))]; simp
theorem right_11 (h : ∀ n', R (.p (.bl true)) n') (ns : Nd) (hg : gs ns) (p : Int) (hp : pr p) (cs : List Int) (hs : smp 1000 cs) (b k : Int) (b0 : 0 ≤ b) (b1 : b < p) (k0 : 0 ≤ k) (k1 : k ≤ 12) (x2 x3 x4 x5 x7 x8 x9 x10 x11 x12 x13 x14 x15 x16 x18 : Option Sl) :
    t__law_right_11 K A (rEnds R RE) (some (.ow (some 0) ns) :: some (.p (.int p)) :: x2 :: x3 :: x4 :: x5 :: some (.p (.int k)) :: x7 :: x8 :: x9 :: x10 :: x11 :: x12 :: x13 :: x14 :: x15 :: x16 :: some (.p (tI cs)) :: x18 :: some (.p (.int b)) :: none :: none :: none :: none :: none :: none :: none :: none :: none :: none :: none :: none :: none :: none :: []) := by
  have p2 := pr_pos hp
  walk_at "s"
  refine ⟨p, cs, b, k, rfl, hp, hs, fun z => absurd ⟨b0, b1⟩ z, fun _ _ => ⟨fun ng => ?_, fun gd => ⟨k0, k1, fun ws hw => ?_⟩⟩⟩
  · walk_at "s"
    refine .mk ?_
    walk_at "s"
    · rename_i hc
      rw [in_rt2] at hc
      cases hc
    refine ⟨p, cs, b, k, _, rfl, p2.1, p2.2, hs, k0, k1, .inl ⟨rfl, fun t ht => ?_⟩⟩
    cases t with
    | false => exact absurd (ht.mpr ⟨b0, b1, ng⟩) (by simp)
    | true =>
    walk_at "s"
    exact .mk (right_13 h ns hg p hp cs hs b k _ (.inl (shN_has b)) k0 k1 _ _ _ _ _ _ _ _ _ _ _ _ _ _ _)
  · walk_at "s"
    refine .mk ?_
    walk_at "s"
    · rename_i hc
      rw [in_rt1] at hc
      cases hc
    have lw : ws.length ≤ 500 := by rw [hw.2.1]; omega
    refine ⟨p, cs, b, k, _, rfl, p2.1, p2.2, hs, k0, k1, .inr ⟨ws, rfl, by omega, fun t ht => ?_⟩⟩
    cases t with
    | false => exact absurd (ht.mpr ⟨b0, b1, gd, hw⟩) (by simp)
    | true =>
    walk_at "s"
    exact .mk (right_13 h ns hg p hp cs hs b k _ (.inr (shR_has b lw)) k0 k1 _ _ _ _ _ _ _ _ _ _ _ _ _ _ _)
theorem right_8 (h : ∀ n', R (.p (.bl true)) n') (ns : Nd) (hg : gs ns) (p : Int) (hp : pr p) (cs : List Int) (hs : smp 1000 cs) (x2 x3 x4 x5 x6 x7 x8 x9 x10 x11 x12 x13 x14 x15 x16 : Option Sl) :
    t__law_right_8 K A (rEnds R RE) (some (.ow (some 0) ns) :: some (.p (.int p)) :: x2 :: x3 :: x4 :: x5 :: x6 :: x7 :: x8 :: x9 :: x10 :: x11 :: x12 :: x13 :: x14 :: x15 :: x16 :: some (.p (tI cs)) :: none :: none :: none :: none :: none :: none :: none :: none :: none :: none :: none :: none :: none :: none :: none :: none :: []) := by
  have p2 := pr_pos hp
  have dc := dok_tI 59 (sl cs)
  walk_at "s"
  refine ⟨_, rfl, by decide, by decide, fun q n1 hg1 q0 q1 => ?_⟩
  walk_at "s"
  refine .mk ?_
  have sx : (q - 50).natAbs < 2 ^ 100 := sz_lit (by omega)
  walk_at "s"
  refine ⟨cs, q - 50, rfl, smp_up hs, sx, ?_⟩
  walk_at "s"
  refine ⟨cs, q - 50, rfl, smp_up hs, sx, ?_⟩
  walk_at "s"
  refine ⟨cs, rfl, by have := hs.1; omega, ?_⟩
  walk_at "s"
  refine ⟨cs, rfl, by have := hs.1; omega, ?_⟩
  walk_at "s"
  · rename_i c
    rw [deq_rfl] at c
    cases c
  refine .mk ?_
  walk_at "s"
  refine ⟨_, rfl, by omega, by omega, fun b n2 hg2 b0 b1 => ?_⟩
  walk_at "s"
  refine ⟨_, rfl, by decide, by decide, fun k n3 hg3 k0 k1 => ?_⟩
  walk_at "s"
  exact .mk (right_11 h n3 hg3 p hp cs hs b k b0 b1 k0 (by omega) _ _ _ _ _ _ _ _ _ _ _ _ _ _ _)
theorem right_7 (h : ∀ n', R (.p (.bl true)) n') (ns : Nd) (hg : gs ns) (p : Int) (hp : pr p) (x2 x3 x4 x5 x6 x7 x8 x9 x10 x11 x12 x13 x14 x15 x16 : Option Sl) :
    t__law_right_7 K A (rEnds R RE) (some (.ow (some 0) ns) :: some (.p (.int p)) :: x2 :: x3 :: x4 :: x5 :: x6 :: x7 :: x8 :: x9 :: x10 :: x11 :: x12 :: x13 :: x14 :: x15 :: x16 :: none :: none :: none :: none :: none :: none :: none :: none :: none :: none :: none :: none :: none :: none :: none :: none :: none :: []) := by
  have p2 := pr_pos hp
  walk_at "s"
  refine ⟨_, rfl, by decide, by decide, fun q n1 hg1 q0 q1 => ?_⟩
  walk_at "s"
  refine ⟨by omega, rfl, rfl, ?_⟩
  refine lcw_range (fun k acc ε => ∃ (ns' : Nd) (cs : List Int), gs ns' ∧ acc = cs.map .int ∧ cs.length = k ∧ (∀ c, c ∈ cs → c.natAbs ≤ 1000) ∧ ε = (some (.ow (some 0) ns') :: some (.p (.int p)) :: x2 :: x3 :: x4 :: x5 :: x6 :: x7 :: x8 :: x9 :: x10 :: x11 :: x12 :: x13 :: x14 :: x15 :: x16 :: none :: none :: none :: none :: none :: none :: none :: none :: none :: none :: none :: none :: none :: none :: none :: none :: none :: [])) ⟨n1, [], hg1, rfl, rfl, fun c hc => (nomatch hc), rfl⟩ ?_ ?_
  · rintro k acc ε hk ⟨ns', cs, hg', rfl, lc, hc, rfl⟩ nx hn
    have la : (cs.map D.int).length < sizeLine := by rw [List.length_map, sizeLine_eq]; omega
    walk_at "d"
    refine ⟨_, rfl, by decide, by decide, fun r n2 hg2 r0 r1 => ?_⟩
    walk_at "d"
    refine ⟨.hd _, la, hn _ _ ⟨n2, cs ++ [r - 9], hg2, by rw [List.map_append]; rfl, by rw [List.length_append, lc]; rfl, fun c hcm => ?_, rfl⟩⟩
    rcases List.mem_append.mp hcm with hcm | hcm
    · exact hc c hcm
    · rw [List.mem_singleton.mp hcm]; omega
  · rintro acc ε ⟨ns', cs, hg', rfl, lc, hc, rfl⟩
    walk_at "s"
    exact .mk (right_8 h ns' hg' p hp cs ⟨by omega, hc⟩ _ _ _ _ _ _ _ _ _ _ _ _ _ _ _)
theorem right_6 (h : ∀ n', R (.p (.bl true)) n') (ns : Nd) (hg : gs ns) (p : Int) (hp : pr p) (n u : Int) (u0 : 0 < u) (u60 : u ≤ 61) (hgc : Int.gcd n u = 1) (hn : n.natAbs < 2 ^ 195) (x2 x6 x7 x8 x9 x10 x11 x12 x13 x14 x15 x16 : Option Sl) :
    t__law_right_6 K A (rEnds R RE) (some (.ow (some 0) ns) :: some (.p (.int p)) :: x2 :: some (.p (.tup [.int n, .int u])) :: some (.p (.int n)) :: some (.p (.int u)) :: x6 :: x7 :: x8 :: x9 :: x10 :: x11 :: x12 :: x13 :: x14 :: x15 :: x16 :: none :: none :: none :: none :: none :: none :: none :: none :: none :: none :: none :: none :: none :: none :: none :: none :: none :: []) := by
  have p2 := pr_pos hp
  have pz : p ≠ 0 := by omega
  have dp : DivC p := divC_small (by omega) (by omega)
  walk_at "s"
  · rename_i c
    have dvx : ∀ {x : Int}, p ∣ x → x.fdiv p * p = x := fun {x} hx => fdiv_mul hx
    refine fold_range (fun j ε => ∃ (x y t : Int) (a b : Nat) (s16 : Option Sl), x * p ^ a = n ∧ x ≠ 0 ∧ y * p ^ b = u ∧ y ≠ 0 ∧ t = (a : Int) - (b : Int) ∧ (p ∣ x → a = j) ∧ (p ∣ y → b = j) ∧ ε = (some (.ow (some 0) ns) :: some (.p (.int p)) :: x2 :: some (.p (.tup [.int n, .int u])) :: some (.p (.int x)) :: some (.p (.int y)) :: x6 :: x7 :: x8 :: x9 :: x10 :: x11 :: x12 :: x13 :: x14 :: some (.p (.int t)) :: s16 :: none :: none :: none :: none :: none :: none :: none :: none :: none :: none :: none :: none :: none :: none :: none :: none :: none :: [])) ?_ ?_ _ ⟨n, u, 0, 0, 0, _, by simp, c, by simp, by omega, by simp, fun _ => rfl, fun _ => rfl, rfl⟩
    · rintro ε ⟨x, y, t, a, b, s16, ex, x0, ey, y0, et, dx, dy, rfl⟩
      have nx : ¬ p ∣ x := fun z => pow_no p2.1 ex x0 (by rw [dx z]; exact Nat.lt_of_lt_of_le hn (Nat.pow_le_pow_right (by decide) (by decide)))
      have ny : ¬ p ∣ y := fun z => pow_no p2.1 ey y0 (by rw [dy z]; exact Nat.lt_of_lt_of_le (show u.natAbs < 2 ^ 6 by omega) (Nat.pow_le_pow_right (by decide) (by decide)))
      walk_at "s"
      refine ⟨p, _, n, u, rfl, rfl, u0, hgc, hp, sz_mono hn (by decide), sz_lit (by omega), fun z => absurd z c, fun _ a' b' va vb => ?_⟩
      have ea := vp_one p2.1 va (vp_of p2.1 ex nx)
      have eb := vp_one p2.1 vb (vp_of p2.1 ey ny)
      subst ea eb et
      walk_at "s"
      exact .mk (right_7 h ns hg p hp _ _ _ _ _ _ _ _ _ _ _ _ _ _ _)
    · rintro j ε hj ⟨x, y, t, a, b, s16, ex, x0, ey, y0, et, dx, dy, rfl⟩ nx hnx
      have stx : p ∣ x → x.fdiv p * p ^ (a + 1) = n ∧ x.fdiv p ≠ 0 := fun z => by
        have e := dvx z
        refine ⟨by rw [Int.pow_succ, Int.mul_comm (p ^ a), ← Int.mul_assoc, e]; exact ex, fun q => x0 (by rw [← e, q, Int.zero_mul])⟩
      have sty : p ∣ y → y.fdiv p * p ^ (b + 1) = u ∧ y.fdiv p ≠ 0 := fun z => by
        have e := dvx z
        refine ⟨by rw [Int.pow_succ, Int.mul_comm (p ^ b), ← Int.mul_assoc, e]; exact ey, fun q => y0 (by rw [← e, q, Int.zero_mul])⟩
      walk_at "d"
      · rename_i c1 c2
        rw [fdiv_dvd (show 0 < p by omega)] at c1 c2
        exact hnx _ ⟨x.fdiv p, y.fdiv p, t + 1 - 1, a + 1, b + 1, _, (stx c1).1, (stx c1).2, (sty c2).1, (sty c2).2, by omega, fun _ => by rw [dx c1], fun _ => by rw [dy c2], rfl⟩
      · rename_i c1 c2
        rw [fdiv_dvd (show 0 < p by omega)] at c1 c2
        exact hnx _ ⟨x.fdiv p, y, t + 1, a + 1, b, _, (stx c1).1, (stx c1).2, ey, y0, by omega, fun _ => by rw [dx c1], fun z => absurd z c2, rfl⟩
      · rename_i c1 c2
        rw [fdiv_dvd (show 0 < p by omega)] at c1 c2
        exact hnx _ ⟨x, y.fdiv p, t - 1, a, b + 1, _, ex, x0, (sty c2).1, (sty c2).2, by omega, fun z => absurd z c1, fun _ => by rw [dy c2], rfl⟩
      · rename_i c1 c2
        rw [fdiv_dvd (show 0 < p by omega)] at c1 c2
        exact hnx _ ⟨x, y, t, a, b, _, ex, x0, ey, y0, et, fun z => absurd z c1, fun z => absurd z c2, rfl⟩
  · exact .mk (right_7 h ns hg p hp _ _ _ _ _ _ _ _ _ _ _ _ _ _ _)
theorem frw_small {N U : Int} (h : U ≠ 0) (hN : N.natAbs < 2 ^ 1300) (hU : U.natAbs < 2 ^ 1300) : frW N U :=
  ⟨h, Nat.lt_of_lt_of_le hU (Nat.pow_le_pow_right (by decide) (by decide)), Nat.lt_of_le_of_lt (fr_le h (cm_dvd N U).1) hN, Nat.lt_of_le_of_lt (fr_le h (cm_dvd N U).2) hU⟩
theorem right_5 (h : ∀ n', R (.p (.bl true)) n') (ns : Nd) (hg : gs ns) (p : Int) (hp : pr p) (n u k : Int) (u0 : 0 < u) (u60 : u ≤ 60) (hgc : Int.gcd n u = 1) (hn : n.natAbs < 2 ^ 195) (k0 : 0 ≤ k) (k1 : k < 31) (x2 : Option Sl) :
    t__law_right_5 K A (rEnds R RE) (some (.ow (some 0) ns) :: some (.p (.int p)) :: x2 :: some (.p (.tup [.int n, .int u])) :: some (.p (.int n)) :: some (.p (.int u)) :: some (.p (.int k)) :: none :: none :: none :: none :: none :: none :: none :: none :: none :: none :: none :: none :: none :: none :: none :: none :: none :: none :: none :: none :: none :: none :: none :: none :: none :: none :: none :: []) := by
  have p2 := pr_pos hp
  have pz : p ≠ 0 := by omega
  have fin := fun (ns : Nd) (hg : gs ns) (x2 x6 x7 x8 x9 x10 x11 x12 x13 x14 x15 x16 : Option Sl) => right_6 (K := K) (A := A) (R := R) (RE := RE) h ns hg p hp n u u0 (by omega) hgc hn x2 x6 x7 x8 x9 x10 x11 x12 x13 x14 x15 x16
  walk_at "s"
  · rename_i c
    rw [fdiv_dvd (show 0 < p by omega)] at c
    have c2 := Int.emod_eq_zero_of_dvd c
    refine ⟨_, .r0 hp u0 hgc c2 (sz_mono hn (by decide)) u60, ?_⟩
    walk_at "s"
    refine ⟨_, .r1 hp u0 hgc c2 (sz_mono hn (by decide)) u60, ?_⟩
    walk_at "s"
    exact .mk (fin ns hg _ _ _ _ _ _ _ _ _ _ _ _)
  · rename_i c
    rw [fdiv_dvd (show 0 < p by omega)] at c
    have c2 : u % p ≠ 0 := fun z => c (Int.dvd_of_emod_eq_zero z)
    obtain ⟨k, rfl⟩ : ∃ j : Nat, k = j := ⟨k.toNat, by omega⟩
    have hkn : ¬ (0 ≤ (k : Int) ∧ (k : Int) ≤ 200) → False := fun z => z ⟨by omega, by omega⟩
    refine ⟨p, _, n, u, k, rfl, rfl, sz_mono hn (by decide), sz_lit (by omega), fun z => absurd ⟨u0, hgc⟩ z, fun _ => ⟨fun z => absurd z (pr_not4 hp), fun _ => ⟨hp, fun z => absurd z c2, fun _ => ⟨fun z => (hkn z).elim, fun _ _ => ⟨by omega, fun w okw lw dw => ?_⟩⟩⟩⟩⟩
    rw [Int.toNat_natCast] at lw dw
    have lW : (w.map D.int).length = w.length := List.length_map ..
    have hz : w.length ≤ sizeLine := by rw [sizeLine_eq]; omega
    have dW := dok_tI 59 w
    have pp := pow_pos (show 0 < p by omega) k
    have pnz : p ^ k ≠ 0 := by omega
    have mu : MulC (rvl p w) u := mulC_small' (by omega)
    have e0 := (fdiv_dvd pp).mpr dw
    walk_at "s"
    · rename_i cc
      exfalso
      exact cc (by rw [lW, lw])
    refine lc_none D.int w hz (fun x hx acc kk ha hk => ?_) ?_
    · have ox := okw x hx
      walk_at "d"
      all_goals first | exact hk | (exfalso; omega)
    walk_at "s"
    refine ⟨p, w, rfl, by omega, ?_⟩
    walk_at "s"
    refine ⟨⟨by omega, by omega, 5, by omega, by rw [Int.toNat_natCast]; omega⟩, ?_⟩
    rw [Int.toNat_natCast]
    walk_at "s"
    · exact absurd e0 (by assumption)
    refine ⟨p, _, n, u, rfl, rfl, u0, hgc, hp, sz_mono hn (by decide), fun z => absurd z c2, fun _ => ⟨fun z => absurd z (by omega), fun _ => ⟨u60, fun fs os rnd => ?_⟩⟩⟩
    obtain ⟨l, hl0, hl1, hprim, hlast⟩ := rnd_all rnd
    have okF : okd p fs := (okd_append.mp rnd.ok).1
    have okO : okd p os := (okd_append.mp rnd.ok).2
    have lrn := rnd.len
    rw [List.length_append] at lrn
    have lo : 1 ≤ os.length := by
      cases os with
      | nil => exact absurd rfl rnd.ne
      | cons x r => exact Nat.succ_pos _
    have lF : (fs.map D.int).length = fs.length := List.length_map ..
    have lO : (os.map D.int).length = os.length := List.length_map ..
    have rep40 : -(2 ^ 63) ≤ (40 : Int) ∧ (40 : Int) < 2 ^ 63 ∧ (os.map D.int).length * (40 : Int).toNat ≤ sizeLine := ⟨by decide, by decide, by rw [sizeLine_eq, lO]; show os.length * 40 ≤ _; omega⟩
    have eR : (List.replicate (40 : Int).toNat (os.map D.int)).flatten = (rpt 40 os).map D.int := by
      show (List.replicate 40 (os.map D.int)).flatten = _
      unfold rpt
      rw [List.map_flatten, List.map_replicate]
    have lR := rpt_len 40 os
    have sW : (fs.map D.int).length + ((rpt 40 os).map D.int).length ≤ sizeLine := by rw [List.length_map, List.length_map, lR, sizeLine_eq]; omega
    have dO := dok_tI 59 os
    have neO : deq (tI os) (.tup []) = false := by rw [show deq (tI os) (.tup []) = decide (os = []) from deq_tI os []]; exact decide_eq_false rnd.ne
    have lk : k ≤ (fs ++ rpt 40 os).length := by rw [List.length_append, lR]; omega
    have ew : (fs ++ rpt 40 os).take k = w := by
      have okt : okd p ((fs ++ rpt 40 os).take k) := fun d hd => okd_append.mpr ⟨okF, rpt_okd okO 40⟩ d (List.mem_of_mem_take hd)
      exact same_word hp okt okw (by rw [List.length_take]; omega) lw (long_word hl0 hl1 40 k lk) dw rfl c c
    walk_at "s"
    rw [eR]
    walk_at "s"
    · rename_i cc
      rw [neO] at cc
      cases cc
    rw [← List.map_append, cut_n _ _ (by rw [List.length_map]; exact lk), ← List.map_take, ew]
    have Ub := pow_ge (show 1 ≤ p by omega) os.length lo
    have U0 : 1 - p ^ os.length ≠ 0 := by omega
    have eqU : (rvl p fs * (1 - p ^ os.length) + rvl p os * p ^ fs.length) * u = n * (1 - p ^ os.length) := by
      have e1 : l * (1 - p ^ os.length) = u * rvl p os := by
        rw [Int.mul_sub, Int.mul_one, Int.mul_comm l]; omega
      rw [Int.add_mul, Int.mul_assoc (rvl p os), Int.mul_left_comm (rvl p os), Int.mul_comm (rvl p os) u, ← e1]
      conv => rhs; rw [hl0]
      rw [Int.add_mul, Int.mul_assoc (p ^ fs.length), Int.mul_comm u (rvl p fs), Int.mul_right_comm]
    obtain ⟨fr1, fr2, fr3⟩ := frD_is U0 u0 hgc eqU
    have fw : frW (rvl p fs * (1 - p ^ os.length) + rvl p os * p ^ fs.length) (1 - p ^ os.length) := by
      refine ⟨U0, ?_, by rw [fr2]; exact sz_mono hn (by decide), by rw [fr3]; exact sz_lit (by omega)⟩
      have := sz_p hp os.length
      have h2 : 2 ^ (5 * os.length + 1) ≤ 2 ^ 2500 := Nat.pow_le_pow_right (by decide) (by omega)
      have h3 : 2 ^ 8000 = 2 ^ 5500 * 2 ^ 2500 := by rw [← Nat.pow_add]
      have h4 : 2 ≤ 2 ^ 5500 := by
        have : 2 ^ 1 ≤ 2 ^ 5500 := Nat.pow_le_pow_right (by decide) (by decide)
        omega
      have h5 := Nat.mul_le_mul_right (2 ^ 2500) h4
      omega
    walk_at "s"
    · rename_i cc
      rw [show deq (.tup (w.map D.int)) (tI w) = true from deq_rfl _] at cc
      cases cc
    refine ⟨p, fs, os, rfl, hp, rnd.ne, by omega, by omega, okF, okO, fw, ?_⟩
    rw [fr1]
    have dF := dok_tI 59 fs
    have lastO : atI (os.map D.int) (-1) = some (.int (os.getD (os.length - 1) 0)) := at_last rnd.ne
    have atF : deq (tI fs) (.tup []) = false → atI (fs.map D.int) (-1) = some (.int (fs.getD (fs.length - 1) 0)) ∧ 1 ≤ fs.length := fun z => by
      have fne : fs ≠ [] := fun e => by rw [e] at z; cases z
      refine ⟨at_last fne, ?_⟩
      cases fs with
      | nil => exact absurd rfl fne
      | cons x r => exact Nat.succ_pos _
    have tt : deq (.tup [.int n, .int u]) (.tup [.int n, .int u]) = true := deq_rfl _
    walk_at "s"
    · rename_i cc
      rw [tt] at cc
      cases cc
    all_goals try
      (rename_i cc
       obtain ⟨af, f1⟩ := atF cc
       rw [af]
       walk_at "s"
       rw [lastO]
       walk_at "s"
       exact absurd (by assumption) (hlast _ _ f1 rfl rfl))
    all_goals
      refine ⟨⟨by omega, by omega, by omega, by omega⟩, rfl, rfl, ?_⟩
      refine lc_none (fun i : Nat => D.int (1 + (i : Nat))) (List.range (((os.map D.int).length : Int) - 1).toNat) (by rw [List.length_range, sizeLine_eq]; omega) (fun i hi acc kk ha hk => ?_) ?_
      · have hi := List.mem_range.mp hi
        have iz : (1 : Int) + (i : Nat) ≠ 0 := by omega
        have di : DivC (1 + (i : Nat)) := divC_small iz (by omega)
        walk_at "d"
        · rename_i cz
          have s1 : i + 1 < os.length := by omega
          rw [show (1 : Int) + (i : Nat) = ((i + 1 : Nat) : Int) by omega] at cz ⊢
          have ed : ((os.map D.int).length : Int).fdiv ((i + 1 : Nat) : Int) = ((os.length / (i + 1) : Nat) : Int) := by rw [lO, fdiv_pos _ (by omega)]; exact (Int.natCast_ediv _ _).symm
          have tk : DL.cutD (os.map D.int) none (some ((i + 1 : Nat) : Int)) = (os.take (i + 1)).map D.int := by rw [cut_n _ _ (by rw [lO]; omega), List.map_take]
          rw [ed, tk]
          have md : os.length / (i + 1) ≤ os.length := Nat.div_le_self _ _
          have mpos : 1 ≤ os.length / (i + 1) := Nat.div_pos (by omega) (by omega)
          clear ed
          generalize os.length / (i + 1) = mm at *
          have mv : (os.take (i + 1)).length * mm ≤ 400 * 400 := Nat.mul_le_mul (by rw [List.length_take]; omega) (by omega)
          refine ⟨⟨by omega, by omega, by rw [List.length_map, Int.toNat_natCast, sizeLine_eq]; omega⟩, ?_⟩
          rw [Int.toNat_natCast]
          have eq2 : (List.replicate (mm) ((os.take (i + 1)).map D.int)).flatten = (rpt (mm) (os.take (i + 1))).map D.int := by
            unfold rpt
            rw [List.map_flatten, List.map_replicate]
          rw [eq2]
          have dR := dok_tI 59 (rpt (mm) (os.take (i + 1)))
          walk_at "d"
          · rename_i ce
            exfalso
            rw [show deq (.tup ((rpt (mm) (os.take (i + 1))).map D.int)) (tI os) = decide (rpt (mm) (os.take (i + 1)) = os) from deq_tI _ _] at ce
            have ce := of_decide_eq_true ce
            obtain ⟨y, y1, y2⟩ := hprim (i + 1) (by omega) s1
            have lv : (os.take (i + 1)).length = i + 1 := by rw [List.length_take]; omega
            refine y1 (prim p2.1 (m := mm) mpos ce hl1 (by rw [lv]; omega) (by rw [lv]; exact y2))
          · exact hk
        · exact hk
      · walk_at "s"
        refine ⟨_, rfl, by decide, by decide, fun q n1 hg1 q0 q1 => ?_⟩
        walk_at "s"
        refine ⟨_, rfl, by decide, by decide, fun r n2 hg2 r0 r1 => ?_⟩
        obtain ⟨b0, hb0, bl0, bu0, nb0⟩ : ∃ b0 : Int, (if r = 0 then 1 else 1 + p) = b0 ∧ 1 ≤ b0 ∧ b0 ≤ 32 ∧ ¬ p ∣ b0 := by
          refine ⟨_, rfl, ?_⟩
          by_cases z : r = 0
          · rw [if_pos z]
            exact ⟨by decide, by decide, fun q => by have := Int.le_of_dvd (by decide) q; omega⟩
          · rw [if_neg z]
            refine ⟨by omega, by omega, fun q => ?_⟩
            have := Int.dvd_sub q (Int.dvd_refl p)
            rw [Int.add_sub_cancel] at this
            have := Int.le_of_dvd (by decide) this
            omega
        rcases (show r = 0 ∨ r = 1 by omega) with rfl | rfl
        · rw [if_pos rfl] at hb0
          subst hb0
          walk_at "s"
          refine ⟨fun z => absurd z (by omega), fun _ => ⟨frw_small (by omega) (sz_lit (by omega)) (sz_lit (by omega)), ?_⟩⟩
          obtain ⟨e1, e2, e3, e4, e5⟩ := red_of (n := q - 100) (u := 1) (by omega)
          have la := fr_le (n := q - 100) (u := 1) (by omega) (cm_dvd (q - 100) 1).1
          have lb := fr_le (n := q - 100) (u := 1) (by omega) (cm_dvd (q - 100) 1).2
          unfold frD
          generalize (q - 100).fdiv (cm (q - 100) 1) = a at *
          generalize (1 : Int).fdiv (cm (q - 100) 1) = b at *
          have nb : ¬ p ∣ b := not_dvd nb0 e4
          have nub : ¬ p ∣ u * b := pr_dvd hp c nb
          have m1 : MulC n b := mulC_small' (by omega)
          have m2 : MulC a u := mulC_small (by omega)
          have m3 : MulC u b := mulC_small (by omega)
          have m4 : MulC n a := mulC_small' (by omega)
          have ub0 : 0 < u * b := Int.mul_pos u0 e1
          have szD : (u * b).natAbs < 2 ^ 120 := sz_mono (sz_mul (show u.natAbs < 2 ^ 60 by omega) (show b.natAbs < 2 ^ 60 by omega)) (by decide)
          have szE : (u * b).natAbs < 2 ^ 100 := sz_mono (sz_mul (show u.natAbs < 2 ^ 6 by omega) (show b.natAbs < 2 ^ 6 by omega)) (by decide)
          have szn1 : (n * b).natAbs < 2 ^ 255 := sz_mono (sz_mul hn (show b.natAbs < 2 ^ 60 by omega)) (by decide)
          have szn2 : (a * u).natAbs < 2 ^ 120 := sz_mono (sz_mul (show a.natAbs < 2 ^ 60 by omega) (show u.natAbs < 2 ^ 60 by omega)) (by decide)
          have szn3 : (n * b + a * u).natAbs < 2 ^ 256 := sz_mono (sz_add szn1 szn2) (by decide)
          have szn4 : (n * a).natAbs < 2 ^ 255 := sz_mono (sz_mul hn (show a.natAbs < 2 ^ 60 by omega)) (by decide)
          walk_at "s"
          refine ⟨p, _, a, b, k, rfl, rfl, sz_lit (by omega), sz_lit (by omega), fun z => absurd ⟨e1, e2⟩ z, fun _ => ⟨fun z => absurd z (pr_not4 hp), fun _ => ⟨hp, fun z => absurd (Int.dvd_of_emod_eq_zero z) nb, fun _ => ⟨fun z => (hkn z).elim, fun _ _ => ⟨by omega, fun v okv lv dv => ?_⟩⟩⟩⟩⟩
          rw [Int.toNat_natCast] at lv dv
          walk_at "s"
          refine ⟨fun z => absurd z (by omega), fun _ => ⟨frw_small (by omega) (sz_mono szn3 (by decide)) (sz_mono szD (by decide)), ?_⟩⟩
          obtain ⟨f1, f2, f3, f4, f5⟩ := red_of (n := n * b + a * u) (u := u * b) (by omega)
          have lc := fr_le (n := n * b + a * u) (u := u * b) (by omega) (cm_dvd (n * b + a * u) (u * b)).1
          have ld := fr_le (n := n * b + a * u) (u := u * b) (by omega) (cm_dvd (n * b + a * u) (u * b)).2
          unfold frD
          generalize (n * b + a * u).fdiv (cm (n * b + a * u) (u * b)) = n3 at *
          generalize (u * b).fdiv (cm (n * b + a * u) (u * b)) = u3 at *
          walk_at "s"
          refine ⟨fun z => absurd z (by omega), fun _ => ⟨frw_small (by omega) (sz_mono szn4 (by decide)) (sz_mono szD (by decide)), ?_⟩⟩
          obtain ⟨g1, g2, g3, g4, g5⟩ := red_of (n := n * a) (u := u * b) (by omega)
          have le := fr_le (n := n * a) (u := u * b) (by omega) (cm_dvd (n * a) (u * b)).1
          have lf := fr_le (n := n * a) (u := u * b) (by omega) (cm_dvd (n * a) (u * b)).2
          unfold frD
          generalize (n * a).fdiv (cm (n * a) (u * b)) = n4 at *
          generalize (u * b).fdiv (cm (n * a) (u * b)) = u4 at *
          have nu3 : ¬ p ∣ u3 := not_dvd nub f4
          have nu4 : ¬ p ∣ u4 := not_dvd nub g4
          walk_at "s"
          refine ⟨p, w, v, rfl, hp, by rw [lw, lv], by omega, okw, okv, fun zs okz lz dz => ?_⟩
          rw [lw] at lz dz
          have dZ := dok_tI 59 zs
          walk_at "s"
          refine ⟨p, _, n3, u3, k, rfl, rfl, sz_mono (Nat.lt_of_le_of_lt lc szn3) (by decide), Nat.lt_of_le_of_lt ld (Nat.lt_of_lt_of_le szE (by decide)), fun z => absurd ⟨f1, f2⟩ z, fun _ => ⟨fun z => absurd z (pr_not4 hp), fun _ => ⟨hp, fun z => absurd (Int.dvd_of_emod_eq_zero z) nu3, fun _ => ⟨fun z => (hkn z).elim, fun _ _ => ⟨by omega, fun v3 okv3 lv3 dv3 => ?_⟩⟩⟩⟩⟩
          rw [Int.toNat_natCast] at lv3 dv3
          have es : zs = v3 := same_word hp okz okv3 lz lv3 (D := u * b) (N := n * b + a * u) (by
            obtain ⟨i1, j1⟩ := dw
            obtain ⟨i2, j2⟩ := dv
            obtain ⟨i3, j3⟩ := dz
            refine ⟨i3 * (u * b) + i1 * b + i2 * u, ?_⟩
            have h1 : rvl p zs * (u * b) = p ^ k * (i3 * (u * b)) + (rvl p w * u) * b + (rvl p v * b) * u := by
              have : rvl p zs = p ^ k * i3 + (rvl p w + rvl p v) := by omega
              rw [this, Int.add_mul, Int.add_mul, Int.mul_assoc (p ^ k), Int.mul_assoc (rvl p w), Int.mul_assoc (rvl p v), Int.mul_comm b u]; omega
            have h2 : rvl p w * u = p ^ k * i1 + n := by omega
            have h3 : rvl p v * b = p ^ k * i2 + a := by omega
            rw [h1, h2, h3, Int.add_mul, Int.add_mul, Int.mul_add, Int.mul_add, Int.mul_assoc (p ^ k) i1, Int.mul_assoc (p ^ k) i2]; omega) dv3 f3 nu3 nub
          subst es
          have dz3 := dok_tI 59 zs
          walk_at "s"
          · rename_i cc
            rw [show deq (tI zs) (tI zs) = true from deq_rfl _] at cc
            cases cc
          refine ⟨p, w, v, rfl, hp, by rw [lw, lv], by omega, okw, okv, fun ys oky ly dy => ?_⟩
          rw [lw] at ly dy
          have dY := dok_tI 59 ys
          walk_at "s"
          refine ⟨p, _, n4, u4, k, rfl, rfl, sz_mono (Nat.lt_of_le_of_lt le szn4) (by decide), Nat.lt_of_le_of_lt lf (Nat.lt_of_lt_of_le szE (by decide)), fun z => absurd ⟨g1, g2⟩ z, fun _ => ⟨fun z => absurd z (pr_not4 hp), fun _ => ⟨hp, fun z => absurd (Int.dvd_of_emod_eq_zero z) nu4, fun _ => ⟨fun z => (hkn z).elim, fun _ _ => ⟨by omega, fun v4 okv4 lv4 dv4 => ?_⟩⟩⟩⟩⟩
          rw [Int.toNat_natCast] at lv4 dv4
          have es : ys = v4 := same_word hp oky okv4 ly lv4 (D := u * b) (N := n * a) (by
            obtain ⟨i1, j1⟩ := dw
            obtain ⟨i2, j2⟩ := dv
            obtain ⟨i3, j3⟩ := dy
            refine ⟨i3 * (u * b) + i1 * (rvl p v * b) + n * i2, ?_⟩
            have h1 : rvl p ys * (u * b) = p ^ k * (i3 * (u * b)) + (rvl p w * u) * (rvl p v * b) := by
              have : rvl p ys = p ^ k * i3 + rvl p w * rvl p v := by omega
              rw [this, Int.add_mul, Int.mul_assoc (p ^ k), Int.mul_assoc (rvl p w), Int.mul_left_comm (rvl p v), Int.mul_assoc (rvl p w)]
            have h2 : rvl p w * u = p ^ k * i1 + n := by omega
            have h3 : rvl p v * b = p ^ k * i2 + a := by omega
            have h4 : n * (rvl p v * b) = p ^ k * (n * i2) + n * a := by rw [h3, Int.mul_add, Int.mul_left_comm]
            rw [h1, h2, Int.add_mul, h4, Int.mul_add, Int.mul_add, Int.mul_assoc (p ^ k) i1]; omega) dv4 g3 nu4 nub
          subst es
          walk_at "s"
          · rename_i cc
            rw [show deq (tI ys) (tI ys) = true from deq_rfl _] at cc
            cases cc
          exact .mk (fin n2 hg2 _ _ _ _ _ _ _ _ _ _ _ _)
        · rw [if_neg (by decide)] at hb0
          subst hb0
          walk_at "s"
          refine ⟨fun z => absurd z (by omega), fun _ => ⟨frw_small (by omega) (sz_lit (by omega)) (sz_lit (by omega)), ?_⟩⟩
          obtain ⟨e1, e2, e3, e4, e5⟩ := red_of (n := q - 100) (u := (1 + p)) (by omega)
          have la := fr_le (n := q - 100) (u := (1 + p)) (by omega) (cm_dvd (q - 100) (1 + p)).1
          have lb := fr_le (n := q - 100) (u := (1 + p)) (by omega) (cm_dvd (q - 100) (1 + p)).2
          unfold frD
          generalize (q - 100).fdiv (cm (q - 100) (1 + p)) = a at *
          generalize ((1 + p) : Int).fdiv (cm (q - 100) (1 + p)) = b at *
          have nb : ¬ p ∣ b := not_dvd nb0 e4
          have nub : ¬ p ∣ u * b := pr_dvd hp c nb
          have m1 : MulC n b := mulC_small' (by omega)
          have m2 : MulC a u := mulC_small (by omega)
          have m3 : MulC u b := mulC_small (by omega)
          have m4 : MulC n a := mulC_small' (by omega)
          have ub0 : 0 < u * b := Int.mul_pos u0 e1
          have szD : (u * b).natAbs < 2 ^ 120 := sz_mono (sz_mul (show u.natAbs < 2 ^ 60 by omega) (show b.natAbs < 2 ^ 60 by omega)) (by decide)
          have szE : (u * b).natAbs < 2 ^ 100 := sz_mono (sz_mul (show u.natAbs < 2 ^ 6 by omega) (show b.natAbs < 2 ^ 6 by omega)) (by decide)
          have szn1 : (n * b).natAbs < 2 ^ 255 := sz_mono (sz_mul hn (show b.natAbs < 2 ^ 60 by omega)) (by decide)
          have szn2 : (a * u).natAbs < 2 ^ 120 := sz_mono (sz_mul (show a.natAbs < 2 ^ 60 by omega) (show u.natAbs < 2 ^ 60 by omega)) (by decide)
          have szn3 : (n * b + a * u).natAbs < 2 ^ 256 := sz_mono (sz_add szn1 szn2) (by decide)
          have szn4 : (n * a).natAbs < 2 ^ 255 := sz_mono (sz_mul hn (show a.natAbs < 2 ^ 60 by omega)) (by decide)
          walk_at "s"
          refine ⟨p, _, a, b, k, rfl, rfl, sz_lit (by omega), sz_lit (by omega), fun z => absurd ⟨e1, e2⟩ z, fun _ => ⟨fun z => absurd z (pr_not4 hp), fun _ => ⟨hp, fun z => absurd (Int.dvd_of_emod_eq_zero z) nb, fun _ => ⟨fun z => (hkn z).elim, fun _ _ => ⟨by omega, fun v okv lv dv => ?_⟩⟩⟩⟩⟩
          rw [Int.toNat_natCast] at lv dv
          walk_at "s"
          refine ⟨fun z => absurd z (by omega), fun _ => ⟨frw_small (by omega) (sz_mono szn3 (by decide)) (sz_mono szD (by decide)), ?_⟩⟩
          obtain ⟨f1, f2, f3, f4, f5⟩ := red_of (n := n * b + a * u) (u := u * b) (by omega)
          have lc := fr_le (n := n * b + a * u) (u := u * b) (by omega) (cm_dvd (n * b + a * u) (u * b)).1
          have ld := fr_le (n := n * b + a * u) (u := u * b) (by omega) (cm_dvd (n * b + a * u) (u * b)).2
          unfold frD
          generalize (n * b + a * u).fdiv (cm (n * b + a * u) (u * b)) = n3 at *
          generalize (u * b).fdiv (cm (n * b + a * u) (u * b)) = u3 at *
          walk_at "s"
          refine ⟨fun z => absurd z (by omega), fun _ => ⟨frw_small (by omega) (sz_mono szn4 (by decide)) (sz_mono szD (by decide)), ?_⟩⟩
          obtain ⟨g1, g2, g3, g4, g5⟩ := red_of (n := n * a) (u := u * b) (by omega)
          have le := fr_le (n := n * a) (u := u * b) (by omega) (cm_dvd (n * a) (u * b)).1
          have lf := fr_le (n := n * a) (u := u * b) (by omega) (cm_dvd (n * a) (u * b)).2
          unfold frD
          generalize (n * a).fdiv (cm (n * a) (u * b)) = n4 at *
          generalize (u * b).fdiv (cm (n * a) (u * b)) = u4 at *
          have nu3 : ¬ p ∣ u3 := not_dvd nub f4
          have nu4 : ¬ p ∣ u4 := not_dvd nub g4
          walk_at "s"
          refine ⟨p, w, v, rfl, hp, by rw [lw, lv], by omega, okw, okv, fun zs okz lz dz => ?_⟩
          rw [lw] at lz dz
          have dZ := dok_tI 59 zs
          walk_at "s"
          refine ⟨p, _, n3, u3, k, rfl, rfl, sz_mono (Nat.lt_of_le_of_lt lc szn3) (by decide), Nat.lt_of_le_of_lt ld (Nat.lt_of_lt_of_le szE (by decide)), fun z => absurd ⟨f1, f2⟩ z, fun _ => ⟨fun z => absurd z (pr_not4 hp), fun _ => ⟨hp, fun z => absurd (Int.dvd_of_emod_eq_zero z) nu3, fun _ => ⟨fun z => (hkn z).elim, fun _ _ => ⟨by omega, fun v3 okv3 lv3 dv3 => ?_⟩⟩⟩⟩⟩
          rw [Int.toNat_natCast] at lv3 dv3
          have es : zs = v3 := same_word hp okz okv3 lz lv3 (D := u * b) (N := n * b + a * u) (by
            obtain ⟨i1, j1⟩ := dw
            obtain ⟨i2, j2⟩ := dv
            obtain ⟨i3, j3⟩ := dz
            refine ⟨i3 * (u * b) + i1 * b + i2 * u, ?_⟩
            have h1 : rvl p zs * (u * b) = p ^ k * (i3 * (u * b)) + (rvl p w * u) * b + (rvl p v * b) * u := by
              have : rvl p zs = p ^ k * i3 + (rvl p w + rvl p v) := by omega
              rw [this, Int.add_mul, Int.add_mul, Int.mul_assoc (p ^ k), Int.mul_assoc (rvl p w), Int.mul_assoc (rvl p v), Int.mul_comm b u]; omega
            have h2 : rvl p w * u = p ^ k * i1 + n := by omega
            have h3 : rvl p v * b = p ^ k * i2 + a := by omega
            rw [h1, h2, h3, Int.add_mul, Int.add_mul, Int.mul_add, Int.mul_add, Int.mul_assoc (p ^ k) i1, Int.mul_assoc (p ^ k) i2]; omega) dv3 f3 nu3 nub
          subst es
          have dz3 := dok_tI 59 zs
          walk_at "s"
          · rename_i cc
            rw [show deq (tI zs) (tI zs) = true from deq_rfl _] at cc
            cases cc
          refine ⟨p, w, v, rfl, hp, by rw [lw, lv], by omega, okw, okv, fun ys oky ly dy => ?_⟩
          rw [lw] at ly dy
          have dY := dok_tI 59 ys
          walk_at "s"
          refine ⟨p, _, n4, u4, k, rfl, rfl, sz_mono (Nat.lt_of_le_of_lt le szn4) (by decide), Nat.lt_of_le_of_lt lf (Nat.lt_of_lt_of_le szE (by decide)), fun z => absurd ⟨g1, g2⟩ z, fun _ => ⟨fun z => absurd z (pr_not4 hp), fun _ => ⟨hp, fun z => absurd (Int.dvd_of_emod_eq_zero z) nu4, fun _ => ⟨fun z => (hkn z).elim, fun _ _ => ⟨by omega, fun v4 okv4 lv4 dv4 => ?_⟩⟩⟩⟩⟩
          rw [Int.toNat_natCast] at lv4 dv4
          have es : ys = v4 := same_word hp oky okv4 ly lv4 (D := u * b) (N := n * a) (by
            obtain ⟨i1, j1⟩ := dw
            obtain ⟨i2, j2⟩ := dv
            obtain ⟨i3, j3⟩ := dy
            refine ⟨i3 * (u * b) + i1 * (rvl p v * b) + n * i2, ?_⟩
            have h1 : rvl p ys * (u * b) = p ^ k * (i3 * (u * b)) + (rvl p w * u) * (rvl p v * b) := by
              have : rvl p ys = p ^ k * i3 + rvl p w * rvl p v := by omega
              rw [this, Int.add_mul, Int.mul_assoc (p ^ k), Int.mul_assoc (rvl p w), Int.mul_left_comm (rvl p v), Int.mul_assoc (rvl p w)]
            have h2 : rvl p w * u = p ^ k * i1 + n := by omega
            have h3 : rvl p v * b = p ^ k * i2 + a := by omega
            have h4 : n * (rvl p v * b) = p ^ k * (n * i2) + n * a := by rw [h3, Int.mul_add, Int.mul_left_comm]
            rw [h1, h2, Int.add_mul, h4, Int.mul_add, Int.mul_add, Int.mul_assoc (p ^ k) i1]; omega) dv4 g3 nu4 nub
          subst es
          walk_at "s"
          · rename_i cc
            rw [show deq (tI ys) (tI ys) = true from deq_rfl _] at cc
            cases cc
          exact .mk (fin n2 hg2 _ _ _ _ _ _ _ _ _ _ _ _)
end

theorem pr_of {p : Int} (h : p = 2 ∨ p = 3 ∨ p = 5 ∨ p = 7 ∨ p = 11 ∨ p = 13 ∨ p = 31) : pr p := by
  have go : ∀ P : Nat, 2 ≤ P → P ≤ 31 → (∀ d : Nat, d < P → 2 ≤ d → P % d ≠ 0) → pr (P : Int) := fun P h1 h2 h3 => ⟨by omega, by omega, fun d d1 d2 z => by
    obtain ⟨D, rfl⟩ : ∃ D : Nat, d = D := ⟨d.toNat, by omega⟩
    refine h3 D (by omega) (by omega) ?_
    have : ((P % D : Nat) : Int) = 0 := by rw [Int.natCast_emod]; exact z
    omega⟩
  rcases h with rfl | rfl | rfl | rfl | rfl | rfl | rfl
  · exact go 2 (by decide) (by decide) (by decide)
  · exact go 3 (by decide) (by decide) (by decide)
  · exact go 5 (by decide) (by decide) (by decide)
  · exact go 7 (by decide) (by decide) (by decide)
  · exact go 11 (by decide) (by decide) (by decide)
  · exact go 13 (by decide) (by decide) (by decide)
  · exact go 31 (by decide) (by decide) (by decide)
section
variable {K : PySem.W.Frag} {A : Ad} {R : Vl → Nd → Prop} {RE : Er → Nd → Prop}
theorem right_2b (h : ∀ n', R (.p (.bl true)) n') (ns : Nd) (hg : gs ns) (p : Int) (hp : pr p) (n u : Int) (u0 : 0 < u) (u60 : u ≤ 60) (hgc : Int.gcd n u = 1) (hn : n.natAbs < 2 ^ 195) (x2 : Option Sl) :
    t__law_right_3 K A (rEnds R RE) (some (.ow (some 0) ns) :: some (.p (.int p)) :: x2 :: some (.p (.tup [.int n, .int u])) :: none :: none :: none :: none :: none :: none :: none :: none :: none :: none :: none :: none :: none :: none :: none :: none :: none :: none :: none :: none :: none :: none :: none :: none :: none :: none :: none :: none :: none :: none :: []) := by
  walk_at "s"
  refine .mk ?_
  walk_at "s"
  refine ⟨_, rfl, by decide, by decide, fun k n1 hg1 k0 k1 => ?_⟩
  walk_at "s"
  exact .mk (right_5 h n1 hg1 p hp n u k u0 u60 hgc hn k0 k1 _)
theorem sgn2 {v t : Int} (v0 : 0 ≤ v) (v1 : v < 2 ^ 190) (t0 : 0 ≤ t) (t1 : t < 2) : ((1 - 2 * t) * v).natAbs < 2 ^ 195 := by
  have hv : v.natAbs < 2 ^ 190 := by omega
  have hb : 2 ^ 190 ≤ 2 ^ 195 := Nat.pow_le_pow_right (by decide) (by decide)
  rcases (show t = 0 ∨ t = 1 by omega) with rfl | rfl
  · rw [show (1 : Int) - 2 * 0 = 1 from rfl, Int.one_mul]; omega
  · rw [show (1 : Int) - 2 * 1 = -1 from rfl, Int.neg_mul, Int.one_mul, Int.natAbs_neg]; omega
theorem right_1 (h : ∀ n', R (.p (.bl true)) n') (ns : Nd) (hg : gs ns) (p : Int) (hp : pr p) :
    t__law_right_1 K A (rEnds R RE) (some (.ow (some 0) ns) :: some (.p (.int p)) :: none :: none :: none :: none :: none :: none :: none :: none :: none :: none :: none :: none :: none :: none :: none :: none :: none :: none :: none :: none :: none :: none :: none :: none :: none :: none :: none :: none :: none :: none :: none :: none :: []) := by
  walk_at "s"
  refine ⟨_, rfl, by decide, by decide, fun t n1 hg1 t0 t1 => ?_⟩
  walk_at "s"
  refine .mk ?_
  walk_at "s"
  refine ⟨_, rfl, by decide, by decide, fun x n2 hg2 x0 x1 => ?_⟩
  walk_at "s"
  intro y n3 hg3 y0 y1
  walk_at "s"
  refine ⟨_, rfl, by decide, by decide, fun r n4 hg4 r0 r1 => ?_⟩
  have main : ∀ v : Int, 0 ≤ v → v < 2 ^ 190 → ∀ (n5 : Nd), gs n5 → ∀ w : Int, 0 ≤ w → w < 60 → MulC (1 - 2 * t) v ∧ frW ((1 - 2 * t) * v) (1 + w) ∧ t__law_right_3 K A (rEnds R RE) (some (.ow (some 0) n5) :: some (.p (.int p)) :: some (.p (.int (1 - 2 * t))) :: some (.p (frD ((1 - 2 * t) * v) (1 + w))) :: none :: none :: none :: none :: none :: none :: none :: none :: none :: none :: none :: none :: none :: none :: none :: none :: none :: none :: none :: none :: none :: none :: none :: none :: none :: none :: none :: none :: none :: none :: []) := fun v v0 v1 n5 hg5 w w0 w1 => by
    have sz := sgn2 v0 v1 t0 t1
    refine ⟨mulC_small (by omega), frw_small (by omega) (sz_mono sz (by decide)) (sz_lit (by omega)), ?_⟩
    obtain ⟨e1, e2, e3, e4, e5⟩ := red_of (n := (1 - 2 * t) * v) (u := 1 + w) (by omega)
    have la := fr_le (n := (1 - 2 * t) * v) (u := 1 + w) (by omega) (cm_dvd ((1 - 2 * t) * v) (1 + w)).1
    have lb := Int.le_of_dvd (by omega) e4
    unfold frD
    exact right_2b h n5 hg5 p hp _ _ e1 (by omega) e2 (Nat.lt_of_le_of_lt la sz) _
  have mx : MulC (1 - 2 * t) x := mulC_small (by omega)
  have my : MulC (1 - 2 * t) y := mulC_small (by omega)
  rcases (show r = 0 ∨ r = 1 by omega) with rfl | rfl
  · walk_at "s"
    refine ⟨_, rfl, by decide, by decide, fun w n5 hg5 w0 w1 => ?_⟩
    obtain ⟨_, mf, mg⟩ := main x x0 (by omega) n5 hg5 w w0 w1
    walk_at "s"
    refine ⟨fun z => absurd z (by omega), fun _ => ⟨mf, ?_⟩⟩
    walk_at "s"
    exact .mk mg
  · walk_at "s"
    refine ⟨_, rfl, by decide, by decide, fun w n5 hg5 w0 w1 => ?_⟩
    obtain ⟨_, mf, mg⟩ := main y y0 y1 n5 hg5 w w0 w1
    walk_at "s"
    refine ⟨fun z => absurd z (by omega), fun _ => ⟨mf, ?_⟩⟩
    walk_at "s"
    exact .mk mg
end
theorem vc__law_right {K A} : ∀ n ds R RE, c__law_right A n ds R RE → t__law_right K A (rEnds R RE) (startD N__law_right (some (.ow (some 0) n) :: ds.map fun d => some (.p d))) := by
  rintro ns ds R RE ⟨hg, rfl, h⟩
  walk_at "s"
  refine ⟨_, rfl, by decide, by decide, fun q n1 hg1 q0 q1 => ?_⟩
  rcases (show q = 0 ∨ q = 1 ∨ q = 2 ∨ q = 3 ∨ q = 4 ∨ q = 5 ∨ q = 6 by omega) with rfl | rfl | rfl | rfl | rfl | rfl | rfl
  all_goals
    walk_at "s"
    exact .mk (right_1 h _ (by assumption) _ (pr_of (by decide)))
theorem vc_law {K A} : ∀ ds R RE, c_law A ds R RE → t_law K A (pEnds R RE) (startD N_law (ds.map fun d => some (.p d))) := by
  rintro ds R RE ⟨ns, rfl, hl, h⟩
  walk_at "d"
  refine ⟨by omega, ?_⟩
  walk_at "d"
  refine fold_range (fun k ε => ∃ st : Option Sl, ε = [some (.p (.frl (ns.map .int))), st]) ?_ ?_ _ ⟨none, rfl⟩
  · rintro _ ⟨st, rfl⟩
    walk_at "d"
    exact h
  · rintro k _ hk ⟨st, rfl⟩ nx hnx
    have hk : k < (min ((ns.map D.int).length : Int) 7 + 3).toNat := hk
    walk_at "d"
    refine ⟨ns, k, by rw [Int.zero_add], fun x => ?_⟩
    walk_at "d"
    refine ⟨x, k, by rw [Int.zero_add], by omega, fun n hn => ?_⟩
    walk_at "d"
    refine fun n' => ?_
    walk_at "d"
    exact hnx _ ⟨_, rfl⟩

section
variable {P : Program} {w : World} {K : PySem.W.Frag} {mg : Str → Option Value} {base : Heap} {A : Ad}
theorem b_power (T : Tx P K mg A) (cdv : Value) (Ar : Around) (outer : List Env) (s : Shared) (H : Hp) (E : XK) (hr : Room 0 (Ar.deeper (PyProof.Rows.envOfC "power" (defScope s_power) s.heap.objs.size A.f_power cdv))) (tk : Takes (cxF P w K mg base N_power "power" s_power A.f_power cdv Ar outer s H E) (wE E))
    (hp : PassesOwn (model P w) (Ar.deeper (PyProof.Rows.envOfC "power" (defScope s_power) s.heap.objs.size A.f_power cdv)) (PyProof.Rows.envOfC "power" (defScope s_power) s.heap.objs.size A.f_power cdv) (cxF P w K mg base N_power "power" s_power A.f_power cdv Ar outer s H E).xe) : PSs (cxF P w K mg base N_power "power" s_power A.f_power cdv Ar outer s H E) (defBody s_power) (liftS K (wE E) (t_power K A)) :=
 (dss_cons (ds_if (dt_cmp (op_ltA hr.units) opd_ltA (nomark _) (de_var (pv 1)) de_int)
 (dss_one (ds_raise rfl tk T.base T.e_BadNumber hr (da_cons de_str da_nil)))
 dss_nil)
 (dss_tail (dss_cons (ds_set (i := 2) sc_power.nd rfl (.inl rfl) de_int)
 (dss_tail (dss_cons (ds_set (i := 3) sc_power.nd rfl (.inl rfl) (de_var (pv 1)))
 (dss_tail (dss_cons (ds_set (i := 4) sc_power.nd rfl (.inl rfl) (de_var (pv 0)))
 (dss_tail (dss_cons (ds_while hp (dt_cmp (op_gtA hr.units) opd_gtA (nomark _) (de_var (pv 3)) de_int)
 (dss_cons (ds_if (dt_cmp (op_eqD hr.units) opd_eq (nomark _) (de_mod (de_var (pv 3)) de_int) de_int)
 (dss_one (ds_set (i := 2) sc_power.nd rfl (.inl rfl) (de_mul (de_var (pv 2)) (de_var (pv 4)))))
 dss_nil)
 (dss_cons (ds_set (i := 4) sc_power.nd rfl (.inl rfl) (de_mul (de_var (pv 4)) (de_var (pv 4))))
 (dss_one (ds_set (i := 3) sc_power.nd rfl (.inl rfl) (de_fdiv (de_var (pv 3)) de_int))))))
 (dss_tail (dss_one (ds_ret (de_var (pv 2))))))))))))))
theorem b_checked (T : Tx P K mg A) (cdv : Value) (Ar : Around) (outer : List Env) (s : Shared) (H : Hp) (E : XK) (hr : Room 0 (Ar.deeper (PyProof.Rows.envOfC "checked" (defScope s_checked) s.heap.objs.size A.f_checked cdv))) (tk : Takes (cxF P w K mg base N_checked "checked" s_checked A.f_checked cdv Ar outer s H E) (wE E))
    (hp : PassesOwn (model P w) (Ar.deeper (PyProof.Rows.envOfC "checked" (defScope s_checked) s.heap.objs.size A.f_checked cdv)) (PyProof.Rows.envOfC "checked" (defScope s_checked) s.heap.objs.size A.f_checked cdv) (cxF P w K mg base N_checked "checked" s_checked A.f_checked cdv Ar outer s H E).xe) : PSs (cxF P w K mg base N_checked "checked" s_checked A.f_checked cdv Ar outer s H E) (defBody s_checked) (liftS K (wE E) (t_checked K A)) :=
 (dss_cons (ds_if (dt_cmp (op_geA hr.units) opd_geA (nomark _) (de_abs T.n_abs (da_cons (de_var (pv 0)) da_nil)) (de_glob (v := .int 10000000000000000000000000000000000000000000000000000000000000000000000000000000000000000000000000000000000000000000000000000000000000000000000000000000000000000000000000000000000000000000000000000000000000000000000000000000000000000000000000000000000000000000000000000000000000000000000000000000000000000000000000000000000000000000000000000000000000000000000000000000000000000000000000000000000000000) (fun _ => rfl) (by rfl) T.k_LIMIT_m T.k_LIMIT_r))
 (dss_one (ds_raise rfl tk T.base T.e_TooLarge hr (da_cons de_str da_nil)))
 dss_nil)
 (dss_one (ds_ret (de_var (pv 0)))))
theorem b_shared (T : Tx P K mg A) (cdv : Value) (Ar : Around) (outer : List Env) (s : Shared) (H : Hp) (E : XK) (hr : Room 0 (Ar.deeper (PyProof.Rows.envOfC "shared" (defScope s_shared) s.heap.objs.size A.f_shared cdv))) (tk : Takes (cxF P w K mg base N_shared "shared" s_shared A.f_shared cdv Ar outer s H E) (wE E))
    (hp : PassesOwn (model P w) (Ar.deeper (PyProof.Rows.envOfC "shared" (defScope s_shared) s.heap.objs.size A.f_shared cdv)) (PyProof.Rows.envOfC "shared" (defScope s_shared) s.heap.objs.size A.f_shared cdv) (cxF P w K mg base N_shared "shared" s_shared A.f_shared cdv Ar outer s H E).xe) : PSs (cxF P w K mg base N_shared "shared" s_shared A.f_shared cdv Ar outer s H E) (defBody s_shared) (liftS K (wE E) (t_shared K A)) :=
 (dss_cons (ds_par2 (i := 0) (j := 1) rfl sc_shared.nd rfl rfl (by decide) rfl rfl (da_cons (de_abs T.n_abs (da_cons (de_var (pv 0)) da_nil)) (da_cons (de_abs T.n_abs (da_cons (de_var (pv 1)) da_nil)) da_nil)) rfl)
 (dss_cons (ds_while hp (dt_cmp (op_neD hr.units) opd_ne (nomark _) (de_var (pv 1)) de_int)
 (dss_one (ds_par2 (i := 0) (j := 1) rfl sc_shared.nd rfl rfl (by decide) rfl rfl (da_cons (de_var (pv 1)) (da_cons (de_mod (de_var (pv 0)) (de_var (pv 1))) da_nil)) rfl)))
 (dss_one (ds_ret (de_var (pv 0))))))
theorem b_fraction (T : Tx P K mg A) (G_checked : FnOk P w K mg base (L2.CX P w) 1 A.f_checked A.d_checked ["n"] (spP K (c_checked A))) (G_shared : FnOk P w K mg base (L2.CX P w) 1 A.f_shared A.d_shared ["one", "other"] (spP K (c_shared A))) (cdv : Value) (Ar : Around) (outer : List Env) (s : Shared) (H : Hp) (E : XK) (hr : Room 1 (Ar.deeper (PyProof.Rows.envOfC "fraction" (defScope s_fraction) s.heap.objs.size A.f_fraction cdv))) (tk : Takes (cxF P w K mg base N_fraction "fraction" s_fraction A.f_fraction cdv Ar outer s H E) (wE E))
    (hp : PassesOwn (model P w) (Ar.deeper (PyProof.Rows.envOfC "fraction" (defScope s_fraction) s.heap.objs.size A.f_fraction cdv)) (PyProof.Rows.envOfC "fraction" (defScope s_fraction) s.heap.objs.size A.f_fraction cdv) (cxF P w K mg base N_fraction "fraction" s_fraction A.f_fraction cdv Ar outer s H E).xe) : PSs (cxF P w K mg base N_fraction "fraction" s_fraction A.f_fraction cdv Ar outer s H E) (defBody s_fraction) (liftS K (wE E) (t_fraction K A)) :=
 (dss_cons (ds_if (dt_cmp (op_eqD hr.units) opd_eq (nomark _) (de_var (pv 1)) de_int)
 (dss_one (ds_raise rfl tk T.base T.e_BadFraction hr (da_cons de_str da_nil)))
 dss_nil)
 (dss_tail (dss_cons (ds_set (i := 2) sc_fraction.nd rfl (.inl rfl) (de_call tk G_shared (hr.mono (by decide)) T.g_shared T.F_shared.kp T.b_shared (da_cons (de_var (pv 0)) (da_cons (de_var (pv 1)) da_nil))))
 (dss_tail (dss_cons (ds_if (dt_cmp (op_ltA hr.units) opd_ltA (nomark _) (de_var (pv 1)) de_int)
 (dss_one (ds_set (i := 2) sc_fraction.nd rfl (.inl rfl) (de_neg (de_var (pv 2)))))
 dss_nil)
 (dss_tail (dss_one (ds_ret (de_tup (da_cons (de_call tk G_checked (hr.mono (by decide)) T.g_checked T.F_checked.kp T.b_checked (da_cons (de_fdiv (de_var (pv 0)) (de_var (pv 2))) da_nil)) (da_cons (de_call tk G_checked (hr.mono (by decide)) T.g_checked T.F_checked.kp T.b_checked (da_cons (de_fdiv (de_var (pv 1)) (de_var (pv 2))) da_nil)) da_nil)))))))))))
theorem b_is_fraction (T : Tx P K mg A) (G_shared : FnOk P w K mg base (L2.CX P w) 1 A.f_shared A.d_shared ["one", "other"] (spP K (c_shared A))) (cdv : Value) (Ar : Around) (outer : List Env) (s : Shared) (H : Hp) (E : XK) (hr : Room 1 (Ar.deeper (PyProof.Rows.envOfC "is_fraction" (defScope s_is_fraction) s.heap.objs.size A.f_is_fraction cdv))) (tk : Takes (cxF P w K mg base N_is_fraction "is_fraction" s_is_fraction A.f_is_fraction cdv Ar outer s H E) (wE E))
    (hp : PassesOwn (model P w) (Ar.deeper (PyProof.Rows.envOfC "is_fraction" (defScope s_is_fraction) s.heap.objs.size A.f_is_fraction cdv)) (PyProof.Rows.envOfC "is_fraction" (defScope s_is_fraction) s.heap.objs.size A.f_is_fraction cdv) (cxF P w K mg base N_is_fraction "is_fraction" s_is_fraction A.f_is_fraction cdv Ar outer s H E).xe) : PSs (cxF P w K mg base N_is_fraction "is_fraction" s_is_fraction A.f_is_fraction cdv Ar outer s H E) (defBody s_is_fraction) (liftS K (wE E) (t_is_fraction K A)) :=
 (dss_one (ds_ret (de_and (de_cmp (op_eqD hr.units) opd_eq (nomark _) (de_len T.n_len (da_cons (de_var (pv 0)) da_nil)) de_int) (de_and (de_cmp (op_gtA hr.units) opd_gtA (nomark _) (de_sub_ix (de_var (pv 0)) de_int) de_int) (de_one (de_cmp (op_eqD hr.units) opd_eq (nomark _) (de_call tk G_shared (hr.mono (by decide)) T.g_shared T.F_shared.kp T.b_shared (da_cons (de_sub_ix (de_var (pv 0)) de_int) (da_cons (de_sub_ix (de_var (pv 0)) de_int) da_nil))) de_int))))))
theorem b_known (T : Tx P K mg A) (G_is_fraction : FnOk P w K mg base (L2.CX P w) 2 A.f_is_fraction A.d_is_fraction ["pair"] (spP K (c_is_fraction A))) (cdv : Value) (Ar : Around) (outer : List Env) (s : Shared) (H : Hp) (E : XK) (hr : Room 2 (Ar.deeper (PyProof.Rows.envOfC "known" (defScope s_known) s.heap.objs.size A.f_known cdv))) (tk : Takes (cxF P w K mg base N_known "known" s_known A.f_known cdv Ar outer s H E) (wE E))
    (hp : PassesOwn (model P w) (Ar.deeper (PyProof.Rows.envOfC "known" (defScope s_known) s.heap.objs.size A.f_known cdv)) (PyProof.Rows.envOfC "known" (defScope s_known) s.heap.objs.size A.f_known cdv) (cxF P w K mg base N_known "known" s_known A.f_known cdv Ar outer s H E).xe) : PSs (cxF P w K mg base N_known "known" s_known A.f_known cdv Ar outer s H E) (defBody s_known) (liftS K (wE E) (t_known K A)) :=
 (dss_cons (ds_set (i := 1) sc_known.nd rfl (.inl rfl) (de_tuple T.n_tuple (da_cons (de_var (pv 0)) da_nil)))
 (dss_cons (ds_if (dt_not (dt_tru (de_call tk G_is_fraction (hr.mono (by decide)) T.g_is_fraction T.F_is_fraction.kp T.b_is_fraction (da_cons (de_var (pv 1)) da_nil))))
 (dss_one (ds_raise rfl tk T.base T.e_BadFraction hr (da_cons de_str da_nil)))
 dss_nil)
 (dss_one (ds_ret (de_var (pv 1))))))
theorem b_prime_of (T : Tx P K mg A) (cdv : Value) (Ar : Around) (outer : List Env) (s : Shared) (H : Hp) (E : XK) (hr : Room 0 (Ar.deeper (PyProof.Rows.envOfC "prime_of" (defScope s_prime_of) s.heap.objs.size A.f_prime_of cdv))) (tk : Takes (cxF P w K mg base N_prime_of "prime_of" s_prime_of A.f_prime_of cdv Ar outer s H E) (wE E))
    (hp : PassesOwn (model P w) (Ar.deeper (PyProof.Rows.envOfC "prime_of" (defScope s_prime_of) s.heap.objs.size A.f_prime_of cdv)) (PyProof.Rows.envOfC "prime_of" (defScope s_prime_of) s.heap.objs.size A.f_prime_of cdv) (cxF P w K mg base N_prime_of "prime_of" s_prime_of A.f_prime_of cdv Ar outer s H E).xe) : PSs (cxF P w K mg base N_prime_of "prime_of" s_prime_of A.f_prime_of cdv Ar outer s H E) (defBody s_prime_of) (liftS K (wE E) (t_prime_of K A)) :=
 (dss_cons (ds_if (dw_or (dt_not (dt_chain (op_leA hr.units) (op_leA hr.units) opd_leA opd_leA de_int (de_var (pv 0)) de_int)) (dw_or1 (dt_tru (de_any rfl T.n_any (da_cons (de_lc (own := [((PySem.Str.ofString "d"), 1)]) (g := (.n 1)) rfl sc_prime_of.nd (di_range2 T.n_range de_int (de_var (pv 0))) (blkOk_by (N := N_prime_of) (by with_unfolding_all rfl)) (fun _ _ _ _ _ => (pg_name (i := 1) sc_prime_of.nd rfl (.inl rfl))) (fun _ _ _ _ _ => (dts_one (dt_cmp (op_leA hr.units) opd_leA (nomark _) (de_mul (de_var (pv 1)) (de_var (pv 1))) (de_var (pv 0))))) (fun _ _ _ _ _ => (de_cmp (op_eqD hr.units) opd_eq (nomark _) (de_mod (de_var (pv 0)) (de_var (pv 1))) de_int))) da_nil))))).pt
 (dss_one (ds_raise rfl tk T.base T.e_BadNumber hr (da_cons de_str da_nil)))
 dss_nil)
 (dss_one (ds_ret (de_var (pv 0)))))
theorem b_places_of (T : Tx P K mg A) (cdv : Value) (Ar : Around) (outer : List Env) (s : Shared) (H : Hp) (E : XK) (hr : Room 0 (Ar.deeper (PyProof.Rows.envOfC "places_of" (defScope s_places_of) s.heap.objs.size A.f_places_of cdv))) (tk : Takes (cxF P w K mg base N_places_of "places_of" s_places_of A.f_places_of cdv Ar outer s H E) (wE E))
    (hp : PassesOwn (model P w) (Ar.deeper (PyProof.Rows.envOfC "places_of" (defScope s_places_of) s.heap.objs.size A.f_places_of cdv)) (PyProof.Rows.envOfC "places_of" (defScope s_places_of) s.heap.objs.size A.f_places_of cdv) (cxF P w K mg base N_places_of "places_of" s_places_of A.f_places_of cdv Ar outer s H E).xe) : PSs (cxF P w K mg base N_places_of "places_of" s_places_of A.f_places_of cdv Ar outer s H E) (defBody s_places_of) (liftS K (wE E) (t_places_of K A)) :=
 (dss_cons (ds_if (dt_not (dt_chain (op_leA hr.units) (op_leA hr.units) opd_leA opd_leA de_int (de_var (pv 0)) (de_glob (v := .int 200) (fun _ => rfl) (by rfl) T.k_MOST_PLACES_m T.k_MOST_PLACES_r)))
 (dss_one (ds_raise rfl tk T.base T.e_TooLarge hr (da_cons de_str da_nil)))
 dss_nil)
 (dss_one (ds_ret (de_var (pv 0)))))
theorem b_back (T : Tx P K mg A) (cdv : Value) (Ar : Around) (outer : List Env) (s : Shared) (H : Hp) (E : XK) (hr : Room 0 (Ar.deeper (PyProof.Rows.envOfC "back" (defScope s_back) s.heap.objs.size A.f_back cdv))) (tk : Takes (cxF P w K mg base N_back "back" s_back A.f_back cdv Ar outer s H E) (wE E))
    (hp : PassesOwn (model P w) (Ar.deeper (PyProof.Rows.envOfC "back" (defScope s_back) s.heap.objs.size A.f_back cdv)) (PyProof.Rows.envOfC "back" (defScope s_back) s.heap.objs.size A.f_back cdv) (cxF P w K mg base N_back "back" s_back A.f_back cdv Ar outer s H E).xe) : PSs (cxF P w K mg base N_back "back" s_back A.f_back cdv Ar outer s H E) (defBody s_back) (liftS K (wE E) (t_back K A)) :=
 (dss_cons (ds_par2 (i := 2) (j := 3) rfl sc_back.nd rfl rfl (by decide) rfl rfl (da_cons (de_var (pv 1)) (da_cons (de_mod (de_var (pv 0)) (de_var (pv 1))) da_nil)) rfl)
 (dss_tail (dss_cons (ds_asg (de_tup (da_cons de_int (da_cons de_int da_nil))) (dg_tup rfl (dgs_cons (dg_name (i := 4) sc_back.nd rfl (.inl rfl)) (dgs_cons (dg_name (i := 5) sc_back.nd rfl (.inl rfl)) dgs_nil))))
 (dss_tail (dss_cons (ds_while hp (dt_cmp (op_neD hr.units) opd_ne (nomark _) (de_var (pv 3)) de_int)
 (dss_cons (ds_set (i := 6) sc_back.nd rfl (.inl rfl) (de_fdiv (de_var (pv 2)) (de_var (pv 3))))
 (dss_cons (ds_par2 (i := 2) (j := 3) rfl sc_back.nd rfl rfl (by decide) rfl rfl (da_cons (de_var (pv 3)) (da_cons (de_sub (de_var (pv 2)) (de_mul (de_var (pv 6)) (de_var (pv 3)))) da_nil)) rfl)
 (dss_one (ds_par2 (i := 4) (j := 5) rfl sc_back.nd rfl rfl (by decide) rfl rfl (da_cons (de_var (pv 5)) (da_cons (de_sub (de_var (pv 4)) (de_mul (de_var (pv 6)) (de_var (pv 5)))) da_nil)) rfl)))))
 (dss_tail (dss_cons (ds_if (dt_cmp (op_neD hr.units) opd_ne (nomark _) (de_var (pv 2)) de_int)
 (dss_one (ds_raise rfl tk T.base T.e_BadNumber hr (da_cons de_str da_nil)))
 dss_nil)
 (dss_tail (dss_one (ds_ret (de_mod (de_var (pv 4)) (de_var (pv 1)))))))))))))
theorem b_of_fraction (T : Tx P K mg A) (G_back : FnOk P w K mg base (L2.CX P w) 1 A.f_back A.d_back ["number", "modulus"] (spP K (c_back A))) (G_known : FnOk P w K mg base (L2.CX P w) 3 A.f_known A.d_known ["pair"] (spP K (c_known A))) (G_places_of : FnOk P w K mg base (L2.CX P w) 1 A.f_places_of A.d_places_of ["places"] (spP K (c_places_of A))) (G_power : FnOk P w K mg base (L2.CX P w) 1 A.f_power A.d_power ["base", "e"] (spP K (c_power A))) (G_prime_of : FnOk P w K mg base (L2.CX P w) 1 A.f_prime_of A.d_prime_of ["p"] (spP K (c_prime_of A))) (cdv : Value) (Ar : Around) (outer : List Env) (s : Shared) (H : Hp) (E : XK) (hr : Room 3 (Ar.deeper (PyProof.Rows.envOfC "of_fraction" (defScope s_of_fraction) s.heap.objs.size A.f_of_fraction cdv))) (tk : Takes (cxF P w K mg base N_of_fraction "of_fraction" s_of_fraction A.f_of_fraction cdv Ar outer s H E) (wE E))
    (hp : PassesOwn (model P w) (Ar.deeper (PyProof.Rows.envOfC "of_fraction" (defScope s_of_fraction) s.heap.objs.size A.f_of_fraction cdv)) (PyProof.Rows.envOfC "of_fraction" (defScope s_of_fraction) s.heap.objs.size A.f_of_fraction cdv) (cxF P w K mg base N_of_fraction "of_fraction" s_of_fraction A.f_of_fraction cdv Ar outer s H E).xe) : PSs (cxF P w K mg base N_of_fraction "of_fraction" s_of_fraction A.f_of_fraction cdv Ar outer s H E) (defBody s_of_fraction) (liftS K (wE E) (t_of_fraction K A)) :=
 (dss_cons (ds_asg (de_call tk G_known (hr.mono (by decide)) T.g_known T.F_known.kp T.b_known (da_cons (de_var (pv 1)) da_nil)) (dg_tup rfl (dgs_cons (dg_name (i := 3) sc_of_fraction.nd rfl (.inl rfl)) (dgs_cons (dg_name (i := 4) sc_of_fraction.nd rfl (.inl rfl)) dgs_nil))))
 (dss_tail (dss_cons (ds_if (dt_cmp (op_eqD hr.units) opd_eq (nomark _) (de_mod (de_var (pv 4)) (de_call tk G_prime_of (hr.mono (by decide)) T.g_prime_of T.F_prime_of.kp T.b_prime_of (da_cons (de_var (pv 0)) da_nil))) de_int)
 (dss_one (ds_raise rfl tk T.base T.e_BadFraction hr (da_cons de_str da_nil)))
 dss_nil)
 (dss_tail (dss_cons (ds_set (i := 5) sc_of_fraction.nd rfl (.inl rfl) (de_call tk G_power (hr.mono (by decide)) T.g_power T.F_power.kp T.b_power (da_cons (de_var (pv 0)) (da_cons (de_call tk G_places_of (hr.mono (by decide)) T.g_places_of T.F_places_of.kp T.b_places_of (da_cons (de_var (pv 2)) da_nil)) da_nil))))
 (dss_tail (dss_cons (ds_set (i := 6) sc_of_fraction.nd rfl (.inl rfl) (de_if (dt_cmp (op_gtA hr.units) opd_gtA (nomark _) (de_var (pv 5)) de_int) (de_mod (de_mul (de_var (pv 3)) (de_call tk G_back (hr.mono (by decide)) T.g_back T.F_back.kp T.b_back (da_cons (de_var (pv 4)) (da_cons (de_var (pv 5)) da_nil)))) (de_var (pv 5))) de_int))
 (dss_tail (dss_cons (ds_set (i := 7) sc_of_fraction.nd rfl (.inl rfl) (de_lst da_nil))
 (dss_tail (dss_cons (ds_for hp rfl (di_range1 T.n_range (de_var (pv 2))) (dg_name (i := 8) sc_of_fraction.nd rfl (.inl rfl))
 (dss_cons (ds_expr (de_append (pv 7) (da_cons (de_mod (de_var (pv 6)) (de_var (pv 0))) da_nil)))
 (dss_one (ds_set (i := 6) sc_of_fraction.nd rfl (.inl rfl) (de_fdiv (de_var (pv 6)) (de_var (pv 0)))))))
 (dss_tail (dss_one (ds_ret (de_tuple T.n_tuple (da_cons (de_var (pv 7)) da_nil))))))))))))))))
theorem b_going_round (T : Tx P K mg A) (G_back : FnOk P w K mg base (L2.CX P w) 1 A.f_back A.d_back ["number", "modulus"] (spP K (c_back A))) (G_known : FnOk P w K mg base (L2.CX P w) 3 A.f_known A.d_known ["pair"] (spP K (c_known A))) (G_prime_of : FnOk P w K mg base (L2.CX P w) 1 A.f_prime_of A.d_prime_of ["p"] (spP K (c_prime_of A))) (cdv : Value) (Ar : Around) (outer : List Env) (s : Shared) (H : Hp) (E : XK) (hr : Room 3 (Ar.deeper (PyProof.Rows.envOfC "going_round" (defScope s_going_round) s.heap.objs.size A.f_going_round cdv))) (tk : Takes (cxF P w K mg base N_going_round "going_round" s_going_round A.f_going_round cdv Ar outer s H E) (wE E))
    (hp : PassesOwn (model P w) (Ar.deeper (PyProof.Rows.envOfC "going_round" (defScope s_going_round) s.heap.objs.size A.f_going_round cdv)) (PyProof.Rows.envOfC "going_round" (defScope s_going_round) s.heap.objs.size A.f_going_round cdv) (cxF P w K mg base N_going_round "going_round" s_going_round A.f_going_round cdv Ar outer s H E).xe) : PSs (cxF P w K mg base N_going_round "going_round" s_going_round A.f_going_round cdv Ar outer s H E) (defBody s_going_round) (liftS K (wE E) (t_going_round K A)) :=
 (dss_cons (ds_asg (de_call tk G_known (hr.mono (by decide)) T.g_known T.F_known.kp T.b_known (da_cons (de_var (pv 1)) da_nil)) (dg_tup rfl (dgs_cons (dg_name (i := 2) sc_going_round.nd rfl (.inl rfl)) (dgs_cons (dg_name (i := 3) sc_going_round.nd rfl (.inl rfl)) dgs_nil))))
 (dss_tail (dss_cons (ds_if (dt_cmp (op_eqD hr.units) opd_eq (nomark _) (de_mod (de_var (pv 3)) (de_call tk G_prime_of (hr.mono (by decide)) T.g_prime_of T.F_prime_of.kp T.b_prime_of (da_cons (de_var (pv 0)) da_nil))) de_int)
 (dss_one (ds_raise rfl tk T.base T.e_BadFraction hr (da_cons de_str da_nil)))
 dss_nil)
 (dss_tail (dss_cons (ds_if (dt_cmp (op_gtA hr.units) opd_gtA (nomark _) (de_var (pv 3)) de_int)
 (dss_one (ds_raise rfl tk T.base T.e_TooLarge hr (da_cons de_str da_nil)))
 dss_nil)
 (dss_tail (dss_cons (ds_set (i := 4) sc_going_round.nd rfl (.inl rfl) (de_if (dt_cmp (op_gtA hr.units) opd_gtA (nomark _) (de_var (pv 3)) de_int) (de_call tk G_back (hr.mono (by decide)) T.g_back T.F_back.kp T.b_back (da_cons (de_var (pv 3)) (da_cons (de_var (pv 0)) da_nil))) de_int))
 (dss_tail (dss_cons (ds_newd (i := 5) sc_going_round.nd rfl (.inl rfl))
 (dss_tail (dss_cons (ds_set (i := 6) sc_going_round.nd rfl (.inl rfl) (de_lst da_nil))
 (dss_tail (dss_cons (ds_set (i := 7) sc_going_round.nd rfl (.inl rfl) (de_var (pv 2)))
 (dss_tail (dss_cons (ds_while hp (dt_dnin (i := 5) hr.units (by with_unfolding_all rfl) (de_var (pv 7)) (pv 5))
 (dss_cons (ds_dput (i := 5) hr.units (pv 5) (de_var (pv 7)) (de_len T.n_len (da_cons (de_var (pv 6)) da_nil)))
 (dss_cons (ds_set (i := 8) sc_going_round.nd rfl (.inl rfl) (de_mod (de_mul (de_var (pv 7)) (de_var (pv 4))) (de_var (pv 0))))
 (dss_cons (ds_expr (de_append (pv 6) (da_cons (de_var (pv 8)) da_nil)))
 (dss_one (ds_set (i := 7) sc_going_round.nd rfl (.inl rfl) (de_fdiv (de_sub (de_var (pv 7)) (de_mul (de_var (pv 8)) (de_var (pv 3)))) (de_var (pv 0)))))))))
 (dss_tail (dss_one (ds_ret (de_tup (da_cons (de_tuple T.n_tuple (da_cons (de_slice (de_var (pv 6)) do_none (do_some (de_dget (i := 5) hr.units (pv 5) (de_var (pv 7)) (fun _ _ => rfl)))) da_nil)) (da_cons (de_tuple T.n_tuple (da_cons (de_slice (de_var (pv 6)) (do_some (de_dget (i := 5) hr.units (pv 5) (de_var (pv 7)) (fun _ _ => rfl))) do_none) da_nil)) da_nil)))))))))))))))))))))
theorem b_value_of (T : Tx P K mg A) (G_fraction : FnOk P w K mg base (L2.CX P w) 2 A.f_fraction A.d_fraction ["number", "under"] (spP K (c_fraction A))) (G_power : FnOk P w K mg base (L2.CX P w) 1 A.f_power A.d_power ["base", "e"] (spP K (c_power A))) (G_prime_of : FnOk P w K mg base (L2.CX P w) 1 A.f_prime_of A.d_prime_of ["p"] (spP K (c_prime_of A))) (cdv : Value) (Ar : Around) (outer : List Env) (s : Shared) (H : Hp) (E : XK) (hr : Room 2 (Ar.deeper (PyProof.Rows.envOfC "value_of" (defScope s_value_of) s.heap.objs.size A.f_value_of cdv))) (tk : Takes (cxF P w K mg base N_value_of "value_of" s_value_of A.f_value_of cdv Ar outer s H E) (wE E))
    (hp : PassesOwn (model P w) (Ar.deeper (PyProof.Rows.envOfC "value_of" (defScope s_value_of) s.heap.objs.size A.f_value_of cdv)) (PyProof.Rows.envOfC "value_of" (defScope s_value_of) s.heap.objs.size A.f_value_of cdv) (cxF P w K mg base N_value_of "value_of" s_value_of A.f_value_of cdv Ar outer s H E).xe) : PSs (cxF P w K mg base N_value_of "value_of" s_value_of A.f_value_of cdv Ar outer s H E) (defBody s_value_of) (liftS K (wE E) (t_value_of K A)) :=
 (dss_cons (ds_if (dt_not (dt_tru (de_var (pv 2))))
 (dss_one (ds_raise rfl tk T.base T.e_BadNumber hr (da_cons de_str da_nil)))
 dss_nil)
 (dss_tail (dss_cons (ds_set (i := 3) sc_value_of.nd rfl (.inl rfl) (de_sum rfl T.n_sum (da_cons (de_lc (own := [((PySem.Str.ofString "at"), 7), ((PySem.Str.ofString "digit"), 8)]) (g := (.t [7, 8])) rfl sc_value_of.nd (di_enum T.n_enumerate (da_cons (de_var (pv 1)) da_nil)) (blkOk_by (N := N_value_of) (by with_unfolding_all rfl)) (fun _ _ _ _ _ => (pg_tup rfl (pgs_cons (pg_name (i := 7) sc_value_of.nd rfl (.inl rfl)) (pgs_cons (pg_name (i := 8) sc_value_of.nd rfl (.inl rfl)) pgs_nil)))) (fun _ _ _ _ _ => dts_nil) (fun _ _ _ _ _ => (de_mul (de_var (pv 8)) (de_call takes_none5 G_power (hr.mono (by decide)) T.g_power T.F_power.kp T.b_power (da_cons (de_var (pv 0)) (da_cons (de_var (pv 7)) da_nil)))))) da_nil)))
 (dss_tail (dss_cons (ds_set (i := 4) sc_value_of.nd rfl (.inl rfl) (de_sum rfl T.n_sum (da_cons (de_lc (own := [((PySem.Str.ofString "at"), 7), ((PySem.Str.ofString "digit"), 8)]) (g := (.t [7, 8])) rfl sc_value_of.nd (di_enum T.n_enumerate (da_cons (de_var (pv 2)) da_nil)) (blkOk_by (N := N_value_of) (by with_unfolding_all rfl)) (fun _ _ _ _ _ => (pg_tup rfl (pgs_cons (pg_name (i := 7) sc_value_of.nd rfl (.inl rfl)) (pgs_cons (pg_name (i := 8) sc_value_of.nd rfl (.inl rfl)) pgs_nil)))) (fun _ _ _ _ _ => dts_nil) (fun _ _ _ _ _ => (de_mul (de_var (pv 8)) (de_call takes_none5 G_power (hr.mono (by decide)) T.g_power T.F_power.kp T.b_power (da_cons (de_var (pv 0)) (da_cons (de_var (pv 7)) da_nil)))))) da_nil)))
 (dss_tail (dss_cons (ds_set (i := 5) sc_value_of.nd rfl (.inl rfl) (de_call tk G_power (hr.mono (by decide)) T.g_power T.F_power.kp T.b_power (da_cons (de_call tk G_prime_of (hr.mono (by decide)) T.g_prime_of T.F_prime_of.kp T.b_prime_of (da_cons (de_var (pv 0)) da_nil)) (da_cons (de_len T.n_len (da_cons (de_var (pv 1)) da_nil)) da_nil))))
 (dss_tail (dss_cons (ds_set (i := 6) sc_value_of.nd rfl (.inl rfl) (de_sub de_int (de_call tk G_power (hr.mono (by decide)) T.g_power T.F_power.kp T.b_power (da_cons (de_var (pv 0)) (da_cons (de_len T.n_len (da_cons (de_var (pv 2)) da_nil)) da_nil)))))
 (dss_tail (dss_one (ds_ret (de_call tk G_fraction (hr.mono (by decide)) T.g_fraction T.F_fraction.kp T.b_fraction (da_cons (de_add (de_mul (de_var (pv 3)) (de_var (pv 6))) (de_mul (de_var (pv 4)) (de_var (pv 5)))) (da_cons (de_var (pv 6)) da_nil)))))))))))))))
theorem b_often (T : Tx P K mg A) (G_known : FnOk P w K mg base (L2.CX P w) 3 A.f_known A.d_known ["pair"] (spP K (c_known A))) (G_prime_of : FnOk P w K mg base (L2.CX P w) 1 A.f_prime_of A.d_prime_of ["p"] (spP K (c_prime_of A))) (cdv : Value) (Ar : Around) (outer : List Env) (s : Shared) (H : Hp) (E : XK) (hr : Room 3 (Ar.deeper (PyProof.Rows.envOfC "often" (defScope s_often) s.heap.objs.size A.f_often cdv))) (tk : Takes (cxF P w K mg base N_often "often" s_often A.f_often cdv Ar outer s H E) (wE E))
    (hp : PassesOwn (model P w) (Ar.deeper (PyProof.Rows.envOfC "often" (defScope s_often) s.heap.objs.size A.f_often cdv)) (PyProof.Rows.envOfC "often" (defScope s_often) s.heap.objs.size A.f_often cdv) (cxF P w K mg base N_often "often" s_often A.f_often cdv Ar outer s H E).xe) : PSs (cxF P w K mg base N_often "often" s_often A.f_often cdv Ar outer s H E) (defBody s_often) (liftS K (wE E) (t_often K A)) :=
 (dss_cons (ds_asg (de_call tk G_known (hr.mono (by decide)) T.g_known T.F_known.kp T.b_known (da_cons (de_var (pv 1)) da_nil)) (dg_tup rfl (dgs_cons (dg_name (i := 2) sc_often.nd rfl (.inl rfl)) (dgs_cons (dg_name (i := 3) sc_often.nd rfl (.inl rfl)) dgs_nil))))
 (dss_tail (dss_cons (ds_if (dt_cmp (op_eqD hr.units) opd_eq (nomark _) (de_var (pv 2)) de_int)
 (dss_one (ds_raise rfl tk T.base T.e_BadFraction hr (da_cons de_str da_nil)))
 dss_nil)
 (dss_tail (dss_cons (ds_set (i := 4) sc_often.nd rfl (.inl rfl) de_int)
 (dss_tail (dss_cons (ds_while hp (dt_cmp (op_eqD hr.units) opd_eq (nomark _) (de_mod (de_var (pv 2)) (de_call tk G_prime_of (hr.mono (by decide)) T.g_prime_of T.F_prime_of.kp T.b_prime_of (da_cons (de_var (pv 0)) da_nil))) de_int)
 (dss_cons (ds_set (i := 2) sc_often.nd rfl (.inl rfl) (de_fdiv (de_var (pv 2)) (de_var (pv 0))))
 (dss_one (ds_set (i := 4) sc_often.nd rfl (.inl rfl) (de_add (de_var (pv 4)) de_int)))))
 (dss_tail (dss_cons (ds_while hp (dt_cmp (op_eqD hr.units) opd_eq (nomark _) (de_mod (de_var (pv 3)) (de_var (pv 0))) de_int)
 (dss_cons (ds_set (i := 3) sc_often.nd rfl (.inl rfl) (de_fdiv (de_var (pv 3)) (de_var (pv 0))))
 (dss_one (ds_set (i := 4) sc_often.nd rfl (.inl rfl) (de_sub (de_var (pv 4)) de_int)))))
 (dss_tail (dss_one (ds_ret (de_var (pv 4))))))))))))))
theorem b_polynomial_at (T : Tx P K mg A) (cdv : Value) (Ar : Around) (outer : List Env) (s : Shared) (H : Hp) (E : XK) (hr : Room 0 (Ar.deeper (PyProof.Rows.envOfC "polynomial_at" (defScope s_polynomial_at) s.heap.objs.size A.f_polynomial_at cdv))) (tk : Takes (cxF P w K mg base N_polynomial_at "polynomial_at" s_polynomial_at A.f_polynomial_at cdv Ar outer s H E) (wE E))
    (hp : PassesOwn (model P w) (Ar.deeper (PyProof.Rows.envOfC "polynomial_at" (defScope s_polynomial_at) s.heap.objs.size A.f_polynomial_at cdv)) (PyProof.Rows.envOfC "polynomial_at" (defScope s_polynomial_at) s.heap.objs.size A.f_polynomial_at cdv) (cxF P w K mg base N_polynomial_at "polynomial_at" s_polynomial_at A.f_polynomial_at cdv Ar outer s H E).xe) : PSs (cxF P w K mg base N_polynomial_at "polynomial_at" s_polynomial_at A.f_polynomial_at cdv Ar outer s H E) (defBody s_polynomial_at) (liftS K (wE E) (t_polynomial_at K A)) :=
 (dss_cons (ds_set (i := 2) sc_polynomial_at.nd rfl (.inl rfl) de_int)
 (dss_cons (ds_for hp rfl (di_rev T.n_reversed (de_var (pv 0))) (dg_name (i := 3) sc_polynomial_at.nd rfl (.inl rfl))
 (dss_one (ds_set (i := 2) sc_polynomial_at.nd rfl (.inl rfl) (de_add (de_mul (de_var (pv 2)) (de_var (pv 1))) (de_var (pv 3))))))
 (dss_one (ds_ret (de_var (pv 2))))))
theorem b_slope (T : Tx P K mg A) (cdv : Value) (Ar : Around) (outer : List Env) (s : Shared) (H : Hp) (E : XK) (hr : Room 0 (Ar.deeper (PyProof.Rows.envOfC "slope" (defScope s_slope) s.heap.objs.size A.f_slope cdv))) (tk : Takes (cxF P w K mg base N_slope "slope" s_slope A.f_slope cdv Ar outer s H E) (wE E))
    (hp : PassesOwn (model P w) (Ar.deeper (PyProof.Rows.envOfC "slope" (defScope s_slope) s.heap.objs.size A.f_slope cdv)) (PyProof.Rows.envOfC "slope" (defScope s_slope) s.heap.objs.size A.f_slope cdv) (cxF P w K mg base N_slope "slope" s_slope A.f_slope cdv Ar outer s H E).xe) : PSs (cxF P w K mg base N_slope "slope" s_slope A.f_slope cdv Ar outer s H E) (defBody s_slope) (liftS K (wE E) (t_slope K A)) :=
 (dss_one (ds_ret (de_slice (de_tuple T.n_tuple (da_cons (de_lc (own := [((PySem.Str.ofString "at"), 1), ((PySem.Str.ofString "number"), 2)]) (g := (.t [1, 2])) rfl sc_slope.nd (di_enum T.n_enumerate (da_cons (de_var (pv 0)) da_nil)) (blkOk_by (N := N_slope) (by with_unfolding_all rfl)) (fun _ _ _ _ _ => (pg_tup rfl (pgs_cons (pg_name (i := 1) sc_slope.nd rfl (.inl rfl)) (pgs_cons (pg_name (i := 2) sc_slope.nd rfl (.inl rfl)) pgs_nil)))) (fun _ _ _ _ _ => dts_nil) (fun _ _ _ _ _ => (de_mul (de_var (pv 1)) (de_var (pv 2))))) da_nil)) (do_some de_int) do_none)))
theorem b_lifted (T : Tx P K mg A) (G_back : FnOk P w K mg base (L2.CX P w) 1 A.f_back A.d_back ["number", "modulus"] (spP K (c_back A))) (G_places_of : FnOk P w K mg base (L2.CX P w) 1 A.f_places_of A.d_places_of ["places"] (spP K (c_places_of A))) (G_polynomial_at : FnOk P w K mg base (L2.CX P w) 1 A.f_polynomial_at A.d_polynomial_at ["numbers", "x"] (spP K (c_polynomial_at A))) (G_prime_of : FnOk P w K mg base (L2.CX P w) 1 A.f_prime_of A.d_prime_of ["p"] (spP K (c_prime_of A))) (G_slope : FnOk P w K mg base (L2.CX P w) 1 A.f_slope A.d_slope ["numbers"] (spP K (c_slope A))) (cdv : Value) (Ar : Around) (outer : List Env) (s : Shared) (H : Hp) (E : XK) (hr : Room 1 (Ar.deeper (PyProof.Rows.envOfC "lifted" (defScope s_lifted) s.heap.objs.size A.f_lifted cdv))) (tk : Takes (cxF P w K mg base N_lifted "lifted" s_lifted A.f_lifted cdv Ar outer s H E) (wE E))
    (hp : PassesOwn (model P w) (Ar.deeper (PyProof.Rows.envOfC "lifted" (defScope s_lifted) s.heap.objs.size A.f_lifted cdv)) (PyProof.Rows.envOfC "lifted" (defScope s_lifted) s.heap.objs.size A.f_lifted cdv) (cxF P w K mg base N_lifted "lifted" s_lifted A.f_lifted cdv Ar outer s H E).xe) : PSs (cxF P w K mg base N_lifted "lifted" s_lifted A.f_lifted cdv Ar outer s H E) (defBody s_lifted) (liftS K (wE E) (t_lifted K A)) :=
 (dss_cons (ds_expr (de_call tk G_prime_of (hr.mono (by decide)) T.g_prime_of T.F_prime_of.kp T.b_prime_of (da_cons (de_var (pv 0)) da_nil)))
 (dss_tail (dss_cons (ds_if (dt_not (dt_chain (op_leA hr.units) (op_ltA hr.units) opd_leA opd_ltA de_int (de_var (pv 2)) (de_var (pv 0))))
 (dss_one (ds_raise rfl tk T.base T.e_BadNumber hr (da_cons de_str da_nil)))
 dss_nil)
 (dss_tail (dss_cons (ds_if (dw_or (dt_cmp (op_neD hr.units) opd_ne (nomark _) (de_mod (de_call tk G_polynomial_at (hr.mono (by decide)) T.g_polynomial_at T.F_polynomial_at.kp T.b_polynomial_at (da_cons (de_var (pv 1)) (da_cons (de_var (pv 2)) da_nil))) (de_var (pv 0))) de_int) (dw_or1 (dt_cmp (op_eqD hr.units) opd_eq (nomark _) (de_mod (de_call tk G_polynomial_at (hr.mono (by decide)) T.g_polynomial_at T.F_polynomial_at.kp T.b_polynomial_at (da_cons (de_call tk G_slope (hr.mono (by decide)) T.g_slope T.F_slope.kp T.b_slope (da_cons (de_var (pv 1)) da_nil)) (da_cons (de_var (pv 2)) da_nil))) (de_var (pv 0))) de_int))).pt
 (dss_one (ds_ret (de_tup (da_cons de_str (da_cons (de_var (pv 2)) da_nil)))))
 dss_nil)
 (dss_tail (dss_cons (ds_set (i := 4) sc_lifted.nd rfl (.inl rfl) (de_var (pv 2)))
 (dss_tail (dss_cons (ds_set (i := 5) sc_lifted.nd rfl (.inl rfl) (de_lst (da_cons (de_var (pv 2)) da_nil)))
 (dss_tail (dss_cons (ds_set (i := 6) sc_lifted.nd rfl (.inl rfl) (de_var (pv 0)))
 (dss_tail (dss_cons (ds_set (i := 7) sc_lifted.nd rfl (.inl rfl) (de_call tk G_back (hr.mono (by decide)) T.g_back T.F_back.kp T.b_back (da_cons (de_call tk G_polynomial_at (hr.mono (by decide)) T.g_polynomial_at T.F_polynomial_at.kp T.b_polynomial_at (da_cons (de_call tk G_slope (hr.mono (by decide)) T.g_slope T.F_slope.kp T.b_slope (da_cons (de_var (pv 1)) da_nil)) (da_cons (de_var (pv 2)) da_nil))) (da_cons (de_var (pv 0)) da_nil))))
 (dss_tail (dss_cons (ds_for hp rfl (di_range1 T.n_range (de_sub (de_call tk G_places_of (hr.mono (by decide)) T.g_places_of T.F_places_of.kp T.b_places_of (da_cons (de_var (pv 3)) da_nil)) de_int)) (dg_name (i := 8) sc_lifted.nd rfl (.inl rfl))
 (dss_cons (ds_set (i := 9) sc_lifted.nd rfl (.inl rfl) (de_mod (de_mul (de_neg (de_fdiv (de_call tk G_polynomial_at (hr.mono (by decide)) T.g_polynomial_at T.F_polynomial_at.kp T.b_polynomial_at (da_cons (de_var (pv 1)) (da_cons (de_var (pv 4)) da_nil))) (de_var (pv 6)))) (de_var (pv 7))) (de_var (pv 0))))
 (dss_cons (ds_set (i := 4) sc_lifted.nd rfl (.inl rfl) (de_add (de_var (pv 4)) (de_mul (de_var (pv 9)) (de_var (pv 6)))))
 (dss_cons (ds_set (i := 6) sc_lifted.nd rfl (.inl rfl) (de_mul (de_var (pv 6)) (de_var (pv 0))))
 (dss_one (ds_expr (de_append (pv 5) (da_cons (de_var (pv 9)) da_nil))))))))
 (dss_tail (dss_one (ds_ret (de_tup (da_cons de_str (da_cons (de_var (pv 2)) (da_cons (de_tuple T.n_tuple (da_cons (de_slice (de_var (pv 5)) do_none (do_some (de_var (pv 3)))) da_nil)) da_nil))))))))))))))))))))))
theorem b_lifted_right (T : Tx P K mg A) (G_polynomial_at : FnOk P w K mg base (L2.CX P w) 1 A.f_polynomial_at A.d_polynomial_at ["numbers", "x"] (spP K (c_polynomial_at A))) (G_power : FnOk P w K mg base (L2.CX P w) 1 A.f_power A.d_power ["base", "e"] (spP K (c_power A))) (G_slope : FnOk P w K mg base (L2.CX P w) 1 A.f_slope A.d_slope ["numbers"] (spP K (c_slope A))) (cdv : Value) (Ar : Around) (outer : List Env) (s : Shared) (H : Hp) (E : XK) (hr : Room 1 (Ar.deeper (PyProof.Rows.envOfC "lifted_right" (defScope s_lifted_right) s.heap.objs.size A.f_lifted_right cdv))) (tk : Takes (cxF P w K mg base N_lifted_right "lifted_right" s_lifted_right A.f_lifted_right cdv Ar outer s H E) (wE E))
    (hp : PassesOwn (model P w) (Ar.deeper (PyProof.Rows.envOfC "lifted_right" (defScope s_lifted_right) s.heap.objs.size A.f_lifted_right cdv)) (PyProof.Rows.envOfC "lifted_right" (defScope s_lifted_right) s.heap.objs.size A.f_lifted_right cdv) (cxF P w K mg base N_lifted_right "lifted_right" s_lifted_right A.f_lifted_right cdv Ar outer s H E).xe) : PSs (cxF P w K mg base N_lifted_right "lifted_right" s_lifted_right A.f_lifted_right cdv Ar outer s H E) (defBody s_lifted_right) (liftS K (wE E) (t_lifted_right K A)) :=
 (dss_cons (ds_set (i := 4) sc_lifted_right.nd rfl (.inl rfl) (de_sub_ix (de_var (pv 3)) de_int))
 (dss_tail (dss_cons (ds_if (dt_not (dt_chain (op_leA hr.units) (op_ltA hr.units) opd_leA opd_ltA de_int (de_var (pv 4)) (de_var (pv 0))))
 (dss_one (ds_ret de_bl))
 dss_nil)
 (dss_tail (dss_cons (ds_set (i := 5) sc_lifted_right.nd rfl (.inl rfl) (de_and (de_cmp (op_eqD hr.units) opd_eq (nomark _) (de_mod (de_call tk G_polynomial_at (hr.mono (by decide)) T.g_polynomial_at T.F_polynomial_at.kp T.b_polynomial_at (da_cons (de_var (pv 1)) (da_cons (de_var (pv 4)) da_nil))) (de_var (pv 0))) de_int) (de_one (de_cmp (op_neD hr.units) opd_ne (nomark _) (de_mod (de_call tk G_polynomial_at (hr.mono (by decide)) T.g_polynomial_at T.F_polynomial_at.kp T.b_polynomial_at (da_cons (de_call tk G_slope (hr.mono (by decide)) T.g_slope T.F_slope.kp T.b_slope (da_cons (de_var (pv 1)) da_nil)) (da_cons (de_var (pv 4)) da_nil))) (de_var (pv 0))) de_int))))
 (dss_tail (dss_cons (ds_if (dt_cmp (op_eqD hr.units) opd_eq (nomark _) (de_sub_ix (de_var (pv 3)) de_int) de_str)
 (dss_one (ds_ret (de_not (de_var (pv 5)))))
 dss_nil)
 (dss_tail (dss_cons (ds_set (i := 6) sc_lifted_right.nd rfl (.inl rfl) (de_sub_ix (de_var (pv 3)) de_int))
 (dss_tail (dss_cons (ds_if (dw_or (dt_not (dt_tru (de_var (pv 5)))) (dw_or (dt_cmp (op_neD hr.units) opd_ne (nomark _) (de_len T.n_len (da_cons (de_var (pv 6)) da_nil)) (de_var (pv 2))) (dw_or (dt_tru (de_any rfl T.n_any (da_cons (de_lc (own := [((PySem.Str.ofString "digit"), 8)]) (g := (.n 8)) rfl sc_lifted_right.nd (di_val (de_var (pv 6))) (blkOk_by (N := N_lifted_right) (by with_unfolding_all rfl)) (fun _ _ _ _ _ => (pg_name (i := 8) sc_lifted_right.nd rfl (.inl rfl))) (fun _ _ _ _ _ => dts_nil) (fun _ _ _ _ _ => (de_not (de_chain (op_leA hr.units) (op_ltA hr.units) opd_leA opd_ltA de_int (de_var (pv 8)) (de_var (pv 0)))))) da_nil))) (dw_or1 (dw_and (dt_tru (de_var (pv 6))) (dw_and1 (dt_cmp (op_neD hr.units) opd_ne (nomark _) (de_sub_ix (de_var (pv 6)) de_int) (de_var (pv 4))))).pt)))).pt
 (dss_one (ds_ret de_bl))
 dss_nil)
 (dss_tail (dss_cons (ds_set (i := 7) sc_lifted_right.nd rfl (.inl rfl) (de_sum rfl T.n_sum (da_cons (de_lc (own := [((PySem.Str.ofString "at"), 9), ((PySem.Str.ofString "digit"), 8)]) (g := (.t [9, 8])) rfl sc_lifted_right.nd (di_enum T.n_enumerate (da_cons (de_var (pv 6)) da_nil)) (blkOk_by (N := N_lifted_right) (by with_unfolding_all rfl)) (fun _ _ _ _ _ => (pg_tup rfl (pgs_cons (pg_name (i := 9) sc_lifted_right.nd rfl (.inl rfl)) (pgs_cons (pg_name (i := 8) sc_lifted_right.nd rfl (.inl rfl)) pgs_nil)))) (fun _ _ _ _ _ => dts_nil) (fun _ _ _ _ _ => (de_mul (de_var (pv 8)) (de_call takes_none5 G_power (hr.mono (by decide)) T.g_power T.F_power.kp T.b_power (da_cons (de_var (pv 0)) (da_cons (de_var (pv 9)) da_nil)))))) da_nil)))
 (dss_tail (dss_one (ds_ret (de_or (de_cmp (op_eqD hr.units) opd_eq (nomark _) (de_var (pv 2)) de_int) (de_one (de_cmp (op_eqD hr.units) opd_eq (nomark _) (de_mod (de_call tk G_polynomial_at (hr.mono (by decide)) T.g_polynomial_at T.F_polynomial_at.kp T.b_polynomial_at (da_cons (de_var (pv 1)) (da_cons (de_var (pv 7)) da_nil))) (de_call tk G_power (hr.mono (by decide)) T.g_power T.F_power.kp T.b_power (da_cons (de_var (pv 0)) (da_cons (de_var (pv 2)) da_nil)))) de_int)))))))))))))))))))
theorem b_square_roots (T : Tx P K mg A) (G_lifted : FnOk P w K mg base (L2.CX P w) 2 A.f_lifted A.d_lifted ["p", "numbers", "begin", "places"] (spP K (c_lifted A))) (G_prime_of : FnOk P w K mg base (L2.CX P w) 1 A.f_prime_of A.d_prime_of ["p"] (spP K (c_prime_of A))) (G_shared : FnOk P w K mg base (L2.CX P w) 1 A.f_shared A.d_shared ["one", "other"] (spP K (c_shared A))) (cdv : Value) (Ar : Around) (outer : List Env) (s : Shared) (H : Hp) (E : XK) (hr : Room 2 (Ar.deeper (PyProof.Rows.envOfC "square_roots" (defScope s_square_roots) s.heap.objs.size A.f_square_roots cdv))) (tk : Takes (cxF P w K mg base N_square_roots "square_roots" s_square_roots A.f_square_roots cdv Ar outer s H E) (wE E))
    (hp : PassesOwn (model P w) (Ar.deeper (PyProof.Rows.envOfC "square_roots" (defScope s_square_roots) s.heap.objs.size A.f_square_roots cdv)) (PyProof.Rows.envOfC "square_roots" (defScope s_square_roots) s.heap.objs.size A.f_square_roots cdv) (cxF P w K mg base N_square_roots "square_roots" s_square_roots A.f_square_roots cdv Ar outer s H E).xe) : PSs (cxF P w K mg base N_square_roots "square_roots" s_square_roots A.f_square_roots cdv Ar outer s H E) (defBody s_square_roots) (liftS K (wE E) (t_square_roots K A)) :=
 (dss_cons (ds_if (dw_or (dt_cmp (op_eqD hr.units) opd_eq (nomark _) (de_call tk G_prime_of (hr.mono (by decide)) T.g_prime_of T.F_prime_of.kp T.b_prime_of (da_cons (de_var (pv 0)) da_nil)) de_int) (dw_or1 (dt_cmp (op_neD hr.units) opd_ne (nomark _) (de_call tk G_shared (hr.mono (by decide)) T.g_shared T.F_shared.kp T.b_shared (da_cons (de_var (pv 1)) (da_cons (de_var (pv 0)) da_nil))) de_int))).pt
 (dss_one (ds_raise rfl tk T.base T.e_BadNumber hr (da_cons de_str da_nil)))
 dss_nil)
 (dss_tail (dss_cons (ds_set (i := 3) sc_square_roots.nd rfl (.inl rfl) (de_lst da_nil))
 (dss_tail (dss_cons (ds_for hp rfl (di_range1 T.n_range (de_var (pv 0))) (dg_name (i := 4) sc_square_roots.nd rfl (.inl rfl))
 (dss_one (ds_if (dt_cmp (op_eqD hr.units) opd_eq (nomark _) (de_mod (de_sub (de_mul (de_var (pv 4)) (de_var (pv 4))) (de_var (pv 1))) (de_var (pv 0))) de_int)
 (dss_one (ds_expr (de_append (pv 3) (da_cons (de_sub_ix (de_call tk G_lifted (hr.mono (by decide)) T.g_lifted T.F_lifted.kp T.b_lifted (da_cons (de_var (pv 0)) (da_cons (de_tup (da_cons (de_neg (de_var (pv 1))) (da_cons de_int (da_cons de_int da_nil)))) (da_cons (de_var (pv 4)) (da_cons (de_var (pv 2)) da_nil))))) de_int) da_nil))))
 dss_nil)))
 (dss_tail (dss_one (ds_ret (de_tuple T.n_tuple (da_cons (de_var (pv 3)) da_nil))))))))))
theorem b_added (T : Tx P K mg A) (G_prime_of : FnOk P w K mg base (L2.CX P w) 1 A.f_prime_of A.d_prime_of ["p"] (spP K (c_prime_of A))) (cdv : Value) (Ar : Around) (outer : List Env) (s : Shared) (H : Hp) (E : XK) (hr : Room 1 (Ar.deeper (PyProof.Rows.envOfC "added" (defScope s_added) s.heap.objs.size A.f_added cdv))) (tk : Takes (cxF P w K mg base N_added "added" s_added A.f_added cdv Ar outer s H E) (wE E))
    (hp : PassesOwn (model P w) (Ar.deeper (PyProof.Rows.envOfC "added" (defScope s_added) s.heap.objs.size A.f_added cdv)) (PyProof.Rows.envOfC "added" (defScope s_added) s.heap.objs.size A.f_added cdv) (cxF P w K mg base N_added "added" s_added A.f_added cdv Ar outer s H E).xe) : PSs (cxF P w K mg base N_added "added" s_added A.f_added cdv Ar outer s H E) (defBody s_added) (liftS K (wE E) (t_added K A)) :=
 (dss_cons (ds_set (i := 3) sc_added.nd rfl (.inl rfl) de_int)
 (dss_tail (dss_cons (ds_set (i := 4) sc_added.nd rfl (.inl rfl) (de_lst da_nil))
 (dss_tail (dss_cons (ds_for hp rfl (di_zip T.n_zip (da_cons (de_var (pv 1)) (da_cons (de_var (pv 2)) da_nil))) (dg_tup rfl (dgs_cons (dg_name (i := 5) sc_added.nd rfl (.inl rfl)) (dgs_cons (dg_name (i := 6) sc_added.nd rfl (.inl rfl)) dgs_nil)))
 (dss_cons (ds_set (i := 7) sc_added.nd rfl (.inl rfl) (de_add (de_add (de_var (pv 5)) (de_var (pv 6))) (de_var (pv 3))))
 (dss_cons (ds_expr (de_append (pv 4) (da_cons (de_mod (de_var (pv 7)) (de_call tk G_prime_of (hr.mono (by decide)) T.g_prime_of T.F_prime_of.kp T.b_prime_of (da_cons (de_var (pv 0)) da_nil))) da_nil)))
 (dss_one (ds_set (i := 3) sc_added.nd rfl (.inl rfl) (de_fdiv (de_var (pv 7)) (de_var (pv 0))))))))
 (dss_tail (dss_one (ds_ret (de_tuple T.n_tuple (da_cons (de_var (pv 4)) da_nil))))))))))
theorem b_product (T : Tx P K mg A) (G_power : FnOk P w K mg base (L2.CX P w) 1 A.f_power A.d_power ["base", "e"] (spP K (c_power A))) (G_prime_of : FnOk P w K mg base (L2.CX P w) 1 A.f_prime_of A.d_prime_of ["p"] (spP K (c_prime_of A))) (cdv : Value) (Ar : Around) (outer : List Env) (s : Shared) (H : Hp) (E : XK) (hr : Room 1 (Ar.deeper (PyProof.Rows.envOfC "product" (defScope s_product) s.heap.objs.size A.f_product cdv))) (tk : Takes (cxF P w K mg base N_product "product" s_product A.f_product cdv Ar outer s H E) (wE E))
    (hp : PassesOwn (model P w) (Ar.deeper (PyProof.Rows.envOfC "product" (defScope s_product) s.heap.objs.size A.f_product cdv)) (PyProof.Rows.envOfC "product" (defScope s_product) s.heap.objs.size A.f_product cdv) (cxF P w K mg base N_product "product" s_product A.f_product cdv Ar outer s H E).xe) : PSs (cxF P w K mg base N_product "product" s_product A.f_product cdv Ar outer s H E) (defBody s_product) (liftS K (wE E) (t_product K A)) :=
 (dss_cons (ds_set (i := 3) sc_product.nd rfl (.inl rfl) (de_min2 rfl T.n_min (da_cons (de_len T.n_len (da_cons (de_var (pv 1)) da_nil)) (da_cons (de_len T.n_len (da_cons (de_var (pv 2)) da_nil)) da_nil))))
 (dss_tail (dss_cons (ds_set (i := 4) sc_product.nd rfl (.inl rfl) (de_sum rfl T.n_sum (da_cons (de_lc (own := [((PySem.Str.ofString "at"), 7), ((PySem.Str.ofString "a"), 8)]) (g := (.t [7, 8])) rfl sc_product.nd (di_enum T.n_enumerate (da_cons (de_slice (de_var (pv 1)) do_none (do_some (de_var (pv 3)))) da_nil)) (blkOk_by (N := N_product) (by with_unfolding_all rfl)) (fun _ _ _ _ _ => (pg_tup rfl (pgs_cons (pg_name (i := 7) sc_product.nd rfl (.inl rfl)) (pgs_cons (pg_name (i := 8) sc_product.nd rfl (.inl rfl)) pgs_nil)))) (fun _ _ _ _ _ => dts_nil) (fun _ _ _ _ _ => (de_mul (de_var (pv 8)) (de_call takes_none5 G_power (hr.mono (by decide)) T.g_power T.F_power.kp T.b_power (da_cons (de_call takes_none5 G_prime_of (hr.mono (by decide)) T.g_prime_of T.F_prime_of.kp T.b_prime_of (da_cons (de_var (pv 0)) da_nil)) (da_cons (de_var (pv 7)) da_nil)))))) da_nil)))
 (dss_tail (dss_cons (ds_set (i := 4) sc_product.nd rfl (.inl rfl) (de_mul (de_var (pv 4)) (de_sum rfl T.n_sum (da_cons (de_lc (own := [((PySem.Str.ofString "at"), 7), ((PySem.Str.ofString "b"), 9)]) (g := (.t [7, 9])) rfl sc_product.nd (di_enum T.n_enumerate (da_cons (de_slice (de_var (pv 2)) do_none (do_some (de_var (pv 3)))) da_nil)) (blkOk_by (N := N_product) (by with_unfolding_all rfl)) (fun _ _ _ _ _ => (pg_tup rfl (pgs_cons (pg_name (i := 7) sc_product.nd rfl (.inl rfl)) (pgs_cons (pg_name (i := 9) sc_product.nd rfl (.inl rfl)) pgs_nil)))) (fun _ _ _ _ _ => dts_nil) (fun _ _ _ _ _ => (de_mul (de_var (pv 9)) (de_call takes_none5 G_power (hr.mono (by decide)) T.g_power T.F_power.kp T.b_power (da_cons (de_var (pv 0)) (da_cons (de_var (pv 7)) da_nil)))))) da_nil))))
 (dss_tail (dss_cons (ds_set (i := 5) sc_product.nd rfl (.inl rfl) (de_lst da_nil))
 (dss_tail (dss_cons (ds_for hp rfl (di_range1 T.n_range (de_var (pv 3))) (dg_name (i := 6) sc_product.nd rfl (.inl rfl))
 (dss_cons (ds_expr (de_append (pv 5) (da_cons (de_mod (de_var (pv 4)) (de_var (pv 0))) da_nil)))
 (dss_one (ds_set (i := 4) sc_product.nd rfl (.inl rfl) (de_fdiv (de_var (pv 4)) (de_var (pv 0)))))))
 (dss_tail (dss_one (ds_ret (de_tuple T.n_tuple (da_cons (de_var (pv 5)) da_nil))))))))))))))
theorem b_own_squares (T : Tx P K mg A) (G_power : FnOk P w K mg base (L2.CX P w) 1 A.f_power A.d_power ["base", "e"] (spP K (c_power A))) (cdv : Value) (Ar : Around) (outer : List Env) (s : Shared) (H : Hp) (E : XK) (hr : Room 1 (Ar.deeper (PyProof.Rows.envOfC "own_squares" (defScope s_own_squares) s.heap.objs.size A.f_own_squares cdv))) (tk : Takes (cxF P w K mg base N_own_squares "own_squares" s_own_squares A.f_own_squares cdv Ar outer s H E) (wE E))
    (hp : PassesOwn (model P w) (Ar.deeper (PyProof.Rows.envOfC "own_squares" (defScope s_own_squares) s.heap.objs.size A.f_own_squares cdv)) (PyProof.Rows.envOfC "own_squares" (defScope s_own_squares) s.heap.objs.size A.f_own_squares cdv) (cxF P w K mg base N_own_squares "own_squares" s_own_squares A.f_own_squares cdv Ar outer s H E).xe) : PSs (cxF P w K mg base N_own_squares "own_squares" s_own_squares A.f_own_squares cdv Ar outer s H E) (defBody s_own_squares) (liftS K (wE E) (t_own_squares K A)) :=
 (dss_cons (ds_if (dw_or (dt_cmp (op_ltA hr.units) opd_ltA (nomark _) (de_var (pv 0)) de_int) (dw_or (dt_not (dt_cmp (op_leA hr.units) opd_leA (nomark _) de_int (de_var (pv 1)))) (dw_or1 (dt_cmp (op_gtA hr.units) opd_gtA (nomark _) (de_call tk G_power (hr.mono (by decide)) T.g_power T.F_power.kp T.b_power (da_cons (de_var (pv 0)) (da_cons (de_var (pv 1)) da_nil))) de_int)))).pt
 (dss_one (ds_raise rfl tk T.base T.e_TooLarge hr (da_cons de_str da_nil)))
 dss_nil)
 (dss_cons (ds_set (i := 2) sc_own_squares.nd rfl (.inr rfl) (de_call tk G_power (hr.mono (by decide)) T.g_power T.F_power.kp T.b_power (da_cons (de_var (pv 0)) (da_cons (de_var (pv 1)) da_nil))))
 (dss_one (ds_ret (de_tuple T.n_tuple (da_cons (de_lc (own := [((PySem.Str.ofString "n"), 3)]) (g := (.n 3)) rfl sc_own_squares.nd (di_range1 T.n_range (de_var (pv 2))) (blkOk_by (N := N_own_squares) (by with_unfolding_all rfl)) (fun _ _ _ _ _ => (pg_name (i := 3) sc_own_squares.nd rfl (.inl rfl))) (fun _ _ _ _ _ => (dts_one (dt_cmp (op_eqD hr.units) opd_eq (nomark _) (de_mod (de_sub (de_mul (de_var (pv 3)) (de_var (pv 3))) (de_var (pv 3))) (de_var (pv 2))) de_int))) (fun _ _ _ _ _ => (de_var (pv 3)))) da_nil))))))
theorem b__law_cell (T : Tx P K mg A) (cdv : Value) (Ar : Around) (outer : List Env) (s : Shared) (H : Hp) (E : XK) (hr : Room 0 (Ar.deeper (PyProof.Rows.envOfC "_law_cell" (defScope s__law_cell) s.heap.objs.size A.f__law_cell cdv))) (tk : Takes (cxF P w K mg base N__law_cell "_law_cell" s__law_cell A.f__law_cell cdv Ar outer s H E) (wE E))
    (hp : PassesOwn (model P w) (Ar.deeper (PyProof.Rows.envOfC "_law_cell" (defScope s__law_cell) s.heap.objs.size A.f__law_cell cdv)) (PyProof.Rows.envOfC "_law_cell" (defScope s__law_cell) s.heap.objs.size A.f__law_cell cdv) (cxF P w K mg base N__law_cell "_law_cell" s__law_cell A.f__law_cell cdv Ar outer s H E).xe) : PSs (cxF P w K mg base N__law_cell "_law_cell" s__law_cell A.f__law_cell cdv Ar outer s H E) (defBody s__law_cell) (liftS K (wE E) (t__law_cell K A)) :=
 (dss_cons (ds_if (dt_cmp (op_ltA hr.units) opd_ltA (nomark _) (de_var (pv 1)) (de_len T.n_len (da_cons (de_var (pv 0)) da_nil)))
 (dss_one (ds_ret (de_sub_ix (de_var (pv 0)) (de_var (pv 1)))))
 dss_nil)
 (dss_one (ds_ret de_int)))
theorem b__law_source (T : Tx P K mg A) (cdv : Value) (Ar : Around) (outer : List Env) (s : Shared) (H : Hp) (E : XK) (hr : Room 0 (Ar.deeper (PyProof.Rows.envOfC "_law_source" (defScope s__law_source) s.heap.objs.size A.f__law_source cdv))) (tk : Takes (cxF P w K mg base N__law_source "_law_source" s__law_source A.f__law_source cdv Ar outer s H E) (wE E))
    (hp : PassesOwn (model P w) (Ar.deeper (PyProof.Rows.envOfC "_law_source" (defScope s__law_source) s.heap.objs.size A.f__law_source cdv)) (PyProof.Rows.envOfC "_law_source" (defScope s__law_source) s.heap.objs.size A.f__law_source cdv) (cxF P w K mg base N__law_source "_law_source" s__law_source A.f__law_source cdv Ar outer s H E).xe) : PSs (cxF P w K mg base N__law_source "_law_source" s__law_source A.f__law_source cdv Ar outer s H E) (defBody s__law_source) (liftS K (wE E) (t__law_source K A)) :=
 (dss_cons (ds_if (dt_cmp (op_geA hr.units) opd_geA (nomark _) (de_var (pv 0)) (de_pow de_int de_int))
 (dss_one (ds_ret (de_lst (da_cons (de_sub (de_var (pv 0)) (de_pow de_int de_int)) (da_cons (de_add (de_var (pv 1)) de_int) da_nil)))))
 dss_nil)
 (dss_one (ds_ret (de_lst (da_cons de_int (da_cons (de_mod (de_intc T.n_int (da_cons (de_add (de_add (de_mul (de_var (pv 0)) de_int) (de_mul (de_var (pv 1)) de_int)) de_int) da_nil)) de_int) da_nil))))))
theorem b__law_pick (T : Tx P K mg A) (cdv : Value) (Ar : Around) (outer : List Env) (s : Shared) (H : Hp) (E : XK) (hr : Room 0 (Ar.deeper (PyProof.Rows.envOfC "_law_pick" (defScope s__law_pick) s.heap.objs.size A.f__law_pick cdv))) (tk : Takes (cxF P w K mg base N__law_pick "_law_pick" s__law_pick A.f__law_pick cdv Ar outer s H E) (wE E))
    (hp : PassesOwn (model P w) (Ar.deeper (PyProof.Rows.envOfC "_law_pick" (defScope s__law_pick) s.heap.objs.size A.f__law_pick cdv)) (PyProof.Rows.envOfC "_law_pick" (defScope s__law_pick) s.heap.objs.size A.f__law_pick cdv) (cxF P w K mg base N__law_pick "_law_pick" s__law_pick A.f__law_pick cdv Ar outer s H E).xe) : PSs (cxF P w K mg base N__law_pick "_law_pick" s__law_pick A.f__law_pick cdv Ar outer s H E) (defBody s__law_pick) (liftS K (wE E) (t__law_pick K A)) :=
 (dss_cons (ds_if (dt_cmp (op_gtA hr.units) opd_gtA (nomark _) (de_sub_ix (de_var (pv 0)) de_int) de_int)
 (dss_cons (ds_set (i := 2) sc__law_pick.nd rfl (.inl rfl) (de_mod (de_intc T.n_int (da_cons (de_sub_ix (de_var (pv 0)) de_int) da_nil)) (de_var (pv 1))))
 (dss_cons (ds_asg (de_fdiv (de_sub_ix (de_var (pv 0)) de_int) (de_var (pv 1))) (dg_sub (de_var (pv 0)) de_int))
 (dss_one (ds_ret (de_var (pv 2))))))
 dss_nil)
 (dss_tail (dss_cons (ds_asg (de_mod (de_intc T.n_int (da_cons (de_add (de_mul (de_sub_ix (de_var (pv 0)) de_int) de_int) de_int) da_nil)) de_int) (dg_sub (de_var (pv 0)) de_int))
 (dss_tail (dss_cons (ds_set (i := 3) sc__law_pick.nd rfl (.inl rfl) (de_mod (de_intc T.n_int (da_cons (de_add (de_add (de_mul (de_sub_ix (de_var (pv 0)) de_int) de_int) (de_fdiv (de_sub_ix (de_var (pv 0)) de_int) de_int)) de_int) da_nil)) de_int))
 (dss_tail (dss_one (ds_ret (de_mod (de_intc T.n_int (da_cons (de_fdiv (de_var (pv 3)) de_int) da_nil)) (de_var (pv 1)))))))))))
theorem b__law_great (T : Tx P K mg A) (G__law_pick : FnOk P w K mg base (L2.CX P w) 1 A.f__law_pick A.d__law_pick ["source", "many"] (spR K (c__law_pick A))) (cdv : Value) (Ar : Around) (outer : List Env) (s : Shared) (H : Hp) (E : XK) (hr : Room 1 (Ar.deeper (PyProof.Rows.envOfC "_law_great" (defScope s__law_great) s.heap.objs.size A.f__law_great cdv))) (tk : Takes (cxF P w K mg base N__law_great "_law_great" s__law_great A.f__law_great cdv Ar outer s H E) (wE E))
    (hp : PassesOwn (model P w) (Ar.deeper (PyProof.Rows.envOfC "_law_great" (defScope s__law_great) s.heap.objs.size A.f__law_great cdv)) (PyProof.Rows.envOfC "_law_great" (defScope s__law_great) s.heap.objs.size A.f__law_great cdv) (cxF P w K mg base N__law_great "_law_great" s__law_great A.f__law_great cdv Ar outer s H E).xe) : PSs (cxF P w K mg base N__law_great "_law_great" s__law_great A.f__law_great cdv Ar outer s H E) (defBody s__law_great) (liftS K (wE E) (t__law_great K A)) :=
 (dss_cons (ds_set (i := 1) sc__law_great.nd rfl (.inl rfl) (de_callR tk G__law_pick (hr.mono (by decide)) T.g__law_pick T.F__law_pick.kp T.b__law_pick (da_cons (de_var (pv 0)) (da_cons de_int da_nil))))
 (dss_tail (dss_cons (ds_if (dt_cmp (op_eqD hr.units) opd_eq (nomark _) (de_var (pv 1)) de_int)
 (dss_one (ds_ret (de_callR tk G__law_pick (hr.mono (by decide)) T.g__law_pick T.F__law_pick.kp T.b__law_pick (da_cons (de_var (pv 0)) (da_cons de_int da_nil)))))
 dss_nil)
 (dss_tail (dss_cons (ds_if (dt_cmp (op_eqD hr.units) opd_eq (nomark _) (de_var (pv 1)) de_int)
 (dss_one (ds_ret (de_callR tk G__law_pick (hr.mono (by decide)) T.g__law_pick T.F__law_pick.kp T.b__law_pick (da_cons (de_var (pv 0)) (da_cons de_int da_nil)))))
 dss_nil)
 (dss_tail (dss_cons (ds_set (i := 2) sc__law_great.nd rfl (.inl rfl) de_int)
 (dss_tail (dss_cons (ds_for hp rfl (di_range1 T.n_range (de_add de_int (de_callR tk G__law_pick (hr.mono (by decide)) T.g__law_pick T.F__law_pick.kp T.b__law_pick (da_cons (de_var (pv 0)) (da_cons de_int da_nil))))) (dg_name (i := 3) sc__law_great.nd rfl (.inl rfl))
 (dss_one (ds_set (i := 2) sc__law_great.nd rfl (.inl rfl) (de_add (de_mul (de_var (pv 2)) de_int) (de_callR tk G__law_pick (hr.mono (by decide)) T.g__law_pick T.F__law_pick.kp T.b__law_pick (da_cons (de_var (pv 0)) (da_cons de_int da_nil)))))))
 (dss_tail (dss_one (ds_ret (de_var (pv 2))))))))))))))
theorem b__law_gcd (T : Tx P K mg A) (cdv : Value) (Ar : Around) (outer : List Env) (s : Shared) (H : Hp) (E : XK) (hr : Room 0 (Ar.deeper (PyProof.Rows.envOfC "_law_gcd" (defScope s__law_gcd) s.heap.objs.size A.f__law_gcd cdv))) (tk : Takes (cxF P w K mg base N__law_gcd "_law_gcd" s__law_gcd A.f__law_gcd cdv Ar outer s H E) (wE E))
    (hp : PassesOwn (model P w) (Ar.deeper (PyProof.Rows.envOfC "_law_gcd" (defScope s__law_gcd) s.heap.objs.size A.f__law_gcd cdv)) (PyProof.Rows.envOfC "_law_gcd" (defScope s__law_gcd) s.heap.objs.size A.f__law_gcd cdv) (cxF P w K mg base N__law_gcd "_law_gcd" s__law_gcd A.f__law_gcd cdv Ar outer s H E).xe) : PSs (cxF P w K mg base N__law_gcd "_law_gcd" s__law_gcd A.f__law_gcd cdv Ar outer s H E) (defBody s__law_gcd) (liftS K (wE E) (t__law_gcd K A)) :=
 (dss_cons (ds_par2 (i := 0) (j := 1) rfl sc__law_gcd.nd rfl rfl (by decide) rfl rfl (da_cons (de_abs T.n_abs (da_cons (de_var (pv 0)) da_nil)) (da_cons (de_abs T.n_abs (da_cons (de_var (pv 1)) da_nil)) da_nil)) rfl)
 (dss_cons (ds_for hp rfl (di_range1 T.n_range de_int) (dg_name (i := 2) sc__law_gcd.nd rfl (.inl rfl))
 (dss_cons (ds_if (dt_cmp (op_eqD hr.units) opd_eq (nomark _) (de_var (pv 1)) de_int)
 (dss_one (ds_ret (de_var (pv 0))))
 dss_nil)
 (dss_one (ds_par2 (i := 0) (j := 1) rfl sc__law_gcd.nd rfl rfl (by decide) rfl rfl (da_cons (de_var (pv 1)) (da_cons (de_mod (de_intc T.n_int (da_cons (de_var (pv 0)) da_nil)) (de_var (pv 1))) da_nil)) rfl))))
 (dss_one (ds_ret (de_var (pv 0))))))
theorem b__law_changed (T : Tx P K mg A) {k j : Nat} {IHc : PCt} (IH : FnOk P w K mg base (L2.CX P w) j A.f__law_changed A.d__law_changed ["part", "at", "more"] (spP K IHc)) (IHle : j ≤ k) (cdv : Value) (Ar : Around) (outer : List Env) (s : Shared) (H : Hp) (E : XK) (hr : Room k (Ar.deeper (PyProof.Rows.envOfC "_law_changed" (defScope s__law_changed) s.heap.objs.size A.f__law_changed cdv))) (tk : Takes (cxF P w K mg base N__law_changed "_law_changed" s__law_changed A.f__law_changed cdv Ar outer s H E) (wE E))
    (hp : PassesOwn (model P w) (Ar.deeper (PyProof.Rows.envOfC "_law_changed" (defScope s__law_changed) s.heap.objs.size A.f__law_changed cdv)) (PyProof.Rows.envOfC "_law_changed" (defScope s__law_changed) s.heap.objs.size A.f__law_changed cdv) (cxF P w K mg base N__law_changed "_law_changed" s__law_changed A.f__law_changed cdv Ar outer s H E).xe) : PSs (cxF P w K mg base N__law_changed "_law_changed" s__law_changed A.f__law_changed cdv Ar outer s H E) (defBody s__law_changed) (liftS K (wE E) (t__law_changed K A IHc)) :=
 (dss_cons (ds_if (dt_tru (de_isi (Ts := "tuple") (by decide) boot_ty_tuple T.n_isinstance T.n_tuple (de_var (pv 0))))
 (dss_cons (ds_set (i := 3) sc__law_changed.nd rfl (.inl rfl) (de_lst da_nil))
 (dss_cons (ds_set (i := 4) sc__law_changed.nd rfl (.inl rfl) de_int)
 (dss_cons (ds_for hp rfl (di_val (de_var (pv 0))) (dg_name (i := 5) sc__law_changed.nd rfl (.inl rfl))
 (dss_cons (ds_asg (de_call tk IH (hr.mono IHle) T.g__law_changed T.F__law_changed.kp T.b__law_changed (da_cons (de_var (pv 5)) (da_cons (de_sub (de_var (pv 1)) (de_var (pv 4))) (da_cons (de_var (pv 2)) da_nil)))) (dg_tup rfl (dgs_cons (dg_name (i := 6) sc__law_changed.nd rfl (.inl rfl)) (dgs_cons (dg_name (i := 7) sc__law_changed.nd rfl (.inl rfl)) dgs_nil))))
 (dss_cons (ds_expr (de_append (pv 3) (da_cons (de_var (pv 6)) da_nil)))
 (dss_one (ds_set (i := 4) sc__law_changed.nd rfl (.inl rfl) (de_add (de_var (pv 4)) (de_var (pv 7))))))))
 (dss_one (ds_ret (de_tup (da_cons (de_tuple T.n_tuple (da_cons (de_var (pv 3)) da_nil)) (da_cons (de_var (pv 4)) da_nil))))))))
 dss_nil)
 (dss_cons (ds_if (dw_or (dt_not (dt_tru (de_isi (Ts := "int") (by decide) boot_ty_int T.n_isinstance T.n_int (de_var (pv 0))))) (dw_or1 (dt_cmp (op_neD hr.units) opd_ne (nomark _) (de_var (pv 1)) de_int))).pt
 (dss_one (ds_ret (de_tup (da_cons (de_var (pv 0)) (da_cons (de_intc T.n_int (da_cons (de_isi (Ts := "int") (by decide) boot_ty_int T.n_isinstance T.n_int (de_var (pv 0))) da_nil)) da_nil)))))
 dss_nil)
 (dss_one (ds_ret (de_tup (da_cons (de_add (de_var (pv 0)) (de_var (pv 2))) (da_cons de_int da_nil)))))))
theorem b__law_cut (T : Tx P K mg A) {k j : Nat} {IHc : PCt} (IH : FnOk P w K mg base (L2.CX P w) j A.f__law_cut A.d__law_cut ["part", "at"] (spP K IHc)) (IHle : j ≤ k) (cdv : Value) (Ar : Around) (outer : List Env) (s : Shared) (H : Hp) (E : XK) (hr : Room k (Ar.deeper (PyProof.Rows.envOfC "_law_cut" (defScope s__law_cut) s.heap.objs.size A.f__law_cut cdv))) (tk : Takes (cxF P w K mg base N__law_cut "_law_cut" s__law_cut A.f__law_cut cdv Ar outer s H E) (wE E))
    (hp : PassesOwn (model P w) (Ar.deeper (PyProof.Rows.envOfC "_law_cut" (defScope s__law_cut) s.heap.objs.size A.f__law_cut cdv)) (PyProof.Rows.envOfC "_law_cut" (defScope s__law_cut) s.heap.objs.size A.f__law_cut cdv) (cxF P w K mg base N__law_cut "_law_cut" s__law_cut A.f__law_cut cdv Ar outer s H E).xe) : PSs (cxF P w K mg base N__law_cut "_law_cut" s__law_cut A.f__law_cut cdv Ar outer s H E) (defBody s__law_cut) (liftS K (wE E) (t__law_cut K A IHc)) :=
 (dss_cons (ds_if (dt_not (dt_tru (de_isi (Ts := "tuple") (by decide) boot_ty_tuple T.n_isinstance T.n_tuple (de_var (pv 0)))))
 (dss_one (ds_ret (de_tup (da_cons (de_var (pv 0)) (da_cons de_int da_nil)))))
 dss_nil)
 (dss_tail (dss_cons (ds_setLc (i := 2) (own := [((PySem.Str.ofString "one"), 5)]) (g := (.n 5)) rfl sc__law_cut.nd rfl rfl rfl (di_val (de_var (pv 0))) (blkOk_by (N := N__law_cut) (by with_unfolding_all rfl)) (fun _ _ _ _ _ => (pg_name (i := 5) sc__law_cut.nd rfl (.inl rfl))) (fun _ _ _ _ _ => (dts_one (dw_or (dt_tru (de_isi (Ts := "tuple") (by decide) boot_ty_tuple T.n_isinstance T.n_tuple (de_var (pv 5)))) (dw_or1 (dt_tru (de_isi (Ts := "str") (by decide) boot_ty_str T.n_isinstance T.n_str (de_var (pv 5)))))).pt)) (fun _ _ _ _ _ => (de_var (pv 5))))
 (dss_tail (dss_cons (ds_if (dt_cmp (op_eqD hr.units) opd_eq (nomark _) (de_var (pv 2)) (de_lst da_nil))
 (dss_one (ds_ret (de_tup (da_cons (de_sub_ix (de_lst (da_cons (de_var (pv 0)) (da_cons (de_slice (de_var (pv 0)) do_none (do_some (de_neg de_int))) da_nil))) (de_intc T.n_int (da_cons (de_cmp (op_eqD hr.units) opd_eq (nomark _) (de_var (pv 1)) de_int) da_nil))) (da_cons de_int da_nil)))))
 dss_nil)
 (dss_tail (dss_cons (ds_set (i := 3) sc__law_cut.nd rfl (.inl rfl) (de_lst da_nil))
 (dss_tail (dss_cons (ds_set (i := 4) sc__law_cut.nd rfl (.inl rfl) de_int)
 (dss_tail (dss_cons (ds_for hp rfl (di_val (de_var (pv 0))) (dg_name (i := 5) sc__law_cut.nd rfl (.inl rfl))
 (dss_cons (ds_asg (de_call tk IH (hr.mono IHle) T.g__law_cut T.F__law_cut.kp T.b__law_cut (da_cons (de_var (pv 5)) (da_cons (de_sub (de_var (pv 1)) (de_var (pv 4))) da_nil))) (dg_tup rfl (dgs_cons (dg_name (i := 6) sc__law_cut.nd rfl (.inl rfl)) (dgs_cons (dg_name (i := 7) sc__law_cut.nd rfl (.inl rfl)) dgs_nil))))
 (dss_cons (ds_expr (de_append (pv 3) (da_cons (de_var (pv 6)) da_nil)))
 (dss_one (ds_set (i := 4) sc__law_cut.nd rfl (.inl rfl) (de_add (de_var (pv 4)) (de_var (pv 7))))))))
 (dss_tail (dss_one (ds_ret (de_tup (da_cons (de_tuple T.n_tuple (da_cons (de_var (pv 3)) da_nil)) (da_cons (de_var (pv 4)) da_nil)))))))))))))))))
theorem b__law_bent (T : Tx P K mg A) (G__law_changed : FnOk P w K mg base (L2.CX P w) 7 A.f__law_changed A.d__law_changed ["part", "at", "more"] (spP K (c__law_changed A))) (G__law_cut : FnOk P w K mg base (L2.CX P w) 7 A.f__law_cut A.d__law_cut ["part", "at"] (spP K (c__law_cut A))) (G__law_pick : FnOk P w K mg base (L2.CX P w) 1 A.f__law_pick A.d__law_pick ["source", "many"] (spR K (c__law_pick A))) (cdv : Value) (Ar : Around) (outer : List Env) (s : Shared) (H : Hp) (E : XK) (hr : Room 7 (Ar.deeper (PyProof.Rows.envOfC "_law_bent" (defScope s__law_bent) s.heap.objs.size A.f__law_bent cdv))) (tk : Takes (cxF P w K mg base N__law_bent "_law_bent" s__law_bent A.f__law_bent cdv Ar outer s H E) (wE E))
    (hp : PassesOwn (model P w) (Ar.deeper (PyProof.Rows.envOfC "_law_bent" (defScope s__law_bent) s.heap.objs.size A.f__law_bent cdv)) (PyProof.Rows.envOfC "_law_bent" (defScope s__law_bent) s.heap.objs.size A.f__law_bent cdv) (cxF P w K mg base N__law_bent "_law_bent" s__law_bent A.f__law_bent cdv Ar outer s H E).xe) : PSs (cxF P w K mg base N__law_bent "_law_bent" s__law_bent A.f__law_bent cdv Ar outer s H E) (defBody s__law_bent) (liftS K (wE E) (t__law_bent K A)) :=
 (dss_cons (ds_set (i := 2) sc__law_bent.nd rfl (.inl rfl) (de_lst (da_cons (de_var (pv 1)) da_nil)))
 (dss_tail (dss_cons (ds_set (i := 3) sc__law_bent.nd rfl (.inl rfl) (de_sub_ix (de_call tk G__law_changed (hr.mono (by decide)) T.g__law_changed T.F__law_changed.kp T.b__law_changed (da_cons (de_var (pv 1)) (da_cons (de_sub de_int de_int) (da_cons de_int da_nil)))) de_int))
 (dss_tail (dss_cons (ds_set (i := 4) sc__law_bent.nd rfl (.inl rfl) (de_sub_ix (de_call tk G__law_cut (hr.mono (by decide)) T.g__law_cut T.F__law_cut.kp T.b__law_cut (da_cons (de_var (pv 1)) (da_cons (de_sub de_int de_int) da_nil))) de_int))
 (dss_tail (dss_cons (ds_for hp rfl (di_val (de_lst (da_cons de_int (da_cons (de_sub de_int de_int) (da_cons de_int (da_cons (de_sub de_int de_int) (da_cons de_int (da_cons (de_sub de_int de_int) da_nil)))))))) (dg_name (i := 5) sc__law_bent.nd rfl (.inl rfl))
 (dss_one (ds_if (dt_cmp (op_gtA hr.units) opd_gtA (nomark _) (de_var (pv 3)) de_int)
 (dss_one (ds_expr (de_append (pv 2) (da_cons (de_sub_ix (de_call tk G__law_changed (hr.mono (by decide)) T.g__law_changed T.F__law_changed.kp T.b__law_changed (da_cons (de_var (pv 1)) (da_cons (de_callR tk G__law_pick (hr.mono (by decide)) T.g__law_pick T.F__law_pick.kp T.b__law_pick (da_cons (de_var (pv 0)) (da_cons (de_var (pv 3)) da_nil))) (da_cons (de_var (pv 5)) da_nil)))) de_int) da_nil))))
 dss_nil)))
 (dss_tail (dss_cons (ds_for hp rfl (di_range1 T.n_range de_int) (dg_name (i := 6) sc__law_bent.nd rfl (.inl rfl))
 (dss_one (ds_if (dt_cmp (op_gtA hr.units) opd_gtA (nomark _) (de_var (pv 4)) de_int)
 (dss_one (ds_expr (de_append (pv 2) (da_cons (de_sub_ix (de_call tk G__law_cut (hr.mono (by decide)) T.g__law_cut T.F__law_cut.kp T.b__law_cut (da_cons (de_var (pv 1)) (da_cons (de_callR tk G__law_pick (hr.mono (by decide)) T.g__law_pick T.F__law_pick.kp T.b__law_pick (da_cons (de_var (pv 0)) (da_cons (de_var (pv 4)) da_nil))) da_nil))) de_int) da_nil))))
 dss_nil)))
 (dss_tail (dss_one (ds_ret (de_var (pv 2))))))))))))))
theorem b__law_power (T : Tx P K mg A) (cdv : Value) (Ar : Around) (outer : List Env) (s : Shared) (H : Hp) (E : XK) (hr : Room 0 (Ar.deeper (PyProof.Rows.envOfC "_law_power" (defScope s__law_power) s.heap.objs.size A.f__law_power cdv))) (tk : Takes (cxF P w K mg base N__law_power "_law_power" s__law_power A.f__law_power cdv Ar outer s H E) (wE E))
    (hp : PassesOwn (model P w) (Ar.deeper (PyProof.Rows.envOfC "_law_power" (defScope s__law_power) s.heap.objs.size A.f__law_power cdv)) (PyProof.Rows.envOfC "_law_power" (defScope s__law_power) s.heap.objs.size A.f__law_power cdv) (cxF P w K mg base N__law_power "_law_power" s__law_power A.f__law_power cdv Ar outer s H E).xe) : PSs (cxF P w K mg base N__law_power "_law_power" s__law_power A.f__law_power cdv Ar outer s H E) (defBody s__law_power) (liftS K (wE E) (t__law_power K A)) :=
 (dss_cons (ds_set (i := 2) sc__law_power.nd rfl (.inl rfl) de_int)
 (dss_cons (ds_for hp rfl (di_range1 T.n_range (de_var (pv 1))) (dg_name (i := 3) sc__law_power.nd rfl (.inl rfl))
 (dss_one (ds_set (i := 2) sc__law_power.nd rfl (.inl rfl) (de_mul (de_var (pv 2)) (de_var (pv 0))))))
 (dss_one (ds_ret (de_var (pv 2))))))
theorem b__law_value (T : Tx P K mg A) (cdv : Value) (Ar : Around) (outer : List Env) (s : Shared) (H : Hp) (E : XK) (hr : Room 0 (Ar.deeper (PyProof.Rows.envOfC "_law_value" (defScope s__law_value) s.heap.objs.size A.f__law_value cdv))) (tk : Takes (cxF P w K mg base N__law_value "_law_value" s__law_value A.f__law_value cdv Ar outer s H E) (wE E))
    (hp : PassesOwn (model P w) (Ar.deeper (PyProof.Rows.envOfC "_law_value" (defScope s__law_value) s.heap.objs.size A.f__law_value cdv)) (PyProof.Rows.envOfC "_law_value" (defScope s__law_value) s.heap.objs.size A.f__law_value cdv) (cxF P w K mg base N__law_value "_law_value" s__law_value A.f__law_value cdv Ar outer s H E).xe) : PSs (cxF P w K mg base N__law_value "_law_value" s__law_value A.f__law_value cdv Ar outer s H E) (defBody s__law_value) (liftS K (wE E) (t__law_value K A)) :=
 (dss_cons (ds_set (i := 2) sc__law_value.nd rfl (.inl rfl) de_int)
 (dss_cons (ds_for hp rfl (di_rev T.n_reversed (de_var (pv 1))) (dg_name (i := 3) sc__law_value.nd rfl (.inl rfl))
 (dss_one (ds_set (i := 2) sc__law_value.nd rfl (.inl rfl) (de_add (de_mul (de_var (pv 2)) (de_var (pv 0))) (de_var (pv 3))))))
 (dss_one (ds_ret (de_var (pv 2))))))
theorem b__law_at (T : Tx P K mg A) (cdv : Value) (Ar : Around) (outer : List Env) (s : Shared) (H : Hp) (E : XK) (hr : Room 0 (Ar.deeper (PyProof.Rows.envOfC "_law_at" (defScope s__law_at) s.heap.objs.size A.f__law_at cdv))) (tk : Takes (cxF P w K mg base N__law_at "_law_at" s__law_at A.f__law_at cdv Ar outer s H E) (wE E))
    (hp : PassesOwn (model P w) (Ar.deeper (PyProof.Rows.envOfC "_law_at" (defScope s__law_at) s.heap.objs.size A.f__law_at cdv)) (PyProof.Rows.envOfC "_law_at" (defScope s__law_at) s.heap.objs.size A.f__law_at cdv) (cxF P w K mg base N__law_at "_law_at" s__law_at A.f__law_at cdv Ar outer s H E).xe) : PSs (cxF P w K mg base N__law_at "_law_at" s__law_at A.f__law_at cdv Ar outer s H E) (defBody s__law_at) (liftS K (wE E) (t__law_at K A)) :=
 (dss_cons (ds_set (i := 2) sc__law_at.nd rfl (.inl rfl) de_int)
 (dss_tail (dss_cons (ds_set (i := 3) sc__law_at.nd rfl (.inl rfl) de_int)
 (dss_tail (dss_cons (ds_for hp rfl (di_val (de_var (pv 0))) (dg_name (i := 4) sc__law_at.nd rfl (.inl rfl))
 (dss_cons (ds_set (i := 2) sc__law_at.nd rfl (.inl rfl) (de_add (de_var (pv 2)) (de_mul (de_var (pv 4)) (de_var (pv 3)))))
 (dss_one (ds_set (i := 3) sc__law_at.nd rfl (.inl rfl) (de_mul (de_var (pv 3)) (de_var (pv 1)))))))
 (dss_tail (dss_one (ds_ret (de_var (pv 2))))))))))
theorem b__law_slope (T : Tx P K mg A) (cdv : Value) (Ar : Around) (outer : List Env) (s : Shared) (H : Hp) (E : XK) (hr : Room 0 (Ar.deeper (PyProof.Rows.envOfC "_law_slope" (defScope s__law_slope) s.heap.objs.size A.f__law_slope cdv))) (tk : Takes (cxF P w K mg base N__law_slope "_law_slope" s__law_slope A.f__law_slope cdv Ar outer s H E) (wE E))
    (hp : PassesOwn (model P w) (Ar.deeper (PyProof.Rows.envOfC "_law_slope" (defScope s__law_slope) s.heap.objs.size A.f__law_slope cdv)) (PyProof.Rows.envOfC "_law_slope" (defScope s__law_slope) s.heap.objs.size A.f__law_slope cdv) (cxF P w K mg base N__law_slope "_law_slope" s__law_slope A.f__law_slope cdv Ar outer s H E).xe) : PSs (cxF P w K mg base N__law_slope "_law_slope" s__law_slope A.f__law_slope cdv Ar outer s H E) (defBody s__law_slope) (liftS K (wE E) (t__law_slope K A)) :=
 (dss_one (ds_ret (de_tuple T.n_tuple (da_cons (de_lc (own := [((PySem.Str.ofString "k"), 1)]) (g := (.n 1)) rfl sc__law_slope.nd (di_range2 T.n_range de_int (de_len T.n_len (da_cons (de_var (pv 0)) da_nil))) (blkOk_by (N := N__law_slope) (by with_unfolding_all rfl)) (fun _ _ _ _ _ => (pg_name (i := 1) sc__law_slope.nd rfl (.inl rfl))) (fun _ _ _ _ _ => dts_nil) (fun _ _ _ _ _ => (de_mul (de_var (pv 1)) (de_sub_ix (de_var (pv 0)) (de_var (pv 1)))))) da_nil))))
theorem b__law_due (T : Tx P K mg A) (G__law_at : FnOk P w K mg base (L2.CX P w) 1 A.f__law_at A.d__law_at ["numbers", "x"] (spP K (c__law_at A))) (G__law_power : FnOk P w K mg base (L2.CX P w) 1 A.f__law_power A.d__law_power ["base", "e"] (spP K (c__law_power A))) (G__law_slope : FnOk P w K mg base (L2.CX P w) 1 A.f__law_slope A.d__law_slope ["numbers"] (spP K (c__law_slope A))) (G__law_value : FnOk P w K mg base (L2.CX P w) 1 A.f__law_value A.d__law_value ["p", "low"] (spP K (c__law_value A))) (cdv : Value) (Ar : Around) (outer : List Env) (s : Shared) (H : Hp) (E : XK) (hr : Room 1 (Ar.deeper (PyProof.Rows.envOfC "_law_due" (defScope s__law_due) s.heap.objs.size A.f__law_due cdv))) (tk : Takes (cxF P w K mg base N__law_due "_law_due" s__law_due A.f__law_due cdv Ar outer s H E) (wE E))
    (hp : PassesOwn (model P w) (Ar.deeper (PyProof.Rows.envOfC "_law_due" (defScope s__law_due) s.heap.objs.size A.f__law_due cdv)) (PyProof.Rows.envOfC "_law_due" (defScope s__law_due) s.heap.objs.size A.f__law_due cdv) (cxF P w K mg base N__law_due "_law_due" s__law_due A.f__law_due cdv Ar outer s H E).xe) : PSs (cxF P w K mg base N__law_due "_law_due" s__law_due A.f__law_due cdv Ar outer s H E) (defBody s__law_due) (liftS K (wE E) (t__law_due K A)) :=
 (dss_cons (ds_set (i := 4) sc__law_due.nd rfl (.inl rfl) (de_sub_ix (de_var (pv 3)) de_int))
 (dss_tail (dss_cons (ds_set (i := 5) sc__law_due.nd rfl (.inl rfl) (de_and (de_chain (op_leA hr.units) (op_ltA hr.units) opd_leA opd_ltA de_int (de_var (pv 4)) (de_var (pv 0))) (de_and (de_cmp (op_eqD hr.units) opd_eq (nomark _) (de_mod (de_intc T.n_int (da_cons (de_call tk G__law_at (hr.mono (by decide)) T.g__law_at T.F__law_at.kp T.b__law_at (da_cons (de_var (pv 1)) (da_cons (de_var (pv 4)) da_nil))) da_nil)) (de_var (pv 0))) de_int) (de_one (de_cmp (op_neD hr.units) opd_ne (nomark _) (de_mod (de_intc T.n_int (da_cons (de_call tk G__law_at (hr.mono (by decide)) T.g__law_at T.F__law_at.kp T.b__law_at (da_cons (de_call tk G__law_slope (hr.mono (by decide)) T.g__law_slope T.F__law_slope.kp T.b__law_slope (da_cons (de_var (pv 1)) da_nil)) (da_cons (de_var (pv 4)) da_nil))) da_nil)) (de_var (pv 0))) de_int)))))
 (dss_tail (dss_cons (ds_if (dt_cmp (op_eqD hr.units) opd_eq (nomark _) (de_sub_ix (de_var (pv 3)) de_int) de_str)
 (dss_one (ds_ret (de_and (de_chain (op_leA hr.units) (op_ltA hr.units) opd_leA opd_ltA de_int (de_var (pv 4)) (de_var (pv 0))) (de_one (de_not (de_var (pv 5)))))))
 dss_nil)
 (dss_tail (dss_cons (ds_set (i := 6) sc__law_due.nd rfl (.inl rfl) (de_sub_ix (de_var (pv 3)) de_int))
 (dss_tail (dss_cons (ds_if (dw_or (dt_not (dt_tru (de_var (pv 5)))) (dw_or (dt_cmp (op_neD hr.units) opd_ne (nomark _) (de_len T.n_len (da_cons (de_var (pv 6)) da_nil)) (de_var (pv 2))) (dw_or (dt_cmp (op_neD hr.units) opd_ne (nomark _) (de_lc (own := [((PySem.Str.ofString "digit"), 7)]) (g := (.n 7)) rfl sc__law_due.nd (di_val (de_var (pv 6))) (blkOk_by (N := N__law_due) (by with_unfolding_all rfl)) (fun _ _ _ _ _ => (pg_name (i := 7) sc__law_due.nd rfl (.inl rfl))) (fun _ _ _ _ _ => (dts_one (dt_not (dt_chain (op_leA hr.units) (op_ltA hr.units) opd_leA opd_ltA de_int (de_var (pv 7)) (de_var (pv 0)))))) (fun _ _ _ _ _ => (de_var (pv 7)))) (de_lst da_nil)) (dw_or1 (dw_and (dt_cmp (op_neD hr.units) opd_ne (nomark _) (de_var (pv 6)) (de_tup da_nil)) (dw_and1 (dt_cmp (op_neD hr.units) opd_ne (nomark _) (de_sub_ix (de_var (pv 6)) de_int) (de_var (pv 4))))).pt)))).pt
 (dss_one (ds_ret de_bl))
 dss_nil)
 (dss_tail (dss_one (ds_ret (de_cmp (op_eqD hr.units) opd_eq (nomark _) (de_mod (de_intc T.n_int (da_cons (de_call tk G__law_at (hr.mono (by decide)) T.g__law_at T.F__law_at.kp T.b__law_at (da_cons (de_var (pv 1)) (da_cons (de_call tk G__law_value (hr.mono (by decide)) T.g__law_value T.F__law_value.kp T.b__law_value (da_cons (de_var (pv 0)) (da_cons (de_var (pv 6)) da_nil))) da_nil))) da_nil)) (de_call tk G__law_power (hr.mono (by decide)) T.g__law_power T.F__law_power.kp T.b__law_power (da_cons (de_var (pv 0)) (da_cons (de_var (pv 2)) da_nil)))) de_int)))))))))))))
theorem b__law_refused (T : Tx P K mg A) (G_back : FnOk P w K mg base (L2.CX P w) 1 A.f_back A.d_back ["number", "modulus"] (spP K (c_back A))) (G_going_round : FnOk P w K mg base (L2.CX P w) 4 A.f_going_round A.d_going_round ["p", "pair"] (spP K (c_going_round A))) (G_lifted : FnOk P w K mg base (L2.CX P w) 2 A.f_lifted A.d_lifted ["p", "numbers", "begin", "places"] (spP K (c_lifted A))) (G_of_fraction : FnOk P w K mg base (L2.CX P w) 4 A.f_of_fraction A.d_of_fraction ["p", "pair", "places"] (spP K (c_of_fraction A))) (G_often : FnOk P w K mg base (L2.CX P w) 4 A.f_often A.d_often ["p", "pair"] (spP K (c_often A))) (G_own_squares : FnOk P w K mg base (L2.CX P w) 2 A.f_own_squares A.d_own_squares ["base", "places"] (spP K (c_own_squares A))) (G_square_roots : FnOk P w K mg base (L2.CX P w) 3 A.f_square_roots A.d_square_roots ["p", "n", "places"] (spP K (c_square_roots A))) (cdv : Value) (Ar : Around) (outer : List Env) (s : Shared) (H : Hp) (E : XK) (hr : Room 4 (Ar.deeper (PyProof.Rows.envOfC "_law_refused" (defScope s__law_refused) s.heap.objs.size A.f__law_refused cdv))) (tk : Takes (cxF P w K mg base N__law_refused "_law_refused" s__law_refused A.f__law_refused cdv Ar outer s H E) (wE E))
    (hp : PassesOwn (model P w) (Ar.deeper (PyProof.Rows.envOfC "_law_refused" (defScope s__law_refused) s.heap.objs.size A.f__law_refused cdv)) (PyProof.Rows.envOfC "_law_refused" (defScope s__law_refused) s.heap.objs.size A.f__law_refused cdv) (cxF P w K mg base N__law_refused "_law_refused" s__law_refused A.f__law_refused cdv Ar outer s H E).xe) : PSs (cxF P w K mg base N__law_refused "_law_refused" s__law_refused A.f__law_refused cdv Ar outer s H E) (defBody s__law_refused) (liftS K (wE E) (t__law_refused K A)) :=
 (dss_cons (ds_try rfl rfl sc__law_refused.nd tk (fun _ _ _ tk hp => (dss_one (ds_if (dt_cmp (op_eqD hr.units) opd_eq (nomark _) (de_var (pv 0)) de_int)
 (dss_one (ds_expr (de_call tk G_of_fraction (hr.mono (by decide)) T.g_of_fraction T.F_of_fraction.kp T.b_of_fraction (da_cons (de_var (pv 1)) (da_cons (de_var (pv 2)) (da_cons (de_var (pv 3)) da_nil))))))
 (dss_one (ds_if (dt_cmp (op_eqD hr.units) opd_eq (nomark _) (de_var (pv 0)) de_int)
 (dss_one (ds_expr (de_call tk G_going_round (hr.mono (by decide)) T.g_going_round T.F_going_round.kp T.b_going_round (da_cons (de_var (pv 1)) (da_cons (de_var (pv 2)) da_nil)))))
 (dss_one (ds_if (dt_cmp (op_eqD hr.units) opd_eq (nomark _) (de_var (pv 0)) de_int)
 (dss_one (ds_expr (de_call tk G_back (hr.mono (by decide)) T.g_back T.F_back.kp T.b_back (da_cons (de_var (pv 1)) (da_cons (de_var (pv 2)) da_nil)))))
 (dss_one (ds_if (dt_cmp (op_eqD hr.units) opd_eq (nomark _) (de_var (pv 0)) de_int)
 (dss_one (ds_expr (de_call tk G_lifted (hr.mono (by decide)) T.g_lifted T.F_lifted.kp T.b_lifted (da_cons (de_var (pv 1)) (da_cons (de_var (pv 2)) (da_cons (de_var (pv 3)) (da_cons de_int da_nil)))))))
 (dss_one (ds_if (dt_cmp (op_eqD hr.units) opd_eq (nomark _) (de_var (pv 0)) de_int)
 (dss_one (ds_expr (de_call tk G_square_roots (hr.mono (by decide)) T.g_square_roots T.F_square_roots.kp T.b_square_roots (da_cons (de_var (pv 1)) (da_cons (de_var (pv 2)) (da_cons (de_var (pv 3)) da_nil))))))
 (dss_one (ds_if (dt_cmp (op_eqD hr.units) opd_eq (nomark _) (de_var (pv 0)) de_int)
 (dss_one (ds_expr (de_call tk G_own_squares (hr.mono (by decide)) T.g_own_squares T.F_own_squares.kp T.b_own_squares (da_cons (de_var (pv 1)) (da_cons (de_var (pv 2)) da_nil)))))
 (dss_one (ds_expr (de_call tk G_often (hr.mono (by decide)) T.g_often T.F_often.kp T.b_often (da_cons (de_var (pv 1)) (da_cons (de_var (pv 2)) da_nil)))))))))))))))))) (.cons (k := ⟨A.C_BadFraction, 4, (dRet (dC (.str (PySem.Str.ofString "fraction"))))⟩) ⟨rfl, by decide, .inl T.m_BadFraction⟩ rfl rfl (fun _ _ => (dss_one (ds_ret de_str))) (.cons (k := ⟨A.C_BadNumber, 4, (dRet (dC (.str (PySem.Str.ofString "number"))))⟩) ⟨rfl, by decide, .inl T.m_BadNumber⟩ rfl rfl (fun _ _ => (dss_one (ds_ret de_str))) (.cons (k := ⟨A.C_TooLarge, 4, (dRet (dC (.str (PySem.Str.ofString "large"))))⟩) ⟨rfl, by decide, .inl T.m_TooLarge⟩ rfl rfl (fun _ _ => (dss_one (ds_ret de_str))) (.cons (k := ⟨A.C_NoteError, 4, (dRet (dC (.str (PySem.Str.ofString "strange"))))⟩) ⟨rfl, by decide, .inl T.m_NoteError⟩ rfl rfl (fun _ _ => (dss_one (ds_ret de_str))) .nil)))))
 (dss_one (ds_ret de_str)))
theorem b__law_roots_right (T : Tx P K mg A) (G__law_pick : FnOk P w K mg base (L2.CX P w) 1 A.f__law_pick A.d__law_pick ["source", "many"] (spR K (c__law_pick A))) (G__law_power : FnOk P w K mg base (L2.CX P w) 1 A.f__law_power A.d__law_power ["base", "e"] (spP K (c__law_power A))) (G__law_refused : FnOk P w K mg base (L2.CX P w) 5 A.f__law_refused A.d__law_refused ["which", "one", "two", "three"] (spP K (c__law_refused A))) (G__law_value : FnOk P w K mg base (L2.CX P w) 1 A.f__law_value A.d__law_value ["p", "low"] (spP K (c__law_value A))) (G_added : FnOk P w K mg base (L2.CX P w) 2 A.f_added A.d_added ["p", "one", "other"] (spP K (c_added A))) (G_own_squares : FnOk P w K mg base (L2.CX P w) 2 A.f_own_squares A.d_own_squares ["base", "places"] (spP K (c_own_squares A))) (G_square_roots : FnOk P w K mg base (L2.CX P w) 3 A.f_square_roots A.d_square_roots ["p", "n", "places"] (spP K (c_square_roots A))) (cdv : Value) (Ar : Around) (outer : List Env) (s : Shared) (H : Hp) (E : XK) (hr : Room 5 (Ar.deeper (PyProof.Rows.envOfC "_law_roots_right" (defScope s__law_roots_right) s.heap.objs.size A.f__law_roots_right cdv))) (tk : Takes (cxF P w K mg base N__law_roots_right "_law_roots_right" s__law_roots_right A.f__law_roots_right cdv Ar outer s H E) (wE E))
    (hp : PassesOwn (model P w) (Ar.deeper (PyProof.Rows.envOfC "_law_roots_right" (defScope s__law_roots_right) s.heap.objs.size A.f__law_roots_right cdv)) (PyProof.Rows.envOfC "_law_roots_right" (defScope s__law_roots_right) s.heap.objs.size A.f__law_roots_right cdv) (cxF P w K mg base N__law_roots_right "_law_roots_right" s__law_roots_right A.f__law_roots_right cdv Ar outer s H E).xe) : PSs (cxF P w K mg base N__law_roots_right "_law_roots_right" s__law_roots_right A.f__law_roots_right cdv Ar outer s H E) (defBody s__law_roots_right) (liftS K (wE E) (t__law_roots_right K A)) :=
 (dss_cons (ds_asg (de_tup (da_cons (de_add de_int (de_callR tk G__law_pick (hr.mono (by decide)) T.g__law_pick T.F__law_pick.kp T.b__law_pick (da_cons (de_var (pv 0)) (da_cons de_int da_nil)))) (da_cons (de_add de_int (de_callR tk G__law_pick (hr.mono (by decide)) T.g__law_pick T.F__law_pick.kp T.b__law_pick (da_cons (de_var (pv 0)) (da_cons de_int da_nil)))) da_nil))) (dg_tup rfl (dgs_cons (dg_name (i := 2) sc__law_roots_right.nd rfl (.inr rfl)) (dgs_cons (dg_name (i := 3) sc__law_roots_right.nd rfl (.inr rfl)) dgs_nil))))
 (dss_tail (dss_cons (ds_if (dw_and (dt_cmp (op_gtA hr.units) opd_gtA (nomark _) (de_var (pv 1)) de_int) (dw_and1 (dt_cmp (op_neD hr.units) opd_ne (nomark _) (de_mod (de_intc T.n_int (da_cons (de_var (pv 2)) da_nil)) (de_var (pv 1))) de_int))).pt
 (dss_cons (ds_set (i := 4) sc__law_roots_right.nd rfl (.inl rfl) (de_call tk G_square_roots (hr.mono (by decide)) T.g_square_roots T.F_square_roots.kp T.b_square_roots (da_cons (de_var (pv 1)) (da_cons (de_var (pv 2)) (da_cons (de_var (pv 3)) da_nil)))))
 (dss_cons (ds_set (i := 5) sc__law_roots_right.nd rfl (.inl rfl) (de_lst da_nil))
 (dss_cons (ds_for hp rfl (di_range1 T.n_range (de_var (pv 1))) (dg_name (i := 6) sc__law_roots_right.nd rfl (.inl rfl))
 (dss_one (ds_if (dt_cmp (op_eqD hr.units) opd_eq (nomark _) (de_mod (de_intc T.n_int (da_cons (de_sub (de_mul (de_var (pv 6)) (de_var (pv 6))) (de_var (pv 2))) da_nil)) (de_var (pv 1))) de_int)
 (dss_one (ds_expr (de_append (pv 5) (da_cons (de_var (pv 6)) da_nil))))
 dss_nil)))
 (dss_cons (ds_if (dw_or (dt_cmp (op_neD hr.units) opd_ne (nomark _) (de_lc (own := [((PySem.Str.ofString "word"), 10)]) (g := (.n 10)) rfl sc__law_roots_right.nd (di_val (de_var (pv 4))) (blkOk_by (N := N__law_roots_right) (by with_unfolding_all rfl)) (fun _ _ _ _ _ => (pg_name (i := 10) sc__law_roots_right.nd rfl (.inl rfl))) (fun _ _ _ _ _ => dts_nil) (fun _ _ _ _ _ => (de_sub_ix (de_var (pv 10)) de_int))) (de_var (pv 5))) (dw_or1 (dt_cmp (op_neD hr.units) opd_ne (nomark _) (de_lc (own := [((PySem.Str.ofString "word"), 10)]) (g := (.n 10)) rfl sc__law_roots_right.nd (di_val (de_var (pv 4))) (blkOk_by (N := N__law_roots_right) (by with_unfolding_all rfl)) (fun _ _ _ _ _ => (pg_name (i := 10) sc__law_roots_right.nd rfl (.inl rfl))) (fun _ _ _ _ _ => (dts_one (dw_or (dt_cmp (op_neD hr.units) opd_ne (nomark _) (de_mod (de_intc T.n_int (da_cons (de_sub (de_mul (de_call takes_none5 G__law_value (hr.mono (by decide)) T.g__law_value T.F__law_value.kp T.b__law_value (da_cons (de_var (pv 1)) (da_cons (de_var (pv 10)) da_nil))) (de_call takes_none5 G__law_value (hr.mono (by decide)) T.g__law_value T.F__law_value.kp T.b__law_value (da_cons (de_var (pv 1)) (da_cons (de_var (pv 10)) da_nil)))) (de_var (pv 2))) da_nil)) (de_call takes_none5 G__law_power (hr.mono (by decide)) T.g__law_power T.F__law_power.kp T.b__law_power (da_cons (de_var (pv 1)) (da_cons (de_var (pv 3)) da_nil)))) de_int) (dw_or1 (dt_cmp (op_neD hr.units) opd_ne (nomark _) (de_len T.n_len (da_cons (de_var (pv 10)) da_nil)) (de_var (pv 3))))).pt)) (fun _ _ _ _ _ => (de_var (pv 10)))) (de_lst da_nil)))).pt
 (dss_one (ds_ret de_bl))
 dss_nil)
 (dss_one (ds_if (dw_and (dt_cmp (op_eqD hr.units) opd_eq (nomark _) (de_len T.n_len (da_cons (de_var (pv 4)) da_nil)) de_int) (dw_and1 (dt_cmp (op_neD hr.units) opd_ne (nomark _) (de_call tk G_added (hr.mono (by decide)) T.g_added T.F_added.kp T.b_added (da_cons (de_var (pv 1)) (da_cons (de_sub_ix (de_var (pv 4)) de_int) (da_cons (de_sub_ix (de_var (pv 4)) de_int) da_nil)))) (de_mul (de_tup (da_cons de_int da_nil)) (de_var (pv 3)))))).pt
 (dss_one (ds_ret de_bl))
 dss_nil))))))
 dss_nil)
 (dss_tail (dss_cons (ds_par2 (i := 7) (j := 8) rfl sc__law_roots_right.nd rfl rfl (by decide) rfl rfl (da_cons (de_add de_int (de_callR tk G__law_pick (hr.mono (by decide)) T.g__law_pick T.F__law_pick.kp T.b__law_pick (da_cons (de_var (pv 0)) (da_cons de_int da_nil)))) (da_cons (de_add de_int (de_callR tk G__law_pick (hr.mono (by decide)) T.g__law_pick T.F__law_pick.kp T.b__law_pick (da_cons (de_var (pv 0)) (da_cons de_int da_nil)))) da_nil)) rfl)
 (dss_tail (dss_cons (ds_set (i := 9) sc__law_roots_right.nd rfl (.inr rfl) (de_call tk G__law_power (hr.mono (by decide)) T.g__law_power T.F__law_power.kp T.b__law_power (da_cons (de_var (pv 7)) (da_cons (de_var (pv 8)) da_nil))))
 (dss_tail (dss_cons (ds_if (dt_cmp (op_neD hr.units) opd_ne (nomark _) (de_call tk G_own_squares (hr.mono (by decide)) T.g_own_squares T.F_own_squares.kp T.b_own_squares (da_cons (de_var (pv 7)) (da_cons (de_var (pv 8)) da_nil))) (de_tuple T.n_tuple (da_cons (de_lc (own := [((PySem.Str.ofString "k"), 11)]) (g := (.n 11)) rfl sc__law_roots_right.nd (di_range1 T.n_range (de_var (pv 9))) (blkOk_by (N := N__law_roots_right) (by with_unfolding_all rfl)) (fun _ _ _ _ _ => (pg_name (i := 11) sc__law_roots_right.nd rfl (.inl rfl))) (fun _ _ _ _ _ => (dts_one (dt_cmp (op_eqD hr.units) opd_eq (nomark _) (de_mod (de_intc T.n_int (da_cons (de_sub (de_mul (de_var (pv 11)) (de_var (pv 11))) (de_var (pv 11))) da_nil)) (de_var (pv 9))) de_int))) (fun _ _ _ _ _ => (de_var (pv 11)))) da_nil)))
 (dss_one (ds_ret de_bl))
 dss_nil)
 (dss_tail (dss_cons (ds_if (dw_or (dt_cmp (op_neD hr.units) opd_ne (nomark _) (de_call tk G__law_refused (hr.mono (by decide)) T.g__law_refused T.F__law_refused.kp T.b__law_refused (da_cons de_int (da_cons de_int (da_cons de_int (da_cons de_int da_nil))))) de_str) (dw_or (dt_cmp (op_neD hr.units) opd_ne (nomark _) (de_call tk G__law_refused (hr.mono (by decide)) T.g__law_refused T.F__law_refused.kp T.b__law_refused (da_cons de_int (da_cons (de_var (pv 1)) (da_cons (de_var (pv 1)) (da_cons de_int da_nil))))) de_str) (dw_or (dt_cmp (op_neD hr.units) opd_ne (nomark _) (de_call tk G__law_refused (hr.mono (by decide)) T.g__law_refused T.F__law_refused.kp T.b__law_refused (da_cons de_int (da_cons de_int (da_cons de_int (da_cons de_non da_nil))))) de_str) (dw_or1 (dt_cmp (op_neD hr.units) opd_ne (nomark _) (de_call tk G__law_refused (hr.mono (by decide)) T.g__law_refused T.F__law_refused.kp T.b__law_refused (da_cons de_int (da_cons de_int (da_cons de_int (da_cons de_non da_nil))))) de_str))))).pt
 (dss_one (ds_ret de_bl))
 dss_nil)
 (dss_tail (dss_one (ds_ret (de_and (de_cmp (op_eqD hr.units) opd_eq (nomark _) (de_call tk G__law_refused (hr.mono (by decide)) T.g__law_refused T.F__law_refused.kp T.b__law_refused (da_cons de_int (da_cons de_int (da_cons de_int (da_cons de_non da_nil))))) de_str) (de_one (de_cmp (op_eqD hr.units) opd_eq (nomark _) (de_call tk G_own_squares (hr.mono (by decide)) T.g_own_squares T.F_own_squares.kp T.b_own_squares (da_cons de_int (da_cons de_int da_nil))) (de_tup (da_cons de_int (da_cons de_int (da_cons de_int (da_cons de_int da_nil))))))))))))))))))))))
theorem b__law_right (T : Tx P K mg A) (G__law_at : FnOk P w K mg base (L2.CX P w) 1 A.f__law_at A.d__law_at ["numbers", "x"] (spP K (c__law_at A))) (G__law_bent : FnOk P w K mg base (L2.CX P w) 8 A.f__law_bent A.d__law_bent ["source", "claim"] (spR K (c__law_bent A))) (G__law_due : FnOk P w K mg base (L2.CX P w) 2 A.f__law_due A.d__law_due ["p", "numbers", "places", "claim"] (spP K (c__law_due A))) (G__law_gcd : FnOk P w K mg base (L2.CX P w) 1 A.f__law_gcd A.d__law_gcd ["one", "other"] (spP K (c__law_gcd A))) (G__law_great : FnOk P w K mg base (L2.CX P w) 2 A.f__law_great A.d__law_great ["source"] (spR K (c__law_great A))) (G__law_pick : FnOk P w K mg base (L2.CX P w) 1 A.f__law_pick A.d__law_pick ["source", "many"] (spR K (c__law_pick A))) (G__law_power : FnOk P w K mg base (L2.CX P w) 1 A.f__law_power A.d__law_power ["base", "e"] (spP K (c__law_power A))) (G__law_refused : FnOk P w K mg base (L2.CX P w) 5 A.f__law_refused A.d__law_refused ["which", "one", "two", "three"] (spP K (c__law_refused A))) (G__law_roots_right : FnOk P w K mg base (L2.CX P w) 6 A.f__law_roots_right A.d__law_roots_right ["source", "p"] (spR K (c__law_roots_right A))) (G__law_slope : FnOk P w K mg base (L2.CX P w) 1 A.f__law_slope A.d__law_slope ["numbers"] (spP K (c__law_slope A))) (G__law_value : FnOk P w K mg base (L2.CX P w) 1 A.f__law_value A.d__law_value ["p", "low"] (spP K (c__law_value A))) (G_added : FnOk P w K mg base (L2.CX P w) 2 A.f_added A.d_added ["p", "one", "other"] (spP K (c_added A))) (G_back : FnOk P w K mg base (L2.CX P w) 1 A.f_back A.d_back ["number", "modulus"] (spP K (c_back A))) (G_fraction : FnOk P w K mg base (L2.CX P w) 2 A.f_fraction A.d_fraction ["number", "under"] (spP K (c_fraction A))) (G_going_round : FnOk P w K mg base (L2.CX P w) 4 A.f_going_round A.d_going_round ["p", "pair"] (spP K (c_going_round A))) (G_lifted : FnOk P w K mg base (L2.CX P w) 2 A.f_lifted A.d_lifted ["p", "numbers", "begin", "places"] (spP K (c_lifted A))) (G_lifted_right : FnOk P w K mg base (L2.CX P w) 2 A.f_lifted_right A.d_lifted_right ["p", "numbers", "places", "claim"] (spP K (c_lifted_right A))) (G_of_fraction : FnOk P w K mg base (L2.CX P w) 4 A.f_of_fraction A.d_of_fraction ["p", "pair", "places"] (spP K (c_of_fraction A))) (G_often : FnOk P w K mg base (L2.CX P w) 4 A.f_often A.d_often ["p", "pair"] (spP K (c_often A))) (G_polynomial_at : FnOk P w K mg base (L2.CX P w) 1 A.f_polynomial_at A.d_polynomial_at ["numbers", "x"] (spP K (c_polynomial_at A))) (G_product : FnOk P w K mg base (L2.CX P w) 2 A.f_product A.d_product ["p", "one", "other"] (spP K (c_product A))) (G_slope : FnOk P w K mg base (L2.CX P w) 1 A.f_slope A.d_slope ["numbers"] (spP K (c_slope A))) (G_value_of : FnOk P w K mg base (L2.CX P w) 3 A.f_value_of A.d_value_of ["p", "front", "round_of"] (spP K (c_value_of A))) (cdv : Value) (Ar : Around) (outer : List Env) (s : Shared) (H : Hp) (E : XK) (hr : Room 8 (Ar.deeper (PyProof.Rows.envOfC "_law_right" (defScope s__law_right) s.heap.objs.size A.f__law_right cdv))) (tk : Takes (cxF P w K mg base N__law_right "_law_right" s__law_right A.f__law_right cdv Ar outer s H E) (wE E))
    (hp : PassesOwn (model P w) (Ar.deeper (PyProof.Rows.envOfC "_law_right" (defScope s__law_right) s.heap.objs.size A.f__law_right cdv)) (PyProof.Rows.envOfC "_law_right" (defScope s__law_right) s.heap.objs.size A.f__law_right cdv) (cxF P w K mg base N__law_right "_law_right" s__law_right A.f__law_right cdv Ar outer s H E).xe) : PSs (cxF P w K mg base N__law_right "_law_right" s__law_right A.f__law_right cdv Ar outer s H E) (defBody s__law_right) (liftS K (wE E) (t__law_right K A)) :=
 (dss_cons (ds_set (i := 1) sc__law_right.nd rfl (.inr rfl) (de_sub_ix (de_lst (da_cons de_int (da_cons de_int (da_cons de_int (da_cons de_int (da_cons de_int (da_cons de_int (da_cons de_int da_nil)))))))) (de_callR tk G__law_pick (hr.mono (by decide)) T.g__law_pick T.F__law_pick.kp T.b__law_pick (da_cons (de_var (pv 0)) (da_cons de_int da_nil)))))
 (dss_tail (dss_cons (ds_set (i := 2) sc__law_right.nd rfl (.inl rfl) (de_sub de_int (de_mul de_int (de_callR tk G__law_pick (hr.mono (by decide)) T.g__law_pick T.F__law_pick.kp T.b__law_pick (da_cons (de_var (pv 0)) (da_cons de_int da_nil))))))
 (dss_tail (dss_cons (ds_set (i := 3) sc__law_right.nd rfl (.inl rfl) (de_call tk G_fraction (hr.mono (by decide)) T.g_fraction T.F_fraction.kp T.b_fraction (da_cons (de_mul (de_var (pv 2)) (de_sub_ix (de_lst (da_cons (de_callR tk G__law_pick (hr.mono (by decide)) T.g__law_pick T.F__law_pick.kp T.b__law_pick (da_cons (de_var (pv 0)) (da_cons de_int da_nil))) (da_cons (de_callR tk G__law_great (hr.mono (by decide)) T.g__law_great T.F__law_great.kp T.b__law_great (da_cons (de_var (pv 0)) da_nil)) da_nil))) (de_callR tk G__law_pick (hr.mono (by decide)) T.g__law_pick T.F__law_pick.kp T.b__law_pick (da_cons (de_var (pv 0)) (da_cons de_int da_nil))))) (da_cons (de_add de_int (de_callR tk G__law_pick (hr.mono (by decide)) T.g__law_pick T.F__law_pick.kp T.b__law_pick (da_cons (de_var (pv 0)) (da_cons de_int da_nil)))) da_nil))))
 (dss_tail (dss_cons (ds_asg (de_var (pv 3)) (dg_tup rfl (dgs_cons (dg_name (i := 4) sc__law_right.nd rfl (.inl rfl)) (dgs_cons (dg_name (i := 5) sc__law_right.nd rfl (.inl rfl)) dgs_nil))))
 (dss_tail (dss_cons (ds_set (i := 6) sc__law_right.nd rfl (.inl rfl) (de_callR tk G__law_pick (hr.mono (by decide)) T.g__law_pick T.F__law_pick.kp T.b__law_pick (da_cons (de_var (pv 0)) (da_cons de_int da_nil))))
 (dss_tail (dss_cons (ds_if (dt_cmp (op_eqD hr.units) opd_eq (nomark _) (de_mod (de_intc T.n_int (da_cons (de_var (pv 5)) da_nil)) (de_var (pv 1))) de_int)
 (dss_one (ds_if (dw_or (dt_cmp (op_neD hr.units) opd_ne (nomark _) (de_call tk G__law_refused (hr.mono (by decide)) T.g__law_refused T.F__law_refused.kp T.b__law_refused (da_cons de_int (da_cons (de_var (pv 1)) (da_cons (de_var (pv 3)) (da_cons (de_var (pv 6)) da_nil))))) de_str) (dw_or1 (dt_cmp (op_neD hr.units) opd_ne (nomark _) (de_call tk G__law_refused (hr.mono (by decide)) T.g__law_refused T.F__law_refused.kp T.b__law_refused (da_cons de_int (da_cons (de_var (pv 1)) (da_cons (de_var (pv 3)) (da_cons de_non da_nil))))) de_str))).pt
 (dss_one (ds_ret de_bl))
 dss_nil))
 (dss_cons (ds_set (i := 7) sc__law_right.nd rfl (.inl rfl) (de_call tk G_of_fraction (hr.mono (by decide)) T.g_of_fraction T.F_of_fraction.kp T.b_of_fraction (da_cons (de_var (pv 1)) (da_cons (de_list T.n_list (da_cons (de_var (pv 3)) da_nil)) (da_cons (de_var (pv 6)) da_nil)))))
 (dss_cons (ds_if (dw_or (dt_cmp (op_neD hr.units) opd_ne (nomark _) (de_len T.n_len (da_cons (de_var (pv 7)) da_nil)) (de_var (pv 6))) (dw_or (dt_cmp (op_neD hr.units) opd_ne (nomark _) (de_lc (own := [((PySem.Str.ofString "digit"), 31)]) (g := (.n 31)) rfl sc__law_right.nd (di_val (de_var (pv 7))) (blkOk_by (N := N__law_right) (by with_unfolding_all rfl)) (fun _ _ _ _ _ => (pg_name (i := 31) sc__law_right.nd rfl (.inl rfl))) (fun _ _ _ _ _ => (dts_one (dt_not (dt_chain (op_leA hr.units) (op_ltA hr.units) opd_leA opd_ltA de_int (de_var (pv 31)) (de_var (pv 1)))))) (fun _ _ _ _ _ => (de_var (pv 31)))) (de_lst da_nil)) (dw_or1 (dt_cmp (op_neD hr.units) opd_ne (nomark _) (de_mod (de_intc T.n_int (da_cons (de_sub (de_mul (de_call tk G__law_value (hr.mono (by decide)) T.g__law_value T.F__law_value.kp T.b__law_value (da_cons (de_var (pv 1)) (da_cons (de_var (pv 7)) da_nil))) (de_var (pv 5))) (de_var (pv 4))) da_nil)) (de_call tk G__law_power (hr.mono (by decide)) T.g__law_power T.F__law_power.kp T.b__law_power (da_cons (de_var (pv 1)) (da_cons (de_var (pv 6)) da_nil)))) de_int)))).pt
 (dss_one (ds_ret de_bl))
 dss_nil)
 (dss_cons (ds_asg (de_call tk G_going_round (hr.mono (by decide)) T.g_going_round T.F_going_round.kp T.b_going_round (da_cons (de_var (pv 1)) (da_cons (de_var (pv 3)) da_nil))) (dg_tup rfl (dgs_cons (dg_name (i := 8) sc__law_right.nd rfl (.inl rfl)) (dgs_cons (dg_name (i := 9) sc__law_right.nd rfl (.inr rfl)) dgs_nil))))
 (dss_cons (ds_set (i := 10) sc__law_right.nd rfl (.inl rfl) (de_add (de_var (pv 8)) (de_mul (de_var (pv 9)) de_int)))
 (dss_cons (ds_if (dw_or (dt_cmp (op_eqD hr.units) opd_eq (nomark _) (de_var (pv 9)) (de_tup da_nil)) (dw_or (dt_cmp (op_neD hr.units) opd_ne (nomark _) (de_slice (de_var (pv 10)) do_none (do_some (de_var (pv 6)))) (de_var (pv 7))) (dw_or (dt_cmp (op_neD hr.units) opd_ne (nomark _) (de_call tk G_value_of (hr.mono (by decide)) T.g_value_of T.F_value_of.kp T.b_value_of (da_cons (de_var (pv 1)) (da_cons (de_var (pv 8)) (da_cons (de_var (pv 9)) da_nil)))) (de_var (pv 3))) (dw_or1 (dw_and (dt_cmp (op_neD hr.units) opd_ne (nomark _) (de_var (pv 8)) (de_tup da_nil)) (dw_and1 (dt_cmp (op_eqD hr.units) opd_eq (nomark _) (de_sub_ix (de_var (pv 8)) (de_neg de_int)) (de_sub_ix (de_var (pv 9)) (de_neg de_int))))).pt)))).pt
 (dss_one (ds_ret de_bl))
 dss_nil)
 (dss_cons (ds_if (dt_cmp (op_neD hr.units) opd_ne (nomark _) (de_lc (own := [((PySem.Str.ofString "size"), 32)]) (g := (.n 32)) rfl sc__law_right.nd (di_range2 T.n_range de_int (de_len T.n_len (da_cons (de_var (pv 9)) da_nil))) (blkOk_by (N := N__law_right) (by with_unfolding_all rfl)) (fun _ _ _ _ _ => (pg_name (i := 32) sc__law_right.nd rfl (.inl rfl))) (fun _ _ _ _ _ => (dts_one (dw_and (dt_cmp (op_eqD hr.units) opd_eq (nomark _) (de_mod (de_intc T.n_int (da_cons (de_len T.n_len (da_cons (de_var (pv 9)) da_nil)) da_nil)) (de_var (pv 32))) de_int) (dw_and1 (dt_cmp (op_eqD hr.units) opd_eq (nomark _) (de_mul (de_slice (de_var (pv 9)) do_none (do_some (de_var (pv 32)))) (de_fdiv (de_len T.n_len (da_cons (de_var (pv 9)) da_nil)) (de_var (pv 32)))) (de_var (pv 9))))).pt)) (fun _ _ _ _ _ => (de_var (pv 32)))) (de_lst da_nil))
 (dss_one (ds_ret de_bl))
 dss_nil)
 (dss_cons (ds_set (i := 11) sc__law_right.nd rfl (.inl rfl) (de_call tk G_fraction (hr.mono (by decide)) T.g_fraction T.F_fraction.kp T.b_fraction (da_cons (de_sub (de_callR tk G__law_pick (hr.mono (by decide)) T.g__law_pick T.F__law_pick.kp T.b__law_pick (da_cons (de_var (pv 0)) (da_cons de_int da_nil))) de_int) (da_cons (de_sub_ix (de_lst (da_cons de_int (da_cons (de_add de_int (de_var (pv 1))) da_nil))) (de_callR tk G__law_pick (hr.mono (by decide)) T.g__law_pick T.F__law_pick.kp T.b__law_pick (da_cons (de_var (pv 0)) (da_cons de_int da_nil)))) da_nil))))
 (dss_cons (ds_set (i := 12) sc__law_right.nd rfl (.inl rfl) (de_call tk G_of_fraction (hr.mono (by decide)) T.g_of_fraction T.F_of_fraction.kp T.b_of_fraction (da_cons (de_var (pv 1)) (da_cons (de_var (pv 11)) (da_cons (de_var (pv 6)) da_nil)))))
 (dss_cons (ds_set (i := 13) sc__law_right.nd rfl (.inl rfl) (de_call tk G_fraction (hr.mono (by decide)) T.g_fraction T.F_fraction.kp T.b_fraction (da_cons (de_add (de_mul (de_var (pv 4)) (de_sub_ix (de_var (pv 11)) de_int)) (de_mul (de_sub_ix (de_var (pv 11)) de_int) (de_var (pv 5)))) (da_cons (de_mul (de_var (pv 5)) (de_sub_ix (de_var (pv 11)) de_int)) da_nil))))
 (dss_cons (ds_set (i := 14) sc__law_right.nd rfl (.inl rfl) (de_call tk G_fraction (hr.mono (by decide)) T.g_fraction T.F_fraction.kp T.b_fraction (da_cons (de_mul (de_var (pv 4)) (de_sub_ix (de_var (pv 11)) de_int)) (da_cons (de_mul (de_var (pv 5)) (de_sub_ix (de_var (pv 11)) de_int)) da_nil))))
 (dss_one (ds_if (dw_or (dt_cmp (op_neD hr.units) opd_ne (nomark _) (de_call tk G_added (hr.mono (by decide)) T.g_added T.F_added.kp T.b_added (da_cons (de_var (pv 1)) (da_cons (de_var (pv 7)) (da_cons (de_var (pv 12)) da_nil)))) (de_call tk G_of_fraction (hr.mono (by decide)) T.g_of_fraction T.F_of_fraction.kp T.b_of_fraction (da_cons (de_var (pv 1)) (da_cons (de_var (pv 13)) (da_cons (de_var (pv 6)) da_nil))))) (dw_or1 (dt_cmp (op_neD hr.units) opd_ne (nomark _) (de_call tk G_product (hr.mono (by decide)) T.g_product T.F_product.kp T.b_product (da_cons (de_var (pv 1)) (da_cons (de_var (pv 7)) (da_cons (de_var (pv 12)) da_nil)))) (de_call tk G_of_fraction (hr.mono (by decide)) T.g_of_fraction T.F_of_fraction.kp T.b_of_fraction (da_cons (de_var (pv 1)) (da_cons (de_var (pv 14)) (da_cons (de_var (pv 6)) da_nil))))))).pt
 (dss_one (ds_ret de_bl))
 dss_nil)))))))))))))
 (dss_tail (dss_cons (ds_if (dt_cmp (op_neD hr.units) opd_ne (nomark _) (de_var (pv 4)) de_int)
 (dss_cons (ds_set (i := 15) sc__law_right.nd rfl (.inl rfl) de_int)
 (dss_cons (ds_for hp rfl (di_range1 T.n_range de_int) (dg_name (i := 16) sc__law_right.nd rfl (.inl rfl))
 (dss_cons (ds_if (dt_cmp (op_eqD hr.units) opd_eq (nomark _) (de_mod (de_intc T.n_int (da_cons (de_var (pv 4)) da_nil)) (de_var (pv 1))) de_int)
 (dss_cons (ds_set (i := 4) sc__law_right.nd rfl (.inl rfl) (de_fdiv (de_var (pv 4)) (de_var (pv 1))))
 (dss_one (ds_set (i := 15) sc__law_right.nd rfl (.inl rfl) (de_add (de_var (pv 15)) de_int))))
 dss_nil)
 (dss_one (ds_if (dt_cmp (op_eqD hr.units) opd_eq (nomark _) (de_mod (de_intc T.n_int (da_cons (de_var (pv 5)) da_nil)) (de_var (pv 1))) de_int)
 (dss_cons (ds_set (i := 5) sc__law_right.nd rfl (.inl rfl) (de_fdiv (de_var (pv 5)) (de_var (pv 1))))
 (dss_one (ds_set (i := 15) sc__law_right.nd rfl (.inl rfl) (de_sub (de_var (pv 15)) de_int))))
 dss_nil))))
 (dss_one (ds_if (dt_cmp (op_neD hr.units) opd_ne (nomark _) (de_call tk G_often (hr.mono (by decide)) T.g_often T.F_often.kp T.b_often (da_cons (de_var (pv 1)) (da_cons (de_var (pv 3)) da_nil))) (de_var (pv 15)))
 (dss_one (ds_ret de_bl))
 dss_nil))))
 dss_nil)
 (dss_tail (dss_cons (ds_set (i := 17) sc__law_right.nd rfl (.inl rfl) (de_tuple T.n_tuple (da_cons (de_lcW (own := [((PySem.Str.ofString "k"), 33)]) (g := (.n 33)) rfl sc__law_right.nd (di_range1 T.n_range (de_add de_int (de_callR tk G__law_pick (hr.mono (by decide)) T.g__law_pick T.F__law_pick.kp T.b__law_pick (da_cons (de_var (pv 0)) (da_cons de_int da_nil))))) (blkOk_by (N := N__law_right) (by with_unfolding_all rfl)) (fun _ _ _ _ _ => (pg_name (i := 33) sc__law_right.nd rfl (.inl rfl))) (fun _ _ _ _ _ => dts_nil) (fun _ _ _ _ _ => (de_sub (de_callR takes_none5 G__law_pick (hr.mono (by decide)) T.g__law_pick T.F__law_pick.kp T.b__law_pick (da_cons (de_var (pv 0)) (da_cons de_int da_nil))) de_int))) da_nil)))
 (dss_tail (dss_cons (ds_set (i := 18) sc__law_right.nd rfl (.inl rfl) (de_sub (de_callR tk G__law_pick (hr.mono (by decide)) T.g__law_pick T.F__law_pick.kp T.b__law_pick (da_cons (de_var (pv 0)) (da_cons de_int da_nil))) de_int))
 (dss_tail (dss_cons (ds_if (dw_or (dt_cmp (op_neD hr.units) opd_ne (nomark _) (de_call tk G_polynomial_at (hr.mono (by decide)) T.g_polynomial_at T.F_polynomial_at.kp T.b_polynomial_at (da_cons (de_var (pv 17)) (da_cons (de_var (pv 18)) da_nil))) (de_call tk G__law_at (hr.mono (by decide)) T.g__law_at T.F__law_at.kp T.b__law_at (da_cons (de_var (pv 17)) (da_cons (de_var (pv 18)) da_nil)))) (dw_or1 (dt_cmp (op_neD hr.units) opd_ne (nomark _) (de_call tk G_slope (hr.mono (by decide)) T.g_slope T.F_slope.kp T.b_slope (da_cons (de_var (pv 17)) da_nil)) (de_call tk G__law_slope (hr.mono (by decide)) T.g__law_slope T.F__law_slope.kp T.b__law_slope (da_cons (de_var (pv 17)) da_nil))))).pt
 (dss_one (ds_ret de_bl))
 dss_nil)
 (dss_tail (dss_cons (ds_par2 (i := 19) (j := 6) rfl sc__law_right.nd rfl rfl (by decide) rfl rfl (da_cons (de_callR tk G__law_pick (hr.mono (by decide)) T.g__law_pick T.F__law_pick.kp T.b__law_pick (da_cons (de_var (pv 0)) (da_cons (de_var (pv 1)) da_nil))) (da_cons (de_callR tk G__law_pick (hr.mono (by decide)) T.g__law_pick T.F__law_pick.kp T.b__law_pick (da_cons (de_var (pv 0)) (da_cons de_int da_nil))) da_nil)) rfl)
 (dss_tail (dss_cons (ds_set (i := 20) sc__law_right.nd rfl (.inl rfl) (de_call tk G_lifted (hr.mono (by decide)) T.g_lifted T.F_lifted.kp T.b_lifted (da_cons (de_var (pv 1)) (da_cons (de_var (pv 17)) (da_cons (de_var (pv 19)) (da_cons (de_var (pv 6)) da_nil))))))
 (dss_tail (dss_cons (ds_if (dw_or (dt_cmp (op_ninA ()) opd_nin (by with_unfolding_all rfl) (de_sub_ix (de_var (pv 20)) de_int) (de_tup (da_cons de_str (da_cons de_str da_nil)))) (dw_or (dt_cmp (op_neD hr.units) opd_ne (nomark _) (de_sub_ix (de_var (pv 20)) de_int) (de_var (pv 19))) (dw_or1 (dt_not (dt_tru (de_call tk G__law_due (hr.mono (by decide)) T.g__law_due T.F__law_due.kp T.b__law_due (da_cons (de_var (pv 1)) (da_cons (de_var (pv 17)) (da_cons (de_var (pv 6)) (da_cons (de_var (pv 20)) da_nil)))))))))).pt
 (dss_one (ds_ret de_bl))
 dss_nil)
 (dss_tail (dss_cons (ds_for hp rfl (di_val (de_lst (da_cons (de_var (pv 20)) (da_cons (de_tup (da_cons de_str (da_cons (de_var (pv 19)) da_nil))) (da_cons (de_tup (da_cons de_str (da_cons (de_var (pv 19)) (da_cons (de_mul (de_tup (da_cons (de_var (pv 19)) da_nil)) (de_var (pv 6))) da_nil)))) da_nil))))) (dg_name (i := 21) sc__law_right.nd rfl (.inl rfl))
 (dss_one (ds_for hp rfl (di_val (de_callR tk G__law_bent (hr.mono (by decide)) T.g__law_bent T.F__law_bent.kp T.b__law_bent (da_cons (de_var (pv 0)) (da_cons (de_var (pv 21)) da_nil)))) (dg_name (i := 22) sc__law_right.nd rfl (.inl rfl))
 (dss_cons (ds_set (i := 23) sc__law_right.nd rfl (.inl rfl) (de_call tk G_lifted_right (hr.mono (by decide)) T.g_lifted_right T.F_lifted_right.kp T.b_lifted_right (da_cons (de_var (pv 1)) (da_cons (de_var (pv 17)) (da_cons (de_var (pv 6)) (da_cons (de_var (pv 22)) da_nil))))))
 (dss_one (ds_if (dw_or (dt_not (dt_tru (de_isi (Ts := "bool") (by decide) boot_ty_bool T.n_isinstance T.n_bool (de_var (pv 23))))) (dw_or1 (dt_cmp (op_neD hr.units) opd_ne (nomark _) (de_var (pv 23)) (de_call tk G__law_due (hr.mono (by decide)) T.g__law_due T.F__law_due.kp T.b__law_due (da_cons (de_var (pv 1)) (da_cons (de_var (pv 17)) (da_cons (de_var (pv 6)) (da_cons (de_var (pv 22)) da_nil)))))))).pt
 (dss_one (ds_ret de_bl))
 dss_nil))))))
 (dss_tail (dss_cons (ds_par2 (i := 24) (j := 25) rfl sc__law_right.nd rfl rfl (by decide) rfl rfl (da_cons (de_add de_int (de_callR tk G__law_pick (hr.mono (by decide)) T.g__law_pick T.F__law_pick.kp T.b__law_pick (da_cons (de_var (pv 0)) (da_cons de_int da_nil)))) (da_cons (de_sub (de_callR tk G__law_pick (hr.mono (by decide)) T.g__law_pick T.F__law_pick.kp T.b__law_pick (da_cons (de_var (pv 0)) (da_cons de_int da_nil))) de_int) da_nil)) rfl)
 (dss_tail (dss_cons (ds_if (dt_cmp (op_eqD hr.units) opd_eq (nomark _) (de_call tk G__law_gcd (hr.mono (by decide)) T.g__law_gcd T.F__law_gcd.kp T.b__law_gcd (da_cons (de_var (pv 25)) (da_cons (de_var (pv 24)) da_nil))) de_int)
 (dss_one (ds_if (dw_or (dt_not (dt_chain (op_leA hr.units) (op_ltA hr.units) opd_leA opd_ltA de_int (de_call tk G_back (hr.mono (by decide)) T.g_back T.F_back.kp T.b_back (da_cons (de_var (pv 25)) (da_cons (de_var (pv 24)) da_nil))) (de_var (pv 24)))) (dw_or1 (dt_cmp (op_neD hr.units) opd_ne (nomark _) (de_mod (de_intc T.n_int (da_cons (de_sub (de_mul (de_var (pv 25)) (de_call tk G_back (hr.mono (by decide)) T.g_back T.F_back.kp T.b_back (da_cons (de_var (pv 25)) (da_cons (de_var (pv 24)) da_nil)))) de_int) da_nil)) (de_var (pv 24))) de_int))).pt
 (dss_one (ds_ret de_bl))
 dss_nil))
 (dss_one (ds_if (dt_cmp (op_neD hr.units) opd_ne (nomark _) (de_call tk G__law_refused (hr.mono (by decide)) T.g__law_refused T.F__law_refused.kp T.b__law_refused (da_cons de_int (da_cons (de_var (pv 25)) (da_cons (de_var (pv 24)) (da_cons de_non da_nil))))) de_str)
 (dss_one (ds_ret de_bl))
 dss_nil)))
 (dss_tail (dss_cons (ds_set (i := 26) sc__law_right.nd rfl (.inl rfl) (de_lst (da_cons (de_tup (da_cons de_int (da_cons de_int (da_cons (de_tup (da_cons de_int (da_cons de_int da_nil))) (da_cons de_int (da_cons de_str da_nil)))))) (da_cons (de_tup (da_cons de_int (da_cons de_int (da_cons (de_tup (da_cons de_int (da_cons de_int da_nil))) (da_cons de_int (da_cons de_str da_nil)))))) (da_cons (de_tup (da_cons de_int (da_cons de_int (da_cons (de_tup (da_cons de_int (da_cons de_int da_nil))) (da_cons de_int (da_cons de_str da_nil)))))) da_nil)))))
 (dss_tail (dss_cons (ds_for hp rfl (di_val (de_add (de_var (pv 26)) (de_lst (da_cons (de_tup (da_cons de_int (da_cons de_int (da_cons (de_tup (da_cons de_int (da_cons de_int da_nil))) (da_cons de_non (da_cons de_str da_nil)))))) (da_cons (de_tup (da_cons de_int (da_cons de_int (da_cons (de_tup (da_cons de_int (da_cons de_int da_nil))) (da_cons de_int (da_cons de_str da_nil)))))) (da_cons (de_tup (da_cons de_int (da_cons de_int (da_cons (de_tup (da_cons de_int (da_cons de_int da_nil))) (da_cons de_non (da_cons de_str da_nil)))))) da_nil)))))) (dg_tup rfl (dgs_cons (dg_name (i := 27) sc__law_right.nd rfl (.inl rfl)) (dgs_cons (dg_name (i := 22) sc__law_right.nd rfl (.inl rfl)) (dgs_cons (dg_name (i := 28) sc__law_right.nd rfl (.inl rfl)) (dgs_cons (dg_name (i := 29) sc__law_right.nd rfl (.inl rfl)) (dgs_cons (dg_name (i := 30) sc__law_right.nd rfl (.inl rfl)) dgs_nil))))))
 (dss_one (ds_if (dt_cmp (op_neD hr.units) opd_ne (nomark _) (de_call tk G__law_refused (hr.mono (by decide)) T.g__law_refused T.F__law_refused.kp T.b__law_refused (da_cons (de_var (pv 27)) (da_cons (de_var (pv 22)) (da_cons (de_var (pv 28)) (da_cons (de_var (pv 29)) da_nil))))) (de_var (pv 30)))
 (dss_one (ds_ret de_bl))
 dss_nil)))
 (dss_tail (dss_one (ds_ret (de_callR tk G__law_roots_right (hr.mono (by decide)) T.g__law_roots_right T.F__law_roots_right.kp T.b__law_roots_right (da_cons (de_var (pv 0)) (da_cons (de_var (pv 1)) da_nil)))))))))))))))))))))))))))))))))))))))))
theorem b_law (T : Tx P K mg A) (G__law_cell : FnOk P w K mg base (L2.CX P w) 1 A.f__law_cell A.d__law_cell ["script", "k"] (spP K (c__law_cell A))) (G__law_right : FnOk P w K mg base (L2.CX P w) 9 A.f__law_right A.d__law_right ["source"] (spR K (c__law_right A))) (G__law_source : FnOk P w K mg base (L2.CX P w) 1 A.f__law_source A.d__law_source ["cell", "k"] (spP K (c__law_source A))) (cdv : Value) (Ar : Around) (outer : List Env) (s : Shared) (H : Hp) (E : XK) (hr : Room 9 (Ar.deeper (PyProof.Rows.envOfC "law" (defScope s_law) s.heap.objs.size A.f_law cdv))) (tk : Takes (cxF P w K mg base N_law "law" s_law A.f_law cdv Ar outer s H E) (wE E))
    (hp : PassesOwn (model P w) (Ar.deeper (PyProof.Rows.envOfC "law" (defScope s_law) s.heap.objs.size A.f_law cdv)) (PyProof.Rows.envOfC "law" (defScope s_law) s.heap.objs.size A.f_law cdv) (cxF P w K mg base N_law "law" s_law A.f_law cdv Ar outer s H E).xe) : PSs (cxF P w K mg base N_law "law" s_law A.f_law cdv Ar outer s H E) (defBody s_law) (liftS K (wE E) (t_law K A)) :=
 (dss_cons (ds_for hp rfl (di_range1 T.n_range (de_add (de_min2 rfl T.n_min (da_cons (de_len T.n_len (da_cons (de_var (pv 0)) da_nil)) (da_cons de_int da_nil))) de_int)) (dg_name (i := 1) sc_law.nd rfl (.inl rfl))
 (dss_one (ds_if (dt_not (dt_tru (de_callR tk G__law_right (hr.mono (by decide)) T.g__law_right T.F__law_right.kp T.b__law_right (da_cons (de_call tk G__law_source (hr.mono (by decide)) T.g__law_source T.F__law_source.kp T.b__law_source (da_cons (de_call tk G__law_cell (hr.mono (by decide)) T.g__law_cell T.F__law_cell.kp T.b__law_cell (da_cons (de_var (pv 0)) (da_cons (de_var (pv 1)) da_nil))) (da_cons (de_var (pv 1)) da_nil))) da_nil))))
 (dss_one (ds_ret de_bl))
 dss_nil)))
 (dss_one (ds_ret de_bl)))
end










theorem rlen__law_changed {A : Ad} (n : Nat) : ∀ ds R RE, r__law_changed A n ds R RE → ds.length = 3 := by
  rintro ds R RE ⟨_, _, _, _, _, rfl, _⟩
  rfl
theorem rvc__law_changed {K A} (n : Nat) (hn : n ≤ 50) {IHc : PCt} (hI : ∀ m ds R RE, n = m + 1 → r__law_changed A m ds R RE → IHc ds R RE) : ∀ ds R RE, r__law_changed A n ds R RE → t__law_changed K A IHc (pEnds R RE) (startD N__law_changed (ds.map fun d => some (.p d))) := vc__law_changed n IHc hI

theorem rlen__law_cut {A : Ad} (n : Nat) : ∀ ds R RE, r__law_cut A n ds R RE → ds.length = 2 := by
  rintro ds R RE ⟨_, _, _, _, rfl, _⟩
  rfl
theorem rvc__law_cut {K A} (n : Nat) (hn : n ≤ 50) {IHc : PCt} (hI : ∀ m ds R RE, n = m + 1 → r__law_cut A m ds R RE → IHc ds R RE) : ∀ ds R RE, r__law_cut A n ds R RE → t__law_cut K A IHc (pEnds R RE) (startD N__law_cut (ds.map fun d => some (.p d))) := vc__law_cut n IHc hI



theorem len__law_refused {A : Ad} : ∀ ds R RE, c__law_refused A ds R RE → ds.length = 4 := by
  rintro ds R RE ⟨s, h, _⟩
  cases h <;> rfl

section
variable {P : Program} {w : World} {K : PySem.W.Frag} {mg : Str → Option Value} {base : Heap} {A : Ad}
theorem ok__law_cell (T : Tx P K mg A) : FnOk P w K mg base (L2.CX P w) 1 A.f__law_cell A.d__law_cell ["script", "k"] (spP K (c__law_cell A)) :=
  okP T.F__law_cell sc__law_cell (by first | exact len__law_cell | (intro ds R RE h; unfold c__law_cell at h; (split at h <;> first | rfl | exact h.elim)) | (rintro ds R RE ⟨_, rfl, _⟩; rfl) | (rintro ds R RE ⟨_, _, rfl, _⟩; rfl) | (rintro ds R RE ⟨_, _, _, rfl, _⟩; rfl) | (rintro ds R RE ⟨_, _, _, _, rfl, _⟩; rfl) | (rintro ds R RE ⟨_, _, _, _, _, rfl, _⟩; rfl) | (rintro ds R RE ⟨_, _, _, _, _, _, rfl, _⟩; rfl) | (rintro ds R RE ⟨_, _, _, _, _, _, _, rfl, _⟩; rfl) | (rintro ds R RE ⟨_, _, _, _, _, _, _, _, rfl, _⟩; rfl) | (rintro ds R RE ⟨_, _, _, _, _, _, _, _, _, rfl, _⟩; rfl)) (fun cdv Ar outer s H E hr tk hp => b__law_cell T cdv Ar outer s H E hr tk hp) (by first | exact vc__law_cell | exact vc__law_cell T)
theorem ok__law_at (T : Tx P K mg A) : FnOk P w K mg base (L2.CX P w) 1 A.f__law_at A.d__law_at ["numbers", "x"] (spP K (c__law_at A)) :=
  okP T.F__law_at sc__law_at (by first | exact len__law_at | (intro ds R RE h; unfold c__law_at at h; (split at h <;> first | rfl | exact h.elim)) | (rintro ds R RE ⟨_, rfl, _⟩; rfl) | (rintro ds R RE ⟨_, _, rfl, _⟩; rfl) | (rintro ds R RE ⟨_, _, _, rfl, _⟩; rfl) | (rintro ds R RE ⟨_, _, _, _, rfl, _⟩; rfl) | (rintro ds R RE ⟨_, _, _, _, _, rfl, _⟩; rfl) | (rintro ds R RE ⟨_, _, _, _, _, _, rfl, _⟩; rfl) | (rintro ds R RE ⟨_, _, _, _, _, _, _, rfl, _⟩; rfl) | (rintro ds R RE ⟨_, _, _, _, _, _, _, _, rfl, _⟩; rfl) | (rintro ds R RE ⟨_, _, _, _, _, _, _, _, _, rfl, _⟩; rfl)) (fun cdv Ar outer s H E hr tk hp => b__law_at T cdv Ar outer s H E hr tk hp) (by first | exact vc__law_at | exact vc__law_at T)
theorem ok__law_changed_n (T : Tx P K mg A) : ∀ n : Nat, n ≤ 50 → FnOk P w K mg base (L2.CX P w) (n + 1) A.f__law_changed A.d__law_changed ["part", "at", "more"] (spP K (r__law_changed A n))
  | 0, hn => okP T.F__law_changed sc__law_changed (rlen__law_changed 0) (fun cdv Ar outer s H E hr tk hp => b__law_changed T (IHc := fun _ _ _ => False) ⟨fun _ _ _ _ ⟨_, _, _, _, _, _, z, _⟩ => z.elim, fun _ _ _ _ _ _ _ _ _ _ _ _ _ ⟨_, _, _, _, _, _, z, _⟩ => z.elim⟩ (Nat.zero_le _) cdv Ar outer s H E hr tk hp) (rvc__law_changed 0 hn (fun _ _ _ _ z => by omega))
  | n + 1, hn => okP T.F__law_changed sc__law_changed (rlen__law_changed (n + 1)) (fun cdv Ar outer s H E hr tk hp => b__law_changed T (ok__law_changed_n T n (by omega)) (Nat.le_refl _) cdv Ar outer s H E hr tk hp) (rvc__law_changed (n + 1) hn (fun m ds R RE z h => by cases z; exact h))
theorem ok__law_changed (T : Tx P K mg A) : FnOk P w K mg base (L2.CX P w) 7 A.f__law_changed A.d__law_changed ["part", "at", "more"] (spP K (c__law_changed A)) := (ok__law_changed_n T 5 (by decide)).mono (by decide)
theorem ok__law_cut_n (T : Tx P K mg A) : ∀ n : Nat, n ≤ 50 → FnOk P w K mg base (L2.CX P w) (n + 1) A.f__law_cut A.d__law_cut ["part", "at"] (spP K (r__law_cut A n))
  | 0, hn => okP T.F__law_cut sc__law_cut (rlen__law_cut 0) (fun cdv Ar outer s H E hr tk hp => b__law_cut T (IHc := fun _ _ _ => False) ⟨fun _ _ _ _ ⟨_, _, _, _, _, _, z, _⟩ => z.elim, fun _ _ _ _ _ _ _ _ _ _ _ _ _ ⟨_, _, _, _, _, _, z, _⟩ => z.elim⟩ (Nat.zero_le _) cdv Ar outer s H E hr tk hp) (rvc__law_cut 0 hn (fun _ _ _ _ z => by omega))
  | n + 1, hn => okP T.F__law_cut sc__law_cut (rlen__law_cut (n + 1)) (fun cdv Ar outer s H E hr tk hp => b__law_cut T (ok__law_cut_n T n (by omega)) (Nat.le_refl _) cdv Ar outer s H E hr tk hp) (rvc__law_cut (n + 1) hn (fun m ds R RE z h => by cases z; exact h))
theorem ok__law_cut (T : Tx P K mg A) : FnOk P w K mg base (L2.CX P w) 7 A.f__law_cut A.d__law_cut ["part", "at"] (spP K (c__law_cut A)) := (ok__law_cut_n T 5 (by decide)).mono (by decide)
theorem ok__law_pick (T : Tx P K mg A) : FnOk P w K mg base (L2.CX P w) 1 A.f__law_pick A.d__law_pick ["source", "many"] (spR K (c__law_pick A)) :=
  okR T.F__law_pick sc__law_pick (by first | exact len__law_pick | (intro n ds R RE h; unfold c__law_pick at h; (split at h <;> first | rfl | exact h.elim)) | (rintro n ds R RE ⟨_, rfl, _⟩; rfl) | (rintro n ds R RE ⟨_, _, rfl, _⟩; rfl) | (rintro n ds R RE ⟨_, _, _, rfl, _⟩; rfl) | (rintro n ds R RE ⟨_, _, _, _, rfl, _⟩; rfl) | (rintro n ds R RE ⟨_, _, _, _, _, rfl, _⟩; rfl) | (rintro n ds R RE ⟨_, _, _, _, _, _, rfl, _⟩; rfl) | (rintro n ds R RE ⟨_, _, _, _, _, _, _, rfl, _⟩; rfl) | (rintro n ds R RE ⟨_, _, _, _, _, _, _, _, rfl, _⟩; rfl) | (rintro n ds R RE ⟨_, _, _, _, _, _, _, _, _, rfl, _⟩; rfl)) (fun cdv Ar outer s H E hr tk hp => b__law_pick T cdv Ar outer s H E hr tk hp) (by first | exact vc__law_pick | exact vc__law_pick T)
theorem ok__law_bent (T : Tx P K mg A) : FnOk P w K mg base (L2.CX P w) 8 A.f__law_bent A.d__law_bent ["source", "claim"] (spR K (c__law_bent A)) :=
  okR T.F__law_bent sc__law_bent (by first | exact len__law_bent | (intro n ds R RE h; unfold c__law_bent at h; (split at h <;> first | rfl | exact h.elim)) | (rintro n ds R RE ⟨_, rfl, _⟩; rfl) | (rintro n ds R RE ⟨_, _, rfl, _⟩; rfl) | (rintro n ds R RE ⟨_, _, _, rfl, _⟩; rfl) | (rintro n ds R RE ⟨_, _, _, _, rfl, _⟩; rfl) | (rintro n ds R RE ⟨_, _, _, _, _, rfl, _⟩; rfl) | (rintro n ds R RE ⟨_, _, _, _, _, _, rfl, _⟩; rfl) | (rintro n ds R RE ⟨_, _, _, _, _, _, _, rfl, _⟩; rfl) | (rintro n ds R RE ⟨_, _, _, _, _, _, _, _, rfl, _⟩; rfl) | (rintro n ds R RE ⟨_, _, _, _, _, _, _, _, _, rfl, _⟩; rfl)) (fun cdv Ar outer s H E hr tk hp => b__law_bent T (ok__law_changed T) (ok__law_cut T) (ok__law_pick T) cdv Ar outer s H E hr tk hp) (by first | exact vc__law_bent | exact vc__law_bent T)
theorem ok__law_power (T : Tx P K mg A) : FnOk P w K mg base (L2.CX P w) 1 A.f__law_power A.d__law_power ["base", "e"] (spP K (c__law_power A)) :=
  okP T.F__law_power sc__law_power (by first | exact len__law_power | (intro ds R RE h; unfold c__law_power at h; (split at h <;> first | rfl | exact h.elim)) | (rintro ds R RE ⟨_, rfl, _⟩; rfl) | (rintro ds R RE ⟨_, _, rfl, _⟩; rfl) | (rintro ds R RE ⟨_, _, _, rfl, _⟩; rfl) | (rintro ds R RE ⟨_, _, _, _, rfl, _⟩; rfl) | (rintro ds R RE ⟨_, _, _, _, _, rfl, _⟩; rfl) | (rintro ds R RE ⟨_, _, _, _, _, _, rfl, _⟩; rfl) | (rintro ds R RE ⟨_, _, _, _, _, _, _, rfl, _⟩; rfl) | (rintro ds R RE ⟨_, _, _, _, _, _, _, _, rfl, _⟩; rfl) | (rintro ds R RE ⟨_, _, _, _, _, _, _, _, _, rfl, _⟩; rfl)) (fun cdv Ar outer s H E hr tk hp => b__law_power T cdv Ar outer s H E hr tk hp) (by first | exact vc__law_power | exact vc__law_power T)
theorem ok__law_slope (T : Tx P K mg A) : FnOk P w K mg base (L2.CX P w) 1 A.f__law_slope A.d__law_slope ["numbers"] (spP K (c__law_slope A)) :=
  okP T.F__law_slope sc__law_slope (by first | exact len__law_slope | (intro ds R RE h; unfold c__law_slope at h; (split at h <;> first | rfl | exact h.elim)) | (rintro ds R RE ⟨_, rfl, _⟩; rfl) | (rintro ds R RE ⟨_, _, rfl, _⟩; rfl) | (rintro ds R RE ⟨_, _, _, rfl, _⟩; rfl) | (rintro ds R RE ⟨_, _, _, _, rfl, _⟩; rfl) | (rintro ds R RE ⟨_, _, _, _, _, rfl, _⟩; rfl) | (rintro ds R RE ⟨_, _, _, _, _, _, rfl, _⟩; rfl) | (rintro ds R RE ⟨_, _, _, _, _, _, _, rfl, _⟩; rfl) | (rintro ds R RE ⟨_, _, _, _, _, _, _, _, rfl, _⟩; rfl) | (rintro ds R RE ⟨_, _, _, _, _, _, _, _, _, rfl, _⟩; rfl)) (fun cdv Ar outer s H E hr tk hp => b__law_slope T cdv Ar outer s H E hr tk hp) (by first | exact vc__law_slope | exact vc__law_slope T)
theorem ok__law_value (T : Tx P K mg A) : FnOk P w K mg base (L2.CX P w) 1 A.f__law_value A.d__law_value ["p", "low"] (spP K (c__law_value A)) :=
  okP T.F__law_value sc__law_value (by first | exact len__law_value | (intro ds R RE h; unfold c__law_value at h; (split at h <;> first | rfl | exact h.elim)) | (rintro ds R RE ⟨_, rfl, _⟩; rfl) | (rintro ds R RE ⟨_, _, rfl, _⟩; rfl) | (rintro ds R RE ⟨_, _, _, rfl, _⟩; rfl) | (rintro ds R RE ⟨_, _, _, _, rfl, _⟩; rfl) | (rintro ds R RE ⟨_, _, _, _, _, rfl, _⟩; rfl) | (rintro ds R RE ⟨_, _, _, _, _, _, rfl, _⟩; rfl) | (rintro ds R RE ⟨_, _, _, _, _, _, _, rfl, _⟩; rfl) | (rintro ds R RE ⟨_, _, _, _, _, _, _, _, rfl, _⟩; rfl) | (rintro ds R RE ⟨_, _, _, _, _, _, _, _, _, rfl, _⟩; rfl)) (fun cdv Ar outer s H E hr tk hp => b__law_value T cdv Ar outer s H E hr tk hp) (by first | exact vc__law_value | exact vc__law_value T)
theorem ok__law_due (T : Tx P K mg A) : FnOk P w K mg base (L2.CX P w) 2 A.f__law_due A.d__law_due ["p", "numbers", "places", "claim"] (spP K (c__law_due A)) :=
  okP T.F__law_due sc__law_due (by first | exact len__law_due | (intro ds R RE h; unfold c__law_due at h; (split at h <;> first | rfl | exact h.elim)) | (rintro ds R RE ⟨_, rfl, _⟩; rfl) | (rintro ds R RE ⟨_, _, rfl, _⟩; rfl) | (rintro ds R RE ⟨_, _, _, rfl, _⟩; rfl) | (rintro ds R RE ⟨_, _, _, _, rfl, _⟩; rfl) | (rintro ds R RE ⟨_, _, _, _, _, rfl, _⟩; rfl) | (rintro ds R RE ⟨_, _, _, _, _, _, rfl, _⟩; rfl) | (rintro ds R RE ⟨_, _, _, _, _, _, _, rfl, _⟩; rfl) | (rintro ds R RE ⟨_, _, _, _, _, _, _, _, rfl, _⟩; rfl) | (rintro ds R RE ⟨_, _, _, _, _, _, _, _, _, rfl, _⟩; rfl)) (fun cdv Ar outer s H E hr tk hp => b__law_due T (ok__law_at T) (ok__law_power T) (ok__law_slope T) (ok__law_value T) cdv Ar outer s H E hr tk hp) (by first | exact vc__law_due | exact vc__law_due T)
theorem ok__law_gcd (T : Tx P K mg A) : FnOk P w K mg base (L2.CX P w) 1 A.f__law_gcd A.d__law_gcd ["one", "other"] (spP K (c__law_gcd A)) :=
  okP T.F__law_gcd sc__law_gcd (by first | exact len__law_gcd | (intro ds R RE h; unfold c__law_gcd at h; (split at h <;> first | rfl | exact h.elim)) | (rintro ds R RE ⟨_, rfl, _⟩; rfl) | (rintro ds R RE ⟨_, _, rfl, _⟩; rfl) | (rintro ds R RE ⟨_, _, _, rfl, _⟩; rfl) | (rintro ds R RE ⟨_, _, _, _, rfl, _⟩; rfl) | (rintro ds R RE ⟨_, _, _, _, _, rfl, _⟩; rfl) | (rintro ds R RE ⟨_, _, _, _, _, _, rfl, _⟩; rfl) | (rintro ds R RE ⟨_, _, _, _, _, _, _, rfl, _⟩; rfl) | (rintro ds R RE ⟨_, _, _, _, _, _, _, _, rfl, _⟩; rfl) | (rintro ds R RE ⟨_, _, _, _, _, _, _, _, _, rfl, _⟩; rfl)) (fun cdv Ar outer s H E hr tk hp => b__law_gcd T cdv Ar outer s H E hr tk hp) (by first | exact vc__law_gcd | exact vc__law_gcd T)
theorem ok__law_great (T : Tx P K mg A) : FnOk P w K mg base (L2.CX P w) 2 A.f__law_great A.d__law_great ["source"] (spR K (c__law_great A)) :=
  okR T.F__law_great sc__law_great (by first | exact len__law_great | (intro n ds R RE h; unfold c__law_great at h; (split at h <;> first | rfl | exact h.elim)) | (rintro n ds R RE ⟨_, rfl, _⟩; rfl) | (rintro n ds R RE ⟨_, _, rfl, _⟩; rfl) | (rintro n ds R RE ⟨_, _, _, rfl, _⟩; rfl) | (rintro n ds R RE ⟨_, _, _, _, rfl, _⟩; rfl) | (rintro n ds R RE ⟨_, _, _, _, _, rfl, _⟩; rfl) | (rintro n ds R RE ⟨_, _, _, _, _, _, rfl, _⟩; rfl) | (rintro n ds R RE ⟨_, _, _, _, _, _, _, rfl, _⟩; rfl) | (rintro n ds R RE ⟨_, _, _, _, _, _, _, _, rfl, _⟩; rfl) | (rintro n ds R RE ⟨_, _, _, _, _, _, _, _, _, rfl, _⟩; rfl)) (fun cdv Ar outer s H E hr tk hp => b__law_great T (ok__law_pick T) cdv Ar outer s H E hr tk hp) (by first | exact vc__law_great | exact vc__law_great T)
theorem ok_back (T : Tx P K mg A) : FnOk P w K mg base (L2.CX P w) 1 A.f_back A.d_back ["number", "modulus"] (spP K (c_back A)) :=
  okP T.F_back sc_back (by first | exact len_back | (intro ds R RE h; unfold c_back at h; (split at h <;> first | rfl | exact h.elim)) | (rintro ds R RE ⟨_, rfl, _⟩; rfl) | (rintro ds R RE ⟨_, _, rfl, _⟩; rfl) | (rintro ds R RE ⟨_, _, _, rfl, _⟩; rfl) | (rintro ds R RE ⟨_, _, _, _, rfl, _⟩; rfl) | (rintro ds R RE ⟨_, _, _, _, _, rfl, _⟩; rfl) | (rintro ds R RE ⟨_, _, _, _, _, _, rfl, _⟩; rfl) | (rintro ds R RE ⟨_, _, _, _, _, _, _, rfl, _⟩; rfl) | (rintro ds R RE ⟨_, _, _, _, _, _, _, _, rfl, _⟩; rfl) | (rintro ds R RE ⟨_, _, _, _, _, _, _, _, _, rfl, _⟩; rfl)) (fun cdv Ar outer s H E hr tk hp => b_back T cdv Ar outer s H E hr tk hp) (by first | exact vc_back | exact vc_back T)
theorem ok_shared (T : Tx P K mg A) : FnOk P w K mg base (L2.CX P w) 1 A.f_shared A.d_shared ["one", "other"] (spP K (c_shared A)) :=
  okP T.F_shared sc_shared (by first | exact len_shared | (intro ds R RE h; unfold c_shared at h; (split at h <;> first | rfl | exact h.elim)) | (rintro ds R RE ⟨_, rfl, _⟩; rfl) | (rintro ds R RE ⟨_, _, rfl, _⟩; rfl) | (rintro ds R RE ⟨_, _, _, rfl, _⟩; rfl) | (rintro ds R RE ⟨_, _, _, _, rfl, _⟩; rfl) | (rintro ds R RE ⟨_, _, _, _, _, rfl, _⟩; rfl) | (rintro ds R RE ⟨_, _, _, _, _, _, rfl, _⟩; rfl) | (rintro ds R RE ⟨_, _, _, _, _, _, _, rfl, _⟩; rfl) | (rintro ds R RE ⟨_, _, _, _, _, _, _, _, rfl, _⟩; rfl) | (rintro ds R RE ⟨_, _, _, _, _, _, _, _, _, rfl, _⟩; rfl)) (fun cdv Ar outer s H E hr tk hp => b_shared T cdv Ar outer s H E hr tk hp) (by first | exact vc_shared | exact vc_shared T)
theorem ok_is_fraction (T : Tx P K mg A) : FnOk P w K mg base (L2.CX P w) 2 A.f_is_fraction A.d_is_fraction ["pair"] (spP K (c_is_fraction A)) :=
  okP T.F_is_fraction sc_is_fraction (by first | exact len_is_fraction | (intro ds R RE h; unfold c_is_fraction at h; (split at h <;> first | rfl | exact h.elim)) | (rintro ds R RE ⟨_, rfl, _⟩; rfl) | (rintro ds R RE ⟨_, _, rfl, _⟩; rfl) | (rintro ds R RE ⟨_, _, _, rfl, _⟩; rfl) | (rintro ds R RE ⟨_, _, _, _, rfl, _⟩; rfl) | (rintro ds R RE ⟨_, _, _, _, _, rfl, _⟩; rfl) | (rintro ds R RE ⟨_, _, _, _, _, _, rfl, _⟩; rfl) | (rintro ds R RE ⟨_, _, _, _, _, _, _, rfl, _⟩; rfl) | (rintro ds R RE ⟨_, _, _, _, _, _, _, _, rfl, _⟩; rfl) | (rintro ds R RE ⟨_, _, _, _, _, _, _, _, _, rfl, _⟩; rfl)) (fun cdv Ar outer s H E hr tk hp => b_is_fraction T (ok_shared T) cdv Ar outer s H E hr tk hp) (by first | exact vc_is_fraction | exact vc_is_fraction T)
theorem ok_known (T : Tx P K mg A) : FnOk P w K mg base (L2.CX P w) 3 A.f_known A.d_known ["pair"] (spP K (c_known A)) :=
  okP T.F_known sc_known (by first | exact len_known | (intro ds R RE h; unfold c_known at h; (split at h <;> first | rfl | exact h.elim)) | (rintro ds R RE ⟨_, rfl, _⟩; rfl) | (rintro ds R RE ⟨_, _, rfl, _⟩; rfl) | (rintro ds R RE ⟨_, _, _, rfl, _⟩; rfl) | (rintro ds R RE ⟨_, _, _, _, rfl, _⟩; rfl) | (rintro ds R RE ⟨_, _, _, _, _, rfl, _⟩; rfl) | (rintro ds R RE ⟨_, _, _, _, _, _, rfl, _⟩; rfl) | (rintro ds R RE ⟨_, _, _, _, _, _, _, rfl, _⟩; rfl) | (rintro ds R RE ⟨_, _, _, _, _, _, _, _, rfl, _⟩; rfl) | (rintro ds R RE ⟨_, _, _, _, _, _, _, _, _, rfl, _⟩; rfl)) (fun cdv Ar outer s H E hr tk hp => b_known T (ok_is_fraction T) cdv Ar outer s H E hr tk hp) (by first | exact vc_known | exact vc_known T)
theorem ok_prime_of (T : Tx P K mg A) : FnOk P w K mg base (L2.CX P w) 1 A.f_prime_of A.d_prime_of ["p"] (spP K (c_prime_of A)) :=
  okP T.F_prime_of sc_prime_of (by first | exact len_prime_of | (intro ds R RE h; unfold c_prime_of at h; (split at h <;> first | rfl | exact h.elim)) | (rintro ds R RE ⟨_, rfl, _⟩; rfl) | (rintro ds R RE ⟨_, _, rfl, _⟩; rfl) | (rintro ds R RE ⟨_, _, _, rfl, _⟩; rfl) | (rintro ds R RE ⟨_, _, _, _, rfl, _⟩; rfl) | (rintro ds R RE ⟨_, _, _, _, _, rfl, _⟩; rfl) | (rintro ds R RE ⟨_, _, _, _, _, _, rfl, _⟩; rfl) | (rintro ds R RE ⟨_, _, _, _, _, _, _, rfl, _⟩; rfl) | (rintro ds R RE ⟨_, _, _, _, _, _, _, _, rfl, _⟩; rfl) | (rintro ds R RE ⟨_, _, _, _, _, _, _, _, _, rfl, _⟩; rfl)) (fun cdv Ar outer s H E hr tk hp => b_prime_of T cdv Ar outer s H E hr tk hp) (by first | exact vc_prime_of | exact vc_prime_of T)
theorem ok_going_round (T : Tx P K mg A) : FnOk P w K mg base (L2.CX P w) 4 A.f_going_round A.d_going_round ["p", "pair"] (spP K (c_going_round A)) :=
  okP T.F_going_round sc_going_round (by first | exact len_going_round | (intro ds R RE h; unfold c_going_round at h; (split at h <;> first | rfl | exact h.elim)) | (rintro ds R RE ⟨_, rfl, _⟩; rfl) | (rintro ds R RE ⟨_, _, rfl, _⟩; rfl) | (rintro ds R RE ⟨_, _, _, rfl, _⟩; rfl) | (rintro ds R RE ⟨_, _, _, _, rfl, _⟩; rfl) | (rintro ds R RE ⟨_, _, _, _, _, rfl, _⟩; rfl) | (rintro ds R RE ⟨_, _, _, _, _, _, rfl, _⟩; rfl) | (rintro ds R RE ⟨_, _, _, _, _, _, _, rfl, _⟩; rfl) | (rintro ds R RE ⟨_, _, _, _, _, _, _, _, rfl, _⟩; rfl) | (rintro ds R RE ⟨_, _, _, _, _, _, _, _, _, rfl, _⟩; rfl)) (fun cdv Ar outer s H E hr tk hp => b_going_round T (ok_back T) (ok_known T) (ok_prime_of T) cdv Ar outer s H E hr tk hp) (by first | exact vc_going_round | exact vc_going_round T)
theorem ok_places_of (T : Tx P K mg A) : FnOk P w K mg base (L2.CX P w) 1 A.f_places_of A.d_places_of ["places"] (spP K (c_places_of A)) :=
  okP T.F_places_of sc_places_of (by first | exact len_places_of | (intro ds R RE h; unfold c_places_of at h; (split at h <;> first | rfl | exact h.elim)) | (rintro ds R RE ⟨_, rfl, _⟩; rfl) | (rintro ds R RE ⟨_, _, rfl, _⟩; rfl) | (rintro ds R RE ⟨_, _, _, rfl, _⟩; rfl) | (rintro ds R RE ⟨_, _, _, _, rfl, _⟩; rfl) | (rintro ds R RE ⟨_, _, _, _, _, rfl, _⟩; rfl) | (rintro ds R RE ⟨_, _, _, _, _, _, rfl, _⟩; rfl) | (rintro ds R RE ⟨_, _, _, _, _, _, _, rfl, _⟩; rfl) | (rintro ds R RE ⟨_, _, _, _, _, _, _, _, rfl, _⟩; rfl) | (rintro ds R RE ⟨_, _, _, _, _, _, _, _, _, rfl, _⟩; rfl)) (fun cdv Ar outer s H E hr tk hp => b_places_of T cdv Ar outer s H E hr tk hp) (by first | exact vc_places_of | exact vc_places_of T)
theorem ok_polynomial_at (T : Tx P K mg A) : FnOk P w K mg base (L2.CX P w) 1 A.f_polynomial_at A.d_polynomial_at ["numbers", "x"] (spP K (c_polynomial_at A)) :=
  okP T.F_polynomial_at sc_polynomial_at (by first | exact len_polynomial_at | (intro ds R RE h; unfold c_polynomial_at at h; (split at h <;> first | rfl | exact h.elim)) | (rintro ds R RE ⟨_, rfl, _⟩; rfl) | (rintro ds R RE ⟨_, _, rfl, _⟩; rfl) | (rintro ds R RE ⟨_, _, _, rfl, _⟩; rfl) | (rintro ds R RE ⟨_, _, _, _, rfl, _⟩; rfl) | (rintro ds R RE ⟨_, _, _, _, _, rfl, _⟩; rfl) | (rintro ds R RE ⟨_, _, _, _, _, _, rfl, _⟩; rfl) | (rintro ds R RE ⟨_, _, _, _, _, _, _, rfl, _⟩; rfl) | (rintro ds R RE ⟨_, _, _, _, _, _, _, _, rfl, _⟩; rfl) | (rintro ds R RE ⟨_, _, _, _, _, _, _, _, _, rfl, _⟩; rfl)) (fun cdv Ar outer s H E hr tk hp => b_polynomial_at T cdv Ar outer s H E hr tk hp) (by first | exact vc_polynomial_at | exact vc_polynomial_at T)
theorem ok_slope (T : Tx P K mg A) : FnOk P w K mg base (L2.CX P w) 1 A.f_slope A.d_slope ["numbers"] (spP K (c_slope A)) :=
  okP T.F_slope sc_slope (by first | exact len_slope | (intro ds R RE h; unfold c_slope at h; (split at h <;> first | rfl | exact h.elim)) | (rintro ds R RE ⟨_, rfl, _⟩; rfl) | (rintro ds R RE ⟨_, _, rfl, _⟩; rfl) | (rintro ds R RE ⟨_, _, _, rfl, _⟩; rfl) | (rintro ds R RE ⟨_, _, _, _, rfl, _⟩; rfl) | (rintro ds R RE ⟨_, _, _, _, _, rfl, _⟩; rfl) | (rintro ds R RE ⟨_, _, _, _, _, _, rfl, _⟩; rfl) | (rintro ds R RE ⟨_, _, _, _, _, _, _, rfl, _⟩; rfl) | (rintro ds R RE ⟨_, _, _, _, _, _, _, _, rfl, _⟩; rfl) | (rintro ds R RE ⟨_, _, _, _, _, _, _, _, _, rfl, _⟩; rfl)) (fun cdv Ar outer s H E hr tk hp => b_slope T cdv Ar outer s H E hr tk hp) (by first | exact vc_slope | exact vc_slope T)
theorem ok_lifted (T : Tx P K mg A) : FnOk P w K mg base (L2.CX P w) 2 A.f_lifted A.d_lifted ["p", "numbers", "begin", "places"] (spP K (c_lifted A)) :=
  okP T.F_lifted sc_lifted (by first | exact len_lifted | (intro ds R RE h; unfold c_lifted at h; (split at h <;> first | rfl | exact h.elim)) | (rintro ds R RE ⟨_, rfl, _⟩; rfl) | (rintro ds R RE ⟨_, _, rfl, _⟩; rfl) | (rintro ds R RE ⟨_, _, _, rfl, _⟩; rfl) | (rintro ds R RE ⟨_, _, _, _, rfl, _⟩; rfl) | (rintro ds R RE ⟨_, _, _, _, _, rfl, _⟩; rfl) | (rintro ds R RE ⟨_, _, _, _, _, _, rfl, _⟩; rfl) | (rintro ds R RE ⟨_, _, _, _, _, _, _, rfl, _⟩; rfl) | (rintro ds R RE ⟨_, _, _, _, _, _, _, _, rfl, _⟩; rfl) | (rintro ds R RE ⟨_, _, _, _, _, _, _, _, _, rfl, _⟩; rfl)) (fun cdv Ar outer s H E hr tk hp => b_lifted T (ok_back T) (ok_places_of T) (ok_polynomial_at T) (ok_prime_of T) (ok_slope T) cdv Ar outer s H E hr tk hp) (by first | exact vc_lifted | exact vc_lifted T)
theorem ok_power (T : Tx P K mg A) : FnOk P w K mg base (L2.CX P w) 1 A.f_power A.d_power ["base", "e"] (spP K (c_power A)) :=
  okP T.F_power sc_power (by first | exact len_power | (intro ds R RE h; unfold c_power at h; (split at h <;> first | rfl | exact h.elim)) | (rintro ds R RE ⟨_, rfl, _⟩; rfl) | (rintro ds R RE ⟨_, _, rfl, _⟩; rfl) | (rintro ds R RE ⟨_, _, _, rfl, _⟩; rfl) | (rintro ds R RE ⟨_, _, _, _, rfl, _⟩; rfl) | (rintro ds R RE ⟨_, _, _, _, _, rfl, _⟩; rfl) | (rintro ds R RE ⟨_, _, _, _, _, _, rfl, _⟩; rfl) | (rintro ds R RE ⟨_, _, _, _, _, _, _, rfl, _⟩; rfl) | (rintro ds R RE ⟨_, _, _, _, _, _, _, _, rfl, _⟩; rfl) | (rintro ds R RE ⟨_, _, _, _, _, _, _, _, _, rfl, _⟩; rfl)) (fun cdv Ar outer s H E hr tk hp => b_power T cdv Ar outer s H E hr tk hp) (by first | exact vc_power | exact vc_power T)
theorem ok_of_fraction (T : Tx P K mg A) : FnOk P w K mg base (L2.CX P w) 4 A.f_of_fraction A.d_of_fraction ["p", "pair", "places"] (spP K (c_of_fraction A)) :=
  okP T.F_of_fraction sc_of_fraction (by first | exact len_of_fraction | (intro ds R RE h; unfold c_of_fraction at h; (split at h <;> first | rfl | exact h.elim)) | (rintro ds R RE ⟨_, rfl, _⟩; rfl) | (rintro ds R RE ⟨_, _, rfl, _⟩; rfl) | (rintro ds R RE ⟨_, _, _, rfl, _⟩; rfl) | (rintro ds R RE ⟨_, _, _, _, rfl, _⟩; rfl) | (rintro ds R RE ⟨_, _, _, _, _, rfl, _⟩; rfl) | (rintro ds R RE ⟨_, _, _, _, _, _, rfl, _⟩; rfl) | (rintro ds R RE ⟨_, _, _, _, _, _, _, rfl, _⟩; rfl) | (rintro ds R RE ⟨_, _, _, _, _, _, _, _, rfl, _⟩; rfl) | (rintro ds R RE ⟨_, _, _, _, _, _, _, _, _, rfl, _⟩; rfl)) (fun cdv Ar outer s H E hr tk hp => b_of_fraction T (ok_back T) (ok_known T) (ok_places_of T) (ok_power T) (ok_prime_of T) cdv Ar outer s H E hr tk hp) (by first | exact vc_of_fraction | exact vc_of_fraction T)
theorem ok_often (T : Tx P K mg A) : FnOk P w K mg base (L2.CX P w) 4 A.f_often A.d_often ["p", "pair"] (spP K (c_often A)) :=
  okP T.F_often sc_often (by first | exact len_often | (intro ds R RE h; unfold c_often at h; (split at h <;> first | rfl | exact h.elim)) | (rintro ds R RE ⟨_, rfl, _⟩; rfl) | (rintro ds R RE ⟨_, _, rfl, _⟩; rfl) | (rintro ds R RE ⟨_, _, _, rfl, _⟩; rfl) | (rintro ds R RE ⟨_, _, _, _, rfl, _⟩; rfl) | (rintro ds R RE ⟨_, _, _, _, _, rfl, _⟩; rfl) | (rintro ds R RE ⟨_, _, _, _, _, _, rfl, _⟩; rfl) | (rintro ds R RE ⟨_, _, _, _, _, _, _, rfl, _⟩; rfl) | (rintro ds R RE ⟨_, _, _, _, _, _, _, _, rfl, _⟩; rfl) | (rintro ds R RE ⟨_, _, _, _, _, _, _, _, _, rfl, _⟩; rfl)) (fun cdv Ar outer s H E hr tk hp => b_often T (ok_known T) (ok_prime_of T) cdv Ar outer s H E hr tk hp) (by first | exact vc_often | exact vc_often T)
theorem ok_own_squares (T : Tx P K mg A) : FnOk P w K mg base (L2.CX P w) 2 A.f_own_squares A.d_own_squares ["base", "places"] (spP K (c_own_squares A)) :=
  okP T.F_own_squares sc_own_squares (by first | exact len_own_squares | (intro ds R RE h; unfold c_own_squares at h; (split at h <;> first | rfl | exact h.elim)) | (rintro ds R RE ⟨_, rfl, _⟩; rfl) | (rintro ds R RE ⟨_, _, rfl, _⟩; rfl) | (rintro ds R RE ⟨_, _, _, rfl, _⟩; rfl) | (rintro ds R RE ⟨_, _, _, _, rfl, _⟩; rfl) | (rintro ds R RE ⟨_, _, _, _, _, rfl, _⟩; rfl) | (rintro ds R RE ⟨_, _, _, _, _, _, rfl, _⟩; rfl) | (rintro ds R RE ⟨_, _, _, _, _, _, _, rfl, _⟩; rfl) | (rintro ds R RE ⟨_, _, _, _, _, _, _, _, rfl, _⟩; rfl) | (rintro ds R RE ⟨_, _, _, _, _, _, _, _, _, rfl, _⟩; rfl)) (fun cdv Ar outer s H E hr tk hp => b_own_squares T (ok_power T) cdv Ar outer s H E hr tk hp) (by first | exact vc_own_squares | exact vc_own_squares T)
theorem ok_square_roots (T : Tx P K mg A) : FnOk P w K mg base (L2.CX P w) 3 A.f_square_roots A.d_square_roots ["p", "n", "places"] (spP K (c_square_roots A)) :=
  okP T.F_square_roots sc_square_roots (by first | exact len_square_roots | (intro ds R RE h; unfold c_square_roots at h; (split at h <;> first | rfl | exact h.elim)) | (rintro ds R RE ⟨_, rfl, _⟩; rfl) | (rintro ds R RE ⟨_, _, rfl, _⟩; rfl) | (rintro ds R RE ⟨_, _, _, rfl, _⟩; rfl) | (rintro ds R RE ⟨_, _, _, _, rfl, _⟩; rfl) | (rintro ds R RE ⟨_, _, _, _, _, rfl, _⟩; rfl) | (rintro ds R RE ⟨_, _, _, _, _, _, rfl, _⟩; rfl) | (rintro ds R RE ⟨_, _, _, _, _, _, _, rfl, _⟩; rfl) | (rintro ds R RE ⟨_, _, _, _, _, _, _, _, rfl, _⟩; rfl) | (rintro ds R RE ⟨_, _, _, _, _, _, _, _, _, rfl, _⟩; rfl)) (fun cdv Ar outer s H E hr tk hp => b_square_roots T (ok_lifted T) (ok_prime_of T) (ok_shared T) cdv Ar outer s H E hr tk hp) (by first | exact vc_square_roots | exact vc_square_roots T)
theorem ok__law_refused (T : Tx P K mg A) : FnOk P w K mg base (L2.CX P w) 5 A.f__law_refused A.d__law_refused ["which", "one", "two", "three"] (spP K (c__law_refused A)) :=
  okP T.F__law_refused sc__law_refused (by first | exact len__law_refused | (intro ds R RE h; unfold c__law_refused at h; (split at h <;> first | rfl | exact h.elim)) | (rintro ds R RE ⟨_, rfl, _⟩; rfl) | (rintro ds R RE ⟨_, _, rfl, _⟩; rfl) | (rintro ds R RE ⟨_, _, _, rfl, _⟩; rfl) | (rintro ds R RE ⟨_, _, _, _, rfl, _⟩; rfl) | (rintro ds R RE ⟨_, _, _, _, _, rfl, _⟩; rfl) | (rintro ds R RE ⟨_, _, _, _, _, _, rfl, _⟩; rfl) | (rintro ds R RE ⟨_, _, _, _, _, _, _, rfl, _⟩; rfl) | (rintro ds R RE ⟨_, _, _, _, _, _, _, _, rfl, _⟩; rfl) | (rintro ds R RE ⟨_, _, _, _, _, _, _, _, _, rfl, _⟩; rfl)) (fun cdv Ar outer s H E hr tk hp => b__law_refused T (ok_back T) (ok_going_round T) (ok_lifted T) (ok_of_fraction T) (ok_often T) (ok_own_squares T) (ok_square_roots T) cdv Ar outer s H E hr tk hp) (by first | exact vc__law_refused | exact vc__law_refused T)
theorem ok_added (T : Tx P K mg A) : FnOk P w K mg base (L2.CX P w) 2 A.f_added A.d_added ["p", "one", "other"] (spP K (c_added A)) :=
  okP T.F_added sc_added (by first | exact len_added | (intro ds R RE h; unfold c_added at h; (split at h <;> first | rfl | exact h.elim)) | (rintro ds R RE ⟨_, rfl, _⟩; rfl) | (rintro ds R RE ⟨_, _, rfl, _⟩; rfl) | (rintro ds R RE ⟨_, _, _, rfl, _⟩; rfl) | (rintro ds R RE ⟨_, _, _, _, rfl, _⟩; rfl) | (rintro ds R RE ⟨_, _, _, _, _, rfl, _⟩; rfl) | (rintro ds R RE ⟨_, _, _, _, _, _, rfl, _⟩; rfl) | (rintro ds R RE ⟨_, _, _, _, _, _, _, rfl, _⟩; rfl) | (rintro ds R RE ⟨_, _, _, _, _, _, _, _, rfl, _⟩; rfl) | (rintro ds R RE ⟨_, _, _, _, _, _, _, _, _, rfl, _⟩; rfl)) (fun cdv Ar outer s H E hr tk hp => b_added T (ok_prime_of T) cdv Ar outer s H E hr tk hp) (by first | exact vc_added | exact vc_added T)
theorem ok__law_roots_right (T : Tx P K mg A) : FnOk P w K mg base (L2.CX P w) 6 A.f__law_roots_right A.d__law_roots_right ["source", "p"] (spR K (c__law_roots_right A)) :=
  okR T.F__law_roots_right sc__law_roots_right (by first | exact len__law_roots_right | (intro n ds R RE h; unfold c__law_roots_right at h; (split at h <;> first | rfl | exact h.elim)) | (rintro n ds R RE ⟨_, rfl, _⟩; rfl) | (rintro n ds R RE ⟨_, _, rfl, _⟩; rfl) | (rintro n ds R RE ⟨_, _, _, rfl, _⟩; rfl) | (rintro n ds R RE ⟨_, _, _, _, rfl, _⟩; rfl) | (rintro n ds R RE ⟨_, _, _, _, _, rfl, _⟩; rfl) | (rintro n ds R RE ⟨_, _, _, _, _, _, rfl, _⟩; rfl) | (rintro n ds R RE ⟨_, _, _, _, _, _, _, rfl, _⟩; rfl) | (rintro n ds R RE ⟨_, _, _, _, _, _, _, _, rfl, _⟩; rfl) | (rintro n ds R RE ⟨_, _, _, _, _, _, _, _, _, rfl, _⟩; rfl)) (fun cdv Ar outer s H E hr tk hp => b__law_roots_right T (ok__law_pick T) (ok__law_power T) (ok__law_refused T) (ok__law_value T) (ok_added T) (ok_own_squares T) (ok_square_roots T) cdv Ar outer s H E hr tk hp) (by first | exact vc__law_roots_right | exact vc__law_roots_right T)
theorem ok_checked (T : Tx P K mg A) : FnOk P w K mg base (L2.CX P w) 1 A.f_checked A.d_checked ["n"] (spP K (c_checked A)) :=
  okP T.F_checked sc_checked (by first | exact len_checked | (intro ds R RE h; unfold c_checked at h; (split at h <;> first | rfl | exact h.elim)) | (rintro ds R RE ⟨_, rfl, _⟩; rfl) | (rintro ds R RE ⟨_, _, rfl, _⟩; rfl) | (rintro ds R RE ⟨_, _, _, rfl, _⟩; rfl) | (rintro ds R RE ⟨_, _, _, _, rfl, _⟩; rfl) | (rintro ds R RE ⟨_, _, _, _, _, rfl, _⟩; rfl) | (rintro ds R RE ⟨_, _, _, _, _, _, rfl, _⟩; rfl) | (rintro ds R RE ⟨_, _, _, _, _, _, _, rfl, _⟩; rfl) | (rintro ds R RE ⟨_, _, _, _, _, _, _, _, rfl, _⟩; rfl) | (rintro ds R RE ⟨_, _, _, _, _, _, _, _, _, rfl, _⟩; rfl)) (fun cdv Ar outer s H E hr tk hp => b_checked T cdv Ar outer s H E hr tk hp) (by first | exact vc_checked | exact vc_checked T)
theorem ok_fraction (T : Tx P K mg A) : FnOk P w K mg base (L2.CX P w) 2 A.f_fraction A.d_fraction ["number", "under"] (spP K (c_fraction A)) :=
  okP T.F_fraction sc_fraction (by first | exact len_fraction | (intro ds R RE h; unfold c_fraction at h; (split at h <;> first | rfl | exact h.elim)) | (rintro ds R RE ⟨_, rfl, _⟩; rfl) | (rintro ds R RE ⟨_, _, rfl, _⟩; rfl) | (rintro ds R RE ⟨_, _, _, rfl, _⟩; rfl) | (rintro ds R RE ⟨_, _, _, _, rfl, _⟩; rfl) | (rintro ds R RE ⟨_, _, _, _, _, rfl, _⟩; rfl) | (rintro ds R RE ⟨_, _, _, _, _, _, rfl, _⟩; rfl) | (rintro ds R RE ⟨_, _, _, _, _, _, _, rfl, _⟩; rfl) | (rintro ds R RE ⟨_, _, _, _, _, _, _, _, rfl, _⟩; rfl) | (rintro ds R RE ⟨_, _, _, _, _, _, _, _, _, rfl, _⟩; rfl)) (fun cdv Ar outer s H E hr tk hp => b_fraction T (ok_checked T) (ok_shared T) cdv Ar outer s H E hr tk hp) (by first | exact vc_fraction | exact vc_fraction T)
theorem ok_lifted_right (T : Tx P K mg A) : FnOk P w K mg base (L2.CX P w) 2 A.f_lifted_right A.d_lifted_right ["p", "numbers", "places", "claim"] (spP K (c_lifted_right A)) :=
  okP T.F_lifted_right sc_lifted_right (by first | exact len_lifted_right | (intro ds R RE h; unfold c_lifted_right at h; (split at h <;> first | rfl | exact h.elim)) | (rintro ds R RE ⟨_, rfl, _⟩; rfl) | (rintro ds R RE ⟨_, _, rfl, _⟩; rfl) | (rintro ds R RE ⟨_, _, _, rfl, _⟩; rfl) | (rintro ds R RE ⟨_, _, _, _, rfl, _⟩; rfl) | (rintro ds R RE ⟨_, _, _, _, _, rfl, _⟩; rfl) | (rintro ds R RE ⟨_, _, _, _, _, _, rfl, _⟩; rfl) | (rintro ds R RE ⟨_, _, _, _, _, _, _, rfl, _⟩; rfl) | (rintro ds R RE ⟨_, _, _, _, _, _, _, _, rfl, _⟩; rfl) | (rintro ds R RE ⟨_, _, _, _, _, _, _, _, _, rfl, _⟩; rfl)) (fun cdv Ar outer s H E hr tk hp => b_lifted_right T (ok_polynomial_at T) (ok_power T) (ok_slope T) cdv Ar outer s H E hr tk hp) (by first | exact vc_lifted_right | exact vc_lifted_right T)
theorem ok_product (T : Tx P K mg A) : FnOk P w K mg base (L2.CX P w) 2 A.f_product A.d_product ["p", "one", "other"] (spP K (c_product A)) :=
  okP T.F_product sc_product (by first | exact len_product | (intro ds R RE h; unfold c_product at h; (split at h <;> first | rfl | exact h.elim)) | (rintro ds R RE ⟨_, rfl, _⟩; rfl) | (rintro ds R RE ⟨_, _, rfl, _⟩; rfl) | (rintro ds R RE ⟨_, _, _, rfl, _⟩; rfl) | (rintro ds R RE ⟨_, _, _, _, rfl, _⟩; rfl) | (rintro ds R RE ⟨_, _, _, _, _, rfl, _⟩; rfl) | (rintro ds R RE ⟨_, _, _, _, _, _, rfl, _⟩; rfl) | (rintro ds R RE ⟨_, _, _, _, _, _, _, rfl, _⟩; rfl) | (rintro ds R RE ⟨_, _, _, _, _, _, _, _, rfl, _⟩; rfl) | (rintro ds R RE ⟨_, _, _, _, _, _, _, _, _, rfl, _⟩; rfl)) (fun cdv Ar outer s H E hr tk hp => b_product T (ok_power T) (ok_prime_of T) cdv Ar outer s H E hr tk hp) (by first | exact vc_product | exact vc_product T)
theorem ok_value_of (T : Tx P K mg A) : FnOk P w K mg base (L2.CX P w) 3 A.f_value_of A.d_value_of ["p", "front", "round_of"] (spP K (c_value_of A)) :=
  okP T.F_value_of sc_value_of (by first | exact len_value_of | (intro ds R RE h; unfold c_value_of at h; (split at h <;> first | rfl | exact h.elim)) | (rintro ds R RE ⟨_, rfl, _⟩; rfl) | (rintro ds R RE ⟨_, _, rfl, _⟩; rfl) | (rintro ds R RE ⟨_, _, _, rfl, _⟩; rfl) | (rintro ds R RE ⟨_, _, _, _, rfl, _⟩; rfl) | (rintro ds R RE ⟨_, _, _, _, _, rfl, _⟩; rfl) | (rintro ds R RE ⟨_, _, _, _, _, _, rfl, _⟩; rfl) | (rintro ds R RE ⟨_, _, _, _, _, _, _, rfl, _⟩; rfl) | (rintro ds R RE ⟨_, _, _, _, _, _, _, _, rfl, _⟩; rfl) | (rintro ds R RE ⟨_, _, _, _, _, _, _, _, _, rfl, _⟩; rfl)) (fun cdv Ar outer s H E hr tk hp => b_value_of T (ok_fraction T) (ok_power T) (ok_prime_of T) cdv Ar outer s H E hr tk hp) (by first | exact vc_value_of | exact vc_value_of T)
theorem ok__law_right (T : Tx P K mg A) : FnOk P w K mg base (L2.CX P w) 9 A.f__law_right A.d__law_right ["source"] (spR K (c__law_right A)) :=
  okR T.F__law_right sc__law_right (by first | exact len__law_right | (intro n ds R RE h; unfold c__law_right at h; (split at h <;> first | rfl | exact h.elim)) | (rintro n ds R RE ⟨_, rfl, _⟩; rfl) | (rintro n ds R RE ⟨_, _, rfl, _⟩; rfl) | (rintro n ds R RE ⟨_, _, _, rfl, _⟩; rfl) | (rintro n ds R RE ⟨_, _, _, _, rfl, _⟩; rfl) | (rintro n ds R RE ⟨_, _, _, _, _, rfl, _⟩; rfl) | (rintro n ds R RE ⟨_, _, _, _, _, _, rfl, _⟩; rfl) | (rintro n ds R RE ⟨_, _, _, _, _, _, _, rfl, _⟩; rfl) | (rintro n ds R RE ⟨_, _, _, _, _, _, _, _, rfl, _⟩; rfl) | (rintro n ds R RE ⟨_, _, _, _, _, _, _, _, _, rfl, _⟩; rfl)) (fun cdv Ar outer s H E hr tk hp => b__law_right T (ok__law_at T) (ok__law_bent T) (ok__law_due T) (ok__law_gcd T) (ok__law_great T) (ok__law_pick T) (ok__law_power T) (ok__law_refused T) (ok__law_roots_right T) (ok__law_slope T) (ok__law_value T) (ok_added T) (ok_back T) (ok_fraction T) (ok_going_round T) (ok_lifted T) (ok_lifted_right T) (ok_of_fraction T) (ok_often T) (ok_polynomial_at T) (ok_product T) (ok_slope T) (ok_value_of T) cdv Ar outer s H E hr tk hp) (by first | exact vc__law_right | exact vc__law_right T)
theorem ok__law_source (T : Tx P K mg A) : FnOk P w K mg base (L2.CX P w) 1 A.f__law_source A.d__law_source ["cell", "k"] (spP K (c__law_source A)) :=
  okP T.F__law_source sc__law_source (by first | exact len__law_source | (intro ds R RE h; unfold c__law_source at h; (split at h <;> first | rfl | exact h.elim)) | (rintro ds R RE ⟨_, rfl, _⟩; rfl) | (rintro ds R RE ⟨_, _, rfl, _⟩; rfl) | (rintro ds R RE ⟨_, _, _, rfl, _⟩; rfl) | (rintro ds R RE ⟨_, _, _, _, rfl, _⟩; rfl) | (rintro ds R RE ⟨_, _, _, _, _, rfl, _⟩; rfl) | (rintro ds R RE ⟨_, _, _, _, _, _, rfl, _⟩; rfl) | (rintro ds R RE ⟨_, _, _, _, _, _, _, rfl, _⟩; rfl) | (rintro ds R RE ⟨_, _, _, _, _, _, _, _, rfl, _⟩; rfl) | (rintro ds R RE ⟨_, _, _, _, _, _, _, _, _, rfl, _⟩; rfl)) (fun cdv Ar outer s H E hr tk hp => b__law_source T cdv Ar outer s H E hr tk hp) (by first | exact vc__law_source | exact vc__law_source T)
theorem ok_law (T : Tx P K mg A) : FnOk P w K mg base (L2.CX P w) 10 A.f_law A.d_law ["script"] (spP K (c_law A)) :=
  okP T.F_law sc_law (by first | exact len_law | (intro ds R RE h; unfold c_law at h; (split at h <;> first | rfl | exact h.elim)) | (rintro ds R RE ⟨_, rfl, _⟩; rfl) | (rintro ds R RE ⟨_, _, rfl, _⟩; rfl) | (rintro ds R RE ⟨_, _, _, rfl, _⟩; rfl) | (rintro ds R RE ⟨_, _, _, _, rfl, _⟩; rfl) | (rintro ds R RE ⟨_, _, _, _, _, rfl, _⟩; rfl) | (rintro ds R RE ⟨_, _, _, _, _, _, rfl, _⟩; rfl) | (rintro ds R RE ⟨_, _, _, _, _, _, _, rfl, _⟩; rfl) | (rintro ds R RE ⟨_, _, _, _, _, _, _, _, rfl, _⟩; rfl) | (rintro ds R RE ⟨_, _, _, _, _, _, _, _, _, rfl, _⟩; rfl)) (fun cdv Ar outer s H E hr tk hp => b_law T (ok__law_cell T) (ok__law_right T) (ok__law_source T) cdv Ar outer s H E hr tk hp) (by first | exact vc_law | exact vc_law T)
end
open PySem.HandSPX in
theorem all_mk {w : World} {K : PySem.W.Frag} {h : Heap} {mg : Str → Option Value} {fa : Addr} (X : K.In h) (G : h.Ns mainGlobals mg) (hfa : mg "law" = some (.ref fa))
    {f_power : Addr} {od_power an_power : Option Addr} {sl_power : Array (Option Value)} {oc_power kV_power dc_power pm_power cd_power ct_power : Value}
    {f_checked : Addr} {od_checked an_checked : Option Addr} {sl_checked : Array (Option Value)} {oc_checked kV_checked dc_checked pm_checked cd_checked ct_checked : Value}
    {f_shared : Addr} {od_shared an_shared : Option Addr} {sl_shared : Array (Option Value)} {oc_shared kV_shared dc_shared pm_shared cd_shared ct_shared : Value}
    {f_fraction : Addr} {od_fraction an_fraction : Option Addr} {sl_fraction : Array (Option Value)} {oc_fraction kV_fraction dc_fraction pm_fraction cd_fraction ct_fraction : Value}
    {f_is_fraction : Addr} {od_is_fraction an_is_fraction : Option Addr} {sl_is_fraction : Array (Option Value)} {oc_is_fraction kV_is_fraction dc_is_fraction pm_is_fraction cd_is_fraction ct_is_fraction : Value}
    {f_known : Addr} {od_known an_known : Option Addr} {sl_known : Array (Option Value)} {oc_known kV_known dc_known pm_known cd_known ct_known : Value}
    {f_prime_of : Addr} {od_prime_of an_prime_of : Option Addr} {sl_prime_of : Array (Option Value)} {oc_prime_of kV_prime_of dc_prime_of pm_prime_of cd_prime_of ct_prime_of : Value}
    {f_places_of : Addr} {od_places_of an_places_of : Option Addr} {sl_places_of : Array (Option Value)} {oc_places_of kV_places_of dc_places_of pm_places_of cd_places_of ct_places_of : Value}
    {f_back : Addr} {od_back an_back : Option Addr} {sl_back : Array (Option Value)} {oc_back kV_back dc_back pm_back cd_back ct_back : Value}
    {f_of_fraction : Addr} {od_of_fraction an_of_fraction : Option Addr} {sl_of_fraction : Array (Option Value)} {oc_of_fraction kV_of_fraction dc_of_fraction pm_of_fraction cd_of_fraction ct_of_fraction : Value}
    {f_going_round : Addr} {od_going_round an_going_round : Option Addr} {sl_going_round : Array (Option Value)} {oc_going_round kV_going_round dc_going_round pm_going_round cd_going_round ct_going_round : Value}
    {f_value_of : Addr} {od_value_of an_value_of : Option Addr} {sl_value_of : Array (Option Value)} {oc_value_of kV_value_of dc_value_of pm_value_of cd_value_of ct_value_of : Value}
    {f_often : Addr} {od_often an_often : Option Addr} {sl_often : Array (Option Value)} {oc_often kV_often dc_often pm_often cd_often ct_often : Value}
    {f_polynomial_at : Addr} {od_polynomial_at an_polynomial_at : Option Addr} {sl_polynomial_at : Array (Option Value)} {oc_polynomial_at kV_polynomial_at dc_polynomial_at pm_polynomial_at cd_polynomial_at ct_polynomial_at : Value}
    {f_slope : Addr} {od_slope an_slope : Option Addr} {sl_slope : Array (Option Value)} {oc_slope kV_slope dc_slope pm_slope cd_slope ct_slope : Value}
    {f_lifted : Addr} {od_lifted an_lifted : Option Addr} {sl_lifted : Array (Option Value)} {oc_lifted kV_lifted dc_lifted pm_lifted cd_lifted ct_lifted : Value}
    {f_lifted_right : Addr} {od_lifted_right an_lifted_right : Option Addr} {sl_lifted_right : Array (Option Value)} {oc_lifted_right kV_lifted_right dc_lifted_right pm_lifted_right cd_lifted_right ct_lifted_right : Value}
    {f_square_roots : Addr} {od_square_roots an_square_roots : Option Addr} {sl_square_roots : Array (Option Value)} {oc_square_roots kV_square_roots dc_square_roots pm_square_roots cd_square_roots ct_square_roots : Value}
    {f_added : Addr} {od_added an_added : Option Addr} {sl_added : Array (Option Value)} {oc_added kV_added dc_added pm_added cd_added ct_added : Value}
    {f_product : Addr} {od_product an_product : Option Addr} {sl_product : Array (Option Value)} {oc_product kV_product dc_product pm_product cd_product ct_product : Value}
    {f_own_squares : Addr} {od_own_squares an_own_squares : Option Addr} {sl_own_squares : Array (Option Value)} {oc_own_squares kV_own_squares dc_own_squares pm_own_squares cd_own_squares ct_own_squares : Value}
    {f__law_cell : Addr} {od__law_cell an__law_cell : Option Addr} {sl__law_cell : Array (Option Value)} {oc__law_cell kV__law_cell dc__law_cell pm__law_cell cd__law_cell ct__law_cell : Value}
    {f__law_source : Addr} {od__law_source an__law_source : Option Addr} {sl__law_source : Array (Option Value)} {oc__law_source kV__law_source dc__law_source pm__law_source cd__law_source ct__law_source : Value}
    {f__law_pick : Addr} {od__law_pick an__law_pick : Option Addr} {sl__law_pick : Array (Option Value)} {oc__law_pick kV__law_pick dc__law_pick pm__law_pick cd__law_pick ct__law_pick : Value}
    {f__law_great : Addr} {od__law_great an__law_great : Option Addr} {sl__law_great : Array (Option Value)} {oc__law_great kV__law_great dc__law_great pm__law_great cd__law_great ct__law_great : Value}
    {f__law_gcd : Addr} {od__law_gcd an__law_gcd : Option Addr} {sl__law_gcd : Array (Option Value)} {oc__law_gcd kV__law_gcd dc__law_gcd pm__law_gcd cd__law_gcd ct__law_gcd : Value}
    {f__law_changed : Addr} {od__law_changed an__law_changed : Option Addr} {sl__law_changed : Array (Option Value)} {oc__law_changed kV__law_changed dc__law_changed pm__law_changed cd__law_changed ct__law_changed : Value}
    {f__law_cut : Addr} {od__law_cut an__law_cut : Option Addr} {sl__law_cut : Array (Option Value)} {oc__law_cut kV__law_cut dc__law_cut pm__law_cut cd__law_cut ct__law_cut : Value}
    {f__law_bent : Addr} {od__law_bent an__law_bent : Option Addr} {sl__law_bent : Array (Option Value)} {oc__law_bent kV__law_bent dc__law_bent pm__law_bent cd__law_bent ct__law_bent : Value}
    {f__law_power : Addr} {od__law_power an__law_power : Option Addr} {sl__law_power : Array (Option Value)} {oc__law_power kV__law_power dc__law_power pm__law_power cd__law_power ct__law_power : Value}
    {f__law_value : Addr} {od__law_value an__law_value : Option Addr} {sl__law_value : Array (Option Value)} {oc__law_value kV__law_value dc__law_value pm__law_value cd__law_value ct__law_value : Value}
    {f__law_at : Addr} {od__law_at an__law_at : Option Addr} {sl__law_at : Array (Option Value)} {oc__law_at kV__law_at dc__law_at pm__law_at cd__law_at ct__law_at : Value}
    {f__law_slope : Addr} {od__law_slope an__law_slope : Option Addr} {sl__law_slope : Array (Option Value)} {oc__law_slope kV__law_slope dc__law_slope pm__law_slope cd__law_slope ct__law_slope : Value}
    {f__law_due : Addr} {od__law_due an__law_due : Option Addr} {sl__law_due : Array (Option Value)} {oc__law_due kV__law_due dc__law_due pm__law_due cd__law_due ct__law_due : Value}
    {f__law_refused : Addr} {od__law_refused an__law_refused : Option Addr} {sl__law_refused : Array (Option Value)} {oc__law_refused kV__law_refused dc__law_refused pm__law_refused cd__law_refused ct__law_refused : Value}
    {f__law_roots_right : Addr} {od__law_roots_right an__law_roots_right : Option Addr} {sl__law_roots_right : Array (Option Value)} {oc__law_roots_right kV__law_roots_right dc__law_roots_right pm__law_roots_right cd__law_roots_right ct__law_roots_right : Value}
    {f__law_right : Addr} {od__law_right an__law_right : Option Addr} {sl__law_right : Array (Option Value)} {oc__law_right kV__law_right dc__law_right pm__law_right cd__law_right ct__law_right : Value}
    {f_law : Addr} {od_law an_law : Option Addr} {sl_law : Array (Option Value)} {oc_law kV_law dc_law pm_law cd_law ct_law : Value}
    {fI cda_I cc_I : Addr} {oc_I doc_I pm_I ct_I ccl_I cl_I : Value} {od_I an_I cdd_I cld_I : Option Addr} {osl_I ccs_I csl_I : Array (Option Value)} {vs_I : Array Value} {file_I : Str} {tf_I : Tok} {cdI : ClassData}
    {C_NoteError : Addr}
    {C_BadNumber N_BadNumber' : Addr}
    {C_BadFraction N_BadFraction' : Addr}
    {C_TooLarge N_TooLarge' : Addr}
    {nm_BadNumber q_BadNumber : Str} {bs_BadNumber bm_BadNumber : List Value} {sn_BadNumber : List Str} {sub_BadNumber : List Value} {ab_BadNumber : Bool} {col_BadNumber : Option Bool} {dd_BadNumber : Option Addr} {k0_BadNumber k1_BadNumber k2_BadNumber k3_BadNumber k5_BadNumber : Option Value}
    {nm_BadFraction q_BadFraction : Str} {bs_BadFraction bm_BadFraction : List Value} {sn_BadFraction : List Str} {sub_BadFraction : List Value} {ab_BadFraction : Bool} {col_BadFraction : Option Bool} {dd_BadFraction : Option Addr} {k0_BadFraction k1_BadFraction k2_BadFraction k3_BadFraction k5_BadFraction : Option Value}
    {nm_TooLarge q_TooLarge : Str} {bs_TooLarge bm_TooLarge : List Value} {sn_TooLarge : List Str} {sub_TooLarge : List Value} {ab_TooLarge : Bool} {col_TooLarge : Option Bool} {dd_TooLarge : Option Addr} {k0_TooLarge k1_TooLarge k2_TooLarge k3_TooLarge k5_TooLarge : Option Value}
    {tk_SCALE : Tok}
    {tk_LIMIT : Tok}
    {tk_MOST_PLACES : Tok}
    (a_power : PySem.W.nsIn K mainGlobals "power" = some (some (.ref f_power)))
    (l_power : K.lookup f_power = some ⟨oc_power, od_power, .func (PySem.W.fnOf "power" "power" (defArgs s_power) (defBody s_power) (defScope s_power) .none kV_power dc_power pm_power an_power cd_power ct_power), sl_power⟩)
    (c_power' : PySem.W.codeIn K cd_power "power" = true)
    (k_power : PySem.W.keepIn K (.ref f_power) = true)
    (a_checked : PySem.W.nsIn K mainGlobals "checked" = some (some (.ref f_checked)))
    (l_checked : K.lookup f_checked = some ⟨oc_checked, od_checked, .func (PySem.W.fnOf "checked" "checked" (defArgs s_checked) (defBody s_checked) (defScope s_checked) .none kV_checked dc_checked pm_checked an_checked cd_checked ct_checked), sl_checked⟩)
    (c_checked' : PySem.W.codeIn K cd_checked "checked" = true)
    (k_checked : PySem.W.keepIn K (.ref f_checked) = true)
    (a_shared : PySem.W.nsIn K mainGlobals "shared" = some (some (.ref f_shared)))
    (l_shared : K.lookup f_shared = some ⟨oc_shared, od_shared, .func (PySem.W.fnOf "shared" "shared" (defArgs s_shared) (defBody s_shared) (defScope s_shared) .none kV_shared dc_shared pm_shared an_shared cd_shared ct_shared), sl_shared⟩)
    (c_shared' : PySem.W.codeIn K cd_shared "shared" = true)
    (k_shared : PySem.W.keepIn K (.ref f_shared) = true)
    (a_fraction : PySem.W.nsIn K mainGlobals "fraction" = some (some (.ref f_fraction)))
    (l_fraction : K.lookup f_fraction = some ⟨oc_fraction, od_fraction, .func (PySem.W.fnOf "fraction" "fraction" (defArgs s_fraction) (defBody s_fraction) (defScope s_fraction) .none kV_fraction dc_fraction pm_fraction an_fraction cd_fraction ct_fraction), sl_fraction⟩)
    (c_fraction' : PySem.W.codeIn K cd_fraction "fraction" = true)
    (k_fraction : PySem.W.keepIn K (.ref f_fraction) = true)
    (a_is_fraction : PySem.W.nsIn K mainGlobals "is_fraction" = some (some (.ref f_is_fraction)))
    (l_is_fraction : K.lookup f_is_fraction = some ⟨oc_is_fraction, od_is_fraction, .func (PySem.W.fnOf "is_fraction" "is_fraction" (defArgs s_is_fraction) (defBody s_is_fraction) (defScope s_is_fraction) .none kV_is_fraction dc_is_fraction pm_is_fraction an_is_fraction cd_is_fraction ct_is_fraction), sl_is_fraction⟩)
    (c_is_fraction' : PySem.W.codeIn K cd_is_fraction "is_fraction" = true)
    (k_is_fraction : PySem.W.keepIn K (.ref f_is_fraction) = true)
    (a_known : PySem.W.nsIn K mainGlobals "known" = some (some (.ref f_known)))
    (l_known : K.lookup f_known = some ⟨oc_known, od_known, .func (PySem.W.fnOf "known" "known" (defArgs s_known) (defBody s_known) (defScope s_known) .none kV_known dc_known pm_known an_known cd_known ct_known), sl_known⟩)
    (c_known' : PySem.W.codeIn K cd_known "known" = true)
    (k_known : PySem.W.keepIn K (.ref f_known) = true)
    (a_prime_of : PySem.W.nsIn K mainGlobals "prime_of" = some (some (.ref f_prime_of)))
    (l_prime_of : K.lookup f_prime_of = some ⟨oc_prime_of, od_prime_of, .func (PySem.W.fnOf "prime_of" "prime_of" (defArgs s_prime_of) (defBody s_prime_of) (defScope s_prime_of) .none kV_prime_of dc_prime_of pm_prime_of an_prime_of cd_prime_of ct_prime_of), sl_prime_of⟩)
    (c_prime_of' : PySem.W.codeIn K cd_prime_of "prime_of" = true)
    (k_prime_of : PySem.W.keepIn K (.ref f_prime_of) = true)
    (a_places_of : PySem.W.nsIn K mainGlobals "places_of" = some (some (.ref f_places_of)))
    (l_places_of : K.lookup f_places_of = some ⟨oc_places_of, od_places_of, .func (PySem.W.fnOf "places_of" "places_of" (defArgs s_places_of) (defBody s_places_of) (defScope s_places_of) .none kV_places_of dc_places_of pm_places_of an_places_of cd_places_of ct_places_of), sl_places_of⟩)
    (c_places_of' : PySem.W.codeIn K cd_places_of "places_of" = true)
    (k_places_of : PySem.W.keepIn K (.ref f_places_of) = true)
    (a_back : PySem.W.nsIn K mainGlobals "back" = some (some (.ref f_back)))
    (l_back : K.lookup f_back = some ⟨oc_back, od_back, .func (PySem.W.fnOf "back" "back" (defArgs s_back) (defBody s_back) (defScope s_back) .none kV_back dc_back pm_back an_back cd_back ct_back), sl_back⟩)
    (c_back' : PySem.W.codeIn K cd_back "back" = true)
    (k_back : PySem.W.keepIn K (.ref f_back) = true)
    (a_of_fraction : PySem.W.nsIn K mainGlobals "of_fraction" = some (some (.ref f_of_fraction)))
    (l_of_fraction : K.lookup f_of_fraction = some ⟨oc_of_fraction, od_of_fraction, .func (PySem.W.fnOf "of_fraction" "of_fraction" (defArgs s_of_fraction) (defBody s_of_fraction) (defScope s_of_fraction) .none kV_of_fraction dc_of_fraction pm_of_fraction an_of_fraction cd_of_fraction ct_of_fraction), sl_of_fraction⟩)
    (c_of_fraction' : PySem.W.codeIn K cd_of_fraction "of_fraction" = true)
    (k_of_fraction : PySem.W.keepIn K (.ref f_of_fraction) = true)
    (a_going_round : PySem.W.nsIn K mainGlobals "going_round" = some (some (.ref f_going_round)))
    (l_going_round : K.lookup f_going_round = some ⟨oc_going_round, od_going_round, .func (PySem.W.fnOf "going_round" "going_round" (defArgs s_going_round) (defBody s_going_round) (defScope s_going_round) .none kV_going_round dc_going_round pm_going_round an_going_round cd_going_round ct_going_round), sl_going_round⟩)
    (c_going_round' : PySem.W.codeIn K cd_going_round "going_round" = true)
    (k_going_round : PySem.W.keepIn K (.ref f_going_round) = true)
    (a_value_of : PySem.W.nsIn K mainGlobals "value_of" = some (some (.ref f_value_of)))
    (l_value_of : K.lookup f_value_of = some ⟨oc_value_of, od_value_of, .func (PySem.W.fnOf "value_of" "value_of" (defArgs s_value_of) (defBody s_value_of) (defScope s_value_of) .none kV_value_of dc_value_of pm_value_of an_value_of cd_value_of ct_value_of), sl_value_of⟩)
    (c_value_of' : PySem.W.codeIn K cd_value_of "value_of" = true)
    (k_value_of : PySem.W.keepIn K (.ref f_value_of) = true)
    (a_often : PySem.W.nsIn K mainGlobals "often" = some (some (.ref f_often)))
    (l_often : K.lookup f_often = some ⟨oc_often, od_often, .func (PySem.W.fnOf "often" "often" (defArgs s_often) (defBody s_often) (defScope s_often) .none kV_often dc_often pm_often an_often cd_often ct_often), sl_often⟩)
    (c_often' : PySem.W.codeIn K cd_often "often" = true)
    (k_often : PySem.W.keepIn K (.ref f_often) = true)
    (a_polynomial_at : PySem.W.nsIn K mainGlobals "polynomial_at" = some (some (.ref f_polynomial_at)))
    (l_polynomial_at : K.lookup f_polynomial_at = some ⟨oc_polynomial_at, od_polynomial_at, .func (PySem.W.fnOf "polynomial_at" "polynomial_at" (defArgs s_polynomial_at) (defBody s_polynomial_at) (defScope s_polynomial_at) .none kV_polynomial_at dc_polynomial_at pm_polynomial_at an_polynomial_at cd_polynomial_at ct_polynomial_at), sl_polynomial_at⟩)
    (c_polynomial_at' : PySem.W.codeIn K cd_polynomial_at "polynomial_at" = true)
    (k_polynomial_at : PySem.W.keepIn K (.ref f_polynomial_at) = true)
    (a_slope : PySem.W.nsIn K mainGlobals "slope" = some (some (.ref f_slope)))
    (l_slope : K.lookup f_slope = some ⟨oc_slope, od_slope, .func (PySem.W.fnOf "slope" "slope" (defArgs s_slope) (defBody s_slope) (defScope s_slope) .none kV_slope dc_slope pm_slope an_slope cd_slope ct_slope), sl_slope⟩)
    (c_slope' : PySem.W.codeIn K cd_slope "slope" = true)
    (k_slope : PySem.W.keepIn K (.ref f_slope) = true)
    (a_lifted : PySem.W.nsIn K mainGlobals "lifted" = some (some (.ref f_lifted)))
    (l_lifted : K.lookup f_lifted = some ⟨oc_lifted, od_lifted, .func (PySem.W.fnOf "lifted" "lifted" (defArgs s_lifted) (defBody s_lifted) (defScope s_lifted) .none kV_lifted dc_lifted pm_lifted an_lifted cd_lifted ct_lifted), sl_lifted⟩)
    (c_lifted' : PySem.W.codeIn K cd_lifted "lifted" = true)
    (k_lifted : PySem.W.keepIn K (.ref f_lifted) = true)
    (a_lifted_right : PySem.W.nsIn K mainGlobals "lifted_right" = some (some (.ref f_lifted_right)))
    (l_lifted_right : K.lookup f_lifted_right = some ⟨oc_lifted_right, od_lifted_right, .func (PySem.W.fnOf "lifted_right" "lifted_right" (defArgs s_lifted_right) (defBody s_lifted_right) (defScope s_lifted_right) .none kV_lifted_right dc_lifted_right pm_lifted_right an_lifted_right cd_lifted_right ct_lifted_right), sl_lifted_right⟩)
    (c_lifted_right' : PySem.W.codeIn K cd_lifted_right "lifted_right" = true)
    (k_lifted_right : PySem.W.keepIn K (.ref f_lifted_right) = true)
    (a_square_roots : PySem.W.nsIn K mainGlobals "square_roots" = some (some (.ref f_square_roots)))
    (l_square_roots : K.lookup f_square_roots = some ⟨oc_square_roots, od_square_roots, .func (PySem.W.fnOf "square_roots" "square_roots" (defArgs s_square_roots) (defBody s_square_roots) (defScope s_square_roots) .none kV_square_roots dc_square_roots pm_square_roots an_square_roots cd_square_roots ct_square_roots), sl_square_roots⟩)
    (c_square_roots' : PySem.W.codeIn K cd_square_roots "square_roots" = true)
    (k_square_roots : PySem.W.keepIn K (.ref f_square_roots) = true)
    (a_added : PySem.W.nsIn K mainGlobals "added" = some (some (.ref f_added)))
    (l_added : K.lookup f_added = some ⟨oc_added, od_added, .func (PySem.W.fnOf "added" "added" (defArgs s_added) (defBody s_added) (defScope s_added) .none kV_added dc_added pm_added an_added cd_added ct_added), sl_added⟩)
    (c_added' : PySem.W.codeIn K cd_added "added" = true)
    (k_added : PySem.W.keepIn K (.ref f_added) = true)
    (a_product : PySem.W.nsIn K mainGlobals "product" = some (some (.ref f_product)))
    (l_product : K.lookup f_product = some ⟨oc_product, od_product, .func (PySem.W.fnOf "product" "product" (defArgs s_product) (defBody s_product) (defScope s_product) .none kV_product dc_product pm_product an_product cd_product ct_product), sl_product⟩)
    (c_product' : PySem.W.codeIn K cd_product "product" = true)
    (k_product : PySem.W.keepIn K (.ref f_product) = true)
    (a_own_squares : PySem.W.nsIn K mainGlobals "own_squares" = some (some (.ref f_own_squares)))
    (l_own_squares : K.lookup f_own_squares = some ⟨oc_own_squares, od_own_squares, .func (PySem.W.fnOf "own_squares" "own_squares" (defArgs s_own_squares) (defBody s_own_squares) (defScope s_own_squares) .none kV_own_squares dc_own_squares pm_own_squares an_own_squares cd_own_squares ct_own_squares), sl_own_squares⟩)
    (c_own_squares' : PySem.W.codeIn K cd_own_squares "own_squares" = true)
    (k_own_squares : PySem.W.keepIn K (.ref f_own_squares) = true)
    (a__law_cell : PySem.W.nsIn K mainGlobals "_law_cell" = some (some (.ref f__law_cell)))
    (l__law_cell : K.lookup f__law_cell = some ⟨oc__law_cell, od__law_cell, .func (PySem.W.fnOf "_law_cell" "_law_cell" (defArgs s__law_cell) (defBody s__law_cell) (defScope s__law_cell) .none kV__law_cell dc__law_cell pm__law_cell an__law_cell cd__law_cell ct__law_cell), sl__law_cell⟩)
    (c__law_cell' : PySem.W.codeIn K cd__law_cell "_law_cell" = true)
    (k__law_cell : PySem.W.keepIn K (.ref f__law_cell) = true)
    (a__law_source : PySem.W.nsIn K mainGlobals "_law_source" = some (some (.ref f__law_source)))
    (l__law_source : K.lookup f__law_source = some ⟨oc__law_source, od__law_source, .func (PySem.W.fnOf "_law_source" "_law_source" (defArgs s__law_source) (defBody s__law_source) (defScope s__law_source) .none kV__law_source dc__law_source pm__law_source an__law_source cd__law_source ct__law_source), sl__law_source⟩)
    (c__law_source' : PySem.W.codeIn K cd__law_source "_law_source" = true)
    (k__law_source : PySem.W.keepIn K (.ref f__law_source) = true)
    (a__law_pick : PySem.W.nsIn K mainGlobals "_law_pick" = some (some (.ref f__law_pick)))
    (l__law_pick : K.lookup f__law_pick = some ⟨oc__law_pick, od__law_pick, .func (PySem.W.fnOf "_law_pick" "_law_pick" (defArgs s__law_pick) (defBody s__law_pick) (defScope s__law_pick) .none kV__law_pick dc__law_pick pm__law_pick an__law_pick cd__law_pick ct__law_pick), sl__law_pick⟩)
    (c__law_pick' : PySem.W.codeIn K cd__law_pick "_law_pick" = true)
    (k__law_pick : PySem.W.keepIn K (.ref f__law_pick) = true)
    (a__law_great : PySem.W.nsIn K mainGlobals "_law_great" = some (some (.ref f__law_great)))
    (l__law_great : K.lookup f__law_great = some ⟨oc__law_great, od__law_great, .func (PySem.W.fnOf "_law_great" "_law_great" (defArgs s__law_great) (defBody s__law_great) (defScope s__law_great) .none kV__law_great dc__law_great pm__law_great an__law_great cd__law_great ct__law_great), sl__law_great⟩)
    (c__law_great' : PySem.W.codeIn K cd__law_great "_law_great" = true)
    (k__law_great : PySem.W.keepIn K (.ref f__law_great) = true)
    (a__law_gcd : PySem.W.nsIn K mainGlobals "_law_gcd" = some (some (.ref f__law_gcd)))
    (l__law_gcd : K.lookup f__law_gcd = some ⟨oc__law_gcd, od__law_gcd, .func (PySem.W.fnOf "_law_gcd" "_law_gcd" (defArgs s__law_gcd) (defBody s__law_gcd) (defScope s__law_gcd) .none kV__law_gcd dc__law_gcd pm__law_gcd an__law_gcd cd__law_gcd ct__law_gcd), sl__law_gcd⟩)
    (c__law_gcd' : PySem.W.codeIn K cd__law_gcd "_law_gcd" = true)
    (k__law_gcd : PySem.W.keepIn K (.ref f__law_gcd) = true)
    (a__law_changed : PySem.W.nsIn K mainGlobals "_law_changed" = some (some (.ref f__law_changed)))
    (l__law_changed : K.lookup f__law_changed = some ⟨oc__law_changed, od__law_changed, .func (PySem.W.fnOf "_law_changed" "_law_changed" (defArgs s__law_changed) (defBody s__law_changed) (defScope s__law_changed) .none kV__law_changed dc__law_changed pm__law_changed an__law_changed cd__law_changed ct__law_changed), sl__law_changed⟩)
    (c__law_changed' : PySem.W.codeIn K cd__law_changed "_law_changed" = true)
    (k__law_changed : PySem.W.keepIn K (.ref f__law_changed) = true)
    (a__law_cut : PySem.W.nsIn K mainGlobals "_law_cut" = some (some (.ref f__law_cut)))
    (l__law_cut : K.lookup f__law_cut = some ⟨oc__law_cut, od__law_cut, .func (PySem.W.fnOf "_law_cut" "_law_cut" (defArgs s__law_cut) (defBody s__law_cut) (defScope s__law_cut) .none kV__law_cut dc__law_cut pm__law_cut an__law_cut cd__law_cut ct__law_cut), sl__law_cut⟩)
    (c__law_cut' : PySem.W.codeIn K cd__law_cut "_law_cut" = true)
    (k__law_cut : PySem.W.keepIn K (.ref f__law_cut) = true)
    (a__law_bent : PySem.W.nsIn K mainGlobals "_law_bent" = some (some (.ref f__law_bent)))
    (l__law_bent : K.lookup f__law_bent = some ⟨oc__law_bent, od__law_bent, .func (PySem.W.fnOf "_law_bent" "_law_bent" (defArgs s__law_bent) (defBody s__law_bent) (defScope s__law_bent) .none kV__law_bent dc__law_bent pm__law_bent an__law_bent cd__law_bent ct__law_bent), sl__law_bent⟩)
    (c__law_bent' : PySem.W.codeIn K cd__law_bent "_law_bent" = true)
    (k__law_bent : PySem.W.keepIn K (.ref f__law_bent) = true)
    (a__law_power : PySem.W.nsIn K mainGlobals "_law_power" = some (some (.ref f__law_power)))
    (l__law_power : K.lookup f__law_power = some ⟨oc__law_power, od__law_power, .func (PySem.W.fnOf "_law_power" "_law_power" (defArgs s__law_power) (defBody s__law_power) (defScope s__law_power) .none kV__law_power dc__law_power pm__law_power an__law_power cd__law_power ct__law_power), sl__law_power⟩)
    (c__law_power' : PySem.W.codeIn K cd__law_power "_law_power" = true)
    (k__law_power : PySem.W.keepIn K (.ref f__law_power) = true)
    (a__law_value : PySem.W.nsIn K mainGlobals "_law_value" = some (some (.ref f__law_value)))
    (l__law_value : K.lookup f__law_value = some ⟨oc__law_value, od__law_value, .func (PySem.W.fnOf "_law_value" "_law_value" (defArgs s__law_value) (defBody s__law_value) (defScope s__law_value) .none kV__law_value dc__law_value pm__law_value an__law_value cd__law_value ct__law_value), sl__law_value⟩)
    (c__law_value' : PySem.W.codeIn K cd__law_value "_law_value" = true)
    (k__law_value : PySem.W.keepIn K (.ref f__law_value) = true)
    (a__law_at : PySem.W.nsIn K mainGlobals "_law_at" = some (some (.ref f__law_at)))
    (l__law_at : K.lookup f__law_at = some ⟨oc__law_at, od__law_at, .func (PySem.W.fnOf "_law_at" "_law_at" (defArgs s__law_at) (defBody s__law_at) (defScope s__law_at) .none kV__law_at dc__law_at pm__law_at an__law_at cd__law_at ct__law_at), sl__law_at⟩)
    (c__law_at' : PySem.W.codeIn K cd__law_at "_law_at" = true)
    (k__law_at : PySem.W.keepIn K (.ref f__law_at) = true)
    (a__law_slope : PySem.W.nsIn K mainGlobals "_law_slope" = some (some (.ref f__law_slope)))
    (l__law_slope : K.lookup f__law_slope = some ⟨oc__law_slope, od__law_slope, .func (PySem.W.fnOf "_law_slope" "_law_slope" (defArgs s__law_slope) (defBody s__law_slope) (defScope s__law_slope) .none kV__law_slope dc__law_slope pm__law_slope an__law_slope cd__law_slope ct__law_slope), sl__law_slope⟩)
    (c__law_slope' : PySem.W.codeIn K cd__law_slope "_law_slope" = true)
    (k__law_slope : PySem.W.keepIn K (.ref f__law_slope) = true)
    (a__law_due : PySem.W.nsIn K mainGlobals "_law_due" = some (some (.ref f__law_due)))
    (l__law_due : K.lookup f__law_due = some ⟨oc__law_due, od__law_due, .func (PySem.W.fnOf "_law_due" "_law_due" (defArgs s__law_due) (defBody s__law_due) (defScope s__law_due) .none kV__law_due dc__law_due pm__law_due an__law_due cd__law_due ct__law_due), sl__law_due⟩)
    (c__law_due' : PySem.W.codeIn K cd__law_due "_law_due" = true)
    (k__law_due : PySem.W.keepIn K (.ref f__law_due) = true)
    (a__law_refused : PySem.W.nsIn K mainGlobals "_law_refused" = some (some (.ref f__law_refused)))
    (l__law_refused : K.lookup f__law_refused = some ⟨oc__law_refused, od__law_refused, .func (PySem.W.fnOf "_law_refused" "_law_refused" (defArgs s__law_refused) (defBody s__law_refused) (defScope s__law_refused) .none kV__law_refused dc__law_refused pm__law_refused an__law_refused cd__law_refused ct__law_refused), sl__law_refused⟩)
    (c__law_refused' : PySem.W.codeIn K cd__law_refused "_law_refused" = true)
    (k__law_refused : PySem.W.keepIn K (.ref f__law_refused) = true)
    (a__law_roots_right : PySem.W.nsIn K mainGlobals "_law_roots_right" = some (some (.ref f__law_roots_right)))
    (l__law_roots_right : K.lookup f__law_roots_right = some ⟨oc__law_roots_right, od__law_roots_right, .func (PySem.W.fnOf "_law_roots_right" "_law_roots_right" (defArgs s__law_roots_right) (defBody s__law_roots_right) (defScope s__law_roots_right) .none kV__law_roots_right dc__law_roots_right pm__law_roots_right an__law_roots_right cd__law_roots_right ct__law_roots_right), sl__law_roots_right⟩)
    (c__law_roots_right' : PySem.W.codeIn K cd__law_roots_right "_law_roots_right" = true)
    (k__law_roots_right : PySem.W.keepIn K (.ref f__law_roots_right) = true)
    (a__law_right : PySem.W.nsIn K mainGlobals "_law_right" = some (some (.ref f__law_right)))
    (l__law_right : K.lookup f__law_right = some ⟨oc__law_right, od__law_right, .func (PySem.W.fnOf "_law_right" "_law_right" (defArgs s__law_right) (defBody s__law_right) (defScope s__law_right) .none kV__law_right dc__law_right pm__law_right an__law_right cd__law_right ct__law_right), sl__law_right⟩)
    (c__law_right' : PySem.W.codeIn K cd__law_right "_law_right" = true)
    (k__law_right : PySem.W.keepIn K (.ref f__law_right) = true)
    (a_law : PySem.W.nsIn K mainGlobals "law" = some (some (.ref f_law)))
    (l_law : K.lookup f_law = some ⟨oc_law, od_law, .func (PySem.W.fnOf "law" "law" (defArgs s_law) (defBody s_law) (defScope s_law) .none kV_law dc_law pm_law an_law cd_law ct_law), sl_law⟩)
    (c_law' : PySem.W.codeIn K cd_law "law" = true)
    (k_law : PySem.W.keepIn K (.ref f_law) = true)
    (ac_NoteError : PySem.W.nsIn K mainGlobals "NoteError" = some (some (.ref C_NoteError)))
    (ac_BadNumber : PySem.W.nsIn K mainGlobals "BadNumber" = some (some (.ref C_BadNumber)))
    (ac_BadFraction : PySem.W.nsIn K mainGlobals "BadFraction" = some (some (.ref C_BadFraction)))
    (ac_TooLarge : PySem.W.nsIn K mainGlobals "TooLarge" = some (some (.ref C_TooLarge)))
    (i_l : K.lookup fI = some ⟨oc_I, od_I, .func (PySem.W.ksFn "__init__" "NoteError.__init__" nA nB nS .none .none doc_I pm_I an_I (.ref cda_I) ct_I cc_I), osl_I⟩)
    (i_c : PySem.W.codeIn K (.ref cda_I) "NoteError.__init__" = true)
    (i_d : K.lookup cda_I = some ⟨ccl_I, cdd_I, .fields vs_I, ccs_I⟩)
    (i_v : vs_I[2]? = some (.str file_I tf_I))
    (i_f : ((PySem.Challenge.pw_notewhole_k20_whole_digits_to_the_left.main.file : Str) == file_I) = true)
    (i_k : K.lookup cc_I = some ⟨cl_I, cld_I, .cell (some (.ref C_NoteError)), csl_I⟩)
    (i_t : PySem.W.typeIn K (.ref fI) = some (.type "function"))
    (i_q : PySem.W.clsIn K C_NoteError = some cdI)
    (i_o : PySem.W.nsIn K PySem.cStatics "thirdparty.any" = some none)
    (z_super : PySem.W.nsIn K mainGlobals "super" = some none)
    (i_s : (PySem.Challenge.pw_notewhole_k20_whole_digits_to_the_left.main.scope.names.lookup ("super" : Str)).isSome = false)
    (x_BadNumber : K.lookup C_BadNumber = some (excClassObj nm_BadNumber q_BadNumber C_BadNumber N_BadNumber' bs_BadNumber bm_BadNumber true sn_BadNumber sub_BadNumber ab_BadNumber col_BadNumber dd_BadNumber k0_BadNumber k1_BadNumber k2_BadNumber k3_BadNumber k5_BadNumber "ValueError.__new__"))
    (v_BadNumber : refsVE bm_BadNumber = true)
    (s_BadNumber' : PySem.W.findIn K (.ref C_BadNumber) "__setattr__" = some (some (.builtin "object.__setattr__")))
    (n_BadNumber' : PySem.W.findIn K (.ref C_BadNumber) "what" = some none)
    (i_BadNumber : PySem.W.findIn K (.ref C_BadNumber) "__init__" = some (some (.ref fI)))
    (kc_BadNumber : PySem.W.keepIn K (.ref C_BadNumber) = true)
    (e_BadNumber : PySem.W.subIn K (.ref C_BadNumber) (.type "BaseException") = some true)
    (ve_BadNumber : PySem.W.subIn K (.ref C_BadNumber) (.type "ValueError") = some true)
    (ty_BadNumber : PySem.W.typeIn K (.ref C_BadNumber) = some (.type "type"))
    (up_BadNumber : PySem.W.ks_superIn K C_BadNumber C_NoteError "__init__" = some (some (.builtin "ValueError.__init__")))
    (m_BadNumber : PySem.W.mroIn K C_BadNumber (.ref C_NoteError) = some true)
    (x_BadFraction : K.lookup C_BadFraction = some (excClassObj nm_BadFraction q_BadFraction C_BadFraction N_BadFraction' bs_BadFraction bm_BadFraction true sn_BadFraction sub_BadFraction ab_BadFraction col_BadFraction dd_BadFraction k0_BadFraction k1_BadFraction k2_BadFraction k3_BadFraction k5_BadFraction "ValueError.__new__"))
    (v_BadFraction : refsVE bm_BadFraction = true)
    (s_BadFraction' : PySem.W.findIn K (.ref C_BadFraction) "__setattr__" = some (some (.builtin "object.__setattr__")))
    (n_BadFraction' : PySem.W.findIn K (.ref C_BadFraction) "what" = some none)
    (i_BadFraction : PySem.W.findIn K (.ref C_BadFraction) "__init__" = some (some (.ref fI)))
    (kc_BadFraction : PySem.W.keepIn K (.ref C_BadFraction) = true)
    (e_BadFraction : PySem.W.subIn K (.ref C_BadFraction) (.type "BaseException") = some true)
    (ve_BadFraction : PySem.W.subIn K (.ref C_BadFraction) (.type "ValueError") = some true)
    (ty_BadFraction : PySem.W.typeIn K (.ref C_BadFraction) = some (.type "type"))
    (up_BadFraction : PySem.W.ks_superIn K C_BadFraction C_NoteError "__init__" = some (some (.builtin "ValueError.__init__")))
    (m_BadFraction : PySem.W.mroIn K C_BadFraction (.ref C_NoteError) = some true)
    (x_TooLarge : K.lookup C_TooLarge = some (excClassObj nm_TooLarge q_TooLarge C_TooLarge N_TooLarge' bs_TooLarge bm_TooLarge true sn_TooLarge sub_TooLarge ab_TooLarge col_TooLarge dd_TooLarge k0_TooLarge k1_TooLarge k2_TooLarge k3_TooLarge k5_TooLarge "ValueError.__new__"))
    (v_TooLarge : refsVE bm_TooLarge = true)
    (s_TooLarge' : PySem.W.findIn K (.ref C_TooLarge) "__setattr__" = some (some (.builtin "object.__setattr__")))
    (n_TooLarge' : PySem.W.findIn K (.ref C_TooLarge) "what" = some none)
    (i_TooLarge : PySem.W.findIn K (.ref C_TooLarge) "__init__" = some (some (.ref fI)))
    (kc_TooLarge : PySem.W.keepIn K (.ref C_TooLarge) = true)
    (e_TooLarge : PySem.W.subIn K (.ref C_TooLarge) (.type "BaseException") = some true)
    (ve_TooLarge : PySem.W.subIn K (.ref C_TooLarge) (.type "ValueError") = some true)
    (ty_TooLarge : PySem.W.typeIn K (.ref C_TooLarge) = some (.type "type"))
    (up_TooLarge : PySem.W.ks_superIn K C_TooLarge C_NoteError "__init__" = some (some (.builtin "ValueError.__init__")))
    (m_TooLarge : PySem.W.mroIn K C_TooLarge (.ref C_NoteError) = some true)
    (xx_BadNumber_BadFraction : PySem.W.exmOne K (.ref C_BadNumber) (.ref C_BadFraction) = some false)
    (xx_BadNumber_BadNumber : PySem.W.exmOne K (.ref C_BadNumber) (.ref C_BadNumber) = some true)
    (xx_BadNumber_TooLarge : PySem.W.exmOne K (.ref C_BadNumber) (.ref C_TooLarge) = some false)
    (xx_BadNumber_NoteError : PySem.W.exmOne K (.ref C_BadNumber) (.ref C_NoteError) = some true)
    (xx_BadFraction_BadFraction : PySem.W.exmOne K (.ref C_BadFraction) (.ref C_BadFraction) = some true)
    (xx_BadFraction_BadNumber : PySem.W.exmOne K (.ref C_BadFraction) (.ref C_BadNumber) = some false)
    (xx_BadFraction_TooLarge : PySem.W.exmOne K (.ref C_BadFraction) (.ref C_TooLarge) = some false)
    (xx_BadFraction_NoteError : PySem.W.exmOne K (.ref C_BadFraction) (.ref C_NoteError) = some true)
    (xx_TooLarge_BadFraction : PySem.W.exmOne K (.ref C_TooLarge) (.ref C_BadFraction) = some false)
    (xx_TooLarge_BadNumber : PySem.W.exmOne K (.ref C_TooLarge) (.ref C_BadNumber) = some false)
    (xx_TooLarge_TooLarge : PySem.W.exmOne K (.ref C_TooLarge) (.ref C_TooLarge) = some true)
    (xx_TooLarge_NoteError : PySem.W.exmOne K (.ref C_TooLarge) (.ref C_NoteError) = some true)
    (z_abs : PySem.W.nsIn K mainGlobals "abs" = some none)
    (z_any : PySem.W.nsIn K mainGlobals "any" = some none)
    (z_bool : PySem.W.nsIn K mainGlobals "bool" = some none)
    (z_enumerate : PySem.W.nsIn K mainGlobals "enumerate" = some none)
    (z_int : PySem.W.nsIn K mainGlobals "int" = some none)
    (z_isinstance : PySem.W.nsIn K mainGlobals "isinstance" = some none)
    (z_len : PySem.W.nsIn K mainGlobals "len" = some none)
    (z_list : PySem.W.nsIn K mainGlobals "list" = some none)
    (z_min : PySem.W.nsIn K mainGlobals "min" = some none)
    (z_range : PySem.W.nsIn K mainGlobals "range" = some none)
    (z_reversed : PySem.W.nsIn K mainGlobals "reversed" = some none)
    (z_str : PySem.W.nsIn K mainGlobals "str" = some none)
    (z_sum : PySem.W.nsIn K mainGlobals "sum" = some none)
    (z_tuple : PySem.W.nsIn K mainGlobals "tuple" = some none)
    (z_zip : PySem.W.nsIn K mainGlobals "zip" = some none)
    (q_SCALE : PySem.W.nsIn K mainGlobals "SCALE" = some (some (.int 100000000000000000000000000000000000000000000000000 tk_SCALE)))
    (q_LIMIT : PySem.W.nsIn K mainGlobals "LIMIT" = some (some (.int 10000000000000000000000000000000000000000000000000000000000000000000000000000000000000000000000000000000000000000000000000000000000000000000000000000000000000000000000000000000000000000000000000000000000000000000000000000000000000000000000000000000000000000000000000000000000000000000000000000000000000000000000000000000000000000000000000000000000000000000000000000000000000000000000000000000000000000 tk_LIMIT)))
    (q_MOST_PLACES : PySem.W.nsIn K mainGlobals "MOST_PLACES" = some (some (.int 200 tk_MOST_PLACES))) :
    ∃ fd : FuncData, (∀ (s : Shared) (v : Value), BindsTo s fd ⟨[v], []⟩ [("script", v)]) ∧ ∀ base : Heap, K.In base → base.Ns mainGlobals mg → FnOk PySem.Challenge.pw_notewhole_k20_whole_digits_to_the_left w K mg base (L2.CX PySem.Challenge.pw_notewhole_k20_whole_digits_to_the_left w) 10 fa fd ["script"] (spP K (fun ds R RE => ∃ ns : List Int, ds = [.frl (ns.map .int)] ∧ ns.length ≤ 63 ∧ R (.p (.bl true)))) := by
  have e := hfa.symm.trans (PySem.W.mg_of X G a_law)
  cases e
  let A : Ad := { f_power := f_power, d_power := PySem.W.fnOf "power" "power" (defArgs s_power) (defBody s_power) (defScope s_power) .none kV_power dc_power pm_power an_power cd_power ct_power, f_checked := f_checked, d_checked := PySem.W.fnOf "checked" "checked" (defArgs s_checked) (defBody s_checked) (defScope s_checked) .none kV_checked dc_checked pm_checked an_checked cd_checked ct_checked, f_shared := f_shared, d_shared := PySem.W.fnOf "shared" "shared" (defArgs s_shared) (defBody s_shared) (defScope s_shared) .none kV_shared dc_shared pm_shared an_shared cd_shared ct_shared, f_fraction := f_fraction, d_fraction := PySem.W.fnOf "fraction" "fraction" (defArgs s_fraction) (defBody s_fraction) (defScope s_fraction) .none kV_fraction dc_fraction pm_fraction an_fraction cd_fraction ct_fraction, f_is_fraction := f_is_fraction, d_is_fraction := PySem.W.fnOf "is_fraction" "is_fraction" (defArgs s_is_fraction) (defBody s_is_fraction) (defScope s_is_fraction) .none kV_is_fraction dc_is_fraction pm_is_fraction an_is_fraction cd_is_fraction ct_is_fraction, f_known := f_known, d_known := PySem.W.fnOf "known" "known" (defArgs s_known) (defBody s_known) (defScope s_known) .none kV_known dc_known pm_known an_known cd_known ct_known, f_prime_of := f_prime_of, d_prime_of := PySem.W.fnOf "prime_of" "prime_of" (defArgs s_prime_of) (defBody s_prime_of) (defScope s_prime_of) .none kV_prime_of dc_prime_of pm_prime_of an_prime_of cd_prime_of ct_prime_of, f_places_of := f_places_of, d_places_of := PySem.W.fnOf "places_of" "places_of" (defArgs s_places_of) (defBody s_places_of) (defScope s_places_of) .none kV_places_of dc_places_of pm_places_of an_places_of cd_places_of ct_places_of, f_back := f_back, d_back := PySem.W.fnOf "back" "back" (defArgs s_back) (defBody s_back) (defScope s_back) .none kV_back dc_back pm_back an_back cd_back ct_back, f_of_fraction := f_of_fraction, d_of_fraction := PySem.W.fnOf "of_fraction" "of_fraction" (defArgs s_of_fraction) (defBody s_of_fraction) (defScope s_of_fraction) .none kV_of_fraction dc_of_fraction pm_of_fraction an_of_fraction cd_of_fraction ct_of_fraction, f_going_round := f_going_round, d_going_round := PySem.W.fnOf "going_round" "going_round" (defArgs s_going_round) (defBody s_going_round) (defScope s_going_round) .none kV_going_round dc_going_round pm_going_round an_going_round cd_going_round ct_going_round, f_value_of := f_value_of, d_value_of := PySem.W.fnOf "value_of" "value_of" (defArgs s_value_of) (defBody s_value_of) (defScope s_value_of) .none kV_value_of dc_value_of pm_value_of an_value_of cd_value_of ct_value_of, f_often := f_often, d_often := PySem.W.fnOf "often" "often" (defArgs s_often) (defBody s_often) (defScope s_often) .none kV_often dc_often pm_often an_often cd_often ct_often, f_polynomial_at := f_polynomial_at, d_polynomial_at := PySem.W.fnOf "polynomial_at" "polynomial_at" (defArgs s_polynomial_at) (defBody s_polynomial_at) (defScope s_polynomial_at) .none kV_polynomial_at dc_polynomial_at pm_polynomial_at an_polynomial_at cd_polynomial_at ct_polynomial_at, f_slope := f_slope, d_slope := PySem.W.fnOf "slope" "slope" (defArgs s_slope) (defBody s_slope) (defScope s_slope) .none kV_slope dc_slope pm_slope an_slope cd_slope ct_slope, f_lifted := f_lifted, d_lifted := PySem.W.fnOf "lifted" "lifted" (defArgs s_lifted) (defBody s_lifted) (defScope s_lifted) .none kV_lifted dc_lifted pm_lifted an_lifted cd_lifted ct_lifted, f_lifted_right := f_lifted_right, d_lifted_right := PySem.W.fnOf "lifted_right" "lifted_right" (defArgs s_lifted_right) (defBody s_lifted_right) (defScope s_lifted_right) .none kV_lifted_right dc_lifted_right pm_lifted_right an_lifted_right cd_lifted_right ct_lifted_right, f_square_roots := f_square_roots, d_square_roots := PySem.W.fnOf "square_roots" "square_roots" (defArgs s_square_roots) (defBody s_square_roots) (defScope s_square_roots) .none kV_square_roots dc_square_roots pm_square_roots an_square_roots cd_square_roots ct_square_roots, f_added := f_added, d_added := PySem.W.fnOf "added" "added" (defArgs s_added) (defBody s_added) (defScope s_added) .none kV_added dc_added pm_added an_added cd_added ct_added, f_product := f_product, d_product := PySem.W.fnOf "product" "product" (defArgs s_product) (defBody s_product) (defScope s_product) .none kV_product dc_product pm_product an_product cd_product ct_product, f_own_squares := f_own_squares, d_own_squares := PySem.W.fnOf "own_squares" "own_squares" (defArgs s_own_squares) (defBody s_own_squares) (defScope s_own_squares) .none kV_own_squares dc_own_squares pm_own_squares an_own_squares cd_own_squares ct_own_squares, f__law_cell := f__law_cell, d__law_cell := PySem.W.fnOf "_law_cell" "_law_cell" (defArgs s__law_cell) (defBody s__law_cell) (defScope s__law_cell) .none kV__law_cell dc__law_cell pm__law_cell an__law_cell cd__law_cell ct__law_cell, f__law_source := f__law_source, d__law_source := PySem.W.fnOf "_law_source" "_law_source" (defArgs s__law_source) (defBody s__law_source) (defScope s__law_source) .none kV__law_source dc__law_source pm__law_source an__law_source cd__law_source ct__law_source, f__law_pick := f__law_pick, d__law_pick := PySem.W.fnOf "_law_pick" "_law_pick" (defArgs s__law_pick) (defBody s__law_pick) (defScope s__law_pick) .none kV__law_pick dc__law_pick pm__law_pick an__law_pick cd__law_pick ct__law_pick, f__law_great := f__law_great, d__law_great := PySem.W.fnOf "_law_great" "_law_great" (defArgs s__law_great) (defBody s__law_great) (defScope s__law_great) .none kV__law_great dc__law_great pm__law_great an__law_great cd__law_great ct__law_great, f__law_gcd := f__law_gcd, d__law_gcd := PySem.W.fnOf "_law_gcd" "_law_gcd" (defArgs s__law_gcd) (defBody s__law_gcd) (defScope s__law_gcd) .none kV__law_gcd dc__law_gcd pm__law_gcd an__law_gcd cd__law_gcd ct__law_gcd, f__law_changed := f__law_changed, d__law_changed := PySem.W.fnOf "_law_changed" "_law_changed" (defArgs s__law_changed) (defBody s__law_changed) (defScope s__law_changed) .none kV__law_changed dc__law_changed pm__law_changed an__law_changed cd__law_changed ct__law_changed, f__law_cut := f__law_cut, d__law_cut := PySem.W.fnOf "_law_cut" "_law_cut" (defArgs s__law_cut) (defBody s__law_cut) (defScope s__law_cut) .none kV__law_cut dc__law_cut pm__law_cut an__law_cut cd__law_cut ct__law_cut, f__law_bent := f__law_bent, d__law_bent := PySem.W.fnOf "_law_bent" "_law_bent" (defArgs s__law_bent) (defBody s__law_bent) (defScope s__law_bent) .none kV__law_bent dc__law_bent pm__law_bent an__law_bent cd__law_bent ct__law_bent, f__law_power := f__law_power, d__law_power := PySem.W.fnOf "_law_power" "_law_power" (defArgs s__law_power) (defBody s__law_power) (defScope s__law_power) .none kV__law_power dc__law_power pm__law_power an__law_power cd__law_power ct__law_power, f__law_value := f__law_value, d__law_value := PySem.W.fnOf "_law_value" "_law_value" (defArgs s__law_value) (defBody s__law_value) (defScope s__law_value) .none kV__law_value dc__law_value pm__law_value an__law_value cd__law_value ct__law_value, f__law_at := f__law_at, d__law_at := PySem.W.fnOf "_law_at" "_law_at" (defArgs s__law_at) (defBody s__law_at) (defScope s__law_at) .none kV__law_at dc__law_at pm__law_at an__law_at cd__law_at ct__law_at, f__law_slope := f__law_slope, d__law_slope := PySem.W.fnOf "_law_slope" "_law_slope" (defArgs s__law_slope) (defBody s__law_slope) (defScope s__law_slope) .none kV__law_slope dc__law_slope pm__law_slope an__law_slope cd__law_slope ct__law_slope, f__law_due := f__law_due, d__law_due := PySem.W.fnOf "_law_due" "_law_due" (defArgs s__law_due) (defBody s__law_due) (defScope s__law_due) .none kV__law_due dc__law_due pm__law_due an__law_due cd__law_due ct__law_due, f__law_refused := f__law_refused, d__law_refused := PySem.W.fnOf "_law_refused" "_law_refused" (defArgs s__law_refused) (defBody s__law_refused) (defScope s__law_refused) .none kV__law_refused dc__law_refused pm__law_refused an__law_refused cd__law_refused ct__law_refused, f__law_roots_right := f__law_roots_right, d__law_roots_right := PySem.W.fnOf "_law_roots_right" "_law_roots_right" (defArgs s__law_roots_right) (defBody s__law_roots_right) (defScope s__law_roots_right) .none kV__law_roots_right dc__law_roots_right pm__law_roots_right an__law_roots_right cd__law_roots_right ct__law_roots_right, f__law_right := f__law_right, d__law_right := PySem.W.fnOf "_law_right" "_law_right" (defArgs s__law_right) (defBody s__law_right) (defScope s__law_right) .none kV__law_right dc__law_right pm__law_right an__law_right cd__law_right ct__law_right, f_law := fa, d_law := PySem.W.fnOf "law" "law" (defArgs s_law) (defBody s_law) (defScope s_law) .none kV_law dc_law pm_law an_law cd_law ct_law, C_NoteError := C_NoteError, C_BadNumber := C_BadNumber, C_BadFraction := C_BadFraction, C_TooLarge := C_TooLarge, fI := fI, u_SCALE := .int 100000000000000000000000000000000000000000000000000 tk_SCALE, u_LIMIT := .int 10000000000000000000000000000000000000000000000000000000000000000000000000000000000000000000000000000000000000000000000000000000000000000000000000000000000000000000000000000000000000000000000000000000000000000000000000000000000000000000000000000000000000000000000000000000000000000000000000000000000000000000000000000000000000000000000000000000000000000000000000000000000000000000000000000000000000000 tk_LIMIT, u_MOST_PLACES := .int 200 tk_MOST_PLACES }
  have T : Tx PySem.Challenge.pw_notewhole_k20_whole_digits_to_the_left K mg A := { F_power := fun_mk (st := s_power) l_power c_power' k_power, g_power := PySem.W.mg_of X G a_power, F_checked := fun_mk (st := s_checked) l_checked c_checked' k_checked, g_checked := PySem.W.mg_of X G a_checked, F_shared := fun_mk (st := s_shared) l_shared c_shared' k_shared, g_shared := PySem.W.mg_of X G a_shared, F_fraction := fun_mk (st := s_fraction) l_fraction c_fraction' k_fraction, g_fraction := PySem.W.mg_of X G a_fraction, F_is_fraction := fun_mk (st := s_is_fraction) l_is_fraction c_is_fraction' k_is_fraction, g_is_fraction := PySem.W.mg_of X G a_is_fraction, F_known := fun_mk (st := s_known) l_known c_known' k_known, g_known := PySem.W.mg_of X G a_known, F_prime_of := fun_mk (st := s_prime_of) l_prime_of c_prime_of' k_prime_of, g_prime_of := PySem.W.mg_of X G a_prime_of, F_places_of := fun_mk (st := s_places_of) l_places_of c_places_of' k_places_of, g_places_of := PySem.W.mg_of X G a_places_of, F_back := fun_mk (st := s_back) l_back c_back' k_back, g_back := PySem.W.mg_of X G a_back, F_of_fraction := fun_mk (st := s_of_fraction) l_of_fraction c_of_fraction' k_of_fraction, g_of_fraction := PySem.W.mg_of X G a_of_fraction, F_going_round := fun_mk (st := s_going_round) l_going_round c_going_round' k_going_round, g_going_round := PySem.W.mg_of X G a_going_round, F_value_of := fun_mk (st := s_value_of) l_value_of c_value_of' k_value_of, g_value_of := PySem.W.mg_of X G a_value_of, F_often := fun_mk (st := s_often) l_often c_often' k_often, g_often := PySem.W.mg_of X G a_often, F_polynomial_at := fun_mk (st := s_polynomial_at) l_polynomial_at c_polynomial_at' k_polynomial_at, g_polynomial_at := PySem.W.mg_of X G a_polynomial_at, F_slope := fun_mk (st := s_slope) l_slope c_slope' k_slope, g_slope := PySem.W.mg_of X G a_slope, F_lifted := fun_mk (st := s_lifted) l_lifted c_lifted' k_lifted, g_lifted := PySem.W.mg_of X G a_lifted, F_lifted_right := fun_mk (st := s_lifted_right) l_lifted_right c_lifted_right' k_lifted_right, g_lifted_right := PySem.W.mg_of X G a_lifted_right, F_square_roots := fun_mk (st := s_square_roots) l_square_roots c_square_roots' k_square_roots, g_square_roots := PySem.W.mg_of X G a_square_roots, F_added := fun_mk (st := s_added) l_added c_added' k_added, g_added := PySem.W.mg_of X G a_added, F_product := fun_mk (st := s_product) l_product c_product' k_product, g_product := PySem.W.mg_of X G a_product, F_own_squares := fun_mk (st := s_own_squares) l_own_squares c_own_squares' k_own_squares, g_own_squares := PySem.W.mg_of X G a_own_squares, F__law_cell := fun_mk (st := s__law_cell) l__law_cell c__law_cell' k__law_cell, g__law_cell := PySem.W.mg_of X G a__law_cell, F__law_source := fun_mk (st := s__law_source) l__law_source c__law_source' k__law_source, g__law_source := PySem.W.mg_of X G a__law_source, F__law_pick := fun_mk (st := s__law_pick) l__law_pick c__law_pick' k__law_pick, g__law_pick := PySem.W.mg_of X G a__law_pick, F__law_great := fun_mk (st := s__law_great) l__law_great c__law_great' k__law_great, g__law_great := PySem.W.mg_of X G a__law_great, F__law_gcd := fun_mk (st := s__law_gcd) l__law_gcd c__law_gcd' k__law_gcd, g__law_gcd := PySem.W.mg_of X G a__law_gcd, F__law_changed := fun_mk (st := s__law_changed) l__law_changed c__law_changed' k__law_changed, g__law_changed := PySem.W.mg_of X G a__law_changed, F__law_cut := fun_mk (st := s__law_cut) l__law_cut c__law_cut' k__law_cut, g__law_cut := PySem.W.mg_of X G a__law_cut, F__law_bent := fun_mk (st := s__law_bent) l__law_bent c__law_bent' k__law_bent, g__law_bent := PySem.W.mg_of X G a__law_bent, F__law_power := fun_mk (st := s__law_power) l__law_power c__law_power' k__law_power, g__law_power := PySem.W.mg_of X G a__law_power, F__law_value := fun_mk (st := s__law_value) l__law_value c__law_value' k__law_value, g__law_value := PySem.W.mg_of X G a__law_value, F__law_at := fun_mk (st := s__law_at) l__law_at c__law_at' k__law_at, g__law_at := PySem.W.mg_of X G a__law_at, F__law_slope := fun_mk (st := s__law_slope) l__law_slope c__law_slope' k__law_slope, g__law_slope := PySem.W.mg_of X G a__law_slope, F__law_due := fun_mk (st := s__law_due) l__law_due c__law_due' k__law_due, g__law_due := PySem.W.mg_of X G a__law_due, F__law_refused := fun_mk (st := s__law_refused) l__law_refused c__law_refused' k__law_refused, g__law_refused := PySem.W.mg_of X G a__law_refused, F__law_roots_right := fun_mk (st := s__law_roots_right) l__law_roots_right c__law_roots_right' k__law_roots_right, g__law_roots_right := PySem.W.mg_of X G a__law_roots_right, F__law_right := fun_mk (st := s__law_right) l__law_right c__law_right' k__law_right, g__law_right := PySem.W.mg_of X G a__law_right, F_law := fun_mk (st := s_law) l_law c_law' k_law, g_law := PySem.W.mg_of X G a_law, base := { fn := ⟨_, _, _, _, _, _, _, _, _, _, _, _, _, _, _, _, _, _, i_l, i_c, i_d, i_v, i_f, i_k⟩, tI := i_t, clD := ⟨_, i_q⟩, opq := i_o, sup := PySem.W.mg_none_of X G z_super, top := i_s }, m_NoteError := PySem.W.mg_of X G ac_NoteError, m_BadNumber := PySem.W.mg_of X G ac_BadNumber, e_BadNumber := { gC := PySem.W.mg_of X G ac_BadNumber, cls := ⟨_, _, _, _, _, _, _, _, _, _, _, _, _, _, _, x_BadNumber, v_BadNumber⟩, sa := s_BadNumber', noN := n_BadNumber', iC := i_BadNumber, kC := kc_BadNumber, exC := e_BadNumber, veC := ve_BadNumber, tyC := ty_BadNumber, ups := up_BadNumber, mD := m_BadNumber }, m_BadFraction := PySem.W.mg_of X G ac_BadFraction, e_BadFraction := { gC := PySem.W.mg_of X G ac_BadFraction, cls := ⟨_, _, _, _, _, _, _, _, _, _, _, _, _, _, _, x_BadFraction, v_BadFraction⟩, sa := s_BadFraction', noN := n_BadFraction', iC := i_BadFraction, kC := kc_BadFraction, exC := e_BadFraction, veC := ve_BadFraction, tyC := ty_BadFraction, ups := up_BadFraction, mD := m_BadFraction }, m_TooLarge := PySem.W.mg_of X G ac_TooLarge, e_TooLarge := { gC := PySem.W.mg_of X G ac_TooLarge, cls := ⟨_, _, _, _, _, _, _, _, _, _, _, _, _, _, _, x_TooLarge, v_TooLarge⟩, sa := s_TooLarge', noN := n_TooLarge', iC := i_TooLarge, kC := kc_TooLarge, exC := e_TooLarge, veC := ve_TooLarge, tyC := ty_TooLarge, ups := up_TooLarge, mD := m_TooLarge }, n_abs := PySem.W.mg_none_of X G z_abs, n_any := PySem.W.mg_none_of X G z_any, n_bool := PySem.W.mg_none_of X G z_bool, n_enumerate := PySem.W.mg_none_of X G z_enumerate, n_int := PySem.W.mg_none_of X G z_int, n_isinstance := PySem.W.mg_none_of X G z_isinstance, n_len := PySem.W.mg_none_of X G z_len, n_list := PySem.W.mg_none_of X G z_list, n_min := PySem.W.mg_none_of X G z_min, n_range := PySem.W.mg_none_of X G z_range, n_reversed := PySem.W.mg_none_of X G z_reversed, n_str := PySem.W.mg_none_of X G z_str, n_sum := PySem.W.mg_none_of X G z_sum, n_tuple := PySem.W.mg_none_of X G z_tuple, n_zip := PySem.W.mg_none_of X G z_zip, x_BadNumber_BadFraction := xx_BadNumber_BadFraction, x_BadNumber_BadNumber := xx_BadNumber_BadNumber, x_BadNumber_TooLarge := xx_BadNumber_TooLarge, x_BadNumber_NoteError := xx_BadNumber_NoteError, x_BadFraction_BadFraction := xx_BadFraction_BadFraction, x_BadFraction_BadNumber := xx_BadFraction_BadNumber, x_BadFraction_TooLarge := xx_BadFraction_TooLarge, x_BadFraction_NoteError := xx_BadFraction_NoteError, x_TooLarge_BadFraction := xx_TooLarge_BadFraction, x_TooLarge_BadNumber := xx_TooLarge_BadNumber, x_TooLarge_TooLarge := xx_TooLarge_TooLarge, x_TooLarge_NoteError := xx_TooLarge_NoteError, k_SCALE_m := PySem.W.mg_of X G q_SCALE, k_SCALE_r := ⟨_, rfl⟩, k_LIMIT_m := PySem.W.mg_of X G q_LIMIT, k_LIMIT_r := ⟨_, rfl⟩, k_MOST_PLACES_m := PySem.W.mg_of X G q_MOST_PLACES, k_MOST_PLACES_r := ⟨_, rfl⟩ }
  exact ⟨A.d_law, fun s v => .of_eq rfl, fun base _ _ => ok_law T⟩
end LW
open PySem PySem.W PyProof.Rows
theorem PySem.Challenge.cw_notewhole_k20_whole_digits_to_the_left_holds : PySem.Challenge.rw_notewhole_k20_whole_digits_to_the_left.Holds := by
  w_on; o_law; k_head; (case hw => w_witness2)
  k_fill
  refine L2.walk_of (l := PySem.Challenge.rw_notewhole_k20_whole_digits_to_the_left) (n := 63) (k := 10) (x := "script") (CX := fun w => L2.CX PySem.Challenge.pw_notewhole_k20_whole_digits_to_the_left w) (sp := fun w => DL.spP _ (fun ds R RE => ∃ ns : List Int, ds = [.frl (ns.map .int)] ∧ ns.length ≤ 63 ∧ R (.p (.bl true)))) rfl (by decide) rfl ⟨rfl, by decide, by decide⟩ (fun w h Y => PySem.W.kIn_of Y) ?F (fun w H a ns hl _ hS => ⟨H, [.frl (ns.map .int)], _, _, L2.Same.refl H, ⟨_, _, rfl, ⟨a, _, rfl, hS, DL.Rps.ofInts ns⟩, rfl⟩, ⟨ns, rfl, hl, rfl⟩, fun v H' F' x _ r e => by subst e; exact r, fun _ _ _ _ _ _ _ z => z⟩) (fun _ _ _ _ _ ⟨_, _, _, _, _, _, _, _, _, _, _, _, z⟩ => z)
  case F =>
    intro w mg fa h KX G hmg
    refine' LW.all_mk KX G hmg ?a_power ?l_power ?c_power_ ?k_power ?a_checked ?l_checked ?c_checked_ ?k_checked ?a_shared ?l_shared ?c_shared_ ?k_shared ?a_fraction ?l_fraction ?c_fraction_ ?k_fraction ?a_is_fraction ?l_is_fraction ?c_is_fraction_ ?k_is_fraction ?a_known ?l_known ?c_known_ ?k_known ?a_prime_of ?l_prime_of ?c_prime_of_ ?k_prime_of ?a_places_of ?l_places_of ?c_places_of_ ?k_places_of ?a_back ?l_back ?c_back_ ?k_back ?a_of_fraction ?l_of_fraction ?c_of_fraction_ ?k_of_fraction ?a_going_round ?l_going_round ?c_going_round_ ?k_going_round ?a_value_of ?l_value_of ?c_value_of_ ?k_value_of ?a_often ?l_often ?c_often_ ?k_often ?a_polynomial_at ?l_polynomial_at ?c_polynomial_at_ ?k_polynomial_at ?a_slope ?l_slope ?c_slope_ ?k_slope ?a_lifted ?l_lifted ?c_lifted_ ?k_lifted ?a_lifted_right ?l_lifted_right ?c_lifted_right_ ?k_lifted_right ?a_square_roots ?l_square_roots ?c_square_roots_ ?k_square_roots ?a_added ?l_added ?c_added_ ?k_added ?a_product ?l_product ?c_product_ ?k_product ?a_own_squares ?l_own_squares ?c_own_squares_ ?k_own_squares ?a__law_cell ?l__law_cell ?c__law_cell_ ?k__law_cell ?a__law_source ?l__law_source ?c__law_source_ ?k__law_source ?a__law_pick ?l__law_pick ?c__law_pick_ ?k__law_pick ?a__law_great ?l__law_great ?c__law_great_ ?k__law_great ?a__law_gcd ?l__law_gcd ?c__law_gcd_ ?k__law_gcd ?a__law_changed ?l__law_changed ?c__law_changed_ ?k__law_changed ?a__law_cut ?l__law_cut ?c__law_cut_ ?k__law_cut ?a__law_bent ?l__law_bent ?c__law_bent_ ?k__law_bent ?a__law_power ?l__law_power ?c__law_power_ ?k__law_power ?a__law_value ?l__law_value ?c__law_value_ ?k__law_value ?a__law_at ?l__law_at ?c__law_at_ ?k__law_at ?a__law_slope ?l__law_slope ?c__law_slope_ ?k__law_slope ?a__law_due ?l__law_due ?c__law_due_ ?k__law_due ?a__law_refused ?l__law_refused ?c__law_refused_ ?k__law_refused ?a__law_roots_right ?l__law_roots_right ?c__law_roots_right_ ?k__law_roots_right ?a__law_right ?l__law_right ?c__law_right_ ?k__law_right ?a_law ?l_law ?c_law_ ?k_law ?ac_NoteError ?ac_BadNumber ?ac_BadFraction ?ac_TooLarge ?i_l ?i_c ?i_d ?i_v ?i_f ?i_k ?i_t ?i_q ?i_o ?z_super ?i_s ?x_BadNumber ?v_BadNumber ?s_BadNumber_ ?n_BadNumber_ ?i_BadNumber ?kc_BadNumber ?e_BadNumber ?ve_BadNumber ?ty_BadNumber ?up_BadNumber ?m_BadNumber ?x_BadFraction ?v_BadFraction ?s_BadFraction_ ?n_BadFraction_ ?i_BadFraction ?kc_BadFraction ?e_BadFraction ?ve_BadFraction ?ty_BadFraction ?up_BadFraction ?m_BadFraction ?x_TooLarge ?v_TooLarge ?s_TooLarge_ ?n_TooLarge_ ?i_TooLarge ?kc_TooLarge ?e_TooLarge ?ve_TooLarge ?ty_TooLarge ?up_TooLarge ?m_TooLarge ?xx_BadNumber_BadFraction ?xx_BadNumber_BadNumber ?xx_BadNumber_TooLarge ?xx_BadNumber_NoteError ?xx_BadFraction_BadFraction ?xx_BadFraction_BadNumber ?xx_BadFraction_TooLarge ?xx_BadFraction_NoteError ?xx_TooLarge_BadFraction ?xx_TooLarge_BadNumber ?xx_TooLarge_TooLarge ?xx_TooLarge_NoteError ?z_abs ?z_any ?z_bool ?z_enumerate ?z_int ?z_isinstance ?z_len ?z_list ?z_min ?z_range ?z_reversed ?z_str ?z_sum ?z_tuple ?z_zip ?q_SCALE ?q_LIMIT ?q_MOST_PLACES
    (case a_power => k_is)
    (case l_power => k_is)
    (case c_power_ => k_is)
    (case k_power => k_is)
    (case a_checked => k_is)
    (case l_checked => k_is)
    (case c_checked_ => k_is)
    (case k_checked => k_is)
    (case a_shared => k_is)
    (case l_shared => k_is)
    (case c_shared_ => k_is)
    (case k_shared => k_is)
    (case a_fraction => k_is)
    (case l_fraction => k_is)
    (case c_fraction_ => k_is)
    (case k_fraction => k_is)
    (case a_is_fraction => k_is)
    (case l_is_fraction => k_is)
    (case c_is_fraction_ => k_is)
    (case k_is_fraction => k_is)
    (case a_known => k_is)
    (case l_known => k_is)
    (case c_known_ => k_is)
    (case k_known => k_is)
    (case a_prime_of => k_is)
    (case l_prime_of => k_is)
    (case c_prime_of_ => k_is)
    (case k_prime_of => k_is)
    (case a_places_of => k_is)
    (case l_places_of => k_is)
    (case c_places_of_ => k_is)
    (case k_places_of => k_is)
    (case a_back => k_is)
    (case l_back => k_is)
    (case c_back_ => k_is)
    (case k_back => k_is)
    (case a_of_fraction => k_is)
    (case l_of_fraction => k_is)
    (case c_of_fraction_ => k_is)
    (case k_of_fraction => k_is)
    (case a_going_round => k_is)
    (case l_going_round => k_is)
    (case c_going_round_ => k_is)
    (case k_going_round => k_is)
    (case a_value_of => k_is)
    (case l_value_of => k_is)
    (case c_value_of_ => k_is)
    (case k_value_of => k_is)
    (case a_often => k_is)
    (case l_often => k_is)
    (case c_often_ => k_is)
    (case k_often => k_is)
    (case a_polynomial_at => k_is)
    (case l_polynomial_at => k_is)
    (case c_polynomial_at_ => k_is)
    (case k_polynomial_at => k_is)
    (case a_slope => k_is)
    (case l_slope => k_is)
    (case c_slope_ => k_is)
    (case k_slope => k_is)
    (case a_lifted => k_is)
    (case l_lifted => k_is)
    (case c_lifted_ => k_is)
    (case k_lifted => k_is)
    (case a_lifted_right => k_is)
    (case l_lifted_right => k_is)
    (case c_lifted_right_ => k_is)
    (case k_lifted_right => k_is)
    (case a_square_roots => k_is)
    (case l_square_roots => k_is)
    (case c_square_roots_ => k_is)
    (case k_square_roots => k_is)
    (case a_added => k_is)
    (case l_added => k_is)
    (case c_added_ => k_is)
    (case k_added => k_is)
    (case a_product => k_is)
    (case l_product => k_is)
    (case c_product_ => k_is)
    (case k_product => k_is)
    (case a_own_squares => k_is)
    (case l_own_squares => k_is)
    (case c_own_squares_ => k_is)
    (case k_own_squares => k_is)
    (case a__law_cell => k_is)
    (case l__law_cell => k_is)
    (case c__law_cell_ => k_is)
    (case k__law_cell => k_is)
    (case a__law_source => k_is)
    (case l__law_source => k_is)
    (case c__law_source_ => k_is)
    (case k__law_source => k_is)
    (case a__law_pick => k_is)
    (case l__law_pick => k_is)
    (case c__law_pick_ => k_is)
    (case k__law_pick => k_is)
    (case a__law_great => k_is)
    (case l__law_great => k_is)
    (case c__law_great_ => k_is)
    (case k__law_great => k_is)
    (case a__law_gcd => k_is)
    (case l__law_gcd => k_is)
    (case c__law_gcd_ => k_is)
    (case k__law_gcd => k_is)
    (case a__law_changed => k_is)
    (case l__law_changed => k_is)
    (case c__law_changed_ => k_is)
    (case k__law_changed => k_is)
    (case a__law_cut => k_is)
    (case l__law_cut => k_is)
    (case c__law_cut_ => k_is)
    (case k__law_cut => k_is)
    (case a__law_bent => k_is)
    (case l__law_bent => k_is)
    (case c__law_bent_ => k_is)
    (case k__law_bent => k_is)
    (case a__law_power => k_is)
    (case l__law_power => k_is)
    (case c__law_power_ => k_is)
    (case k__law_power => k_is)
    (case a__law_value => k_is)
    (case l__law_value => k_is)
    (case c__law_value_ => k_is)
    (case k__law_value => k_is)
    (case a__law_at => k_is)
    (case l__law_at => k_is)
    (case c__law_at_ => k_is)
    (case k__law_at => k_is)
    (case a__law_slope => k_is)
    (case l__law_slope => k_is)
    (case c__law_slope_ => k_is)
    (case k__law_slope => k_is)
    (case a__law_due => k_is)
    (case l__law_due => k_is)
    (case c__law_due_ => k_is)
    (case k__law_due => k_is)
    (case a__law_refused => k_is)
    (case l__law_refused => k_is)
    (case c__law_refused_ => k_is)
    (case k__law_refused => k_is)
    (case a__law_roots_right => k_is)
    (case l__law_roots_right => k_is)
    (case c__law_roots_right_ => k_is)
    (case k__law_roots_right => k_is)
    (case a__law_right => k_is)
    (case l__law_right => k_is)
    (case c__law_right_ => k_is)
    (case k__law_right => k_is)
    (case a_law => k_is)
    (case l_law => k_is)
    (case c_law_ => k_is)
    (case k_law => k_is)
    (case ac_NoteError => k_is)
    (case ac_BadNumber => k_is)
    (case ac_BadFraction => k_is)
    (case ac_TooLarge => k_is)
    (case z_super => k_is)
    (case x_BadNumber => k_is)
    (case v_BadNumber => first | rfl | decide +kernel)
    (case s_BadNumber_ => k_is)
    (case n_BadNumber_ => k_is)
    (case i_BadNumber => k_is)
    (case kc_BadNumber => k_is)
    (case e_BadNumber => k_is)
    (case ve_BadNumber => k_is)
    (case ty_BadNumber => k_is)
    (case up_BadNumber => first | kernel_rfl | rfl)
    (case m_BadNumber => k_is)
    (case x_BadFraction => k_is)
    (case v_BadFraction => first | rfl | decide +kernel)
    (case s_BadFraction_ => k_is)
    (case n_BadFraction_ => k_is)
    (case i_BadFraction => k_is)
    (case kc_BadFraction => k_is)
    (case e_BadFraction => k_is)
    (case ve_BadFraction => k_is)
    (case ty_BadFraction => k_is)
    (case up_BadFraction => first | kernel_rfl | rfl)
    (case m_BadFraction => k_is)
    (case x_TooLarge => k_is)
    (case v_TooLarge => first | rfl | decide +kernel)
    (case s_TooLarge_ => k_is)
    (case n_TooLarge_ => k_is)
    (case i_TooLarge => k_is)
    (case kc_TooLarge => k_is)
    (case e_TooLarge => k_is)
    (case ve_TooLarge => k_is)
    (case ty_TooLarge => k_is)
    (case up_TooLarge => first | kernel_rfl | rfl)
    (case m_TooLarge => k_is)
    (case xx_BadNumber_BadFraction => first | kernel_rfl | rfl)
    (case xx_BadNumber_BadNumber => first | kernel_rfl | rfl)
    (case xx_BadNumber_TooLarge => first | kernel_rfl | rfl)
    (case xx_BadNumber_NoteError => first | kernel_rfl | rfl)
    (case xx_BadFraction_BadFraction => first | kernel_rfl | rfl)
    (case xx_BadFraction_BadNumber => first | kernel_rfl | rfl)
    (case xx_BadFraction_TooLarge => first | kernel_rfl | rfl)
    (case xx_BadFraction_NoteError => first | kernel_rfl | rfl)
    (case xx_TooLarge_BadFraction => first | kernel_rfl | rfl)
    (case xx_TooLarge_BadNumber => first | kernel_rfl | rfl)
    (case xx_TooLarge_TooLarge => first | kernel_rfl | rfl)
    (case xx_TooLarge_NoteError => first | kernel_rfl | rfl)
    (case z_abs => k_is)
    (case z_any => k_is)
    (case z_bool => k_is)
    (case z_enumerate => k_is)
    (case z_int => k_is)
    (case z_isinstance => k_is)
    (case z_len => k_is)
    (case z_list => k_is)
    (case z_min => k_is)
    (case z_range => k_is)
    (case z_reversed => k_is)
    (case z_str => k_is)
    (case z_sum => k_is)
    (case z_tuple => k_is)
    (case z_zip => k_is)
    (case q_SCALE => k_is)
    (case q_LIMIT => k_is)
    (case q_MOST_PLACES => k_is)
    (case i_l => k_is)
    (case i_c => k_is)
    (case i_d => k_is)
    (case i_v => first | rfl | decide +kernel)
    (case i_f => first | rfl | decide +kernel)
    (case i_k => k_is)
    (case i_t => k_is)
    (case i_q => k_is)
    (case i_o => k_is)
    (case i_s => first | rfl | decide +kernel)
