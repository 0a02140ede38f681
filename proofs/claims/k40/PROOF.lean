import PyProof.Rows.All
import Wide.All
import OpenK.AllK
import Wide.FinOn
import HandS.ForMost
import HandS.WordsExc
import HandS.Exc
import HandS.ExcOwn
import HandS.TryOnly
import HandS.IsInst
import HandS.Flow
import HandS.Zip
import HandS.DictTup
import HandS.Wide
import HandS.TupAny
import HandS.Style
import HandS.Deep
import HandS.TupLe
import HandS.Defaults
import HandS.Rev
import HandS.IterVal
import HandS.More
import KE.GoesNew
import HandS.SortRule
import HandS.SortInts
import HandS.HeadHook2
import HandS.MakeKw
import HandS.MakeKwOnly
import HandS.Dict
import HandS.ForDict
import KE.KDictZip
import KE.KStateDown
import HandS.Ends
import HandS.Head0
import HandS.Head1
import HandS.Head2
import HandS.Head3
import HandS.HeadEnd
import PySem.Challenge.RW_turnsandkeys_k40_passes_counted
set_option Elab.async false
set_option linter.all false
set_option maxRecDepth 100000
namespace Tk
open PySem PySem.Spec L2

inductive D where
  | non | bl (b : Bool) | int (i : Int) | str (s : Str) | ty (n : String) | cl (c : Nat)
  | scr (ns : List Int)
  | lst (xs : List D) | tup (xs : List D)
  | dK (kvs : List (Key × D)) | dT (kvs : List (List Key × D))
  | ins (c : Nat) (fs : List (Nat × D))
/-- the classes' places, the attributes' names -/
structure Cn where
  a : Nat → Option Addr
  n : Nat → Str

/-- a tuple that the run has laid (an empty one may be the module's) -/
def TupAt (K : PySem.W.Frag) (G : Hp) (a : Addr) (vs : List V) : Prop := G a = some (.tup vs) ∨ (vs = [] ∧ SqT K G a vs)
section
variable (K : PySem.W.Frag) (ca : Cn) (G : Hp)
mutual
def At : D → V → Prop
  | .non, v => v = .non
  | .bl b, v => v = .bl b
  | .int i, v => v = .int i
  | .str s, v => v = .str s
  | .ty n, v => v = .ty n
  | .cl c, v => ∃ C, ca.a c = some C ∧ v = .ref C
  | .scr ns, v => ∃ a, v = .ref a ∧ SqL K G a (ns.map V.int)
  | .lst xs, v => ∃ a vs, v = .ref a ∧ G a = some (.lst vs) ∧ AtL xs vs
  | .tup xs, v => ∃ a vs, v = .ref a ∧ TupAt K G a vs ∧ AtL xs vs
  | .dK kvs, v => ∃ a vs, v = .ref a ∧ G a = some (.dK vs) ∧ AtK kvs vs
  | .dT kvs, v => ∃ a vs, v = .ref a ∧ G a = some (.dT vs) ∧ AtT kvs vs
  | .ins c fs, v => ∃ a C dx vs, v = .ref a ∧ ca.a c = some C ∧ G a = some (.ins C dx vs) ∧ AtF fs vs
def AtL : List D → List V → Prop
  | [], vs => vs = []
  | d :: ds, vs => ∃ v r, vs = v :: r ∧ At d v ∧ AtL ds r
def AtK : List (Key × D) → List (Key × V) → Prop
  | [], vs => vs = []
  | (k, d) :: ds, vs => ∃ v r, vs = (k, v) :: r ∧ At d v ∧ AtK ds r
def AtT : List (List Key × D) → List (List Key × V) → Prop
  | [], vs => vs = []
  | (k, d) :: ds, vs => ∃ v r, vs = (k, v) :: r ∧ At d v ∧ AtT ds r
def AtF : List (Nat × D) → List (Str × V) → Prop
  | [], vs => vs = []
  | (k, d) :: ds, vs => ∃ v r, vs = (ca.n k, v) :: r ∧ At d v ∧ AtF ds r
end
end

theorem Rd.mono {G G' : Hp} {a : Addr} {u : HO} (s : Same G G') (h : Rd G a u) : Rd G' a u := by
  rcases h with h | ⟨o, h⟩
  · exact .inl (s _ _ h)
  · exact .inr ⟨o, s _ _ h⟩
theorem SqL_mono {K : PySem.W.Frag} {G G' : Hp} {a : Addr} {xs : List V} (s : Same G G') (h : SqL K G a xs) : SqL K G' a xs := s.seq h
theorem SqT_mono {K : PySem.W.Frag} {G G' : Hp} {a : Addr} {xs : List V} (s : Same G G') (h : SqT K G a xs) : SqT K G' a xs := by
  rcases h with h | h
  · exact .inl (Rd.mono s h)
  · exact .inr h

theorem TupAt.mono {K : PySem.W.Frag} {G G' : Hp} {a : Addr} {vs : List V} (s : Same G G') (h : TupAt K G a vs) : TupAt K G' a vs := h.elim (fun h => .inl (s _ _ h)) fun h => .inr ⟨h.1, SqT_mono s h.2⟩
/-- read at a later heap -/
theorem tq {K : PySem.W.Frag} {G G' : Hp} {a : Addr} {vs : List V} (s : Same G G') (h : TupAt K G a vs) : SqT K G' a vs := h.elim (fun h => .of (s _ _ h)) fun h => SqT_mono s h.2
section
variable {K : PySem.W.Frag} {ca : Cn} {G G' : Hp}
mutual
theorem At.mono (s : Same G G') : ∀ {d : D} {v : V}, At K ca G d v → At K ca G' d v
  | .non, v, h => h
  | .bl _, v, h => h
  | .int _, v, h => h
  | .str _, v, h => h
  | .ty _, v, h => h
  | .cl _, v, h => h
  | .scr ns, v, ⟨a, e, h⟩ => ⟨a, e, SqL_mono s h⟩
  | .lst xs, v, ⟨a, vs, e, h, r⟩ => ⟨a, vs, e, s _ _ h, AtL.mono s r⟩
  | .tup xs, v, ⟨a, vs, e, h, r⟩ => ⟨a, vs, e, TupAt.mono s h, AtL.mono s r⟩
  | .dK xs, v, ⟨a, vs, e, h, r⟩ => ⟨a, vs, e, s _ _ h, AtK.mono s r⟩
  | .dT xs, v, ⟨a, vs, e, h, r⟩ => ⟨a, vs, e, s _ _ h, AtT.mono s r⟩
  | .ins c xs, v, ⟨a, C, dx, vs, e, q, h, r⟩ => ⟨a, C, dx, vs, e, q, s _ _ h, AtF.mono s r⟩
theorem AtL.mono (s : Same G G') : ∀ {ds : List D} {vs : List V}, AtL K ca G ds vs → AtL K ca G' ds vs
  | [], _, h => h
  | _ :: _, _, ⟨v, r, e, h, t⟩ => ⟨v, r, e, At.mono s h, AtL.mono s t⟩
theorem AtK.mono (s : Same G G') : ∀ {ds : List (Key × D)} {vs : List (Key × V)}, AtK K ca G ds vs → AtK K ca G' ds vs
  | [], _, h => h
  | (_, _) :: _, _, ⟨v, r, e, h, t⟩ => ⟨v, r, e, At.mono s h, AtK.mono s t⟩
theorem AtT.mono (s : Same G G') : ∀ {ds : List (List Key × D)} {vs : List (List Key × V)}, AtT K ca G ds vs → AtT K ca G' ds vs
  | [], _, h => h
  | (_, _) :: _, _, ⟨v, r, e, h, t⟩ => ⟨v, r, e, At.mono s h, AtT.mono s t⟩
theorem AtF.mono (s : Same G G') : ∀ {ds : List (Nat × D)} {vs : List (Str × V)}, AtF K ca G ds vs → AtF K ca G' ds vs
  | [], _, h => h
  | (_, _) :: _, _, ⟨v, r, e, h, t⟩ => ⟨v, r, e, At.mono s h, AtF.mono s t⟩
end
theorem AtL.length : ∀ {ds : List D} {vs : List V}, AtL K ca G ds vs → ds.length = vs.length
  | [], _, h => by cases h; rfl
  | _ :: _, _, ⟨_, _, e, _, t⟩ => by subst e; simp [AtL.length t]
theorem AtL.get : ∀ {ds : List D} {vs : List V} {i : Nat} {d : D}, AtL K ca G ds vs → ds[i]? = some d → ∃ v, vs[i]? = some v ∧ At K ca G d v
  | [], _, _, _, _, e => by simp at e
  | d :: ds, _, 0, _, ⟨v, r, e, h, t⟩, q => by subst e; simp at q; subst q; exact ⟨v, rfl, h⟩
  | d :: ds, _, i + 1, _, ⟨v, r, e, h, t⟩, q => by
    subst e
    obtain ⟨w, h1, h2⟩ := AtL.get (i := i) t (by simpa using q)
    exact ⟨w, by simpa using h1, h2⟩
theorem AtL.append : ∀ {ds es : List D} {vs ws : List V}, AtL K ca G ds vs → AtL K ca G es ws → AtL K ca G (ds ++ es) (vs ++ ws)
  | [], _, _, _, h, h' => by cases h; exact h'
  | _ :: _, _, _, _, ⟨v, r, e, h, t⟩, h' => by subst e; exact ⟨v, _, rfl, h, AtL.append t h'⟩
theorem AtL.one {d : D} {v : V} (h : At K ca G d v) : AtL K ca G [d] [v] := ⟨v, [], rfl, h, rfl⟩
theorem AtL.drop : ∀ {ds : List D} {vs : List V} (n : Nat), AtL K ca G ds vs → AtL K ca G (ds.drop n) (vs.drop n)
  | _, _, 0, h => h
  | [], _, _ + 1, h => by cases h; rfl
  | _ :: _, _, n + 1, ⟨_, _, e, _, t⟩ => by subst e; exact AtL.drop n t
theorem AtL.take : ∀ {ds : List D} {vs : List V} (n : Nat), AtL K ca G ds vs → AtL K ca G (ds.take n) (vs.take n)
  | _, _, 0, _ => rfl
  | [], _, _ + 1, h => by cases h; rfl
  | _ :: _, _, n + 1, ⟨_, _, e, h, t⟩ => by subst e; exact ⟨_, _, rfl, h, AtL.take n t⟩
theorem AtL.reverse : ∀ {ds : List D} {vs : List V}, AtL K ca G ds vs → AtL K ca G ds.reverse vs.reverse
  | [], _, h => by cases h; rfl
  | _ :: _, _, ⟨_, _, e, h, t⟩ => by subst e; rw [List.reverse_cons, List.reverse_cons]; exact AtL.append (AtL.reverse t) (AtL.one h)
theorem AtL.set : ∀ {ds : List D} {vs : List V} (n : Nat) {d : D} {v : V}, AtL K ca G ds vs → At K ca G d v → AtL K ca G (ds.set n d) (vs.set n v)
  | [], _, _, _, _, h, _ => by cases h; rfl
  | _ :: _, _, 0, _, _, ⟨_, _, e, h, t⟩, q => by subst e; exact ⟨_, _, rfl, q, t⟩
  | _ :: _, _, n + 1, _, _, ⟨_, _, e, h, t⟩, q => by subst e; exact ⟨_, _, rfl, h, AtL.set n t q⟩
theorem AtL.ints : ∀ {ns : List Int} {vs : List V}, AtL K ca G (ns.map D.int) vs → vs = ns.map V.int
  | [], _, h => h
  | _ :: _, _, ⟨_, _, e, h, t⟩ => by subst e; cases h; rw [AtL.ints t]; rfl
theorem AtL.of_ints : ∀ (ns : List Int), AtL K ca G (ns.map D.int) (ns.map V.int)
  | [] => rfl
  | _ :: ns => ⟨_, _, rfl, rfl, AtL.of_ints ns⟩
theorem AtL.eraseIdx : ∀ {ds : List D} {vs : List V} (n : Nat), AtL K ca G ds vs → AtL K ca G (ds.eraseIdx n) (vs.eraseIdx n)
  | [], _, _, h => by cases h; rfl
  | _ :: _, _, 0, ⟨_, _, e, h, t⟩ => by subst e; exact t
  | _ :: _, _, n + 1, ⟨_, _, e, h, t⟩ => by subst e; exact ⟨_, _, rfl, h, AtL.eraseIdx n t⟩
theorem AtF.lookup : ∀ {fs : List (Nat × D)} {vs : List (Str × V)} {n : Nat} {d : D}, (∀ p ∈ fs, ca.n p.1 = ca.n n → p.1 = n) → AtF K ca G fs vs → fs.lookup n = some d → ∃ v, vs.lookup (ca.n n) = some v ∧ At K ca G d v
  | [], _, _, _, _, _, e => by simp at e
  | (k, d) :: ds, _, n, _, i, ⟨v, r, e, h, t⟩, q => by
    subst e
    rw [List.lookup_cons] at q ⊢
    by_cases z : n = k
    · subst z
      rw [beq_self_eq_true] at q ⊢
      cases q
      exact ⟨v, rfl, h⟩
    · have z' : (ca.n n == ca.n k) = false := beq_eq_false_iff_ne.mpr fun y => z (i (k, d) List.mem_cons_self y.symm).symm
      rw [beq_eq_false_iff_ne.mpr z] at q
      rw [z']
      exact AtF.lookup (fun p m => i p (List.mem_cons_of_mem _ m)) t q
theorem AtF.lookup_none : ∀ {fs : List (Nat × D)} {vs : List (Str × V)} {n : Str}, (∀ p ∈ fs, ca.n p.1 ≠ n) → AtF K ca G fs vs → vs.lookup n = none
  | [], _, _, _, h => by cases h; rfl
  | (k, d) :: ds, _, n, i, ⟨v, r, e, h, t⟩ => by
    subst e
    rw [List.lookup_cons, beq_eq_false_iff_ne.mpr (Ne.symm (i (k, d) List.mem_cons_self))]
    exact AtF.lookup_none (fun p m => i p (List.mem_cons_of_mem _ m)) t
end

/-! ### heaps that grow -/
structure Ext (G H G' H' : Hp) : Prop where
  hh : Same H H'
  gg : Same G G'
  gh : Same G' H'
  nw : ∀ a, G' a ≠ none → G a ≠ none ∨ H a = none
theorem Ext.refl {G H : Hp} (s : Same G H) : Ext G H G H := ⟨.refl _, .refl _, s, fun _ h => .inl h⟩
theorem same_none {H H' : Hp} (s : Same H H') {a : Addr} (h : H' a = none) : H a = none := by
  cases e : H a with
  | none => rfl
  | some o => rw [s a o e] at h; cases h
theorem same_some {H H' : Hp} (s : Same H H') {a : Addr} (h : H a ≠ none) : H' a ≠ none := fun z => h (same_none s z)
theorem Ext.trans {G H G1 H1 G2 H2 : Hp} (e : Ext G H G1 H1) (f : Ext G1 H1 G2 H2) : Ext G H G2 H2 :=
  ⟨e.hh.trans f.hh, e.gg.trans f.gg, f.gh, fun a h => (f.nw a h).elim (e.nw a) fun z => .inr (same_none e.hh z)⟩
theorem same_upd {H : Hp} {p : Addr} {o : HO} (n : H p = none) : Same H (upd H p o) := fun b u e => by
  rw [upd_ne (ne_of_none e n)]; exact e
theorem same_upd2 {G H : Hp} {p : Addr} {o : HO} (s : Same G H) : Same (upd G p o) (upd H p o) := fun b u e => by
  by_cases h : b = p
  · subst h; rw [upd_same] at e ⊢; exact e
  · rw [upd_ne h] at e ⊢; exact s _ _ e
/-- a new object that nobody changes any more -/
theorem Ext.new {G H : Hp} {p : Addr} {o : HO} (s : Same G H) (n : H p = none) : Ext G H (upd G p o) (upd H p o) := by
  refine ⟨same_upd n, same_upd (same_none s n), same_upd2 s, fun a h => ?_⟩
  by_cases e : a = p
  · subst e; exact .inr n
  · rw [upd_ne e] at h; exact .inl h

/-! ### results -/
structure Ex where
  c : Nat
  fs : List (Nat × D)
inductive R (α : Type) where
  | ok (a : α) | exc (x : Ex) | bad
def R.bind {α β : Type} (r : R α) (k : α → R β) : R β := match r with
  | .ok a => k a
  | .exc x => .exc x
  | .bad => .bad
instance : Monad R where
  pure := .ok
  bind := R.bind
@[simp] theorem bind_ok {α β : Type} (a : α) (k : α → R β) : R.bind (.ok a) k = k a := (rfl)
@[simp] theorem bind_exc {α β : Type} (x : Ex) (k : α → R β) : R.bind (.exc x) k = .exc x := (rfl)
@[simp] theorem bind_bad {α β : Type} (k : α → R β) : R.bind .bad k = .bad := (rfl)

/-- how a raised exception lies -/
def ExAt (K : PySem.W.Frag) (ca : Cn) (G H : Hp) (x : Ex) (c : Value) (dx : Option Addr) : Prop :=
  ∃ C, ca.a x.c = some C ∧ c = .ref C ∧ ((x.fs = [] ∧ dx = none) ∨ ∃ d vs, dx = some d ∧ H d = some (.xd vs) ∧ AtF K ca G x.fs vs)

section
variable (K : PySem.W.Frag) (ca : Cn)
/-- what is wanted of a result -/
def Wish {α : Type} (S : Hp → α → Hp → Prop) (G H : Hp) (r : R α) (W1 : XK) : Prop := match r with
  | .ok d => ∀ G' H', Ext G H G' H' → S G' d H'
  | .exc x => ∀ G' H' c dx, Ext G H G' H' → ExAt K ca G' H' x c dx → W1 c dx H'
  | .bad => False
/-- .. of a value -/
abbrev SV (Q : VK) : Hp → D → Hp → Prop := fun G' d H' => ∀ v, At K ca G' d v → Q v H'
abbrev SB (Q : Bool → Hp → Prop) : Hp → Bool → Hp → Prop := fun _ b H' => Q b H'
abbrev SL (Q : List V → Hp → Prop) : Hp → List D → Hp → Prop := fun G' ds H' => ∀ vs, AtL K ca G' ds vs → Q vs H'
end
section
variable {K : PySem.W.Frag} {ca : Cn} {α β : Type} {S : Hp → α → Hp → Prop} {G H G' H' : Hp} {W1 : XK}
theorem Wish.mono {r : R α} (h : Wish K ca S G H r W1) (e : Ext G H G' H') : Wish K ca S G' H' r W1 := by
  cases r with
  | ok d => exact fun G2 H2 f => h G2 H2 (e.trans f)
  | exc x => exact fun G2 H2 c dx f => h G2 H2 c dx (e.trans f)
  | bad => exact h
theorem Wish.bind {r : R β} {k : β → R α} {S1 : Hp → β → Hp → Prop} (h : Wish K ca S G H (r.bind k) W1) (hk : ∀ d G1 H1, r = .ok d → Ext G H G1 H1 → Wish K ca S G1 H1 (k d) W1 → S1 G1 d H1) : Wish K ca S1 G H r W1 := by
  cases r with
  | ok d => exact fun G1 H1 e => hk d G1 H1 rfl e (Wish.mono (r := k d) h e)
  | exc x => exact h
  | bad => exact h
/-- the result without a change -/
theorem Wish.here {d : α} (h : Wish K ca S G H (.ok d) W1) (s : Same G H) : S G d H := h G H (.refl s)
end
end Tk

namespace Tk
open PySem PySem.Spec L2
/-! ### what the slots hold -/
inductive Sl where
  | no | v (d : D) | l (xs : List D) | k (kvs : List (Key × D)) | t (kvs : List (List Key × D)) | o (c : Nat) (fs : List (Nat × D))
abbrev Ev := List Sl
def Sl.own : Sl → Bool
  | .no => false
  | .v _ => false
  | _ => true
section
variable (K : PySem.W.Frag) (ca : Cn)
def Own (G H : Hp) (a : Addr) : Sl → Prop
  | .no => False
  | .v _ => False
  | .l xs => ∃ vs, H a = some (.lst vs) ∧ AtL K ca G xs vs
  | .k xs => ∃ vs, H a = some (.dK vs) ∧ AtK K ca G xs vs
  | .t xs => ∃ vs, H a = some (.dT vs) ∧ AtT K ca G xs vs
  | .o c fs => ∃ C dx vs, ca.a c = some C ∧ H a = some (.ins C dx vs) ∧ AtF K ca G fs vs
/-- the slots of the frame and what they hold; B: what stood at the entry -/
structure Rel (B G H : Hp) (σ : L2.St) (ρ : Ev) : Prop where
  len : σ.length = ρ.length
  val : ∀ (i : Nat) (d : D), ρ[i]? = some (.v d) → ∃ v, σ[i]? = some (some v) ∧ At K ca G d v
  own : ∀ (i : Nat) (s : Sl), ρ[i]? = some s → s.own = true → ∃ a, σ[i]? = some (some (.ref a)) ∧ Own K ca G H a s ∧ G a = none ∧ B a = none
  sep : ∀ (i j : Nat) (s t : Sl) (a : Addr), ρ[i]? = some s → s.own = true → ρ[j]? = some t → t.own = true → σ[i]? = some (some (.ref a)) → σ[j]? = some (some (.ref a)) → i = j
end
section
variable {K : PySem.W.Frag} {ca : Cn} {B G H G' H' : Hp} {σ : L2.St} {ρ : Ev}
theorem Own.ext {a : Addr} {s : Sl} (h : Own K ca G H a s) (sg : Same G G') (e : H' a = H a) : Own K ca G' H' a s := by
  cases s with
  | no => exact h
  | v d => exact h
  | l xs => obtain ⟨vs, h1, h2⟩ := h; exact ⟨vs, e.trans h1, AtL.mono sg h2⟩
  | k xs => obtain ⟨vs, h1, h2⟩ := h; exact ⟨vs, e.trans h1, AtK.mono sg h2⟩
  | t xs => obtain ⟨vs, h1, h2⟩ := h; exact ⟨vs, e.trans h1, AtT.mono sg h2⟩
  | o c fs => obtain ⟨C, dx, vs, h0, h1, h2⟩ := h; exact ⟨C, dx, vs, h0, e.trans h1, AtF.mono sg h2⟩
theorem Own.some {a : Addr} {s : Sl} (h : Own K ca G H a s) : ∃ o, H a = some o := by
  cases s with
  | no => exact h.elim
  | v d => exact h.elim
  | l xs => obtain ⟨vs, h1, h2⟩ := h; exact ⟨_, h1⟩
  | k xs => obtain ⟨vs, h1, h2⟩ := h; exact ⟨_, h1⟩
  | t xs => obtain ⟨vs, h1, h2⟩ := h; exact ⟨_, h1⟩
  | o c fs => obtain ⟨C, dx, vs, h0, h1, h2⟩ := h; exact ⟨_, h1⟩
theorem Rel.ext (r : Rel K ca B G H σ ρ) (e : Ext G H G' H') : Rel K ca B G' H' σ ρ where
  len := r.len
  val := fun i d h => let ⟨v, h1, h2⟩ := r.val i d h; ⟨v, h1, At.mono e.gg h2⟩
  own := fun i s h ho => by
    obtain ⟨a, h1, h2, h3, h4⟩ := r.own i s h ho
    obtain ⟨o, h5⟩ := h2.some
    refine ⟨a, h1, h2.ext e.gg ((e.hh _ _ h5).trans h5.symm), ?_, h4⟩
    cases q : G' a with
    | none => rfl
    | some u =>
      rcases e.nw a (by rw [q]; simp) with z | z
      · exact (z h3).elim
      · rw [h5] at z; cases z
  sep := r.sep
theorem getElem?_set' {α : Type} {l : List α} {i j : Nat} {x y : α} (h : (l.set i x)[j]? = some y) : (j = i ∧ y = x) ∨ (j ≠ i ∧ l[j]? = some y) := by
  by_cases e : i = j
  · subst e
    rw [List.getElem?_set_self'] at h
    cases q : l[i]? with
    | none => rw [q] at h; cases h
    | some z => rw [q] at h; cases h; exact .inl ⟨rfl, rfl⟩
  · rw [List.getElem?_set_ne e] at h; exact .inr ⟨fun z => e z.symm, h⟩
theorem Rel.set (r : Rel K ca B G H σ ρ) (i : Nat) {d : D} {v : V} (h : At K ca G d v) : Rel K ca B G H (σ.set i (some v)) (ρ.set i (.v d)) where
  len := by rw [List.length_set, List.length_set]; exact r.len
  val := fun j e q => by
    rcases getElem?_set' q with ⟨rfl, z⟩ | ⟨ne, q⟩
    · cases z
      refine ⟨v, ?_, h⟩
      have : j < σ.length := by
        rw [r.len]
        have := (List.getElem?_eq_some_iff.mp q).1
        rwa [List.length_set] at this
      rw [List.getElem?_set_self this]
    · obtain ⟨w, h1, h2⟩ := r.val j e q
      exact ⟨w, by rw [List.getElem?_set_ne (Ne.symm ne)]; exact h1, h2⟩
  own := fun j s q ho => by
    rcases getElem?_set' q with ⟨rfl, z⟩ | ⟨ne, q⟩
    · cases z; cases ho
    · obtain ⟨a, h1, h2⟩ := r.own j s q ho
      exact ⟨a, by rw [List.getElem?_set_ne (Ne.symm ne)]; exact h1, h2⟩
  sep := fun j k s t a qj oj qk ok hj hk => by
    rcases getElem?_set' qj with ⟨rfl, z⟩ | ⟨nj, qj⟩
    · cases z; cases oj
    · rcases getElem?_set' qk with ⟨rfl, z⟩ | ⟨nk, qk⟩
      · cases z; cases ok
      · rw [List.getElem?_set_ne (Ne.symm nj)] at hj
        rw [List.getElem?_set_ne (Ne.symm nk)] at hk
        exact r.sep j k s t a qj oj qk ok hj hk
/-- an own object comes to a slot -/
theorem Rel.setOwn (r : Rel K ca B G H σ ρ) (i : Nat) {s : Sl} {a : Addr} (ho : s.own = true) (h : Own K ca G H a s) (hg : G a = none) (hb : B a = none)
    (hn : ∀ (j : Nat) (t : Sl), j ≠ i → ρ[j]? = some t → t.own = true → σ[j]? ≠ some (some (.ref a))) : Rel K ca B G H (σ.set i (some (.ref a))) (ρ.set i s) where
  len := by rw [List.length_set, List.length_set]; exact r.len
  val := fun j e q => by
    rcases getElem?_set' q with ⟨rfl, z⟩ | ⟨ne, q⟩
    · rw [← z] at ho; cases ho
    · obtain ⟨w, h1, h2⟩ := r.val j e q
      exact ⟨w, by rw [List.getElem?_set_ne (Ne.symm ne)]; exact h1, h2⟩
  own := fun j s' q ho' => by
    rcases getElem?_set' q with ⟨rfl, z⟩ | ⟨ne, q⟩
    · subst z
      refine ⟨a, ?_, h, hg, hb⟩
      have : j < σ.length := by
        rw [r.len]
        have := (List.getElem?_eq_some_iff.mp q).1
        rwa [List.length_set] at this
      rw [List.getElem?_set_self this]
    · obtain ⟨a', h1, h2⟩ := r.own j s' q ho'
      exact ⟨a', by rw [List.getElem?_set_ne (Ne.symm ne)]; exact h1, h2⟩
  sep := fun j k s' t b qj oj qk ok hj hk => by
    have lt : ∀ {j : Nat} {s' : Sl}, (ρ.set i s)[j]? = some s' → j < σ.length := fun {j s'} q => by
      rw [r.len]
      have := (List.getElem?_eq_some_iff.mp q).1
      rwa [List.length_set] at this
    have lj := lt qj
    have lk := lt qk
    by_cases ej : j = i
    · subst ej
      rw [List.getElem?_set_self lj] at hj
      cases hj
      by_cases ek : k = j
      · exact ek.symm
      · rw [List.getElem?_set_ne (Ne.symm ek)] at hk qk
        exact (hn k t ek qk ok hk).elim
    · rw [List.getElem?_set_ne (Ne.symm ej)] at hj qj
      by_cases ek : k = i
      · subst ek
        rw [List.getElem?_set_self lk] at hk
        cases hk
        exact (hn j s' ej qj oj hj).elim
      · rw [List.getElem?_set_ne (Ne.symm ek)] at hk qk
        exact r.sep j k s' t b qj oj qk ok hj hk
end

/-! ### judgements -/
structure FE (X : Cx) (ca : Cn) (W : WX) (e : Expr) (f : Ev → R D) : Prop where
  ex : ∃ t, PE X e t ∧ ∀ B G H σ ρ Q, Same G H → Same B H → Rel X.K ca B G H σ ρ → Wish X.K ca (SV X.K ca Q) G H (f ρ) (WE W σ) → t σ H Q
structure FT (X : Cx) (ca : Cn) (W : WX) (e : Expr) (f : Ev → R Bool) : Prop where
  ex : ∃ t, PT X e t ∧ ∀ B G H σ ρ Q, Same G H → Same B H → Rel X.K ca B G H σ ρ → Wish X.K ca (SB Q) G H (f ρ) (WE W σ) → t σ H Q
structure FW (X : Cx) (ca : Cn) (W : WX) (e : Expr) (f : Ev → R Bool) : Prop where
  ex : ∃ t, PW X e t ∧ ∀ B G H σ ρ Q, Same G H → Same B H → Rel X.K ca B G H σ ρ → Wish X.K ca (SB Q) G H (f ρ) (WE W σ) → t σ H Q
structure FA (X : Cx) (ca : Cn) (W : WX) (es : List Expr) (f : Ev → R (List D)) : Prop where
  ex : ∃ t, PA X es t ∧ ∀ B G H σ ρ Q, Same G H → Same B H → Rel X.K ca B G H σ ρ → Wish X.K ca (SL X.K ca Q) G H (f ρ) (WE W σ) → t σ H Q
structure FK (X : Cx) (ca : Cn) (W : WX) (es : List Keyword) (f : Ev → R (List D)) : Prop where
  ex : ∃ t, PK X es t ∧ ∀ B G H σ ρ Q, Same G H → Same B H → Rel X.K ca B G H σ ρ → Wish X.K ca (SL X.K ca Q) G H (f ρ) (WE W σ) → t σ H Q

inductive SO where
  | nx (ρ : Ev) | rt (d : D) | bk (ρ : Ev) | ct (ρ : Ev) | ex (x : Ex) (ρ : Ev) | bad
structure Adv (B G G' H' : Hp) : Prop where
  gg : Same G G'
  gh : Same G' H'
  bh : Same B H'
  nw : ∀ a, G' a ≠ none → G a ≠ none ∨ B a = none
theorem Adv.refl {B G H : Hp} (s : Same G H) (b : Same B H) : Adv B G G H := ⟨.refl _, s, b, fun _ h => .inl h⟩
theorem Adv.trans {B G G1 H1 G2 H2 : Hp} (e : Adv B G G1 H1) (f : Adv B G1 G2 H2) : Adv B G G2 H2 :=
  ⟨e.gg.trans f.gg, f.gh, f.bh, fun a h => (f.nw a h).elim (e.nw a) .inr⟩
theorem Ext.adv {B G H G' H' : Hp} (e : Ext G H G' H') (b : Same B H) : Adv B G G' H' :=
  ⟨e.gg, e.gh, b.trans e.hh, fun a h => (e.nw a h).elim .inl fun z => .inr (same_none b z)⟩
section
variable (K : PySem.W.Frag) (ca : Cn)
def WishS (B G : Hp) (r : SO) (D : Ends) (W : WX) : Prop := match r with
  | .nx ρ => ∀ σ' G' H', Adv B G G' H' → Rel K ca B G' H' σ' ρ → D.nx σ' H'
  | .bk ρ => ∀ σ' G' H', Adv B G G' H' → Rel K ca B G' H' σ' ρ → D.bk σ' H'
  | .ct ρ => ∀ σ' G' H', Adv B G G' H' → Rel K ca B G' H' σ' ρ → D.ct σ' H'
  | .rt d => ∀ v G' H', Adv B G G' H' → At K ca G' d v → D.rt v H'
  | .ex x ρ => ∀ σ' G' H' c dx, Adv B G G' H' → Rel K ca B G' H' σ' ρ → ExAt K ca G' H' x c dx → W c dx σ' H'
  | .bad => False
end
theorem WishS.mono {K : PySem.W.Frag} {ca : Cn} {B G G' H' : Hp} {r : SO} {D : Ends} {W : WX} (h : WishS K ca B G r D W) (e : Adv B G G' H') : WishS K ca B G' r D W := by
  cases r with
  | nx ρ => exact fun σ' G2 H2 f => h σ' G2 H2 (e.trans f)
  | bk ρ => exact fun σ' G2 H2 f => h σ' G2 H2 (e.trans f)
  | ct ρ => exact fun σ' G2 H2 f => h σ' G2 H2 (e.trans f)
  | rt d => exact fun v G2 H2 f => h v G2 H2 (e.trans f)
  | ex x ρ => exact fun σ' G2 H2 c dx f => h σ' G2 H2 c dx (e.trans f)
  | bad => exact h
structure FS (X : Cx) (ca : Cn) (W : WX) (st : Stmt) (g : Ev → SO) : Prop where
  ex : ∃ t, PS X st t ∧ ∀ B G H σ ρ D, Same G H → Same B H → Rel X.K ca B G H σ ρ → WishS X.K ca B G (g ρ) D W → t D σ H
structure FSs (X : Cx) (ca : Cn) (W : WX) (sts : List Stmt) (g : Ev → SO) : Prop where
  ex : ∃ t, PSs X sts t ∧ ∀ B G H σ ρ D, Same G H → Same B H → Rel X.K ca B G H σ ρ → WishS X.K ca B G (g ρ) D W → t D σ H
/-- from an expression's result to a statement's -/
def SO.from {α : Type} (ρ : Ev) (r : R α) (k : α → SO) : SO := match r with
  | .ok a => k a
  | .exc x => .ex x ρ
  | .bad => .bad
@[simp] theorem from_ok {α : Type} (ρ : Ev) (a : α) (k : α → SO) : SO.from ρ (.ok a) k = k a := (rfl)
@[simp] theorem from_exc {α : Type} (ρ : Ev) (x : Ex) (k : α → SO) : SO.from ρ (.exc x) k = .ex x ρ := (rfl)
@[simp] theorem from_bad {α : Type} (ρ : Ev) (k : α → SO) : SO.from ρ .bad k = .bad := (rfl)
theorem WishS.from {K : PySem.W.Frag} {ca : Cn} {α : Type} {B G H : Hp} {σ : L2.St} {ρ : Ev} {r : R α} {k : α → SO} {D : Ends} {W : WX} {S : Hp → α → Hp → Prop} (h : WishS K ca B G (SO.from ρ r k) D W) (b : Same B H) (rl : Rel K ca B G H σ ρ)
    (hk : ∀ a G1 H1, r = .ok a → Ext G H G1 H1 → WishS K ca B G1 (k a) D W → Rel K ca B G1 H1 σ ρ → Same B H1 → S G1 a H1) : Wish K ca S G H r (WE W σ) := by
  cases r with
  | ok a => exact fun G1 H1 e => hk a G1 H1 rfl e (WishS.mono (r := k a) h (e.adv b)) (rl.ext e) (b.trans e.hh)
  | exc x => exact fun G1 H1 c dx e z => h σ G1 H1 c dx (e.adv b) (rl.ext e) z
  | bad => exact h
end Tk

namespace Tk
open PySem PySem.Spec L2
/-! ### the words of the mirror: expressions -/
def eV (i : Nat) : Ev → R D := fun ρ => match ρ[i]? with
  | some (.v d) => .ok d
  | _ => .bad
def eC (d : D) : Ev → R D := fun _ => .ok d
def e1 (g : D → R D) (fa : Ev → R D) : Ev → R D := fun ρ => (fa ρ).bind g
def e2 (g : D → D → R D) (fa fb : Ev → R D) : Ev → R D := fun ρ => (fa ρ).bind fun a => (fb ρ).bind fun b => g a b
def eA (g : List D → R D) (fa : Ev → R (List D)) : Ev → R D := fun ρ => (fa ρ).bind g
def aN : Ev → R (List D) := fun _ => .ok []
def aC (fa : Ev → R D) (fr : Ev → R (List D)) : Ev → R (List D) := fun ρ => (fa ρ).bind fun a => (fr ρ).bind fun r => .ok (a :: r)
def Bof : D → R Bool
  | .bl b => .ok b
  | _ => .bad
def tV (fa : Ev → R D) : Ev → R Bool := fun ρ => (fa ρ).bind Bof
def tAnd (f g : Ev → R Bool) : Ev → R Bool := fun ρ => (f ρ).bind fun b => if b = true then g ρ else .ok false
def tOr (f g : Ev → R Bool) : Ev → R Bool := fun ρ => (f ρ).bind fun b => if b = true then .ok true else g ρ
def tNot (f : Ev → R Bool) : Ev → R Bool := fun ρ => (f ρ).bind fun b => .ok (!b)
def eB (f : Ev → R Bool) : Ev → R D := fun ρ => (f ρ).bind fun b => .ok (.bl b)
def eAnd (fa fb : Ev → R D) : Ev → R D := fun ρ => (fa ρ).bind fun a => (Bof a).bind fun b => if b = true then fb ρ else .ok (.bl false)
def eOr (fa fb : Ev → R D) : Ev → R D := fun ρ => (fa ρ).bind fun a => (Bof a).bind fun b => if b = true then .ok (.bl true) else fb ρ
def eNot (fa : Ev → R D) : Ev → R D := fun ρ => (fa ρ).bind fun a => (Bof a).bind fun b => .ok (.bl (!b))
def eIf (t : Ev → R Bool) (fa fb : Ev → R D) : Ev → R D := fun ρ => (t ρ).bind fun b => if b = true then fa ρ else fb ρ
def eChain (g h : D → D → R D) (fa fb fc : Ev → R D) : Ev → R D := fun ρ => (fa ρ).bind fun a => (fb ρ).bind fun b => (g a b).bind fun z => (Bof z).bind fun k => if k = true then (fc ρ).bind fun c => h b c else .ok (.bl false)

section
variable {X : Cx} {ca : Cn} {W : WX} {a b c e : Expr} {es : List Expr} {fa fb fc : Ev → R D} {fl : Ev → R (List D)} {ft fu : Ev → R Bool} {pos : Pos}

theorem fe_v (i : Nat) {x : Str} {pos : Pos} (hN : X.N[i]? = some x := by rfl) (hv : Vis X.env.scope x := by first | exact Or.inl rfl | exact Or.inr (Or.inl rfl) | exact Or.inr (Or.inr rfl)) (hd : (x == ("__debug__" : Str)) = false := by decide)
    (hcd : (x == ("__classdict__" : Str)) = false := by decide) : FE X ca W (.Name x pos) (eV i) := by
  refine ⟨_, pe_var hN hv hd hcd, fun B G H σ ρ Q s b r h => ?_⟩
  unfold eV at h
  split at h
  · rename_i d e
    obtain ⟨v, h1, h2⟩ := r.val i d e
    exact ⟨v, h1, h.here s v h2⟩
  · exact h.elim
theorem fe_int {i : Int} {j : Nat} {pos : Pos} : FE X ca W (.Constant (.int i) j pos) (eC (.int i)) := ⟨_, pe_int, fun B G H σ ρ Q s b r h => h.here s _ rfl⟩
theorem fe_bl {i : Bool} {j : Nat} {pos : Pos} : FE X ca W (.Constant (.bool i) j pos) (eC (.bl i)) := ⟨_, pe_bl, fun B G H σ ρ Q s b r h => h.here s _ rfl⟩
theorem fe_non {j : Nat} {pos : Pos} : FE X ca W (.Constant .none j pos) (eC .non) := ⟨_, pe_non, fun B G H σ ρ Q s b r h => h.here s _ rfl⟩
theorem fe_str {x : Str} {j : Nat} {pos : Pos} : FE X ca W (.Constant (.str x) j pos) (eC (.str x)) := ⟨_, pe_str, fun B G H σ ρ Q s b r h => h.here s _ rfl⟩
/-- a module's name -/
theorem fe_glob {x : Str} {v : V} {u : Value} {d : D} {pos : Pos} (hg : Gl X x) (hm : X.mg x = some u) (r : RelV v u) (ha : ∀ G, At X.K ca G d v) (hd : (x == ("__debug__" : Str)) = false := by decide) : FE X ca W (.Name x pos) (eC d) :=
  ⟨_, pe_glob hg hm r hd, fun B G H σ ρ Q s b r h => h.here s _ (ha G)⟩

def V1 (X : Cx) (ca : Cn) (r : V → Hp → VK → Prop) (g : D → R D) : Prop := ∀ G H W1 x a Q, Same G H → At X.K ca G a x → Wish X.K ca (SV X.K ca Q) G H (g a) W1 → r x H Q
def V2 (X : Cx) (ca : Cn) (r : R2) (g : D → D → R D) : Prop := ∀ G H W1 x y a b Q, Same G H → At X.K ca G a x → At X.K ca G b y → Wish X.K ca (SV X.K ca Q) G H (g a b) W1 → r x y H Q
def VN (X : Cx) (ca : Cn) (r : List V → Hp → VK → Prop) (g : List D → R D) : Prop := ∀ G H W1 xs ds Q, Same G H → AtL X.K ca G ds xs → Wish X.K ca (SV X.K ca Q) G H (g ds) W1 → r xs H Q

theorem fe_op {op : Operator} {r : R2} {g : D → D → R D} (ho : OpR X (binaryOp op) r) (hv : V2 X ca r g) (ha : FE X ca W a fa) (hb : FE X ca W b fb) : FE X ca W (.BinOp a op b pos) (e2 g fa fb) := by
  obtain ⟨ta, pa, ka⟩ := ha.ex
  obtain ⟨tb, pb, kb⟩ := hb.ex
  refine ⟨_, pe_op ho pa pb, fun B G H σ ρ Q s b r h => ?_⟩
  refine ka B G H σ ρ _ s b r (Wish.bind h fun d G1 H1 _ x1 w1 v a1 => ?_)
  refine kb B G1 H1 σ ρ _ x1.gh (b.trans x1.hh) (r.ext x1) (Wish.bind w1 fun d2 G2 H2 _ x2 w2 v2 a2 => ?_)
  exact hv G2 H2 _ v v2 d d2 Q x2.gh (At.mono x2.gg a1) a2 w2
theorem fe_un {op : UnaryOp} {r : V → Hp → VK → Prop} {g : D → R D} (ho : UnR X (unaryOp op) r) (hv : V1 X ca r g) (ha : FE X ca W a fa) : FE X ca W (.UnaryOp op a pos) (e1 g fa) := by
  obtain ⟨ta, pa, ka⟩ := ha.ex
  refine ⟨_, pe_un ho pa, fun B G H σ ρ Q s b r h => ?_⟩
  exact ka B G H σ ρ _ s b r (Wish.bind h fun d G1 H1 _ x1 w1 v a1 => hv G1 H1 _ v d Q x1.gh a1 w1)
theorem fe_cmp {op : CmpOp} {r : R2} {g : D → D → R D} (ho : OpR X (compareOp op) r) (hv : V2 X ca r g) (hm : behindInMarks op b = false) (ha : FE X ca W a fa) (hb : FE X ca W b fb) : FE X ca W (.Compare a [op] [b] pos) (e2 g fa fb) := by
  obtain ⟨ta, pa, ka⟩ := ha.ex
  obtain ⟨tb, pb, kb⟩ := hb.ex
  refine ⟨_, pe_cmpR ho pa pb hm, fun B G H σ ρ Q s b r h => ?_⟩
  refine ka B G H σ ρ _ s b r (Wish.bind h fun d G1 H1 _ x1 w1 v a1 => ?_)
  refine kb B G1 H1 σ ρ _ x1.gh (b.trans x1.hh) (r.ext x1) (Wish.bind w1 fun d2 G2 H2 _ x2 w2 v2 a2 => ?_)
  exact hv G2 H2 _ v v2 d d2 Q x2.gh (At.mono x2.gg a1) a2 w2
theorem wish_tst {K : PySem.W.Frag} {G H : Hp} {r : R D} {Q : Bool → Hp → Prop} {W1 : XK} (h : Wish K ca (SB Q) G H (r.bind Bof) W1) : Wish K ca (SV K ca fun x H' => ∃ k, x = .bl k ∧ Q k H') G H r W1 := by
  refine Wish.bind h fun d G1 H1 _ x1 w1 v a1 => ?_
  cases d with
  | bl k => exact ⟨k, a1, w1.here x1.gh⟩
  | _ => exact w1.elim
theorem ft_cmp {op : CmpOp} {r : R2} {g : D → D → R D} (ho : OpR X (compareOp op) r) (hv : V2 X ca r g) (hm : behindInMarks op b = false) (ha : FE X ca W a fa) (hb : FE X ca W b fb) : FT X ca W (.Compare a [op] [b] pos) (tV (e2 g fa fb)) := by
  obtain ⟨ta, pa, ka⟩ := ha.ex
  obtain ⟨tb, pb, kb⟩ := hb.ex
  refine ⟨_, pt_cmpR ho pa pb hm, fun B G H σ ρ Q s b r h => ?_⟩
  refine ka B G H σ ρ _ s b r (Wish.bind (wish_tst h) fun d G1 H1 _ x1 w1 v a1 => ?_)
  refine kb B G1 H1 σ ρ _ x1.gh (b.trans x1.hh) (r.ext x1) (Wish.bind w1 fun d2 G2 H2 _ x2 w2 v2 a2 => ?_)
  exact hv G2 H2 _ v v2 d d2 _ x2.gh (At.mono x2.gg a1) a2 w2
theorem ft_val (h : FE X ca W e fa) (he : ∀ whole, isTrue e X.env whole = (do let v ← whole; standAt e.pos; holding [v] (truthy v)) := by intro _; rfl) : FT X ca W e (tV fa) := by
  obtain ⟨ta, pa, ka⟩ := h.ex
  exact ⟨_, pt_val pa he, fun B G H σ ρ Q s b r h => ka B G H σ ρ _ s b r (wish_tst h)⟩
theorem ft_w (h : FW X ca W e ft) : FT X ca W e ft := let ⟨t, p, k⟩ := h.ex; ⟨t, p.pt, k⟩
theorem fw_and1 (h : FT X ca W a ft) : FW X ca W (.BoolOp .And [a] pos) ft := let ⟨t, p, k⟩ := h.ex; ⟨t, pw_and1 p, k⟩
theorem fw_or1 (h : FT X ca W a ft) : FW X ca W (.BoolOp .Or [a] pos) ft := let ⟨t, p, k⟩ := h.ex; ⟨t, pw_or1 p, k⟩
theorem fw_and {rest : List Expr} (ha : FT X ca W a ft) (hb : FW X ca W (.BoolOp .And (b :: rest) pos) fu) : FW X ca W (.BoolOp .And (a :: b :: rest) pos) (tAnd ft fu) := by
  obtain ⟨t, p, k⟩ := ha.ex
  obtain ⟨u, q, l⟩ := hb.ex
  refine ⟨_, pw_and p q, fun B G H σ ρ Q s b r h => ?_⟩
  refine k B G H σ ρ _ s b r (Wish.bind h fun d G1 H1 _ x1 w1 => ?_)
  cases d with
  | true => exact l B G1 H1 σ ρ _ x1.gh (b.trans x1.hh) (r.ext x1) w1
  | false => exact w1.here x1.gh
theorem fw_or {rest : List Expr} (ha : FT X ca W a ft) (hb : FW X ca W (.BoolOp .Or (b :: rest) pos) fu) : FW X ca W (.BoolOp .Or (a :: b :: rest) pos) (tOr ft fu) := by
  obtain ⟨t, p, k⟩ := ha.ex
  obtain ⟨u, q, l⟩ := hb.ex
  refine ⟨_, pw_or p q, fun B G H σ ρ Q s b r h => ?_⟩
  refine k B G H σ ρ _ s b r (Wish.bind h fun d G1 H1 _ x1 w1 => ?_)
  cases d with
  | false => exact l B G1 H1 σ ρ _ x1.gh (b.trans x1.hh) (r.ext x1) w1
  | true => exact w1.here x1.gh
theorem ft_not (ha : FT X ca W a ft) : FT X ca W (.UnaryOp .Not a pos) (tNot ft) := by
  obtain ⟨t, p, k⟩ := ha.ex
  refine ⟨_, pt_not p, fun B G H σ ρ Q s b r h => ?_⟩
  exact k B G H σ ρ _ s b r (Wish.bind h fun d G1 H1 _ x1 w1 => w1.here x1.gh)
theorem fe_one {op : BoolOp} (ha : FE X ca W a fa) : FE X ca W (.BoolOp op [a] pos) fa := let ⟨t, p, k⟩ := ha.ex; ⟨t, pe_one p, k⟩
theorem fe_and {rest : List Expr} (ha : FE X ca W a fa) (hb : FE X ca W (.BoolOp .And (b :: rest) pos) fb) : FE X ca W (.BoolOp .And (a :: b :: rest) pos) (eAnd fa fb) := by
  obtain ⟨t, p, k⟩ := ha.ex
  obtain ⟨u, q, l⟩ := hb.ex
  refine ⟨_, pe_and p q, fun B G H σ ρ Q s b r h => ?_⟩
  refine k B G H σ ρ _ s b r (Wish.bind h fun d G1 H1 _ x1 w1 v a1 => ?_)
  cases d with
  | bl z =>
    refine ⟨z, a1, ?_⟩
    cases z with
    | true => exact l B G1 H1 σ ρ _ x1.gh (b.trans x1.hh) (r.ext x1) w1
    | false => exact w1.here x1.gh _ rfl
  | _ => exact w1.elim
theorem fe_or {rest : List Expr} (ha : FE X ca W a fa) (hb : FE X ca W (.BoolOp .Or (b :: rest) pos) fb) : FE X ca W (.BoolOp .Or (a :: b :: rest) pos) (eOr fa fb) := by
  obtain ⟨t, p, k⟩ := ha.ex
  obtain ⟨u, q, l⟩ := hb.ex
  refine ⟨_, pe_or p q, fun B G H σ ρ Q s b r h => ?_⟩
  refine k B G H σ ρ _ s b r (Wish.bind h fun d G1 H1 _ x1 w1 v a1 => ?_)
  cases d with
  | bl z =>
    refine ⟨z, a1, ?_⟩
    cases z with
    | false => exact l B G1 H1 σ ρ _ x1.gh (b.trans x1.hh) (r.ext x1) w1
    | true => exact w1.here x1.gh _ rfl
  | _ => exact w1.elim
theorem fe_not (ha : FE X ca W a fa) : FE X ca W (.UnaryOp .Not a pos) (eNot fa) := by
  obtain ⟨t, p, k⟩ := ha.ex
  refine ⟨_, pe_not p, fun B G H σ ρ Q s b r h => ?_⟩
  refine k B G H σ ρ _ s b r (Wish.bind h fun d G1 H1 _ x1 w1 v a1 => ?_)
  cases d with
  | bl z => exact ⟨z, a1, w1.here x1.gh _ rfl⟩
  | _ => exact w1.elim
theorem fe_if (hc : FT X ca W c ft) (ha : FE X ca W a fa) (hb : FE X ca W b fb) : FE X ca W (.IfExp c a b pos) (eIf ft fa fb) := by
  obtain ⟨t, p, k⟩ := hc.ex
  obtain ⟨ta, pa, ka⟩ := ha.ex
  obtain ⟨tb, pb, kb⟩ := hb.ex
  refine ⟨_, pe_ifExp p pa pb, fun B G H σ ρ Q s b r h => ?_⟩
  refine k B G H σ ρ _ s b r (Wish.bind h fun d G1 H1 _ x1 w1 => ?_)
  cases d with
  | true => exact ka B G1 H1 σ ρ _ x1.gh (b.trans x1.hh) (r.ext x1) w1
  | false => exact kb B G1 H1 σ ρ _ x1.gh (b.trans x1.hh) (r.ext x1) w1
theorem chain_core {r r' : R2} {g h' : D → D → R D} (hv : V2 X ca r g) (hv' : V2 X ca r' h') {ta tb tc : TE}
    (ka : ∀ B G H σ ρ Q, Same G H → Same B H → Rel X.K ca B G H σ ρ → Wish X.K ca (SV X.K ca Q) G H (fa ρ) (WE W σ) → ta σ H Q)
    (kb : ∀ B G H σ ρ Q, Same G H → Same B H → Rel X.K ca B G H σ ρ → Wish X.K ca (SV X.K ca Q) G H (fb ρ) (WE W σ) → tb σ H Q)
    (kc : ∀ B G H σ ρ Q, Same G H → Same B H → Rel X.K ca B G H σ ρ → Wish X.K ca (SV X.K ca Q) G H (fc ρ) (WE W σ) → tc σ H Q)
    (B G H σ ρ Q) (s : Same G H) (b : Same B H) (rl : Rel X.K ca B G H σ ρ) (h : Wish X.K ca (SV X.K ca Q) G H (eChain g h' fa fb fc ρ) (WE W σ)) : tChain r r' ta tb tc σ H Q := by
  refine ka B G H σ ρ _ s b rl (Wish.bind h fun d G1 H1 _ x1 w1 v a1 => ?_)
  refine kb B G1 H1 σ ρ _ x1.gh (b.trans x1.hh) (rl.ext x1) (Wish.bind w1 fun d2 G2 H2 _ x2 w2 v2 a2 => ?_)
  refine hv G2 H2 (WE W σ) v v2 d d2 _ x2.gh (At.mono x2.gg a1) a2 (Wish.bind w2 fun d3 G3 H3 _ x3 w3 v3 a3 => ?_)
  cases d3 with
  | bl z =>
    refine ⟨z, a3, ?_⟩
    cases z with
    | true =>
      refine kc B G3 H3 σ ρ _ x3.gh (b.trans (x1.hh.trans (x2.hh.trans x3.hh))) (((rl.ext x1).ext x2).ext x3) (Wish.bind w3 fun d4 G4 H4 _ x4 w4 v4 a4 => ?_)
      exact hv' G4 H4 _ v2 v4 d2 d4 Q x4.gh (At.mono (x3.gg.trans x4.gg) a2) a4 w4
    | false => exact w3.here x3.gh _ rfl
  | _ => exact w3.elim
theorem fe_chain {op op' : CmpOp} {r r' : R2} {g h' : D → D → R D} (ho : OpR X (compareOp op) r) (hv : V2 X ca r g) (ho' : OpR X (compareOp op') r') (hv' : V2 X ca r' h') (ha : FE X ca W a fa) (hb : FE X ca W b fb) (hc : FE X ca W c fc) (hm : lastMarks [op, op'] [b, c] = false := by with_unfolding_all rfl) :
    FE X ca W (.Compare a [op, op'] [b, c] pos) (eChain g h' fa fb fc) := by
  obtain ⟨ta, pa, ka⟩ := ha.ex
  obtain ⟨tb, pb, kb⟩ := hb.ex
  obtain ⟨tc, pc, kc⟩ := hc.ex
  exact ⟨_, pe_chain ho ho' pa pb pc hm, chain_core hv hv' ka kb kc⟩
theorem ft_chain {op op' : CmpOp} {r r' : R2} {g h' : D → D → R D} (ho : OpR X (compareOp op) r) (hv : V2 X ca r g) (ho' : OpR X (compareOp op') r') (hv' : V2 X ca r' h') (ha : FE X ca W a fa) (hb : FE X ca W b fb) (hc : FE X ca W c fc) (hm : lastMarks [op, op'] [b, c] = false := by with_unfolding_all rfl) :
    FT X ca W (.Compare a [op, op'] [b, c] pos) (tV (eChain g h' fa fb fc)) := by
  obtain ⟨ta, pa, ka⟩ := ha.ex
  obtain ⟨tb, pb, kb⟩ := hb.ex
  obtain ⟨tc, pc, kc⟩ := hc.ex
  exact ⟨_, pt_chain ho ho' pa pb pc hm, fun B G H σ ρ Q s b r h => chain_core hv hv' ka kb kc B G H σ ρ _ s b r (wish_tst h)⟩
/-! arguments, displays -/
theorem fa_nil : FA X ca W [] aN := ⟨_, pa_nil, fun B G H σ ρ Q s b r h => h.here s _ rfl⟩
theorem fa_cons (ha : FE X ca W e fa) (hr : FA X ca W es fl) (hs : starEach (e :: es) X.env = (false, eval e X.env) :: starEach es X.env := by rfl) : FA X ca W (e :: es) (aC fa fl) := by
  obtain ⟨ta, pa, ka⟩ := ha.ex
  obtain ⟨tb, pb, kb⟩ := hr.ex
  refine ⟨_, pa_cons pa pb hs, fun B G H σ ρ Q s b r h => ?_⟩
  refine ka B G H σ ρ _ s b r (Wish.bind h fun d G1 H1 _ x1 w1 v a1 => ?_)
  refine kb B G1 H1 σ ρ _ x1.gh (b.trans x1.hh) (r.ext x1) (Wish.bind w1 fun d2 G2 H2 _ x2 w2 v2 a2 => ?_)
  exact w2.here x2.gh _ ⟨v, v2, rfl, At.mono x2.gg a1, a2⟩
theorem fk_nil : FK X ca W [] aN := ⟨_, pk_nil, fun B G H σ ρ Q s b r h => h.here s _ rfl⟩
theorem fk_cons {nm : Option Str} {kpos : Pos} {kws : List Keyword} (ha : FE X ca W e fa) (hr : FK X ca W kws fl) : FK X ca W (⟨nm, e, kpos⟩ :: kws) (aC fa fl) := by
  obtain ⟨ta, pa, ka⟩ := ha.ex
  obtain ⟨tb, pb, kb⟩ := hr.ex
  refine ⟨_, pk_cons pa pb, fun B G H σ ρ Q s b r h => ?_⟩
  refine ka B G H σ ρ _ s b r (Wish.bind h fun d G1 H1 _ x1 w1 v a1 => ?_)
  refine kb B G1 H1 σ ρ _ x1.gh (b.trans x1.hh) (r.ext x1) (Wish.bind w1 fun d2 G2 H2 _ x2 w2 v2 a2 => ?_)
  exact w2.here x2.gh _ ⟨v, v2, rfl, At.mono x2.gg a1, a2⟩
def gLst (ds : List D) : R D := if ds.length ≤ sizeLine then .ok (.lst ds) else .bad
def gTup (ds : List D) : R D := if ds.length ≤ sizeLine then .ok (.tup ds) else .bad
theorem new_lst {G H : Hp} {p : Addr} {ds : List D} {vs : List V} {Q : VK} {W1 : XK} (s : Same G H) (h : Wish X.K ca (SV X.K ca Q) G H (.ok (.lst ds)) W1) (a : AtL X.K ca G ds vs) (n : H p = none) : Q (.ref p) (upd H p (.lst vs)) :=
  h _ _ (Ext.new s n) (.ref p) ⟨p, vs, rfl, upd_same, AtL.mono (same_upd (same_none s n)) a⟩
theorem new_tup {G H : Hp} {p : Addr} {ds : List D} {vs : List V} {Q : VK} {W1 : XK} (s : Same G H) (h : Wish X.K ca (SV X.K ca Q) G H (.ok (.tup ds)) W1) (a : AtL X.K ca G ds vs) (n : H p = none) : Q (.ref p) (upd H p (.tup vs)) :=
  h _ _ (Ext.new s n) (.ref p) ⟨p, vs, rfl, .inl upd_same, AtL.mono (same_upd (same_none s n)) a⟩
theorem fe_lst (h : FA X ca W es fl) : FE X ca W (.List es pos) (eA gLst fl) := by
  obtain ⟨t, p, k⟩ := h.ex
  refine ⟨_, pe_lst p, fun B G H σ ρ Q s b r h => ?_⟩
  refine k B G H σ ρ _ s b r (Wish.bind h fun ds G1 H1 _ x1 w1 vs a1 => ?_)
  unfold gLst at w1
  split at w1
  · rename_i z
    exact ⟨by rw [← a1.length]; exact z, fun p n => new_lst x1.gh w1 a1 n⟩
  · exact w1.elim
theorem fe_tup {x1 : Nat} (h : FA X ca W es fl) : FE X ca W (.Tuple es x1 pos) (eA gTup fl) := by
  obtain ⟨t, p, k⟩ := h.ex
  refine ⟨_, pe_tup p, fun B G H σ ρ Q s b r h => ?_⟩
  refine k B G H σ ρ _ s b r (Wish.bind h fun ds G1 H1 _ x1 w1 vs a1 => ?_)
  unfold gTup at w1
  split at w1
  · rename_i z
    exact ⟨by rw [← a1.length]; exact z, fun p n => new_tup x1.gh w1 a1 n⟩
  · exact w1.elim
end
end Tk

namespace Tk
open PySem PySem.Spec L2
/-! ### the words of the mirror: statements -/
def sN : Ev → SO := fun ρ => .nx ρ
def sSq (g k : Ev → SO) : Ev → SO := fun ρ => match g ρ with
  | .nx ρ' => k ρ'
  | r => r
def sBad : Ev → SO := fun _ => .bad
def sRet (f : Ev → R D) : Ev → SO := fun ρ => SO.from ρ (f ρ) .rt
def sRetN : Ev → SO := fun _ => .rt .non
def sDrop (f : Ev → R D) : Ev → SO := fun ρ => SO.from ρ (f ρ) fun _ => .nx ρ
def sIf (t : Ev → R Bool) (g k : Ev → SO) : Ev → SO := fun ρ => SO.from ρ (t ρ) fun b => if b = true then g ρ else k ρ
def sSet (i : Nat) (f : Ev → R D) : Ev → SO := fun ρ => SO.from ρ (f ρ) fun d => .nx (ρ.set i (.v d))
def sBk : Ev → SO := fun ρ => .bk ρ
def sCt : Ev → SO := fun ρ => .ct ρ
/-- targets: none where the value has not that shape -/
abbrev Tg := D → Ev → Option Ev
abbrev Tgs := List D → Ev → Option Ev
def gN (i : Nat) : Tg := fun d ρ => some (ρ.set i (.v d))
def gsN : Tgs
  | [], ρ => some ρ
  | _ :: _, _ => none
def gsC (g : Tg) (r : Tgs) : Tgs
  | [], _ => none
  | d :: ds, ρ => (g d ρ).bind fun ρ' => r ds ρ'
def gT (n : Nat) (g : Tgs) : Tg
  | .tup ds, ρ => if ds.length = n then g ds ρ else none
  | _, _ => none
def SO.ofO (o : Option Ev) (k : Ev → SO) : SO := match o with
  | some ρ => k ρ
  | none => .bad
@[simp] theorem ofO_some (ρ : Ev) (k : Ev → SO) : SO.ofO (some ρ) k = k ρ := (rfl)
def sAsg (f : Ev → R D) (g : Tg) : Ev → SO := fun ρ => SO.from ρ (f ρ) fun d => SO.ofO (g d ρ) .nx
def loop (g : Tg) (body : Ev → SO) : List D → Ev → SO
  | [], ρ => .nx ρ
  | d :: ds, ρ => SO.ofO (g d ρ) fun ρ1 => match body ρ1 with
    | .nx ρ2 => loop g body ds ρ2
    | .ct ρ2 => loop g body ds ρ2
    | .bk ρ2 => .nx ρ2
    | r => r
def sFor (fi : Ev → R (List D)) (g : Tg) (body : Ev → SO) : Ev → SO := fun ρ => SO.from ρ (fi ρ) fun ds => loop g body ds ρ
def wloop (t : Ev → R Bool) (body : Ev → SO) : Nat → Ev → SO
  | 0, ρ => .bad
  | n + 1, ρ => SO.from ρ (t ρ) fun b => if b = true then (match body ρ with
    | .nx ρ2 => wloop t body n ρ2
    | .ct ρ2 => wloop t body n ρ2
    | .bk ρ2 => .nx ρ2
    | r => r) else .nx ρ

/-- zs: the slots that the target may store to -/
structure FG (X : Cx) (ca : Cn) (zs : List Nat) (tg : Expr) (h : Tg) : Prop where
  ex : ∃ t, PG X tg t ∧ ∀ B G H σ ρ d v (Q : L2.St → Hp → Prop), Same G H → Same B H → Rel X.K ca B G H σ ρ → At X.K ca G d v → (∃ ρ', h d ρ = some ρ' ∧ ∀ σ', Rel X.K ca B G H σ' ρ' → wipe σ' zs = wipe σ zs → Q σ' H) → t v σ H Q
structure FGs (X : Cx) (ca : Cn) (zs : List Nat) (tgs : List Expr) (h : Tgs) : Prop where
  ex : ∃ t, PGs X tgs t ∧ ∀ B G H σ ρ ds vs (Q : L2.St → Hp → Prop), Same G H → Same B H → Rel X.K ca B G H σ ρ → AtL X.K ca G ds vs → (∃ ρ', h ds ρ = some ρ' ∧ ∀ σ', Rel X.K ca B G H σ' ρ' → wipe σ' zs = wipe σ zs → Q σ' H) → t vs σ H Q
theorem wipe_set {σ : L2.St} {i : Nat} {x : Option V} : ∀ {zs : List Nat}, i ∈ zs → wipe (σ.set i x) zs = wipe σ zs
  | [], h => by cases h
  | z :: zs, h => by
    unfold wipe
    by_cases e : i ∈ zs
    · rw [wipe_set e]
    · rcases List.mem_cons.mp h with rfl | h
      · have : ∀ zs : List Nat, i ∉ zs → wipe (σ.set i x) zs = (wipe σ zs).set i x := by
          intro zs
          induction zs with
          | nil => intro _; rfl
          | cons y ys ih =>
            intro hn
            rw [List.mem_cons, not_or] at hn
            unfold wipe
            rw [ih hn.2, List.set_comm _ _ hn.1]
        rw [this zs e, List.set_set]
      · exact absurd h e
/-- the items ds come one after another, whatever grows meanwhile -/
def JOk (K : PySem.W.Frag) (ca : Cn) (G0 : Hp) (J : It) (ds : List D) : Prop := ∀ G H, Same G0 G → Same G H → ∀ i,
  (∀ d, ds[i]? = some d → J.go i H ∧ ∀ x H', J.yld i H x H' → ∃ G', Ext G H G' H' ∧ At K ca G' d x) ∧ (ds.length = i → J.stop i H)
structure FI (X : Cx) (ca : Cn) (W : WX) (tg iter : Expr) (fi : Ev → R (List D)) : Prop where
  ex : ∃ t, PI X tg iter t ∧ ∀ B G H σ ρ (Q : It → Hp → Prop), Same G H → Same B H → Rel X.K ca B G H σ ρ → Wish X.K ca (fun G' ds H' => ∀ J, JOk X.K ca G' J ds → Q J H') G H (fi ρ) (WE W σ) → t σ H Q

section
variable {X : Cx} {ca : Cn} {W : WX} {e c : Expr} {st : Stmt} {rest body orelse : List Stmt} {fa : Ev → R D} {ft : Ev → R Bool} {g k : Ev → SO} {pos : Pos} {zs : List Nat}
theorem fss_nil : FSs X ca W [] sN := ⟨_, pss_nil, fun B G H σ ρ D s b r h => h σ G H (.refl s b) r⟩
theorem fss_cons (h1 : FS X ca W st g) (h2 : FSs X ca W rest k) : FSs X ca W (st :: rest) (sSq g k) := by
  obtain ⟨t, p, kt⟩ := h1.ex
  obtain ⟨u, q, ku⟩ := h2.ex
  refine ⟨_, pss_cons p q, fun B G H σ ρ D s b r h => ?_⟩
  refine kt B G H σ ρ _ s b r ?_
  unfold sSq at h
  cases z : g ρ with
  | nx ρ1 =>
    rw [z] at h
    exact fun σ' G' H' a r' => ku B G' H' σ' ρ1 D a.gh a.bh r' (WishS.mono (r := k ρ1) h a)
  | _ => rw [z] at h; exact h
theorem fss_one (h1 : FS X ca W st g) : FSs X ca W [st] g := let ⟨t, p, kt⟩ := h1.ex; ⟨t, pss_one p, kt⟩
theorem fs_never : FS X ca W st sBad := ⟨_, ps_never, fun B G H σ ρ D s b r h => h.elim⟩
theorem fss_never : FSs X ca W rest sBad := ⟨_, pss_never, fun B G H σ ρ D s b r h => h.elim⟩
theorem fs_pass : FS X ca W (.Pass pos) sN := ⟨_, ps_pass, fun B G H σ ρ D s b r h => h σ G H (.refl s b) r⟩
theorem fs_break : FS X ca W (.Break pos) sBk := ⟨_, ps_break, fun B G H σ ρ D s b r h => h σ G H (.refl s b) r⟩
theorem fs_continue : FS X ca W (.Continue pos) sCt := ⟨_, ps_continue, fun B G H σ ρ D s b r h => h σ G H (.refl s b) r⟩
theorem fs_ret (h : FE X ca W e fa) : FS X ca W (.Return (some e) pos) (sRet fa) := by
  obtain ⟨t, p, kt⟩ := h.ex
  refine ⟨_, ps_ret p, fun B G H σ ρ D s b r h => kt B G H σ ρ _ s b r ?_⟩
  exact WishS.from h b r fun a G1 H1 _ x w r1 b1 v av => w v G1 H1 (.refl x.gh b1) av
theorem fs_retN : FS X ca W (.Return none pos) sRetN := ⟨_, ps_retN, fun B G H σ ρ D s b r h => h _ G H (.refl s b) rfl⟩
theorem fs_expr (h : FE X ca W e fa) (hs : swapsWith e none pos.line X.env = pure false := by rfl) : FS X ca W (.Expr e pos) (sDrop fa) := by
  obtain ⟨t, p, kt⟩ := h.ex
  refine ⟨_, ps_expr p hs, fun B G H σ ρ D s b r h => kt B G H σ ρ _ s b r ?_⟩
  exact WishS.from h b r fun a G1 H1 _ x w r1 b1 v av => w σ G1 H1 (.refl x.gh b1) r1
theorem fs_if (hc : FT X ca W c ft) (ha : FSs X ca W body g) (hb : FSs X ca W orelse k) : FS X ca W (.If c body orelse pos) (sIf ft g k) := by
  obtain ⟨t, p, kt⟩ := hc.ex
  obtain ⟨ta, pa, ka⟩ := ha.ex
  obtain ⟨tb, pb, kb⟩ := hb.ex
  refine ⟨_, ps_if p pa pb, fun B G H σ ρ D s b r h => kt B G H σ ρ _ s b r ?_⟩
  refine WishS.from h b r fun a G1 H1 _ x w r1 b1 => ?_
  cases a with
  | true => exact ka B G1 H1 σ ρ D x.gh b1 r1 w
  | false => exact kb B G1 H1 σ ρ D x.gh b1 r1 w
theorem fs_set {i : Nat} {y : Str} {pos' : Pos} (hN : X.N.Nodup) (hi : X.N[i]? = some y) (h : FE X ca W e fa) (hx : Loc X.env.scope y := by first | exact .inl rfl | exact .inr rfl) (hs : swapsWith e (some (.Name y pos')) pos.line X.env = pure false := by rfl)
    (hf : X.fn y = true ∨ X.env.scope.names.lookup y = some .local := by first | exact .inl rfl | exact .inr rfl | assumption) : FS X ca W (.Assign [.Name y pos'] e pos) (sSet i fa) := by
  obtain ⟨t, p, kt⟩ := h.ex
  refine ⟨_, ps_set hN hi hx p hs hf, fun B G H σ ρ D s b r h => kt B G H σ ρ _ s b r ?_⟩
  exact WishS.from h b r fun a G1 H1 _ x w r1 b1 v av => w _ G1 H1 (.refl x.gh b1) (r1.set i av)
/-! targets -/
theorem fg_n {i : Nat} {y : Str} (hN : X.N.Nodup) (hi : X.N[i]? = some y) (hz : i ∈ zs := by decide) (hx : Loc X.env.scope y := by first | exact .inl rfl | exact .inr rfl) (hf : X.fn y = true ∨ X.env.scope.names.lookup y = some .local := by first | exact .inl rfl | exact .inr rfl | assumption) : FG X ca zs (.Name y pos) (gN i) :=
  ⟨_, pg_name hN hi hx hf, fun B G H σ ρ d v Q s b r a ⟨ρ', e, q⟩ => by cases e; exact q _ (r.set i a) (wipe_set hz)⟩
theorem fgs_n : FGs X ca zs [] gsN := ⟨_, pgs_nil, fun B G H σ ρ ds vs Q s b r a ⟨ρ', e, q⟩ => by
  cases ds with
  | nil => cases e; exact ⟨a, q _ r rfl⟩
  | cons _ _ => cases e⟩
theorem fgs_c {es : List Expr} {h1 : Tg} {h2 : Tgs} (a : FG X ca zs e h1) (b : FGs X ca zs es h2) (hs : (assignEach (e :: es) X.env).map (·.2) = assign e X.env :: (assignEach es X.env).map (·.2) := by rfl) : FGs X ca zs (e :: es) (gsC h1 h2) := by
  obtain ⟨t, p, kt⟩ := a.ex
  obtain ⟨u, q, ku⟩ := b.ex
  refine ⟨_, pgs_cons p q hs, fun B G H σ ρ ds vs Q s b r a ⟨ρ', e, q⟩ => ?_⟩
  cases ds with
  | nil => cases e
  | cons d ds =>
    obtain ⟨v, vr, rfl, a1, a2⟩ := a
    obtain ⟨ρ1, z, e⟩ := Option.bind_eq_some_iff.mp (show (h1 d ρ).bind (fun ρ' => h2 ds ρ') = some ρ' from e)
    exact ⟨v, vr, rfl, kt B G H σ ρ d v _ s b r a1 ⟨ρ1, z, fun σ' r' w' => ku B G H σ' ρ1 ds vr Q s b r' a2 ⟨ρ', e, fun σ2 r2 w2 => q σ2 r2 (w2.trans w')⟩⟩⟩
theorem fg_t {es : List Expr} {kk n : Nat} {h1 : Tgs} (hc : X.calm = true) (a : FGs X ca zs es h1) (hn : (assignEach es X.env).length = n := by rfl) (hst : (assignEach es X.env).findIdx? (·.1) = none := by rfl) : FG X ca zs (.Tuple es kk pos) (gT n h1) := by
  obtain ⟨t, p, kt⟩ := a.ex
  refine ⟨_, pg_tup hc p hn hst, fun B G H σ ρ d v Q s b r a z => ?_⟩
  obtain ⟨ρ', e, q⟩ := z
  cases d with
  | tup ds =>
    have e : (if ds.length = n then h1 ds ρ else none) = some ρ' := e
    split at e
    · rename_i hl
      obtain ⟨p', vs, rfl, a1, a2⟩ := a
      exact ⟨p', vs, rfl, tq s a1, by rw [← a2.length]; exact hl, kt B G H σ ρ ds vs Q s b r a2 ⟨ρ', e, q⟩⟩
    · cases e
  | _ => cases e
theorem fs_asg {tg : Expr} {h1 : Tg} (h : FE X ca W e fa) (a : FG X ca zs tg h1) (hs : swapsWithSole [tg] e pos.line X.env = pure false := by rfl) (hw : swappedStores [tg] e X.env = pure none := by rfl)
    (h1' : (assignEach [tg] X.env).map (·.2) = [assign tg X.env] := by rfl) : FS X ca W (.Assign [tg] e pos) (sAsg fa h1) := by
  obtain ⟨t, p, kt⟩ := h.ex
  obtain ⟨u, q, ku⟩ := a.ex
  refine ⟨_, ps_asg p q hs hw h1', fun B G H σ ρ D s b r h => kt B G H σ ρ _ s b r ?_⟩
  refine WishS.from h b r fun d G1 H1 _ x w r1 b1 v av => ?_
  cases z : h1 d ρ with
  | some ρ1 => rw [z] at w; exact ku B G1 H1 σ ρ d v _ x.gh b1 r1 av ⟨ρ1, z, fun σ' r' _ => w σ' G1 H1 (.refl x.gh b1) r'⟩
  | none => rw [z] at w; exact w.elim
/-- a turn's end -/
theorem turn_end {B G : Hp} {r : SO} {D' : Ends} {K : PySem.W.Frag} (kk : Ev → SO) (N : L2.St → Hp → Prop) (h : WishS K ca B G (match r with
    | .nx ρ2 => kk ρ2
    | .ct ρ2 => kk ρ2
    | .bk ρ2 => .nx ρ2
    | r => r) D' W) (hn : ∀ ρ2 σ' G' H', WishS K ca B G' (kk ρ2) D' W → Adv B G G' H' → Rel K ca B G' H' σ' ρ2 → N σ' H') : WishS K ca B G r { D' with nx := N, ct := N, bk := D'.nx } W := by
  cases r with
  | nx ρ2 => exact fun σ' G' H' a r' => hn ρ2 σ' G' H' (WishS.mono (r := kk ρ2) h a) a r'
  | ct ρ2 => exact fun σ' G' H' a r' => hn ρ2 σ' G' H' (WishS.mono (r := kk ρ2) h a) a r'
  | bk ρ2 => exact h
  | rt d => exact h
  | ex x ρ => exact h
  | bad => exact h
theorem fs_for {tg iter : Expr} {fi : Ev → R (List D)} {h1 : Tg} (hp : PassesOwn (model X.prog X.w) X.A X.env X.xe) (hc : X.calm = true) (hi : FI X ca W tg iter fi) (hg : FG X ca zs tg h1) (hb : FSs X ca W body g)
    (hs : ∀ x, foldedSetIterable iter X.env x = pure x := by intro _; rfl) : FS X ca W (.For tg iter body [] pos) (sFor fi h1 g) := by
  obtain ⟨ti, pi, ki⟩ := hi.ex
  obtain ⟨tg', pg, kg⟩ := hg.ex
  obtain ⟨tb, pb, kb⟩ := hb.ex
  refine ⟨_, ps_for hp hc pi pg pb hs, fun B G H σ ρ D s b r h => ki B G H σ ρ _ s b r ?_⟩
  refine WishS.from h b r fun ds G1 H1 _ x w r1 b1 J hj => ?_
  refine ⟨fun i m σ2 H2 => m = ds.length - i ∧ i ≤ ds.length ∧ ∃ G2 ρ2, Adv B G1 G2 H2 ∧ Rel X.K ca B G2 H2 σ2 ρ2 ∧ WishS X.K ca B G2 (loop h1 g (ds.drop i) ρ2) D W, ⟨_, rfl, Nat.zero_le _, G1, ρ, .refl x.gh b1, r1, by rw [List.drop_zero]; exact w⟩, ?_⟩
  rintro i m σ2 H2 ⟨rfl, hi, G2, ρ2, a2, r2, w2⟩
  obtain ⟨j1, j2⟩ := hj G2 H2 a2.gg a2.gh i
  by_cases hlt : i < ds.length
  · rw [List.drop_eq_getElem_cons hlt] at w2
    obtain ⟨go, yl⟩ := j1 ds[i] (by simp [hlt])
    refine .inr ⟨go, fun σ3 H3 => ∃ G3 ρ3, Adv B G1 G3 H3 ∧ Rel X.K ca B G3 H3 σ3 ρ3 ∧ WishS X.K ca B G3 (loop h1 g (ds.drop (i + 1)) ρ3) D W, fun σ3 H3 q => ⟨ds.length - (i + 1), by omega, rfl, hlt, q⟩, fun y H3 yy => ?_⟩
    obtain ⟨G3, x3, a3⟩ := yl y H3 yy
    have r3 := r2.ext x3
    have b3 := a2.bh.trans x3.hh
    have w3 := WishS.mono w2 (x3.adv a2.bh)
    show tg' y σ2 H3 _
    unfold loop at w3
    cases z : h1 ds[i] ρ2 with
    | none => rw [z] at w3; exact w3.elim
    | some ρ4 =>
      rw [z] at w3
      refine kg B G3 H3 σ2 ρ2 ds[i] y _ x3.gh b3 r3 a3 ⟨ρ4, z, fun σ4 r4 _ => ?_⟩
      refine kb B G3 H3 σ4 ρ4 _ x3.gh b3 r4 (turn_end (fun ρ5 => loop h1 g (ds.drop (i + 1)) ρ5) _ w3 fun ρ5 σ5 G5 H5 w5 a5 r5 => ?_)
      exact ⟨G5, ρ5, a2.trans ((x3.adv a2.bh).trans a5), r5, w5⟩
  · have e : i = ds.length := by omega
    subst e
    rw [List.drop_length] at w2
    exact .inl ⟨j2 rfl, w2 σ2 G2 H2 (.refl a2.gh a2.bh) r2⟩
theorem fs_while {n : Nat} (hp : PassesOwn (model X.prog X.w) X.A X.env X.xe) (hc : FT X ca W c ft) (hb : FSs X ca W body g) : FS X ca W (.While c body [] pos) (wloop ft g n) := by
  obtain ⟨tc, pc, kc⟩ := hc.ex
  obtain ⟨tb, pb, kb⟩ := hb.ex
  refine ⟨_, ps_while hp pc pb, fun B G H σ ρ D s b r h => ?_⟩
  refine ⟨fun m σ2 H2 => ∃ G2 ρ2, Same G2 H2 ∧ Same B H2 ∧ Rel X.K ca B G2 H2 σ2 ρ2 ∧ WishS X.K ca B G2 (wloop ft g m ρ2) D W, ⟨n, G, ρ, s, b, r, h⟩, ?_⟩
  rintro m σ2 H2 ⟨G2, ρ2, s2, b2, r2, w2⟩
  cases m with
  | zero => exact w2.elim
  | succ m =>
    unfold wloop at w2
    refine kc B G2 H2 σ2 ρ2 _ s2 b2 r2 (WishS.from w2 b2 r2 fun a G3 H3 _ x3 w3 r3 b3 => ?_)
    show if a = true then _ else _
    cases a with
    | true =>
      rw [if_pos rfl] at w3 ⊢
      refine ⟨fun σ4 H4 => ∃ G4 ρ4, Same G4 H4 ∧ Same B H4 ∧ Rel X.K ca B G4 H4 σ4 ρ4 ∧ WishS X.K ca B G4 (wloop ft g m ρ4) D W, fun σ' H' q => ⟨m, Nat.lt_succ_self m, q⟩, ?_⟩
      refine kb B G3 H3 σ2 ρ2 _ x3.gh b3 r3 (turn_end (fun ρ5 => wloop ft g m ρ5) _ w3 fun ρ5 σ5 G5 H5 w5 a5 r5 => ?_)
      exact ⟨G5, ρ5, a5.gh, a5.bh, r5, w5⟩
    | false =>
      rw [if_neg Bool.false_ne_true] at w3 ⊢
      exact w3 σ2 G3 H3 (.refl x3.gh b3) r3
end
end Tk

namespace Tk
open PySem PySem.Spec L2 PyProof.Rows
/-! ### defs -/
/-- a def's promise by its mirror -/
def spF (K : PySem.W.Frag) (ca : Cn) (n : Nat) (F : List D → R D) : Sp := fun vs H Q E => vs.length = n ∧ ∃ G ds, Same G H ∧ AtL K ca G ds vs ∧ Wish K ca (SV K ca Q) G H (F ds) E
def startE (n : Nat) (ds : List D) : Ev := ds.map Sl.v ++ List.replicate (n - ds.length) .no
def SO.out : SO → R D
  | .nx _ => .ok .non
  | .rt d => .ok d
  | .ex x _ => .exc x
  | _ => .bad
/-- a body's mirror as a def's: n names -/
def runF (n : Nat) (g : Ev → SO) : List D → R D := fun ds => (g (startE n ds)).out
theorem vals_start {K : PySem.W.Frag} {ca : Cn} {G : Hp} : ∀ {ds : List D} {vs : List V} {i : Nat} {d : D} {n : Nat}, AtL K ca G ds vs → (ds.map Sl.v ++ List.replicate n Sl.no)[i]? = some (.v d) → ∃ v, (vs.map some ++ List.replicate n none)[i]? = some (some v) ∧ At K ca G d v
  | [], vs, i, d, n, h, e => by
    cases h
    simp only [List.map_nil, List.nil_append, List.getElem?_replicate] at e
    split at e <;> cases e
  | x :: ds, vs, i, d, n, ⟨v, r, q, h, t⟩, e => by
    subst q
    cases i with
    | zero => simp at e; subst e; exact ⟨v, rfl, h⟩
    | succ i =>
      obtain ⟨w, h1, h2⟩ := vals_start (i := i) (n := n) t (by simpa using e)
      exact ⟨w, by simpa using h1, h2⟩
theorem own_start : ∀ {ds : List D} {i : Nat} {s : Sl} {n : Nat}, (ds.map Sl.v ++ List.replicate n Sl.no)[i]? = some s → s.own = true → False
  | [], i, s, n, e, o => by
    simp only [List.map_nil, List.nil_append, List.getElem?_replicate] at e
    split at e
    · cases e; cases o
    · cases e
  | x :: ds, i, s, n, e, o => by
    cases i with
    | zero => simp at e; subst e; cases o
    | succ i => exact own_start (ds := ds) (i := i) (n := n) (by simpa using e) o
theorem rel_start {K : PySem.W.Frag} {ca : Cn} {B G H : Hp} {N : List Str} {ds : List D} {vs : List V} (a : AtL K ca G ds vs) : Rel K ca B G H (L2.start N vs) (startE N.length ds) := by
  have l := a.length
  refine ⟨?_, fun i d e => ?_, fun i s e o => (own_start (show (ds.map Sl.v ++ List.replicate (N.length - ds.length) Sl.no)[i]? = some s from e) o).elim, fun i j s t x e o => (own_start (show (ds.map Sl.v ++ List.replicate (N.length - ds.length) Sl.no)[i]? = some s from e) o).elim⟩
  · unfold L2.start startE
    simp [l]
  · have e' : (ds.map Sl.v ++ List.replicate (N.length - ds.length) Sl.no)[i]? = some (.v d) := e
    rw [l] at e'
    exact vals_start a e'
section
variable {P : Program} {w : World} {K : PySem.W.Frag} {mg : Str → Option Value} {base : Heap} {ca : Cn}
/-- the body's wish gives the def's -/
theorem body_ok {X : Cx} {W : WX} {body : List Stmt} {g : Ev → SO} {H : Hp} {vs : List V} {ds : List D} {G : Hp} {Q : VK} {E : XK} {N : List Str} (hK : X.K = K) (h : FSs X ca W body g) (hW : ∀ c d σ H', E c d H' → W c d σ H')
    (s : Same G H) (a : AtL K ca G ds vs) (q : Wish K ca (SV K ca Q) G H (runF N.length g ds) E) : ∃ t, PSs X body t ∧ t { nx := fun _ H' => Q .non H', rt := Q } (L2.start N vs) H := by
  subst hK
  obtain ⟨t, p, k⟩ := h.ex
  refine ⟨t, p, k H G H _ (startE N.length ds) _ s (.refl H) (rel_start a) ?_⟩
  unfold runF at q
  have up : ∀ {G' H' : Hp}, Adv H G G' H' → Ext G H G' H' := fun x => ⟨x.bh, x.gg, x.gh, x.nw⟩
  cases z : g (startE N.length ds) with
  | nx ρ => rw [z] at q; exact fun σ' G' H' x r => q G' H' (up x) .non rfl
  | rt d => rw [z] at q; exact fun v G' H' x r => q G' H' (up x) v r
  | ex x ρ => rw [z] at q; exact fun σ' G' H' c dx y r e => hW _ _ _ _ (q G' H' c dx (up y) e)
  | bk ρ => rw [z] at q; exact q.elim
  | ct ρ => rw [z] at q; exact q.elim
  | bad => rw [z] at q; exact q.elim
/-- a def without defaults -/
theorem fn_ok {x qual : Str} {st : Stmt} {f : Addr} {fd : FuncData} {N ps : List Str} {k : Nat} {g : Ev → SO} (F : Fun K x qual st f fd) (S : FnScope N ps (defScope st))
    (hb : ∀ (cdv : Value) (A : Around) (outer : List Env) (s : Shared) (H : Hp) (E : XK), Room k (A.deeper (envOfC qual (defScope st) s.heap.objs.size f cdv)) →
      FSs (cxOf (L2.CX P w) P w K mg base N qual (defScope st) f cdv A outer s H E) ca (fun c d _ H' => E c d H') (defBody st) g) : FnOk P w K mg base (L2.CX P w) (k + 1) f fd ps (spF K ca ps.length (runF N.length g)) :=
  F.okX S (fun vs H Q E h => h.1) fun cdv A outer s H vs Q E hr h => by
    obtain ⟨l, G, ds, sm, a, q⟩ := h
    exact body_ok rfl (hb cdv A outer s H E hr) (fun _ _ _ _ z => z) sm a q
/-- .. with defaults -/
theorem fn_okD {x qual : Str} {params : Arguments} {body : List Stmt} {scope : Scope} {dvs : List V} {kws : List (Str × V)} {f : Addr} {fd : FuncData} {N ps : List Str} {k : Nat} {g : Ev → SO} (F : FunD K x qual params body scope dvs kws f fd) (S : FnScope N ps scope)
    (hb : ∀ (cdv : Value) (A : Around) (outer : List Env) (s : Shared) (H : Hp) (E : XK), Room k (A.deeper (envOfC qual scope s.heap.objs.size f cdv)) →
      FSs (cxOf (L2.CX P w) P w K mg base N qual scope f cdv A outer s H E) ca (fun c d _ H' => E c d H') body g) : FnOk P w K mg base (L2.CX P w) (k + 1) f fd ps (spF K ca ps.length (runF N.length g)) :=
  F.ok S (fun vs H Q E h => h.1) fun cdv A outer s H vs Q E hr h => by
    obtain ⟨l, G, ds, sm, a, q⟩ := h
    exact body_ok rfl (hb cdv A outer s H E hr) (fun _ _ _ _ z => z) sm a q
end
/-! ### calls -/
def eCall (n : Nat) (F : List D → R D) (fa : Ev → R (List D)) : Ev → R D := fun ρ => (fa ρ).bind fun ds => if ds.length = n then F ds else .bad
/-- how a call with keywords lays its values: by data -/
structure KB (K : PySem.W.Frag) (ca : Cn) (fd : FuncData) (ps : List Str) (n : Nat) (ks : List Str) (gD : List D → List D → List D) : Prop where
  ex : ∃ g gV, KBn K fd ps n ks g gV ∧ ∀ G ds vs zs ws, AtL K ca G ds vs → AtL K ca G zs ws → AtL K ca G (gD ds zs) (gV vs ws)
def eCallK (n m p : Nat) (F : List D → R D) (gD : List D → List D → List D) (fa fk : Ev → R (List D)) : Ev → R D := fun ρ => (fa ρ).bind fun ds => (fk ρ).bind fun zs => if ds.length = n ∧ zs.length = m ∧ (gD ds zs).length = p then F (gD ds zs) else .bad
section
variable {X : Cx} {ca : Cn} {W : WX} {k : Nat} {f : Addr} {fd : FuncData} {ps ks : List Str} {Fn : List D → R D} {x : Str} {p pos : Pos} {e : Expr} {es : List Expr} {fa fk : Ev → R (List D)}
theorem fe_call (F : FnOk X.prog X.w X.K X.mg X.base (L2.CX X.prog X.w) k f fd ps (spF X.K ca ps.length Fn)) (hr : Room k X.A) (tk : Takes X W) (hg : Gl X x) (hm : X.mg x = some (.ref f)) (hk : PySem.W.keepIn X.K (.ref f) = true) (hb : Binds X.K fd ps [])
    (ha : FA X ca W (e :: es) fa) (hdb : (x == ("__debug__" : Str)) = false := by decide) (he : starEach (e :: es) X.env = (false, eval e X.env) :: starEach es X.env := by rfl) (hpl : (backTo pos (starEach es X.env)).any (·.1) = false := by rfl) :
    FE X ca W (.Call (.Name x p) (e :: es) [] pos) (eCall ps.length Fn fa) := by
  obtain ⟨t, pa, kt⟩ := ha.ex
  refine ⟨_, pe_callS (E := WE W) F hr hg hm hk hb (fun σ => passAt tk σ) pa hdb he hpl, fun B G H σ ρ Q s b r h => ?_⟩
  refine kt B G H σ ρ _ s b r (Wish.bind h fun ds G1 H1 _ x1 w1 vs a1 => ?_)
  split at w1
  · rename_i hl
    exact ⟨by rw [← a1.length]; exact hl, G1, ds, x1.gh, a1, w1⟩
  · exact w1.elim
/-- the callee runs, its arguments laid by keywords -/
theorem run_kb {gV : List V → List V → List V} {g : List Value → List Value → List Value} {n : Nat} {E : XK} {sp : Sp} {pins : List (Addr × Obj)} {σ : L2.St} {H : Hp} {s : Shared} {Q : VK} {us ws : List Value} {vs zs : List V} (F : FnOk X.prog X.w X.K X.mg X.base (L2.CX X.prog X.w) k f fd ps sp)
    (hr : Room k X.A) (hb : KBn X.K fd ps n ks g gV) (hx : PassesAt (L2.CX X.prog X.w) X σ E) (I : Inv X pins σ H s) (ru : Vals vs us) (rw' : Vals zs ws) (lu : vs.length = n) (lw : zs.length = ks.length) (h : sp (gV vs zs) H Q E) :
    wpAny (model X.prog X.w) X.A (call (.ref f) us (ks.zip ws)) (EP X pins σ Q) X.xe s := by
  have bt := hb.to s us ws I.kIn (ru.length.symm.trans lu) (rw'.length.symm.trans lw)
  have go := F.run X.A X.stack s H ⟨us, ks.zip ws⟩ _ _ Q E hr I.env0 bt (hb.rel ru rw') h
  refine wpAny_call (codeAny_mono go fun r s' hq => ?_)
  rcases r with e | fl
  · exact hx pins H s e s' I hq
  · cases fl with
    | ret u => exact I.after hq
    | _ => exact hq.elim
theorem fe_callK {kws : List Keyword} {n : Nat} {gD : List D → List D → List D} (F : FnOk X.prog X.w X.K X.mg X.base (L2.CX X.prog X.w) k f fd ps (spF X.K ca ps.length Fn)) (hr : Room k X.A) (tk : Takes X W) (hg : Gl X x) (hm : X.mg x = some (.ref f)) (hk : PySem.W.keepIn X.K (.ref f) = true) (hb : KB X.K ca fd ps n ks gD)
    (ha : FA X ca W (e :: es) fa) (hkw : FK X ca W kws fk) (hall : (backToKw pos (keywordEach kws X.env)).all (·.1.isSome) = true := by rfl) (hks : (backToKw pos (keywordEach kws X.env)).filterMap (·.1) = ks := by rfl) (hdb : (x == ("__debug__" : Str)) = false := by decide)
    (he : starEach (e :: es) X.env = (false, eval e X.env) :: starEach es X.env := by rfl) (hpl : ((backTo pos (starEach (e :: es) X.env)).any (·.1) || (backToKw pos (keywordEach kws X.env)).any (·.1.isNone)) = false := by rfl) :
    FE X ca W (.Call (.Name x p) (e :: es) kws pos) (eCallK n ks.length ps.length Fn gD fa fk) := by
  obtain ⟨t, pa, kt⟩ := ha.ex
  obtain ⟨u, pk, ku⟩ := hkw.ex
  obtain ⟨g, gV, hbn, hgd⟩ := hb.ex
  refine ⟨fun σ H Q => t σ H fun vs H1 => u σ H1 fun zs H2 => vs.length = n ∧ zs.length = ks.length ∧ spF X.K ca ps.length Fn (gV vs zs) H2 Q (WE W σ), ⟨fun pins s σ H Q I h => ?_⟩, fun B G H σ ρ Q s b r h => ?_⟩
  · refine wpAny_Call_Name_kw (ld_glob I hg hm ?_ hdb)
    refine PySem.W.callWith_KW (h₀ := X.base) I.ok.mod.kin hk hall (thn (pa.run pos pins s σ H _ I h) fun us s1 ⟨vs, H1, I1, r1, q1⟩ => ?_) hpl he
    refine thn (pk.run pos pins s1 σ H1 _ I1 q1) fun ws s2 ⟨zs, H2, I2, r2, l1, l2, q2⟩ => ⟨I2.kIn, ?_⟩
    rw [hks]
    exact run_kb F hr hbn (passAt tk σ) I2 r1 r2 l1 l2 q2
  · refine kt B G H σ ρ _ s b r (Wish.bind h fun ds G1 H1 _ x1 w1 vs a1 => ?_)
    refine ku B G1 H1 σ ρ _ x1.gh (b.trans x1.hh) (r.ext x1) (Wish.bind w1 fun zs G2 H2 _ x2 w2 ws a2 => ?_)
    split at w2
    · rename_i hl
      have a3 := hgd G2 ds vs zs ws (AtL.mono x2.gg a1) a2
      exact ⟨by rw [← a1.length]; exact hl.1, by rw [← a2.length]; exact hl.2.1, by rw [← a3.length]; exact hl.2.2, G2, _, x2.gh, a3, w2⟩
    · exact w2.elim
/-- a built-in by its name -/
theorem fe_blt {id : String} {r : List V → Hp → VK → Prop} {g : List D → R D} (hc : CallR X (.builtin id) r) (hv : VN X ca r g) (hg : Gl X x) (hm : X.mg x = none) (hv' : bootBuiltins x = some (.builtin id)) (ha : FA X ca W (e :: es) fa) (hn : x ≠ "__name__" := by decide) (hd : (x == ("__debug__" : Str)) = false := by decide)
    (he : starEach (e :: es) X.env = (false, eval e X.env) :: starEach es X.env := by rfl) (hpl : (backTo pos (starEach es X.env)).any (·.1) = false := by rfl) : FE X ca W (.Call (.Name x p) (e :: es) [] pos) (eA g fa) := by
  obtain ⟨t, pa, kt⟩ := ha.ex
  refine ⟨_, pe_callB hc hg hm hv' pa hn hd he hpl, fun B G H σ ρ Q s b r h => ?_⟩
  exact kt B G H σ ρ _ s b r (Wish.bind h fun ds G1 H1 _ x1 w1 vs a1 => hv G1 H1 _ vs ds Q x1.gh a1 w1)
theorem fe_bty {T : String} {r : List V → Hp → VK → Prop} {g : List D → R D} (hc : CallR X (.type T) r) (hv : VN X ca r g) (hg : Gl X x) (hm : X.mg x = none) (hv' : bootBuiltins x = some (.type T)) (ha : FA X ca W (e :: es) fa) (hn : x ≠ "__name__" := by decide) (hd : (x == ("__debug__" : Str)) = false := by decide)
    (he : starEach (e :: es) X.env = (false, eval e X.env) :: starEach es X.env := by rfl) (hpl : (backTo pos (starEach es X.env)).any (·.1) = false := by rfl) : FE X ca W (.Call (.Name x p) (e :: es) [] pos) (eA g fa) := by
  obtain ⟨t, pa, kt⟩ := ha.ex
  refine ⟨_, pe_callTy hc hg hm hv' pa hn hd he hpl, fun B G H σ ρ Q s b r h => ?_⟩
  exact kt B G H σ ρ _ s b r (Wish.bind h fun ds G1 H1 _ x1 w1 vs a1 => hv G1 H1 _ vs ds Q x1.gh a1 w1)
end
end Tk

namespace Tk
open PySem PySem.Spec L2 PyProof.Rows
/-! ### operators by data -/
def gAdd : D → D → R D
  | .int i, .int j => .ok (.int (i + j))
  | .str a, .str b => if a.length + b.length ≤ sizeLine then .ok (.str (a ++ b)) else .bad
  | .lst xs, .lst ys => if xs.length + ys.length ≤ sizeLine then .ok (.lst (xs ++ ys)) else .bad
  | .tup xs, .tup ys => if xs.length + ys.length ≤ sizeLine then .ok (.tup (xs ++ ys)) else .bad
  | _, _ => .bad
def gSub : D → D → R D
  | .int i, .int j => .ok (.int (i - j))
  | _, _ => .bad
instance (i j : Int) : Decidable (CMul i j) := by unfold CMul; infer_instance
instance (i j : Int) : Decidable (CMulW i j) := by unfold CMulW; infer_instance
instance (i j : Int) : Decidable (CDivW i j) := by unfold CDivW; infer_instance
instance (i j : Int) : Decidable (CPow i j) := by unfold CPow; infer_instance
def gMul : D → D → R D
  | .int i, .int j => if CMul i j ∨ CMulW i j then .ok (.int (i * j)) else .bad
  | _, _ => .bad
def gDiv : D → D → R D
  | .int i, .int j => if CDivW i j then .ok (.int (i / j)) else .bad
  | _, _ => .bad
def gMod : D → D → R D
  | .int i, .int j => if 0 < j then .ok (.int (i % j)) else .bad
  | _, _ => .bad
def gPow : D → D → R D
  | .int i, .int j => if CPow i j then .ok (.int (i ^ j.toNat)) else .bad
  | _, _ => .bad
def gNeg : D → R D
  | .int i => .ok (.int (-i))
  | _ => .bad
def gLt : D → D → R D
  | .int i, .int j => .ok (.bl (decide (i < j)))
  | _, _ => .bad
def gLe : D → D → R D
  | .int i, .int j => .ok (.bl (decide (i ≤ j)))
  | _, _ => .bad
def gGt : D → D → R D
  | .int i, .int j => .ok (.bl (decide (j < i)))
  | _, _ => .bad
def gGe : D → D → R D
  | .int i, .int j => .ok (.bl (decide (j ≤ i)))
  | _, _ => .bad
mutual
/-- plain data, for == -/
def toP : D → Option PyData
  | .non => some .none
  | .bl b => some (.bool b)
  | .int i => some (.int i)
  | .str s => some (.str s)
  | .lst xs => (toPs xs).map .list
  | .tup xs => (toPs xs).map .tuple
  | _ => none
def toPs : List D → Option (List PyData)
  | [] => some []
  | d :: ds => match toP d, toPs ds with
    | some p, some ps => some (p :: ps)
    | _, _ => none
end
def gEqP (a b : D) : R D := match toP a, toP b with
  | some p, some q => if (SeqAt.shaped p && SeqAt.shaped q) = true then .ok (.bl (PyData.eqv p q)) else .bad
  | _, _ => .bad
def gEq : D → D → R D
  | .int i, .int j => .ok (.bl (decide (i = j)))
  | .str i, .str j => .ok (.bl (decide (i = j)))
  | .bl i, .bl j => .ok (.bl (decide (i = j)))
  | a, b => gEqP a b
def rNot (r : R D) : R D := r.bind fun d => match d with
  | .bl b => .ok (.bl (!b))
  | _ => .bad
def gNe (a b : D) : R D := rNot (gEq a b)
def isNon : D → Bool
  | .non => true
  | _ => false
def gIsN (a : D) (b : D) : R D := match b with
  | .non => .ok (.bl (isNon a))
  | _ => .bad
def gNotN (a : D) (b : D) : R D := rNot (gIsN a b)
/-- membership -/
def gInP (neg : Bool) (a : D) (ys : List D) : R D := match toP a, toPs ys with
  | some p, some qs => if (SeqAt.shaped p && SeqAt.shaped (.list qs)) = true then .ok (.bl (if neg then !(qs.any fun z => PyData.eqv z p) else qs.any fun z => PyData.eqv z p)) else .bad
  | _, _ => .bad
/-- plain flat items: as V's eqV -/
def flatD : D → Bool
  | .non => true
  | .bl _ => true
  | .int _ => true
  | .str _ => true
  | _ => false
def toV : D → V
  | .non => .non
  | .bl b => .bl b
  | .int i => .int i
  | .str s => .str s
  | _ => .non
def gInS (neg : Bool) : D → D → R D
  | .str a, .str b => .ok (.bl (if neg then !(!(Builtin.Str.occurrences b a 0 b.length 1).isEmpty) else !(Builtin.Str.occurrences b a 0 b.length 1).isEmpty))
  | a, .lst ys => if flatD a = true ∧ ys.all flatD = true then .ok (.bl (if neg then !inV (toV a) (ys.map toV) else inV (toV a) (ys.map toV))) else gInP neg a ys
  | a, .tup ys => if flatD a = true ∧ ys.all flatD = true then .ok (.bl (if neg then !inV (toV a) (ys.map toV) else inV (toV a) (ys.map toV))) else .bad
  | _, _ => .bad

section
variable {X : Cx} {ca : Cn}
theorem v2_int {g : D → D → R D} {h : Int → Int → V} {z : Int → Int → D} (hg : ∀ i j, g (.int i) (.int j) = .ok (z i j)) (hz : ∀ i j G, At X.K ca G (z i j) (h i j)) (hb : ∀ a b, (∀ i j, ¬ (a = .int i ∧ b = .int j)) → g a b = .bad) : V2 X ca (rI0 h) g := by
  intro G H W1 x y a b Q s ax ay w
  by_cases e : ∃ i j, a = .int i ∧ b = .int j
  · obtain ⟨i, j, rfl, rfl⟩ := e
    rw [hg] at w
    exact ⟨i, j, ax, ay, w.here s _ (hz i j _)⟩
  · rw [hb a b fun i j q => e ⟨i, j, q⟩] at w
    exact w.elim
theorem v2_intC {C : Int → Int → Prop} {g : D → D → R D} {h : Int → Int → V} {z : Int → Int → D} (hg : ∀ i j, g (.int i) (.int j) = .ok (z i j) ∧ C i j ∨ g (.int i) (.int j) = .bad) (hz : ∀ i j G, At X.K ca G (z i j) (h i j)) (hb : ∀ a b, (∀ i j, ¬ (a = .int i ∧ b = .int j)) → g a b = .bad) : V2 X ca (rI C h) g := by
  intro G H W1 x y a b Q s ax ay w
  by_cases e : ∃ i j, a = .int i ∧ b = .int j
  · obtain ⟨i, j, rfl, rfl⟩ := e
    rcases hg i j with ⟨e, c⟩ | e
    · rw [e] at w
      exact ⟨i, j, ax, ay, c, w.here s _ (hz i j _)⟩
    · rw [e] at w; exact w.elim
  · rw [hb a b fun i j q => e ⟨i, j, q⟩] at w
    exact w.elim
theorem bad_of {g : D → D → R D} {a b : D} (h : ∀ i j, ¬ (a = .int i ∧ b = .int j)) (hc : g a b = .bad ∨ ∃ i j, a = .int i ∧ b = .int j) : g a b = .bad := hc.elim id fun ⟨i, j, q⟩ => (h i j q).elim
theorem v2_sub : V2 X ca (rI0 fun i j => .int (i - j)) gSub := v2_int (z := fun i j => .int (i - j)) (fun _ _ => rfl) (fun _ _ _ => rfl) fun a b h => by cases a <;> first | rfl | (cases b <;> first | rfl | exact (h _ _ ⟨rfl, rfl⟩).elim)
theorem v2_lt : V2 X ca (rI0 fun i j => .bl (decide (i < j))) gLt := v2_int (z := fun i j => .bl (decide (i < j))) (fun _ _ => rfl) (fun _ _ _ => rfl) fun a b h => by cases a <;> first | rfl | (cases b <;> first | rfl | exact (h _ _ ⟨rfl, rfl⟩).elim)
theorem v2_le : V2 X ca (rI0 fun i j => .bl (decide (i ≤ j))) gLe := v2_int (z := fun i j => .bl (decide (i ≤ j))) (fun _ _ => rfl) (fun _ _ _ => rfl) fun a b h => by cases a <;> first | rfl | (cases b <;> first | rfl | exact (h _ _ ⟨rfl, rfl⟩).elim)
theorem v2_gt : V2 X ca (rI0 fun i j => .bl (decide (j < i))) gGt := v2_int (z := fun i j => .bl (decide (j < i))) (fun _ _ => rfl) (fun _ _ _ => rfl) fun a b h => by cases a <;> first | rfl | (cases b <;> first | rfl | exact (h _ _ ⟨rfl, rfl⟩).elim)
theorem v2_ge : V2 X ca (rI0 fun i j => .bl (decide (j ≤ i))) gGe := v2_int (z := fun i j => .bl (decide (j ≤ i))) (fun _ _ => rfl) (fun _ _ _ => rfl) fun a b h => by cases a <;> first | rfl | (cases b <;> first | rfl | exact (h _ _ ⟨rfl, rfl⟩).elim)
theorem op_mul2 : OpR X (binaryOp .Mult) (rI (fun i j => CMul i j ∨ CMulW i j) fun i j => .int (i * j)) := opI fun i j _ _ _ _ _ hc q => by
  rcases hc with hc | hc
  · exact mul_int q hc.ok
  · exact mul_int q hc.ok
theorem v2_mul : V2 X ca (rI (fun i j => CMul i j ∨ CMulW i j) fun i j => .int (i * j)) gMul := v2_intC (z := fun i j => .int (i * j)) (fun i j => by unfold gMul; by_cases h : CMul i j ∨ CMulW i j <;> simp [h]) (fun _ _ _ => rfl) fun a b h => by cases a <;> first | rfl | (cases b <;> first | rfl | exact (h _ _ ⟨rfl, rfl⟩).elim)
theorem v2_div : V2 X ca (rI CDivW fun i j => .int (i / j)) gDiv := v2_intC (z := fun i j => .int (i / j)) (fun i j => by unfold gDiv; by_cases h : CDivW i j <;> simp [h]) (fun _ _ _ => rfl) fun a b h => by cases a <;> first | rfl | (cases b <;> first | rfl | exact (h _ _ ⟨rfl, rfl⟩).elim)
theorem v2_mod : V2 X ca (rI (fun _ j => 0 < j) fun i j => .int (i % j)) gMod := v2_intC (z := fun i j => .int (i % j)) (fun i j => by unfold gMod; by_cases h : 0 < j <;> simp [h]) (fun _ _ _ => rfl) fun a b h => by cases a <;> first | rfl | (cases b <;> first | rfl | exact (h _ _ ⟨rfl, rfl⟩).elim)
theorem v2_pow : V2 X ca (rI CPow fun i j => .int (i ^ j.toNat)) gPow := v2_intC (z := fun i j => .int (i ^ j.toNat)) (fun i j => by unfold gPow; by_cases h : CPow i j <;> simp [h]) (fun _ _ _ => rfl) fun a b h => by cases a <;> first | rfl | (cases b <;> first | rfl | exact (h _ _ ⟨rfl, rfl⟩).elim)
theorem v1_neg : V1 X ca (rU fun i => .int (-i)) gNeg := by
  intro G H W1 x a Q s ax w
  cases a with
  | int i => exact ⟨i, ax, w.here s _ rfl⟩
  | _ => exact w.elim
theorem op_addA : OpR X (binaryOp .Add) (fun x y H Q => (rI0 fun i j => .int (i + j)) x y H Q ∨ ((∃ i j, x = .str i ∧ y = .str j ∧ i.length + j.length ≤ sizeLine ∧ Q (.str (i ++ j)) H) ∨ (rCat x y H Q ∨ rCatA X.K x y H Q))) := op_add.or (op_add_str.or (op_cat.or op_catA))
theorem v2_add : V2 X ca (fun x y H Q => (rI0 fun i j => .int (i + j)) x y H Q ∨ ((∃ i j, x = .str i ∧ y = .str j ∧ i.length + j.length ≤ sizeLine ∧ Q (.str (i ++ j)) H) ∨ (rCat x y H Q ∨ rCatA X.K x y H Q))) gAdd := by
  intro G H W1 x y a b Q s ax ay w
  cases a with
  | int i =>
    cases b with
    | int j => exact .inl ⟨i, j, ax, ay, w.here s _ rfl⟩
    | _ => exact w.elim
  | str i =>
    cases b with
    | str j =>
      have w' : Wish X.K ca (SV X.K ca Q) G H (if i.length + j.length ≤ sizeLine then .ok (.str (i ++ j)) else .bad) W1 := w
      split at w'
      · rename_i z; exact .inr (.inl ⟨i, j, ax, ay, z, w'.here s _ rfl⟩)
      · exact w'.elim
    | _ => exact w.elim
  | lst i =>
    cases b with
    | lst j =>
      have w' : Wish X.K ca (SV X.K ca Q) G H (if i.length + j.length ≤ sizeLine then .ok (.lst (i ++ j)) else .bad) W1 := w
      split at w'
      · rename_i z
        obtain ⟨p, vs, rfl, h1, h2⟩ := ax
        obtain ⟨q, ws, rfl, h3, h4⟩ := ay
        exact .inr (.inr (.inl ⟨p, q, vs, ws, rfl, rfl, s _ _ h1, s _ _ h3, by rw [← h2.length, ← h4.length]; exact z, fun l n => new_lst s w' (h2.append h4) n⟩))
      · exact w'.elim
    | _ => exact w.elim
  | tup i =>
    cases b with
    | tup j =>
      have w' : Wish X.K ca (SV X.K ca Q) G H (if i.length + j.length ≤ sizeLine then .ok (.tup (i ++ j)) else .bad) W1 := w
      split at w'
      · rename_i z
        obtain ⟨p, vs, rfl, h1, h2⟩ := ax
        obtain ⟨q, ws, rfl, h3, h4⟩ := ay
        have l1 := h2.length
        have l2 := h4.length
        refine .inr (.inr (.inr ⟨p, q, vs, ws, rfl, rfl, tq s h1, tq s h3, by rw [← l1, ← l2]; exact z, fun e => ?_, fun e1 e2 => ?_, fun _ _ l n => new_tup s w' (h2.append h4) n⟩))
        · have : i = [] := by rw [e] at l1; exact List.length_eq_zero_iff.mp l1
          subst this
          exact w'.here s _ ⟨q, ws, rfl, h3, h4⟩
        · have : j = [] := by rw [e2] at l2; exact List.length_eq_zero_iff.mp l2
          subst this
          rw [List.append_nil] at w'
          exact w'.here s _ ⟨p, vs, rfl, h1, h2⟩
      · exact w'.elim
    | _ => exact w.elim
  | _ => exact w.elim
mutual
theorem dp_of {G H : Hp} (s : Same G H) : ∀ (d : D) (v : V) (p : PyData), At X.K ca G d v → toP d = some p → Dp X.K H v p
  | .non, v, p, a, e => by cases e; cases a; exact .non
  | .bl b, v, p, a, e => by cases e; cases a; exact .bl b
  | .int i, v, p, a, e => by cases e; cases a; exact .int i
  | .str x, v, p, a, e => by cases e; cases a; exact .str x
  | .lst xs, v, p, ⟨q, vs, e1, h, r⟩, e => by
    obtain ⟨ps, e2, e3⟩ := Option.map_eq_some_iff.mp (show (toPs xs).map PyData.list = some p from e)
    subst e1 e3
    exact .lst (.of (s _ _ h)) (dps_of s xs vs ps r e2)
  | .tup xs, v, p, ⟨q, vs, e1, h, r⟩, e => by
    obtain ⟨ps, e2, e3⟩ := Option.map_eq_some_iff.mp (show (toPs xs).map PyData.tuple = some p from e)
    subst e1 e3
    exact .tup (tq s h) (dps_of s xs vs ps r e2)
  | .ty _, v, p, a, e => by cases e
  | .cl _, v, p, a, e => by cases e
  | .scr _, v, p, a, e => by cases e
  | .dK _, v, p, a, e => by cases e
  | .dT _, v, p, a, e => by cases e
  | .ins _ _, v, p, a, e => by cases e
theorem dps_of {G H : Hp} (s : Same G H) : ∀ (ds : List D) (vs : List V) (ps : List PyData), AtL X.K ca G ds vs → toPs ds = some ps → DpAll X.K H vs ps
  | [], vs, ps, a, e => by cases e; cases a; exact .nil
  | d :: ds, vs, ps, ⟨v, r, e1, a1, a2⟩, e => by
    have e' : (match toP d, toPs ds with | some p, some ps => some (p :: ps) | _, _ => none) = some ps := e
    split at e'
    · rename_i p ps' h1 h2
      cases e'
      subst e1
      exact .cons (dp_of s d v p a1 h1) (dps_of s ds r ps' a2 h2)
    · cases e'
end
theorem op_eqA (hu : X.A.units + 64 < cLine) : OpR X (compareOp .Eq) (fun x y H Q => rEq x y H Q ∨ rEqD X.K x y H Q) := op_eq.or (op_eqD hu)
theorem op_neA (hu : X.A.units + 64 < cLine) : OpR X (compareOp .NotEq) (fun x y H Q => rNe x y H Q ∨ rNeD X.K x y H Q) := op_ne.or (op_neD hu)
theorem gEqP_some {a b : D} {G H : Hp} {W1 : XK} {S : Hp → D → Hp → Prop} (h : Wish X.K ca S G H (gEqP a b) W1) : ∃ p q, toP a = some p ∧ toP b = some q ∧ SeqAt.shaped p = true ∧ SeqAt.shaped q = true ∧ gEqP a b = .ok (.bl (PyData.eqv p q)) := by
  unfold gEqP at h ⊢
  split at h
  · rename_i p q e1 e2
    split at h
    · rename_i z
      rw [Bool.and_eq_true] at z
      exact ⟨p, q, e1, e2, z.1, z.2, by simp only [e1, e2, z.1, z.2]; rfl⟩
    · exact h.elim
  · exact h.elim
theorem v2_eqP {a b : D} {x y : V} {G H : Hp} {W1 : XK} {Q : VK} (s : Same G H) (ax : At X.K ca G a x) (ay : At X.K ca G b y) (w : Wish X.K ca (SV X.K ca Q) G H (gEqP a b) W1) : rEqD X.K x y H Q := by
  obtain ⟨p, q, e1, e2, z1, z2, e3⟩ := gEqP_some w
  rw [e3] at w
  exact ⟨p, q, dp_of s a x p ax e1, dp_of s b y q ay e2, z1, z2, w.here s _ rfl⟩
theorem dec_V {i j : Int} : decide (V.int i = V.int j) = decide (i = j) := by by_cases h : i = j <;> simp [h]
theorem dec_VS {i j : Str} : decide (V.str i = V.str j) = decide (i = j) := by by_cases h : i = j <;> simp [h]
theorem dec_VB {i j : Bool} : decide (V.bl i = V.bl j) = decide (i = j) := by by_cases h : i = j <;> simp [h]
theorem v2_eq : V2 X ca (fun x y H Q => rEq x y H Q ∨ rEqD X.K x y H Q) gEq := by
  intro G H W1 x y a b Q s ax ay w
  unfold gEq at w
  split at w
  · cases ax; cases ay; exact .inl ⟨rfl, by rw [dec_V]; exact w.here s _ rfl⟩
  · cases ax; cases ay; exact .inl ⟨rfl, by rw [dec_VS]; exact w.here s _ rfl⟩
  · cases ax; cases ay; exact .inl ⟨rfl, by rw [dec_VB]; exact w.here s _ rfl⟩
  · exact .inr (v2_eqP s ax ay w)
theorem v2_ne : V2 X ca (fun x y H Q => rNe x y H Q ∨ rNeD X.K x y H Q) gNe := by
  intro G H W1 x y a b Q s ax ay w
  unfold gNe gEq rNot at w
  split at w
  · cases ax; cases ay; exact .inl ⟨rfl, by rw [dec_V]; exact w.here s _ rfl⟩
  · cases ax; cases ay; exact .inl ⟨rfl, by rw [dec_VS]; exact w.here s _ rfl⟩
  · cases ax; cases ay; exact .inl ⟨rfl, by rw [dec_VB]; exact w.here s _ rfl⟩
  · have w1 : Wish X.K ca (fun _ _ _ => True) G H (gEqP a b) W1 := Wish.bind w fun _ _ _ _ _ _ => trivial
    obtain ⟨p, q, e1, e2, z1, z2, e3⟩ := gEqP_some w1
    rw [e3] at w
    exact .inr ⟨p, q, dp_of s a x p ax e1, dp_of s b y q ay e2, z1, z2, w.here s _ rfl⟩
theorem at_non {a : D} {x : V} {G : Hp} (h : At X.K ca G a x) : decide (x = .non) = isNon a := by
  cases a with
  | non => cases h; rfl
  | bl _ => cases h; rfl
  | int _ => cases h; rfl
  | str _ => cases h; rfl
  | ty _ => cases h; rfl
  | cl _ => obtain ⟨_, _, rfl⟩ := h; rfl
  | scr _ => obtain ⟨_, rfl, _⟩ := h; rfl
  | lst _ => obtain ⟨_, _, rfl, _⟩ := h; rfl
  | tup _ => obtain ⟨_, _, rfl, _⟩ := h; rfl
  | dK _ => obtain ⟨_, _, rfl, _⟩ := h; rfl
  | dT _ => obtain ⟨_, _, rfl, _⟩ := h; rfl
  | ins _ _ => obtain ⟨_, _, _, _, rfl, _⟩ := h; rfl
theorem v2_isN : V2 X ca (fun x y H Q => y = .non ∧ Q (.bl (decide (x = .non))) H) gIsN := by
  intro G H W1 x y a b Q s ax ay w
  cases b with
  | non => exact ⟨ay, by rw [at_non ax]; exact w.here s _ rfl⟩
  | _ => exact w.elim
theorem v2_notN : V2 X ca (fun x y H Q => y = .non ∧ Q (.bl (!decide (x = .non))) H) gNotN := by
  intro G H W1 x y a b Q s ax ay w
  cases b with
  | non => exact ⟨ay, by rw [at_non ax]; exact w.here s _ rfl⟩
  | _ => exact w.elim
/-! membership -/
theorem toV_at {a : D} {x : V} {G : Hp} (f : flatD a = true) (h : At X.K ca G a x) : x = toV a ∧ flatV x = true := by
  cases a with
  | non => cases h; exact ⟨rfl, rfl⟩
  | bl _ => cases h; exact ⟨rfl, rfl⟩
  | int _ => cases h; exact ⟨rfl, rfl⟩
  | str _ => cases h; exact ⟨rfl, rfl⟩
  | _ => cases f
theorem toV_all {G : Hp} : ∀ {ds : List D} {vs : List V}, ds.all flatD = true → AtL X.K ca G ds vs → vs = ds.map toV ∧ vs.all flatV = true
  | [], _, _, h => by cases h; exact ⟨rfl, rfl⟩
  | d :: ds, _, f, ⟨v, r, e, h, t⟩ => by
    rw [List.all_cons, Bool.and_eq_true] at f
    obtain ⟨e1, f1⟩ := toV_at f.1 h
    obtain ⟨e2, f2⟩ := toV_all f.2 t
    subst e
    exact ⟨by rw [e1, e2]; rfl, by rw [List.all_cons, f1, f2]; rfl⟩
theorem op_inA (hu : X.A.units + 65 < cLine) : OpR X (compareOp .In) (fun x y H Q => (∃ i j, x = .str i ∧ y = .str j ∧ Q (.bl (!(Builtin.Str.occurrences j i 0 j.length 1).isEmpty)) H) ∨ (rIn X.K false x y H Q ∨ rInD X.K x y H Q)) := op_in_str.or (op_in_seq.or (op_inD hu))
theorem op_ninA (hu : X.A.units + 65 < cLine) : OpR X (compareOp .NotIn) (fun x y H Q => (∃ i j, x = .str i ∧ y = .str j ∧ Q (.bl (!(!(Builtin.Str.occurrences j i 0 j.length 1).isEmpty))) H) ∨ (rIn X.K true x y H Q ∨ rNotInD X.K x y H Q)) := op_notin_str.or (op_notIn_seq.or (op_notInD hu))
theorem gInP_some {neg : Bool} {a : D} {ys : List D} {G H : Hp} {W1 : XK} {S : Hp → D → Hp → Prop} (h : Wish X.K ca S G H (gInP neg a ys) W1) : ∃ p qs, toP a = some p ∧ toPs ys = some qs ∧ SeqAt.shaped p = true ∧ SeqAt.shaped (.list qs) = true ∧
    gInP neg a ys = .ok (.bl (if neg then !(qs.any fun z => PyData.eqv z p) else qs.any fun z => PyData.eqv z p)) := by
  unfold gInP at h ⊢
  split at h
  · rename_i p q e1 e2
    split at h
    · rename_i z
      rw [Bool.and_eq_true] at z
      exact ⟨p, q, e1, e2, z.1, z.2, by simp only [e1, e2, z.1, z.2]; rfl⟩
    · exact h.elim
  · exact h.elim
theorem v2_in : V2 X ca (fun x y H Q => (∃ i j, x = .str i ∧ y = .str j ∧ Q (.bl (!(Builtin.Str.occurrences j i 0 j.length 1).isEmpty)) H) ∨ (rIn X.K false x y H Q ∨ rInD X.K x y H Q)) (gInS false) := by
  intro G H W1 x y a b Q s ax ay w
  unfold gInS at w
  split at w
  · exact .inl ⟨_, _, ax, ay, w.here s _ rfl⟩
  · obtain ⟨p, vs, rfl, h1, h2⟩ := ay
    split at w
    · rename_i z
      obtain ⟨e1, f1⟩ := toV_at z.1 ax
      obtain ⟨e2, f2⟩ := toV_all z.2 h2
      refine .inr (.inl ⟨p, vs, rfl, .inl (.of (s _ _ h1)), f1, f2, ?_⟩)
      rw [e1, e2]
      exact w.here s _ rfl
    · obtain ⟨q, qs, e1, e2, z1, z2, e3⟩ := gInP_some w
      rw [e3] at w
      exact .inr (.inr ⟨q, qs, dp_of s a x q ax e1, .lst (.of (s _ _ h1)) (dps_of s _ vs qs h2 e2), z1, z2, w.here s _ rfl⟩)
  · obtain ⟨p, vs, rfl, h1, h2⟩ := ay
    split at w
    · rename_i z
      obtain ⟨e1, f1⟩ := toV_at z.1 ax
      obtain ⟨e2, f2⟩ := toV_all z.2 h2
      refine .inr (.inl ⟨p, vs, rfl, .inr (tq s h1), f1, f2, ?_⟩)
      rw [e1, e2]
      exact w.here s _ rfl
    · exact w.elim
  · exact w.elim
theorem v2_nin : V2 X ca (fun x y H Q => (∃ i j, x = .str i ∧ y = .str j ∧ Q (.bl (!(!(Builtin.Str.occurrences j i 0 j.length 1).isEmpty))) H) ∨ (rIn X.K true x y H Q ∨ rNotInD X.K x y H Q)) (gInS true) := by
  intro G H W1 x y a b Q s ax ay w
  unfold gInS at w
  split at w
  · exact .inl ⟨_, _, ax, ay, w.here s _ rfl⟩
  · obtain ⟨p, vs, rfl, h1, h2⟩ := ay
    split at w
    · rename_i z
      obtain ⟨e1, f1⟩ := toV_at z.1 ax
      obtain ⟨e2, f2⟩ := toV_all z.2 h2
      refine .inr (.inl ⟨p, vs, rfl, .inl (.of (s _ _ h1)), f1, f2, ?_⟩)
      rw [e1, e2]
      exact w.here s _ rfl
    · obtain ⟨q, qs, e1, e2, z1, z2, e3⟩ := gInP_some w
      rw [e3] at w
      exact .inr (.inr ⟨q, qs, dp_of s a x q ax e1, .lst (.of (s _ _ h1)) (dps_of s _ vs qs h2 e2), z1, z2, w.here s _ rfl⟩)
  · obtain ⟨p, vs, rfl, h1, h2⟩ := ay
    split at w
    · rename_i z
      obtain ⟨e1, f1⟩ := toV_at z.1 ax
      obtain ⟨e2, f2⟩ := toV_all z.2 h2
      refine .inr (.inl ⟨p, vs, rfl, .inr (tq s h1), f1, f2, ?_⟩)
      rw [e1, e2]
      exact w.here s _ rfl
    · exact w.elim
  · exact w.elim
end
end Tk

namespace Tk
open PySem PySem.Spec L2 PyProof.Rows
/-! ### subscripts, slices -/
def optR {α : Type} (o : Option α) : R α := match o with
  | some a => .ok a
  | none => .bad
@[simp] theorem optR_some {α : Type} (a : α) : optR (some a) = .ok a := (rfl)
def gIx : D → D → R D
  | .lst xs, .int i => optR (atI xs i)
  | .tup xs, .int i => optR (atI xs i)
  | .str z, .int i => if z.length ≤ sizeLine then (optR (atI z.cps.toList i)).bind fun c => .ok (.str ⟨#[c]⟩) else .bad
  | .scr ns, .int i => (optR (atI ns i)).bind fun n => .ok (.int n)
  | _, _ => .bad
def cutD {α : Type} (xs : List α) (lo hi : Option Int) : List α := (xs.drop (HT.sIx xs.length 0 lo)).take (HT.sIx xs.length xs.length hi - HT.sIx xs.length 0 lo)
def gSl : D → Option Int → Option Int → R D
  | .lst xs, lo, hi => .ok (.lst (cutD xs lo hi))
  | .scr ns, lo, hi => .ok (.lst ((cutD ns lo hi).map .int))
  | .tup xs, lo, hi => .ok (.tup (cutD xs lo hi))
  | .str z, lo, hi => if z.length ≤ sizeLine then .ok (.str (cutS z lo hi)) else .bad
  | _, _, _ => .bad
def oN : Ev → R (Option Int) := fun _ => .ok none
def oS (f : Ev → R D) : Ev → R (Option Int) := fun ρ => (f ρ).bind fun d => match d with
  | .int i => .ok (some i)
  | _ => .bad
def eSl (fa : Ev → R D) (fl fh : Ev → R (Option Int)) : Ev → R D := fun ρ => (fa ρ).bind fun a => (fl ρ).bind fun l => (fh ρ).bind fun h => gSl a l h
structure FO (X : Cx) (ca : Cn) (W : WX) (e : Option Expr) (f : Ev → R (Option Int)) : Prop where
  ex : ∃ t, PO X e t ∧ ∀ B G H σ ρ (Q : Option Int → Hp → Prop), Same G H → Same B H → Rel X.K ca B G H σ ρ → Wish X.K ca (fun _ o H' => Q o H') G H (f ρ) (WE W σ) → t σ H Q
section
variable {X : Cx} {ca : Cn} {W : WX} {a b e : Expr} {lo hi : Option Expr} {fa fb : Ev → R D} {fl fh : Ev → R (Option Int)} {pos p2 : Pos}
theorem AtL.atI {K : PySem.W.Frag} {G : Hp} {ds : List D} {vs : List V} {i : Int} {d : D} (h : AtL K ca G ds vs) (e : atI ds i = some d) : ∃ v, L2.atI vs i = some v ∧ At K ca G d v := by
  unfold L2.atI at e ⊢
  rw [← h.length]
  cases z : ixN ds.length i with
  | none => rw [z] at e; cases e
  | some j =>
    rw [z] at e
    obtain ⟨v, h1, h2⟩ := h.get (i := j) (d := d) e
    exact ⟨v, h1, h2⟩
theorem atI_map {α β : Type} {f : α → β} {xs : List α} {i : Int} {x : α} (e : atI xs i = some x) : atI (xs.map f) i = some (f x) := by
  unfold L2.atI at e ⊢
  rw [List.length_map]
  cases z : ixN xs.length i with
  | none => rw [z] at e; cases e
  | some j =>
    rw [z] at e
    have e' : xs[j]? = some x := e
    show (xs.map f)[j]? = some (f x)
    rw [List.getElem?_map, e']
    rfl
theorem wish_opt {α β : Type} {K : PySem.W.Frag} {S : Hp → β → Hp → Prop} {G H : Hp} {o : Option α} {k : α → R β} {W1 : XK} (h : Wish K ca S G H ((optR o).bind k) W1) : ∃ x, o = some x ∧ Wish K ca S G H (k x) W1 := by
  cases o with
  | none => exact h.elim
  | some x => exact ⟨x, rfl, h⟩
theorem wish_opt' {β : Type} {K : PySem.W.Frag} {S : Hp → β → Hp → Prop} {G H : Hp} {o : Option β} {W1 : XK} (h : Wish K ca S G H (optR o) W1) : ∃ x, o = some x ∧ Wish K ca S G H (.ok x) W1 := by
  cases o with
  | none => exact h.elim
  | some x => exact ⟨x, rfl, h⟩
theorem v2_ix : V2 X ca (rIx X.K) gIx := by
  intro G H W1 x y a b Q s ax ay w
  unfold gIx at w
  split at w
  · obtain ⟨d, e, w⟩ := wish_opt' w
    obtain ⟨p, vs, rfl, h1, h2⟩ := ax
    obtain ⟨v, e2, a2⟩ := h2.atI e
    exact .inl ⟨p, vs, _, v, rfl, ay, .of (s _ _ h1), e2, w.here s _ a2⟩
  · obtain ⟨d, e, w⟩ := wish_opt' w
    obtain ⟨p, vs, rfl, h1, h2⟩ := ax
    obtain ⟨v, e2, a2⟩ := h2.atI e
    exact .inr (.inl ⟨p, vs, _, v, rfl, ay, tq s h1, e2, w.here s _ a2⟩)
  · split at w
    · rename_i z
      obtain ⟨c, e, w⟩ := wish_opt w
      exact .inr (.inr ⟨_, _, c, ax, ay, z, e, w.here s _ rfl⟩)
    · exact w.elim
  · obtain ⟨n, e, w⟩ := wish_opt w
    obtain ⟨p, rfl, h1⟩ := ax
    exact .inl ⟨p, _, _, _, rfl, ay, SqL_mono s h1, atI_map e, w.here s _ rfl⟩
  · exact w.elim
theorem fe_ix (hs : PlainIx b) (ha : FE X ca W a fa) (hb : FE X ca W b fb) : FE X ca W (.Subscript a b pos) (e2 gIx fa fb) := by
  obtain ⟨ta, pa, ka⟩ := ha.ex
  obtain ⟨tb, pb, kb⟩ := hb.ex
  refine ⟨_, pe_ix ix_seq pa pb hs, fun B G H σ ρ Q s b r h => ?_⟩
  refine ka B G H σ ρ _ s b r (Wish.bind h fun d G1 H1 _ x1 w1 v a1 => ?_)
  refine kb B G1 H1 σ ρ _ x1.gh (b.trans x1.hh) (r.ext x1) (Wish.bind w1 fun d2 G2 H2 _ x2 w2 v2 a2 => ?_)
  exact v2_ix G2 H2 _ v v2 d d2 Q x2.gh (At.mono x2.gg a1) a2 w2
theorem fo_n : FO X ca W none oN := ⟨_, po_none, fun B G H σ ρ Q s b r h => h.here s⟩
theorem fo_s (h : FE X ca W e fa) : FO X ca W (some e) (oS fa) := by
  obtain ⟨t, p, k⟩ := h.ex
  refine ⟨_, po_some p, fun B G H σ ρ Q s b r h => ?_⟩
  refine k B G H σ ρ _ s b r (Wish.bind h fun d G1 H1 _ x1 w1 v a1 => ?_)
  cases d with
  | int i => exact ⟨i, a1, w1.here x1.gh⟩
  | _ => exact w1.elim
theorem AtL.cut {K : PySem.W.Frag} {G : Hp} {ds : List D} {vs : List V} (lo hi : Option Int) (h : AtL K ca G ds vs) : AtL K ca G (cutD ds lo hi) (cutV vs lo hi) := by
  unfold cutD cutV
  rw [← h.length]
  exact AtL.take _ (AtL.drop _ h)
theorem sl_all : SlR X (fun x lo hi H Q => rSlL X.K x lo hi H Q ∨ (rSlA X.K x lo hi H Q ∨ rSlS x lo hi H Q)) := sl_list.or (sl_tupA.or sl_str)
theorem fe_sl (ha : FE X ca W a fa) (hl : FO X ca W lo fl) (hh : FO X ca W hi fh) : FE X ca W (.Subscript a (.Slice lo hi none p2) pos) (eSl fa fl fh) := by
  obtain ⟨ta, pa, ka⟩ := ha.ex
  obtain ⟨tl, pl, kl⟩ := hl.ex
  obtain ⟨th, ph, kh⟩ := hh.ex
  refine ⟨_, pe_slice sl_all pa pl ph, fun B G H σ ρ Q s b r h => ?_⟩
  refine ka B G H σ ρ _ s b r (Wish.bind h fun d G1 H1 _ x1 w1 v a1 => ?_)
  refine kl B G1 H1 σ ρ _ x1.gh (b.trans x1.hh) (r.ext x1) (Wish.bind w1 fun l G2 H2 _ x2 w2 => ?_)
  refine kh B G2 H2 σ ρ _ x2.gh ((b.trans x1.hh).trans x2.hh) ((r.ext x1).ext x2) (Wish.bind w2 fun u G3 H3 _ x3 w3 => ?_)
  have a3 := At.mono (x2.gg.trans x3.gg) a1
  cases d with
  | lst xs =>
    obtain ⟨p, vs, rfl, h1, h2⟩ := a3
    exact .inl ⟨p, vs, rfl, .of (x3.gh _ _ h1), fun q n => new_lst x3.gh w3 (h2.cut l u) n⟩
  | scr ns =>
    obtain ⟨p, rfl, h1⟩ := a3
    refine .inl ⟨p, _, rfl, SqL_mono x3.gh h1, fun q n => ?_⟩
    have e : cutV (ns.map V.int) l u = (cutD ns l u).map V.int := by
      unfold cutV cutD
      rw [List.length_map, List.map_take, List.map_drop]
    rw [e]
    exact new_lst x3.gh w3 (AtL.of_ints _) n
  | tup xs =>
    obtain ⟨p, vs, rfl, h1, h2⟩ := a3
    refine .inr (.inl ⟨p, vs, rfl, tq x3.gh h1, fun e => ?_, fun e q n => new_tup x3.gh w3 (h2.cut l u) n⟩)
    have e3 : cutD xs l u = xs := by
      unfold cutD
      rw [h2.length, e.1, e.2, List.drop_zero, Nat.sub_zero, ← h2.length, List.take_length]
    have w4 : Wish X.K ca (SV X.K ca Q) G3 H3 (.ok (.tup (cutD xs l u))) (WE W σ) := w3
    rw [e3] at w4
    exact w4.here x3.gh _ ⟨p, vs, rfl, h1, h2⟩
  | str z =>
    have w4 : Wish X.K ca (SV X.K ca Q) G3 H3 (if z.length ≤ sizeLine then .ok (.str (cutS z l u)) else .bad) (WE W σ) := w3
    split at w4
    · rename_i hz
      exact .inr (.inr ⟨z, a3, hz, w4.here x3.gh _ rfl⟩)
    · exact w4.elim
  | _ => exact w3.elim
/-! ### fields -/
def gFld (cs : List Nat) (f : Nat) : D → R D
  | .ins c fs => if c ∈ cs ∧ (fs.map (·.1)).all (fun k => k ≤ 1000) = true then optR (fs.lookup f) else .bad
  | _ => .bad
theorem fe_fld {cs : List Nat} {f : Nat} {nm : Str} (hf : ca.n f = nm) (hi : ∀ k, ca.n k = ca.n f → k = f) (hc : ∀ c ∈ cs, ∀ C, ca.a c = some C → Cls X.K C ∧ NoAttr X.K C nm) (h : FE X ca W e fa) (hb : attributeBase e nm X.env (eval e X.env) = eval e X.env := by rfl) :
    FE X ca W (.Attribute e nm pos) (e1 (gFld cs f) fa) := by
  obtain ⟨t, p, k⟩ := h.ex
  refine ⟨_, pe_fld p hb, fun B G H σ ρ Q s b r h => ?_⟩
  refine k B G H σ ρ _ s b r (Wish.bind h fun d G1 H1 _ x1 w1 v a1 => ?_)
  cases d with
  | ins c fs =>
    obtain ⟨a', C, dx, vs, rfl, h1, h2, h3⟩ := a1
    have w2 : Wish X.K ca (SV X.K ca Q) G1 H1 (if c ∈ cs ∧ (fs.map (·.1)).all (fun k => k ≤ 1000) = true then optR (fs.lookup f) else .bad) (WE W σ) := w1
    split at w2
    · rename_i hm
      obtain ⟨z, e, w3⟩ := wish_opt' w2
      obtain ⟨v, l1, l2⟩ := h3.lookup (fun p _ q => hi _ q) e
      rw [hf] at l1
      exact ⟨a', C, dx, vs, v, rfl, x1.gh _ _ h2, (hc c hm.1 C h1).1, (hc c hm.1 C h1).2, l1, w3.here x1.gh _ l2⟩
    · exact w2.elim
  | _ => exact w1.elim
end

/-! ### built-ins -/
def gLen : List D → R D
  | [.str z] => if z.length ≤ sizeLine then .ok (.int z.length) else .bad
  | [.lst xs] => .ok (.int xs.length)
  | [.tup xs] => .ok (.int xs.length)
  | [.scr ns] => .ok (.int ns.length)
  | _ => .bad
def gAbs : List D → R D
  | [.int i] => .ok (.int (if i < 0 then -i else i))
  | _ => .bad
def gInt : List D → R D
  | [.int i] => .ok (.int i)
  | [.bl k] => .ok (.int (if k then 1 else 0))
  | _ => .bad
def gList : List D → R D
  | [.lst xs] => .ok (.lst xs)
  | [.tup xs] => .ok (.lst xs)
  | [.scr ns] => .ok (.lst (ns.map .int))
  | _ => .bad
def gTuple : List D → R D
  | [.lst xs] => .ok (.tup xs)
  | [.tup xs] => .ok (.tup xs)
  | _ => .bad
def intsOf : List D → Option (List Int)
  | [] => some []
  | .int i :: r => (intsOf r).map (i :: ·)
  | _ :: _ => none
def bolsOf : List D → Option (List Bool)
  | [] => some []
  | .bl i :: r => (bolsOf r).map (i :: ·)
  | _ :: _ => none
def gSum : List D → R D
  | [.lst xs] => (optR (intsOf xs)).bind fun ns => .ok (.int ns.sum)
  | _ => .bad
def gAll : List D → R D
  | [.lst xs] => (optR (bolsOf xs)).bind fun ns => .ok (.bl (ns.all id))
  | _ => .bad
def gAny : List D → R D
  | [.lst xs] => (optR (bolsOf xs)).bind fun ns => .ok (.bl (ns.any id))
  | _ => .bad
def maxI : List Int → Option Int
  | [] => none
  | n :: ns => some (ns.foldl max n)
def minI : List Int → Option Int
  | [] => none
  | n :: ns => some (ns.foldl min n)
def gMax : List D → R D
  | [.lst xs] => (optR ((intsOf xs).bind maxI)).bind fun n => .ok (.int n)
  | [.int i, .int j] => .ok (.int (if j > i then j else i))
  | _ => .bad
def gMin : List D → R D
  | [.lst xs] => (optR ((intsOf xs).bind minI)).bind fun n => .ok (.int n)
  | [.int i, .int j] => .ok (.int (if j < i then j else i))
  | _ => .bad
section
variable {X : Cx} {ca : Cn}
theorem atl1 {K : PySem.W.Frag} {G : Hp} {d : D} {vs : List V} (h : AtL K ca G [d] vs) : ∃ v, vs = [v] ∧ At K ca G d v := by
  obtain ⟨v, r, e, h, t⟩ := h
  cases t
  exact ⟨v, e, h⟩
theorem atl2 {K : PySem.W.Frag} {G : Hp} {d d' : D} {vs : List V} (h : AtL K ca G [d, d'] vs) : ∃ v v', vs = [v, v'] ∧ At K ca G d v ∧ At K ca G d' v' := by
  obtain ⟨v, r, e, h, t⟩ := h
  obtain ⟨v', e', h'⟩ := atl1 t
  subst e'
  exact ⟨v, v', e, h, h'⟩
theorem intsOf_at {K : PySem.W.Frag} {G : Hp} : ∀ {ds : List D} {ns : List Int} {vs : List V}, intsOf ds = some ns → AtL K ca G ds vs → vs = ns.map V.int
  | [], _, _, e, h => by cases e; exact h
  | .int i :: r, ns, vs, e, ⟨v, r', e', h, t⟩ => by
    obtain ⟨ms, e1, e2⟩ := Option.map_eq_some_iff.mp (show (intsOf r).map (i :: ·) = some ns from e)
    subst e2 e'
    cases h
    rw [intsOf_at e1 t]
    rfl
  | .non :: _, _, _, e, _ => by cases e
  | .bl _ :: _, _, _, e, _ => by cases e
  | .str _ :: _, _, _, e, _ => by cases e
  | .ty _ :: _, _, _, e, _ => by cases e
  | .cl _ :: _, _, _, e, _ => by cases e
  | .scr _ :: _, _, _, e, _ => by cases e
  | .lst _ :: _, _, _, e, _ => by cases e
  | .tup _ :: _, _, _, e, _ => by cases e
  | .dK _ :: _, _, _, e, _ => by cases e
  | .dT _ :: _, _, _, e, _ => by cases e
  | .ins _ _ :: _, _, _, e, _ => by cases e
theorem bolsOf_at {K : PySem.W.Frag} {G : Hp} : ∀ {ds : List D} {ns : List Bool} {vs : List V}, bolsOf ds = some ns → AtL K ca G ds vs → vs = ns.map V.bl
  | [], _, _, e, h => by cases e; exact h
  | .bl i :: r, ns, vs, e, ⟨v, r', e', h, t⟩ => by
    obtain ⟨ms, e1, e2⟩ := Option.map_eq_some_iff.mp (show (bolsOf r).map (i :: ·) = some ns from e)
    subst e2 e'
    cases h
    rw [bolsOf_at e1 t]
    rfl
  | .non :: _, _, _, e, _ => by cases e
  | .int _ :: _, _, _, e, _ => by cases e
  | .str _ :: _, _, _, e, _ => by cases e
  | .ty _ :: _, _, _, e, _ => by cases e
  | .cl _ :: _, _, _, e, _ => by cases e
  | .scr _ :: _, _, _, e, _ => by cases e
  | .lst _ :: _, _, _, e, _ => by cases e
  | .tup _ :: _, _, _, e, _ => by cases e
  | .dK _ :: _, _, _, e, _ => by cases e
  | .dT _ :: _, _, _, e, _ => by cases e
  | .ins _ _ :: _, _, _, e, _ => by cases e
theorem vn_len : VN X ca (fun xs H Q => ∃ x n, xs = [x] ∧ LenV X.K x H n ∧ Q (.int n) H) gLen := by
  intro G H W1 xs ds Q s a w
  unfold gLen at w
  split at w
  · obtain ⟨v, rfl, a1⟩ := atl1 a
    cases a1
    split at w
    · rename_i z; exact ⟨.str _, _, rfl, ⟨z, rfl⟩, w.here s _ rfl⟩
    · exact w.elim
  · obtain ⟨v, rfl, p, vs, rfl, h1, h2⟩ := atl1 a
    exact ⟨.ref p, _, rfl, .inl ⟨vs, .of (s _ _ h1), h2.length⟩, w.here s _ rfl⟩
  · obtain ⟨v, rfl, p, vs, rfl, h1, h2⟩ := atl1 a
    exact ⟨.ref p, _, rfl, .inr ⟨vs, tq s h1, h2.length⟩, w.here s _ rfl⟩
  · obtain ⟨v, rfl, p, rfl, h1⟩ := atl1 a
    exact ⟨.ref p, _, rfl, .inl ⟨_, SqL_mono s h1, (List.length_map ..).symm⟩, w.here s _ rfl⟩
  · exact w.elim
theorem vn_abs : VN X ca (fun xs H Q => ∃ i, xs = [.int i] ∧ Q (.int (if i < 0 then -i else i)) H) gAbs := by
  intro G H W1 xs ds Q s a w
  unfold gAbs at w
  split at w
  · obtain ⟨v, rfl, a1⟩ := atl1 a
    cases a1
    exact ⟨_, rfl, w.here s _ rfl⟩
  · exact w.elim
theorem vn_int : VN X ca (fun xs H Q => (∃ i, xs = [.int i] ∧ Q (.int i) H) ∨ ∃ k, xs = [.bl k] ∧ Q (.int (if k then 1 else 0)) H) gInt := by
  intro G H W1 xs ds Q s a w
  unfold gInt at w
  split at w
  · obtain ⟨v, rfl, a1⟩ := atl1 a
    cases a1
    exact .inl ⟨_, rfl, w.here s _ rfl⟩
  · obtain ⟨v, rfl, a1⟩ := atl1 a
    cases a1
    exact .inr ⟨_, rfl, w.here s _ rfl⟩
  · exact w.elim
theorem vn_list : VN X ca (fun xs H Q => ∃ p ys, xs = [.ref p] ∧ (SqL X.K H p ys ∨ SqT X.K H p ys) ∧ ∀ l, H l = none → Q (.ref l) (upd H l (.lst ys))) gList := by
  intro G H W1 xs ds Q s a w
  unfold gList at w
  split at w
  · obtain ⟨v, rfl, p, vs, rfl, h1, h2⟩ := atl1 a
    exact ⟨p, vs, rfl, .inl (.of (s _ _ h1)), fun l n => new_lst s w h2 n⟩
  · obtain ⟨v, rfl, p, vs, rfl, h1, h2⟩ := atl1 a
    exact ⟨p, vs, rfl, .inr (tq s h1), fun l n => new_lst s w h2 n⟩
  · obtain ⟨v, rfl, p, rfl, h1⟩ := atl1 a
    exact ⟨p, _, rfl, .inl (SqL_mono s h1), fun l n => new_lst s w (AtL.of_ints _) n⟩
  · exact w.elim
theorem vn_tuple : VN X ca (fun xs H Q => ∃ p ys, xs = [.ref p] ∧ ((SqL X.K H p ys ∧ ∀ l, H l = none → Q (.ref l) (upd H l (.tup ys))) ∨ (SqT X.K H p ys ∧ Q (.ref p) H))) gTuple := by
  intro G H W1 xs ds Q s a w
  unfold gTuple at w
  split at w
  · obtain ⟨v, rfl, p, vs, rfl, h1, h2⟩ := atl1 a
    exact ⟨p, vs, rfl, .inl ⟨.of (s _ _ h1), fun l n => new_tup s w h2 n⟩⟩
  · obtain ⟨v, rfl, p, vs, rfl, h1, h2⟩ := atl1 a
    exact ⟨p, vs, rfl, .inr ⟨tq s h1, w.here s _ ⟨p, vs, rfl, h1, h2⟩⟩⟩
  · exact w.elim
theorem vn_sum : VN X ca (rSum X.K) gSum := by
  intro G H W1 xs ds Q s a w
  unfold gSum at w
  split at w
  · obtain ⟨ns, e, w⟩ := wish_opt w
    obtain ⟨v, rfl, p, vs, rfl, h1, h2⟩ := atl1 a
    rw [intsOf_at e h2] at h1
    exact ⟨p, ns, rfl, .of (s _ _ h1), w.here s _ rfl⟩
  · exact w.elim
theorem vn_all : VN X ca (rAll X.K) gAll := by
  intro G H W1 xs ds Q s a w
  unfold gAll at w
  split at w
  · obtain ⟨ns, e, w⟩ := wish_opt w
    obtain ⟨v, rfl, p, vs, rfl, h1, h2⟩ := atl1 a
    rw [bolsOf_at e h2] at h1
    exact ⟨p, ns, rfl, .of (s _ _ h1), w.here s _ rfl⟩
  · exact w.elim
theorem vn_any : VN X ca (rAny X.K) gAny := by
  intro G H W1 xs ds Q s a w
  unfold gAny at w
  split at w
  · obtain ⟨ns, e, w⟩ := wish_opt w
    obtain ⟨v, rfl, p, vs, rfl, h1, h2⟩ := atl1 a
    rw [bolsOf_at e h2] at h1
    exact ⟨p, ns, rfl, .of (s _ _ h1), w.here s _ rfl⟩
  · exact w.elim
theorem foldl_max (ns : List Int) : ∀ n : Int, (ns.foldl max n = n ∨ ns.foldl max n ∈ ns) ∧ n ≤ ns.foldl max n ∧ ∀ y ∈ ns, y ≤ ns.foldl max n := by
  induction ns with
  | nil => intro n; exact ⟨.inl rfl, Int.le_refl _, fun y h => by cases h⟩
  | cons m ns ih =>
    intro n
    obtain ⟨h1, h2, h3⟩ := ih (max n m)
    rw [List.foldl_cons]
    refine ⟨?_, by omega, fun y h => ?_⟩
    · rcases h1 with h1 | h1
      · rw [h1]
        by_cases z : n ≤ m
        · exact .inr (by rw [Int.max_eq_right z]; exact List.mem_cons_self)
        · exact .inl (by omega)
      · exact .inr (List.mem_cons_of_mem _ h1)
    · rcases List.mem_cons.mp h with rfl | h
      · omega
      · exact h3 y h
theorem foldl_min (ns : List Int) : ∀ n : Int, (ns.foldl min n = n ∨ ns.foldl min n ∈ ns) ∧ ns.foldl min n ≤ n ∧ ∀ y ∈ ns, ns.foldl min n ≤ y := by
  induction ns with
  | nil => intro n; exact ⟨.inl rfl, Int.le_refl _, fun y h => by cases h⟩
  | cons m ns ih =>
    intro n
    obtain ⟨h1, h2, h3⟩ := ih (min n m)
    rw [List.foldl_cons]
    refine ⟨?_, by omega, fun y h => ?_⟩
    · rcases h1 with h1 | h1
      · rw [h1]
        by_cases z : n ≤ m
        · exact .inl (by omega)
        · exact .inr (by rw [Int.min_eq_right (by omega)]; exact List.mem_cons_self)
      · exact .inr (List.mem_cons_of_mem _ h1)
    · rcases List.mem_cons.mp h with rfl | h
      · omega
      · exact h3 y h
theorem call_maxA (hc : X.calm = true) : CallR X (.builtin "max") (fun xs H Q => rMax X.K xs H Q ∨ ∃ i j, xs = [.int i, .int j] ∧ Q (.int (if j > i then j else i)) H) := (cr_max hc).or (call_max2 hc)
theorem call_minA (hc : X.calm = true) : CallR X (.builtin "min") (fun xs H Q => rMin X.K xs H Q ∨ ∃ i j, xs = [.int i, .int j] ∧ Q (.int (if j < i then j else i)) H) := (cr_min hc).or (call_min2 hc)
theorem vn_max : VN X ca (fun xs H Q => rMax X.K xs H Q ∨ ∃ i j, xs = [.int i, .int j] ∧ Q (.int (if j > i then j else i)) H) gMax := by
  intro G H W1 xs ds Q s a w
  unfold gMax at w
  split at w
  · obtain ⟨n, e, w⟩ := wish_opt w
    obtain ⟨ns, e1, e2⟩ := Option.bind_eq_some_iff.mp e
    obtain ⟨v, rfl, p, vs, rfl, h1, h2⟩ := atl1 a
    rw [intsOf_at e1 h2] at h1
    cases ns with
    | nil => cases e2
    | cons m ns =>
      cases e2
      obtain ⟨f1, f2, f3⟩ := foldl_max ns m
      refine .inl ⟨p, m :: ns, rfl, .of (s _ _ h1), Nat.succ_pos _, fun k hk hmax => ?_⟩
      have : k = ns.foldl max m := by
        have g1 : ns.foldl max m ∈ m :: ns := by
          rcases f1 with f1 | f1
          · rw [f1]; exact List.mem_cons_self
          · exact List.mem_cons_of_mem _ f1
        have g2 := hmax _ g1
        have g3 : k ≤ ns.foldl max m := by
          rcases List.mem_cons.mp hk with rfl | hk
          · exact f2
          · exact f3 k hk
        omega
      rw [this]
      exact w.here s _ rfl
  · obtain ⟨v, v', rfl, a1, a2⟩ := atl2 a
    cases a1; cases a2
    exact .inr ⟨_, _, rfl, w.here s _ rfl⟩
  · exact w.elim
theorem vn_min : VN X ca (fun xs H Q => rMin X.K xs H Q ∨ ∃ i j, xs = [.int i, .int j] ∧ Q (.int (if j < i then j else i)) H) gMin := by
  intro G H W1 xs ds Q s a w
  unfold gMin at w
  split at w
  · obtain ⟨n, e, w⟩ := wish_opt w
    obtain ⟨ns, e1, e2⟩ := Option.bind_eq_some_iff.mp e
    obtain ⟨v, rfl, p, vs, rfl, h1, h2⟩ := atl1 a
    rw [intsOf_at e1 h2] at h1
    cases ns with
    | nil => cases e2
    | cons m ns =>
      cases e2
      obtain ⟨f1, f2, f3⟩ := foldl_min ns m
      refine .inl ⟨p, m :: ns, rfl, .of (s _ _ h1), Nat.succ_pos _, fun k hk hmin => ?_⟩
      have : k = ns.foldl min m := by
        have g1 : ns.foldl min m ∈ m :: ns := by
          rcases f1 with f1 | f1
          · rw [f1]; exact List.mem_cons_self
          · exact List.mem_cons_of_mem _ f1
        have g2 := hmin _ g1
        have g3 : ns.foldl min m ≤ k := by
          rcases List.mem_cons.mp hk with rfl | hk
          · exact f2
          · exact f3 k hk
        omega
      rw [this]
      exact w.here s _ rfl
  · obtain ⟨v, v', rfl, a1, a2⟩ := atl2 a
    cases a1; cases a2
    exact .inr ⟨_, _, rfl, w.here s _ rfl⟩
  · exact w.elim
end
end Tk

namespace Tk
open PySem PySem.Spec L2 PyProof.Rows
/-! ### what a for walks -/
def signs (z : Str) : List D := z.cps.toList.map fun c => .str ⟨#[c]⟩
def gIt : D → R (List D)
  | .lst xs => .ok xs
  | .tup xs => .ok xs
  | .str z => .ok (signs z)
  | .scr ns => .ok (ns.map .int)
  | _ => .bad
def iSq (fa : Ev → R D) : Ev → R (List D) := fun ρ => (fa ρ).bind gIt
def small62 (i : Int) : Prop := -(2 ^ 62) ≤ i ∧ i < 2 ^ 62
instance (i : Int) : Decidable (small62 i) := by unfold small62; infer_instance
def rgD (lo : Int) (n : Nat) : List D := (List.range n).map fun (k : Nat) => .int (lo + (k : Int))
def iR1 (fa : Ev → R D) : Ev → R (List D) := fun ρ => (fa ρ).bind fun d => match d with
  | .int j => if small62 j then .ok (rgD 0 j.toNat) else .bad
  | _ => .bad
def iR2 (fa fb : Ev → R D) : Ev → R (List D) := fun ρ => (fa ρ).bind fun a => (fb ρ).bind fun b => match a, b with
  | .int i, .int j => if small62 i ∧ small62 j then .ok (rgD i (j - i).toNat) else .bad
  | _, _ => .bad
def enumD (k : Nat) : List D → List D
  | [] => []
  | d :: r => .tup [.int (k : Int), d] :: enumD (k + 1) r
def iEn (fa : Ev → R D) : Ev → R (List D) := fun ρ => (fa ρ).bind fun d => match d with
  | .lst xs => .ok (enumD 0 xs)
  | _ => .bad
def zipD : List D → List D → List D
  | d :: r, e :: s => .tup [d, e] :: zipD r s
  | _, _ => []
def iZp (fa fb : Ev → R D) : Ev → R (List D) := fun ρ => (fa ρ).bind fun a => (fb ρ).bind fun b => match a, b with
  | .lst xs, .lst ys => .ok (zipD xs ys)
  | .tup xs, .tup ys => .ok (zipD xs ys)
  | _, _ => .bad
section
variable {K : PySem.W.Frag} {ca : Cn} {G0 : Hp}
theorem jok_list {a : Addr} {ds : List D} {vs : List V} (h : SqL K G0 a vs) (r : AtL K ca G0 ds vs) : JOk K ca G0 (Itl K a) ds := by
  intro G H s1 s2 i
  have q : SqL K H a vs := SqL_mono s2 (SqL_mono s1 h)
  refine ⟨fun d e => ?_, fun l => ⟨vs, q, by rw [← r.length]; omega⟩⟩
  obtain ⟨v, e1, a1⟩ := r.get e
  refine ⟨⟨vs, v, q, e1⟩, fun x H' y => ⟨G, by rw [y.1]; exact .refl s2, ?_⟩⟩
  have := y.2 vs q
  rw [e1] at this
  cases this
  exact At.mono s1 a1
theorem jok_tup {a : Addr} {ds : List D} {vs : List V} (h : SqT K G0 a vs) (r : AtL K ca G0 ds vs) : JOk K ca G0 (Itt K a) ds := by
  intro G H s1 s2 i
  have q : SqT K H a vs := SqT_mono s2 (SqT_mono s1 h)
  refine ⟨fun d e => ?_, fun l => ⟨vs, q, by rw [← r.length]; omega⟩⟩
  obtain ⟨v, e1, a1⟩ := r.get e
  refine ⟨⟨vs, v, q, e1⟩, fun x H' y => ⟨G, by rw [y.1]; exact .refl s2, ?_⟩⟩
  have := y.2 vs q
  rw [e1] at this
  cases this
  exact At.mono s1 a1
theorem jok_str {z : Str} : JOk K ca G0 (Its z) (signs z) := by
  intro G H s1 s2 i
  have hl : (signs z).length = z.cps.size := by unfold signs; rw [List.length_map, Array.length_toList]
  refine ⟨fun d e => ?_, fun l => Nat.le_of_eq (hl.symm.trans l)⟩
  have hi : i < z.cps.size := by rw [← hl]; exact (List.getElem?_eq_some_iff.mp e).1
  refine ⟨hi, fun x H' y => ⟨G, by rw [y.1]; exact .refl s2, ?_⟩⟩
  obtain ⟨c, e1, e2⟩ := y.2
  unfold signs at e
  rw [List.getElem?_map, Array.getElem?_toList, e1] at e
  cases e
  exact e2
theorem jok_rg {lo : Int} {n : Nat} : JOk K ca G0 (Itr lo n) (rgD lo n) := by
  intro G H s1 s2 i
  have hl : (rgD lo n).length = n := by unfold rgD; rw [List.length_map, List.length_range]
  refine ⟨fun d e => ?_, fun l => Nat.le_of_eq (hl.symm.trans l)⟩
  have hi : i < n := by rw [← hl]; exact (List.getElem?_eq_some_iff.mp e).1
  refine ⟨hi, fun x H' y => ⟨G, by rw [y.1]; exact .refl s2, ?_⟩⟩
  unfold rgD at e
  rw [List.getElem?_map, List.getElem?_range hi] at e
  cases e
  exact y.2
theorem enumD_get : ∀ (ds : List D) (k i : Nat), (enumD k ds)[i]? = ds[i]?.map fun d => .tup [.int ((k + i : Nat) : Int), d]
  | [], k, i => by simp [enumD]
  | d :: r, k, 0 => by simp [enumD]
  | d :: r, k, i + 1 => by
    show (enumD (k + 1) r)[i]? = r[i]?.map _
    rw [enumD_get r (k + 1) i]
    rw [show k + 1 + i = k + (i + 1) by omega]
theorem enumD_len : ∀ (ds : List D) (k : Nat), (enumD k ds).length = ds.length
  | [], k => rfl
  | d :: r, k => congrArg Nat.succ (enumD_len r (k + 1))
theorem zipD_get : ∀ (ds es : List D) (i : Nat), (zipD ds es)[i]? = (match ds[i]?, es[i]? with | some d, some e => some (.tup [d, e]) | _, _ => none)
  | [], es, i => by simp [zipD]
  | d :: r, [], i => by cases h : (d :: r)[i]? <;> simp [zipD]
  | d :: r, e :: s, 0 => by simp [zipD]
  | d :: r, e :: s, i + 1 => by
    show (zipD r s)[i]? = _
    rw [zipD_get r s i]
    rfl
theorem zipD_len : ∀ (ds es : List D), (zipD ds es).length = min ds.length es.length
  | [], es => by simp [zipD]
  | d :: r, [] => by simp [zipD]
  | d :: r, e :: s => by
    show (zipD r s).length + 1 = _
    rw [zipD_len r s, List.length_cons, List.length_cons]
    omega
theorem pair_at {G H : Hp} {T : Addr} {x y : V} {d e : D} (s : Same G H) (n : H T = none) (a : At K ca G d x) (b : At K ca G e y) : ∃ G', Ext G H G' (upd H T (.tup [x, y])) ∧ At K ca G' (.tup [d, e]) (.ref T) := by
  refine ⟨upd G T (.tup [x, y]), Ext.new s n, T, [x, y], rfl, .inl upd_same, ?_⟩
  have m := same_upd (o := .tup [x, y]) (same_none s n)
  exact ⟨x, [y], rfl, At.mono m a, y, [], rfl, At.mono m b, rfl⟩
theorem jok_enum {a : Addr} {ds : List D} {vs : List V} (h : SqL K G0 a vs) (r : AtL K ca G0 ds vs) : JOk K ca G0 (Ite K a) (enumD 0 ds) := by
  intro G H s1 s2 i
  have q : SqL K H a vs := SqL_mono s2 (SqL_mono s1 h)
  refine ⟨fun d e => ?_, fun l => ⟨vs, q, by rw [enumD_len] at l; rw [← r.length]; omega⟩⟩
  rw [enumD_get] at e
  obtain ⟨d0, e0, e1⟩ := Option.map_eq_some_iff.mp e
  obtain ⟨v, e2, a1⟩ := r.get e0
  refine ⟨⟨vs, v, q, e2⟩, fun x H' y => ?_⟩
  obtain ⟨T, x0, rfl, n, rfl, hx⟩ := y
  have := hx vs q
  rw [e2] at this
  cases this
  subst e1
  refine pair_at s2 n ?_ (At.mono s1 a1)
  rw [Nat.zero_add]
  rfl
theorem jok_zip {a b : Addr} {ds es : List D} {vs ws : List V} (h : SqL K G0 a vs) (h' : SqL K G0 b ws) (r : AtL K ca G0 ds vs) (r' : AtL K ca G0 es ws) : JOk K ca G0 (L2.Itz K a b) (zipD ds es) := by
  intro G H s1 s2 i
  have q : SqL K H a vs := SqL_mono s2 (SqL_mono s1 h)
  have q' : SqL K H b ws := SqL_mono s2 (SqL_mono s1 h')
  refine ⟨fun d e => ?_, fun l => ⟨vs, ws, q, q', by rw [zipD_len, r.length, r'.length] at l; omega⟩⟩
  rw [zipD_get] at e
  cases e0 : ds[i]? with
  | none => rw [e0] at e; cases e
  | some d0 =>
    cases e1 : es[i]? with
    | none => rw [e0, e1] at e; cases e
    | some d1 =>
      rw [e0, e1] at e
      cases e
      obtain ⟨v, e2, a1⟩ := r.get e0
      obtain ⟨w, e3, a2⟩ := r'.get e1
      refine ⟨⟨vs, ws, v, w, q, q', e2, e3⟩, fun x H' y => ?_⟩
      obtain ⟨T, x0, y0, rfl, n, rfl, hx, hy⟩ := y
      have z1 := hx vs q
      have z2 := hy ws q'
      rw [e2] at z1
      rw [e3] at z2
      cases z1; cases z2
      exact pair_at s2 n (At.mono s1 a1) (At.mono s1 a2)
theorem jok_zipT {a b : Addr} {ds es : List D} {vs ws : List V} (h : SqT K G0 a vs) (h' : SqT K G0 b ws) (r : AtL K ca G0 ds vs) (r' : AtL K ca G0 es ws) : JOk K ca G0 (RZ.ItzT K a b) (zipD ds es) := by
  intro G H s1 s2 i
  have q : SqT K H a vs := SqT_mono s2 (SqT_mono s1 h)
  have q' : SqT K H b ws := SqT_mono s2 (SqT_mono s1 h')
  refine ⟨fun d e => ?_, fun l => ⟨vs, ws, q, q', by rw [zipD_len, r.length, r'.length] at l; omega⟩⟩
  rw [zipD_get] at e
  cases e0 : ds[i]? with
  | none => rw [e0] at e; cases e
  | some d0 =>
    cases e1 : es[i]? with
    | none => rw [e0, e1] at e; cases e
    | some d1 =>
      rw [e0, e1] at e
      cases e
      obtain ⟨v, e2, a1⟩ := r.get e0
      obtain ⟨w, e3, a2⟩ := r'.get e1
      refine ⟨⟨vs, ws, v, w, q, q', e2, e3⟩, fun x H' y => ?_⟩
      obtain ⟨T, x0, y0, rfl, n, rfl, hx, hy⟩ := y
      have z1 := hx vs q
      have z2 := hy ws q'
      rw [e2] at z1
      rw [e3] at z2
      cases z1; cases z2
      exact pair_at s2 n (At.mono s1 a1) (At.mono s1 a2)
end
theorem pi_or {X : Cx} {tg it : Expr} {w1 w2 : TI} (h1 : PI X tg it w1) (h2 : PI X tg it w2) : PI X tg it (fun σ H R => w1 σ H R ∨ w2 σ H R) :=
  ⟨fun pins s σ H R I h => h.elim (h1.run pins s σ H R I) (h2.run pins s σ H R I)⟩
theorem pe_or2 {X : Cx} {e : Expr} {w1 w2 : TE} (h1 : PE X e w1) (h2 : PE X e w2) : PE X e (fun σ H R => w1 σ H R ∨ w2 σ H R) :=
  ⟨fun pins s σ H R I h => h.elim (h1.run pins s σ H R I) (h2.run pins s σ H R I)⟩
section
variable {X : Cx} {ca : Cn} {W : WX} {tg e e' : Expr} {es : List Expr} {fa fb : Ev → R D} {fl : Ev → R (List D)} {p pos : Pos}
theorem fi_sq (h : FE X ca W e fa) : FI X ca W tg e (iSq fa) := by
  obtain ⟨t, p, k⟩ := h.ex
  refine ⟨_, pi_or (pi_or (pi_list p) (pi_tup p)) (pi_str p), fun B G H σ ρ Q s b r h => ?_⟩
  unfold iSq at h
  -- which of the three is known ahead: the mirror's value
  cases z : fa ρ with
  | bad => rw [z] at h; exact h.elim
  | exc x =>
    refine .inl (.inl (k B G H σ ρ _ s b r ?_))
    rw [z] at h ⊢
    exact h
  | ok d =>
    have hw : ∀ ds, gIt d = .ok ds → ∀ Q1 : VK, (∀ v G1 H1, Ext G H G1 H1 → Wish X.K ca (fun G' ds H' => ∀ J, JOk X.K ca G' J ds → Q J H') G1 H1 (.ok ds) (WE W σ) → At X.K ca G1 d v → Q1 v H1) → Wish X.K ca (SV X.K ca Q1) G H (fa ρ) (WE W σ) := fun ds e Q1 hq => by
      refine Wish.bind (k := gIt) h fun d' G1 H1 e1 x1 w1 v a1 => ?_
      rw [z] at e1
      cases e1
      rw [e] at w1
      exact hq v G1 H1 x1 w1 a1
    cases d with
    | lst xs =>
      refine .inl (.inl (k B G H σ ρ _ s b r (hw xs rfl _ fun v G1 H1 x1 w1 a1 => ?_)))
      obtain ⟨q, vs, rfl, h1, h2⟩ := a1
      exact ⟨q, rfl, ⟨vs, .of (x1.gh _ _ h1)⟩, w1.here x1.gh _ (jok_list (.of h1) h2)⟩
    | scr ns =>
      refine .inl (.inl (k B G H σ ρ _ s b r (hw _ rfl _ fun v G1 H1 x1 w1 a1 => ?_)))
      obtain ⟨q, rfl, h1⟩ := a1
      exact ⟨q, rfl, ⟨_, SqL_mono x1.gh h1⟩, w1.here x1.gh _ (jok_list h1 (AtL.of_ints _))⟩
    | tup xs =>
      refine .inl (.inr (k B G H σ ρ _ s b r (hw xs rfl _ fun v G1 H1 x1 w1 a1 => ?_)))
      obtain ⟨q, vs, rfl, h1, h2⟩ := a1
      exact ⟨q, rfl, ⟨vs, tq x1.gh h1⟩, w1.here x1.gh _ (jok_tup (tq (.refl _) h1) h2)⟩
    | str x =>
      refine .inr (k B G H σ ρ _ s b r (hw _ rfl _ fun v G1 H1 x1 w1 a1 => ?_))
      cases a1
      exact ⟨x, rfl, w1.here x1.gh _ jok_str⟩
    | _ => rw [z] at h; exact h.elim
theorem fi_r1 (hg : Gl X "range") (hm : X.mg "range" = none) (h : FE X ca W e fa) (hs : starEach [e] X.env = [(false, eval e X.env)] := by rfl) : FI X ca W tg (.Call (.Name "range" p) [e] [] pos) (iR1 fa) := by
  obtain ⟨t, p, k⟩ := h.ex
  refine ⟨_, pi_range1 hg hm (pa_cons p pa_nil hs) hs, fun B G H σ ρ Q s b r h => ?_⟩
  refine k B G H σ ρ _ s b r (Wish.bind h fun d G1 H1 e1 x1 w1 v a1 => ?_)
  cases d with
  | int j =>
    cases a1
    have w2 : Wish X.K ca (fun G' ds H' => ∀ J, JOk X.K ca G' J ds → Q J H') G1 H1 (if small62 j then .ok (rgD 0 j.toNat) else .bad) (WE W σ) := w1
    split at w2
    · rename_i z; exact ⟨_, rfl, z.1, z.2, w2.here x1.gh _ jok_rg⟩
    · exact w2.elim
  | _ => exact w1.elim
theorem fi_r2 (hg : Gl X "range") (hm : X.mg "range" = none) (h : FE X ca W e fa) (h' : FE X ca W e' fb) (hs : starEach [e, e'] X.env = (false, eval e X.env) :: starEach [e'] X.env := by rfl) (hs' : starEach [e'] X.env = (false, eval e' X.env) :: starEach [] X.env := by rfl) (hs2 : starEach [e, e'] X.env = [(false, eval e X.env), (false, eval e' X.env)] := by rfl) :
    FI X ca W tg (.Call (.Name "range" p) [e, e'] [] pos) (iR2 fa fb) := by
  obtain ⟨t, p, k⟩ := h.ex
  obtain ⟨u, q, l⟩ := h'.ex
  refine ⟨_, pi_range2 hg hm (pa_cons p (pa_cons q pa_nil hs') hs) hs2 hs', fun B G H σ ρ Q s b r h => ?_⟩
  refine k B G H σ ρ _ s b r (Wish.bind h fun d G1 H1 e1 x1 w1 v a1 => ?_)
  refine l B G1 H1 σ ρ _ x1.gh (b.trans x1.hh) (r.ext x1) (Wish.bind w1 fun d2 G2 H2 e2 x2 w2 v2 a2 => ?_)
  cases d with
  | int i =>
    cases d2 with
    | int j =>
      cases a1
      cases a2
      have w3 : Wish X.K ca (fun G' ds H' => ∀ J, JOk X.K ca G' J ds → Q J H') G2 H2 (if small62 i ∧ small62 j then .ok (rgD i (j - i).toNat) else .bad) (WE W σ) := w2
      split at w3
      · rename_i z; exact ⟨_, _, rfl, ⟨z.1.1, z.1.2, z.2.1, z.2.2⟩, w3.here x2.gh _ jok_rg⟩
      · exact w3.elim
    | _ => exact w2.elim
  | _ => exact w2.elim
theorem fi_en {elts : List Expr} {kk : Nat} {tpos : Pos} (hg : Gl X "enumerate") (hm : X.mg "enumerate" = none) (h : FE X ca W e fa) (hs : starEach [e] X.env = [(false, eval e X.env)] := by rfl) : FI X ca W (.Tuple elts kk tpos) (.Call (.Name "enumerate" p) [e] [] pos) (iEn fa) := by
  obtain ⟨t, p, k⟩ := h.ex
  refine ⟨_, pi_enum hg hm (pa_cons p pa_nil hs) hs, fun B G H σ ρ Q s b r h => ?_⟩
  refine k B G H σ ρ _ s b r (Wish.bind h fun d G1 H1 e1 x1 w1 v a1 => ?_)
  cases d with
  | lst xs =>
    obtain ⟨q, vs, rfl, h1, h2⟩ := a1
    exact ⟨q, vs, rfl, .of (x1.gh _ _ h1), w1.here x1.gh _ (jok_enum (.of h1) h2)⟩
  | _ => exact w1.elim
theorem fi_zp {elts : List Expr} {kk : Nat} {tpos : Pos} (hg : Gl X "zip") (hm : X.mg "zip" = none) (h : FE X ca W e fa) (h' : FE X ca W e' fb) (hs : starEach [e, e'] X.env = (false, eval e X.env) :: starEach [e'] X.env := by rfl) (hs' : starEach [e'] X.env = (false, eval e' X.env) :: starEach [] X.env := by rfl)
    (hpl : (backTo pos (starEach [e'] X.env)).any (·.1) = false := by rfl) : FI X ca W (.Tuple elts kk tpos) (.Call (.Name "zip" p) [e, e'] [] pos) (iZp fa fb) := by
  obtain ⟨t, p, k⟩ := h.ex
  obtain ⟨u, q, l⟩ := h'.ex
  refine ⟨_, RZ.pi_zipA hg hm (pa_cons p (pa_cons q pa_nil hs') hs) hs hpl, fun B G H σ ρ Q s b r h => ?_⟩
  refine k B G H σ ρ _ s b r (Wish.bind h fun d G1 H1 e1 x1 w1 v a1 => ?_)
  refine l B G1 H1 σ ρ _ x1.gh (b.trans x1.hh) (r.ext x1) (Wish.bind w1 fun d2 G2 H2 e2 x2 w2 v2 a2 => ?_)
  have a3 := At.mono x2.gg a1
  cases d with
  | lst xs =>
    cases d2 with
    | lst ys =>
      obtain ⟨q, vs, rfl, h1, h2⟩ := a3
      obtain ⟨q', ws, rfl, h3, h4⟩ := a2
      exact ⟨q, q', vs, ws, rfl, .inl ⟨.of (x2.gh _ _ h1), .of (x2.gh _ _ h3), w2.here x2.gh _ (jok_zip (.of h1) (.of h3) h2 h4)⟩⟩
    | _ => exact w2.elim
  | tup xs =>
    cases d2 with
    | tup ys =>
      obtain ⟨q, vs, rfl, h1, h2⟩ := a3
      obtain ⟨q', ws, rfl, h3, h4⟩ := a2
      exact ⟨q, q', vs, ws, rfl, .inr ⟨tq x2.gh h1, tq x2.gh h3, w2.here x2.gh _ (jok_zipT (tq (.refl _) h1) (tq (.refl _) h3) h2 h4)⟩⟩
    | _ => exact w2.elim
  | _ => exact w2.elim
end
end Tk

namespace Tk
open PySem PySem.Spec L2 PyProof.Rows
/-! ### comprehensions -/
abbrev W0 : WX := fun _ _ _ _ => False
/-- the widest readings of a mirror -/
def tE (K : PySem.W.Frag) (ca : Cn) (W : WX) (f : Ev → R D) : TE := fun σ H Q => ∃ B G ρ, Same G H ∧ Same B H ∧ Rel K ca B G H σ ρ ∧ Wish K ca (SV K ca Q) G H (f ρ) (WE W σ)
def tT (K : PySem.W.Frag) (ca : Cn) (W : WX) (f : Ev → R Bool) : TT := fun σ H Q => ∃ B G ρ, Same G H ∧ Same B H ∧ Rel K ca B G H σ ρ ∧ Wish K ca (SB Q) G H (f ρ) (WE W σ)
def tGc (K : PySem.W.Frag) (ca : Cn) (zs : List Nat) (h : Tg) : TG := fun v σ H Q => ∃ B G ρ d, Same G H ∧ Same B H ∧ Rel K ca B G H σ ρ ∧ At K ca G d v ∧ ∃ ρ', h d ρ = some ρ' ∧ ∀ σ', Rel K ca B G H σ' ρ' → wipe σ' zs = wipe σ zs → Q σ' H
section
variable {X : Cx} {ca : Cn} {W : WX} {zs : List Nat} {e tg : Expr} {f : Ev → R D} {ft : Ev → R Bool} {h : Tg}
theorem FE.can (a : FE X ca W e f) : PE X e (tE X.K ca W f) := by
  obtain ⟨t, p, k⟩ := a.ex
  exact ⟨fun pins s σ H Q I ⟨B, G, ρ, h1, h2, h3, h4⟩ => p.run pins s σ H Q I (k B G H σ ρ Q h1 h2 h3 h4)⟩
theorem FT.can (a : FT X ca W e ft) : PT X e (tT X.K ca W ft) := by
  obtain ⟨t, p, k⟩ := a.ex
  exact ⟨fun pins s σ H Q I ⟨B, G, ρ, h1, h2, h3, h4⟩ => p.run pins s σ H Q I (k B G H σ ρ Q h1 h2 h3 h4)⟩
theorem FG.can (a : FG X ca zs tg h) : PG X tg (tGc X.K ca zs h) := by
  obtain ⟨t, p, k⟩ := a.ex
  exact ⟨fun pins s σ H v u Q I r ⟨B, G, ρ, d, h1, h2, h3, h4, h5⟩ => p.run pins s σ H v u Q I r (k B G H σ ρ d v Q h1 h2 h3 h4 h5)⟩
structure FTs (X : Cx) (ca : Cn) (W : WX) (es : List Expr) (f : Ev → R Bool) : Prop where
  ex : PTs X es (tT X.K ca W f)
def tsY : Ev → R Bool := fun _ => .ok true
theorem fts_nil : FTs X ca W [] tsY := ⟨⟨fun pins s σ H Q I ⟨B, G, ρ, h1, h2, h3, h4⟩ => pts_nil.run pins s σ H Q I (h4.here h1)⟩⟩
theorem fts_one (a : FT X ca W e ft) : FTs X ca W [e] ft := ⟨pts_one a.can⟩
end
def wipeE (ρ : Ev) : List Nat → Ev
  | [] => ρ
  | v :: vs => (wipeE ρ vs).set v .no
def R.quiet {α : Type} (r : R α) : R α := match r with
  | .ok a => .ok a
  | _ => .bad
@[simp] theorem quiet_ok {α : Type} (a : α) : R.quiet (.ok a) = .ok a := (rfl)
@[simp] theorem quiet_bad {α : Type} : R.quiet (.bad : R α) = .bad := (rfl)
def lcL (h : Tg) (t : Ev → R Bool) (fe : Ev → R D) (ρ : Ev) : List D → R (List D)
  | [] => .ok []
  | d :: ds => (optR (h d ρ)).bind fun ρ1 => (t ρ1).quiet.bind fun b => if b = true then (fe ρ1).quiet.bind fun y => (lcL h t fe ρ ds).bind fun r => .ok (y :: r) else lcL h t fe ρ ds
def eLc (zs : List Nat) (fi : Ev → R (List D)) (h : Tg) (t : Ev → R Bool) (fe : Ev → R D) : Ev → R D := fun ρ => (fi ρ).bind fun ds => if ds.length ≤ sizeLine then (lcL h t fe (wipeE ρ zs) ds).bind fun rs => .ok (.lst rs) else .bad
section
variable {K : PySem.W.Frag} {ca : Cn} {B G H : Hp} {σ : L2.St} {ρ : Ev}
theorem Rel.unset (r : Rel K ca B G H σ ρ) (i : Nat) : Rel K ca B G H (σ.set i none) (ρ.set i .no) where
  len := by rw [List.length_set, List.length_set]; exact r.len
  val := fun j d q => by
    rcases getElem?_set' q with ⟨rfl, z⟩ | ⟨ne, q⟩
    · cases z
    · obtain ⟨v, h1, h2⟩ := r.val j d q
      exact ⟨v, by rw [List.getElem?_set_ne (Ne.symm ne)]; exact h1, h2⟩
  own := fun j s q ho => by
    rcases getElem?_set' q with ⟨rfl, z⟩ | ⟨ne, q⟩
    · rw [z] at ho; cases ho
    · obtain ⟨a, h1, h2⟩ := r.own j s q ho
      exact ⟨a, by rw [List.getElem?_set_ne (Ne.symm ne)]; exact h1, h2⟩
  sep := fun j k s t a qj oj qk ok hj hk => by
    rcases getElem?_set' qj with ⟨rfl, z⟩ | ⟨nj, qj⟩
    · rw [z] at oj; cases oj
    · rcases getElem?_set' qk with ⟨rfl, z⟩ | ⟨nk, qk⟩
      · rw [z] at ok; cases ok
      · rw [List.getElem?_set_ne (Ne.symm nj)] at hj
        rw [List.getElem?_set_ne (Ne.symm nk)] at hk
        exact r.sep j k s t a qj oj qk ok hj hk
theorem Rel.wipe (r : Rel K ca B G H σ ρ) : ∀ zs : List Nat, Rel K ca B G H (L2.wipe σ zs) (wipeE ρ zs)
  | [] => r
  | z :: zs => (Rel.wipe r zs).unset z
end
theorem wipe_sub {σ : L2.St} {zs : List Nat} : ∀ ys : List Nat, (∀ i ∈ ys, i ∈ zs) → L2.wipe (L2.wipe σ ys) zs = L2.wipe σ zs
  | [], _ => rfl
  | y :: ys, h => by
    show L2.wipe ((L2.wipe σ ys).set y none) zs = _
    rw [wipe_set (h y List.mem_cons_self), wipe_sub ys fun i m => h i (List.mem_cons_of_mem _ m)]
theorem wipe_idem (σ : L2.St) (zs : List Nat) : L2.wipe (L2.wipe σ zs) zs = L2.wipe σ zs := wipe_sub zs fun _ h => h
theorem wish_quiet {ca : Cn} {α β : Type} {K : PySem.W.Frag} {S : Hp → β → Hp → Prop} {G H : Hp} {r : R α} {k : α → R β} {W1 : XK} (h : Wish K ca S G H (r.quiet.bind k) W1) : ∃ x, r = .ok x ∧ Wish K ca S G H (k x) W1 := by
  cases r with
  | ok x => exact ⟨x, rfl, h⟩
  | exc x => exact h.elim
  | bad => exact h.elim
/-- what is known at turn i of the comprehension that fills D -/
def LcW (K : PySem.W.Frag) (ca : Cn) (h : Tg) (t : Ev → R Bool) (fe : Ev → R D) (ρw : Ev) (D : Addr) (ds : List Tk.D) (B G1 H1 : Hp) (σw : L2.St) (W1 : XK) (Q : VK) (i : Nat) (H : Hp) : Prop :=
  ∃ G acc vs, Ext G1 H1 G H ∧ G D = none ∧ H D = some (.lst vs) ∧ AtL K ca G acc vs ∧ acc.length ≤ i ∧ Same B H ∧ Rel K ca B G H σw ρw ∧
    Wish K ca (SV K ca Q) G1 H1 ((lcL h t fe ρw (ds.drop i)).bind fun rs => .ok (.lst (acc ++ rs))) W1
section
variable {X : Cx} {ca : Cn} {W : WX} {zs : List Nat} {elt tg iter : Expr} {ifs : List Expr} {scope : Scope} {own : List (Str × Nat)} {pos : Pos} {fi : Ev → R (List D)} {h : Tg} {ft : Ev → R Bool} {fe : Ev → R D}
theorem lc_tail {tl : TI} (ki : ∀ B G H σ ρ (Q : It → Hp → Prop), Same G H → Same B H → Rel X.K ca B G H σ ρ → Wish X.K ca (fun G' ds H' => ∀ J, JOk X.K ca G' J ds → Q J H') G H (fi ρ) (WE W σ) → tl σ H Q)
    (B G H : Hp) (σ : L2.St) (ρ : Ev) (Q : VK) (s : Same G H) (b : Same B H) (r : Rel X.K ca B G H σ ρ) (w : Wish X.K ca (SV X.K ca Q) G H (eLc zs fi h ft fe ρ) (WE W σ)) :
    tLc tl (tGc X.K ca zs h) (tT X.K ca W0 ft) (tE X.K ca W0 fe) zs σ H Q := by
  refine ki B G H σ ρ _ s b r (Wish.bind w fun ds G1 H1 _ x1 w1 J hj => ?_)
  intro D hD
  split at w1
  rename_i hlen
  have gD : G1 D = none := same_none x1.gh hD
  have b1 := b.trans x1.hh
  have r1 := (r.ext x1).wipe zs
  have e0 : Ext G1 H1 G1 (upd H1 D (.lst [])) := ⟨same_upd hD, .refl _, x1.gh.trans (same_upd hD), fun a z => .inl z⟩
  refine ⟨fun i m H => m = ds.length - i ∧ i ≤ ds.length ∧ LcW X.K ca h ft fe (wipeE ρ zs) D ds B G1 H1 (L2.wipe σ zs) (WE W σ) Q i H, ⟨_, rfl, Nat.zero_le _, G1, [], [], e0, gD, upd_same, rfl, Nat.le_refl _, b1.trans e0.hh, r1.ext e0, by rw [List.drop_zero]; exact w1⟩, ?_⟩
  rintro i m H2 ⟨rfl, hi, G2, acc, vs, e2, g2, d2, a2, l2, b2, r2, w2⟩
  obtain ⟨j1, j2⟩ := hj G2 H2 e2.gg e2.gh i
  by_cases hlt : i < ds.length
  · rw [List.drop_eq_getElem_cons hlt] at w2
    obtain ⟨go, yl⟩ := j1 ds[i] (by simp [hlt])
    refine .inr ⟨go, fun H' => LcW X.K ca h ft fe (wipeE ρ zs) D ds B G1 H1 (L2.wipe σ zs) (WE W σ) Q (i + 1) H', fun H' q => ⟨ds.length - (i + 1), by omega, rfl, hlt, q⟩, fun x H3 yy => ?_⟩
    obtain ⟨G3, x3, a3⟩ := yl x H3 yy
    have r3 := r2.ext x3
    have b3 := b2.trans x3.hh
    -- what stays of the new list, wherever the block's own expressions lay things
    have stay : ∀ {G4 H4 : Hp}, Ext G3 H3 G4 H4 → G4 D = none ∧ H4 D = some (.lst vs) ∧ AtL X.K ca G4 acc vs ∧ Ext G1 H1 G4 H4 ∧ Same B H4 ∧ Rel X.K ca B G4 H4 (L2.wipe σ zs) (wipeE ρ zs) := fun {G4 H4} x4 => by
      have x5 := x3.trans x4
      refine ⟨?_, x5.hh _ _ d2, AtL.mono x5.gg a2, e2.trans x5, b2.trans x5.hh, r2.ext x5⟩
      cases q : G4 D with
      | none => rfl
      | some u =>
        rcases x5.nw D (by rw [q]; simp) with z | z
        · exact absurd g2 z
        · rw [d2] at z; cases z
    have w3 : Wish X.K ca (SV X.K ca Q) G1 H1 (((optR (h ds[i] (wipeE ρ zs))).bind fun ρ1 => (ft ρ1).quiet.bind fun b => if b = true then (fe ρ1).quiet.bind fun y => (lcL h ft fe (wipeE ρ zs) (ds.drop (i + 1))).bind fun r => .ok (y :: r) else lcL h ft fe (wipeE ρ zs) (ds.drop (i + 1))).bind fun rs => .ok (.lst (acc ++ rs))) (WE W σ) := w2
    cases z1 : h ds[i] (wipeE ρ zs) with
    | none => rw [z1] at w3; exact w3.elim
    | some ρ1 =>
      rw [z1] at w3
      refine ⟨B, G3, wipeE ρ zs, ds[i], x3.gh, b3, r3, a3, ρ1, z1, fun σ4 r4 e4 => ⟨e4.trans (wipe_idem σ zs), B, G3, ρ1, x3.gh, b3, r4, ?_⟩⟩
      cases z2 : ft ρ1 with
      | exc x => simp only [optR_some, bind_ok, z2] at w3; exact w3.elim
      | bad => simp only [optR_some, bind_ok, z2] at w3; exact w3.elim
      | ok bb =>
        simp only [optR_some, bind_ok, z2, quiet_ok] at w3
        intro G5 H5 x5
        show if bb = true then _ else _
        cases bb with
        | false =>
          rw [if_neg Bool.false_ne_true] at w3 ⊢
          obtain ⟨s1, s2, s3, s4, s5, s6⟩ := stay x5
          exact ⟨G5, acc, vs, s4, s1, s2, s3, by omega, s5, s6, w3⟩
        | true =>
          rw [if_pos rfl] at w3 ⊢
          refine ⟨B, G5, ρ1, x5.gh, b3.trans x5.hh, r4.ext x5, ?_⟩
          cases z3 : fe ρ1 with
          | exc x => simp only [z3] at w3; exact w3.elim
          | bad => simp only [z3] at w3; exact w3.elim
          | ok y =>
            simp only [z3, quiet_ok, bind_ok] at w3
            intro G6 H6 x6 v av
            obtain ⟨s1, s2, s3, s4, s5, s6⟩ := stay (x5.trans x6)
            have hl := s3.length
            refine ⟨vs, s2, by omega, G6, acc ++ [y], vs ++ [v], ?_, s1, upd_same, s3.append (.one av), by rw [List.length_append]; exact Nat.succ_le_succ l2, ?_, ?_, ?_⟩
            · -- the list's own place is the only one that turned
              have nD : ∀ c o, H1 c = some o → c ≠ D := fun c o q z => by rw [z, hD] at q; cases q
              have nG : ∀ c o, G6 c = some o → c ≠ D := fun c o q z => by rw [z, s1] at q; cases q
              exact ⟨fun c o q => by rw [upd_ne (nD c o q)]; exact s4.hh c o q, s4.gg, fun c o q => by rw [upd_ne (nG c o q)]; exact s4.gh c o q, s4.nw⟩
            · have nB : ∀ c o, B c = some o → c ≠ D := fun c o q z => by
                have := b1 c o q
                rw [z, hD] at this
                cases this
              exact fun c o q => by rw [upd_ne (nB c o q)]; exact s5 c o q
            · refine ⟨s6.len, s6.val, fun k s' q ho => ?_, s6.sep⟩
              obtain ⟨a', t1, t2, t3, t4⟩ := s6.own k s' q ho
              refine ⟨a', t1, t2.ext (.refl _) ?_, t3, t4⟩
              -- an own object of the frame stood ahead of the new list
              obtain ⟨a0, u1, u2, u3, u4⟩ := r1.own k s' q ho
              rw [t1] at u1
              cases u1
              obtain ⟨o, u5⟩ := u2.some
              rw [upd_ne (fun z => by rw [z, hD] at u5; cases u5)]
            · cases z4 : lcL h ft fe (wipeE ρ zs) (ds.drop (i + 1)) with
              | ok rs =>
                rw [z4] at w3
                rw [bind_ok, List.append_assoc]
                exact w3
              | exc x => rw [z4] at w3; exact w3
              | bad => rw [z4] at w3; exact w3
  · have e : i = ds.length := by omega
    subst e
    rw [List.drop_length] at w2
    have w3 : Wish X.K ca (SV X.K ca Q) G1 H1 (.ok (.lst (acc ++ []))) (WE W σ) := w2
    rw [List.append_nil] at w3
    refine .inl ⟨j2 rfl, w3 (upd G2 D (.lst vs)) H2 ⟨e2.hh, e2.gg.trans (same_upd g2), fun c o q => ?_, fun c q => ?_⟩ (.ref D) ⟨D, vs, rfl, upd_same, AtL.mono (same_upd g2) a2⟩⟩
    · by_cases z : c = D
      · subst z; rw [upd_same] at q; cases q; exact d2
      · rw [upd_ne z] at q; exact e2.gh c o q
    · by_cases z : c = D
      · subst z; exact .inr hD
      · rw [upd_ne z] at q; exact e2.nw c q
  · exact w1.elim
theorem fe_lc (hc : X.calm = true) (hN : X.N.Nodup) (hi : FI X ca W tg iter fi) (ok : BlkOk X.N X.env.scope scope own)
    (hg : ∀ (s : Shared) (H : Hp) (C : Addr) (cl : List (Str × Addr)) (fp : List Addr), FG (X.blk s H scope (compEnvC scope cl C X.env) fp) ca (own.map (·.2)) tg h) (ht : ∀ (s : Shared) (H : Hp) (C : Addr) (cl : List (Str × Addr)) (fp : List Addr), FTs (X.blk s H scope (compEnvC scope cl C X.env) fp) ca W0 ifs ft)
    (he : ∀ (s : Shared) (H : Hp) (C : Addr) (cl : List (Str × Addr)) (fp : List Addr), FE (X.blk s H scope (compEnvC scope cl C X.env) fp) ca W0 elt fe) (hs : ∀ x, foldedSetIterable iter X.env x = pure x := by intro _; rfl) :
    FE X ca W (.ListComp elt [⟨tg, iter, ifs, 0⟩] scope pos) (eLc (own.map (·.2)) fi h ft fe) := by
  obtain ⟨tl, pl, ki⟩ := hi.ex
  refine ⟨_, pe_lc (g := tGc X.K ca (own.map (·.2)) h) (tt := tT X.K ca W0 ft) (te := tE X.K ca W0 fe) hc hN pl ok (fun s H C cl fp => (hg s H C cl fp).can) (fun s H C cl fp => (ht s H C cl fp).ex) (fun s H C cl fp => (he s H C cl fp).can) hs, fun B G H σ ρ Q s b r w => ?_⟩
  exact lc_tail ki B G H σ ρ Q s b r w
/-- name = [..] -/
theorem fs_setLc {i : Nat} {y : Str} {py spos : Pos} (hc : X.calm = true) (hN : X.N.Nodup) (hy : X.N[i]? = some y) (hyl : X.env.scope.names.lookup y = some .local) (hsw : swapsWith (.ListComp elt [⟨tg, iter, ifs, 0⟩] scope pos) (some (.Name y py)) spos.line X.env = pure true)
    (hi : FI X ca W tg iter fi) (ok : BlkOk X.N X.env.scope scope own)
    (hg : ∀ (s : Shared) (H : Hp) (C : Addr) (cl : List (Str × Addr)) (fp : List Addr), FG (X.blk s H scope (compEnvC scope cl C X.env) fp) ca (own.map (·.2)) tg h) (ht : ∀ (s : Shared) (H : Hp) (C : Addr) (cl : List (Str × Addr)) (fp : List Addr), FTs (X.blk s H scope (compEnvC scope cl C X.env) fp) ca W0 ifs ft)
    (he : ∀ (s : Shared) (H : Hp) (C : Addr) (cl : List (Str × Addr)) (fp : List Addr), FE (X.blk s H scope (compEnvC scope cl C X.env) fp) ca W0 elt fe) (hs : ∀ x, foldedSetIterable iter X.env x = pure x := by intro _; rfl) :
    FS X ca W (.Assign [.Name y py] (.ListComp elt [⟨tg, iter, ifs, 0⟩] scope pos) spos) (sSet i (eLc (own.map (·.2)) fi h ft fe)) := by
  obtain ⟨tl, pl, ki⟩ := hi.ex
  refine ⟨_, ps_setLc (g := tGc X.K ca (own.map (·.2)) h) (tt := tT X.K ca W0 ft) (te := tE X.K ca W0 fe) hc hN hy hyl hsw pl ok (fun s H C cl fp => (hg s H C cl fp).can) (fun s H C cl fp => (ht s H C cl fp).ex) (fun s H C cl fp => (he s H C cl fp).can) hs, fun B G H σ ρ D s b r w => ?_⟩
  refine lc_tail ki B G H σ ρ _ s b r ?_
  exact WishS.from w b r fun a G1 H1 _ x w1 r1 b1 v av => w1 _ G1 H1 (.refl x.gh b1) (r1.set i av)
end
end Tk

namespace Tk
open PySem PySem.Spec L2 PyProof.Rows
/-! ### own objects: freezing, lending -/
def frzS : Sl → Sl
  | .l xs => .v (.lst xs)
  | .k xs => .v (.dK xs)
  | .t xs => .v (.dT xs)
  | .o c fs => .v (.ins c fs)
  | s => s
def frzA (ρ : Ev) : Ev := ρ.map frzS
def frzE (i : Nat) (ρ : Ev) : Ev := match ρ[i]? with
  | some s => ρ.set i (frzS s)
  | none => ρ
def sFrz (i : Nat) (g : Ev → SO) : Ev → SO := fun ρ => g (frzE i ρ)
def scalD : D → Bool
  | .non => true
  | .bl _ => true
  | .int _ => true
  | .str _ => true
  | _ => false
def eBor (f : Ev → R D) : Ev → R D := fun ρ => (f (frzA ρ)).quiet.bind fun d => if scalD d = true then .ok d else .bad
def tBor (f : Ev → R Bool) : Ev → R Bool := fun ρ => (f (frzA ρ)).quiet
section
variable {K : PySem.W.Frag} {ca : Cn} {B G H G' H' : Hp} {σ : L2.St} {ρ : Ev}
theorem Own.at_ {a : Addr} {s : Sl} (h : Own K ca G H a s) (sg : Same G G') (e : G' a = H a) : ∃ d, frzS s = .v d ∧ At K ca G' d (.ref a) := by
  cases s with
  | no => exact h.elim
  | v d => exact h.elim
  | l xs => obtain ⟨vs, h1, h2⟩ := h; exact ⟨_, rfl, a, vs, rfl, e.trans h1, AtL.mono sg h2⟩
  | k xs => obtain ⟨vs, h1, h2⟩ := h; exact ⟨_, rfl, a, vs, rfl, e.trans h1, AtK.mono sg h2⟩
  | t xs => obtain ⟨vs, h1, h2⟩ := h; exact ⟨_, rfl, a, vs, rfl, e.trans h1, AtT.mono sg h2⟩
  | o c fs => obtain ⟨C, dx, vs, h0, h1, h2⟩ := h; exact ⟨_, rfl, a, C, dx, vs, rfl, h0, e.trans h1, AtF.mono sg h2⟩
theorem frz_not_own (s : Sl) : (frzS s).own = false := by cases s <;> rfl
theorem frz_v {s : Sl} (h : s.own = false) : frzS s = s := by cases s <;> first | rfl | cases h
theorem Rel.frzA (r : Rel K ca B G H σ ρ) (s : Same G H) : Rel K ca B H H σ (frzA ρ) := by
  have no : ∀ (i : Nat) (t : Sl), (Tk.frzA ρ)[i]? = some t → t.own = true → False := fun i t q o => by
    unfold Tk.frzA at q
    rw [List.getElem?_map] at q
    obtain ⟨u, _, q2⟩ := Option.map_eq_some_iff.mp q
    rw [← q2, frz_not_own] at o
    cases o
  refine ⟨by unfold Tk.frzA; rw [List.length_map]; exact r.len, fun i d q => ?_, fun i t q o => (no i t q o).elim, fun i j t u a q o => (no i t q o).elim⟩
  unfold Tk.frzA at q
  rw [List.getElem?_map] at q
  obtain ⟨u, q1, q2⟩ := Option.map_eq_some_iff.mp q
  cases o : u.own with
  | false =>
    rw [frz_v o] at q2
    subst q2
    obtain ⟨v, h1, h2⟩ := r.val i d q1
    exact ⟨v, h1, At.mono s h2⟩
  | true =>
    obtain ⟨a, h1, h2, h3, h4⟩ := r.own i u q1 o
    obtain ⟨d', e1, e2⟩ := h2.at_ s rfl
    rw [e1] at q2
    cases q2
    exact ⟨_, h1, e2⟩
theorem scal_at {d : D} {v : V} (h : scalD d = true) (a : At K ca G d v) : At K ca G' d v := by
  cases d with
  | non => exact a
  | bl _ => exact a
  | int _ => exact a
  | str _ => exact a
  | _ => cases h
theorem set_same {i : Nat} {s : Sl} (h : ρ[i]? = some s) : ρ.set i s = ρ := by
  apply List.ext_getElem?
  intro j
  by_cases e : i = j
  · subst e
    rw [List.getElem?_set_self (List.getElem?_eq_some_iff.mp h).1, h]
  · rw [List.getElem?_set_ne e]
/-- one slot's object is frozen -/
theorem Rel.frz (r : Rel K ca B G H σ ρ) (s : Same G H) (b : Same B H) (i : Nat) : ∃ G', Adv B G G' H ∧ Rel K ca B G' H σ (frzE i ρ) := by
  unfold frzE
  split
  · rename_i t q
    cases o : t.own with
    | false =>
      rw [frz_v o, set_same q]
      exact ⟨G, .refl s b, r⟩
    | true =>
      obtain ⟨a, h1, h2, h3, h4⟩ := r.own i t q o
      obtain ⟨ob, h5⟩ := h2.some
      have gg : Same G (upd G a ob) := same_upd h3
      have gh : Same (upd G a ob) H := fun c u e => by
        by_cases z : c = a
        · subst z; rw [upd_same] at e; rw [h5]; exact e
        · rw [upd_ne z] at e; exact s c u e
      obtain ⟨d', e1, e2⟩ := h2.at_ gg (show upd G a ob a = H a by rw [upd_same, h5])
      refine ⟨upd G a ob, ⟨gg, gh, b, fun c n => ?_⟩, ?_⟩
      · by_cases z : c = a
        · subst z; exact .inr h4
        · rw [upd_ne z] at n; exact .inl n
      · rw [e1]
        refine ⟨by rw [List.length_set]; exact r.len, fun j d w => ?_, fun j u w o' => ?_, fun j k u u' c w o' w' o'' x y => ?_⟩
        · rcases getElem?_set' w with ⟨rfl, z⟩ | ⟨ne, w⟩
          · cases z; exact ⟨_, h1, e2⟩
          · obtain ⟨v, t1, t2⟩ := r.val j d w
            exact ⟨v, t1, At.mono gg t2⟩
        · rcases getElem?_set' w with ⟨rfl, z⟩ | ⟨ne, w⟩
          · rw [z] at o'; cases o'
          · obtain ⟨c, t1, t2, t3, t4⟩ := r.own j u w o'
            refine ⟨c, t1, t2.ext gg rfl, ?_, t4⟩
            rw [upd_ne fun z => ne (r.sep j i u t a w o' q o (by rw [← z]; exact t1) h1)]
            exact t3
        · rcases getElem?_set' w with ⟨rfl, z⟩ | ⟨nj, w⟩
          · rw [z] at o'; cases o'
          · rcases getElem?_set' w' with ⟨rfl, z⟩ | ⟨nk, w'⟩
            · rw [z] at o''; cases o''
            · exact r.sep j k u u' c w o' w' o'' x y
  · exact ⟨G, .refl s b, r⟩
/-- one slot's own object is changed -/
theorem Rel.turn (r : Rel K ca B G H σ ρ) (s : Same G H) (b : Same B H) {i : Nat} {t t' : Sl} {a : Addr} {o : HO} (q : ρ[i]? = some t) (ot : t.own = true) (ot' : t'.own = true) (ha : σ[i]? = some (some (.ref a))) (h : Own K ca G (upd H a o) a t') :
    Rel K ca B G (upd H a o) σ (ρ.set i t') ∧ Same G (upd H a o) ∧ Same B (upd H a o) := by
  obtain ⟨a', h1, h2, h3, h4⟩ := r.own i t q ot
  rw [ha] at h1
  cases h1
  refine ⟨⟨by rw [List.length_set]; exact r.len, fun j d w => ?_, fun j u w o' => ?_, fun j k u u' c w o' w' o'' x y => ?_⟩, fun c u e => ?_, fun c u e => ?_⟩
  · rcases getElem?_set' w with ⟨rfl, z⟩ | ⟨ne, w⟩
    · rw [← z] at ot'; cases ot'
    · exact r.val j d w
  · rcases getElem?_set' w with ⟨rfl, z⟩ | ⟨ne, w⟩
    · subst z; exact ⟨a, ha, h, h3, h4⟩
    · obtain ⟨c, t1, t2, t3, t4⟩ := r.own j u w o'
      refine ⟨c, t1, t2.ext (.refl _) ?_, t3, t4⟩
      rw [upd_ne fun z => ne (r.sep j i u t a w o' q ot (by rw [← z]; exact t1) ha)]
  · have up : ∀ {j : Nat} {u : Sl}, (ρ.set i t')[j]? = some u → u.own = true → ∃ u0, ρ[j]? = some u0 ∧ u0.own = true := fun {j u} w o' => by
      rcases getElem?_set' w with ⟨rfl, z⟩ | ⟨ne, w⟩
      · exact ⟨t, q, ot⟩
      · exact ⟨u, w, o'⟩
    obtain ⟨u0, z1, z2⟩ := up w o'
    obtain ⟨u1, z3, z4⟩ := up w' o''
    exact r.sep j k u0 u1 c z1 z2 z3 z4 x y
  · rw [upd_ne fun z => by rw [z, h3] at e; cases e]; exact s c u e
  · rw [upd_ne fun z => by rw [z, h4] at e; cases e]; exact b c u e
end
section
variable {X : Cx} {ca : Cn} {W : WX} {e : Expr} {st : Stmt} {sts : List Stmt} {f : Ev → R D} {ft : Ev → R Bool} {g : Ev → SO} {pos : Pos}
theorem fs_frz (i : Nat) (h : FS X ca W st g) : FS X ca W st (sFrz i g) := by
  obtain ⟨t, p, k⟩ := h.ex
  refine ⟨t, p, fun B G H σ ρ D s b r w => ?_⟩
  obtain ⟨G', a, r'⟩ := r.frz s b i
  exact k B G' H σ _ D a.gh b r' (WishS.mono w a)
theorem fe_bor (h : FE X ca W e f) : FE X ca W e (eBor f) := by
  obtain ⟨t, p, k⟩ := h.ex
  refine ⟨t, p, fun B G H σ ρ Q s b r w => k B H H σ _ Q (.refl H) b (r.frzA s) ?_⟩
  obtain ⟨d, e1, w⟩ := wish_quiet w
  rw [e1]
  split at w
  · rename_i hs
    intro G' H' x v a
    exact w G H' ⟨x.hh, .refl _, s.trans x.hh, fun c z => .inl z⟩ v (scal_at hs a)
  · exact w.elim
theorem ft_bor (h : FT X ca W e ft) : FT X ca W e (tBor ft) := by
  obtain ⟨t, p, k⟩ := h.ex
  refine ⟨t, p, fun B G H σ ρ Q s b r w => k B H H σ _ Q (.refl H) b (r.frzA s) ?_⟩
  unfold tBor at w
  cases z : ft (frzA ρ) with
  | ok d =>
    rw [z] at w
    intro G' H' x
    exact w G H' ⟨x.hh, .refl _, s.trans x.hh, fun c z => .inl z⟩
  | exc x => rw [z] at w; exact w.elim
  | bad => rw [z] at w; exact w.elim
end
/-! ### new lists that stay the frame's own -/
def WishF (K : PySem.W.Frag) (ca : Cn) (G H : Hp) (r : R (List D)) (Q : VK) (W1 : XK) : Prop := Wish K ca (fun G' ds H' => ∀ p vs, H p = none → G' p = none → H' p = some (.lst vs) → AtL K ca G' ds vs → Q (.ref p) H') G H r W1
structure FL (X : Cx) (ca : Cn) (W : WX) (e : Expr) (f : Ev → R (List D)) : Prop where
  ex : ∃ t, PE X e t ∧ ∀ B G H σ ρ Q, Same G H → Same B H → Rel X.K ca B G H σ ρ → WishF X.K ca G H (f ρ) Q (WE W σ) → t σ H Q
def lDisp (fl : Ev → R (List D)) : Ev → R (List D) := fun ρ => (fl ρ).bind fun ds => if ds.length ≤ sizeLine then .ok ds else .bad
def lList (f : Ev → R D) : Ev → R (List D) := fun ρ => (f ρ).bind fun d => match d with
  | .lst xs => .ok xs
  | .tup xs => .ok xs
  | .scr ns => .ok (ns.map .int)
  | _ => .bad
def sOwn (i : Nat) (f : Ev → R (List D)) : Ev → SO := fun ρ => SO.from ρ (f ρ) fun ds => .nx (ρ.set i (.l ds))
def ownL (ρ : Ev) (i : Nat) : R (List D) := match ρ[i]? with
  | some (.l xs) => .ok xs
  | _ => .bad
def sApp (i : Nat) (f : Ev → R D) : Ev → SO := fun ρ => SO.from ρ (ownL ρ i) fun xs => SO.from ρ (f ρ) fun d => if xs.length < sizeLine then .nx (ρ.set i (.l (xs ++ [d]))) else .bad
section
variable {X : Cx} {ca : Cn} {W : WX} {e o : Expr} {es : List Expr} {f : Ev → R D} {fl : Ev → R (List D)} {pos apos cpos p : Pos}
theorem own_l {K : PySem.W.Frag} {B G H : Hp} {σ : L2.St} {ρ : Ev} {i : Nat} {xs : List D} (h : ownL ρ i = .ok xs) (r : Rel K ca B G H σ ρ) : ρ[i]? = some (.l xs) ∧ ∃ a vs, σ[i]? = some (some (.ref a)) ∧ H a = some (.lst vs) ∧ AtL K ca G xs vs ∧ G a = none ∧ B a = none := by
  unfold ownL at h
  split at h
  · rename_i ys q
    cases h
    obtain ⟨a, h1, ⟨vs, h2, h3⟩, h4, h5⟩ := r.own i _ q rfl
    exact ⟨q, a, vs, h1, h2, h3, h4, h5⟩
  · cases h
theorem fl_lst (h : FA X ca W es fl) : FL X ca W (.List es pos) (lDisp fl) := by
  obtain ⟨t, p, k⟩ := h.ex
  refine ⟨_, pe_lst p, fun B G H σ ρ Q s b r h => ?_⟩
  refine k B G H σ ρ _ s b r (Wish.bind (S := fun G' ds H' => ∀ p vs, H p = none → G' p = none → H' p = some (.lst vs) → AtL X.K ca G' ds vs → Q (.ref p) H') h fun ds G1 H1 _ x1 w1 vs a1 => ?_)
  split at w1
  · rename_i z
    refine ⟨by rw [← a1.length]; exact z, fun q n => w1 G1 (upd H1 q (.lst vs)) ⟨same_upd n, .refl _, x1.gh.trans (same_upd n), fun c z => .inl z⟩ q vs (same_none x1.hh n) (same_none x1.gh n) upd_same a1⟩
  · exact w1.elim
theorem fl_list {x : Str} (hg : Gl X x) (hm : X.mg x = none) (hv : bootBuiltins x = some (.type "list")) (h : FE X ca W e f) (hn : x ≠ "__name__" := by decide) (hd : (x == ("__debug__" : Str)) = false := by decide)
    (he : starEach [e] X.env = (false, eval e X.env) :: starEach [] X.env := by rfl) (hpl : (backTo pos (starEach [] X.env)).any (·.1) = false := by rfl) : FL X ca W (.Call (.Name x p) [e] [] pos) (lList f) := by
  obtain ⟨t, pp, k⟩ := h.ex
  refine ⟨_, pe_callTy call_list_of hg hm hv (pa_cons pp pa_nil he) hn hd he hpl, fun B G H σ ρ Q s b r h => ?_⟩
  refine k B G H σ ρ _ s b r (Wish.bind (S := fun G' ds H' => ∀ p vs, H p = none → G' p = none → H' p = some (.lst vs) → AtL X.K ca G' ds vs → Q (.ref p) H') h fun d G1 H1 _ x1 w1 v a1 => ?_)
  have fin : ∀ {xs : List D} {vs : List V}, Wish X.K ca (fun G' ds H' => ∀ p vs, H p = none → G' p = none → H' p = some (.lst vs) → AtL X.K ca G' ds vs → Q (.ref p) H') G1 H1 (.ok xs) (WE W σ) → AtL X.K ca G1 xs vs → ∀ l, H1 l = none → Q (.ref l) (upd H1 l (.lst vs)) :=
    fun w a l n => w G1 _ ⟨same_upd n, .refl _, x1.gh.trans (same_upd n), fun c z => .inl z⟩ l _ (same_none x1.hh n) (same_none x1.gh n) upd_same a
  cases d with
  | lst xs =>
    obtain ⟨q, vs, rfl, h1, h2⟩ := a1
    exact ⟨q, vs, rfl, .inl (.of (x1.gh _ _ h1)), fin w1 h2⟩
  | tup xs =>
    obtain ⟨q, vs, rfl, h1, h2⟩ := a1
    exact ⟨q, vs, rfl, .inr (tq x1.gh h1), fin w1 h2⟩
  | scr ns =>
    obtain ⟨q, rfl, h1⟩ := a1
    exact ⟨q, _, rfl, .inl (SqL_mono x1.gh h1), fin w1 (AtL.of_ints _)⟩
  | _ => exact w1.elim
theorem fs_own {i : Nat} {y : Str} {pos' : Pos} (hN : X.N.Nodup) (hi : X.N[i]? = some y) (h : FL X ca W e fl) (hx : Loc X.env.scope y := by first | exact .inl rfl | exact .inr rfl) (hs : swapsWith e (some (.Name y pos')) pos.line X.env = pure false := by rfl)
    (hf : X.fn y = true ∨ X.env.scope.names.lookup y = some .local := by first | exact .inl rfl | exact .inr rfl | assumption) : FS X ca W (.Assign [.Name y pos'] e pos) (sOwn i fl) := by
  obtain ⟨t, p, kt⟩ := h.ex
  refine ⟨_, ps_set hN hi hx p hs hf, fun B G H σ ρ D s b r h => kt B G H σ ρ _ s b r ?_⟩
  refine WishS.from h b r fun ds G1 H1 _ x w r1 b1 q vs n g hq av => w _ G1 H1 (.refl x.gh b1) ?_
  refine r1.setOwn i rfl ⟨vs, hq, av⟩ g (same_none b n) fun j t' _ q' o' z => ?_
  obtain ⟨a, h1, h2, h3, h4⟩ := r.own j t' q' o'
  rw [z] at h1
  cases h1
  obtain ⟨ob, h5⟩ := h2.some
  rw [n] at h5
  cases h5
/-- x.append(e), x an own list -/
theorem fs_app {i : Nat} {y : Str} {py : Pos} (hi : X.N[i]? = some y) (h : FE X ca W e f) (hv : Vis X.env.scope y := by first | exact Or.inl rfl | exact Or.inr (Or.inl rfl) | exact Or.inr (Or.inr rfl)) (hd : (y == ("__debug__" : Str)) = false := by decide) (hcd : (y == ("__classdict__" : Str)) = false := by decide)
    (he : starEach [e] X.env = (false, eval e X.env) :: starEach [] X.env := by rfl) (hb : attributeBase (.Name y py) "append" X.env (eval (.Name y py) X.env) = eval (.Name y py) X.env := by rfl) (hw : ((backTo cpos (starEach [e] X.env)).all (fun x => !x.1) && (backToKw cpos (keywordEach [] X.env)).all (fun x => x.1.isSome) && decide ([e].length + ([] : List Keyword).length + (if ([] : List Keyword).isEmpty then 0 else 1) < 30)) = true := by rfl)
    (hl : (apos.endLine == cpos.line) = true := by rfl) (hpl : (backTo cpos (starEach [] X.env)).any (·.1) = false := by rfl)
    (hs : swapsWith (.Call (.Attribute (.Name y py) "append" apos) [e] [] cpos) none pos.line X.env = pure false := by rfl) : FS X ca W (.Expr (.Call (.Attribute (.Name y py) "append" apos) [e] [] cpos) pos) (sApp i f) := by
  obtain ⟨t, p, k⟩ := h.ex
  refine ⟨_, ps_expr (pe_bm PySem.F.plainAttrs_list PySem.F.slot_list_append PySem.F.type_list_append mt_append (pe_var hi hv hd hcd) (pa_cons p pa_nil he) hb hw hl he hpl) hs, fun B G H σ ρ D s b r h => ?_⟩
  unfold sApp at h
  cases z : ownL ρ i with
  | ok xs =>
    rw [z] at h
    obtain ⟨q, a, vs, h1, h2, h3, h4, h5⟩ := own_l z r
    refine ⟨_, h1, .inl ⟨rfl, vs, .of h2⟩, k B G H σ ρ _ s b r (WishS.from h b r fun d G1 H1 _ x w r1 b1 v av => ?_)⟩
    split at w
    · rename_i hl
      have l := h3.length
      refine ⟨a, vs, v, rfl, rfl, x.hh _ _ h2, by omega, ?_⟩
      obtain ⟨t1, t2, t3⟩ := r1.turn x.gh b1 (t' := .l (xs ++ [d])) (o := .lst (vs ++ [v])) q rfl rfl h1 ⟨_, upd_same, (AtL.mono x.gg h3).append (.one av)⟩
      exact w _ G1 _ ⟨.refl _, t2, t3, fun c z => .inl z⟩ t1
    · exact w.elim
  | exc x => rw [z] at h; unfold ownL at z; split at z <;> cases z
  | bad => rw [z] at h; exact h.elim
end
end Tk

namespace Tk
open PySem PySem.Spec L2 PyProof.Rows
/-! ### enumerate and zip over lists and tuples alike: b tells a tuple -/
def SqB (b : Bool) (K : PySem.W.Frag) (H : Hp) (a : Addr) (xs : List V) : Prop := match b with
  | false => SqL K H a xs
  | true => SqT K H a xs
def ItB (b : Bool) (h : Heap) (it a : Addr) (i : Nat) : Prop := match b with
  | false => h.IsListIter it a i
  | true => h.IsTupleIter it a i
def IsB (b : Bool) (h : Heap) (a : Addr) (items : Array Value) : Prop := match b with
  | false => h.IsList a items
  | true => h.IsTuple a items
def obB (b : Bool) (a : Addr) : Obj := match b with
  | false => { cls := .type "list_iterator", data := .fields #[.ref a, .int 0 0] }
  | true => { cls := .type "tuple_iterator", data := .fields #[.ref a, .int 0 0] }
theorem beginsB (b : Bool) (a : Addr) (items : Array Value) : Begins (.ref a) (obB b a) (fun h => IsB b h a items) := by
  cases b with
  | false => exact begins_list a items
  | true => exact begins_tuple a items
theorem itB0 {b : Bool} {h : Heap} {it a : Addr} (e : h.get? it = some (obB b a)) : ItB b h it a 0 := by
  cases b with
  | false => exact ⟨_, e, rfl, rfl⟩
  | true => exact ⟨_, e, rfl, rfl⟩
theorem ItB.there {b : Bool} {h : Heap} {it a : Addr} {i : Nat} (x : ItB b h it a i) : ∃ o, h.get? it = some o ∧ ∀ v, o.data ≠ .cell v := by
  cases b with
  | false => obtain ⟨o, e, _, d⟩ := x; exact ⟨o, e, fun v q => by rw [d] at q; cases q⟩
  | true => obtain ⟨o, e, _, d⟩ := x; exact ⟨o, e, fun v q => by rw [d] at q; cases q⟩
theorem ItB.move {b : Bool} {h h' : Heap} {it a : Addr} {i : Nat} (x : ItB b h it a i) (k : ∀ o, h.get? it = some o → h'.get? it = some o) : ItB b h' it a i := by
  cases b with
  | false => exact x.at fun o e => k o e
  | true => exact x.at fun o e => k o e
theorem drawsB {P : Program} {w : World} {A : Around} (hh : A.handled = none) (b : Bool) (it a : Addr) (ne : a ≠ it) (items : Array Value) : Draws P w A it [it, a] items.size (fun i v => items[i]? = some v) (fun i h => ItB b h it a i ∧ IsB b h a items) := by
  cases b with
  | false => exact Draws.list hh it a ne items
  | true => exact Draws.tuple hh it a ne items
section
variable {X : Cx} {pins : List (Addr × Obj)} {σ : L2.St} {H : Hp} {s : Shared} {b : Bool} {a : Addr} {xs ys : List V}
theorem inv_sq (I : Inv X pins σ H s) (q : SqB b X.K H a xs) : ∃ its : List Value, Vals xs its ∧ IsB b s.heap a its.toArray := by
  cases b with
  | false => obtain ⟨its, r, p, _⟩ := I.list q; exact ⟨its, r, p.isList⟩
  | true => obtain ⟨its, r, p, _⟩ := I.tuple q; exact ⟨its, r, p⟩
theorem inv_inj (I : Inv X pins σ H s) (q : SqB b X.K H a xs) (q' : SqB b X.K H a ys) : xs = ys := by
  cases b with
  | false => exact I.list_inj q q'
  | true => exact I.tuple_inj q q'
theorem IsB.lt {h : Heap} {items : Array Value} (x : IsB b h a items) : a < h.objs.size := by
  cases b with
  | false => obtain ⟨o, e, _⟩ := x; exact Heap.lt_size e
  | true => obtain ⟨o, e, _⟩ := x; exact Heap.lt_size e
theorem IsB.move {h h' : Heap} {items : Array Value} (x : IsB b h a items) (k : ∀ o, h.get? a = some o → h'.get? a = some o) : IsB b h' a items := by
  cases b with
  | false => exact x.at fun o e => k o e
  | true => exact x.at fun o e => k o e
/-- where the walked thing stands, none of the iterator's cells does -/
theorem sq_apart (I : Inv X pins σ H s) (q : SqB b X.K H a xs) {c : Addr} (f : FpOk X pins H c) (hc : ∃ o, s.heap.get? c = some o ∧ o.cls ≠ .type "list" ∧ o.cls ≠ .type "tuple") : a ≠ c := by
  intro e
  subst e
  obtain ⟨its, _, ib⟩ := inv_sq I q
  obtain ⟨o, e, n1, n2⟩ := hc
  cases b with
  | false => obtain ⟨o', e', c', _⟩ := ib; rw [e] at e'; cases e'; exact n1 c'
  | true => obtain ⟨o', e', c', _⟩ := ib; rw [e] at e'; cases e'; exact n2 c'
end
/-- a tuple of two that an iterator gave out, as the layer's new object -/
theorem pair_new {P : Program} {w : World} {H : Hp} {h : Heap} {T : Addr} {x y : V} {u v : Value} (ru : RelV x u) (rv : RelV y v) (t : h.IsTuple T #[u, v]) : ObjOk P w (upd H T (.tup [x, y])) h T (.tup [x, y]) := by
  obtain ⟨o, e, c, n, d⟩ := t
  exact ⟨by show 2 ≤ sizeLine; decide, [u, v], .cons ru (.cons rv .nil), o, e, c, n, d⟩
def IteB (b : Bool) (K : PySem.W.Frag) (a : Addr) : It where
  go i H := ∃ xs x, SqB b K H a xs ∧ xs[i]? = some x
  yld i H v H' := ∃ T x, v = .ref T ∧ H T = none ∧ H' = upd H T (.tup [.int (i : Int), x]) ∧ ∀ xs, SqB b K H a xs → xs[i]? = some x
  stop i H := ∃ xs, SqB b K H a xs ∧ xs.length = i
theorem itB_not {b : Bool} {h : Heap} {it a : Addr} {i : Nat} (x : ItB b h it a i) : ∃ o, h.get? it = some o ∧ o.cls ≠ .type "list" ∧ o.cls ≠ .type "tuple" := by
  cases b with
  | false => obtain ⟨o, q, c, _⟩ := x; exact ⟨o, q, by rw [c]; decide +kernel, by rw [c]; decide +kernel⟩
  | true => obtain ⟨o, q, c, _⟩ := x; exact ⟨o, q, by rw [c]; decide +kernel, by rw [c]; decide +kernel⟩
theorem cls_not {h : Heap} {e : Addr} {T : String} {d : Data} {o : Option Addr} {sl : Array (Option Value)} (q : h.get? e = some { cls := .type T, dict := o, data := d, slots := sl }) (h1 : T ≠ "list") (h2 : T ≠ "tuple") : ∃ o, h.get? e = some o ∧ o.cls ≠ .type "list" ∧ o.cls ≠ .type "tuple" :=
  ⟨_, q, ⟨fun z => h1 (Value.type.inj z), fun z => h2 (Value.type.inj z)⟩⟩
theorem turn_enB {P : Program} {w : World} {K : PySem.W.Frag} {elts : List Expr} {kk : Nat} {tpos : Pos} (b : Bool) (a e it : Addr) (hei : e ≠ it) :
    Turn P w K (.Tuple elts kk tpos) (IteB b K a) [e, it] e (fun i h => (∃ old, IsEnum h e it (0 + (i : Int)) old) ∧ ItB b h it a i) where
  mem := List.mem_cons_self
  obj i h st c hc := by
    obtain ⟨⟨old, he⟩, hi⟩ := st
    rcases List.mem_cons.mp hc with z | hc
    · exact ⟨_, z ▸ he, fun v q => Data.noConfusion q⟩
    · rw [List.mem_singleton.mp hc]; exact hi.there
  keep i h h' st k := ⟨let ⟨old, he⟩ := st.1; ⟨old, k e List.mem_cons_self _ he⟩, st.2.move fun o q => k it (List.mem_cons_of_mem _ List.mem_cons_self) o q⟩
  item := by
    intro X hP hw hK hc i pins s σ H E I hf st hg
    subst hP hw hK
    obtain ⟨xs, x, hq, hx⟩ := hg
    obtain ⟨its, rv, ib⟩ := inv_sq I hq
    obtain ⟨u, hu, ru⟩ := rv.get hx
    obtain ⟨⟨old, he⟩, hi⟩ := id st
    have ane : a ≠ e := sq_apart I hq (hf e List.mem_cons_self) (cls_not he (by decide +kernel) (by decide +kernel))
    have ani : a ≠ it := sq_apart I hq (hf it (List.mem_cons_of_mem _ List.mem_cons_self)) (itB_not hi)
    have G := GoesN.enumFrom (prog := X.prog) (w := X.w) (A := X.A) (elts := elts) (x1 := kk) (pos := tpos) 0 (drawsB (P := X.prog) (w := X.w) (A := X.A.in1) (I.ok.hd hc) b it a ani its.toArray) e hei (by simp [hei, Ne.symm ane]) List.mem_cons_self
    have hlen : i < its.toArray.size := by
      have := (List.getElem?_eq_some_iff.mp hu).1
      simpa using this
    have lt : ∀ c ∈ [e, it], c < s.heap.objs.size := fun c hc => by
      rcases List.mem_cons.mp hc with q | q
      · rw [q]; exact Heap.lt_size he
      · rw [List.mem_singleton.mp q]; obtain ⟨o, q, _⟩ := hi.there; exact Heap.lt_size q
    refine wpAny_mono (G.goes i s (fun u' s2 => ∃ x H', Inv X pins σ H' s2 ∧ RelV x u' ∧ (IteB b X.K a).yld i H x H' ∧ ((∃ old, IsEnum s2.heap e it (0 + ((i + 1 : Nat) : Int)) old) ∧ ItB b s2.heap it a (i + 1)) ∧ ∀ b ∈ [e, it], H' b = none) E hlen ⟨⟨old, he⟩, hi, ib⟩ fun v h' tk hY st' kp ht => ?_) (fun _ _ z => z) fun _ _ z => z
    obtain ⟨T, t, u2, ev, hT, hu2, tT⟩ := hY
    have : u2 = u := by simpa [hu] using hu2.symm
    subst this ev
    have new : ObjOk X.prog X.w (upd H T (.tup [.int (i : Int), x])) h' T (.tup [.int (i : Int), x]) := pair_new ⟨t, by rw [Int.zero_add]⟩ ru tT
    refine ⟨.ref T, _, I.turnedNew (t' := tk) (ch := [e, it]) (fun c o hb q => kp c o hb q) hf hT new, rfl, ⟨T, x, rfl, I.hok.fresh hT, rfl, fun zs hz => by rw [inv_inj I hz hq]; exact hx⟩, ⟨st'.1, st'.2.1⟩, fun c hc => ?_⟩
    rw [upd_ne (fun z => by have l := lt c hc; rw [z] at l; exact absurd (Nat.lt_of_lt_of_le l hT) (Nat.lt_irrefl _))]
    exact (hf c hc).1
  done := by
    intro X hP hw hK hc i pins s σ H E I hf st hg
    subst hP hw hK
    obtain ⟨xs, hq, hl⟩ := hg
    obtain ⟨its, rv, ib⟩ := inv_sq I hq
    obtain ⟨⟨old, he⟩, hi⟩ := id st
    have ane : a ≠ e := sq_apart I hq (hf e List.mem_cons_self) (cls_not he (by decide +kernel) (by decide +kernel))
    have ani : a ≠ it := sq_apart I hq (hf it (List.mem_cons_of_mem _ List.mem_cons_self)) (itB_not hi)
    have G := GoesN.enumFrom (prog := X.prog) (w := X.w) (A := X.A) (elts := elts) (x1 := kk) (pos := tpos) 0 (drawsB (P := X.prog) (w := X.w) (A := X.A.in1) (I.ok.hd hc) b it a ani its.toArray) e hei (by simp [hei, Ne.symm ane]) List.mem_cons_self
    have ei : its.toArray.size = i := by rw [List.size_toArray, ← rv.length]; exact hl
    rw [ei] at G
    exact G.stops s _ E ⟨⟨old, he⟩, hi, ib⟩ fun h' tk kp _ => I.turnedL (t' := tk) (ch := [e, it]) kp hf
  self A i s Q E st h := let ⟨⟨_, he⟩, _⟩ := st; wpAny_pyIter_enum he h
set_option maxHeartbeats 1000000 in
theorem enum_newB {v : Value} {o : Obj} {H : Heap → Prop} (B : Begins v o H) :
    Meets (Builtin.«enumerate.__new__» ⟨[.type "enumerate", v], []⟩) (fun _ R s => H s.heap ∧
      R (.ok (.ret (.ref (s.heap.push o).objs.size))) { s with heap := (s.heap.push o).push { cls := .type "enumerate", data := .fields #[.none, .bool false, .ref s.heap.objs.size, rawInt 0, .none, .none] } }) := by
  refine .of_wp fun prog w A R s h => ?_
  obtain ⟨hp, g, d, tk, os⟩ := s
  obtain ⟨h1, h⟩ := h
  have hs := sub_enumerate
  have q : ∀ {A' : Around} {E : Value → Shared → Prop} {Q : Value → Shared → Prop}, Q (.ref hp.objs.size) ⟨hp.push o, g, d, tk, os⟩ → wpAny (model prog w) A' (pyIter v) Q E ⟨hp, g, d, tk, os⟩ := fun z => B.iter prog w _ _ ⟨hp, g, d, tk, os⟩ _ h1 z
  wp_walk using q
  refine wpAny_stack_any fun st => wpAny_pure ?_
  split
  · rename_i c _ _ _ _ _
    cases (c == Value.type "enumerate") <;> (wp_walk using q; exact ⟨_, rfl, h⟩)
  · wp_walk using q
    exact ⟨_, rfl, h⟩
theorem enum_begins1 {prog : Program} {w : World} {A : Around} {E : Value → Shared → Prop} {s : Shared} {v : Value} {o : Obj} {H : Heap → Prop} {Q : Value → Shared → Prop} (B : Begins v o H) (h1 : H s.heap)
    (h : ∀ h', IsEnum h' (s.heap.objs.size + 1) s.heap.objs.size 0 .none → h'.get? s.heap.objs.size = some o → (∀ b o, s.heap.get? b = some o → h'.get? b = some o) → Q (.ref (s.heap.objs.size + 1)) { s with heap := h' }) :
    wpAny (model prog w) A (call (.type "enumerate") [v]) Q E s := by
  refine callType_new F.called_enumerate (by decide) (F.typeCall_enumerate_1 _) (F.newCall_enumerate_1 _) (fun obj => F.args_object_init_2 obj _) F.entry_enumerate_new (enum_newB B) ⟨h1, ?_⟩
  have hz : (s.heap.push o).objs.size = s.heap.objs.size + 1 := Heap.size_push ..
  have he : IsEnum ((s.heap.push o).push { cls := .type "enumerate", data := .fields #[.none, .bool false, .ref s.heap.objs.size, rawInt 0, .none, .none] }) (s.heap.objs.size + 1) s.heap.objs.size 0 .none := by
    have q := Heap.get?_push_size (s.heap.push o) (o := { cls := .type "enumerate", data := .fields #[.none, .bool false, .ref s.heap.objs.size, rawInt 0, .none, .none] }) rfl
    rw [hz] at q
    exact q
  show _ ∧ _
  rw [hz]
  exact ⟨⟨_, he, rfl⟩, h _ he (Heap.get?_push_of_some _ (Heap.get?_push_size _ B.free)) fun b o x => Heap.get?_push_of_some _ (Heap.get?_push_of_some _ x)⟩
def wEnB (b : Bool) (K : PySem.W.Frag) (ta : TA) : TI := fun σ H R => ta σ H fun vs H1 => ∃ a xs, vs = [.ref a] ∧ SqB b K H1 a xs ∧ R (IteB b K a) H1
theorem pi_enB {X : Cx} (b : Bool) {e : Expr} {ta : TA} {p pos tpos : Pos} {elts : List Expr} {kk : Nat} (hg : Gl X "enumerate") (hm : X.mg "enumerate" = none) (ha : PA X [e] ta) (hs : starEach [e] X.env = [(false, eval e X.env)] := by rfl) :
    PI X (.Tuple elts kk tpos) (.Call (.Name "enumerate" p) [e] [] pos) (wEnB b X.K ta) := by
  refine ⟨fun pins s σ H R I h => ?_⟩
  refine Call_ (ld_blt I hg hm boot_enumerate (PyProof.Rows.callWith_type1 (thn (ha.run pos pins s σ H _ I h) fun us s1 ⟨vs, H1, I1, r1, a, xs, ex, hq, q⟩ => ?_) hs rfl))
  subst ex
  obtain ⟨u, rfl, ru⟩ := vals1 r1
  obtain rfl : u = Value.ref a := ru
  obtain ⟨its, rv, ib⟩ := inv_sq I1 hq
  refine enum_begins1 (beginsB b a its.toArray) ib fun h' he hi kp => wpAny_pyIter_enum he ?_
  refine ⟨s1.heap.objs.size + 1, [s1.heap.objs.size + 1, s1.heap.objs.size], _, _, H1, rfl, I1.kept (t' := s1.toks) kp, turn_enB b a (s1.heap.objs.size + 1) s1.heap.objs.size (Nat.succ_ne_self _), ⟨⟨.none, he⟩, itB0 hi⟩, fun c hc => ?_, q⟩
  have le : s1.heap.objs.size ≤ c := by
    rcases List.mem_cons.mp hc with z | z
    · rw [z]; exact Nat.le_succ _
    · rw [List.mem_singleton.mp z]; exact Nat.le_refl _
  exact I1.fpOk le (I1.hok.fresh le)
/-! zip of two -/
def ItzB (b c : Bool) (K : PySem.W.Frag) (a1 a2 : Addr) : It where
  go i H := ∃ xs ys x y, SqB b K H a1 xs ∧ SqB c K H a2 ys ∧ xs[i]? = some x ∧ ys[i]? = some y
  yld i H v H' := ∃ T x y, v = .ref T ∧ H T = none ∧ H' = upd H T (.tup [x, y]) ∧ (∀ xs, SqB b K H a1 xs → xs[i]? = some x) ∧ ∀ ys, SqB c K H a2 ys → ys[i]? = some y
  stop i H := ∃ xs ys, SqB b K H a1 xs ∧ SqB c K H a2 ys ∧ min xs.length ys.length = i
structure ZCells (z t o i1 i2 : Addr) : Prop where
  tz : t ≠ z
  oz : o ≠ z
  to : t ≠ o
  t1 : t ≠ i1
  t2 : t ≠ i2
  z1 : z ≠ i1
  z2 : z ≠ i2
  o1 : o ≠ i1
  o2 : o ≠ i2
  i12 : i1 ≠ i2
def ZSt (b c : Bool) (z t o i1 i2 a1 a2 : Addr) (i : Nat) (h : Heap) : Prop := IsZip h z t o .none ∧ IsTupOf2 h t (.ref i1) (.ref i2) ∧ (∃ u v, IsTupOf2 h o u v) ∧ ItB b h i1 a1 i ∧ ItB c h i2 a2 i
theorem zst_there {b c : Bool} {z t o i1 i2 a1 a2 : Addr} {i : Nat} {h : Heap} (x : ZSt b c z t o i1 i2 a1 a2 i h) : ∀ d ∈ [z, t, o, i1, i2], ∃ ob, h.get? d = some ob ∧ ∀ v, ob.data ≠ .cell v := fun d hd => by
  obtain ⟨hz, ht, ⟨u, v, ho⟩, h1, h2⟩ := x
  simp only [List.mem_cons, List.not_mem_nil, or_false] at hd
  rcases hd with q | q | q | q | q
  · exact ⟨_, q ▸ hz, fun v w => Data.noConfusion w⟩
  · exact ⟨_, q ▸ ht, fun v w => Data.noConfusion w⟩
  · exact ⟨_, q ▸ ho, fun v w => Data.noConfusion w⟩
  · exact q ▸ h1.there
  · exact q ▸ h2.there
section
variable {P : Program} {w : World} {b c : Bool} {z t o i1 i2 a1 a2 : Addr} {elts : List Expr} {kk : Nat} {tpos : Pos}
theorem zip_goes {X : Cx} {pins : List (Addr × Obj)} {σ : L2.St} {H : Hp} {s : Shared} {xs ys : List V} {i : Nat} (Z : ZCells z t o i1 i2) (I : Inv X pins σ H s) (hc : X.calm = true) (hf : ∀ d ∈ [z, t, o, i1, i2], FpOk X pins H d) (st : ZSt b c z t o i1 i2 a1 a2 i s.heap) (q1 : SqB b X.K H a1 xs) (q2 : SqB c X.K H a2 ys) :
    ∃ us vs : List Value, Vals xs us ∧ Vals ys vs ∧ IsB b s.heap a1 us.toArray ∧ IsB c s.heap a2 vs.toArray ∧
      GoesN X.prog X.w X.A (.Tuple elts kk tpos) z (z :: t :: o :: ([i1, a1] ++ [i2, a2])) [z, o, i1, i2] (min us.toArray.size vs.toArray.size) (fun i h₀ v h => ∃ T x y, v = .ref T ∧ h₀.objs.size ≤ T ∧ us.toArray[i]? = some x ∧ vs.toArray[i]? = some y ∧ h.IsTuple T #[x, y])
        (fun i h => IsZip h z t o .none ∧ IsTupOf2 h t (.ref i1) (.ref i2) ∧ (∃ u v, IsTupOf2 h o u v) ∧ (ItB b h i1 a1 i ∧ IsB b h a1 us.toArray) ∧ (ItB c h i2 a2 i ∧ IsB c h a2 vs.toArray)) := by
  obtain ⟨us, r1, ib1⟩ := inv_sq I q1
  obtain ⟨vs, r2, ib2⟩ := inv_sq I q2
  obtain ⟨hz, ht, ⟨u, v, ho⟩, h1, h2⟩ := st
  have fz : ∀ {d : Addr}, d ∈ [z, t, o, i1, i2] → FpOk X pins H d := fun {d} m => hf d m
  -- the tuple that zip gives out lies among its cells, and is told apart by what the layer tracks
  have trk : ∀ {b : Bool} {a : Addr} {xs : List V} {d : Addr}, SqB b X.K H a xs → d ∈ [z, o, i1, i2] → a ≠ d := fun {b a xs d} q m e => by
    subst e
    have f := hf a (by simp only [List.mem_cons, List.not_mem_nil, or_false] at m ⊢; rcases m with m | m | m | m <;> simp [m])
    obtain ⟨f0, f1, f2, f3, f4, f5⟩ := f
    cases b with
    | false =>
      rcases q with (q | ⟨_, q⟩) | ⟨ob, its, n, k, _⟩
      · rw [f0] at q; cases q
      · rw [f0] at q; cases q
      · have base := I.ok.mod.kin a ob k
        rcases f3 with x | x
        · exact I.ok.noex a ob base x
        · exact absurd (Nat.lt_of_lt_of_le (Heap.lt_size (I.ok.bs a ob base).1) x) (Nat.lt_irrefl _)
    | true =>
      rcases q with (q | ⟨_, q⟩) | ⟨ob, its, n, k, _⟩
      · rw [f0] at q; cases q
      · rw [f0] at q; cases q
      · have base := I.ok.mod.kin a ob k
        rcases f3 with x | x
        · exact I.ok.noex a ob base x
        · exact absurd (Nat.lt_of_lt_of_le (Heap.lt_size (I.ok.bs a ob base).1) x) (Nat.lt_irrefl _)
  have S : ZipSep2 z t o i1 i2 [i1, a1] [i2, a2] :=
    { TIz := Z.tz, TOz := Z.oz, TITO := Z.to, TIi1 := Z.t1, mem1 := List.mem_cons_self, zf1 := by simp [Z.z1, Ne.symm (trk q1 (d := z) (by simp))], Tf1 := by simp [Z.o1, Ne.symm (trk q1 (d := o) (by simp))],
      TIi2 := Z.t2, mem2 := List.mem_cons_self, zf2 := by simp [Z.z2, Ne.symm (trk q2 (d := z) (by simp))], Tf2 := by simp [Z.o2, Ne.symm (trk q2 (d := o) (by simp))],
      sep1_2 := by simp [Z.i12, Ne.symm (trk q2 (d := i1) (by simp))], sep2_1 := by simp [Ne.symm Z.i12, Ne.symm (trk q1 (d := i2) (by simp))] }
  exact ⟨us, vs, r1, r2, ib1, ib2, GoesN.zip2 S (drawsB (A := X.A.in1) (I.ok.hd hc) b i1 a1 (trk q1 (by simp)) us.toArray) (drawsB (A := X.A.in1) (I.ok.hd hc) c i2 a2 (trk q2 (by simp)) vs.toArray)⟩
theorem turn_zpB {K : PySem.W.Frag} (Z : ZCells z t o i1 i2) : Turn P w K (.Tuple elts kk tpos) (ItzB b c K a1 a2) [z, t, o, i1, i2] z (ZSt b c z t o i1 i2 a1 a2) where
  mem := List.mem_cons_self
  obj i h st := zst_there st
  keep i h h' st k := by
    obtain ⟨hz, ht, ⟨u, v, ho⟩, h1, h2⟩ := st
    exact ⟨k z (by simp) _ hz, k t (by simp) _ ht, ⟨u, v, k o (by simp) _ ho⟩, h1.move fun ob q => k i1 (by simp) ob q, h2.move fun ob q => k i2 (by simp) ob q⟩
  item := by
    intro X hP hw hK hc i pins s σ H E I hf st hg
    subst hP hw hK
    obtain ⟨xs, ys, x, y, q1, q2, hx, hy⟩ := hg
    obtain ⟨us, vs, r1, r2, ib1, ib2, G⟩ := zip_goes (elts := elts) (kk := kk) (tpos := tpos) Z I hc hf st q1 q2
    obtain ⟨u, hu, ru⟩ := r1.get hx
    obtain ⟨v, hv, rv⟩ := r2.get hy
    have hlen : i < min us.toArray.size vs.toArray.size := by
      have l1 := (List.getElem?_eq_some_iff.mp hu).1
      have l2 := (List.getElem?_eq_some_iff.mp hv).1
      simp only [List.size_toArray]
      omega
    obtain ⟨hz, ht, ho, h1, h2⟩ := id st
    refine wpAny_mono (G.goes i s (fun u' s2 => ∃ x H', Inv X pins σ H' s2 ∧ RelV x u' ∧ (ItzB b c X.K a1 a2).yld i H x H' ∧ ZSt b c z t o i1 i2 a1 a2 (i + 1) s2.heap ∧ ∀ d ∈ [z, t, o, i1, i2], H' d = none) E hlen ⟨hz, ht, ho, ⟨h1, ib1⟩, h2, ib2⟩ fun v' h' tk hY st' kp _ => ?_) (fun _ _ q => q) fun _ _ q => q
    obtain ⟨T, u2, v2, ev, hT, hu2, hv2, tT⟩ := hY
    have e1 : u2 = u := by simpa [hu] using hu2.symm
    have e2 : v2 = v := by simpa [hv] using hv2.symm
    subst e1 e2 ev
    refine ⟨.ref T, _, I.turnedNew (t' := tk) (ch := [z, t, o, i1, i2]) (fun d ob hb q => kp d ob (fun m => hb ?_) q) hf hT (pair_new ru rv tT), rfl, ⟨T, x, y, rfl, I.hok.fresh hT, rfl, fun zs hz => by rw [inv_inj I hz q1]; exact hx, fun zs hz => by rw [inv_inj I hz q2]; exact hy⟩, ⟨st'.1, st'.2.1, st'.2.2.1, st'.2.2.2.1.1, st'.2.2.2.2.1⟩, fun d hd => ?_⟩
    · simp only [List.mem_cons, List.not_mem_nil, or_false] at m ⊢
      rcases m with m | m | m | m <;> simp [m]
    · obtain ⟨ob, eo, _⟩ := zst_there st d hd
      rw [upd_ne (fun e => by have l := Heap.lt_size eo; rw [e] at l; exact absurd (Nat.lt_of_lt_of_le l hT) (Nat.lt_irrefl _))]
      exact (hf d hd).1
  done := by
    intro X hP hw hK hc i pins s σ H E I hf st hg
    subst hP hw hK
    obtain ⟨xs, ys, q1, q2, hl⟩ := hg
    obtain ⟨us, vs, r1, r2, ib1, ib2, G⟩ := zip_goes (elts := elts) (kk := kk) (tpos := tpos) Z I hc hf st q1 q2
    obtain ⟨hz, ht, ho, h1, h2⟩ := id st
    have ei : min us.toArray.size vs.toArray.size = i := by rw [List.size_toArray, List.size_toArray, ← r1.length, ← r2.length]; exact hl
    rw [ei] at G
    refine G.stops s _ E ⟨hz, ht, ho, ⟨h1, ib1⟩, h2, ib2⟩ fun h' tk kp _ => I.turnedL (t' := tk) (ch := [z, t, o, i1, i2]) (fun d ob hb q => kp d ob (fun m => hb ?_) q) hf
    simp only [List.mem_cons, List.not_mem_nil, or_false] at m ⊢
    rcases m with m | m | m | m <;> simp [m]
  self A i s Q E st h := wpAny_pyIter_zip st.1 h
end
def wZpB (b c : Bool) (K : PySem.W.Frag) (ta : TA) : TI := fun σ H R => ta σ H fun vs H1 => ∃ a1 a2 xs ys, vs = [.ref a1, .ref a2] ∧ SqB b K H1 a1 xs ∧ SqB c K H1 a2 ys ∧ R (ItzB b c K a1 a2) H1
theorem pi_zpB {X : Cx} (b c : Bool) {e e' : Expr} {ta : TA} {p pos tpos : Pos} {elts : List Expr} {kk : Nat} (hg : Gl X "zip") (hm : X.mg "zip" = none) (ha : PA X [e, e'] ta) (hs : starEach [e, e'] X.env = (false, eval e X.env) :: starEach [e'] X.env := by rfl) (hpl : (backTo pos (starEach [e'] X.env)).any (·.1) = false := by rfl) :
    PI X (.Tuple elts kk tpos) (.Call (.Name "zip" p) [e, e'] [] pos) (wZpB b c X.K ta) := by
  refine ⟨fun pins s σ H R I h => ?_⟩
  refine Call_ (ld_blt I hg hm boot_zip (PyProof.Rows.callWith_type1 (thn (ha.run pos pins s σ H _ I h) fun us s1 ⟨vs, H1, I1, r1, a1, a2, xs, ys, ex, q1, q2, q⟩ => ?_) hs hpl))
  subst ex
  obtain ⟨u, v, rfl, ru, rv⟩ := vals2 r1
  obtain rfl : u = Value.ref a1 := ru
  obtain rfl : v = Value.ref a2 := rv
  obtain ⟨its, _, ib1⟩ := inv_sq I1 q1
  obtain ⟨its2, _, ib2⟩ := inv_sq I1 q2
  refine zip_begins2 (beginsB b a1 its.toArray) (beginsB c a2 its2.toArray) ib1 ib2 fun h' hz ht ho g1 g2 hsz kp => wpAny_pyIter_zip hz ?_
  have Z : ZCells (s1.heap.objs.size + 4) (s1.heap.objs.size + 2) (s1.heap.objs.size + 3) s1.heap.objs.size (s1.heap.objs.size + 1) := by
    constructor <;> (intro q; have q' : (_ : Nat) = _ := q; omega)
  refine ⟨_, _, _, _, H1, rfl, I1.kept (t' := s1.toks) kp, turn_zpB (a1 := a1) (a2 := a2) Z, ⟨hz, ht, ⟨_, _, ho⟩, itB0 g1, itB0 g2⟩, fun d hd => ?_, q⟩
  have le : s1.heap.objs.size ≤ d := by
    simp only [List.mem_cons, List.not_mem_nil, or_false] at hd
    rcases hd with z | z | z | z | z <;> (rw [z]; first | exact Nat.le_add_right _ _ | exact Nat.le_refl _)
  exact I1.fpOk le (I1.hok.fresh le)
/-! ### the layer's own rows -/
def seqD : D → Option (Bool × List D)
  | .lst xs => some (false, xs)
  | .scr ns => some (false, ns.map .int)
  | .tup xs => some (true, xs)
  | _ => none
def iEn2 (fa : Ev → R D) : Ev → R (List D) := fun ρ => (fa ρ).bind fun d => (optR (seqD d)).bind fun x => .ok (enumD 0 x.2)
def iZp2 (fa fb : Ev → R D) : Ev → R (List D) := fun ρ => (fa ρ).bind fun a => (fb ρ).bind fun b => (optR (seqD a)).bind fun x => (optR (seqD b)).bind fun y => .ok (zipD x.2 y.2)
section
variable {K : PySem.W.Frag} {ca : Cn} {G0 : Hp}
theorem seqD_at {d : D} {v : V} {x : Bool × List D} (h : At K ca G0 d v) (e : seqD d = some x) : ∃ a vs, v = .ref a ∧ SqB x.1 K G0 a vs ∧ AtL K ca G0 x.2 vs := by
  cases d with
  | lst xs => cases e; obtain ⟨a, vs, e1, h1, h2⟩ := h; exact ⟨a, vs, e1, SqL.of h1, h2⟩
  | scr ns => cases e; obtain ⟨a, e1, h1⟩ := h; exact ⟨a, _, e1, h1, AtL.of_ints ns⟩
  | tup xs => cases e; obtain ⟨a, vs, e1, h1, h2⟩ := h; exact ⟨a, vs, e1, tq (.refl _) h1, h2⟩
  | _ => cases e
theorem sqB_mono {b : Bool} {H H' : Hp} {a : Addr} {xs : List V} (s : Same H H') (h : SqB b K H a xs) : SqB b K H' a xs := by
  cases b with
  | false => exact SqL_mono s h
  | true => exact SqT_mono s h
theorem jok_enB {b : Bool} {a : Addr} {ds : List D} {vs : List V} (h : SqB b K G0 a vs) (r : AtL K ca G0 ds vs) : JOk K ca G0 (IteB b K a) (enumD 0 ds) := by
  intro G H s1 s2 i
  have q : SqB b K H a vs := sqB_mono s2 (sqB_mono s1 h)
  refine ⟨fun d e => ?_, fun l => ⟨vs, q, by rw [enumD_len] at l; rw [← r.length]; exact l⟩⟩
  rw [enumD_get] at e
  obtain ⟨d0, e0, e1⟩ := Option.map_eq_some_iff.mp e
  obtain ⟨v, e2, a1⟩ := r.get e0
  refine ⟨⟨vs, v, q, e2⟩, fun x H' y => ?_⟩
  obtain ⟨T, x0, rfl, n, rfl, hx⟩ := y
  have := hx vs q
  rw [e2] at this
  cases this
  subst e1
  refine pair_at s2 n ?_ (At.mono s1 a1)
  rw [Nat.zero_add]
  rfl
theorem jok_zpB {b c : Bool} {a1 a2 : Addr} {ds es : List D} {vs ws : List V} (h : SqB b K G0 a1 vs) (h' : SqB c K G0 a2 ws) (r : AtL K ca G0 ds vs) (r' : AtL K ca G0 es ws) : JOk K ca G0 (ItzB b c K a1 a2) (zipD ds es) := by
  intro G H s1 s2 i
  have q : SqB b K H a1 vs := sqB_mono s2 (sqB_mono s1 h)
  have q' : SqB c K H a2 ws := sqB_mono s2 (sqB_mono s1 h')
  refine ⟨fun d e => ?_, fun l => ⟨vs, ws, q, q', by rw [zipD_len, r.length, r'.length] at l; exact l⟩⟩
  rw [zipD_get] at e
  cases e0 : ds[i]? with
  | none => rw [e0] at e; cases e
  | some d0 =>
    cases e1 : es[i]? with
    | none => rw [e0, e1] at e; cases e
    | some d1 =>
      rw [e0, e1] at e
      cases e
      obtain ⟨v, e2, b1⟩ := r.get e0
      obtain ⟨w, e3, b2⟩ := r'.get e1
      refine ⟨⟨vs, ws, v, w, q, q', e2, e3⟩, fun x H' y => ?_⟩
      obtain ⟨T, x0, y0, rfl, n, rfl, hx, hy⟩ := y
      have z1 := hx vs q
      have z2 := hy ws q'
      rw [e2] at z1
      rw [e3] at z2
      cases z1; cases z2
      exact pair_at s2 n (At.mono s1 b1) (At.mono s1 b2)
end
section
variable {X : Cx} {ca : Cn} {W : WX} {e e' : Expr} {fa fb : Ev → R D} {p pos tpos : Pos} {elts : List Expr} {kk : Nat}
theorem fi_en2 (hg : Gl X "enumerate") (hm : X.mg "enumerate" = none) (h : FE X ca W e fa) (hs : starEach [e] X.env = [(false, eval e X.env)] := by rfl) : FI X ca W (.Tuple elts kk tpos) (.Call (.Name "enumerate" p) [e] [] pos) (iEn2 fa) := by
  obtain ⟨t, p, k⟩ := h.ex
  refine ⟨_, pi_or (pi_enB false hg hm (pa_cons p pa_nil hs) hs) (pi_enB true hg hm (pa_cons p pa_nil hs) hs), fun B G H σ ρ Q s b r h => ?_⟩
  have go : ∀ bb, (∀ d, fa ρ = .ok d → ∀ x, seqD d = some x → x.1 = bb) → wEnB bb X.K (tCons t tNil) σ H Q := fun bb hb => by
    refine k B G H σ ρ _ s b r (Wish.bind h fun d G1 H1 e1 x1 w1 v a1 => ?_)
    obtain ⟨x, ex, w2⟩ := wish_opt w1
    obtain ⟨a, vs, rfl, h1, h2⟩ := seqD_at a1 ex
    have := hb d e1 x ex
    subst this
    exact ⟨a, vs, rfl, sqB_mono x1.gh h1, w2.here x1.gh _ (jok_enB h1 h2)⟩
  cases z : fa ρ with
  | ok d =>
    cases q : seqD d with
    | none => exact .inl (go false fun d' e x ex => by rw [z] at e; cases e; rw [q] at ex; cases ex)
    | some x =>
      obtain ⟨bb, ds⟩ := x
      cases bb with
      | false => exact .inl (go false fun d' e x ex => by rw [z] at e; cases e; rw [q] at ex; cases ex; rfl)
      | true => exact .inr (go true fun d' e x ex => by rw [z] at e; cases e; rw [q] at ex; cases ex; rfl)
  | exc x => exact .inl (go false fun d' e => by rw [z] at e; cases e)
  | bad => exact .inl (go false fun d' e => by rw [z] at e; cases e)
theorem fi_zp2 (hg : Gl X "zip") (hm : X.mg "zip" = none) (h : FE X ca W e fa) (h' : FE X ca W e' fb) (hs : starEach [e, e'] X.env = (false, eval e X.env) :: starEach [e'] X.env := by rfl) (hs' : starEach [e'] X.env = (false, eval e' X.env) :: starEach [] X.env := by rfl)
    (hpl : (backTo pos (starEach [e'] X.env)).any (·.1) = false := by rfl) : FI X ca W (.Tuple elts kk tpos) (.Call (.Name "zip" p) [e, e'] [] pos) (iZp2 fa fb) := by
  obtain ⟨t, pp, k⟩ := h.ex
  obtain ⟨u, q, l⟩ := h'.ex
  have pz := fun b c => pi_zpB (X := X) (p := p) (pos := pos) (elts := elts) (kk := kk) (tpos := tpos) b c hg hm (pa_cons pp (pa_cons q pa_nil hs') hs) hs hpl
  refine ⟨_, pi_or (pi_or (pz false false) (pz false true)) (pi_or (pz true false) (pz true true)), fun B G H σ ρ Q s b r h => ?_⟩
  have go : ∀ bb cc, (∀ d, fa ρ = .ok d → ∀ x, seqD d = some x → x.1 = bb) → (∀ d, fb ρ = .ok d → ∀ x, seqD d = some x → x.1 = cc) → wZpB bb cc X.K (tCons t (tCons u tNil)) σ H Q := fun bb cc hb hb' => by
    refine k B G H σ ρ _ s b r (Wish.bind h fun d G1 H1 e1 x1 w1 v a1 => ?_)
    refine l B G1 H1 σ ρ _ x1.gh (b.trans x1.hh) (r.ext x1) (Wish.bind w1 fun d2 G2 H2 e2 x2 w2 v2 a2 => ?_)
    obtain ⟨x, ex, w2⟩ := wish_opt w2
    obtain ⟨y, ey, w2⟩ := wish_opt w2
    obtain ⟨a, vs, rfl, h1, h2⟩ := seqD_at (At.mono x2.gg a1) ex
    obtain ⟨a', ws, rfl, h3, h4⟩ := seqD_at a2 ey
    have := hb d e1 x ex
    have := hb' d2 e2 y ey
    subst bb cc
    exact ⟨a, a', vs, ws, rfl, sqB_mono x2.gh h1, sqB_mono x2.gh h3, w2.here x2.gh _ (jok_zpB h1 h3 h2 h4)⟩
  have kind : ∀ f : Ev → R D, ∃ bb : Bool, ∀ d, f ρ = .ok d → ∀ x, seqD d = some x → x.1 = bb := fun f => by
    cases z : f ρ with
    | ok d =>
      cases q : seqD d with
      | none => exact ⟨false, fun d' e x ex => by cases e; rw [q] at ex; cases ex⟩
      | some x => exact ⟨x.1, fun d' e y ey => by cases e; rw [q] at ey; cases ey; rfl⟩
    | exc x => exact ⟨false, fun d' e => by cases e⟩
    | bad => exact ⟨false, fun d' e => by cases e⟩
  obtain ⟨bb, hb⟩ := kind fa
  obtain ⟨cc, hc⟩ := kind fb
  cases bb <;> cases cc
  · exact .inl (.inl (go _ _ hb hc))
  · exact .inl (.inr (go _ _ hb hc))
  · exact .inr (.inl (go _ _ hb hc))
  · exact .inr (.inr (go _ _ hb hc))
end
end Tk

namespace Tk
open PySem PySem.Spec L2 PyProof.Rows
/-! ### isinstance, is True -/
def tyD : D → Option String
  | .non => some "NoneType"
  | .bl _ => some "bool"
  | .int _ => some "int"
  | .str _ => some "str"
  | .scr _ => some "list"
  | .lst _ => some "list"
  | .tup _ => some "tuple"
  | .dK _ => some "dict"
  | .dT _ => some "dict"
  | _ => none
def gIsi : List D → R D
  | [d, .ty n] => (optR ((tyD d).bind fun t => kitB t n)).bind fun b => .ok (.bl b)
  | _ => .bad
def gIsB (neg : Bool) : D → D → R D
  | .bl a, .bl b => .ok (.bl (if neg then !decide (a = b) else decide (a = b)))
  | _, .bl _ => .ok (.bl neg)
  | _, _ => .bad
section
variable {X : Cx} {ca : Cn}
theorem tyX_of {G H : Hp} (s : Same G H) {d : D} {v : V} {t : String} (a : At X.K ca G d v) (e : tyD d = some t) : TyX X.K H v (.type t) := by
  cases d with
  | non => cases e; cases a; exact .base .non
  | bl b => cases e; cases a; exact .base (.bl b)
  | int b => cases e; cases a; exact .base (.int b)
  | str b => cases e; cases a; exact .base (.str b)
  | scr ns =>
    cases e
    obtain ⟨p, rfl, h⟩ := a
    rcases h with (h | ⟨o, h⟩) | ⟨o, its, n, k, c, _⟩
    · exact .base (.lst (s _ _ h))
    · exact .base (.frz (s _ _ h))
    · exact .kList k c
  | lst xs => cases e; obtain ⟨p, vs, rfl, h, _⟩ := a; exact .base (.lst (s _ _ h))
  | tup xs =>
    cases e
    obtain ⟨p, vs, rfl, h, _⟩ := a
    rcases h with h | ⟨_, (h | ⟨o, h⟩) | ⟨o, its, n, k, c, _⟩⟩
    · exact .base (.tup (s _ _ h))
    · exact .base (.tup (s _ _ h))
    · exact .fTuple (s _ _ h)
    · exact .kTuple k c
  | dK xs => cases e; obtain ⟨p, vs, rfl, h, _⟩ := a; exact .base (.dK (s _ _ h))
  | dT xs => cases e; obtain ⟨p, vs, rfl, h, _⟩ := a; exact .base (.dT (s _ _ h))
  | _ => cases e
theorem vn_isi : VN X ca (rIsi X.K) gIsi := by
  intro G H W1 xs ds Q s a w
  unfold gIsi at w
  split at w
  · obtain ⟨b, e, w⟩ := wish_opt w
    obtain ⟨t, e1, e2⟩ := Option.bind_eq_some_iff.mp e
    obtain ⟨v, v', rfl, a1, a2⟩ := atl2 a
    cases a2
    exact ⟨v, _, .type t, .type _, b, rfl, .ty _, tyX_of s a1 e1, kit_ty e2, w.here s _ rfl⟩
  · exact w.elim
theorem op_isB : OpR X (compareOp .Is) (fun x y H Q => ∃ b, y = .bl b ∧ Q (.bl (decide (x = .bl b))) H) := by
  intro pins s σ H x y v u Q I rx ry h
  obtain ⟨b, rfl, q⟩ := h
  cases (show u = Value.bool b from ry)
  cases x with
  | bl a =>
    cases (show v = Value.bool a from rx)
    exact wpAny_is_plain rfl (fin_bl I q (by cases a <;> cases b <;> rfl))
  | non => cases (show v = Value.none from rx); exact wpAny_is_plain rfl (fin_bl I q rfl)
  | int i => obtain ⟨t, rfl⟩ := rx; exact wpAny_is_plain rfl (fin_bl I q rfl)
  | str i => obtain ⟨t, rfl⟩ := rx; exact wpAny_is_plain rfl (fin_bl I q rfl)
  | byt i => obtain ⟨t, rfl⟩ := rx; exact wpAny_is_plain rfl (fin_bl I q rfl)
  | flt i => obtain ⟨t, rfl⟩ := rx; exact wpAny_is_plain rfl (fin_bl I q rfl)
  | ref i => cases (show v = Value.ref i from rx); exact wpAny_is_plain rfl (fin_bl I q rfl)
  | ty i => cases (show v = Value.type i from rx); exact wpAny_is_plain rfl (fin_bl I q rfl)
theorem op_nisB : OpR X (compareOp .IsNot) (fun x y H Q => ∃ b, y = .bl b ∧ Q (.bl (!decide (x = .bl b))) H) := by
  intro pins s σ H x y v u Q I rx ry h
  obtain ⟨b, rfl, q⟩ := h
  cases (show u = Value.bool b from ry)
  cases x with
  | bl a =>
    cases (show v = Value.bool a from rx)
    exact wpAny_isNot_plain rfl (fin_bl I q (by cases a <;> cases b <;> rfl))
  | non => cases (show v = Value.none from rx); exact wpAny_isNot_plain rfl (fin_bl I q rfl)
  | int i => obtain ⟨t, rfl⟩ := rx; exact wpAny_isNot_plain rfl (fin_bl I q rfl)
  | str i => obtain ⟨t, rfl⟩ := rx; exact wpAny_isNot_plain rfl (fin_bl I q rfl)
  | byt i => obtain ⟨t, rfl⟩ := rx; exact wpAny_isNot_plain rfl (fin_bl I q rfl)
  | flt i => obtain ⟨t, rfl⟩ := rx; exact wpAny_isNot_plain rfl (fin_bl I q rfl)
  | ref i => cases (show v = Value.ref i from rx); exact wpAny_isNot_plain rfl (fin_bl I q rfl)
  | ty i => cases (show v = Value.type i from rx); exact wpAny_isNot_plain rfl (fin_bl I q rfl)
theorem at_bl {a : D} {x : V} {G : Hp} {b : Bool} (h : At X.K ca G a x) (n : ∀ c, a ≠ .bl c) : decide (x = .bl b) = false := by
  cases a with
  | bl c => exact (n c rfl).elim
  | non => cases h; rfl
  | int _ => cases h; rfl
  | str _ => cases h; rfl
  | ty _ => cases h; rfl
  | cl _ => obtain ⟨_, _, rfl⟩ := h; rfl
  | scr _ => obtain ⟨_, rfl, _⟩ := h; rfl
  | lst _ => obtain ⟨_, _, rfl, _⟩ := h; rfl
  | tup _ => obtain ⟨_, _, rfl, _⟩ := h; rfl
  | dK _ => obtain ⟨_, _, rfl, _⟩ := h; rfl
  | dT _ => obtain ⟨_, _, rfl, _⟩ := h; rfl
  | ins _ _ => obtain ⟨_, _, _, _, rfl, _⟩ := h; rfl
theorem v2_isB : V2 X ca (fun x y H Q => ∃ b, y = .bl b ∧ Q (.bl (decide (x = .bl b))) H) (gIsB false) := by
  intro G H W1 x y a b Q s ax ay w
  unfold gIsB at w
  split at w
  · cases ax; cases ay; exact ⟨_, rfl, by rw [dec_VB]; exact w.here s _ rfl⟩
  · rename_i n; cases ay; exact ⟨_, rfl, by rw [at_bl ax fun c e => n c e]; exact w.here s _ rfl⟩
  · exact w.elim
theorem v2_nisB : V2 X ca (fun x y H Q => ∃ b, y = .bl b ∧ Q (.bl (!decide (x = .bl b))) H) (gIsB true) := by
  intro G H W1 x y a b Q s ax ay w
  unfold gIsB at w
  split at w
  · cases ax; cases ay; exact ⟨_, rfl, by rw [dec_VB]; exact w.here s _ rfl⟩
  · rename_i n; cases ay; exact ⟨_, rfl, by rw [at_bl ax fun c e => n c e]; exact w.here s _ rfl⟩
  · exact w.elim
/-- a built-in class as a value -/
theorem fe_bltn {W : WX} {x : Str} {n : String} {pos : Pos} (hg : Gl X x) (hm : X.mg x = none) (hv : bootBuiltins x = some (.type n)) (hn : x ≠ "__name__" := by decide) (hd : (x == ("__debug__" : Str)) = false := by decide) : FE X ca W (.Name x pos) (eC (.ty n)) :=
  ⟨_, pe_bltn (v := .ty n) hg hm hv rfl hn hd, fun B G H σ ρ Q s b r h => h.here s _ rfl⟩
end
/-! ### sorted -/
def pairOf : D → Option (Int × Int)
  | .tup [.int i, .int j] => some (i, j)
  | _ => none
def pairsOf : List D → Option (List (Int × Int))
  | [] => some []
  | d :: r => (pairOf d).bind fun p => (pairsOf r).map (p :: ·)
def leP (p q : Int × Int) : Bool := !SrtO.lexB q p
def srtP (ps : List (Int × Int)) : List (Int × Int) := ps.mergeSort leP
def dP (p : Int × Int) : D := .tup [.int p.1, .int p.2]
def srtI (ns : List Int) : List Int := ns.mergeSort fun i j => decide (i ≤ j)
def gSrt : List D → R D
  | [.lst xs] => match intsOf xs with
    | some ns => .ok (.lst ((srtI ns).map .int))
    | none => match pairsOf xs with
      | some ps => .ok (.lst ((srtP ps).map dP))
      | none => .bad
  | _ => .bad
section
variable {X : Cx} {ca : Cn}
theorem srtI_uniq {ns ms : List Int} (p : ms.Perm ns) (s : ms.Pairwise (· ≤ ·)) : ms = srtI ns := by
  have p2 : (srtI ns).Perm ns := List.mergeSort_perm _ _
  have s2 : (srtI ns).Pairwise fun i j => decide (i ≤ j) = true := List.pairwise_mergeSort (fun a b c h1 h2 => by simp at *; omega) (fun a b => by simp; omega) ns
  have s3 : (srtI ns).Pairwise (· ≤ ·) := s2.imp fun h => of_decide_eq_true h
  exact List.Perm.eq_of_pairwise (fun a b _ _ h1 h2 => Int.le_antisymm h1 h2) s s3 (p.trans p2.symm)
theorem lex_tot (p q : Int × Int) : leP p q = true ∨ leP q p = true := by
  unfold leP
  cases h : SrtO.lexB q p with
  | false => exact .inl rfl
  | true =>
    right
    rw [Bool.not_eq_true']
    exact (ltP_swo (fun _ => (0, 0))).1 |> fun _ => by
      have a := SrtO.lexB_iff.mp h
      exact SrtO.lexB_no.mpr (by omega)
theorem srtP_uniq {ns ms : List (Int × Int)} (p : ms.Perm ns) (s : ms.Pairwise fun x y => SrtO.lexB y x = false) : ms = srtP ns := by
  have p2 : (srtP ns).Perm ns := List.mergeSort_perm _ _
  have s2 : (srtP ns).Pairwise fun x y => leP x y = true := List.pairwise_mergeSort (fun a b c h1 h2 => by
    unfold leP at *
    rw [Bool.not_eq_true'] at *
    have a := SrtO.lexB_no.mp h1
    have b := SrtO.lexB_no.mp h2
    exact SrtO.lexB_no.mpr (by omega)) (fun a b => by rcases lex_tot a b with h | h <;> simp [h]) ns
  refine List.Perm.eq_of_pairwise (le := fun x y => SrtO.lexB y x = false) (fun a b _ _ h1 h2 => ?_) s (s2.imp fun h => by unfold leP at h; rwa [Bool.not_eq_true'] at h) (p.trans p2.symm)
  have x := SrtO.lexB_no.mp h1
  have y := SrtO.lexB_no.mp h2
  exact Prod.ext (by omega) (by omega)
theorem pairOf_eq {d : D} {p : Int × Int} (h : pairOf d = some p) : d = dP p := by
  unfold pairOf at h
  split at h
  · cases h; rfl
  · cases h
theorem pairsOf_eq : ∀ {ds : List D} {ps : List (Int × Int)}, pairsOf ds = some ps → ds = ps.map dP
  | [], ps, h => by cases h; rfl
  | d :: r, ps, h => by
    obtain ⟨p, h1, h2⟩ := Option.bind_eq_some_iff.mp (show (pairOf d).bind (fun p => (pairsOf r).map (p :: ·)) = some ps from h)
    obtain ⟨qs, h3, rfl⟩ := Option.map_eq_some_iff.mp h2
    rw [List.map_cons, ← pairOf_eq h1, ← pairsOf_eq h3]
theorem pairs_at {G : Hp} : ∀ {ps : List (Int × Int)} {vs : List V}, AtL X.K ca G (ps.map dP) vs → ∃ k : V → Int × Int, vs.map k = ps ∧ ∀ x ∈ vs, ∃ t, x = V.ref t ∧ G t = some (.tup [.int (k x).1, .int (k x).2]) := by
  intro ps vs h
  refine ⟨fun x => match x with
    | .ref t => match G t with
      | some (.tup [.int i, .int j]) => (i, j)
      | _ => (0, 0)
    | _ => (0, 0), ?_⟩
  induction ps generalizing vs with
  | nil => cases h; exact ⟨rfl, fun x m => by cases m⟩
  | cons p ps ih =>
    obtain ⟨v, r, rfl, ⟨t, ws, rfl, h1, h2⟩, h3⟩ := h
    obtain ⟨e1, e2⟩ := ih h3
    obtain ⟨u, u', rfl, a1, a2⟩ := atl2 h2
    cases a1
    cases a2
    have g : G t = some (.tup [.int p.1, .int p.2]) := h1.elim id fun z => by cases z.1
    refine ⟨?_, fun x m => ?_⟩
    · rw [List.map_cons, e1]
      simp only [g]
    · rcases List.mem_cons.mp m with rfl | m
      · exact ⟨t, rfl, by simp only [g]⟩
      · exact e2 x m
theorem at_pairs {G : Hp} {k : V → Int × Int} : ∀ {vs : List V}, (∀ x ∈ vs, ∃ t, x = V.ref t ∧ G t = some (.tup [.int (k x).1, .int (k x).2])) → AtL X.K ca G ((vs.map k).map dP) vs
  | [], _ => rfl
  | v :: vs, h => by
    obtain ⟨t, e, g⟩ := h v List.mem_cons_self
    refine ⟨v, vs, rfl, ⟨t, _, e, .inl g, ?_⟩, at_pairs fun x m => h x (List.mem_cons_of_mem _ m)⟩
    exact ⟨_, _, rfl, rfl, _, _, rfl, rfl, rfl⟩
theorem cr_srt : CallR X (.builtin "sorted") (fun xs H Q => rSortedI X.K xs H Q ∨ rSortedPO X.K xs H Q) := cr_sortedI.or cr_sortedPO
theorem vn_srt : VN X ca (fun xs H Q => rSortedI X.K xs H Q ∨ rSortedPO X.K xs H Q) gSrt := by
  intro G H W1 xs ds Q s a w
  unfold gSrt at w
  split at w
  · obtain ⟨v, rfl, p, vs, rfl, h1, h2⟩ := atl1 a
    split at w
    · rename_i ns e
      rw [intsOf_at e h2] at h1
      refine .inl ⟨p, ns, rfl, .of (s _ _ h1), fun ms q pm so n => ?_⟩
      rw [srtI_uniq pm so]
      exact new_lst s w (AtL.of_ints _) n
    · split at w
      · rename_i ps e
        rw [pairsOf_eq e] at h2
        obtain ⟨k, e1, e2⟩ := pairs_at h2
        refine .inr ⟨p, vs, k, rfl, .of (s _ _ h1), fun x m => let ⟨t, z1, z2⟩ := e2 x m; ⟨t, z1, s _ _ z2⟩, fun ys q so sb n => ?_⟩
        have e3 : ys.map k = srtP ps := by
          refine srtP_uniq (e1 ▸ sb.perm.map k) (List.pairwise_map.mpr so)
        have a3 : AtL X.K ca G ((ys.map k).map dP) ys := at_pairs fun x m => e2 x (sb.perm.mem_iff.mp m)
        rw [e3] at a3
        exact new_lst s w a3 n
      · exact w.elim
  · exact w.elim
end
/-! ### xs[::-1] -/
def gRev : D → R D
  | .lst xs => .ok (.lst xs.reverse)
  | _ => .bad
theorem fe_rev {X : Cx} {ca : Cn} {W : WX} {e : Expr} {fa : Ev → R D} {k : Nat} {p1 p2 p3 pos : Pos} (h : FE X ca W e fa) : FE X ca W (.Subscript e (.Slice none none (some (.UnaryOp .USub (.Constant (.int 1) k p1) p2)) p3) pos) (e1 gRev fa) := by
  obtain ⟨t, p, kt⟩ := h.ex
  refine ⟨_, pe_revL p, fun B G H σ ρ Q s b r h => ?_⟩
  refine kt B G H σ ρ _ s b r (Wish.bind h fun d G1 H1 _ x1 w1 v a1 => ?_)
  cases d with
  | lst xs =>
    obtain ⟨q, vs, rfl, h1, h2⟩ := a1
    exact ⟨q, vs, rfl, .of (x1.gh _ _ h1), fun l n => new_lst x1.gh w1 h2.reverse n⟩
  | _ => exact w1.elim
end Tk

namespace Tk
open PySem PySem.Spec L2 PyProof.Rows
/-! ### built-ins by name -/
/-- the module hides none of these -/
structure BT (mg : Str → Option Value) : Prop where
  len : mg "len" = none
  abs : mg "abs" = none
  int : mg "int" = none
  list : mg "list" = none
  tuple : mg "tuple" = none
  min : mg "min" = none
  max : mg "max" = none
  sum : mg "sum" = none
  all : mg "all" = none
  any : mg "any" = none
  sorted : mg "sorted" = none
  isinstance : mg "isinstance" = none
  range : mg "range" = none
  enumerate : mg "enumerate" = none
  zip : mg "zip" = none
  bool : mg "bool" = none
  str : mg "str" = none
  dict : mg "dict" = none
theorem bb_len : bootBuiltins "len" = some (.builtin "len") := by decide +kernel
theorem bb_abs : bootBuiltins "abs" = some (.builtin "abs") := by decide +kernel
theorem bb_int : bootBuiltins "int" = some (.type "int") := by decide +kernel
theorem bb_bool : bootBuiltins "bool" = some (.type "bool") := by decide +kernel
theorem bb_str : bootBuiltins "str" = some (.type "str") := by decide +kernel
theorem bb_dict : bootBuiltins "dict" = some (.type "dict") := by decide +kernel
theorem bb_list : bootBuiltins "list" = some (.type "list") := by decide +kernel
theorem bb_tuple : bootBuiltins "tuple" = some (.type "tuple") := by decide +kernel
theorem bb_min : bootBuiltins "min" = some (.builtin "min") := by decide +kernel
theorem bb_max : bootBuiltins "max" = some (.builtin "max") := by decide +kernel
theorem bb_sum : bootBuiltins "sum" = some (.builtin "sum") := by decide +kernel
theorem bb_all : bootBuiltins "all" = some (.builtin "all") := by decide +kernel
theorem bb_any : bootBuiltins "any" = some (.builtin "any") := by decide +kernel
theorem bb_sorted : bootBuiltins "sorted" = some (.builtin "sorted") := by decide +kernel
theorem bb_isinstance : bootBuiltins "isinstance" = some (.builtin "isinstance") := by decide +kernel
section
variable {X : Cx} {ca : Cn} {W : WX} {e e' : Expr} {es : List Expr} {fl : Ev → R (List D)} {p pos : Pos}
/-- the names stand as the text has them -/
structure Nm (X : Cx) (x : Str) (e : Expr) (es : List Expr) (pos : Pos) : Prop where
  g : Gl X x
  h : starEach (e :: es) X.env = (false, eval e X.env) :: starEach es X.env
  p : (backTo pos (starEach es X.env)).any (·.1) = false
theorem fe_len (T : BT X.mg) (ha : FA X ca W (e :: es) fl) (n : Nm X "len" e es pos := by exact ⟨rfl, rfl, rfl⟩) : FE X ca W (.Call (.Name "len" p) (e :: es) [] pos) (eA gLen fl) := fe_blt call_len vn_len n.g T.len bb_len ha (by decide) (by decide) n.h n.p
theorem fe_abs (T : BT X.mg) (ha : FA X ca W (e :: es) fl) (n : Nm X "abs" e es pos := by exact ⟨rfl, rfl, rfl⟩) : FE X ca W (.Call (.Name "abs" p) (e :: es) [] pos) (eA gAbs fl) := fe_blt call_abs vn_abs n.g T.abs bb_abs ha (by decide) (by decide) n.h n.p
theorem fe_intc (T : BT X.mg) (ha : FA X ca W (e :: es) fl) (n : Nm X "int" e es pos := by exact ⟨rfl, rfl, rfl⟩) : FE X ca W (.Call (.Name "int" p) (e :: es) [] pos) (eA gInt fl) := fe_bty call_int1 vn_int n.g T.int bb_int ha (by decide) (by decide) n.h n.p
theorem fe_listc (T : BT X.mg) (ha : FA X ca W (e :: es) fl) (n : Nm X "list" e es pos := by exact ⟨rfl, rfl, rfl⟩) : FE X ca W (.Call (.Name "list" p) (e :: es) [] pos) (eA gList fl) := fe_bty call_list_of vn_list n.g T.list bb_list ha (by decide) (by decide) n.h n.p
theorem fe_tuplec (T : BT X.mg) (ha : FA X ca W (e :: es) fl) (n : Nm X "tuple" e es pos := by exact ⟨rfl, rfl, rfl⟩) : FE X ca W (.Call (.Name "tuple" p) (e :: es) [] pos) (eA gTuple fl) := fe_bty call_tuple_of vn_tuple n.g T.tuple bb_tuple ha (by decide) (by decide) n.h n.p
theorem fe_min (T : BT X.mg) (ha : FA X ca W (e :: es) fl) (hc : X.calm = true := by rfl) (n : Nm X "min" e es pos := by exact ⟨rfl, rfl, rfl⟩) : FE X ca W (.Call (.Name "min" p) (e :: es) [] pos) (eA gMin fl) := fe_blt (call_minA hc) vn_min n.g T.min bb_min ha (by decide) (by decide) n.h n.p
theorem fe_max (T : BT X.mg) (ha : FA X ca W (e :: es) fl) (hc : X.calm = true := by rfl) (n : Nm X "max" e es pos := by exact ⟨rfl, rfl, rfl⟩) : FE X ca W (.Call (.Name "max" p) (e :: es) [] pos) (eA gMax fl) := fe_blt (call_maxA hc) vn_max n.g T.max bb_max ha (by decide) (by decide) n.h n.p
theorem fe_sum (T : BT X.mg) (ha : FA X ca W (e :: es) fl) (hc : X.calm = true := by rfl) (n : Nm X "sum" e es pos := by exact ⟨rfl, rfl, rfl⟩) : FE X ca W (.Call (.Name "sum" p) (e :: es) [] pos) (eA gSum fl) := fe_blt (cr_sum hc) vn_sum n.g T.sum bb_sum ha (by decide) (by decide) n.h n.p
theorem fe_all (T : BT X.mg) (ha : FA X ca W (e :: es) fl) (hc : X.calm = true := by rfl) (n : Nm X "all" e es pos := by exact ⟨rfl, rfl, rfl⟩) : FE X ca W (.Call (.Name "all" p) (e :: es) [] pos) (eA gAll fl) := fe_blt (cr_all hc) vn_all n.g T.all bb_all ha (by decide) (by decide) n.h n.p
theorem fe_any (T : BT X.mg) (ha : FA X ca W (e :: es) fl) (hc : X.calm = true := by rfl) (n : Nm X "any" e es pos := by exact ⟨rfl, rfl, rfl⟩) : FE X ca W (.Call (.Name "any" p) (e :: es) [] pos) (eA gAny fl) := fe_blt (cr_any hc) vn_any n.g T.any bb_any ha (by decide) (by decide) n.h n.p
theorem fe_sorted (T : BT X.mg) (ha : FA X ca W (e :: es) fl) (n : Nm X "sorted" e es pos := by exact ⟨rfl, rfl, rfl⟩) : FE X ca W (.Call (.Name "sorted" p) (e :: es) [] pos) (eA gSrt fl) := fe_blt cr_srt vn_srt n.g T.sorted bb_sorted ha (by decide) (by decide) n.h n.p
theorem fe_isi (T : BT X.mg) (ha : FA X ca W (e :: es) fl) (n : Nm X "isinstance" e es pos := by exact ⟨rfl, rfl, rfl⟩) : FE X ca W (.Call (.Name "isinstance" p) (e :: es) [] pos) (eA gIsi fl) := fe_blt call_isi vn_isi n.g T.isinstance bb_isinstance ha (by decide) (by decide) n.h n.p
theorem fe_ty_int (T : BT X.mg) (hg : Gl X "int" := by rfl) : FE X ca W (.Name "int" pos) (eC (.ty "int")) := fe_bltn hg T.int bb_int (by decide) (by decide)
theorem fe_ty_bool (T : BT X.mg) (hg : Gl X "bool" := by rfl) : FE X ca W (.Name "bool" pos) (eC (.ty "bool")) := fe_bltn hg T.bool bb_bool (by decide) (by decide)
theorem fe_ty_str (T : BT X.mg) (hg : Gl X "str" := by rfl) : FE X ca W (.Name "str" pos) (eC (.ty "str")) := fe_bltn hg T.str bb_str (by decide) (by decide)
theorem fe_ty_list (T : BT X.mg) (hg : Gl X "list" := by rfl) : FE X ca W (.Name "list" pos) (eC (.ty "list")) := fe_bltn hg T.list bb_list (by decide) (by decide)
theorem fe_ty_tuple (T : BT X.mg) (hg : Gl X "tuple" := by rfl) : FE X ca W (.Name "tuple" pos) (eC (.ty "tuple")) := fe_bltn hg T.tuple bb_tuple (by decide) (by decide)
theorem fe_ty_dict (T : BT X.mg) (hg : Gl X "dict" := by rfl) : FE X ca W (.Name "dict" pos) (eC (.ty "dict")) := fe_bltn hg T.dict bb_dict (by decide) (by decide)
end
/-- a constant of the module -/
def Glb (mg : Str → Option Value) (x : Str) (d : D) : Prop := ∃ u, mg x = some u ∧ RelV (toV d) u ∧ flatD d = true
theorem fe_glb {X : Cx} {ca : Cn} {W : WX} {x : Str} {d : D} {pos : Pos} (h : Glb X.mg x d) (hg : Gl X x := by rfl) (hd : (x == ("__debug__" : Str)) = false := by decide) : FE X ca W (.Name x pos) (eC d) := by
  obtain ⟨u, h1, h2, h3⟩ := h
  exact fe_glob hg h1 h2 (fun G => by cases d <;> first | rfl | cases h3) hd
/-! ### defs -/
structure Def (P : Program) (w : World) (K : PySem.W.Frag) (mg : Str → Option Value) (base : Heap) (ca : Cn) (k : Nat) (x : Str) (ps : List Str) (F : List D → R D) : Prop where
  ex : ∃ f fd, FnOk P w K mg base (L2.CX P w) k f fd ps (spF K ca ps.length F) ∧ mg x = some (.ref f) ∧ PySem.W.keepIn K (.ref f) = true ∧ Binds K fd ps []
/-- a def as it stands behind the top -/
structure FunAt (K : PySem.W.Frag) (mg : Str → Option Value) (x : Str) (st : Stmt) : Prop where
  ex : ∃ f fd, Fun K x x st f fd ∧ mg x = some (.ref f)
theorem fe_d {X : Cx} {ca : Cn} {W : WX} {k j : Nat} {x : Str} {ps : List Str} {Fn : List D → R D} {p pos : Pos} {e : Expr} {es : List Expr} {fa : Ev → R (List D)} (d : Def X.prog X.w X.K X.mg X.base ca k x ps Fn) (hr : Room j X.A) (tk : Takes X W) (ha : FA X ca W (e :: es) fa) (hk : k ≤ j := by decide) (hg : Gl X x := by rfl) (hdb : (x == ("__debug__" : Str)) = false := by decide)
    (he : starEach (e :: es) X.env = (false, eval e X.env) :: starEach es X.env := by rfl) (hpl : (backTo pos (starEach es X.env)).any (·.1) = false := by rfl) : FE X ca W (.Call (.Name x p) (e :: es) [] pos) (eCall ps.length Fn fa) := by
  obtain ⟨f, fd, F, h1, h2, h3⟩ := d.ex
  exact fe_call F (hr.mono hk) tk hg h1 h2 h3 ha hdb he hpl
end Tk

namespace Tk
open PySem PySem.Spec L2 PyProof.Rows
/-! ### binding: which of the written values, the defaults, the keywords' values -/
def pickI {α : Type} : List Nat → List α → List α
  | [], _ => []
  | i :: is, l => match l[i]? with
    | some a => a :: pickI is l
    | none => pickI is l
theorem pick_vals {vs : List V} {us : List Value} (h : Vals vs us) : ∀ is : List Nat, Vals (pickI is vs) (pickI is us)
  | [] => .nil
  | i :: is => by
    unfold pickI
    cases e : vs[i]? with
    | none => rw [h.none_of e]; exact pick_vals h is
    | some x =>
      obtain ⟨u, e2, r⟩ := h.get e
      rw [e2]
      exact .cons r (pick_vals h is)
theorem pick_at {K : PySem.W.Frag} {ca : Cn} {G : Hp} {ds : List D} {vs : List V} (h : AtL K ca G ds vs) : ∀ is : List Nat, AtL K ca G (pickI is ds) (pickI is vs)
  | [] => rfl
  | i :: is => by
    unfold pickI
    cases e : ds[i]? with
    | none =>
      have e2 : vs[i]? = none := by rw [List.getElem?_eq_none_iff] at e ⊢; rw [← h.length]; exact e
      rw [e2]
      exact pick_at h is
    | some d =>
      obtain ⟨v, e2, a⟩ := h.get e
      rw [e2]
      exact ⟨v, _, rfl, a, pick_at h is⟩
def gDk (is : List Nat) (mid : List D) : List D → List D → List D := fun ds zs => pickI is (ds ++ (mid ++ zs))
theorem flat_at {K : PySem.W.Frag} {ca : Cn} {G : Hp} {d : D} (h : flatD d = true) : At K ca G d (toV d) := by
  cases d <;> first | rfl | cases h
theorem flats_at {K : PySem.W.Frag} {ca : Cn} {G : Hp} : ∀ {ds : List D}, ds.all flatD = true → AtL K ca G ds (ds.map toV)
  | [], _ => rfl
  | d :: ds, h => by
    rw [List.all_cons, Bool.and_eq_true] at h
    exact ⟨_, _, rfl, flat_at h.1, flats_at h.2⟩
abbrev kwV (kd : List (Str × D)) : List (Str × V) := kd.map fun q => (q.1, toV q.2)
section
variable {K : PySem.W.Frag} {ca : Cn} {x qual : Str} {params : Arguments} {body : List Stmt} {scope : Scope} {dd : List D} {kd : List (Str × D)} {f : Addr} {fd : FuncData} {ps : List Str}
theorem kb_of {n : Nat} {ks : List Str} {is : List Nat} {mid : List D} {its : List Value} (hm : mid.all flatD = true) (hv : Vals (mid.map toV) its)
    (to : ∀ (s : Shared) (us ws : List Value), K.In s.heap → us.length = n → ws.length = ks.length → BindsTo s fd ⟨us, ks.zip ws⟩ (ps.zip (pickI is (us ++ (its ++ ws))))) : KB K ca fd ps n ks (gDk is mid) :=
  ⟨fun us ws => pickI is (us ++ (its ++ ws)), fun vs zs => pickI is (vs ++ (mid.map toV ++ zs)), ⟨to, fun r1 r2 => pick_vals (r1.append (hv.append r2)) is⟩, fun G ds vs zs ws a b => pick_at (a.append ((flats_at hm).append b)) is⟩
/-- no default is looked up -/
theorem kb_n (F : FunD K x qual params body scope [] (kwV kd) f fd) (n : Nat) (ks : List Str) (is : List Nat)
    (h : ∀ (kV doc pm : Value) (an : Option Addr) (cdv ct : Value) (us ws : List Value), us.length = n → ws.length = ks.length → bindArgs (PySem.W.fnOf x qual params body scope .none kV doc pm an cdv ct) ⟨us, ks.zip ws⟩ = pure (ps.zip (pickI is (us ++ ws)))) : KB K ca fd ps n ks (gDk is []) := by
  obtain ⟨oc, od, dV, kV, doc, pm, an, cdv, ct, osl, rfl, lk, hcd, hD, hK⟩ := F.ex
  rcases hD with ⟨_, rfl⟩ | ⟨e, _⟩
  · exact kb_of rfl .nil fun s us ws _ l1 l2 => BindsTo.of_eq (h kV doc pm an cdv ct us ws l1 l2)
  · exact absurd rfl e
/-- keyword-only defaults -/
theorem kb_k (F : FunD K x qual params body scope [] (kwV kd) f fd) (n : Nat) (ks : List Str) (is : List Nat) (ms : List (Str × D)) (hk : kd ≠ []) (hms : ∀ q ∈ kwV ms, q ∈ kwV kd) (hf : (ms.map (·.2)).all flatD = true)
    (h : ∀ (D : Addr) (doc pm : Value) (an : Option Addr) (cdv ct : Value) (us mv ws : List Value), us.length = n → mv.length = ms.length → ws.length = ks.length →
      KwChain D ((ms.map (·.1)).zip mv) (bindArgs (PySem.W.fnOf x qual params body scope .none (.ref D) doc pm an cdv ct) ⟨us, ks.zip ws⟩) (ps.zip (pickI is (us ++ (mv ++ ws))))) : KB K ca fd ps n ks (gDk is (ms.map (·.2))) := by
  obtain ⟨oc, od, dV, kV, doc, pm, an, cdv, ct, osl, rfl, lk, hcd, hD, hK⟩ := F.ex
  rcases hD with ⟨_, rfl⟩ | ⟨e, _⟩
  · rcases hK with e | ⟨D, rfl, hq⟩
    · exact absurd (List.map_eq_nil_iff.mp e) hk
    · obtain ⟨mv, hl, rk, hks⟩ := kwd_vals (ms := kwV ms) fun q hm => hq q (hms q hm)
      rw [List.length_map] at hl
      have e1 : (kwV ms).map (·.1) = ms.map (·.1) := by rw [List.map_map]; rfl
      have e2 : (kwV ms).map (·.2) = (ms.map (·.2)).map toV := by rw [List.map_map, List.map_map]; rfl
      rw [e1] at hks
      rw [e2] at rk
      exact kb_of hf rk fun s us ws X l1 l2 => BindsTo.of_looks fun M => KwChain.looks X hks (h D doc pm an cdv ct us mv ws l1 hl l2)
  · exact absurd rfl e
/-- defaults, no keyword-only one looked up -/
theorem kb_d (F : FunD K x qual params body scope (dd.map toV) (kwV kd) f fd) (n : Nat) (ks : List Str) (is : List Nat) (hd : dd ≠ []) (hf : dd.all flatD = true)
    (h : ∀ (T : Addr) (kV doc pm : Value) (an : Option Addr) (cdv ct : Value) (us its ws : List Value), us.length = n → its.length = dd.length → ws.length = ks.length →
      ∃ k, bindArgs (PySem.W.fnOf x qual params body scope (.ref T) kV doc pm an cdv ct) ⟨us, ks.zip ws⟩ = seqItems? (.ref T) >>= k ∧ k (some its.toArray) = pure (ps.zip (pickI is (us ++ (its ++ ws))))) : KB K ca fd ps n ks (gDk is dd) := by
  obtain ⟨oc, od, dV, kV, doc, pm, an, cdv, ct, osl, rfl, lk, hcd, hD, hK⟩ := F.ex
  rcases hD with ⟨e, _⟩ | ⟨_, T, o, its, m, rfl, lT, oT, rT⟩
  · exact absurd (List.map_eq_nil_iff.mp e) hd
  · refine kb_of hf rT fun s us ws X l1 l2 => ?_
    obtain ⟨k, e1, e2⟩ := h T kV doc pm an cdv ct us its ws l1 (by rw [← rT.length, List.length_map]) l2
    refine BindsTo.of_looks fun M => ?_
    rw [e1]
    exact looks_items X lT oT (.of_pure e2)
/-- both -/
theorem kb_dk (F : FunD K x qual params body scope (dd.map toV) (kwV kd) f fd) (n : Nat) (ks : List Str) (is : List Nat) (ms : List (Str × D)) (hd : dd ≠ []) (hk : kd ≠ []) (hms : ∀ q ∈ kwV ms, q ∈ kwV kd) (hf : (dd ++ ms.map (·.2)).all flatD = true)
    (h : ∀ (T D : Addr) (doc pm : Value) (an : Option Addr) (cdv ct : Value) (us its mv ws : List Value), us.length = n → its.length = dd.length → mv.length = ms.length → ws.length = ks.length →
      ∃ k, bindArgs (PySem.W.fnOf x qual params body scope (.ref T) (.ref D) doc pm an cdv ct) ⟨us, ks.zip ws⟩ = seqItems? (.ref T) >>= k ∧ KwChain D ((ms.map (·.1)).zip mv) (k (some its.toArray)) (ps.zip (pickI is (us ++ ((its ++ mv) ++ ws))))) : KB K ca fd ps n ks (gDk is (dd ++ ms.map (·.2))) := by
  obtain ⟨oc, od, dV, kV, doc, pm, an, cdv, ct, osl, rfl, lk, hcd, hD, hK⟩ := F.ex
  rcases hD with ⟨e, _⟩ | ⟨_, T, o, its, m, rfl, lT, oT, rT⟩
  · exact absurd (List.map_eq_nil_iff.mp e) hd
  · rcases hK with e | ⟨D, rfl, hq⟩
    · exact absurd (List.map_eq_nil_iff.mp e) hk
    · obtain ⟨mv, hl, rk, hks⟩ := kwd_vals (ms := kwV ms) fun q hm => hq q (hms q hm)
      rw [List.length_map] at hl
      have e1 : (kwV ms).map (·.1) = ms.map (·.1) := by rw [List.map_map]; rfl
      have e2 : (kwV ms).map (·.2) = (ms.map (·.2)).map toV := by rw [List.map_map, List.map_map]; rfl
      rw [e1] at hks
      rw [e2] at rk
      refine kb_of (its := its ++ mv) hf (by rw [List.map_append]; exact rT.append rk) fun s us ws X l1 l2 => ?_
      obtain ⟨k, e1, e2⟩ := h T D doc pm an cdv ct us its mv ws l1 (by rw [← rT.length, List.length_map]) hl l2
      refine BindsTo.of_looks fun M => ?_
      rw [e1]
      exact looks_items X lT oT (KwChain.looks X hks e2)
end
theorem FunD.same {K : PySem.W.Frag} {x x' q q' : Str} {pa pa' : Arguments} {bd bd' : List Stmt} {sc sc' : Scope} {dv dv' : List V} {kw kw' : List (Str × V)} {f : Addr} {fd fd' : FuncData} (F : FunD K x q pa bd sc dv kw f fd) (F' : FunD K x' q' pa' bd' sc' dv' kw' f fd') : fd = fd' := by
  obtain ⟨oc, od, dV, kV, doc, pm, an, cdv, ct, osl, e1, lk, _⟩ := F.ex
  obtain ⟨oc', od', dV', kV', doc', pm', an', cdv', ct', osl', e1', lk', _⟩ := F'.ex
  rw [lk] at lk'
  injection lk' with h
  injection h with h1 h2 h3 h4
  injection h3
/-! ### defs by the head's facts -/
abbrev FD (K : PySem.W.Frag) (x qual : Str) (st : Stmt) (dd : List D) (kd : List (Str × D)) (f : Addr) (fd : FuncData) : Prop := FunD K x qual (defArgs st) (defBody st) (defScope st) (dd.map toV) (kwV kd) f fd
/-- a def of the module as it stands behind the top -/
structure FnAt (K : PySem.W.Frag) (mg : Str → Option Value) (x : Str) (st : Stmt) (dd : List D) (kd : List (Str × D)) : Prop where
  ex : ∃ f fd, FD K x x st dd kd f fd ∧ mg x = some (.ref f)
/-- .. that keeps its promise -/
structure DefA (P : Program) (w : World) (K : PySem.W.Frag) (mg : Str → Option Value) (base : Heap) (ca : Cn) (k : Nat) (x : Str) (st : Stmt) (dd : List D) (kd : List (Str × D)) (ps : List Str) (F : List D → R D) : Prop where
  ex : ∃ f fd, FnOk P w K mg base (L2.CX P w) k f fd ps (spF K ca ps.length F) ∧ mg x = some (.ref f) ∧ FD K x x st dd kd f fd
section
variable {P : Program} {w : World} {K : PySem.W.Frag} {mg : Str → Option Value} {base : Heap} {ca : Cn} {x : Str} {st : Stmt} {dd : List D} {kd : List (Str × D)} {ps N : List Str} {k : Nat} {g : Ev → SO}
theorem DefA.of (h : FnAt K mg x st dd kd) (S : FnScope N ps (defScope st)) (hb : ∀ (f : Addr) (cdv : Value) (A : Around) (outer : List Env) (s : Shared) (H : Hp) (E : XK), Room k (A.deeper (envOfC x (defScope st) s.heap.objs.size f cdv)) →
      FSs (cxOf (L2.CX P w) P w K mg base N x (defScope st) f cdv A outer s H E) ca (fun c d _ H' => E c d H') (defBody st) g) : DefA P w K mg base ca (k + 1) x st dd kd ps (runF N.length g) := by
  obtain ⟨f, fd, F, hm⟩ := h.ex
  exact ⟨f, fd, fn_okD F S (hb f), hm, F⟩
end
section
variable {X : Cx} {ca : Cn} {W : WX} {k j n : Nat} {x : Str} {st : Stmt} {dd : List D} {kd : List (Str × D)} {ps ks : List Str} {Fn : List D → R D} {p pos : Pos} {e : Expr} {es : List Expr} {kws : List Keyword} {fa fk : Ev → R (List D)} {gD : List D → List D → List D}
/-- f(e, ..), every parameter written -/
theorem fe_a (d : DefA X.prog X.w X.K X.mg X.base ca k x st dd kd ps Fn) (hb : ∀ {f fd}, FD X.K x x st dd kd f fd → Binds X.K fd ps []) (hr : Room j X.A) (tk : Takes X W) (ha : FA X ca W (e :: es) fa) (hk : k ≤ j := by decide) (hg : Gl X x := by rfl) (hdb : (x == ("__debug__" : Str)) = false := by decide)
    (he : starEach (e :: es) X.env = (false, eval e X.env) :: starEach es X.env := by rfl) (hpl : (backTo pos (starEach es X.env)).any (·.1) = false := by rfl) : FE X ca W (.Call (.Name x p) (e :: es) [] pos) (eCall ps.length Fn fa) := by
  obtain ⟨f, fd, F, h1, h2⟩ := d.ex
  exact fe_call F (hr.mono hk) tk hg h1 h2.kp (hb h2) ha hdb he hpl
/-- f(e, .., k = v, ..) -/
theorem fe_ak (d : DefA X.prog X.w X.K X.mg X.base ca k x st dd kd ps Fn) (hb : ∀ {f fd}, FD X.K x x st dd kd f fd → KB X.K ca fd ps n ks gD) (hr : Room j X.A) (tk : Takes X W) (ha : FA X ca W (e :: es) fa) (hkw : FK X ca W kws fk) (hk : k ≤ j := by decide) (hg : Gl X x := by rfl)
    (hall : (backToKw pos (keywordEach kws X.env)).all (·.1.isSome) = true := by rfl) (hks : (backToKw pos (keywordEach kws X.env)).filterMap (·.1) = ks := by rfl) (hdb : (x == ("__debug__" : Str)) = false := by decide)
    (he : starEach (e :: es) X.env = (false, eval e X.env) :: starEach es X.env := by rfl) (hpl : ((backTo pos (starEach (e :: es) X.env)).any (·.1) || (backToKw pos (keywordEach kws X.env)).any (·.1.isNone)) = false := by rfl) :
    FE X ca W (.Call (.Name x p) (e :: es) kws pos) (eCallK n ks.length ps.length Fn gD fa fk) := by
  obtain ⟨f, fd, F, h1, h2⟩ := d.ex
  exact fe_callK F (hr.mono hk) tk hg h1 h2.kp (hb h2) ha hkw hall hks hdb he hpl
/-- f(k = v, ..) -/
theorem fe_ak0 (d : DefA X.prog X.w X.K X.mg X.base ca k x st dd kd ps Fn) (hb : ∀ {f fd}, FD X.K x x st dd kd f fd → KB X.K ca fd ps 0 ks gD) (hr : Room j X.A) (tk : Takes X W) (hkw : FK X ca W kws fk) (hk : k ≤ j := by decide) (hg : Gl X x := by rfl)
    (hall : (backToKw pos (keywordEach kws X.env)).all (·.1.isSome) = true := by rfl) (hks : (backToKw pos (keywordEach kws X.env)).filterMap (·.1) = ks := by rfl) (hdb : (x == ("__debug__" : Str)) = false := by decide)
    (hpl : ((backTo pos (starEach [] X.env)).any (·.1) || (backToKw pos (keywordEach kws X.env)).any (·.1.isNone)) = false := by rfl) :
    FE X ca W (.Call (.Name x p) [] kws pos) (eCallK 0 ks.length ps.length Fn gD aN fk) := by
  obtain ⟨f, fd, F, h1, h2⟩ := d.ex
  obtain ⟨u, pk, ku⟩ := hkw.ex
  obtain ⟨g, gV, hbn, hgd⟩ := (hb h2).ex
  refine ⟨fun σ H Q => u σ H fun zs H2 => zs.length = ks.length ∧ spF X.K ca ps.length Fn (gV [] zs) H2 Q (WE W σ), ⟨fun pins s σ H Q I h => ?_⟩, fun B G H σ ρ Q s b r h => ?_⟩
  · refine wpAny_Call_Name_kw (ld_glob I hg h1 ?_ hdb)
    refine PySem.W.callWith_KW0 (h₀ := X.base) I.ok.mod.kin h2.kp hall (thn (pk.run pos pins s σ H _ I h) fun ws s2 ⟨zs, H2, I2, r2, l2, q2⟩ => ⟨I2.kIn, ?_⟩) hpl
    rw [hks]
    exact run_kb F (hr.mono hk) hbn (passAt tk σ) I2 .nil r2 rfl l2 q2
  · refine ku B G H σ ρ _ s b r (Wish.bind (show Wish X.K ca (SV X.K ca Q) G H ((fk ρ).bind fun zs => if ([] : List D).length = 0 ∧ zs.length = ks.length ∧ (gD [] zs).length = ps.length then Fn (gD [] zs) else .bad) (WE W σ) from h) fun zs G2 H2 _ x2 w2 ws a2 => ?_)
    split at w2
    · rename_i hl
      have a3 := hgd G2 [] [] zs ws rfl a2
      exact ⟨by rw [← a2.length]; exact hl.2.1, by rw [← a3.length]; exact hl.2.2, G2, _, x2.gh, a3, w2⟩
    · exact w2.elim
end
/-! ### the head's facts -/
def kwD (kd : List (Str × He.Dv)) : List (Str × V) := kd.map fun q => (q.1, q.2.v [])
structure Says (fa : List He.Fa) (fn : List He.DefD) (K : PySem.W.Frag) (mg : Str → Option Value) : Prop where
  h : ∃ hp : Heap, K.In hp ∧ hp.Ns mainGlobals mg
  c : He.SaysD fa fn K
def dvD : D → He.Dv
  | .non => .non
  | .bl b => .bl b
  | .int i => .int i
  | .str s => .str s
  | _ => .non
/-- a def's data, as the head reads it -/
def dfD (p : Str × Option Str) (x qual : Str) (st : Stmt) (dd : List D) (kd : List (Str × D)) : He.DefD := ⟨p, x, qual, defArgs st, defBody st, defScope st, dd.map dvD, kd.map fun q => (q.1, dvD q.2)⟩
theorem dv_eq {K : PySem.W.Frag} {d : D} (h : flatD d = true) : (dvD d).v K = toV d := by
  cases d <;> first | rfl | cases h
section
variable {fa : List He.Fa} {fn : List He.DefD} {K : PySem.W.Frag} {mg : Str → Option Value} {x : Str} {st : Stmt} {dd : List D} {kd : List (Str × D)}
theorem Says.fd (T : Says fa fn K mg) (i : Nat) {p : Str × Option Str} {q : Str} (hi : fn[i]? = some (dfD p x q st dd kd)) (h1 : dd.all flatD = true) (h2 : (kd.map (·.2)).all flatD = true) : ∃ fd, FD K x q st dd kd (He.fAd K p) fd := by
  obtain ⟨fd, F⟩ := T.c.def_ i hi
  have e1 : He.DefD.dvs K (dfD p x q st dd kd) = dd.map toV := by
    show (dd.map dvD).map (He.Dv.v K) = _
    rw [List.map_map]
    exact List.map_congr_left fun d m => dv_eq (List.all_eq_true.mp h1 d m)
  have e2 : He.DefD.kws K (dfD p x q st dd kd) = kwV kd := by
    show (kd.map fun q => (q.1, dvD q.2)).map (fun q => (q.1, q.2.v K)) = _
    rw [List.map_map]
    refine List.map_congr_left fun d m => ?_
    show (d.1, (dvD d.2).v K) = (d.1, toV d.2)
    rw [dv_eq (List.all_eq_true.mp h2 d.2 (List.mem_map.mpr ⟨d, m, rfl⟩))]
  rw [e1, e2] at F
  exact ⟨fd, F⟩
/-- the module's def x: its fact by place j, its data by place i -/
theorem Says.dfn (T : Says fa fn K mg) (j i : Nat) (hj : fa[j]? = some (.glo x) := by rfl) (hi : fn[i]? = some (dfD (x, none) x x st dd kd) := by rfl) (h1 : dd.all flatD = true := by rfl) (h2 : (kd.map (·.2)).all flatD = true := by rfl) : FnAt K mg x st dd kd := by
  obtain ⟨hp, X, G⟩ := T.h
  obtain ⟨fd, F⟩ := T.fd i hi h1 h2
  exact ⟨He.fAd K (x, none), fd, F, He.glo_ok X G (T.c.fact j hj)⟩
theorem Says.free (T : Says fa fn K mg) (j : Nat) (hj : fa[j]? = some (.free x) := by rfl) : mg x = none := by
  obtain ⟨hp, X, G⟩ := T.h
  exact He.free_ok X G (T.c.fact j hj)
theorem Says.int (T : Says fa fn K mg) (j : Nat) {i : Int} (hj : fa[j]? = some (.int x i) := by rfl) : Glb mg x (.int i) := by
  obtain ⟨hp, X, G⟩ := T.h
  obtain ⟨t, h⟩ := He.int_ok X G (T.c.fact j hj)
  exact ⟨_, h, ⟨t, rfl⟩, rfl⟩
theorem Says.str (T : Says fa fn K mg) (j : Nat) {z : Str} (hj : fa[j]? = some (.str x z) := by rfl) : Glb mg x (.str z) := by
  obtain ⟨hp, X, G⟩ := T.h
  obtain ⟨t, h⟩ := He.str_ok X G (T.c.fact j hj)
  exact ⟨_, h, ⟨t, rfl⟩, rfl⟩
end
/-- the facts about built-ins: the first of a list -/
def faB : List He.Fa := [.free "len", .free "abs", .free "int", .free "list", .free "tuple", .free "min", .free "max", .free "sum", .free "all", .free "any", .free "sorted", .free "isinstance", .free "range", .free "enumerate", .free "zip", .free "bool", .free "str", .free "dict"]
theorem Says.bt {fa : List He.Fa} {fn : List He.DefD} {K : PySem.W.Frag} {mg : Str → Option Value} (T : Says (faB ++ fa) fn K mg) : BT mg :=
  ⟨T.free 0, T.free 1, T.free 2, T.free 3, T.free 4, T.free 5, T.free 6, T.free 7, T.free 8, T.free 9, T.free 10, T.free 11, T.free 12, T.free 13, T.free 14, T.free 15, T.free 16, T.free 17⟩
end Tk

namespace Tk
open PySem PySem.Spec L2 PyProof.Rows
/-! ### own lists changed by their methods -/
/-- what a method does with an own list, by data; its value is none -/
def MutR (K : PySem.W.Frag) (ca : Cn) (r : V → List V → Hp → VK → Prop) (g : List D → List D → Option (List D)) : Prop :=
  ∀ (G H : Hp) (l : Addr) (xs ds xs' : List D) (vs ys : List V) (Q : VK), Same G H → H l = some (.lst vs) → AtL K ca G xs vs → AtL K ca G ds ys → g xs ds = some xs' → (∀ vs', AtL K ca G xs' vs' → Q .non (upd H l (.lst vs'))) → r (.ref l) ys H Q
def sMut (i : Nat) (g : List D → List D → Option (List D)) (fl : Ev → R (List D)) : Ev → SO := fun ρ => SO.from ρ (ownL ρ i) fun xs => SO.from ρ (fl ρ) fun ds => match g xs ds with
  | some xs' => .nx (ρ.set i (.l xs'))
  | none => .bad
def mRev (xs : List D) (ds : List D) : Option (List D) := match ds with
  | [] => some xs.reverse
  | _ => none
def mClr (_ : List D) (ds : List D) : Option (List D) := match ds with
  | [] => some []
  | _ => none
def mIns (xs : List D) (ds : List D) : Option (List D) := match ds with
  | [.int i, d] => if xs.length < sizeLine ∧ 0 ≤ i ∧ i < 2 ^ 63 then some (xs.take i.toNat ++ [d] ++ xs.drop i.toNat) else none
  | _ => none
def mExt (xs : List D) (ds : List D) : Option (List D) := match ds with
  | [.lst ys] => if xs.length + ys.length ≤ sizeLine then some (xs ++ ys) else none
  | _ => none
theorem mut_rev {K : PySem.W.Frag} {ca : Cn} : MutR K ca rReverse mRev := fun G H l xs ds xs' vs ys Q s h a b e q => by
  unfold mRev at e
  split at e
  · cases e; cases b; exact ⟨l, vs, rfl, rfl, h, q _ a.reverse⟩
  · cases e
theorem mut_clr {K : PySem.W.Frag} {ca : Cn} : MutR K ca rClear mClr := fun G H l xs ds xs' vs ys Q s h a b e q => by
  unfold mClr at e
  split at e
  · cases e; cases b; exact ⟨l, vs, rfl, rfl, h, q [] rfl⟩
  · cases e
theorem mut_ext {K : PySem.W.Frag} {ca : Cn} : MutR K ca rExtend mExt := fun G H l xs ds xs' vs ys Q s h a b e q => by
  unfold mExt at e
  split at e
  · split at e
    · rename_i hl
      cases e
      obtain ⟨v, rfl, p, ws, rfl, h1, h2⟩ := atl1 b
      exact ⟨l, p, vs, ws, rfl, rfl, h, s _ _ h1, by rw [← a.length, ← h2.length]; exact hl, q _ (a.append h2)⟩
    · cases e
  · cases e
abbrev rInsert : V → List V → Hp → VK → Prop := fun x vs H Q => ∃ (l : Addr) (xs : List V) (i : Int) (y : V), x = .ref l ∧ vs = [.int i, y] ∧ H l = some (.lst xs) ∧ xs.length < sizeLine ∧ 0 ≤ i ∧ i < 2 ^ 63 ∧
    Q .non (upd H l (.lst (xs.take i.toNat ++ [y] ++ xs.drop i.toNat)))
theorem mut_ins {K : PySem.W.Frag} {ca : Cn} : MutR K ca rInsert mIns := fun G H l xs ds xs' vs ys Q s h a b e q => by
  unfold mIns at e
  split at e
  · split at e
    · rename_i hl
      cases e
      obtain ⟨v, w, rfl, b1, b2⟩ := atl2 b
      cases b1
      exact ⟨l, vs, _, w, rfl, rfl, h, by rw [← a.length]; exact hl.1, hl.2.1, hl.2.2, q _ (((a.take _).append (.one b2)).append (a.drop _))⟩
    · cases e
  · cases e
section
variable {X : Cx} {ca : Cn} {W : WX} {e : Expr} {es : List Expr} {fl : Ev → R (List D)} {pos apos cpos py : Pos} {i : Nat} {y m : Str} {id : String} {r : V → List V → Hp → VK → Prop} {g : List D → List D → Option (List D)}
theorem fs_mut (slot : Slot "list" m id) (hty : typeOf (.builtin id) = pure (.type "method_descriptor")) (hm : MtR X id r) (hg : MutR X.K ca r g) (hi : X.N[i]? = some y) (h : FA X ca W (e :: es) fl)
    (hv : Vis X.env.scope y := by first | exact Or.inl rfl | exact Or.inr (Or.inl rfl) | exact Or.inr (Or.inr rfl)) (hd : (y == ("__debug__" : Str)) = false := by decide) (hcd : (y == ("__classdict__" : Str)) = false := by decide)
    (he : starEach (e :: es) X.env = (false, eval e X.env) :: starEach es X.env := by rfl) (hb : attributeBase (.Name y py) m X.env (eval (.Name y py) X.env) = eval (.Name y py) X.env := by rfl) (hw : ((backTo cpos (starEach (e :: es) X.env)).all (fun x => !x.1) && (backToKw cpos (keywordEach [] X.env)).all (fun x => x.1.isSome) && decide ((e :: es).length + ([] : List Keyword).length + (if ([] : List Keyword).isEmpty then 0 else 1) < 30)) = true := by rfl)
    (hl : (apos.endLine == cpos.line) = true := by rfl) (hpl : (backTo cpos (starEach es X.env)).any (·.1) = false := by rfl)
    (hs : swapsWith (.Call (.Attribute (.Name y py) m apos) (e :: es) [] cpos) none pos.line X.env = pure false := by rfl) : FS X ca W (.Expr (.Call (.Attribute (.Name y py) m apos) (e :: es) [] cpos) pos) (sMut i g fl) := by
  obtain ⟨t, p, k⟩ := h.ex
  refine ⟨_, ps_expr (pe_bm PySem.F.plainAttrs_list slot hty hm (pe_var hi hv hd hcd) p hb hw hl he hpl) hs, fun B G H σ ρ D s b r h => ?_⟩
  unfold sMut at h
  cases z : ownL ρ i with
  | ok xs =>
    rw [z] at h
    obtain ⟨q, a, vs, h1, h2, h3, h4, h5⟩ := own_l z r
    refine ⟨_, h1, .inl ⟨rfl, vs, .of h2⟩, k B G H σ ρ _ s b r (WishS.from h b r fun ds G1 H1 _ x w r1 b1 v av => ?_)⟩
    split at w
    · rename_i xs' hx
      refine hg G1 H1 a xs ds xs' vs v _ x.gh (x.hh _ _ h2) (AtL.mono x.gg h3) av hx fun vs' a' => ?_
      obtain ⟨t1, t2, t3⟩ := r1.turn x.gh b1 (t' := .l xs') (o := .lst vs') q rfl rfl h1 ⟨_, upd_same, a'⟩
      exact w _ G1 _ ⟨.refl _, t2, t3, fun c z => .inl z⟩ t1
    · exact w.elim
  | exc x => unfold ownL at z; split at z <;> cases z
  | bad => rw [z] at h; exact h.elim
theorem fs_mut0 (slot : Slot "list" m id) (hty : typeOf (.builtin id) = pure (.type "method_descriptor")) (hm : MtR X id r) (hg : MutR X.K ca r g) (hi : X.N[i]? = some y)
    (hv : Vis X.env.scope y := by first | exact Or.inl rfl | exact Or.inr (Or.inl rfl) | exact Or.inr (Or.inr rfl)) (hd : (y == ("__debug__" : Str)) = false := by decide) (hcd : (y == ("__classdict__" : Str)) = false := by decide)
    (hb : attributeBase (.Name y py) m X.env (eval (.Name y py) X.env) = eval (.Name y py) X.env := by rfl) (hl : (apos.endLine == cpos.line) = true := by rfl)
    (hs : swapsWith (.Call (.Attribute (.Name y py) m apos) [] [] cpos) none pos.line X.env = pure false := by rfl) : FS X ca W (.Expr (.Call (.Attribute (.Name y py) m apos) [] [] cpos) pos) (sMut i g aN) := by
  refine ⟨_, ps_expr (pe_bm0 PySem.F.plainAttrs_list slot hty hm (pe_var hi hv hd hcd) hb hl) hs, fun B G H σ ρ D s b r h => ?_⟩
  unfold sMut at h
  cases z : ownL ρ i with
  | ok xs =>
    rw [z] at h
    obtain ⟨q, a, vs, h1, h2, h3, h4, h5⟩ := own_l z r
    refine ⟨_, h1, .inl ⟨rfl, vs, .of h2⟩, ?_⟩
    have w : WishS X.K ca B G (match g xs [] with | some xs' => .nx (ρ.set i (.l xs')) | none => .bad) D W := h
    split at w
    · rename_i xs' hx
      refine hg G H a xs [] xs' vs [] _ s h2 h3 rfl hx fun vs' a' => ?_
      obtain ⟨t1, t2, t3⟩ := r.turn s b (t' := .l xs') (o := .lst vs') q rfl rfl h1 ⟨_, upd_same, a'⟩
      exact w _ G _ ⟨.refl _, t2, t3, fun c z => .inl z⟩ t1
    · exact w.elim
  | exc x => unfold ownL at z; split at z <;> cases z
  | bad => rw [z] at h; exact h.elim
end
/-- x.pop(), its value let go -/
def mPop (xs : List D) (ds : List D) : Option (List D) := match ds with
  | [] => if xs.length = 0 then none else some xs.dropLast
  | _ => none
abbrev rPopD : V → List V → Hp → VK → Prop := rPop
def sPop (i : Nat) : Ev → SO := fun ρ => SO.from ρ (ownL ρ i) fun xs => if xs.length = 0 then .bad else .nx (ρ.set i (.l xs.dropLast))
theorem AtL.dropLast {K : PySem.W.Frag} {ca : Cn} {G : Hp} : ∀ {ds : List D} {vs : List V}, AtL K ca G ds vs → AtL K ca G ds.dropLast vs.dropLast
  | ds, vs, h => by rw [List.dropLast_eq_take, List.dropLast_eq_take, ← h.length]; exact h.take _
theorem fs_pop {X : Cx} {ca : Cn} {W : WX} {pos apos cpos py : Pos} {i : Nat} {y : Str} (hi : X.N[i]? = some y)
    (hv : Vis X.env.scope y := by first | exact Or.inl rfl | exact Or.inr (Or.inl rfl) | exact Or.inr (Or.inr rfl)) (hd : (y == ("__debug__" : Str)) = false := by decide) (hcd : (y == ("__classdict__" : Str)) = false := by decide)
    (hb : attributeBase (.Name y py) "pop" X.env (eval (.Name y py) X.env) = eval (.Name y py) X.env := by rfl) (hl : (apos.endLine == cpos.line) = true := by rfl)
    (hs : swapsWith (.Call (.Attribute (.Name y py) "pop" apos) [] [] cpos) none pos.line X.env = pure false := by rfl) : FS X ca W (.Expr (.Call (.Attribute (.Name y py) "pop" apos) [] [] cpos) pos) (sPop i) := by
  refine ⟨_, ps_expr (pe_bm0 PySem.F.plainAttrs_list PySem.F.slot_list_pop PySem.F.type_list_pop mt_pop (pe_var hi hv hd hcd) hb hl) hs, fun B G H σ ρ D s b r h => ?_⟩
  unfold sPop at h
  cases z : ownL ρ i with
  | ok xs =>
    rw [z] at h
    obtain ⟨q, a, vs, h1, h2, h3, h4, h5⟩ := own_l z r
    refine ⟨_, h1, .inl ⟨rfl, vs, .of h2⟩, ?_⟩
    have w : WishS X.K ca B G (if xs.length = 0 then .bad else .nx (ρ.set i (.l xs.dropLast))) D W := h
    split at w
    · exact w.elim
    · rename_i hx
      have hl := h3.length
      refine ⟨a, vs, vs[vs.length - 1], rfl, rfl, h2, List.getElem?_eq_getElem (by omega), ?_⟩
      obtain ⟨t1, t2, t3⟩ := r.turn s b (t' := .l xs.dropLast) (o := .lst vs.dropLast) q rfl rfl h1 ⟨_, upd_same, h3.dropLast⟩
      exact w _ G _ ⟨.refl _, t2, t3, fun c z => .inl z⟩ t1
  | exc x => unfold ownL at z; split at z <;> cases z
  | bad => rw [z] at h; exact h.elim
end Tk
namespace Tk
open PySem PySem.Spec L2 PyProof.Rows
theorem hu64 {A : Around} {k : Nat} (hr : Room k A) : A.units + 64 < cLine := by have := hr.un; omega
theorem hu65 {A : Around} {k : Nat} (hr : Room k A) : A.units + 65 < cLine := by have := hr.un; omega
end Tk

namespace Tk
open PySem PySem.Spec L2 PyProof.Rows
/-! ### dicts: by data -/
def keyD : D → Option Key
  | .int i => some (.inl i)
  | .str z => some (.inr z)
  | _ => none
def keysD : List D → Option (List Key)
  | [] => some []
  | d :: r => match keyD d, keysD r with
    | some k, some ks => some (k :: ks)
    | _, _ => none
/-- a tuple of keys -/
def keyT : D → Option (List Key)
  | .tup (d :: r) => keysD (d :: r)
  | _ => none
def getG {κ α : Type} [DecidableEq κ] (kvs : List (κ × α)) (k : κ) : Option α := (kvs.find? fun kv => decide (kv.1 = k)).map (·.2)
def putG {κ α : Type} [DecidableEq κ] (kvs : List (κ × α)) (k : κ) (v : α) : List (κ × α) :=
  if (kvs.any fun kv => decide (kv.1 = k)) = true then kvs.map (fun kv => if kv.1 = k then (kv.1, v) else kv) else kvs ++ [(k, v)]
def gIxA : D → D → R D
  | .dK kvs, d => (optR (keyD d)).bind fun k => optR (getG kvs k)
  | .dT kvs, d => (optR (keyT d)).bind fun k => optR (getG kvs k)
  | a, b => gIx a b
section
variable {K : PySem.W.Frag} {ca : Cn} {G : Hp}
theorem key_at {d : D} {v : V} {k : Key} (a : At K ca G d v) (e : keyD d = some k) : v = kV k := by
  cases d with
  | int i => cases e; cases a; rfl
  | str i => cases e; cases a; rfl
  | _ => cases e
theorem keys_at : ∀ {ds : List D} {vs : List V} {ks : List Key}, AtL K ca G ds vs → keysD ds = some ks → vs = ks.map kV
  | [], _, _, a, e => by cases a; cases e; rfl
  | d :: r, _, ks, a, e => by
    obtain ⟨v, vs, rfl, a1, a2⟩ := a
    unfold keysD at e
    cases z1 : keyD d with
    | none => rw [z1] at e; cases e
    | some k =>
      cases z2 : keysD r with
      | none => rw [z1, z2] at e; cases e
      | some ks' =>
        rw [z1, z2] at e
        cases e
        rw [key_at a1 z1, keys_at a2 z2]
        rfl
theorem AtK.get : ∀ {kvs : List (Key × D)} {vs : List (Key × V)} (k : Key), AtK K ca G kvs vs → match getG kvs k with
    | some d => ∃ v, valV vs k = some v ∧ At K ca G d v
    | none => valV vs k = none
  | [], _, k, h => by cases h; rfl
  | (k', d) :: kvs, _, k, ⟨v, r, e, h, t⟩ => by
    subst e
    unfold getG valV
    rw [List.find?_cons, List.find?_cons]
    by_cases z : k' = k
    · simp only [z, decide_true]
      exact ⟨v, rfl, h⟩
    · simp only [z, decide_false]
      exact AtK.get k t
theorem AtT.get : ∀ {kvs : List (List Key × D)} {vs : List (List Key × V)} (k : List Key), AtT K ca G kvs vs → match getG kvs k with
    | some d => ∃ v, valV vs k = some v ∧ At K ca G d v
    | none => valV vs k = none
  | [], _, k, h => by cases h; rfl
  | (k', d) :: kvs, _, k, ⟨v, r, e, h, t⟩ => by
    subst e
    unfold getG valV
    rw [List.find?_cons, List.find?_cons]
    by_cases z : k' = k
    · simp only [z, decide_true]
      exact ⟨v, rfl, h⟩
    · simp only [z, decide_false]
      exact AtT.get k t
theorem AtK.any : ∀ {kvs : List (Key × D)} {vs : List (Key × V)} (k : Key), AtK K ca G kvs vs → (kvs.any fun kv => decide (kv.1 = k)) = (vs.any fun kv => decide (kv.1 = k))
  | [], _, k, h => by cases h; rfl
  | (k', d) :: kvs, _, k, ⟨v, r, e, h, t⟩ => by subst e; rw [List.any_cons, List.any_cons, AtK.any k t]
theorem AtK.app : ∀ {kvs kws : List (Key × D)} {vs ws : List (Key × V)}, AtK K ca G kvs vs → AtK K ca G kws ws → AtK K ca G (kvs ++ kws) (vs ++ ws)
  | [], _, _, _, h, h' => by cases h; exact h'
  | (_, _) :: _, _, _, _, ⟨v, r, e, h, t⟩, h' => by subst e; exact ⟨v, _, rfl, h, AtK.app t h'⟩
theorem AtK.upd1 : ∀ {kvs : List (Key × D)} {vs : List (Key × V)} {k : Key} {d : D} {v : V}, AtK K ca G kvs vs → At K ca G d v → AtK K ca G (kvs.map fun kv => if kv.1 = k then (kv.1, d) else kv) (vs.map fun kv => if kv.1 = k then (kv.1, v) else kv)
  | [], _, k, d, v, h, a => by cases h; rfl
  | (k', d') :: kvs, _, k, d, v, ⟨v', r, e, h, t⟩, a => by
    subst e
    rw [List.map_cons, List.map_cons]
    have ih := AtK.upd1 (k := k) t a
    by_cases z : k' = k
    · rw [if_pos z, if_pos z]; exact ⟨v, _, rfl, a, ih⟩
    · rw [if_neg z, if_neg z]; exact ⟨v', _, rfl, h, ih⟩
theorem AtK.put {kvs : List (Key × D)} {vs : List (Key × V)} {k : Key} {d : D} {v : V} (h : AtK K ca G kvs vs) (a : At K ca G d v) : AtK K ca G (putG kvs k d) (putK vs k v) := by
  unfold putG putK
  rw [h.any k]
  split
  · exact h.upd1 a
  · exact h.app ⟨v, [], rfl, a, rfl⟩
theorem AtK.length : ∀ {kvs : List (Key × D)} {vs : List (Key × V)}, AtK K ca G kvs vs → kvs.length = vs.length
  | [], _, h => by cases h; rfl
  | (_, _) :: _, _, ⟨v, r, e, h, t⟩ => by subst e; rw [List.length_cons, List.length_cons, AtK.length t]
end
def rDG : R2 := fun x y H Q => ∃ a v, x = .ref a ∧ DGet H a y (some v) ∧ Q v H
theorem ix_dget {X : Cx} (hu : X.A.units + 1 < cLine) : IxR X rDG := by
  intro value slice pins s σ H x y v u Q I rx ry h hs
  obtain ⟨a, z, rfl, g, q⟩ := h
  cases rx
  have hT := dict_typeIs I g
  unfold subscriptTail
  refine wpAny_bind ?_
  rw [getitemInPython_of_ne hT.not_modules]
  refine wpAny_bind (wpAny_specialOf hT PySem.F.slot_dict_getitem.lookup ?_)
  have fin : wpAny (model X.prog X.w) X.A (subscripted slice false (.ref a) u) (fun r s₃ => wpAny (model X.prog X.w) X.A (letTemporaryGo value (.ref a) r >>= fun _ => pure r) (EP X pins σ Q) X.xe s₃) X.xe s := by
    rw [hs]
    exact wpAny_operating (wpAny_mono (d_getItem (E := X.xe) (Q := EP X pins σ Q) hu I g ry fun w' s3 I3 rw' => ⟨z, H, I3, rw', q⟩) (fun r s₃ h₃ => wpAny_bind (wpAny_letTemporaryGo (wpAny_pure h₃))) fun _ _ x => x)
  first
    | exact wpAny_pure (wpAny_bind fin)
    | exact wpAny_bind (wpAny_pure (wpAny_bind fin))
    | exact wpAny_bind fin
section
variable {X : Cx} {ca : Cn} {W : WX} {a b e : Expr} {fa fb : Ev → R D} {pos : Pos}
theorem v2_ixA : V2 X ca (fun x y H Q => rIx X.K x y H Q ∨ rDG x y H Q) gIxA := by
  intro G H W1 x y d k Q s ax ay w
  unfold gIxA at w
  split at w
  · rename_i kvs
    obtain ⟨kk, e1, w⟩ := wish_opt w
    obtain ⟨p, vs, rfl, h1, h2⟩ := ax
    obtain ⟨z, e2, w⟩ := wish_opt' w
    have g := h2.get kk
    rw [e2] at g
    obtain ⟨v, g1, g2⟩ := g
    rw [key_at ay e1]
    refine .inr ⟨p, v, rfl, ?_, w.here s _ g2⟩
    rw [← g1]
    exact DGet.k (s _ _ h1)
  · rename_i kvs
    obtain ⟨kk, e1, w3⟩ := wish_opt w
    obtain ⟨p, vs, rfl, h1, h2⟩ := ax
    obtain ⟨z, e2, w4⟩ := wish_opt' w3
    have g := h2.get kk
    rw [e2] at g
    obtain ⟨v, g1, g2⟩ := g
    have fin : Q v H := w4.here s _ g2
    unfold keyT at e1
    split at e1
    · obtain ⟨q, ws, rfl, t1, t2⟩ := ay
      have e3 := keys_at t2 e1
      subst e3
      rcases t1 with t1 | ⟨t1, t3⟩
      · refine .inr ⟨p, v, rfl, ?_, fin⟩
        rw [← g1]
        exact DGet.t (s _ _ h1) (s _ _ t1)
      · have l := t2.length
        rw [t1] at l
        cases l
    · cases e1
  · exact .inl (v2_ix G H W1 x y d k Q s ax ay w)
theorem fe_ixA (hu : X.A.units + 65 < cLine) (hs : PlainIx b) (ha : FE X ca W a fa) (hb : FE X ca W b fb) : FE X ca W (.Subscript a b pos) (e2 gIxA fa fb) := by
  obtain ⟨ta, pa, ka⟩ := ha.ex
  obtain ⟨tb, pb, kb⟩ := hb.ex
  refine ⟨_, pe_ix (ix_seq.or (ix_dget (by omega))) pa pb hs, fun B G H σ ρ Q s b r h => ?_⟩
  refine ka B G H σ ρ _ s b r (Wish.bind h fun d G1 H1 _ x1 w1 v a1 => ?_)
  refine kb B G1 H1 σ ρ _ x1.gh (b.trans x1.hh) (r.ext x1) (Wish.bind w1 fun d2 G2 H2 _ x2 w2 v2 a2 => ?_)
  exact v2_ixA G2 H2 _ v v2 d d2 Q x2.gh (At.mono x2.gg a1) a2 w2
end
/-! ### xs.index(y), flat items -/
def idxD (y : D) : List D → Nat → Option Nat
  | [], _ => none
  | d :: r, j => if eqV (toV d) (toV y) = true then some j else idxD y r (j + 1)
def gIdx (xs : List D) : List D → R D
  | [y] => if flatD y = true ∧ xs.all flatD = true then (optR (idxD y xs 0)).bind fun j => .ok (.int (j : Int)) else .bad
  | _ => .bad
theorem flat_is {K : PySem.W.Frag} {ca : Cn} {G : Hp} {d : D} {v : V} (h : flatD d = true) (a : At K ca G d v) : v = toV d := by
  cases d with
  | non => exact a
  | bl _ => exact a
  | int _ => exact a
  | str _ => exact a
  | _ => cases h
theorem flats_is {K : PySem.W.Frag} {ca : Cn} {G : Hp} : ∀ {ds : List D} {vs : List V}, ds.all flatD = true → AtL K ca G ds vs → vs = ds.map toV
  | [], _, _, a => a
  | d :: r, _, h, ⟨v, vs, e, a1, a2⟩ => by
    subst e
    rw [List.all_cons, Bool.and_eq_true] at h
    rw [flat_is h.1 a1, flats_is h.2 a2]
    rfl
theorem flatV_toV {d : D} (h : flatD d = true) : flatV (toV d) = true := by
  cases d <;> first | rfl | cases h
theorem idx_is {y : D} : ∀ {xs : List D} {i j : Nat}, idxD y xs i = some j → i ≤ j ∧ (∃ z, (xs.map toV)[j - i]? = some z ∧ eqV z (toV y) = true) ∧ ∀ m z, m < j - i → (xs.map toV)[m]? = some z → eqV z (toV y) = false
  | [], _, _, e => by cases e
  | d :: r, i, j, e => by
    unfold idxD at e
    split at e
    · cases e
      exact ⟨Nat.le_refl _, ⟨toV d, by simp, by assumption⟩, fun m z hm => by omega⟩
    · rename_i ne
      obtain ⟨h1, ⟨z, h2, h3⟩, h4⟩ := idx_is e
      refine ⟨by omega, ⟨z, ?_, h3⟩, fun m z' hm hz => ?_⟩
      · rw [List.map_cons, show j - i = (j - (i + 1)) + 1 by omega, List.getElem?_cons_succ]; exact h2
      · cases m with
        | zero =>
          rw [List.map_cons, List.getElem?_cons_zero] at hz
          cases hz
          exact Bool.not_eq_true _ ▸ ne
        | succ m =>
          rw [List.map_cons, List.getElem?_cons_succ] at hz
          exact h4 m z' (by omega) hz
def lstD : D → Option (List D)
  | .lst xs => some xs
  | _ => none
def eMtL (g : List D → List D → R D) (fo : Ev → R D) (fl : Ev → R (List D)) : Ev → R D := fun ρ => (fo ρ).bind fun o => (optR (lstD o)).bind fun xs => (fl ρ).bind fun ds => g xs ds
section
variable {X : Cx} {ca : Cn} {W : WX} {o e : Expr} {es : List Expr} {fo : Ev → R D} {fl : Ev → R (List D)} {apos cpos : Pos}
theorem fe_index (ho : FE X ca W o fo) (h : FA X ca W (e :: es) fl)
    (he : starEach (e :: es) X.env = (false, eval e X.env) :: starEach es X.env := by rfl) (hb : attributeBase o "index" X.env (eval o X.env) = eval o X.env := by rfl) (hw : ((backTo cpos (starEach (e :: es) X.env)).all (fun x => !x.1) && (backToKw cpos (keywordEach [] X.env)).all (fun x => x.1.isSome) && decide ((e :: es).length + ([] : List Keyword).length + (if ([] : List Keyword).isEmpty then 0 else 1) < 30)) = true := by rfl)
    (hl : (apos.endLine == cpos.line) = true := by rfl) (hpl : (backTo cpos (starEach es X.env)).any (·.1) = false := by rfl) : FE X ca W (.Call (.Attribute o "index" apos) (e :: es) [] cpos) (eMtL gIdx fo fl) := by
  obtain ⟨to, po, ko⟩ := ho.ex
  obtain ⟨t, p, k⟩ := h.ex
  refine ⟨_, pe_bm PySem.F.plainAttrs_list PySem.F.slot_list_index PySem.F.type_list_index mt_index po p hb hw hl he hpl, fun B G H σ ρ Q s b r h => ?_⟩
  refine ko B G H σ ρ _ s b r (Wish.bind h fun d G1 H1 _ x1 w1 v a1 => ?_)
  obtain ⟨xs, ex, w1⟩ := wish_opt w1
  obtain rfl : d = .lst xs := by unfold lstD at ex; split at ex <;> cases ex; rfl
  obtain ⟨q, vs, rfl, h1, h2⟩ := a1
  refine ⟨.inl ⟨rfl, vs, .of (x1.gh _ _ h1)⟩, k B G1 H1 σ ρ _ x1.gh (b.trans x1.hh) (r.ext x1) (Wish.bind w1 fun ds G2 H2 _ x2 w2 ws a2 => ?_)⟩
  unfold gIdx at w2
  split at w2
  · rename_i y
    split at w2
    · rename_i hf
      obtain ⟨j, ej, w3⟩ := wish_opt w2
      obtain ⟨u, rfl, a3⟩ := atl1 a2
      have e2 := flats_is hf.2 (AtL.mono x2.gg h2)
      have e3 := flat_is hf.1 a3
      subst e2 e3
      obtain ⟨_, ⟨z, i2, i3⟩, i4⟩ := idx_is ej
      exact ⟨q, _, _, j, z, rfl, rfl, .of (x2.hh _ _ (x1.gh _ _ h1)), flatV_toV hf.1, by rw [List.all_map]; exact List.all_eq_true.mpr fun d m => flatV_toV (List.all_eq_true.mp hf.2 d m), i2, i3, fun m z' hm hz => i4 m z' hm hz, w3.here x2.gh _ rfl⟩
    · exact w2.elim
  · exact w2.elim
end
end Tk

namespace Tk
open PySem PySem.Spec L2 PyProof.Rows
/-! ### dict(zip(xs, ys)), lists and tuples alike -/
section
variable {prog : Program} {w : World} {A : Around} {E : Value → Shared → Prop} {s : Shared} {z TI TO T i1 i2 : Addr} {f : Bool} {oT : Obj} {fp1 fp2 : List Addr} {n1 n2 i : Nat} {P1 P2 : Nat → Value → Prop} {St1 St2 : Nat → Heap → Prop}
theorem heldD_item {Q : Value → Shared → Prop} (S : ZipSep2 z TI TO i1 i2 fp1 fp2) (D1 : Draws prog w A i1 fp1 n1 P1 St1) (D2 : Draws prog w A i2 fp2 n2 P2 St2) (hz : IsZipHeld s.heap z TI TO T f) (hT : s.heap.get? T = some oT) (hTI : IsTupOf2 s.heap TI (.ref i1) (.ref i2))
    (st1 : St1 i s.heap) (st2 : St2 i s.heap) (l1 : i < n1) (l2 : i < n2)
    (hQ : ∀ x y h' tk, P1 i x → P2 i y → IsZipHeld h' z TI TO T true → St1 (i + 1) h' → St2 (i + 1) h' → IsTupOf2 h' s.heap.objs.size x y → (∀ c o, c ≠ z → c ≠ i1 → c ≠ i2 → s.heap.get? c = some o → h'.get? c = some o) → Q (.ref s.heap.objs.size) { s with heap := h', toks := tk }) :
    wpAny (model prog w) A (Builtin.«zip.__next__» ⟨[.ref z], []⟩) (fun fin s' => ∃ v, fin = .done (.ret v) ∧ Q v s') E s := by
  obtain ⟨hp, g, d, tk0, os⟩ := s
  show wpAny _ _ (field (.ref z) 2 >>= _) _ _ _
  refine wpAny_bind (wpAny_field hz rfl (x := .bool false) rfl ?_)
  show wpAny _ _ (field (.ref z) 3 >>= _) _ _ _
  refine wpAny_bind (wpAny_field hz rfl (x := .ref TI) rfl ?_)
  refine wpAny_bind (wpAny_seqItems hTI rfl ?_)
  show wpAny _ _ (Builtin.SmallTypes.ownedTupleIsFree (.ref z) >>= _) _ _ _
  refine wpAny_bind (wpAny_tupleHeld_zip hz hT fun g0 hz0 hs0 => ?_)
  replace hs0 : Heap.SameBut z hp g0 := hs0
  simp only [Bool.false_eq_true, if_false]
  refine wpAny_bind ?_
  rw [← Array.forIn_toList]
  simp only [List.forIn_cons, List.forIn_nil]
  refine wpAny_bind (wpAny_bind (wpAny_holding ?_))
  show wpAny _ _ (Builtin.SmallTypes.nextOf (.ref i1) >>= _) _ _ ⟨g0, g, d, tk0, os⟩
  refine wpAny_bind (D1.item i ⟨g0, g, d, tk0, os⟩ _ _ l1 (D1.over st1 hs0 S.zf1) fun x p1 tk1 hx sn1 hp1 => wpAny_pure ?_)
  replace hp1 : Heap.SameBut i1 g0 p1 := hp1
  refine wpAny_pure ?_
  refine wpAny_bind (wpAny_bind (wpAny_holding ?_))
  show wpAny _ _ (Builtin.SmallTypes.nextOf (.ref i2) >>= _) _ _ ⟨p1, g, d, tk1, os⟩
  refine wpAny_bind (D2.item i ⟨p1, g, d, tk1, os⟩ _ _ l2 (D2.over (D2.over st2 hs0 S.zf2) hp1 S.sep1_2) fun y p2 tk2 hy sn2 hp2 => wpAny_pure ?_)
  replace hp2 : Heap.SameBut i2 p1 p2 := hp2
  refine wpAny_pure (wpAny_pure ?_)
  show wpAny _ _ (newTuple [x, y] >>= _) _ _ ⟨p2, g, d, tk2, os⟩
  refine wpAny_bind (wpAny_newTuple ?_)
  have hsz : p2.objs.size = hp.objs.size := by rw [hp2.1, hp1.1, hs0.1]
  have hz3 : IsZipHeld p2 z TI TO T true := hp2.extBut _ _ S.zi2 (hp1.extBut _ _ S.zi1 hz0)
  have hk : ∀ c o, c ≠ z → c ≠ i1 → c ≠ i2 → hp.get? c = some o → p2.get? c = some o := fun c o c1 c2 c3 e => hp2.extBut _ _ c3 (hp1.extBut _ _ c2 (hs0.extBut _ _ c1 e))
  have j1 : St1 (i + 1) p2 := D1.over sn1 hp2 S.sep2_1
  refine wpAny_pure ⟨_, rfl, ?_⟩
  show Q (.ref p2.objs.size) _
  have hpp : IsTupOf2 (p2.push { cls := .type "tuple", data := .seq #[x, y] }) p2.objs.size x y := Heap.get?_push_size _ rfl
  rw [hsz] at hpp ⊢
  exact hQ x y _ tk2 hx hy (Heap.get?_push_of_some _ hz3) (D1.frame _ _ _ j1 fun b hb o e => Heap.get?_push_of_some _ e) (D2.frame _ _ _ sn2 fun b hb o e => Heap.get?_push_of_some _ e) hpp fun c o c1 c2 c3 e => Heap.get?_push_of_some _ (hk c o c1 c2 c3 e)
theorem heldD_end {Q : Fin → Shared → Prop} (S : ZipSep2 z TI TO i1 i2 fp1 fp2) (D1 : Draws prog w A i1 fp1 n1 P1 St1) (D2 : Draws prog w A i2 fp2 n2 P2 St2) (hz : IsZipHeld s.heap z TI TO T f) (hT : s.heap.get? T = some oT) (hTI : IsTupOf2 s.heap TI (.ref i1) (.ref i2))
    (st1 : St1 i s.heap) (st2 : St2 i s.heap) (l1 : i ≤ n1) (l2 : i ≤ n2) (hend : i = n1 ∨ i = n2)
    (hE : ∀ h' tk e, (∀ c o, c ≠ z → c ≠ i1 → c ≠ i2 → s.heap.get? c = some o → h'.get? c = some o) → (∃ o, h'.get? e = some o ∧ o.cls = .type "StopIteration") → E (.ref e) { s with heap := h', toks := tk }) :
    wpAny (model prog w) A (Builtin.«zip.__next__» ⟨[.ref z], []⟩) Q E s := by
  obtain ⟨hp, g, d, tk0, os⟩ := s
  show wpAny _ _ (field (.ref z) 2 >>= _) _ _ _
  refine wpAny_bind (wpAny_field hz rfl (x := .bool false) rfl ?_)
  show wpAny _ _ (field (.ref z) 3 >>= _) _ _ _
  refine wpAny_bind (wpAny_field hz rfl (x := .ref TI) rfl ?_)
  refine wpAny_bind (wpAny_seqItems hTI rfl ?_)
  show wpAny _ _ (Builtin.SmallTypes.ownedTupleIsFree (.ref z) >>= _) _ _ _
  refine wpAny_bind (wpAny_tupleHeld_zip hz hT fun g0 hz0 hs0 => ?_)
  replace hs0 : Heap.SameBut z hp g0 := hs0
  simp only [Bool.false_eq_true, if_false]
  refine wpAny_bind ?_
  rw [← Array.forIn_toList]
  simp only [List.forIn_cons, List.forIn_nil]
  refine wpAny_bind (wpAny_bind (wpAny_holding ?_))
  show wpAny _ _ (Builtin.SmallTypes.nextOf (.ref i1) >>= _) _ _ ⟨g0, g, d, tk0, os⟩
  by_cases hlt : i < n1
  · refine wpAny_bind (D1.item i ⟨g0, g, d, tk0, os⟩ _ _ hlt (D1.over st1 hs0 S.zf1) fun x p1 tk1 hx sn1 hp1 => wpAny_pure ?_)
    replace hp1 : Heap.SameBut i1 g0 p1 := hp1
    refine wpAny_pure ?_
    refine wpAny_bind (wpAny_bind (wpAny_holding ?_))
    show wpAny _ _ (Builtin.SmallTypes.nextOf (.ref i2) >>= _) _ _ ⟨p1, g, d, tk1, os⟩
    have e2 : i = n2 := by omega
    refine wpAny_bind (D2.done ⟨p1, g, d, tk1, os⟩ _ _ (by rw [← e2]; exact D2.over (D2.over st2 hs0 S.zf2) hp1 S.sep1_2) fun q e hq he => ?_)
    exact hE q tk1 e (fun c o c1 c2 c3 x => hq _ _ c3 (hp1.extBut _ _ c2 (hs0.extBut _ _ c1 x))) he
  · have e1 : i = n1 := by omega
    refine wpAny_bind (D1.done ⟨g0, g, d, tk0, os⟩ _ _ (by rw [← e1]; exact D1.over st1 hs0 S.zf1) fun q e hq he => ?_)
    exact hE q tk0 e (fun c o c1 c2 c3 x => hq _ _ c2 (hs0.extBut _ _ c1 x)) he
theorem next_heldD_item {Q : Option Value → Shared → Prop} (S : ZipSep2 z TI TO i1 i2 fp1 fp2) (D1 : Draws prog w A.in1 i1 fp1 n1 P1 St1) (D2 : Draws prog w A.in1 i2 fp2 n2 P2 St2) (hz : IsZipHeld s.heap z TI TO T f) (hT : s.heap.get? T = some oT) (hTI : IsTupOf2 s.heap TI (.ref i1) (.ref i2))
    (st1 : St1 i s.heap) (st2 : St2 i s.heap) (l1 : i < n1) (l2 : i < n2)
    (hQ : ∀ x y h' tk, P1 i x → P2 i y → IsZipHeld h' z TI TO T true → St1 (i + 1) h' → St2 (i + 1) h' → IsTupOf2 h' s.heap.objs.size x y → (∀ c o, c ≠ z → c ≠ i1 → c ≠ i2 → s.heap.get? c = some o → h'.get? c = some o) → Q (some (.ref s.heap.objs.size)) { s with heap := h', toks := tk }) :
    wpAny (model prog w) A (pyNext (.ref z)) Q E s := by
  have ty : s.TypeIs (.ref z) "zip" := ⟨_, hz, rfl⟩
  unfold pyNext
  exact wpAny_bind (wpAny_attempt (wpAny_callSpecial?_slot (name := Str.ofString "__next__") ty F.slot_zip_next
    (wpAny_call_entry F.slot_zip_next ty F.entry_zip_next (heldD_item S D1 D2 hz hT hTI st1 st2 l1 l2 fun x y h' tk a1 a2 a3 a4 a5 a6 a7 => wpAny_pure (hQ x y h' tk a1 a2 a3 a4 a5 a6 a7)) (F.args_zip_next_1 _))))
theorem next_heldD_end {Q : Option Value → Shared → Prop} (S : ZipSep2 z TI TO i1 i2 fp1 fp2) (D1 : Draws prog w A.in1 i1 fp1 n1 P1 St1) (D2 : Draws prog w A.in1 i2 fp2 n2 P2 St2) (hz : IsZipHeld s.heap z TI TO T f) (hT : s.heap.get? T = some oT) (hTI : IsTupOf2 s.heap TI (.ref i1) (.ref i2))
    (st1 : St1 i s.heap) (st2 : St2 i s.heap) (l1 : i ≤ n1) (l2 : i ≤ n2) (hend : i = n1 ∨ i = n2)
    (hQ : ∀ h' tk, (∀ c o, c ≠ z → c ≠ i1 → c ≠ i2 → s.heap.get? c = some o → h'.get? c = some o) → Q none { s with heap := h', toks := tk }) : wpAny (model prog w) A (pyNext (.ref z)) Q E s := by
  have ty : s.TypeIs (.ref z) "zip" := ⟨_, hz, rfl⟩
  unfold pyNext
  refine wpAny_bind (wpAny_attempt (wpAny_callSpecial?_slot (name := Str.ofString "__next__") ty F.slot_zip_next
    (wpAny_call_entry F.slot_zip_next ty F.entry_zip_next (heldD_end S D1 D2 hz hT hTI st1 st2 l1 l2 hend fun h' tk e hk he => ?_) (F.args_zip_next_1 _))))
  obtain ⟨o, ho, hc⟩ := he
  exact wpAny_bind (wpAny_isInstance (T := "StopIteration") (b := true) ⟨o, ho, hc⟩ isSubtype_stop (wpAny_pure (hQ _ _ hk)))
end
theorem zipArgD {prog : Program} {w : World} {z TI TO i1 i2 : Addr} {fp1 fp2 : List Addr} {n1 n2 : Nat} {P1 P2 : Nat → Value → Prop} {St1 St2 : Nat → Heap → Prop} (S : ZipSep2 z TI TO i1 i2 fp1 fp2)
    (D1 : ∀ A : Around, A.handled = none → Draws prog w A i1 fp1 n1 P1 St1) (D2 : ∀ A : Around, A.handled = none → Draws prog w A i2 fp2 n2 P2 St2) (t1 : ∀ h, St1 0 h → ∀ b ∈ fp1, ∃ o, h.get? b = some o) (t2 : ∀ h, St2 0 h → ∀ b ∈ fp2, ∃ o, h.get? b = some o) :
    PairArg prog w "zip" z (z :: TI :: TO :: (fp1 ++ fp2)) [z, TO, i1, i2] (min n1 n2) (fun i k v => P1 i k ∧ P2 i v) (fun h => IsZip h z TI TO .none ∧ IsTupOf2 h TI (.ref i1) (.ref i2) ∧ (∃ a b, IsTupOf2 h TO a b) ∧ St1 0 h ∧ St2 0 h) where
  type := fun s ok => ⟨_, ok.1, rfl⟩
  notDict := by decide
  keep := fun h h' ok hk => by
    obtain ⟨a1, a2, ⟨u, v, a3⟩, a4, a5⟩ := ok
    have A0 : (callerA).handled = none := rfl
    exact ⟨hk _ _ a1, hk _ _ a2, ⟨u, v, hk _ _ a3⟩, (D1 _ A0).frame _ _ _ a4 fun b _ o e => hk _ _ e, (D2 _ A0).frame _ _ _ a5 fun b _ o e => hk _ _ e⟩
  there := fun h ok b hb => by
    obtain ⟨a1, a2, ⟨u, v, a3⟩, a4, a5⟩ := ok
    rcases List.mem_cons.mp hb with rfl | hb
    · exact ⟨_, a1⟩
    · rcases List.mem_cons.mp hb with rfl | hb
      · exact ⟨_, a2⟩
      · rcases List.mem_cons.mp hb with rfl | hb
        · exact ⟨_, a3⟩
        · exact (List.mem_append.mp hb).elim (t1 h a4 b) (t2 h a5 b)
  sub := fun b hb => by
    simp only [List.mem_cons, List.not_mem_nil, or_false] at hb
    have m1 := S.mem1
    have m2 := S.mem2
    rcases hb with rfl | rfl | rfl | rfl <;> simp [m1, m2]
  noKeys := fun A s Q E hA ok h => getAttrOr_miss_zip ok.1 rfl rfl rfl zip_no_keys (by decide +kernel) hA h
  iter := fun A s d Q E hA ok hd hdf h => by
    obtain ⟨hz, hTI, ⟨a, b, hTO⟩, s1, s2⟩ := ok
    have dz : d ≠ z := fun e => hdf (by rw [e]; simp)
    have dTI : d ≠ TI := fun e => hdf (by rw [e]; simp)
    have dTO : d ≠ TO := fun e => hdf (by rw [e]; simp)
    have d1 : ∀ b ∈ fp1, b ≠ d := fun b m e => hdf (by rw [← e]; simp [m])
    have d2 : ∀ b ∈ fp2, b ≠ d := fun b m e => hdf (by rw [← e]; simp [m])
    have A1 : A.in1.handled = none := hA
    have E1 := D1 A.in1 A1
    have E2 := D2 A.in1 A1
    refine wpAny_pyIter_zip hz (h z [z, TO, i1, i2] (fun i h => IsTupOf2 h TI (.ref i1) (.ref i2) ∧ St1 i h ∧ St2 i h ∧
      ((IsZip h z TI TO .none ∧ ∃ a b, IsTupOf2 h TO a b) ∨ ∃ T f oT, IsZipHeld h z TI TO T f ∧ h.get? T = some oT ∧ T ≠ z ∧ T ≠ i1 ∧ T ≠ i2 ∧ T ≠ d)) s.heap s.toks ?_ ⟨hTI, s1, s2, .inl ⟨hz, a, b, hTO⟩⟩ (fun _ _ e => e) fun b hb => .inl hb)
    exact {
      off := fun hm => by
        simp only [List.mem_cons, List.not_mem_nil, or_false] at hm
        rcases hm with e | e | e | e
        · exact dz e
        · exact dTO e
        · exact d1 _ S.mem1 e.symm
        · exact d2 _ S.mem2 e.symm
      frame := fun i h₁ h₂ st hk => by
        obtain ⟨b1, b2, b3, b4⟩ := st
        refine ⟨hk _ _ (Ne.symm dTI) b1, E1.frame _ _ _ b2 fun b m o e => hk _ _ (d1 b m) e, E2.frame _ _ _ b3 fun b m o e => hk _ _ (d2 b m) e, ?_⟩
        rcases b4 with ⟨c1, u, v, c2⟩ | ⟨T, f, oT, c1, c2, r1, r2, r3, r4⟩
        · exact .inl ⟨hk _ _ (Ne.symm dz) c1, u, v, hk _ _ (Ne.symm dTO) c2⟩
        · exact .inr ⟨T, f, oT, hk _ _ (Ne.symm dz) c1, hk _ _ r4 c2, r1, r2, r3, r4⟩
      item := fun i s₁ Q₁ E₁ hi st hds hQ => by
        obtain ⟨b1, b2, b3, b4⟩ := st
        have l1 : i < n1 := Nat.lt_of_lt_of_le hi (Nat.min_le_left ..)
        have l2 : i < n2 := Nat.lt_of_lt_of_le hi (Nat.min_le_right ..)
        have lt : ∀ {c o}, s₁.heap.get? c = some o → s₁.heap.objs.size ≠ c := fun e => Nat.ne_of_gt (Heap.lt_size e)
        have x1 : s₁.heap.objs.size ≠ i1 := let ⟨_, e⟩ := E1.live _ _ b2; lt e
        have x2 : s₁.heap.objs.size ≠ i2 := let ⟨_, e⟩ := E2.live _ _ b3; lt e
        rcases b4 with ⟨c1, u, v, c2⟩ | ⟨T, f, oT, c1, c2, r1, r2, r3, r4⟩
        · refine wpAny_pyNext_zipD2_item S E1 E2 c1 b1 c2 b2 b3 l1 l2 fun x y h' tk p1 p2 a1 a2 a3 a4 a5 a6 hk => ?_
          exact hQ s₁.heap.objs.size x y h' tk ⟨p1, p2⟩ (.inl ⟨_, a5, rfl, _, rfl⟩) ⟨hk _ _ S.TIz S.TITO S.TIi1 S.TIi2 b1, a3, a4, .inr ⟨s₁.heap.objs.size, false, _, a1, a5, lt c1, x1, x2, Nat.ne_of_gt hds⟩⟩
            fun c o hc e => hk c o (fun x => hc (by simp [x])) (fun x => hc (by simp [x])) (fun x => hc (by simp [x])) (fun x => hc (by simp [x])) e
        · refine next_heldD_item S E1 E2 c1 c2 b1 b2 b3 l1 l2 fun x y h' tk p1 p2 a1 a3 a4 a5 hk => ?_
          exact hQ s₁.heap.objs.size x y h' tk ⟨p1, p2⟩ (.inl ⟨_, a5, rfl, _, rfl⟩) ⟨hk _ _ S.TIz S.TIi1 S.TIi2 b1, a3, a4, .inr ⟨T, true, oT, a1, hk _ _ r1 r2 r3 c2, r1, r2, r3, r4⟩⟩
            fun c o hc e => hk c o (fun x => hc (by simp [x])) (fun x => hc (by simp [x])) (fun x => hc (by simp [x])) e
      done := fun s₁ Q₁ E₁ st hQ => by
        obtain ⟨b1, b2, b3, b4⟩ := st
        have l1 : min n1 n2 ≤ n1 := Nat.min_le_left ..
        have l2 : min n1 n2 ≤ n2 := Nat.min_le_right ..
        have hend : min n1 n2 = n1 ∨ min n1 n2 = n2 := by omega
        rcases b4 with ⟨c1, u, v, c2⟩ | ⟨T, f, oT, c1, c2, r1, r2, r3, r4⟩
        · exact wpAny_pyNext_zipD2_end S E1 E2 c1 b1 c2 b2 b3 l1 l2 hend fun h' tk hk => hQ h' tk fun c o hc e => hk c o (fun x => hc (by simp [x])) (fun x => hc (by simp [x])) (fun x => hc (by simp [x])) (fun x => hc (by simp [x])) e
        · exact next_heldD_end S E1 E2 c1 c2 b1 b2 b3 l1 l2 hend fun h' tk hk => hQ h' tk fun c o hc e => hk c o (fun x => hc (by simp [x])) (fun x => hc (by simp [x])) (fun x => hc (by simp [x])) e }
theorem kv_zip : ∀ {ks : List Key} {ys : List V} {vs : List Value}, Vals ys vs → KV (ks.zip ys) (ks.zip vs)
  | [], _, _, _ => .nil
  | _ :: _, _, _, .nil => .nil
  | k :: ks, _, _, .cons r t => .cons ⟨rfl, r⟩ (kv_zip t)
theorem isB_there {b : Bool} {h : Heap} {a : Addr} {items : Array Value} (x : IsB b h a items) : ∃ o, h.get? a = some o := by
  cases b with
  | false => obtain ⟨o, e, _⟩ := x; exact ⟨o, e⟩
  | true => obtain ⟨o, e, _⟩ := x; exact ⟨o, e⟩
theorem sqB_len {b : Bool} {X : Cx} {pins : List (Addr × Obj)} {σ : L2.St} {H : Hp} {s : Shared} {a : Addr} {xs : List V} (I : Inv X pins σ H s) (q : SqB b X.K H a xs) : xs.length ≤ sizeLine := by
  cases b with
  | false => obtain ⟨its, r, p, z⟩ := I.list q; exact z
  | true => obtain ⟨its, r, p, z⟩ := I.tuple q; exact z
def wDz (b c : Bool) (K : PySem.W.Frag) (ta : TA) : TE := fun σ H Q => ta σ H fun vs H1 => ∃ (a1 a2 : Addr) (ks : List Key) (ys : List V), vs = [.ref a1, .ref a2] ∧ SqB b K H1 a1 (ks.map kV) ∧ SqB c K H1 a2 ys ∧ ∀ p, H1 p = none → Q (.ref p) (upd H1 p (.dK (mergeK [] (ks.zip ys))))
theorem pe_dz {X : Cx} (b c : Bool) {e e' : Expr} {ta : TA} {p p2 pos pos2 : Pos} (hc : X.calm = true) (hg : Gl X "zip") (hm : X.mg "zip" = none) (hg2 : Gl X "dict") (hm2 : X.mg "dict" = none) (ha : PA X [e, e'] ta)
    (hs2 : starEach [.Call (.Name "zip" p) [e, e'] [] pos] X.env = [(false, eval (.Call (.Name "zip" p) [e, e'] [] pos) X.env)] := by rfl) (hs : starEach [e, e'] X.env = (false, eval e X.env) :: starEach [e'] X.env := by rfl) (hpl : (backTo pos (starEach [e'] X.env)).any (·.1) = false := by rfl) :
    PE X (.Call (.Name "dict" p2) [.Call (.Name "zip" p) [e, e'] [] pos] [] pos2) (wDz b c X.K ta) := by
  refine ⟨fun pins s σ H Q I h => ?_⟩
  refine Call_ (ld_blt I hg2 hm2 bb_dict (PyProof.Rows.callWith_type1 ?_ hs2 rfl))
  rw [hs2]
  show wpAny _ _ (spliced ((false, eval (.Call (.Name "zip" p) [e, e'] [] pos) X.env) :: [])) _ _ s
  refine Calls.spliced_cons (Call_ (ld_blt I hg hm boot_zip (PyProof.Rows.callWith_type1 (thn (ha.run pos pins s σ H _ I h) fun us s1 ⟨vs, H1, I1, r1, a1, a2, ks, ys, ex, q1, q2, q⟩ => ?_) hs hpl)))
  subst ex
  obtain ⟨u, v, rfl, ru, rv⟩ := vals2 r1
  obtain rfl : u = Value.ref a1 := ru
  obtain rfl : v = Value.ref a2 := rv
  obtain ⟨us, ku, ib1⟩ := inv_sq I1 q1
  obtain ⟨vs, kv, ib2⟩ := inv_sq I1 q2
  have z1 := sqB_len I1 q1
  have z2 := sqB_len I1 q2
  refine zip_begins2 (beginsB b a1 us.toArray) (beginsB c a2 vs.toArray) ib1 ib2 fun h' hz ht ho g1 g2 hsz kp => Calls.spliced_nil ?_
  have I2 : Inv X pins σ H1 { s1 with heap := h' } := I1.kept (t' := s1.toks) kp
  obtain ⟨o1, e1⟩ := isB_there ib1
  obtain ⟨o2, e2⟩ := isB_there ib2
  have l1 : a1 < s1.heap.objs.size := Heap.lt_size e1
  have l2 : a2 < s1.heap.objs.size := Heap.lt_size e2
  have S := zip_sep2 (N := s1.heap.objs.size) (fp1 := [a1]) (fp2 := [a2]) (fun b m => by rw [List.mem_singleton.mp m]; exact l1) (fun b m => by rw [List.mem_singleton.mp m]; exact l2)
  have P := zipArgD (prog := X.prog) (w := X.w) S (fun A hA => drawsB (P := X.prog) (w := X.w) (A := A) hA b s1.heap.objs.size a1 (Nat.ne_of_lt l1) us.toArray)
    (fun A hA => drawsB (P := X.prog) (w := X.w) (A := A) hA c (s1.heap.objs.size + 1) a2 (Nat.ne_of_lt (Nat.lt_succ_of_lt l2)) vs.toArray)
    (fun h st d m => by
      rcases List.mem_cons.mp m with z | m
      · rw [z]; obtain ⟨o, e, _⟩ := st.1.there; exact ⟨o, e⟩
      · rw [List.mem_singleton.mp m]; exact isB_there st.2)
    (fun h st d m => by
      rcases List.mem_cons.mp m with z | m
      · rw [z]; obtain ⟨o, e, _⟩ := st.1.there; exact ⟨o, e⟩
      · rw [List.mem_singleton.mp m]; exact isB_there st.2)
  have ok : IsZip h' (s1.heap.objs.size + 4) (s1.heap.objs.size + 2) (s1.heap.objs.size + 3) .none ∧ IsTupOf2 h' (s1.heap.objs.size + 2) (.ref s1.heap.objs.size) (.ref (s1.heap.objs.size + 1)) ∧ (∃ u v, IsTupOf2 h' (s1.heap.objs.size + 3) u v) ∧
      (ItB b h' s1.heap.objs.size a1 0 ∧ IsB b h' a1 us.toArray) ∧ (ItB c h' (s1.heap.objs.size + 1) a2 0 ∧ IsB c h' a2 vs.toArray) := ⟨hz, ht, ⟨_, _, ho⟩, ⟨itB0 g1, ib1.move fun o e => kp _ _ e⟩, itB0 g2, ib2.move fun o e => kp _ _ e⟩
  have kl : ks.length = us.length := by rw [← ku.length, List.length_map]
  have yl : ys.length = vs.length := kv.length
  have have_ : PairsHave (mixKind X.prog X.w) (min us.toArray.size vs.toArray.size) (fun i k v => us.toArray[i]? = some k ∧ vs.toArray[i]? = some v) (ks.zip vs) := by
    refine ⟨by rw [List.length_zip, kl]; simp, fun i key v hr => ?_⟩
    have h1 : us[i]? = some key := by simpa using hr.1
    have h2 : vs[i]? = some v := by simpa using hr.2
    have li : i < ks.length := by rw [kl]; exact (List.getElem?_eq_some_iff.mp h1).1
    have hk : ks[i]? = some ks[i] := List.getElem?_eq_getElem li
    obtain ⟨u', hu', ru'⟩ := ku.get (i := i) (x := kV ks[i]) (by rw [List.getElem?_map, hk]; rfl)
    rw [h1] at hu'
    cases hu'
    exact ⟨ks[i], by rw [List.getElem?_zip_eq_some]; exact ⟨hk, h2⟩, kV_is ru'⟩
  refine PySem.call_dict_pairs (knd := mixKind X.prog X.w) (kvs := ks.zip vs) P (I2.ok.hd hc) ok have_ (Nat.le_trans (Nat.min_le_left ..) (by rw [List.size_toArray, ← kl]; simpa using z1)) fun h2 tk hd k2 => ?_
  have hf : ∀ d ∈ [s1.heap.objs.size + 4, s1.heap.objs.size + 3, s1.heap.objs.size, s1.heap.objs.size + 1], FpOk X pins H1 d := fun d m => by
    have le : s1.heap.objs.size ≤ d := by
      simp only [List.mem_cons, List.not_mem_nil, or_false] at m
      rcases m with z | z | z | z <;> (rw [z]; first | exact Nat.le_add_right _ _ | exact Nat.le_refl _)
    exact I1.fpOk le (I1.hok.fresh le)
  have hlen : (mergeK [] (ks.zip ys)).length ≤ sizeLine := by
    refine Nat.le_trans (length_mergeK (ks.zip ys) []) ?_
    rw [List.length_nil, Nat.zero_add, List.length_zip]
    exact Nat.le_trans (Nat.min_le_right ..) z2
  have hmm : (h'.objs.size == sysModules) = false := beq_eq_false_iff_ne.mpr (Nat.ne_of_gt I2.big)
  have new : ObjOk X.prog X.w (upd H1 h'.objs.size (.dK (mergeK [] (ks.zip ys)))) h2 h'.objs.size (.dK (mergeK [] (ks.zip ys))) := ⟨hlen, hmm, merged [] (ks.zip vs), KV.merge (kv_zip kv) .nil, hd⟩
  exact ⟨.ref h'.objs.size, _, I2.turnedNew (t' := tk) (ch := [s1.heap.objs.size + 4, s1.heap.objs.size + 3, s1.heap.objs.size, s1.heap.objs.size + 1]) (fun d o nd q => k2 d o nd q) hf (Nat.le_refl _) new, rfl, q _ (I2.hok.fresh (Nat.le_refl _))⟩
/-! by data -/
def mergeG {α : Type} (kvs more : List (Key × α)) : List (Key × α) := more.foldl (fun acc kv => putG acc kv.1 kv.2) kvs
theorem AtK.merge {K : PySem.W.Frag} {ca : Cn} {G : Hp} : ∀ {more kvs : List (Key × D)} {more' kvs' : List (Key × V)}, AtK K ca G more more' → AtK K ca G kvs kvs' → AtK K ca G (mergeG kvs more) (mergeK kvs' more')
  | [], _, _, _, h, h' => by cases h; exact h'
  | (k, d) :: more, kvs, _, kvs', ⟨v, r, e, h, t⟩, h' => by
    subst e
    show AtK K ca G (mergeG (putG kvs k d) more) (mergeK (putK kvs' k v) r)
    exact AtK.merge t (h'.put h)
theorem AtK.zip {K : PySem.W.Frag} {ca : Cn} {G : Hp} : ∀ {ks : List Key} {ds : List D} {vs : List V}, AtL K ca G ds vs → AtK K ca G (ks.zip ds) (ks.zip vs)
  | [], _, _, _ => rfl
  | k :: ks, [], _, h => by cases h; rfl
  | k :: ks, d :: ds, _, ⟨v, r, e, h, t⟩ => by subst e; exact ⟨v, _, rfl, h, AtK.zip t⟩
def eDz (fa fb : Ev → R D) : Ev → R D := fun ρ => (fa ρ).bind fun a => (fb ρ).bind fun b => (optR (seqD a)).bind fun x => (optR (seqD b)).bind fun y => (optR (keysD x.2)).bind fun ks => .ok (.dK (mergeG [] (ks.zip y.2)))
section
variable {X : Cx} {ca : Cn} {W : WX} {e e' : Expr} {fa fb : Ev → R D} {p p2 pos pos2 : Pos}
theorem fe_dz (hc : X.calm = true) (T : BT X.mg) (h : FE X ca W e fa) (h' : FE X ca W e' fb) (hg : Gl X "zip" := by rfl) (hg2 : Gl X "dict" := by rfl) (hs2 : starEach [.Call (.Name "zip" p) [e, e'] [] pos] X.env = [(false, eval (.Call (.Name "zip" p) [e, e'] [] pos) X.env)] := by rfl)
    (hs : starEach [e, e'] X.env = (false, eval e X.env) :: starEach [e'] X.env := by rfl) (hs' : starEach [e'] X.env = (false, eval e' X.env) :: starEach [] X.env := by rfl)
    (hpl : (backTo pos (starEach [e'] X.env)).any (·.1) = false := by rfl) : FE X ca W (.Call (.Name "dict" p2) [.Call (.Name "zip" p) [e, e'] [] pos] [] pos2) (eDz fa fb) := by
  obtain ⟨t, pp, k⟩ := h.ex
  obtain ⟨u, q, l⟩ := h'.ex
  have pz := fun b c => pe_dz (X := X) (p := p) (p2 := p2) (pos := pos) (pos2 := pos2) b c hc hg T.zip hg2 T.dict (pa_cons pp (pa_cons q pa_nil hs') hs) hs2 hs hpl
  have or2 : ∀ {ex : Expr} {w1 w2 : TE}, PE X ex w1 → PE X ex w2 → PE X ex (fun σ H Q => w1 σ H Q ∨ w2 σ H Q) := fun h1 h2 => ⟨fun pins s σ H Q I h => h.elim (h1.run pins s σ H Q I) (h2.run pins s σ H Q I)⟩
  refine ⟨_, or2 (or2 (pz false false) (pz false true)) (or2 (pz true false) (pz true true)), fun B G H σ ρ Q s b r h => ?_⟩
  have go : ∀ bb cc, (∀ d, fa ρ = .ok d → ∀ x, seqD d = some x → x.1 = bb) → (∀ d, fb ρ = .ok d → ∀ x, seqD d = some x → x.1 = cc) → wDz bb cc X.K (tCons t (tCons u tNil)) σ H Q := fun bb cc hb hb' => by
    refine k B G H σ ρ _ s b r (Wish.bind h fun d G1 H1 e1 x1 w1 v a1 => ?_)
    refine l B G1 H1 σ ρ _ x1.gh (b.trans x1.hh) (r.ext x1) (Wish.bind w1 fun d2 G2 H2 e2 x2 w2 v2 a2 => ?_)
    obtain ⟨x, ex, w2⟩ := wish_opt w2
    obtain ⟨y, ey, w2⟩ := wish_opt w2
    obtain ⟨ks, ek, w2⟩ := wish_opt w2
    obtain ⟨a, vs, rfl, h1, h2⟩ := seqD_at (At.mono x2.gg a1) ex
    obtain ⟨a', ws, rfl, h3, h4⟩ := seqD_at a2 ey
    have := hb d e1 x ex
    have := hb' d2 e2 y ey
    subst bb cc
    have ev := keys_at h2 ek
    subst ev
    refine ⟨a, a', ks, ws, rfl, sqB_mono x2.gh h1, sqB_mono x2.gh h3, fun q nq => ?_⟩
    have nG := same_none x2.gh nq
    have ge : Ext G2 H2 (upd G2 q (.dK (mergeK [] (ks.zip ws)))) (upd H2 q (.dK (mergeK [] (ks.zip ws)))) := Ext.new x2.gh nq
    exact w2 _ _ ge (.ref q) ⟨q, _, rfl, upd_same, AtK.mono ge.gg (AtK.merge (AtK.zip h4) rfl)⟩
  have kind : ∀ f : Ev → R D, ∃ bb : Bool, ∀ d, f ρ = .ok d → ∀ x, seqD d = some x → x.1 = bb := fun f => by
    cases z : f ρ with
    | ok d =>
      cases q : seqD d with
      | none => exact ⟨false, fun d' e x ex => by cases e; rw [q] at ex; cases ex⟩
      | some x => exact ⟨x.1, fun d' e y ey => by cases e; rw [q] at ey; cases ey; rfl⟩
    | exc x => exact ⟨false, fun d' e => by cases e⟩
    | bad => exact ⟨false, fun d' e => by cases e⟩
  obtain ⟨bb, hb⟩ := kind fa
  obtain ⟨cc, hc⟩ := kind fb
  cases bb <;> cases cc
  · exact .inl (.inl (go _ _ hb hc))
  · exact .inl (.inr (go _ _ hb hc))
  · exact .inr (.inl (go _ _ hb hc))
  · exact .inr (.inr (go _ _ hb hc))
end
end Tk

namespace Tk
open PySem PySem.Spec L2 PyProof.Rows
/-! ### x.append(y.pop(e)), two own lists -/
def sAppPop (i j : Nat) (f : Ev → R D) : Ev → SO := fun ρ => SO.from ρ (ownL ρ i) fun xs => SO.from ρ (ownL ρ j) fun ys => SO.from ρ (f ρ) fun d => match d with
  | .int n => if 0 ≤ n ∧ n < 9223372036854775808 ∧ xs.length < sizeLine then (match ys[n.toNat]? with
    | some y => .nx ((ρ.set j (.l (ys.eraseIdx n.toNat))).set i (.l (xs ++ [y])))
    | none => .bad) else .bad
  | _ => .bad
section
variable {X : Cx} {ca : Cn} {W : WX} {e : Expr} {f : Ev → R D} {pos apos cpos py apos2 cpos2 pz : Pos} {i j : Nat} {y z : Str}
theorem fs_appPop (hi : X.N[i]? = some y) (hj : X.N[j]? = some z) (h : FE X ca W e f) (ne : i ≠ j := by decide)
    (hv : Vis X.env.scope y := by first | exact Or.inl rfl | exact Or.inr (Or.inl rfl) | exact Or.inr (Or.inr rfl)) (hd : (y == ("__debug__" : Str)) = false := by decide) (hcd : (y == ("__classdict__" : Str)) = false := by decide)
    (hv2 : Vis X.env.scope z := by first | exact Or.inl rfl | exact Or.inr (Or.inl rfl) | exact Or.inr (Or.inr rfl)) (hd2 : (z == ("__debug__" : Str)) = false := by decide) (hcd2 : (z == ("__classdict__" : Str)) = false := by decide)
    (he : starEach [e] X.env = (false, eval e X.env) :: starEach [] X.env := by rfl) (hb2 : attributeBase (.Name z pz) "pop" X.env (eval (.Name z pz) X.env) = eval (.Name z pz) X.env := by rfl)
    (hw2 : ((backTo cpos2 (starEach [e] X.env)).all (fun x => !x.1) && (backToKw cpos2 (keywordEach [] X.env)).all (fun x => x.1.isSome) && decide ([e].length + ([] : List Keyword).length + (if ([] : List Keyword).isEmpty then 0 else 1) < 30)) = true := by rfl) (hl2 : (apos2.endLine == cpos2.line) = true := by rfl) (hpl2 : (backTo cpos2 (starEach [] X.env)).any (·.1) = false := by rfl)
    (he1 : starEach [.Call (.Attribute (.Name z pz) "pop" apos2) [e] [] cpos2] X.env = (false, eval (.Call (.Attribute (.Name z pz) "pop" apos2) [e] [] cpos2) X.env) :: starEach [] X.env := by rfl) (hb : attributeBase (.Name y py) "append" X.env (eval (.Name y py) X.env) = eval (.Name y py) X.env := by rfl)
    (hw : ((backTo cpos (starEach [.Call (.Attribute (.Name z pz) "pop" apos2) [e] [] cpos2] X.env)).all (fun x => !x.1) && (backToKw cpos (keywordEach [] X.env)).all (fun x => x.1.isSome) && decide ([(.Call (.Attribute (.Name z pz) "pop" apos2) [e] [] cpos2 : Expr)].length + ([] : List Keyword).length + (if ([] : List Keyword).isEmpty then 0 else 1) < 30)) = true := by rfl)
    (hl : (apos.endLine == cpos.line) = true := by rfl) (hpl : (backTo cpos (starEach [] X.env)).any (·.1) = false := by rfl)
    (hs : swapsWith (.Call (.Attribute (.Name y py) "append" apos) [.Call (.Attribute (.Name z pz) "pop" apos2) [e] [] cpos2] [] cpos) none pos.line X.env = pure false := by rfl) :
    FS X ca W (.Expr (.Call (.Attribute (.Name y py) "append" apos) [.Call (.Attribute (.Name z pz) "pop" apos2) [e] [] cpos2] [] cpos) pos) (sAppPop i j f) := by
  obtain ⟨t, p, k⟩ := h.ex
  refine ⟨_, ps_expr (pe_bm PySem.F.plainAttrs_list PySem.F.slot_list_append PySem.F.type_list_append mt_append (pe_var hi hv hd hcd) (pa_cons (pe_bm PySem.F.plainAttrs_list PySem.F.slot_list_pop PySem.F.type_list_pop mt_popAt (pe_var hj hv2 hd2 hcd2) (pa_cons p pa_nil he) hb2 hw2 hl2 he hpl2) pa_nil he1) hb hw hl he1 hpl) hs, fun B G H σ ρ D s b r h => ?_⟩
  unfold sAppPop at h
  cases q1 : ownL ρ i with
  | exc x => unfold ownL at q1; split at q1 <;> cases q1
  | bad => rw [q1] at h; exact h.elim
  | ok xs =>
    rw [q1] at h
    cases q2 : ownL ρ j with
    | exc x => unfold ownL at q2; split at q2 <;> cases q2
    | bad => rw [q2] at h; exact h.elim
    | ok ys =>
      rw [q2] at h
      obtain ⟨r1, a, vs, a1, a2, a3, a4, a5⟩ := own_l q1 r
      obtain ⟨r2, c, ws, c1, c2, c3, c4, c5⟩ := own_l q2 r
      have nac : a ≠ c := fun z => ne (r.sep i j _ _ a r1 rfl r2 rfl a1 (by rw [z]; exact c1))
      refine ⟨_, a1, .inl ⟨rfl, vs, .of a2⟩, _, c1, .inl ⟨rfl, ws, .of c2⟩, k B G H σ ρ _ s b r (WishS.from h b r fun d G1 H1 _ x w r3 b1 v av => ?_)⟩
      cases d with
      | int n =>
        cases av
        have w2 : WishS X.K ca B G1 (if 0 ≤ n ∧ n < 9223372036854775808 ∧ xs.length < sizeLine then (match ys[n.toNat]? with
          | some y => .nx ((ρ.set j (.l (ys.eraseIdx n.toNat))).set i (.l (xs ++ [y])))
          | none => .bad) else .bad) D W := w
        split at w2
        · rename_i hn
          split at w2
          · rename_i yy hy
            obtain ⟨u, hu, au⟩ := c3.get hy
            have lw : n.toNat < ws.length := (List.getElem?_eq_some_iff.mp hu).1
            have lc := c3.length
            have la := a3.length
            refine ⟨c, ws, n, n.toNat, u, rfl, rfl, x.hh _ _ c2, by omega, by omega, ?_, hu, ?_⟩
            · exact seqIndex_of hn.1 (by omega)
            · obtain ⟨t1, t2, t3⟩ := r3.turn x.gh b1 (t' := .l (ys.eraseIdx n.toNat)) (o := .lst (ws.eraseIdx n.toNat)) r2 rfl rfl c1 ⟨_, upd_same, (AtL.mono x.gg c3).eraseIdx _⟩
              have e1 : (ρ.set j (.l (ys.eraseIdx n.toNat)))[i]? = some (.l xs) := by rw [List.getElem?_set_ne (Ne.symm ne)]; exact r1
              have e2 : upd H1 c (.lst (ws.eraseIdx n.toNat)) a = some (.lst vs) := by rw [upd_ne nac]; exact x.hh _ _ a2
              refine ⟨a, vs, u, rfl, rfl, e2, by omega, ?_⟩
              obtain ⟨u1, u2, u3⟩ := t1.turn t2 t3 (t' := .l (xs ++ [yy])) (o := .lst (vs ++ [u])) e1 rfl rfl a1 ⟨_, upd_same, (AtL.mono x.gg a3).append (.one (At.mono x.gg au))⟩
              exact w2 _ G1 _ ⟨.refl _, u2, u3, fun c z => .inl z⟩ u1
          · exact w2.elim
        · exact w2.elim
      | _ => exact w.elim
end
end Tk

set_option maxHeartbeats 2000000
namespace Tk
open PySem PySem.Spec L2 PyProof.Rows
/-! ### the end -/
/-- what the head gives for a law: its def keeps the mirror's promise -/
def LawOk (l : PySem.W.OpenLaw) (F : List D → R D) (k : Nat) (w : World) (mg : Str → Option Value) (fa : Addr) (h : Heap) : Prop :=
  ∃ (K : PySem.W.Frag) (fd : FuncData) (ca : Cn), K.In h ∧ (∀ (s : Shared) (u : Value), BindsTo s fd ⟨[u], []⟩ [("script", u)]) ∧ ∀ b : Heap, K.In b → b.Ns mainGlobals mg → FnOk l.prog w K mg b (L2.CX l.prog w) k fa fd ["script"] (spF K ca 1 F)
theorem law_walk {l : PySem.W.OpenLaw} {k : Nat} {q : Program} {loose : List Str} {XP : (Str → Option Value) → Heap → Prop} {YP : World → Heap → Prop} {d : DefRec} {F : List D → R D} (hn : l.most = some 63) (hdf : d.params.defaults = []) (hr : Room k callerA)
    (hF : ∀ (w : World) (mg : Str → Option Value) (fa : Addr) (h : Heap), YP w h → h.Ns mainGlobals mg → mg d.name = some (.ref fa) → LawOk l F k w mg fa h) (hl : ∀ ns : List Int, ns.length ≤ 63 → F [.scr ns] = .ok (.bl true)) :
    PySem.W.WalkO q loose XP YP l.row.toRowW d [] (fun f vs => PySem.call f vs) := by
  refine Att.attach_call hn hdf fun w s0 s1 mg mb fa o pm cd doc a vs ns G Y ho hd hcd hmg hobj hints hlen hg => ?_
  obtain ⟨K, fd, ca, KX, hb, go⟩ := hF w mg fa _ Y G.T.g hmg
  refine law_call KX G.T.g G.T.b G.T.builtins G.T.nolimit hg hobj hints (Nat.le_trans hlen (by decide)) hr go hb (fun H hO hS => ?_) fun H e s' z => let ⟨_, _, _, _, _, _, _, _, _, _, _, _, y⟩ := z; y
  refine ⟨rfl, H, [.scr ns], .refl H, ⟨_, [], rfl, ⟨a, rfl, hS⟩, rfl⟩, ?_⟩
  rw [hl ns hlen]
  exact fun G' H' _ v av => av
end Tk

namespace Tk
open PySem PySem.Spec L2 PyProof.Rows
def B__law_cell_1 : Ev → SO := sSet 2 (e2 gMod (e2 gAdd (eV 2) (e2 gMul (e2 gMul (e2 gAdd (eV 3) (eC (.int 3))) (e2 gMod (eA gAbs (aC (e2 gIx (eV 0) (eV 3)) (aN))) (eC (.int 1000003)))) (eC (.int 31)))) (eC (.int 1000003)))
def G__law_cell : Ev → SO := sSq (sIf (tV (e2 gLt (eV 1) (eA gLen (aC (eV 0) (aN))))) (sRet (e2 gIx (eV 0) (eV 1))) (sN)) (sSq (sSet 2 (e2 gMul (eC (.int 7919)) (e2 gAdd (eV 1) (eC (.int 1))))) (sSq (sFor (iR1 (eA gLen (aC (eV 0) (aN)))) (gN 3) (B__law_cell_1)) (sRet (eV 2))))
def F__law_cell : List D → R D := runF 4 G__law_cell
def G__law_mixed : Ev → SO := sSq (sSet 2 (e2 gMod (e2 gAdd (e2 gMul (e2 gMod (eA gAbs (aC (eV 0) (aN))) (eC (.int 2147483647))) (eC (.int 48271))) (e2 gMul (e2 gAdd (eV 1) (eC (.int 1))) (eC (.int 69621)))) (eC (.int 2147483647)))) (sSq (sSet 2 (e2 gMod (e2 gAdd (e2 gMul (eV 2) (e2 gAdd (e2 gMod (eV 2) (eC (.int 46337))) (eC (.int 16807)))) (e2 gMul (e2 gAdd (eV 1) (eC (.int 7))) (eC (.int 7919)))) (eC (.int 2147483629)))) (sSq (sSet 2 (e2 gMod (e2 gMul (eV 2) (e2 gAdd (e2 gMod (eV 2) (eC (.int 32749))) (eC (.int 48271)))) (eC (.int 2147483647)))) (sRet (e2 gDiv (eV 2) (eC (.int 11))))))
def F__law_mixed : List D → R D := runF 3 G__law_mixed
def B__law_pool_1 : Ev → SO := sIf (tAnd (tV (eV 3)) (tV (e2 gGt (eV 2) (eC (.int 0))))) (sSq (sApp 4 (e2 gMod (eV 2) (eC (.int 5040)))) (sSet 2 (e2 gDiv (eV 2) (eC (.int 5040))))) (sApp 4 (eCall 2 F__law_mixed (aC (eV 0) (aC (eV 5) (aN)))))
def G__law_pool : Ev → SO := sSq (sSet 2 (eA gAbs (aC (eV 0) (aN)))) (sSq (sSet 3 (e2 gGe (eV 2) (e2 gPow (eC (.int 10)) (eC (.int 18))))) (sSq (sOwn 4 (lDisp (aN))) (sSq (sFor (iR1 (eV 1)) (gN 5) (B__law_pool_1)) (sFrz 4 (sRet (eV 4))))))
def F__law_pool : List D → R D := runF 6 G__law_pool
def G__law_part : Ev → SO := sRet (e2 gMod (e2 gDiv (eA gInt (aC (e2 gIx (eV 0) (eV 1)) (aN))) (eV 2)) (eV 3))
def F__law_part : List D → R D := runF 4 G__law_part
def B__law_far_1 : Ev → SO := sSet 3 (e2 gAdd (e2 gMul (eV 3) (eC (.int 5040))) (e2 gMod (eA gInt (aC (e2 gIx (eV 0) (e2 gAdd (eV 1) (eV 4))) (aN))) (eC (.int 5040))))
def G__law_far : Ev → SO := sSq (sSet 3 (eC (.int 0))) (sSq (sFor (iR1 (eV 2)) (gN 4) (B__law_far_1)) (sRet (eV 3)))
def F__law_far : List D → R D := runF 5 G__law_far
def G__law_chosen : Ev → SO := sSq (sSet 6 (eCall 4 F__law_part (aC (eV 0) (aC (eV 1) (aC (eV 2) (aC (eC (.int 10)) (aN))))))) (sSq (sSet 7 (eCall 4 F__law_part (aC (eV 0) (aC (eV 1) (aC (e2 gMul (eC (.int 10)) (eV 2)) (aC (eV 3) (aN))))))) (sSq (sIf (tV (e2 gEq (eV 6) (eC (.int 8)))) (sRet (e2 gSub (eV 4) (eV 7))) (sN)) (sSq (sIf (tV (e2 gEq (eV 6) (eC (.int 9)))) (sRet (e2 gMod (eA gInt (aC (eV 5) (aN))) (e2 gAdd (eV 4) (eC (.int 1))))) (sN)) (sRet (eV 7)))))
def F__law_chosen : List D → R D := runF 8 G__law_chosen
def B__law_names_1 : Ev → SO := sSet 4 (e2 gAdd (e2 gAdd (eV 4) (e2 gIx (eV 3) (eCall 4 F__law_part (aC (eV 0) (aC (e2 gAdd (eV 1) (eV 5)) (aC (eC (.int 1)) (aC (eC (.int 26)) (aN)))))))) (e2 gIx (eV 3) (eCall 4 F__law_part (aC (eV 0) (aC (e2 gAdd (eV 1) (eV 5)) (aC (eC (.int 26)) (aC (eC (.int 26)) (aN))))))))
def B__law_names_2 : Ev → SO := sSq (sSet 12 (e2 gMod (eA gInt (aC (e2 gAdd (eV 5) (eV 6)) (aN))) (eC (.int 6)))) (sIf (tV (e2 gEq (eCall 4 F__law_part (aC (eV 0) (aC (e2 gAdd (eV 1) (eC (.int 4))) (aC (eC (.int 1)) (aC (eC (.int 2)) (aN)))))) (eC (.int 0)))) (sApp 11 (e2 gAdd (e2 gAdd (e2 gAdd (eSl (eV 9) (oN) (oS (eV 7))) (e2 gIx (eV 3) (e2 gMod (eA gInt (aC (e2 gAdd (eV 8) (e2 gMul (eC (.int 7)) (eV 12))) (aN))) (eC (.int 26))))) (eSl (eV 9) (oS (eV 7)) (oN))) (eV 10))) (sApp 11 (eSl (eV 4) (oN) (oS (e2 gAdd (eV 12) (eC (.int 1)))))))
def G__law_names : Ev → SO := sSq (sSet 3 (eC (.str "abcdefghijklmnopqrstuvwxyz"))) (sSq (sSet 4 (eC (.str ""))) (sSq (sFor (iR1 (eC (.int 3))) (gN 5) (B__law_names_1)) (sSq (sSet 6 (eCall 4 F__law_part (aC (eV 0) (aC (e2 gAdd (eV 1) (eC (.int 3))) (aC (eC (.int 1)) (aC (eC (.int 6)) (aN))))))) (sSq (sSet 7 (eCall 4 F__law_part (aC (eV 0) (aC (e2 gAdd (eV 1) (eC (.int 3))) (aC (eC (.int 6)) (aC (eC (.int 7)) (aN))))))) (sSq (sSet 8 (eCall 4 F__law_part (aC (eV 0) (aC (e2 gAdd (eV 1) (eC (.int 3))) (aC (eC (.int 42)) (aC (eC (.int 26)) (aN))))))) (sSq (sSet 9 (eSl (eV 4) (oN) (oS (eCall 4 F__law_part (aC (eV 0) (aC (e2 gAdd (eV 1) (eC (.int 4))) (aC (eC (.int 4)) (aC (eC (.int 7)) (aN))))))))) (sSq (sSet 10 (eSl (eV 4) (oN) (oS (eCall 4 F__law_part (aC (eV 0) (aC (e2 gAdd (eV 1) (eC (.int 4))) (aC (eC (.int 2)) (aC (eC (.int 2)) (aN))))))))) (sSq (sOwn 11 (lDisp (aN))) (sSq (sFor (iR1 (eV 2)) (gN 5) (B__law_names_2)) (sFrz 11 (sRet (eV 11))))))))))))
def F__law_names : List D → R D := runF 13 G__law_names
def G__law_integer : Ev → SO := sRet (eAnd (eA gIsi (aC (eV 0) (aC (eC (.ty "int")) (aN)))) (eNot (eA gIsi (aC (eV 0) (aC (eC (.ty "bool")) (aN))))))
def F__law_integer : List D → R D := runF 1 G__law_integer
def B__law_same_1 (Fr : List D → R D) : Ev → SO := sIf (tNot (tV (eCall 2 Fr (aC (e2 gIx (eV 0) (eV 2)) (aC (e2 gIx (eV 1) (eV 2)) (aN)))))) (sRet (eC (.bl false))) (sN)
def G__law_same (Fr : List D → R D) : Ev → SO := sSq (sIf (tV (e2 gIsN (eV 1) (eC .non))) (sRet (e2 gIsN (eV 0) (eC .non))) (sN)) (sSq (sIf (tV (e2 (gIsB false) (eV 1) (eC (.bl true)))) (sRet (e2 (gIsB false) (eV 0) (eC (.bl true)))) (sN)) (sSq (sIf (tV (e2 (gIsB false) (eV 1) (eC (.bl false)))) (sRet (e2 (gIsB false) (eV 0) (eC (.bl false)))) (sN)) (sSq (sIf (tV (eA gIsi (aC (eV 1) (aC (eC (.ty "int")) (aN))))) (sRet (eAnd (eCall 1 F__law_integer (aC (eV 0) (aN))) (e2 gEq (eV 0) (eV 1)))) (sN)) (sSq (sIf (tV (eA gIsi (aC (eV 1) (aC (eC (.ty "str")) (aN))))) (sRet (eAnd (eA gIsi (aC (eV 0) (aC (eC (.ty "str")) (aN)))) (e2 gEq (eV 0) (eV 1)))) (sN)) (sSq (sIf (tAnd (tV (eA gIsi (aC (eV 1) (aC (eC (.ty "tuple")) (aN))))) (tNot (tV (eA gIsi (aC (eV 0) (aC (eC (.ty "tuple")) (aN))))))) (sRet (eC (.bl false))) (sN)) (sSq (sIf (tAnd (tV (eA gIsi (aC (eV 1) (aC (eC (.ty "list")) (aN))))) (tNot (tV (eA gIsi (aC (eV 0) (aC (eC (.ty "list")) (aN))))))) (sRet (eC (.bl false))) (sN)) (sSq (sIf (tV (e2 gNe (eA gLen (aC (eV 0) (aN))) (eA gLen (aC (eV 1) (aN))))) (sRet (eC (.bl false))) (sN)) (sSq (sFor (iR1 (eA gLen (aC (eV 1) (aN)))) (gN 2) (B__law_same_1 Fr)) (sRet (eC (.bl true)))))))))))
def Fr__law_same : Nat → List D → R D
  | 0 => runF 3 sBad
  | n + 1 => runF 3 (G__law_same (Fr__law_same n))
def F__law_same : List D → R D := Fr__law_same 6
def G_is_name : Ev → SO := sSq (sIf (tNot (tV (eChain gLe gLe (eC (.int 1)) (eA gLen (aC (eV 0) (aN))) (eC (.int 8))))) (sRet (eC (.bl false))) (sN)) (sRet (eA gAll (aC (eLc [1] (iSq (eV 0)) (gN 1) (tsY) (e2 (gInS false) (eV 1) (eC (.str "abcdefghijklmnopqrstuvwxyz")))) (aN))))
def F_is_name : List D → R D := runF 2 G_is_name
def G_names_of : Ev → SO := sRet (eLc [1, 2, 3] (iSq (eV 0)) (gT 3 (gsC (gN 1) (gsC (gN 2) (gsC (gN 3) (gsN))))) (tsY) (eV 1))
def F_names_of : List D → R D := runF 4 G_names_of
def B_check_bidders_1 : Ev → SO := sSq (sIf (tNot (tV (eCall 1 F_is_name (aC (eV 2) (aN))))) (sBad) (sN)) (sSq (sIf (tV (e2 (gInS false) (eV 2) (eCall 1 F_names_of (aC (eSl (eV 0) (oN) (oS (eV 1))) (aN))))) (sBad) (sN)) (sSq (sIf (tNot (tV (eChain gLe gLe (eC (.int 1)) (eV 3) (eC (.int 1000))))) (sBad) (sN)) (sIf (tNot (tV (eChain gLe gLe (eC (.int 0)) (eV 4) (eC (.int 1000000000))))) (sBad) (sN))))
def G_check_bidders : Ev → SO := sSq (sIf (tV (e2 gGt (eA gLen (aC (eV 0) (aN))) (eC (.int 6)))) (sBad) (sN)) (sFor (iEn2 (eV 0)) (gT 2 (gsC (gN 1) (gsC (gT 3 (gsC (gN 2) (gsC (gN 3) (gsC (gN 4) (gsN))))) (gsN)))) (B_check_bidders_1))
def F_check_bidders : List D → R D := runF 5 G_check_bidders
def G_check_floor : Ev → SO := sIf (tNot (tV (eChain gLe gLe (eC (.int 0)) (eV 0) (eC (.int 1000000000000))))) (sBad) (sN)
def F_check_floor : List D → R D := runF 1 G_check_floor
def G_check_hours : Ev → SO := sIf (tNot (tV (eChain gLe gLe (eC (.int 1)) (eV 0) (eC (.int 3))))) (sBad) (sN)
def F_check_hours : List D → R D := runF 1 G_check_hours
def G_strengths_of : Ev → SO := sRet (eLc [1, 2, 3] (iSq (eV 0)) (gT 3 (gsC (gN 1) (gsC (gN 2) (gsC (gN 3) (gsN))))) (tsY) (e2 gMul (eV 2) (eV 3)))
def F_strengths_of : List D → R D := runF 4 G_strengths_of
def G_ranking : Ev → SO := sRet (eLc [3, 1] (iSq (eA gSrt (aC (eLc [1, 2] (iEn2 (eCall 1 F_strengths_of (aC (eV 0) (aN)))) (gT 2 (gsC (gN 1) (gsC (gN 2) (gsN)))) (tsY) (eA gTup (aC (e1 gNeg (eV 2)) (aC (eV 1) (aN))))) (aN)))) (gT 2 (gsC (gN 3) (gsC (gN 1) (gsN)))) (tsY) (eV 1))
def F_ranking : List D → R D := runF 4 G_ranking
def G_ladder : Ev → SO := sSq (sDrop (eCall 1 F_check_bidders (aC (eV 0) (aN)))) (sSq (sDrop (eCall 1 F_check_hours (aC (eV 1) (aN)))) (sSq (sDrop (eCall 1 F_check_floor (aC (eV 2) (aN)))) (sSq (sSet 3 (eCall 1 F_strengths_of (aC (eV 0) (aN)))) (sSq (sSet 4 (eLc [5] (iSq (eCall 1 F_ranking (aC (eV 0) (aN)))) (gN 5) (tV (e2 gGe (e2 gIx (eV 3) (eV 5)) (eV 2))) (eV 5))) (sRet (eA gTuple (aC (eLc [5] (iSq (eSl (eV 4) (oN) (oS (eV 1)))) (gN 5) (tsY) (e2 gIx (e2 gIx (eV 0) (eV 5)) (eC (.int 0)))) (aN))))))))
def F_ladder : List D → R D := runF 6 G_ladder
def B__law_bidders_1 : Ev → SO := sSq (sSet 6 (e2 gAdd (e2 gAdd (eV 1) (eC (.int 5))) (e2 gMul (eC (.int 5)) (eV 5)))) (sSq (sSet 7 (e2 gAdd (eC (.int 1)) (eCall 6 F__law_chosen (aC (eV 0) (aC (eV 6) (aC (eC (.int 1)) (aC (eC (.int 4)) (aC (eC (.int 999)) (aC (eCall 3 F__law_far (aC (eV 0) (aC (e2 gAdd (eV 6) (eC (.int 1))) (aC (eC (.int 1)) (aN))))) (aN)))))))))) (sSq (sSet 8 (eCall 6 F__law_chosen (aC (eV 0) (aC (eV 6) (aC (eC (.int 40)) (aC (eC (.int 9)) (aC (e2 gPow (eC (.int 10)) (eC (.int 9))) (aC (eCall 3 F__law_far (aC (eV 0) (aC (e2 gAdd (eV 6) (eC (.int 2))) (aC (eC (.int 3)) (aN))))) (aN))))))))) (sSq (sIf (tV (e2 gEq (eCall 4 F__law_part (aC (eV 0) (aC (e2 gAdd (eV 1) (eC (.int 4))) (aC (eC (.int 28)) (aC (eC (.int 2)) (aN)))))) (eC (.int 0)))) (sSq (sSet 7 (e2 gAdd (eC (.int 1)) (e2 gMod (eA gInt (aC (e2 gSub (eV 7) (eC (.int 1))) (aN))) (eC (.int 4))))) (sSet 8 (e2 gMod (eA gInt (aC (eV 8) (aN))) (eC (.int 9))))) (sN)) (sSq (sIf (tAnd (tV (e2 gLe (eV 7) (eC (.int 4)))) (tV (e2 gLt (eCall 4 F__law_part (aC (eV 0) (aC (e2 gAdd (eV 6) (eC (.int 1))) (aC (eC (.int 1000)) (aC (eC (.int 5)) (aN)))))) (eC (.int 2))))) (sSet 8 (e2 gDiv (eC (.int 12)) (eV 7))) (sN)) (sApp 4 (eA gTup (aC (e2 gIx (eV 3) (eV 5)) (aC (eV 7) (aC (eV 8) (aN))))))))))
def G__law_bidders : Ev → SO := sSq (sSet 3 (eCall 3 F__law_names (aC (eV 0) (aC (eV 1) (aC (eV 2) (aN)))))) (sSq (sOwn 4 (lDisp (aN))) (sSq (sFor (iR1 (eV 2)) (gN 5) (B__law_bidders_1)) (sFrz 4 (sRet (eV 4)))))
def F__law_bidders : List D → R D := runF 9 G__law_bidders
def G__law_sill : Ev → SO := sSq (sSet 3 (eCall 4 F__law_part (aC (eV 0) (aC (eV 1) (aC (eC (.int 1)) (aC (eC (.int 8)) (aN))))))) (sSq (sSet 4 (eCall 4 F__law_part (aC (eV 0) (aC (eV 1) (aC (eC (.int 8)) (aC (eC (.int 60)) (aN))))))) (sSq (sIf (tV (e2 gLt (eV 3) (eC (.int 2)))) (sRet (eC (.int 0))) (sN)) (sSq (sIf (tAnd (tV (e2 gLt (eV 3) (eC (.int 6)))) (tV (e2 gNe (eV 2) (eA gLst (aN))))) (sSq (sAsg (e2 gIx (eV 2) (e2 gMod (eA gInt (aC (eV 4) (aN))) (eA gLen (aC (eV 2) (aN))))) (gT 3 (gsC (gN 5) (gsC (gN 6) (gsC (gN 7) (gsN)))))) (sRet (eA gMin (aC (eA gMax (aC (eC (.int 0)) (aC (e2 gAdd (e2 gMul (eV 6) (eV 7)) (e2 gIx (eA gLst (aC (eC (.int 0)) (aC (eC (.int 0)) (aC (eC (.int 1)) (aC (e1 gNeg (eC (.int 1))) (aN)))))) (e2 gSub (eV 3) (eC (.int 2))))) (aN)))) (aC (e2 gPow (eC (.int 10)) (eC (.int 12))) (aN)))))) (sN)) (sSq (sIf (tV (e2 gEq (eV 3) (eC (.int 6)))) (sRet (eV 4)) (sN)) (sRet (e2 gMod (eA gInt (aC (eCall 3 F__law_far (aC (eV 0) (aC (e2 gAdd (eV 1) (eC (.int 1))) (aC (eC (.int 4)) (aN))))) (aN))) (e2 gAdd (e2 gPow (eC (.int 10)) (eC (.int 12))) (eC (.int 1)))))))))
def F__law_sill : List D → R D := runF 8 G__law_sill
def B__law_ladder_1 : Ev → SO := sSq (sSet 7 (eLc [11] (iR1 (eA gLen (aC (eV 0) (aN)))) (gN 11) (tOr (tV (e2 gGt (e2 gIx (eV 3) (eV 11)) (e2 gIx (eV 3) (eV 6)))) (tAnd (tV (e2 gEq (e2 gIx (eV 3) (eV 11)) (e2 gIx (eV 3) (eV 6)))) (tV (e2 gLt (eV 11) (eV 6))))) (eV 11))) (sIf (tAnd (tV (e2 gEq (eA gLen (aC (eV 7) (aN))) (eV 5))) (tV (e2 gGe (e2 gIx (eV 3) (eV 6)) (eV 2)))) (sApp 4 (e2 gIx (e2 gIx (eV 0) (eV 6)) (eC (.int 0)))) (sN))
def B__law_ladder_2 : Ev → SO := sFor (iR1 (eA gLen (aC (eV 0) (aN)))) (gN 6) (B__law_ladder_1)
def G__law_ladder : Ev → SO := sSq (sSet 3 (eLc [8, 9, 10] (iSq (eV 0)) (gT 3 (gsC (gN 8) (gsC (gN 9) (gsC (gN 10) (gsN))))) (tsY) (e2 gMul (eV 9) (eV 10)))) (sSq (sOwn 4 (lDisp (aN))) (sSq (sFor (iR1 (eV 1)) (gN 5) (B__law_ladder_2)) (sFrz 4 (sRet (eA gTuple (aC (eV 4) (aN)))))))
def F__law_ladder : List D → R D := runF 12 G__law_ladder
def G_passed_over : Ev → SO := sRet (eA gTuple (aC (eLc [3] (iSq (eV 0)) (gN 3) (tAnd (tV (e2 (gInS true) (eV 3) (eV 1))) (tV (e2 gNe (eV 3) (eV 2)))) (eV 3)) (aN)))
def F_passed_over : List D → R D := runF 4 G_passed_over
def B_next_passes_1 : Ev → SO := sIf (tOr (tV (e2 (gInS false) (eV 8) (eV 3))) (tV (e2 gEq (eV 8) (eV 4)))) (sApp 7 (eC (.int 0))) (sIf (tV (e2 (gInS false) (eV 8) (eV 6))) (sApp 7 (eA gMin (aC (e2 gAdd (eV 9) (eC (.int 1))) (aC (eV 5) (aN))))) (sApp 7 (eV 9)))
def G_next_passes : Ev → SO := sSq (sSet 6 (eCall 3 F_passed_over (aC (eV 2) (aC (eV 3) (aC (eV 4) (aN)))))) (sSq (sOwn 7 (lDisp (aN))) (sSq (sFor (iZp2 (eV 0) (eV 1)) (gT 2 (gsC (gN 8) (gsC (gN 9) (gsN)))) (B_next_passes_1)) (sFrz 7 (sRet (eA gTuple (aC (eV 7) (aN)))))))
def F_next_passes : List D → R D := runF 10 G_next_passes
def B_longest_1 : Ev → SO := sIf (tOr (tV (e2 gEq (eV 4) (eC (.str "")))) (tV (e2 gGt (e2 gIxA (eV 3) (eV 5)) (e2 gIxA (eV 3) (eV 4))))) (sSet 4 (eV 5)) (sN)
def G_longest : Ev → SO := sSq (sSet 3 (eDz (eV 0) (eV 1))) (sSq (sSet 4 (eC (.str ""))) (sSq (sFor (iSq (eV 2)) (gN 5) (B_longest_1)) (sRet (eV 4))))
def F_longest : List D → R D := runF 6 G_longest
def B__law_some_1 : Ev → SO := sIf (tV (e2 gEq (eCall 4 F__law_part (aC (eV 0) (aC (eV 1) (aC (e2 gIx (eA gLst (aC (eC (.int 1)) (aC (eC (.int 2)) (aC (eC (.int 4)) (aC (eC (.int 8)) (aN)))))) (eV 4)) (aC (eC (.int 2)) (aN)))))) (eC (.int 1)))) (sApp 3 (e2 gIx (eV 2) (eV 4))) (sN)
def G__law_some : Ev → SO := sSq (sOwn 3 (lDisp (aN))) (sSq (sFor (iR1 (eA gLen (aC (eV 2) (aN)))) (gN 4) (B__law_some_1)) (sFrz 3 (sRet (eV 3))))
def F__law_some : List D → R D := runF 5 G__law_some
end Tk

namespace Tk
open PySem PySem.Spec L2 PyProof.Rows
/-! ### the mirrors' words, worked out -/
def SO.sq (s : SO) (k : Ev → SO) : SO := match s with
  | .nx ρ => k ρ
  | r => r
def SO.lp (s : SO) (k : Ev → SO) : SO := match s with
  | .nx ρ => k ρ
  | .ct ρ => k ρ
  | .bk ρ => .nx ρ
  | r => r
section
variable {ρ : Ev} {k g : Ev → SO} {f fa fb fc : Ev → R D} {t u : Ev → R Bool} {fl : Ev → R (List D)} {d : D} {x : Ex} {i n : Nat} {s : Sl} {xs ds : List D}
@[simp] theorem sq_nx : SO.sq (.nx ρ) k = k ρ := (rfl)
@[simp] theorem sq_rt : SO.sq (.rt d) k = .rt d := (rfl)
@[simp] theorem sq_bk : SO.sq (.bk ρ) k = .bk ρ := (rfl)
@[simp] theorem sq_ct : SO.sq (.ct ρ) k = .ct ρ := (rfl)
@[simp] theorem sq_ex : SO.sq (.ex x ρ) k = .ex x ρ := (rfl)
@[simp] theorem sq_bad : SO.sq .bad k = .bad := (rfl)
@[simp] theorem lp_nx : SO.lp (.nx ρ) k = k ρ := (rfl)
@[simp] theorem lp_ct : SO.lp (.ct ρ) k = k ρ := (rfl)
@[simp] theorem lp_bk : SO.lp (.bk ρ) k = .nx ρ := (rfl)
@[simp] theorem lp_rt : SO.lp (.rt d) k = .rt d := (rfl)
@[simp] theorem lp_ex : SO.lp (.ex x ρ) k = .ex x ρ := (rfl)
@[simp] theorem lp_bad : SO.lp .bad k = .bad := (rfl)
@[simp] theorem sSq_ap : sSq g k ρ = SO.sq (g ρ) k := by unfold sSq SO.sq; cases g ρ <;> rfl
@[simp] theorem sN_ap : sN ρ = .nx ρ := (rfl)
@[simp] theorem sBad_ap : sBad ρ = .bad := (rfl)
@[simp] theorem sRet_ap : sRet f ρ = SO.from ρ (f ρ) .rt := (rfl)
@[simp] theorem sRetN_ap : sRetN ρ = .rt .non := (rfl)
@[simp] theorem sDrop_ap : sDrop f ρ = SO.from ρ (f ρ) fun _ => .nx ρ := (rfl)
@[simp] theorem sIf_ap : sIf t g k ρ = SO.from ρ (t ρ) fun b => if b = true then g ρ else k ρ := (rfl)
@[simp] theorem sSet_ap : sSet i f ρ = SO.from ρ (f ρ) fun d => .nx (ρ.set i (.v d)) := (rfl)
@[simp] theorem sBk_ap : sBk ρ = .bk ρ := (rfl)
@[simp] theorem sCt_ap : sCt ρ = .ct ρ := (rfl)
@[simp] theorem sAsg_ap {h : Tg} : sAsg f h ρ = SO.from ρ (f ρ) fun d => SO.ofO (h d ρ) .nx := (rfl)
@[simp] theorem ofO_none : SO.ofO none k = .bad := (rfl)
@[simp] theorem sFor_ap {h : Tg} : sFor fl h g ρ = SO.from ρ (fl ρ) fun ds => loop h g ds ρ := (rfl)
@[simp] theorem loop_nil {h : Tg} : loop h g [] ρ = .nx ρ := (rfl)
theorem loop_cons {h : Tg} : loop h g (d :: ds) ρ = SO.ofO (h d ρ) fun ρ1 => SO.lp (g ρ1) (loop h g ds) := by
  unfold loop SO.lp SO.ofO
  cases h d ρ with
  | none => rfl
  | some ρ1 =>
    show (match g ρ1 with
      | .nx ρ2 => loop h g ds ρ2
      | .ct ρ2 => loop h g ds ρ2
      | .bk ρ2 => .nx ρ2
      | r => r) = _
    cases e : g ρ1 <;> simp only [e]
theorem wloop_succ : wloop t g (n + 1) ρ = SO.from ρ (t ρ) fun b => if b = true then SO.lp (g ρ) (wloop t g n) else .nx ρ := by
  show SO.from ρ (t ρ) _ = _
  congr 1
@[simp] theorem eV_zero : eV 0 (.v d :: ρ) = .ok d := (rfl)
@[simp] theorem eV_succ : eV (i + 1) (s :: ρ) = eV i ρ := (rfl)
@[simp] theorem eC_ap : eC d ρ = .ok d := (rfl)
@[simp] theorem e1_ap {h : D → R D} : e1 h fa ρ = (fa ρ).bind h := (rfl)
@[simp] theorem e2_ap {h : D → D → R D} : e2 h fa fb ρ = (fa ρ).bind fun a => (fb ρ).bind fun b => h a b := (rfl)
@[simp] theorem eA_ap {h : List D → R D} : eA h fl ρ = (fl ρ).bind h := (rfl)
@[simp] theorem aN_ap : aN ρ = .ok [] := (rfl)
@[simp] theorem aC_ap : aC fa fl ρ = (fa ρ).bind fun a => (fl ρ).bind fun r => .ok (a :: r) := (rfl)
@[simp] theorem Bof_bl {b : Bool} : Bof (.bl b) = .ok b := (rfl)
@[simp] theorem tV_ap : tV fa ρ = (fa ρ).bind Bof := (rfl)
@[simp] theorem tAnd_ap : tAnd t u ρ = (t ρ).bind fun b => if b = true then u ρ else .ok false := (rfl)
@[simp] theorem tOr_ap : tOr t u ρ = (t ρ).bind fun b => if b = true then .ok true else u ρ := (rfl)
@[simp] theorem tNot_ap : tNot t ρ = (t ρ).bind fun b => .ok (!b) := (rfl)
@[simp] theorem eAnd_ap : eAnd fa fb ρ = (fa ρ).bind fun a => (Bof a).bind fun b => if b = true then fb ρ else .ok (.bl false) := (rfl)
@[simp] theorem eOr_ap : eOr fa fb ρ = (fa ρ).bind fun a => (Bof a).bind fun b => if b = true then .ok (.bl true) else fb ρ := (rfl)
@[simp] theorem eNot_ap : eNot fa ρ = (fa ρ).bind fun a => (Bof a).bind fun b => .ok (.bl (!b)) := (rfl)
@[simp] theorem eIf_ap : eIf t fa fb ρ = (t ρ).bind fun b => if b = true then fa ρ else fb ρ := (rfl)
@[simp] theorem eChain_ap {h h' : D → D → R D} : eChain h h' fa fb fc ρ = (fa ρ).bind fun a => (fb ρ).bind fun b => (h a b).bind fun z => (Bof z).bind fun k => if k = true then (fc ρ).bind fun c => h' b c else .ok (.bl false) := (rfl)
@[simp] theorem gN_ap : gN i d ρ = some (ρ.set i (.v d)) := (rfl)
@[simp] theorem gsN_ap : gsN [] ρ = some ρ := (rfl)
@[simp] theorem gsC_ap {h : Tg} {r : Tgs} : gsC h r (d :: ds) ρ = (h d ρ).bind fun ρ' => r ds ρ' := (rfl)
@[simp] theorem gT_ap {h : Tgs} : gT n h (.tup ds) ρ = if ds.length = n then h ds ρ else none := (rfl)
@[simp] theorem frzE_zero : frzE 0 (s :: ρ) = frzS s :: ρ := (rfl)
@[simp] theorem frzE_succ : frzE (i + 1) (s :: ρ) = s :: frzE i ρ := by
  unfold frzE
  rw [List.getElem?_cons_succ]
  cases ρ[i]? <;> rfl
@[simp] theorem frzS_l : frzS (.l xs) = .v (.lst xs) := (rfl)
@[simp] theorem frzS_v : frzS (.v d) = .v d := (rfl)
@[simp] theorem frzS_no : frzS .no = .no := (rfl)
@[simp] theorem frzA_nil : frzA [] = [] := (rfl)
@[simp] theorem frzA_cons : frzA (s :: ρ) = frzS s :: frzA ρ := (rfl)
@[simp] theorem sFrz_ap : sFrz i g ρ = g (frzE i ρ) := (rfl)
@[simp] theorem ownL_zero : ownL (.l xs :: ρ) 0 = .ok xs := (rfl)
@[simp] theorem ownL_succ : ownL (s :: ρ) (i + 1) = ownL ρ i := (rfl)
@[simp] theorem lDisp_ap : lDisp fl ρ = (fl ρ).bind fun ds => if ds.length ≤ sizeLine then .ok ds else .bad := (rfl)
@[simp] theorem lList_ap : lList f ρ = (f ρ).bind fun d => match d with
  | .lst xs => .ok xs
  | .tup xs => .ok xs
  | .scr ns => .ok (ns.map .int)
  | _ => .bad := (rfl)
@[simp] theorem sOwn_ap : sOwn i fl ρ = SO.from ρ (fl ρ) fun ds => .nx (ρ.set i (.l ds)) := (rfl)
@[simp] theorem sApp_ap : sApp i f ρ = SO.from ρ (ownL ρ i) fun xs => SO.from ρ (f ρ) fun d => if xs.length < sizeLine then .nx (ρ.set i (.l (xs ++ [d]))) else .bad := (rfl)
@[simp] theorem sMut_ap {h : List D → List D → Option (List D)} : sMut i h fl ρ = SO.from ρ (ownL ρ i) fun xs => SO.from ρ (fl ρ) fun ds => match h xs ds with
  | some xs' => .nx (ρ.set i (.l xs'))
  | none => .bad := (rfl)
@[simp] theorem sPop_ap : sPop i ρ = SO.from ρ (ownL ρ i) fun xs => if xs.length = 0 then .bad else .nx (ρ.set i (.l xs.dropLast)) := (rfl)
@[simp] theorem eBor_ap : eBor f ρ = (f (frzA ρ)).quiet.bind fun d => if scalD d = true then .ok d else .bad := (rfl)
@[simp] theorem tBor_ap : tBor t ρ = (t (frzA ρ)).quiet := (rfl)
@[simp] theorem wipeE_nil : wipeE ρ [] = ρ := (rfl)
@[simp] theorem wipeE_cons {vs : List Nat} : wipeE ρ (i :: vs) = (wipeE ρ vs).set i .no := (rfl)
@[simp] theorem eLc_ap {zs : List Nat} {h : Tg} : eLc zs fl h t f ρ = (fl ρ).bind fun ds => if ds.length ≤ sizeLine then (lcL h t f (wipeE ρ zs) ds).bind fun rs => .ok (.lst rs) else .bad := (rfl)
@[simp] theorem tsY_ap : tsY ρ = .ok true := (rfl)
@[simp] theorem iSq_ap : iSq fa ρ = (fa ρ).bind gIt := (rfl)
@[simp] theorem gIt_lst : gIt (.lst xs) = .ok xs := (rfl)
@[simp] theorem gIt_tup : gIt (.tup xs) = .ok xs := (rfl)
@[simp] theorem gIt_str {z : Str} : gIt (.str z) = .ok (signs z) := (rfl)
@[simp] theorem iR1_ap : iR1 fa ρ = (fa ρ).bind fun d => match d with
  | .int j => if small62 j then .ok (rgD 0 j.toNat) else .bad
  | _ => .bad := (rfl)
@[simp] theorem iR2_ap : iR2 fa fb ρ = (fa ρ).bind fun a => (fb ρ).bind fun b => match a, b with
  | .int i, .int j => if small62 i ∧ small62 j then .ok (rgD i (j - i).toNat) else .bad
  | _, _ => .bad := (rfl)
@[simp] theorem iEn2_ap : iEn2 fa ρ = (fa ρ).bind fun d => (optR (seqD d)).bind fun x => .ok (enumD 0 x.2) := (rfl)
@[simp] theorem iZp2_ap : iZp2 fa fb ρ = (fa ρ).bind fun a => (fb ρ).bind fun b => (optR (seqD a)).bind fun x => (optR (seqD b)).bind fun y => .ok (zipD x.2 y.2) := (rfl)
@[simp] theorem seqD_lst : seqD (.lst xs) = some (false, xs) := (rfl)
@[simp] theorem seqD_tup : seqD (.tup xs) = some (true, xs) := (rfl)
@[simp] theorem oN_ap : oN ρ = .ok none := (rfl)
@[simp] theorem oS_ap : oS f ρ = (f ρ).bind fun d => match d with
  | .int i => .ok (some i)
  | _ => .bad := (rfl)
@[simp] theorem eSl_ap {ga gb : Ev → R (Option Int)} : eSl fa ga gb ρ = (fa ρ).bind fun a => (ga ρ).bind fun l => (gb ρ).bind fun h => gSl a l h := (rfl)
@[simp] theorem eCall_ap {F : List D → R D} : eCall n F fl ρ = (fl ρ).bind fun ds => if ds.length = n then F ds else .bad := (rfl)
@[simp] theorem eCallK_ap {m p : Nat} {F : List D → R D} {gD : List D → List D → List D} {fk : Ev → R (List D)} : eCallK n m p F gD fl fk ρ = (fl ρ).bind fun ds => (fk ρ).bind fun zs => if ds.length = n ∧ zs.length = m ∧ (gD ds zs).length = p then F (gD ds zs) else .bad := (rfl)
@[simp] theorem out_nx : SO.out (.nx ρ) = .ok .non := (rfl)
@[simp] theorem out_rt : SO.out (.rt d) = .ok d := (rfl)
@[simp] theorem out_ex : SO.out (.ex x ρ) = .exc x := (rfl)
@[simp] theorem runF_ap : runF n g ds = (g (startE n ds)).out := (rfl)
@[simp] theorem start_nil : startE n [] = List.replicate n .no := (rfl)
theorem start_cons : startE (n + 1) (d :: ds) = .v d :: startE n ds := by
  unfold startE
  rw [List.map_cons, List.cons_append, List.length_cons, Nat.add_sub_add_right]
@[simp] theorem start_cons' : startE n (d :: ds) = if n = 0 then .v d :: ds.map .v else .v d :: startE (n - 1) ds := by
  cases n with
  | zero => simp [startE]
  | succ n => rw [start_cons]; simp
/-! operators at data -/
@[simp] theorem gSub_int {i j : Int} : gSub (.int i) (.int j) = .ok (.int (i - j)) := (rfl)
@[simp] theorem gAdd_int {i j : Int} : gAdd (.int i) (.int j) = .ok (.int (i + j)) := (rfl)
@[simp] theorem gNeg_int {i : Int} : gNeg (.int i) = .ok (.int (-i)) := (rfl)
@[simp] theorem gLt_int {i j : Int} : gLt (.int i) (.int j) = .ok (.bl (decide (i < j))) := (rfl)
@[simp] theorem gLe_int {i j : Int} : gLe (.int i) (.int j) = .ok (.bl (decide (i ≤ j))) := (rfl)
@[simp] theorem gGt_int {i j : Int} : gGt (.int i) (.int j) = .ok (.bl (decide (j < i))) := (rfl)
@[simp] theorem gGe_int {i j : Int} : gGe (.int i) (.int j) = .ok (.bl (decide (j ≤ i))) := (rfl)
@[simp] theorem gEq_int {i j : Int} : gEq (.int i) (.int j) = .ok (.bl (decide (i = j))) := (rfl)
@[simp] theorem gEq_str {i j : Str} : gEq (.str i) (.str j) = .ok (.bl (decide (i = j))) := (rfl)
@[simp] theorem gEq_bl {i j : Bool} : gEq (.bl i) (.bl j) = .ok (.bl (decide (i = j))) := (rfl)
@[simp] theorem gNe_def {a b : D} : gNe a b = rNot (gEq a b) := (rfl)
@[simp] theorem rNot_bl {b : Bool} : rNot (.ok (.bl b)) = .ok (.bl (!b)) := (rfl)
@[simp] theorem gMod_int {i j : Int} (h : 0 < j) : gMod (.int i) (.int j) = .ok (.int (i % j)) := if_pos h
theorem log2_small {n : Nat} (h : n < 2 ^ 64) : n.log2 < 9000 := by
  by_cases z : n = 0
  · subst z; decide
  · exact Nat.lt_of_lt_of_le ((Nat.log2_lt z).mpr h) (by decide)
@[simp] theorem gDiv_int {i j : Int} (h : 0 < j) (h2 : j < 18446744073709551616) : gDiv (.int i) (.int j) = .ok (.int (i / j)) := if_pos ⟨h, log2_small (by omega : j.natAbs < 2 ^ 64)⟩
@[simp] theorem gMul_r {i j : Int} (h : -18446744073709551616 < j) (h2 : j < 18446744073709551616) : gMul (.int i) (.int j) = .ok (.int (i * j)) := if_pos (.inl (.inr ⟨by omega, by omega⟩))
theorem gMul_l {i j : Int} (h : -18446744073709551616 < i) (h2 : i < 18446744073709551616) : gMul (.int i) (.int j) = .ok (.int (i * j)) := if_pos (.inl (.inl ⟨by omega, by omega⟩))
@[simp] theorem gPow_int {i j : Int} (h : 0 ≤ j) (h2 : j ≤ 1000000) (h3 : -18446744073709551616 < i) (h4 : i < 18446744073709551616) : gPow (.int i) (.int j) = .ok (.int (i ^ j.toNat)) := if_pos ⟨h, h2, by omega⟩
@[simp] theorem gInt_int {i : Int} : gInt [.int i] = .ok (.int i) := (rfl)
@[simp] theorem gInt_bl {b : Bool} : gInt [.bl b] = .ok (.int (if b then 1 else 0)) := (rfl)
@[simp] theorem gAbs_int {i : Int} : gAbs [.int i] = .ok (.int (if i < 0 then -i else i)) := (rfl)
@[simp] theorem gLen_lst : gLen [.lst xs] = .ok (.int xs.length) := (rfl)
@[simp] theorem gLen_tup : gLen [.tup xs] = .ok (.int xs.length) := (rfl)
@[simp] theorem gLen_scr {ns : List Int} : gLen [.scr ns] = .ok (.int ns.length) := (rfl)
@[simp] theorem gLen_str {z : Str} (h : z.length ≤ sizeLine) : gLen [.str z] = .ok (.int z.length) := if_pos h
@[simp] theorem gMin_int {i j : Int} : gMin [.int i, .int j] = .ok (.int (if j < i then j else i)) := (rfl)
@[simp] theorem gMax_int {i j : Int} : gMax [.int i, .int j] = .ok (.int (if j > i then j else i)) := (rfl)
@[simp] theorem gList_lst : gList [.lst xs] = .ok (.lst xs) := (rfl)
@[simp] theorem gList_tup : gList [.tup xs] = .ok (.lst xs) := (rfl)
@[simp] theorem gTuple_lst : gTuple [.lst xs] = .ok (.tup xs) := (rfl)
@[simp] theorem gTuple_tup : gTuple [.tup xs] = .ok (.tup xs) := (rfl)
@[simp] theorem gIsN_non : gIsN d .non = .ok (.bl (isNon d)) := (rfl)
@[simp] theorem gNotN_non : gNotN d .non = .ok (.bl (!isNon d)) := (rfl)
@[simp] theorem gRev_lst : gRev (.lst xs) = .ok (.lst xs.reverse) := (rfl)
theorem atI_nn {α : Type} {l : List α} {j : Int} (h : 0 ≤ j) (h2 : j < l.length) : L2.atI l j = l[j.toNat]? := by
  unfold L2.atI L2.ixN
  rw [if_pos h, if_pos h2]
  rfl
theorem gIx_lst {j : Int} (h : 0 ≤ j) (h2 : j < xs.length) : gIx (.lst xs) (.int j) = optR xs[j.toNat]? := by
  show optR (L2.atI xs j) = _
  rw [atI_nn h h2]
theorem gIx_tup {j : Int} (h : 0 ≤ j) (h2 : j < xs.length) : gIx (.tup xs) (.int j) = optR xs[j.toNat]? := by
  show optR (L2.atI xs j) = _
  rw [atI_nn h h2]
theorem gIx_map {α : Type} {inj : α → D} {l : List α} {j : Int} {a : α} (h : 0 ≤ j) (e : l[j.toNat]? = some a) : gIx (.lst (l.map inj)) (.int j) = .ok (inj a) := by
  have h2 : j.toNat < l.length := (List.getElem?_eq_some_iff.mp e).1
  rw [gIx_lst h (by rw [List.length_map]; omega), List.getElem?_map, e]
  rfl
theorem gIx_mapT {α : Type} {inj : α → D} {l : List α} {j : Int} {a : α} (h : 0 ≤ j) (e : l[j.toNat]? = some a) : gIx (.tup (l.map inj)) (.int j) = .ok (inj a) := by
  have h2 : j.toNat < l.length := (List.getElem?_eq_some_iff.mp e).1
  rw [gIx_tup h (by rw [List.length_map]; omega), List.getElem?_map, e]
  rfl
theorem gIx_getD {l : List Int} {j : Int} (h : 0 ≤ j) (h2 : j < l.length) : gIx (.lst (l.map .int)) (.int j) = .ok (.int (l.getD j.toNat 0)) := by
  refine gIx_map h ?_
  rw [List.getD_eq_getElem?_getD]
  have : j.toNat < l.length := by omega
  rw [List.getElem?_eq_getElem this]
  rfl
theorem gIx_scr {l : List Int} {j : Int} (h : 0 ≤ j) (h2 : j < l.length) : gIx (.scr l) (.int j) = .ok (.int (l.getD j.toNat 0)) := by
  show (optR (L2.atI l j)).bind _ = _
  rw [atI_nn h h2, List.getD_eq_getElem?_getD, List.getElem?_eq_getElem (by omega : j.toNat < l.length)]
  rfl
end
/-! ### loops, comprehensions -/
/-- the statement goes on, P of the slots -/
def SO.goes (s : SO) (P : Ev → Prop) : Prop := match s with
  | .nx ρ => P ρ
  | .ct ρ => P ρ
  | _ => False
@[simp] theorem goes_nx {ρ : Ev} {P : Ev → Prop} : SO.goes (.nx ρ) P = P ρ := (rfl)
@[simp] theorem goes_ct {ρ : Ev} {P : Ev → Prop} : SO.goes (.ct ρ) P = P ρ := (rfl)
theorem loop_inv {h : Tg} {body : Ev → SO} (I : Nat → Ev → Prop) : ∀ {ds : List D} {ρ : Ev} (m : Nat), I m ρ → (∀ i d ρ, ds[i]? = some d → I (m + i) ρ → ∃ ρ1, h d ρ = some ρ1 ∧ SO.goes (body ρ1) (I (m + i + 1))) → ∃ ρ', loop h body ds ρ = .nx ρ' ∧ I (m + ds.length) ρ'
  | [], ρ, m, h0, _ => ⟨ρ, rfl, h0⟩
  | d :: ds, ρ, m, h0, hs => by
    obtain ⟨ρ1, e1, e2⟩ := hs 0 d ρ rfl h0
    rw [loop_cons, e1, ofO_some]
    have go : ∀ ρ2, I (m + 1) ρ2 → ∃ ρ', loop h body ds ρ2 = .nx ρ' ∧ I (m + (d :: ds).length) ρ' := fun ρ2 h2 => by
      obtain ⟨ρ', e3, e4⟩ := loop_inv I (ds := ds) (ρ := ρ2) (m + 1) h2 fun i d' ρ q hI => by
        have := hs (i + 1) d' ρ (by simpa using q) (by rw [show m + (i + 1) = m + 1 + i by omega]; exact hI)
        rw [show m + (i + 1) + 1 = m + 1 + i + 1 by omega] at this
        exact this
      exact ⟨ρ', e3, by rw [List.length_cons, show m + (ds.length + 1) = m + 1 + ds.length by omega]; exact e4⟩
    cases z : body ρ1 with
    | nx ρ2 => rw [z] at e2; exact go ρ2 e2
    | ct ρ2 => rw [z] at e2; exact go ρ2 e2
    | rt d => rw [z] at e2; exact e2.elim
    | bk d => rw [z] at e2; exact e2.elim
    | ex x d => rw [z] at e2; exact e2.elim
    | bad => rw [z] at e2; exact e2.elim
theorem rgD_get {lo : Int} {n i : Nat} {d : D} (h : (rgD lo n)[i]? = some d) : i < n ∧ d = .int (lo + i) := by
  unfold rgD at h
  rw [List.getElem?_map] at h
  obtain ⟨k, h1, rfl⟩ := Option.map_eq_some_iff.mp h
  obtain ⟨h2, h3⟩ := List.getElem?_eq_some_iff.mp h1
  rw [List.length_range] at h2
  rw [List.getElem_range] at h3
  subst h3
  exact ⟨h2, rfl⟩
@[simp] theorem rgD_len {lo : Int} {n : Nat} : (rgD lo n).length = n := by unfold rgD; simp
/-- for k in range(n) -/
theorem loop_rg {h : Tg} {body : Ev → SO} (I : Nat → Ev → Prop) {lo : Int} {n : Nat} {ρ : Ev} (h0 : I 0 ρ) (hs : ∀ i ρ, i < n → I i ρ → ∃ ρ1, h (.int (lo + i)) ρ = some ρ1 ∧ SO.goes (body ρ1) (I (i + 1))) : ∃ ρ', loop h body (rgD lo n) ρ = .nx ρ' ∧ I n ρ' := by
  obtain ⟨ρ', e1, e2⟩ := loop_inv I (ds := rgD lo n) (ρ := ρ) 0 h0 fun i d ρ q hI => by
    obtain ⟨q1, rfl⟩ := rgD_get q
    rw [Nat.zero_add] at hI ⊢
    exact hs i ρ q1 hI
  rw [rgD_len, Nat.zero_add] at e2
  exact ⟨ρ', e1, e2⟩
/-- for x in xs -/
theorem loop_map {α : Type} {inj : α → D} {h : Tg} {body : Ev → SO} (I : Nat → Ev → Prop) {l : List α} {ρ : Ev} (h0 : I 0 ρ) (hs : ∀ i a ρ, l[i]? = some a → I i ρ → ∃ ρ1, h (inj a) ρ = some ρ1 ∧ SO.goes (body ρ1) (I (i + 1))) : ∃ ρ', loop h body (l.map inj) ρ = .nx ρ' ∧ I l.length ρ' := by
  obtain ⟨ρ', e1, e2⟩ := loop_inv I (ds := l.map inj) (ρ := ρ) 0 h0 fun i d ρ q hI => by
    rw [List.getElem?_map] at q
    obtain ⟨a, q1, rfl⟩ := Option.map_eq_some_iff.mp q
    rw [Nat.zero_add] at hI ⊢
    exact hs i a ρ q1 hI
  rw [List.length_map, Nat.zero_add] at e2
  exact ⟨ρ', e1, e2⟩
theorem lc_map {α : Type} {inj : α → D} {h : Tg} {t : Ev → R Bool} {fe : Ev → R D} {ρ : Ev} (p : α → Bool) (f : α → D) : ∀ {l : List α}, (∀ a ∈ l, ∃ ρ1, h (inj a) ρ = some ρ1 ∧ t ρ1 = .ok (p a) ∧ (p a = true → fe ρ1 = .ok (f a))) → lcL h t fe ρ (l.map inj) = .ok ((l.filter p).map f)
  | [], _ => rfl
  | a :: l, H => by
    obtain ⟨ρ1, e1, e2, e3⟩ := H a List.mem_cons_self
    have ih := lc_map p f (l := l) fun b m => H b (List.mem_cons_of_mem _ m)
    show (optR (h (inj a) ρ)).bind _ = _
    rw [e1]
    simp only [optR_some, bind_ok, e2, quiet_ok]
    cases z : p a with
    | true => rw [if_pos rfl, e3 z, quiet_ok, bind_ok, ih, bind_ok, List.filter_cons_of_pos z, List.map_cons]
    | false => rw [if_neg Bool.false_ne_true, ih, List.filter_cons_of_neg (by rw [z]; decide)]
theorem lc_rg {h : Tg} {t : Ev → R Bool} {fe : Ev → R D} {ρ : Ev} {n : Nat} (p : Nat → Bool) (f : Nat → D) (H : ∀ a, a < n → ∃ ρ1, h (.int (a : Int)) ρ = some ρ1 ∧ t ρ1 = .ok (p a) ∧ (p a = true → fe ρ1 = .ok (f a))) : lcL h t fe ρ (rgD 0 n) = .ok (((List.range n).filter p).map f) := by
  unfold rgD
  refine lc_map p f fun a m => ?_
  rw [Int.zero_add]
  exact H a (List.mem_range.mp m)
end Tk

namespace Tk
open PySem PySem.Spec L2 PyProof.Rows
/-! ### the laws' own helpers, in plain words -/
def part (ps : List Int) (spot under size : Int) : Int := ps.getD spot.toNat 0 / under % size
theorem part_ok {ps : List Int} {spot under size : Int} (h0 : 0 ≤ spot) (h1 : spot < ps.length) (hu : 0 < under) (hu2 : under < 18446744073709551616) (hs : 0 < size) : F__law_part [.lst (ps.map .int), .int spot, .int under, .int size] = .ok (.int (part ps spot under size)) := by
  unfold F__law_part G__law_part
  simp [gIx_getD h0 h1, hu, hu2, hs]
  rfl
theorem part_lo {ps : List Int} {spot under size : Int} (hs : 0 < size) : 0 ≤ part ps spot under size := Int.emod_nonneg _ (by omega)
theorem part_hi {ps : List Int} {spot under size : Int} (hs : 0 < size) : part ps spot under size < size := Int.emod_lt_of_pos _ hs
theorem small_rg {j : Int} (h : 0 ≤ j) (h2 : j < 4611686018427387904) : small62 j := by unfold small62; omega
theorem far_ok {ps : List Int} {spot : Int} {number : Int} (h0 : 0 ≤ spot) (hn : 0 ≤ number) (hn2 : number < 4611686018427387904) (h1 : spot + number ≤ ps.length) : ∃ v : Int, 0 ≤ v ∧ F__law_far [.lst (ps.map .int), .int spot, .int number] = .ok (.int v) := by
  unfold F__law_far G__law_far
  obtain ⟨ρ', e, s, v, hv, rfl⟩ := loop_rg (h := gN 4) (body := B__law_far_1) (lo := 0) (n := number.toNat) (ρ := [.v (.lst (ps.map .int)), .v (.int spot), .v (.int number), .v (.int 0), .no])
    (fun _ ρ => ∃ (s : Sl) (v : Int), 0 ≤ v ∧ ρ = [.v (.lst (ps.map .int)), .v (.int spot), .v (.int number), .v (.int v), s]) ⟨_, 0, by omega, rfl⟩ (by
      rintro i ρ hi ⟨s, v, hv, rfl⟩
      refine ⟨_, rfl, ?_⟩
      unfold B__law_far_1
      simp [gIx_getD (l := ps) (j := spot + (i : Int)) (by omega) (by omega)]
      exact ⟨_, _, by omega, rfl, rfl⟩)
  simp [small_rg hn hn2, e, hv]
theorem chosen_ok {ps : List Int} {spot under small crest whole : Int} (h0 : 0 ≤ spot) (h1 : spot < ps.length) (hu : 0 < under) (hu2 : under < 1000000000000000000) (hs : 0 < small) (hc : small ≤ crest + 1) :
    ∃ v : Int, 0 ≤ v ∧ v ≤ crest ∧ F__law_chosen [.lst (ps.map .int), .int spot, .int under, .int small, .int crest, .int whole] = .ok (.int v) := by
  unfold F__law_chosen G__law_chosen
  have a1 := part_lo (ps := ps) (spot := spot) (under := 10 * under) hs
  have a2 := part_hi (ps := ps) (spot := spot) (under := 10 * under) hs
  have b1 := Int.emod_nonneg whole (by omega : crest + 1 ≠ 0)
  have b2 := Int.emod_lt_of_pos whole (by omega : 0 < crest + 1)
  by_cases c1 : part ps spot under 10 = 8
  · refine ⟨crest - part ps spot (10 * under) small, by omega, by omega, ?_⟩
    simp (disch := omega) [part_ok h0 h1, c1, gMul_r]
  · by_cases c2 : part ps spot under 10 = 9
    · refine ⟨whole % (crest + 1), by omega, by omega, ?_⟩
      simp (disch := omega) [part_ok h0 h1, c1, c2, gMul_r]
    · refine ⟨part ps spot (10 * under) small, by omega, by omega, ?_⟩
      simp (disch := omega) [part_ok h0 h1, c1, c2, gMul_r]
theorem cell_step {ns : List Int} {k : Int} (s : Sl) (v : Int) {i : Nat} (hi : i < ns.length) : B__law_cell_1 [.v (.scr ns), .v (.int k), .v (.int v), .v (.int (0 + (i : Int)))] = .nx [.v (.scr ns), .v (.int k), .v (.int ((v + ((i : Int) + 3) * ((if ns.getD i 0 < 0 then -ns.getD i 0 else ns.getD i 0) % 1000003) * 31) % 1000003)), .v (.int (i : Int))] := by
  unfold B__law_cell_1
  have q : ∀ z : Int, gMul (.int ((i : Int) + 3)) (.int (z % 1000003)) = .ok (.int (((i : Int) + 3) * (z % 1000003))) := fun z => gMul_r (by omega) (by omega)
  simp [gIx_scr (l := ns) (j := (i : Int)) (by omega) (by omega), q]
theorem cell_loop {ns : List Int} {k v0 : Int} : ∃ v s, loop (gN 3) B__law_cell_1 (rgD 0 ns.length) [.v (.scr ns), .v (.int k), .v (.int v0), .no] = .nx [.v (.scr ns), .v (.int k), .v (.int v), s] := by
  obtain ⟨ρ', e, s, v, rfl⟩ := loop_rg (h := gN 3) (body := B__law_cell_1) (lo := 0) (n := ns.length) (ρ := [.v (.scr ns), .v (.int k), .v (.int v0), .no])
      (fun _ ρ => ∃ (s : Sl) (v : Int), ρ = [.v (.scr ns), .v (.int k), .v (.int v), s]) ⟨_, _, rfl⟩ (by
        rintro i ρ hi ⟨s, v, rfl⟩
        refine ⟨_, rfl, ?_⟩
        show SO.goes (B__law_cell_1 [.v (.scr ns), .v (.int k), .v (.int v), .v (.int (0 + (i : Int)))]) _
        rw [cell_step s v hi]
        exact ⟨_, _, rfl⟩)
  exact ⟨v, s, e⟩
theorem cell_ok {ns : List Int} {k : Int} (h0 : 0 ≤ k) (hl : ns.length < 4611686018427387904) : ∃ v : Int, F__law_cell [.scr ns, .int k] = .ok (.int v) := by
  unfold F__law_cell G__law_cell
  by_cases c : k < (ns.length : Int)
  · refine ⟨ns.getD k.toNat 0, ?_⟩
    simp [c, gIx_scr h0 c]
  · obtain ⟨v, s, e⟩ := cell_loop (ns := ns) (k := k) (v0 := 7919 * (k + 1))
    refine ⟨v, ?_⟩
    have c2 : small62 (ns.length : Int) := small_rg (by omega) (by omega)
    have c3 : gMul (.int 7919) (.int (k + 1)) = .ok (.int (7919 * (k + 1))) := gMul_l (by decide) (by decide)
    simp [c, c3, c2, e]
def mixA (c k : Int) : Int := ((if c < 0 then -c else c) % 2147483647 * 48271 + (k + 1) * 69621) % 2147483647
def mixB (x k : Int) : Int := (x * (x % 46337 + 16807) + (k + 7) * 7919) % 2147483629
def mixC (x : Int) : Int := x * (x % 32749 + 48271) % 2147483647
theorem mixed_eq {c k : Int} (h0 : 0 ≤ k) (hk : k < 1000000) : F__law_mixed [.int c, .int k] = .ok (.int (mixC (mixB (mixA c k) k) / 11)) := by
  unfold F__law_mixed G__law_mixed
  have q1 : ∀ x : Int, -18446744073709551616 < x % 46337 + 16807 ∧ x % 46337 + 16807 < 18446744073709551616 := fun x => ⟨by omega, by omega⟩
  have q2 : ∀ x : Int, -18446744073709551616 < x % 32749 + 48271 ∧ x % 32749 + 48271 < 18446744073709551616 := fun x => ⟨by omega, by omega⟩
  simp [gMul_r, q1, q2, mixA, mixB, mixC]
theorem mixed_ok {c k : Int} (h0 : 0 ≤ k) (hk : k < 1000000) : ∃ v : Int, 0 ≤ v ∧ v < 2147483648 ∧ F__law_mixed [.int c, .int k] = .ok (.int v) := by
  refine ⟨_, ?_, ?_, mixed_eq h0 hk⟩
  · unfold mixC; omega
  · unfold mixC; omega
theorem pool_ok {c n : Int} (hn : 0 ≤ n) (hn2 : n < 1000000) : ∃ ps : List Int, ps.length = n.toNat ∧ (∀ p ∈ ps, 0 ≤ p ∧ p < 2147483648) ∧ F__law_pool [.int c, .int n] = .ok (.lst (ps.map .int)) := by
  unfold F__law_pool G__law_pool
  generalize hr : (if c < 0 then -c else c) = rest
  have hr0 : 0 ≤ rest := by subst hr; split <;> omega
  obtain ⟨ρ', e, s, r2, ps, _, hl, hp, rfl⟩ := loop_rg (h := gN 5) (body := B__law_pool_1) (lo := 0) (n := n.toNat) (ρ := [.v (.int c), .v (.int n), .v (.int rest), .v (.bl (decide (1000000000000000000 ≤ rest))), .l [], .no])
    (fun i ρ => ∃ (s : Sl) (r : Int) (ps : List Int), 0 ≤ r ∧ ps.length = i ∧ (∀ p ∈ ps, 0 ≤ p ∧ p < 2147483648) ∧ ρ = [.v (.int c), .v (.int n), .v (.int r), .v (.bl (decide (1000000000000000000 ≤ rest))), .l (ps.map .int), s])
    ⟨.no, rest, [], hr0, rfl, (fun p m => nomatch m), rfl⟩ (by
      rintro i ρ hi ⟨s, r, ps, hr1, hl, hp, rfl⟩
      refine ⟨_, rfl, ?_⟩
      have si : i < sizeLine := by unfold sizeLine; omega
      unfold B__law_pool_1
      by_cases q : 1000000000000000000 ≤ rest ∧ 0 < r
      · have st : sIf (tAnd (tV (eV 3)) (tV (e2 gGt (eV 2) (eC (.int 0))))) (sSq (sApp 4 (e2 gMod (eV 2) (eC (.int 5040)))) (sSet 2 (e2 gDiv (eV 2) (eC (.int 5040))))) (sApp 4 (eCall 2 F__law_mixed (aC (eV 0) (aC (eV 5) (aN))))) [.v (.int c), .v (.int n), .v (.int r), .v (.bl (decide (1000000000000000000 ≤ rest))), .l (ps.map .int), .v (.int (0 + (i : Int)))] =
            .nx [.v (.int c), .v (.int n), .v (.int (r / 5040)), .v (.bl (decide (1000000000000000000 ≤ rest))), .l ((ps ++ [r % 5040]).map .int), .v (.int (i : Int))] := by
          simp [q.1, q.2, hl, si]
        show SO.goes (sIf _ _ _ [.v (.int c), .v (.int n), .v (.int r), .v (.bl (decide (1000000000000000000 ≤ rest))), .l (ps.map .int), .v (.int (0 + (i : Int)))]) _
        rw [st]
        refine ⟨_, _, _, by omega, ?_, ?_, rfl⟩
        · rw [List.length_append, hl]; rfl
        · intro p m
          rcases List.mem_append.mp m with m | m
          · exact hp p m
          · rw [List.mem_singleton.mp m]; omega
      · obtain ⟨v, v1, v2, ve⟩ := mixed_ok (c := c) (k := (i : Int)) (by omega) (by omega)
        have st : sIf (tAnd (tV (eV 3)) (tV (e2 gGt (eV 2) (eC (.int 0))))) (sSq (sApp 4 (e2 gMod (eV 2) (eC (.int 5040)))) (sSet 2 (e2 gDiv (eV 2) (eC (.int 5040))))) (sApp 4 (eCall 2 F__law_mixed (aC (eV 0) (aC (eV 5) (aN))))) [.v (.int c), .v (.int n), .v (.int r), .v (.bl (decide (1000000000000000000 ≤ rest))), .l (ps.map .int), .v (.int (0 + (i : Int)))] =
            .nx [.v (.int c), .v (.int n), .v (.int r), .v (.bl (decide (1000000000000000000 ≤ rest))), .l ((ps ++ [v]).map .int), .v (.int (i : Int))] := by
          by_cases q1 : 1000000000000000000 ≤ rest
          · have q2 : ¬ 0 < r := fun z => q ⟨q1, z⟩
            simp [q1, q2, hl, ve, si]
          · simp [q1, hl, ve]
            unfold sizeLine
            omega
        show SO.goes (sIf _ _ _ [.v (.int c), .v (.int n), .v (.int r), .v (.bl (decide (1000000000000000000 ≤ rest))), .l (ps.map .int), .v (.int (0 + (i : Int)))]) _
        rw [st]
        refine ⟨_, _, _, hr1, ?_, ?_, rfl⟩
        · rw [List.length_append, hl]; rfl
        · intro p m
          rcases List.mem_append.mp m with m | m
          · exact hp p m
          · rw [List.mem_singleton.mp m]; omega)
  refine ⟨ps, hl, hp, ?_⟩
  have sm : small62 n := small_rg hn (by omega)
  simp [hr, sm, e]
/-! ### the laws' sameness -/
theorem gIsi_of {d : D} {t n : String} {b : Bool} (h1 : tyD d = some t) (h2 : kitB t n = some b) : gIsi [d, .ty n] = .ok (.bl b) := by
  show (optR ((tyD d).bind fun t => kitB t n)).bind _ = _
  rw [h1, Option.bind_some, h2]
  rfl
theorem kb1 : kitB "int" "int" = some true := by decide +kernel
theorem kb2 : kitB "int" "bool" = some false := by decide +kernel
theorem kb3 : kitB "str" "int" = some false := by decide +kernel
theorem kb4 : kitB "str" "str" = some true := by decide +kernel
theorem kb5 : kitB "list" "int" = some false := by decide +kernel
theorem kb6 : kitB "list" "str" = some false := by decide +kernel
theorem kb7 : kitB "list" "tuple" = some false := by decide +kernel
theorem kb8 : kitB "list" "list" = some true := by decide +kernel
theorem kb9 : kitB "tuple" "int" = some false := by decide +kernel
theorem kb10 : kitB "tuple" "str" = some false := by decide +kernel
theorem kb11 : kitB "tuple" "tuple" = some true := by decide +kernel
theorem kb12 : kitB "tuple" "list" = some false := by decide +kernel
section
variable {i : Int} {z : Str} {xs : List D}
@[simp] theorem is1 : gIsi [.int i, .ty "int"] = .ok (.bl true) := gIsi_of rfl kb1
@[simp] theorem is2 : gIsi [.int i, .ty "bool"] = .ok (.bl false) := gIsi_of rfl kb2
@[simp] theorem is3 : gIsi [.str z, .ty "int"] = .ok (.bl false) := gIsi_of rfl kb3
@[simp] theorem is4 : gIsi [.str z, .ty "str"] = .ok (.bl true) := gIsi_of rfl kb4
@[simp] theorem is5 : gIsi [.lst xs, .ty "int"] = .ok (.bl false) := gIsi_of rfl kb5
@[simp] theorem is6 : gIsi [.lst xs, .ty "str"] = .ok (.bl false) := gIsi_of rfl kb6
@[simp] theorem is7 : gIsi [.lst xs, .ty "tuple"] = .ok (.bl false) := gIsi_of rfl kb7
@[simp] theorem is8 : gIsi [.lst xs, .ty "list"] = .ok (.bl true) := gIsi_of rfl kb8
@[simp] theorem is9 : gIsi [.tup xs, .ty "int"] = .ok (.bl false) := gIsi_of rfl kb9
@[simp] theorem is10 : gIsi [.tup xs, .ty "str"] = .ok (.bl false) := gIsi_of rfl kb10
@[simp] theorem is11 : gIsi [.tup xs, .ty "tuple"] = .ok (.bl true) := gIsi_of rfl kb11
@[simp] theorem is12 : gIsi [.tup xs, .ty "list"] = .ok (.bl false) := gIsi_of rfl kb12
@[simp] theorem ib1 {b : Bool} : gIsB false .non (.bl b) = .ok (.bl false) := (rfl)
@[simp] theorem ib2 {a b : Bool} : gIsB false (.bl a) (.bl b) = .ok (.bl (decide (a = b))) := (rfl)
@[simp] theorem ib3 {b : Bool} : gIsB false (.int i) (.bl b) = .ok (.bl false) := (rfl)
@[simp] theorem ib4 {b : Bool} : gIsB false (.str z) (.bl b) = .ok (.bl false) := (rfl)
@[simp] theorem ib5 {b : Bool} : gIsB false (.lst xs) (.bl b) = .ok (.bl false) := (rfl)
@[simp] theorem ib6 {b : Bool} : gIsB false (.tup xs) (.bl b) = .ok (.bl false) := (rfl)
end
@[simp] theorem isNon_bl {b : Bool} : isNon (.bl b) = false := rfl
@[simp] theorem isNon_int {b : Int} : isNon (.int b) = false := rfl
@[simp] theorem isNon_str {b : Str} : isNon (.str b) = false := rfl
@[simp] theorem isNon_lst {b : List D} : isNon (.lst b) = false := rfl
@[simp] theorem isNon_tup {b : List D} : isNon (.tup b) = false := rfl
@[simp] theorem isNon_non : isNon .non = true := rfl
mutual
/-- plain data, n deep at most, no list too long -/
def plainD : Nat → D → Bool
  | _, .non => true
  | _, .bl _ => true
  | _, .int _ => true
  | _, .str _ => true
  | n + 1, .lst xs => decide (xs.length ≤ 1000000) && plainL n xs
  | n + 1, .tup xs => decide (xs.length ≤ 1000000) && plainL n xs
  | _, _ => false
def plainL : Nat → List D → Bool
  | _, [] => true
  | n, d :: ds => plainD n d && plainL n ds
end
theorem plainL_all {n : Nat} : ∀ {ds : List D}, plainL n ds = true ↔ ∀ d ∈ ds, plainD n d = true
  | [] => by simp [plainL]
  | d :: ds => by simp [plainL, plainL_all (ds := ds)]
theorem integer_ok {i : Int} : F__law_integer [.int i] = .ok (.bl true) := by
  unfold F__law_integer G__law_integer
  simp
theorem same_loop {n : Nat} {xs : List D} {f : List D → D} (hf : f = .lst ∨ f = .tup) (ih : ∀ d ∈ xs, Fr__law_same n [d, d] = .ok (.bl true)) : ∃ s, loop (gN 2) (B__law_same_1 (Fr__law_same n)) (rgD 0 xs.length) [.v (f xs), .v (f xs), .no] = .nx [.v (f xs), .v (f xs), s] := by
  obtain ⟨ρ', e, s, rfl⟩ := loop_rg (h := gN 2) (body := B__law_same_1 (Fr__law_same n)) (lo := 0) (n := xs.length) (ρ := [.v (f xs), .v (f xs), .no]) (fun _ ρ => ∃ s : Sl, ρ = [.v (f xs), .v (f xs), s]) ⟨_, rfl⟩ (by
    rintro i ρ hi ⟨s, rfl⟩
    refine ⟨_, rfl, ?_⟩
    have g : gIx (f xs) (.int (i : Int)) = .ok xs[i] := by
      rcases hf with rfl | rfl
      · rw [gIx_lst (by omega) (by omega), Int.toNat_natCast, List.getElem?_eq_getElem hi]; rfl
      · rw [gIx_tup (by omega) (by omega), Int.toNat_natCast, List.getElem?_eq_getElem hi]; rfl
    have h := ih xs[i] (List.getElem_mem hi)
    unfold B__law_same_1
    simp [g, h])
  exact ⟨s, e⟩
theorem same_n : ∀ (n : Nat) {d : D}, plainD n d = true → Fr__law_same (n + 1) [d, d] = .ok (.bl true)
  | n, .non, _ => by
    show runF 3 (G__law_same (Fr__law_same n)) [.non, .non] = _
    unfold G__law_same
    simp
  | n, .bl b, _ => by
    show runF 3 (G__law_same (Fr__law_same n)) [.bl b, .bl b] = _
    unfold G__law_same
    cases b <;> simp
  | n, .int i, _ => by
    show runF 3 (G__law_same (Fr__law_same n)) [.int i, .int i] = _
    unfold G__law_same
    simp [integer_ok]
  | n, .str i, _ => by
    show runF 3 (G__law_same (Fr__law_same n)) [.str i, .str i] = _
    unfold G__law_same
    simp
  | n + 1, .lst xs, h => by
    have h2 : (decide (xs.length ≤ 1000000) && plainL n xs) = true := h
    rw [Bool.and_eq_true, decide_eq_true_eq, plainL_all] at h2
    obtain ⟨s, e⟩ := same_loop (n := n + 1) (xs := xs) (f := .lst) (.inl rfl) fun d m => same_n n (h2.2 d m)
    have sm : small62 (xs.length : Int) := small_rg (by omega) (by omega)
    show runF 3 (G__law_same (Fr__law_same (n + 1))) [.lst xs, .lst xs] = _
    unfold G__law_same
    simp [sm, e]
  | n + 1, .tup xs, h => by
    have h2 : (decide (xs.length ≤ 1000000) && plainL n xs) = true := h
    rw [Bool.and_eq_true, decide_eq_true_eq, plainL_all] at h2
    obtain ⟨s, e⟩ := same_loop (n := n + 1) (xs := xs) (f := .tup) (.inr rfl) fun d m => same_n n (h2.2 d m)
    have sm : small62 (xs.length : Int) := small_rg (by omega) (by omega)
    show runF 3 (G__law_same (Fr__law_same (n + 1))) [.tup xs, .tup xs] = _
    unfold G__law_same
    simp [sm, e]
theorem same_ok {d : D} (h : plainD 5 d = true) : F__law_same [d, d] = .ok (.bl true) := same_n 5 h
end Tk

namespace Tk
open PySem PySem.Spec L2 PyProof.Rows
/-! ### texts as lists -/
abbrev S (l : List Nat) : Str := ⟨l.toArray⟩
theorem S_add (a b : List Nat) : S a ++ S b = S (a ++ b) := by
  show (⟨a.toArray ++ b.toArray⟩ : Str) = _
  simp
theorem S_len (a : List Nat) : (S a).length = a.length := by
  show (Array.size a.toArray) = _
  simp
theorem S_inj {a b : List Nat} (h : S a = S b) : a = b := by
  have := congrArg (fun z : Str => z.cps.toList) h
  simpa using this
theorem S_eta (z : Str) : S z.cps.toList = z := rfl
theorem S_cut_hi {l : List Nat} {v : Int} (h : 0 ≤ v) : cutS (S l) none (some v) = S (l.take v.toNat) := by
  have e : HT.sIx (S l).length (S l).length (some v) = min v.toNat l.length := by
    show (if v < 0 then (v + ((S l).length : Int)).toNat else min v.toNat (S l).length) = _
    rw [if_neg (by omega), S_len]
  unfold cutS
  rw [e, HT.sIx_none, List.drop_zero, Nat.sub_zero]
  show S (l.take (min v.toNat l.length)) = _
  rw [← List.take_eq_take_min]
theorem S_cut_lo {l : List Nat} {v : Int} (h : 0 ≤ v) : cutS (S l) (some v) none = S (l.drop v.toNat) := by
  have e : HT.sIx (S l).length 0 (some v) = min v.toNat l.length := by
    show (if v < 0 then (v + ((S l).length : Int)).toNat else min v.toNat (S l).length) = _
    rw [if_neg (by omega), S_len]
  unfold cutS
  rw [e, HT.sIx_none, S_len]
  show S ((l.drop (min v.toNat l.length)).take (l.length - min v.toNat l.length)) = _
  by_cases c : v.toNat ≤ l.length
  · rw [Nat.min_eq_left c, List.take_of_length_le (by rw [List.length_drop]; omega)]
  · rw [Nat.min_eq_right (by omega), List.drop_eq_nil_of_le (by omega : l.length ≤ v.toNat), List.drop_length]
    rw [Nat.sub_self]
    rfl
theorem sz24 : sizeLine = 16777216 := rfl
theorem gAdd_S {a b : List Nat} (h : a.length + b.length ≤ 1000000) : gAdd (.str (S a)) (.str (S b)) = .ok (.str (S (a ++ b))) := by
  show (if (S a).length + (S b).length ≤ sizeLine then R.ok (D.str (S a ++ S b)) else .bad) = _
  rw [if_pos (by rw [S_len, S_len, sz24]; omega), S_add]
theorem gSl_hi {l : List Nat} {v : Int} (h : 0 ≤ v) (hl : l.length ≤ 1000000) : gSl (.str (S l)) none (some v) = .ok (.str (S (l.take v.toNat))) := by
  show (if (S l).length ≤ sizeLine then R.ok (D.str (cutS (S l) none (some v))) else .bad) = _
  rw [if_pos (by rw [S_len, sz24]; omega), S_cut_hi h]
theorem gSl_lo {l : List Nat} {v : Int} (h : 0 ≤ v) (hl : l.length ≤ 1000000) : gSl (.str (S l)) (some v) none = .ok (.str (S (l.drop v.toNat))) := by
  show (if (S l).length ≤ sizeLine then R.ok (D.str (cutS (S l) (some v) none)) else .bad) = _
  rw [if_pos (by rw [S_len, sz24]; omega), S_cut_lo h]
theorem gIx_S {l : List Nat} {v : Int} (h : 0 ≤ v) (h2 : v < l.length) (hl : l.length ≤ 1000000) : gIx (.str (S l)) (.int v) = .ok (.str (S [l.getD v.toNat 0])) := by
  show (if (S l).length ≤ sizeLine then (optR (L2.atI l v)).bind fun c => R.ok (D.str ⟨#[c]⟩) else .bad) = _
  rw [if_pos (by rw [S_len, sz24]; omega), atI_nn h h2, List.getD_eq_getElem?_getD, List.getElem?_eq_getElem (by omega : v.toNat < l.length)]
  rfl
/-! ### the alphabet, names -/
def abc : List Nat := (List.range 26).map (· + 97)
theorem abc_eq : (Str.ofString "abcdefghijklmnopqrstuvwxyz") = S abc := by decide +kernel
theorem none_eq : (Str.ofString "") = S [] := by decide +kernel
theorem abc_len : abc.length = 26 := rfl
theorem abc_get {v : Nat} (h : v < 26) : abc.getD v 0 = v + 97 := by
  unfold abc
  rw [List.getD_eq_getElem?_getD, List.getElem?_map, List.getElem?_range h]
  rfl
theorem gIx_abc {v : Int} (h : 0 ≤ v) (h2 : v < 26) : gIx (.str (S abc)) (.int v) = .ok (.str (S [v.toNat + 97])) := by
  rw [gIx_S h (by rw [abc_len]; omega) (by rw [abc_len]; omega), abc_get (by omega)]
/-- small letters -/
def low (l : List Nat) : Prop := ∀ c ∈ l, 97 ≤ c ∧ c ≤ 122
/-- a name: 1 to 8 small letters -/
def okName (w : List Nat) : Prop := 1 ≤ w.length ∧ w.length ≤ 8 ∧ low w
theorem low_app {a b : List Nat} (h : low a) (h' : low b) : low (a ++ b) := fun c m => (List.mem_append.mp m).elim (h c) (h' c)
theorem low_one {c : Nat} (h : 97 ≤ c) (h' : c ≤ 122) : low [c] := fun d m => by rw [List.mem_singleton.mp m]; exact ⟨h, h'⟩
theorem low_take {a : List Nat} (h : low a) (n : Nat) : low (a.take n) := fun c m => h c (List.mem_of_mem_take m)
theorem low_drop {a : List Nat} (h : low a) (n : Nat) : low (a.drop n) := fun c m => h c (List.mem_of_mem_drop m)
/-! names that are drawn -/
theorem names_loop1 {ps : List Int} {spot number : Int} (h0 : 0 ≤ spot) (h1 : spot + 5 ≤ ps.length) : ∃ (l : List Nat) (s : Sl), l.length = 6 ∧ low l ∧ loop (gN 5) B__law_names_1 (rgD 0 3) [.v (.lst (ps.map .int)), .v (.int spot), .v (.int number), .v (.str (S abc)), .v (.str (S [])), .no, .no, .no, .no, .no, .no, .no, .no] =
    .nx [.v (.lst (ps.map .int)), .v (.int spot), .v (.int number), .v (.str (S abc)), .v (.str (S l)), s, .no, .no, .no, .no, .no, .no, .no] := by
  obtain ⟨ρ', e, s, l, hl, lw, rfl⟩ := loop_rg (h := gN 5) (body := B__law_names_1) (lo := 0) (n := 3) (ρ := [.v (.lst (ps.map .int)), .v (.int spot), .v (.int number), .v (.str (S abc)), .v (.str (S [])), .no, .no, .no, .no, .no, .no, .no, .no])
    (fun i ρ => ∃ (s : Sl) (l : List Nat), l.length = 2 * i ∧ low l ∧ ρ = [.v (.lst (ps.map .int)), .v (.int spot), .v (.int number), .v (.str (S abc)), .v (.str (S l)), s, .no, .no, .no, .no, .no, .no, .no])
    ⟨_, [], rfl, (fun _ m => nomatch m), rfl⟩ (by
      rintro i ρ hi ⟨s, l, hl, lw, rfl⟩
      refine ⟨_, rfl, ?_⟩
      have p1 := part_ok (ps := ps) (spot := spot + (i : Int)) (under := 1) (size := 26) (by omega) (by omega) (by decide) (by decide) (by decide)
      have p2 := part_ok (ps := ps) (spot := spot + (i : Int)) (under := 26) (size := 26) (by omega) (by omega) (by decide) (by decide) (by decide)
      have a1 := part_lo (ps := ps) (spot := spot + (i : Int)) (under := 1) (size := 26) (by decide)
      have a2 := part_hi (ps := ps) (spot := spot + (i : Int)) (under := 1) (size := 26) (by decide)
      have b1 := part_lo (ps := ps) (spot := spot + (i : Int)) (under := 26) (size := 26) (by decide)
      have b2 := part_hi (ps := ps) (spot := spot + (i : Int)) (under := 26) (size := 26) (by decide)
      generalize part ps (spot + (i : Int)) 1 26 = u at *
      generalize part ps (spot + (i : Int)) 26 26 = v at *
      have g1 := gIx_abc a1 a2
      have g2 := gIx_abc b1 b2
      have s1 := gAdd_S (a := l) (b := [u.toNat + 97]) (by simp; omega)
      have s2 := gAdd_S (a := l ++ [u.toNat + 97]) (b := [v.toNat + 97]) (by simp; omega)
      have st : B__law_names_1 [.v (.lst (ps.map .int)), .v (.int spot), .v (.int number), .v (.str (S abc)), .v (.str (S l)), .v (.int (0 + (i : Int))), .no, .no, .no, .no, .no, .no, .no] =
          .nx [.v (.lst (ps.map .int)), .v (.int spot), .v (.int number), .v (.str (S abc)), .v (.str (S (l ++ [u.toNat + 97] ++ [v.toNat + 97]))), .v (.int (i : Int)), .no, .no, .no, .no, .no, .no, .no] := by
        unfold B__law_names_1
        simp only [sSet_ap, e2_ap, eV_succ, eV_zero, bind_ok, eCall_ap, aC_ap, aN_ap, gAdd_int, eC_ap, List.length_cons, List.length_nil, Int.zero_add, Nat.zero_add, Nat.reduceAdd, if_true, p1, p2, g1, g2, s1, s2, from_ok, List.set_cons_succ, List.set_cons_zero]
      show SO.goes (B__law_names_1 [.v (.lst (ps.map .int)), .v (.int spot), .v (.int number), .v (.str (S abc)), .v (.str (S l)), .v (.int (0 + (i : Int))), .no, .no, .no, .no, .no, .no, .no]) _
      rw [st]
      refine ⟨_, _, ?_, ?_, rfl⟩
      · simp; omega
      · exact low_app (low_app lw (low_one (by omega) (by omega))) (low_one (by omega) (by omega)))
  exact ⟨l, s, hl, lw, e⟩
def nmA (sh tl : List Nat) (cut first m : Int) : List Nat := sh.take cut.toNat ++ [((first + 7 * m) % 26).toNat + 97] ++ sh.drop cut.toNat ++ tl
def nmK (c : Int) (stem sh tl : List Nat) (cut first turn : Int) (k : Nat) : List Nat := if c = 0 then nmA sh tl cut first (((k : Int) + turn) % 6) else stem.take ((((k : Int) + turn) % 6) + 1).toNat
theorem names_loop2 {ps : List Int} {spot number turn cut first : Int} {stem sh tl : List Nat} (h0 : 0 ≤ spot) (h1 : spot + 5 ≤ ps.length) (hn : 0 ≤ number) (hn2 : number ≤ 6) (ls : stem.length = 6) (lsh : sh.length ≤ 6) (ltl : tl.length ≤ 1) (c0 : 0 ≤ cut) (s0 : Sl) :
    ∃ (s t : Sl), loop (gN 5) B__law_names_2 (rgD 0 number.toNat) [.v (.lst (ps.map .int)), .v (.int spot), .v (.int number), .v (.str (S abc)), .v (.str (S stem)), s0, .v (.int turn), .v (.int cut), .v (.int first), .v (.str (S sh)), .v (.str (S tl)), .l [], .no] =
    .nx [.v (.lst (ps.map .int)), .v (.int spot), .v (.int number), .v (.str (S abc)), .v (.str (S stem)), s, .v (.int turn), .v (.int cut), .v (.int first), .v (.str (S sh)), .v (.str (S tl)), .l ((List.range number.toNat).map fun k => .str (S (nmK (part ps (spot + 4) 1 2) stem sh tl cut first turn k))), t] := by
  have pc := part_ok (ps := ps) (spot := spot + 4) (under := 1) (size := 2) (by omega) (by omega) (by decide) (by decide) (by decide)
  generalize part ps (spot + 4) 1 2 = c at *
  obtain ⟨ρ', e, s, t, rfl⟩ := loop_rg (h := gN 5) (body := B__law_names_2) (lo := 0) (n := number.toNat) (ρ := [.v (.lst (ps.map .int)), .v (.int spot), .v (.int number), .v (.str (S abc)), .v (.str (S stem)), s0, .v (.int turn), .v (.int cut), .v (.int first), .v (.str (S sh)), .v (.str (S tl)), .l [], .no])
    (fun i ρ => ∃ (s t : Sl), ρ = [.v (.lst (ps.map .int)), .v (.int spot), .v (.int number), .v (.str (S abc)), .v (.str (S stem)), s, .v (.int turn), .v (.int cut), .v (.int first), .v (.str (S sh)), .v (.str (S tl)), .l ((List.range i).map fun k => .str (S (nmK c stem sh tl cut first turn k))), t])
    ⟨_, _, rfl⟩ (by
      rintro i ρ hi ⟨s, t, rfl⟩
      refine ⟨_, rfl, ?_⟩
      have m0 : 0 ≤ ((i : Int) + turn) % 6 := by omega
      have m6 : ((i : Int) + turn) % 6 < 6 := by omega
      have f1 : 0 ≤ (first + 7 * (((i : Int) + turn) % 6)) % 26 := by omega
      have f2 : (first + 7 * (((i : Int) + turn) % 6)) % 26 < 26 := by omega
      have g1 := gIx_abc f1 f2
      have t1 := gSl_hi (l := sh) c0 (by omega)
      have t2 := gSl_lo (l := sh) c0 (by omega)
      have t3 := gSl_hi (l := stem) (v := ((i : Int) + turn) % 6 + 1) (by omega) (by omega)
      have q1 := gAdd_S (a := sh.take cut.toNat) (b := [((first + 7 * (((i : Int) + turn) % 6)) % 26).toNat + 97]) (by simp; omega)
      have q2 := gAdd_S (a := sh.take cut.toNat ++ [((first + 7 * (((i : Int) + turn) % 6)) % 26).toNat + 97]) (b := sh.drop cut.toNat) (by simp; omega)
      have q3 := gAdd_S (a := sh.take cut.toNat ++ [((first + 7 * (((i : Int) + turn) % 6)) % 26).toNat + 97] ++ sh.drop cut.toNat) (b := tl) (by simp; omega)
      have q4 := gMul_l (i := 7) (j := ((i : Int) + turn) % 6) (by decide) (by decide)
      have sl : ((List.range i).map fun k => D.str (S (nmK c stem sh tl cut first turn k))).length < sizeLine := by rw [List.length_map, List.length_range, sz24]; omega
      have d6 : gMod (.int ((i : Int) + turn)) (.int 6) = .ok (.int (((i : Int) + turn) % 6)) := gMod_int (by decide)
      have d26 : gMod (.int (first + 7 * (((i : Int) + turn) % 6))) (.int 26) = .ok (.int ((first + 7 * (((i : Int) + turn) % 6)) % 26)) := gMod_int (by decide)
      have st : B__law_names_2 [.v (.lst (ps.map .int)), .v (.int spot), .v (.int number), .v (.str (S abc)), .v (.str (S stem)), .v (.int (0 + (i : Int))), .v (.int turn), .v (.int cut), .v (.int first), .v (.str (S sh)), .v (.str (S tl)), .l ((List.range i).map fun k => .str (S (nmK c stem sh tl cut first turn k))), t] =
          .nx [.v (.lst (ps.map .int)), .v (.int spot), .v (.int number), .v (.str (S abc)), .v (.str (S stem)), .v (.int (i : Int)), .v (.int turn), .v (.int cut), .v (.int first), .v (.str (S sh)), .v (.str (S tl)), .l ((List.range (i + 1)).map fun k => .str (S (nmK c stem sh tl cut first turn k))), .v (.int (((i : Int) + turn) % 6))] := by
        rw [List.range_succ, List.map_append]
        show _ = SO.nx [_, _, _, _, _, _, _, _, _, _, _, .l (_ ++ [D.str (S (nmK c stem sh tl cut first turn i))]), _]
        unfold B__law_names_2
        by_cases z : c = 0
        · have en : nmK c stem sh tl cut first turn i = sh.take cut.toNat ++ [((first + 7 * (((i : Int) + turn) % 6)) % 26).toNat + 97] ++ sh.drop cut.toNat ++ tl := if_pos z
          rw [en]
          have ze : decide (c = 0) = true := decide_eq_true z
          simp only [sSq_ap, sSet_ap, sIf_ap, sApp_ap, tV_ap, e2_ap, eA_ap, eSl_ap, oN_ap, oS_ap, eV_succ, eV_zero, bind_ok, eCall_ap, aC_ap, aN_ap, gAdd_int, gInt_int, gEq_int, Bof_bl, eC_ap, List.length_cons, List.length_nil, Int.zero_add, Nat.zero_add, Nat.reduceAdd, if_true, pc, d6, d26, g1, t1, t2, t3, q1, q2, q3, q4, ze, sl, from_ok, sq_nx, ownL_succ, ownL_zero, List.set_cons_succ, List.set_cons_zero]
        · have en : nmK c stem sh tl cut first turn i = stem.take ((((i : Int) + turn) % 6) + 1).toNat := if_neg z
          rw [en]
          have ze : decide (c = 0) = false := decide_eq_false z
          simp only [sSq_ap, sSet_ap, sIf_ap, sApp_ap, tV_ap, e2_ap, eA_ap, eSl_ap, oN_ap, oS_ap, eV_succ, eV_zero, bind_ok, eCall_ap, aC_ap, aN_ap, gAdd_int, gInt_int, gEq_int, Bof_bl, eC_ap, List.length_cons, List.length_nil, Int.zero_add, Nat.zero_add, Nat.reduceAdd, if_true, pc, d6, d26, g1, t1, t2, t3, q1, q2, q3, q4, ze, sl, from_ok, sq_nx, ownL_succ, ownL_zero, List.set_cons_succ, List.set_cons_zero, Bool.false_eq_true, if_false]
      show SO.goes (B__law_names_2 [.v (.lst (ps.map .int)), .v (.int spot), .v (.int number), .v (.str (S abc)), .v (.str (S stem)), .v (.int (0 + (i : Int))), .v (.int turn), .v (.int cut), .v (.int first), .v (.str (S sh)), .v (.str (S tl)), .l ((List.range i).map fun k => .str (S (nmK c stem sh tl cut first turn k))), t]) _
      rw [st]
      exact ⟨_, _, rfl⟩)
  exact ⟨s, t, e⟩
theorem nmA_len (sh tl : List Nat) (cut first m : Int) : (nmA sh tl cut first m).length = sh.length + 1 + tl.length := by
  unfold nmA
  simp only [List.length_append, List.length_take, List.length_drop, List.length_cons, List.length_nil]
  omega
theorem nmA_inj {sh tl : List Nat} {cut first m m' : Int} (c0 : 0 ≤ m) (c1 : m < 6) (d0 : 0 ≤ m') (d1 : m' < 6) (h : nmA sh tl cut first m = nmA sh tl cut first m') : m = m' := by
  unfold nmA at h
  rw [List.append_assoc, List.append_assoc, List.append_assoc, List.append_assoc] at h
  have h2 := List.append_cancel_left h
  have h3 := (List.cons.inj h2).1
  omega
theorem nmK_ok {c turn cut first : Int} {stem sh tl : List Nat} (ls : stem.length = 6) (lsh : sh.length ≤ 6) (ltl : tl.length ≤ 1) (w1 : low stem) (w2 : low sh) (w3 : low tl) (k : Nat) : okName (nmK c stem sh tl cut first turn k) := by
  unfold nmK
  split
  · refine ⟨by rw [nmA_len]; omega, by rw [nmA_len]; omega, ?_⟩
    exact low_app (low_app (low_app (low_take w2 _) (low_one (by omega) (by omega))) (low_drop w2 _)) w3
  · exact ⟨by rw [List.length_take]; omega, by rw [List.length_take]; omega, low_take w1 _⟩
theorem nmK_inj {c turn cut first : Int} {stem sh tl : List Nat} (ls : stem.length = 6) {k k' : Nat} (hk : k < 6) (hk' : k' < 6) (h : nmK c stem sh tl cut first turn k = nmK c stem sh tl cut first turn k') : k = k' := by
  unfold nmK at h
  split at h
  · have := nmA_inj (by omega) (by omega) (by omega) (by omega) h
    omega
  · have := congrArg List.length h
    rw [List.length_take, List.length_take, ls] at this
    omega
theorem names_ok {ps : List Int} {spot number : Int} (h0 : 0 ≤ spot) (h1 : spot + 5 ≤ ps.length) (hn : 0 ≤ number) (hn2 : number ≤ 6) :
    ∃ ws : List (List Nat), ws.length = number.toNat ∧ (∀ w ∈ ws, okName w) ∧ ws.Nodup ∧ F__law_names [.lst (ps.map .int), .int spot, .int number] = .ok (.lst (ws.map fun w => .str (S w))) := by
  have p1 := part_ok (ps := ps) (spot := spot + 3) (under := 1) (size := 6) (by omega) (by omega) (by decide) (by decide) (by decide)
  have p2 := part_ok (ps := ps) (spot := spot + 3) (under := 6) (size := 7) (by omega) (by omega) (by decide) (by decide) (by decide)
  have p3 := part_ok (ps := ps) (spot := spot + 3) (under := 42) (size := 26) (by omega) (by omega) (by decide) (by decide) (by decide)
  have p4 := part_ok (ps := ps) (spot := spot + 4) (under := 4) (size := 7) (by omega) (by omega) (by decide) (by decide) (by decide)
  have p5 := part_ok (ps := ps) (spot := spot + 4) (under := 2) (size := 2) (by omega) (by omega) (by decide) (by decide) (by decide)
  have a2 := part_lo (ps := ps) (spot := spot + 3) (under := 6) (size := 7) (by decide)
  have a4 := part_lo (ps := ps) (spot := spot + 4) (under := 4) (size := 7) (by decide)
  have a5 := part_lo (ps := ps) (spot := spot + 4) (under := 2) (size := 2) (by decide)
  have b4 := part_hi (ps := ps) (spot := spot + 4) (under := 4) (size := 7) (by decide)
  have b5 := part_hi (ps := ps) (spot := spot + 4) (under := 2) (size := 2) (by decide)
  obtain ⟨stem, s0, ls, lw, e1⟩ := names_loop1 (ps := ps) (spot := spot) (number := number) h0 h1
  have t1 := gSl_hi (l := stem) a4 (by omega)
  have t2 := gSl_hi (l := stem) a5 (by omega)
  generalize part ps (spot + 3) 1 6 = turn at *
  generalize part ps (spot + 3) 6 7 = cut at *
  generalize part ps (spot + 3) 42 26 = first at *
  generalize part ps (spot + 4) 4 7 = x4 at *
  generalize part ps (spot + 4) 2 2 = x5 at *
  have k1 : (stem.take x4.toNat).length ≤ 6 := by rw [List.length_take]; omega
  have k2 : (stem.take x5.toNat).length ≤ 1 := by rw [List.length_take]; omega
  obtain ⟨s, t, e2⟩ := names_loop2 (ps := ps) (spot := spot) (number := number) (turn := turn) (cut := cut) (first := first) (stem := stem) (sh := stem.take x4.toNat) (tl := stem.take x5.toNat) h0 h1 hn hn2 ls k1 k2 a2 s0
  refine ⟨(List.range number.toNat).map (nmK (part ps (spot + 4) 1 2) stem (stem.take x4.toNat) (stem.take x5.toNat) cut first turn), by rw [List.length_map, List.length_range], ?_, ?_, ?_⟩
  · intro w m
    obtain ⟨k, _, rfl⟩ := List.mem_map.mp m
    exact nmK_ok ls k1 k2 lw (low_take lw _) (low_take lw _) k
  · refine List.pairwise_map.mpr (List.Pairwise.imp_of_mem (fun {k k'} hk hk' ne h => ne ?_) List.nodup_range)
    have := List.mem_range.mp hk
    have := List.mem_range.mp hk'
    exact nmK_inj ls (by omega) (by omega) h
  · unfold F__law_names G__law_names
    have sm3 : small62 3 := by decide
    have smn : small62 number := small_rg hn (by omega)
    have st : startE 13 [.lst (ps.map .int), .int spot, .int number] = [.v (.lst (ps.map .int)), .v (.int spot), .v (.int number), .no, .no, .no, .no, .no, .no, .no, .no, .no, .no] := rfl
    have r3 : (3 : Int).toNat = 3 := rfl
    have z0 : (0 : Nat) ≤ sizeLine := Nat.zero_le _
    simp only [runF_ap, st, abc_eq, none_eq, sSq_ap, sSet_ap, sFor_ap, iR1_ap, sOwn_ap, lDisp_ap, sFrz_ap, sRet_ap, eSl_ap, oN_ap, oS_ap, e2_ap, eV_succ, eV_zero, bind_ok, eCall_ap, aC_ap, aN_ap, gAdd_int, eC_ap, List.length_cons, List.length_nil, Nat.zero_add, Nat.reduceAdd, if_true, p1, p2, p3, p4, p5, sm3, smn, r3, e1, t1, t2, from_ok, sq_nx, List.set_cons_succ, List.set_cons_zero, z0, e2, frzE_succ, frzE_zero, frzS_l, out_rt, List.map_map]
    rfl
end Tk

namespace Tk
open PySem PySem.Spec L2 PyProof.Rows
/-! ### == of plain data without truth values -/
mutual
def cleanD : Nat → D → Bool
  | _, .non => true
  | _, .int _ => true
  | _, .str s => PyData.strOk s
  | n + 1, .lst xs => cleanL n xs
  | n + 1, .tup xs => cleanL n xs
  | _, _ => false
def cleanL : Nat → List D → Bool
  | _, [] => true
  | n, d :: ds => cleanD n d && cleanL n ds
end
theorem cleanL_all {n : Nat} : ∀ {ds : List D}, cleanL n ds = true ↔ ∀ d ∈ ds, cleanD n d = true
  | [] => by simp [cleanL]
  | d :: ds => by simp [cleanL, cleanL_all (ds := ds)]
mutual
theorem clean_toP : ∀ {n : Nat} {d : D}, cleanD n d = true → ∃ p, toP d = some p ∧ p.canLay0 = true ∧ p.depth ≤ n
  | _, .non, _ => ⟨.none, by simp [toP], by simp [PyData.canLay0], by simp [PyData.depth]⟩
  | _, .int i, _ => ⟨.int i, by simp [toP], by simp [PyData.canLay0], by simp [PyData.depth]⟩
  | _, .str s, h => ⟨.str s, by simp [toP], by simp only [PyData.canLay0]; simpa [cleanD] using h, by simp [PyData.depth]⟩
  | 0, .lst _, h => by simp [cleanD] at h
  | 0, .tup _, h => by simp [cleanD] at h
  | n + 1, .lst xs, h => by
    obtain ⟨ps, e1, e2, e3⟩ := cleanL_toP (n := n) (ds := xs) (by simpa [cleanD] using h)
    exact ⟨.list ps, by simp [toP, e1], by simpa [PyData.canLay0] using e2, by simp only [PyData.depth]; omega⟩
  | n + 1, .tup xs, h => by
    obtain ⟨ps, e1, e2, e3⟩ := cleanL_toP (n := n) (ds := xs) (by simpa [cleanD] using h)
    exact ⟨.tuple ps, by simp [toP, e1], by simpa [PyData.canLay0] using e2, by simp only [PyData.depth]; omega⟩
  | _, .bl _, h => by simp [cleanD] at h
  | _, .ty _, h => by simp [cleanD] at h
  | _, .cl _, h => by simp [cleanD] at h
  | _, .scr _, h => by simp [cleanD] at h
  | _, .dK _, h => by simp [cleanD] at h
  | _, .dT _, h => by simp [cleanD] at h
  | _, .ins _ _, h => by simp [cleanD] at h
theorem cleanL_toP : ∀ {n : Nat} {ds : List D}, cleanL n ds = true → ∃ ps, toPs ds = some ps ∧ PyData.canLayAll0 ps = true ∧ PyData.depthAll ps ≤ n
  | n, [], _ => ⟨[], by simp [toPs], by simp [PyData.canLayAll0], by simp [PyData.depthAll]⟩
  | n, d :: ds, h => by
    have h2 : cleanD n d = true ∧ cleanL n ds = true := by simpa [cleanL] using h
    obtain ⟨p, a1, a2, a3⟩ := clean_toP h2.1
    obtain ⟨ps, b1, b2, b3⟩ := cleanL_toP h2.2
    exact ⟨p :: ps, by simp [toPs, a1, b1], by simp [PyData.canLayAll0, a2, b2], by simp only [PyData.depthAll]; omega⟩
end
mutual
theorem eqv_iff : ∀ {n m : Nat} {a b : D} {p q : PyData}, cleanD n a = true → cleanD m b = true → toP a = some p → toP b = some q → (PyData.eqv p q = true ↔ a = b)
  | n, m, a, b, p, q, ha, hb, ea, eb => by
    cases a with
    | non =>
      cases (by simpa [toP] using ea : PyData.none = p)
      cases b with
      | non => cases (by simpa [toP] using eb : PyData.none = q); simp [PyData.eqv]
      | int j => cases (by simpa [toP] using eb : PyData.int j = q); simp [PyData.eqv]
      | str j => cases (by simpa [toP] using eb : PyData.str j = q); simp [PyData.eqv]
      | lst ys =>
        obtain ⟨qs, e2, rfl⟩ : ∃ ps, toPs ys = some ps ∧ PyData.list ps = q := by simpa [toP] using eb
        simp [PyData.eqv]
      | tup ys =>
        obtain ⟨qs, e2, rfl⟩ : ∃ ps, toPs ys = some ps ∧ PyData.tuple ps = q := by simpa [toP] using eb
        simp [PyData.eqv]
      | _ => simp [cleanD] at hb
    | int i =>
      cases (by simpa [toP] using ea : PyData.int i = p)
      cases b with
      | non => cases (by simpa [toP] using eb : PyData.none = q); simp [PyData.eqv]
      | int j => cases (by simpa [toP] using eb : PyData.int j = q); simp [PyData.eqv]
      | str j => cases (by simpa [toP] using eb : PyData.str j = q); simp [PyData.eqv]
      | lst ys =>
        obtain ⟨qs, e2, rfl⟩ : ∃ ps, toPs ys = some ps ∧ PyData.list ps = q := by simpa [toP] using eb
        simp [PyData.eqv]
      | tup ys =>
        obtain ⟨qs, e2, rfl⟩ : ∃ ps, toPs ys = some ps ∧ PyData.tuple ps = q := by simpa [toP] using eb
        simp [PyData.eqv]
      | _ => simp [cleanD] at hb
    | str i =>
      cases (by simpa [toP] using ea : PyData.str i = p)
      cases b with
      | non => cases (by simpa [toP] using eb : PyData.none = q); simp [PyData.eqv]
      | int j => cases (by simpa [toP] using eb : PyData.int j = q); simp [PyData.eqv]
      | str j => cases (by simpa [toP] using eb : PyData.str j = q); simp [PyData.eqv]
      | lst ys =>
        obtain ⟨qs, e2, rfl⟩ : ∃ ps, toPs ys = some ps ∧ PyData.list ps = q := by simpa [toP] using eb
        simp [PyData.eqv]
      | tup ys =>
        obtain ⟨qs, e2, rfl⟩ : ∃ ps, toPs ys = some ps ∧ PyData.tuple ps = q := by simpa [toP] using eb
        simp [PyData.eqv]
      | _ => simp [cleanD] at hb
    | lst xs =>
      cases n with
      | zero => simp [cleanD] at ha
      | succ n =>
        have ha2 : cleanL n xs = true := by simpa [cleanD] using ha
        obtain ⟨ps, e1, rfl⟩ : ∃ ps, toPs xs = some ps ∧ PyData.list ps = p := by simpa [toP] using ea
        cases b with
        | lst ys =>
          cases m with
          | zero => simp [cleanD] at hb
          | succ m =>
            have hb2 : cleanL m ys = true := by simpa [cleanD] using hb
            obtain ⟨qs, e2, rfl⟩ : ∃ ps, toPs ys = some ps ∧ PyData.list ps = q := by simpa [toP] using eb
            have := eqvL_iff ha2 hb2 e1 e2
            simp only [PyData.eqv]
            rw [this]
            simp
        | tup ys =>
          obtain ⟨qs, e2, rfl⟩ : ∃ ps, toPs ys = some ps ∧ PyData.tuple ps = q := by simpa [toP] using eb
          simp [PyData.eqv]
        | non => cases (by simpa [toP] using eb : PyData.none = q); simp [PyData.eqv]
        | int i => cases (by simpa [toP] using eb : PyData.int i = q); simp [PyData.eqv]
        | str i => cases (by simpa [toP] using eb : PyData.str i = q); simp [PyData.eqv]
        | _ => simp [cleanD] at hb
    | tup xs =>
      cases n with
      | zero => simp [cleanD] at ha
      | succ n =>
        have ha2 : cleanL n xs = true := by simpa [cleanD] using ha
        obtain ⟨ps, e1, rfl⟩ : ∃ ps, toPs xs = some ps ∧ PyData.tuple ps = p := by simpa [toP] using ea
        cases b with
        | tup ys =>
          cases m with
          | zero => simp [cleanD] at hb
          | succ m =>
            have hb2 : cleanL m ys = true := by simpa [cleanD] using hb
            obtain ⟨qs, e2, rfl⟩ : ∃ ps, toPs ys = some ps ∧ PyData.tuple ps = q := by simpa [toP] using eb
            have := eqvL_iff ha2 hb2 e1 e2
            simp only [PyData.eqv]
            rw [this]
            simp
        | lst ys =>
          obtain ⟨qs, e2, rfl⟩ : ∃ ps, toPs ys = some ps ∧ PyData.list ps = q := by simpa [toP] using eb
          simp [PyData.eqv]
        | non => cases (by simpa [toP] using eb : PyData.none = q); simp [PyData.eqv]
        | int i => cases (by simpa [toP] using eb : PyData.int i = q); simp [PyData.eqv]
        | str i => cases (by simpa [toP] using eb : PyData.str i = q); simp [PyData.eqv]
        | _ => simp [cleanD] at hb
    | _ => simp [cleanD] at ha
theorem eqvL_iff : ∀ {n m : Nat} {as bs : List D} {ps qs : List PyData}, cleanL n as = true → cleanL m bs = true → toPs as = some ps → toPs bs = some qs → (PyData.eqvAll ps qs = true ↔ as = bs)
  | n, m, [], [], ps, qs, _, _, e1, e2 => by
    cases (by simpa [toPs] using e1 : ps = [])
    cases (by simpa [toPs] using e2 : qs = [])
    simp [PyData.eqvAll]
  | n, m, [], b :: bs, ps, qs, _, hb, e1, e2 => by
    cases (by simpa [toPs] using e1 : ps = [])
    have hb2 : cleanD m b = true ∧ cleanL m bs = true := by simpa [cleanL] using hb
    obtain ⟨q, a1, _⟩ := clean_toP hb2.1
    obtain ⟨qs', b1, _⟩ := cleanL_toP hb2.2
    cases (by simpa [toPs, a1, b1] using e2 : q :: qs' = qs)
    simp [PyData.eqvAll]
  | n, m, a :: as, [], ps, qs, ha, _, e1, e2 => by
    cases (by simpa [toPs] using e2 : qs = [])
    have ha2 : cleanD n a = true ∧ cleanL n as = true := by simpa [cleanL] using ha
    obtain ⟨q, a1, _⟩ := clean_toP ha2.1
    obtain ⟨qs', b1, _⟩ := cleanL_toP ha2.2
    cases (by simpa [toPs, a1, b1] using e1 : q :: qs' = ps)
    simp [PyData.eqvAll]
  | n, m, a :: as, b :: bs, ps, qs, ha, hb, e1, e2 => by
    have ha2 : cleanD n a = true ∧ cleanL n as = true := by simpa [cleanL] using ha
    have hb2 : cleanD m b = true ∧ cleanL m bs = true := by simpa [cleanL] using hb
    obtain ⟨p, a1, _⟩ := clean_toP ha2.1
    obtain ⟨ps', c1, _⟩ := cleanL_toP ha2.2
    obtain ⟨q, d1, _⟩ := clean_toP hb2.1
    obtain ⟨qs', f1, _⟩ := cleanL_toP hb2.2
    cases (by simpa [toPs, a1, c1] using e1 : p :: ps' = ps)
    cases (by simpa [toPs, d1, f1] using e2 : q :: qs' = qs)
    have h1 := eqv_iff ha2.1 hb2.1 a1 d1
    have h2 := eqvL_iff ha2.2 hb2.2 c1 f1
    simp only [PyData.eqvAll, Bool.and_eq_true, h1, h2, List.cons.injEq]
end
theorem gEqP_clean {n m : Nat} {a b : D} (hn : n ≤ 64) (hm : m ≤ 64) (ha : cleanD n a = true) (hb : cleanD m b = true) : (a = b → gEqP a b = .ok (.bl true)) ∧ (a ≠ b → gEqP a b = .ok (.bl false)) := by
  obtain ⟨p, a1, a2, a3⟩ := clean_toP ha
  obtain ⟨q, b1, b2, b3⟩ := clean_toP hb
  have i := eqv_iff ha hb a1 b1
  have s1 : SeqAt.shaped p = true := by unfold SeqAt.shaped; rw [a2, decide_eq_true (by omega : p.depth ≤ 64)]; rfl
  have s2 : SeqAt.shaped q = true := by unfold SeqAt.shaped; rw [b2, decide_eq_true (by omega : q.depth ≤ 64)]; rfl
  have e : gEqP a b = .ok (.bl (PyData.eqv p q)) := by
    unfold gEqP
    rw [a1, b1]
    show (if (SeqAt.shaped p && SeqAt.shaped q) = true then _ else _) = _
    rw [s1, s2]
    rfl
  refine ⟨fun h => ?_, fun h => ?_⟩
  · rw [e, i.mpr h]
  · rw [e]
    cases z : PyData.eqv p q with
    | true => exact absurd (i.mp z) h
    | false => rfl
theorem gEq_clean {n m : Nat} {a b : D} (hn : n ≤ 64) (hm : m ≤ 64) (ha : cleanD n a = true) (hb : cleanD m b = true) : (a = b → gEq a b = .ok (.bl true)) ∧ (a ≠ b → gEq a b = .ok (.bl false)) := by
  unfold gEq
  split
  · refine ⟨fun h => ?_, fun h => ?_⟩
    · cases h; simp
    · rw [decide_eq_false]; intro z; exact h (by rw [z])
  · refine ⟨fun h => ?_, fun h => ?_⟩
    · cases h; simp
    · rw [decide_eq_false]; intro z; exact h (by rw [z])
  · refine ⟨fun h => ?_, fun h => ?_⟩
    · cases h; simp
    · rw [decide_eq_false]; intro z; exact h (by rw [z])
  · exact gEqP_clean hn hm ha hb
theorem S_ok {w : List Nat} (h : ∀ c ∈ w, c < 1114112) : PyData.strOk (S w) = true := by
  unfold PyData.strOk
  simpa using h
end Tk

namespace Tk
open PySem PySem.Spec L2 PyProof.Rows
/-! ### names in lists and tuples -/
abbrev nD (w : List Nat) : D := .str (S w)
theorem inV_names {w : List Nat} {ws : List (List Nat)} : inV (toV (nD w)) ((ws.map nD).map toV) = decide (w ∈ ws) := by
  unfold inV
  rw [List.map_map, List.any_map, Bool.eq_iff_iff, List.any_eq_true, decide_eq_true_eq]
  constructor
  · rintro ⟨u, m, e⟩
    have e2 : (S u == S w) = true := e
    rw [← S_inj (eq_of_beq e2)]
    exact m
  · intro m
    exact ⟨w, m, by show (S w == S w) = true; exact beq_self_eq_true _⟩
theorem flat_names {ws : List (List Nat)} : (ws.map nD).all flatD = true := by rw [List.all_map]; exact List.all_eq_true.mpr fun _ _ => rfl
theorem in_lst {w : List Nat} {ws : List (List Nat)} : gInS false (nD w) (.lst (ws.map nD)) = .ok (.bl (decide (w ∈ ws))) := by
  show (if flatD (nD w) = true ∧ (ws.map nD).all flatD = true then R.ok (D.bl (if false = true then !inV (toV (nD w)) ((ws.map nD).map toV) else inV (toV (nD w)) ((ws.map nD).map toV))) else gInP false (nD w) (ws.map nD)) = _
  rw [if_pos ⟨rfl, flat_names⟩, if_neg Bool.false_ne_true, inV_names]
theorem nin_lst {w : List Nat} {ws : List (List Nat)} : gInS true (nD w) (.lst (ws.map nD)) = .ok (.bl (!decide (w ∈ ws))) := by
  show (if flatD (nD w) = true ∧ (ws.map nD).all flatD = true then R.ok (D.bl (if true = true then !inV (toV (nD w)) ((ws.map nD).map toV) else inV (toV (nD w)) ((ws.map nD).map toV))) else gInP true (nD w) (ws.map nD)) = _
  rw [if_pos ⟨rfl, flat_names⟩, if_pos rfl, inV_names]
theorem in_tup {w : List Nat} {ws : List (List Nat)} : gInS false (nD w) (.tup (ws.map nD)) = .ok (.bl (decide (w ∈ ws))) := by
  show (if flatD (nD w) = true ∧ (ws.map nD).all flatD = true then R.ok (D.bl (if false = true then !inV (toV (nD w)) ((ws.map nD).map toV) else inV (toV (nD w)) ((ws.map nD).map toV))) else .bad) = _
  rw [if_pos ⟨rfl, flat_names⟩, if_neg Bool.false_ne_true, inV_names]
theorem nin_tup {w : List Nat} {ws : List (List Nat)} : gInS true (nD w) (.tup (ws.map nD)) = .ok (.bl (!decide (w ∈ ws))) := by
  show (if flatD (nD w) = true ∧ (ws.map nD).all flatD = true then R.ok (D.bl (if true = true then !inV (toV (nD w)) ((ws.map nD).map toV) else inV (toV (nD w)) ((ws.map nD).map toV))) else .bad) = _
  rw [if_pos ⟨rfl, flat_names⟩, if_pos rfl, inV_names]
theorem eq_names {a b : List Nat} : gEq (nD a) (nD b) = .ok (.bl (decide (a = b))) := by
  show R.ok (D.bl (decide (S a = S b))) = _
  congr 2
  rw [decide_eq_decide]
  exact ⟨S_inj, fun h => by rw [h]⟩
theorem ne_names {a b : List Nat} : gNe (nD a) (nD b) = .ok (.bl (!decide (a = b))) := by rw [gNe_def, eq_names]; rfl
/-! ### who is passed over -/
def overL (cs ts : List (List Nat)) (kp : List Nat) : List (List Nat) := cs.filter fun m => (!decide (m ∈ ts)) && !decide (m = kp)
theorem passed_ok {cs ts : List (List Nat)} {kp : List Nat} (hl : cs.length ≤ 1000) : F_passed_over [.tup (cs.map nD), .tup (ts.map nD), nD kp] = .ok (.tup ((overL cs ts kp).map nD)) := by
  have e := lc_map (inj := nD) (h := gN 3) (t := tAnd (tV (e2 (gInS true) (eV 3) (eV 1))) (tV (e2 gNe (eV 3) (eV 2)))) (fe := eV 3) (ρ := [.v (.tup (cs.map nD)), .v (.tup (ts.map nD)), .v (nD kp), .no]) (fun m => (!decide (m ∈ ts)) && !decide (m = kp)) nD (l := cs) fun m _ =>
    ⟨[.v (.tup (cs.map nD)), .v (.tup (ts.map nD)), .v (nD kp), .v (nD m)], rfl, by
      simp only [tAnd_ap, tV_ap, e2_ap, eV_succ, eV_zero, bind_ok, nin_tup, ne_names, Bof_bl]
      cases (!decide (m ∈ ts)) <;> simp, fun _ => rfl⟩
  have sz : (cs.map nD).length ≤ sizeLine := by rw [List.length_map, sz24]; omega
  unfold F_passed_over G_passed_over
  simp only [runF_ap, show startE 4 [.tup (cs.map nD), .tup (ts.map nD), nD kp] = [.v (.tup (cs.map nD)), .v (.tup (ts.map nD)), .v (nD kp), .no] from rfl, sRet_ap, eA_ap, aC_ap, aN_ap, eLc_ap, iSq_ap, eV_zero, eV_succ, bind_ok, gIt_tup, sz, if_true, wipeE_cons, wipeE_nil, List.set_cons_succ, List.set_cons_zero, e, gTuple_lst, from_ok, out_rt]
  rfl
/-! ### the passes behind a round -/
def npass (cs ts : List (List Nat)) (kp : List Nat) (most : Int) (p : List Nat × Int) : Int := if p.1 ∈ ts ∨ p.1 = kp then 0 else if p.1 ∈ overL cs ts kp then (if most < p.2 + 1 then most else p.2 + 1) else p.2
theorem zip_map {α β : Type} (f : α → D) (g : β → D) : ∀ (l : List α) (l' : List β), zipD (l.map f) (l'.map g) = (l.zip l').map fun p => .tup [f p.1, g p.2]
  | [], _ => by cases ‹List β› <;> rfl
  | _ :: _, [] => rfl
  | a :: l, b :: l' => by
    show D.tup [f a, g b] :: zipD (l.map f) (l'.map g) = _
    rw [zip_map f g l l']
    rfl
def npE (ms cs ts : List (List Nat)) (ps : List Int) (kp : List Nat) (most : Int) (acc : List Int) (a b : Sl) : Ev := [.v (.tup (ms.map nD)), .v (.tup (ps.map .int)), .v (.tup (cs.map nD)), .v (.tup (ts.map nD)), .v (nD kp), .v (.int most), .v (.tup ((overL cs ts kp).map nD)), .l (acc.map .int), a, b]
theorem next_ok {ms cs ts : List (List Nat)} {ps : List Int} {kp : List Nat} {most : Int} (hm : ms.length ≤ 1000) (hl : cs.length ≤ 1000) :
    F_next_passes [.tup (ms.map nD), .tup (ps.map .int), .tup (cs.map nD), .tup (ts.map nD), nD kp, .int most] = .ok (.tup (((ms.zip ps).map (npass cs ts kp most)).map .int)) := by
  obtain ⟨ρ', e, a, b, rfl⟩ := loop_map (inj := fun p : List Nat × Int => D.tup [nD p.1, .int p.2]) (h := gT 2 (gsC (gN 8) (gsC (gN 9) (gsN)))) (body := B_next_passes_1) (l := ms.zip ps) (ρ := npE ms cs ts ps kp most [] .no .no)
    (fun i ρ => ∃ a b : Sl, ρ = npE ms cs ts ps kp most (((ms.zip ps).take i).map (npass cs ts kp most)) a b) ⟨_, _, rfl⟩ (by
      rintro i p ρ q ⟨a, b, rfl⟩
      refine ⟨npE ms cs ts ps kp most (((ms.zip ps).take i).map (npass cs ts kp most)) (.v (nD p.1)) (.v (.int p.2)), rfl, ?_⟩
      have sz : ((((ms.zip ps).take i).map (npass cs ts kp most)).map D.int).length < sizeLine := by rw [List.length_map, List.length_map, List.length_take, List.length_zip, sz24]; omega
      have st : B_next_passes_1 (npE ms cs ts ps kp most (((ms.zip ps).take i).map (npass cs ts kp most)) (.v (nD p.1)) (.v (.int p.2))) = .nx (npE ms cs ts ps kp most (((ms.zip ps).take (i + 1)).map (npass cs ts kp most)) (.v (nD p.1)) (.v (.int p.2))) := by
        rw [List.take_succ, q, List.map_append]
        unfold npE B_next_passes_1
        rw [List.map_append]
        have t1 : (if decide (p.1 ∈ ts) = true then R.ok true else R.ok (decide (p.1 = kp))) = R.ok (decide (p.1 ∈ ts ∨ p.1 = kp)) := by
          by_cases c1 : p.1 ∈ ts
          · simp [c1]
          · simp [c1]
        simp only [sIf_ap, sApp_ap, tOr_ap, tV_ap, e2_ap, eA_ap, aC_ap, aN_ap, eC_ap, eV_succ, eV_zero, bind_ok, in_tup, eq_names, Bof_bl, t1, from_ok, gAdd_int, gMin_int, ownL_succ, ownL_zero, sz, if_true, List.set_cons_succ, List.set_cons_zero]
        by_cases c1 : p.1 ∈ ts ∨ p.1 = kp
        · have e1 : npass cs ts kp most p = 0 := if_pos c1
          simp [c1, e1]
        · by_cases c2 : p.1 ∈ overL cs ts kp
          · have e1 : npass cs ts kp most p = (if most < p.2 + 1 then most else p.2 + 1) := by unfold npass; rw [if_neg c1, if_pos c2]
            simp [c1, c2, e1]
          · have e1 : npass cs ts kp most p = p.2 := by unfold npass; rw [if_neg c1, if_neg c2]
            simp [c1, c2, e1]
      rw [st]
      exact ⟨_, _, rfl⟩)
  rw [List.take_length] at e
  unfold npE at e
  have po := passed_ok (cs := cs) (ts := ts) (kp := kp) hl
  have zm := zip_map nD D.int ms ps
  have z0 : (0 : Nat) ≤ sizeLine := Nat.zero_le _
  rw [List.map_nil] at e
  unfold F_next_passes G_next_passes
  simp only [runF_ap, show startE 10 [.tup (ms.map nD), .tup (ps.map .int), .tup (cs.map nD), .tup (ts.map nD), nD kp, .int most] = [.v (.tup (ms.map nD)), .v (.tup (ps.map .int)), .v (.tup (cs.map nD)), .v (.tup (ts.map nD)), .v (nD kp), .v (.int most), .no, .no, .no, .no] from rfl,
    sSq_ap, sSet_ap, sOwn_ap, lDisp_ap, sFor_ap, iZp2_ap, sFrz_ap, sRet_ap, eA_ap, aC_ap, aN_ap, eCall_ap, eV_zero, eV_succ, bind_ok, List.length_cons, List.length_nil, Nat.zero_add, Nat.reduceAdd, if_true, po, from_ok, sq_nx, List.set_cons_succ, List.set_cons_zero, z0, seqD_tup, optR_some, zm, e, frzE_succ, frzE_zero, frzS_l, gTuple_lst, out_rt]
end Tk

namespace Tk
open PySem PySem.Spec L2 PyProof.Rows
/-! ### dicts of distinct keys -/
theorem putG_new {α : Type} {kvs : List (Key × α)} {k : Key} {v : α} (h : k ∉ kvs.map (·.1)) : putG kvs k v = kvs ++ [(k, v)] := by
  unfold putG
  rw [if_neg]
  rw [List.any_eq_true]
  rintro ⟨x, m, e⟩
  exact h (List.mem_map.mpr ⟨x, m, of_decide_eq_true e⟩)
theorem mergeG_new {α : Type} : ∀ {more kvs : List (Key × α)}, (more.map (·.1)).Nodup → (∀ x ∈ more.map (·.1), x ∉ kvs.map (·.1)) → mergeG kvs more = kvs ++ more
  | [], kvs, _, _ => by simp [mergeG]
  | (k, v) :: more, kvs, nd, dj => by
    rw [List.map_cons, List.nodup_cons] at nd
    show mergeG (putG kvs k v) more = _
    rw [putG_new (dj k (by simp)), mergeG_new nd.2]
    · simp
    · intro x m
      rw [List.map_append]
      intro z
      rcases List.mem_append.mp z with z | z
      · exact dj x (by rw [List.map_cons]; exact List.mem_cons_of_mem _ m) z
      · have : x = k := by simpa using z
        exact nd.1 (this ▸ m)
theorem getG_zip {α : Type} : ∀ {ks : List Key} {vs : List α} {i : Nat} {k : Key} {v : α}, ks.Nodup → ks[i]? = some k → vs[i]? = some v → getG (ks.zip vs) k = some v
  | [], _, _, _, _, _, e, _ => by simp at e
  | _ :: _, [], _, _, _, _, _, e => by simp at e
  | k' :: ks, v' :: vs, i, k, v, nd, e1, e2 => by
    rw [List.nodup_cons] at nd
    unfold getG
    rw [List.zip_cons_cons, List.find?_cons]
    cases i with
    | zero =>
      have h1 : k' = k := by simpa using e1
      have h2 : v' = v := by simpa using e2
      simp [h1, h2]
    | succ i =>
      rw [List.getElem?_cons_succ] at e1 e2
      have ne : k' ≠ k := fun z => nd.1 (z ▸ List.mem_of_getElem? e1)
      rw [decide_eq_false ne]
      exact getG_zip nd.2 e1 e2
theorem keys_names : ∀ ws : List (List Nat), keysD (ws.map nD) = some (ws.map fun w => (.inr (S w) : Key))
  | [] => rfl
  | w :: ws => by
    show (match keyD (nD w), keysD (ws.map nD) with
      | some k, some ks => some (k :: ks)
      | _, _ => none) = _
    rw [keys_names ws]
    rfl
theorem nd_keys {ws : List (List Nat)} (h : ws.Nodup) : (ws.map fun w => (.inr (S w) : Key)).Nodup :=
  List.pairwise_map.mpr (h.imp fun {a b} ne e => ne (S_inj (Sum.inr.inj e)))
/-! ### the one with the most passes -/
/-- name ms[i] has the number ps[i] -/
def numOf (ms : List (List Nat)) (ps : List Int) (w : List Nat) : Int := (ps.getD (ms.idxOf w) 0)
theorem idx_name {ms : List (List Nat)} (nd : ms.Nodup) {i : Nat} {w : List Nat} (h : ms[i]? = some w) : ms.idxOf w = i := by
  obtain ⟨hi, e⟩ := List.getElem?_eq_some_iff.mp h
  have m : w ∈ ms := List.mem_of_getElem? h
  have h2 : ms.idxOf w < ms.length := List.idxOf_lt_length_iff.mpr m
  have h3 : ms[ms.idxOf w] = w := List.getElem_idxOf h2
  exact (List.getElem_inj nd).mp (h3.trans e.symm)
theorem dz_names {ms : List (List Nat)} {ps : List Int} (nd : ms.Nodup) (hl : ps.length = ms.length) {w : List Nat} (hw : w ∈ ms) :
    gIxA (.dK (mergeG [] ((ms.map fun w => (.inr (S w) : Key)).zip (ps.map D.int)))) (nD w) = .ok (.int (numOf ms ps w)) := by
  obtain ⟨i, hi⟩ := List.mem_iff_getElem?.mp hw
  have li : i < ms.length := (List.getElem?_eq_some_iff.mp hi).1
  have hp : ps[i]? = some (ps[i]'(by omega)) := List.getElem?_eq_getElem _
  have e1 : mergeG [] ((ms.map fun w => (.inr (S w) : Key)).zip (ps.map D.int)) = (ms.map fun w => (.inr (S w) : Key)).zip (ps.map D.int) := by
    rw [mergeG_new]
    · simp
    · rw [List.map_fst_zip (by simp; omega)]
      exact nd_keys nd
    · intro x _
      simp
  have e2 : getG ((ms.map fun w => (.inr (S w) : Key)).zip (ps.map D.int)) (.inr (S w)) = some (.int (numOf ms ps w)) := by
    refine getG_zip (i := i) (nd_keys nd) (by rw [List.getElem?_map, hi]; rfl) ?_
    rw [List.getElem?_map, hp]
    unfold numOf
    rw [idx_name nd hi, List.getD_eq_getElem?_getD, hp]
    rfl
  show (optR (some (.inr (S w) : Key))).bind (fun k => optR (getG (mergeG [] ((ms.map fun w => (.inr (S w) : Key)).zip (ps.map D.int))) k)) = _
  show optR (getG (mergeG [] ((ms.map fun w => (.inr (S w) : Key)).zip (ps.map D.int))) (.inr (S w))) = _
  rw [e1, e2]
  rfl
/-- the choice, candidate by candidate -/
def lonStep (f : List Nat → Int) (c m : List Nat) : List Nat := if c = [] ∨ f c < f m then m else c
def lonL (f : List Nat → Int) (cs : List (List Nat)) : List Nat := cs.foldl (lonStep f) []
theorem lon_run (f : List Nat → Int) (c : List Nat) (cs : List (List Nat)) (h0 : c ≠ []) (hn : ∀ m ∈ cs, m ≠ []) : (cs.foldl (lonStep f) c = c ∨ cs.foldl (lonStep f) c ∈ cs) ∧ f c ≤ f (cs.foldl (lonStep f) c) ∧ (∀ m ∈ cs, f m ≤ f (cs.foldl (lonStep f) c)) ∧ cs.foldl (lonStep f) c ≠ [] := by
  induction cs generalizing c with
  | nil => exact ⟨.inl rfl, Int.le_refl _, (fun m h => nomatch h), h0⟩
  | cons m cs ih =>
    have hm : m ≠ [] := hn m (by simp)
    have hcs : ∀ m ∈ cs, m ≠ [] := fun x hx => hn x (List.mem_cons_of_mem _ hx)
    show ((cs.foldl (lonStep f) (lonStep f c m) = c ∨ cs.foldl (lonStep f) (lonStep f c m) ∈ m :: cs)) ∧ f c ≤ f (cs.foldl (lonStep f) (lonStep f c m)) ∧ (∀ x ∈ m :: cs, f x ≤ f (cs.foldl (lonStep f) (lonStep f c m))) ∧ cs.foldl (lonStep f) (lonStep f c m) ≠ []
    unfold lonStep
    by_cases q : c = [] ∨ f c < f m
    · simp only [if_pos q]
      obtain ⟨a1, a2, a3, a4⟩ := ih m hm hcs
      have q2 : f c < f m := q.resolve_left h0
      refine ⟨.inr ?_, by unfold lonStep at a2; omega, ?_, a4⟩
      · rcases a1 with a1 | a1
        · have a1' := a1
          unfold lonStep at a1'
          rw [a1']
          simp
        · exact List.mem_cons_of_mem _ a1
      · intro x hx
        rcases List.mem_cons.mp hx with rfl | hx
        · exact a2
        · exact a3 x hx
    · simp only [if_neg q]
      obtain ⟨a1, a2, a3, a4⟩ := ih c h0 hcs
      have q2 : ¬ f c < f m := fun z => q (.inr z)
      refine ⟨a1.imp id (List.mem_cons_of_mem _), a2, ?_, a4⟩
      intro x hx
      rcases List.mem_cons.mp hx with rfl | hx
      · unfold lonStep at a2; omega
      · exact a3 x hx
theorem lon_ok {f : List Nat → Int} {cs : List (List Nat)} (hn : ∀ m ∈ cs, m ≠ []) : (cs = [] ∧ lonL f cs = []) ∨ (lonL f cs ∈ cs ∧ ∀ m ∈ cs, f m ≤ f (lonL f cs)) := by
  cases cs with
  | nil => exact .inl ⟨rfl, rfl⟩
  | cons m cs =>
    right
    have hm : m ≠ [] := hn m (by simp)
    have e : lonL f (m :: cs) = cs.foldl (lonStep f) m := by
      show cs.foldl (lonStep f) (lonStep f [] m) = _
      unfold lonStep
      rw [if_pos (.inl rfl)]
    obtain ⟨a1, a2, a3, _⟩ := lon_run f m cs hm fun x hx => hn x (List.mem_cons_of_mem _ hx)
    rw [e]
    refine ⟨?_, fun x hx => ?_⟩
    · rcases a1 with a1 | a1
      · rw [a1]; simp
      · exact List.mem_cons_of_mem _ a1
    · rcases List.mem_cons.mp hx with rfl | hx
      · exact a2
      · exact a3 x hx
theorem longest_ok {ms cs : List (List Nat)} {ps : List Int} (nd : ms.Nodup) (hl : ps.length = ms.length) (hc : ∀ m ∈ cs, m ∈ ms) : F_longest [.tup (ms.map nD), .tup (ps.map .int), .tup (cs.map nD)] = .ok (nD (lonL (numOf ms ps) cs)) := by
  let dd : D := .dK (mergeG [] ((ms.map fun w => (.inr (S w) : Key)).zip (ps.map D.int)))
  obtain ⟨ρ', e, s, hk, rfl⟩ := loop_map (inj := nD) (h := gN 5) (body := B_longest_1) (l := cs) (ρ := [.v (.tup (ms.map nD)), .v (.tup (ps.map .int)), .v (.tup (cs.map nD)), .v dd, .v (nD []), .no])
    (fun i ρ => ∃ s : Sl, ((cs.take i).foldl (lonStep (numOf ms ps)) [] = [] ∨ (cs.take i).foldl (lonStep (numOf ms ps)) [] ∈ ms) ∧ ρ = [.v (.tup (ms.map nD)), .v (.tup (ps.map .int)), .v (.tup (cs.map nD)), .v dd, .v (nD ((cs.take i).foldl (lonStep (numOf ms ps)) [])), s]) ⟨_, .inl rfl, rfl⟩ (by
      rintro i m ρ q ⟨s, hk, rfl⟩
      refine ⟨_, rfl, ?_⟩
      have mm : m ∈ ms := hc m (List.mem_of_getElem? q)
      have e1 : (cs.take (i + 1)).foldl (lonStep (numOf ms ps)) [] = lonStep (numOf ms ps) ((cs.take i).foldl (lonStep (numOf ms ps)) []) m := by rw [List.take_succ, q, List.foldl_append]; rfl
      generalize (cs.take i).foldl (lonStep (numOf ms ps)) [] = c at *
      have g1 : gIxA dd (nD m) = .ok (.int (numOf ms ps m)) := dz_names nd hl mm
      show SO.goes (B_longest_1 [.v (.tup (ms.map nD)), .v (.tup (ps.map .int)), .v (.tup (cs.map nD)), .v dd, .v (nD c), .v (nD m)]) _
      have st : B_longest_1 [.v (.tup (ms.map nD)), .v (.tup (ps.map .int)), .v (.tup (cs.map nD)), .v dd, .v (nD c), .v (nD m)] = .nx [.v (.tup (ms.map nD)), .v (.tup (ps.map .int)), .v (.tup (cs.map nD)), .v dd, .v (nD (lonStep (numOf ms ps) c m)), .v (nD m)] := by
        unfold B_longest_1
        by_cases z : c = []
        · have e2 : lonStep (numOf ms ps) c m = m := if_pos (.inl z)
          rw [e2]
          simp only [none_eq, sIf_ap, tOr_ap, tV_ap, e2_ap, eC_ap, eV_succ, eV_zero, bind_ok, eq_names, decide_eq_true z, Bof_bl, if_true, from_ok, sSet_ap, List.set_cons_succ, List.set_cons_zero]
        · have cm : c ∈ ms := hk.resolve_left z
          have g2 : gIxA dd (nD c) = .ok (.int (numOf ms ps c)) := dz_names nd hl cm
          by_cases y : numOf ms ps c < numOf ms ps m
          · have e2 : lonStep (numOf ms ps) c m = m := if_pos (.inr y)
            rw [e2]
            simp only [none_eq, sIf_ap, tOr_ap, tV_ap, e2_ap, eC_ap, eV_succ, eV_zero, bind_ok, eq_names, decide_eq_false z, Bof_bl, Bool.false_eq_true, if_false, g1, g2, gGt_int, decide_eq_true y, if_true, from_ok, sSet_ap, List.set_cons_succ, List.set_cons_zero]
          · have e2 : lonStep (numOf ms ps) c m = c := if_neg (fun h => h.elim z y)
            rw [e2]
            simp only [none_eq, sIf_ap, tOr_ap, tV_ap, e2_ap, eC_ap, eV_succ, eV_zero, bind_ok, eq_names, decide_eq_false z, Bof_bl, Bool.false_eq_true, if_false, g1, g2, gGt_int, decide_eq_false y, from_ok, sN_ap]
      rw [st]
      refine ⟨_, ?_, by rw [e1]⟩
      rw [e1]
      unfold lonStep
      split
      · exact .inr mm
      · exact hk)
  rw [List.take_length] at e
  have kn := keys_names ms
  unfold F_longest G_longest
  have dz : eDz (eV 0) (eV 1) [.v (.tup (ms.map nD)), .v (.tup (ps.map .int)), .v (.tup (cs.map nD)), .no, .no, .no] = .ok dd := by
    unfold eDz
    simp only [eV_succ, eV_zero, bind_ok, seqD_tup, optR_some, kn]
    rfl
  simp only [none_eq, runF_ap, show startE 6 [.tup (ms.map nD), .tup (ps.map .int), .tup (cs.map nD)] = [.v (.tup (ms.map nD)), .v (.tup (ps.map .int)), .v (.tup (cs.map nD)), .no, .no, .no] from rfl, sSq_ap, sSet_ap, sFor_ap, iSq_ap, sRet_ap, eC_ap, dz, eV_succ, eV_zero, bind_ok, from_ok, sq_nx, gIt_tup, List.set_cons_succ, List.set_cons_zero, e, out_rt]
  rfl
end Tk

namespace Tk
open PySem PySem.Spec L2 PyProof.Rows
/-! ### some of the names -/
theorem pow_at {k : Nat} (h : k < 4) : ∃ y : Int, 0 < y ∧ y < 18446744073709551616 ∧ gIx (.lst (([1, 2, 4, 8] : List Int).map .int)) (.int (k : Int)) = .ok (.int y) := by
  have : k = 0 ∨ k = 1 ∨ k = 2 ∨ k = 3 := by omega
  rcases this with rfl | rfl | rfl | rfl
  · exact ⟨1, by decide, by decide, rfl⟩
  · exact ⟨2, by decide, by decide, rfl⟩
  · exact ⟨4, by decide, by decide, rfl⟩
  · exact ⟨8, by decide, by decide, rfl⟩
theorem gIx_name {ws : List (List Nat)} {k : Nat} {w : List Nat} (h : ws[k]? = some w) : gIx (.lst (ws.map nD)) (.int (k : Int)) = .ok (nD w) := gIx_map (inj := nD) (by omega) (by rw [Int.toNat_natCast]; exact h)
theorem some_ok {ps : List Int} {spot : Int} {ws : List (List Nat)} (h0 : 0 ≤ spot) (h1 : spot < ps.length) (hl : ws.length ≤ 4) : ∃ cs : List (List Nat), cs.Sublist ws ∧ F__law_some [.lst (ps.map .int), .int spot, .lst (ws.map nD)] = .ok (.lst (cs.map nD)) := by
  obtain ⟨ρ', e, s, cs, hs, rfl⟩ := loop_rg (h := gN 4) (body := B__law_some_1) (lo := 0) (n := ws.length) (ρ := [.v (.lst (ps.map .int)), .v (.int spot), .v (.lst (ws.map nD)), .l [], .no])
    (fun i ρ => ∃ (s : Sl) (cs : List (List Nat)), cs.Sublist (ws.take i) ∧ ρ = [.v (.lst (ps.map .int)), .v (.int spot), .v (.lst (ws.map nD)), .l (cs.map nD), s]) ⟨_, [], by simp, rfl⟩ (by
      rintro k ρ hk ⟨s, cs, hs, rfl⟩
      refine ⟨_, rfl, ?_⟩
      obtain ⟨y, y0, y1, ye⟩ := pow_at (k := k) (by omega)
      have p := part_ok (ps := ps) (spot := spot) (under := y) (size := 2) h0 h1 y0 y1 (by decide)
      have g := gIx_name (ws := ws) (k := k) (List.getElem?_eq_getElem hk)
      have gl : gLst [.int 1, .int 2, .int 4, .int 8] = .ok (.lst (([1, 2, 4, 8] : List Int).map .int)) := rfl
      have cl := hs.length_le
      rw [List.length_take] at cl
      have sz : (cs.map nD).length < sizeLine := by rw [List.length_map, sz24]; omega
      have tk : ws.take (k + 1) = ws.take k ++ [ws[k]] := by rw [List.take_succ, List.getElem?_eq_getElem hk]; rfl
      show SO.goes (B__law_some_1 [.v (.lst (ps.map .int)), .v (.int spot), .v (.lst (ws.map nD)), .l (cs.map nD), .v (.int (0 + (k : Int)))]) _
      rw [Int.zero_add]
      by_cases z : part ps spot y 2 = 1
      · have st : B__law_some_1 [.v (.lst (ps.map .int)), .v (.int spot), .v (.lst (ws.map nD)), .l (cs.map nD), .v (.int (k : Int))] = .nx [.v (.lst (ps.map .int)), .v (.int spot), .v (.lst (ws.map nD)), .l ((cs ++ [ws[k]]).map nD), .v (.int (k : Int))] := by
          unfold B__law_some_1
          rw [List.map_append]
          simp only [sIf_ap, sApp_ap, sN_ap, tV_ap, e2_ap, eA_ap, aC_ap, aN_ap, eC_ap, eCall_ap, eV_succ, eV_zero, bind_ok, gl, ye, p, List.length_cons, List.length_nil, Nat.zero_add, Nat.reduceAdd, if_true, gEq_int, decide_eq_true z, Bof_bl, from_ok, ownL_succ, ownL_zero, g, sz, List.set_cons_succ, List.set_cons_zero]
          rfl
        rw [st]
        exact ⟨_, _, by rw [tk]; exact hs.append (List.Sublist.refl _), rfl⟩
      · have st : B__law_some_1 [.v (.lst (ps.map .int)), .v (.int spot), .v (.lst (ws.map nD)), .l (cs.map nD), .v (.int (k : Int))] = .nx [.v (.lst (ps.map .int)), .v (.int spot), .v (.lst (ws.map nD)), .l (cs.map nD), .v (.int (k : Int))] := by
          unfold B__law_some_1
          simp only [sIf_ap, sApp_ap, sN_ap, tV_ap, e2_ap, eA_ap, aC_ap, aN_ap, eC_ap, eCall_ap, eV_succ, eV_zero, bind_ok, gl, ye, p, List.length_cons, List.length_nil, Nat.zero_add, Nat.reduceAdd, if_true, gEq_int, decide_eq_false z, Bof_bl, from_ok, Bool.false_eq_true, if_false]
        rw [st]
        exact ⟨_, _, by rw [tk]; exact hs.trans (List.sublist_append_left _ _), rfl⟩)
  rw [List.take_length] at hs
  refine ⟨cs, hs, ?_⟩
  have sm : small62 (ws.length : Int) := small_rg (by omega) (by omega)
  have ll : (ws.map nD).length = ws.length := List.length_map _
  have z0 : (0 : Nat) ≤ sizeLine := Nat.zero_le _
  unfold F__law_some G__law_some
  simp only [runF_ap, show startE 5 [.lst (ps.map .int), .int spot, .lst (ws.map nD)] = [.v (.lst (ps.map .int)), .v (.int spot), .v (.lst (ws.map nD)), .no, .no] from rfl, sSq_ap, sOwn_ap, lDisp_ap, sFor_ap, iR1_ap, sFrz_ap, sRet_ap, eA_ap, aC_ap, aN_ap, eV_zero, eV_succ, bind_ok, List.length_nil, z0, if_true, from_ok, sq_nx, List.set_cons_succ, List.set_cons_zero, gLen_lst, ll, sm, Int.toNat_natCast, e, frzE_succ, frzE_zero, frzS_l, out_rt]
end Tk

namespace Tk
open PySem PySem.Spec L2 PyProof.Rows
def B_first_over_1 : Ev → SO := sIf (tV (e2 gGe (e2 gIxA (eV 4) (eV 5)) (eV 3))) (sRet (eV 5)) (sN)
def G_first_over : Ev → SO := sSq (sIf (tV (e2 gIsN (eV 3) (eC .non))) (sRet (eC .non)) (sN)) (sSq (sSet 4 (eDz (eV 0) (eV 1))) (sSq (sFor (iSq (eV 2)) (gN 5) (B_first_over_1)) (sRet (eC .non))))
def F_first_over : List D → R D := runF 6 G_first_over
def G__law_by_name : Ev → SO := sSq (sAsg (eV 1) (gT 8 (gsC (gN 2) (gsC (gN 3) (gsC (gN 4) (gsC (gN 5) (gsC (gN 6) (gsC (gN 7) (gsC (gN 8) (gsC (gN 9) (gsN))))))))))) (sSq (sOwn 10 (lDisp (aC (eCallK 0 3 3 F_passed_over (gDk [2, 1, 0] []) (aN) (aC (eV 6) (aC (eA gTuple (aC (eV 5) (aN))) (aC (eA gTuple (aC (eV 3) (aN))) (aN))))) (aN)))) (sSq (sApp 10 (eCallK 1 2 3 F_passed_over (gDk [0, 2, 1] []) (aC (eA gTuple (aC (eV 4) (aN))) (aN)) (aC (eV 6) (aC (eA gTuple (aC (eV 5) (aN))) (aN))))) (sSq (sApp 10 (eCallK 0 6 6 F_next_passes (gDk [5, 4, 3, 2, 1, 0] []) (aN) (aC (eV 7) (aC (eV 6) (aC (eA gTuple (aC (eV 5) (aN))) (aC (eA gTuple (aC (eV 3) (aN))) (aC (eA gTuple (aC (eV 2) (aN))) (aC (eA gTuple (aC (eV 0) (aN))) (aN))))))))) (sSq (sApp 10 (eCallK 2 4 6 F_next_passes (gDk [0, 1, 3, 2, 5, 4] []) (aC (eA gTuple (aC (eV 0) (aN))) (aC (eA gTuple (aC (eV 2) (aN))) (aN))) (aC (eA gTuple (aC (eV 5) (aN))) (aC (eA gTuple (aC (eV 4) (aN))) (aC (eV 7) (aC (eV 6) (aN))))))) (sSq (sApp 10 (eCallK 0 4 4 F_first_over (gDk [3, 2, 1, 0] []) (aN) (aC (eV 9) (aC (eA gTuple (aC (eV 8) (aN))) (aC (eA gTuple (aC (eV 2) (aN))) (aC (eA gTuple (aC (eV 0) (aN))) (aN))))))) (sSq (sApp 10 (eCallK 0 3 3 F_longest (gDk [2, 1, 0] []) (aN) (aC (eA gTuple (aC (eV 3) (aN))) (aC (eA gTuple (aC (eV 2) (aN))) (aC (eA gTuple (aC (eV 0) (aN))) (aN)))))) (sSq (sApp 10 (eCallK 1 2 3 F_longest (gDk [0, 2, 1] []) (aC (eA gTuple (aC (eV 0) (aN))) (aN)) (aC (eA gTuple (aC (eV 4) (aN))) (aC (eA gTuple (aC (eV 2) (aN))) (aN))))) (sFrz 10 (sRet (eV 10))))))))))
def F__law_by_name : List D → R D := runF 11 G__law_by_name
def G__law_by_place : Ev → SO := sSq (sAsg (eV 1) (gT 8 (gsC (gN 2) (gsC (gN 3) (gsC (gN 4) (gsC (gN 5) (gsC (gN 6) (gsC (gN 7) (gsC (gN 8) (gsC (gN 9) (gsN))))))))))) (sSq (sOwn 10 (lDisp (aC (eCall 3 F_passed_over (aC (eA gTuple (aC (eV 3) (aN))) (aC (eA gTuple (aC (eV 5) (aN))) (aC (eV 6) (aN))))) (aC (eCall 3 F_passed_over (aC (eA gTuple (aC (eV 4) (aN))) (aC (eA gTuple (aC (eV 5) (aN))) (aC (eV 6) (aN))))) (aN))))) (sSq (sApp 10 (eCall 6 F_next_passes (aC (eA gTuple (aC (eV 0) (aN))) (aC (eA gTuple (aC (eV 2) (aN))) (aC (eA gTuple (aC (eV 3) (aN))) (aC (eA gTuple (aC (eV 5) (aN))) (aC (eV 6) (aC (eV 7) (aN))))))))) (sSq (sApp 10 (eCall 6 F_next_passes (aC (eA gTuple (aC (eV 0) (aN))) (aC (eA gTuple (aC (eV 2) (aN))) (aC (eA gTuple (aC (eV 4) (aN))) (aC (eA gTuple (aC (eV 5) (aN))) (aC (eV 6) (aC (eV 7) (aN))))))))) (sSq (sApp 10 (eCall 4 F_first_over (aC (eA gTuple (aC (eV 0) (aN))) (aC (eA gTuple (aC (eV 2) (aN))) (aC (eA gTuple (aC (eV 8) (aN))) (aC (eV 9) (aN))))))) (sSq (sApp 10 (eCall 3 F_longest (aC (eA gTuple (aC (eV 0) (aN))) (aC (eA gTuple (aC (eV 2) (aN))) (aC (eA gTuple (aC (eV 3) (aN))) (aN)))))) (sSq (sApp 10 (eCall 3 F_longest (aC (eA gTuple (aC (eV 0) (aN))) (aC (eA gTuple (aC (eV 2) (aN))) (aC (eA gTuple (aC (eV 4) (aN))) (aN)))))) (sFrz 10 (sRet (eV 10)))))))))
def F__law_by_place : List D → R D := runF 11 G__law_by_place
def B__law_shuffled_1 : Ev → SO := sAppPop 4 3 (eBor (e2 gMod (eCall 4 F__law_part (aC (eV 0) (aC (eV 1) (aC (e2 gIx (eA gLst (aC (eC (.int 1)) (aC (eC (.int 4)) (aC (eC (.int 12)) (aC (eC (.int 24)) (aN)))))) (eV 5)) (aC (e2 gIx (eA gLst (aC (eC (.int 4)) (aC (eC (.int 3)) (aC (eC (.int 2)) (aC (eC (.int 1)) (aN)))))) (eV 5)) (aN)))))) (eA gLen (aC (eV 3) (aN)))))
def G__law_shuffled : Ev → SO := sSq (sOwn 3 (lList (eV 2))) (sSq (sOwn 4 (lDisp (aN))) (sSq (sFor (iR1 (eA gLen (aC (eV 2) (aN)))) (gN 5) (B__law_shuffled_1)) (sFrz 4 (sRet (eV 4)))))
def F__law_shuffled : List D → R D := runF 6 G__law_shuffled
def B__law_case_1 : Ev → SO := sApp 4 (eA gMax (aC (eC (.int 0)) (aC (e2 gSub (eV 3) (eCall 4 F__law_part (aC (eV 0) (aC (eC (.int 1)) (aC (e2 gIx (eA gLst (aC (eC (.int 1)) (aC (eC (.int 6)) (aC (eC (.int 36)) (aC (eC (.int 216)) (aN)))))) (eV 5)) (aC (eC (.int 6)) (aN))))))) (aN))))
def G__law_case : Ev → SO := sSq (sSet 2 (e2 gIx (eA gLst (aC (eC (.int 0)) (aC (eC (.int 0)) (aC (eC (.int 0)) (aC (e2 gPow (eC (.int 10)) (eC (.int 9))) (aC (e2 gPow (eC (.int 10)) (eC (.int 59))) (aN))))))) (eCall 4 F__law_part (aC (eV 0) (aC (eC (.int 0)) (aC (eC (.int 1)) (aC (eC (.int 5)) (aN)))))))) (sSq (sSet 3 (e2 gAdd (eV 2) (eCall 4 F__law_part (aC (eV 0) (aC (eC (.int 0)) (aC (eC (.int 5)) (aC (eC (.int 6)) (aN)))))))) (sSq (sOwn 4 (lDisp (aN))) (sSq (sFor (iR1 (eA gLen (aC (eV 1) (aN)))) (gN 5) (B__law_case_1)) (sSq (sSet 6 (eCall 3 F__law_some (aC (eV 0) (aC (eC (.int 2)) (aC (eV 1) (aN)))))) (sSq (sSet 7 (eA gLst (aN))) (sSq (sSet 8 (eCall 4 F__law_part (aC (eV 0) (aC (eC (.int 2)) (aC (eC (.int 16)) (aC (eC (.int 4)) (aN))))))) (sSq (sIf (tV (e2 gEq (eV 8) (eC (.int 1)))) (sSet 7 (eSl (eCall 3 F__law_shuffled (aC (eV 0) (aC (eC (.int 3)) (aC (eV 6) (aN))))) (oN) (oS (eC (.int 1))))) (sN)) (sSq (sIf (tV (e2 gEq (eV 8) (eC (.int 2)))) (sSet 7 (eSl (eCall 3 F__law_shuffled (aC (eV 0) (aC (eC (.int 3)) (aC (eV 6) (aN))))) (oN) (oS (eC (.int 3))))) (sN)) (sSq (sIf (tV (e2 gEq (eV 8) (eC (.int 3)))) (sSet 7 (eSl (eCall 3 F__law_shuffled (aC (eV 0) (aC (eC (.int 3)) (aC (eV 1) (aN))))) (oN) (oS (eCall 4 F__law_part (aC (eV 0) (aC (eC (.int 3)) (aC (eC (.int 24)) (aC (eC (.int 5)) (aN))))))))) (sN)) (sSq (sSet 9 (e2 gIx (e2 gAdd (eV 1) (eA gLst (aC (eC (.str "")) (aC (eC (.str "")) (aC (eC (.str "")) (aC (eC (.str "")) (aN))))))) (e2 gMod (eCall 4 F__law_part (aC (eV 0) (aC (eC (.int 4)) (aC (eC (.int 1)) (aC (eC (.int 8)) (aN)))))) (e2 gAdd (eA gLen (aC (eV 1) (aN))) (eC (.int 4)))))) (sSq (sSet 10 (eSl (eCall 3 F__law_shuffled (aC (eV 0) (aC (eC (.int 5)) (aC (eV 1) (aN))))) (oN) (oS (eCall 4 F__law_part (aC (eV 0) (aC (eC (.int 5)) (aC (eC (.int 24)) (aC (eC (.int 5)) (aN))))))))) (sSq (sSet 11 (eA gMax (aC (eC (.int 0)) (aC (e2 gAdd (e2 gSub (eV 3) (eCall 4 F__law_part (aC (eV 0) (aC (eC (.int 4)) (aC (eC (.int 8)) (aC (eC (.int 7)) (aN))))))) (eCall 4 F__law_part (aC (eV 0) (aC (eC (.int 4)) (aC (eC (.int 56)) (aC (eC (.int 2)) (aN))))))) (aN))))) (sSq (sIf (tV (e2 gEq (eCall 4 F__law_part (aC (eV 0) (aC (eC (.int 4)) (aC (eC (.int 112)) (aC (eC (.int 6)) (aN)))))) (eC (.int 5)))) (sSet 11 (eC .non)) (sN)) (sSq (sIf (tV (e2 gEq (eCall 4 F__law_part (aC (eV 0) (aC (eC (.int 4)) (aC (eC (.int 112)) (aC (eC (.int 6)) (aN)))))) (eC (.int 4)))) (sSet 11 (eC (.int 0))) (sN)) (sFrz 4 (sRet (eA gTup (aC (eV 4) (aC (eV 6) (aC (eCall 3 F__law_shuffled (aC (eV 0) (aC (eC (.int 6)) (aC (eV 6) (aN))))) (aC (eV 7) (aC (eV 9) (aC (eV 3) (aC (eV 10) (aC (eV 11) (aN))))))))))))))))))))))))))
def F__law_case : List D → R D := runF 12 G__law_case
def B__law_after_1 : Ev → SO := sSq (sSet 12 (eA gLen (aC (eLc [14] (iSq (e2 gAdd (eV 5) (eA gLst (aC (eV 6) (aN))))) (gN 14) (tV (e2 gEq (eV 14) (e2 gIx (eV 0) (eV 11)))) (eC (.int 1))) (aN)))) (sSq (sSet 13 (eA gLen (aC (eLc [14] (iSq (eV 3)) (gN 14) (tV (e2 gEq (eV 14) (e2 gIx (eV 0) (eV 11)))) (eC (.int 1))) (aN)))) (sIf (tV (e2 gGt (eV 12) (eC (.int 0)))) (sApp 10 (eC (.int 0))) (sIf (tAnd (tV (e2 gGt (eV 13) (eC (.int 0)))) (tV (e2 gLt (e2 gIx (eV 2) (eV 11)) (eV 7)))) (sApp 10 (e2 gAdd (e2 gIx (eV 2) (eV 11)) (eC (.int 1)))) (sApp 10 (e2 gIx (eV 2) (eV 11))))))
def G__law_after : Ev → SO := sSq (sAsg (eV 1) (gT 8 (gsC (gN 2) (gsC (gN 3) (gsC (gN 4) (gsC (gN 5) (gsC (gN 6) (gsC (gN 7) (gsC (gN 8) (gsC (gN 9) (gsN))))))))))) (sSq (sOwn 10 (lDisp (aN))) (sSq (sFor (iR1 (eA gLen (aC (eV 0) (aN)))) (gN 11) (B__law_after_1)) (sFrz 10 (sRet (eA gTuple (aC (eV 10) (aN)))))))
def F__law_after : List D → R D := runF 15 G__law_after
def B__law_longest_1 : Ev → SO := sIf (tOr (tV (e2 gEq (eV 3) (eC (.str "")))) (tV (e2 gGe (e2 gIx (eV 1) (eMtL gIdx (eV 0) (aC (eV 4) (aN)))) (e2 gIx (eV 1) (eMtL gIdx (eV 0) (aC (eV 3) (aN))))))) (sSet 3 (eV 4)) (sN)
def G__law_longest : Ev → SO := sSq (sSet 3 (eC (.str ""))) (sSq (sFor (iSq (e1 gRev (eV 2))) (gN 4) (B__law_longest_1)) (sRet (eV 3)))
def F__law_longest : List D → R D := runF 5 G__law_longest
def B__law_over_1 : Ev → SO := sIf (tAnd (tV (e2 gNotN (eV 3) (eC .non))) (tV (e2 gGe (e2 gIx (eV 1) (eMtL gIdx (eV 0) (aC (eV 5) (aN)))) (eV 3)))) (sSet 4 (eV 5)) (sN)
def G__law_over : Ev → SO := sSq (sSet 4 (eC .non)) (sSq (sFor (iSq (e1 gRev (eV 2))) (gN 5) (B__law_over_1)) (sRet (eV 4)))
def F__law_over : List D → R D := runF 6 G__law_over
def B__law_due_1 : Ev → SO := sApp 10 (eA gTuple (aC (eLc [13] (iSq (eV 11)) (gN 13) (tAnd (tV (e2 gNe (eV 13) (eV 6))) (tV (e2 (gInS true) (eV 13) (eV 5)))) (eV 13)) (aN)))
def G__law_due : Ev → SO := sSq (sAsg (eV 1) (gT 8 (gsC (gN 2) (gsC (gN 3) (gsC (gN 4) (gsC (gN 5) (gsC (gN 6) (gsC (gN 7) (gsC (gN 8) (gsC (gN 9) (gsN))))))))))) (sSq (sOwn 10 (lDisp (aN))) (sSq (sFor (iSq (eA gLst (aC (eV 3) (aC (eV 4) (aN))))) (gN 11) (B__law_due_1)) (sSq (sSet 12 (eCall 2 F__law_after (aC (eV 0) (aC (eV 1) (aN))))) (sSq (sFrz 10 (sSet 10 (e2 gAdd (eV 10) (eA gLst (aC (eV 12) (aC (eV 12) (aC (eCall 4 F__law_over (aC (eV 0) (aC (eV 2) (aC (eV 8) (aC (eV 9) (aN)))))) (aN)))))))) (sFrz 10 (sRet (e2 gAdd (eV 10) (eA gLst (aC (eCall 3 F__law_longest (aC (eV 0) (aC (eV 2) (aC (eV 3) (aN))))) (aC (eCall 3 F__law_longest (aC (eV 0) (aC (eV 2) (aC (eV 4) (aN))))) (aN)))))))))))
def F__law_due : List D → R D := runF 14 G__law_due
def B_law_1 : Ev → SO := sIf (tNot (tV (eCall 2 F__law_same (aC (eCall 2 F__law_by_place (aC (eV 2) (aC (eV 4) (aN)))) (aC (eCall 2 F__law_due (aC (eV 2) (aC (eV 4) (aN)))) (aN)))))) (sRet (eC (.bl false))) (sN)
def B_law_2 : Ev → SO := sIf (tNot (tV (eCall 2 F__law_same (aC (eCall 2 F__law_by_name (aC (eV 2) (aC (eV 4) (aN)))) (aC (eCall 2 F__law_due (aC (eV 2) (aC (eV 4) (aN)))) (aN)))))) (sRet (eC (.bl false))) (sN)
def G_law : Ev → SO := sSq (sSet 1 (eCall 2 F__law_pool (aC (eCall 2 F__law_cell (aC (eV 0) (aC (eC (.int 0)) (aN)))) (aC (eC (.int 6)) (aN))))) (sSq (sSet 2 (eCall 3 F__law_names (aC (eV 1) (aC (eC (.int 0)) (aC (e2 gAdd (eC (.int 1)) (eCall 4 F__law_part (aC (eV 1) (aC (eC (.int 5)) (aC (eC (.int 1)) (aC (eC (.int 4)) (aN))))))) (aN)))))) (sSq (sSet 3 (eLc [5] (iR1 (eC (.int 3))) (gN 5) (tsY) (eCall 2 F__law_case (aC (eCall 2 F__law_pool (aC (eCall 2 F__law_cell (aC (eV 0) (aC (e2 gAdd (eC (.int 1)) (eV 5)) (aN)))) (aC (eC (.int 7)) (aN)))) (aC (eV 2) (aN)))))) (sSq (sFor (iSq (eV 3)) (gN 4) (B_law_1)) (sSq (sFor (iSq (eV 3)) (gN 4) (B_law_2)) (sRet (eC (.bl true)))))))
def F_law : List D → R D := runF 6 G_law
end Tk

namespace Tk
open PySem PySem.Spec L2 PyProof.Rows
def top (i : Nat) : Stmt := PySem.Challenge.pw_turnsandkeys_k40_passes_counted.main.body.getD i (.Pass ⟨0, 0, 0, 0⟩)
abbrev s_first_over : Stmt := top 3
abbrev s_longest : Stmt := top 4
abbrev s_passed_over : Stmt := top 1
abbrev s_next_passes : Stmt := top 2
abbrev s__law_by_name : Stmt := top 20
abbrev s__law_by_place : Stmt := top 19
abbrev s__law_part : Stmt := top 9
abbrev s__law_shuffled : Stmt := top 14
abbrev s__law_some : Stmt := top 11
abbrev s__law_case : Stmt := top 15
abbrev s__law_cell : Stmt := top 6
abbrev s__law_after : Stmt := top 16
abbrev s__law_longest : Stmt := top 18
abbrev s__law_over : Stmt := top 17
abbrev s__law_due : Stmt := top 21
abbrev s__law_names : Stmt := top 10
abbrev s__law_mixed : Stmt := top 7
abbrev s__law_pool : Stmt := top 8
abbrev s__law_integer : Stmt := top 12
abbrev s__law_same : Stmt := top 13
abbrev s_law : Stmt := top 22
def df_first_over : He.DefD := dfD ("first_over", none) "first_over" "first_over" s_first_over [] []
def df_longest : He.DefD := dfD ("longest", none) "longest" "longest" s_longest [] []
def df_passed_over : He.DefD := dfD ("passed_over", none) "passed_over" "passed_over" s_passed_over [] []
def df_next_passes : He.DefD := dfD ("next_passes", none) "next_passes" "next_passes" s_next_passes [] []
def df__law_by_name : He.DefD := dfD ("_law_by_name", none) "_law_by_name" "_law_by_name" s__law_by_name [] []
def df__law_by_place : He.DefD := dfD ("_law_by_place", none) "_law_by_place" "_law_by_place" s__law_by_place [] []
def df__law_part : He.DefD := dfD ("_law_part", none) "_law_part" "_law_part" s__law_part [] []
def df__law_shuffled : He.DefD := dfD ("_law_shuffled", none) "_law_shuffled" "_law_shuffled" s__law_shuffled [] []
def df__law_some : He.DefD := dfD ("_law_some", none) "_law_some" "_law_some" s__law_some [] []
def df__law_case : He.DefD := dfD ("_law_case", none) "_law_case" "_law_case" s__law_case [] []
def df__law_cell : He.DefD := dfD ("_law_cell", none) "_law_cell" "_law_cell" s__law_cell [] []
def df__law_after : He.DefD := dfD ("_law_after", none) "_law_after" "_law_after" s__law_after [] []
def df__law_longest : He.DefD := dfD ("_law_longest", none) "_law_longest" "_law_longest" s__law_longest [] []
def df__law_over : He.DefD := dfD ("_law_over", none) "_law_over" "_law_over" s__law_over [] []
def df__law_due : He.DefD := dfD ("_law_due", none) "_law_due" "_law_due" s__law_due [] []
def df__law_names : He.DefD := dfD ("_law_names", none) "_law_names" "_law_names" s__law_names [] []
def df__law_mixed : He.DefD := dfD ("_law_mixed", none) "_law_mixed" "_law_mixed" s__law_mixed [] []
def df__law_pool : He.DefD := dfD ("_law_pool", none) "_law_pool" "_law_pool" s__law_pool [] []
def df__law_integer : He.DefD := dfD ("_law_integer", none) "_law_integer" "_law_integer" s__law_integer [] []
def df__law_same : He.DefD := dfD ("_law_same", none) "_law_same" "_law_same" s__law_same [] []
def df_law : He.DefD := dfD ("law", none) "law" "law" s_law [] []
def fa : List He.Fa := faB ++ [.glo "first_over", .glo "longest", .glo "passed_over", .glo "next_passes", .glo "_law_by_name", .glo "_law_by_place", .glo "_law_part", .glo "_law_shuffled", .glo "_law_some", .glo "_law_case", .glo "_law_cell", .glo "_law_after", .glo "_law_longest", .glo "_law_over", .glo "_law_due", .glo "_law_names", .glo "_law_mixed", .glo "_law_pool", .glo "_law_integer", .glo "_law_same", .glo "law"]
def fn : List He.DefD := [df_first_over, df_longest, df_passed_over, df_next_passes, df__law_by_name, df__law_by_place, df__law_part, df__law_shuffled, df__law_some, df__law_case, df__law_cell, df__law_after, df__law_longest, df__law_over, df__law_due, df__law_names, df__law_mixed, df__law_pool, df__law_integer, df__law_same, df_law]
section
variable {P : Program} {w : World} {K : PySem.W.Frag} {mg : Str → Option Value} {base : Heap} {ca : Cn}
abbrev N_first_over : List Str := ["members", "passes", "passed", "limit", "numbers", "member"]
theorem sc_first_over : FnScope N_first_over ["members", "passes", "passed", "limit"] (defScope s_first_over) := ⟨rfl, rfl, rfl, by decide +kernel, rfl, by decide +kernel, by decide +kernel⟩
theorem kb_first_over_0_limit_passed_passes_members {K : PySem.W.Frag} {ca : Cn} {f : Addr} {fd : FuncData} (F : FD K "first_over" "first_over" s_first_over [] [] f fd) : KB K ca fd ["members", "passes", "passed", "limit"] 0 ["limit", "passed", "passes", "members"] (gDk [3, 2, 1, 0] []) := kb_n (kd := []) F 0 ["limit", "passed", "passes", "members"] [3, 2, 1, 0] fun _ _ _ _ _ _ us ws l1 l2 => match us, l1, ws, l2 with | [], _, [_w0, _w1, _w2, _w3], _ => rfl
theorem b_first_over {K : PySem.W.Frag} {f : Addr} {fd : FuncData} (F : FD K "first_over" "first_over" s_first_over [] [] f fd) : Binds K fd ["members", "passes", "passed", "limit"] [] := FunD.bindsN (ps := ["members", "passes", "passed", "limit"]) F fun _ _ _ _ _ _ us hl => match us, hl with | [_a0, _a1, _a2, _a3], _ => rfl
theorem d_first_over (T : Says fa fn K mg) : DefA P w K mg base ca 1 "first_over" s_first_over [] [] ["members", "passes", "passed", "limit"] F_first_over :=
  DefA.of (N := N_first_over) (g := G_first_over) (T.dfn (dd := []) (kd := []) 18 0) sc_first_over fun f cdv A outer s H E hr => fss_cons (fs_if (ft_cmp op_isN v2_isN (by first | exact nomark _ | rfl) (fe_v 3) (fe_non)) (fss_one (fs_ret (fe_non))) (fss_nil)) (fss_cons (fs_set (i := 4) sc_first_over.nd rfl (fe_dz rfl T.bt (fe_v 0) (fe_v 1))) (fss_cons (fs_for (zs := [5]) (passes_of rfl) rfl (fi_sq (fe_v 2)) (fg_n (i := 5) sc_first_over.nd rfl) (fss_one (fs_if (ft_cmp op_ge v2_ge (by first | exact nomark _ | rfl) (fe_ixA (hu65 hr) (fun _ _ => rfl) (fe_v 4) (fe_v 5)) (fe_v 3)) (fss_one (fs_ret (fe_v 5))) (fss_nil)))) (fss_one (fs_ret (fe_non)))))
abbrev N_longest : List Str := ["members", "passes", "candidates", "numbers", "chosen", "member"]
theorem sc_longest : FnScope N_longest ["members", "passes", "candidates"] (defScope s_longest) := ⟨rfl, rfl, rfl, by decide +kernel, rfl, by decide +kernel, by decide +kernel⟩
theorem kb_longest_0_candidates_passes_members {K : PySem.W.Frag} {ca : Cn} {f : Addr} {fd : FuncData} (F : FD K "longest" "longest" s_longest [] [] f fd) : KB K ca fd ["members", "passes", "candidates"] 0 ["candidates", "passes", "members"] (gDk [2, 1, 0] []) := kb_n (kd := []) F 0 ["candidates", "passes", "members"] [2, 1, 0] fun _ _ _ _ _ _ us ws l1 l2 => match us, l1, ws, l2 with | [], _, [_w0, _w1, _w2], _ => rfl
theorem kb_longest_1_candidates_passes {K : PySem.W.Frag} {ca : Cn} {f : Addr} {fd : FuncData} (F : FD K "longest" "longest" s_longest [] [] f fd) : KB K ca fd ["members", "passes", "candidates"] 1 ["candidates", "passes"] (gDk [0, 2, 1] []) := kb_n (kd := []) F 1 ["candidates", "passes"] [0, 2, 1] fun _ _ _ _ _ _ us ws l1 l2 => match us, l1, ws, l2 with | [_a0], _, [_w0, _w1], _ => rfl
theorem b_longest {K : PySem.W.Frag} {f : Addr} {fd : FuncData} (F : FD K "longest" "longest" s_longest [] [] f fd) : Binds K fd ["members", "passes", "candidates"] [] := FunD.bindsN (ps := ["members", "passes", "candidates"]) F fun _ _ _ _ _ _ us hl => match us, hl with | [_a0, _a1, _a2], _ => rfl
theorem d_longest (T : Says fa fn K mg) : DefA P w K mg base ca 1 "longest" s_longest [] [] ["members", "passes", "candidates"] F_longest :=
  DefA.of (N := N_longest) (g := G_longest) (T.dfn (dd := []) (kd := []) 19 1) sc_longest fun f cdv A outer s H E hr => fss_cons (fs_set (i := 3) sc_longest.nd rfl (fe_dz rfl T.bt (fe_v 0) (fe_v 1))) (fss_cons (fs_set (i := 4) sc_longest.nd rfl (fe_str)) (fss_cons (fs_for (zs := [5]) (passes_of rfl) rfl (fi_sq (fe_v 2)) (fg_n (i := 5) sc_longest.nd rfl) (fss_one (fs_if (ft_w (fw_or (ft_cmp (op_eqA (hu64 hr)) v2_eq (by first | exact nomark _ | rfl) (fe_v 4) (fe_str)) (fw_or1 (ft_cmp op_gt v2_gt (by first | exact nomark _ | rfl) (fe_ixA (hu65 hr) (fun _ _ => rfl) (fe_v 3) (fe_v 5)) (fe_ixA (hu65 hr) (fun _ _ => rfl) (fe_v 3) (fe_v 4)))))) (fss_one (fs_set (i := 4) sc_longest.nd rfl (fe_v 5))) (fss_nil)))) (fss_one (fs_ret (fe_v 4)))))
abbrev N_passed_over : List Str := ["candidates", "takers", "keeper", "member"]
theorem sc_passed_over : FnScope N_passed_over ["candidates", "takers", "keeper"] (defScope s_passed_over) := ⟨rfl, rfl, rfl, by decide +kernel, rfl, by decide +kernel, by decide +kernel⟩
theorem kb_passed_over_0_keeper_takers_candidates {K : PySem.W.Frag} {ca : Cn} {f : Addr} {fd : FuncData} (F : FD K "passed_over" "passed_over" s_passed_over [] [] f fd) : KB K ca fd ["candidates", "takers", "keeper"] 0 ["keeper", "takers", "candidates"] (gDk [2, 1, 0] []) := kb_n (kd := []) F 0 ["keeper", "takers", "candidates"] [2, 1, 0] fun _ _ _ _ _ _ us ws l1 l2 => match us, l1, ws, l2 with | [], _, [_w0, _w1, _w2], _ => rfl
theorem kb_passed_over_1_keeper_takers {K : PySem.W.Frag} {ca : Cn} {f : Addr} {fd : FuncData} (F : FD K "passed_over" "passed_over" s_passed_over [] [] f fd) : KB K ca fd ["candidates", "takers", "keeper"] 1 ["keeper", "takers"] (gDk [0, 2, 1] []) := kb_n (kd := []) F 1 ["keeper", "takers"] [0, 2, 1] fun _ _ _ _ _ _ us ws l1 l2 => match us, l1, ws, l2 with | [_a0], _, [_w0, _w1], _ => rfl
theorem b_passed_over {K : PySem.W.Frag} {f : Addr} {fd : FuncData} (F : FD K "passed_over" "passed_over" s_passed_over [] [] f fd) : Binds K fd ["candidates", "takers", "keeper"] [] := FunD.bindsN (ps := ["candidates", "takers", "keeper"]) F fun _ _ _ _ _ _ us hl => match us, hl with | [_a0, _a1, _a2], _ => rfl
theorem d_passed_over (T : Says fa fn K mg) : DefA P w K mg base ca 1 "passed_over" s_passed_over [] [] ["candidates", "takers", "keeper"] F_passed_over :=
  DefA.of (N := N_passed_over) (g := G_passed_over) (T.dfn (dd := []) (kd := []) 20 2) sc_passed_over fun f cdv A outer s H E hr => fss_one (fs_ret (fe_tuplec T.bt (fa_cons (fe_lc (own := [("member", 3)]) rfl sc_passed_over.nd (fi_sq (fe_v 0)) (blkOk_by (own := [("member", 3)]) (N := N_passed_over) (sc := defScope s_passed_over) (by decide +kernel)) (fun _ _ _ _ _ => fg_n (i := 3) sc_passed_over.nd rfl) (fun _ _ _ _ _ => fts_one (ft_w (fw_and (ft_cmp (op_ninA (hu65 hr)) v2_nin (by first | exact nomark _ | rfl) (fe_v 3) (fe_v 1)) (fw_and1 (ft_cmp (op_neA (hu64 hr)) v2_ne (by first | exact nomark _ | rfl) (fe_v 3) (fe_v 2)))))) (fun _ _ _ _ _ => fe_v 3)) (fa_nil))))
abbrev N_next_passes : List Str := ["members", "passes", "candidates", "takers", "keeper", "most", "passed", "after", "member", "number"]
theorem sc_next_passes : FnScope N_next_passes ["members", "passes", "candidates", "takers", "keeper", "most"] (defScope s_next_passes) := ⟨rfl, rfl, rfl, by decide +kernel, rfl, by decide +kernel, by decide +kernel⟩
theorem kb_next_passes_0_most_keeper_takers_candidates_passes_members {K : PySem.W.Frag} {ca : Cn} {f : Addr} {fd : FuncData} (F : FD K "next_passes" "next_passes" s_next_passes [] [] f fd) : KB K ca fd ["members", "passes", "candidates", "takers", "keeper", "most"] 0 ["most", "keeper", "takers", "candidates", "passes", "members"] (gDk [5, 4, 3, 2, 1, 0] []) := kb_n (kd := []) F 0 ["most", "keeper", "takers", "candidates", "passes", "members"] [5, 4, 3, 2, 1, 0] fun _ _ _ _ _ _ us ws l1 l2 => match us, l1, ws, l2 with | [], _, [_w0, _w1, _w2, _w3, _w4, _w5], _ => rfl
theorem kb_next_passes_2_takers_candidates_most_keeper {K : PySem.W.Frag} {ca : Cn} {f : Addr} {fd : FuncData} (F : FD K "next_passes" "next_passes" s_next_passes [] [] f fd) : KB K ca fd ["members", "passes", "candidates", "takers", "keeper", "most"] 2 ["takers", "candidates", "most", "keeper"] (gDk [0, 1, 3, 2, 5, 4] []) := kb_n (kd := []) F 2 ["takers", "candidates", "most", "keeper"] [0, 1, 3, 2, 5, 4] fun _ _ _ _ _ _ us ws l1 l2 => match us, l1, ws, l2 with | [_a0, _a1], _, [_w0, _w1, _w2, _w3], _ => rfl
theorem b_next_passes {K : PySem.W.Frag} {f : Addr} {fd : FuncData} (F : FD K "next_passes" "next_passes" s_next_passes [] [] f fd) : Binds K fd ["members", "passes", "candidates", "takers", "keeper", "most"] [] := FunD.bindsN (ps := ["members", "passes", "candidates", "takers", "keeper", "most"]) F fun _ _ _ _ _ _ us hl => match us, hl with | [_a0, _a1, _a2, _a3, _a4, _a5], _ => rfl
theorem d_next_passes (T : Says fa fn K mg) : DefA P w K mg base ca 2 "next_passes" s_next_passes [] [] ["members", "passes", "candidates", "takers", "keeper", "most"] F_next_passes :=
  DefA.of (N := N_next_passes) (g := G_next_passes) (T.dfn (dd := []) (kd := []) 21 3) sc_next_passes fun f cdv A outer s H E hr => fss_cons (fs_set (i := 6) sc_next_passes.nd rfl (fe_a (d_passed_over T) b_passed_over hr (takes_of rfl rfl rfl rfl) (fa_cons (fe_v 2) (fa_cons (fe_v 3) (fa_cons (fe_v 4) (fa_nil)))))) (fss_cons (fs_own (i := 7) sc_next_passes.nd rfl (fl_lst (fa_nil))) (fss_cons (fs_for (zs := [8, 9]) (passes_of rfl) rfl (fi_zp2 rfl T.bt.zip (fe_v 0) (fe_v 1)) (fg_t rfl (fgs_c (fg_n (i := 8) sc_next_passes.nd rfl) (fgs_c (fg_n (i := 9) sc_next_passes.nd rfl) (fgs_n)))) (fss_one (fs_if (ft_w (fw_or (ft_cmp (op_inA (hu65 hr)) v2_in (by first | exact nomark _ | rfl) (fe_v 8) (fe_v 3)) (fw_or1 (ft_cmp (op_eqA (hu64 hr)) v2_eq (by first | exact nomark _ | rfl) (fe_v 8) (fe_v 4))))) (fss_one (fs_app (i := 7) rfl (fe_int))) (fss_one (fs_if (ft_cmp (op_inA (hu65 hr)) v2_in (by first | exact nomark _ | rfl) (fe_v 8) (fe_v 6)) (fss_one (fs_app (i := 7) rfl (fe_min T.bt (fa_cons (fe_op op_addA v2_add (fe_v 9) (fe_int)) (fa_cons (fe_v 5) (fa_nil)))))) (fss_one (fs_app (i := 7) rfl (fe_v 9)))))))) (fss_one (fs_frz 7 (fs_ret (fe_tuplec T.bt (fa_cons (fe_v 7) (fa_nil))))))))
abbrev N__law_by_name : List Str := ["crew", "case", "loads", "wishes", "turned", "having", "late", "crest", "listed", "cap", "told"]
theorem sc__law_by_name : FnScope N__law_by_name ["crew", "case"] (defScope s__law_by_name) := ⟨rfl, rfl, rfl, by decide +kernel, rfl, by decide +kernel, by decide +kernel⟩
theorem b__law_by_name {K : PySem.W.Frag} {f : Addr} {fd : FuncData} (F : FD K "_law_by_name" "_law_by_name" s__law_by_name [] [] f fd) : Binds K fd ["crew", "case"] [] := FunD.bindsN (ps := ["crew", "case"]) F fun _ _ _ _ _ _ us hl => match us, hl with | [_a0, _a1], _ => rfl
theorem d__law_by_name (T : Says fa fn K mg) : DefA P w K mg base ca 3 "_law_by_name" s__law_by_name [] [] ["crew", "case"] F__law_by_name :=
  DefA.of (N := N__law_by_name) (g := G__law_by_name) (T.dfn (dd := []) (kd := []) 22 4) sc__law_by_name fun f cdv A outer s H E hr => fss_cons (fs_asg (zs := [2, 3, 4, 5, 6, 7, 8, 9]) (fe_v 1) (fg_t rfl (fgs_c (fg_n (i := 2) sc__law_by_name.nd rfl) (fgs_c (fg_n (i := 3) sc__law_by_name.nd rfl) (fgs_c (fg_n (i := 4) sc__law_by_name.nd rfl) (fgs_c (fg_n (i := 5) sc__law_by_name.nd rfl) (fgs_c (fg_n (i := 6) sc__law_by_name.nd rfl) (fgs_c (fg_n (i := 7) sc__law_by_name.nd rfl) (fgs_c (fg_n (i := 8) sc__law_by_name.nd rfl) (fgs_c (fg_n (i := 9) sc__law_by_name.nd rfl) (fgs_n))))))))))) (fss_cons (fs_own (i := 10) sc__law_by_name.nd rfl (fl_lst (fa_cons (fe_ak0 (d_passed_over T) (fun F => kb_passed_over_0_keeper_takers_candidates F) hr (takes_of rfl rfl rfl rfl) (fk_cons (fe_v 6) (fk_cons (fe_tuplec T.bt (fa_cons (fe_v 5) (fa_nil))) (fk_cons (fe_tuplec T.bt (fa_cons (fe_v 3) (fa_nil))) (fk_nil))))) (fa_nil)))) (fss_cons (fs_app (i := 10) rfl (fe_ak (d_passed_over T) (fun F => kb_passed_over_1_keeper_takers F) hr (takes_of rfl rfl rfl rfl) (fa_cons (fe_tuplec T.bt (fa_cons (fe_v 4) (fa_nil))) (fa_nil)) (fk_cons (fe_v 6) (fk_cons (fe_tuplec T.bt (fa_cons (fe_v 5) (fa_nil))) (fk_nil))))) (fss_cons (fs_app (i := 10) rfl (fe_ak0 (d_next_passes T) (fun F => kb_next_passes_0_most_keeper_takers_candidates_passes_members F) hr (takes_of rfl rfl rfl rfl) (fk_cons (fe_v 7) (fk_cons (fe_v 6) (fk_cons (fe_tuplec T.bt (fa_cons (fe_v 5) (fa_nil))) (fk_cons (fe_tuplec T.bt (fa_cons (fe_v 3) (fa_nil))) (fk_cons (fe_tuplec T.bt (fa_cons (fe_v 2) (fa_nil))) (fk_cons (fe_tuplec T.bt (fa_cons (fe_v 0) (fa_nil))) (fk_nil))))))))) (fss_cons (fs_app (i := 10) rfl (fe_ak (d_next_passes T) (fun F => kb_next_passes_2_takers_candidates_most_keeper F) hr (takes_of rfl rfl rfl rfl) (fa_cons (fe_tuplec T.bt (fa_cons (fe_v 0) (fa_nil))) (fa_cons (fe_tuplec T.bt (fa_cons (fe_v 2) (fa_nil))) (fa_nil))) (fk_cons (fe_tuplec T.bt (fa_cons (fe_v 5) (fa_nil))) (fk_cons (fe_tuplec T.bt (fa_cons (fe_v 4) (fa_nil))) (fk_cons (fe_v 7) (fk_cons (fe_v 6) (fk_nil))))))) (fss_cons (fs_app (i := 10) rfl (fe_ak0 (d_first_over T) (fun F => kb_first_over_0_limit_passed_passes_members F) hr (takes_of rfl rfl rfl rfl) (fk_cons (fe_v 9) (fk_cons (fe_tuplec T.bt (fa_cons (fe_v 8) (fa_nil))) (fk_cons (fe_tuplec T.bt (fa_cons (fe_v 2) (fa_nil))) (fk_cons (fe_tuplec T.bt (fa_cons (fe_v 0) (fa_nil))) (fk_nil))))))) (fss_cons (fs_app (i := 10) rfl (fe_ak0 (d_longest T) (fun F => kb_longest_0_candidates_passes_members F) hr (takes_of rfl rfl rfl rfl) (fk_cons (fe_tuplec T.bt (fa_cons (fe_v 3) (fa_nil))) (fk_cons (fe_tuplec T.bt (fa_cons (fe_v 2) (fa_nil))) (fk_cons (fe_tuplec T.bt (fa_cons (fe_v 0) (fa_nil))) (fk_nil)))))) (fss_cons (fs_app (i := 10) rfl (fe_ak (d_longest T) (fun F => kb_longest_1_candidates_passes F) hr (takes_of rfl rfl rfl rfl) (fa_cons (fe_tuplec T.bt (fa_cons (fe_v 0) (fa_nil))) (fa_nil)) (fk_cons (fe_tuplec T.bt (fa_cons (fe_v 4) (fa_nil))) (fk_cons (fe_tuplec T.bt (fa_cons (fe_v 2) (fa_nil))) (fk_nil))))) (fss_one (fs_frz 10 (fs_ret (fe_v 10)))))))))))
abbrev N__law_by_place : List Str := ["crew", "case", "loads", "wishes", "turned", "having", "late", "crest", "listed", "cap", "told"]
theorem sc__law_by_place : FnScope N__law_by_place ["crew", "case"] (defScope s__law_by_place) := ⟨rfl, rfl, rfl, by decide +kernel, rfl, by decide +kernel, by decide +kernel⟩
theorem b__law_by_place {K : PySem.W.Frag} {f : Addr} {fd : FuncData} (F : FD K "_law_by_place" "_law_by_place" s__law_by_place [] [] f fd) : Binds K fd ["crew", "case"] [] := FunD.bindsN (ps := ["crew", "case"]) F fun _ _ _ _ _ _ us hl => match us, hl with | [_a0, _a1], _ => rfl
theorem d__law_by_place (T : Says fa fn K mg) : DefA P w K mg base ca 3 "_law_by_place" s__law_by_place [] [] ["crew", "case"] F__law_by_place :=
  DefA.of (N := N__law_by_place) (g := G__law_by_place) (T.dfn (dd := []) (kd := []) 23 5) sc__law_by_place fun f cdv A outer s H E hr => fss_cons (fs_asg (zs := [2, 3, 4, 5, 6, 7, 8, 9]) (fe_v 1) (fg_t rfl (fgs_c (fg_n (i := 2) sc__law_by_place.nd rfl) (fgs_c (fg_n (i := 3) sc__law_by_place.nd rfl) (fgs_c (fg_n (i := 4) sc__law_by_place.nd rfl) (fgs_c (fg_n (i := 5) sc__law_by_place.nd rfl) (fgs_c (fg_n (i := 6) sc__law_by_place.nd rfl) (fgs_c (fg_n (i := 7) sc__law_by_place.nd rfl) (fgs_c (fg_n (i := 8) sc__law_by_place.nd rfl) (fgs_c (fg_n (i := 9) sc__law_by_place.nd rfl) (fgs_n))))))))))) (fss_cons (fs_own (i := 10) sc__law_by_place.nd rfl (fl_lst (fa_cons (fe_a (d_passed_over T) b_passed_over hr (takes_of rfl rfl rfl rfl) (fa_cons (fe_tuplec T.bt (fa_cons (fe_v 3) (fa_nil))) (fa_cons (fe_tuplec T.bt (fa_cons (fe_v 5) (fa_nil))) (fa_cons (fe_v 6) (fa_nil))))) (fa_cons (fe_a (d_passed_over T) b_passed_over hr (takes_of rfl rfl rfl rfl) (fa_cons (fe_tuplec T.bt (fa_cons (fe_v 4) (fa_nil))) (fa_cons (fe_tuplec T.bt (fa_cons (fe_v 5) (fa_nil))) (fa_cons (fe_v 6) (fa_nil))))) (fa_nil))))) (fss_cons (fs_app (i := 10) rfl (fe_a (d_next_passes T) b_next_passes hr (takes_of rfl rfl rfl rfl) (fa_cons (fe_tuplec T.bt (fa_cons (fe_v 0) (fa_nil))) (fa_cons (fe_tuplec T.bt (fa_cons (fe_v 2) (fa_nil))) (fa_cons (fe_tuplec T.bt (fa_cons (fe_v 3) (fa_nil))) (fa_cons (fe_tuplec T.bt (fa_cons (fe_v 5) (fa_nil))) (fa_cons (fe_v 6) (fa_cons (fe_v 7) (fa_nil))))))))) (fss_cons (fs_app (i := 10) rfl (fe_a (d_next_passes T) b_next_passes hr (takes_of rfl rfl rfl rfl) (fa_cons (fe_tuplec T.bt (fa_cons (fe_v 0) (fa_nil))) (fa_cons (fe_tuplec T.bt (fa_cons (fe_v 2) (fa_nil))) (fa_cons (fe_tuplec T.bt (fa_cons (fe_v 4) (fa_nil))) (fa_cons (fe_tuplec T.bt (fa_cons (fe_v 5) (fa_nil))) (fa_cons (fe_v 6) (fa_cons (fe_v 7) (fa_nil))))))))) (fss_cons (fs_app (i := 10) rfl (fe_a (d_first_over T) b_first_over hr (takes_of rfl rfl rfl rfl) (fa_cons (fe_tuplec T.bt (fa_cons (fe_v 0) (fa_nil))) (fa_cons (fe_tuplec T.bt (fa_cons (fe_v 2) (fa_nil))) (fa_cons (fe_tuplec T.bt (fa_cons (fe_v 8) (fa_nil))) (fa_cons (fe_v 9) (fa_nil))))))) (fss_cons (fs_app (i := 10) rfl (fe_a (d_longest T) b_longest hr (takes_of rfl rfl rfl rfl) (fa_cons (fe_tuplec T.bt (fa_cons (fe_v 0) (fa_nil))) (fa_cons (fe_tuplec T.bt (fa_cons (fe_v 2) (fa_nil))) (fa_cons (fe_tuplec T.bt (fa_cons (fe_v 3) (fa_nil))) (fa_nil)))))) (fss_cons (fs_app (i := 10) rfl (fe_a (d_longest T) b_longest hr (takes_of rfl rfl rfl rfl) (fa_cons (fe_tuplec T.bt (fa_cons (fe_v 0) (fa_nil))) (fa_cons (fe_tuplec T.bt (fa_cons (fe_v 2) (fa_nil))) (fa_cons (fe_tuplec T.bt (fa_cons (fe_v 4) (fa_nil))) (fa_nil)))))) (fss_one (fs_frz 10 (fs_ret (fe_v 10))))))))))
abbrev N__law_part : List Str := ["pool", "spot", "under", "size"]
theorem sc__law_part : FnScope N__law_part ["pool", "spot", "under", "size"] (defScope s__law_part) := ⟨rfl, rfl, rfl, by decide +kernel, rfl, by decide +kernel, by decide +kernel⟩
theorem b__law_part {K : PySem.W.Frag} {f : Addr} {fd : FuncData} (F : FD K "_law_part" "_law_part" s__law_part [] [] f fd) : Binds K fd ["pool", "spot", "under", "size"] [] := FunD.bindsN (ps := ["pool", "spot", "under", "size"]) F fun _ _ _ _ _ _ us hl => match us, hl with | [_a0, _a1, _a2, _a3], _ => rfl
theorem d__law_part (T : Says fa fn K mg) : DefA P w K mg base ca 1 "_law_part" s__law_part [] [] ["pool", "spot", "under", "size"] F__law_part :=
  DefA.of (N := N__law_part) (g := G__law_part) (T.dfn (dd := []) (kd := []) 24 6) sc__law_part fun f cdv A outer s H E hr => fss_one (fs_ret (fe_op op_mod v2_mod (fe_op op_fdivW v2_div (fe_intc T.bt (fa_cons (fe_ix (fun _ _ => rfl) (fe_v 0) (fe_v 1)) (fa_nil))) (fe_v 2)) (fe_v 3)))
abbrev N__law_shuffled : List Str := ["pool", "spot", "row", "left", "taken", "k"]
theorem sc__law_shuffled : FnScope N__law_shuffled ["pool", "spot", "row"] (defScope s__law_shuffled) := ⟨rfl, rfl, rfl, by decide +kernel, rfl, by decide +kernel, by decide +kernel⟩
theorem b__law_shuffled {K : PySem.W.Frag} {f : Addr} {fd : FuncData} (F : FD K "_law_shuffled" "_law_shuffled" s__law_shuffled [] [] f fd) : Binds K fd ["pool", "spot", "row"] [] := FunD.bindsN (ps := ["pool", "spot", "row"]) F fun _ _ _ _ _ _ us hl => match us, hl with | [_a0, _a1, _a2], _ => rfl
theorem d__law_shuffled (T : Says fa fn K mg) : DefA P w K mg base ca 2 "_law_shuffled" s__law_shuffled [] [] ["pool", "spot", "row"] F__law_shuffled :=
  DefA.of (N := N__law_shuffled) (g := G__law_shuffled) (T.dfn (dd := []) (kd := []) 25 7) sc__law_shuffled fun f cdv A outer s H E hr => fss_cons (fs_own (i := 3) sc__law_shuffled.nd rfl (fl_list rfl T.bt.list bb_list (fe_v 2))) (fss_cons (fs_own (i := 4) sc__law_shuffled.nd rfl (fl_lst (fa_nil))) (fss_cons (fs_for (zs := [5]) (passes_of rfl) rfl (fi_r1 rfl T.bt.range (fe_len T.bt (fa_cons (fe_v 2) (fa_nil)))) (fg_n (i := 5) sc__law_shuffled.nd rfl) (fss_one (fs_appPop (i := 4) (j := 3) rfl rfl (fe_bor (fe_op op_mod v2_mod (fe_a (d__law_part T) b__law_part hr (takes_of rfl rfl rfl rfl) (fa_cons (fe_v 0) (fa_cons (fe_v 1) (fa_cons (fe_ix (fun _ _ => rfl) (fe_lst (fa_cons (fe_int) (fa_cons (fe_int) (fa_cons (fe_int) (fa_cons (fe_int) (fa_nil)))))) (fe_v 5)) (fa_cons (fe_ix (fun _ _ => rfl) (fe_lst (fa_cons (fe_int) (fa_cons (fe_int) (fa_cons (fe_int) (fa_cons (fe_int) (fa_nil)))))) (fe_v 5)) (fa_nil)))))) (fe_len T.bt (fa_cons (fe_v 3) (fa_nil)))))))) (fss_one (fs_frz 4 (fs_ret (fe_v 4))))))
abbrev N__law_some : List Str := ["pool", "spot", "names", "some", "k"]
theorem sc__law_some : FnScope N__law_some ["pool", "spot", "names"] (defScope s__law_some) := ⟨rfl, rfl, rfl, by decide +kernel, rfl, by decide +kernel, by decide +kernel⟩
theorem b__law_some {K : PySem.W.Frag} {f : Addr} {fd : FuncData} (F : FD K "_law_some" "_law_some" s__law_some [] [] f fd) : Binds K fd ["pool", "spot", "names"] [] := FunD.bindsN (ps := ["pool", "spot", "names"]) F fun _ _ _ _ _ _ us hl => match us, hl with | [_a0, _a1, _a2], _ => rfl
theorem d__law_some (T : Says fa fn K mg) : DefA P w K mg base ca 2 "_law_some" s__law_some [] [] ["pool", "spot", "names"] F__law_some :=
  DefA.of (N := N__law_some) (g := G__law_some) (T.dfn (dd := []) (kd := []) 26 8) sc__law_some fun f cdv A outer s H E hr => fss_cons (fs_own (i := 3) sc__law_some.nd rfl (fl_lst (fa_nil))) (fss_cons (fs_for (zs := [4]) (passes_of rfl) rfl (fi_r1 rfl T.bt.range (fe_len T.bt (fa_cons (fe_v 2) (fa_nil)))) (fg_n (i := 4) sc__law_some.nd rfl) (fss_one (fs_if (ft_cmp (op_eqA (hu64 hr)) v2_eq (by first | exact nomark _ | rfl) (fe_a (d__law_part T) b__law_part hr (takes_of rfl rfl rfl rfl) (fa_cons (fe_v 0) (fa_cons (fe_v 1) (fa_cons (fe_ix (fun _ _ => rfl) (fe_lst (fa_cons (fe_int) (fa_cons (fe_int) (fa_cons (fe_int) (fa_cons (fe_int) (fa_nil)))))) (fe_v 4)) (fa_cons (fe_int) (fa_nil)))))) (fe_int)) (fss_one (fs_app (i := 3) rfl (fe_ix (fun _ _ => rfl) (fe_v 2) (fe_v 4)))) (fss_nil)))) (fss_one (fs_frz 3 (fs_ret (fe_v 3)))))
abbrev N__law_case : List Str := ["pool", "crew", "base", "crest", "loads", "k", "wishes", "having", "way", "late", "listed", "cap"]
theorem sc__law_case : FnScope N__law_case ["pool", "crew"] (defScope s__law_case) := ⟨rfl, rfl, rfl, by decide +kernel, rfl, by decide +kernel, by decide +kernel⟩
theorem b__law_case {K : PySem.W.Frag} {f : Addr} {fd : FuncData} (F : FD K "_law_case" "_law_case" s__law_case [] [] f fd) : Binds K fd ["pool", "crew"] [] := FunD.bindsN (ps := ["pool", "crew"]) F fun _ _ _ _ _ _ us hl => match us, hl with | [_a0, _a1], _ => rfl
theorem d__law_case (T : Says fa fn K mg) : DefA P w K mg base ca 3 "_law_case" s__law_case [] [] ["pool", "crew"] F__law_case :=
  DefA.of (N := N__law_case) (g := G__law_case) (T.dfn (dd := []) (kd := []) 27 9) sc__law_case fun f cdv A outer s H E hr => fss_cons (fs_set (i := 2) sc__law_case.nd rfl (fe_ix (fun _ _ => rfl) (fe_lst (fa_cons (fe_int) (fa_cons (fe_int) (fa_cons (fe_int) (fa_cons (fe_op op_pow v2_pow (fe_int) (fe_int)) (fa_cons (fe_op op_pow v2_pow (fe_int) (fe_int)) (fa_nil))))))) (fe_a (d__law_part T) b__law_part hr (takes_of rfl rfl rfl rfl) (fa_cons (fe_v 0) (fa_cons (fe_int) (fa_cons (fe_int) (fa_cons (fe_int) (fa_nil)))))))) (fss_cons (fs_set (i := 3) sc__law_case.nd rfl (fe_op op_addA v2_add (fe_v 2) (fe_a (d__law_part T) b__law_part hr (takes_of rfl rfl rfl rfl) (fa_cons (fe_v 0) (fa_cons (fe_int) (fa_cons (fe_int) (fa_cons (fe_int) (fa_nil)))))))) (fss_cons (fs_own (i := 4) sc__law_case.nd rfl (fl_lst (fa_nil))) (fss_cons (fs_for (zs := [5]) (passes_of rfl) rfl (fi_r1 rfl T.bt.range (fe_len T.bt (fa_cons (fe_v 1) (fa_nil)))) (fg_n (i := 5) sc__law_case.nd rfl) (fss_one (fs_app (i := 4) rfl (fe_max T.bt (fa_cons (fe_int) (fa_cons (fe_op op_sub v2_sub (fe_v 3) (fe_a (d__law_part T) b__law_part hr (takes_of rfl rfl rfl rfl) (fa_cons (fe_v 0) (fa_cons (fe_int) (fa_cons (fe_ix (fun _ _ => rfl) (fe_lst (fa_cons (fe_int) (fa_cons (fe_int) (fa_cons (fe_int) (fa_cons (fe_int) (fa_nil)))))) (fe_v 5)) (fa_cons (fe_int) (fa_nil))))))) (fa_nil))))))) (fss_cons (fs_set (i := 6) sc__law_case.nd rfl (fe_a (d__law_some T) b__law_some hr (takes_of rfl rfl rfl rfl) (fa_cons (fe_v 0) (fa_cons (fe_int) (fa_cons (fe_v 1) (fa_nil)))))) (fss_cons (fs_set (i := 7) sc__law_case.nd rfl (fe_lst (fa_nil))) (fss_cons (fs_set (i := 8) sc__law_case.nd rfl (fe_a (d__law_part T) b__law_part hr (takes_of rfl rfl rfl rfl) (fa_cons (fe_v 0) (fa_cons (fe_int) (fa_cons (fe_int) (fa_cons (fe_int) (fa_nil))))))) (fss_cons (fs_if (ft_cmp (op_eqA (hu64 hr)) v2_eq (by first | exact nomark _ | rfl) (fe_v 8) (fe_int)) (fss_one (fs_set (i := 7) sc__law_case.nd rfl (fe_sl (fe_a (d__law_shuffled T) b__law_shuffled hr (takes_of rfl rfl rfl rfl) (fa_cons (fe_v 0) (fa_cons (fe_int) (fa_cons (fe_v 6) (fa_nil))))) (fo_n) (fo_s (fe_int))))) (fss_nil)) (fss_cons (fs_if (ft_cmp (op_eqA (hu64 hr)) v2_eq (by first | exact nomark _ | rfl) (fe_v 8) (fe_int)) (fss_one (fs_set (i := 7) sc__law_case.nd rfl (fe_sl (fe_a (d__law_shuffled T) b__law_shuffled hr (takes_of rfl rfl rfl rfl) (fa_cons (fe_v 0) (fa_cons (fe_int) (fa_cons (fe_v 6) (fa_nil))))) (fo_n) (fo_s (fe_int))))) (fss_nil)) (fss_cons (fs_if (ft_cmp (op_eqA (hu64 hr)) v2_eq (by first | exact nomark _ | rfl) (fe_v 8) (fe_int)) (fss_one (fs_set (i := 7) sc__law_case.nd rfl (fe_sl (fe_a (d__law_shuffled T) b__law_shuffled hr (takes_of rfl rfl rfl rfl) (fa_cons (fe_v 0) (fa_cons (fe_int) (fa_cons (fe_v 1) (fa_nil))))) (fo_n) (fo_s (fe_a (d__law_part T) b__law_part hr (takes_of rfl rfl rfl rfl) (fa_cons (fe_v 0) (fa_cons (fe_int) (fa_cons (fe_int) (fa_cons (fe_int) (fa_nil)))))))))) (fss_nil)) (fss_cons (fs_set (i := 9) sc__law_case.nd rfl (fe_ix (fun _ _ => rfl) (fe_op op_addA v2_add (fe_v 1) (fe_lst (fa_cons (fe_str) (fa_cons (fe_str) (fa_cons (fe_str) (fa_cons (fe_str) (fa_nil))))))) (fe_op op_mod v2_mod (fe_a (d__law_part T) b__law_part hr (takes_of rfl rfl rfl rfl) (fa_cons (fe_v 0) (fa_cons (fe_int) (fa_cons (fe_int) (fa_cons (fe_int) (fa_nil)))))) (fe_op op_addA v2_add (fe_len T.bt (fa_cons (fe_v 1) (fa_nil))) (fe_int))))) (fss_cons (fs_set (i := 10) sc__law_case.nd rfl (fe_sl (fe_a (d__law_shuffled T) b__law_shuffled hr (takes_of rfl rfl rfl rfl) (fa_cons (fe_v 0) (fa_cons (fe_int) (fa_cons (fe_v 1) (fa_nil))))) (fo_n) (fo_s (fe_a (d__law_part T) b__law_part hr (takes_of rfl rfl rfl rfl) (fa_cons (fe_v 0) (fa_cons (fe_int) (fa_cons (fe_int) (fa_cons (fe_int) (fa_nil))))))))) (fss_cons (fs_set (i := 11) sc__law_case.nd rfl (fe_max T.bt (fa_cons (fe_int) (fa_cons (fe_op op_addA v2_add (fe_op op_sub v2_sub (fe_v 3) (fe_a (d__law_part T) b__law_part hr (takes_of rfl rfl rfl rfl) (fa_cons (fe_v 0) (fa_cons (fe_int) (fa_cons (fe_int) (fa_cons (fe_int) (fa_nil))))))) (fe_a (d__law_part T) b__law_part hr (takes_of rfl rfl rfl rfl) (fa_cons (fe_v 0) (fa_cons (fe_int) (fa_cons (fe_int) (fa_cons (fe_int) (fa_nil))))))) (fa_nil))))) (fss_cons (fs_if (ft_cmp (op_eqA (hu64 hr)) v2_eq (by first | exact nomark _ | rfl) (fe_a (d__law_part T) b__law_part hr (takes_of rfl rfl rfl rfl) (fa_cons (fe_v 0) (fa_cons (fe_int) (fa_cons (fe_int) (fa_cons (fe_int) (fa_nil)))))) (fe_int)) (fss_one (fs_set (i := 11) sc__law_case.nd rfl (fe_non))) (fss_nil)) (fss_cons (fs_if (ft_cmp (op_eqA (hu64 hr)) v2_eq (by first | exact nomark _ | rfl) (fe_a (d__law_part T) b__law_part hr (takes_of rfl rfl rfl rfl) (fa_cons (fe_v 0) (fa_cons (fe_int) (fa_cons (fe_int) (fa_cons (fe_int) (fa_nil)))))) (fe_int)) (fss_one (fs_set (i := 11) sc__law_case.nd rfl (fe_int))) (fss_nil)) (fss_one (fs_frz 4 (fs_ret (fe_tup (fa_cons (fe_v 4) (fa_cons (fe_v 6) (fa_cons (fe_a (d__law_shuffled T) b__law_shuffled hr (takes_of rfl rfl rfl rfl) (fa_cons (fe_v 0) (fa_cons (fe_int) (fa_cons (fe_v 6) (fa_nil))))) (fa_cons (fe_v 7) (fa_cons (fe_v 9) (fa_cons (fe_v 3) (fa_cons (fe_v 10) (fa_cons (fe_v 11) (fa_nil)))))))))))))))))))))))))))
abbrev N__law_cell : List Str := ["script", "k", "far", "j"]
theorem sc__law_cell : FnScope N__law_cell ["script", "k"] (defScope s__law_cell) := ⟨rfl, rfl, rfl, by decide +kernel, rfl, by decide +kernel, by decide +kernel⟩
theorem b__law_cell {K : PySem.W.Frag} {f : Addr} {fd : FuncData} (F : FD K "_law_cell" "_law_cell" s__law_cell [] [] f fd) : Binds K fd ["script", "k"] [] := FunD.bindsN (ps := ["script", "k"]) F fun _ _ _ _ _ _ us hl => match us, hl with | [_a0, _a1], _ => rfl
theorem d__law_cell (T : Says fa fn K mg) : DefA P w K mg base ca 1 "_law_cell" s__law_cell [] [] ["script", "k"] F__law_cell :=
  DefA.of (N := N__law_cell) (g := G__law_cell) (T.dfn (dd := []) (kd := []) 28 10) sc__law_cell fun f cdv A outer s H E hr => fss_cons (fs_if (ft_cmp op_lt v2_lt (by first | exact nomark _ | rfl) (fe_v 1) (fe_len T.bt (fa_cons (fe_v 0) (fa_nil)))) (fss_one (fs_ret (fe_ix (fun _ _ => rfl) (fe_v 0) (fe_v 1)))) (fss_nil)) (fss_cons (fs_set (i := 2) sc__law_cell.nd rfl (fe_op op_mul2 v2_mul (fe_int) (fe_op op_addA v2_add (fe_v 1) (fe_int)))) (fss_cons (fs_for (zs := [3]) (passes_of rfl) rfl (fi_r1 rfl T.bt.range (fe_len T.bt (fa_cons (fe_v 0) (fa_nil)))) (fg_n (i := 3) sc__law_cell.nd rfl) (fss_one (fs_set (i := 2) sc__law_cell.nd rfl (fe_op op_mod v2_mod (fe_op op_addA v2_add (fe_v 2) (fe_op op_mul2 v2_mul (fe_op op_mul2 v2_mul (fe_op op_addA v2_add (fe_v 3) (fe_int)) (fe_op op_mod v2_mod (fe_abs T.bt (fa_cons (fe_ix (fun _ _ => rfl) (fe_v 0) (fe_v 3)) (fa_nil))) (fe_int))) (fe_int))) (fe_int))))) (fss_one (fs_ret (fe_v 2)))))
abbrev N__law_after : List Str := ["crew", "case", "loads", "wishes", "turned", "having", "late", "crest", "listed", "cap", "after", "k", "held", "wished", "name"]
theorem sc__law_after : FnScope N__law_after ["crew", "case"] (defScope s__law_after) := ⟨rfl, rfl, rfl, by decide +kernel, rfl, by decide +kernel, by decide +kernel⟩
theorem b__law_after {K : PySem.W.Frag} {f : Addr} {fd : FuncData} (F : FD K "_law_after" "_law_after" s__law_after [] [] f fd) : Binds K fd ["crew", "case"] [] := FunD.bindsN (ps := ["crew", "case"]) F fun _ _ _ _ _ _ us hl => match us, hl with | [_a0, _a1], _ => rfl
theorem d__law_after (T : Says fa fn K mg) : DefA P w K mg base ca 1 "_law_after" s__law_after [] [] ["crew", "case"] F__law_after :=
  DefA.of (N := N__law_after) (g := G__law_after) (T.dfn (dd := []) (kd := []) 29 11) sc__law_after fun f cdv A outer s H E hr => fss_cons (fs_asg (zs := [2, 3, 4, 5, 6, 7, 8, 9]) (fe_v 1) (fg_t rfl (fgs_c (fg_n (i := 2) sc__law_after.nd rfl) (fgs_c (fg_n (i := 3) sc__law_after.nd rfl) (fgs_c (fg_n (i := 4) sc__law_after.nd rfl) (fgs_c (fg_n (i := 5) sc__law_after.nd rfl) (fgs_c (fg_n (i := 6) sc__law_after.nd rfl) (fgs_c (fg_n (i := 7) sc__law_after.nd rfl) (fgs_c (fg_n (i := 8) sc__law_after.nd rfl) (fgs_c (fg_n (i := 9) sc__law_after.nd rfl) (fgs_n))))))))))) (fss_cons (fs_own (i := 10) sc__law_after.nd rfl (fl_lst (fa_nil))) (fss_cons (fs_for (zs := [11]) (passes_of rfl) rfl (fi_r1 rfl T.bt.range (fe_len T.bt (fa_cons (fe_v 0) (fa_nil)))) (fg_n (i := 11) sc__law_after.nd rfl) (fss_cons (fs_set (i := 12) sc__law_after.nd rfl (fe_len T.bt (fa_cons (fe_lc (own := [("name", 14)]) rfl sc__law_after.nd (fi_sq (fe_op op_addA v2_add (fe_v 5) (fe_lst (fa_cons (fe_v 6) (fa_nil))))) (blkOk_by (own := [("name", 14)]) (N := N__law_after) (sc := defScope s__law_after) (by decide +kernel)) (fun _ _ _ _ _ => fg_n (i := 14) sc__law_after.nd rfl) (fun _ _ _ _ _ => fts_one (ft_cmp (op_eqA (hu64 hr)) v2_eq (by first | exact nomark _ | rfl) (fe_v 14) (fe_ix (fun _ _ => rfl) (fe_v 0) (fe_v 11)))) (fun _ _ _ _ _ => fe_int)) (fa_nil)))) (fss_cons (fs_set (i := 13) sc__law_after.nd rfl (fe_len T.bt (fa_cons (fe_lc (own := [("name", 14)]) rfl sc__law_after.nd (fi_sq (fe_v 3)) (blkOk_by (own := [("name", 14)]) (N := N__law_after) (sc := defScope s__law_after) (by decide +kernel)) (fun _ _ _ _ _ => fg_n (i := 14) sc__law_after.nd rfl) (fun _ _ _ _ _ => fts_one (ft_cmp (op_eqA (hu64 hr)) v2_eq (by first | exact nomark _ | rfl) (fe_v 14) (fe_ix (fun _ _ => rfl) (fe_v 0) (fe_v 11)))) (fun _ _ _ _ _ => fe_int)) (fa_nil)))) (fss_one (fs_if (ft_cmp op_gt v2_gt (by first | exact nomark _ | rfl) (fe_v 12) (fe_int)) (fss_one (fs_app (i := 10) rfl (fe_int))) (fss_one (fs_if (ft_w (fw_and (ft_cmp op_gt v2_gt (by first | exact nomark _ | rfl) (fe_v 13) (fe_int)) (fw_and1 (ft_cmp op_lt v2_lt (by first | exact nomark _ | rfl) (fe_ix (fun _ _ => rfl) (fe_v 2) (fe_v 11)) (fe_v 7))))) (fss_one (fs_app (i := 10) rfl (fe_op op_addA v2_add (fe_ix (fun _ _ => rfl) (fe_v 2) (fe_v 11)) (fe_int)))) (fss_one (fs_app (i := 10) rfl (fe_ix (fun _ _ => rfl) (fe_v 2) (fe_v 11))))))))))) (fss_one (fs_frz 10 (fs_ret (fe_tuplec T.bt (fa_cons (fe_v 10) (fa_nil))))))))
abbrev N__law_longest : List Str := ["crew", "loads", "wishes", "best", "name"]
theorem sc__law_longest : FnScope N__law_longest ["crew", "loads", "wishes"] (defScope s__law_longest) := ⟨rfl, rfl, rfl, by decide +kernel, rfl, by decide +kernel, by decide +kernel⟩
theorem b__law_longest {K : PySem.W.Frag} {f : Addr} {fd : FuncData} (F : FD K "_law_longest" "_law_longest" s__law_longest [] [] f fd) : Binds K fd ["crew", "loads", "wishes"] [] := FunD.bindsN (ps := ["crew", "loads", "wishes"]) F fun _ _ _ _ _ _ us hl => match us, hl with | [_a0, _a1, _a2], _ => rfl
theorem d__law_longest (T : Says fa fn K mg) : DefA P w K mg base ca 1 "_law_longest" s__law_longest [] [] ["crew", "loads", "wishes"] F__law_longest :=
  DefA.of (N := N__law_longest) (g := G__law_longest) (T.dfn (dd := []) (kd := []) 30 12) sc__law_longest fun f cdv A outer s H E hr => fss_cons (fs_set (i := 3) sc__law_longest.nd rfl (fe_str)) (fss_cons (fs_for (zs := [4]) (passes_of rfl) rfl (fi_sq (fe_rev (fe_v 2))) (fg_n (i := 4) sc__law_longest.nd rfl) (fss_one (fs_if (ft_w (fw_or (ft_cmp (op_eqA (hu64 hr)) v2_eq (by first | exact nomark _ | rfl) (fe_v 3) (fe_str)) (fw_or1 (ft_cmp op_ge v2_ge (by first | exact nomark _ | rfl) (fe_ix (fun _ _ => rfl) (fe_v 1) (fe_index (fe_v 0) (fa_cons (fe_v 4) (fa_nil)))) (fe_ix (fun _ _ => rfl) (fe_v 1) (fe_index (fe_v 0) (fa_cons (fe_v 3) (fa_nil)))))))) (fss_one (fs_set (i := 3) sc__law_longest.nd rfl (fe_v 4))) (fss_nil)))) (fss_one (fs_ret (fe_v 3))))
abbrev N__law_over : List Str := ["crew", "loads", "listed", "cap", "over", "name"]
theorem sc__law_over : FnScope N__law_over ["crew", "loads", "listed", "cap"] (defScope s__law_over) := ⟨rfl, rfl, rfl, by decide +kernel, rfl, by decide +kernel, by decide +kernel⟩
theorem b__law_over {K : PySem.W.Frag} {f : Addr} {fd : FuncData} (F : FD K "_law_over" "_law_over" s__law_over [] [] f fd) : Binds K fd ["crew", "loads", "listed", "cap"] [] := FunD.bindsN (ps := ["crew", "loads", "listed", "cap"]) F fun _ _ _ _ _ _ us hl => match us, hl with | [_a0, _a1, _a2, _a3], _ => rfl
theorem d__law_over (T : Says fa fn K mg) : DefA P w K mg base ca 1 "_law_over" s__law_over [] [] ["crew", "loads", "listed", "cap"] F__law_over :=
  DefA.of (N := N__law_over) (g := G__law_over) (T.dfn (dd := []) (kd := []) 31 13) sc__law_over fun f cdv A outer s H E hr => fss_cons (fs_set (i := 4) sc__law_over.nd rfl (fe_non)) (fss_cons (fs_for (zs := [5]) (passes_of rfl) rfl (fi_sq (fe_rev (fe_v 2))) (fg_n (i := 5) sc__law_over.nd rfl) (fss_one (fs_if (ft_w (fw_and (ft_cmp op_notN v2_notN (by first | exact nomark _ | rfl) (fe_v 3) (fe_non)) (fw_and1 (ft_cmp op_ge v2_ge (by first | exact nomark _ | rfl) (fe_ix (fun _ _ => rfl) (fe_v 1) (fe_index (fe_v 0) (fa_cons (fe_v 5) (fa_nil)))) (fe_v 3))))) (fss_one (fs_set (i := 4) sc__law_over.nd rfl (fe_v 5))) (fss_nil)))) (fss_one (fs_ret (fe_v 4))))
abbrev N__law_due : List Str := ["crew", "case", "loads", "wishes", "turned", "having", "late", "crest", "listed", "cap", "due", "row", "after", "name"]
theorem sc__law_due : FnScope N__law_due ["crew", "case"] (defScope s__law_due) := ⟨rfl, rfl, rfl, by decide +kernel, rfl, by decide +kernel, by decide +kernel⟩
theorem b__law_due {K : PySem.W.Frag} {f : Addr} {fd : FuncData} (F : FD K "_law_due" "_law_due" s__law_due [] [] f fd) : Binds K fd ["crew", "case"] [] := FunD.bindsN (ps := ["crew", "case"]) F fun _ _ _ _ _ _ us hl => match us, hl with | [_a0, _a1], _ => rfl
theorem d__law_due (T : Says fa fn K mg) : DefA P w K mg base ca 2 "_law_due" s__law_due [] [] ["crew", "case"] F__law_due :=
  DefA.of (N := N__law_due) (g := G__law_due) (T.dfn (dd := []) (kd := []) 32 14) sc__law_due fun f cdv A outer s H E hr => fss_cons (fs_asg (zs := [2, 3, 4, 5, 6, 7, 8, 9]) (fe_v 1) (fg_t rfl (fgs_c (fg_n (i := 2) sc__law_due.nd rfl) (fgs_c (fg_n (i := 3) sc__law_due.nd rfl) (fgs_c (fg_n (i := 4) sc__law_due.nd rfl) (fgs_c (fg_n (i := 5) sc__law_due.nd rfl) (fgs_c (fg_n (i := 6) sc__law_due.nd rfl) (fgs_c (fg_n (i := 7) sc__law_due.nd rfl) (fgs_c (fg_n (i := 8) sc__law_due.nd rfl) (fgs_c (fg_n (i := 9) sc__law_due.nd rfl) (fgs_n))))))))))) (fss_cons (fs_own (i := 10) sc__law_due.nd rfl (fl_lst (fa_nil))) (fss_cons (fs_for (zs := [11]) (passes_of rfl) rfl (fi_sq (fe_lst (fa_cons (fe_v 3) (fa_cons (fe_v 4) (fa_nil))))) (fg_n (i := 11) sc__law_due.nd rfl) (fss_one (fs_app (i := 10) rfl (fe_tuplec T.bt (fa_cons (fe_lc (own := [("name", 13)]) rfl sc__law_due.nd (fi_sq (fe_v 11)) (blkOk_by (own := [("name", 13)]) (N := N__law_due) (sc := defScope s__law_due) (by decide +kernel)) (fun _ _ _ _ _ => fg_n (i := 13) sc__law_due.nd rfl) (fun _ _ _ _ _ => fts_one (ft_w (fw_and (ft_cmp (op_neA (hu64 hr)) v2_ne (by first | exact nomark _ | rfl) (fe_v 13) (fe_v 6)) (fw_and1 (ft_cmp (op_ninA (hu65 hr)) v2_nin (by first | exact nomark _ | rfl) (fe_v 13) (fe_v 5)))))) (fun _ _ _ _ _ => fe_v 13)) (fa_nil)))))) (fss_cons (fs_set (i := 12) sc__law_due.nd rfl (fe_a (d__law_after T) b__law_after hr (takes_of rfl rfl rfl rfl) (fa_cons (fe_v 0) (fa_cons (fe_v 1) (fa_nil))))) (fss_cons (fs_frz 10 (fs_set (i := 10) sc__law_due.nd rfl (fe_op op_addA v2_add (fe_v 10) (fe_lst (fa_cons (fe_v 12) (fa_cons (fe_v 12) (fa_cons (fe_a (d__law_over T) b__law_over hr (takes_of rfl rfl rfl rfl) (fa_cons (fe_v 0) (fa_cons (fe_v 2) (fa_cons (fe_v 8) (fa_cons (fe_v 9) (fa_nil)))))) (fa_nil)))))))) (fss_one (fs_frz 10 (fs_ret (fe_op op_addA v2_add (fe_v 10) (fe_lst (fa_cons (fe_a (d__law_longest T) b__law_longest hr (takes_of rfl rfl rfl rfl) (fa_cons (fe_v 0) (fa_cons (fe_v 2) (fa_cons (fe_v 3) (fa_nil))))) (fa_cons (fe_a (d__law_longest T) b__law_longest hr (takes_of rfl rfl rfl rfl) (fa_cons (fe_v 0) (fa_cons (fe_v 2) (fa_cons (fe_v 4) (fa_nil))))) (fa_nil))))))))))))
abbrev N__law_names : List Str := ["pool", "spot", "number", "letters", "stem", "k", "turn", "cut", "first", "short", "tail", "names", "mark"]
theorem sc__law_names : FnScope N__law_names ["pool", "spot", "number"] (defScope s__law_names) := ⟨rfl, rfl, rfl, by decide +kernel, rfl, by decide +kernel, by decide +kernel⟩
theorem b__law_names {K : PySem.W.Frag} {f : Addr} {fd : FuncData} (F : FD K "_law_names" "_law_names" s__law_names [] [] f fd) : Binds K fd ["pool", "spot", "number"] [] := FunD.bindsN (ps := ["pool", "spot", "number"]) F fun _ _ _ _ _ _ us hl => match us, hl with | [_a0, _a1, _a2], _ => rfl
theorem d__law_names (T : Says fa fn K mg) : DefA P w K mg base ca 2 "_law_names" s__law_names [] [] ["pool", "spot", "number"] F__law_names :=
  DefA.of (N := N__law_names) (g := G__law_names) (T.dfn (dd := []) (kd := []) 33 15) sc__law_names fun f cdv A outer s H E hr => fss_cons (fs_set (i := 3) sc__law_names.nd rfl (fe_str)) (fss_cons (fs_set (i := 4) sc__law_names.nd rfl (fe_str)) (fss_cons (fs_for (zs := [5]) (passes_of rfl) rfl (fi_r1 rfl T.bt.range (fe_int)) (fg_n (i := 5) sc__law_names.nd rfl) (fss_one (fs_set (i := 4) sc__law_names.nd rfl (fe_op op_addA v2_add (fe_op op_addA v2_add (fe_v 4) (fe_ix (fun _ _ => rfl) (fe_v 3) (fe_a (d__law_part T) b__law_part hr (takes_of rfl rfl rfl rfl) (fa_cons (fe_v 0) (fa_cons (fe_op op_addA v2_add (fe_v 1) (fe_v 5)) (fa_cons (fe_int) (fa_cons (fe_int) (fa_nil)))))))) (fe_ix (fun _ _ => rfl) (fe_v 3) (fe_a (d__law_part T) b__law_part hr (takes_of rfl rfl rfl rfl) (fa_cons (fe_v 0) (fa_cons (fe_op op_addA v2_add (fe_v 1) (fe_v 5)) (fa_cons (fe_int) (fa_cons (fe_int) (fa_nil))))))))))) (fss_cons (fs_set (i := 6) sc__law_names.nd rfl (fe_a (d__law_part T) b__law_part hr (takes_of rfl rfl rfl rfl) (fa_cons (fe_v 0) (fa_cons (fe_op op_addA v2_add (fe_v 1) (fe_int)) (fa_cons (fe_int) (fa_cons (fe_int) (fa_nil))))))) (fss_cons (fs_set (i := 7) sc__law_names.nd rfl (fe_a (d__law_part T) b__law_part hr (takes_of rfl rfl rfl rfl) (fa_cons (fe_v 0) (fa_cons (fe_op op_addA v2_add (fe_v 1) (fe_int)) (fa_cons (fe_int) (fa_cons (fe_int) (fa_nil))))))) (fss_cons (fs_set (i := 8) sc__law_names.nd rfl (fe_a (d__law_part T) b__law_part hr (takes_of rfl rfl rfl rfl) (fa_cons (fe_v 0) (fa_cons (fe_op op_addA v2_add (fe_v 1) (fe_int)) (fa_cons (fe_int) (fa_cons (fe_int) (fa_nil))))))) (fss_cons (fs_set (i := 9) sc__law_names.nd rfl (fe_sl (fe_v 4) (fo_n) (fo_s (fe_a (d__law_part T) b__law_part hr (takes_of rfl rfl rfl rfl) (fa_cons (fe_v 0) (fa_cons (fe_op op_addA v2_add (fe_v 1) (fe_int)) (fa_cons (fe_int) (fa_cons (fe_int) (fa_nil))))))))) (fss_cons (fs_set (i := 10) sc__law_names.nd rfl (fe_sl (fe_v 4) (fo_n) (fo_s (fe_a (d__law_part T) b__law_part hr (takes_of rfl rfl rfl rfl) (fa_cons (fe_v 0) (fa_cons (fe_op op_addA v2_add (fe_v 1) (fe_int)) (fa_cons (fe_int) (fa_cons (fe_int) (fa_nil))))))))) (fss_cons (fs_own (i := 11) sc__law_names.nd rfl (fl_lst (fa_nil))) (fss_cons (fs_for (zs := [5]) (passes_of rfl) rfl (fi_r1 rfl T.bt.range (fe_v 2)) (fg_n (i := 5) sc__law_names.nd rfl) (fss_cons (fs_set (i := 12) sc__law_names.nd rfl (fe_op op_mod v2_mod (fe_intc T.bt (fa_cons (fe_op op_addA v2_add (fe_v 5) (fe_v 6)) (fa_nil))) (fe_int))) (fss_one (fs_if (ft_cmp (op_eqA (hu64 hr)) v2_eq (by first | exact nomark _ | rfl) (fe_a (d__law_part T) b__law_part hr (takes_of rfl rfl rfl rfl) (fa_cons (fe_v 0) (fa_cons (fe_op op_addA v2_add (fe_v 1) (fe_int)) (fa_cons (fe_int) (fa_cons (fe_int) (fa_nil)))))) (fe_int)) (fss_one (fs_app (i := 11) rfl (fe_op op_addA v2_add (fe_op op_addA v2_add (fe_op op_addA v2_add (fe_sl (fe_v 9) (fo_n) (fo_s (fe_v 7))) (fe_ix (fun _ _ => rfl) (fe_v 3) (fe_op op_mod v2_mod (fe_intc T.bt (fa_cons (fe_op op_addA v2_add (fe_v 8) (fe_op op_mul2 v2_mul (fe_int) (fe_v 12))) (fa_nil))) (fe_int)))) (fe_sl (fe_v 9) (fo_s (fe_v 7)) (fo_n))) (fe_v 10)))) (fss_one (fs_app (i := 11) rfl (fe_sl (fe_v 4) (fo_n) (fo_s (fe_op op_addA v2_add (fe_v 12) (fe_int)))))))))) (fss_one (fs_frz 11 (fs_ret (fe_v 11)))))))))))))
abbrev N__law_mixed : List Str := ["cell", "k", "x"]
theorem sc__law_mixed : FnScope N__law_mixed ["cell", "k"] (defScope s__law_mixed) := ⟨rfl, rfl, rfl, by decide +kernel, rfl, by decide +kernel, by decide +kernel⟩
theorem b__law_mixed {K : PySem.W.Frag} {f : Addr} {fd : FuncData} (F : FD K "_law_mixed" "_law_mixed" s__law_mixed [] [] f fd) : Binds K fd ["cell", "k"] [] := FunD.bindsN (ps := ["cell", "k"]) F fun _ _ _ _ _ _ us hl => match us, hl with | [_a0, _a1], _ => rfl
theorem d__law_mixed (T : Says fa fn K mg) : DefA P w K mg base ca 1 "_law_mixed" s__law_mixed [] [] ["cell", "k"] F__law_mixed :=
  DefA.of (N := N__law_mixed) (g := G__law_mixed) (T.dfn (dd := []) (kd := []) 34 16) sc__law_mixed fun f cdv A outer s H E hr => fss_cons (fs_set (i := 2) sc__law_mixed.nd rfl (fe_op op_mod v2_mod (fe_op op_addA v2_add (fe_op op_mul2 v2_mul (fe_op op_mod v2_mod (fe_abs T.bt (fa_cons (fe_v 0) (fa_nil))) (fe_int)) (fe_int)) (fe_op op_mul2 v2_mul (fe_op op_addA v2_add (fe_v 1) (fe_int)) (fe_int))) (fe_int))) (fss_cons (fs_set (i := 2) sc__law_mixed.nd rfl (fe_op op_mod v2_mod (fe_op op_addA v2_add (fe_op op_mul2 v2_mul (fe_v 2) (fe_op op_addA v2_add (fe_op op_mod v2_mod (fe_v 2) (fe_int)) (fe_int))) (fe_op op_mul2 v2_mul (fe_op op_addA v2_add (fe_v 1) (fe_int)) (fe_int))) (fe_int))) (fss_cons (fs_set (i := 2) sc__law_mixed.nd rfl (fe_op op_mod v2_mod (fe_op op_mul2 v2_mul (fe_v 2) (fe_op op_addA v2_add (fe_op op_mod v2_mod (fe_v 2) (fe_int)) (fe_int))) (fe_int))) (fss_one (fs_ret (fe_op op_fdivW v2_div (fe_v 2) (fe_int))))))
abbrev N__law_pool : List Str := ["cell", "number", "rest", "deep", "pool", "k"]
theorem sc__law_pool : FnScope N__law_pool ["cell", "number"] (defScope s__law_pool) := ⟨rfl, rfl, rfl, by decide +kernel, rfl, by decide +kernel, by decide +kernel⟩
theorem b__law_pool {K : PySem.W.Frag} {f : Addr} {fd : FuncData} (F : FD K "_law_pool" "_law_pool" s__law_pool [] [] f fd) : Binds K fd ["cell", "number"] [] := FunD.bindsN (ps := ["cell", "number"]) F fun _ _ _ _ _ _ us hl => match us, hl with | [_a0, _a1], _ => rfl
theorem d__law_pool (T : Says fa fn K mg) : DefA P w K mg base ca 2 "_law_pool" s__law_pool [] [] ["cell", "number"] F__law_pool :=
  DefA.of (N := N__law_pool) (g := G__law_pool) (T.dfn (dd := []) (kd := []) 35 17) sc__law_pool fun f cdv A outer s H E hr => fss_cons (fs_set (i := 2) sc__law_pool.nd rfl (fe_abs T.bt (fa_cons (fe_v 0) (fa_nil)))) (fss_cons (fs_set (i := 3) sc__law_pool.nd rfl (fe_cmp op_ge v2_ge (by first | exact nomark _ | rfl) (fe_v 2) (fe_op op_pow v2_pow (fe_int) (fe_int)))) (fss_cons (fs_own (i := 4) sc__law_pool.nd rfl (fl_lst (fa_nil))) (fss_cons (fs_for (zs := [5]) (passes_of rfl) rfl (fi_r1 rfl T.bt.range (fe_v 1)) (fg_n (i := 5) sc__law_pool.nd rfl) (fss_one (fs_if (ft_w (fw_and (ft_val (fe_v 3)) (fw_and1 (ft_cmp op_gt v2_gt (by first | exact nomark _ | rfl) (fe_v 2) (fe_int))))) (fss_cons (fs_app (i := 4) rfl (fe_op op_mod v2_mod (fe_v 2) (fe_int))) (fss_one (fs_set (i := 2) sc__law_pool.nd rfl (fe_op op_fdivW v2_div (fe_v 2) (fe_int))))) (fss_one (fs_app (i := 4) rfl (fe_a (d__law_mixed T) b__law_mixed hr (takes_of rfl rfl rfl rfl) (fa_cons (fe_v 0) (fa_cons (fe_v 5) (fa_nil))))))))) (fss_one (fs_frz 4 (fs_ret (fe_v 4)))))))
abbrev N__law_integer : List Str := ["got"]
theorem sc__law_integer : FnScope N__law_integer ["got"] (defScope s__law_integer) := ⟨rfl, rfl, rfl, by decide +kernel, rfl, by decide +kernel, by decide +kernel⟩
theorem b__law_integer {K : PySem.W.Frag} {f : Addr} {fd : FuncData} (F : FD K "_law_integer" "_law_integer" s__law_integer [] [] f fd) : Binds K fd ["got"] [] := FunD.bindsN (ps := ["got"]) F fun _ _ _ _ _ _ us hl => match us, hl with | [_a0], _ => rfl
theorem d__law_integer (T : Says fa fn K mg) : DefA P w K mg base ca 1 "_law_integer" s__law_integer [] [] ["got"] F__law_integer :=
  DefA.of (N := N__law_integer) (g := G__law_integer) (T.dfn (dd := []) (kd := []) 36 18) sc__law_integer fun f cdv A outer s H E hr => fss_one (fs_ret (fe_and (fe_isi T.bt (fa_cons (fe_v 0) (fa_cons (fe_ty_int T.bt) (fa_nil)))) (fe_one (fe_not (fe_isi T.bt (fa_cons (fe_v 0) (fa_cons (fe_ty_bool T.bt) (fa_nil))))))))
abbrev N__law_same : List Str := ["got", "wanted", "k"]
theorem sc__law_same : FnScope N__law_same ["got", "wanted"] (defScope s__law_same) := ⟨rfl, rfl, rfl, by decide +kernel, rfl, by decide +kernel, by decide +kernel⟩
theorem b__law_same {K : PySem.W.Frag} {f : Addr} {fd : FuncData} (F : FD K "_law_same" "_law_same" s__law_same [] [] f fd) : Binds K fd ["got", "wanted"] [] := FunD.bindsN (ps := ["got", "wanted"]) F fun _ _ _ _ _ _ us hl => match us, hl with | [_a0, _a1], _ => rfl
theorem dr__law_same (T : Says fa fn K mg) : ∀ n : Nat, DefA P w K mg base ca (2 + n) "_law_same" s__law_same [] [] ["got", "wanted"] (Fr__law_same n)
  | 0 => DefA.of (N := N__law_same) (g := sBad) (k := 1) (T.dfn (dd := []) (kd := []) 37 19) sc__law_same fun f cdv A outer s H E hr => fss_never
  | n + 1 => have ih : DefA P w K mg base ca (2 + n) "_law_same" s__law_same [] [] ["got", "wanted"] (Fr__law_same n) := dr__law_same T n
    DefA.of (N := N__law_same) (g := G__law_same (Fr__law_same n)) (k := 2 + n) (T.dfn (dd := []) (kd := []) 37 19) sc__law_same fun f cdv A outer s H E hr => fss_cons (fs_if (ft_cmp op_isN v2_isN (by first | exact nomark _ | rfl) (fe_v 1) (fe_non)) (fss_one (fs_ret (fe_cmp op_isN v2_isN (by first | exact nomark _ | rfl) (fe_v 0) (fe_non)))) (fss_nil)) (fss_cons (fs_if (ft_cmp op_isB v2_isB (by first | exact nomark _ | rfl) (fe_v 1) (fe_bl)) (fss_one (fs_ret (fe_cmp op_isB v2_isB (by first | exact nomark _ | rfl) (fe_v 0) (fe_bl)))) (fss_nil)) (fss_cons (fs_if (ft_cmp op_isB v2_isB (by first | exact nomark _ | rfl) (fe_v 1) (fe_bl)) (fss_one (fs_ret (fe_cmp op_isB v2_isB (by first | exact nomark _ | rfl) (fe_v 0) (fe_bl)))) (fss_nil)) (fss_cons (fs_if (ft_val (fe_isi T.bt (fa_cons (fe_v 1) (fa_cons (fe_ty_int T.bt) (fa_nil))))) (fss_one (fs_ret (fe_and (fe_a (hk := by omega) (d__law_integer T) b__law_integer hr (takes_of rfl rfl rfl rfl) (fa_cons (fe_v 0) (fa_nil))) (fe_one (fe_cmp (op_eqA (hu64 hr)) v2_eq (by first | exact nomark _ | rfl) (fe_v 0) (fe_v 1)))))) (fss_nil)) (fss_cons (fs_if (ft_val (fe_isi T.bt (fa_cons (fe_v 1) (fa_cons (fe_ty_str T.bt) (fa_nil))))) (fss_one (fs_ret (fe_and (fe_isi T.bt (fa_cons (fe_v 0) (fa_cons (fe_ty_str T.bt) (fa_nil)))) (fe_one (fe_cmp (op_eqA (hu64 hr)) v2_eq (by first | exact nomark _ | rfl) (fe_v 0) (fe_v 1)))))) (fss_nil)) (fss_cons (fs_if (ft_w (fw_and (ft_val (fe_isi T.bt (fa_cons (fe_v 1) (fa_cons (fe_ty_tuple T.bt) (fa_nil))))) (fw_and1 (ft_not (ft_val (fe_isi T.bt (fa_cons (fe_v 0) (fa_cons (fe_ty_tuple T.bt) (fa_nil))))))))) (fss_one (fs_ret (fe_bl))) (fss_nil)) (fss_cons (fs_if (ft_w (fw_and (ft_val (fe_isi T.bt (fa_cons (fe_v 1) (fa_cons (fe_ty_list T.bt) (fa_nil))))) (fw_and1 (ft_not (ft_val (fe_isi T.bt (fa_cons (fe_v 0) (fa_cons (fe_ty_list T.bt) (fa_nil))))))))) (fss_one (fs_ret (fe_bl))) (fss_nil)) (fss_cons (fs_if (ft_cmp (op_neA (hu64 hr)) v2_ne (by first | exact nomark _ | rfl) (fe_len T.bt (fa_cons (fe_v 0) (fa_nil))) (fe_len T.bt (fa_cons (fe_v 1) (fa_nil)))) (fss_one (fs_ret (fe_bl))) (fss_nil)) (fss_cons (fs_for (zs := [2]) (passes_of rfl) rfl (fi_r1 rfl T.bt.range (fe_len T.bt (fa_cons (fe_v 1) (fa_nil)))) (fg_n (i := 2) sc__law_same.nd rfl) (fss_one (fs_if (ft_not (ft_val (fe_a (hk := Nat.le_refl _) ih b__law_same hr (takes_of rfl rfl rfl rfl) (fa_cons (fe_ix (fun _ _ => rfl) (fe_v 0) (fe_v 2)) (fa_cons (fe_ix (fun _ _ => rfl) (fe_v 1) (fe_v 2)) (fa_nil)))))) (fss_one (fs_ret (fe_bl))) (fss_nil)))) (fss_one (fs_ret (fe_bl)))))))))))
theorem d__law_same (T : Says fa fn K mg) : DefA P w K mg base ca 8 "_law_same" s__law_same [] [] ["got", "wanted"] F__law_same := dr__law_same T 6
abbrev N_law : List Str := ["script", "head", "crew", "cases", "case", "k"]
theorem sc_law : FnScope N_law ["script"] (defScope s_law) := ⟨rfl, rfl, rfl, by decide +kernel, rfl, by decide +kernel, by decide +kernel⟩
theorem d_law (T : Says fa fn K mg) : DefA P w K mg base ca 9 "law" s_law [] [] ["script"] F_law :=
  DefA.of (N := N_law) (g := G_law) (T.dfn (dd := []) (kd := []) 38 20) sc_law fun f cdv A outer s H E hr => fss_cons (fs_set (i := 1) sc_law.nd rfl (fe_a (d__law_pool T) b__law_pool hr (takes_of rfl rfl rfl rfl) (fa_cons (fe_a (d__law_cell T) b__law_cell hr (takes_of rfl rfl rfl rfl) (fa_cons (fe_v 0) (fa_cons (fe_int) (fa_nil)))) (fa_cons (fe_int) (fa_nil))))) (fss_cons (fs_set (i := 2) sc_law.nd rfl (fe_a (d__law_names T) b__law_names hr (takes_of rfl rfl rfl rfl) (fa_cons (fe_v 1) (fa_cons (fe_int) (fa_cons (fe_op op_addA v2_add (fe_int) (fe_a (d__law_part T) b__law_part hr (takes_of rfl rfl rfl rfl) (fa_cons (fe_v 1) (fa_cons (fe_int) (fa_cons (fe_int) (fa_cons (fe_int) (fa_nil))))))) (fa_nil)))))) (fss_cons (fs_setLc (own := [("k", 5)]) (i := 3) rfl sc_law.nd rfl rfl (sw_true rfl rfl rfl (by decide +kernel)) (fi_r1 rfl T.bt.range (fe_int)) (blkOk_by (own := [("k", 5)]) (N := N_law) (sc := defScope s_law) (by decide +kernel)) (fun _ _ _ _ _ => fg_n (i := 5) sc_law.nd rfl) (fun _ _ _ _ _ => fts_nil) (fun _ _ _ _ _ => fe_a (d__law_case T) b__law_case hr takes0 (fa_cons (fe_a (d__law_pool T) b__law_pool hr takes0 (fa_cons (fe_a (d__law_cell T) b__law_cell hr takes0 (fa_cons (fe_v 0) (fa_cons (fe_op op_addA v2_add (fe_int) (fe_v 5)) (fa_nil)))) (fa_cons (fe_int) (fa_nil)))) (fa_cons (fe_v 2) (fa_nil))))) (fss_cons (fs_for (zs := [4]) (passes_of rfl) rfl (fi_sq (fe_v 3)) (fg_n (i := 4) sc_law.nd rfl) (fss_one (fs_if (ft_not (ft_val (fe_a (d__law_same T) b__law_same hr (takes_of rfl rfl rfl rfl) (fa_cons (fe_a (d__law_by_place T) b__law_by_place hr (takes_of rfl rfl rfl rfl) (fa_cons (fe_v 2) (fa_cons (fe_v 4) (fa_nil)))) (fa_cons (fe_a (d__law_due T) b__law_due hr (takes_of rfl rfl rfl rfl) (fa_cons (fe_v 2) (fa_cons (fe_v 4) (fa_nil)))) (fa_nil)))))) (fss_one (fs_ret (fe_bl))) (fss_nil)))) (fss_cons (fs_for (zs := [4]) (passes_of rfl) rfl (fi_sq (fe_v 3)) (fg_n (i := 4) sc_law.nd rfl) (fss_one (fs_if (ft_not (ft_val (fe_a (d__law_same T) b__law_same hr (takes_of rfl rfl rfl rfl) (fa_cons (fe_a (d__law_by_name T) b__law_by_name hr (takes_of rfl rfl rfl rfl) (fa_cons (fe_v 2) (fa_cons (fe_v 4) (fa_nil)))) (fa_cons (fe_a (d__law_due T) b__law_due hr (takes_of rfl rfl rfl rfl) (fa_cons (fe_v 2) (fa_cons (fe_v 4) (fa_nil)))) (fa_nil)))))) (fss_one (fs_ret (fe_bl))) (fss_nil)))) (fss_one (fs_ret (fe_bl)))))))
end
end Tk

namespace Tk
open PySem PySem.Spec L2 PyProof.Rows
/-! ### a loop that may end early -/
theorem loop_find {α : Type} {inj : α → D} {h : Tg} {body : Ev → SO} (I : Ev → Prop) (p : α → Bool) (g : α → D) : ∀ {l : List α} {ρ : Ev}, I ρ → (∀ a ∈ l, ∀ ρ, I ρ → ∃ ρ1, h (inj a) ρ = some ρ1 ∧ (p a = true → body ρ1 = .rt (g a)) ∧ (p a = false → SO.goes (body ρ1) I)) →
    (∃ a, l.find? p = some a ∧ loop h body (l.map inj) ρ = .rt (g a)) ∨ (l.find? p = none ∧ ∃ ρ', loop h body (l.map inj) ρ = .nx ρ' ∧ I ρ')
  | [], ρ, h0, _ => .inr ⟨rfl, ρ, rfl, h0⟩
  | a :: l, ρ, h0, hs => by
    obtain ⟨ρ1, e1, e2, e3⟩ := hs a List.mem_cons_self ρ h0
    rw [List.map_cons, loop_cons, e1, ofO_some]
    cases z : p a with
    | true =>
      left
      exact ⟨a, by rw [List.find?_cons, z], by rw [e2 z]; rfl⟩
    | false =>
      have e4 := e3 z
      have nxt : ∀ ρ2, I ρ2 → (∃ b, (a :: l).find? p = some b ∧ loop h body (l.map inj) ρ2 = .rt (g b)) ∨ ((a :: l).find? p = none ∧ ∃ ρ', loop h body (l.map inj) ρ2 = .nx ρ' ∧ I ρ') := fun ρ2 h2 => by
        rw [List.find?_cons, z]
        exact loop_find I p g h2 fun b m => hs b (List.mem_cons_of_mem _ m)
      cases y : body ρ1 with
      | nx ρ2 => rw [y] at e4; exact nxt ρ2 e4
      | ct ρ2 => rw [y] at e4; exact nxt ρ2 e4
      | rt d => rw [y] at e4; exact e4.elim
      | bk d => rw [y] at e4; exact e4.elim
      | ex x d => rw [y] at e4; exact e4.elim
      | bad => rw [y] at e4; exact e4.elim
/-! ### the first one over a limit -/
def capD : Option Int → D
  | none => .non
  | some c => .int c
def overO : Option (List Nat) → D
  | some w => nD w
  | none => .non
def overW (f : List Nat → Int) (cs : List (List Nat)) : Option Int → D
  | none => .non
  | some c => overO (cs.find? fun w => decide (c ≤ f w))
theorem first_ok {ms cs : List (List Nat)} {ps : List Int} {cap : Option Int} (nd : ms.Nodup) (hl : ps.length = ms.length) (hc : ∀ m ∈ cs, m ∈ ms) : F_first_over [.tup (ms.map nD), .tup (ps.map .int), .tup (cs.map nD), capD cap] = .ok (overW (numOf ms ps) cs cap) := by
  have kn := keys_names ms
  cases cap with
  | none =>
    unfold F_first_over G_first_over
    simp only [capD, runF_ap, show startE 6 [.tup (ms.map nD), .tup (ps.map .int), .tup (cs.map nD), .non] = [.v (.tup (ms.map nD)), .v (.tup (ps.map .int)), .v (.tup (cs.map nD)), .v .non, .no, .no] from rfl, sSq_ap, sIf_ap, sRet_ap, tV_ap, e2_ap, eC_ap, eV_succ, eV_zero, bind_ok, gIsN_non, isNon_non, Bof_bl, if_true, from_ok, sq_rt, out_rt]
    rfl
  | some c =>
    let dd : D := .dK (mergeG [] ((ms.map fun w => (.inr (S w) : Key)).zip (ps.map D.int)))
    have dz : eDz (eV 0) (eV 1) [.v (.tup (ms.map nD)), .v (.tup (ps.map .int)), .v (.tup (cs.map nD)), .v (.int c), .no, .no] = .ok dd := by
      unfold eDz
      simp only [eV_succ, eV_zero, bind_ok, seqD_tup, optR_some, kn]
      rfl
    have lf := loop_find (inj := nD) (h := gN 5) (body := B_first_over_1) (I := fun ρ => ∃ s : Sl, ρ = [.v (.tup (ms.map nD)), .v (.tup (ps.map .int)), .v (.tup (cs.map nD)), .v (.int c), .v dd, s]) (fun w => decide (c ≤ numOf ms ps w)) nD (l := cs) (ρ := [.v (.tup (ms.map nD)), .v (.tup (ps.map .int)), .v (.tup (cs.map nD)), .v (.int c), .v dd, .no]) ⟨_, rfl⟩ (by
      rintro m mc ρ ⟨s, rfl⟩
      have g1 : gIxA dd (nD m) = .ok (.int (numOf ms ps m)) := dz_names nd hl (hc m mc)
      refine ⟨[.v (.tup (ms.map nD)), .v (.tup (ps.map .int)), .v (.tup (cs.map nD)), .v (.int c), .v dd, .v (nD m)], rfl, fun z => ?_, fun z => ?_⟩
      · have z2 := of_decide_eq_true z
        unfold B_first_over_1
        simp only [sIf_ap, sRet_ap, tV_ap, e2_ap, eV_succ, eV_zero, bind_ok, g1, gGe_int, decide_eq_true z2, Bof_bl, if_true, from_ok]
      · have z2 := of_decide_eq_false z
        unfold B_first_over_1
        simp only [sIf_ap, sN_ap, tV_ap, e2_ap, eV_succ, eV_zero, bind_ok, g1, gGe_int, decide_eq_false z2, Bof_bl, Bool.false_eq_true, if_false, from_ok, goes_nx]
        exact ⟨_, rfl⟩)
    have ow : overW (numOf ms ps) cs (some c) = overO (cs.find? fun w => decide (c ≤ numOf ms ps w)) := rfl
    have o1 : ∀ a, overO (some a) = nD a := fun _ => rfl
    have o2 : overO none = .non := rfl
    rw [ow]
    unfold F_first_over G_first_over
    rcases lf with ⟨a, h1, h2⟩ | ⟨h1, ρ', h2, s, rfl⟩
    · rw [h1]
      simp only [o1, o2, capD, runF_ap, show startE 6 [.tup (ms.map nD), .tup (ps.map .int), .tup (cs.map nD), .int c] = [.v (.tup (ms.map nD)), .v (.tup (ps.map .int)), .v (.tup (cs.map nD)), .v (.int c), .no, .no] from rfl, sSq_ap, sIf_ap, sRet_ap, sN_ap, sSet_ap, sFor_ap, iSq_ap, gIt_tup, tV_ap, e2_ap, eC_ap, eV_succ, eV_zero, bind_ok, gIsN_non, isNon_int, Bof_bl, Bool.false_eq_true, if_false, from_ok, sq_nx, sq_rt, dz, List.set_cons_succ, List.set_cons_zero, h2, out_rt]
    · rw [h1]
      simp only [o1, o2, capD, runF_ap, show startE 6 [.tup (ms.map nD), .tup (ps.map .int), .tup (cs.map nD), .int c] = [.v (.tup (ms.map nD)), .v (.tup (ps.map .int)), .v (.tup (cs.map nD)), .v (.int c), .no, .no] from rfl, sSq_ap, sIf_ap, sRet_ap, sN_ap, sSet_ap, sFor_ap, iSq_ap, gIt_tup, tV_ap, e2_ap, eC_ap, eV_succ, eV_zero, bind_ok, gIsN_non, isNon_int, Bof_bl, Bool.false_eq_true, if_false, from_ok, sq_nx, sq_rt, dz, List.set_cons_succ, List.set_cons_zero, h2, out_rt]
/-! ### the law's own words -/
theorem idxD_names {ws : List (List Nat)} {w : List Nat} (h : w ∈ ws) : ∀ j : Nat, idxD (nD w) (ws.map nD) j = some (j + ws.idxOf w) := by
  induction ws with
  | nil => cases h
  | cons v ws ih =>
    intro j
    show (if eqV (toV (nD v)) (toV (nD w)) = true then some j else idxD (nD w) (ws.map nD) (j + 1)) = _
    by_cases z : v = w
    · have e : eqV (toV (nD v)) (toV (nD w)) = true := by rw [z]; exact beq_self_eq_true _
      rw [if_pos e, List.idxOf_cons, z]
      simp
    · have e : ¬ eqV (toV (nD v)) (toV (nD w)) = true := fun q => z (S_inj (eq_of_beq (show (S v == S w) = true from q)))
      have h2 : w ∈ ws := (List.mem_cons.mp h).resolve_left (Ne.symm z)
      rw [if_neg e, ih h2, List.idxOf_cons, beq_eq_false_iff_ne.mpr z]
      simp
      omega
theorem gIdx_names {ws : List (List Nat)} {w : List Nat} (h : w ∈ ws) : gIdx (ws.map nD) [nD w] = .ok (.int ((ws.idxOf w : Nat) : Int)) := by
  show (if flatD (nD w) = true ∧ (ws.map nD).all flatD = true then (optR (idxD (nD w) (ws.map nD) 0)).bind fun j => R.ok (D.int (j : Int)) else .bad) = _
  rw [if_pos ⟨rfl, flat_names⟩, idxD_names h, Nat.zero_add]
  rfl
theorem gIx_num {ws : List (List Nat)} {ls : List Int} {w : List Nat} (hl : ls.length = ws.length) (h : w ∈ ws) : gIx (.lst (ls.map .int)) (.int ((ws.idxOf w : Nat) : Int)) = .ok (.int (numOf ws ls w)) := by
  have := List.idxOf_lt_length_iff.mpr h
  unfold numOf
  have e := gIx_getD (l := ls) (j := ((ws.idxOf w : Nat) : Int)) (by omega) (by omega)
  rw [Int.toNat_natCast] at e
  exact e
theorem lstD_lst {xs : List D} : lstD (.lst xs) = some xs := rfl
/-- over, found from behind -/
def overS (f : List Nat → Int) (cap : Option Int) (o : D) (w : List Nat) : D := match cap with
  | none => o
  | some c => if c ≤ f w then nD w else o
theorem over_rev (f : List Nat → Int) (cap : Option Int) (cs : List (List Nat)) : cs.reverse.foldl (overS f cap) .non = overW f cs cap := by
  rw [List.foldl_reverse]
  induction cs with
  | nil => cases cap <;> rfl
  | cons w cs ih =>
    rw [List.foldr_cons, ih]
    cases cap with
    | none => rfl
    | some c =>
      show (if c ≤ f w then nD w else overO (cs.find? fun w => decide (c ≤ f w))) = overO ((w :: cs).find? fun w => decide (c ≤ f w))
      rw [List.find?_cons]
      by_cases z : c ≤ f w
      · rw [if_pos z, decide_eq_true z]
        rfl
      · rw [if_neg z, decide_eq_false z]
theorem lawover_ok {ws cs : List (List Nat)} {ls : List Int} {cap : Option Int} (hl : ls.length = ws.length) (hc : ∀ m ∈ cs, m ∈ ws) : F__law_over [.lst (ws.map nD), .lst (ls.map .int), .lst (cs.map nD), capD cap] = .ok (overW (numOf ws ls) cs cap) := by
  obtain ⟨ρ', e, s, rfl⟩ := loop_map (inj := nD) (h := gN 5) (body := B__law_over_1) (l := cs.reverse) (ρ := [.v (.lst (ws.map nD)), .v (.lst (ls.map .int)), .v (.lst (cs.map nD)), .v (capD cap), .v .non, .no])
    (fun i ρ => ∃ s : Sl, ρ = [.v (.lst (ws.map nD)), .v (.lst (ls.map .int)), .v (.lst (cs.map nD)), .v (capD cap), .v ((cs.reverse.take i).foldl (overS (numOf ws ls) cap) .non), s]) ⟨_, rfl⟩ (by
      rintro i m ρ q ⟨s, rfl⟩
      have mm : m ∈ ws := hc m (List.mem_reverse.mp (List.mem_of_getElem? q))
      have e1 : (cs.reverse.take (i + 1)).foldl (overS (numOf ws ls) cap) .non = overS (numOf ws ls) cap ((cs.reverse.take i).foldl (overS (numOf ws ls) cap) .non) m := by rw [List.take_succ, q, List.foldl_append]; rfl
      refine ⟨[.v (.lst (ws.map nD)), .v (.lst (ls.map .int)), .v (.lst (cs.map nD)), .v (capD cap), .v ((cs.reverse.take i).foldl (overS (numOf ws ls) cap) .non), .v (nD m)], rfl, ?_⟩
      rw [e1]
      generalize (cs.reverse.take i).foldl (overS (numOf ws ls) cap) .non = o
      have g1 := gIdx_names mm
      have g2 := gIx_num hl mm
      unfold B__law_over_1
      cases cap with
      | none =>
        simp only [capD, overS, sIf_ap, sN_ap, tAnd_ap, tV_ap, e2_ap, eC_ap, eV_succ, eV_zero, bind_ok, gNotN_non, isNon_non, Bool.not_true, Bof_bl, Bool.false_eq_true, if_false, from_ok, goes_nx]
        exact ⟨_, rfl⟩
      | some c =>
        by_cases z : c ≤ numOf ws ls m
        · simp only [capD, overS, eMtL, sIf_ap, sSet_ap, tAnd_ap, tV_ap, e2_ap, eC_ap, aC_ap, aN_ap, eV_succ, eV_zero, bind_ok, gNotN_non, isNon_int, Bool.not_false, Bof_bl, if_true, lstD_lst, optR_some, g1, g2, gGe_int, decide_eq_true z, if_pos z, from_ok, List.set_cons_succ, List.set_cons_zero, goes_nx]
          exact ⟨_, rfl⟩
        · simp only [capD, overS, eMtL, sIf_ap, sN_ap, tAnd_ap, tV_ap, e2_ap, eC_ap, aC_ap, aN_ap, eV_succ, eV_zero, bind_ok, gNotN_non, isNon_int, Bool.not_false, Bof_bl, if_true, lstD_lst, optR_some, g1, g2, gGe_int, decide_eq_false z, if_neg z, Bool.false_eq_true, if_false, from_ok, goes_nx]
          exact ⟨_, rfl⟩)
  rw [List.take_length, over_rev] at e
  have rv : (cs.map nD).reverse = cs.reverse.map nD := List.map_reverse.symm
  unfold F__law_over G__law_over
  simp only [runF_ap, show startE 6 [.lst (ws.map nD), .lst (ls.map .int), .lst (cs.map nD), capD cap] = [.v (.lst (ws.map nD)), .v (.lst (ls.map .int)), .v (.lst (cs.map nD)), .v (capD cap), .no, .no] from rfl, sSq_ap, sSet_ap, sFor_ap, iSq_ap, gIt_lst, sRet_ap, e1_ap, eC_ap, eV_succ, eV_zero, bind_ok, gRev_lst, rv, from_ok, sq_nx, List.set_cons_succ, List.set_cons_zero, e, out_rt]
/-- the longest, found from behind -/
def lonBack (f : List Nat → Int) (b m : List Nat) : List Nat := if b = [] ∨ f b ≤ f m then m else b
theorem lon_back (f : List Nat → Int) : ∀ (cs : List (List Nat)) (c : List Nat), c ≠ [] → (∀ m ∈ cs, m ≠ []) → cs.foldl (lonStep f) c = (if cs.foldr (fun m b => lonBack f b m) [] = [] ∨ f (cs.foldr (fun m b => lonBack f b m) []) ≤ f c then c else cs.foldr (fun m b => lonBack f b m) [])
  | [], c, _, _ => by simp
  | m :: cs, c, hc, hn => by
    have hm : m ≠ [] := hn m List.mem_cons_self
    have hcs : ∀ m ∈ cs, m ≠ [] := fun x q => hn x (List.mem_cons_of_mem _ q)
    rw [List.foldl_cons, List.foldr_cons]
    generalize eR : cs.foldr (fun m b => lonBack f b m) [] = r
    unfold lonStep
    by_cases q : f c < f m
    · rw [if_pos (.inr q), show (cs.foldl (fun c m => if c = [] ∨ f c < f m then m else c) m) = cs.foldl (lonStep f) m from rfl, lon_back f cs m hm hcs, eR]
      unfold lonBack
      by_cases z : r = [] ∨ f r ≤ f m
      · rw [if_pos z, if_neg]
        rintro (y | y)
        · exact hm y
        · omega
      · rw [if_neg z, if_neg]
        rintro (y | y)
        · exact z (.inl y)
        · exact z (.inr (by omega))
    · rw [if_neg (show ¬ (c = [] ∨ f c < f m) from fun y => y.elim hc q), show (cs.foldl (fun c m => if c = [] ∨ f c < f m then m else c) c) = cs.foldl (lonStep f) c from rfl, lon_back f cs c hc hcs, eR]
      unfold lonBack
      by_cases z : r = [] ∨ f r ≤ f m
      · have i1 : r = [] ∨ f r ≤ f c := z.imp id fun y => by omega
        have i2 : m = [] ∨ f m ≤ f c := .inr (by omega)
        rw [if_pos z, if_pos i1, if_pos i2]
      · rw [if_neg z]
theorem lon_rev (f : List Nat → Int) {cs : List (List Nat)} (hn : ∀ m ∈ cs, m ≠ []) : cs.reverse.foldl (lonBack f) [] = lonL f cs := by
  rw [List.foldl_reverse]
  cases cs with
  | nil => rfl
  | cons m cs =>
    have hm : m ≠ [] := hn m List.mem_cons_self
    have e : lonL f (m :: cs) = cs.foldl (lonStep f) m := by
      show cs.foldl (lonStep f) (lonStep f [] m) = _
      unfold lonStep
      rw [if_pos (.inl rfl)]
    rw [e, lon_back f cs m hm fun x q => hn x (List.mem_cons_of_mem _ q), List.foldr_cons]
    rfl
theorem lawlon_ok {ws cs : List (List Nat)} {ls : List Int} (hl : ls.length = ws.length) (hc : ∀ m ∈ cs, m ∈ ws) (hn : ∀ m ∈ cs, m ≠ []) : F__law_longest [.lst (ws.map nD), .lst (ls.map .int), .lst (cs.map nD)] = .ok (nD (lonL (numOf ws ls) cs)) := by
  obtain ⟨ρ', e, s, _, rfl⟩ := loop_map (inj := nD) (h := gN 4) (body := B__law_longest_1) (l := cs.reverse) (ρ := [.v (.lst (ws.map nD)), .v (.lst (ls.map .int)), .v (.lst (cs.map nD)), .v (nD []), .no])
    (fun i ρ => ∃ s : Sl, ((cs.reverse.take i).foldl (lonBack (numOf ws ls)) [] = [] ∨ (cs.reverse.take i).foldl (lonBack (numOf ws ls)) [] ∈ ws) ∧ ρ = [.v (.lst (ws.map nD)), .v (.lst (ls.map .int)), .v (.lst (cs.map nD)), .v (nD ((cs.reverse.take i).foldl (lonBack (numOf ws ls)) [])), s]) ⟨_, .inl rfl, rfl⟩ (by
      rintro i m ρ q ⟨s, hk, rfl⟩
      have mm : m ∈ ws := hc m (List.mem_reverse.mp (List.mem_of_getElem? q))
      have e1 : (cs.reverse.take (i + 1)).foldl (lonBack (numOf ws ls)) [] = lonBack (numOf ws ls) ((cs.reverse.take i).foldl (lonBack (numOf ws ls)) []) m := by rw [List.take_succ, q, List.foldl_append]; rfl
      refine ⟨[.v (.lst (ws.map nD)), .v (.lst (ls.map .int)), .v (.lst (cs.map nD)), .v (nD ((cs.reverse.take i).foldl (lonBack (numOf ws ls)) [])), .v (nD m)], rfl, ?_⟩
      rw [e1]
      generalize (cs.reverse.take i).foldl (lonBack (numOf ws ls)) [] = c at *
      have g1 := gIdx_names mm
      have g2 := gIx_num hl mm
      have fin : (lonBack (numOf ws ls) c m = [] ∨ lonBack (numOf ws ls) c m ∈ ws) := by
        unfold lonBack
        split
        · exact .inr mm
        · exact hk
      have st : B__law_longest_1 [.v (.lst (ws.map nD)), .v (.lst (ls.map .int)), .v (.lst (cs.map nD)), .v (nD c), .v (nD m)] = .nx [.v (.lst (ws.map nD)), .v (.lst (ls.map .int)), .v (.lst (cs.map nD)), .v (nD (lonBack (numOf ws ls) c m)), .v (nD m)] := by
        unfold B__law_longest_1
        by_cases z : c = []
        · have e2 : lonBack (numOf ws ls) c m = m := if_pos (.inl z)
          rw [e2]
          simp only [none_eq, sIf_ap, sSet_ap, tOr_ap, tV_ap, e2_ap, eC_ap, eV_succ, eV_zero, bind_ok, eq_names, decide_eq_true z, Bof_bl, if_true, from_ok, List.set_cons_succ, List.set_cons_zero]
        · have cm : c ∈ ws := hk.resolve_left z
          have g3 := gIdx_names cm
          have g4 := gIx_num hl cm
          by_cases y : numOf ws ls c ≤ numOf ws ls m
          · have e2 : lonBack (numOf ws ls) c m = m := if_pos (.inr y)
            rw [e2]
            simp only [none_eq, eMtL, sIf_ap, sSet_ap, tOr_ap, tV_ap, e2_ap, eC_ap, aC_ap, aN_ap, eV_succ, eV_zero, bind_ok, eq_names, decide_eq_false z, Bof_bl, Bool.false_eq_true, if_false, lstD_lst, optR_some, g1, g2, g3, g4, gGe_int, decide_eq_true y, if_true, from_ok, List.set_cons_succ, List.set_cons_zero]
          · have e2 : lonBack (numOf ws ls) c m = c := if_neg (fun h => h.elim z y)
            rw [e2]
            simp only [none_eq, eMtL, sIf_ap, sN_ap, tOr_ap, tV_ap, e2_ap, eC_ap, aC_ap, aN_ap, eV_succ, eV_zero, bind_ok, eq_names, decide_eq_false z, Bof_bl, Bool.false_eq_true, if_false, lstD_lst, optR_some, g1, g2, g3, g4, gGe_int, decide_eq_false y, from_ok]
      rw [st]
      exact ⟨_, fin, rfl⟩)
  rw [List.take_length, lon_rev _ hn] at e
  have rv : (cs.map nD).reverse = cs.reverse.map nD := List.map_reverse.symm
  unfold F__law_longest G__law_longest
  simp only [none_eq, runF_ap, show startE 5 [.lst (ws.map nD), .lst (ls.map .int), .lst (cs.map nD)] = [.v (.lst (ws.map nD)), .v (.lst (ls.map .int)), .v (.lst (cs.map nD)), .no, .no] from rfl, sSq_ap, sSet_ap, sFor_ap, iSq_ap, gIt_lst, sRet_ap, e1_ap, eC_ap, eV_succ, eV_zero, bind_ok, gRev_lst, rv, from_ok, sq_nx, List.set_cons_succ, List.set_cons_zero, e, out_rt]
/-! ### a case -/
structure Cs where
  loads : List Int
  wishes : List (List Nat)
  turned : List (List Nat)
  having : List (List Nat)
  late : List Nat
  crest : Int
  listed : List (List Nat)
  cap : Option Int
def csD (c : Cs) : D := .tup [.lst (c.loads.map .int), .lst (c.wishes.map nD), .lst (c.turned.map nD), .lst (c.having.map nD), nD c.late, .int c.crest, .lst (c.listed.map nD), capD c.cap]
structure okCs (ws : List (List Nat)) (c : Cs) : Prop where
  ll : c.loads.length = ws.length
  le : ∀ l ∈ c.loads, l ≤ c.crest
  wi : ∀ w ∈ c.wishes, w ∈ ws
  wl : c.wishes.length ≤ 4
  tu : c.turned.Perm c.wishes
  hl : c.having.length ≤ 4
  li : ∀ w ∈ c.listed, w ∈ ws
def nxL (ws : List (List Nat)) (c : Cs) : D := .tup (((ws.zip c.loads).map (npass c.wishes c.having c.late c.crest)).map .int)
def tell (ws : List (List Nat)) (c : Cs) : List D := [.tup ((overL c.wishes c.having c.late).map nD), .tup ((overL c.turned c.having c.late).map nD), nxL ws c, nxL ws c, overW (numOf ws c.loads) c.listed c.cap, nD (lonL (numOf ws c.loads) c.wishes), nD (lonL (numOf ws c.loads) c.turned)]
def csE (c : Cs) (d a : D) (s : Sl) (r : List Sl) : Ev := .v a :: .v d :: .v (.lst (c.loads.map .int)) :: .v (.lst (c.wishes.map nD)) :: .v (.lst (c.turned.map nD)) :: .v (.lst (c.having.map nD)) :: .v (nD c.late) :: .v (.int c.crest) :: .v (.lst (c.listed.map nD)) :: .v (capD c.cap) :: s :: r
theorem un8 {c : Cs} {a : D} {r : List Sl} : gT 8 (gsC (gN 2) (gsC (gN 3) (gsC (gN 4) (gsC (gN 5) (gsC (gN 6) (gsC (gN 7) (gsC (gN 8) (gsC (gN 9) (gsN))))))))) (csD c) (.v a :: .v (csD c) :: .no :: .no :: .no :: .no :: .no :: .no :: .no :: .no :: .no :: r) = some (csE c (csD c) a .no r) := rfl
theorem nx_turned {ws : List (List Nat)} {c : Cs} (o : okCs ws c) : (ws.zip c.loads).map (npass c.turned c.having c.late c.crest) = (ws.zip c.loads).map (npass c.wishes c.having c.late c.crest) := by
  refine List.map_congr_left fun p _ => ?_
  unfold npass
  have e : (p.1 ∈ overL c.turned c.having c.late) = (p.1 ∈ overL c.wishes c.having c.late) := by
    unfold overL
    rw [List.mem_filter, List.mem_filter, o.tu.mem_iff]
  simp only [e]
section
variable {ws : List (List Nat)} {c : Cs}
theorem tl4 (o : okCs ws c) : c.turned.length ≤ 4 := by rw [o.tu.length_eq]; exact o.wl
theorem ti (o : okCs ws c) : ∀ w ∈ c.turned, w ∈ ws := fun w m => o.wi w (o.tu.mem_iff.mp m)
theorem place_ok (nd : ws.Nodup) (h4 : ws.length ≤ 4) (o : okCs ws c) : F__law_by_place [.lst (ws.map nD), csD c] = .ok (.lst (tell ws c)) := by
  have a1 := passed_ok (cs := c.wishes) (ts := c.having) (kp := c.late) (by have := o.wl; omega)
  have a2 := passed_ok (cs := c.turned) (ts := c.having) (kp := c.late) (by have := tl4 o; omega)
  have a3 := next_ok (ms := ws) (cs := c.wishes) (ts := c.having) (ps := c.loads) (kp := c.late) (most := c.crest) (by omega) (by have := o.wl; omega)
  have a4 := next_ok (ms := ws) (cs := c.turned) (ts := c.having) (ps := c.loads) (kp := c.late) (most := c.crest) (by omega) (by have := tl4 o; omega)
  rw [nx_turned o] at a4
  have a5 := first_ok (cap := c.cap) nd o.ll o.li
  have a6 := longest_ok nd o.ll o.wi
  have a7 := longest_ok nd o.ll (ti o)
  have z : ∀ n : Nat, n ≤ 10 → n < sizeLine := fun n h => by rw [sz24]; omega
  have z' : ∀ n : Nat, n ≤ 10 → n ≤ sizeLine := fun n h => by rw [sz24]; omega
  unfold F__law_by_place G__law_by_place
  simp only [runF_ap, show startE 11 [.lst (ws.map nD), csD c] = [.v (.lst (ws.map nD)), .v (csD c), .no, .no, .no, .no, .no, .no, .no, .no, .no] from rfl, sSq_ap, sAsg_ap, eV_succ, eV_zero, from_ok, un8, ofO_some, sq_nx]
  unfold csE
  simp only [sOwn_ap, lDisp_ap, sApp_ap, sFrz_ap, sRet_ap, eCall_ap, eA_ap, aC_ap, aN_ap, sSq_ap, eV_succ, eV_zero, bind_ok, gTuple_lst, List.length_cons, List.length_nil, Nat.zero_add, Nat.reduceAdd, if_true, a1, a2, a3, a4, a5, a6, a7, from_ok, sq_nx, z' 2 (by decide), z 2 (by decide), z 3 (by decide), z 4 (by decide), z 5 (by decide), z 6 (by decide), List.set_cons_succ, List.set_cons_zero, ownL_succ, ownL_zero, List.cons_append, List.nil_append, frzE_succ, frzE_zero, frzS_l, out_rt]
  rfl
theorem name_ok (nd : ws.Nodup) (h4 : ws.length ≤ 4) (o : okCs ws c) : F__law_by_name [.lst (ws.map nD), csD c] = .ok (.lst (tell ws c)) := by
  have a1 := passed_ok (cs := c.wishes) (ts := c.having) (kp := c.late) (by have := o.wl; omega)
  have a2 := passed_ok (cs := c.turned) (ts := c.having) (kp := c.late) (by have := tl4 o; omega)
  have a3 := next_ok (ms := ws) (cs := c.wishes) (ts := c.having) (ps := c.loads) (kp := c.late) (most := c.crest) (by omega) (by have := o.wl; omega)
  have a4 := next_ok (ms := ws) (cs := c.turned) (ts := c.having) (ps := c.loads) (kp := c.late) (most := c.crest) (by omega) (by have := tl4 o; omega)
  rw [nx_turned o] at a4
  have a5 := first_ok (cap := c.cap) nd o.ll o.li
  have a6 := longest_ok nd o.ll o.wi
  have a7 := longest_ok nd o.ll (ti o)
  have z : ∀ n : Nat, n ≤ 10 → n < sizeLine := fun n h => by rw [sz24]; omega
  have z' : ∀ n : Nat, n ≤ 10 → n ≤ sizeLine := fun n h => by rw [sz24]; omega
  have g1 : ∀ x y w : D, gDk [2, 1, 0] [] [] [x, y, w] = [w, y, x] := fun _ _ _ => rfl
  have g2 : ∀ x y w : D, gDk [0, 2, 1] [] [x] [y, w] = [x, w, y] := fun _ _ _ => rfl
  have g3 : ∀ a b c d e f : D, gDk [5, 4, 3, 2, 1, 0] [] [] [a, b, c, d, e, f] = [f, e, d, c, b, a] := fun _ _ _ _ _ _ => rfl
  have g4 : ∀ a b c d e f : D, gDk [0, 1, 3, 2, 5, 4] [] [a, b] [c, d, e, f] = [a, b, d, c, f, e] := fun _ _ _ _ _ _ => rfl
  have g5 : ∀ a b c d : D, gDk [3, 2, 1, 0] [] [] [a, b, c, d] = [d, c, b, a] := fun _ _ _ _ => rfl
  unfold F__law_by_name G__law_by_name
  simp only [runF_ap, show startE 11 [.lst (ws.map nD), csD c] = [.v (.lst (ws.map nD)), .v (csD c), .no, .no, .no, .no, .no, .no, .no, .no, .no] from rfl, sSq_ap, sAsg_ap, eV_succ, eV_zero, from_ok, un8, ofO_some, sq_nx]
  unfold csE
  simp only [sOwn_ap, lDisp_ap, sApp_ap, sFrz_ap, sRet_ap, eCallK_ap, eA_ap, aC_ap, aN_ap, sSq_ap, eV_succ, eV_zero, bind_ok, gTuple_lst, g1, g2, g3, g4, g5, List.length_cons, List.length_nil, Nat.zero_add, Nat.reduceAdd, and_self, if_true, a1, a2, a3, a4, a5, a6, a7, from_ok, sq_nx, z' 1 (by decide), z 1 (by decide), z 2 (by decide), z 3 (by decide), z 4 (by decide), z 5 (by decide), z 6 (by decide), List.set_cons_succ, List.set_cons_zero, ownL_succ, ownL_zero, List.cons_append, List.nil_append, frzE_succ, frzE_zero, frzS_l, out_rt]
  rfl
end
/-! ### what is due -/
theorem cnt_pos {ws : List (List Nat)} {w : List Nat} : decide ((0 : Int) < (((ws.filter fun v => decide (v = w)).map fun _ => D.int 1).length : Int)) = decide (w ∈ ws) := by
  rw [decide_eq_decide, List.length_map]
  constructor
  · intro h
    have : 0 < (ws.filter fun v => decide (v = w)).length := by omega
    obtain ⟨v, m⟩ := List.exists_mem_of_length_pos this
    obtain ⟨m1, m2⟩ := List.mem_filter.mp m
    rw [← of_decide_eq_true m2]
    exact m1
  · intro h
    have : 0 < (ws.filter fun v => decide (v = w)).length := List.length_pos_of_mem (List.mem_filter.mpr ⟨h, decide_eq_true rfl⟩)
    omega
section
variable {ws : List (List Nat)} {c : Cs}
def laE (ws : List (List Nat)) (c : Cs) (acc : List Int) (a b d : Sl) : Ev := csE c (csD c) (.lst (ws.map nD)) (.l (acc.map .int)) [a, b, d, .no]
theorem la_count {ws vs : List (List Nat)} {c : Cs} {acc : List Int} {k : Nat} {w : List Nat} (b d : Sl) (ew : ws[k]? = some w) : lcL (gN 14) (tV (e2 gEq (eV 14) (e2 gIx (eV 0) (eV 11)))) (eC (.int 1)) (laE ws c acc (.v (.int (k : Int))) b d) (vs.map nD) = .ok ((vs.filter fun v => decide (v = w)).map fun _ => D.int 1) :=
  lc_map (fun v => decide (v = w)) (fun _ => D.int 1) fun v _ => ⟨csE c (csD c) (.lst (ws.map nD)) (.l (acc.map .int)) [.v (.int (k : Int)), b, d, .v (nD v)], rfl, by
    have g : gIx (.lst (ws.map nD)) (.int (k : Int)) = .ok (nD w) := gIx_map (inj := nD) (by omega) (by rw [Int.toNat_natCast]; exact ew)
    unfold csE
    simp only [tV_ap, e2_ap, eV_succ, eV_zero, bind_ok, g, eq_names, Bof_bl], fun _ => rfl⟩
theorem la_step {acc : List Int} {k : Nat} {w : List Nat} {n : Int} (o : okCs ws c) (ha : acc.length ≤ 100) (ew : ws[k]? = some w) (el : c.loads[k]? = some n) (a b d : Sl) :
    ∃ b' d' : Sl, B__law_after_1 (laE ws c acc (.v (.int (k : Int))) b d) = .nx (laE ws c (acc ++ [npass c.wishes c.having c.late c.crest (w, n)]) (.v (.int (k : Int))) b' d') := by
  have c1 := la_count (vs := c.having ++ [c.late]) (c := c) (acc := acc) b d ew
  have g2 : gIx (.lst (c.loads.map .int)) (.int (k : Int)) = .ok (.int n) := gIx_map (inj := D.int) (by omega) (by rw [Int.toNat_natCast]; exact el)
  have hv : gAdd (.lst (c.having.map nD)) (.lst [nD c.late]) = .ok (.lst ((c.having ++ [c.late]).map nD)) := by
    show (if (c.having.map nD).length + [nD c.late].length ≤ sizeLine then R.ok (D.lst (c.having.map nD ++ [nD c.late])) else .bad) = _
    rw [if_pos (by rw [List.length_map, sz24]; have := o.hl; show c.having.length + 1 ≤ _; omega), List.map_append]
    rfl
  have gl : gLst [nD c.late] = .ok (.lst [nD c.late]) := rfl
  have s1 : ((c.having ++ [c.late]).map nD).length ≤ sizeLine := by rw [List.length_map, List.length_append, sz24]; have := o.hl; show c.having.length + 1 ≤ _; omega
  have s2 : (c.wishes.map nD).length ≤ sizeLine := by rw [List.length_map, sz24]; have := o.wl; omega
  have sa : (acc.map D.int).length < sizeLine := by rw [List.length_map, sz24]; omega
  have c2 := la_count (vs := c.wishes) (c := c) (acc := acc) (.v (.int (((c.having ++ [c.late]).filter fun v => decide (v = w)).map fun _ => D.int 1).length)) d ew
  have q1 := cnt_pos (ws := c.having ++ [c.late]) (w := w)
  have q2 := cnt_pos (ws := c.wishes) (w := w)
  refine ⟨.v (.int (((c.having ++ [c.late]).filter fun v => decide (v = w)).map fun _ => D.int 1).length), .v (.int ((c.wishes.filter fun v => decide (v = w)).map fun _ => D.int 1).length), ?_⟩
  unfold laE at *
  unfold csE at *
  unfold B__law_after_1
  rw [List.map_append]
  simp only [sSq_ap, sSet_ap, sIf_ap, sApp_ap, tAnd_ap, tV_ap, e2_ap, eA_ap, aC_ap, aN_ap, eC_ap, eLc_ap, iSq_ap, gIt_lst, eV_succ, eV_zero, bind_ok, gl, hv, s1, s2, if_true, wipeE_cons, wipeE_nil, List.set_cons_succ, List.set_cons_zero, c1, c2, gLen_lst, from_ok, sq_nx, gGt_int, q1, q2, Bof_bl, g2, gLt_int, gAdd_int, ownL_succ, ownL_zero, sa]
  have n_le := o.le n (List.mem_of_getElem? el)
  by_cases z1 : w ∈ c.having ++ [c.late]
  · have e1 : npass c.wishes c.having c.late c.crest (w, n) = 0 := if_pos (by simpa using z1)
    simp [z1, e1]
  · have z1' : ¬ (w ∈ c.having ∨ w = c.late) := by simpa using z1
    have i1 : w ∈ overL c.wishes c.having c.late ↔ w ∈ c.wishes := by
      unfold overL
      rw [List.mem_filter]
      have n1 : ¬ w ∈ c.having := fun h => z1' (.inl h)
      have n2 : ¬ w = c.late := fun h => z1' (.inr h)
      simp [n1, n2]
    by_cases z2 : w ∈ c.wishes
    · by_cases z3 : n < c.crest
      · have e1 : npass c.wishes c.having c.late c.crest (w, n) = n + 1 := by
          unfold npass
          rw [if_neg z1', if_pos (i1.mpr z2), if_neg (by simp; omega)]
        simp [z1, z2, z3, e1]
      · have e1 : npass c.wishes c.having c.late c.crest (w, n) = n := by
          unfold npass
          rw [if_neg z1', if_pos (i1.mpr z2), if_pos (by simp; omega)]
          show c.crest = n
          omega
        simp [z1, z2, z3, e1]
    · have e1 : npass c.wishes c.having c.late c.crest (w, n) = n := by
        unfold npass
        rw [if_neg z1', if_neg (fun h => z2 (i1.mp h))]
      simp [z1, z2, e1]
theorem lawafter_ok (h4 : ws.length ≤ 4) (o : okCs ws c) : F__law_after [.lst (ws.map nD), csD c] = .ok (nxL ws c) := by
  have hl := o.ll
  obtain ⟨ρ', e, a, b, d, rfl⟩ := loop_rg (h := gN 11) (body := B__law_after_1) (lo := 0) (n := ws.length) (ρ := laE ws c [] .no .no .no)
    (fun i ρ => ∃ a b d : Sl, ρ = laE ws c (((ws.zip c.loads).take i).map (npass c.wishes c.having c.late c.crest)) a b d) ⟨_, _, _, rfl⟩ (by
      rintro k ρ hk ⟨a, b, d, rfl⟩
      have ew : ws[k]? = some ws[k] := List.getElem?_eq_getElem hk
      have el : c.loads[k]? = some (c.loads[k]'(by omega)) := List.getElem?_eq_getElem _
      obtain ⟨b', d', e⟩ := la_step (acc := ((ws.zip c.loads).take k).map (npass c.wishes c.having c.late c.crest)) o (by rw [List.length_map, List.length_take]; omega) ew el a b d
      refine ⟨laE ws c (((ws.zip c.loads).take k).map (npass c.wishes c.having c.late c.crest)) (.v (.int (k : Int))) b d, by rw [Int.zero_add]; rfl, ?_⟩
      rw [e]
      refine ⟨.v (.int (k : Int)), b', d', ?_⟩
      have ez : (ws.zip c.loads)[k]? = some (ws[k], (c.loads[k]'(by omega))) := List.getElem?_zip_eq_some.mpr ⟨ew, el⟩
      rw [List.take_succ, ez, List.map_append]
      rfl)
  rw [List.take_of_length_le (by rw [List.length_zip]; omega)] at e
  have sm : small62 (ws.length : Int) := small_rg (by omega) (by omega)
  have ll : (ws.map nD).length = ws.length := List.length_map _
  have z0 : (0 : Nat) ≤ sizeLine := Nat.zero_le _
  unfold laE at e
  rw [List.map_nil] at e
  unfold F__law_after G__law_after
  simp only [runF_ap, show startE 15 [.lst (ws.map nD), csD c] = [.v (.lst (ws.map nD)), .v (csD c), .no, .no, .no, .no, .no, .no, .no, .no, .no, .no, .no, .no, .no] from rfl, sSq_ap, sAsg_ap, eV_succ, eV_zero, from_ok, un8, ofO_some, sq_nx]
  unfold csE at e ⊢
  simp only [sOwn_ap, lDisp_ap, sFor_ap, iR1_ap, sFrz_ap, sRet_ap, sSq_ap, eA_ap, aC_ap, aN_ap, eV_succ, eV_zero, bind_ok, List.length_nil, z0, if_true, from_ok, sq_nx, List.set_cons_succ, List.set_cons_zero, gLen_lst, ll, sm, Int.toNat_natCast, e, frzE_succ, frzE_zero, frzS_l, gTuple_lst, out_rt]
  rfl
theorem due_row {ρr : List Sl} {acc : List D} (vs : List (List Nat)) (hv : vs.length ≤ 1000) (ha : acc.length ≤ 100) (b : Sl) : B__law_due_1 (csE c (csD c) (.lst (ws.map nD)) (.l acc) [.v (.lst (vs.map nD)), b, .no]) = .nx (csE c (csD c) (.lst (ws.map nD)) (.l (acc ++ [.tup ((overL vs c.having c.late).map nD)])) [.v (.lst (vs.map nD)), b, .no]) := by
  have e := lc_map (inj := nD) (h := gN 13) (t := tAnd (tV (e2 gNe (eV 13) (eV 6))) (tV (e2 (gInS true) (eV 13) (eV 5)))) (fe := eV 13) (ρ := csE c (csD c) (.lst (ws.map nD)) (.l acc) [.v (.lst (vs.map nD)), b, .no]) (fun m => (!decide (m ∈ c.having)) && !decide (m = c.late)) nD (l := vs) fun m _ =>
    ⟨csE c (csD c) (.lst (ws.map nD)) (.l acc) [.v (.lst (vs.map nD)), b, .v (nD m)], rfl, by
      unfold csE
      simp only [tAnd_ap, tV_ap, e2_ap, eV_succ, eV_zero, bind_ok, nin_lst, ne_names, Bof_bl]
      cases (decide (m = c.late)) <;> cases (decide (m ∈ c.having)) <;> simp, fun _ => rfl⟩
  have sz : (vs.map nD).length ≤ sizeLine := by rw [List.length_map, sz24]; omega
  have sa : acc.length < sizeLine := by rw [sz24]; omega
  unfold csE at *
  unfold B__law_due_1
  simp only [sApp_ap, eA_ap, aC_ap, aN_ap, eLc_ap, iSq_ap, gIt_lst, eV_succ, eV_zero, bind_ok, sz, if_true, wipeE_cons, wipeE_nil, List.set_cons_succ, List.set_cons_zero, e, gTuple_lst, ownL_succ, ownL_zero, sa, from_ok]
  rfl
theorem due_ok (h4 : ws.length ≤ 4) (hn : ∀ w ∈ ws, w ≠ []) (o : okCs ws c) : F__law_due [.lst (ws.map nD), csD c] = .ok (.lst (tell ws c)) := by
  have r1 := due_row (ws := ws) (c := c) (ρr := []) (acc := []) c.wishes (by have := o.wl; omega) (by simp) .no
  have r2 := due_row (ws := ws) (c := c) (ρr := []) (acc := [.tup ((overL c.wishes c.having c.late).map nD)]) c.turned (by have := tl4 o; omega) (by simp) .no
  have af := lawafter_ok h4 o
  have ov := lawover_ok (cap := c.cap) o.ll o.li
  have l1 := lawlon_ok o.ll o.wi fun m q => hn m (o.wi m q)
  have l2 := lawlon_ok o.ll (ti o) fun m q => hn m (ti o m q)
  have gl2 : gLst [.lst (c.wishes.map nD), .lst (c.turned.map nD)] = .ok (.lst [.lst (c.wishes.map nD), .lst (c.turned.map nD)]) := rfl
  have gl3 : ∀ x y z : D, gLst [x, y, z] = .ok (.lst [x, y, z]) := fun _ _ _ => rfl
  have gl4 : ∀ x y : D, gLst [x, y] = .ok (.lst [x, y]) := fun _ _ => rfl
  have ga : ∀ xs ys : List D, xs.length ≤ 100 → ys.length ≤ 100 → gAdd (.lst xs) (.lst ys) = .ok (.lst (xs ++ ys)) := fun xs ys h1 h2 => if_pos (by rw [sz24]; omega)
  have ga1 := fun x y z : D => ga [.tup ((overL c.wishes c.having c.late).map nD), .tup ((overL c.turned c.having c.late).map nD)] [x, y, z] (by simp) (by simp)
  have ga2 := fun x y z u v : D => ga [.tup ((overL c.wishes c.having c.late).map nD), .tup ((overL c.turned c.having c.late).map nD), x, y, z] [u, v] (by simp) (by simp)
  have z0 : (0 : Nat) ≤ sizeLine := Nat.zero_le _
  unfold F__law_due G__law_due
  simp only [runF_ap, show startE 14 [.lst (ws.map nD), csD c] = [.v (.lst (ws.map nD)), .v (csD c), .no, .no, .no, .no, .no, .no, .no, .no, .no, .no, .no, .no] from rfl, sSq_ap, sAsg_ap, eV_succ, eV_zero, from_ok, un8, ofO_some, sq_nx]
  unfold csE at *
  simp only [sOwn_ap, lDisp_ap, sFor_ap, iSq_ap, gIt_lst, sSq_ap, eA_ap, aC_ap, aN_ap, eV_succ, eV_zero, bind_ok, List.length_nil, z0, if_true, from_ok, sq_nx, List.set_cons_succ, List.set_cons_zero, gl2, loop_cons, loop_nil, gN_ap, ofO_some, r1, List.nil_append, lp_nx, r2, List.cons_append]
  simp only [sSet_ap, sFrz_ap, sRet_ap, sSq_ap, e2_ap, eA_ap, aC_ap, aN_ap, eCall_ap, eV_succ, eV_zero, bind_ok, List.length_cons, List.length_nil, Nat.zero_add, Nat.reduceAdd, if_true, af, ov, l1, l2, gl3, gl4, from_ok, sq_nx, List.set_cons_succ, List.set_cons_zero, frzE_succ, frzE_zero, frzS_l, frzS_v, ga1, List.cons_append, List.nil_append, ga2, out_rt]
  rfl
end
/-! ### shuffled names -/
theorem er_map {α β : Type} (f : α → β) : ∀ (l : List α) (i : Nat), (l.map f).eraseIdx i = (l.eraseIdx i).map f
  | [], _ => rfl
  | _ :: _, 0 => rfl
  | a :: l, i + 1 => by
    show f a :: (l.map f).eraseIdx i = f a :: (l.eraseIdx i).map f
    rw [er_map f l i]
theorem er_perm {α : Type} : ∀ {l : List α} {i : Nat} {a : α}, l[i]? = some a → (a :: l.eraseIdx i).Perm l
  | [], _, _, h => by simp at h
  | b :: l, 0, a, h => by
    have e : b = a := by simpa using h
    subst e
    exact List.Perm.refl _
  | b :: l, i + 1, a, h => by
    rw [List.getElem?_cons_succ] at h
    exact (List.Perm.swap _ _ _).trans (List.Perm.cons b (er_perm h))
theorem four_at (a b c d : Int) {k : Nat} (h : k < 4) : ∃ y : Int, (y = a ∨ y = b ∨ y = c ∨ y = d) ∧ gIx (.lst [.int a, .int b, .int c, .int d]) (.int (k : Int)) = .ok (.int y) := by
  have : k = 0 ∨ k = 1 ∨ k = 2 ∨ k = 3 := by omega
  rcases this with rfl | rfl | rfl | rfl
  · exact ⟨a, .inl rfl, rfl⟩
  · exact ⟨b, .inr (.inl rfl), rfl⟩
  · exact ⟨c, .inr (.inr (.inl rfl)), rfl⟩
  · exact ⟨d, .inr (.inr (.inr rfl)), rfl⟩
theorem shuffled_ok {ps : List Int} {spot : Int} {ws : List (List Nat)} (h0 : 0 ≤ spot) (h1 : spot < ps.length) (hl : ws.length ≤ 4) : ∃ ts : List (List Nat), ts.Perm ws ∧ F__law_shuffled [.lst (ps.map .int), .int spot, .lst (ws.map nD)] = .ok (.lst (ts.map nD)) := by
  obtain ⟨ρ', e, s, left, taken, hp, l1, l2, rfl⟩ := loop_rg (h := gN 5) (body := B__law_shuffled_1) (lo := 0) (n := ws.length) (ρ := [.v (.lst (ps.map .int)), .v (.int spot), .v (.lst (ws.map nD)), .l (ws.map nD), .l [], .no])
    (fun i ρ => ∃ (s : Sl) (left taken : List (List Nat)), (taken ++ left).Perm ws ∧ left.length + i = ws.length ∧ taken.length = i ∧ ρ = [.v (.lst (ps.map .int)), .v (.int spot), .v (.lst (ws.map nD)), .l (left.map nD), .l (taken.map nD), s]) ⟨_, ws, [], by simp, rfl, rfl, rfl⟩ (by
      rintro k ρ hk ⟨s, left, taken, hp, l1, l2, rfl⟩
      refine ⟨[.v (.lst (ps.map .int)), .v (.int spot), .v (.lst (ws.map nD)), .l (left.map nD), .l (taken.map nD), .v (.int (k : Int))], by rw [Int.zero_add]; rfl, ?_⟩
      obtain ⟨u, hu, ue⟩ := four_at 1 4 12 24 (k := k) (by omega)
      obtain ⟨v, hv, ve⟩ := four_at 4 3 2 1 (k := k) (by omega)
      have p := part_ok (ps := ps) (spot := spot) (under := u) (size := v) h0 h1 (by omega) (by omega) (by omega)
      generalize part ps spot u v = q at *
      have lp : 0 < left.length := by omega
      have m0 : 0 ≤ q % (left.length : Int) := Int.emod_nonneg _ (by omega)
      have m1 : q % (left.length : Int) < (left.length : Int) := Int.emod_lt_of_pos _ (by omega)
      have md : gMod (.int q) (.int (left.length : Int)) = .ok (.int (q % (left.length : Int))) := gMod_int (by omega)
      have lt : (q % (left.length : Int)).toNat < left.length := by omega
      generalize q % (left.length : Int) = m at *
      have gl1 : gLst [.int 1, .int 4, .int 12, .int 24] = .ok (.lst [.int 1, .int 4, .int 12, .int 24]) := rfl
      have gl2 : gLst [.int 4, .int 3, .int 2, .int 1] = .ok (.lst [.int 4, .int 3, .int 2, .int 1]) := rfl
      have ll : (left.map nD).length = left.length := List.length_map _
      have sc : ∀ z : Int, scalD (.int z) = true := fun _ => rfl
      have ge : (left.map nD)[m.toNat]? = some (nD left[m.toNat]) := by rw [List.getElem?_map, List.getElem?_eq_getElem lt]; rfl
      have cond : 0 ≤ m ∧ m < 9223372036854775808 ∧ (taken.map nD).length < sizeLine := ⟨m0, by omega, by rw [List.length_map, sz24]; omega⟩
      have st : B__law_shuffled_1 [.v (.lst (ps.map .int)), .v (.int spot), .v (.lst (ws.map nD)), .l (left.map nD), .l (taken.map nD), .v (.int (k : Int))] = .nx [.v (.lst (ps.map .int)), .v (.int spot), .v (.lst (ws.map nD)), .l ((left.eraseIdx m.toNat).map nD), .l ((taken ++ [left[m.toNat]]).map nD), .v (.int (k : Int))] := by
        unfold B__law_shuffled_1 sAppPop
        simp only [ownL_succ, ownL_zero, from_ok, eBor_ap, frzA_cons, frzA_nil, frzS_v, frzS_l, e2_ap, eA_ap, aC_ap, aN_ap, eC_ap, eCall_ap, eV_succ, eV_zero, bind_ok, gl1, gl2, ue, ve, List.length_cons, List.length_nil, Nat.zero_add, Nat.reduceAdd, if_true, p, gLen_lst, ll, md, quiet_ok, sc, if_pos cond, ge, List.set_cons_succ, List.set_cons_zero]
        rw [List.map_append, ← er_map]
        rfl
      rw [st]
      refine ⟨_, left.eraseIdx m.toNat, taken ++ [left[m.toNat]], ?_, ?_, by rw [List.length_append, l2]; rfl, rfl⟩
      · have pe : (left[m.toNat] :: left.eraseIdx m.toNat).Perm left := er_perm (List.getElem?_eq_getElem lt)
        rw [List.append_assoc]
        exact ((List.Perm.append_left taken pe).trans (List.Perm.refl _)).trans hp
      · rw [List.length_eraseIdx, if_pos lt]
        omega)
  have le : left = [] := List.length_eq_zero_iff.mp (by omega)
  rw [le, List.append_nil] at hp
  have sm : small62 (ws.length : Int) := small_rg (by omega) (by omega)
  have ll : (ws.map nD).length = ws.length := List.length_map _
  have z0 : (0 : Nat) ≤ sizeLine := Nat.zero_le _
  refine ⟨taken, hp, ?_⟩
  unfold F__law_shuffled G__law_shuffled
  simp only [runF_ap, show startE 6 [.lst (ps.map .int), .int spot, .lst (ws.map nD)] = [.v (.lst (ps.map .int)), .v (.int spot), .v (.lst (ws.map nD)), .no, .no, .no] from rfl, sSq_ap, sOwn_ap, lList_ap, lDisp_ap, sFor_ap, iR1_ap, sFrz_ap, sRet_ap, eA_ap, aC_ap, aN_ap, eV_zero, eV_succ, bind_ok, List.length_nil, z0, if_true, from_ok, sq_nx, List.set_cons_succ, List.set_cons_zero, gLen_lst, ll, sm, Int.toNat_natCast, e, frzE_succ, frzE_zero, frzS_l, out_rt]
/-! ### a drawn case -/
theorem base_at {q : Int} (h0 : 0 ≤ q) (h1 : q < 5) : ∃ y : Int, 0 ≤ y ∧ gIx (.lst [.int 0, .int 0, .int 0, .int 1000000000, .int (10 ^ 59)]) (.int q) = .ok (.int y) := by
  have : q = 0 ∨ q = 1 ∨ q = 2 ∨ q = 3 ∨ q = 4 := by omega
  rcases this with rfl | rfl | rfl | rfl | rfl
  · exact ⟨0, by decide, rfl⟩
  · exact ⟨0, by decide, rfl⟩
  · exact ⟨0, by decide, rfl⟩
  · exact ⟨1000000000, by decide, rfl⟩
  · exact ⟨10 ^ 59, by decide, rfl⟩
def caE (ps : List Int) (ws : List (List Nat)) (base crest : Int) (ls : List Int) (s : Sl) : Ev := [.v (.lst (ps.map .int)), .v (.lst (ws.map nD)), .v (.int base), .v (.int crest), .l (ls.map .int), s, .no, .no, .no, .no, .no, .no]
theorem case_loop {ps : List Int} {ws : List (List Nat)} {base crest : Int} (h4 : ws.length ≤ 4) (hp : ps.length = 7) (hc : 0 ≤ crest) : ∃ (ls : List Int) (s : Sl), ls.length = ws.length ∧ (∀ l ∈ ls, l ≤ crest) ∧ loop (gN 5) B__law_case_1 (rgD 0 ws.length) (caE ps ws base crest [] .no) = .nx (caE ps ws base crest ls s) := by
  obtain ⟨ρ', e, s, ls, l1, l2, rfl⟩ := loop_rg (h := gN 5) (body := B__law_case_1) (lo := 0) (n := ws.length) (ρ := caE ps ws base crest [] .no)
    (fun i ρ => ∃ (s : Sl) (ls : List Int), ls.length = i ∧ (∀ l ∈ ls, l ≤ crest) ∧ ρ = caE ps ws base crest ls s) ⟨_, [], rfl, (fun _ m => nomatch m), rfl⟩ (by
      rintro k ρ hk ⟨s, ls, l1, l2, rfl⟩
      obtain ⟨u, hu, ue⟩ := four_at 1 6 36 216 (k := k) (by omega)
      have p := part_ok (ps := ps) (spot := 1) (under := u) (size := 6) (by decide) (by omega) (by omega) (by omega) (by decide)
      have a := part_lo (ps := ps) (spot := 1) (under := u) (size := 6) (by decide)
      generalize part ps 1 u 6 = q at *
      have gl1 : gLst [.int 1, .int 6, .int 36, .int 216] = .ok (.lst [.int 1, .int 6, .int 36, .int 216]) := rfl
      have sz : (ls.map D.int).length < sizeLine := by rw [List.length_map, sz24]; omega
      have st : B__law_case_1 (caE ps ws base crest ls (.v (.int (k : Int)))) = .nx (caE ps ws base crest (ls ++ [if crest - q > 0 then crest - q else 0]) (.v (.int (k : Int)))) := by
        unfold B__law_case_1 caE
        rw [List.map_append]
        simp only [sApp_ap, eA_ap, aC_ap, aN_ap, e2_ap, eC_ap, eCall_ap, eV_succ, eV_zero, bind_ok, gl1, ue, List.length_cons, List.length_nil, Nat.zero_add, Nat.reduceAdd, if_true, p, gSub_int, gMax_int, ownL_succ, ownL_zero, from_ok, sz, List.set_cons_succ, List.set_cons_zero]
        rfl
      refine ⟨caE ps ws base crest ls (.v (.int (k : Int))), by rw [Int.zero_add]; rfl, ?_⟩
      rw [st]
      refine ⟨_, _, by rw [List.length_append, l1]; rfl, fun l m => ?_, rfl⟩
      rcases List.mem_append.mp m with m | m
      · exact l2 l m
      · rw [List.mem_singleton.mp m]
        split <;> omega)
  exact ⟨ls, s, l1, l2, e⟩
theorem case_ok {ps : List Int} {ws : List (List Nat)} (h0 : 0 < ws.length) (h4 : ws.length ≤ 4) (hp : ps.length = 7) : ∃ c : Cs, okCs ws c ∧ F__law_case [.lst (ps.map .int), .lst (ws.map nD)] = .ok (csD c) := by
  have P : ∀ (spot under size : Int), 0 ≤ spot → spot < 7 → 0 < under → under < 1000 → 0 < size → F__law_part [.lst (ps.map .int), .int spot, .int under, .int size] = .ok (.int (part ps spot under size)) := fun spot under size a b c d e => part_ok a (by omega) c (by omega) e
  have p1 := P 0 1 5 (by decide) (by decide) (by decide) (by decide) (by decide)
  have p2 := P 0 5 6 (by decide) (by decide) (by decide) (by decide) (by decide)
  have p3 := P 2 16 4 (by decide) (by decide) (by decide) (by decide) (by decide)
  have p4 := P 3 24 5 (by decide) (by decide) (by decide) (by decide) (by decide)
  have p5 := P 4 1 8 (by decide) (by decide) (by decide) (by decide) (by decide)
  have p6 := P 5 24 5 (by decide) (by decide) (by decide) (by decide) (by decide)
  have p7 := P 4 8 7 (by decide) (by decide) (by decide) (by decide) (by decide)
  have p8 := P 4 56 2 (by decide) (by decide) (by decide) (by decide) (by decide)
  have p9 := P 4 112 6 (by decide) (by decide) (by decide) (by decide) (by decide)
  have a1 := part_lo (ps := ps) (spot := 0) (under := 1) (size := 5) (by decide)
  have b1 := part_hi (ps := ps) (spot := 0) (under := 1) (size := 5) (by decide)
  have a2 := part_lo (ps := ps) (spot := 0) (under := 5) (size := 6) (by decide)
  have a4 := part_lo (ps := ps) (spot := 3) (under := 24) (size := 5) (by decide)
  have b4 := part_hi (ps := ps) (spot := 3) (under := 24) (size := 5) (by decide)
  have a6 := part_lo (ps := ps) (spot := 5) (under := 24) (size := 5) (by decide)
  obtain ⟨base, base0, be⟩ := base_at a1 b1
  generalize part ps 0 1 5 = q1 at *
  generalize part ps 0 5 6 = q2 at *
  generalize part ps 2 16 4 = way at *
  generalize part ps 3 24 5 = q4 at *
  generalize part ps 4 1 8 = q5 at *
  generalize part ps 5 24 5 = q6 at *
  generalize part ps 4 8 7 = q7 at *
  generalize part ps 4 56 2 = q8 at *
  generalize part ps 4 112 6 = q9 at *
  obtain ⟨ls, s, l1, l2, le⟩ := case_loop (ps := ps) (ws := ws) (base := base) (crest := base + q2) h4 hp (by omega)
  obtain ⟨wi, ws1, we⟩ := some_ok (ps := ps) (spot := 2) (ws := ws) (by decide) (by omega) h4
  have wl : wi.length ≤ 4 := Nat.le_trans ws1.length_le h4
  obtain ⟨t3, t3p, t3e⟩ := shuffled_ok (ps := ps) (spot := 3) (ws := wi) (by decide) (by omega) wl
  obtain ⟨u3, u3p, u3e⟩ := shuffled_ok (ps := ps) (spot := 3) (ws := ws) (by decide) (by omega) h4
  obtain ⟨u5, u5p, u5e⟩ := shuffled_ok (ps := ps) (spot := 5) (ws := ws) (by decide) (by omega) h4
  obtain ⟨t6, t6p, t6e⟩ := shuffled_ok (ps := ps) (spot := 6) (ws := wi) (by decide) (by omega) wl
  -- the one who keeps it
  have lb : (ws ++ [[], [], [], []]).length = ws.length + 4 := by simp
  have ga : gAdd (.lst (ws.map nD)) (.lst [nD [], nD [], nD [], nD []]) = .ok (.lst ((ws ++ [[], [], [], []]).map nD)) := by
    show (if (ws.map nD).length + 4 ≤ sizeLine then R.ok (D.lst (ws.map nD ++ [nD [], nD [], nD [], nD []])) else .bad) = _
    rw [if_pos (by rw [List.length_map, sz24]; omega), List.map_append]
    rfl
  have md : gMod (.int q5) (.int ((ws.length : Int) + 4)) = .ok (.int (q5 % ((ws.length : Int) + 4))) := gMod_int (by omega)
  have m0 : 0 ≤ q5 % ((ws.length : Int) + 4) := Int.emod_nonneg _ (by omega)
  have m1 : q5 % ((ws.length : Int) + 4) < (ws.length : Int) + 4 := Int.emod_lt_of_pos _ (by omega)
  have lt : (q5 % ((ws.length : Int) + 4)).toNat < (ws ++ [[], [], [], []]).length := by rw [lb]; omega
  have gi : gIx (.lst ((ws ++ [[], [], [], []]).map nD)) (.int (q5 % ((ws.length : Int) + 4))) = .ok (nD ((ws ++ [[], [], [], []])[(q5 % ((ws.length : Int) + 4)).toNat])) := gIx_map (inj := nD) m0 (List.getElem?_eq_getElem lt)
  generalize (ws ++ [[], [], [], []])[(q5 % ((ws.length : Int) + 4)).toNat] = late at *
  -- cuts
  have cut : ∀ (xs : List (List Nat)) (n : Int), 0 ≤ n → gSl (.lst (xs.map nD)) none (some n) = .ok (.lst ((xs.take n.toNat).map nD)) := fun xs n h => by
    have e : HT.sIx (xs.map nD).length (xs.map nD).length (some n) = min n.toNat (xs.map nD).length := by
      show (if n < 0 then (n + ((xs.map nD).length : Int)).toNat else min n.toNat (xs.map nD).length) = _
      rw [if_neg (by omega)]
    show R.ok (D.lst (cutD (xs.map nD) none (some n))) = _
    unfold cutD
    rw [e, HT.sIx_none, List.drop_zero, Nat.sub_zero, ← List.take_eq_take_min, List.map_take]
  have k1 := cut t3 1 (by decide)
  have k3 := cut t3 3 (by decide)
  have k4 := cut u3 q4 a4
  have k6 := cut u5 q6 a6
  have pw1 : gPow (.int 10) (.int 9) = .ok (.int 1000000000) := gPow_int (by decide) (by decide) (by decide) (by decide)
  have pw2 : gPow (.int 10) (.int 59) = .ok (.int (10 ^ 59)) := gPow_int (by decide) (by decide) (by decide) (by decide)
  have gl1 : gLst [.int 0, .int 0, .int 0, .int 1000000000, .int (10 ^ 59)] = .ok (.lst [.int 0, .int 0, .int 0, .int 1000000000, .int (10 ^ 59)]) := rfl
  have gl2 : gLst [nD [], nD [], nD [], nD []] = .ok (.lst [nD [], nD [], nD [], nD []]) := rfl
  have gl3 : gLst [] = .ok (.lst (([] : List (List Nat)).map nD)) := rfl
  have sm : small62 (ws.length : Int) := small_rg (by omega) (by omega)
  have ll : (ws.map nD).length = ws.length := List.length_map _
  have z0 : (0 : Nat) ≤ sizeLine := Nat.zero_le _
  have st0 : startE 12 [.lst (ps.map .int), .lst (ws.map nD)] = [.v (.lst (ps.map .int)), .v (.lst (ws.map nD)), .no, .no, .no, .no, .no, .no, .no, .no, .no, .no] := rfl
  unfold caE at le
  rw [List.map_nil] at le
  have fin : ∀ (hv : List (List Nat)) (cp : Option Int), gTup [.lst (ls.map .int), .lst (wi.map nD), .lst (t6.map nD), .lst (hv.map nD), nD late, .int (base + q2), .lst ((u5.take q6.toNat).map nD), capD cp] = .ok (csD ⟨ls, wi, t6, hv, late, base + q2, u5.take q6.toNat, cp⟩) := fun _ _ => rfl
  have ok : ∀ (hv : List (List Nat)) (cp : Option Int), hv.length ≤ 4 → okCs ws ⟨ls, wi, t6, hv, late, base + q2, u5.take q6.toNat, cp⟩ := fun hv cp hh =>
    ⟨l1, l2, fun w m => ws1.subset m, wl, t6p, hh, fun w m => u5p.mem_iff.mp (List.mem_of_mem_take m)⟩
  have key : ∀ (hv : List (List Nat)) (cp : Option Int), ((way = 1 → hv = t3.take (1 : Int).toNat) ∧ (way = 2 → hv = t3.take (3 : Int).toNat) ∧ (way = 3 → hv = u3.take q4.toNat) ∧ (way ≠ 1 → way ≠ 2 → way ≠ 3 → hv = [])) →
      ((q9 = 5 → cp = none) ∧ (q9 = 4 → cp = some 0) ∧ (q9 ≠ 5 → q9 ≠ 4 → cp = some (if base + q2 - q7 + q8 > 0 then base + q2 - q7 + q8 else 0))) → F__law_case [.lst (ps.map .int), .lst (ws.map nD)] = .ok (csD ⟨ls, wi, t6, hv, late, base + q2, u5.take q6.toNat, cp⟩) := by
    intro hv cp ⟨v1, v2, v3, v4⟩ ⟨c1, c2, c3⟩
    have hw : way = 1 ∨ way = 2 ∨ way = 3 ∨ (way ≠ 1 ∧ way ≠ 2 ∧ way ≠ 3) := by omega
    have hq : q9 = 5 ∨ q9 = 4 ∨ (q9 ≠ 5 ∧ q9 ≠ 4) := by omega
    have f1 := fin hv cp
    unfold F__law_case G__law_case
    rcases hw with w | w | w | ⟨w1, w2, w3⟩
    · have e1 := v1 w
      subst w e1
      rcases hq with g | g | ⟨g1, g2⟩
      · have e2 := c1 g
        subst g e2
        simp only [none_eq, runF_ap, st0, sSq_ap, sSet_ap, sIf_ap, sN_ap, sOwn_ap, lDisp_ap, sFor_ap, iR1_ap, sFrz_ap, sRet_ap, tV_ap, e2_ap, eA_ap, aC_ap, aN_ap, eC_ap, eCall_ap, eSl_ap, oN_ap, oS_ap, eV_succ, eV_zero, bind_ok, List.length_cons, List.length_nil, Nat.zero_add, Nat.reduceAdd, if_true, pw1, pw2, gl1, gl2, gl3, p1, p2, p3, p4, p5, p6, p7, p8, p9, be, gAdd_int, gSub_int, z0, gLen_lst, ll, sm, Int.toNat_natCast, le, we, t3e, t6e, u3e, u5e, gEq_int, Bof_bl, decide_true, Int.reduceEq, decide_false, Bool.false_eq_true, if_false, k1, k3, k4, k6, ga, md, gi, gMax_int, from_ok, sq_nx, List.set_cons_succ, List.set_cons_zero, frzE_succ, frzE_zero, frzS_l, out_rt]
        exact f1
      · have e2 := c2 g
        subst g e2
        simp only [none_eq, runF_ap, st0, sSq_ap, sSet_ap, sIf_ap, sN_ap, sOwn_ap, lDisp_ap, sFor_ap, iR1_ap, sFrz_ap, sRet_ap, tV_ap, e2_ap, eA_ap, aC_ap, aN_ap, eC_ap, eCall_ap, eSl_ap, oN_ap, oS_ap, eV_succ, eV_zero, bind_ok, List.length_cons, List.length_nil, Nat.zero_add, Nat.reduceAdd, if_true, pw1, pw2, gl1, gl2, gl3, p1, p2, p3, p4, p5, p6, p7, p8, p9, be, gAdd_int, gSub_int, z0, gLen_lst, ll, sm, Int.toNat_natCast, le, we, t3e, t6e, u3e, u5e, gEq_int, Bof_bl, decide_true, Int.reduceEq, decide_false, Bool.false_eq_true, if_false, k1, k3, k4, k6, ga, md, gi, gMax_int, from_ok, sq_nx, List.set_cons_succ, List.set_cons_zero, frzE_succ, frzE_zero, frzS_l, out_rt]
        exact f1
      · have e2 := c3 g1 g2
        subst e2
        simp only [none_eq, runF_ap, st0, sSq_ap, sSet_ap, sIf_ap, sN_ap, sOwn_ap, lDisp_ap, sFor_ap, iR1_ap, sFrz_ap, sRet_ap, tV_ap, e2_ap, eA_ap, aC_ap, aN_ap, eC_ap, eCall_ap, eSl_ap, oN_ap, oS_ap, eV_succ, eV_zero, bind_ok, List.length_cons, List.length_nil, Nat.zero_add, Nat.reduceAdd, if_true, pw1, pw2, gl1, gl2, gl3, p1, p2, p3, p4, p5, p6, p7, p8, p9, be, gAdd_int, gSub_int, z0, gLen_lst, ll, sm, Int.toNat_natCast, le, we, t3e, t6e, u3e, u5e, gEq_int, Bof_bl, decide_true, Int.reduceEq, decide_false, decide_eq_false g1, decide_eq_false g2, Bool.false_eq_true, if_false, k1, k3, k4, k6, ga, md, gi, gMax_int, from_ok, sq_nx, List.set_cons_succ, List.set_cons_zero, frzE_succ, frzE_zero, frzS_l, out_rt]
        exact f1
    · have e1 := v2 w
      subst w e1
      rcases hq with g | g | ⟨g1, g2⟩
      · have e2 := c1 g
        subst g e2
        simp only [none_eq, runF_ap, st0, sSq_ap, sSet_ap, sIf_ap, sN_ap, sOwn_ap, lDisp_ap, sFor_ap, iR1_ap, sFrz_ap, sRet_ap, tV_ap, e2_ap, eA_ap, aC_ap, aN_ap, eC_ap, eCall_ap, eSl_ap, oN_ap, oS_ap, eV_succ, eV_zero, bind_ok, List.length_cons, List.length_nil, Nat.zero_add, Nat.reduceAdd, if_true, pw1, pw2, gl1, gl2, gl3, p1, p2, p3, p4, p5, p6, p7, p8, p9, be, gAdd_int, gSub_int, z0, gLen_lst, ll, sm, Int.toNat_natCast, le, we, t3e, t6e, u3e, u5e, gEq_int, Bof_bl, decide_true, Int.reduceEq, decide_false, Bool.false_eq_true, if_false, k1, k3, k4, k6, ga, md, gi, gMax_int, from_ok, sq_nx, List.set_cons_succ, List.set_cons_zero, frzE_succ, frzE_zero, frzS_l, out_rt]
        exact f1
      · have e2 := c2 g
        subst g e2
        simp only [none_eq, runF_ap, st0, sSq_ap, sSet_ap, sIf_ap, sN_ap, sOwn_ap, lDisp_ap, sFor_ap, iR1_ap, sFrz_ap, sRet_ap, tV_ap, e2_ap, eA_ap, aC_ap, aN_ap, eC_ap, eCall_ap, eSl_ap, oN_ap, oS_ap, eV_succ, eV_zero, bind_ok, List.length_cons, List.length_nil, Nat.zero_add, Nat.reduceAdd, if_true, pw1, pw2, gl1, gl2, gl3, p1, p2, p3, p4, p5, p6, p7, p8, p9, be, gAdd_int, gSub_int, z0, gLen_lst, ll, sm, Int.toNat_natCast, le, we, t3e, t6e, u3e, u5e, gEq_int, Bof_bl, decide_true, Int.reduceEq, decide_false, Bool.false_eq_true, if_false, k1, k3, k4, k6, ga, md, gi, gMax_int, from_ok, sq_nx, List.set_cons_succ, List.set_cons_zero, frzE_succ, frzE_zero, frzS_l, out_rt]
        exact f1
      · have e2 := c3 g1 g2
        subst e2
        simp only [none_eq, runF_ap, st0, sSq_ap, sSet_ap, sIf_ap, sN_ap, sOwn_ap, lDisp_ap, sFor_ap, iR1_ap, sFrz_ap, sRet_ap, tV_ap, e2_ap, eA_ap, aC_ap, aN_ap, eC_ap, eCall_ap, eSl_ap, oN_ap, oS_ap, eV_succ, eV_zero, bind_ok, List.length_cons, List.length_nil, Nat.zero_add, Nat.reduceAdd, if_true, pw1, pw2, gl1, gl2, gl3, p1, p2, p3, p4, p5, p6, p7, p8, p9, be, gAdd_int, gSub_int, z0, gLen_lst, ll, sm, Int.toNat_natCast, le, we, t3e, t6e, u3e, u5e, gEq_int, Bof_bl, decide_true, Int.reduceEq, decide_false, decide_eq_false g1, decide_eq_false g2, Bool.false_eq_true, if_false, k1, k3, k4, k6, ga, md, gi, gMax_int, from_ok, sq_nx, List.set_cons_succ, List.set_cons_zero, frzE_succ, frzE_zero, frzS_l, out_rt]
        exact f1
    · have e1 := v3 w
      subst w e1
      rcases hq with g | g | ⟨g1, g2⟩
      · have e2 := c1 g
        subst g e2
        simp only [none_eq, runF_ap, st0, sSq_ap, sSet_ap, sIf_ap, sN_ap, sOwn_ap, lDisp_ap, sFor_ap, iR1_ap, sFrz_ap, sRet_ap, tV_ap, e2_ap, eA_ap, aC_ap, aN_ap, eC_ap, eCall_ap, eSl_ap, oN_ap, oS_ap, eV_succ, eV_zero, bind_ok, List.length_cons, List.length_nil, Nat.zero_add, Nat.reduceAdd, if_true, pw1, pw2, gl1, gl2, gl3, p1, p2, p3, p4, p5, p6, p7, p8, p9, be, gAdd_int, gSub_int, z0, gLen_lst, ll, sm, Int.toNat_natCast, le, we, t3e, t6e, u3e, u5e, gEq_int, Bof_bl, decide_true, Int.reduceEq, decide_false, Bool.false_eq_true, if_false, k1, k3, k4, k6, ga, md, gi, gMax_int, from_ok, sq_nx, List.set_cons_succ, List.set_cons_zero, frzE_succ, frzE_zero, frzS_l, out_rt]
        exact f1
      · have e2 := c2 g
        subst g e2
        simp only [none_eq, runF_ap, st0, sSq_ap, sSet_ap, sIf_ap, sN_ap, sOwn_ap, lDisp_ap, sFor_ap, iR1_ap, sFrz_ap, sRet_ap, tV_ap, e2_ap, eA_ap, aC_ap, aN_ap, eC_ap, eCall_ap, eSl_ap, oN_ap, oS_ap, eV_succ, eV_zero, bind_ok, List.length_cons, List.length_nil, Nat.zero_add, Nat.reduceAdd, if_true, pw1, pw2, gl1, gl2, gl3, p1, p2, p3, p4, p5, p6, p7, p8, p9, be, gAdd_int, gSub_int, z0, gLen_lst, ll, sm, Int.toNat_natCast, le, we, t3e, t6e, u3e, u5e, gEq_int, Bof_bl, decide_true, Int.reduceEq, decide_false, Bool.false_eq_true, if_false, k1, k3, k4, k6, ga, md, gi, gMax_int, from_ok, sq_nx, List.set_cons_succ, List.set_cons_zero, frzE_succ, frzE_zero, frzS_l, out_rt]
        exact f1
      · have e2 := c3 g1 g2
        subst e2
        simp only [none_eq, runF_ap, st0, sSq_ap, sSet_ap, sIf_ap, sN_ap, sOwn_ap, lDisp_ap, sFor_ap, iR1_ap, sFrz_ap, sRet_ap, tV_ap, e2_ap, eA_ap, aC_ap, aN_ap, eC_ap, eCall_ap, eSl_ap, oN_ap, oS_ap, eV_succ, eV_zero, bind_ok, List.length_cons, List.length_nil, Nat.zero_add, Nat.reduceAdd, if_true, pw1, pw2, gl1, gl2, gl3, p1, p2, p3, p4, p5, p6, p7, p8, p9, be, gAdd_int, gSub_int, z0, gLen_lst, ll, sm, Int.toNat_natCast, le, we, t3e, t6e, u3e, u5e, gEq_int, Bof_bl, decide_true, Int.reduceEq, decide_false, decide_eq_false g1, decide_eq_false g2, Bool.false_eq_true, if_false, k1, k3, k4, k6, ga, md, gi, gMax_int, from_ok, sq_nx, List.set_cons_succ, List.set_cons_zero, frzE_succ, frzE_zero, frzS_l, out_rt]
        exact f1
    · have e1 := v4 w1 w2 w3
      subst e1
      rcases hq with g | g | ⟨g1, g2⟩
      · have e2 := c1 g
        subst g e2
        simp only [none_eq, runF_ap, st0, sSq_ap, sSet_ap, sIf_ap, sN_ap, sOwn_ap, lDisp_ap, sFor_ap, iR1_ap, sFrz_ap, sRet_ap, tV_ap, e2_ap, eA_ap, aC_ap, aN_ap, eC_ap, eCall_ap, eSl_ap, oN_ap, oS_ap, eV_succ, eV_zero, bind_ok, List.length_cons, List.length_nil, Nat.zero_add, Nat.reduceAdd, if_true, pw1, pw2, gl1, gl2, gl3, p1, p2, p3, p4, p5, p6, p7, p8, p9, be, gAdd_int, gSub_int, z0, gLen_lst, ll, sm, Int.toNat_natCast, le, we, t3e, t6e, u3e, u5e, gEq_int, Bof_bl, decide_true, Int.reduceEq, decide_false, decide_eq_false w1, decide_eq_false w2, decide_eq_false w3, Bool.false_eq_true, if_false, k1, k3, k4, k6, ga, md, gi, gMax_int, from_ok, sq_nx, List.set_cons_succ, List.set_cons_zero, frzE_succ, frzE_zero, frzS_l, out_rt]
        exact f1
      · have e2 := c2 g
        subst g e2
        simp only [none_eq, runF_ap, st0, sSq_ap, sSet_ap, sIf_ap, sN_ap, sOwn_ap, lDisp_ap, sFor_ap, iR1_ap, sFrz_ap, sRet_ap, tV_ap, e2_ap, eA_ap, aC_ap, aN_ap, eC_ap, eCall_ap, eSl_ap, oN_ap, oS_ap, eV_succ, eV_zero, bind_ok, List.length_cons, List.length_nil, Nat.zero_add, Nat.reduceAdd, if_true, pw1, pw2, gl1, gl2, gl3, p1, p2, p3, p4, p5, p6, p7, p8, p9, be, gAdd_int, gSub_int, z0, gLen_lst, ll, sm, Int.toNat_natCast, le, we, t3e, t6e, u3e, u5e, gEq_int, Bof_bl, decide_true, Int.reduceEq, decide_false, decide_eq_false w1, decide_eq_false w2, decide_eq_false w3, Bool.false_eq_true, if_false, k1, k3, k4, k6, ga, md, gi, gMax_int, from_ok, sq_nx, List.set_cons_succ, List.set_cons_zero, frzE_succ, frzE_zero, frzS_l, out_rt]
        exact f1
      · have e2 := c3 g1 g2
        subst e2
        simp only [none_eq, runF_ap, st0, sSq_ap, sSet_ap, sIf_ap, sN_ap, sOwn_ap, lDisp_ap, sFor_ap, iR1_ap, sFrz_ap, sRet_ap, tV_ap, e2_ap, eA_ap, aC_ap, aN_ap, eC_ap, eCall_ap, eSl_ap, oN_ap, oS_ap, eV_succ, eV_zero, bind_ok, List.length_cons, List.length_nil, Nat.zero_add, Nat.reduceAdd, if_true, pw1, pw2, gl1, gl2, gl3, p1, p2, p3, p4, p5, p6, p7, p8, p9, be, gAdd_int, gSub_int, z0, gLen_lst, ll, sm, Int.toNat_natCast, le, we, t3e, t6e, u3e, u5e, gEq_int, Bof_bl, decide_true, Int.reduceEq, decide_false, decide_eq_false w1, decide_eq_false w2, decide_eq_false w3, decide_eq_false g1, decide_eq_false g2, Bool.false_eq_true, if_false, k1, k3, k4, k6, ga, md, gi, gMax_int, from_ok, sq_nx, List.set_cons_succ, List.set_cons_zero, frzE_succ, frzE_zero, frzS_l, out_rt]
        exact f1
  have hx : ∃ hv : List (List Nat), hv.length ≤ 4 ∧ ((way = 1 → hv = t3.take (1 : Int).toNat) ∧ (way = 2 → hv = t3.take (3 : Int).toNat) ∧ (way = 3 → hv = u3.take q4.toNat) ∧ (way ≠ 1 → way ≠ 2 → way ≠ 3 → hv = [])) := by
    have hw : way = 1 ∨ way = 2 ∨ way = 3 ∨ (way ≠ 1 ∧ way ≠ 2 ∧ way ≠ 3) := by omega
    have tl : t3.length ≤ 4 := by rw [t3p.length_eq]; exact wl
    have ul : u3.length ≤ 4 := by rw [u3p.length_eq]; exact h4
    rcases hw with w | w | w | ⟨w1, w2, w3⟩
    · exact ⟨_, by rw [List.length_take]; omega, fun _ => rfl, fun z => by omega, fun z => by omega, fun z => absurd w z⟩
    · exact ⟨_, by rw [List.length_take]; omega, fun z => by omega, fun _ => rfl, fun z => by omega, fun _ z => absurd w z⟩
    · exact ⟨_, by rw [List.length_take]; omega, fun z => by omega, fun z => by omega, fun _ => rfl, fun _ _ z => absurd w z⟩
    · exact ⟨[], by simp, fun z => absurd z w1, fun z => absurd z w2, fun z => absurd z w3, fun _ _ _ => rfl⟩
  have cx : ∃ cp : Option Int, (q9 = 5 → cp = none) ∧ (q9 = 4 → cp = some 0) ∧ (q9 ≠ 5 → q9 ≠ 4 → cp = some (if base + q2 - q7 + q8 > 0 then base + q2 - q7 + q8 else 0)) := by
    have hq : q9 = 5 ∨ q9 = 4 ∨ (q9 ≠ 5 ∧ q9 ≠ 4) := by omega
    rcases hq with g | g | ⟨g1, g2⟩
    · exact ⟨none, fun _ => rfl, fun z => by omega, fun z => absurd g z⟩
    · exact ⟨some 0, fun z => by omega, fun _ => rfl, fun _ z => absurd g z⟩
    · exact ⟨_, fun z => absurd z g1, fun z => absurd z g2, fun _ _ => rfl⟩
  obtain ⟨hv, hvl, hv1⟩ := hx
  obtain ⟨cp, cp1⟩ := cx
  exact ⟨_, ok hv cp hvl, key hv cp hv1 cp1⟩
theorem plain_names {xs : List (List Nat)} {n : Nat} (h : xs.length ≤ 1000) : plainD (n + 1) (.tup (xs.map nD)) = true := by
  show (decide ((xs.map nD).length ≤ 1000000) && plainL n (xs.map nD)) = true
  rw [Bool.and_eq_true, decide_eq_true_eq, plainL_all]
  refine ⟨by rw [List.length_map]; omega, fun d m => ?_⟩
  obtain ⟨k, _, rfl⟩ := List.mem_map.mp m
  cases n <;> rfl
theorem plain_tell {ws : List (List Nat)} {c : Cs} (h4 : ws.length ≤ 4) (o : okCs ws c) : plainD 5 (.lst (tell ws c)) = true := by
  have n1 : plainD 4 (.tup ((overL c.wishes c.having c.late).map nD)) = true := plain_names (Nat.le_trans (List.length_filter_le _ _) (by have := o.wl; omega))
  have n2 : plainD 4 (.tup ((overL c.turned c.having c.late).map nD)) = true := plain_names (Nat.le_trans (List.length_filter_le _ _) (by have := tl4 o; omega))
  have n3 : plainD 4 (nxL ws c) = true := by
    show (decide ((((ws.zip c.loads).map (npass c.wishes c.having c.late c.crest)).map D.int).length ≤ 1000000) && plainL 3 (((ws.zip c.loads).map (npass c.wishes c.having c.late c.crest)).map D.int)) = true
    rw [Bool.and_eq_true, decide_eq_true_eq, plainL_all]
    refine ⟨by rw [List.length_map, List.length_map, List.length_zip]; omega, fun d m => ?_⟩
    obtain ⟨k, _, rfl⟩ := List.mem_map.mp m
    rfl
  have n4 : plainD 4 (overW (numOf ws c.loads) c.listed c.cap) = true := by
    cases c.cap with
    | none => rfl
    | some q =>
      show plainD 4 (overO _) = true
      cases c.listed.find? fun w => decide (q ≤ numOf ws c.loads w) <;> rfl
  show (decide ((tell ws c).length ≤ 1000000) && plainL 4 (tell ws c)) = true
  unfold tell
  simp only [plainL, n1, n2, n3, n4, Bool.and_true, Bool.true_and]
  rfl
theorem law_true : ∀ ns : List Int, ns.length ≤ 63 → F_law [.scr ns] = .ok (.bl true) := by
  intro ns hn
  obtain ⟨c0, e0⟩ := cell_ok (ns := ns) (k := 0) (by decide) (by omega)
  obtain ⟨hs, hl, _, he⟩ := pool_ok (c := c0) (n := 6) (by decide) (by decide)
  have hl' : hs.length = 6 := hl
  have p1 := part_ok (ps := hs) (spot := 5) (under := 1) (size := 4) (by decide) (by omega) (by decide) (by decide) (by decide)
  have a1 := part_lo (ps := hs) (spot := 5) (under := 1) (size := 4) (by decide)
  have b1 := part_hi (ps := hs) (spot := 5) (under := 1) (size := 4) (by decide)
  generalize part hs 5 1 4 = q at *
  obtain ⟨ws, wl, wo, wn, we⟩ := names_ok (ps := hs) (spot := 0) (number := 1 + q) (by decide) (by omega) (by omega) (by omega)
  have w0 : 0 < ws.length := by omega
  have w4 : ws.length ≤ 4 := by omega
  have ne : ∀ w ∈ ws, w ≠ [] := fun w m z => by have := (wo w m).1; rw [z] at this; simp at this
  have cs : ∀ k : Nat, ∃ c : Cs, okCs ws c ∧ ∀ s1 s2 s3 : Sl, eCall 2 F__law_case (aC (eCall 2 F__law_pool (aC (eCall 2 F__law_cell (aC (eV 0) (aC (e2 gAdd (eC (.int 1)) (eV 5)) (aN)))) (aC (eC (.int 7)) (aN)))) (aC (eV 2) (aN))) [.v (.scr ns), s1, .v (.lst (ws.map nD)), s2, s3, .v (.int (k : Int))] = .ok (csD c) := fun k => by
    obtain ⟨ck, ek⟩ := cell_ok (ns := ns) (k := 1 + (k : Int)) (by omega) (by omega)
    obtain ⟨ps, pl, _, pe⟩ := pool_ok (c := ck) (n := 7) (by decide) (by decide)
    obtain ⟨c, o, ce⟩ := case_ok (ps := ps) (ws := ws) w0 w4 pl
    refine ⟨c, o, fun s1 s2 s3 => ?_⟩
    simp only [eCall_ap, e2_ap, aC_ap, aN_ap, eC_ap, eV_succ, eV_zero, bind_ok, gAdd_int, List.length_cons, List.length_nil, Nat.zero_add, Nat.reduceAdd, if_true, ek, pe, ce]
  obtain ⟨x0, o0, y0⟩ := cs 0
  obtain ⟨x1, o1, y1⟩ := cs 1
  obtain ⟨x2, o2, y2⟩ := cs 2
  have lc : lcL (gN 5) tsY (eCall 2 F__law_case (aC (eCall 2 F__law_pool (aC (eCall 2 F__law_cell (aC (eV 0) (aC (e2 gAdd (eC (.int 1)) (eV 5)) (aN)))) (aC (eC (.int 7)) (aN)))) (aC (eV 2) (aN)))) [.v (.scr ns), .v (.lst (hs.map .int)), .v (.lst (ws.map nD)), .no, .no, .no] (rgD 0 3) = .ok ([x0, x1, x2].map csD) := by
    have s0 := y0 (.v (.lst (hs.map .int))) .no .no
    have s1 := y1 (.v (.lst (hs.map .int))) .no .no
    have s2 := y2 (.v (.lst (hs.map .int))) .no .no
    show lcL (gN 5) tsY _ _ [.int (0 + ((0 : Nat) : Int)), .int (0 + ((1 : Nat) : Int)), .int (0 + ((2 : Nat) : Int))] = _
    simp only [lcL, gN_ap, optR_some, bind_ok, tsY_ap, quiet_ok, if_true, List.set_cons_succ, List.set_cons_zero, Int.zero_add, s0, s1, s2]
    rfl
  have ok3 : ∀ c ∈ [x0, x1, x2], okCs ws c := fun c m => by
    simp only [List.mem_cons, List.not_mem_nil, or_false] at m
    rcases m with rfl | rfl | rfl
    · exact o0
    · exact o1
    · exact o2
  obtain ⟨ρ1, r1, t1, rfl⟩ := loop_map (inj := csD) (h := gN 4) (body := B_law_1) (l := [x0, x1, x2]) (ρ := [.v (.scr ns), .v (.lst (hs.map .int)), .v (.lst (ws.map nD)), .v (.lst ([x0, x1, x2].map csD)), .no, .no])
    (fun _ ρ => ∃ s : Sl, ρ = [.v (.scr ns), .v (.lst (hs.map .int)), .v (.lst (ws.map nD)), .v (.lst ([x0, x1, x2].map csD)), s, .no]) ⟨_, rfl⟩ (by
      rintro i c ρ qc ⟨s, rfl⟩
      refine ⟨[.v (.scr ns), .v (.lst (hs.map .int)), .v (.lst (ws.map nD)), .v (.lst ([x0, x1, x2].map csD)), .v (csD c), .no], rfl, ?_⟩
      have o := ok3 c (List.mem_of_getElem? qc)
      have f1 := place_ok wn w4 o
      have f2 := due_ok w4 ne o
      have f3 := same_ok (plain_tell w4 o)
      unfold B_law_1
      simp only [sIf_ap, sN_ap, sRet_ap, tNot_ap, tV_ap, eCall_ap, aC_ap, aN_ap, eV_succ, eV_zero, bind_ok, List.length_cons, List.length_nil, Nat.zero_add, Nat.reduceAdd, if_true, f1, f2, f3, Bof_bl, Bool.not_true, Bool.false_eq_true, if_false, from_ok, goes_nx]
      exact ⟨_, rfl⟩)
  obtain ⟨ρ2, r2, t2, rfl⟩ := loop_map (inj := csD) (h := gN 4) (body := B_law_2) (l := [x0, x1, x2]) (ρ := [.v (.scr ns), .v (.lst (hs.map .int)), .v (.lst (ws.map nD)), .v (.lst ([x0, x1, x2].map csD)), t1, .no])
    (fun _ ρ => ∃ s : Sl, ρ = [.v (.scr ns), .v (.lst (hs.map .int)), .v (.lst (ws.map nD)), .v (.lst ([x0, x1, x2].map csD)), s, .no]) ⟨_, rfl⟩ (by
      rintro i c ρ qc ⟨s, rfl⟩
      refine ⟨[.v (.scr ns), .v (.lst (hs.map .int)), .v (.lst (ws.map nD)), .v (.lst ([x0, x1, x2].map csD)), .v (csD c), .no], rfl, ?_⟩
      have o := ok3 c (List.mem_of_getElem? qc)
      have f1 := name_ok wn w4 o
      have f2 := due_ok w4 ne o
      have f3 := same_ok (plain_tell w4 o)
      unfold B_law_2
      simp only [sIf_ap, sN_ap, sRet_ap, tNot_ap, tV_ap, eCall_ap, aC_ap, aN_ap, eV_succ, eV_zero, bind_ok, List.length_cons, List.length_nil, Nat.zero_add, Nat.reduceAdd, if_true, f1, f2, f3, Bof_bl, Bool.not_true, Bool.false_eq_true, if_false, from_ok, goes_nx]
      exact ⟨_, rfl⟩)
  have sm : small62 3 := by decide
  have r3 : (3 : Int).toNat = 3 := rfl
  have sz : (rgD 0 3).length ≤ sizeLine := by rw [rgD_len, sz24]; omega
  unfold F_law G_law
  simp only [runF_ap, show startE 6 [.scr ns] = [.v (.scr ns), .no, .no, .no, .no, .no] from rfl, sSq_ap, sSet_ap, sFor_ap, iSq_ap, gIt_lst, iR1_ap, sRet_ap, e2_ap, aC_ap, aN_ap, eC_ap, eCall_ap, eLc_ap, eV_succ, eV_zero, bind_ok, List.length_cons, List.length_nil, Nat.zero_add, Nat.reduceAdd, if_true, e0, he, p1, gAdd_int, we, sm, r3, sz, wipeE_cons, wipeE_nil, List.set_cons_succ, List.set_cons_zero, from_ok, sq_nx]
  simp only [lc, bind_ok, from_ok, sq_nx, List.set_cons_succ, List.set_cons_zero, eV_succ, eV_zero, gIt_lst, r1, r2, sSq_ap, sFor_ap, iSq_ap, sRet_ap, eC_ap, out_rt]
end Tk

set_option maxHeartbeats 0
namespace Tk
open PySem PySem.Spec L2 PyProof.Rows
abbrev Rw : PySem.W.OpenRow := PySem.W.OpenLaw.row PySem.Challenge.rw_turnsandkeys_k40_passes_counted
abbrev hookL : PySem.W.Hook := He.hookD 5 fa fn
def obL (s : PySem.W.SharedT) : He.AlD := He.obsDG 5 fa fn (HandSHeadRun.getT s)
theorem obL_eq (s : PySem.W.SharedT) : obL s = hookL.obs s.abs := He.obsDG_eq (HandSHeadRun.getT_eq s)
def loose : List PySem.Str := (["passed_over", "next_passes", "first_over", "longest", "_law_cell", "_law_mixed", "_law_pool", "_law_part", "_law_names", "_law_some", "_law_integer", "_law_same", "_law_shuffled", "_law_case", "_law_after", "_law_over", "_law_longest", "_law_by_place", "_law_by_name", "_law_due"] : List PySem.Str)
theorem runL (w : World) : HandSHeadRun.RunEq Rw (PySem.W.view Rw.prog [22]) hookL obL 4000 loose w := by
  intro os
  kernel_rfl
theorem head_ok {w : World} {K : PySem.W.Frag} {h : Heap} {mg : Str → Option Value} {f : Addr} (X : K.In h) (G : h.Ns mainGlobals mg) (hfa : mg ("law" : Str) = some (.ref f)) (c : He.SaysD fa fn K) : LawOk PySem.Challenge.rw_turnsandkeys_k40_passes_counted F_law 9 w mg f h := by
  have T : Says fa fn K mg := ⟨⟨h, X, G⟩, c⟩
  obtain ⟨fd, F⟩ := T.fd (dd := []) (kd := []) 20 rfl rfl rfl
  have e := hfa.symm.trans (He.glo_ok X G (T.c.fact 38 (f := .glo "law") rfl))
  cases e
  refine ⟨K, fd, ⟨fun _ => none, fun _ => Str.empty⟩, X, fun s u => FunD.bindsA (ps := ["script"]) F (fun _ _ _ _ _ _ us hl => match us, hl with | [_], _ => rfl) s [u] rfl, fun b KB NB => ?_⟩
  have T2 : Says fa fn K mg := ⟨⟨b, KB, NB⟩, c⟩
  obtain ⟨f2, fd2, F2, h2, h3⟩ := (d_law (P := (PySem.Challenge.rw_turnsandkeys_k40_passes_counted).prog) (w := w) (base := b) T2).ex
  have e2 := (He.glo_ok X G (T.c.fact 38 (f := .glo "law") rfl)).symm.trans h2
  cases e2
  have e3 : fd2 = fd := FunD.same h3 F
  rw [← e3]
  exact F2
end Tk
open PySem PySem.W PySem.Calls PyProof.Rows
theorem PySem.Challenge.cw_turnsandkeys_k40_passes_counted_holds : PySem.Challenge.rw_turnsandkeys_k40_passes_counted.Holds := by
  w_on; o_law
  refine HandSHeadRun.head_any (r := OpenLaw.row PySem.Challenge.rw_turnsandkeys_k40_passes_counted) (q := view (OpenLaw.row PySem.Challenge.rw_turnsandkeys_k40_passes_counted).prog [22]) (H := Tk.hookL) (ob := Tk.obL) (M := 4000) (loose := Tk.loose) (d := HandSHeadRun.topDef (OpenLaw.row PySem.Challenge.rw_turnsandkeys_k40_passes_counted).prog 22) (kwd := []) Tk.obL_eq
    (by kernel_rfl) (fun s => by kernel_rfl) Tk.runL (by kernel_rfl) (by kernel_rfl) (by kernel_rfl) (by rfl) (by first | assumption | decide +kernel) (by decide +kernel) ⟨rfl, rfl, rfl, rfl, rfl, by decide +kernel⟩ ?hw ?hc
  case hw => w_witness2
  case hc =>
    refine Tk.law_walk (l := PySem.Challenge.rw_turnsandkeys_k40_passes_counted) (k := 9) (F := Tk.F_law) rfl (by kernel_rfl) ⟨rfl, by decide, by decide⟩ ?F Tk.law_true
    intro w mg fa h Y G hmg0
    obtain ⟨K, KX, c⟩ := Y
    refine Tk.head_ok KX G ?_ c
    have e : (HandSHeadRun.topDef (OpenLaw.row PySem.Challenge.rw_turnsandkeys_k40_passes_counted).prog 22).name = ("law" : PySem.Str) := by kernel_rfl
    rw [← e]
    exact hmg0
