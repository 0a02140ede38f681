import PyProof.Rows.All
import Wide.All
import OpenK.AllK
import Wide.FinOn
import HandS.ForMost
import HandS.WordsExc
import HandS.Exc
import HandS.ExcOwn
import HandS.TryOnly
import HandS.IsInst
import HandS.Flow
import HandS.Zip
import HandS.DictTup
import HandS.Wide
import HandS.TupAny
import HandS.Style
import HandS.Deep
import HandS.TupLe
import HandS.Defaults
import HandS.Rev
import HandS.IterVal
import HandS.More
import KE.GoesNew
import HandS.SortRule
import HandS.SortInts
import HandS.HeadHook2
import HandS.MakeKw
import HandS.MakeKwOnly
import HandS.Dict
import HandS.ForDict
import KE.KDictZip
import HandS.Property
import HandS.MethStar
import HandS.SortKw
import HandS.DictComp
import HandS.Strs
import KE.LtSeq
import KE.KSortAsk
import KE.KTupSum
import KE.KStateDown
import HandS.Ends
import HandS.Head0
import HandS.Head1
import HandS.Head2
import HandS.Head3
import HandS.HeadEnd
import HandS.Gcd
import HandS.OwnEq
import HandS.Conv
import PySem.Challenge.RW_turnsandkeys_k32_guests_mean
set_option Elab.async false
set_option linter.all false
set_option maxRecDepth 100000
namespace Tk
open PySem PySem.Spec L2

inductive D where
  | non | bl (b : Bool) | int (i : Int) | str (s : Str) | ty (n : String) | cl (c : Nat)
  | scr (ns : List Int)
  | lst (xs : List D) | tup (xs : List D) | tpz (xs : List D)
  | dK (kvs : List (Key × D)) | dT (kvs : List (List Key × D))
  | ins (c : Nat) (fs : List (Nat × D))
/-- the classes' places, the attributes' names -/
structure Cn where
  a : Nat → Option Addr
  n : Nat → Str

/-- a tuple that the run has laid (an empty one may be the module's) -/
def TupAt (K : PySem.W.Frag) (G : Hp) (a : Addr) (vs : List V) : Prop := G a = some (.tup vs) ∨ (vs = [] ∧ SqT K G a vs)
section
variable (K : PySem.W.Frag) (ca : Cn) (G : Hp)
mutual
def At : D → V → Prop
  | .non, v => v = .non
  | .bl b, v => v = .bl b
  | .int i, v => v = .int i
  | .str s, v => v = .str s
  | .ty n, v => v = .ty n
  | .cl c, v => ∃ C, ca.a c = some C ∧ v = .ref C
  | .scr ns, v => ∃ a, v = .ref a ∧ SqL K G a (ns.map V.int)
  | .lst xs, v => ∃ a vs, v = .ref a ∧ G a = some (.lst vs) ∧ AtL xs vs
  | .tup xs, v => ∃ a vs, v = .ref a ∧ TupAt K G a vs ∧ AtL xs vs
  | .tpz xs, v => ∃ a o vs, v = .ref a ∧ (o.cls = .type "tuple" ∧ o.dict = none) ∧ G a = some (.frz o (.tup vs)) ∧ AtL xs vs
  | .dK kvs, v => ∃ a vs, v = .ref a ∧ G a = some (.dK vs) ∧ AtK kvs vs
  | .dT kvs, v => ∃ a vs, v = .ref a ∧ G a = some (.dT vs) ∧ AtT kvs vs
  | .ins c fs, v => ∃ a C dx vs, v = .ref a ∧ ca.a c = some C ∧ G a = some (.ins C dx vs) ∧ AtF fs vs
def AtL : List D → List V → Prop
  | [], vs => vs = []
  | d :: ds, vs => ∃ v r, vs = v :: r ∧ At d v ∧ AtL ds r
def AtK : List (Key × D) → List (Key × V) → Prop
  | [], vs => vs = []
  | (k, d) :: ds, vs => ∃ v r, vs = (k, v) :: r ∧ At d v ∧ AtK ds r
def AtT : List (List Key × D) → List (List Key × V) → Prop
  | [], vs => vs = []
  | (k, d) :: ds, vs => ∃ v r, vs = (k, v) :: r ∧ At d v ∧ AtT ds r
def AtF : List (Nat × D) → List (Str × V) → Prop
  | [], vs => vs = []
  | (k, d) :: ds, vs => ∃ v r, vs = (ca.n k, v) :: r ∧ At d v ∧ AtF ds r
end
end

theorem Rd.mono {G G' : Hp} {a : Addr} {u : HO} (s : Same G G') (h : Rd G a u) : Rd G' a u := by
  rcases h with h | ⟨o, h⟩
  · exact .inl (s _ _ h)
  · exact .inr ⟨o, s _ _ h⟩
theorem SqL_mono {K : PySem.W.Frag} {G G' : Hp} {a : Addr} {xs : List V} (s : Same G G') (h : SqL K G a xs) : SqL K G' a xs := s.seq h
theorem SqT_mono {K : PySem.W.Frag} {G G' : Hp} {a : Addr} {xs : List V} (s : Same G G') (h : SqT K G a xs) : SqT K G' a xs := by
  rcases h with h | h
  · exact .inl (Rd.mono s h)
  · exact .inr h

theorem TupAt.mono {K : PySem.W.Frag} {G G' : Hp} {a : Addr} {vs : List V} (s : Same G G') (h : TupAt K G a vs) : TupAt K G' a vs := h.elim (fun h => .inl (s _ _ h)) fun h => .inr ⟨h.1, SqT_mono s h.2⟩
/-- read at a later heap -/
theorem tq {K : PySem.W.Frag} {G G' : Hp} {a : Addr} {vs : List V} (s : Same G G') (h : TupAt K G a vs) : SqT K G' a vs := h.elim (fun h => .of (s _ _ h)) fun h => SqT_mono s h.2
section
variable {K : PySem.W.Frag} {ca : Cn} {G G' : Hp}
mutual
theorem At.mono (s : Same G G') : ∀ {d : D} {v : V}, At K ca G d v → At K ca G' d v
  | .non, v, h => h
  | .bl _, v, h => h
  | .int _, v, h => h
  | .str _, v, h => h
  | .ty _, v, h => h
  | .cl _, v, h => h
  | .scr ns, v, ⟨a, e, h⟩ => ⟨a, e, SqL_mono s h⟩
  | .lst xs, v, ⟨a, vs, e, h, r⟩ => ⟨a, vs, e, s _ _ h, AtL.mono s r⟩
  | .tup xs, v, ⟨a, vs, e, h, r⟩ => ⟨a, vs, e, TupAt.mono s h, AtL.mono s r⟩
  | .tpz xs, v, ⟨a, o, vs, e, q, h, r⟩ => ⟨a, o, vs, e, q, s _ _ h, AtL.mono s r⟩
  | .dK xs, v, ⟨a, vs, e, h, r⟩ => ⟨a, vs, e, s _ _ h, AtK.mono s r⟩
  | .dT xs, v, ⟨a, vs, e, h, r⟩ => ⟨a, vs, e, s _ _ h, AtT.mono s r⟩
  | .ins c xs, v, ⟨a, C, dx, vs, e, q, h, r⟩ => ⟨a, C, dx, vs, e, q, s _ _ h, AtF.mono s r⟩
theorem AtL.mono (s : Same G G') : ∀ {ds : List D} {vs : List V}, AtL K ca G ds vs → AtL K ca G' ds vs
  | [], _, h => h
  | _ :: _, _, ⟨v, r, e, h, t⟩ => ⟨v, r, e, At.mono s h, AtL.mono s t⟩
theorem AtK.mono (s : Same G G') : ∀ {ds : List (Key × D)} {vs : List (Key × V)}, AtK K ca G ds vs → AtK K ca G' ds vs
  | [], _, h => h
  | (_, _) :: _, _, ⟨v, r, e, h, t⟩ => ⟨v, r, e, At.mono s h, AtK.mono s t⟩
theorem AtT.mono (s : Same G G') : ∀ {ds : List (List Key × D)} {vs : List (List Key × V)}, AtT K ca G ds vs → AtT K ca G' ds vs
  | [], _, h => h
  | (_, _) :: _, _, ⟨v, r, e, h, t⟩ => ⟨v, r, e, At.mono s h, AtT.mono s t⟩
theorem AtF.mono (s : Same G G') : ∀ {ds : List (Nat × D)} {vs : List (Str × V)}, AtF K ca G ds vs → AtF K ca G' ds vs
  | [], _, h => h
  | (_, _) :: _, _, ⟨v, r, e, h, t⟩ => ⟨v, r, e, At.mono s h, AtF.mono s t⟩
end
theorem AtL.length : ∀ {ds : List D} {vs : List V}, AtL K ca G ds vs → ds.length = vs.length
  | [], _, h => by cases h; rfl
  | _ :: _, _, ⟨_, _, e, _, t⟩ => by subst e; simp [AtL.length t]
theorem AtL.get : ∀ {ds : List D} {vs : List V} {i : Nat} {d : D}, AtL K ca G ds vs → ds[i]? = some d → ∃ v, vs[i]? = some v ∧ At K ca G d v
  | [], _, _, _, _, e => by simp at e
  | d :: ds, _, 0, _, ⟨v, r, e, h, t⟩, q => by subst e; simp at q; subst q; exact ⟨v, rfl, h⟩
  | d :: ds, _, i + 1, _, ⟨v, r, e, h, t⟩, q => by
    subst e
    obtain ⟨w, h1, h2⟩ := AtL.get (i := i) t (by simpa using q)
    exact ⟨w, by simpa using h1, h2⟩
theorem AtL.append : ∀ {ds es : List D} {vs ws : List V}, AtL K ca G ds vs → AtL K ca G es ws → AtL K ca G (ds ++ es) (vs ++ ws)
  | [], _, _, _, h, h' => by cases h; exact h'
  | _ :: _, _, _, _, ⟨v, r, e, h, t⟩, h' => by subst e; exact ⟨v, _, rfl, h, AtL.append t h'⟩
theorem AtL.one {d : D} {v : V} (h : At K ca G d v) : AtL K ca G [d] [v] := ⟨v, [], rfl, h, rfl⟩
theorem AtL.drop : ∀ {ds : List D} {vs : List V} (n : Nat), AtL K ca G ds vs → AtL K ca G (ds.drop n) (vs.drop n)
  | _, _, 0, h => h
  | [], _, _ + 1, h => by cases h; rfl
  | _ :: _, _, n + 1, ⟨_, _, e, _, t⟩ => by subst e; exact AtL.drop n t
theorem AtL.take : ∀ {ds : List D} {vs : List V} (n : Nat), AtL K ca G ds vs → AtL K ca G (ds.take n) (vs.take n)
  | _, _, 0, _ => rfl
  | [], _, _ + 1, h => by cases h; rfl
  | _ :: _, _, n + 1, ⟨_, _, e, h, t⟩ => by subst e; exact ⟨_, _, rfl, h, AtL.take n t⟩
theorem AtL.reverse : ∀ {ds : List D} {vs : List V}, AtL K ca G ds vs → AtL K ca G ds.reverse vs.reverse
  | [], _, h => by cases h; rfl
  | _ :: _, _, ⟨_, _, e, h, t⟩ => by subst e; rw [List.reverse_cons, List.reverse_cons]; exact AtL.append (AtL.reverse t) (AtL.one h)
theorem AtL.set : ∀ {ds : List D} {vs : List V} (n : Nat) {d : D} {v : V}, AtL K ca G ds vs → At K ca G d v → AtL K ca G (ds.set n d) (vs.set n v)
  | [], _, _, _, _, h, _ => by cases h; rfl
  | _ :: _, _, 0, _, _, ⟨_, _, e, h, t⟩, q => by subst e; exact ⟨_, _, rfl, q, t⟩
  | _ :: _, _, n + 1, _, _, ⟨_, _, e, h, t⟩, q => by subst e; exact ⟨_, _, rfl, h, AtL.set n t q⟩
theorem AtL.ints : ∀ {ns : List Int} {vs : List V}, AtL K ca G (ns.map D.int) vs → vs = ns.map V.int
  | [], _, h => h
  | _ :: _, _, ⟨_, _, e, h, t⟩ => by subst e; cases h; rw [AtL.ints t]; rfl
theorem AtL.of_ints : ∀ (ns : List Int), AtL K ca G (ns.map D.int) (ns.map V.int)
  | [] => rfl
  | _ :: ns => ⟨_, _, rfl, rfl, AtL.of_ints ns⟩
theorem AtL.eraseIdx : ∀ {ds : List D} {vs : List V} (n : Nat), AtL K ca G ds vs → AtL K ca G (ds.eraseIdx n) (vs.eraseIdx n)
  | [], _, _, h => by cases h; rfl
  | _ :: _, _, 0, ⟨_, _, e, h, t⟩ => by subst e; exact t
  | _ :: _, _, n + 1, ⟨_, _, e, h, t⟩ => by subst e; exact ⟨_, _, rfl, h, AtL.eraseIdx n t⟩
theorem AtF.lookup : ∀ {fs : List (Nat × D)} {vs : List (Str × V)} {n : Nat} {d : D}, (∀ p ∈ fs, ca.n p.1 = ca.n n → p.1 = n) → AtF K ca G fs vs → fs.lookup n = some d → ∃ v, vs.lookup (ca.n n) = some v ∧ At K ca G d v
  | [], _, _, _, _, _, e => by simp at e
  | (k, d) :: ds, _, n, _, i, ⟨v, r, e, h, t⟩, q => by
    subst e
    rw [List.lookup_cons] at q ⊢
    by_cases z : n = k
    · subst z
      rw [beq_self_eq_true] at q ⊢
      cases q
      exact ⟨v, rfl, h⟩
    · have z' : (ca.n n == ca.n k) = false := beq_eq_false_iff_ne.mpr fun y => z (i (k, d) List.mem_cons_self y.symm).symm
      rw [beq_eq_false_iff_ne.mpr z] at q
      rw [z']
      exact AtF.lookup (fun p m => i p (List.mem_cons_of_mem _ m)) t q
theorem AtF.lookup_none : ∀ {fs : List (Nat × D)} {vs : List (Str × V)} {n : Str}, (∀ p ∈ fs, ca.n p.1 ≠ n) → AtF K ca G fs vs → vs.lookup n = none
  | [], _, _, _, h => by cases h; rfl
  | (k, d) :: ds, _, n, i, ⟨v, r, e, h, t⟩ => by
    subst e
    rw [List.lookup_cons, beq_eq_false_iff_ne.mpr (Ne.symm (i (k, d) List.mem_cons_self))]
    exact AtF.lookup_none (fun p m => i p (List.mem_cons_of_mem _ m)) t
end

/-! ### heaps that grow -/
structure Ext (G H G' H' : Hp) : Prop where
  hh : Same H H'
  gg : Same G G'
  gh : Same G' H'
  nw : ∀ a, G' a ≠ none → G a ≠ none ∨ H a = none
theorem Ext.refl {G H : Hp} (s : Same G H) : Ext G H G H := ⟨.refl _, .refl _, s, fun _ h => .inl h⟩
theorem same_none {H H' : Hp} (s : Same H H') {a : Addr} (h : H' a = none) : H a = none := by
  cases e : H a with
  | none => rfl
  | some o => rw [s a o e] at h; cases h
theorem same_some {H H' : Hp} (s : Same H H') {a : Addr} (h : H a ≠ none) : H' a ≠ none := fun z => h (same_none s z)
theorem Ext.trans {G H G1 H1 G2 H2 : Hp} (e : Ext G H G1 H1) (f : Ext G1 H1 G2 H2) : Ext G H G2 H2 :=
  ⟨e.hh.trans f.hh, e.gg.trans f.gg, f.gh, fun a h => (f.nw a h).elim (e.nw a) fun z => .inr (same_none e.hh z)⟩
theorem same_upd {H : Hp} {p : Addr} {o : HO} (n : H p = none) : Same H (upd H p o) := fun b u e => by
  rw [upd_ne (ne_of_none e n)]; exact e
theorem same_upd2 {G H : Hp} {p : Addr} {o : HO} (s : Same G H) : Same (upd G p o) (upd H p o) := fun b u e => by
  by_cases h : b = p
  · subst h; rw [upd_same] at e ⊢; exact e
  · rw [upd_ne h] at e ⊢; exact s _ _ e
/-- a new object that nobody changes any more -/
theorem Ext.new {G H : Hp} {p : Addr} {o : HO} (s : Same G H) (n : H p = none) : Ext G H (upd G p o) (upd H p o) := by
  refine ⟨same_upd n, same_upd (same_none s n), same_upd2 s, fun a h => ?_⟩
  by_cases e : a = p
  · subst e; exact .inr n
  · rw [upd_ne e] at h; exact .inl h

/-! ### results -/
structure Ex where
  c : Nat
  fs : List (Nat × D)
inductive R (α : Type) where
  | ok (a : α) | exc (x : Ex) | bad
def R.bind {α β : Type} (r : R α) (k : α → R β) : R β := match r with
  | .ok a => k a
  | .exc x => .exc x
  | .bad => .bad
instance : Monad R where
  pure := .ok
  bind := R.bind
@[simp] theorem bind_ok {α β : Type} (a : α) (k : α → R β) : R.bind (.ok a) k = k a := (rfl)
@[simp] theorem bind_exc {α β : Type} (x : Ex) (k : α → R β) : R.bind (.exc x) k = .exc x := (rfl)
@[simp] theorem bind_bad {α β : Type} (k : α → R β) : R.bind .bad k = .bad := (rfl)

/-- how a raised exception lies -/
def ExAt (K : PySem.W.Frag) (ca : Cn) (G H : Hp) (x : Ex) (c : Value) (dx : Option Addr) : Prop :=
  ∃ C, ca.a x.c = some C ∧ c = .ref C ∧ ((x.fs = [] ∧ dx = none) ∨ ∃ d vs, dx = some d ∧ H d = some (.xd vs) ∧ AtF K ca G x.fs vs)

section
variable (K : PySem.W.Frag) (ca : Cn)
/-- what is wanted of a result -/
def Wish {α : Type} (S : Hp → α → Hp → Prop) (G H : Hp) (r : R α) (W1 : XK) : Prop := match r with
  | .ok d => ∀ G' H', Ext G H G' H' → S G' d H'
  | .exc x => ∀ G' H' c dx, Ext G H G' H' → ExAt K ca G' H' x c dx → W1 c dx H'
  | .bad => False
/-- .. of a value -/
abbrev SV (Q : VK) : Hp → D → Hp → Prop := fun G' d H' => ∀ v, At K ca G' d v → Q v H'
abbrev SB (Q : Bool → Hp → Prop) : Hp → Bool → Hp → Prop := fun _ b H' => Q b H'
abbrev SL (Q : List V → Hp → Prop) : Hp → List D → Hp → Prop := fun G' ds H' => ∀ vs, AtL K ca G' ds vs → Q vs H'
end
section
variable {K : PySem.W.Frag} {ca : Cn} {α β : Type} {S : Hp → α → Hp → Prop} {G H G' H' : Hp} {W1 : XK}
theorem Wish.mono {r : R α} (h : Wish K ca S G H r W1) (e : Ext G H G' H') : Wish K ca S G' H' r W1 := by
  cases r with
  | ok d => exact fun G2 H2 f => h G2 H2 (e.trans f)
  | exc x => exact fun G2 H2 c dx f => h G2 H2 c dx (e.trans f)
  | bad => exact h
theorem Wish.bind {r : R β} {k : β → R α} {S1 : Hp → β → Hp → Prop} (h : Wish K ca S G H (r.bind k) W1) (hk : ∀ d G1 H1, r = .ok d → Ext G H G1 H1 → Wish K ca S G1 H1 (k d) W1 → S1 G1 d H1) : Wish K ca S1 G H r W1 := by
  cases r with
  | ok d => exact fun G1 H1 e => hk d G1 H1 rfl e (Wish.mono (r := k d) h e)
  | exc x => exact h
  | bad => exact h
/-- the result without a change -/
theorem Wish.here {d : α} (h : Wish K ca S G H (.ok d) W1) (s : Same G H) : S G d H := h G H (.refl s)
end
end Tk

namespace Tk
open PySem PySem.Spec L2
/-! ### what the slots hold -/
inductive Sl where
  | no | v (d : D) | l (xs : List D) | k (kvs : List (Key × D)) | t (kvs : List (List Key × D)) | o (g : Option Addr) (c : Nat) (fs : List (Nat × D))
abbrev Ev := List Sl
def Sl.own : Sl → Bool
  | .no => false
  | .v _ => false
  | _ => true
section
variable (K : PySem.W.Frag) (ca : Cn)
def Own (G H : Hp) (a : Addr) : Sl → Prop
  | .no => False
  | .v _ => False
  | .l xs => ∃ vs, H a = some (.lst vs) ∧ AtL K ca G xs vs
  | .k xs => ∃ vs, H a = some (.dK vs) ∧ AtK K ca G xs vs
  | .t xs => ∃ vs, H a = some (.dT vs) ∧ AtT K ca G xs vs
  | .o g c fs => ∃ C dx vs, (∀ b, g = some b → a = b) ∧ ca.a c = some C ∧ H a = some (.ins C dx vs) ∧ AtF K ca G fs vs
/-- the slots of the frame and what they hold; B: what stood at the entry -/
structure Rel (B G H : Hp) (σ : L2.St) (ρ : Ev) : Prop where
  len : σ.length = ρ.length
  val : ∀ (i : Nat) (d : D), ρ[i]? = some (.v d) → ∃ v, σ[i]? = some (some v) ∧ At K ca G d v
  own : ∀ (i : Nat) (s : Sl), ρ[i]? = some s → s.own = true → ∃ a, σ[i]? = some (some (.ref a)) ∧ Own K ca G H a s ∧ G a = none ∧ B a = none
  sep : ∀ (i j : Nat) (s t : Sl) (a : Addr), ρ[i]? = some s → s.own = true → ρ[j]? = some t → t.own = true → σ[i]? = some (some (.ref a)) → σ[j]? = some (some (.ref a)) → i = j
end
section
variable {K : PySem.W.Frag} {ca : Cn} {B G H G' H' : Hp} {σ : L2.St} {ρ : Ev}
theorem Own.ext {a : Addr} {s : Sl} (h : Own K ca G H a s) (sg : Same G G') (e : H' a = H a) : Own K ca G' H' a s := by
  cases s with
  | no => exact h
  | v d => exact h
  | l xs => obtain ⟨vs, h1, h2⟩ := h; exact ⟨vs, e.trans h1, AtL.mono sg h2⟩
  | k xs => obtain ⟨vs, h1, h2⟩ := h; exact ⟨vs, e.trans h1, AtK.mono sg h2⟩
  | t xs => obtain ⟨vs, h1, h2⟩ := h; exact ⟨vs, e.trans h1, AtT.mono sg h2⟩
  | o g c fs => obtain ⟨C, dx, vs, hg, h0, h1, h2⟩ := h; exact ⟨C, dx, vs, hg, h0, e.trans h1, AtF.mono sg h2⟩
theorem Own.some {a : Addr} {s : Sl} (h : Own K ca G H a s) : ∃ o, H a = some o := by
  cases s with
  | no => exact h.elim
  | v d => exact h.elim
  | l xs => obtain ⟨vs, h1, h2⟩ := h; exact ⟨_, h1⟩
  | k xs => obtain ⟨vs, h1, h2⟩ := h; exact ⟨_, h1⟩
  | t xs => obtain ⟨vs, h1, h2⟩ := h; exact ⟨_, h1⟩
  | o g c fs => obtain ⟨C, dx, vs, hg, h0, h1, h2⟩ := h; exact ⟨_, h1⟩
theorem Rel.ext (r : Rel K ca B G H σ ρ) (e : Ext G H G' H') : Rel K ca B G' H' σ ρ where
  len := r.len
  val := fun i d h => let ⟨v, h1, h2⟩ := r.val i d h; ⟨v, h1, At.mono e.gg h2⟩
  own := fun i s h ho => by
    obtain ⟨a, h1, h2, h3, h4⟩ := r.own i s h ho
    obtain ⟨o, h5⟩ := h2.some
    refine ⟨a, h1, h2.ext e.gg ((e.hh _ _ h5).trans h5.symm), ?_, h4⟩
    cases q : G' a with
    | none => rfl
    | some u =>
      rcases e.nw a (by rw [q]; simp) with z | z
      · exact (z h3).elim
      · rw [h5] at z; cases z
  sep := r.sep
theorem getElem?_set' {α : Type} {l : List α} {i j : Nat} {x y : α} (h : (l.set i x)[j]? = some y) : (j = i ∧ y = x) ∨ (j ≠ i ∧ l[j]? = some y) := by
  by_cases e : i = j
  · subst e
    rw [List.getElem?_set_self'] at h
    cases q : l[i]? with
    | none => rw [q] at h; cases h
    | some z => rw [q] at h; cases h; exact .inl ⟨rfl, rfl⟩
  · rw [List.getElem?_set_ne e] at h; exact .inr ⟨fun z => e z.symm, h⟩
theorem Rel.set (r : Rel K ca B G H σ ρ) (i : Nat) {d : D} {v : V} (h : At K ca G d v) : Rel K ca B G H (σ.set i (some v)) (ρ.set i (.v d)) where
  len := by rw [List.length_set, List.length_set]; exact r.len
  val := fun j e q => by
    rcases getElem?_set' q with ⟨rfl, z⟩ | ⟨ne, q⟩
    · cases z
      refine ⟨v, ?_, h⟩
      have : j < σ.length := by
        rw [r.len]
        have := (List.getElem?_eq_some_iff.mp q).1
        rwa [List.length_set] at this
      rw [List.getElem?_set_self this]
    · obtain ⟨w, h1, h2⟩ := r.val j e q
      exact ⟨w, by rw [List.getElem?_set_ne (Ne.symm ne)]; exact h1, h2⟩
  own := fun j s q ho => by
    rcases getElem?_set' q with ⟨rfl, z⟩ | ⟨ne, q⟩
    · cases z; cases ho
    · obtain ⟨a, h1, h2⟩ := r.own j s q ho
      exact ⟨a, by rw [List.getElem?_set_ne (Ne.symm ne)]; exact h1, h2⟩
  sep := fun j k s t a qj oj qk ok hj hk => by
    rcases getElem?_set' qj with ⟨rfl, z⟩ | ⟨nj, qj⟩
    · cases z; cases oj
    · rcases getElem?_set' qk with ⟨rfl, z⟩ | ⟨nk, qk⟩
      · cases z; cases ok
      · rw [List.getElem?_set_ne (Ne.symm nj)] at hj
        rw [List.getElem?_set_ne (Ne.symm nk)] at hk
        exact r.sep j k s t a qj oj qk ok hj hk
/-- an own object comes to a slot -/
theorem Rel.setOwn (r : Rel K ca B G H σ ρ) (i : Nat) {s : Sl} {a : Addr} (ho : s.own = true) (h : Own K ca G H a s) (hg : G a = none) (hb : B a = none)
    (hn : ∀ (j : Nat) (t : Sl), j ≠ i → ρ[j]? = some t → t.own = true → σ[j]? ≠ some (some (.ref a))) : Rel K ca B G H (σ.set i (some (.ref a))) (ρ.set i s) where
  len := by rw [List.length_set, List.length_set]; exact r.len
  val := fun j e q => by
    rcases getElem?_set' q with ⟨rfl, z⟩ | ⟨ne, q⟩
    · rw [← z] at ho; cases ho
    · obtain ⟨w, h1, h2⟩ := r.val j e q
      exact ⟨w, by rw [List.getElem?_set_ne (Ne.symm ne)]; exact h1, h2⟩
  own := fun j s' q ho' => by
    rcases getElem?_set' q with ⟨rfl, z⟩ | ⟨ne, q⟩
    · subst z
      refine ⟨a, ?_, h, hg, hb⟩
      have : j < σ.length := by
        rw [r.len]
        have := (List.getElem?_eq_some_iff.mp q).1
        rwa [List.length_set] at this
      rw [List.getElem?_set_self this]
    · obtain ⟨a', h1, h2⟩ := r.own j s' q ho'
      exact ⟨a', by rw [List.getElem?_set_ne (Ne.symm ne)]; exact h1, h2⟩
  sep := fun j k s' t b qj oj qk ok hj hk => by
    have lt : ∀ {j : Nat} {s' : Sl}, (ρ.set i s)[j]? = some s' → j < σ.length := fun {j s'} q => by
      rw [r.len]
      have := (List.getElem?_eq_some_iff.mp q).1
      rwa [List.length_set] at this
    have lj := lt qj
    have lk := lt qk
    by_cases ej : j = i
    · subst ej
      rw [List.getElem?_set_self lj] at hj
      cases hj
      by_cases ek : k = j
      · exact ek.symm
      · rw [List.getElem?_set_ne (Ne.symm ek)] at hk qk
        exact (hn k t ek qk ok hk).elim
    · rw [List.getElem?_set_ne (Ne.symm ej)] at hj qj
      by_cases ek : k = i
      · subst ek
        rw [List.getElem?_set_self lk] at hk
        cases hk
        exact (hn j s' ej qj oj hj).elim
      · rw [List.getElem?_set_ne (Ne.symm ek)] at hk qk
        exact r.sep j k s' t b qj oj qk ok hj hk
end

/-! ### judgements -/
structure FE (X : Cx) (ca : Cn) (W : WX) (e : Expr) (f : Ev → R D) : Prop where
  ex : ∃ t, PE X e t ∧ ∀ B G H σ ρ Q, Same G H → Same B H → Rel X.K ca B G H σ ρ → Wish X.K ca (SV X.K ca Q) G H (f ρ) (WE W σ) → t σ H Q
structure FT (X : Cx) (ca : Cn) (W : WX) (e : Expr) (f : Ev → R Bool) : Prop where
  ex : ∃ t, PT X e t ∧ ∀ B G H σ ρ Q, Same G H → Same B H → Rel X.K ca B G H σ ρ → Wish X.K ca (SB Q) G H (f ρ) (WE W σ) → t σ H Q
structure FW (X : Cx) (ca : Cn) (W : WX) (e : Expr) (f : Ev → R Bool) : Prop where
  ex : ∃ t, PW X e t ∧ ∀ B G H σ ρ Q, Same G H → Same B H → Rel X.K ca B G H σ ρ → Wish X.K ca (SB Q) G H (f ρ) (WE W σ) → t σ H Q
structure FA (X : Cx) (ca : Cn) (W : WX) (es : List Expr) (f : Ev → R (List D)) : Prop where
  ex : ∃ t, PA X es t ∧ ∀ B G H σ ρ Q, Same G H → Same B H → Rel X.K ca B G H σ ρ → Wish X.K ca (SL X.K ca Q) G H (f ρ) (WE W σ) → t σ H Q
structure FK (X : Cx) (ca : Cn) (W : WX) (es : List Keyword) (f : Ev → R (List D)) : Prop where
  ex : ∃ t, PK X es t ∧ ∀ B G H σ ρ Q, Same G H → Same B H → Rel X.K ca B G H σ ρ → Wish X.K ca (SL X.K ca Q) G H (f ρ) (WE W σ) → t σ H Q

inductive SO where
  | nx (ρ : Ev) | rt (d : D) | ro (s : Sl) | bk (ρ : Ev) | ct (ρ : Ev) | ex (x : Ex) (ρ : Ev) | bad
structure Adv (B G G' H' : Hp) : Prop where
  gg : Same G G'
  gh : Same G' H'
  bh : Same B H'
  nw : ∀ a, G' a ≠ none → G a ≠ none ∨ B a = none
theorem Adv.refl {B G H : Hp} (s : Same G H) (b : Same B H) : Adv B G G H := ⟨.refl _, s, b, fun _ h => .inl h⟩
theorem Adv.trans {B G G1 H1 G2 H2 : Hp} (e : Adv B G G1 H1) (f : Adv B G1 G2 H2) : Adv B G G2 H2 :=
  ⟨e.gg.trans f.gg, f.gh, f.bh, fun a h => (f.nw a h).elim (e.nw a) .inr⟩
theorem Ext.adv {B G H G' H' : Hp} (e : Ext G H G' H') (b : Same B H) : Adv B G G' H' :=
  ⟨e.gg, e.gh, b.trans e.hh, fun a h => (e.nw a h).elim .inl fun z => .inr (same_none b z)⟩
section
variable (K : PySem.W.Frag) (ca : Cn)
def WishS (B G : Hp) (r : SO) (D : Ends) (W : WX) : Prop := match r with
  | .nx ρ => ∀ σ' G' H', Adv B G G' H' → Rel K ca B G' H' σ' ρ → D.nx σ' H'
  | .bk ρ => ∀ σ' G' H', Adv B G G' H' → Rel K ca B G' H' σ' ρ → D.bk σ' H'
  | .ct ρ => ∀ σ' G' H', Adv B G G' H' → Rel K ca B G' H' σ' ρ → D.ct σ' H'
  | .rt d => ∀ v G' H', Adv B G G' H' → At K ca G' d v → D.rt v H'
  | .ro s => s.own = true ∧ ∀ a G' H', Adv B G G' H' → Own K ca G' H' a s → G' a = none → B a = none → D.rt (.ref a) H'
  | .ex x ρ => ∀ σ' G' H' c dx, Adv B G G' H' → Rel K ca B G' H' σ' ρ → ExAt K ca G' H' x c dx → W c dx σ' H'
  | .bad => False
end
theorem WishS.mono {K : PySem.W.Frag} {ca : Cn} {B G G' H' : Hp} {r : SO} {D : Ends} {W : WX} (h : WishS K ca B G r D W) (e : Adv B G G' H') : WishS K ca B G' r D W := by
  cases r with
  | nx ρ => exact fun σ' G2 H2 f => h σ' G2 H2 (e.trans f)
  | bk ρ => exact fun σ' G2 H2 f => h σ' G2 H2 (e.trans f)
  | ct ρ => exact fun σ' G2 H2 f => h σ' G2 H2 (e.trans f)
  | rt d => exact fun v G2 H2 f => h v G2 H2 (e.trans f)
  | ro s => exact ⟨h.1, fun a G2 H2 f => h.2 a G2 H2 (e.trans f)⟩
  | ex x ρ => exact fun σ' G2 H2 c dx f => h σ' G2 H2 c dx (e.trans f)
  | bad => exact h
structure FS (X : Cx) (ca : Cn) (W : WX) (st : Stmt) (g : Ev → SO) : Prop where
  ex : ∃ t, PS X st t ∧ ∀ B G H σ ρ D, Same G H → Same B H → Rel X.K ca B G H σ ρ → WishS X.K ca B G (g ρ) D W → t D σ H
structure FSs (X : Cx) (ca : Cn) (W : WX) (sts : List Stmt) (g : Ev → SO) : Prop where
  ex : ∃ t, PSs X sts t ∧ ∀ B G H σ ρ D, Same G H → Same B H → Rel X.K ca B G H σ ρ → WishS X.K ca B G (g ρ) D W → t D σ H
/-- from an expression's result to a statement's -/
def SO.from {α : Type} (ρ : Ev) (r : R α) (k : α → SO) : SO := match r with
  | .ok a => k a
  | .exc x => .ex x ρ
  | .bad => .bad
@[simp] theorem from_ok {α : Type} (ρ : Ev) (a : α) (k : α → SO) : SO.from ρ (.ok a) k = k a := (rfl)
@[simp] theorem from_exc {α : Type} (ρ : Ev) (x : Ex) (k : α → SO) : SO.from ρ (.exc x) k = .ex x ρ := (rfl)
@[simp] theorem from_bad {α : Type} (ρ : Ev) (k : α → SO) : SO.from ρ .bad k = .bad := (rfl)
theorem WishS.from {K : PySem.W.Frag} {ca : Cn} {α : Type} {B G H : Hp} {σ : L2.St} {ρ : Ev} {r : R α} {k : α → SO} {D : Ends} {W : WX} {S : Hp → α → Hp → Prop} (h : WishS K ca B G (SO.from ρ r k) D W) (b : Same B H) (rl : Rel K ca B G H σ ρ)
    (hk : ∀ a G1 H1, r = .ok a → Ext G H G1 H1 → WishS K ca B G1 (k a) D W → Rel K ca B G1 H1 σ ρ → Same B H1 → S G1 a H1) : Wish K ca S G H r (WE W σ) := by
  cases r with
  | ok a => exact fun G1 H1 e => hk a G1 H1 rfl e (WishS.mono (r := k a) h (e.adv b)) (rl.ext e) (b.trans e.hh)
  | exc x => exact fun G1 H1 c dx e z => h σ G1 H1 c dx (e.adv b) (rl.ext e) z
  | bad => exact h
end Tk

namespace Tk
open PySem PySem.Spec L2
/-! ### the words of the mirror: expressions -/
def eV (i : Nat) : Ev → R D := fun ρ => match ρ[i]? with
  | some (.v d) => .ok d
  | _ => .bad
def eC (d : D) : Ev → R D := fun _ => .ok d
def e1 (g : D → R D) (fa : Ev → R D) : Ev → R D := fun ρ => (fa ρ).bind g
def e2 (g : D → D → R D) (fa fb : Ev → R D) : Ev → R D := fun ρ => (fa ρ).bind fun a => (fb ρ).bind fun b => g a b
def eA (g : List D → R D) (fa : Ev → R (List D)) : Ev → R D := fun ρ => (fa ρ).bind g
def aN : Ev → R (List D) := fun _ => .ok []
def aC (fa : Ev → R D) (fr : Ev → R (List D)) : Ev → R (List D) := fun ρ => (fa ρ).bind fun a => (fr ρ).bind fun r => .ok (a :: r)
def Bof : D → R Bool
  | .bl b => .ok b
  | _ => .bad
def tV (fa : Ev → R D) : Ev → R Bool := fun ρ => (fa ρ).bind Bof
def tAnd (f g : Ev → R Bool) : Ev → R Bool := fun ρ => (f ρ).bind fun b => if b = true then g ρ else .ok false
def tOr (f g : Ev → R Bool) : Ev → R Bool := fun ρ => (f ρ).bind fun b => if b = true then .ok true else g ρ
def tNot (f : Ev → R Bool) : Ev → R Bool := fun ρ => (f ρ).bind fun b => .ok (!b)
def eB (f : Ev → R Bool) : Ev → R D := fun ρ => (f ρ).bind fun b => .ok (.bl b)
def eAnd (fa fb : Ev → R D) : Ev → R D := fun ρ => (fa ρ).bind fun a => (Bof a).bind fun b => if b = true then fb ρ else .ok (.bl false)
def eOr (fa fb : Ev → R D) : Ev → R D := fun ρ => (fa ρ).bind fun a => (Bof a).bind fun b => if b = true then .ok (.bl true) else fb ρ
def eNot (fa : Ev → R D) : Ev → R D := fun ρ => (fa ρ).bind fun a => (Bof a).bind fun b => .ok (.bl (!b))
def eIf (t : Ev → R Bool) (fa fb : Ev → R D) : Ev → R D := fun ρ => (t ρ).bind fun b => if b = true then fa ρ else fb ρ
def eChain (g h : D → D → R D) (fa fb fc : Ev → R D) : Ev → R D := fun ρ => (fa ρ).bind fun a => (fb ρ).bind fun b => (g a b).bind fun z => (Bof z).bind fun k => if k = true then (fc ρ).bind fun c => h b c else .ok (.bl false)

section
variable {X : Cx} {ca : Cn} {W : WX} {a b c e : Expr} {es : List Expr} {fa fb fc : Ev → R D} {fl : Ev → R (List D)} {ft fu : Ev → R Bool} {pos : Pos}

theorem fe_v (i : Nat) {x : Str} {pos : Pos} (hN : X.N[i]? = some x := by rfl) (hv : Vis X.env.scope x := by first | exact Or.inl rfl | exact Or.inr (Or.inl rfl) | exact Or.inr (Or.inr rfl)) (hd : (x == ("__debug__" : Str)) = false := by decide)
    (hcd : (x == ("__classdict__" : Str)) = false := by decide) : FE X ca W (.Name x pos) (eV i) := by
  refine ⟨_, pe_var hN hv hd hcd, fun B G H σ ρ Q s b r h => ?_⟩
  unfold eV at h
  split at h
  · rename_i d e
    obtain ⟨v, h1, h2⟩ := r.val i d e
    exact ⟨v, h1, h.here s v h2⟩
  · exact h.elim
theorem fe_int {i : Int} {j : Nat} {pos : Pos} : FE X ca W (.Constant (.int i) j pos) (eC (.int i)) := ⟨_, pe_int, fun B G H σ ρ Q s b r h => h.here s _ rfl⟩
theorem fe_bl {i : Bool} {j : Nat} {pos : Pos} : FE X ca W (.Constant (.bool i) j pos) (eC (.bl i)) := ⟨_, pe_bl, fun B G H σ ρ Q s b r h => h.here s _ rfl⟩
theorem fe_non {j : Nat} {pos : Pos} : FE X ca W (.Constant .none j pos) (eC .non) := ⟨_, pe_non, fun B G H σ ρ Q s b r h => h.here s _ rfl⟩
theorem fe_str {x : Str} {j : Nat} {pos : Pos} : FE X ca W (.Constant (.str x) j pos) (eC (.str x)) := ⟨_, pe_str, fun B G H σ ρ Q s b r h => h.here s _ rfl⟩
/-- a module's name -/
theorem fe_glob {x : Str} {v : V} {u : Value} {d : D} {pos : Pos} (hg : Gl X x) (hm : X.mg x = some u) (r : RelV v u) (ha : ∀ G, At X.K ca G d v) (hd : (x == ("__debug__" : Str)) = false := by decide) : FE X ca W (.Name x pos) (eC d) :=
  ⟨_, pe_glob hg hm r hd, fun B G H σ ρ Q s b r h => h.here s _ (ha G)⟩

def V1 (X : Cx) (ca : Cn) (r : V → Hp → VK → Prop) (g : D → R D) : Prop := ∀ G H W1 x a Q, Same G H → At X.K ca G a x → Wish X.K ca (SV X.K ca Q) G H (g a) W1 → r x H Q
def V2 (X : Cx) (ca : Cn) (r : R2) (g : D → D → R D) : Prop := ∀ G H W1 x y a b Q, Same G H → At X.K ca G a x → At X.K ca G b y → Wish X.K ca (SV X.K ca Q) G H (g a b) W1 → r x y H Q
def VN (X : Cx) (ca : Cn) (r : List V → Hp → VK → Prop) (g : List D → R D) : Prop := ∀ G H W1 xs ds Q, Same G H → AtL X.K ca G ds xs → Wish X.K ca (SV X.K ca Q) G H (g ds) W1 → r xs H Q

theorem fe_op {op : Operator} {r : R2} {g : D → D → R D} (ho : OpR X (binaryOp op) r) (hv : V2 X ca r g) (ha : FE X ca W a fa) (hb : FE X ca W b fb) : FE X ca W (.BinOp a op b pos) (e2 g fa fb) := by
  obtain ⟨ta, pa, ka⟩ := ha.ex
  obtain ⟨tb, pb, kb⟩ := hb.ex
  refine ⟨_, pe_op ho pa pb, fun B G H σ ρ Q s b r h => ?_⟩
  refine ka B G H σ ρ _ s b r (Wish.bind h fun d G1 H1 _ x1 w1 v a1 => ?_)
  refine kb B G1 H1 σ ρ _ x1.gh (b.trans x1.hh) (r.ext x1) (Wish.bind w1 fun d2 G2 H2 _ x2 w2 v2 a2 => ?_)
  exact hv G2 H2 _ v v2 d d2 Q x2.gh (At.mono x2.gg a1) a2 w2
theorem fe_un {op : UnaryOp} {r : V → Hp → VK → Prop} {g : D → R D} (ho : UnR X (unaryOp op) r) (hv : V1 X ca r g) (ha : FE X ca W a fa) : FE X ca W (.UnaryOp op a pos) (e1 g fa) := by
  obtain ⟨ta, pa, ka⟩ := ha.ex
  refine ⟨_, pe_un ho pa, fun B G H σ ρ Q s b r h => ?_⟩
  exact ka B G H σ ρ _ s b r (Wish.bind h fun d G1 H1 _ x1 w1 v a1 => hv G1 H1 _ v d Q x1.gh a1 w1)
theorem fe_cmp {op : CmpOp} {r : R2} {g : D → D → R D} (ho : OpR X (compareOp op) r) (hv : V2 X ca r g) (hm : behindInMarks op b = false) (ha : FE X ca W a fa) (hb : FE X ca W b fb) : FE X ca W (.Compare a [op] [b] pos) (e2 g fa fb) := by
  obtain ⟨ta, pa, ka⟩ := ha.ex
  obtain ⟨tb, pb, kb⟩ := hb.ex
  refine ⟨_, pe_cmpR ho pa pb hm, fun B G H σ ρ Q s b r h => ?_⟩
  refine ka B G H σ ρ _ s b r (Wish.bind h fun d G1 H1 _ x1 w1 v a1 => ?_)
  refine kb B G1 H1 σ ρ _ x1.gh (b.trans x1.hh) (r.ext x1) (Wish.bind w1 fun d2 G2 H2 _ x2 w2 v2 a2 => ?_)
  exact hv G2 H2 _ v v2 d d2 Q x2.gh (At.mono x2.gg a1) a2 w2
theorem wish_tst {K : PySem.W.Frag} {G H : Hp} {r : R D} {Q : Bool → Hp → Prop} {W1 : XK} (h : Wish K ca (SB Q) G H (r.bind Bof) W1) : Wish K ca (SV K ca fun x H' => ∃ k, x = .bl k ∧ Q k H') G H r W1 := by
  refine Wish.bind h fun d G1 H1 _ x1 w1 v a1 => ?_
  cases d with
  | bl k => exact ⟨k, a1, w1.here x1.gh⟩
  | _ => exact w1.elim
theorem ft_cmp {op : CmpOp} {r : R2} {g : D → D → R D} (ho : OpR X (compareOp op) r) (hv : V2 X ca r g) (hm : behindInMarks op b = false) (ha : FE X ca W a fa) (hb : FE X ca W b fb) : FT X ca W (.Compare a [op] [b] pos) (tV (e2 g fa fb)) := by
  obtain ⟨ta, pa, ka⟩ := ha.ex
  obtain ⟨tb, pb, kb⟩ := hb.ex
  refine ⟨_, pt_cmpR ho pa pb hm, fun B G H σ ρ Q s b r h => ?_⟩
  refine ka B G H σ ρ _ s b r (Wish.bind (wish_tst h) fun d G1 H1 _ x1 w1 v a1 => ?_)
  refine kb B G1 H1 σ ρ _ x1.gh (b.trans x1.hh) (r.ext x1) (Wish.bind w1 fun d2 G2 H2 _ x2 w2 v2 a2 => ?_)
  exact hv G2 H2 _ v v2 d d2 _ x2.gh (At.mono x2.gg a1) a2 w2
theorem ft_val (h : FE X ca W e fa) (he : ∀ whole, isTrue e X.env whole = (do let v ← whole; standAt e.pos; holding [v] (truthy v)) := by intro _; rfl) : FT X ca W e (tV fa) := by
  obtain ⟨ta, pa, ka⟩ := h.ex
  exact ⟨_, pt_val pa he, fun B G H σ ρ Q s b r h => ka B G H σ ρ _ s b r (wish_tst h)⟩
theorem ft_w (h : FW X ca W e ft) : FT X ca W e ft := let ⟨t, p, k⟩ := h.ex; ⟨t, p.pt, k⟩
theorem fw_and1 (h : FT X ca W a ft) : FW X ca W (.BoolOp .And [a] pos) ft := let ⟨t, p, k⟩ := h.ex; ⟨t, pw_and1 p, k⟩
theorem fw_or1 (h : FT X ca W a ft) : FW X ca W (.BoolOp .Or [a] pos) ft := let ⟨t, p, k⟩ := h.ex; ⟨t, pw_or1 p, k⟩
theorem fw_and {rest : List Expr} (ha : FT X ca W a ft) (hb : FW X ca W (.BoolOp .And (b :: rest) pos) fu) : FW X ca W (.BoolOp .And (a :: b :: rest) pos) (tAnd ft fu) := by
  obtain ⟨t, p, k⟩ := ha.ex
  obtain ⟨u, q, l⟩ := hb.ex
  refine ⟨_, pw_and p q, fun B G H σ ρ Q s b r h => ?_⟩
  refine k B G H σ ρ _ s b r (Wish.bind h fun d G1 H1 _ x1 w1 => ?_)
  cases d with
  | true => exact l B G1 H1 σ ρ _ x1.gh (b.trans x1.hh) (r.ext x1) w1
  | false => exact w1.here x1.gh
theorem fw_or {rest : List Expr} (ha : FT X ca W a ft) (hb : FW X ca W (.BoolOp .Or (b :: rest) pos) fu) : FW X ca W (.BoolOp .Or (a :: b :: rest) pos) (tOr ft fu) := by
  obtain ⟨t, p, k⟩ := ha.ex
  obtain ⟨u, q, l⟩ := hb.ex
  refine ⟨_, pw_or p q, fun B G H σ ρ Q s b r h => ?_⟩
  refine k B G H σ ρ _ s b r (Wish.bind h fun d G1 H1 _ x1 w1 => ?_)
  cases d with
  | false => exact l B G1 H1 σ ρ _ x1.gh (b.trans x1.hh) (r.ext x1) w1
  | true => exact w1.here x1.gh
theorem ft_not (ha : FT X ca W a ft) : FT X ca W (.UnaryOp .Not a pos) (tNot ft) := by
  obtain ⟨t, p, k⟩ := ha.ex
  refine ⟨_, pt_not p, fun B G H σ ρ Q s b r h => ?_⟩
  exact k B G H σ ρ _ s b r (Wish.bind h fun d G1 H1 _ x1 w1 => w1.here x1.gh)
theorem fe_one {op : BoolOp} (ha : FE X ca W a fa) : FE X ca W (.BoolOp op [a] pos) fa := let ⟨t, p, k⟩ := ha.ex; ⟨t, pe_one p, k⟩
theorem fe_and {rest : List Expr} (ha : FE X ca W a fa) (hb : FE X ca W (.BoolOp .And (b :: rest) pos) fb) : FE X ca W (.BoolOp .And (a :: b :: rest) pos) (eAnd fa fb) := by
  obtain ⟨t, p, k⟩ := ha.ex
  obtain ⟨u, q, l⟩ := hb.ex
  refine ⟨_, pe_and p q, fun B G H σ ρ Q s b r h => ?_⟩
  refine k B G H σ ρ _ s b r (Wish.bind h fun d G1 H1 _ x1 w1 v a1 => ?_)
  cases d with
  | bl z =>
    refine ⟨z, a1, ?_⟩
    cases z with
    | true => exact l B G1 H1 σ ρ _ x1.gh (b.trans x1.hh) (r.ext x1) w1
    | false => exact w1.here x1.gh _ rfl
  | _ => exact w1.elim
theorem fe_or {rest : List Expr} (ha : FE X ca W a fa) (hb : FE X ca W (.BoolOp .Or (b :: rest) pos) fb) : FE X ca W (.BoolOp .Or (a :: b :: rest) pos) (eOr fa fb) := by
  obtain ⟨t, p, k⟩ := ha.ex
  obtain ⟨u, q, l⟩ := hb.ex
  refine ⟨_, pe_or p q, fun B G H σ ρ Q s b r h => ?_⟩
  refine k B G H σ ρ _ s b r (Wish.bind h fun d G1 H1 _ x1 w1 v a1 => ?_)
  cases d with
  | bl z =>
    refine ⟨z, a1, ?_⟩
    cases z with
    | false => exact l B G1 H1 σ ρ _ x1.gh (b.trans x1.hh) (r.ext x1) w1
    | true => exact w1.here x1.gh _ rfl
  | _ => exact w1.elim
theorem fe_not (ha : FE X ca W a fa) : FE X ca W (.UnaryOp .Not a pos) (eNot fa) := by
  obtain ⟨t, p, k⟩ := ha.ex
  refine ⟨_, pe_not p, fun B G H σ ρ Q s b r h => ?_⟩
  refine k B G H σ ρ _ s b r (Wish.bind h fun d G1 H1 _ x1 w1 v a1 => ?_)
  cases d with
  | bl z => exact ⟨z, a1, w1.here x1.gh _ rfl⟩
  | _ => exact w1.elim
theorem fe_if (hc : FT X ca W c ft) (ha : FE X ca W a fa) (hb : FE X ca W b fb) : FE X ca W (.IfExp c a b pos) (eIf ft fa fb) := by
  obtain ⟨t, p, k⟩ := hc.ex
  obtain ⟨ta, pa, ka⟩ := ha.ex
  obtain ⟨tb, pb, kb⟩ := hb.ex
  refine ⟨_, pe_ifExp p pa pb, fun B G H σ ρ Q s b r h => ?_⟩
  refine k B G H σ ρ _ s b r (Wish.bind h fun d G1 H1 _ x1 w1 => ?_)
  cases d with
  | true => exact ka B G1 H1 σ ρ _ x1.gh (b.trans x1.hh) (r.ext x1) w1
  | false => exact kb B G1 H1 σ ρ _ x1.gh (b.trans x1.hh) (r.ext x1) w1
theorem chain_core {r r' : R2} {g h' : D → D → R D} (hv : V2 X ca r g) (hv' : V2 X ca r' h') {ta tb tc : TE}
    (ka : ∀ B G H σ ρ Q, Same G H → Same B H → Rel X.K ca B G H σ ρ → Wish X.K ca (SV X.K ca Q) G H (fa ρ) (WE W σ) → ta σ H Q)
    (kb : ∀ B G H σ ρ Q, Same G H → Same B H → Rel X.K ca B G H σ ρ → Wish X.K ca (SV X.K ca Q) G H (fb ρ) (WE W σ) → tb σ H Q)
    (kc : ∀ B G H σ ρ Q, Same G H → Same B H → Rel X.K ca B G H σ ρ → Wish X.K ca (SV X.K ca Q) G H (fc ρ) (WE W σ) → tc σ H Q)
    (B G H σ ρ Q) (s : Same G H) (b : Same B H) (rl : Rel X.K ca B G H σ ρ) (h : Wish X.K ca (SV X.K ca Q) G H (eChain g h' fa fb fc ρ) (WE W σ)) : tChain r r' ta tb tc σ H Q := by
  refine ka B G H σ ρ _ s b rl (Wish.bind h fun d G1 H1 _ x1 w1 v a1 => ?_)
  refine kb B G1 H1 σ ρ _ x1.gh (b.trans x1.hh) (rl.ext x1) (Wish.bind w1 fun d2 G2 H2 _ x2 w2 v2 a2 => ?_)
  refine hv G2 H2 (WE W σ) v v2 d d2 _ x2.gh (At.mono x2.gg a1) a2 (Wish.bind w2 fun d3 G3 H3 _ x3 w3 v3 a3 => ?_)
  cases d3 with
  | bl z =>
    refine ⟨z, a3, ?_⟩
    cases z with
    | true =>
      refine kc B G3 H3 σ ρ _ x3.gh (b.trans (x1.hh.trans (x2.hh.trans x3.hh))) (((rl.ext x1).ext x2).ext x3) (Wish.bind w3 fun d4 G4 H4 _ x4 w4 v4 a4 => ?_)
      exact hv' G4 H4 _ v2 v4 d2 d4 Q x4.gh (At.mono (x3.gg.trans x4.gg) a2) a4 w4
    | false => exact w3.here x3.gh _ rfl
  | _ => exact w3.elim
theorem fe_chain {op op' : CmpOp} {r r' : R2} {g h' : D → D → R D} (ho : OpR X (compareOp op) r) (hv : V2 X ca r g) (ho' : OpR X (compareOp op') r') (hv' : V2 X ca r' h') (ha : FE X ca W a fa) (hb : FE X ca W b fb) (hc : FE X ca W c fc) (hm : lastMarks [op, op'] [b, c] = false := by with_unfolding_all rfl) :
    FE X ca W (.Compare a [op, op'] [b, c] pos) (eChain g h' fa fb fc) := by
  obtain ⟨ta, pa, ka⟩ := ha.ex
  obtain ⟨tb, pb, kb⟩ := hb.ex
  obtain ⟨tc, pc, kc⟩ := hc.ex
  exact ⟨_, pe_chain ho ho' pa pb pc hm, chain_core hv hv' ka kb kc⟩
theorem ft_chain {op op' : CmpOp} {r r' : R2} {g h' : D → D → R D} (ho : OpR X (compareOp op) r) (hv : V2 X ca r g) (ho' : OpR X (compareOp op') r') (hv' : V2 X ca r' h') (ha : FE X ca W a fa) (hb : FE X ca W b fb) (hc : FE X ca W c fc) (hm : lastMarks [op, op'] [b, c] = false := by with_unfolding_all rfl) :
    FT X ca W (.Compare a [op, op'] [b, c] pos) (tV (eChain g h' fa fb fc)) := by
  obtain ⟨ta, pa, ka⟩ := ha.ex
  obtain ⟨tb, pb, kb⟩ := hb.ex
  obtain ⟨tc, pc, kc⟩ := hc.ex
  exact ⟨_, pt_chain ho ho' pa pb pc hm, fun B G H σ ρ Q s b r h => chain_core hv hv' ka kb kc B G H σ ρ _ s b r (wish_tst h)⟩
/-! arguments, displays -/
theorem fa_nil : FA X ca W [] aN := ⟨_, pa_nil, fun B G H σ ρ Q s b r h => h.here s _ rfl⟩
theorem fa_cons (ha : FE X ca W e fa) (hr : FA X ca W es fl) (hs : starEach (e :: es) X.env = (false, eval e X.env) :: starEach es X.env := by rfl) : FA X ca W (e :: es) (aC fa fl) := by
  obtain ⟨ta, pa, ka⟩ := ha.ex
  obtain ⟨tb, pb, kb⟩ := hr.ex
  refine ⟨_, pa_cons pa pb hs, fun B G H σ ρ Q s b r h => ?_⟩
  refine ka B G H σ ρ _ s b r (Wish.bind h fun d G1 H1 _ x1 w1 v a1 => ?_)
  refine kb B G1 H1 σ ρ _ x1.gh (b.trans x1.hh) (r.ext x1) (Wish.bind w1 fun d2 G2 H2 _ x2 w2 v2 a2 => ?_)
  exact w2.here x2.gh _ ⟨v, v2, rfl, At.mono x2.gg a1, a2⟩
theorem fk_nil : FK X ca W [] aN := ⟨_, pk_nil, fun B G H σ ρ Q s b r h => h.here s _ rfl⟩
theorem fk_cons {nm : Option Str} {kpos : Pos} {kws : List Keyword} (ha : FE X ca W e fa) (hr : FK X ca W kws fl) : FK X ca W (⟨nm, e, kpos⟩ :: kws) (aC fa fl) := by
  obtain ⟨ta, pa, ka⟩ := ha.ex
  obtain ⟨tb, pb, kb⟩ := hr.ex
  refine ⟨_, pk_cons pa pb, fun B G H σ ρ Q s b r h => ?_⟩
  refine ka B G H σ ρ _ s b r (Wish.bind h fun d G1 H1 _ x1 w1 v a1 => ?_)
  refine kb B G1 H1 σ ρ _ x1.gh (b.trans x1.hh) (r.ext x1) (Wish.bind w1 fun d2 G2 H2 _ x2 w2 v2 a2 => ?_)
  exact w2.here x2.gh _ ⟨v, v2, rfl, At.mono x2.gg a1, a2⟩
def gLst (ds : List D) : R D := if ds.length ≤ sizeLine then .ok (.lst ds) else .bad
def gTup (ds : List D) : R D := if ds.length ≤ sizeLine then .ok (.tup ds) else .bad
theorem new_lst {G H : Hp} {p : Addr} {ds : List D} {vs : List V} {Q : VK} {W1 : XK} (s : Same G H) (h : Wish X.K ca (SV X.K ca Q) G H (.ok (.lst ds)) W1) (a : AtL X.K ca G ds vs) (n : H p = none) : Q (.ref p) (upd H p (.lst vs)) :=
  h _ _ (Ext.new s n) (.ref p) ⟨p, vs, rfl, upd_same, AtL.mono (same_upd (same_none s n)) a⟩
theorem new_tup {G H : Hp} {p : Addr} {ds : List D} {vs : List V} {Q : VK} {W1 : XK} (s : Same G H) (h : Wish X.K ca (SV X.K ca Q) G H (.ok (.tup ds)) W1) (a : AtL X.K ca G ds vs) (n : H p = none) : Q (.ref p) (upd H p (.tup vs)) :=
  h _ _ (Ext.new s n) (.ref p) ⟨p, vs, rfl, .inl upd_same, AtL.mono (same_upd (same_none s n)) a⟩
theorem fe_lst (h : FA X ca W es fl) : FE X ca W (.List es pos) (eA gLst fl) := by
  obtain ⟨t, p, k⟩ := h.ex
  refine ⟨_, pe_lst p, fun B G H σ ρ Q s b r h => ?_⟩
  refine k B G H σ ρ _ s b r (Wish.bind h fun ds G1 H1 _ x1 w1 vs a1 => ?_)
  unfold gLst at w1
  split at w1
  · rename_i z
    exact ⟨by rw [← a1.length]; exact z, fun p n => new_lst x1.gh w1 a1 n⟩
  · exact w1.elim
theorem fe_tup {x1 : Nat} (h : FA X ca W es fl) : FE X ca W (.Tuple es x1 pos) (eA gTup fl) := by
  obtain ⟨t, p, k⟩ := h.ex
  refine ⟨_, pe_tup p, fun B G H σ ρ Q s b r h => ?_⟩
  refine k B G H σ ρ _ s b r (Wish.bind h fun ds G1 H1 _ x1 w1 vs a1 => ?_)
  unfold gTup at w1
  split at w1
  · rename_i z
    exact ⟨by rw [← a1.length]; exact z, fun p n => new_tup x1.gh w1 a1 n⟩
  · exact w1.elim
end
end Tk

namespace Tk
open PySem PySem.Spec L2
/-! ### the words of the mirror: statements -/
def sN : Ev → SO := fun ρ => .nx ρ
def sSq (g k : Ev → SO) : Ev → SO := fun ρ => match g ρ with
  | .nx ρ' => k ρ'
  | r => r
def sBad : Ev → SO := fun _ => .bad
def sRet (f : Ev → R D) : Ev → SO := fun ρ => SO.from ρ (f ρ) .rt
def sRetN : Ev → SO := fun _ => .rt .non
def sDrop (f : Ev → R D) : Ev → SO := fun ρ => SO.from ρ (f ρ) fun _ => .nx ρ
def sIf (t : Ev → R Bool) (g k : Ev → SO) : Ev → SO := fun ρ => SO.from ρ (t ρ) fun b => if b = true then g ρ else k ρ
def sSet (i : Nat) (f : Ev → R D) : Ev → SO := fun ρ => SO.from ρ (f ρ) fun d => .nx (ρ.set i (.v d))
def sBk : Ev → SO := fun ρ => .bk ρ
def sCt : Ev → SO := fun ρ => .ct ρ
/-- targets: none where the value has not that shape -/
abbrev Tg := D → Ev → Option Ev
abbrev Tgs := List D → Ev → Option Ev
def gN (i : Nat) : Tg := fun d ρ => some (ρ.set i (.v d))
def gsN : Tgs
  | [], ρ => some ρ
  | _ :: _, _ => none
def gsC (g : Tg) (r : Tgs) : Tgs
  | [], _ => none
  | d :: ds, ρ => (g d ρ).bind fun ρ' => r ds ρ'
def gT (n : Nat) (g : Tgs) : Tg
  | .tup ds, ρ => if ds.length = n then g ds ρ else none
  | _, _ => none
def SO.ofO (o : Option Ev) (k : Ev → SO) : SO := match o with
  | some ρ => k ρ
  | none => .bad
@[simp] theorem ofO_some (ρ : Ev) (k : Ev → SO) : SO.ofO (some ρ) k = k ρ := (rfl)
def sAsg (f : Ev → R D) (g : Tg) : Ev → SO := fun ρ => SO.from ρ (f ρ) fun d => SO.ofO (g d ρ) .nx
def loop (g : Tg) (body : Ev → SO) : List D → Ev → SO
  | [], ρ => .nx ρ
  | d :: ds, ρ => SO.ofO (g d ρ) fun ρ1 => match body ρ1 with
    | .nx ρ2 => loop g body ds ρ2
    | .ct ρ2 => loop g body ds ρ2
    | .bk ρ2 => .nx ρ2
    | r => r
def sFor (fi : Ev → R (List D)) (g : Tg) (body : Ev → SO) : Ev → SO := fun ρ => SO.from ρ (fi ρ) fun ds => loop g body ds ρ
def wloop (t : Ev → R Bool) (body : Ev → SO) : Nat → Ev → SO
  | 0, ρ => .bad
  | n + 1, ρ => SO.from ρ (t ρ) fun b => if b = true then (match body ρ with
    | .nx ρ2 => wloop t body n ρ2
    | .ct ρ2 => wloop t body n ρ2
    | .bk ρ2 => .nx ρ2
    | r => r) else .nx ρ

/-- zs: the slots that the target may store to -/
structure FG (X : Cx) (ca : Cn) (zs : List Nat) (tg : Expr) (h : Tg) : Prop where
  ex : ∃ t, PG X tg t ∧ ∀ B G H σ ρ d v (Q : L2.St → Hp → Prop), Same G H → Same B H → Rel X.K ca B G H σ ρ → At X.K ca G d v → (∃ ρ', h d ρ = some ρ' ∧ ∀ σ', Rel X.K ca B G H σ' ρ' → wipe σ' zs = wipe σ zs → Q σ' H) → t v σ H Q
structure FGs (X : Cx) (ca : Cn) (zs : List Nat) (tgs : List Expr) (h : Tgs) : Prop where
  ex : ∃ t, PGs X tgs t ∧ ∀ B G H σ ρ ds vs (Q : L2.St → Hp → Prop), Same G H → Same B H → Rel X.K ca B G H σ ρ → AtL X.K ca G ds vs → (∃ ρ', h ds ρ = some ρ' ∧ ∀ σ', Rel X.K ca B G H σ' ρ' → wipe σ' zs = wipe σ zs → Q σ' H) → t vs σ H Q
theorem wipe_set {σ : L2.St} {i : Nat} {x : Option V} : ∀ {zs : List Nat}, i ∈ zs → wipe (σ.set i x) zs = wipe σ zs
  | [], h => by cases h
  | z :: zs, h => by
    unfold wipe
    by_cases e : i ∈ zs
    · rw [wipe_set e]
    · rcases List.mem_cons.mp h with rfl | h
      · have : ∀ zs : List Nat, i ∉ zs → wipe (σ.set i x) zs = (wipe σ zs).set i x := by
          intro zs
          induction zs with
          | nil => intro _; rfl
          | cons y ys ih =>
            intro hn
            rw [List.mem_cons, not_or] at hn
            unfold wipe
            rw [ih hn.2, List.set_comm _ _ hn.1]
        rw [this zs e, List.set_set]
      · exact absurd h e
/-- the items ds come one after another, whatever grows meanwhile -/
def JOk (K : PySem.W.Frag) (ca : Cn) (G0 : Hp) (J : It) (ds : List D) : Prop := ∀ G H, Same G0 G → Same G H → ∀ i,
  (∀ d, ds[i]? = some d → J.go i H ∧ ∀ x H', J.yld i H x H' → ∃ G', Ext G H G' H' ∧ At K ca G' d x) ∧ (ds.length = i → J.stop i H)
structure FI (X : Cx) (ca : Cn) (W : WX) (tg iter : Expr) (fi : Ev → R (List D)) : Prop where
  ex : ∃ t, PI X tg iter t ∧ ∀ B G H σ ρ (Q : It → Hp → Prop), Same G H → Same B H → Rel X.K ca B G H σ ρ → Wish X.K ca (fun G' ds H' => ∀ J, JOk X.K ca G' J ds → Q J H') G H (fi ρ) (WE W σ) → t σ H Q

section
variable {X : Cx} {ca : Cn} {W : WX} {e c : Expr} {st : Stmt} {rest body orelse : List Stmt} {fa : Ev → R D} {ft : Ev → R Bool} {g k : Ev → SO} {pos : Pos} {zs : List Nat}
theorem fss_nil : FSs X ca W [] sN := ⟨_, pss_nil, fun B G H σ ρ D s b r h => h σ G H (.refl s b) r⟩
theorem fss_cons (h1 : FS X ca W st g) (h2 : FSs X ca W rest k) : FSs X ca W (st :: rest) (sSq g k) := by
  obtain ⟨t, p, kt⟩ := h1.ex
  obtain ⟨u, q, ku⟩ := h2.ex
  refine ⟨_, pss_cons p q, fun B G H σ ρ D s b r h => ?_⟩
  refine kt B G H σ ρ _ s b r ?_
  unfold sSq at h
  cases z : g ρ with
  | nx ρ1 =>
    rw [z] at h
    exact fun σ' G' H' a r' => ku B G' H' σ' ρ1 D a.gh a.bh r' (WishS.mono (r := k ρ1) h a)
  | _ => rw [z] at h; exact h
theorem fss_one (h1 : FS X ca W st g) : FSs X ca W [st] g := let ⟨t, p, kt⟩ := h1.ex; ⟨t, pss_one p, kt⟩
theorem fs_never : FS X ca W st sBad := ⟨_, ps_never, fun B G H σ ρ D s b r h => h.elim⟩
theorem fss_never : FSs X ca W rest sBad := ⟨_, pss_never, fun B G H σ ρ D s b r h => h.elim⟩
theorem fs_pass : FS X ca W (.Pass pos) sN := ⟨_, ps_pass, fun B G H σ ρ D s b r h => h σ G H (.refl s b) r⟩
theorem fs_break : FS X ca W (.Break pos) sBk := ⟨_, ps_break, fun B G H σ ρ D s b r h => h σ G H (.refl s b) r⟩
theorem fs_continue : FS X ca W (.Continue pos) sCt := ⟨_, ps_continue, fun B G H σ ρ D s b r h => h σ G H (.refl s b) r⟩
theorem fs_ret (h : FE X ca W e fa) : FS X ca W (.Return (some e) pos) (sRet fa) := by
  obtain ⟨t, p, kt⟩ := h.ex
  refine ⟨_, ps_ret p, fun B G H σ ρ D s b r h => kt B G H σ ρ _ s b r ?_⟩
  exact WishS.from h b r fun a G1 H1 _ x w r1 b1 v av => w v G1 H1 (.refl x.gh b1) av
theorem fs_retN : FS X ca W (.Return none pos) sRetN := ⟨_, ps_retN, fun B G H σ ρ D s b r h => h _ G H (.refl s b) rfl⟩
theorem fs_expr (h : FE X ca W e fa) (hs : swapsWith e none pos.line X.env = pure false := by rfl) : FS X ca W (.Expr e pos) (sDrop fa) := by
  obtain ⟨t, p, kt⟩ := h.ex
  refine ⟨_, ps_expr p hs, fun B G H σ ρ D s b r h => kt B G H σ ρ _ s b r ?_⟩
  exact WishS.from h b r fun a G1 H1 _ x w r1 b1 v av => w σ G1 H1 (.refl x.gh b1) r1
theorem fs_if (hc : FT X ca W c ft) (ha : FSs X ca W body g) (hb : FSs X ca W orelse k) : FS X ca W (.If c body orelse pos) (sIf ft g k) := by
  obtain ⟨t, p, kt⟩ := hc.ex
  obtain ⟨ta, pa, ka⟩ := ha.ex
  obtain ⟨tb, pb, kb⟩ := hb.ex
  refine ⟨_, ps_if p pa pb, fun B G H σ ρ D s b r h => kt B G H σ ρ _ s b r ?_⟩
  refine WishS.from h b r fun a G1 H1 _ x w r1 b1 => ?_
  cases a with
  | true => exact ka B G1 H1 σ ρ D x.gh b1 r1 w
  | false => exact kb B G1 H1 σ ρ D x.gh b1 r1 w
theorem fs_set {i : Nat} {y : Str} {pos' : Pos} (hN : X.N.Nodup) (hi : X.N[i]? = some y) (h : FE X ca W e fa) (hx : Loc X.env.scope y := by first | exact .inl rfl | exact .inr rfl) (hs : swapsWith e (some (.Name y pos')) pos.line X.env = pure false := by rfl)
    (hf : X.fn y = true ∨ X.env.scope.names.lookup y = some .local := by first | exact .inl rfl | exact .inr rfl | assumption) : FS X ca W (.Assign [.Name y pos'] e pos) (sSet i fa) := by
  obtain ⟨t, p, kt⟩ := h.ex
  refine ⟨_, ps_set hN hi hx p hs hf, fun B G H σ ρ D s b r h => kt B G H σ ρ _ s b r ?_⟩
  exact WishS.from h b r fun a G1 H1 _ x w r1 b1 v av => w _ G1 H1 (.refl x.gh b1) (r1.set i av)
/-! targets -/
theorem fg_n {i : Nat} {y : Str} (hN : X.N.Nodup) (hi : X.N[i]? = some y) (hz : i ∈ zs := by decide) (hx : Loc X.env.scope y := by first | exact .inl rfl | exact .inr rfl) (hf : X.fn y = true ∨ X.env.scope.names.lookup y = some .local := by first | exact .inl rfl | exact .inr rfl | assumption) : FG X ca zs (.Name y pos) (gN i) :=
  ⟨_, pg_name hN hi hx hf, fun B G H σ ρ d v Q s b r a ⟨ρ', e, q⟩ => by cases e; exact q _ (r.set i a) (wipe_set hz)⟩
theorem fgs_n : FGs X ca zs [] gsN := ⟨_, pgs_nil, fun B G H σ ρ ds vs Q s b r a ⟨ρ', e, q⟩ => by
  cases ds with
  | nil => cases e; exact ⟨a, q _ r rfl⟩
  | cons _ _ => cases e⟩
theorem fgs_c {es : List Expr} {h1 : Tg} {h2 : Tgs} (a : FG X ca zs e h1) (b : FGs X ca zs es h2) (hs : (assignEach (e :: es) X.env).map (·.2) = assign e X.env :: (assignEach es X.env).map (·.2) := by rfl) : FGs X ca zs (e :: es) (gsC h1 h2) := by
  obtain ⟨t, p, kt⟩ := a.ex
  obtain ⟨u, q, ku⟩ := b.ex
  refine ⟨_, pgs_cons p q hs, fun B G H σ ρ ds vs Q s b r a ⟨ρ', e, q⟩ => ?_⟩
  cases ds with
  | nil => cases e
  | cons d ds =>
    obtain ⟨v, vr, rfl, a1, a2⟩ := a
    obtain ⟨ρ1, z, e⟩ := Option.bind_eq_some_iff.mp (show (h1 d ρ).bind (fun ρ' => h2 ds ρ') = some ρ' from e)
    exact ⟨v, vr, rfl, kt B G H σ ρ d v _ s b r a1 ⟨ρ1, z, fun σ' r' w' => ku B G H σ' ρ1 ds vr Q s b r' a2 ⟨ρ', e, fun σ2 r2 w2 => q σ2 r2 (w2.trans w')⟩⟩⟩
theorem fg_t {es : List Expr} {kk n : Nat} {h1 : Tgs} (hc : X.calm = true) (a : FGs X ca zs es h1) (hn : (assignEach es X.env).length = n := by rfl) (hst : (assignEach es X.env).findIdx? (·.1) = none := by rfl) : FG X ca zs (.Tuple es kk pos) (gT n h1) := by
  obtain ⟨t, p, kt⟩ := a.ex
  refine ⟨_, pg_tup hc p hn hst, fun B G H σ ρ d v Q s b r a z => ?_⟩
  obtain ⟨ρ', e, q⟩ := z
  cases d with
  | tup ds =>
    have e : (if ds.length = n then h1 ds ρ else none) = some ρ' := e
    split at e
    · rename_i hl
      obtain ⟨p', vs, rfl, a1, a2⟩ := a
      exact ⟨p', vs, rfl, tq s a1, by rw [← a2.length]; exact hl, kt B G H σ ρ ds vs Q s b r a2 ⟨ρ', e, q⟩⟩
    · cases e
  | _ => cases e
theorem fs_asg {tg : Expr} {h1 : Tg} (h : FE X ca W e fa) (a : FG X ca zs tg h1) (hs : swapsWithSole [tg] e pos.line X.env = pure false := by rfl) (hw : swappedStores [tg] e X.env = pure none := by rfl)
    (h1' : (assignEach [tg] X.env).map (·.2) = [assign tg X.env] := by rfl) : FS X ca W (.Assign [tg] e pos) (sAsg fa h1) := by
  obtain ⟨t, p, kt⟩ := h.ex
  obtain ⟨u, q, ku⟩ := a.ex
  refine ⟨_, ps_asg p q hs hw h1', fun B G H σ ρ D s b r h => kt B G H σ ρ _ s b r ?_⟩
  refine WishS.from h b r fun d G1 H1 _ x w r1 b1 v av => ?_
  cases z : h1 d ρ with
  | some ρ1 => rw [z] at w; exact ku B G1 H1 σ ρ d v _ x.gh b1 r1 av ⟨ρ1, z, fun σ' r' _ => w σ' G1 H1 (.refl x.gh b1) r'⟩
  | none => rw [z] at w; exact w.elim
/-- a turn's end -/
theorem turn_end {B G : Hp} {r : SO} {D' : Ends} {K : PySem.W.Frag} (kk : Ev → SO) (N : L2.St → Hp → Prop) (h : WishS K ca B G (match r with
    | .nx ρ2 => kk ρ2
    | .ct ρ2 => kk ρ2
    | .bk ρ2 => .nx ρ2
    | r => r) D' W) (hn : ∀ ρ2 σ' G' H', WishS K ca B G' (kk ρ2) D' W → Adv B G G' H' → Rel K ca B G' H' σ' ρ2 → N σ' H') : WishS K ca B G r { D' with nx := N, ct := N, bk := D'.nx } W := by
  cases r with
  | nx ρ2 => exact fun σ' G' H' a r' => hn ρ2 σ' G' H' (WishS.mono (r := kk ρ2) h a) a r'
  | ct ρ2 => exact fun σ' G' H' a r' => hn ρ2 σ' G' H' (WishS.mono (r := kk ρ2) h a) a r'
  | bk ρ2 => exact h
  | rt d => exact h
  | ro s => exact h
  | ex x ρ => exact h
  | bad => exact h
theorem fs_for {tg iter : Expr} {fi : Ev → R (List D)} {h1 : Tg} (hp : PassesOwn (model X.prog X.w) X.A X.env X.xe) (hc : X.calm = true) (hi : FI X ca W tg iter fi) (hg : FG X ca zs tg h1) (hb : FSs X ca W body g)
    (hs : ∀ x, foldedSetIterable iter X.env x = pure x := by intro _; rfl) : FS X ca W (.For tg iter body [] pos) (sFor fi h1 g) := by
  obtain ⟨ti, pi, ki⟩ := hi.ex
  obtain ⟨tg', pg, kg⟩ := hg.ex
  obtain ⟨tb, pb, kb⟩ := hb.ex
  refine ⟨_, ps_for hp hc pi pg pb hs, fun B G H σ ρ D s b r h => ki B G H σ ρ _ s b r ?_⟩
  refine WishS.from h b r fun ds G1 H1 _ x w r1 b1 J hj => ?_
  refine ⟨fun i m σ2 H2 => m = ds.length - i ∧ i ≤ ds.length ∧ ∃ G2 ρ2, Adv B G1 G2 H2 ∧ Rel X.K ca B G2 H2 σ2 ρ2 ∧ WishS X.K ca B G2 (loop h1 g (ds.drop i) ρ2) D W, ⟨_, rfl, Nat.zero_le _, G1, ρ, .refl x.gh b1, r1, by rw [List.drop_zero]; exact w⟩, ?_⟩
  rintro i m σ2 H2 ⟨rfl, hi, G2, ρ2, a2, r2, w2⟩
  obtain ⟨j1, j2⟩ := hj G2 H2 a2.gg a2.gh i
  by_cases hlt : i < ds.length
  · rw [List.drop_eq_getElem_cons hlt] at w2
    obtain ⟨go, yl⟩ := j1 ds[i] (by simp [hlt])
    refine .inr ⟨go, fun σ3 H3 => ∃ G3 ρ3, Adv B G1 G3 H3 ∧ Rel X.K ca B G3 H3 σ3 ρ3 ∧ WishS X.K ca B G3 (loop h1 g (ds.drop (i + 1)) ρ3) D W, fun σ3 H3 q => ⟨ds.length - (i + 1), by omega, rfl, hlt, q⟩, fun y H3 yy => ?_⟩
    obtain ⟨G3, x3, a3⟩ := yl y H3 yy
    have r3 := r2.ext x3
    have b3 := a2.bh.trans x3.hh
    have w3 := WishS.mono w2 (x3.adv a2.bh)
    show tg' y σ2 H3 _
    unfold loop at w3
    cases z : h1 ds[i] ρ2 with
    | none => rw [z] at w3; exact w3.elim
    | some ρ4 =>
      rw [z] at w3
      refine kg B G3 H3 σ2 ρ2 ds[i] y _ x3.gh b3 r3 a3 ⟨ρ4, z, fun σ4 r4 _ => ?_⟩
      refine kb B G3 H3 σ4 ρ4 _ x3.gh b3 r4 (turn_end (fun ρ5 => loop h1 g (ds.drop (i + 1)) ρ5) _ w3 fun ρ5 σ5 G5 H5 w5 a5 r5 => ?_)
      exact ⟨G5, ρ5, a2.trans ((x3.adv a2.bh).trans a5), r5, w5⟩
  · have e : i = ds.length := by omega
    subst e
    rw [List.drop_length] at w2
    exact .inl ⟨j2 rfl, w2 σ2 G2 H2 (.refl a2.gh a2.bh) r2⟩
theorem fs_while {n : Nat} (hp : PassesOwn (model X.prog X.w) X.A X.env X.xe) (hc : FT X ca W c ft) (hb : FSs X ca W body g) : FS X ca W (.While c body [] pos) (wloop ft g n) := by
  obtain ⟨tc, pc, kc⟩ := hc.ex
  obtain ⟨tb, pb, kb⟩ := hb.ex
  refine ⟨_, ps_while hp pc pb, fun B G H σ ρ D s b r h => ?_⟩
  refine ⟨fun m σ2 H2 => ∃ G2 ρ2, Same G2 H2 ∧ Same B H2 ∧ Rel X.K ca B G2 H2 σ2 ρ2 ∧ WishS X.K ca B G2 (wloop ft g m ρ2) D W, ⟨n, G, ρ, s, b, r, h⟩, ?_⟩
  rintro m σ2 H2 ⟨G2, ρ2, s2, b2, r2, w2⟩
  cases m with
  | zero => exact w2.elim
  | succ m =>
    unfold wloop at w2
    refine kc B G2 H2 σ2 ρ2 _ s2 b2 r2 (WishS.from w2 b2 r2 fun a G3 H3 _ x3 w3 r3 b3 => ?_)
    show if a = true then _ else _
    cases a with
    | true =>
      rw [if_pos rfl] at w3 ⊢
      refine ⟨fun σ4 H4 => ∃ G4 ρ4, Same G4 H4 ∧ Same B H4 ∧ Rel X.K ca B G4 H4 σ4 ρ4 ∧ WishS X.K ca B G4 (wloop ft g m ρ4) D W, fun σ' H' q => ⟨m, Nat.lt_succ_self m, q⟩, ?_⟩
      refine kb B G3 H3 σ2 ρ2 _ x3.gh b3 r3 (turn_end (fun ρ5 => wloop ft g m ρ5) _ w3 fun ρ5 σ5 G5 H5 w5 a5 r5 => ?_)
      exact ⟨G5, ρ5, a5.gh, a5.bh, r5, w5⟩
    | false =>
      rw [if_neg Bool.false_ne_true] at w3 ⊢
      exact w3 σ2 G3 H3 (.refl x3.gh b3) r3
end
end Tk

namespace Tk
open PySem PySem.Spec L2 PyProof.Rows
/-! ### defs -/
/-- a def's promise by its mirror -/
def spF (K : PySem.W.Frag) (ca : Cn) (n : Nat) (F : List D → R D) : Sp := fun vs H Q E => vs.length = n ∧ ∃ G ds, Same G H ∧ AtL K ca G ds vs ∧ Wish K ca (SV K ca Q) G H (F ds) E
def startE (n : Nat) (ds : List D) : Ev := ds.map Sl.v ++ List.replicate (n - ds.length) .no
def frzS : Sl → Sl
  | .l xs => .v (.lst xs)
  | .k xs => .v (.dK xs)
  | .t xs => .v (.dT xs)
  | .o _ c fs => .v (.ins c fs)
  | s => s
section
variable {K : PySem.W.Frag} {ca : Cn} {G H G' H' : Hp}
theorem Own.at_ {a : Addr} {s : Sl} (h : Own K ca G H a s) (sg : Same G G') (e : G' a = H a) : ∃ d, frzS s = .v d ∧ At K ca G' d (.ref a) := by
  cases s with
  | no => exact h.elim
  | v d => exact h.elim
  | l xs => obtain ⟨vs, h1, h2⟩ := h; exact ⟨_, rfl, a, vs, rfl, e.trans h1, AtL.mono sg h2⟩
  | k xs => obtain ⟨vs, h1, h2⟩ := h; exact ⟨_, rfl, a, vs, rfl, e.trans h1, AtK.mono sg h2⟩
  | t xs => obtain ⟨vs, h1, h2⟩ := h; exact ⟨_, rfl, a, vs, rfl, e.trans h1, AtT.mono sg h2⟩
  | o g c fs => obtain ⟨C, dx, vs, hg, h0, h1, h2⟩ := h; exact ⟨_, rfl, a, C, dx, vs, rfl, h0, e.trans h1, AtF.mono sg h2⟩
end
def frzR : Sl → R D
  | .l xs => .ok (.lst xs)
  | .k xs => .ok (.dK xs)
  | .t xs => .ok (.dT xs)
  | .o _ c fs => .ok (.ins c fs)
  | _ => .bad
theorem frzR_of {s : Sl} {d : D} (h : frzS s = .v d) (o : s.own = true) : frzR s = .ok d := by
  cases s with
  | no => cases o
  | v _ => cases o
  | l _ => cases h; rfl
  | k _ => cases h; rfl
  | t _ => cases h; rfl
  | o _ _ _ => cases h; rfl
def SO.out : SO → R D
  | .nx _ => .ok .non
  | .rt d => .ok d
  | .ro s => frzR s
  | .ex x _ => .exc x
  | _ => .bad
/-- what a def hands out as the caller's own -/
def SO.outO : SO → R Sl
  | .ro s => .ok s
  | .ex x _ => .exc x
  | _ => .bad
/-- a body's mirror as a def's: n names -/
def runF (n : Nat) (g : Ev → SO) : List D → R D := fun ds => (g (startE n ds)).out
theorem vals_start {K : PySem.W.Frag} {ca : Cn} {G : Hp} : ∀ {ds : List D} {vs : List V} {i : Nat} {d : D} {n : Nat}, AtL K ca G ds vs → (ds.map Sl.v ++ List.replicate n Sl.no)[i]? = some (.v d) → ∃ v, (vs.map some ++ List.replicate n none)[i]? = some (some v) ∧ At K ca G d v
  | [], vs, i, d, n, h, e => by
    cases h
    simp only [List.map_nil, List.nil_append, List.getElem?_replicate] at e
    split at e <;> cases e
  | x :: ds, vs, i, d, n, ⟨v, r, q, h, t⟩, e => by
    subst q
    cases i with
    | zero => simp at e; subst e; exact ⟨v, rfl, h⟩
    | succ i =>
      obtain ⟨w, h1, h2⟩ := vals_start (i := i) (n := n) t (by simpa using e)
      exact ⟨w, by simpa using h1, h2⟩
theorem own_start : ∀ {ds : List D} {i : Nat} {s : Sl} {n : Nat}, (ds.map Sl.v ++ List.replicate n Sl.no)[i]? = some s → s.own = true → False
  | [], i, s, n, e, o => by
    simp only [List.map_nil, List.nil_append, List.getElem?_replicate] at e
    split at e
    · cases e; cases o
    · cases e
  | x :: ds, i, s, n, e, o => by
    cases i with
    | zero => simp at e; subst e; cases o
    | succ i => exact own_start (ds := ds) (i := i) (n := n) (by simpa using e) o
theorem rel_start {K : PySem.W.Frag} {ca : Cn} {B G H : Hp} {N : List Str} {ds : List D} {vs : List V} (a : AtL K ca G ds vs) : Rel K ca B G H (L2.start N vs) (startE N.length ds) := by
  have l := a.length
  refine ⟨?_, fun i d e => ?_, fun i s e o => (own_start (show (ds.map Sl.v ++ List.replicate (N.length - ds.length) Sl.no)[i]? = some s from e) o).elim, fun i j s t x e o => (own_start (show (ds.map Sl.v ++ List.replicate (N.length - ds.length) Sl.no)[i]? = some s from e) o).elim⟩
  · unfold L2.start startE
    simp [l]
  · have e' : (ds.map Sl.v ++ List.replicate (N.length - ds.length) Sl.no)[i]? = some (.v d) := e
    rw [l] at e'
    exact vals_start a e'
section
variable {P : Program} {w : World} {K : PySem.W.Frag} {mg : Str → Option Value} {base : Heap} {ca : Cn}
/-- the body's wish gives the def's -/
theorem body_ok {X : Cx} {W : WX} {body : List Stmt} {g : Ev → SO} {H : Hp} {vs : List V} {ds : List D} {G : Hp} {Q : VK} {E : XK} {N : List Str} (hK : X.K = K) (h : FSs X ca W body g) (hW : ∀ c d σ H', E c d H' → W c d σ H')
    (s : Same G H) (a : AtL K ca G ds vs) (q : Wish K ca (SV K ca Q) G H (runF N.length g ds) E) : ∃ t, PSs X body t ∧ t { nx := fun _ H' => Q .non H', rt := Q } (L2.start N vs) H := by
  subst hK
  obtain ⟨t, p, k⟩ := h.ex
  refine ⟨t, p, k H G H _ (startE N.length ds) _ s (.refl H) (rel_start a) ?_⟩
  unfold runF at q
  have up : ∀ {G' H' : Hp}, Adv H G G' H' → Ext G H G' H' := fun x => ⟨x.bh, x.gg, x.gh, x.nw⟩
  cases z : g (startE N.length ds) with
  | nx ρ => rw [z] at q; exact fun σ' G' H' x r => q G' H' (up x) .non rfl
  | rt d => rw [z] at q; exact fun v G' H' x r => q G' H' (up x) v r
  | ro sl =>
    rw [z] at q
    have q1 : Wish X.K ca (SV X.K ca Q) G H (frzR sl) E := q
    have own : sl.own = true := by cases sl <;> first | rfl | exact q1.elim
    refine ⟨own, fun a G' H' x oa ga ba => ?_⟩
    obtain ⟨o, ho⟩ := oa.some
    have gg : Same G' (upd G' a o) := same_upd ga
    have gh : Same (upd G' a o) H' := fun c u e => by
      by_cases w : c = a
      · subst w; rw [upd_same] at e; rw [ho]; exact e
      · rw [upd_ne w] at e; exact x.gh c u e
    obtain ⟨d, e1, e2⟩ := oa.at_ gg (show upd G' a o a = H' a by rw [upd_same, ho])
    have q2 : Wish X.K ca (SV X.K ca Q) G H (.ok d) E := by
      rw [frzR_of e1 own] at q1
      exact q1
    refine q2 (upd G' a o) H' ⟨x.bh, x.gg.trans gg, gh, fun c n => ?_⟩ (.ref a) e2
    by_cases w : c = a
    · subst w; exact .inr ba
    · rw [upd_ne w] at n; exact x.nw c n
  | ex x ρ => rw [z] at q; exact fun σ' G' H' c dx y r e => hW _ _ _ _ (q G' H' c dx (up y) e)
  | bk ρ => rw [z] at q; exact q.elim
  | ct ρ => rw [z] at q; exact q.elim
  | bad => rw [z] at q; exact q.elim
/-- a def without defaults -/
theorem fn_ok {x qual : Str} {st : Stmt} {f : Addr} {fd : FuncData} {N ps : List Str} {k : Nat} {g : Ev → SO} (F : Fun K x qual st f fd) (S : FnScope N ps (defScope st))
    (hb : ∀ (cdv : Value) (A : Around) (outer : List Env) (s : Shared) (H : Hp) (E : XK), Room k (A.deeper (envOfC qual (defScope st) s.heap.objs.size f cdv)) →
      FSs (cxOf (L2.CX P w) P w K mg base N qual (defScope st) f cdv A outer s H E) ca (fun c d _ H' => E c d H') (defBody st) g) : FnOk P w K mg base (L2.CX P w) (k + 1) f fd ps (spF K ca ps.length (runF N.length g)) :=
  F.okX S (fun vs H Q E h => h.1) fun cdv A outer s H vs Q E hr h => by
    obtain ⟨l, G, ds, sm, a, q⟩ := h
    exact body_ok rfl (hb cdv A outer s H E hr) (fun _ _ _ _ z => z) sm a q
/-- .. with defaults -/
theorem fn_okD {x qual : Str} {params : Arguments} {body : List Stmt} {scope : Scope} {dvs : List V} {kws : List (Str × V)} {f : Addr} {fd : FuncData} {N ps : List Str} {k : Nat} {g : Ev → SO} (F : FunD K x qual params body scope dvs kws f fd) (S : FnScope N ps scope)
    (hb : ∀ (cdv : Value) (A : Around) (outer : List Env) (s : Shared) (H : Hp) (E : XK), Room k (A.deeper (envOfC qual scope s.heap.objs.size f cdv)) →
      FSs (cxOf (L2.CX P w) P w K mg base N qual scope f cdv A outer s H E) ca (fun c d _ H' => E c d H') body g) : FnOk P w K mg base (L2.CX P w) (k + 1) f fd ps (spF K ca ps.length (runF N.length g)) :=
  F.ok S (fun vs H Q E h => h.1) fun cdv A outer s H vs Q E hr h => by
    obtain ⟨l, G, ds, sm, a, q⟩ := h
    exact body_ok rfl (hb cdv A outer s H E hr) (fun _ _ _ _ z => z) sm a q
end
/-! ### calls -/
def eCall (n : Nat) (F : List D → R D) (fa : Ev → R (List D)) : Ev → R D := fun ρ => (fa ρ).bind fun ds => if ds.length = n then F ds else .bad
/-- how a call with keywords lays its values: by data -/
structure KB (K : PySem.W.Frag) (ca : Cn) (fd : FuncData) (ps : List Str) (n : Nat) (ks : List Str) (gD : List D → List D → List D) : Prop where
  ex : ∃ g gV, KBn K fd ps n ks g gV ∧ ∀ G ds vs zs ws, AtL K ca G ds vs → AtL K ca G zs ws → AtL K ca G (gD ds zs) (gV vs ws)
def eCallK (n m p : Nat) (F : List D → R D) (gD : List D → List D → List D) (fa fk : Ev → R (List D)) : Ev → R D := fun ρ => (fa ρ).bind fun ds => (fk ρ).bind fun zs => if ds.length = n ∧ zs.length = m ∧ (gD ds zs).length = p then F (gD ds zs) else .bad
section
variable {X : Cx} {ca : Cn} {W : WX} {k : Nat} {f : Addr} {fd : FuncData} {ps ks : List Str} {Fn : List D → R D} {x : Str} {p pos : Pos} {e : Expr} {es : List Expr} {fa fk : Ev → R (List D)}
theorem fe_call (F : FnOk X.prog X.w X.K X.mg X.base (L2.CX X.prog X.w) k f fd ps (spF X.K ca ps.length Fn)) (hr : Room k X.A) (tk : Takes X W) (hg : Gl X x) (hm : X.mg x = some (.ref f)) (hk : PySem.W.keepIn X.K (.ref f) = true) (hb : Binds X.K fd ps [])
    (ha : FA X ca W (e :: es) fa) (hdb : (x == ("__debug__" : Str)) = false := by decide) (he : starEach (e :: es) X.env = (false, eval e X.env) :: starEach es X.env := by rfl) (hpl : (backTo pos (starEach es X.env)).any (·.1) = false := by rfl) :
    FE X ca W (.Call (.Name x p) (e :: es) [] pos) (eCall ps.length Fn fa) := by
  obtain ⟨t, pa, kt⟩ := ha.ex
  refine ⟨_, pe_callS (E := WE W) F hr hg hm hk hb (fun σ => passAt tk σ) pa hdb he hpl, fun B G H σ ρ Q s b r h => ?_⟩
  refine kt B G H σ ρ _ s b r (Wish.bind h fun ds G1 H1 _ x1 w1 vs a1 => ?_)
  split at w1
  · rename_i hl
    exact ⟨by rw [← a1.length]; exact hl, G1, ds, x1.gh, a1, w1⟩
  · exact w1.elim
/-- the callee runs, its arguments laid by keywords -/
theorem run_kb {gV : List V → List V → List V} {g : List Value → List Value → List Value} {n : Nat} {E : XK} {sp : Sp} {pins : List (Addr × Obj)} {σ : L2.St} {H : Hp} {s : Shared} {Q : VK} {us ws : List Value} {vs zs : List V} (F : FnOk X.prog X.w X.K X.mg X.base (L2.CX X.prog X.w) k f fd ps sp)
    (hr : Room k X.A) (hb : KBn X.K fd ps n ks g gV) (hx : PassesAt (L2.CX X.prog X.w) X σ E) (I : Inv X pins σ H s) (ru : Vals vs us) (rw' : Vals zs ws) (lu : vs.length = n) (lw : zs.length = ks.length) (h : sp (gV vs zs) H Q E) :
    wpAny (model X.prog X.w) X.A (call (.ref f) us (ks.zip ws)) (EP X pins σ Q) X.xe s := by
  have bt := hb.to s us ws I.kIn (ru.length.symm.trans lu) (rw'.length.symm.trans lw)
  have go := F.run X.A X.stack s H ⟨us, ks.zip ws⟩ _ _ Q E hr I.env0 bt (hb.rel ru rw') h
  refine wpAny_call (codeAny_mono go fun r s' hq => ?_)
  rcases r with e | fl
  · exact hx pins H s e s' I hq
  · cases fl with
    | ret u => exact I.after hq
    | _ => exact hq.elim
theorem fe_callK {kws : List Keyword} {n : Nat} {gD : List D → List D → List D} (F : FnOk X.prog X.w X.K X.mg X.base (L2.CX X.prog X.w) k f fd ps (spF X.K ca ps.length Fn)) (hr : Room k X.A) (tk : Takes X W) (hg : Gl X x) (hm : X.mg x = some (.ref f)) (hk : PySem.W.keepIn X.K (.ref f) = true) (hb : KB X.K ca fd ps n ks gD)
    (ha : FA X ca W (e :: es) fa) (hkw : FK X ca W kws fk) (hall : (backToKw pos (keywordEach kws X.env)).all (·.1.isSome) = true := by rfl) (hks : (backToKw pos (keywordEach kws X.env)).filterMap (·.1) = ks := by rfl) (hdb : (x == ("__debug__" : Str)) = false := by decide)
    (he : starEach (e :: es) X.env = (false, eval e X.env) :: starEach es X.env := by rfl) (hpl : ((backTo pos (starEach (e :: es) X.env)).any (·.1) || (backToKw pos (keywordEach kws X.env)).any (·.1.isNone)) = false := by rfl) :
    FE X ca W (.Call (.Name x p) (e :: es) kws pos) (eCallK n ks.length ps.length Fn gD fa fk) := by
  obtain ⟨t, pa, kt⟩ := ha.ex
  obtain ⟨u, pk, ku⟩ := hkw.ex
  obtain ⟨g, gV, hbn, hgd⟩ := hb.ex
  refine ⟨fun σ H Q => t σ H fun vs H1 => u σ H1 fun zs H2 => vs.length = n ∧ zs.length = ks.length ∧ spF X.K ca ps.length Fn (gV vs zs) H2 Q (WE W σ), ⟨fun pins s σ H Q I h => ?_⟩, fun B G H σ ρ Q s b r h => ?_⟩
  · refine wpAny_Call_Name_kw (ld_glob I hg hm ?_ hdb)
    refine PySem.W.callWith_KW (h₀ := X.base) I.ok.mod.kin hk hall (thn (pa.run pos pins s σ H _ I h) fun us s1 ⟨vs, H1, I1, r1, q1⟩ => ?_) hpl he
    refine thn (pk.run pos pins s1 σ H1 _ I1 q1) fun ws s2 ⟨zs, H2, I2, r2, l1, l2, q2⟩ => ⟨I2.kIn, ?_⟩
    rw [hks]
    exact run_kb F hr hbn (passAt tk σ) I2 r1 r2 l1 l2 q2
  · refine kt B G H σ ρ _ s b r (Wish.bind h fun ds G1 H1 _ x1 w1 vs a1 => ?_)
    refine ku B G1 H1 σ ρ _ x1.gh (b.trans x1.hh) (r.ext x1) (Wish.bind w1 fun zs G2 H2 _ x2 w2 ws a2 => ?_)
    split at w2
    · rename_i hl
      have a3 := hgd G2 ds vs zs ws (AtL.mono x2.gg a1) a2
      exact ⟨by rw [← a1.length]; exact hl.1, by rw [← a2.length]; exact hl.2.1, by rw [← a3.length]; exact hl.2.2, G2, _, x2.gh, a3, w2⟩
    · exact w2.elim
/-- a built-in by its name -/
theorem fe_blt {id : String} {r : List V → Hp → VK → Prop} {g : List D → R D} (hc : CallR X (.builtin id) r) (hv : VN X ca r g) (hg : Gl X x) (hm : X.mg x = none) (hv' : bootBuiltins x = some (.builtin id)) (ha : FA X ca W (e :: es) fa) (hn : x ≠ "__name__" := by decide) (hd : (x == ("__debug__" : Str)) = false := by decide)
    (he : starEach (e :: es) X.env = (false, eval e X.env) :: starEach es X.env := by rfl) (hpl : (backTo pos (starEach es X.env)).any (·.1) = false := by rfl) : FE X ca W (.Call (.Name x p) (e :: es) [] pos) (eA g fa) := by
  obtain ⟨t, pa, kt⟩ := ha.ex
  refine ⟨_, pe_callB hc hg hm hv' pa hn hd he hpl, fun B G H σ ρ Q s b r h => ?_⟩
  exact kt B G H σ ρ _ s b r (Wish.bind h fun ds G1 H1 _ x1 w1 vs a1 => hv G1 H1 _ vs ds Q x1.gh a1 w1)
theorem fe_bty {T : String} {r : List V → Hp → VK → Prop} {g : List D → R D} (hc : CallR X (.type T) r) (hv : VN X ca r g) (hg : Gl X x) (hm : X.mg x = none) (hv' : bootBuiltins x = some (.type T)) (ha : FA X ca W (e :: es) fa) (hn : x ≠ "__name__" := by decide) (hd : (x == ("__debug__" : Str)) = false := by decide)
    (he : starEach (e :: es) X.env = (false, eval e X.env) :: starEach es X.env := by rfl) (hpl : (backTo pos (starEach es X.env)).any (·.1) = false := by rfl) : FE X ca W (.Call (.Name x p) (e :: es) [] pos) (eA g fa) := by
  obtain ⟨t, pa, kt⟩ := ha.ex
  refine ⟨_, pe_callTy hc hg hm hv' pa hn hd he hpl, fun B G H σ ρ Q s b r h => ?_⟩
  exact kt B G H σ ρ _ s b r (Wish.bind h fun ds G1 H1 _ x1 w1 vs a1 => hv G1 H1 _ vs ds Q x1.gh a1 w1)
end
end Tk

namespace Tk
open PySem PySem.Spec L2 PyProof.Rows
/-! ### operators by data -/
def gAdd : D → D → R D
  | .int i, .int j => .ok (.int (i + j))
  | .str a, .str b => if a.length + b.length ≤ sizeLine then .ok (.str (a ++ b)) else .bad
  | .lst xs, .lst ys => if xs.length + ys.length ≤ sizeLine then .ok (.lst (xs ++ ys)) else .bad
  | .tup xs, .tup ys => if xs.length + ys.length ≤ sizeLine then .ok (.tup (xs ++ ys)) else .bad
  | _, _ => .bad
def gSub : D → D → R D
  | .int i, .int j => .ok (.int (i - j))
  | _, _ => .bad
instance (i j : Int) : Decidable (CMul i j) := by unfold CMul; infer_instance
instance (i j : Int) : Decidable (CMulW i j) := by unfold CMulW; infer_instance
instance (i j : Int) : Decidable (CDivW i j) := by unfold CDivW; infer_instance
instance (i j : Int) : Decidable (CPow i j) := by unfold CPow; infer_instance
def gMul : D → D → R D
  | .int i, .int j => if CMul i j ∨ CMulW i j then .ok (.int (i * j)) else .bad
  | _, _ => .bad
def gDiv : D → D → R D
  | .int i, .int j => if CDivW i j then .ok (.int (i / j)) else .bad
  | _, _ => .bad
def gMod : D → D → R D
  | .int i, .int j => if 0 < j then .ok (.int (i % j)) else .bad
  | _, _ => .bad
def gPow : D → D → R D
  | .int i, .int j => if CPow i j then .ok (.int (i ^ j.toNat)) else .bad
  | _, _ => .bad
def gNeg : D → R D
  | .int i => .ok (.int (-i))
  | _ => .bad
def gLt : D → D → R D
  | .int i, .int j => .ok (.bl (decide (i < j)))
  | _, _ => .bad
def gLe : D → D → R D
  | .int i, .int j => .ok (.bl (decide (i ≤ j)))
  | _, _ => .bad
def gGt : D → D → R D
  | .int i, .int j => .ok (.bl (decide (j < i)))
  | _, _ => .bad
def gGe : D → D → R D
  | .int i, .int j => .ok (.bl (decide (j ≤ i)))
  | _, _ => .bad
mutual
/-- plain data, for == -/
def toP : D → Option PyData
  | .non => some .none
  | .bl b => some (.bool b)
  | .int i => some (.int i)
  | .str s => some (.str s)
  | .lst xs => (toPs xs).map .list
  | .tup xs => (toPs xs).map .tuple
  | _ => none
def toPs : List D → Option (List PyData)
  | [] => some []
  | d :: ds => match toP d, toPs ds with
    | some p, some ps => some (p :: ps)
    | _, _ => none
end
def gEqP (a b : D) : R D := match toP a, toP b with
  | some p, some q => if (SeqAt.shaped p && SeqAt.shaped q) = true then .ok (.bl (PyData.eqv p q)) else .bad
  | _, _ => .bad
def gEq : D → D → R D
  | .int i, .int j => .ok (.bl (decide (i = j)))
  | .str i, .str j => .ok (.bl (decide (i = j)))
  | .bl i, .bl j => .ok (.bl (decide (i = j)))
  | a, b => gEqP a b
def rNot (r : R D) : R D := r.bind fun d => match d with
  | .bl b => .ok (.bl (!b))
  | _ => .bad
def gNe (a b : D) : R D := rNot (gEq a b)
def isNon : D → Bool
  | .non => true
  | _ => false
def gIsN (a : D) (b : D) : R D := match b with
  | .non => .ok (.bl (isNon a))
  | _ => .bad
def gNotN (a : D) (b : D) : R D := rNot (gIsN a b)
/-- membership -/
def gInP (neg : Bool) (a : D) (ys : List D) : R D := match toP a, toPs ys with
  | some p, some qs => if (SeqAt.shaped p && SeqAt.shaped (.list qs)) = true then .ok (.bl (if neg then !(qs.any fun z => PyData.eqv z p) else qs.any fun z => PyData.eqv z p)) else .bad
  | _, _ => .bad
/-- plain flat items: as V's eqV -/
def flatD : D → Bool
  | .non => true
  | .bl _ => true
  | .int _ => true
  | .str _ => true
  | _ => false
def toV : D → V
  | .non => .non
  | .bl b => .bl b
  | .int i => .int i
  | .str s => .str s
  | _ => .non
def gInS (neg : Bool) : D → D → R D
  | .str a, .str b => .ok (.bl (if neg then !(!(Builtin.Str.occurrences b a 0 b.length 1).isEmpty) else !(Builtin.Str.occurrences b a 0 b.length 1).isEmpty))
  | a, .lst ys => if flatD a = true ∧ ys.all flatD = true then .ok (.bl (if neg then !inV (toV a) (ys.map toV) else inV (toV a) (ys.map toV))) else gInP neg a ys
  | a, .tup ys => if flatD a = true ∧ ys.all flatD = true then .ok (.bl (if neg then !inV (toV a) (ys.map toV) else inV (toV a) (ys.map toV))) else .bad
  | _, _ => .bad

section
variable {X : Cx} {ca : Cn}
theorem v2_int {g : D → D → R D} {h : Int → Int → V} {z : Int → Int → D} (hg : ∀ i j, g (.int i) (.int j) = .ok (z i j)) (hz : ∀ i j G, At X.K ca G (z i j) (h i j)) (hb : ∀ a b, (∀ i j, ¬ (a = .int i ∧ b = .int j)) → g a b = .bad) : V2 X ca (rI0 h) g := by
  intro G H W1 x y a b Q s ax ay w
  by_cases e : ∃ i j, a = .int i ∧ b = .int j
  · obtain ⟨i, j, rfl, rfl⟩ := e
    rw [hg] at w
    exact ⟨i, j, ax, ay, w.here s _ (hz i j _)⟩
  · rw [hb a b fun i j q => e ⟨i, j, q⟩] at w
    exact w.elim
theorem v2_intC {C : Int → Int → Prop} {g : D → D → R D} {h : Int → Int → V} {z : Int → Int → D} (hg : ∀ i j, g (.int i) (.int j) = .ok (z i j) ∧ C i j ∨ g (.int i) (.int j) = .bad) (hz : ∀ i j G, At X.K ca G (z i j) (h i j)) (hb : ∀ a b, (∀ i j, ¬ (a = .int i ∧ b = .int j)) → g a b = .bad) : V2 X ca (rI C h) g := by
  intro G H W1 x y a b Q s ax ay w
  by_cases e : ∃ i j, a = .int i ∧ b = .int j
  · obtain ⟨i, j, rfl, rfl⟩ := e
    rcases hg i j with ⟨e, c⟩ | e
    · rw [e] at w
      exact ⟨i, j, ax, ay, c, w.here s _ (hz i j _)⟩
    · rw [e] at w; exact w.elim
  · rw [hb a b fun i j q => e ⟨i, j, q⟩] at w
    exact w.elim
theorem bad_of {g : D → D → R D} {a b : D} (h : ∀ i j, ¬ (a = .int i ∧ b = .int j)) (hc : g a b = .bad ∨ ∃ i j, a = .int i ∧ b = .int j) : g a b = .bad := hc.elim id fun ⟨i, j, q⟩ => (h i j q).elim
theorem v2_sub : V2 X ca (rI0 fun i j => .int (i - j)) gSub := v2_int (z := fun i j => .int (i - j)) (fun _ _ => rfl) (fun _ _ _ => rfl) fun a b h => by cases a <;> first | rfl | (cases b <;> first | rfl | exact (h _ _ ⟨rfl, rfl⟩).elim)
theorem v2_lt : V2 X ca (rI0 fun i j => .bl (decide (i < j))) gLt := v2_int (z := fun i j => .bl (decide (i < j))) (fun _ _ => rfl) (fun _ _ _ => rfl) fun a b h => by cases a <;> first | rfl | (cases b <;> first | rfl | exact (h _ _ ⟨rfl, rfl⟩).elim)
theorem v2_le : V2 X ca (rI0 fun i j => .bl (decide (i ≤ j))) gLe := v2_int (z := fun i j => .bl (decide (i ≤ j))) (fun _ _ => rfl) (fun _ _ _ => rfl) fun a b h => by cases a <;> first | rfl | (cases b <;> first | rfl | exact (h _ _ ⟨rfl, rfl⟩).elim)
theorem v2_gt : V2 X ca (rI0 fun i j => .bl (decide (j < i))) gGt := v2_int (z := fun i j => .bl (decide (j < i))) (fun _ _ => rfl) (fun _ _ _ => rfl) fun a b h => by cases a <;> first | rfl | (cases b <;> first | rfl | exact (h _ _ ⟨rfl, rfl⟩).elim)
theorem v2_ge : V2 X ca (rI0 fun i j => .bl (decide (j ≤ i))) gGe := v2_int (z := fun i j => .bl (decide (j ≤ i))) (fun _ _ => rfl) (fun _ _ _ => rfl) fun a b h => by cases a <;> first | rfl | (cases b <;> first | rfl | exact (h _ _ ⟨rfl, rfl⟩).elim)
theorem op_mul2 : OpR X (binaryOp .Mult) (rI (fun i j => CMul i j ∨ CMulW i j) fun i j => .int (i * j)) := opI fun i j _ _ _ _ _ hc q => by
  rcases hc with hc | hc
  · exact mul_int q hc.ok
  · exact mul_int q hc.ok
theorem v2_mul : V2 X ca (rI (fun i j => CMul i j ∨ CMulW i j) fun i j => .int (i * j)) gMul := v2_intC (z := fun i j => .int (i * j)) (fun i j => by unfold gMul; by_cases h : CMul i j ∨ CMulW i j <;> simp [h]) (fun _ _ _ => rfl) fun a b h => by cases a <;> first | rfl | (cases b <;> first | rfl | exact (h _ _ ⟨rfl, rfl⟩).elim)
theorem v2_div : V2 X ca (rI CDivW fun i j => .int (i / j)) gDiv := v2_intC (z := fun i j => .int (i / j)) (fun i j => by unfold gDiv; by_cases h : CDivW i j <;> simp [h]) (fun _ _ _ => rfl) fun a b h => by cases a <;> first | rfl | (cases b <;> first | rfl | exact (h _ _ ⟨rfl, rfl⟩).elim)
theorem v2_mod : V2 X ca (rI (fun _ j => 0 < j) fun i j => .int (i % j)) gMod := v2_intC (z := fun i j => .int (i % j)) (fun i j => by unfold gMod; by_cases h : 0 < j <;> simp [h]) (fun _ _ _ => rfl) fun a b h => by cases a <;> first | rfl | (cases b <;> first | rfl | exact (h _ _ ⟨rfl, rfl⟩).elim)
theorem v2_pow : V2 X ca (rI CPow fun i j => .int (i ^ j.toNat)) gPow := v2_intC (z := fun i j => .int (i ^ j.toNat)) (fun i j => by unfold gPow; by_cases h : CPow i j <;> simp [h]) (fun _ _ _ => rfl) fun a b h => by cases a <;> first | rfl | (cases b <;> first | rfl | exact (h _ _ ⟨rfl, rfl⟩).elim)
theorem v1_neg : V1 X ca (rU fun i => .int (-i)) gNeg := by
  intro G H W1 x a Q s ax w
  cases a with
  | int i => exact ⟨i, ax, w.here s _ rfl⟩
  | _ => exact w.elim
theorem op_addA : OpR X (binaryOp .Add) (fun x y H Q => (rI0 fun i j => .int (i + j)) x y H Q ∨ ((∃ i j, x = .str i ∧ y = .str j ∧ i.length + j.length ≤ sizeLine ∧ Q (.str (i ++ j)) H) ∨ (rCat x y H Q ∨ rCatA X.K x y H Q))) := op_add.or (op_add_str.or (op_cat.or op_catA))
theorem v2_add : V2 X ca (fun x y H Q => (rI0 fun i j => .int (i + j)) x y H Q ∨ ((∃ i j, x = .str i ∧ y = .str j ∧ i.length + j.length ≤ sizeLine ∧ Q (.str (i ++ j)) H) ∨ (rCat x y H Q ∨ rCatA X.K x y H Q))) gAdd := by
  intro G H W1 x y a b Q s ax ay w
  cases a with
  | int i =>
    cases b with
    | int j => exact .inl ⟨i, j, ax, ay, w.here s _ rfl⟩
    | _ => exact w.elim
  | str i =>
    cases b with
    | str j =>
      have w' : Wish X.K ca (SV X.K ca Q) G H (if i.length + j.length ≤ sizeLine then .ok (.str (i ++ j)) else .bad) W1 := w
      split at w'
      · rename_i z; exact .inr (.inl ⟨i, j, ax, ay, z, w'.here s _ rfl⟩)
      · exact w'.elim
    | _ => exact w.elim
  | lst i =>
    cases b with
    | lst j =>
      have w' : Wish X.K ca (SV X.K ca Q) G H (if i.length + j.length ≤ sizeLine then .ok (.lst (i ++ j)) else .bad) W1 := w
      split at w'
      · rename_i z
        obtain ⟨p, vs, rfl, h1, h2⟩ := ax
        obtain ⟨q, ws, rfl, h3, h4⟩ := ay
        exact .inr (.inr (.inl ⟨p, q, vs, ws, rfl, rfl, s _ _ h1, s _ _ h3, by rw [← h2.length, ← h4.length]; exact z, fun l n => new_lst s w' (h2.append h4) n⟩))
      · exact w'.elim
    | _ => exact w.elim
  | tup i =>
    cases b with
    | tup j =>
      have w' : Wish X.K ca (SV X.K ca Q) G H (if i.length + j.length ≤ sizeLine then .ok (.tup (i ++ j)) else .bad) W1 := w
      split at w'
      · rename_i z
        obtain ⟨p, vs, rfl, h1, h2⟩ := ax
        obtain ⟨q, ws, rfl, h3, h4⟩ := ay
        have l1 := h2.length
        have l2 := h4.length
        refine .inr (.inr (.inr ⟨p, q, vs, ws, rfl, rfl, tq s h1, tq s h3, by rw [← l1, ← l2]; exact z, fun e => ?_, fun e1 e2 => ?_, fun _ _ l n => new_tup s w' (h2.append h4) n⟩))
        · have : i = [] := by rw [e] at l1; exact List.length_eq_zero_iff.mp l1
          subst this
          exact w'.here s _ ⟨q, ws, rfl, h3, h4⟩
        · have : j = [] := by rw [e2] at l2; exact List.length_eq_zero_iff.mp l2
          subst this
          rw [List.append_nil] at w'
          exact w'.here s _ ⟨p, vs, rfl, h1, h2⟩
      · exact w'.elim
    | _ => exact w.elim
  | _ => exact w.elim
mutual
theorem dp_of {G H : Hp} (s : Same G H) : ∀ (d : D) (v : V) (p : PyData), At X.K ca G d v → toP d = some p → Dp X.K H v p
  | .non, v, p, a, e => by cases e; cases a; exact .non
  | .bl b, v, p, a, e => by cases e; cases a; exact .bl b
  | .int i, v, p, a, e => by cases e; cases a; exact .int i
  | .str x, v, p, a, e => by cases e; cases a; exact .str x
  | .lst xs, v, p, ⟨q, vs, e1, h, r⟩, e => by
    obtain ⟨ps, e2, e3⟩ := Option.map_eq_some_iff.mp (show (toPs xs).map PyData.list = some p from e)
    subst e1 e3
    exact .lst (.of (s _ _ h)) (dps_of s xs vs ps r e2)
  | .tup xs, v, p, ⟨q, vs, e1, h, r⟩, e => by
    obtain ⟨ps, e2, e3⟩ := Option.map_eq_some_iff.mp (show (toPs xs).map PyData.tuple = some p from e)
    subst e1 e3
    exact .tup (tq s h) (dps_of s xs vs ps r e2)
  | .ty _, v, p, a, e => by cases e
  | .cl _, v, p, a, e => by cases e
  | .scr _, v, p, a, e => by cases e
  | .tpz _, v, p, a, e => by cases e
  | .dK _, v, p, a, e => by cases e
  | .dT _, v, p, a, e => by cases e
  | .ins _ _, v, p, a, e => by cases e
theorem dps_of {G H : Hp} (s : Same G H) : ∀ (ds : List D) (vs : List V) (ps : List PyData), AtL X.K ca G ds vs → toPs ds = some ps → DpAll X.K H vs ps
  | [], vs, ps, a, e => by cases e; cases a; exact .nil
  | d :: ds, vs, ps, ⟨v, r, e1, a1, a2⟩, e => by
    have e' : (match toP d, toPs ds with | some p, some ps => some (p :: ps) | _, _ => none) = some ps := e
    split at e'
    · rename_i p ps' h1 h2
      cases e'
      subst e1
      exact .cons (dp_of s d v p a1 h1) (dps_of s ds r ps' a2 h2)
    · cases e'
end
theorem op_eqA (hu : X.A.units + 64 < cLine) : OpR X (compareOp .Eq) (fun x y H Q => rEq x y H Q ∨ rEqD X.K x y H Q) := op_eq.or (op_eqD hu)
theorem op_neA (hu : X.A.units + 64 < cLine) : OpR X (compareOp .NotEq) (fun x y H Q => rNe x y H Q ∨ rNeD X.K x y H Q) := op_ne.or (op_neD hu)
theorem gEqP_some {a b : D} {G H : Hp} {W1 : XK} {S : Hp → D → Hp → Prop} (h : Wish X.K ca S G H (gEqP a b) W1) : ∃ p q, toP a = some p ∧ toP b = some q ∧ SeqAt.shaped p = true ∧ SeqAt.shaped q = true ∧ gEqP a b = .ok (.bl (PyData.eqv p q)) := by
  unfold gEqP at h ⊢
  split at h
  · rename_i p q e1 e2
    split at h
    · rename_i z
      rw [Bool.and_eq_true] at z
      exact ⟨p, q, e1, e2, z.1, z.2, by simp only [e1, e2, z.1, z.2]; rfl⟩
    · exact h.elim
  · exact h.elim
theorem v2_eqP {a b : D} {x y : V} {G H : Hp} {W1 : XK} {Q : VK} (s : Same G H) (ax : At X.K ca G a x) (ay : At X.K ca G b y) (w : Wish X.K ca (SV X.K ca Q) G H (gEqP a b) W1) : rEqD X.K x y H Q := by
  obtain ⟨p, q, e1, e2, z1, z2, e3⟩ := gEqP_some w
  rw [e3] at w
  exact ⟨p, q, dp_of s a x p ax e1, dp_of s b y q ay e2, z1, z2, w.here s _ rfl⟩
theorem dec_V {i j : Int} : decide (V.int i = V.int j) = decide (i = j) := by by_cases h : i = j <;> simp [h]
theorem dec_VS {i j : Str} : decide (V.str i = V.str j) = decide (i = j) := by by_cases h : i = j <;> simp [h]
theorem dec_VB {i j : Bool} : decide (V.bl i = V.bl j) = decide (i = j) := by by_cases h : i = j <;> simp [h]
theorem v2_eq : V2 X ca (fun x y H Q => rEq x y H Q ∨ rEqD X.K x y H Q) gEq := by
  intro G H W1 x y a b Q s ax ay w
  unfold gEq at w
  split at w
  · cases ax; cases ay; exact .inl ⟨rfl, by rw [dec_V]; exact w.here s _ rfl⟩
  · cases ax; cases ay; exact .inl ⟨rfl, by rw [dec_VS]; exact w.here s _ rfl⟩
  · cases ax; cases ay; exact .inl ⟨rfl, by rw [dec_VB]; exact w.here s _ rfl⟩
  · exact .inr (v2_eqP s ax ay w)
theorem v2_ne : V2 X ca (fun x y H Q => rNe x y H Q ∨ rNeD X.K x y H Q) gNe := by
  intro G H W1 x y a b Q s ax ay w
  unfold gNe gEq rNot at w
  split at w
  · cases ax; cases ay; exact .inl ⟨rfl, by rw [dec_V]; exact w.here s _ rfl⟩
  · cases ax; cases ay; exact .inl ⟨rfl, by rw [dec_VS]; exact w.here s _ rfl⟩
  · cases ax; cases ay; exact .inl ⟨rfl, by rw [dec_VB]; exact w.here s _ rfl⟩
  · have w1 : Wish X.K ca (fun _ _ _ => True) G H (gEqP a b) W1 := Wish.bind w fun _ _ _ _ _ _ => trivial
    obtain ⟨p, q, e1, e2, z1, z2, e3⟩ := gEqP_some w1
    rw [e3] at w
    exact .inr ⟨p, q, dp_of s a x p ax e1, dp_of s b y q ay e2, z1, z2, w.here s _ rfl⟩
theorem at_non {a : D} {x : V} {G : Hp} (h : At X.K ca G a x) : decide (x = .non) = isNon a := by
  cases a with
  | non => cases h; rfl
  | bl _ => cases h; rfl
  | int _ => cases h; rfl
  | str _ => cases h; rfl
  | ty _ => cases h; rfl
  | cl _ => obtain ⟨_, _, rfl⟩ := h; rfl
  | scr _ => obtain ⟨_, rfl, _⟩ := h; rfl
  | lst _ => obtain ⟨_, _, rfl, _⟩ := h; rfl
  | tup _ => obtain ⟨_, _, rfl, _⟩ := h; rfl
  | tpz _ => obtain ⟨_, _, _, rfl, _⟩ := h; rfl
  | dK _ => obtain ⟨_, _, rfl, _⟩ := h; rfl
  | dT _ => obtain ⟨_, _, rfl, _⟩ := h; rfl
  | ins _ _ => obtain ⟨_, _, _, _, rfl, _⟩ := h; rfl
theorem v2_isN : V2 X ca (fun x y H Q => y = .non ∧ Q (.bl (decide (x = .non))) H) gIsN := by
  intro G H W1 x y a b Q s ax ay w
  cases b with
  | non => exact ⟨ay, by rw [at_non ax]; exact w.here s _ rfl⟩
  | _ => exact w.elim
theorem v2_notN : V2 X ca (fun x y H Q => y = .non ∧ Q (.bl (!decide (x = .non))) H) gNotN := by
  intro G H W1 x y a b Q s ax ay w
  cases b with
  | non => exact ⟨ay, by rw [at_non ax]; exact w.here s _ rfl⟩
  | _ => exact w.elim
/-! membership -/
theorem toV_at {a : D} {x : V} {G : Hp} (f : flatD a = true) (h : At X.K ca G a x) : x = toV a ∧ flatV x = true := by
  cases a with
  | non => cases h; exact ⟨rfl, rfl⟩
  | bl _ => cases h; exact ⟨rfl, rfl⟩
  | int _ => cases h; exact ⟨rfl, rfl⟩
  | str _ => cases h; exact ⟨rfl, rfl⟩
  | _ => cases f
theorem toV_all {G : Hp} : ∀ {ds : List D} {vs : List V}, ds.all flatD = true → AtL X.K ca G ds vs → vs = ds.map toV ∧ vs.all flatV = true
  | [], _, _, h => by cases h; exact ⟨rfl, rfl⟩
  | d :: ds, _, f, ⟨v, r, e, h, t⟩ => by
    rw [List.all_cons, Bool.and_eq_true] at f
    obtain ⟨e1, f1⟩ := toV_at f.1 h
    obtain ⟨e2, f2⟩ := toV_all f.2 t
    subst e
    exact ⟨by rw [e1, e2]; rfl, by rw [List.all_cons, f1, f2]; rfl⟩
theorem op_inA (hu : X.A.units + 65 < cLine) : OpR X (compareOp .In) (fun x y H Q => (∃ i j, x = .str i ∧ y = .str j ∧ Q (.bl (!(Builtin.Str.occurrences j i 0 j.length 1).isEmpty)) H) ∨ (rIn X.K false x y H Q ∨ rInD X.K x y H Q)) := op_in_str.or (op_in_seq.or (op_inD hu))
theorem op_ninA (hu : X.A.units + 65 < cLine) : OpR X (compareOp .NotIn) (fun x y H Q => (∃ i j, x = .str i ∧ y = .str j ∧ Q (.bl (!(!(Builtin.Str.occurrences j i 0 j.length 1).isEmpty))) H) ∨ (rIn X.K true x y H Q ∨ rNotInD X.K x y H Q)) := op_notin_str.or (op_notIn_seq.or (op_notInD hu))
theorem gInP_some {neg : Bool} {a : D} {ys : List D} {G H : Hp} {W1 : XK} {S : Hp → D → Hp → Prop} (h : Wish X.K ca S G H (gInP neg a ys) W1) : ∃ p qs, toP a = some p ∧ toPs ys = some qs ∧ SeqAt.shaped p = true ∧ SeqAt.shaped (.list qs) = true ∧
    gInP neg a ys = .ok (.bl (if neg then !(qs.any fun z => PyData.eqv z p) else qs.any fun z => PyData.eqv z p)) := by
  unfold gInP at h ⊢
  split at h
  · rename_i p q e1 e2
    split at h
    · rename_i z
      rw [Bool.and_eq_true] at z
      exact ⟨p, q, e1, e2, z.1, z.2, by simp only [e1, e2, z.1, z.2]; rfl⟩
    · exact h.elim
  · exact h.elim
theorem v2_in : V2 X ca (fun x y H Q => (∃ i j, x = .str i ∧ y = .str j ∧ Q (.bl (!(Builtin.Str.occurrences j i 0 j.length 1).isEmpty)) H) ∨ (rIn X.K false x y H Q ∨ rInD X.K x y H Q)) (gInS false) := by
  intro G H W1 x y a b Q s ax ay w
  unfold gInS at w
  split at w
  · exact .inl ⟨_, _, ax, ay, w.here s _ rfl⟩
  · obtain ⟨p, vs, rfl, h1, h2⟩ := ay
    split at w
    · rename_i z
      obtain ⟨e1, f1⟩ := toV_at z.1 ax
      obtain ⟨e2, f2⟩ := toV_all z.2 h2
      refine .inr (.inl ⟨p, vs, rfl, .inl (.of (s _ _ h1)), f1, f2, ?_⟩)
      rw [e1, e2]
      exact w.here s _ rfl
    · obtain ⟨q, qs, e1, e2, z1, z2, e3⟩ := gInP_some w
      rw [e3] at w
      exact .inr (.inr ⟨q, qs, dp_of s a x q ax e1, .lst (.of (s _ _ h1)) (dps_of s _ vs qs h2 e2), z1, z2, w.here s _ rfl⟩)
  · obtain ⟨p, vs, rfl, h1, h2⟩ := ay
    split at w
    · rename_i z
      obtain ⟨e1, f1⟩ := toV_at z.1 ax
      obtain ⟨e2, f2⟩ := toV_all z.2 h2
      refine .inr (.inl ⟨p, vs, rfl, .inr (tq s h1), f1, f2, ?_⟩)
      rw [e1, e2]
      exact w.here s _ rfl
    · exact w.elim
  · exact w.elim
theorem v2_nin : V2 X ca (fun x y H Q => (∃ i j, x = .str i ∧ y = .str j ∧ Q (.bl (!(!(Builtin.Str.occurrences j i 0 j.length 1).isEmpty))) H) ∨ (rIn X.K true x y H Q ∨ rNotInD X.K x y H Q)) (gInS true) := by
  intro G H W1 x y a b Q s ax ay w
  unfold gInS at w
  split at w
  · exact .inl ⟨_, _, ax, ay, w.here s _ rfl⟩
  · obtain ⟨p, vs, rfl, h1, h2⟩ := ay
    split at w
    · rename_i z
      obtain ⟨e1, f1⟩ := toV_at z.1 ax
      obtain ⟨e2, f2⟩ := toV_all z.2 h2
      refine .inr (.inl ⟨p, vs, rfl, .inl (.of (s _ _ h1)), f1, f2, ?_⟩)
      rw [e1, e2]
      exact w.here s _ rfl
    · obtain ⟨q, qs, e1, e2, z1, z2, e3⟩ := gInP_some w
      rw [e3] at w
      exact .inr (.inr ⟨q, qs, dp_of s a x q ax e1, .lst (.of (s _ _ h1)) (dps_of s _ vs qs h2 e2), z1, z2, w.here s _ rfl⟩)
  · obtain ⟨p, vs, rfl, h1, h2⟩ := ay
    split at w
    · rename_i z
      obtain ⟨e1, f1⟩ := toV_at z.1 ax
      obtain ⟨e2, f2⟩ := toV_all z.2 h2
      refine .inr (.inl ⟨p, vs, rfl, .inr (tq s h1), f1, f2, ?_⟩)
      rw [e1, e2]
      exact w.here s _ rfl
    · exact w.elim
  · exact w.elim
end
end Tk

namespace Tk
open PySem PySem.Spec L2 PyProof.Rows
/-! ### subscripts, slices -/
def optR {α : Type} (o : Option α) : R α := match o with
  | some a => .ok a
  | none => .bad
@[simp] theorem optR_some {α : Type} (a : α) : optR (some a) = .ok a := (rfl)
def gIx : D → D → R D
  | .lst xs, .int i => optR (atI xs i)
  | .tup xs, .int i => optR (atI xs i)
  | .str z, .int i => if z.length ≤ sizeLine then (optR (atI z.cps.toList i)).bind fun c => .ok (.str ⟨#[c]⟩) else .bad
  | .scr ns, .int i => (optR (atI ns i)).bind fun n => .ok (.int n)
  | _, _ => .bad
def cutD {α : Type} (xs : List α) (lo hi : Option Int) : List α := (xs.drop (HT.sIx xs.length 0 lo)).take (HT.sIx xs.length xs.length hi - HT.sIx xs.length 0 lo)
def gSl : D → Option Int → Option Int → R D
  | .lst xs, lo, hi => .ok (.lst (cutD xs lo hi))
  | .scr ns, lo, hi => .ok (.lst ((cutD ns lo hi).map .int))
  | .tup xs, lo, hi => .ok (.tup (cutD xs lo hi))
  | .str z, lo, hi => if z.length ≤ sizeLine then .ok (.str (cutS z lo hi)) else .bad
  | _, _, _ => .bad
def oN : Ev → R (Option Int) := fun _ => .ok none
def oS (f : Ev → R D) : Ev → R (Option Int) := fun ρ => (f ρ).bind fun d => match d with
  | .int i => .ok (some i)
  | _ => .bad
def eSl (fa : Ev → R D) (fl fh : Ev → R (Option Int)) : Ev → R D := fun ρ => (fa ρ).bind fun a => (fl ρ).bind fun l => (fh ρ).bind fun h => gSl a l h
structure FO (X : Cx) (ca : Cn) (W : WX) (e : Option Expr) (f : Ev → R (Option Int)) : Prop where
  ex : ∃ t, PO X e t ∧ ∀ B G H σ ρ (Q : Option Int → Hp → Prop), Same G H → Same B H → Rel X.K ca B G H σ ρ → Wish X.K ca (fun _ o H' => Q o H') G H (f ρ) (WE W σ) → t σ H Q
section
variable {X : Cx} {ca : Cn} {W : WX} {a b e : Expr} {lo hi : Option Expr} {fa fb : Ev → R D} {fl fh : Ev → R (Option Int)} {pos p2 : Pos}
theorem AtL.atI {K : PySem.W.Frag} {G : Hp} {ds : List D} {vs : List V} {i : Int} {d : D} (h : AtL K ca G ds vs) (e : atI ds i = some d) : ∃ v, L2.atI vs i = some v ∧ At K ca G d v := by
  unfold L2.atI at e ⊢
  rw [← h.length]
  cases z : ixN ds.length i with
  | none => rw [z] at e; cases e
  | some j =>
    rw [z] at e
    obtain ⟨v, h1, h2⟩ := h.get (i := j) (d := d) e
    exact ⟨v, h1, h2⟩
theorem atI_map {α β : Type} {f : α → β} {xs : List α} {i : Int} {x : α} (e : atI xs i = some x) : atI (xs.map f) i = some (f x) := by
  unfold L2.atI at e ⊢
  rw [List.length_map]
  cases z : ixN xs.length i with
  | none => rw [z] at e; cases e
  | some j =>
    rw [z] at e
    have e' : xs[j]? = some x := e
    show (xs.map f)[j]? = some (f x)
    rw [List.getElem?_map, e']
    rfl
theorem wish_opt {α β : Type} {K : PySem.W.Frag} {S : Hp → β → Hp → Prop} {G H : Hp} {o : Option α} {k : α → R β} {W1 : XK} (h : Wish K ca S G H ((optR o).bind k) W1) : ∃ x, o = some x ∧ Wish K ca S G H (k x) W1 := by
  cases o with
  | none => exact h.elim
  | some x => exact ⟨x, rfl, h⟩
theorem wish_opt' {β : Type} {K : PySem.W.Frag} {S : Hp → β → Hp → Prop} {G H : Hp} {o : Option β} {W1 : XK} (h : Wish K ca S G H (optR o) W1) : ∃ x, o = some x ∧ Wish K ca S G H (.ok x) W1 := by
  cases o with
  | none => exact h.elim
  | some x => exact ⟨x, rfl, h⟩
theorem v2_ix : V2 X ca (rIx X.K) gIx := by
  intro G H W1 x y a b Q s ax ay w
  unfold gIx at w
  split at w
  · obtain ⟨d, e, w⟩ := wish_opt' w
    obtain ⟨p, vs, rfl, h1, h2⟩ := ax
    obtain ⟨v, e2, a2⟩ := h2.atI e
    exact .inl ⟨p, vs, _, v, rfl, ay, .of (s _ _ h1), e2, w.here s _ a2⟩
  · obtain ⟨d, e, w⟩ := wish_opt' w
    obtain ⟨p, vs, rfl, h1, h2⟩ := ax
    obtain ⟨v, e2, a2⟩ := h2.atI e
    exact .inr (.inl ⟨p, vs, _, v, rfl, ay, tq s h1, e2, w.here s _ a2⟩)
  · split at w
    · rename_i z
      obtain ⟨c, e, w⟩ := wish_opt w
      exact .inr (.inr ⟨_, _, c, ax, ay, z, e, w.here s _ rfl⟩)
    · exact w.elim
  · obtain ⟨n, e, w⟩ := wish_opt w
    obtain ⟨p, rfl, h1⟩ := ax
    exact .inl ⟨p, _, _, _, rfl, ay, SqL_mono s h1, atI_map e, w.here s _ rfl⟩
  · exact w.elim
theorem fe_ix (hs : PlainIx b) (ha : FE X ca W a fa) (hb : FE X ca W b fb) : FE X ca W (.Subscript a b pos) (e2 gIx fa fb) := by
  obtain ⟨ta, pa, ka⟩ := ha.ex
  obtain ⟨tb, pb, kb⟩ := hb.ex
  refine ⟨_, pe_ix ix_seq pa pb hs, fun B G H σ ρ Q s b r h => ?_⟩
  refine ka B G H σ ρ _ s b r (Wish.bind h fun d G1 H1 _ x1 w1 v a1 => ?_)
  refine kb B G1 H1 σ ρ _ x1.gh (b.trans x1.hh) (r.ext x1) (Wish.bind w1 fun d2 G2 H2 _ x2 w2 v2 a2 => ?_)
  exact v2_ix G2 H2 _ v v2 d d2 Q x2.gh (At.mono x2.gg a1) a2 w2
theorem fo_n : FO X ca W none oN := ⟨_, po_none, fun B G H σ ρ Q s b r h => h.here s⟩
theorem fo_s (h : FE X ca W e fa) : FO X ca W (some e) (oS fa) := by
  obtain ⟨t, p, k⟩ := h.ex
  refine ⟨_, po_some p, fun B G H σ ρ Q s b r h => ?_⟩
  refine k B G H σ ρ _ s b r (Wish.bind h fun d G1 H1 _ x1 w1 v a1 => ?_)
  cases d with
  | int i => exact ⟨i, a1, w1.here x1.gh⟩
  | _ => exact w1.elim
theorem AtL.cut {K : PySem.W.Frag} {G : Hp} {ds : List D} {vs : List V} (lo hi : Option Int) (h : AtL K ca G ds vs) : AtL K ca G (cutD ds lo hi) (cutV vs lo hi) := by
  unfold cutD cutV
  rw [← h.length]
  exact AtL.take _ (AtL.drop _ h)
theorem sl_all : SlR X (fun x lo hi H Q => rSlL X.K x lo hi H Q ∨ (rSlA X.K x lo hi H Q ∨ rSlS x lo hi H Q)) := sl_list.or (sl_tupA.or sl_str)
theorem fe_sl (ha : FE X ca W a fa) (hl : FO X ca W lo fl) (hh : FO X ca W hi fh) : FE X ca W (.Subscript a (.Slice lo hi none p2) pos) (eSl fa fl fh) := by
  obtain ⟨ta, pa, ka⟩ := ha.ex
  obtain ⟨tl, pl, kl⟩ := hl.ex
  obtain ⟨th, ph, kh⟩ := hh.ex
  refine ⟨_, pe_slice sl_all pa pl ph, fun B G H σ ρ Q s b r h => ?_⟩
  refine ka B G H σ ρ _ s b r (Wish.bind h fun d G1 H1 _ x1 w1 v a1 => ?_)
  refine kl B G1 H1 σ ρ _ x1.gh (b.trans x1.hh) (r.ext x1) (Wish.bind w1 fun l G2 H2 _ x2 w2 => ?_)
  refine kh B G2 H2 σ ρ _ x2.gh ((b.trans x1.hh).trans x2.hh) ((r.ext x1).ext x2) (Wish.bind w2 fun u G3 H3 _ x3 w3 => ?_)
  have a3 := At.mono (x2.gg.trans x3.gg) a1
  cases d with
  | lst xs =>
    obtain ⟨p, vs, rfl, h1, h2⟩ := a3
    exact .inl ⟨p, vs, rfl, .of (x3.gh _ _ h1), fun q n => new_lst x3.gh w3 (h2.cut l u) n⟩
  | scr ns =>
    obtain ⟨p, rfl, h1⟩ := a3
    refine .inl ⟨p, _, rfl, SqL_mono x3.gh h1, fun q n => ?_⟩
    have e : cutV (ns.map V.int) l u = (cutD ns l u).map V.int := by
      unfold cutV cutD
      rw [List.length_map, List.map_take, List.map_drop]
    rw [e]
    exact new_lst x3.gh w3 (AtL.of_ints _) n
  | tup xs =>
    obtain ⟨p, vs, rfl, h1, h2⟩ := a3
    refine .inr (.inl ⟨p, vs, rfl, tq x3.gh h1, fun e => ?_, fun e q n => new_tup x3.gh w3 (h2.cut l u) n⟩)
    have e3 : cutD xs l u = xs := by
      unfold cutD
      rw [h2.length, e.1, e.2, List.drop_zero, Nat.sub_zero, ← h2.length, List.take_length]
    have w4 : Wish X.K ca (SV X.K ca Q) G3 H3 (.ok (.tup (cutD xs l u))) (WE W σ) := w3
    rw [e3] at w4
    exact w4.here x3.gh _ ⟨p, vs, rfl, h1, h2⟩
  | str z =>
    have w4 : Wish X.K ca (SV X.K ca Q) G3 H3 (if z.length ≤ sizeLine then .ok (.str (cutS z l u)) else .bad) (WE W σ) := w3
    split at w4
    · rename_i hz
      exact .inr (.inr ⟨z, a3, hz, w4.here x3.gh _ rfl⟩)
    · exact w4.elim
  | _ => exact w3.elim
/-! ### fields -/
def gFld (cs : List Nat) (f : Nat) : D → R D
  | .ins c fs => if c ∈ cs ∧ (fs.map (·.1)).all (fun k => k ≤ 1000) = true then optR (fs.lookup f) else .bad
  | _ => .bad
theorem fe_fld {cs : List Nat} {f : Nat} {nm : Str} (hf : ca.n f = nm) (hi : ∀ k, ca.n k = ca.n f → k = f) (hc : ∀ c ∈ cs, ∀ C, ca.a c = some C → Cls X.K C ∧ NoAttr X.K C nm) (h : FE X ca W e fa) (hb : attributeBase e nm X.env (eval e X.env) = eval e X.env := by rfl) :
    FE X ca W (.Attribute e nm pos) (e1 (gFld cs f) fa) := by
  obtain ⟨t, p, k⟩ := h.ex
  refine ⟨_, pe_fld p hb, fun B G H σ ρ Q s b r h => ?_⟩
  refine k B G H σ ρ _ s b r (Wish.bind h fun d G1 H1 _ x1 w1 v a1 => ?_)
  cases d with
  | ins c fs =>
    obtain ⟨a', C, dx, vs, rfl, h1, h2, h3⟩ := a1
    have w2 : Wish X.K ca (SV X.K ca Q) G1 H1 (if c ∈ cs ∧ (fs.map (·.1)).all (fun k => k ≤ 1000) = true then optR (fs.lookup f) else .bad) (WE W σ) := w1
    split at w2
    · rename_i hm
      obtain ⟨z, e, w3⟩ := wish_opt' w2
      obtain ⟨v, l1, l2⟩ := h3.lookup (fun p _ q => hi _ q) e
      rw [hf] at l1
      exact ⟨a', C, dx, vs, v, rfl, x1.gh _ _ h2, (hc c hm.1 C h1).1, (hc c hm.1 C h1).2, l1, w3.here x1.gh _ l2⟩
    · exact w2.elim
  | _ => exact w1.elim
end

/-! ### built-ins -/
def gLen : List D → R D
  | [.str z] => if z.length ≤ sizeLine then .ok (.int z.length) else .bad
  | [.lst xs] => .ok (.int xs.length)
  | [.tup xs] => .ok (.int xs.length)
  | [.scr ns] => .ok (.int ns.length)
  | _ => .bad
def gAbs : List D → R D
  | [.int i] => .ok (.int (if i < 0 then -i else i))
  | _ => .bad
def gInt : List D → R D
  | [.int i] => .ok (.int i)
  | [.bl k] => .ok (.int (if k then 1 else 0))
  | _ => .bad
def gList : List D → R D
  | [.lst xs] => .ok (.lst xs)
  | [.tup xs] => .ok (.lst xs)
  | [.scr ns] => .ok (.lst (ns.map .int))
  | _ => .bad
def gTuple : List D → R D
  | [.lst xs] => .ok (.tup xs)
  | [.tup xs] => .ok (.tup xs)
  | _ => .bad
def intsOf : List D → Option (List Int)
  | [] => some []
  | .int i :: r => (intsOf r).map (i :: ·)
  | _ :: _ => none
def bolsOf : List D → Option (List Bool)
  | [] => some []
  | .bl i :: r => (bolsOf r).map (i :: ·)
  | _ :: _ => none
def gSum : List D → R D
  | [.lst xs] => (optR (intsOf xs)).bind fun ns => .ok (.int ns.sum)
  | _ => .bad
def gAll : List D → R D
  | [.lst xs] => (optR (bolsOf xs)).bind fun ns => .ok (.bl (ns.all id))
  | _ => .bad
def gAny : List D → R D
  | [.lst xs] => (optR (bolsOf xs)).bind fun ns => .ok (.bl (ns.any id))
  | _ => .bad
def maxI : List Int → Option Int
  | [] => none
  | n :: ns => some (ns.foldl max n)
def minI : List Int → Option Int
  | [] => none
  | n :: ns => some (ns.foldl min n)
def gMax : List D → R D
  | [.lst xs] => (optR ((intsOf xs).bind maxI)).bind fun n => .ok (.int n)
  | [.int i, .int j] => .ok (.int (if j > i then j else i))
  | _ => .bad
def gMin : List D → R D
  | [.lst xs] => (optR ((intsOf xs).bind minI)).bind fun n => .ok (.int n)
  | [.int i, .int j] => .ok (.int (if j < i then j else i))
  | _ => .bad
section
variable {X : Cx} {ca : Cn}
theorem atl1 {K : PySem.W.Frag} {G : Hp} {d : D} {vs : List V} (h : AtL K ca G [d] vs) : ∃ v, vs = [v] ∧ At K ca G d v := by
  obtain ⟨v, r, e, h, t⟩ := h
  cases t
  exact ⟨v, e, h⟩
theorem atl2 {K : PySem.W.Frag} {G : Hp} {d d' : D} {vs : List V} (h : AtL K ca G [d, d'] vs) : ∃ v v', vs = [v, v'] ∧ At K ca G d v ∧ At K ca G d' v' := by
  obtain ⟨v, r, e, h, t⟩ := h
  obtain ⟨v', e', h'⟩ := atl1 t
  subst e'
  exact ⟨v, v', e, h, h'⟩
theorem intsOf_at {K : PySem.W.Frag} {G : Hp} : ∀ {ds : List D} {ns : List Int} {vs : List V}, intsOf ds = some ns → AtL K ca G ds vs → vs = ns.map V.int
  | [], _, _, e, h => by cases e; exact h
  | .int i :: r, ns, vs, e, ⟨v, r', e', h, t⟩ => by
    obtain ⟨ms, e1, e2⟩ := Option.map_eq_some_iff.mp (show (intsOf r).map (i :: ·) = some ns from e)
    subst e2 e'
    cases h
    rw [intsOf_at e1 t]
    rfl
  | .non :: _, _, _, e, _ => by cases e
  | .bl _ :: _, _, _, e, _ => by cases e
  | .str _ :: _, _, _, e, _ => by cases e
  | .ty _ :: _, _, _, e, _ => by cases e
  | .cl _ :: _, _, _, e, _ => by cases e
  | .scr _ :: _, _, _, e, _ => by cases e
  | .lst _ :: _, _, _, e, _ => by cases e
  | .tup _ :: _, _, _, e, _ => by cases e
  | .dK _ :: _, _, _, e, _ => by cases e
  | .dT _ :: _, _, _, e, _ => by cases e
  | .ins _ _ :: _, _, _, e, _ => by cases e
theorem bolsOf_at {K : PySem.W.Frag} {G : Hp} : ∀ {ds : List D} {ns : List Bool} {vs : List V}, bolsOf ds = some ns → AtL K ca G ds vs → vs = ns.map V.bl
  | [], _, _, e, h => by cases e; exact h
  | .bl i :: r, ns, vs, e, ⟨v, r', e', h, t⟩ => by
    obtain ⟨ms, e1, e2⟩ := Option.map_eq_some_iff.mp (show (bolsOf r).map (i :: ·) = some ns from e)
    subst e2 e'
    cases h
    rw [bolsOf_at e1 t]
    rfl
  | .non :: _, _, _, e, _ => by cases e
  | .int _ :: _, _, _, e, _ => by cases e
  | .str _ :: _, _, _, e, _ => by cases e
  | .ty _ :: _, _, _, e, _ => by cases e
  | .cl _ :: _, _, _, e, _ => by cases e
  | .scr _ :: _, _, _, e, _ => by cases e
  | .lst _ :: _, _, _, e, _ => by cases e
  | .tup _ :: _, _, _, e, _ => by cases e
  | .dK _ :: _, _, _, e, _ => by cases e
  | .dT _ :: _, _, _, e, _ => by cases e
  | .ins _ _ :: _, _, _, e, _ => by cases e
theorem vn_len : VN X ca (fun xs H Q => ∃ x n, xs = [x] ∧ LenV X.K x H n ∧ Q (.int n) H) gLen := by
  intro G H W1 xs ds Q s a w
  unfold gLen at w
  split at w
  · obtain ⟨v, rfl, a1⟩ := atl1 a
    cases a1
    split at w
    · rename_i z; exact ⟨.str _, _, rfl, ⟨z, rfl⟩, w.here s _ rfl⟩
    · exact w.elim
  · obtain ⟨v, rfl, p, vs, rfl, h1, h2⟩ := atl1 a
    exact ⟨.ref p, _, rfl, .inl ⟨vs, .of (s _ _ h1), h2.length⟩, w.here s _ rfl⟩
  · obtain ⟨v, rfl, p, vs, rfl, h1, h2⟩ := atl1 a
    exact ⟨.ref p, _, rfl, .inr ⟨vs, tq s h1, h2.length⟩, w.here s _ rfl⟩
  · obtain ⟨v, rfl, p, rfl, h1⟩ := atl1 a
    exact ⟨.ref p, _, rfl, .inl ⟨_, SqL_mono s h1, (List.length_map ..).symm⟩, w.here s _ rfl⟩
  · exact w.elim
theorem vn_abs : VN X ca (fun xs H Q => ∃ i, xs = [.int i] ∧ Q (.int (if i < 0 then -i else i)) H) gAbs := by
  intro G H W1 xs ds Q s a w
  unfold gAbs at w
  split at w
  · obtain ⟨v, rfl, a1⟩ := atl1 a
    cases a1
    exact ⟨_, rfl, w.here s _ rfl⟩
  · exact w.elim
theorem vn_int : VN X ca (fun xs H Q => (∃ i, xs = [.int i] ∧ Q (.int i) H) ∨ ∃ k, xs = [.bl k] ∧ Q (.int (if k then 1 else 0)) H) gInt := by
  intro G H W1 xs ds Q s a w
  unfold gInt at w
  split at w
  · obtain ⟨v, rfl, a1⟩ := atl1 a
    cases a1
    exact .inl ⟨_, rfl, w.here s _ rfl⟩
  · obtain ⟨v, rfl, a1⟩ := atl1 a
    cases a1
    exact .inr ⟨_, rfl, w.here s _ rfl⟩
  · exact w.elim
theorem vn_list : VN X ca (fun xs H Q => ∃ p ys, xs = [.ref p] ∧ (SqL X.K H p ys ∨ SqT X.K H p ys) ∧ ∀ l, H l = none → Q (.ref l) (upd H l (.lst ys))) gList := by
  intro G H W1 xs ds Q s a w
  unfold gList at w
  split at w
  · obtain ⟨v, rfl, p, vs, rfl, h1, h2⟩ := atl1 a
    exact ⟨p, vs, rfl, .inl (.of (s _ _ h1)), fun l n => new_lst s w h2 n⟩
  · obtain ⟨v, rfl, p, vs, rfl, h1, h2⟩ := atl1 a
    exact ⟨p, vs, rfl, .inr (tq s h1), fun l n => new_lst s w h2 n⟩
  · obtain ⟨v, rfl, p, rfl, h1⟩ := atl1 a
    exact ⟨p, _, rfl, .inl (SqL_mono s h1), fun l n => new_lst s w (AtL.of_ints _) n⟩
  · exact w.elim
theorem vn_tuple : VN X ca (fun xs H Q => ∃ p ys, xs = [.ref p] ∧ ((SqL X.K H p ys ∧ ∀ l, H l = none → Q (.ref l) (upd H l (.tup ys))) ∨ (SqT X.K H p ys ∧ Q (.ref p) H))) gTuple := by
  intro G H W1 xs ds Q s a w
  unfold gTuple at w
  split at w
  · obtain ⟨v, rfl, p, vs, rfl, h1, h2⟩ := atl1 a
    exact ⟨p, vs, rfl, .inl ⟨.of (s _ _ h1), fun l n => new_tup s w h2 n⟩⟩
  · obtain ⟨v, rfl, p, vs, rfl, h1, h2⟩ := atl1 a
    exact ⟨p, vs, rfl, .inr ⟨tq s h1, w.here s _ ⟨p, vs, rfl, h1, h2⟩⟩⟩
  · exact w.elim
theorem vn_sum : VN X ca (rSum X.K) gSum := by
  intro G H W1 xs ds Q s a w
  unfold gSum at w
  split at w
  · obtain ⟨ns, e, w⟩ := wish_opt w
    obtain ⟨v, rfl, p, vs, rfl, h1, h2⟩ := atl1 a
    rw [intsOf_at e h2] at h1
    exact ⟨p, ns, rfl, .of (s _ _ h1), w.here s _ rfl⟩
  · exact w.elim
theorem vn_all : VN X ca (rAll X.K) gAll := by
  intro G H W1 xs ds Q s a w
  unfold gAll at w
  split at w
  · obtain ⟨ns, e, w⟩ := wish_opt w
    obtain ⟨v, rfl, p, vs, rfl, h1, h2⟩ := atl1 a
    rw [bolsOf_at e h2] at h1
    exact ⟨p, ns, rfl, .of (s _ _ h1), w.here s _ rfl⟩
  · exact w.elim
theorem vn_any : VN X ca (rAny X.K) gAny := by
  intro G H W1 xs ds Q s a w
  unfold gAny at w
  split at w
  · obtain ⟨ns, e, w⟩ := wish_opt w
    obtain ⟨v, rfl, p, vs, rfl, h1, h2⟩ := atl1 a
    rw [bolsOf_at e h2] at h1
    exact ⟨p, ns, rfl, .of (s _ _ h1), w.here s _ rfl⟩
  · exact w.elim
theorem foldl_max (ns : List Int) : ∀ n : Int, (ns.foldl max n = n ∨ ns.foldl max n ∈ ns) ∧ n ≤ ns.foldl max n ∧ ∀ y ∈ ns, y ≤ ns.foldl max n := by
  induction ns with
  | nil => intro n; exact ⟨.inl rfl, Int.le_refl _, fun y h => by cases h⟩
  | cons m ns ih =>
    intro n
    obtain ⟨h1, h2, h3⟩ := ih (max n m)
    rw [List.foldl_cons]
    refine ⟨?_, by omega, fun y h => ?_⟩
    · rcases h1 with h1 | h1
      · rw [h1]
        by_cases z : n ≤ m
        · exact .inr (by rw [Int.max_eq_right z]; exact List.mem_cons_self)
        · exact .inl (by omega)
      · exact .inr (List.mem_cons_of_mem _ h1)
    · rcases List.mem_cons.mp h with rfl | h
      · omega
      · exact h3 y h
theorem foldl_min (ns : List Int) : ∀ n : Int, (ns.foldl min n = n ∨ ns.foldl min n ∈ ns) ∧ ns.foldl min n ≤ n ∧ ∀ y ∈ ns, ns.foldl min n ≤ y := by
  induction ns with
  | nil => intro n; exact ⟨.inl rfl, Int.le_refl _, fun y h => by cases h⟩
  | cons m ns ih =>
    intro n
    obtain ⟨h1, h2, h3⟩ := ih (min n m)
    rw [List.foldl_cons]
    refine ⟨?_, by omega, fun y h => ?_⟩
    · rcases h1 with h1 | h1
      · rw [h1]
        by_cases z : n ≤ m
        · exact .inl (by omega)
        · exact .inr (by rw [Int.min_eq_right (by omega)]; exact List.mem_cons_self)
      · exact .inr (List.mem_cons_of_mem _ h1)
    · rcases List.mem_cons.mp h with rfl | h
      · omega
      · exact h3 y h
theorem call_maxA (hc : X.calm = true) : CallR X (.builtin "max") (fun xs H Q => rMax X.K xs H Q ∨ ∃ i j, xs = [.int i, .int j] ∧ Q (.int (if j > i then j else i)) H) := (cr_max hc).or (call_max2 hc)
theorem call_minA (hc : X.calm = true) : CallR X (.builtin "min") (fun xs H Q => rMin X.K xs H Q ∨ ∃ i j, xs = [.int i, .int j] ∧ Q (.int (if j < i then j else i)) H) := (cr_min hc).or (call_min2 hc)
theorem vn_max : VN X ca (fun xs H Q => rMax X.K xs H Q ∨ ∃ i j, xs = [.int i, .int j] ∧ Q (.int (if j > i then j else i)) H) gMax := by
  intro G H W1 xs ds Q s a w
  unfold gMax at w
  split at w
  · obtain ⟨n, e, w⟩ := wish_opt w
    obtain ⟨ns, e1, e2⟩ := Option.bind_eq_some_iff.mp e
    obtain ⟨v, rfl, p, vs, rfl, h1, h2⟩ := atl1 a
    rw [intsOf_at e1 h2] at h1
    cases ns with
    | nil => cases e2
    | cons m ns =>
      cases e2
      obtain ⟨f1, f2, f3⟩ := foldl_max ns m
      refine .inl ⟨p, m :: ns, rfl, .of (s _ _ h1), Nat.succ_pos _, fun k hk hmax => ?_⟩
      have : k = ns.foldl max m := by
        have g1 : ns.foldl max m ∈ m :: ns := by
          rcases f1 with f1 | f1
          · rw [f1]; exact List.mem_cons_self
          · exact List.mem_cons_of_mem _ f1
        have g2 := hmax _ g1
        have g3 : k ≤ ns.foldl max m := by
          rcases List.mem_cons.mp hk with rfl | hk
          · exact f2
          · exact f3 k hk
        omega
      rw [this]
      exact w.here s _ rfl
  · obtain ⟨v, v', rfl, a1, a2⟩ := atl2 a
    cases a1; cases a2
    exact .inr ⟨_, _, rfl, w.here s _ rfl⟩
  · exact w.elim
theorem vn_min : VN X ca (fun xs H Q => rMin X.K xs H Q ∨ ∃ i j, xs = [.int i, .int j] ∧ Q (.int (if j < i then j else i)) H) gMin := by
  intro G H W1 xs ds Q s a w
  unfold gMin at w
  split at w
  · obtain ⟨n, e, w⟩ := wish_opt w
    obtain ⟨ns, e1, e2⟩ := Option.bind_eq_some_iff.mp e
    obtain ⟨v, rfl, p, vs, rfl, h1, h2⟩ := atl1 a
    rw [intsOf_at e1 h2] at h1
    cases ns with
    | nil => cases e2
    | cons m ns =>
      cases e2
      obtain ⟨f1, f2, f3⟩ := foldl_min ns m
      refine .inl ⟨p, m :: ns, rfl, .of (s _ _ h1), Nat.succ_pos _, fun k hk hmin => ?_⟩
      have : k = ns.foldl min m := by
        have g1 : ns.foldl min m ∈ m :: ns := by
          rcases f1 with f1 | f1
          · rw [f1]; exact List.mem_cons_self
          · exact List.mem_cons_of_mem _ f1
        have g2 := hmin _ g1
        have g3 : ns.foldl min m ≤ k := by
          rcases List.mem_cons.mp hk with rfl | hk
          · exact f2
          · exact f3 k hk
        omega
      rw [this]
      exact w.here s _ rfl
  · obtain ⟨v, v', rfl, a1, a2⟩ := atl2 a
    cases a1; cases a2
    exact .inr ⟨_, _, rfl, w.here s _ rfl⟩
  · exact w.elim
end
end Tk

namespace Tk
open PySem PySem.Spec L2 PyProof.Rows
/-! ### what a for walks -/
def signs (z : Str) : List D := z.cps.toList.map fun c => .str ⟨#[c]⟩
def gIt : D → R (List D)
  | .lst xs => .ok xs
  | .tup xs => .ok xs
  | .str z => .ok (signs z)
  | .scr ns => .ok (ns.map .int)
  | _ => .bad
def iSq (fa : Ev → R D) : Ev → R (List D) := fun ρ => (fa ρ).bind gIt
def small62 (i : Int) : Prop := -(2 ^ 62) ≤ i ∧ i < 2 ^ 62
instance (i : Int) : Decidable (small62 i) := by unfold small62; infer_instance
def rgD (lo : Int) (n : Nat) : List D := (List.range n).map fun (k : Nat) => .int (lo + (k : Int))
def iR1 (fa : Ev → R D) : Ev → R (List D) := fun ρ => (fa ρ).bind fun d => match d with
  | .int j => if small62 j then .ok (rgD 0 j.toNat) else .bad
  | _ => .bad
def iR2 (fa fb : Ev → R D) : Ev → R (List D) := fun ρ => (fa ρ).bind fun a => (fb ρ).bind fun b => match a, b with
  | .int i, .int j => if small62 i ∧ small62 j then .ok (rgD i (j - i).toNat) else .bad
  | _, _ => .bad
def enumD (k : Nat) : List D → List D
  | [] => []
  | d :: r => .tup [.int (k : Int), d] :: enumD (k + 1) r
def iEn (fa : Ev → R D) : Ev → R (List D) := fun ρ => (fa ρ).bind fun d => match d with
  | .lst xs => .ok (enumD 0 xs)
  | _ => .bad
def zipD : List D → List D → List D
  | d :: r, e :: s => .tup [d, e] :: zipD r s
  | _, _ => []
def iZp (fa fb : Ev → R D) : Ev → R (List D) := fun ρ => (fa ρ).bind fun a => (fb ρ).bind fun b => match a, b with
  | .lst xs, .lst ys => .ok (zipD xs ys)
  | .tup xs, .tup ys => .ok (zipD xs ys)
  | _, _ => .bad
section
variable {K : PySem.W.Frag} {ca : Cn} {G0 : Hp}
theorem jok_list {a : Addr} {ds : List D} {vs : List V} (h : SqL K G0 a vs) (r : AtL K ca G0 ds vs) : JOk K ca G0 (Itl K a) ds := by
  intro G H s1 s2 i
  have q : SqL K H a vs := SqL_mono s2 (SqL_mono s1 h)
  refine ⟨fun d e => ?_, fun l => ⟨vs, q, by rw [← r.length]; omega⟩⟩
  obtain ⟨v, e1, a1⟩ := r.get e
  refine ⟨⟨vs, v, q, e1⟩, fun x H' y => ⟨G, by rw [y.1]; exact .refl s2, ?_⟩⟩
  have := y.2 vs q
  rw [e1] at this
  cases this
  exact At.mono s1 a1
theorem jok_tup {a : Addr} {ds : List D} {vs : List V} (h : SqT K G0 a vs) (r : AtL K ca G0 ds vs) : JOk K ca G0 (Itt K a) ds := by
  intro G H s1 s2 i
  have q : SqT K H a vs := SqT_mono s2 (SqT_mono s1 h)
  refine ⟨fun d e => ?_, fun l => ⟨vs, q, by rw [← r.length]; omega⟩⟩
  obtain ⟨v, e1, a1⟩ := r.get e
  refine ⟨⟨vs, v, q, e1⟩, fun x H' y => ⟨G, by rw [y.1]; exact .refl s2, ?_⟩⟩
  have := y.2 vs q
  rw [e1] at this
  cases this
  exact At.mono s1 a1
theorem jok_str {z : Str} : JOk K ca G0 (Its z) (signs z) := by
  intro G H s1 s2 i
  have hl : (signs z).length = z.cps.size := by unfold signs; rw [List.length_map, Array.length_toList]
  refine ⟨fun d e => ?_, fun l => Nat.le_of_eq (hl.symm.trans l)⟩
  have hi : i < z.cps.size := by rw [← hl]; exact (List.getElem?_eq_some_iff.mp e).1
  refine ⟨hi, fun x H' y => ⟨G, by rw [y.1]; exact .refl s2, ?_⟩⟩
  obtain ⟨c, e1, e2⟩ := y.2
  unfold signs at e
  rw [List.getElem?_map, Array.getElem?_toList, e1] at e
  cases e
  exact e2
theorem jok_rg {lo : Int} {n : Nat} : JOk K ca G0 (Itr lo n) (rgD lo n) := by
  intro G H s1 s2 i
  have hl : (rgD lo n).length = n := by unfold rgD; rw [List.length_map, List.length_range]
  refine ⟨fun d e => ?_, fun l => Nat.le_of_eq (hl.symm.trans l)⟩
  have hi : i < n := by rw [← hl]; exact (List.getElem?_eq_some_iff.mp e).1
  refine ⟨hi, fun x H' y => ⟨G, by rw [y.1]; exact .refl s2, ?_⟩⟩
  unfold rgD at e
  rw [List.getElem?_map, List.getElem?_range hi] at e
  cases e
  exact y.2
theorem enumD_get : ∀ (ds : List D) (k i : Nat), (enumD k ds)[i]? = ds[i]?.map fun d => .tup [.int ((k + i : Nat) : Int), d]
  | [], k, i => by simp [enumD]
  | d :: r, k, 0 => by simp [enumD]
  | d :: r, k, i + 1 => by
    show (enumD (k + 1) r)[i]? = r[i]?.map _
    rw [enumD_get r (k + 1) i]
    rw [show k + 1 + i = k + (i + 1) by omega]
theorem enumD_len : ∀ (ds : List D) (k : Nat), (enumD k ds).length = ds.length
  | [], k => rfl
  | d :: r, k => congrArg Nat.succ (enumD_len r (k + 1))
theorem zipD_get : ∀ (ds es : List D) (i : Nat), (zipD ds es)[i]? = (match ds[i]?, es[i]? with | some d, some e => some (.tup [d, e]) | _, _ => none)
  | [], es, i => by simp [zipD]
  | d :: r, [], i => by cases h : (d :: r)[i]? <;> simp [zipD]
  | d :: r, e :: s, 0 => by simp [zipD]
  | d :: r, e :: s, i + 1 => by
    show (zipD r s)[i]? = _
    rw [zipD_get r s i]
    rfl
theorem zipD_len : ∀ (ds es : List D), (zipD ds es).length = min ds.length es.length
  | [], es => by simp [zipD]
  | d :: r, [] => by simp [zipD]
  | d :: r, e :: s => by
    show (zipD r s).length + 1 = _
    rw [zipD_len r s, List.length_cons, List.length_cons]
    omega
theorem pair_at {G H : Hp} {T : Addr} {x y : V} {d e : D} (s : Same G H) (n : H T = none) (a : At K ca G d x) (b : At K ca G e y) : ∃ G', Ext G H G' (upd H T (.tup [x, y])) ∧ At K ca G' (.tup [d, e]) (.ref T) := by
  refine ⟨upd G T (.tup [x, y]), Ext.new s n, T, [x, y], rfl, .inl upd_same, ?_⟩
  have m := same_upd (o := .tup [x, y]) (same_none s n)
  exact ⟨x, [y], rfl, At.mono m a, y, [], rfl, At.mono m b, rfl⟩
theorem jok_enum {a : Addr} {ds : List D} {vs : List V} (h : SqL K G0 a vs) (r : AtL K ca G0 ds vs) : JOk K ca G0 (Ite K a) (enumD 0 ds) := by
  intro G H s1 s2 i
  have q : SqL K H a vs := SqL_mono s2 (SqL_mono s1 h)
  refine ⟨fun d e => ?_, fun l => ⟨vs, q, by rw [enumD_len] at l; rw [← r.length]; omega⟩⟩
  rw [enumD_get] at e
  obtain ⟨d0, e0, e1⟩ := Option.map_eq_some_iff.mp e
  obtain ⟨v, e2, a1⟩ := r.get e0
  refine ⟨⟨vs, v, q, e2⟩, fun x H' y => ?_⟩
  obtain ⟨T, x0, rfl, n, rfl, hx⟩ := y
  have := hx vs q
  rw [e2] at this
  cases this
  subst e1
  refine pair_at s2 n ?_ (At.mono s1 a1)
  rw [Nat.zero_add]
  rfl
theorem jok_zip {a b : Addr} {ds es : List D} {vs ws : List V} (h : SqL K G0 a vs) (h' : SqL K G0 b ws) (r : AtL K ca G0 ds vs) (r' : AtL K ca G0 es ws) : JOk K ca G0 (L2.Itz K a b) (zipD ds es) := by
  intro G H s1 s2 i
  have q : SqL K H a vs := SqL_mono s2 (SqL_mono s1 h)
  have q' : SqL K H b ws := SqL_mono s2 (SqL_mono s1 h')
  refine ⟨fun d e => ?_, fun l => ⟨vs, ws, q, q', by rw [zipD_len, r.length, r'.length] at l; omega⟩⟩
  rw [zipD_get] at e
  cases e0 : ds[i]? with
  | none => rw [e0] at e; cases e
  | some d0 =>
    cases e1 : es[i]? with
    | none => rw [e0, e1] at e; cases e
    | some d1 =>
      rw [e0, e1] at e
      cases e
      obtain ⟨v, e2, a1⟩ := r.get e0
      obtain ⟨w, e3, a2⟩ := r'.get e1
      refine ⟨⟨vs, ws, v, w, q, q', e2, e3⟩, fun x H' y => ?_⟩
      obtain ⟨T, x0, y0, rfl, n, rfl, hx, hy⟩ := y
      have z1 := hx vs q
      have z2 := hy ws q'
      rw [e2] at z1
      rw [e3] at z2
      cases z1; cases z2
      exact pair_at s2 n (At.mono s1 a1) (At.mono s1 a2)
theorem jok_zipT {a b : Addr} {ds es : List D} {vs ws : List V} (h : SqT K G0 a vs) (h' : SqT K G0 b ws) (r : AtL K ca G0 ds vs) (r' : AtL K ca G0 es ws) : JOk K ca G0 (RZ.ItzT K a b) (zipD ds es) := by
  intro G H s1 s2 i
  have q : SqT K H a vs := SqT_mono s2 (SqT_mono s1 h)
  have q' : SqT K H b ws := SqT_mono s2 (SqT_mono s1 h')
  refine ⟨fun d e => ?_, fun l => ⟨vs, ws, q, q', by rw [zipD_len, r.length, r'.length] at l; omega⟩⟩
  rw [zipD_get] at e
  cases e0 : ds[i]? with
  | none => rw [e0] at e; cases e
  | some d0 =>
    cases e1 : es[i]? with
    | none => rw [e0, e1] at e; cases e
    | some d1 =>
      rw [e0, e1] at e
      cases e
      obtain ⟨v, e2, a1⟩ := r.get e0
      obtain ⟨w, e3, a2⟩ := r'.get e1
      refine ⟨⟨vs, ws, v, w, q, q', e2, e3⟩, fun x H' y => ?_⟩
      obtain ⟨T, x0, y0, rfl, n, rfl, hx, hy⟩ := y
      have z1 := hx vs q
      have z2 := hy ws q'
      rw [e2] at z1
      rw [e3] at z2
      cases z1; cases z2
      exact pair_at s2 n (At.mono s1 a1) (At.mono s1 a2)
end
theorem pi_or {X : Cx} {tg it : Expr} {w1 w2 : TI} (h1 : PI X tg it w1) (h2 : PI X tg it w2) : PI X tg it (fun σ H R => w1 σ H R ∨ w2 σ H R) :=
  ⟨fun pins s σ H R I h => h.elim (h1.run pins s σ H R I) (h2.run pins s σ H R I)⟩
theorem pe_or2 {X : Cx} {e : Expr} {w1 w2 : TE} (h1 : PE X e w1) (h2 : PE X e w2) : PE X e (fun σ H R => w1 σ H R ∨ w2 σ H R) :=
  ⟨fun pins s σ H R I h => h.elim (h1.run pins s σ H R I) (h2.run pins s σ H R I)⟩
section
variable {X : Cx} {ca : Cn} {W : WX} {tg e e' : Expr} {es : List Expr} {fa fb : Ev → R D} {fl : Ev → R (List D)} {p pos : Pos}
theorem fi_sq (h : FE X ca W e fa) : FI X ca W tg e (iSq fa) := by
  obtain ⟨t, p, k⟩ := h.ex
  refine ⟨_, pi_or (pi_or (pi_list p) (pi_tup p)) (pi_str p), fun B G H σ ρ Q s b r h => ?_⟩
  unfold iSq at h
  -- which of the three is known ahead: the mirror's value
  cases z : fa ρ with
  | bad => rw [z] at h; exact h.elim
  | exc x =>
    refine .inl (.inl (k B G H σ ρ _ s b r ?_))
    rw [z] at h ⊢
    exact h
  | ok d =>
    have hw : ∀ ds, gIt d = .ok ds → ∀ Q1 : VK, (∀ v G1 H1, Ext G H G1 H1 → Wish X.K ca (fun G' ds H' => ∀ J, JOk X.K ca G' J ds → Q J H') G1 H1 (.ok ds) (WE W σ) → At X.K ca G1 d v → Q1 v H1) → Wish X.K ca (SV X.K ca Q1) G H (fa ρ) (WE W σ) := fun ds e Q1 hq => by
      refine Wish.bind (k := gIt) h fun d' G1 H1 e1 x1 w1 v a1 => ?_
      rw [z] at e1
      cases e1
      rw [e] at w1
      exact hq v G1 H1 x1 w1 a1
    cases d with
    | lst xs =>
      refine .inl (.inl (k B G H σ ρ _ s b r (hw xs rfl _ fun v G1 H1 x1 w1 a1 => ?_)))
      obtain ⟨q, vs, rfl, h1, h2⟩ := a1
      exact ⟨q, rfl, ⟨vs, .of (x1.gh _ _ h1)⟩, w1.here x1.gh _ (jok_list (.of h1) h2)⟩
    | scr ns =>
      refine .inl (.inl (k B G H σ ρ _ s b r (hw _ rfl _ fun v G1 H1 x1 w1 a1 => ?_)))
      obtain ⟨q, rfl, h1⟩ := a1
      exact ⟨q, rfl, ⟨_, SqL_mono x1.gh h1⟩, w1.here x1.gh _ (jok_list h1 (AtL.of_ints _))⟩
    | tup xs =>
      refine .inl (.inr (k B G H σ ρ _ s b r (hw xs rfl _ fun v G1 H1 x1 w1 a1 => ?_)))
      obtain ⟨q, vs, rfl, h1, h2⟩ := a1
      exact ⟨q, rfl, ⟨vs, tq x1.gh h1⟩, w1.here x1.gh _ (jok_tup (tq (.refl _) h1) h2)⟩
    | str x =>
      refine .inr (k B G H σ ρ _ s b r (hw _ rfl _ fun v G1 H1 x1 w1 a1 => ?_))
      cases a1
      exact ⟨x, rfl, w1.here x1.gh _ jok_str⟩
    | _ => rw [z] at h; exact h.elim
theorem fi_r1 (hg : Gl X "range") (hm : X.mg "range" = none) (h : FE X ca W e fa) (hs : starEach [e] X.env = [(false, eval e X.env)] := by rfl) : FI X ca W tg (.Call (.Name "range" p) [e] [] pos) (iR1 fa) := by
  obtain ⟨t, p, k⟩ := h.ex
  refine ⟨_, pi_range1 hg hm (pa_cons p pa_nil hs) hs, fun B G H σ ρ Q s b r h => ?_⟩
  refine k B G H σ ρ _ s b r (Wish.bind h fun d G1 H1 e1 x1 w1 v a1 => ?_)
  cases d with
  | int j =>
    cases a1
    have w2 : Wish X.K ca (fun G' ds H' => ∀ J, JOk X.K ca G' J ds → Q J H') G1 H1 (if small62 j then .ok (rgD 0 j.toNat) else .bad) (WE W σ) := w1
    split at w2
    · rename_i z; exact ⟨_, rfl, z.1, z.2, w2.here x1.gh _ jok_rg⟩
    · exact w2.elim
  | _ => exact w1.elim
theorem fi_r2 (hg : Gl X "range") (hm : X.mg "range" = none) (h : FE X ca W e fa) (h' : FE X ca W e' fb) (hs : starEach [e, e'] X.env = (false, eval e X.env) :: starEach [e'] X.env := by rfl) (hs' : starEach [e'] X.env = (false, eval e' X.env) :: starEach [] X.env := by rfl) (hs2 : starEach [e, e'] X.env = [(false, eval e X.env), (false, eval e' X.env)] := by rfl) :
    FI X ca W tg (.Call (.Name "range" p) [e, e'] [] pos) (iR2 fa fb) := by
  obtain ⟨t, p, k⟩ := h.ex
  obtain ⟨u, q, l⟩ := h'.ex
  refine ⟨_, pi_range2 hg hm (pa_cons p (pa_cons q pa_nil hs') hs) hs2 hs', fun B G H σ ρ Q s b r h => ?_⟩
  refine k B G H σ ρ _ s b r (Wish.bind h fun d G1 H1 e1 x1 w1 v a1 => ?_)
  refine l B G1 H1 σ ρ _ x1.gh (b.trans x1.hh) (r.ext x1) (Wish.bind w1 fun d2 G2 H2 e2 x2 w2 v2 a2 => ?_)
  cases d with
  | int i =>
    cases d2 with
    | int j =>
      cases a1
      cases a2
      have w3 : Wish X.K ca (fun G' ds H' => ∀ J, JOk X.K ca G' J ds → Q J H') G2 H2 (if small62 i ∧ small62 j then .ok (rgD i (j - i).toNat) else .bad) (WE W σ) := w2
      split at w3
      · rename_i z; exact ⟨_, _, rfl, ⟨z.1.1, z.1.2, z.2.1, z.2.2⟩, w3.here x2.gh _ jok_rg⟩
      · exact w3.elim
    | _ => exact w2.elim
  | _ => exact w2.elim
theorem fi_en {elts : List Expr} {kk : Nat} {tpos : Pos} (hg : Gl X "enumerate") (hm : X.mg "enumerate" = none) (h : FE X ca W e fa) (hs : starEach [e] X.env = [(false, eval e X.env)] := by rfl) : FI X ca W (.Tuple elts kk tpos) (.Call (.Name "enumerate" p) [e] [] pos) (iEn fa) := by
  obtain ⟨t, p, k⟩ := h.ex
  refine ⟨_, pi_enum hg hm (pa_cons p pa_nil hs) hs, fun B G H σ ρ Q s b r h => ?_⟩
  refine k B G H σ ρ _ s b r (Wish.bind h fun d G1 H1 e1 x1 w1 v a1 => ?_)
  cases d with
  | lst xs =>
    obtain ⟨q, vs, rfl, h1, h2⟩ := a1
    exact ⟨q, vs, rfl, .of (x1.gh _ _ h1), w1.here x1.gh _ (jok_enum (.of h1) h2)⟩
  | _ => exact w1.elim
theorem fi_zp {elts : List Expr} {kk : Nat} {tpos : Pos} (hg : Gl X "zip") (hm : X.mg "zip" = none) (h : FE X ca W e fa) (h' : FE X ca W e' fb) (hs : starEach [e, e'] X.env = (false, eval e X.env) :: starEach [e'] X.env := by rfl) (hs' : starEach [e'] X.env = (false, eval e' X.env) :: starEach [] X.env := by rfl)
    (hpl : (backTo pos (starEach [e'] X.env)).any (·.1) = false := by rfl) : FI X ca W (.Tuple elts kk tpos) (.Call (.Name "zip" p) [e, e'] [] pos) (iZp fa fb) := by
  obtain ⟨t, p, k⟩ := h.ex
  obtain ⟨u, q, l⟩ := h'.ex
  refine ⟨_, RZ.pi_zipA hg hm (pa_cons p (pa_cons q pa_nil hs') hs) hs hpl, fun B G H σ ρ Q s b r h => ?_⟩
  refine k B G H σ ρ _ s b r (Wish.bind h fun d G1 H1 e1 x1 w1 v a1 => ?_)
  refine l B G1 H1 σ ρ _ x1.gh (b.trans x1.hh) (r.ext x1) (Wish.bind w1 fun d2 G2 H2 e2 x2 w2 v2 a2 => ?_)
  have a3 := At.mono x2.gg a1
  cases d with
  | lst xs =>
    cases d2 with
    | lst ys =>
      obtain ⟨q, vs, rfl, h1, h2⟩ := a3
      obtain ⟨q', ws, rfl, h3, h4⟩ := a2
      exact ⟨q, q', vs, ws, rfl, .inl ⟨.of (x2.gh _ _ h1), .of (x2.gh _ _ h3), w2.here x2.gh _ (jok_zip (.of h1) (.of h3) h2 h4)⟩⟩
    | _ => exact w2.elim
  | tup xs =>
    cases d2 with
    | tup ys =>
      obtain ⟨q, vs, rfl, h1, h2⟩ := a3
      obtain ⟨q', ws, rfl, h3, h4⟩ := a2
      exact ⟨q, q', vs, ws, rfl, .inr ⟨tq x2.gh h1, tq x2.gh h3, w2.here x2.gh _ (jok_zipT (tq (.refl _) h1) (tq (.refl _) h3) h2 h4)⟩⟩
    | _ => exact w2.elim
  | _ => exact w2.elim
end
end Tk

namespace Tk
open PySem PySem.Spec L2 PyProof.Rows
/-! ### comprehensions -/
abbrev W0 : WX := fun _ _ _ _ => False
/-- the widest readings of a mirror -/
def tE (K : PySem.W.Frag) (ca : Cn) (W : WX) (f : Ev → R D) : TE := fun σ H Q => ∃ B G ρ, Same G H ∧ Same B H ∧ Rel K ca B G H σ ρ ∧ Wish K ca (SV K ca Q) G H (f ρ) (WE W σ)
def tT (K : PySem.W.Frag) (ca : Cn) (W : WX) (f : Ev → R Bool) : TT := fun σ H Q => ∃ B G ρ, Same G H ∧ Same B H ∧ Rel K ca B G H σ ρ ∧ Wish K ca (SB Q) G H (f ρ) (WE W σ)
def tGc (K : PySem.W.Frag) (ca : Cn) (zs : List Nat) (h : Tg) : TG := fun v σ H Q => ∃ B G ρ d, Same G H ∧ Same B H ∧ Rel K ca B G H σ ρ ∧ At K ca G d v ∧ ∃ ρ', h d ρ = some ρ' ∧ ∀ σ', Rel K ca B G H σ' ρ' → wipe σ' zs = wipe σ zs → Q σ' H
section
variable {X : Cx} {ca : Cn} {W : WX} {zs : List Nat} {e tg : Expr} {f : Ev → R D} {ft : Ev → R Bool} {h : Tg}
theorem FE.can (a : FE X ca W e f) : PE X e (tE X.K ca W f) := by
  obtain ⟨t, p, k⟩ := a.ex
  exact ⟨fun pins s σ H Q I ⟨B, G, ρ, h1, h2, h3, h4⟩ => p.run pins s σ H Q I (k B G H σ ρ Q h1 h2 h3 h4)⟩
theorem FT.can (a : FT X ca W e ft) : PT X e (tT X.K ca W ft) := by
  obtain ⟨t, p, k⟩ := a.ex
  exact ⟨fun pins s σ H Q I ⟨B, G, ρ, h1, h2, h3, h4⟩ => p.run pins s σ H Q I (k B G H σ ρ Q h1 h2 h3 h4)⟩
theorem FG.can (a : FG X ca zs tg h) : PG X tg (tGc X.K ca zs h) := by
  obtain ⟨t, p, k⟩ := a.ex
  exact ⟨fun pins s σ H v u Q I r ⟨B, G, ρ, d, h1, h2, h3, h4, h5⟩ => p.run pins s σ H v u Q I r (k B G H σ ρ d v Q h1 h2 h3 h4 h5)⟩
structure FTs (X : Cx) (ca : Cn) (W : WX) (es : List Expr) (f : Ev → R Bool) : Prop where
  ex : PTs X es (tT X.K ca W f)
def tsY : Ev → R Bool := fun _ => .ok true
theorem fts_nil : FTs X ca W [] tsY := ⟨⟨fun pins s σ H Q I ⟨B, G, ρ, h1, h2, h3, h4⟩ => pts_nil.run pins s σ H Q I (h4.here h1)⟩⟩
theorem fts_one (a : FT X ca W e ft) : FTs X ca W [e] ft := ⟨pts_one a.can⟩
end
def wipeE (ρ : Ev) : List Nat → Ev
  | [] => ρ
  | v :: vs => (wipeE ρ vs).set v .no
def R.quiet {α : Type} (r : R α) : R α := match r with
  | .ok a => .ok a
  | _ => .bad
@[simp] theorem quiet_ok {α : Type} (a : α) : R.quiet (.ok a) = .ok a := (rfl)
@[simp] theorem quiet_bad {α : Type} : R.quiet (.bad : R α) = .bad := (rfl)
def lcL (h : Tg) (t : Ev → R Bool) (fe : Ev → R D) (ρ : Ev) : List D → R (List D)
  | [] => .ok []
  | d :: ds => (optR (h d ρ)).bind fun ρ1 => (t ρ1).quiet.bind fun b => if b = true then (fe ρ1).quiet.bind fun y => (lcL h t fe ρ ds).bind fun r => .ok (y :: r) else lcL h t fe ρ ds
def eLc (zs : List Nat) (fi : Ev → R (List D)) (h : Tg) (t : Ev → R Bool) (fe : Ev → R D) : Ev → R D := fun ρ => (fi ρ).bind fun ds => if ds.length ≤ sizeLine then (lcL h t fe (wipeE ρ zs) ds).bind fun rs => .ok (.lst rs) else .bad
section
variable {K : PySem.W.Frag} {ca : Cn} {B G H : Hp} {σ : L2.St} {ρ : Ev}
theorem Rel.unset (r : Rel K ca B G H σ ρ) (i : Nat) : Rel K ca B G H (σ.set i none) (ρ.set i .no) where
  len := by rw [List.length_set, List.length_set]; exact r.len
  val := fun j d q => by
    rcases getElem?_set' q with ⟨rfl, z⟩ | ⟨ne, q⟩
    · cases z
    · obtain ⟨v, h1, h2⟩ := r.val j d q
      exact ⟨v, by rw [List.getElem?_set_ne (Ne.symm ne)]; exact h1, h2⟩
  own := fun j s q ho => by
    rcases getElem?_set' q with ⟨rfl, z⟩ | ⟨ne, q⟩
    · rw [z] at ho; cases ho
    · obtain ⟨a, h1, h2⟩ := r.own j s q ho
      exact ⟨a, by rw [List.getElem?_set_ne (Ne.symm ne)]; exact h1, h2⟩
  sep := fun j k s t a qj oj qk ok hj hk => by
    rcases getElem?_set' qj with ⟨rfl, z⟩ | ⟨nj, qj⟩
    · rw [z] at oj; cases oj
    · rcases getElem?_set' qk with ⟨rfl, z⟩ | ⟨nk, qk⟩
      · rw [z] at ok; cases ok
      · rw [List.getElem?_set_ne (Ne.symm nj)] at hj
        rw [List.getElem?_set_ne (Ne.symm nk)] at hk
        exact r.sep j k s t a qj oj qk ok hj hk
theorem Rel.wipe (r : Rel K ca B G H σ ρ) : ∀ zs : List Nat, Rel K ca B G H (L2.wipe σ zs) (wipeE ρ zs)
  | [] => r
  | z :: zs => (Rel.wipe r zs).unset z
end
theorem wipe_sub {σ : L2.St} {zs : List Nat} : ∀ ys : List Nat, (∀ i ∈ ys, i ∈ zs) → L2.wipe (L2.wipe σ ys) zs = L2.wipe σ zs
  | [], _ => rfl
  | y :: ys, h => by
    show L2.wipe ((L2.wipe σ ys).set y none) zs = _
    rw [wipe_set (h y List.mem_cons_self), wipe_sub ys fun i m => h i (List.mem_cons_of_mem _ m)]
theorem wipe_idem (σ : L2.St) (zs : List Nat) : L2.wipe (L2.wipe σ zs) zs = L2.wipe σ zs := wipe_sub zs fun _ h => h
theorem wish_quiet {ca : Cn} {α β : Type} {K : PySem.W.Frag} {S : Hp → β → Hp → Prop} {G H : Hp} {r : R α} {k : α → R β} {W1 : XK} (h : Wish K ca S G H (r.quiet.bind k) W1) : ∃ x, r = .ok x ∧ Wish K ca S G H (k x) W1 := by
  cases r with
  | ok x => exact ⟨x, rfl, h⟩
  | exc x => exact h.elim
  | bad => exact h.elim
/-- what is known at turn i of the comprehension that fills D -/
def LcW (K : PySem.W.Frag) (ca : Cn) (h : Tg) (t : Ev → R Bool) (fe : Ev → R D) (ρw : Ev) (D : Addr) (ds : List Tk.D) (B G1 H1 : Hp) (σw : L2.St) (W1 : XK) (Q : VK) (i : Nat) (H : Hp) : Prop :=
  ∃ G acc vs, Ext G1 H1 G H ∧ G D = none ∧ H D = some (.lst vs) ∧ AtL K ca G acc vs ∧ acc.length ≤ i ∧ Same B H ∧ Rel K ca B G H σw ρw ∧
    Wish K ca (SV K ca Q) G1 H1 ((lcL h t fe ρw (ds.drop i)).bind fun rs => .ok (.lst (acc ++ rs))) W1
section
variable {X : Cx} {ca : Cn} {W : WX} {zs : List Nat} {elt tg iter : Expr} {ifs : List Expr} {scope : Scope} {own : List (Str × Nat)} {pos : Pos} {fi : Ev → R (List D)} {h : Tg} {ft : Ev → R Bool} {fe : Ev → R D}
theorem lc_tail {tl : TI} (ki : ∀ B G H σ ρ (Q : It → Hp → Prop), Same G H → Same B H → Rel X.K ca B G H σ ρ → Wish X.K ca (fun G' ds H' => ∀ J, JOk X.K ca G' J ds → Q J H') G H (fi ρ) (WE W σ) → tl σ H Q)
    (B G H : Hp) (σ : L2.St) (ρ : Ev) (Q : VK) (s : Same G H) (b : Same B H) (r : Rel X.K ca B G H σ ρ) (w : Wish X.K ca (SV X.K ca Q) G H (eLc zs fi h ft fe ρ) (WE W σ)) :
    tLc tl (tGc X.K ca zs h) (tT X.K ca W0 ft) (tE X.K ca W0 fe) zs σ H Q := by
  refine ki B G H σ ρ _ s b r (Wish.bind w fun ds G1 H1 _ x1 w1 J hj => ?_)
  intro D hD
  split at w1
  rename_i hlen
  have gD : G1 D = none := same_none x1.gh hD
  have b1 := b.trans x1.hh
  have r1 := (r.ext x1).wipe zs
  have e0 : Ext G1 H1 G1 (upd H1 D (.lst [])) := ⟨same_upd hD, .refl _, x1.gh.trans (same_upd hD), fun a z => .inl z⟩
  refine ⟨fun i m H => m = ds.length - i ∧ i ≤ ds.length ∧ LcW X.K ca h ft fe (wipeE ρ zs) D ds B G1 H1 (L2.wipe σ zs) (WE W σ) Q i H, ⟨_, rfl, Nat.zero_le _, G1, [], [], e0, gD, upd_same, rfl, Nat.le_refl _, b1.trans e0.hh, r1.ext e0, by rw [List.drop_zero]; exact w1⟩, ?_⟩
  rintro i m H2 ⟨rfl, hi, G2, acc, vs, e2, g2, d2, a2, l2, b2, r2, w2⟩
  obtain ⟨j1, j2⟩ := hj G2 H2 e2.gg e2.gh i
  by_cases hlt : i < ds.length
  · rw [List.drop_eq_getElem_cons hlt] at w2
    obtain ⟨go, yl⟩ := j1 ds[i] (by simp [hlt])
    refine .inr ⟨go, fun H' => LcW X.K ca h ft fe (wipeE ρ zs) D ds B G1 H1 (L2.wipe σ zs) (WE W σ) Q (i + 1) H', fun H' q => ⟨ds.length - (i + 1), by omega, rfl, hlt, q⟩, fun x H3 yy => ?_⟩
    obtain ⟨G3, x3, a3⟩ := yl x H3 yy
    have r3 := r2.ext x3
    have b3 := b2.trans x3.hh
    -- what stays of the new list, wherever the block's own expressions lay things
    have stay : ∀ {G4 H4 : Hp}, Ext G3 H3 G4 H4 → G4 D = none ∧ H4 D = some (.lst vs) ∧ AtL X.K ca G4 acc vs ∧ Ext G1 H1 G4 H4 ∧ Same B H4 ∧ Rel X.K ca B G4 H4 (L2.wipe σ zs) (wipeE ρ zs) := fun {G4 H4} x4 => by
      have x5 := x3.trans x4
      refine ⟨?_, x5.hh _ _ d2, AtL.mono x5.gg a2, e2.trans x5, b2.trans x5.hh, r2.ext x5⟩
      cases q : G4 D with
      | none => rfl
      | some u =>
        rcases x5.nw D (by rw [q]; simp) with z | z
        · exact absurd g2 z
        · rw [d2] at z; cases z
    have w3 : Wish X.K ca (SV X.K ca Q) G1 H1 (((optR (h ds[i] (wipeE ρ zs))).bind fun ρ1 => (ft ρ1).quiet.bind fun b => if b = true then (fe ρ1).quiet.bind fun y => (lcL h ft fe (wipeE ρ zs) (ds.drop (i + 1))).bind fun r => .ok (y :: r) else lcL h ft fe (wipeE ρ zs) (ds.drop (i + 1))).bind fun rs => .ok (.lst (acc ++ rs))) (WE W σ) := w2
    cases z1 : h ds[i] (wipeE ρ zs) with
    | none => rw [z1] at w3; exact w3.elim
    | some ρ1 =>
      rw [z1] at w3
      refine ⟨B, G3, wipeE ρ zs, ds[i], x3.gh, b3, r3, a3, ρ1, z1, fun σ4 r4 e4 => ⟨e4.trans (wipe_idem σ zs), B, G3, ρ1, x3.gh, b3, r4, ?_⟩⟩
      cases z2 : ft ρ1 with
      | exc x => simp only [optR_some, bind_ok, z2] at w3; exact w3.elim
      | bad => simp only [optR_some, bind_ok, z2] at w3; exact w3.elim
      | ok bb =>
        simp only [optR_some, bind_ok, z2, quiet_ok] at w3
        intro G5 H5 x5
        show if bb = true then _ else _
        cases bb with
        | false =>
          rw [if_neg Bool.false_ne_true] at w3 ⊢
          obtain ⟨s1, s2, s3, s4, s5, s6⟩ := stay x5
          exact ⟨G5, acc, vs, s4, s1, s2, s3, by omega, s5, s6, w3⟩
        | true =>
          rw [if_pos rfl] at w3 ⊢
          refine ⟨B, G5, ρ1, x5.gh, b3.trans x5.hh, r4.ext x5, ?_⟩
          cases z3 : fe ρ1 with
          | exc x => simp only [z3] at w3; exact w3.elim
          | bad => simp only [z3] at w3; exact w3.elim
          | ok y =>
            simp only [z3, quiet_ok, bind_ok] at w3
            intro G6 H6 x6 v av
            obtain ⟨s1, s2, s3, s4, s5, s6⟩ := stay (x5.trans x6)
            have hl := s3.length
            refine ⟨vs, s2, by omega, G6, acc ++ [y], vs ++ [v], ?_, s1, upd_same, s3.append (.one av), by rw [List.length_append]; exact Nat.succ_le_succ l2, ?_, ?_, ?_⟩
            · -- the list's own place is the only one that turned
              have nD : ∀ c o, H1 c = some o → c ≠ D := fun c o q z => by rw [z, hD] at q; cases q
              have nG : ∀ c o, G6 c = some o → c ≠ D := fun c o q z => by rw [z, s1] at q; cases q
              exact ⟨fun c o q => by rw [upd_ne (nD c o q)]; exact s4.hh c o q, s4.gg, fun c o q => by rw [upd_ne (nG c o q)]; exact s4.gh c o q, s4.nw⟩
            · have nB : ∀ c o, B c = some o → c ≠ D := fun c o q z => by
                have := b1 c o q
                rw [z, hD] at this
                cases this
              exact fun c o q => by rw [upd_ne (nB c o q)]; exact s5 c o q
            · refine ⟨s6.len, s6.val, fun k s' q ho => ?_, s6.sep⟩
              obtain ⟨a', t1, t2, t3, t4⟩ := s6.own k s' q ho
              refine ⟨a', t1, t2.ext (.refl _) ?_, t3, t4⟩
              -- an own object of the frame stood ahead of the new list
              obtain ⟨a0, u1, u2, u3, u4⟩ := r1.own k s' q ho
              rw [t1] at u1
              cases u1
              obtain ⟨o, u5⟩ := u2.some
              rw [upd_ne (fun z => by rw [z, hD] at u5; cases u5)]
            · cases z4 : lcL h ft fe (wipeE ρ zs) (ds.drop (i + 1)) with
              | ok rs =>
                rw [z4] at w3
                rw [bind_ok, List.append_assoc]
                exact w3
              | exc x => rw [z4] at w3; exact w3
              | bad => rw [z4] at w3; exact w3
  · have e : i = ds.length := by omega
    subst e
    rw [List.drop_length] at w2
    have w3 : Wish X.K ca (SV X.K ca Q) G1 H1 (.ok (.lst (acc ++ []))) (WE W σ) := w2
    rw [List.append_nil] at w3
    refine .inl ⟨j2 rfl, w3 (upd G2 D (.lst vs)) H2 ⟨e2.hh, e2.gg.trans (same_upd g2), fun c o q => ?_, fun c q => ?_⟩ (.ref D) ⟨D, vs, rfl, upd_same, AtL.mono (same_upd g2) a2⟩⟩
    · by_cases z : c = D
      · subst z; rw [upd_same] at q; cases q; exact d2
      · rw [upd_ne z] at q; exact e2.gh c o q
    · by_cases z : c = D
      · subst z; exact .inr hD
      · rw [upd_ne z] at q; exact e2.nw c q
  · exact w1.elim
theorem fe_lc (hc : X.calm = true) (hN : X.N.Nodup) (hi : FI X ca W tg iter fi) (ok : BlkOk X.N X.env.scope scope own)
    (hg : ∀ (s : Shared) (H : Hp) (C : Addr) (cl : List (Str × Addr)) (fp : List Addr), FG (X.blk s H scope (compEnvC scope cl C X.env) fp) ca (own.map (·.2)) tg h) (ht : ∀ (s : Shared) (H : Hp) (C : Addr) (cl : List (Str × Addr)) (fp : List Addr), FTs (X.blk s H scope (compEnvC scope cl C X.env) fp) ca W0 ifs ft)
    (he : ∀ (s : Shared) (H : Hp) (C : Addr) (cl : List (Str × Addr)) (fp : List Addr), FE (X.blk s H scope (compEnvC scope cl C X.env) fp) ca W0 elt fe) (hs : ∀ x, foldedSetIterable iter X.env x = pure x := by intro _; rfl) :
    FE X ca W (.ListComp elt [⟨tg, iter, ifs, 0⟩] scope pos) (eLc (own.map (·.2)) fi h ft fe) := by
  obtain ⟨tl, pl, ki⟩ := hi.ex
  refine ⟨_, pe_lc (g := tGc X.K ca (own.map (·.2)) h) (tt := tT X.K ca W0 ft) (te := tE X.K ca W0 fe) hc hN pl ok (fun s H C cl fp => (hg s H C cl fp).can) (fun s H C cl fp => (ht s H C cl fp).ex) (fun s H C cl fp => (he s H C cl fp).can) hs, fun B G H σ ρ Q s b r w => ?_⟩
  exact lc_tail ki B G H σ ρ Q s b r w
/-- name = [..] -/
theorem fs_setLc {i : Nat} {y : Str} {py spos : Pos} (hc : X.calm = true) (hN : X.N.Nodup) (hy : X.N[i]? = some y) (hyl : X.env.scope.names.lookup y = some .local) (hsw : swapsWith (.ListComp elt [⟨tg, iter, ifs, 0⟩] scope pos) (some (.Name y py)) spos.line X.env = pure true)
    (hi : FI X ca W tg iter fi) (ok : BlkOk X.N X.env.scope scope own)
    (hg : ∀ (s : Shared) (H : Hp) (C : Addr) (cl : List (Str × Addr)) (fp : List Addr), FG (X.blk s H scope (compEnvC scope cl C X.env) fp) ca (own.map (·.2)) tg h) (ht : ∀ (s : Shared) (H : Hp) (C : Addr) (cl : List (Str × Addr)) (fp : List Addr), FTs (X.blk s H scope (compEnvC scope cl C X.env) fp) ca W0 ifs ft)
    (he : ∀ (s : Shared) (H : Hp) (C : Addr) (cl : List (Str × Addr)) (fp : List Addr), FE (X.blk s H scope (compEnvC scope cl C X.env) fp) ca W0 elt fe) (hs : ∀ x, foldedSetIterable iter X.env x = pure x := by intro _; rfl) :
    FS X ca W (.Assign [.Name y py] (.ListComp elt [⟨tg, iter, ifs, 0⟩] scope pos) spos) (sSet i (eLc (own.map (·.2)) fi h ft fe)) := by
  obtain ⟨tl, pl, ki⟩ := hi.ex
  refine ⟨_, ps_setLc (g := tGc X.K ca (own.map (·.2)) h) (tt := tT X.K ca W0 ft) (te := tE X.K ca W0 fe) hc hN hy hyl hsw pl ok (fun s H C cl fp => (hg s H C cl fp).can) (fun s H C cl fp => (ht s H C cl fp).ex) (fun s H C cl fp => (he s H C cl fp).can) hs, fun B G H σ ρ D s b r w => ?_⟩
  refine lc_tail ki B G H σ ρ _ s b r ?_
  exact WishS.from w b r fun a G1 H1 _ x w1 r1 b1 v av => w1 _ G1 H1 (.refl x.gh b1) (r1.set i av)
end
end Tk

namespace Tk
open PySem PySem.Spec L2 PyProof.Rows
/-! ### own objects: freezing, lending -/
def frzA (ρ : Ev) : Ev := ρ.map frzS
def frzE (i : Nat) (ρ : Ev) : Ev := match ρ[i]? with
  | some s => ρ.set i (frzS s)
  | none => ρ
def sFrz (i : Nat) (g : Ev → SO) : Ev → SO := fun ρ => g (frzE i ρ)
def scalD : D → Bool
  | .non => true
  | .bl _ => true
  | .int _ => true
  | .str _ => true
  | _ => false
def eBor (f : Ev → R D) : Ev → R D := fun ρ => (f (frzA ρ)).quiet.bind fun d => if scalD d = true then .ok d else .bad
def tBor (f : Ev → R Bool) : Ev → R Bool := fun ρ => (f (frzA ρ)).quiet
section
variable {K : PySem.W.Frag} {ca : Cn} {B G H G' H' : Hp} {σ : L2.St} {ρ : Ev}
theorem frz_not_own (s : Sl) : (frzS s).own = false := by cases s <;> rfl
theorem frz_v {s : Sl} (h : s.own = false) : frzS s = s := by cases s <;> first | rfl | cases h
theorem Rel.frzA (r : Rel K ca B G H σ ρ) (s : Same G H) : Rel K ca B H H σ (frzA ρ) := by
  have no : ∀ (i : Nat) (t : Sl), (Tk.frzA ρ)[i]? = some t → t.own = true → False := fun i t q o => by
    unfold Tk.frzA at q
    rw [List.getElem?_map] at q
    obtain ⟨u, _, q2⟩ := Option.map_eq_some_iff.mp q
    rw [← q2, frz_not_own] at o
    cases o
  refine ⟨by unfold Tk.frzA; rw [List.length_map]; exact r.len, fun i d q => ?_, fun i t q o => (no i t q o).elim, fun i j t u a q o => (no i t q o).elim⟩
  unfold Tk.frzA at q
  rw [List.getElem?_map] at q
  obtain ⟨u, q1, q2⟩ := Option.map_eq_some_iff.mp q
  cases o : u.own with
  | false =>
    rw [frz_v o] at q2
    subst q2
    obtain ⟨v, h1, h2⟩ := r.val i d q1
    exact ⟨v, h1, At.mono s h2⟩
  | true =>
    obtain ⟨a, h1, h2, h3, h4⟩ := r.own i u q1 o
    obtain ⟨d', e1, e2⟩ := h2.at_ s rfl
    rw [e1] at q2
    cases q2
    exact ⟨_, h1, e2⟩
theorem scal_at {d : D} {v : V} (h : scalD d = true) (a : At K ca G d v) : At K ca G' d v := by
  cases d with
  | non => exact a
  | bl _ => exact a
  | int _ => exact a
  | str _ => exact a
  | _ => cases h
theorem set_same {i : Nat} {s : Sl} (h : ρ[i]? = some s) : ρ.set i s = ρ := by
  apply List.ext_getElem?
  intro j
  by_cases e : i = j
  · subst e
    rw [List.getElem?_set_self (List.getElem?_eq_some_iff.mp h).1, h]
  · rw [List.getElem?_set_ne e]
/-- one slot's object is frozen -/
theorem Rel.frz (r : Rel K ca B G H σ ρ) (s : Same G H) (b : Same B H) (i : Nat) : ∃ G', Adv B G G' H ∧ Rel K ca B G' H σ (frzE i ρ) := by
  unfold frzE
  split
  · rename_i t q
    cases o : t.own with
    | false =>
      rw [frz_v o, set_same q]
      exact ⟨G, .refl s b, r⟩
    | true =>
      obtain ⟨a, h1, h2, h3, h4⟩ := r.own i t q o
      obtain ⟨ob, h5⟩ := h2.some
      have gg : Same G (upd G a ob) := same_upd h3
      have gh : Same (upd G a ob) H := fun c u e => by
        by_cases z : c = a
        · subst z; rw [upd_same] at e; rw [h5]; exact e
        · rw [upd_ne z] at e; exact s c u e
      obtain ⟨d', e1, e2⟩ := h2.at_ gg (show upd G a ob a = H a by rw [upd_same, h5])
      refine ⟨upd G a ob, ⟨gg, gh, b, fun c n => ?_⟩, ?_⟩
      · by_cases z : c = a
        · subst z; exact .inr h4
        · rw [upd_ne z] at n; exact .inl n
      · rw [e1]
        refine ⟨by rw [List.length_set]; exact r.len, fun j d w => ?_, fun j u w o' => ?_, fun j k u u' c w o' w' o'' x y => ?_⟩
        · rcases getElem?_set' w with ⟨rfl, z⟩ | ⟨ne, w⟩
          · cases z; exact ⟨_, h1, e2⟩
          · obtain ⟨v, t1, t2⟩ := r.val j d w
            exact ⟨v, t1, At.mono gg t2⟩
        · rcases getElem?_set' w with ⟨rfl, z⟩ | ⟨ne, w⟩
          · rw [z] at o'; cases o'
          · obtain ⟨c, t1, t2, t3, t4⟩ := r.own j u w o'
            refine ⟨c, t1, t2.ext gg rfl, ?_, t4⟩
            rw [upd_ne fun z => ne (r.sep j i u t a w o' q o (by rw [← z]; exact t1) h1)]
            exact t3
        · rcases getElem?_set' w with ⟨rfl, z⟩ | ⟨nj, w⟩
          · rw [z] at o'; cases o'
          · rcases getElem?_set' w' with ⟨rfl, z⟩ | ⟨nk, w'⟩
            · rw [z] at o''; cases o''
            · exact r.sep j k u u' c w o' w' o'' x y
  · exact ⟨G, .refl s b, r⟩
/-- one slot's own object is changed -/
theorem Rel.turn (r : Rel K ca B G H σ ρ) (s : Same G H) (b : Same B H) {i : Nat} {t t' : Sl} {a : Addr} {o : HO} (q : ρ[i]? = some t) (ot : t.own = true) (ot' : t'.own = true) (ha : σ[i]? = some (some (.ref a))) (h : Own K ca G (upd H a o) a t') :
    Rel K ca B G (upd H a o) σ (ρ.set i t') ∧ Same G (upd H a o) ∧ Same B (upd H a o) := by
  obtain ⟨a', h1, h2, h3, h4⟩ := r.own i t q ot
  rw [ha] at h1
  cases h1
  refine ⟨⟨by rw [List.length_set]; exact r.len, fun j d w => ?_, fun j u w o' => ?_, fun j k u u' c w o' w' o'' x y => ?_⟩, fun c u e => ?_, fun c u e => ?_⟩
  · rcases getElem?_set' w with ⟨rfl, z⟩ | ⟨ne, w⟩
    · rw [← z] at ot'; cases ot'
    · exact r.val j d w
  · rcases getElem?_set' w with ⟨rfl, z⟩ | ⟨ne, w⟩
    · subst z; exact ⟨a, ha, h, h3, h4⟩
    · obtain ⟨c, t1, t2, t3, t4⟩ := r.own j u w o'
      refine ⟨c, t1, t2.ext (.refl _) ?_, t3, t4⟩
      rw [upd_ne fun z => ne (r.sep j i u t a w o' q ot (by rw [← z]; exact t1) ha)]
  · have up : ∀ {j : Nat} {u : Sl}, (ρ.set i t')[j]? = some u → u.own = true → ∃ u0, ρ[j]? = some u0 ∧ u0.own = true := fun {j u} w o' => by
      rcases getElem?_set' w with ⟨rfl, z⟩ | ⟨ne, w⟩
      · exact ⟨t, q, ot⟩
      · exact ⟨u, w, o'⟩
    obtain ⟨u0, z1, z2⟩ := up w o'
    obtain ⟨u1, z3, z4⟩ := up w' o''
    exact r.sep j k u0 u1 c z1 z2 z3 z4 x y
  · rw [upd_ne fun z => by rw [z, h3] at e; cases e]; exact s c u e
  · rw [upd_ne fun z => by rw [z, h4] at e; cases e]; exact b c u e
end
section
variable {X : Cx} {ca : Cn} {W : WX} {e : Expr} {st : Stmt} {sts : List Stmt} {f : Ev → R D} {ft : Ev → R Bool} {g : Ev → SO} {pos : Pos}
theorem fs_frz (i : Nat) (h : FS X ca W st g) : FS X ca W st (sFrz i g) := by
  obtain ⟨t, p, k⟩ := h.ex
  refine ⟨t, p, fun B G H σ ρ D s b r w => ?_⟩
  obtain ⟨G', a, r'⟩ := r.frz s b i
  exact k B G' H σ _ D a.gh b r' (WishS.mono w a)
theorem fe_bor (h : FE X ca W e f) : FE X ca W e (eBor f) := by
  obtain ⟨t, p, k⟩ := h.ex
  refine ⟨t, p, fun B G H σ ρ Q s b r w => k B H H σ _ Q (.refl H) b (r.frzA s) ?_⟩
  obtain ⟨d, e1, w⟩ := wish_quiet w
  rw [e1]
  split at w
  · rename_i hs
    intro G' H' x v a
    exact w G H' ⟨x.hh, .refl _, s.trans x.hh, fun c z => .inl z⟩ v (scal_at hs a)
  · exact w.elim
theorem ft_bor (h : FT X ca W e ft) : FT X ca W e (tBor ft) := by
  obtain ⟨t, p, k⟩ := h.ex
  refine ⟨t, p, fun B G H σ ρ Q s b r w => k B H H σ _ Q (.refl H) b (r.frzA s) ?_⟩
  unfold tBor at w
  cases z : ft (frzA ρ) with
  | ok d =>
    rw [z] at w
    intro G' H' x
    exact w G H' ⟨x.hh, .refl _, s.trans x.hh, fun c z => .inl z⟩
  | exc x => rw [z] at w; exact w.elim
  | bad => rw [z] at w; exact w.elim
end
/-! ### new lists that stay the frame's own -/
def WishF (K : PySem.W.Frag) (ca : Cn) (G H : Hp) (r : R (List D)) (Q : VK) (W1 : XK) : Prop := Wish K ca (fun G' ds H' => ∀ p vs, H p = none → G' p = none → H' p = some (.lst vs) → AtL K ca G' ds vs → Q (.ref p) H') G H r W1
structure FL (X : Cx) (ca : Cn) (W : WX) (e : Expr) (f : Ev → R (List D)) : Prop where
  ex : ∃ t, PE X e t ∧ ∀ B G H σ ρ Q, Same G H → Same B H → Rel X.K ca B G H σ ρ → WishF X.K ca G H (f ρ) Q (WE W σ) → t σ H Q
def lDisp (fl : Ev → R (List D)) : Ev → R (List D) := fun ρ => (fl ρ).bind fun ds => if ds.length ≤ sizeLine then .ok ds else .bad
def lList (f : Ev → R D) : Ev → R (List D) := fun ρ => (f ρ).bind fun d => match d with
  | .lst xs => .ok xs
  | .tup xs => .ok xs
  | .scr ns => .ok (ns.map .int)
  | _ => .bad
def sOwn (i : Nat) (f : Ev → R (List D)) : Ev → SO := fun ρ => SO.from ρ (f ρ) fun ds => .nx (ρ.set i (.l ds))
def ownL (ρ : Ev) (i : Nat) : R (List D) := match ρ[i]? with
  | some (.l xs) => .ok xs
  | _ => .bad
def sApp (i : Nat) (f : Ev → R D) : Ev → SO := fun ρ => SO.from ρ (ownL ρ i) fun xs => SO.from ρ (f ρ) fun d => if xs.length < sizeLine then .nx (ρ.set i (.l (xs ++ [d]))) else .bad
section
variable {X : Cx} {ca : Cn} {W : WX} {e o : Expr} {es : List Expr} {f : Ev → R D} {fl : Ev → R (List D)} {pos apos cpos p : Pos}
theorem own_l {K : PySem.W.Frag} {B G H : Hp} {σ : L2.St} {ρ : Ev} {i : Nat} {xs : List D} (h : ownL ρ i = .ok xs) (r : Rel K ca B G H σ ρ) : ρ[i]? = some (.l xs) ∧ ∃ a vs, σ[i]? = some (some (.ref a)) ∧ H a = some (.lst vs) ∧ AtL K ca G xs vs ∧ G a = none ∧ B a = none := by
  unfold ownL at h
  split at h
  · rename_i ys q
    cases h
    obtain ⟨a, h1, ⟨vs, h2, h3⟩, h4, h5⟩ := r.own i _ q rfl
    exact ⟨q, a, vs, h1, h2, h3, h4, h5⟩
  · cases h
theorem fl_lst (h : FA X ca W es fl) : FL X ca W (.List es pos) (lDisp fl) := by
  obtain ⟨t, p, k⟩ := h.ex
  refine ⟨_, pe_lst p, fun B G H σ ρ Q s b r h => ?_⟩
  refine k B G H σ ρ _ s b r (Wish.bind (S := fun G' ds H' => ∀ p vs, H p = none → G' p = none → H' p = some (.lst vs) → AtL X.K ca G' ds vs → Q (.ref p) H') h fun ds G1 H1 _ x1 w1 vs a1 => ?_)
  split at w1
  · rename_i z
    refine ⟨by rw [← a1.length]; exact z, fun q n => w1 G1 (upd H1 q (.lst vs)) ⟨same_upd n, .refl _, x1.gh.trans (same_upd n), fun c z => .inl z⟩ q vs (same_none x1.hh n) (same_none x1.gh n) upd_same a1⟩
  · exact w1.elim
theorem fl_list {x : Str} (hg : Gl X x) (hm : X.mg x = none) (hv : bootBuiltins x = some (.type "list")) (h : FE X ca W e f) (hn : x ≠ "__name__" := by decide) (hd : (x == ("__debug__" : Str)) = false := by decide)
    (he : starEach [e] X.env = (false, eval e X.env) :: starEach [] X.env := by rfl) (hpl : (backTo pos (starEach [] X.env)).any (·.1) = false := by rfl) : FL X ca W (.Call (.Name x p) [e] [] pos) (lList f) := by
  obtain ⟨t, pp, k⟩ := h.ex
  refine ⟨_, pe_callTy call_list_of hg hm hv (pa_cons pp pa_nil he) hn hd he hpl, fun B G H σ ρ Q s b r h => ?_⟩
  refine k B G H σ ρ _ s b r (Wish.bind (S := fun G' ds H' => ∀ p vs, H p = none → G' p = none → H' p = some (.lst vs) → AtL X.K ca G' ds vs → Q (.ref p) H') h fun d G1 H1 _ x1 w1 v a1 => ?_)
  have fin : ∀ {xs : List D} {vs : List V}, Wish X.K ca (fun G' ds H' => ∀ p vs, H p = none → G' p = none → H' p = some (.lst vs) → AtL X.K ca G' ds vs → Q (.ref p) H') G1 H1 (.ok xs) (WE W σ) → AtL X.K ca G1 xs vs → ∀ l, H1 l = none → Q (.ref l) (upd H1 l (.lst vs)) :=
    fun w a l n => w G1 _ ⟨same_upd n, .refl _, x1.gh.trans (same_upd n), fun c z => .inl z⟩ l _ (same_none x1.hh n) (same_none x1.gh n) upd_same a
  cases d with
  | lst xs =>
    obtain ⟨q, vs, rfl, h1, h2⟩ := a1
    exact ⟨q, vs, rfl, .inl (.of (x1.gh _ _ h1)), fin w1 h2⟩
  | tup xs =>
    obtain ⟨q, vs, rfl, h1, h2⟩ := a1
    exact ⟨q, vs, rfl, .inr (tq x1.gh h1), fin w1 h2⟩
  | scr ns =>
    obtain ⟨q, rfl, h1⟩ := a1
    exact ⟨q, _, rfl, .inl (SqL_mono x1.gh h1), fin w1 (AtL.of_ints _)⟩
  | _ => exact w1.elim
theorem fs_own {i : Nat} {y : Str} {pos' : Pos} (hN : X.N.Nodup) (hi : X.N[i]? = some y) (h : FL X ca W e fl) (hx : Loc X.env.scope y := by first | exact .inl rfl | exact .inr rfl) (hs : swapsWith e (some (.Name y pos')) pos.line X.env = pure false := by rfl)
    (hf : X.fn y = true ∨ X.env.scope.names.lookup y = some .local := by first | exact .inl rfl | exact .inr rfl | assumption) : FS X ca W (.Assign [.Name y pos'] e pos) (sOwn i fl) := by
  obtain ⟨t, p, kt⟩ := h.ex
  refine ⟨_, ps_set hN hi hx p hs hf, fun B G H σ ρ D s b r h => kt B G H σ ρ _ s b r ?_⟩
  refine WishS.from h b r fun ds G1 H1 _ x w r1 b1 q vs n g hq av => w _ G1 H1 (.refl x.gh b1) ?_
  refine r1.setOwn i rfl ⟨vs, hq, av⟩ g (same_none b n) fun j t' _ q' o' z => ?_
  obtain ⟨a, h1, h2, h3, h4⟩ := r.own j t' q' o'
  rw [z] at h1
  cases h1
  obtain ⟨ob, h5⟩ := h2.some
  rw [n] at h5
  cases h5
/-- x.append(e), x an own list -/
theorem fs_app {i : Nat} {y : Str} {py : Pos} (hi : X.N[i]? = some y) (h : FE X ca W e f) (hv : Vis X.env.scope y := by first | exact Or.inl rfl | exact Or.inr (Or.inl rfl) | exact Or.inr (Or.inr rfl)) (hd : (y == ("__debug__" : Str)) = false := by decide) (hcd : (y == ("__classdict__" : Str)) = false := by decide)
    (he : starEach [e] X.env = (false, eval e X.env) :: starEach [] X.env := by rfl) (hb : attributeBase (.Name y py) "append" X.env (eval (.Name y py) X.env) = eval (.Name y py) X.env := by rfl) (hw : ((backTo cpos (starEach [e] X.env)).all (fun x => !x.1) && (backToKw cpos (keywordEach [] X.env)).all (fun x => x.1.isSome) && decide ([e].length + ([] : List Keyword).length + (if ([] : List Keyword).isEmpty then 0 else 1) < 30)) = true := by rfl)
    (hl : (apos.endLine == cpos.line) = true := by rfl) (hpl : (backTo cpos (starEach [] X.env)).any (·.1) = false := by rfl)
    (hs : swapsWith (.Call (.Attribute (.Name y py) "append" apos) [e] [] cpos) none pos.line X.env = pure false := by rfl) : FS X ca W (.Expr (.Call (.Attribute (.Name y py) "append" apos) [e] [] cpos) pos) (sApp i f) := by
  obtain ⟨t, p, k⟩ := h.ex
  refine ⟨_, ps_expr (pe_bm PySem.F.plainAttrs_list PySem.F.slot_list_append PySem.F.type_list_append mt_append (pe_var hi hv hd hcd) (pa_cons p pa_nil he) hb hw hl he hpl) hs, fun B G H σ ρ D s b r h => ?_⟩
  unfold sApp at h
  cases z : ownL ρ i with
  | ok xs =>
    rw [z] at h
    obtain ⟨q, a, vs, h1, h2, h3, h4, h5⟩ := own_l z r
    refine ⟨_, h1, .inl ⟨rfl, vs, .of h2⟩, k B G H σ ρ _ s b r (WishS.from h b r fun d G1 H1 _ x w r1 b1 v av => ?_)⟩
    split at w
    · rename_i hl
      have l := h3.length
      refine ⟨a, vs, v, rfl, rfl, x.hh _ _ h2, by omega, ?_⟩
      obtain ⟨t1, t2, t3⟩ := r1.turn x.gh b1 (t' := .l (xs ++ [d])) (o := .lst (vs ++ [v])) q rfl rfl h1 ⟨_, upd_same, (AtL.mono x.gg h3).append (.one av)⟩
      exact w _ G1 _ ⟨.refl _, t2, t3, fun c z => .inl z⟩ t1
    · exact w.elim
  | exc x => rw [z] at h; unfold ownL at z; split at z <;> cases z
  | bad => rw [z] at h; exact h.elim
end
end Tk

namespace Tk
open PySem PySem.Spec L2 PyProof.Rows HT
/-! ### t[::-1] of a tuple -/
section
variable {prog : Program} {w : World} {A : Around} {E : Value → Shared → Prop} {s : Shared}
theorem places_rev (n : Nat) : Builtin.Slice.slicePlaces ((n : Int) - 1) (-1) (-1) = n := by
  unfold Builtin.Slice.slicePlaces
  have h1 : ¬ ((-1 : Int) > 0) := by omega
  simp only [h1, if_false]
  have e : -(-1 : Int) = 1 := rfl
  rw [e]
  split
  · rw [Int.ediv_one]; omega
  · omega
theorem pick_rev (xs : Array Value) : ((List.range xs.size).filterMap fun (m : Nat) => xs[(((xs.size : Int) - 1) + (m : Int) * (-1)).toNat]?).toArray = xs.toList.reverse.toArray := by
  have e : (List.range xs.size).filterMap (fun (m : Nat) => xs[(((xs.size : Int) - 1) + (m : Int) * (-1)).toNat]?) = ((List.range xs.size).map fun k => xs.size - 1 - k).filterMap (xs[·]?) := by
    rw [List.filterMap_map]
    have e : ∀ m : Nat, (((xs.size : Int) - 1) + (m : Int) * (-1)).toNat = xs.size - 1 - m := fun m => by omega
    simp only [e]
    rfl
  rw [e, PySem.W.krv_range, List.filterMap_reverse, PySem.W.krv_all]
theorem getItem_tuple_rev {t sl : Addr} {items : Array Value} {vs : Value} {Q : Value → Shared → Prop} (ht : IsTup s.heap t items) (hs : s.heap.IsSliceOf sl .none .none vs) (ps : IsPart vs (some (-1)))
    (h : Q (.ref s.heap.objs.size) { s with heap := s.heap.push { cls := .type "tuple", data := .seq items.toList.reverse.toArray } })
    (hsz : items.size ≤ sizeLine) : wpAny (model prog w) A (getItem (.ref t) (.ref sl)) Q E s := by
  have htake : sizeOk (.seq items.toList.reverse.toArray) := by
    show items.toList.reverse.toArray.size ≤ sizeLine
    rw [List.size_toArray, List.length_reverse, Array.length_toList]
    omega
  obtain ⟨os, hos, hcs, hds⟩ := id hs
  have hTs : s.TypeIs (.ref sl) "slice" := ⟨os, hos, hcs⟩
  unfold getItem
  try with_reducible refine wpAny_holding ?_
  first | refine wpAny_bind (wpAny_pure ?_) | skip
  refine wpAny_bind (wpAny_sequenceKey ht.typeIs (by decide) ?_)
  refine wpAny_bind (wpAny_callSpecial?_slot (name := Str.ofString "__getitem__") ht.typeIs PyProof.Rows.slot_tuple_getitem
    (wpAny_call_entry PyProof.Rows.slot_tuple_getitem ht.typeIs entry_tuple_getitem ?_ (args_tuple_getitem _ _)))
  show wpAny _ _ (Builtin.Tuple.tupleItemsOf (.ref t) >>= _) _ _ s
  refine wpAny_bind (tupleItemsOf_ ht ?_)
  refine wpAny_bind (wpAny_typeOf hTs ?_)
  rw [if_pos (by decide)]
  refine wpAny_bind ?_
  unfold Builtin.Slice.sliceApplied Builtin.Slice.sliceFields
  refine wpAny_bind (wpAny_bind (wpAny_field hos hds (x := .none) rfl (wpAny_bind (wpAny_field hos hds (x := .none) rfl (wpAny_bind (wpAny_field hos hds (x := vs) rfl (wpAny_pure ?_)))))))
  refine wpAny_bind (slicePart_ ps ?_)
  show wpAny _ _ (if ((-1 : Int) == 0) = true then _ else _) _ _ s
  rw [if_neg (by decide)]
  refine wpAny_bind (slicePart_none (wpAny_bind (slicePart_none (wpAny_bind (wpAny_pure ?_)))))
  show wpAny _ _ (pure (((items.size : Int) - 1), (-1 : Int), Builtin.Slice.slicePlaces ((items.size : Int) - 1) (-1) (-1))) _ _ s
  rw [places_rev]
  refine wpAny_pure ?_
  have hno : ¬ (((((items.size : Int) - 1) == 0 && (-1 : Int) == 1) && items.size == items.size) = true) := by
    rw [show ((-1 : Int) == 1) = false by decide]
    simp
  show wpAny _ _ (if (((((items.size : Int) - 1) == 0 && (-1 : Int) == 1) && items.size == items.size) = true) then _ else _) _ _ s
  rw [if_neg hno, pick_rev]
  first
    | exact wpAny_bind (m := Builtin.Tuple.tupleExact _) (wpAny_newObj_type (wpAny_pure ⟨_, rfl, wpAny_pure h⟩) htake)
    | exact wpAny_bind (m := Builtin.Tuple.tupleExact _) (wpAny_newObj_type (wpAny_bind (wpAny_pure (wpAny_pure ⟨_, rfl, wpAny_pure h⟩))) htake)
end
section
variable {X : Cx}
def tRevA (K : PySem.W.Frag) (te : TE) : TE := fun σ H Q => te σ H fun x H1 => (∃ a xs, x = .ref a ∧ SqL K H1 a xs ∧ ∀ p, H1 p = none → Q (.ref p) (upd H1 p (.lst xs.reverse))) ∨ (∃ a xs, x = .ref a ∧ SqT K H1 a xs ∧ ∀ p, H1 p = none → Q (.ref p) (upd H1 p (.tup xs.reverse)))
theorem pe_revA {e : Expr} {te : TE} {k : Nat} {p1 p2 p3 pos : Pos} (he : PE X e te) : PE X (.Subscript e (.Slice none none (some (.UnaryOp .USub (.Constant (.int 1) k p1) p2)) p3) pos) (tRevA X.K te) := by
  refine ⟨fun pins s σ H Q I h => ?_⟩
  refine Subscript_ (thn (he.run pins s σ H _ I h) fun v s1 ⟨x, H1, I1, r1, q1⟩ => ?_)
  have hst : PO X (some (.UnaryOp .USub (.Constant (.int 1) k p1) p2)) (tPart (tUn (rU fun i => .int (-i)) (tC (.int 1)))) := po_some (pe_un un_neg pe_int)
  rcases q1 with ⟨a, xs, ex, hx, q⟩ | ⟨a, xs, ex, hx, q⟩
  · subst ex
    cases r1
    refine wpAny_Slice (thn (po_none.run pins s1 σ H1 (fun o H2 => o = none ∧ H2 = H1) I1 ⟨rfl, rfl⟩) fun vl s2 ⟨l, H2, I2, pl, el, e2⟩ => ?_)
    subst el e2
    refine thn (po_none.run pins s2 σ H2 (fun o H3 => o = none ∧ H3 = H2) I2 ⟨rfl, rfl⟩) fun vu s3 ⟨u, H3, I3, pu, eu, e3⟩ => ?_
    subst eu e3
    refine thn (hst.run pins s3 σ H3 (fun o H4 => o = some (-1) ∧ H4 = H3) I3 ⟨1, rfl, -1, rfl, rfl, rfl⟩) fun vs s4 ⟨o, H4, I4, ps, eo, e4⟩ => ?_
    subst eo e4
    have I5 : Inv X pins σ H4 { s4 with heap := s4.heap.push { cls := .type "slice", data := .fields #[vl, vu, vs] } } := I4.kept (t' := s4.toks) fun b ob q => Heap.get?_push_of_some _ q
    obtain ⟨its, r, ht, hz⟩ := I5.list hx
    have hlen := r.length
    show wpAny (model X.prog X.w) X.A (subscriptTail e (.Slice none none (some (.UnaryOp .USub (.Constant (.int 1) k p1) p2)) p3) (.ref a) (.ref s4.heap.objs.size)) (EP X pins σ Q) X.xe { s4 with heap := s4.heap.push { cls := .type "slice", data := .fields #[vl, vu, vs] } }
    refine tail_any (ops := [.ref a, .ref s4.heap.objs.size]) ht.isList.typeIs (PySem.slot_list_getitem.lookup) ?_ (by with_unfolding_all rfl)
    refine wpAny_getItem_list_slice ht.isList (Heap.IsSliceOf.new _ vl vu vs) pl pu ps (by decide) ?_ (by rw [List.size_toArray]; omega)
    rw [PySem.W.krv_pick]
    refine ⟨.ref _, _, I5.laid (t' := s4.toks) (o := .lst xs.reverse) (fun b ob q => Heap.get?_push_of_some _ q) (Nat.le_refl _) ?_, rfl, q _ (I5.hok.fresh (Nat.le_refl _))⟩
    exact ⟨by rw [List.length_reverse]; exact hz, _, 0, r.reverse, Heap.get?_push_size _ rfl⟩
  · subst ex
    cases r1
    refine wpAny_Slice (thn (po_none.run pins s1 σ H1 (fun o H2 => o = none ∧ H2 = H1) I1 ⟨rfl, rfl⟩) fun vl s2 ⟨l, H2, I2, pl, el, e2⟩ => ?_)
    subst el e2
    refine thn (po_none.run pins s2 σ H2 (fun o H3 => o = none ∧ H3 = H2) I2 ⟨rfl, rfl⟩) fun vu s3 ⟨u, H3, I3, pu, eu, e3⟩ => ?_
    subst eu e3
    refine thn (hst.run pins s3 σ H3 (fun o H4 => o = some (-1) ∧ H4 = H3) I3 ⟨1, rfl, -1, rfl, rfl, rfl⟩) fun vs s4 ⟨o, H4, I4, ps, eo, e4⟩ => ?_
    subst eo e4
    have I5 : Inv X pins σ H4 { s4 with heap := s4.heap.push { cls := .type "slice", data := .fields #[vl, vu, vs] } } := I4.kept (t' := s4.toks) fun b ob q => Heap.get?_push_of_some _ q
    cases pl
    cases pu
    obtain ⟨its, r, ht, hz⟩ := I5.tuple hx
    have hlen := r.length
    show wpAny (model X.prog X.w) X.A (subscriptTail e (.Slice none none (some (.UnaryOp .USub (.Constant (.int 1) k p1) p2)) p3) (.ref a) (.ref s4.heap.objs.size)) (EP X pins σ Q) X.xe { s4 with heap := s4.heap.push { cls := .type "slice", data := .fields #[.none, .none, vs] } }
    refine tail_any (ops := [.ref a, .ref s4.heap.objs.size]) ht.typeIs (PyProof.Rows.slot_tuple_getitem.lookup) ?_ (by with_unfolding_all rfl)
    refine getItem_tuple_rev ht (Heap.IsSliceOf.new _ .none .none vs) ps ?_ (by rw [List.size_toArray]; omega)
    refine ⟨.ref _, _, I5.laid (t' := s4.toks) (o := .tup xs.reverse) (fun b ob q => Heap.get?_push_of_some _ q) (Nat.le_refl _) ?_, rfl, q _ (I5.hok.fresh (Nat.le_refl _))⟩
    exact ⟨by rw [List.length_reverse]; exact hz, _, r.reverse, IsTup.new _ _⟩
end
def gRev : D → R D
  | .lst xs => .ok (.lst xs.reverse)
  | .tup xs => .ok (.tup xs.reverse)
  | _ => .bad
theorem fe_rev {X : Cx} {ca : Cn} {W : WX} {e : Expr} {fa : Ev → R D} {k : Nat} {p1 p2 p3 pos : Pos} (h : FE X ca W e fa) : FE X ca W (.Subscript e (.Slice none none (some (.UnaryOp .USub (.Constant (.int 1) k p1) p2)) p3) pos) (e1 gRev fa) := by
  obtain ⟨t, p, kt⟩ := h.ex
  refine ⟨_, pe_revA p, fun B G H σ ρ Q s b r h => ?_⟩
  refine kt B G H σ ρ _ s b r (Wish.bind h fun d G1 H1 _ x1 w1 v a1 => ?_)
  cases d with
  | lst xs =>
    obtain ⟨q, vs, rfl, h1, h2⟩ := a1
    exact .inl ⟨q, vs, rfl, .of (x1.gh _ _ h1), fun l n => new_lst x1.gh w1 h2.reverse n⟩
  | tup xs =>
    obtain ⟨q, vs, rfl, h1, h2⟩ := a1
    exact .inr ⟨q, vs, rfl, tq x1.gh h1, fun l n => new_tup x1.gh w1 h2.reverse n⟩
  | _ => exact w1.elim
end Tk

namespace Tk
open PySem PySem.Spec L2 PyProof.Rows
/-! ### enumerate and zip over lists and tuples alike: b tells a tuple -/
def SqB (b : Bool) (K : PySem.W.Frag) (H : Hp) (a : Addr) (xs : List V) : Prop := match b with
  | false => SqL K H a xs
  | true => SqT K H a xs
def ItB (b : Bool) (h : Heap) (it a : Addr) (i : Nat) : Prop := match b with
  | false => h.IsListIter it a i
  | true => h.IsTupleIter it a i
def IsB (b : Bool) (h : Heap) (a : Addr) (items : Array Value) : Prop := match b with
  | false => h.IsList a items
  | true => h.IsTuple a items
def obB (b : Bool) (a : Addr) : Obj := match b with
  | false => { cls := .type "list_iterator", data := .fields #[.ref a, .int 0 0] }
  | true => { cls := .type "tuple_iterator", data := .fields #[.ref a, .int 0 0] }
theorem beginsB (b : Bool) (a : Addr) (items : Array Value) : Begins (.ref a) (obB b a) (fun h => IsB b h a items) := by
  cases b with
  | false => exact begins_list a items
  | true => exact begins_tuple a items
theorem itB0 {b : Bool} {h : Heap} {it a : Addr} (e : h.get? it = some (obB b a)) : ItB b h it a 0 := by
  cases b with
  | false => exact ⟨_, e, rfl, rfl⟩
  | true => exact ⟨_, e, rfl, rfl⟩
theorem ItB.there {b : Bool} {h : Heap} {it a : Addr} {i : Nat} (x : ItB b h it a i) : ∃ o, h.get? it = some o ∧ ∀ v, o.data ≠ .cell v := by
  cases b with
  | false => obtain ⟨o, e, _, d⟩ := x; exact ⟨o, e, fun v q => by rw [d] at q; cases q⟩
  | true => obtain ⟨o, e, _, d⟩ := x; exact ⟨o, e, fun v q => by rw [d] at q; cases q⟩
theorem ItB.move {b : Bool} {h h' : Heap} {it a : Addr} {i : Nat} (x : ItB b h it a i) (k : ∀ o, h.get? it = some o → h'.get? it = some o) : ItB b h' it a i := by
  cases b with
  | false => exact x.at fun o e => k o e
  | true => exact x.at fun o e => k o e
theorem drawsB {P : Program} {w : World} {A : Around} (hh : A.handled = none) (b : Bool) (it a : Addr) (ne : a ≠ it) (items : Array Value) : Draws P w A it [it, a] items.size (fun i v => items[i]? = some v) (fun i h => ItB b h it a i ∧ IsB b h a items) := by
  cases b with
  | false => exact Draws.list hh it a ne items
  | true => exact Draws.tuple hh it a ne items
section
variable {X : Cx} {pins : List (Addr × Obj)} {σ : L2.St} {H : Hp} {s : Shared} {b : Bool} {a : Addr} {xs ys : List V}
theorem inv_sq (I : Inv X pins σ H s) (q : SqB b X.K H a xs) : ∃ its : List Value, Vals xs its ∧ IsB b s.heap a its.toArray := by
  cases b with
  | false => obtain ⟨its, r, p, _⟩ := I.list q; exact ⟨its, r, p.isList⟩
  | true => obtain ⟨its, r, p, _⟩ := I.tuple q; exact ⟨its, r, p⟩
theorem inv_inj (I : Inv X pins σ H s) (q : SqB b X.K H a xs) (q' : SqB b X.K H a ys) : xs = ys := by
  cases b with
  | false => exact I.list_inj q q'
  | true => exact I.tuple_inj q q'
theorem IsB.lt {h : Heap} {items : Array Value} (x : IsB b h a items) : a < h.objs.size := by
  cases b with
  | false => obtain ⟨o, e, _⟩ := x; exact Heap.lt_size e
  | true => obtain ⟨o, e, _⟩ := x; exact Heap.lt_size e
theorem IsB.move {h h' : Heap} {items : Array Value} (x : IsB b h a items) (k : ∀ o, h.get? a = some o → h'.get? a = some o) : IsB b h' a items := by
  cases b with
  | false => exact x.at fun o e => k o e
  | true => exact x.at fun o e => k o e
/-- where the walked thing stands, none of the iterator's cells does -/
theorem sq_apart (I : Inv X pins σ H s) (q : SqB b X.K H a xs) {c : Addr} (f : FpOk X pins H c) (hc : ∃ o, s.heap.get? c = some o ∧ o.cls ≠ .type "list" ∧ o.cls ≠ .type "tuple") : a ≠ c := by
  intro e
  subst e
  obtain ⟨its, _, ib⟩ := inv_sq I q
  obtain ⟨o, e, n1, n2⟩ := hc
  cases b with
  | false => obtain ⟨o', e', c', _⟩ := ib; rw [e] at e'; cases e'; exact n1 c'
  | true => obtain ⟨o', e', c', _⟩ := ib; rw [e] at e'; cases e'; exact n2 c'
end
/-- a tuple of two that an iterator gave out, as the layer's new object -/
theorem pair_new {P : Program} {w : World} {H : Hp} {h : Heap} {T : Addr} {x y : V} {u v : Value} (ru : RelV x u) (rv : RelV y v) (t : h.IsTuple T #[u, v]) : ObjOk P w (upd H T (.tup [x, y])) h T (.tup [x, y]) := by
  obtain ⟨o, e, c, n, d⟩ := t
  exact ⟨by show 2 ≤ sizeLine; decide, [u, v], .cons ru (.cons rv .nil), o, e, c, n, d⟩
def IteB (b : Bool) (K : PySem.W.Frag) (a : Addr) : It where
  go i H := ∃ xs x, SqB b K H a xs ∧ xs[i]? = some x
  yld i H v H' := ∃ T x, v = .ref T ∧ H T = none ∧ H' = upd H T (.tup [.int (i : Int), x]) ∧ ∀ xs, SqB b K H a xs → xs[i]? = some x
  stop i H := ∃ xs, SqB b K H a xs ∧ xs.length = i
theorem itB_not {b : Bool} {h : Heap} {it a : Addr} {i : Nat} (x : ItB b h it a i) : ∃ o, h.get? it = some o ∧ o.cls ≠ .type "list" ∧ o.cls ≠ .type "tuple" := by
  cases b with
  | false => obtain ⟨o, q, c, _⟩ := x; exact ⟨o, q, by rw [c]; decide +kernel, by rw [c]; decide +kernel⟩
  | true => obtain ⟨o, q, c, _⟩ := x; exact ⟨o, q, by rw [c]; decide +kernel, by rw [c]; decide +kernel⟩
theorem cls_not {h : Heap} {e : Addr} {T : String} {d : Data} {o : Option Addr} {sl : Array (Option Value)} (q : h.get? e = some { cls := .type T, dict := o, data := d, slots := sl }) (h1 : T ≠ "list") (h2 : T ≠ "tuple") : ∃ o, h.get? e = some o ∧ o.cls ≠ .type "list" ∧ o.cls ≠ .type "tuple" :=
  ⟨_, q, ⟨fun z => h1 (Value.type.inj z), fun z => h2 (Value.type.inj z)⟩⟩
theorem turn_enB {P : Program} {w : World} {K : PySem.W.Frag} {elts : List Expr} {kk : Nat} {tpos : Pos} (b : Bool) (a e it : Addr) (hei : e ≠ it) :
    Turn P w K (.Tuple elts kk tpos) (IteB b K a) [e, it] e (fun i h => (∃ old, IsEnum h e it (0 + (i : Int)) old) ∧ ItB b h it a i) where
  mem := List.mem_cons_self
  obj i h st c hc := by
    obtain ⟨⟨old, he⟩, hi⟩ := st
    rcases List.mem_cons.mp hc with z | hc
    · exact ⟨_, z ▸ he, fun v q => Data.noConfusion q⟩
    · rw [List.mem_singleton.mp hc]; exact hi.there
  keep i h h' st k := ⟨let ⟨old, he⟩ := st.1; ⟨old, k e List.mem_cons_self _ he⟩, st.2.move fun o q => k it (List.mem_cons_of_mem _ List.mem_cons_self) o q⟩
  item := by
    intro X hP hw hK hc i pins s σ H E I hf st hg
    subst hP hw hK
    obtain ⟨xs, x, hq, hx⟩ := hg
    obtain ⟨its, rv, ib⟩ := inv_sq I hq
    obtain ⟨u, hu, ru⟩ := rv.get hx
    obtain ⟨⟨old, he⟩, hi⟩ := id st
    have ane : a ≠ e := sq_apart I hq (hf e List.mem_cons_self) (cls_not he (by decide +kernel) (by decide +kernel))
    have ani : a ≠ it := sq_apart I hq (hf it (List.mem_cons_of_mem _ List.mem_cons_self)) (itB_not hi)
    have G := GoesN.enumFrom (prog := X.prog) (w := X.w) (A := X.A) (elts := elts) (x1 := kk) (pos := tpos) 0 (drawsB (P := X.prog) (w := X.w) (A := X.A.in1) (I.ok.hd hc) b it a ani its.toArray) e hei (by simp [hei, Ne.symm ane]) List.mem_cons_self
    have hlen : i < its.toArray.size := by
      have := (List.getElem?_eq_some_iff.mp hu).1
      simpa using this
    have lt : ∀ c ∈ [e, it], c < s.heap.objs.size := fun c hc => by
      rcases List.mem_cons.mp hc with q | q
      · rw [q]; exact Heap.lt_size he
      · rw [List.mem_singleton.mp q]; obtain ⟨o, q, _⟩ := hi.there; exact Heap.lt_size q
    refine wpAny_mono (G.goes i s (fun u' s2 => ∃ x H', Inv X pins σ H' s2 ∧ RelV x u' ∧ (IteB b X.K a).yld i H x H' ∧ ((∃ old, IsEnum s2.heap e it (0 + ((i + 1 : Nat) : Int)) old) ∧ ItB b s2.heap it a (i + 1)) ∧ ∀ b ∈ [e, it], H' b = none) E hlen ⟨⟨old, he⟩, hi, ib⟩ fun v h' tk hY st' kp ht => ?_) (fun _ _ z => z) fun _ _ z => z
    obtain ⟨T, t, u2, ev, hT, hu2, tT⟩ := hY
    have : u2 = u := by simpa [hu] using hu2.symm
    subst this ev
    have new : ObjOk X.prog X.w (upd H T (.tup [.int (i : Int), x])) h' T (.tup [.int (i : Int), x]) := pair_new ⟨t, by rw [Int.zero_add]⟩ ru tT
    refine ⟨.ref T, _, I.turnedNew (t' := tk) (ch := [e, it]) (fun c o hb q => kp c o hb q) hf hT new, rfl, ⟨T, x, rfl, I.hok.fresh hT, rfl, fun zs hz => by rw [inv_inj I hz hq]; exact hx⟩, ⟨st'.1, st'.2.1⟩, fun c hc => ?_⟩
    rw [upd_ne (fun z => by have l := lt c hc; rw [z] at l; exact absurd (Nat.lt_of_lt_of_le l hT) (Nat.lt_irrefl _))]
    exact (hf c hc).1
  done := by
    intro X hP hw hK hc i pins s σ H E I hf st hg
    subst hP hw hK
    obtain ⟨xs, hq, hl⟩ := hg
    obtain ⟨its, rv, ib⟩ := inv_sq I hq
    obtain ⟨⟨old, he⟩, hi⟩ := id st
    have ane : a ≠ e := sq_apart I hq (hf e List.mem_cons_self) (cls_not he (by decide +kernel) (by decide +kernel))
    have ani : a ≠ it := sq_apart I hq (hf it (List.mem_cons_of_mem _ List.mem_cons_self)) (itB_not hi)
    have G := GoesN.enumFrom (prog := X.prog) (w := X.w) (A := X.A) (elts := elts) (x1 := kk) (pos := tpos) 0 (drawsB (P := X.prog) (w := X.w) (A := X.A.in1) (I.ok.hd hc) b it a ani its.toArray) e hei (by simp [hei, Ne.symm ane]) List.mem_cons_self
    have ei : its.toArray.size = i := by rw [List.size_toArray, ← rv.length]; exact hl
    rw [ei] at G
    exact G.stops s _ E ⟨⟨old, he⟩, hi, ib⟩ fun h' tk kp _ => I.turnedL (t' := tk) (ch := [e, it]) kp hf
  self A i s Q E st h := let ⟨⟨_, he⟩, _⟩ := st; wpAny_pyIter_enum he h
set_option maxHeartbeats 1000000 in
theorem enum_newB {v : Value} {o : Obj} {H : Heap → Prop} (B : Begins v o H) :
    Meets (Builtin.«enumerate.__new__» ⟨[.type "enumerate", v], []⟩) (fun _ R s => H s.heap ∧
      R (.ok (.ret (.ref (s.heap.push o).objs.size))) { s with heap := (s.heap.push o).push { cls := .type "enumerate", data := .fields #[.none, .bool false, .ref s.heap.objs.size, rawInt 0, .none, .none] } }) := by
  refine .of_wp fun prog w A R s h => ?_
  obtain ⟨hp, g, d, tk, os⟩ := s
  obtain ⟨h1, h⟩ := h
  have hs := sub_enumerate
  have q : ∀ {A' : Around} {E : Value → Shared → Prop} {Q : Value → Shared → Prop}, Q (.ref hp.objs.size) ⟨hp.push o, g, d, tk, os⟩ → wpAny (model prog w) A' (pyIter v) Q E ⟨hp, g, d, tk, os⟩ := fun z => B.iter prog w _ _ ⟨hp, g, d, tk, os⟩ _ h1 z
  wp_walk using q
  refine wpAny_stack_any fun st => wpAny_pure ?_
  split
  · rename_i c _ _ _ _ _
    cases (c == Value.type "enumerate") <;> (wp_walk using q; exact ⟨_, rfl, h⟩)
  · wp_walk using q
    exact ⟨_, rfl, h⟩
theorem enum_begins1 {prog : Program} {w : World} {A : Around} {E : Value → Shared → Prop} {s : Shared} {v : Value} {o : Obj} {H : Heap → Prop} {Q : Value → Shared → Prop} (B : Begins v o H) (h1 : H s.heap)
    (h : ∀ h', IsEnum h' (s.heap.objs.size + 1) s.heap.objs.size 0 .none → h'.get? s.heap.objs.size = some o → (∀ b o, s.heap.get? b = some o → h'.get? b = some o) → Q (.ref (s.heap.objs.size + 1)) { s with heap := h' }) :
    wpAny (model prog w) A (call (.type "enumerate") [v]) Q E s := by
  refine callType_new F.called_enumerate (by decide) (F.typeCall_enumerate_1 _) (F.newCall_enumerate_1 _) (fun obj => F.args_object_init_2 obj _) F.entry_enumerate_new (enum_newB B) ⟨h1, ?_⟩
  have hz : (s.heap.push o).objs.size = s.heap.objs.size + 1 := Heap.size_push ..
  have he : IsEnum ((s.heap.push o).push { cls := .type "enumerate", data := .fields #[.none, .bool false, .ref s.heap.objs.size, rawInt 0, .none, .none] }) (s.heap.objs.size + 1) s.heap.objs.size 0 .none := by
    have q := Heap.get?_push_size (s.heap.push o) (o := { cls := .type "enumerate", data := .fields #[.none, .bool false, .ref s.heap.objs.size, rawInt 0, .none, .none] }) rfl
    rw [hz] at q
    exact q
  show _ ∧ _
  rw [hz]
  exact ⟨⟨_, he, rfl⟩, h _ he (Heap.get?_push_of_some _ (Heap.get?_push_size _ B.free)) fun b o x => Heap.get?_push_of_some _ (Heap.get?_push_of_some _ x)⟩
def wEnB (b : Bool) (K : PySem.W.Frag) (ta : TA) : TI := fun σ H R => ta σ H fun vs H1 => ∃ a xs, vs = [.ref a] ∧ SqB b K H1 a xs ∧ R (IteB b K a) H1
theorem pi_enB {X : Cx} (b : Bool) {e : Expr} {ta : TA} {p pos tpos : Pos} {elts : List Expr} {kk : Nat} (hg : Gl X "enumerate") (hm : X.mg "enumerate" = none) (ha : PA X [e] ta) (hs : starEach [e] X.env = [(false, eval e X.env)] := by rfl) :
    PI X (.Tuple elts kk tpos) (.Call (.Name "enumerate" p) [e] [] pos) (wEnB b X.K ta) := by
  refine ⟨fun pins s σ H R I h => ?_⟩
  refine Call_ (ld_blt I hg hm boot_enumerate (PyProof.Rows.callWith_type1 (thn (ha.run pos pins s σ H _ I h) fun us s1 ⟨vs, H1, I1, r1, a, xs, ex, hq, q⟩ => ?_) hs rfl))
  subst ex
  obtain ⟨u, rfl, ru⟩ := vals1 r1
  obtain rfl : u = Value.ref a := ru
  obtain ⟨its, rv, ib⟩ := inv_sq I1 hq
  refine enum_begins1 (beginsB b a its.toArray) ib fun h' he hi kp => wpAny_pyIter_enum he ?_
  refine ⟨s1.heap.objs.size + 1, [s1.heap.objs.size + 1, s1.heap.objs.size], _, _, H1, rfl, I1.kept (t' := s1.toks) kp, turn_enB b a (s1.heap.objs.size + 1) s1.heap.objs.size (Nat.succ_ne_self _), ⟨⟨.none, he⟩, itB0 hi⟩, fun c hc => ?_, q⟩
  have le : s1.heap.objs.size ≤ c := by
    rcases List.mem_cons.mp hc with z | z
    · rw [z]; exact Nat.le_succ _
    · rw [List.mem_singleton.mp z]; exact Nat.le_refl _
  exact I1.fpOk le (I1.hok.fresh le)
/-! zip of two -/
def ItzB (b c : Bool) (K : PySem.W.Frag) (a1 a2 : Addr) : It where
  go i H := ∃ xs ys x y, SqB b K H a1 xs ∧ SqB c K H a2 ys ∧ xs[i]? = some x ∧ ys[i]? = some y
  yld i H v H' := ∃ T x y, v = .ref T ∧ H T = none ∧ H' = upd H T (.tup [x, y]) ∧ (∀ xs, SqB b K H a1 xs → xs[i]? = some x) ∧ ∀ ys, SqB c K H a2 ys → ys[i]? = some y
  stop i H := ∃ xs ys, SqB b K H a1 xs ∧ SqB c K H a2 ys ∧ min xs.length ys.length = i
structure ZCells (z t o i1 i2 : Addr) : Prop where
  tz : t ≠ z
  oz : o ≠ z
  to : t ≠ o
  t1 : t ≠ i1
  t2 : t ≠ i2
  z1 : z ≠ i1
  z2 : z ≠ i2
  o1 : o ≠ i1
  o2 : o ≠ i2
  i12 : i1 ≠ i2
def ZSt (b c : Bool) (z t o i1 i2 a1 a2 : Addr) (i : Nat) (h : Heap) : Prop := IsZip h z t o .none ∧ IsTupOf2 h t (.ref i1) (.ref i2) ∧ (∃ u v, IsTupOf2 h o u v) ∧ ItB b h i1 a1 i ∧ ItB c h i2 a2 i
theorem zst_there {b c : Bool} {z t o i1 i2 a1 a2 : Addr} {i : Nat} {h : Heap} (x : ZSt b c z t o i1 i2 a1 a2 i h) : ∀ d ∈ [z, t, o, i1, i2], ∃ ob, h.get? d = some ob ∧ ∀ v, ob.data ≠ .cell v := fun d hd => by
  obtain ⟨hz, ht, ⟨u, v, ho⟩, h1, h2⟩ := x
  simp only [List.mem_cons, List.not_mem_nil, or_false] at hd
  rcases hd with q | q | q | q | q
  · exact ⟨_, q ▸ hz, fun v w => Data.noConfusion w⟩
  · exact ⟨_, q ▸ ht, fun v w => Data.noConfusion w⟩
  · exact ⟨_, q ▸ ho, fun v w => Data.noConfusion w⟩
  · exact q ▸ h1.there
  · exact q ▸ h2.there
section
variable {P : Program} {w : World} {b c : Bool} {z t o i1 i2 a1 a2 : Addr} {elts : List Expr} {kk : Nat} {tpos : Pos}
theorem zip_goes {X : Cx} {pins : List (Addr × Obj)} {σ : L2.St} {H : Hp} {s : Shared} {xs ys : List V} {i : Nat} (Z : ZCells z t o i1 i2) (I : Inv X pins σ H s) (hc : X.calm = true) (hf : ∀ d ∈ [z, t, o, i1, i2], FpOk X pins H d) (st : ZSt b c z t o i1 i2 a1 a2 i s.heap) (q1 : SqB b X.K H a1 xs) (q2 : SqB c X.K H a2 ys) :
    ∃ us vs : List Value, Vals xs us ∧ Vals ys vs ∧ IsB b s.heap a1 us.toArray ∧ IsB c s.heap a2 vs.toArray ∧
      GoesN X.prog X.w X.A (.Tuple elts kk tpos) z (z :: t :: o :: ([i1, a1] ++ [i2, a2])) [z, o, i1, i2] (min us.toArray.size vs.toArray.size) (fun i h₀ v h => ∃ T x y, v = .ref T ∧ h₀.objs.size ≤ T ∧ us.toArray[i]? = some x ∧ vs.toArray[i]? = some y ∧ h.IsTuple T #[x, y])
        (fun i h => IsZip h z t o .none ∧ IsTupOf2 h t (.ref i1) (.ref i2) ∧ (∃ u v, IsTupOf2 h o u v) ∧ (ItB b h i1 a1 i ∧ IsB b h a1 us.toArray) ∧ (ItB c h i2 a2 i ∧ IsB c h a2 vs.toArray)) := by
  obtain ⟨us, r1, ib1⟩ := inv_sq I q1
  obtain ⟨vs, r2, ib2⟩ := inv_sq I q2
  obtain ⟨hz, ht, ⟨u, v, ho⟩, h1, h2⟩ := st
  have fz : ∀ {d : Addr}, d ∈ [z, t, o, i1, i2] → FpOk X pins H d := fun {d} m => hf d m
  -- the tuple that zip gives out lies among its cells, and is told apart by what the layer tracks
  have trk : ∀ {b : Bool} {a : Addr} {xs : List V} {d : Addr}, SqB b X.K H a xs → d ∈ [z, o, i1, i2] → a ≠ d := fun {b a xs d} q m e => by
    subst e
    have f := hf a (by simp only [List.mem_cons, List.not_mem_nil, or_false] at m ⊢; rcases m with m | m | m | m <;> simp [m])
    obtain ⟨f0, f1, f2, f3, f4, f5⟩ := f
    cases b with
    | false =>
      rcases q with (q | ⟨_, q⟩) | ⟨ob, its, n, k, _⟩
      · rw [f0] at q; cases q
      · rw [f0] at q; cases q
      · have base := I.ok.mod.kin a ob k
        rcases f3 with x | x
        · exact I.ok.noex a ob base x
        · exact absurd (Nat.lt_of_lt_of_le (Heap.lt_size (I.ok.bs a ob base).1) x) (Nat.lt_irrefl _)
    | true =>
      rcases q with (q | ⟨_, q⟩) | ⟨ob, its, n, k, _⟩
      · rw [f0] at q; cases q
      · rw [f0] at q; cases q
      · have base := I.ok.mod.kin a ob k
        rcases f3 with x | x
        · exact I.ok.noex a ob base x
        · exact absurd (Nat.lt_of_lt_of_le (Heap.lt_size (I.ok.bs a ob base).1) x) (Nat.lt_irrefl _)
  have S : ZipSep2 z t o i1 i2 [i1, a1] [i2, a2] :=
    { TIz := Z.tz, TOz := Z.oz, TITO := Z.to, TIi1 := Z.t1, mem1 := List.mem_cons_self, zf1 := by simp [Z.z1, Ne.symm (trk q1 (d := z) (by simp))], Tf1 := by simp [Z.o1, Ne.symm (trk q1 (d := o) (by simp))],
      TIi2 := Z.t2, mem2 := List.mem_cons_self, zf2 := by simp [Z.z2, Ne.symm (trk q2 (d := z) (by simp))], Tf2 := by simp [Z.o2, Ne.symm (trk q2 (d := o) (by simp))],
      sep1_2 := by simp [Z.i12, Ne.symm (trk q2 (d := i1) (by simp))], sep2_1 := by simp [Ne.symm Z.i12, Ne.symm (trk q1 (d := i2) (by simp))] }
  exact ⟨us, vs, r1, r2, ib1, ib2, GoesN.zip2 S (drawsB (A := X.A.in1) (I.ok.hd hc) b i1 a1 (trk q1 (by simp)) us.toArray) (drawsB (A := X.A.in1) (I.ok.hd hc) c i2 a2 (trk q2 (by simp)) vs.toArray)⟩
theorem turn_zpB {K : PySem.W.Frag} (Z : ZCells z t o i1 i2) : Turn P w K (.Tuple elts kk tpos) (ItzB b c K a1 a2) [z, t, o, i1, i2] z (ZSt b c z t o i1 i2 a1 a2) where
  mem := List.mem_cons_self
  obj i h st := zst_there st
  keep i h h' st k := by
    obtain ⟨hz, ht, ⟨u, v, ho⟩, h1, h2⟩ := st
    exact ⟨k z (by simp) _ hz, k t (by simp) _ ht, ⟨u, v, k o (by simp) _ ho⟩, h1.move fun ob q => k i1 (by simp) ob q, h2.move fun ob q => k i2 (by simp) ob q⟩
  item := by
    intro X hP hw hK hc i pins s σ H E I hf st hg
    subst hP hw hK
    obtain ⟨xs, ys, x, y, q1, q2, hx, hy⟩ := hg
    obtain ⟨us, vs, r1, r2, ib1, ib2, G⟩ := zip_goes (elts := elts) (kk := kk) (tpos := tpos) Z I hc hf st q1 q2
    obtain ⟨u, hu, ru⟩ := r1.get hx
    obtain ⟨v, hv, rv⟩ := r2.get hy
    have hlen : i < min us.toArray.size vs.toArray.size := by
      have l1 := (List.getElem?_eq_some_iff.mp hu).1
      have l2 := (List.getElem?_eq_some_iff.mp hv).1
      simp only [List.size_toArray]
      omega
    obtain ⟨hz, ht, ho, h1, h2⟩ := id st
    refine wpAny_mono (G.goes i s (fun u' s2 => ∃ x H', Inv X pins σ H' s2 ∧ RelV x u' ∧ (ItzB b c X.K a1 a2).yld i H x H' ∧ ZSt b c z t o i1 i2 a1 a2 (i + 1) s2.heap ∧ ∀ d ∈ [z, t, o, i1, i2], H' d = none) E hlen ⟨hz, ht, ho, ⟨h1, ib1⟩, h2, ib2⟩ fun v' h' tk hY st' kp _ => ?_) (fun _ _ q => q) fun _ _ q => q
    obtain ⟨T, u2, v2, ev, hT, hu2, hv2, tT⟩ := hY
    have e1 : u2 = u := by simpa [hu] using hu2.symm
    have e2 : v2 = v := by simpa [hv] using hv2.symm
    subst e1 e2 ev
    refine ⟨.ref T, _, I.turnedNew (t' := tk) (ch := [z, t, o, i1, i2]) (fun d ob hb q => kp d ob (fun m => hb ?_) q) hf hT (pair_new ru rv tT), rfl, ⟨T, x, y, rfl, I.hok.fresh hT, rfl, fun zs hz => by rw [inv_inj I hz q1]; exact hx, fun zs hz => by rw [inv_inj I hz q2]; exact hy⟩, ⟨st'.1, st'.2.1, st'.2.2.1, st'.2.2.2.1.1, st'.2.2.2.2.1⟩, fun d hd => ?_⟩
    · simp only [List.mem_cons, List.not_mem_nil, or_false] at m ⊢
      rcases m with m | m | m | m <;> simp [m]
    · obtain ⟨ob, eo, _⟩ := zst_there st d hd
      rw [upd_ne (fun e => by have l := Heap.lt_size eo; rw [e] at l; exact absurd (Nat.lt_of_lt_of_le l hT) (Nat.lt_irrefl _))]
      exact (hf d hd).1
  done := by
    intro X hP hw hK hc i pins s σ H E I hf st hg
    subst hP hw hK
    obtain ⟨xs, ys, q1, q2, hl⟩ := hg
    obtain ⟨us, vs, r1, r2, ib1, ib2, G⟩ := zip_goes (elts := elts) (kk := kk) (tpos := tpos) Z I hc hf st q1 q2
    obtain ⟨hz, ht, ho, h1, h2⟩ := id st
    have ei : min us.toArray.size vs.toArray.size = i := by rw [List.size_toArray, List.size_toArray, ← r1.length, ← r2.length]; exact hl
    rw [ei] at G
    refine G.stops s _ E ⟨hz, ht, ho, ⟨h1, ib1⟩, h2, ib2⟩ fun h' tk kp _ => I.turnedL (t' := tk) (ch := [z, t, o, i1, i2]) (fun d ob hb q => kp d ob (fun m => hb ?_) q) hf
    simp only [List.mem_cons, List.not_mem_nil, or_false] at m ⊢
    rcases m with m | m | m | m <;> simp [m]
  self A i s Q E st h := wpAny_pyIter_zip st.1 h
end
def wZpB (b c : Bool) (K : PySem.W.Frag) (ta : TA) : TI := fun σ H R => ta σ H fun vs H1 => ∃ a1 a2 xs ys, vs = [.ref a1, .ref a2] ∧ SqB b K H1 a1 xs ∧ SqB c K H1 a2 ys ∧ R (ItzB b c K a1 a2) H1
theorem pi_zpB {X : Cx} (b c : Bool) {e e' : Expr} {ta : TA} {p pos tpos : Pos} {elts : List Expr} {kk : Nat} (hg : Gl X "zip") (hm : X.mg "zip" = none) (ha : PA X [e, e'] ta) (hs : starEach [e, e'] X.env = (false, eval e X.env) :: starEach [e'] X.env := by rfl) (hpl : (backTo pos (starEach [e'] X.env)).any (·.1) = false := by rfl) :
    PI X (.Tuple elts kk tpos) (.Call (.Name "zip" p) [e, e'] [] pos) (wZpB b c X.K ta) := by
  refine ⟨fun pins s σ H R I h => ?_⟩
  refine Call_ (ld_blt I hg hm boot_zip (PyProof.Rows.callWith_type1 (thn (ha.run pos pins s σ H _ I h) fun us s1 ⟨vs, H1, I1, r1, a1, a2, xs, ys, ex, q1, q2, q⟩ => ?_) hs hpl))
  subst ex
  obtain ⟨u, v, rfl, ru, rv⟩ := vals2 r1
  obtain rfl : u = Value.ref a1 := ru
  obtain rfl : v = Value.ref a2 := rv
  obtain ⟨its, _, ib1⟩ := inv_sq I1 q1
  obtain ⟨its2, _, ib2⟩ := inv_sq I1 q2
  refine zip_begins2 (beginsB b a1 its.toArray) (beginsB c a2 its2.toArray) ib1 ib2 fun h' hz ht ho g1 g2 hsz kp => wpAny_pyIter_zip hz ?_
  have Z : ZCells (s1.heap.objs.size + 4) (s1.heap.objs.size + 2) (s1.heap.objs.size + 3) s1.heap.objs.size (s1.heap.objs.size + 1) := by
    constructor <;> (intro q; have q' : (_ : Nat) = _ := q; omega)
  refine ⟨_, _, _, _, H1, rfl, I1.kept (t' := s1.toks) kp, turn_zpB (a1 := a1) (a2 := a2) Z, ⟨hz, ht, ⟨_, _, ho⟩, itB0 g1, itB0 g2⟩, fun d hd => ?_, q⟩
  have le : s1.heap.objs.size ≤ d := by
    simp only [List.mem_cons, List.not_mem_nil, or_false] at hd
    rcases hd with z | z | z | z | z <;> (rw [z]; first | exact Nat.le_add_right _ _ | exact Nat.le_refl _)
  exact I1.fpOk le (I1.hok.fresh le)
/-! ### the layer's own rows -/
def seqD : D → Option (Bool × List D)
  | .lst xs => some (false, xs)
  | .scr ns => some (false, ns.map .int)
  | .tup xs => some (true, xs)
  | _ => none
def iEn2 (fa : Ev → R D) : Ev → R (List D) := fun ρ => (fa ρ).bind fun d => (optR (seqD d)).bind fun x => .ok (enumD 0 x.2)
def iZp2 (fa fb : Ev → R D) : Ev → R (List D) := fun ρ => (fa ρ).bind fun a => (fb ρ).bind fun b => (optR (seqD a)).bind fun x => (optR (seqD b)).bind fun y => .ok (zipD x.2 y.2)
section
variable {K : PySem.W.Frag} {ca : Cn} {G0 : Hp}
theorem seqD_at {d : D} {v : V} {x : Bool × List D} (h : At K ca G0 d v) (e : seqD d = some x) : ∃ a vs, v = .ref a ∧ SqB x.1 K G0 a vs ∧ AtL K ca G0 x.2 vs := by
  cases d with
  | lst xs => cases e; obtain ⟨a, vs, e1, h1, h2⟩ := h; exact ⟨a, vs, e1, SqL.of h1, h2⟩
  | scr ns => cases e; obtain ⟨a, e1, h1⟩ := h; exact ⟨a, _, e1, h1, AtL.of_ints ns⟩
  | tup xs => cases e; obtain ⟨a, vs, e1, h1, h2⟩ := h; exact ⟨a, vs, e1, tq (.refl _) h1, h2⟩
  | _ => cases e
theorem sqB_mono {b : Bool} {H H' : Hp} {a : Addr} {xs : List V} (s : Same H H') (h : SqB b K H a xs) : SqB b K H' a xs := by
  cases b with
  | false => exact SqL_mono s h
  | true => exact SqT_mono s h
theorem jok_enB {b : Bool} {a : Addr} {ds : List D} {vs : List V} (h : SqB b K G0 a vs) (r : AtL K ca G0 ds vs) : JOk K ca G0 (IteB b K a) (enumD 0 ds) := by
  intro G H s1 s2 i
  have q : SqB b K H a vs := sqB_mono s2 (sqB_mono s1 h)
  refine ⟨fun d e => ?_, fun l => ⟨vs, q, by rw [enumD_len] at l; rw [← r.length]; exact l⟩⟩
  rw [enumD_get] at e
  obtain ⟨d0, e0, e1⟩ := Option.map_eq_some_iff.mp e
  obtain ⟨v, e2, a1⟩ := r.get e0
  refine ⟨⟨vs, v, q, e2⟩, fun x H' y => ?_⟩
  obtain ⟨T, x0, rfl, n, rfl, hx⟩ := y
  have := hx vs q
  rw [e2] at this
  cases this
  subst e1
  refine pair_at s2 n ?_ (At.mono s1 a1)
  rw [Nat.zero_add]
  rfl
theorem jok_zpB {b c : Bool} {a1 a2 : Addr} {ds es : List D} {vs ws : List V} (h : SqB b K G0 a1 vs) (h' : SqB c K G0 a2 ws) (r : AtL K ca G0 ds vs) (r' : AtL K ca G0 es ws) : JOk K ca G0 (ItzB b c K a1 a2) (zipD ds es) := by
  intro G H s1 s2 i
  have q : SqB b K H a1 vs := sqB_mono s2 (sqB_mono s1 h)
  have q' : SqB c K H a2 ws := sqB_mono s2 (sqB_mono s1 h')
  refine ⟨fun d e => ?_, fun l => ⟨vs, ws, q, q', by rw [zipD_len, r.length, r'.length] at l; exact l⟩⟩
  rw [zipD_get] at e
  cases e0 : ds[i]? with
  | none => rw [e0] at e; cases e
  | some d0 =>
    cases e1 : es[i]? with
    | none => rw [e0, e1] at e; cases e
    | some d1 =>
      rw [e0, e1] at e
      cases e
      obtain ⟨v, e2, b1⟩ := r.get e0
      obtain ⟨w, e3, b2⟩ := r'.get e1
      refine ⟨⟨vs, ws, v, w, q, q', e2, e3⟩, fun x H' y => ?_⟩
      obtain ⟨T, x0, y0, rfl, n, rfl, hx, hy⟩ := y
      have z1 := hx vs q
      have z2 := hy ws q'
      rw [e2] at z1
      rw [e3] at z2
      cases z1; cases z2
      exact pair_at s2 n (At.mono s1 b1) (At.mono s1 b2)
end
section
variable {X : Cx} {ca : Cn} {W : WX} {e e' : Expr} {fa fb : Ev → R D} {p pos tpos : Pos} {elts : List Expr} {kk : Nat}
theorem fi_en2 (hg : Gl X "enumerate") (hm : X.mg "enumerate" = none) (h : FE X ca W e fa) (hs : starEach [e] X.env = [(false, eval e X.env)] := by rfl) : FI X ca W (.Tuple elts kk tpos) (.Call (.Name "enumerate" p) [e] [] pos) (iEn2 fa) := by
  obtain ⟨t, p, k⟩ := h.ex
  refine ⟨_, pi_or (pi_enB false hg hm (pa_cons p pa_nil hs) hs) (pi_enB true hg hm (pa_cons p pa_nil hs) hs), fun B G H σ ρ Q s b r h => ?_⟩
  have go : ∀ bb, (∀ d, fa ρ = .ok d → ∀ x, seqD d = some x → x.1 = bb) → wEnB bb X.K (tCons t tNil) σ H Q := fun bb hb => by
    refine k B G H σ ρ _ s b r (Wish.bind h fun d G1 H1 e1 x1 w1 v a1 => ?_)
    obtain ⟨x, ex, w2⟩ := wish_opt w1
    obtain ⟨a, vs, rfl, h1, h2⟩ := seqD_at a1 ex
    have := hb d e1 x ex
    subst this
    exact ⟨a, vs, rfl, sqB_mono x1.gh h1, w2.here x1.gh _ (jok_enB h1 h2)⟩
  cases z : fa ρ with
  | ok d =>
    cases q : seqD d with
    | none => exact .inl (go false fun d' e x ex => by rw [z] at e; cases e; rw [q] at ex; cases ex)
    | some x =>
      obtain ⟨bb, ds⟩ := x
      cases bb with
      | false => exact .inl (go false fun d' e x ex => by rw [z] at e; cases e; rw [q] at ex; cases ex; rfl)
      | true => exact .inr (go true fun d' e x ex => by rw [z] at e; cases e; rw [q] at ex; cases ex; rfl)
  | exc x => exact .inl (go false fun d' e => by rw [z] at e; cases e)
  | bad => exact .inl (go false fun d' e => by rw [z] at e; cases e)
theorem fi_zp2 (hg : Gl X "zip") (hm : X.mg "zip" = none) (h : FE X ca W e fa) (h' : FE X ca W e' fb) (hs : starEach [e, e'] X.env = (false, eval e X.env) :: starEach [e'] X.env := by rfl) (hs' : starEach [e'] X.env = (false, eval e' X.env) :: starEach [] X.env := by rfl)
    (hpl : (backTo pos (starEach [e'] X.env)).any (·.1) = false := by rfl) : FI X ca W (.Tuple elts kk tpos) (.Call (.Name "zip" p) [e, e'] [] pos) (iZp2 fa fb) := by
  obtain ⟨t, pp, k⟩ := h.ex
  obtain ⟨u, q, l⟩ := h'.ex
  have pz := fun b c => pi_zpB (X := X) (p := p) (pos := pos) (elts := elts) (kk := kk) (tpos := tpos) b c hg hm (pa_cons pp (pa_cons q pa_nil hs') hs) hs hpl
  refine ⟨_, pi_or (pi_or (pz false false) (pz false true)) (pi_or (pz true false) (pz true true)), fun B G H σ ρ Q s b r h => ?_⟩
  have go : ∀ bb cc, (∀ d, fa ρ = .ok d → ∀ x, seqD d = some x → x.1 = bb) → (∀ d, fb ρ = .ok d → ∀ x, seqD d = some x → x.1 = cc) → wZpB bb cc X.K (tCons t (tCons u tNil)) σ H Q := fun bb cc hb hb' => by
    refine k B G H σ ρ _ s b r (Wish.bind h fun d G1 H1 e1 x1 w1 v a1 => ?_)
    refine l B G1 H1 σ ρ _ x1.gh (b.trans x1.hh) (r.ext x1) (Wish.bind w1 fun d2 G2 H2 e2 x2 w2 v2 a2 => ?_)
    obtain ⟨x, ex, w2⟩ := wish_opt w2
    obtain ⟨y, ey, w2⟩ := wish_opt w2
    obtain ⟨a, vs, rfl, h1, h2⟩ := seqD_at (At.mono x2.gg a1) ex
    obtain ⟨a', ws, rfl, h3, h4⟩ := seqD_at a2 ey
    have := hb d e1 x ex
    have := hb' d2 e2 y ey
    subst bb cc
    exact ⟨a, a', vs, ws, rfl, sqB_mono x2.gh h1, sqB_mono x2.gh h3, w2.here x2.gh _ (jok_zpB h1 h3 h2 h4)⟩
  have kind : ∀ f : Ev → R D, ∃ bb : Bool, ∀ d, f ρ = .ok d → ∀ x, seqD d = some x → x.1 = bb := fun f => by
    cases z : f ρ with
    | ok d =>
      cases q : seqD d with
      | none => exact ⟨false, fun d' e x ex => by cases e; rw [q] at ex; cases ex⟩
      | some x => exact ⟨x.1, fun d' e y ey => by cases e; rw [q] at ey; cases ey; rfl⟩
    | exc x => exact ⟨false, fun d' e => by cases e⟩
    | bad => exact ⟨false, fun d' e => by cases e⟩
  obtain ⟨bb, hb⟩ := kind fa
  obtain ⟨cc, hc⟩ := kind fb
  cases bb <;> cases cc
  · exact .inl (.inl (go _ _ hb hc))
  · exact .inl (.inr (go _ _ hb hc))
  · exact .inr (.inl (go _ _ hb hc))
  · exact .inr (.inr (go _ _ hb hc))
end
end Tk

namespace Tk
open PySem PySem.Spec L2 PyProof.Rows
/-! ### isinstance, is True -/
def tyD : D → Option String
  | .non => some "NoneType"
  | .bl _ => some "bool"
  | .int _ => some "int"
  | .str _ => some "str"
  | .scr _ => some "list"
  | .lst _ => some "list"
  | .tup _ => some "tuple"
  | .dK _ => some "dict"
  | .dT _ => some "dict"
  | _ => none
def gIsi : List D → R D
  | [d, .ty n] => (optR ((tyD d).bind fun t => kitB t n)).bind fun b => .ok (.bl b)
  | _ => .bad
def gIsB (neg : Bool) : D → D → R D
  | .bl a, .bl b => .ok (.bl (if neg then !decide (a = b) else decide (a = b)))
  | _, .bl _ => .ok (.bl neg)
  | _, _ => .bad
section
variable {X : Cx} {ca : Cn}
theorem tyX_of {G H : Hp} (s : Same G H) {d : D} {v : V} {t : String} (a : At X.K ca G d v) (e : tyD d = some t) : TyX X.K H v (.type t) := by
  cases d with
  | non => cases e; cases a; exact .base .non
  | bl b => cases e; cases a; exact .base (.bl b)
  | int b => cases e; cases a; exact .base (.int b)
  | str b => cases e; cases a; exact .base (.str b)
  | scr ns =>
    cases e
    obtain ⟨p, rfl, h⟩ := a
    rcases h with (h | ⟨o, h⟩) | ⟨o, its, n, k, c, _⟩
    · exact .base (.lst (s _ _ h))
    · exact .base (.frz (s _ _ h))
    · exact .kList k c
  | lst xs => cases e; obtain ⟨p, vs, rfl, h, _⟩ := a; exact .base (.lst (s _ _ h))
  | tup xs =>
    cases e
    obtain ⟨p, vs, rfl, h, _⟩ := a
    rcases h with h | ⟨_, (h | ⟨o, h⟩) | ⟨o, its, n, k, c, _⟩⟩
    · exact .base (.tup (s _ _ h))
    · exact .base (.tup (s _ _ h))
    · exact .fTuple (s _ _ h)
    · exact .kTuple k c
  | dK xs => cases e; obtain ⟨p, vs, rfl, h, _⟩ := a; exact .base (.dK (s _ _ h))
  | dT xs => cases e; obtain ⟨p, vs, rfl, h, _⟩ := a; exact .base (.dT (s _ _ h))
  | _ => cases e
theorem vn_isi : VN X ca (rIsi X.K) gIsi := by
  intro G H W1 xs ds Q s a w
  unfold gIsi at w
  split at w
  · obtain ⟨b, e, w⟩ := wish_opt w
    obtain ⟨t, e1, e2⟩ := Option.bind_eq_some_iff.mp e
    obtain ⟨v, v', rfl, a1, a2⟩ := atl2 a
    cases a2
    exact ⟨v, _, .type t, .type _, b, rfl, .ty _, tyX_of s a1 e1, kit_ty e2, w.here s _ rfl⟩
  · exact w.elim
theorem op_isB : OpR X (compareOp .Is) (fun x y H Q => ∃ b, y = .bl b ∧ Q (.bl (decide (x = .bl b))) H) := by
  intro pins s σ H x y v u Q I rx ry h
  obtain ⟨b, rfl, q⟩ := h
  cases (show u = Value.bool b from ry)
  cases x with
  | bl a =>
    cases (show v = Value.bool a from rx)
    exact wpAny_is_plain rfl (fin_bl I q (by cases a <;> cases b <;> rfl))
  | non => cases (show v = Value.none from rx); exact wpAny_is_plain rfl (fin_bl I q rfl)
  | int i => obtain ⟨t, rfl⟩ := rx; exact wpAny_is_plain rfl (fin_bl I q rfl)
  | str i => obtain ⟨t, rfl⟩ := rx; exact wpAny_is_plain rfl (fin_bl I q rfl)
  | byt i => obtain ⟨t, rfl⟩ := rx; exact wpAny_is_plain rfl (fin_bl I q rfl)
  | flt i => obtain ⟨t, rfl⟩ := rx; exact wpAny_is_plain rfl (fin_bl I q rfl)
  | ref i => cases (show v = Value.ref i from rx); exact wpAny_is_plain rfl (fin_bl I q rfl)
  | ty i => cases (show v = Value.type i from rx); exact wpAny_is_plain rfl (fin_bl I q rfl)
theorem op_nisB : OpR X (compareOp .IsNot) (fun x y H Q => ∃ b, y = .bl b ∧ Q (.bl (!decide (x = .bl b))) H) := by
  intro pins s σ H x y v u Q I rx ry h
  obtain ⟨b, rfl, q⟩ := h
  cases (show u = Value.bool b from ry)
  cases x with
  | bl a =>
    cases (show v = Value.bool a from rx)
    exact wpAny_isNot_plain rfl (fin_bl I q (by cases a <;> cases b <;> rfl))
  | non => cases (show v = Value.none from rx); exact wpAny_isNot_plain rfl (fin_bl I q rfl)
  | int i => obtain ⟨t, rfl⟩ := rx; exact wpAny_isNot_plain rfl (fin_bl I q rfl)
  | str i => obtain ⟨t, rfl⟩ := rx; exact wpAny_isNot_plain rfl (fin_bl I q rfl)
  | byt i => obtain ⟨t, rfl⟩ := rx; exact wpAny_isNot_plain rfl (fin_bl I q rfl)
  | flt i => obtain ⟨t, rfl⟩ := rx; exact wpAny_isNot_plain rfl (fin_bl I q rfl)
  | ref i => cases (show v = Value.ref i from rx); exact wpAny_isNot_plain rfl (fin_bl I q rfl)
  | ty i => cases (show v = Value.type i from rx); exact wpAny_isNot_plain rfl (fin_bl I q rfl)
theorem at_bl {a : D} {x : V} {G : Hp} {b : Bool} (h : At X.K ca G a x) (n : ∀ c, a ≠ .bl c) : decide (x = .bl b) = false := by
  cases a with
  | bl c => exact (n c rfl).elim
  | non => cases h; rfl
  | int _ => cases h; rfl
  | str _ => cases h; rfl
  | ty _ => cases h; rfl
  | cl _ => obtain ⟨_, _, rfl⟩ := h; rfl
  | scr _ => obtain ⟨_, rfl, _⟩ := h; rfl
  | lst _ => obtain ⟨_, _, rfl, _⟩ := h; rfl
  | tup _ => obtain ⟨_, _, rfl, _⟩ := h; rfl
  | tpz _ => obtain ⟨_, _, _, rfl, _⟩ := h; rfl
  | dK _ => obtain ⟨_, _, rfl, _⟩ := h; rfl
  | dT _ => obtain ⟨_, _, rfl, _⟩ := h; rfl
  | ins _ _ => obtain ⟨_, _, _, _, rfl, _⟩ := h; rfl
theorem v2_isB : V2 X ca (fun x y H Q => ∃ b, y = .bl b ∧ Q (.bl (decide (x = .bl b))) H) (gIsB false) := by
  intro G H W1 x y a b Q s ax ay w
  unfold gIsB at w
  split at w
  · cases ax; cases ay; exact ⟨_, rfl, by rw [dec_VB]; exact w.here s _ rfl⟩
  · rename_i n; cases ay; exact ⟨_, rfl, by rw [at_bl ax fun c e => n c e]; exact w.here s _ rfl⟩
  · exact w.elim
theorem v2_nisB : V2 X ca (fun x y H Q => ∃ b, y = .bl b ∧ Q (.bl (!decide (x = .bl b))) H) (gIsB true) := by
  intro G H W1 x y a b Q s ax ay w
  unfold gIsB at w
  split at w
  · cases ax; cases ay; exact ⟨_, rfl, by rw [dec_VB]; exact w.here s _ rfl⟩
  · rename_i n; cases ay; exact ⟨_, rfl, by rw [at_bl ax fun c e => n c e]; exact w.here s _ rfl⟩
  · exact w.elim
/-- a built-in class as a value -/
theorem fe_bltn {W : WX} {x : Str} {n : String} {pos : Pos} (hg : Gl X x) (hm : X.mg x = none) (hv : bootBuiltins x = some (.type n)) (hn : x ≠ "__name__" := by decide) (hd : (x == ("__debug__" : Str)) = false := by decide) : FE X ca W (.Name x pos) (eC (.ty n)) :=
  ⟨_, pe_bltn (v := .ty n) hg hm hv rfl hn hd, fun B G H σ ρ Q s b r h => h.here s _ rfl⟩
end
/-! ### sorted -/
def pairOf : D → Option (Int × Int)
  | .tup [.int i, .int j] => some (i, j)
  | _ => none
def pairsOf : List D → Option (List (Int × Int))
  | [] => some []
  | d :: r => (pairOf d).bind fun p => (pairsOf r).map (p :: ·)
def leP (p q : Int × Int) : Bool := !SrtO.lexB q p
def srtP (ps : List (Int × Int)) : List (Int × Int) := ps.mergeSort leP
def dP (p : Int × Int) : D := .tup [.int p.1, .int p.2]
def srtI (ns : List Int) : List Int := ns.mergeSort fun i j => decide (i ≤ j)
def gSrt : List D → R D
  | [.lst xs] => match intsOf xs with
    | some ns => .ok (.lst ((srtI ns).map .int))
    | none => match pairsOf xs with
      | some ps => .ok (.lst ((srtP ps).map dP))
      | none => .bad
  | _ => .bad
section
variable {X : Cx} {ca : Cn}
theorem srtI_uniq {ns ms : List Int} (p : ms.Perm ns) (s : ms.Pairwise (· ≤ ·)) : ms = srtI ns := by
  have p2 : (srtI ns).Perm ns := List.mergeSort_perm _ _
  have s2 : (srtI ns).Pairwise fun i j => decide (i ≤ j) = true := List.pairwise_mergeSort (fun a b c h1 h2 => by simp at *; omega) (fun a b => by simp; omega) ns
  have s3 : (srtI ns).Pairwise (· ≤ ·) := s2.imp fun h => of_decide_eq_true h
  exact List.Perm.eq_of_pairwise (fun a b _ _ h1 h2 => Int.le_antisymm h1 h2) s s3 (p.trans p2.symm)
theorem lex_tot (p q : Int × Int) : leP p q = true ∨ leP q p = true := by
  unfold leP
  cases h : SrtO.lexB q p with
  | false => exact .inl rfl
  | true =>
    right
    rw [Bool.not_eq_true']
    exact (ltP_swo (fun _ => (0, 0))).1 |> fun _ => by
      have a := SrtO.lexB_iff.mp h
      exact SrtO.lexB_no.mpr (by omega)
theorem srtP_uniq {ns ms : List (Int × Int)} (p : ms.Perm ns) (s : ms.Pairwise fun x y => SrtO.lexB y x = false) : ms = srtP ns := by
  have p2 : (srtP ns).Perm ns := List.mergeSort_perm _ _
  have s2 : (srtP ns).Pairwise fun x y => leP x y = true := List.pairwise_mergeSort (fun a b c h1 h2 => by
    unfold leP at *
    rw [Bool.not_eq_true'] at *
    have a := SrtO.lexB_no.mp h1
    have b := SrtO.lexB_no.mp h2
    exact SrtO.lexB_no.mpr (by omega)) (fun a b => by rcases lex_tot a b with h | h <;> simp [h]) ns
  refine List.Perm.eq_of_pairwise (le := fun x y => SrtO.lexB y x = false) (fun a b _ _ h1 h2 => ?_) s (s2.imp fun h => by unfold leP at h; rwa [Bool.not_eq_true'] at h) (p.trans p2.symm)
  have x := SrtO.lexB_no.mp h1
  have y := SrtO.lexB_no.mp h2
  exact Prod.ext (by omega) (by omega)
theorem pairOf_eq {d : D} {p : Int × Int} (h : pairOf d = some p) : d = dP p := by
  unfold pairOf at h
  split at h
  · cases h; rfl
  · cases h
theorem pairsOf_eq : ∀ {ds : List D} {ps : List (Int × Int)}, pairsOf ds = some ps → ds = ps.map dP
  | [], ps, h => by cases h; rfl
  | d :: r, ps, h => by
    obtain ⟨p, h1, h2⟩ := Option.bind_eq_some_iff.mp (show (pairOf d).bind (fun p => (pairsOf r).map (p :: ·)) = some ps from h)
    obtain ⟨qs, h3, rfl⟩ := Option.map_eq_some_iff.mp h2
    rw [List.map_cons, ← pairOf_eq h1, ← pairsOf_eq h3]
theorem pairs_at {G : Hp} : ∀ {ps : List (Int × Int)} {vs : List V}, AtL X.K ca G (ps.map dP) vs → ∃ k : V → Int × Int, vs.map k = ps ∧ ∀ x ∈ vs, ∃ t, x = V.ref t ∧ G t = some (.tup [.int (k x).1, .int (k x).2]) := by
  intro ps vs h
  refine ⟨fun x => match x with
    | .ref t => match G t with
      | some (.tup [.int i, .int j]) => (i, j)
      | _ => (0, 0)
    | _ => (0, 0), ?_⟩
  induction ps generalizing vs with
  | nil => cases h; exact ⟨rfl, fun x m => by cases m⟩
  | cons p ps ih =>
    obtain ⟨v, r, rfl, ⟨t, ws, rfl, h1, h2⟩, h3⟩ := h
    obtain ⟨e1, e2⟩ := ih h3
    obtain ⟨u, u', rfl, a1, a2⟩ := atl2 h2
    cases a1
    cases a2
    have g : G t = some (.tup [.int p.1, .int p.2]) := h1.elim id fun z => by cases z.1
    refine ⟨?_, fun x m => ?_⟩
    · rw [List.map_cons, e1]
      simp only [g]
    · rcases List.mem_cons.mp m with rfl | m
      · exact ⟨t, rfl, by simp only [g]⟩
      · exact e2 x m
theorem at_pairs {G : Hp} {k : V → Int × Int} : ∀ {vs : List V}, (∀ x ∈ vs, ∃ t, x = V.ref t ∧ G t = some (.tup [.int (k x).1, .int (k x).2])) → AtL X.K ca G ((vs.map k).map dP) vs
  | [], _ => rfl
  | v :: vs, h => by
    obtain ⟨t, e, g⟩ := h v List.mem_cons_self
    refine ⟨v, vs, rfl, ⟨t, _, e, .inl g, ?_⟩, at_pairs fun x m => h x (List.mem_cons_of_mem _ m)⟩
    exact ⟨_, _, rfl, rfl, _, _, rfl, rfl, rfl⟩
theorem cr_srt : CallR X (.builtin "sorted") (fun xs H Q => rSortedI X.K xs H Q ∨ rSortedPO X.K xs H Q) := cr_sortedI.or cr_sortedPO
theorem vn_srt : VN X ca (fun xs H Q => rSortedI X.K xs H Q ∨ rSortedPO X.K xs H Q) gSrt := by
  intro G H W1 xs ds Q s a w
  unfold gSrt at w
  split at w
  · obtain ⟨v, rfl, p, vs, rfl, h1, h2⟩ := atl1 a
    split at w
    · rename_i ns e
      rw [intsOf_at e h2] at h1
      refine .inl ⟨p, ns, rfl, .of (s _ _ h1), fun ms q pm so n => ?_⟩
      rw [srtI_uniq pm so]
      exact new_lst s w (AtL.of_ints _) n
    · split at w
      · rename_i ps e
        rw [pairsOf_eq e] at h2
        obtain ⟨k, e1, e2⟩ := pairs_at h2
        refine .inr ⟨p, vs, k, rfl, .of (s _ _ h1), fun x m => let ⟨t, z1, z2⟩ := e2 x m; ⟨t, z1, s _ _ z2⟩, fun ys q so sb n => ?_⟩
        have e3 : ys.map k = srtP ps := by
          refine srtP_uniq (e1 ▸ sb.perm.map k) (List.pairwise_map.mpr so)
        have a3 : AtL X.K ca G ((ys.map k).map dP) ys := at_pairs fun x m => e2 x (sb.perm.mem_iff.mp m)
        rw [e3] at a3
        exact new_lst s w a3 n
      · exact w.elim
  · exact w.elim
end
/-! ### xs[::-1] -/
end Tk

namespace Tk
open PySem PySem.Spec L2 PyProof.Rows
/-! ### built-ins by name -/
/-- the module hides none of these -/
structure BT (mg : Str → Option Value) : Prop where
  len : mg "len" = none
  abs : mg "abs" = none
  int : mg "int" = none
  list : mg "list" = none
  tuple : mg "tuple" = none
  min : mg "min" = none
  max : mg "max" = none
  sum : mg "sum" = none
  all : mg "all" = none
  any : mg "any" = none
  sorted : mg "sorted" = none
  isinstance : mg "isinstance" = none
  range : mg "range" = none
  enumerate : mg "enumerate" = none
  zip : mg "zip" = none
  bool : mg "bool" = none
  str : mg "str" = none
  dict : mg "dict" = none
theorem bb_len : bootBuiltins "len" = some (.builtin "len") := by decide +kernel
theorem bb_abs : bootBuiltins "abs" = some (.builtin "abs") := by decide +kernel
theorem bb_int : bootBuiltins "int" = some (.type "int") := by decide +kernel
theorem bb_bool : bootBuiltins "bool" = some (.type "bool") := by decide +kernel
theorem bb_str : bootBuiltins "str" = some (.type "str") := by decide +kernel
theorem bb_dict : bootBuiltins "dict" = some (.type "dict") := by decide +kernel
theorem bb_list : bootBuiltins "list" = some (.type "list") := by decide +kernel
theorem bb_tuple : bootBuiltins "tuple" = some (.type "tuple") := by decide +kernel
theorem bb_min : bootBuiltins "min" = some (.builtin "min") := by decide +kernel
theorem bb_max : bootBuiltins "max" = some (.builtin "max") := by decide +kernel
theorem bb_sum : bootBuiltins "sum" = some (.builtin "sum") := by decide +kernel
theorem bb_all : bootBuiltins "all" = some (.builtin "all") := by decide +kernel
theorem bb_any : bootBuiltins "any" = some (.builtin "any") := by decide +kernel
theorem bb_sorted : bootBuiltins "sorted" = some (.builtin "sorted") := by decide +kernel
theorem bb_isinstance : bootBuiltins "isinstance" = some (.builtin "isinstance") := by decide +kernel
section
variable {X : Cx} {ca : Cn} {W : WX} {e e' : Expr} {es : List Expr} {fl : Ev → R (List D)} {p pos : Pos}
/-- the names stand as the text has them -/
structure Nm (X : Cx) (x : Str) (e : Expr) (es : List Expr) (pos : Pos) : Prop where
  g : Gl X x
  h : starEach (e :: es) X.env = (false, eval e X.env) :: starEach es X.env
  p : (backTo pos (starEach es X.env)).any (·.1) = false
theorem fe_len (T : BT X.mg) (ha : FA X ca W (e :: es) fl) (n : Nm X "len" e es pos := by exact ⟨rfl, rfl, rfl⟩) : FE X ca W (.Call (.Name "len" p) (e :: es) [] pos) (eA gLen fl) := fe_blt call_len vn_len n.g T.len bb_len ha (by decide) (by decide) n.h n.p
theorem fe_abs (T : BT X.mg) (ha : FA X ca W (e :: es) fl) (n : Nm X "abs" e es pos := by exact ⟨rfl, rfl, rfl⟩) : FE X ca W (.Call (.Name "abs" p) (e :: es) [] pos) (eA gAbs fl) := fe_blt call_abs vn_abs n.g T.abs bb_abs ha (by decide) (by decide) n.h n.p
theorem fe_intc (T : BT X.mg) (ha : FA X ca W (e :: es) fl) (n : Nm X "int" e es pos := by exact ⟨rfl, rfl, rfl⟩) : FE X ca W (.Call (.Name "int" p) (e :: es) [] pos) (eA gInt fl) := fe_bty call_int1 vn_int n.g T.int bb_int ha (by decide) (by decide) n.h n.p
theorem fe_listc (T : BT X.mg) (ha : FA X ca W (e :: es) fl) (n : Nm X "list" e es pos := by exact ⟨rfl, rfl, rfl⟩) : FE X ca W (.Call (.Name "list" p) (e :: es) [] pos) (eA gList fl) := fe_bty call_list_of vn_list n.g T.list bb_list ha (by decide) (by decide) n.h n.p
theorem fe_tuplec (T : BT X.mg) (ha : FA X ca W (e :: es) fl) (n : Nm X "tuple" e es pos := by exact ⟨rfl, rfl, rfl⟩) : FE X ca W (.Call (.Name "tuple" p) (e :: es) [] pos) (eA gTuple fl) := fe_bty call_tuple_of vn_tuple n.g T.tuple bb_tuple ha (by decide) (by decide) n.h n.p
theorem fe_min (T : BT X.mg) (ha : FA X ca W (e :: es) fl) (hc : X.calm = true := by rfl) (n : Nm X "min" e es pos := by exact ⟨rfl, rfl, rfl⟩) : FE X ca W (.Call (.Name "min" p) (e :: es) [] pos) (eA gMin fl) := fe_blt (call_minA hc) vn_min n.g T.min bb_min ha (by decide) (by decide) n.h n.p
theorem fe_max (T : BT X.mg) (ha : FA X ca W (e :: es) fl) (hc : X.calm = true := by rfl) (n : Nm X "max" e es pos := by exact ⟨rfl, rfl, rfl⟩) : FE X ca W (.Call (.Name "max" p) (e :: es) [] pos) (eA gMax fl) := fe_blt (call_maxA hc) vn_max n.g T.max bb_max ha (by decide) (by decide) n.h n.p
theorem fe_sum (T : BT X.mg) (ha : FA X ca W (e :: es) fl) (hc : X.calm = true := by rfl) (n : Nm X "sum" e es pos := by exact ⟨rfl, rfl, rfl⟩) : FE X ca W (.Call (.Name "sum" p) (e :: es) [] pos) (eA gSum fl) := fe_blt (cr_sum hc) vn_sum n.g T.sum bb_sum ha (by decide) (by decide) n.h n.p
theorem fe_all (T : BT X.mg) (ha : FA X ca W (e :: es) fl) (hc : X.calm = true := by rfl) (n : Nm X "all" e es pos := by exact ⟨rfl, rfl, rfl⟩) : FE X ca W (.Call (.Name "all" p) (e :: es) [] pos) (eA gAll fl) := fe_blt (cr_all hc) vn_all n.g T.all bb_all ha (by decide) (by decide) n.h n.p
theorem fe_any (T : BT X.mg) (ha : FA X ca W (e :: es) fl) (hc : X.calm = true := by rfl) (n : Nm X "any" e es pos := by exact ⟨rfl, rfl, rfl⟩) : FE X ca W (.Call (.Name "any" p) (e :: es) [] pos) (eA gAny fl) := fe_blt (cr_any hc) vn_any n.g T.any bb_any ha (by decide) (by decide) n.h n.p
theorem fe_sorted (T : BT X.mg) (ha : FA X ca W (e :: es) fl) (n : Nm X "sorted" e es pos := by exact ⟨rfl, rfl, rfl⟩) : FE X ca W (.Call (.Name "sorted" p) (e :: es) [] pos) (eA gSrt fl) := fe_blt cr_srt vn_srt n.g T.sorted bb_sorted ha (by decide) (by decide) n.h n.p
theorem fe_isi (T : BT X.mg) (ha : FA X ca W (e :: es) fl) (n : Nm X "isinstance" e es pos := by exact ⟨rfl, rfl, rfl⟩) : FE X ca W (.Call (.Name "isinstance" p) (e :: es) [] pos) (eA gIsi fl) := fe_blt call_isi vn_isi n.g T.isinstance bb_isinstance ha (by decide) (by decide) n.h n.p
theorem fe_ty_int (T : BT X.mg) (hg : Gl X "int" := by rfl) : FE X ca W (.Name "int" pos) (eC (.ty "int")) := fe_bltn hg T.int bb_int (by decide) (by decide)
theorem fe_ty_bool (T : BT X.mg) (hg : Gl X "bool" := by rfl) : FE X ca W (.Name "bool" pos) (eC (.ty "bool")) := fe_bltn hg T.bool bb_bool (by decide) (by decide)
theorem fe_ty_str (T : BT X.mg) (hg : Gl X "str" := by rfl) : FE X ca W (.Name "str" pos) (eC (.ty "str")) := fe_bltn hg T.str bb_str (by decide) (by decide)
theorem fe_ty_list (T : BT X.mg) (hg : Gl X "list" := by rfl) : FE X ca W (.Name "list" pos) (eC (.ty "list")) := fe_bltn hg T.list bb_list (by decide) (by decide)
theorem fe_ty_tuple (T : BT X.mg) (hg : Gl X "tuple" := by rfl) : FE X ca W (.Name "tuple" pos) (eC (.ty "tuple")) := fe_bltn hg T.tuple bb_tuple (by decide) (by decide)
theorem fe_ty_dict (T : BT X.mg) (hg : Gl X "dict" := by rfl) : FE X ca W (.Name "dict" pos) (eC (.ty "dict")) := fe_bltn hg T.dict bb_dict (by decide) (by decide)
end
/-- a constant of the module -/
def Glb (mg : Str → Option Value) (x : Str) (d : D) : Prop := ∃ u, mg x = some u ∧ RelV (toV d) u ∧ flatD d = true
theorem fe_glb {X : Cx} {ca : Cn} {W : WX} {x : Str} {d : D} {pos : Pos} (h : Glb X.mg x d) (hg : Gl X x := by rfl) (hd : (x == ("__debug__" : Str)) = false := by decide) : FE X ca W (.Name x pos) (eC d) := by
  obtain ⟨u, h1, h2, h3⟩ := h
  exact fe_glob hg h1 h2 (fun G => by cases d <;> first | rfl | cases h3) hd
/-! ### defs -/
structure Def (P : Program) (w : World) (K : PySem.W.Frag) (mg : Str → Option Value) (base : Heap) (ca : Cn) (k : Nat) (x : Str) (ps : List Str) (F : List D → R D) : Prop where
  ex : ∃ f fd, FnOk P w K mg base (L2.CX P w) k f fd ps (spF K ca ps.length F) ∧ mg x = some (.ref f) ∧ PySem.W.keepIn K (.ref f) = true ∧ Binds K fd ps []
/-- a def as it stands behind the top -/
structure FunAt (K : PySem.W.Frag) (mg : Str → Option Value) (x : Str) (st : Stmt) : Prop where
  ex : ∃ f fd, Fun K x x st f fd ∧ mg x = some (.ref f)
theorem fe_d {X : Cx} {ca : Cn} {W : WX} {k j : Nat} {x : Str} {ps : List Str} {Fn : List D → R D} {p pos : Pos} {e : Expr} {es : List Expr} {fa : Ev → R (List D)} (d : Def X.prog X.w X.K X.mg X.base ca k x ps Fn) (hr : Room j X.A) (tk : Takes X W) (ha : FA X ca W (e :: es) fa) (hk : k ≤ j := by decide) (hg : Gl X x := by rfl) (hdb : (x == ("__debug__" : Str)) = false := by decide)
    (he : starEach (e :: es) X.env = (false, eval e X.env) :: starEach es X.env := by rfl) (hpl : (backTo pos (starEach es X.env)).any (·.1) = false := by rfl) : FE X ca W (.Call (.Name x p) (e :: es) [] pos) (eCall ps.length Fn fa) := by
  obtain ⟨f, fd, F, h1, h2, h3⟩ := d.ex
  exact fe_call F (hr.mono hk) tk hg h1 h2 h3 ha hdb he hpl
end Tk

namespace Tk
open PySem PySem.Spec L2 PyProof.Rows
/-! ### binding: which of the written values, the defaults, the keywords' values -/
def pickI {α : Type} : List Nat → List α → List α
  | [], _ => []
  | i :: is, l => match l[i]? with
    | some a => a :: pickI is l
    | none => pickI is l
theorem pick_vals {vs : List V} {us : List Value} (h : Vals vs us) : ∀ is : List Nat, Vals (pickI is vs) (pickI is us)
  | [] => .nil
  | i :: is => by
    unfold pickI
    cases e : vs[i]? with
    | none => rw [h.none_of e]; exact pick_vals h is
    | some x =>
      obtain ⟨u, e2, r⟩ := h.get e
      rw [e2]
      exact .cons r (pick_vals h is)
theorem pick_at {K : PySem.W.Frag} {ca : Cn} {G : Hp} {ds : List D} {vs : List V} (h : AtL K ca G ds vs) : ∀ is : List Nat, AtL K ca G (pickI is ds) (pickI is vs)
  | [] => rfl
  | i :: is => by
    unfold pickI
    cases e : ds[i]? with
    | none =>
      have e2 : vs[i]? = none := by rw [List.getElem?_eq_none_iff] at e ⊢; rw [← h.length]; exact e
      rw [e2]
      exact pick_at h is
    | some d =>
      obtain ⟨v, e2, a⟩ := h.get e
      rw [e2]
      exact ⟨v, _, rfl, a, pick_at h is⟩
def gDk (is : List Nat) (mid : List D) : List D → List D → List D := fun ds zs => pickI is (ds ++ (mid ++ zs))
theorem flat_at {K : PySem.W.Frag} {ca : Cn} {G : Hp} {d : D} (h : flatD d = true) : At K ca G d (toV d) := by
  cases d <;> first | rfl | cases h
theorem flats_at {K : PySem.W.Frag} {ca : Cn} {G : Hp} : ∀ {ds : List D}, ds.all flatD = true → AtL K ca G ds (ds.map toV)
  | [], _ => rfl
  | d :: ds, h => by
    rw [List.all_cons, Bool.and_eq_true] at h
    exact ⟨_, _, rfl, flat_at h.1, flats_at h.2⟩
abbrev kwV (kd : List (Str × D)) : List (Str × V) := kd.map fun q => (q.1, toV q.2)
section
variable {K : PySem.W.Frag} {ca : Cn} {x qual : Str} {params : Arguments} {body : List Stmt} {scope : Scope} {dd : List D} {kd : List (Str × D)} {f : Addr} {fd : FuncData} {ps : List Str}
theorem kb_of {n : Nat} {ks : List Str} {is : List Nat} {mid : List D} {its : List Value} (hm : mid.all flatD = true) (hv : Vals (mid.map toV) its)
    (to : ∀ (s : Shared) (us ws : List Value), K.In s.heap → us.length = n → ws.length = ks.length → BindsTo s fd ⟨us, ks.zip ws⟩ (ps.zip (pickI is (us ++ (its ++ ws))))) : KB K ca fd ps n ks (gDk is mid) :=
  ⟨fun us ws => pickI is (us ++ (its ++ ws)), fun vs zs => pickI is (vs ++ (mid.map toV ++ zs)), ⟨to, fun r1 r2 => pick_vals (r1.append (hv.append r2)) is⟩, fun G ds vs zs ws a b => pick_at (a.append ((flats_at hm).append b)) is⟩
/-- no default is looked up -/
theorem kb_n (F : FunD K x qual params body scope [] (kwV kd) f fd) (n : Nat) (ks : List Str) (is : List Nat)
    (h : ∀ (kV doc pm : Value) (an : Option Addr) (cdv ct : Value) (us ws : List Value), us.length = n → ws.length = ks.length → bindArgs (PySem.W.fnOf x qual params body scope .none kV doc pm an cdv ct) ⟨us, ks.zip ws⟩ = pure (ps.zip (pickI is (us ++ ws)))) : KB K ca fd ps n ks (gDk is []) := by
  obtain ⟨oc, od, dV, kV, doc, pm, an, cdv, ct, osl, rfl, lk, hcd, hD, hK⟩ := F.ex
  rcases hD with ⟨_, rfl⟩ | ⟨e, _⟩
  · exact kb_of rfl .nil fun s us ws _ l1 l2 => BindsTo.of_eq (h kV doc pm an cdv ct us ws l1 l2)
  · exact absurd rfl e
/-- keyword-only defaults -/
theorem kb_k (F : FunD K x qual params body scope [] (kwV kd) f fd) (n : Nat) (ks : List Str) (is : List Nat) (ms : List (Str × D)) (hk : kd ≠ []) (hms : ∀ q ∈ kwV ms, q ∈ kwV kd) (hf : (ms.map (·.2)).all flatD = true)
    (h : ∀ (D : Addr) (doc pm : Value) (an : Option Addr) (cdv ct : Value) (us mv ws : List Value), us.length = n → mv.length = ms.length → ws.length = ks.length →
      KwChain D ((ms.map (·.1)).zip mv) (bindArgs (PySem.W.fnOf x qual params body scope .none (.ref D) doc pm an cdv ct) ⟨us, ks.zip ws⟩) (ps.zip (pickI is (us ++ (mv ++ ws))))) : KB K ca fd ps n ks (gDk is (ms.map (·.2))) := by
  obtain ⟨oc, od, dV, kV, doc, pm, an, cdv, ct, osl, rfl, lk, hcd, hD, hK⟩ := F.ex
  rcases hD with ⟨_, rfl⟩ | ⟨e, _⟩
  · rcases hK with e | ⟨D, rfl, hq⟩
    · exact absurd (List.map_eq_nil_iff.mp e) hk
    · obtain ⟨mv, hl, rk, hks⟩ := kwd_vals (ms := kwV ms) fun q hm => hq q (hms q hm)
      rw [List.length_map] at hl
      have e1 : (kwV ms).map (·.1) = ms.map (·.1) := by rw [List.map_map]; rfl
      have e2 : (kwV ms).map (·.2) = (ms.map (·.2)).map toV := by rw [List.map_map, List.map_map]; rfl
      rw [e1] at hks
      rw [e2] at rk
      exact kb_of hf rk fun s us ws X l1 l2 => BindsTo.of_looks fun M => KwChain.looks X hks (h D doc pm an cdv ct us mv ws l1 hl l2)
  · exact absurd rfl e
/-- defaults, no keyword-only one looked up -/
theorem kb_d (F : FunD K x qual params body scope (dd.map toV) (kwV kd) f fd) (n : Nat) (ks : List Str) (is : List Nat) (hd : dd ≠ []) (hf : dd.all flatD = true)
    (h : ∀ (T : Addr) (kV doc pm : Value) (an : Option Addr) (cdv ct : Value) (us its ws : List Value), us.length = n → its.length = dd.length → ws.length = ks.length →
      ∃ k, bindArgs (PySem.W.fnOf x qual params body scope (.ref T) kV doc pm an cdv ct) ⟨us, ks.zip ws⟩ = seqItems? (.ref T) >>= k ∧ k (some its.toArray) = pure (ps.zip (pickI is (us ++ (its ++ ws))))) : KB K ca fd ps n ks (gDk is dd) := by
  obtain ⟨oc, od, dV, kV, doc, pm, an, cdv, ct, osl, rfl, lk, hcd, hD, hK⟩ := F.ex
  rcases hD with ⟨e, _⟩ | ⟨_, T, o, its, m, rfl, lT, oT, rT⟩
  · exact absurd (List.map_eq_nil_iff.mp e) hd
  · refine kb_of hf rT fun s us ws X l1 l2 => ?_
    obtain ⟨k, e1, e2⟩ := h T kV doc pm an cdv ct us its ws l1 (by rw [← rT.length, List.length_map]) l2
    refine BindsTo.of_looks fun M => ?_
    rw [e1]
    exact looks_items X lT oT (.of_pure e2)
/-- both -/
theorem kb_dk (F : FunD K x qual params body scope (dd.map toV) (kwV kd) f fd) (n : Nat) (ks : List Str) (is : List Nat) (ms : List (Str × D)) (hd : dd ≠ []) (hk : kd ≠ []) (hms : ∀ q ∈ kwV ms, q ∈ kwV kd) (hf : (dd ++ ms.map (·.2)).all flatD = true)
    (h : ∀ (T D : Addr) (doc pm : Value) (an : Option Addr) (cdv ct : Value) (us its mv ws : List Value), us.length = n → its.length = dd.length → mv.length = ms.length → ws.length = ks.length →
      ∃ k, bindArgs (PySem.W.fnOf x qual params body scope (.ref T) (.ref D) doc pm an cdv ct) ⟨us, ks.zip ws⟩ = seqItems? (.ref T) >>= k ∧ KwChain D ((ms.map (·.1)).zip mv) (k (some its.toArray)) (ps.zip (pickI is (us ++ ((its ++ mv) ++ ws))))) : KB K ca fd ps n ks (gDk is (dd ++ ms.map (·.2))) := by
  obtain ⟨oc, od, dV, kV, doc, pm, an, cdv, ct, osl, rfl, lk, hcd, hD, hK⟩ := F.ex
  rcases hD with ⟨e, _⟩ | ⟨_, T, o, its, m, rfl, lT, oT, rT⟩
  · exact absurd (List.map_eq_nil_iff.mp e) hd
  · rcases hK with e | ⟨D, rfl, hq⟩
    · exact absurd (List.map_eq_nil_iff.mp e) hk
    · obtain ⟨mv, hl, rk, hks⟩ := kwd_vals (ms := kwV ms) fun q hm => hq q (hms q hm)
      rw [List.length_map] at hl
      have e1 : (kwV ms).map (·.1) = ms.map (·.1) := by rw [List.map_map]; rfl
      have e2 : (kwV ms).map (·.2) = (ms.map (·.2)).map toV := by rw [List.map_map, List.map_map]; rfl
      rw [e1] at hks
      rw [e2] at rk
      refine kb_of (its := its ++ mv) hf (by rw [List.map_append]; exact rT.append rk) fun s us ws X l1 l2 => ?_
      obtain ⟨k, e1, e2⟩ := h T D doc pm an cdv ct us its mv ws l1 (by rw [← rT.length, List.length_map]) hl l2
      refine BindsTo.of_looks fun M => ?_
      rw [e1]
      exact looks_items X lT oT (KwChain.looks X hks e2)
end
theorem FunD.same {K : PySem.W.Frag} {x x' q q' : Str} {pa pa' : Arguments} {bd bd' : List Stmt} {sc sc' : Scope} {dv dv' : List V} {kw kw' : List (Str × V)} {f : Addr} {fd fd' : FuncData} (F : FunD K x q pa bd sc dv kw f fd) (F' : FunD K x' q' pa' bd' sc' dv' kw' f fd') : fd = fd' := by
  obtain ⟨oc, od, dV, kV, doc, pm, an, cdv, ct, osl, e1, lk, _⟩ := F.ex
  obtain ⟨oc', od', dV', kV', doc', pm', an', cdv', ct', osl', e1', lk', _⟩ := F'.ex
  rw [lk] at lk'
  injection lk' with h
  injection h with h1 h2 h3 h4
  injection h3
/-! ### defs by the head's facts -/
abbrev FD (K : PySem.W.Frag) (x qual : Str) (st : Stmt) (dd : List D) (kd : List (Str × D)) (f : Addr) (fd : FuncData) : Prop := FunD K x qual (defArgs st) (defBody st) (defScope st) (dd.map toV) (kwV kd) f fd
/-- a def of the module as it stands behind the top -/
structure FnAt (K : PySem.W.Frag) (mg : Str → Option Value) (x : Str) (st : Stmt) (dd : List D) (kd : List (Str × D)) : Prop where
  ex : ∃ f fd, FD K x x st dd kd f fd ∧ mg x = some (.ref f)
/-- .. that keeps its promise -/
structure DefA (P : Program) (w : World) (K : PySem.W.Frag) (mg : Str → Option Value) (base : Heap) (ca : Cn) (k : Nat) (x : Str) (st : Stmt) (dd : List D) (kd : List (Str × D)) (ps : List Str) (F : List D → R D) : Prop where
  ex : ∃ f fd, FnOk P w K mg base (L2.CX P w) k f fd ps (spF K ca ps.length F) ∧ mg x = some (.ref f) ∧ FD K x x st dd kd f fd
section
variable {P : Program} {w : World} {K : PySem.W.Frag} {mg : Str → Option Value} {base : Heap} {ca : Cn} {x : Str} {st : Stmt} {dd : List D} {kd : List (Str × D)} {ps N : List Str} {k : Nat} {g : Ev → SO}
theorem DefA.of (h : FnAt K mg x st dd kd) (S : FnScope N ps (defScope st)) (hb : ∀ (f : Addr) (cdv : Value) (A : Around) (outer : List Env) (s : Shared) (H : Hp) (E : XK), Room k (A.deeper (envOfC x (defScope st) s.heap.objs.size f cdv)) →
      FSs (cxOf (L2.CX P w) P w K mg base N x (defScope st) f cdv A outer s H E) ca (fun c d _ H' => E c d H') (defBody st) g) : DefA P w K mg base ca (k + 1) x st dd kd ps (runF N.length g) := by
  obtain ⟨f, fd, F, hm⟩ := h.ex
  exact ⟨f, fd, fn_okD F S (hb f), hm, F⟩
end
section
variable {X : Cx} {ca : Cn} {W : WX} {k j n : Nat} {x : Str} {st : Stmt} {dd : List D} {kd : List (Str × D)} {ps ks : List Str} {Fn : List D → R D} {p pos : Pos} {e : Expr} {es : List Expr} {kws : List Keyword} {fa fk : Ev → R (List D)} {gD : List D → List D → List D}
/-- f(e, ..), every parameter written -/
theorem fe_a (d : DefA X.prog X.w X.K X.mg X.base ca k x st dd kd ps Fn) (hb : ∀ {f fd}, FD X.K x x st dd kd f fd → Binds X.K fd ps []) (hr : Room j X.A) (tk : Takes X W) (ha : FA X ca W (e :: es) fa) (hk : k ≤ j := by decide) (hg : Gl X x := by rfl) (hdb : (x == ("__debug__" : Str)) = false := by decide)
    (he : starEach (e :: es) X.env = (false, eval e X.env) :: starEach es X.env := by rfl) (hpl : (backTo pos (starEach es X.env)).any (·.1) = false := by rfl) : FE X ca W (.Call (.Name x p) (e :: es) [] pos) (eCall ps.length Fn fa) := by
  obtain ⟨f, fd, F, h1, h2⟩ := d.ex
  exact fe_call F (hr.mono hk) tk hg h1 h2.kp (hb h2) ha hdb he hpl
/-- f(e, .., k = v, ..) -/
theorem fe_ak (d : DefA X.prog X.w X.K X.mg X.base ca k x st dd kd ps Fn) (hb : ∀ {f fd}, FD X.K x x st dd kd f fd → KB X.K ca fd ps n ks gD) (hr : Room j X.A) (tk : Takes X W) (ha : FA X ca W (e :: es) fa) (hkw : FK X ca W kws fk) (hk : k ≤ j := by decide) (hg : Gl X x := by rfl)
    (hall : (backToKw pos (keywordEach kws X.env)).all (·.1.isSome) = true := by rfl) (hks : (backToKw pos (keywordEach kws X.env)).filterMap (·.1) = ks := by rfl) (hdb : (x == ("__debug__" : Str)) = false := by decide)
    (he : starEach (e :: es) X.env = (false, eval e X.env) :: starEach es X.env := by rfl) (hpl : ((backTo pos (starEach (e :: es) X.env)).any (·.1) || (backToKw pos (keywordEach kws X.env)).any (·.1.isNone)) = false := by rfl) :
    FE X ca W (.Call (.Name x p) (e :: es) kws pos) (eCallK n ks.length ps.length Fn gD fa fk) := by
  obtain ⟨f, fd, F, h1, h2⟩ := d.ex
  exact fe_callK F (hr.mono hk) tk hg h1 h2.kp (hb h2) ha hkw hall hks hdb he hpl
/-- f(k = v, ..) -/
theorem fe_ak0 (d : DefA X.prog X.w X.K X.mg X.base ca k x st dd kd ps Fn) (hb : ∀ {f fd}, FD X.K x x st dd kd f fd → KB X.K ca fd ps 0 ks gD) (hr : Room j X.A) (tk : Takes X W) (hkw : FK X ca W kws fk) (hk : k ≤ j := by decide) (hg : Gl X x := by rfl)
    (hall : (backToKw pos (keywordEach kws X.env)).all (·.1.isSome) = true := by rfl) (hks : (backToKw pos (keywordEach kws X.env)).filterMap (·.1) = ks := by rfl) (hdb : (x == ("__debug__" : Str)) = false := by decide)
    (hpl : ((backTo pos (starEach [] X.env)).any (·.1) || (backToKw pos (keywordEach kws X.env)).any (·.1.isNone)) = false := by rfl) :
    FE X ca W (.Call (.Name x p) [] kws pos) (eCallK 0 ks.length ps.length Fn gD aN fk) := by
  obtain ⟨f, fd, F, h1, h2⟩ := d.ex
  obtain ⟨u, pk, ku⟩ := hkw.ex
  obtain ⟨g, gV, hbn, hgd⟩ := (hb h2).ex
  refine ⟨fun σ H Q => u σ H fun zs H2 => zs.length = ks.length ∧ spF X.K ca ps.length Fn (gV [] zs) H2 Q (WE W σ), ⟨fun pins s σ H Q I h => ?_⟩, fun B G H σ ρ Q s b r h => ?_⟩
  · refine wpAny_Call_Name_kw (ld_glob I hg h1 ?_ hdb)
    refine PySem.W.callWith_KW0 (h₀ := X.base) I.ok.mod.kin h2.kp hall (thn (pk.run pos pins s σ H _ I h) fun ws s2 ⟨zs, H2, I2, r2, l2, q2⟩ => ⟨I2.kIn, ?_⟩) hpl
    rw [hks]
    exact run_kb F (hr.mono hk) hbn (passAt tk σ) I2 .nil r2 rfl l2 q2
  · refine ku B G H σ ρ _ s b r (Wish.bind (show Wish X.K ca (SV X.K ca Q) G H ((fk ρ).bind fun zs => if ([] : List D).length = 0 ∧ zs.length = ks.length ∧ (gD [] zs).length = ps.length then Fn (gD [] zs) else .bad) (WE W σ) from h) fun zs G2 H2 _ x2 w2 ws a2 => ?_)
    split at w2
    · rename_i hl
      have a3 := hgd G2 [] [] zs ws rfl a2
      exact ⟨by rw [← a2.length]; exact hl.2.1, by rw [← a3.length]; exact hl.2.2, G2, _, x2.gh, a3, w2⟩
    · exact w2.elim
end
/-! ### the head's facts -/
def kwD (kd : List (Str × He.Dv)) : List (Str × V) := kd.map fun q => (q.1, q.2.v [])
structure Says (fa : List He.Fa) (fn : List He.DefD) (K : PySem.W.Frag) (mg : Str → Option Value) : Prop where
  h : ∃ hp : Heap, K.In hp ∧ hp.Ns mainGlobals mg
  c : He.SaysD fa fn K
def dvD : D → He.Dv
  | .non => .non
  | .bl b => .bl b
  | .int i => .int i
  | .str s => .str s
  | _ => .non
/-- a def's data, as the head reads it -/
def dfD (p : Str × Option Str) (x qual : Str) (st : Stmt) (dd : List D) (kd : List (Str × D)) : He.DefD := ⟨p, x, qual, defArgs st, defBody st, defScope st, dd.map dvD, kd.map fun q => (q.1, dvD q.2)⟩
theorem dv_eq {K : PySem.W.Frag} {d : D} (h : flatD d = true) : (dvD d).v K = toV d := by
  cases d <;> first | rfl | cases h
section
variable {fa : List He.Fa} {fn : List He.DefD} {K : PySem.W.Frag} {mg : Str → Option Value} {x : Str} {st : Stmt} {dd : List D} {kd : List (Str × D)}
theorem Says.fd (T : Says fa fn K mg) (i : Nat) {p : Str × Option Str} {q : Str} (hi : fn[i]? = some (dfD p x q st dd kd)) (h1 : dd.all flatD = true) (h2 : (kd.map (·.2)).all flatD = true) : ∃ fd, FD K x q st dd kd (He.fAd K p) fd := by
  obtain ⟨fd, F⟩ := T.c.def_ i hi
  have e1 : He.DefD.dvs K (dfD p x q st dd kd) = dd.map toV := by
    show (dd.map dvD).map (He.Dv.v K) = _
    rw [List.map_map]
    exact List.map_congr_left fun d m => dv_eq (List.all_eq_true.mp h1 d m)
  have e2 : He.DefD.kws K (dfD p x q st dd kd) = kwV kd := by
    show (kd.map fun q => (q.1, dvD q.2)).map (fun q => (q.1, q.2.v K)) = _
    rw [List.map_map]
    refine List.map_congr_left fun d m => ?_
    show (d.1, (dvD d.2).v K) = (d.1, toV d.2)
    rw [dv_eq (List.all_eq_true.mp h2 d.2 (List.mem_map.mpr ⟨d, m, rfl⟩))]
  rw [e1, e2] at F
  exact ⟨fd, F⟩
/-- the module's def x: its fact by place j, its data by place i -/
theorem Says.dfn (T : Says fa fn K mg) (j i : Nat) (hj : fa[j]? = some (.glo x) := by rfl) (hi : fn[i]? = some (dfD (x, none) x x st dd kd) := by rfl) (h1 : dd.all flatD = true := by rfl) (h2 : (kd.map (·.2)).all flatD = true := by rfl) : FnAt K mg x st dd kd := by
  obtain ⟨hp, X, G⟩ := T.h
  obtain ⟨fd, F⟩ := T.fd i hi h1 h2
  exact ⟨He.fAd K (x, none), fd, F, He.glo_ok X G (T.c.fact j hj)⟩
theorem Says.free (T : Says fa fn K mg) (j : Nat) (hj : fa[j]? = some (.free x) := by rfl) : mg x = none := by
  obtain ⟨hp, X, G⟩ := T.h
  exact He.free_ok X G (T.c.fact j hj)
theorem Says.int (T : Says fa fn K mg) (j : Nat) {i : Int} (hj : fa[j]? = some (.int x i) := by rfl) : Glb mg x (.int i) := by
  obtain ⟨hp, X, G⟩ := T.h
  obtain ⟨t, h⟩ := He.int_ok X G (T.c.fact j hj)
  exact ⟨_, h, ⟨t, rfl⟩, rfl⟩
theorem Says.str (T : Says fa fn K mg) (j : Nat) {z : Str} (hj : fa[j]? = some (.str x z) := by rfl) : Glb mg x (.str z) := by
  obtain ⟨hp, X, G⟩ := T.h
  obtain ⟨t, h⟩ := He.str_ok X G (T.c.fact j hj)
  exact ⟨_, h, ⟨t, rfl⟩, rfl⟩
end
/-- the facts about built-ins: the first of a list -/
def faB : List He.Fa := [.free "len", .free "abs", .free "int", .free "list", .free "tuple", .free "min", .free "max", .free "sum", .free "all", .free "any", .free "sorted", .free "isinstance", .free "range", .free "enumerate", .free "zip", .free "bool", .free "str", .free "dict"]
theorem Says.bt {fa : List He.Fa} {fn : List He.DefD} {K : PySem.W.Frag} {mg : Str → Option Value} (T : Says (faB ++ fa) fn K mg) : BT mg :=
  ⟨T.free 0, T.free 1, T.free 2, T.free 3, T.free 4, T.free 5, T.free 6, T.free 7, T.free 8, T.free 9, T.free 10, T.free 11, T.free 12, T.free 13, T.free 14, T.free 15, T.free 16, T.free 17⟩
end Tk

namespace Tk
open PySem PySem.Spec L2 PyProof.Rows
/-! ### own lists changed by their methods -/
/-- what a method does with an own list, by data; its value is none -/
def MutR (K : PySem.W.Frag) (ca : Cn) (r : V → List V → Hp → VK → Prop) (g : List D → List D → Option (List D)) : Prop :=
  ∀ (G H : Hp) (l : Addr) (xs ds xs' : List D) (vs ys : List V) (Q : VK), Same G H → H l = some (.lst vs) → AtL K ca G xs vs → AtL K ca G ds ys → g xs ds = some xs' → (∀ vs', AtL K ca G xs' vs' → Q .non (upd H l (.lst vs'))) → r (.ref l) ys H Q
def sMut (i : Nat) (g : List D → List D → Option (List D)) (fl : Ev → R (List D)) : Ev → SO := fun ρ => SO.from ρ (ownL ρ i) fun xs => SO.from ρ (fl ρ) fun ds => match g xs ds with
  | some xs' => .nx (ρ.set i (.l xs'))
  | none => .bad
def mRev (xs : List D) (ds : List D) : Option (List D) := match ds with
  | [] => some xs.reverse
  | _ => none
def mClr (_ : List D) (ds : List D) : Option (List D) := match ds with
  | [] => some []
  | _ => none
def mIns (xs : List D) (ds : List D) : Option (List D) := match ds with
  | [.int i, d] => if xs.length < sizeLine ∧ 0 ≤ i ∧ i < 2 ^ 63 then some (xs.take i.toNat ++ [d] ++ xs.drop i.toNat) else none
  | _ => none
def mExt (xs : List D) (ds : List D) : Option (List D) := match ds with
  | [.lst ys] => if xs.length + ys.length ≤ sizeLine then some (xs ++ ys) else none
  | _ => none
theorem mut_rev {K : PySem.W.Frag} {ca : Cn} : MutR K ca rReverse mRev := fun G H l xs ds xs' vs ys Q s h a b e q => by
  unfold mRev at e
  split at e
  · cases e; cases b; exact ⟨l, vs, rfl, rfl, h, q _ a.reverse⟩
  · cases e
theorem mut_clr {K : PySem.W.Frag} {ca : Cn} : MutR K ca rClear mClr := fun G H l xs ds xs' vs ys Q s h a b e q => by
  unfold mClr at e
  split at e
  · cases e; cases b; exact ⟨l, vs, rfl, rfl, h, q [] rfl⟩
  · cases e
theorem mut_ext {K : PySem.W.Frag} {ca : Cn} : MutR K ca rExtend mExt := fun G H l xs ds xs' vs ys Q s h a b e q => by
  unfold mExt at e
  split at e
  · split at e
    · rename_i hl
      cases e
      obtain ⟨v, rfl, p, ws, rfl, h1, h2⟩ := atl1 b
      exact ⟨l, p, vs, ws, rfl, rfl, h, s _ _ h1, by rw [← a.length, ← h2.length]; exact hl, q _ (a.append h2)⟩
    · cases e
  · cases e
abbrev rInsert : V → List V → Hp → VK → Prop := fun x vs H Q => ∃ (l : Addr) (xs : List V) (i : Int) (y : V), x = .ref l ∧ vs = [.int i, y] ∧ H l = some (.lst xs) ∧ xs.length < sizeLine ∧ 0 ≤ i ∧ i < 2 ^ 63 ∧
    Q .non (upd H l (.lst (xs.take i.toNat ++ [y] ++ xs.drop i.toNat)))
theorem mut_ins {K : PySem.W.Frag} {ca : Cn} : MutR K ca rInsert mIns := fun G H l xs ds xs' vs ys Q s h a b e q => by
  unfold mIns at e
  split at e
  · split at e
    · rename_i hl
      cases e
      obtain ⟨v, w, rfl, b1, b2⟩ := atl2 b
      cases b1
      exact ⟨l, vs, _, w, rfl, rfl, h, by rw [← a.length]; exact hl.1, hl.2.1, hl.2.2, q _ (((a.take _).append (.one b2)).append (a.drop _))⟩
    · cases e
  · cases e
section
variable {X : Cx} {ca : Cn} {W : WX} {e : Expr} {es : List Expr} {fl : Ev → R (List D)} {pos apos cpos py : Pos} {i : Nat} {y m : Str} {id : String} {r : V → List V → Hp → VK → Prop} {g : List D → List D → Option (List D)}
theorem fs_mut (slot : Slot "list" m id) (hty : typeOf (.builtin id) = pure (.type "method_descriptor")) (hm : MtR X id r) (hg : MutR X.K ca r g) (hi : X.N[i]? = some y) (h : FA X ca W (e :: es) fl)
    (hv : Vis X.env.scope y := by first | exact Or.inl rfl | exact Or.inr (Or.inl rfl) | exact Or.inr (Or.inr rfl)) (hd : (y == ("__debug__" : Str)) = false := by decide) (hcd : (y == ("__classdict__" : Str)) = false := by decide)
    (he : starEach (e :: es) X.env = (false, eval e X.env) :: starEach es X.env := by rfl) (hb : attributeBase (.Name y py) m X.env (eval (.Name y py) X.env) = eval (.Name y py) X.env := by rfl) (hw : ((backTo cpos (starEach (e :: es) X.env)).all (fun x => !x.1) && (backToKw cpos (keywordEach [] X.env)).all (fun x => x.1.isSome) && decide ((e :: es).length + ([] : List Keyword).length + (if ([] : List Keyword).isEmpty then 0 else 1) < 30)) = true := by rfl)
    (hl : (apos.endLine == cpos.line) = true := by rfl) (hpl : (backTo cpos (starEach es X.env)).any (·.1) = false := by rfl)
    (hs : swapsWith (.Call (.Attribute (.Name y py) m apos) (e :: es) [] cpos) none pos.line X.env = pure false := by rfl) : FS X ca W (.Expr (.Call (.Attribute (.Name y py) m apos) (e :: es) [] cpos) pos) (sMut i g fl) := by
  obtain ⟨t, p, k⟩ := h.ex
  refine ⟨_, ps_expr (pe_bm PySem.F.plainAttrs_list slot hty hm (pe_var hi hv hd hcd) p hb hw hl he hpl) hs, fun B G H σ ρ D s b r h => ?_⟩
  unfold sMut at h
  cases z : ownL ρ i with
  | ok xs =>
    rw [z] at h
    obtain ⟨q, a, vs, h1, h2, h3, h4, h5⟩ := own_l z r
    refine ⟨_, h1, .inl ⟨rfl, vs, .of h2⟩, k B G H σ ρ _ s b r (WishS.from h b r fun ds G1 H1 _ x w r1 b1 v av => ?_)⟩
    split at w
    · rename_i xs' hx
      refine hg G1 H1 a xs ds xs' vs v _ x.gh (x.hh _ _ h2) (AtL.mono x.gg h3) av hx fun vs' a' => ?_
      obtain ⟨t1, t2, t3⟩ := r1.turn x.gh b1 (t' := .l xs') (o := .lst vs') q rfl rfl h1 ⟨_, upd_same, a'⟩
      exact w _ G1 _ ⟨.refl _, t2, t3, fun c z => .inl z⟩ t1
    · exact w.elim
  | exc x => unfold ownL at z; split at z <;> cases z
  | bad => rw [z] at h; exact h.elim
theorem fs_mut0 (slot : Slot "list" m id) (hty : typeOf (.builtin id) = pure (.type "method_descriptor")) (hm : MtR X id r) (hg : MutR X.K ca r g) (hi : X.N[i]? = some y)
    (hv : Vis X.env.scope y := by first | exact Or.inl rfl | exact Or.inr (Or.inl rfl) | exact Or.inr (Or.inr rfl)) (hd : (y == ("__debug__" : Str)) = false := by decide) (hcd : (y == ("__classdict__" : Str)) = false := by decide)
    (hb : attributeBase (.Name y py) m X.env (eval (.Name y py) X.env) = eval (.Name y py) X.env := by rfl) (hl : (apos.endLine == cpos.line) = true := by rfl)
    (hs : swapsWith (.Call (.Attribute (.Name y py) m apos) [] [] cpos) none pos.line X.env = pure false := by rfl) : FS X ca W (.Expr (.Call (.Attribute (.Name y py) m apos) [] [] cpos) pos) (sMut i g aN) := by
  refine ⟨_, ps_expr (pe_bm0 PySem.F.plainAttrs_list slot hty hm (pe_var hi hv hd hcd) hb hl) hs, fun B G H σ ρ D s b r h => ?_⟩
  unfold sMut at h
  cases z : ownL ρ i with
  | ok xs =>
    rw [z] at h
    obtain ⟨q, a, vs, h1, h2, h3, h4, h5⟩ := own_l z r
    refine ⟨_, h1, .inl ⟨rfl, vs, .of h2⟩, ?_⟩
    have w : WishS X.K ca B G (match g xs [] with | some xs' => .nx (ρ.set i (.l xs')) | none => .bad) D W := h
    split at w
    · rename_i xs' hx
      refine hg G H a xs [] xs' vs [] _ s h2 h3 rfl hx fun vs' a' => ?_
      obtain ⟨t1, t2, t3⟩ := r.turn s b (t' := .l xs') (o := .lst vs') q rfl rfl h1 ⟨_, upd_same, a'⟩
      exact w _ G _ ⟨.refl _, t2, t3, fun c z => .inl z⟩ t1
    · exact w.elim
  | exc x => unfold ownL at z; split at z <;> cases z
  | bad => rw [z] at h; exact h.elim
end
/-- x.pop(), its value let go -/
def mPop (xs : List D) (ds : List D) : Option (List D) := match ds with
  | [] => if xs.length = 0 then none else some xs.dropLast
  | _ => none
abbrev rPopD : V → List V → Hp → VK → Prop := rPop
def sPop (i : Nat) : Ev → SO := fun ρ => SO.from ρ (ownL ρ i) fun xs => if xs.length = 0 then .bad else .nx (ρ.set i (.l xs.dropLast))
theorem AtL.dropLast {K : PySem.W.Frag} {ca : Cn} {G : Hp} : ∀ {ds : List D} {vs : List V}, AtL K ca G ds vs → AtL K ca G ds.dropLast vs.dropLast
  | ds, vs, h => by rw [List.dropLast_eq_take, List.dropLast_eq_take, ← h.length]; exact h.take _
theorem fs_pop {X : Cx} {ca : Cn} {W : WX} {pos apos cpos py : Pos} {i : Nat} {y : Str} (hi : X.N[i]? = some y)
    (hv : Vis X.env.scope y := by first | exact Or.inl rfl | exact Or.inr (Or.inl rfl) | exact Or.inr (Or.inr rfl)) (hd : (y == ("__debug__" : Str)) = false := by decide) (hcd : (y == ("__classdict__" : Str)) = false := by decide)
    (hb : attributeBase (.Name y py) "pop" X.env (eval (.Name y py) X.env) = eval (.Name y py) X.env := by rfl) (hl : (apos.endLine == cpos.line) = true := by rfl)
    (hs : swapsWith (.Call (.Attribute (.Name y py) "pop" apos) [] [] cpos) none pos.line X.env = pure false := by rfl) : FS X ca W (.Expr (.Call (.Attribute (.Name y py) "pop" apos) [] [] cpos) pos) (sPop i) := by
  refine ⟨_, ps_expr (pe_bm0 PySem.F.plainAttrs_list PySem.F.slot_list_pop PySem.F.type_list_pop mt_pop (pe_var hi hv hd hcd) hb hl) hs, fun B G H σ ρ D s b r h => ?_⟩
  unfold sPop at h
  cases z : ownL ρ i with
  | ok xs =>
    rw [z] at h
    obtain ⟨q, a, vs, h1, h2, h3, h4, h5⟩ := own_l z r
    refine ⟨_, h1, .inl ⟨rfl, vs, .of h2⟩, ?_⟩
    have w : WishS X.K ca B G (if xs.length = 0 then .bad else .nx (ρ.set i (.l xs.dropLast))) D W := h
    split at w
    · exact w.elim
    · rename_i hx
      have hl := h3.length
      refine ⟨a, vs, vs[vs.length - 1], rfl, rfl, h2, List.getElem?_eq_getElem (by omega), ?_⟩
      obtain ⟨t1, t2, t3⟩ := r.turn s b (t' := .l xs.dropLast) (o := .lst vs.dropLast) q rfl rfl h1 ⟨_, upd_same, h3.dropLast⟩
      exact w _ G _ ⟨.refl _, t2, t3, fun c z => .inl z⟩ t1
  | exc x => unfold ownL at z; split at z <;> cases z
  | bad => rw [z] at h; exact h.elim
end Tk
namespace Tk
open PySem PySem.Spec L2 PyProof.Rows
theorem hu64 {A : Around} {k : Nat} (hr : Room k A) : A.units + 64 < cLine := by have := hr.un; omega
theorem hu65 {A : Around} {k : Nat} (hr : Room k A) : A.units + 65 < cLine := by have := hr.un; omega
end Tk

namespace Tk
open PySem PySem.Spec L2 PyProof.Rows
/-! ### dicts: by data -/
def keyD : D → Option Key
  | .int i => some (.inl i)
  | .str z => some (.inr z)
  | _ => none
def keysD : List D → Option (List Key)
  | [] => some []
  | d :: r => match keyD d, keysD r with
    | some k, some ks => some (k :: ks)
    | _, _ => none
/-- a tuple of keys -/
def keyT : D → Option (List Key)
  | .tup (d :: r) => keysD (d :: r)
  | _ => none
def getG {κ α : Type} [DecidableEq κ] (kvs : List (κ × α)) (k : κ) : Option α := (kvs.find? fun kv => decide (kv.1 = k)).map (·.2)
def putG {κ α : Type} [DecidableEq κ] (kvs : List (κ × α)) (k : κ) (v : α) : List (κ × α) :=
  if (kvs.any fun kv => decide (kv.1 = k)) = true then kvs.map (fun kv => if kv.1 = k then (kv.1, v) else kv) else kvs ++ [(k, v)]
def gIxA : D → D → R D
  | .dK kvs, d => (optR (keyD d)).bind fun k => optR (getG kvs k)
  | .dT kvs, d => (optR (keyT d)).bind fun k => optR (getG kvs k)
  | a, b => gIx a b
section
variable {K : PySem.W.Frag} {ca : Cn} {G : Hp}
theorem key_at {d : D} {v : V} {k : Key} (a : At K ca G d v) (e : keyD d = some k) : v = kV k := by
  cases d with
  | int i => cases e; cases a; rfl
  | str i => cases e; cases a; rfl
  | _ => cases e
theorem keys_at : ∀ {ds : List D} {vs : List V} {ks : List Key}, AtL K ca G ds vs → keysD ds = some ks → vs = ks.map kV
  | [], _, _, a, e => by cases a; cases e; rfl
  | d :: r, _, ks, a, e => by
    obtain ⟨v, vs, rfl, a1, a2⟩ := a
    unfold keysD at e
    cases z1 : keyD d with
    | none => rw [z1] at e; cases e
    | some k =>
      cases z2 : keysD r with
      | none => rw [z1, z2] at e; cases e
      | some ks' =>
        rw [z1, z2] at e
        cases e
        rw [key_at a1 z1, keys_at a2 z2]
        rfl
theorem AtK.get : ∀ {kvs : List (Key × D)} {vs : List (Key × V)} (k : Key), AtK K ca G kvs vs → match getG kvs k with
    | some d => ∃ v, valV vs k = some v ∧ At K ca G d v
    | none => valV vs k = none
  | [], _, k, h => by cases h; rfl
  | (k', d) :: kvs, _, k, ⟨v, r, e, h, t⟩ => by
    subst e
    unfold getG valV
    rw [List.find?_cons, List.find?_cons]
    by_cases z : k' = k
    · simp only [z, decide_true]
      exact ⟨v, rfl, h⟩
    · simp only [z, decide_false]
      exact AtK.get k t
theorem AtT.get : ∀ {kvs : List (List Key × D)} {vs : List (List Key × V)} (k : List Key), AtT K ca G kvs vs → match getG kvs k with
    | some d => ∃ v, valV vs k = some v ∧ At K ca G d v
    | none => valV vs k = none
  | [], _, k, h => by cases h; rfl
  | (k', d) :: kvs, _, k, ⟨v, r, e, h, t⟩ => by
    subst e
    unfold getG valV
    rw [List.find?_cons, List.find?_cons]
    by_cases z : k' = k
    · simp only [z, decide_true]
      exact ⟨v, rfl, h⟩
    · simp only [z, decide_false]
      exact AtT.get k t
theorem AtK.any : ∀ {kvs : List (Key × D)} {vs : List (Key × V)} (k : Key), AtK K ca G kvs vs → (kvs.any fun kv => decide (kv.1 = k)) = (vs.any fun kv => decide (kv.1 = k))
  | [], _, k, h => by cases h; rfl
  | (k', d) :: kvs, _, k, ⟨v, r, e, h, t⟩ => by subst e; rw [List.any_cons, List.any_cons, AtK.any k t]
theorem AtK.app : ∀ {kvs kws : List (Key × D)} {vs ws : List (Key × V)}, AtK K ca G kvs vs → AtK K ca G kws ws → AtK K ca G (kvs ++ kws) (vs ++ ws)
  | [], _, _, _, h, h' => by cases h; exact h'
  | (_, _) :: _, _, _, _, ⟨v, r, e, h, t⟩, h' => by subst e; exact ⟨v, _, rfl, h, AtK.app t h'⟩
theorem AtK.upd1 : ∀ {kvs : List (Key × D)} {vs : List (Key × V)} {k : Key} {d : D} {v : V}, AtK K ca G kvs vs → At K ca G d v → AtK K ca G (kvs.map fun kv => if kv.1 = k then (kv.1, d) else kv) (vs.map fun kv => if kv.1 = k then (kv.1, v) else kv)
  | [], _, k, d, v, h, a => by cases h; rfl
  | (k', d') :: kvs, _, k, d, v, ⟨v', r, e, h, t⟩, a => by
    subst e
    rw [List.map_cons, List.map_cons]
    have ih := AtK.upd1 (k := k) t a
    by_cases z : k' = k
    · rw [if_pos z, if_pos z]; exact ⟨v, _, rfl, a, ih⟩
    · rw [if_neg z, if_neg z]; exact ⟨v', _, rfl, h, ih⟩
theorem AtK.put {kvs : List (Key × D)} {vs : List (Key × V)} {k : Key} {d : D} {v : V} (h : AtK K ca G kvs vs) (a : At K ca G d v) : AtK K ca G (putG kvs k d) (putK vs k v) := by
  unfold putG putK
  rw [h.any k]
  split
  · exact h.upd1 a
  · exact h.app ⟨v, [], rfl, a, rfl⟩
theorem AtK.length : ∀ {kvs : List (Key × D)} {vs : List (Key × V)}, AtK K ca G kvs vs → kvs.length = vs.length
  | [], _, h => by cases h; rfl
  | (_, _) :: _, _, ⟨v, r, e, h, t⟩ => by subst e; rw [List.length_cons, List.length_cons, AtK.length t]
end
def rDG : R2 := fun x y H Q => ∃ a v, x = .ref a ∧ DGet H a y (some v) ∧ Q v H
theorem ix_dget {X : Cx} (hu : X.A.units + 1 < cLine) : IxR X rDG := by
  intro value slice pins s σ H x y v u Q I rx ry h hs
  obtain ⟨a, z, rfl, g, q⟩ := h
  cases rx
  have hT := dict_typeIs I g
  unfold subscriptTail
  refine wpAny_bind ?_
  rw [getitemInPython_of_ne hT.not_modules]
  refine wpAny_bind (wpAny_specialOf hT PySem.F.slot_dict_getitem.lookup ?_)
  have fin : wpAny (model X.prog X.w) X.A (subscripted slice false (.ref a) u) (fun r s₃ => wpAny (model X.prog X.w) X.A (letTemporaryGo value (.ref a) r >>= fun _ => pure r) (EP X pins σ Q) X.xe s₃) X.xe s := by
    rw [hs]
    exact wpAny_operating (wpAny_mono (d_getItem (E := X.xe) (Q := EP X pins σ Q) hu I g ry fun w' s3 I3 rw' => ⟨z, H, I3, rw', q⟩) (fun r s₃ h₃ => wpAny_bind (wpAny_letTemporaryGo (wpAny_pure h₃))) fun _ _ x => x)
  first
    | exact wpAny_pure (wpAny_bind fin)
    | exact wpAny_bind (wpAny_pure (wpAny_bind fin))
    | exact wpAny_bind fin
section
variable {X : Cx} {ca : Cn} {W : WX} {a b e : Expr} {fa fb : Ev → R D} {pos : Pos}
theorem v2_ixA : V2 X ca (fun x y H Q => rIx X.K x y H Q ∨ rDG x y H Q) gIxA := by
  intro G H W1 x y d k Q s ax ay w
  unfold gIxA at w
  split at w
  · rename_i kvs
    obtain ⟨kk, e1, w⟩ := wish_opt w
    obtain ⟨p, vs, rfl, h1, h2⟩ := ax
    obtain ⟨z, e2, w⟩ := wish_opt' w
    have g := h2.get kk
    rw [e2] at g
    obtain ⟨v, g1, g2⟩ := g
    rw [key_at ay e1]
    refine .inr ⟨p, v, rfl, ?_, w.here s _ g2⟩
    rw [← g1]
    exact DGet.k (s _ _ h1)
  · rename_i kvs
    obtain ⟨kk, e1, w3⟩ := wish_opt w
    obtain ⟨p, vs, rfl, h1, h2⟩ := ax
    obtain ⟨z, e2, w4⟩ := wish_opt' w3
    have g := h2.get kk
    rw [e2] at g
    obtain ⟨v, g1, g2⟩ := g
    have fin : Q v H := w4.here s _ g2
    unfold keyT at e1
    split at e1
    · obtain ⟨q, ws, rfl, t1, t2⟩ := ay
      have e3 := keys_at t2 e1
      subst e3
      rcases t1 with t1 | ⟨t1, t3⟩
      · refine .inr ⟨p, v, rfl, ?_, fin⟩
        rw [← g1]
        exact DGet.t (s _ _ h1) (s _ _ t1)
      · have l := t2.length
        rw [t1] at l
        cases l
    · cases e1
  · exact .inl (v2_ix G H W1 x y d k Q s ax ay w)
theorem fe_ixA (hu : X.A.units + 65 < cLine) (hs : PlainIx b) (ha : FE X ca W a fa) (hb : FE X ca W b fb) : FE X ca W (.Subscript a b pos) (e2 gIxA fa fb) := by
  obtain ⟨ta, pa, ka⟩ := ha.ex
  obtain ⟨tb, pb, kb⟩ := hb.ex
  refine ⟨_, pe_ix (ix_seq.or (ix_dget (by omega))) pa pb hs, fun B G H σ ρ Q s b r h => ?_⟩
  refine ka B G H σ ρ _ s b r (Wish.bind h fun d G1 H1 _ x1 w1 v a1 => ?_)
  refine kb B G1 H1 σ ρ _ x1.gh (b.trans x1.hh) (r.ext x1) (Wish.bind w1 fun d2 G2 H2 _ x2 w2 v2 a2 => ?_)
  exact v2_ixA G2 H2 _ v v2 d d2 Q x2.gh (At.mono x2.gg a1) a2 w2
end
/-! ### xs.index(y), flat items -/
def idxD (y : D) : List D → Nat → Option Nat
  | [], _ => none
  | d :: r, j => if eqV (toV d) (toV y) = true then some j else idxD y r (j + 1)
def gIdx (xs : List D) : List D → R D
  | [y] => if flatD y = true ∧ xs.all flatD = true then (optR (idxD y xs 0)).bind fun j => .ok (.int (j : Int)) else .bad
  | _ => .bad
theorem flat_is {K : PySem.W.Frag} {ca : Cn} {G : Hp} {d : D} {v : V} (h : flatD d = true) (a : At K ca G d v) : v = toV d := by
  cases d with
  | non => exact a
  | bl _ => exact a
  | int _ => exact a
  | str _ => exact a
  | _ => cases h
theorem flats_is {K : PySem.W.Frag} {ca : Cn} {G : Hp} : ∀ {ds : List D} {vs : List V}, ds.all flatD = true → AtL K ca G ds vs → vs = ds.map toV
  | [], _, _, a => a
  | d :: r, _, h, ⟨v, vs, e, a1, a2⟩ => by
    subst e
    rw [List.all_cons, Bool.and_eq_true] at h
    rw [flat_is h.1 a1, flats_is h.2 a2]
    rfl
theorem flatV_toV {d : D} (h : flatD d = true) : flatV (toV d) = true := by
  cases d <;> first | rfl | cases h
theorem idx_is {y : D} : ∀ {xs : List D} {i j : Nat}, idxD y xs i = some j → i ≤ j ∧ (∃ z, (xs.map toV)[j - i]? = some z ∧ eqV z (toV y) = true) ∧ ∀ m z, m < j - i → (xs.map toV)[m]? = some z → eqV z (toV y) = false
  | [], _, _, e => by cases e
  | d :: r, i, j, e => by
    unfold idxD at e
    split at e
    · cases e
      exact ⟨Nat.le_refl _, ⟨toV d, by simp, by assumption⟩, fun m z hm => by omega⟩
    · rename_i ne
      obtain ⟨h1, ⟨z, h2, h3⟩, h4⟩ := idx_is e
      refine ⟨by omega, ⟨z, ?_, h3⟩, fun m z' hm hz => ?_⟩
      · rw [List.map_cons, show j - i = (j - (i + 1)) + 1 by omega, List.getElem?_cons_succ]; exact h2
      · cases m with
        | zero =>
          rw [List.map_cons, List.getElem?_cons_zero] at hz
          cases hz
          exact Bool.not_eq_true _ ▸ ne
        | succ m =>
          rw [List.map_cons, List.getElem?_cons_succ] at hz
          exact h4 m z' (by omega) hz
def lstD : D → Option (List D)
  | .lst xs => some xs
  | _ => none
def eMtL (g : List D → List D → R D) (fo : Ev → R D) (fl : Ev → R (List D)) : Ev → R D := fun ρ => (fo ρ).bind fun o => (optR (lstD o)).bind fun xs => (fl ρ).bind fun ds => g xs ds
section
variable {X : Cx} {ca : Cn} {W : WX} {o e : Expr} {es : List Expr} {fo : Ev → R D} {fl : Ev → R (List D)} {apos cpos : Pos}
theorem fe_index (ho : FE X ca W o fo) (h : FA X ca W (e :: es) fl)
    (he : starEach (e :: es) X.env = (false, eval e X.env) :: starEach es X.env := by rfl) (hb : attributeBase o "index" X.env (eval o X.env) = eval o X.env := by rfl) (hw : ((backTo cpos (starEach (e :: es) X.env)).all (fun x => !x.1) && (backToKw cpos (keywordEach [] X.env)).all (fun x => x.1.isSome) && decide ((e :: es).length + ([] : List Keyword).length + (if ([] : List Keyword).isEmpty then 0 else 1) < 30)) = true := by rfl)
    (hl : (apos.endLine == cpos.line) = true := by rfl) (hpl : (backTo cpos (starEach es X.env)).any (·.1) = false := by rfl) : FE X ca W (.Call (.Attribute o "index" apos) (e :: es) [] cpos) (eMtL gIdx fo fl) := by
  obtain ⟨to, po, ko⟩ := ho.ex
  obtain ⟨t, p, k⟩ := h.ex
  refine ⟨_, pe_bm PySem.F.plainAttrs_list PySem.F.slot_list_index PySem.F.type_list_index mt_index po p hb hw hl he hpl, fun B G H σ ρ Q s b r h => ?_⟩
  refine ko B G H σ ρ _ s b r (Wish.bind h fun d G1 H1 _ x1 w1 v a1 => ?_)
  obtain ⟨xs, ex, w1⟩ := wish_opt w1
  obtain rfl : d = .lst xs := by unfold lstD at ex; split at ex <;> cases ex; rfl
  obtain ⟨q, vs, rfl, h1, h2⟩ := a1
  refine ⟨.inl ⟨rfl, vs, .of (x1.gh _ _ h1)⟩, k B G1 H1 σ ρ _ x1.gh (b.trans x1.hh) (r.ext x1) (Wish.bind w1 fun ds G2 H2 _ x2 w2 ws a2 => ?_)⟩
  unfold gIdx at w2
  split at w2
  · rename_i y
    split at w2
    · rename_i hf
      obtain ⟨j, ej, w3⟩ := wish_opt w2
      obtain ⟨u, rfl, a3⟩ := atl1 a2
      have e2 := flats_is hf.2 (AtL.mono x2.gg h2)
      have e3 := flat_is hf.1 a3
      subst e2 e3
      obtain ⟨_, ⟨z, i2, i3⟩, i4⟩ := idx_is ej
      exact ⟨q, _, _, j, z, rfl, rfl, .of (x2.hh _ _ (x1.gh _ _ h1)), flatV_toV hf.1, by rw [List.all_map]; exact List.all_eq_true.mpr fun d m => flatV_toV (List.all_eq_true.mp hf.2 d m), i2, i3, fun m z' hm hz => i4 m z' hm hz, w3.here x2.gh _ rfl⟩
    · exact w2.elim
  · exact w2.elim
end
end Tk

namespace Tk
open PySem PySem.Spec L2 PyProof.Rows
/-! ### dict(zip(xs, ys)), lists and tuples alike -/
section
variable {prog : Program} {w : World} {A : Around} {E : Value → Shared → Prop} {s : Shared} {z TI TO T i1 i2 : Addr} {f : Bool} {oT : Obj} {fp1 fp2 : List Addr} {n1 n2 i : Nat} {P1 P2 : Nat → Value → Prop} {St1 St2 : Nat → Heap → Prop}
theorem heldD_item {Q : Value → Shared → Prop} (S : ZipSep2 z TI TO i1 i2 fp1 fp2) (D1 : Draws prog w A i1 fp1 n1 P1 St1) (D2 : Draws prog w A i2 fp2 n2 P2 St2) (hz : IsZipHeld s.heap z TI TO T f) (hT : s.heap.get? T = some oT) (hTI : IsTupOf2 s.heap TI (.ref i1) (.ref i2))
    (st1 : St1 i s.heap) (st2 : St2 i s.heap) (l1 : i < n1) (l2 : i < n2)
    (hQ : ∀ x y h' tk, P1 i x → P2 i y → IsZipHeld h' z TI TO T true → St1 (i + 1) h' → St2 (i + 1) h' → IsTupOf2 h' s.heap.objs.size x y → (∀ c o, c ≠ z → c ≠ i1 → c ≠ i2 → s.heap.get? c = some o → h'.get? c = some o) → Q (.ref s.heap.objs.size) { s with heap := h', toks := tk }) :
    wpAny (model prog w) A (Builtin.«zip.__next__» ⟨[.ref z], []⟩) (fun fin s' => ∃ v, fin = .done (.ret v) ∧ Q v s') E s := by
  obtain ⟨hp, g, d, tk0, os⟩ := s
  show wpAny _ _ (field (.ref z) 2 >>= _) _ _ _
  refine wpAny_bind (wpAny_field hz rfl (x := .bool false) rfl ?_)
  show wpAny _ _ (field (.ref z) 3 >>= _) _ _ _
  refine wpAny_bind (wpAny_field hz rfl (x := .ref TI) rfl ?_)
  refine wpAny_bind (wpAny_seqItems hTI rfl ?_)
  show wpAny _ _ (Builtin.SmallTypes.ownedTupleIsFree (.ref z) >>= _) _ _ _
  refine wpAny_bind (wpAny_tupleHeld_zip hz hT fun g0 hz0 hs0 => ?_)
  replace hs0 : Heap.SameBut z hp g0 := hs0
  simp only [Bool.false_eq_true, if_false]
  refine wpAny_bind ?_
  rw [← Array.forIn_toList]
  simp only [List.forIn_cons, List.forIn_nil]
  refine wpAny_bind (wpAny_bind (wpAny_holding ?_))
  show wpAny _ _ (Builtin.SmallTypes.nextOf (.ref i1) >>= _) _ _ ⟨g0, g, d, tk0, os⟩
  refine wpAny_bind (D1.item i ⟨g0, g, d, tk0, os⟩ _ _ l1 (D1.over st1 hs0 S.zf1) fun x p1 tk1 hx sn1 hp1 => wpAny_pure ?_)
  replace hp1 : Heap.SameBut i1 g0 p1 := hp1
  refine wpAny_pure ?_
  refine wpAny_bind (wpAny_bind (wpAny_holding ?_))
  show wpAny _ _ (Builtin.SmallTypes.nextOf (.ref i2) >>= _) _ _ ⟨p1, g, d, tk1, os⟩
  refine wpAny_bind (D2.item i ⟨p1, g, d, tk1, os⟩ _ _ l2 (D2.over (D2.over st2 hs0 S.zf2) hp1 S.sep1_2) fun y p2 tk2 hy sn2 hp2 => wpAny_pure ?_)
  replace hp2 : Heap.SameBut i2 p1 p2 := hp2
  refine wpAny_pure (wpAny_pure ?_)
  show wpAny _ _ (newTuple [x, y] >>= _) _ _ ⟨p2, g, d, tk2, os⟩
  refine wpAny_bind (wpAny_newTuple ?_)
  have hsz : p2.objs.size = hp.objs.size := by rw [hp2.1, hp1.1, hs0.1]
  have hz3 : IsZipHeld p2 z TI TO T true := hp2.extBut _ _ S.zi2 (hp1.extBut _ _ S.zi1 hz0)
  have hk : ∀ c o, c ≠ z → c ≠ i1 → c ≠ i2 → hp.get? c = some o → p2.get? c = some o := fun c o c1 c2 c3 e => hp2.extBut _ _ c3 (hp1.extBut _ _ c2 (hs0.extBut _ _ c1 e))
  have j1 : St1 (i + 1) p2 := D1.over sn1 hp2 S.sep2_1
  refine wpAny_pure ⟨_, rfl, ?_⟩
  show Q (.ref p2.objs.size) _
  have hpp : IsTupOf2 (p2.push { cls := .type "tuple", data := .seq #[x, y] }) p2.objs.size x y := Heap.get?_push_size _ rfl
  rw [hsz] at hpp ⊢
  exact hQ x y _ tk2 hx hy (Heap.get?_push_of_some _ hz3) (D1.frame _ _ _ j1 fun b hb o e => Heap.get?_push_of_some _ e) (D2.frame _ _ _ sn2 fun b hb o e => Heap.get?_push_of_some _ e) hpp fun c o c1 c2 c3 e => Heap.get?_push_of_some _ (hk c o c1 c2 c3 e)
theorem heldD_end {Q : Fin → Shared → Prop} (S : ZipSep2 z TI TO i1 i2 fp1 fp2) (D1 : Draws prog w A i1 fp1 n1 P1 St1) (D2 : Draws prog w A i2 fp2 n2 P2 St2) (hz : IsZipHeld s.heap z TI TO T f) (hT : s.heap.get? T = some oT) (hTI : IsTupOf2 s.heap TI (.ref i1) (.ref i2))
    (st1 : St1 i s.heap) (st2 : St2 i s.heap) (l1 : i ≤ n1) (l2 : i ≤ n2) (hend : i = n1 ∨ i = n2)
    (hE : ∀ h' tk e, (∀ c o, c ≠ z → c ≠ i1 → c ≠ i2 → s.heap.get? c = some o → h'.get? c = some o) → (∃ o, h'.get? e = some o ∧ o.cls = .type "StopIteration") → E (.ref e) { s with heap := h', toks := tk }) :
    wpAny (model prog w) A (Builtin.«zip.__next__» ⟨[.ref z], []⟩) Q E s := by
  obtain ⟨hp, g, d, tk0, os⟩ := s
  show wpAny _ _ (field (.ref z) 2 >>= _) _ _ _
  refine wpAny_bind (wpAny_field hz rfl (x := .bool false) rfl ?_)
  show wpAny _ _ (field (.ref z) 3 >>= _) _ _ _
  refine wpAny_bind (wpAny_field hz rfl (x := .ref TI) rfl ?_)
  refine wpAny_bind (wpAny_seqItems hTI rfl ?_)
  show wpAny _ _ (Builtin.SmallTypes.ownedTupleIsFree (.ref z) >>= _) _ _ _
  refine wpAny_bind (wpAny_tupleHeld_zip hz hT fun g0 hz0 hs0 => ?_)
  replace hs0 : Heap.SameBut z hp g0 := hs0
  simp only [Bool.false_eq_true, if_false]
  refine wpAny_bind ?_
  rw [← Array.forIn_toList]
  simp only [List.forIn_cons, List.forIn_nil]
  refine wpAny_bind (wpAny_bind (wpAny_holding ?_))
  show wpAny _ _ (Builtin.SmallTypes.nextOf (.ref i1) >>= _) _ _ ⟨g0, g, d, tk0, os⟩
  by_cases hlt : i < n1
  · refine wpAny_bind (D1.item i ⟨g0, g, d, tk0, os⟩ _ _ hlt (D1.over st1 hs0 S.zf1) fun x p1 tk1 hx sn1 hp1 => wpAny_pure ?_)
    replace hp1 : Heap.SameBut i1 g0 p1 := hp1
    refine wpAny_pure ?_
    refine wpAny_bind (wpAny_bind (wpAny_holding ?_))
    show wpAny _ _ (Builtin.SmallTypes.nextOf (.ref i2) >>= _) _ _ ⟨p1, g, d, tk1, os⟩
    have e2 : i = n2 := by omega
    refine wpAny_bind (D2.done ⟨p1, g, d, tk1, os⟩ _ _ (by rw [← e2]; exact D2.over (D2.over st2 hs0 S.zf2) hp1 S.sep1_2) fun q e hq he => ?_)
    exact hE q tk1 e (fun c o c1 c2 c3 x => hq _ _ c3 (hp1.extBut _ _ c2 (hs0.extBut _ _ c1 x))) he
  · have e1 : i = n1 := by omega
    refine wpAny_bind (D1.done ⟨g0, g, d, tk0, os⟩ _ _ (by rw [← e1]; exact D1.over st1 hs0 S.zf1) fun q e hq he => ?_)
    exact hE q tk0 e (fun c o c1 c2 c3 x => hq _ _ c2 (hs0.extBut _ _ c1 x)) he
theorem next_heldD_item {Q : Option Value → Shared → Prop} (S : ZipSep2 z TI TO i1 i2 fp1 fp2) (D1 : Draws prog w A.in1 i1 fp1 n1 P1 St1) (D2 : Draws prog w A.in1 i2 fp2 n2 P2 St2) (hz : IsZipHeld s.heap z TI TO T f) (hT : s.heap.get? T = some oT) (hTI : IsTupOf2 s.heap TI (.ref i1) (.ref i2))
    (st1 : St1 i s.heap) (st2 : St2 i s.heap) (l1 : i < n1) (l2 : i < n2)
    (hQ : ∀ x y h' tk, P1 i x → P2 i y → IsZipHeld h' z TI TO T true → St1 (i + 1) h' → St2 (i + 1) h' → IsTupOf2 h' s.heap.objs.size x y → (∀ c o, c ≠ z → c ≠ i1 → c ≠ i2 → s.heap.get? c = some o → h'.get? c = some o) → Q (some (.ref s.heap.objs.size)) { s with heap := h', toks := tk }) :
    wpAny (model prog w) A (pyNext (.ref z)) Q E s := by
  have ty : s.TypeIs (.ref z) "zip" := ⟨_, hz, rfl⟩
  unfold pyNext
  exact wpAny_bind (wpAny_attempt (wpAny_callSpecial?_slot (name := Str.ofString "__next__") ty F.slot_zip_next
    (wpAny_call_entry F.slot_zip_next ty F.entry_zip_next (heldD_item S D1 D2 hz hT hTI st1 st2 l1 l2 fun x y h' tk a1 a2 a3 a4 a5 a6 a7 => wpAny_pure (hQ x y h' tk a1 a2 a3 a4 a5 a6 a7)) (F.args_zip_next_1 _))))
theorem next_heldD_end {Q : Option Value → Shared → Prop} (S : ZipSep2 z TI TO i1 i2 fp1 fp2) (D1 : Draws prog w A.in1 i1 fp1 n1 P1 St1) (D2 : Draws prog w A.in1 i2 fp2 n2 P2 St2) (hz : IsZipHeld s.heap z TI TO T f) (hT : s.heap.get? T = some oT) (hTI : IsTupOf2 s.heap TI (.ref i1) (.ref i2))
    (st1 : St1 i s.heap) (st2 : St2 i s.heap) (l1 : i ≤ n1) (l2 : i ≤ n2) (hend : i = n1 ∨ i = n2)
    (hQ : ∀ h' tk, (∀ c o, c ≠ z → c ≠ i1 → c ≠ i2 → s.heap.get? c = some o → h'.get? c = some o) → Q none { s with heap := h', toks := tk }) : wpAny (model prog w) A (pyNext (.ref z)) Q E s := by
  have ty : s.TypeIs (.ref z) "zip" := ⟨_, hz, rfl⟩
  unfold pyNext
  refine wpAny_bind (wpAny_attempt (wpAny_callSpecial?_slot (name := Str.ofString "__next__") ty F.slot_zip_next
    (wpAny_call_entry F.slot_zip_next ty F.entry_zip_next (heldD_end S D1 D2 hz hT hTI st1 st2 l1 l2 hend fun h' tk e hk he => ?_) (F.args_zip_next_1 _))))
  obtain ⟨o, ho, hc⟩ := he
  exact wpAny_bind (wpAny_isInstance (T := "StopIteration") (b := true) ⟨o, ho, hc⟩ isSubtype_stop (wpAny_pure (hQ _ _ hk)))
end
theorem zipArgD {prog : Program} {w : World} {z TI TO i1 i2 : Addr} {fp1 fp2 : List Addr} {n1 n2 : Nat} {P1 P2 : Nat → Value → Prop} {St1 St2 : Nat → Heap → Prop} (S : ZipSep2 z TI TO i1 i2 fp1 fp2)
    (D1 : ∀ A : Around, A.handled = none → Draws prog w A i1 fp1 n1 P1 St1) (D2 : ∀ A : Around, A.handled = none → Draws prog w A i2 fp2 n2 P2 St2) (t1 : ∀ h, St1 0 h → ∀ b ∈ fp1, ∃ o, h.get? b = some o) (t2 : ∀ h, St2 0 h → ∀ b ∈ fp2, ∃ o, h.get? b = some o) :
    PairArg prog w "zip" z (z :: TI :: TO :: (fp1 ++ fp2)) [z, TO, i1, i2] (min n1 n2) (fun i k v => P1 i k ∧ P2 i v) (fun h => IsZip h z TI TO .none ∧ IsTupOf2 h TI (.ref i1) (.ref i2) ∧ (∃ a b, IsTupOf2 h TO a b) ∧ St1 0 h ∧ St2 0 h) where
  type := fun s ok => ⟨_, ok.1, rfl⟩
  notDict := by decide
  keep := fun h h' ok hk => by
    obtain ⟨a1, a2, ⟨u, v, a3⟩, a4, a5⟩ := ok
    have A0 : (callerA).handled = none := rfl
    exact ⟨hk _ _ a1, hk _ _ a2, ⟨u, v, hk _ _ a3⟩, (D1 _ A0).frame _ _ _ a4 fun b _ o e => hk _ _ e, (D2 _ A0).frame _ _ _ a5 fun b _ o e => hk _ _ e⟩
  there := fun h ok b hb => by
    obtain ⟨a1, a2, ⟨u, v, a3⟩, a4, a5⟩ := ok
    rcases List.mem_cons.mp hb with rfl | hb
    · exact ⟨_, a1⟩
    · rcases List.mem_cons.mp hb with rfl | hb
      · exact ⟨_, a2⟩
      · rcases List.mem_cons.mp hb with rfl | hb
        · exact ⟨_, a3⟩
        · exact (List.mem_append.mp hb).elim (t1 h a4 b) (t2 h a5 b)
  sub := fun b hb => by
    simp only [List.mem_cons, List.not_mem_nil, or_false] at hb
    have m1 := S.mem1
    have m2 := S.mem2
    rcases hb with rfl | rfl | rfl | rfl <;> simp [m1, m2]
  noKeys := fun A s Q E hA ok h => getAttrOr_miss_zip ok.1 rfl rfl rfl zip_no_keys (by decide +kernel) hA h
  iter := fun A s d Q E hA ok hd hdf h => by
    obtain ⟨hz, hTI, ⟨a, b, hTO⟩, s1, s2⟩ := ok
    have dz : d ≠ z := fun e => hdf (by rw [e]; simp)
    have dTI : d ≠ TI := fun e => hdf (by rw [e]; simp)
    have dTO : d ≠ TO := fun e => hdf (by rw [e]; simp)
    have d1 : ∀ b ∈ fp1, b ≠ d := fun b m e => hdf (by rw [← e]; simp [m])
    have d2 : ∀ b ∈ fp2, b ≠ d := fun b m e => hdf (by rw [← e]; simp [m])
    have A1 : A.in1.handled = none := hA
    have E1 := D1 A.in1 A1
    have E2 := D2 A.in1 A1
    refine wpAny_pyIter_zip hz (h z [z, TO, i1, i2] (fun i h => IsTupOf2 h TI (.ref i1) (.ref i2) ∧ St1 i h ∧ St2 i h ∧
      ((IsZip h z TI TO .none ∧ ∃ a b, IsTupOf2 h TO a b) ∨ ∃ T f oT, IsZipHeld h z TI TO T f ∧ h.get? T = some oT ∧ T ≠ z ∧ T ≠ i1 ∧ T ≠ i2 ∧ T ≠ d)) s.heap s.toks ?_ ⟨hTI, s1, s2, .inl ⟨hz, a, b, hTO⟩⟩ (fun _ _ e => e) fun b hb => .inl hb)
    exact {
      off := fun hm => by
        simp only [List.mem_cons, List.not_mem_nil, or_false] at hm
        rcases hm with e | e | e | e
        · exact dz e
        · exact dTO e
        · exact d1 _ S.mem1 e.symm
        · exact d2 _ S.mem2 e.symm
      frame := fun i h₁ h₂ st hk => by
        obtain ⟨b1, b2, b3, b4⟩ := st
        refine ⟨hk _ _ (Ne.symm dTI) b1, E1.frame _ _ _ b2 fun b m o e => hk _ _ (d1 b m) e, E2.frame _ _ _ b3 fun b m o e => hk _ _ (d2 b m) e, ?_⟩
        rcases b4 with ⟨c1, u, v, c2⟩ | ⟨T, f, oT, c1, c2, r1, r2, r3, r4⟩
        · exact .inl ⟨hk _ _ (Ne.symm dz) c1, u, v, hk _ _ (Ne.symm dTO) c2⟩
        · exact .inr ⟨T, f, oT, hk _ _ (Ne.symm dz) c1, hk _ _ r4 c2, r1, r2, r3, r4⟩
      item := fun i s₁ Q₁ E₁ hi st hds hQ => by
        obtain ⟨b1, b2, b3, b4⟩ := st
        have l1 : i < n1 := Nat.lt_of_lt_of_le hi (Nat.min_le_left ..)
        have l2 : i < n2 := Nat.lt_of_lt_of_le hi (Nat.min_le_right ..)
        have lt : ∀ {c o}, s₁.heap.get? c = some o → s₁.heap.objs.size ≠ c := fun e => Nat.ne_of_gt (Heap.lt_size e)
        have x1 : s₁.heap.objs.size ≠ i1 := let ⟨_, e⟩ := E1.live _ _ b2; lt e
        have x2 : s₁.heap.objs.size ≠ i2 := let ⟨_, e⟩ := E2.live _ _ b3; lt e
        rcases b4 with ⟨c1, u, v, c2⟩ | ⟨T, f, oT, c1, c2, r1, r2, r3, r4⟩
        · refine wpAny_pyNext_zipD2_item S E1 E2 c1 b1 c2 b2 b3 l1 l2 fun x y h' tk p1 p2 a1 a2 a3 a4 a5 a6 hk => ?_
          exact hQ s₁.heap.objs.size x y h' tk ⟨p1, p2⟩ (.inl ⟨_, a5, rfl, _, rfl⟩) ⟨hk _ _ S.TIz S.TITO S.TIi1 S.TIi2 b1, a3, a4, .inr ⟨s₁.heap.objs.size, false, _, a1, a5, lt c1, x1, x2, Nat.ne_of_gt hds⟩⟩
            fun c o hc e => hk c o (fun x => hc (by simp [x])) (fun x => hc (by simp [x])) (fun x => hc (by simp [x])) (fun x => hc (by simp [x])) e
        · refine next_heldD_item S E1 E2 c1 c2 b1 b2 b3 l1 l2 fun x y h' tk p1 p2 a1 a3 a4 a5 hk => ?_
          exact hQ s₁.heap.objs.size x y h' tk ⟨p1, p2⟩ (.inl ⟨_, a5, rfl, _, rfl⟩) ⟨hk _ _ S.TIz S.TIi1 S.TIi2 b1, a3, a4, .inr ⟨T, true, oT, a1, hk _ _ r1 r2 r3 c2, r1, r2, r3, r4⟩⟩
            fun c o hc e => hk c o (fun x => hc (by simp [x])) (fun x => hc (by simp [x])) (fun x => hc (by simp [x])) e
      done := fun s₁ Q₁ E₁ st hQ => by
        obtain ⟨b1, b2, b3, b4⟩ := st
        have l1 : min n1 n2 ≤ n1 := Nat.min_le_left ..
        have l2 : min n1 n2 ≤ n2 := Nat.min_le_right ..
        have hend : min n1 n2 = n1 ∨ min n1 n2 = n2 := by omega
        rcases b4 with ⟨c1, u, v, c2⟩ | ⟨T, f, oT, c1, c2, r1, r2, r3, r4⟩
        · exact wpAny_pyNext_zipD2_end S E1 E2 c1 b1 c2 b2 b3 l1 l2 hend fun h' tk hk => hQ h' tk fun c o hc e => hk c o (fun x => hc (by simp [x])) (fun x => hc (by simp [x])) (fun x => hc (by simp [x])) (fun x => hc (by simp [x])) e
        · exact next_heldD_end S E1 E2 c1 c2 b1 b2 b3 l1 l2 hend fun h' tk hk => hQ h' tk fun c o hc e => hk c o (fun x => hc (by simp [x])) (fun x => hc (by simp [x])) (fun x => hc (by simp [x])) e }
theorem kv_zip : ∀ {ks : List Key} {ys : List V} {vs : List Value}, Vals ys vs → KV (ks.zip ys) (ks.zip vs)
  | [], _, _, _ => .nil
  | _ :: _, _, _, .nil => .nil
  | k :: ks, _, _, .cons r t => .cons ⟨rfl, r⟩ (kv_zip t)
theorem isB_there {b : Bool} {h : Heap} {a : Addr} {items : Array Value} (x : IsB b h a items) : ∃ o, h.get? a = some o := by
  cases b with
  | false => obtain ⟨o, e, _⟩ := x; exact ⟨o, e⟩
  | true => obtain ⟨o, e, _⟩ := x; exact ⟨o, e⟩
theorem sqB_len {b : Bool} {X : Cx} {pins : List (Addr × Obj)} {σ : L2.St} {H : Hp} {s : Shared} {a : Addr} {xs : List V} (I : Inv X pins σ H s) (q : SqB b X.K H a xs) : xs.length ≤ sizeLine := by
  cases b with
  | false => obtain ⟨its, r, p, z⟩ := I.list q; exact z
  | true => obtain ⟨its, r, p, z⟩ := I.tuple q; exact z
def wDz (b c : Bool) (K : PySem.W.Frag) (ta : TA) : TE := fun σ H Q => ta σ H fun vs H1 => ∃ (a1 a2 : Addr) (ks : List Key) (ys : List V), vs = [.ref a1, .ref a2] ∧ SqB b K H1 a1 (ks.map kV) ∧ SqB c K H1 a2 ys ∧ ∀ p, H1 p = none → Q (.ref p) (upd H1 p (.dK (mergeK [] (ks.zip ys))))
theorem pe_dz {X : Cx} (b c : Bool) {e e' : Expr} {ta : TA} {p p2 pos pos2 : Pos} (hc : X.calm = true) (hg : Gl X "zip") (hm : X.mg "zip" = none) (hg2 : Gl X "dict") (hm2 : X.mg "dict" = none) (ha : PA X [e, e'] ta)
    (hs2 : starEach [.Call (.Name "zip" p) [e, e'] [] pos] X.env = [(false, eval (.Call (.Name "zip" p) [e, e'] [] pos) X.env)] := by rfl) (hs : starEach [e, e'] X.env = (false, eval e X.env) :: starEach [e'] X.env := by rfl) (hpl : (backTo pos (starEach [e'] X.env)).any (·.1) = false := by rfl) :
    PE X (.Call (.Name "dict" p2) [.Call (.Name "zip" p) [e, e'] [] pos] [] pos2) (wDz b c X.K ta) := by
  refine ⟨fun pins s σ H Q I h => ?_⟩
  refine Call_ (ld_blt I hg2 hm2 bb_dict (PyProof.Rows.callWith_type1 ?_ hs2 rfl))
  rw [hs2]
  show wpAny _ _ (spliced ((false, eval (.Call (.Name "zip" p) [e, e'] [] pos) X.env) :: [])) _ _ s
  refine Calls.spliced_cons (Call_ (ld_blt I hg hm boot_zip (PyProof.Rows.callWith_type1 (thn (ha.run pos pins s σ H _ I h) fun us s1 ⟨vs, H1, I1, r1, a1, a2, ks, ys, ex, q1, q2, q⟩ => ?_) hs hpl)))
  subst ex
  obtain ⟨u, v, rfl, ru, rv⟩ := vals2 r1
  obtain rfl : u = Value.ref a1 := ru
  obtain rfl : v = Value.ref a2 := rv
  obtain ⟨us, ku, ib1⟩ := inv_sq I1 q1
  obtain ⟨vs, kv, ib2⟩ := inv_sq I1 q2
  have z1 := sqB_len I1 q1
  have z2 := sqB_len I1 q2
  refine zip_begins2 (beginsB b a1 us.toArray) (beginsB c a2 vs.toArray) ib1 ib2 fun h' hz ht ho g1 g2 hsz kp => Calls.spliced_nil ?_
  have I2 : Inv X pins σ H1 { s1 with heap := h' } := I1.kept (t' := s1.toks) kp
  obtain ⟨o1, e1⟩ := isB_there ib1
  obtain ⟨o2, e2⟩ := isB_there ib2
  have l1 : a1 < s1.heap.objs.size := Heap.lt_size e1
  have l2 : a2 < s1.heap.objs.size := Heap.lt_size e2
  have S := zip_sep2 (N := s1.heap.objs.size) (fp1 := [a1]) (fp2 := [a2]) (fun b m => by rw [List.mem_singleton.mp m]; exact l1) (fun b m => by rw [List.mem_singleton.mp m]; exact l2)
  have P := zipArgD (prog := X.prog) (w := X.w) S (fun A hA => drawsB (P := X.prog) (w := X.w) (A := A) hA b s1.heap.objs.size a1 (Nat.ne_of_lt l1) us.toArray)
    (fun A hA => drawsB (P := X.prog) (w := X.w) (A := A) hA c (s1.heap.objs.size + 1) a2 (Nat.ne_of_lt (Nat.lt_succ_of_lt l2)) vs.toArray)
    (fun h st d m => by
      rcases List.mem_cons.mp m with z | m
      · rw [z]; obtain ⟨o, e, _⟩ := st.1.there; exact ⟨o, e⟩
      · rw [List.mem_singleton.mp m]; exact isB_there st.2)
    (fun h st d m => by
      rcases List.mem_cons.mp m with z | m
      · rw [z]; obtain ⟨o, e, _⟩ := st.1.there; exact ⟨o, e⟩
      · rw [List.mem_singleton.mp m]; exact isB_there st.2)
  have ok : IsZip h' (s1.heap.objs.size + 4) (s1.heap.objs.size + 2) (s1.heap.objs.size + 3) .none ∧ IsTupOf2 h' (s1.heap.objs.size + 2) (.ref s1.heap.objs.size) (.ref (s1.heap.objs.size + 1)) ∧ (∃ u v, IsTupOf2 h' (s1.heap.objs.size + 3) u v) ∧
      (ItB b h' s1.heap.objs.size a1 0 ∧ IsB b h' a1 us.toArray) ∧ (ItB c h' (s1.heap.objs.size + 1) a2 0 ∧ IsB c h' a2 vs.toArray) := ⟨hz, ht, ⟨_, _, ho⟩, ⟨itB0 g1, ib1.move fun o e => kp _ _ e⟩, itB0 g2, ib2.move fun o e => kp _ _ e⟩
  have kl : ks.length = us.length := by rw [← ku.length, List.length_map]
  have yl : ys.length = vs.length := kv.length
  have have_ : PairsHave (mixKind X.prog X.w) (min us.toArray.size vs.toArray.size) (fun i k v => us.toArray[i]? = some k ∧ vs.toArray[i]? = some v) (ks.zip vs) := by
    refine ⟨by rw [List.length_zip, kl]; simp, fun i key v hr => ?_⟩
    have h1 : us[i]? = some key := by simpa using hr.1
    have h2 : vs[i]? = some v := by simpa using hr.2
    have li : i < ks.length := by rw [kl]; exact (List.getElem?_eq_some_iff.mp h1).1
    have hk : ks[i]? = some ks[i] := List.getElem?_eq_getElem li
    obtain ⟨u', hu', ru'⟩ := ku.get (i := i) (x := kV ks[i]) (by rw [List.getElem?_map, hk]; rfl)
    rw [h1] at hu'
    cases hu'
    exact ⟨ks[i], by rw [List.getElem?_zip_eq_some]; exact ⟨hk, h2⟩, kV_is ru'⟩
  refine PySem.call_dict_pairs (knd := mixKind X.prog X.w) (kvs := ks.zip vs) P (I2.ok.hd hc) ok have_ (Nat.le_trans (Nat.min_le_left ..) (by rw [List.size_toArray, ← kl]; simpa using z1)) fun h2 tk hd k2 => ?_
  have hf : ∀ d ∈ [s1.heap.objs.size + 4, s1.heap.objs.size + 3, s1.heap.objs.size, s1.heap.objs.size + 1], FpOk X pins H1 d := fun d m => by
    have le : s1.heap.objs.size ≤ d := by
      simp only [List.mem_cons, List.not_mem_nil, or_false] at m
      rcases m with z | z | z | z <;> (rw [z]; first | exact Nat.le_add_right _ _ | exact Nat.le_refl _)
    exact I1.fpOk le (I1.hok.fresh le)
  have hlen : (mergeK [] (ks.zip ys)).length ≤ sizeLine := by
    refine Nat.le_trans (length_mergeK (ks.zip ys) []) ?_
    rw [List.length_nil, Nat.zero_add, List.length_zip]
    exact Nat.le_trans (Nat.min_le_right ..) z2
  have hmm : (h'.objs.size == sysModules) = false := beq_eq_false_iff_ne.mpr (Nat.ne_of_gt I2.big)
  have new : ObjOk X.prog X.w (upd H1 h'.objs.size (.dK (mergeK [] (ks.zip ys)))) h2 h'.objs.size (.dK (mergeK [] (ks.zip ys))) := ⟨hlen, hmm, merged [] (ks.zip vs), KV.merge (kv_zip kv) .nil, hd⟩
  exact ⟨.ref h'.objs.size, _, I2.turnedNew (t' := tk) (ch := [s1.heap.objs.size + 4, s1.heap.objs.size + 3, s1.heap.objs.size, s1.heap.objs.size + 1]) (fun d o nd q => k2 d o nd q) hf (Nat.le_refl _) new, rfl, q _ (I2.hok.fresh (Nat.le_refl _))⟩
/-! by data -/
def mergeG {α : Type} (kvs more : List (Key × α)) : List (Key × α) := more.foldl (fun acc kv => putG acc kv.1 kv.2) kvs
theorem AtK.merge {K : PySem.W.Frag} {ca : Cn} {G : Hp} : ∀ {more kvs : List (Key × D)} {more' kvs' : List (Key × V)}, AtK K ca G more more' → AtK K ca G kvs kvs' → AtK K ca G (mergeG kvs more) (mergeK kvs' more')
  | [], _, _, _, h, h' => by cases h; exact h'
  | (k, d) :: more, kvs, _, kvs', ⟨v, r, e, h, t⟩, h' => by
    subst e
    show AtK K ca G (mergeG (putG kvs k d) more) (mergeK (putK kvs' k v) r)
    exact AtK.merge t (h'.put h)
theorem AtK.zip {K : PySem.W.Frag} {ca : Cn} {G : Hp} : ∀ {ks : List Key} {ds : List D} {vs : List V}, AtL K ca G ds vs → AtK K ca G (ks.zip ds) (ks.zip vs)
  | [], _, _, _ => rfl
  | k :: ks, [], _, h => by cases h; rfl
  | k :: ks, d :: ds, _, ⟨v, r, e, h, t⟩ => by subst e; exact ⟨v, _, rfl, h, AtK.zip t⟩
def eDz (fa fb : Ev → R D) : Ev → R D := fun ρ => (fa ρ).bind fun a => (fb ρ).bind fun b => (optR (seqD a)).bind fun x => (optR (seqD b)).bind fun y => (optR (keysD x.2)).bind fun ks => .ok (.dK (mergeG [] (ks.zip y.2)))
section
variable {X : Cx} {ca : Cn} {W : WX} {e e' : Expr} {fa fb : Ev → R D} {p p2 pos pos2 : Pos}
theorem fe_dz (hc : X.calm = true) (T : BT X.mg) (h : FE X ca W e fa) (h' : FE X ca W e' fb) (hg : Gl X "zip" := by rfl) (hg2 : Gl X "dict" := by rfl) (hs2 : starEach [.Call (.Name "zip" p) [e, e'] [] pos] X.env = [(false, eval (.Call (.Name "zip" p) [e, e'] [] pos) X.env)] := by rfl)
    (hs : starEach [e, e'] X.env = (false, eval e X.env) :: starEach [e'] X.env := by rfl) (hs' : starEach [e'] X.env = (false, eval e' X.env) :: starEach [] X.env := by rfl)
    (hpl : (backTo pos (starEach [e'] X.env)).any (·.1) = false := by rfl) : FE X ca W (.Call (.Name "dict" p2) [.Call (.Name "zip" p) [e, e'] [] pos] [] pos2) (eDz fa fb) := by
  obtain ⟨t, pp, k⟩ := h.ex
  obtain ⟨u, q, l⟩ := h'.ex
  have pz := fun b c => pe_dz (X := X) (p := p) (p2 := p2) (pos := pos) (pos2 := pos2) b c hc hg T.zip hg2 T.dict (pa_cons pp (pa_cons q pa_nil hs') hs) hs2 hs hpl
  have or2 : ∀ {ex : Expr} {w1 w2 : TE}, PE X ex w1 → PE X ex w2 → PE X ex (fun σ H Q => w1 σ H Q ∨ w2 σ H Q) := fun h1 h2 => ⟨fun pins s σ H Q I h => h.elim (h1.run pins s σ H Q I) (h2.run pins s σ H Q I)⟩
  refine ⟨_, or2 (or2 (pz false false) (pz false true)) (or2 (pz true false) (pz true true)), fun B G H σ ρ Q s b r h => ?_⟩
  have go : ∀ bb cc, (∀ d, fa ρ = .ok d → ∀ x, seqD d = some x → x.1 = bb) → (∀ d, fb ρ = .ok d → ∀ x, seqD d = some x → x.1 = cc) → wDz bb cc X.K (tCons t (tCons u tNil)) σ H Q := fun bb cc hb hb' => by
    refine k B G H σ ρ _ s b r (Wish.bind h fun d G1 H1 e1 x1 w1 v a1 => ?_)
    refine l B G1 H1 σ ρ _ x1.gh (b.trans x1.hh) (r.ext x1) (Wish.bind w1 fun d2 G2 H2 e2 x2 w2 v2 a2 => ?_)
    obtain ⟨x, ex, w2⟩ := wish_opt w2
    obtain ⟨y, ey, w2⟩ := wish_opt w2
    obtain ⟨ks, ek, w2⟩ := wish_opt w2
    obtain ⟨a, vs, rfl, h1, h2⟩ := seqD_at (At.mono x2.gg a1) ex
    obtain ⟨a', ws, rfl, h3, h4⟩ := seqD_at a2 ey
    have := hb d e1 x ex
    have := hb' d2 e2 y ey
    subst bb cc
    have ev := keys_at h2 ek
    subst ev
    refine ⟨a, a', ks, ws, rfl, sqB_mono x2.gh h1, sqB_mono x2.gh h3, fun q nq => ?_⟩
    have nG := same_none x2.gh nq
    have ge : Ext G2 H2 (upd G2 q (.dK (mergeK [] (ks.zip ws)))) (upd H2 q (.dK (mergeK [] (ks.zip ws)))) := Ext.new x2.gh nq
    exact w2 _ _ ge (.ref q) ⟨q, _, rfl, upd_same, AtK.mono ge.gg (AtK.merge (AtK.zip h4) rfl)⟩
  have kind : ∀ f : Ev → R D, ∃ bb : Bool, ∀ d, f ρ = .ok d → ∀ x, seqD d = some x → x.1 = bb := fun f => by
    cases z : f ρ with
    | ok d =>
      cases q : seqD d with
      | none => exact ⟨false, fun d' e x ex => by cases e; rw [q] at ex; cases ex⟩
      | some x => exact ⟨x.1, fun d' e y ey => by cases e; rw [q] at ey; cases ey; rfl⟩
    | exc x => exact ⟨false, fun d' e => by cases e⟩
    | bad => exact ⟨false, fun d' e => by cases e⟩
  obtain ⟨bb, hb⟩ := kind fa
  obtain ⟨cc, hc⟩ := kind fb
  cases bb <;> cases cc
  · exact .inl (.inl (go _ _ hb hc))
  · exact .inl (.inr (go _ _ hb hc))
  · exact .inr (.inl (go _ _ hb hc))
  · exact .inr (.inr (go _ _ hb hc))
end
end Tk

namespace Tk
open PySem PySem.Spec L2 PyProof.Rows
/-! ### x.append(y.pop(e)), two own lists -/
def sAppPop (i j : Nat) (f : Ev → R D) : Ev → SO := fun ρ => SO.from ρ (ownL ρ i) fun xs => SO.from ρ (ownL ρ j) fun ys => SO.from ρ (f ρ) fun d => match d with
  | .int n => if 0 ≤ n ∧ n < 9223372036854775808 ∧ xs.length < sizeLine then (match ys[n.toNat]? with
    | some y => .nx ((ρ.set j (.l (ys.eraseIdx n.toNat))).set i (.l (xs ++ [y])))
    | none => .bad) else .bad
  | _ => .bad
section
variable {X : Cx} {ca : Cn} {W : WX} {e : Expr} {f : Ev → R D} {pos apos cpos py apos2 cpos2 pz : Pos} {i j : Nat} {y z : Str}
theorem fs_appPop (hi : X.N[i]? = some y) (hj : X.N[j]? = some z) (h : FE X ca W e f) (ne : i ≠ j := by decide)
    (hv : Vis X.env.scope y := by first | exact Or.inl rfl | exact Or.inr (Or.inl rfl) | exact Or.inr (Or.inr rfl)) (hd : (y == ("__debug__" : Str)) = false := by decide) (hcd : (y == ("__classdict__" : Str)) = false := by decide)
    (hv2 : Vis X.env.scope z := by first | exact Or.inl rfl | exact Or.inr (Or.inl rfl) | exact Or.inr (Or.inr rfl)) (hd2 : (z == ("__debug__" : Str)) = false := by decide) (hcd2 : (z == ("__classdict__" : Str)) = false := by decide)
    (he : starEach [e] X.env = (false, eval e X.env) :: starEach [] X.env := by rfl) (hb2 : attributeBase (.Name z pz) "pop" X.env (eval (.Name z pz) X.env) = eval (.Name z pz) X.env := by rfl)
    (hw2 : ((backTo cpos2 (starEach [e] X.env)).all (fun x => !x.1) && (backToKw cpos2 (keywordEach [] X.env)).all (fun x => x.1.isSome) && decide ([e].length + ([] : List Keyword).length + (if ([] : List Keyword).isEmpty then 0 else 1) < 30)) = true := by rfl) (hl2 : (apos2.endLine == cpos2.line) = true := by rfl) (hpl2 : (backTo cpos2 (starEach [] X.env)).any (·.1) = false := by rfl)
    (he1 : starEach [.Call (.Attribute (.Name z pz) "pop" apos2) [e] [] cpos2] X.env = (false, eval (.Call (.Attribute (.Name z pz) "pop" apos2) [e] [] cpos2) X.env) :: starEach [] X.env := by rfl) (hb : attributeBase (.Name y py) "append" X.env (eval (.Name y py) X.env) = eval (.Name y py) X.env := by rfl)
    (hw : ((backTo cpos (starEach [.Call (.Attribute (.Name z pz) "pop" apos2) [e] [] cpos2] X.env)).all (fun x => !x.1) && (backToKw cpos (keywordEach [] X.env)).all (fun x => x.1.isSome) && decide ([(.Call (.Attribute (.Name z pz) "pop" apos2) [e] [] cpos2 : Expr)].length + ([] : List Keyword).length + (if ([] : List Keyword).isEmpty then 0 else 1) < 30)) = true := by rfl)
    (hl : (apos.endLine == cpos.line) = true := by rfl) (hpl : (backTo cpos (starEach [] X.env)).any (·.1) = false := by rfl)
    (hs : swapsWith (.Call (.Attribute (.Name y py) "append" apos) [.Call (.Attribute (.Name z pz) "pop" apos2) [e] [] cpos2] [] cpos) none pos.line X.env = pure false := by rfl) :
    FS X ca W (.Expr (.Call (.Attribute (.Name y py) "append" apos) [.Call (.Attribute (.Name z pz) "pop" apos2) [e] [] cpos2] [] cpos) pos) (sAppPop i j f) := by
  obtain ⟨t, p, k⟩ := h.ex
  refine ⟨_, ps_expr (pe_bm PySem.F.plainAttrs_list PySem.F.slot_list_append PySem.F.type_list_append mt_append (pe_var hi hv hd hcd) (pa_cons (pe_bm PySem.F.plainAttrs_list PySem.F.slot_list_pop PySem.F.type_list_pop mt_popAt (pe_var hj hv2 hd2 hcd2) (pa_cons p pa_nil he) hb2 hw2 hl2 he hpl2) pa_nil he1) hb hw hl he1 hpl) hs, fun B G H σ ρ D s b r h => ?_⟩
  unfold sAppPop at h
  cases q1 : ownL ρ i with
  | exc x => unfold ownL at q1; split at q1 <;> cases q1
  | bad => rw [q1] at h; exact h.elim
  | ok xs =>
    rw [q1] at h
    cases q2 : ownL ρ j with
    | exc x => unfold ownL at q2; split at q2 <;> cases q2
    | bad => rw [q2] at h; exact h.elim
    | ok ys =>
      rw [q2] at h
      obtain ⟨r1, a, vs, a1, a2, a3, a4, a5⟩ := own_l q1 r
      obtain ⟨r2, c, ws, c1, c2, c3, c4, c5⟩ := own_l q2 r
      have nac : a ≠ c := fun z => ne (r.sep i j _ _ a r1 rfl r2 rfl a1 (by rw [z]; exact c1))
      refine ⟨_, a1, .inl ⟨rfl, vs, .of a2⟩, _, c1, .inl ⟨rfl, ws, .of c2⟩, k B G H σ ρ _ s b r (WishS.from h b r fun d G1 H1 _ x w r3 b1 v av => ?_)⟩
      cases d with
      | int n =>
        cases av
        have w2 : WishS X.K ca B G1 (if 0 ≤ n ∧ n < 9223372036854775808 ∧ xs.length < sizeLine then (match ys[n.toNat]? with
          | some y => .nx ((ρ.set j (.l (ys.eraseIdx n.toNat))).set i (.l (xs ++ [y])))
          | none => .bad) else .bad) D W := w
        split at w2
        · rename_i hn
          split at w2
          · rename_i yy hy
            obtain ⟨u, hu, au⟩ := c3.get hy
            have lw : n.toNat < ws.length := (List.getElem?_eq_some_iff.mp hu).1
            have lc := c3.length
            have la := a3.length
            refine ⟨c, ws, n, n.toNat, u, rfl, rfl, x.hh _ _ c2, by omega, by omega, ?_, hu, ?_⟩
            · exact seqIndex_of hn.1 (by omega)
            · obtain ⟨t1, t2, t3⟩ := r3.turn x.gh b1 (t' := .l (ys.eraseIdx n.toNat)) (o := .lst (ws.eraseIdx n.toNat)) r2 rfl rfl c1 ⟨_, upd_same, (AtL.mono x.gg c3).eraseIdx _⟩
              have e1 : (ρ.set j (.l (ys.eraseIdx n.toNat)))[i]? = some (.l xs) := by rw [List.getElem?_set_ne (Ne.symm ne)]; exact r1
              have e2 : upd H1 c (.lst (ws.eraseIdx n.toNat)) a = some (.lst vs) := by rw [upd_ne nac]; exact x.hh _ _ a2
              refine ⟨a, vs, u, rfl, rfl, e2, by omega, ?_⟩
              obtain ⟨u1, u2, u3⟩ := t1.turn t2 t3 (t' := .l (xs ++ [yy])) (o := .lst (vs ++ [u])) e1 rfl rfl a1 ⟨_, upd_same, (AtL.mono x.gg a3).append (.one (At.mono x.gg au))⟩
              exact w2 _ G1 _ ⟨.refl _, u2, u3, fun c z => .inl z⟩ u1
          · exact w2.elim
        · exact w2.elim
      | _ => exact w.elim
end
end Tk

namespace Tk
open PySem PySem.Spec L2 PyProof.Rows
/-! ### new objects that stay the frame's own: of any kind; calls that hand them out -/
/-- what is wanted of a new object: H0 the heap ahead -/
def SN (K : PySem.W.Frag) (ca : Cn) (H0 : Hp) (Q : VK) : Hp → Sl → Hp → Prop := fun G' s H' => s.own = true ∧ ∀ a, Own K ca G' H' a s → G' a = none → H0 a = none → Q (.ref a) H'
theorem Wish.imp {α : Type} {K : PySem.W.Frag} {ca : Cn} {G H : Hp} {r : R α} {S S' : Hp → α → Hp → Prop} {W1 : XK} (h : Wish K ca S G H r W1) (q : ∀ G' d H', S G' d H' → S' G' d H') : Wish K ca S' G H r W1 := by
  cases r with
  | ok a => exact fun G' H' x => q _ _ _ (h G' H' x)
  | exc x => exact h
  | bad => exact h
structure FN (X : Cx) (ca : Cn) (W : WX) (e : Expr) (f : Ev → R Sl) : Prop where
  ex : ∃ t, PE X e t ∧ ∀ B G H σ ρ Q, Same G H → Same B H → Rel X.K ca B G H σ ρ → Wish X.K ca (SN X.K ca H Q) G H (f ρ) (WE W σ) → t σ H Q
def nL (f : Ev → R (List D)) : Ev → R Sl := fun ρ => (f ρ).bind fun ds => .ok (.l ds)
def sNew (i : Nat) (f : Ev → R Sl) : Ev → SO := fun ρ => SO.from ρ (f ρ) fun s => if s.own = true then .nx (ρ.set i s) else .bad
def sRetV (i : Nat) : Ev → SO := fun ρ => match ρ[i]? with
  | some s => if s.own = true then .ro s else .bad
  | none => .bad
def sRetF (f : Ev → R Sl) : Ev → SO := fun ρ => SO.from ρ (f ρ) fun s => if s.own = true then .ro s else .bad
def runO (n : Nat) (g : Ev → SO) : List D → R Sl := fun ds => (g (startE n ds)).outO
def oCall (n : Nat) (F : List D → R Sl) (fa : Ev → R (List D)) : Ev → R Sl := fun ρ => (fa ρ).bind fun ds => if ds.length = n then F ds else .bad
def spO (K : PySem.W.Frag) (ca : Cn) (n : Nat) (F : List D → R Sl) : Sp := fun vs H Q E => vs.length = n ∧ ∃ G ds, Same G H ∧ AtL K ca G ds vs ∧ Wish K ca (SN K ca H Q) G H (F ds) E
section
variable {X : Cx} {ca : Cn} {W : WX} {e : Expr} {es : List Expr} {f : Ev → R Sl} {fl fa : Ev → R (List D)} {pos p : Pos}
theorem fn_l (h : FL X ca W e fl) : FN X ca W e (nL fl) := by
  obtain ⟨t, pp, k⟩ := h.ex
  refine ⟨t, pp, fun B G H σ ρ Q s b r w => k B G H σ ρ Q s b r ?_⟩
  unfold nL at w
  cases z : fl ρ with
  | ok ds =>
    rw [z] at w
    exact fun G' H' x q vs n g hq av => (w G' H' x).2 q ⟨vs, hq, av⟩ g n
  | exc x => rw [z] at w; exact w
  | bad => rw [z] at w; exact w
theorem fs_new {i : Nat} {y : Str} {pos' : Pos} (hN : X.N.Nodup) (hi : X.N[i]? = some y) (h : FN X ca W e f) (hx : Loc X.env.scope y := by first | exact .inl rfl | exact .inr rfl) (hs : swapsWith e (some (.Name y pos')) pos.line X.env = pure false := by rfl)
    (hf : X.fn y = true ∨ X.env.scope.names.lookup y = some .local := by first | exact .inl rfl | exact .inr rfl | assumption) : FS X ca W (.Assign [.Name y pos'] e pos) (sNew i f) := by
  obtain ⟨t, p, kt⟩ := h.ex
  refine ⟨_, ps_set hN hi hx p hs hf, fun B G H σ ρ D s b r h => kt B G H σ ρ _ s b r ?_⟩
  refine WishS.from h b r fun sl G1 H1 e1 x w r1 b1 => ?_
  split at w
  · rename_i o
    refine ⟨o, fun a oa ga na => ?_⟩
    refine w _ G1 H1 (.refl x.gh b1) ?_
    refine r1.setOwn i o oa ga (same_none b na) fun j t' _ q' o' z => ?_
    obtain ⟨a', h1, h2, h3, h4⟩ := r.own j t' q' o'
    rw [z] at h1
    cases h1
    obtain ⟨ob, h5⟩ := h2.some
    rw [na] at h5
    cases h5
  · exact w.elim
/-- return y, y an own object -/
theorem fs_retV {i : Nat} {y : Str} {py : Pos} (hi : X.N[i]? = some y) (hv : Vis X.env.scope y := by first | exact Or.inl rfl | exact Or.inr (Or.inl rfl) | exact Or.inr (Or.inr rfl)) (hd : (y == ("__debug__" : Str)) = false := by decide) (hcd : (y == ("__classdict__" : Str)) = false := by decide) : FS X ca W (.Return (some (.Name y py)) pos) (sRetV i) := by
  refine ⟨_, ps_ret (pe_var hi hv hd hcd), fun B G H σ ρ D s b r h => ?_⟩
  unfold sRetV at h
  split at h
  · rename_i sl q
    split at h
    · rename_i o
      obtain ⟨a, h1, h2, h3, h4⟩ := r.own i sl q o
      exact ⟨_, h1, h.2 a G H (.refl s b) h2 h3 h4⟩
    · exact h.elim
  · exact h.elim
theorem fs_retF (h : FN X ca W e f) : FS X ca W (.Return (some e) pos) (sRetF f) := by
  obtain ⟨t, p, k⟩ := h.ex
  refine ⟨_, ps_ret p, fun B G H σ ρ D s b r h => k B G H σ ρ _ s b r ?_⟩
  refine WishS.from h b r fun sl G1 H1 e1 x w r1 b1 => ?_
  split at w
  · rename_i o
    exact ⟨o, fun a oa ga na => w.2 a G1 H1 (.refl x.gh b1) oa ga (same_none b na)⟩
  · exact w.elim
end
section
variable {P : Program} {w : World} {K : PySem.W.Frag} {mg : Str → Option Value} {base : Heap} {ca : Cn}
theorem body_okO {X : Cx} {W : WX} {body : List Stmt} {g : Ev → SO} {H : Hp} {vs : List V} {ds : List D} {G : Hp} {Q : VK} {E : XK} {N : List Str} (hK : X.K = K) (h : FSs X ca W body g) (hW : ∀ c d σ H', E c d H' → W c d σ H')
    (s : Same G H) (a : AtL K ca G ds vs) (q : Wish K ca (SN K ca H Q) G H (runO N.length g ds) E) : ∃ t, PSs X body t ∧ t { nx := fun _ H' => Q .non H', rt := Q } (L2.start N vs) H := by
  subst hK
  obtain ⟨t, p, k⟩ := h.ex
  refine ⟨t, p, k H G H _ (startE N.length ds) _ s (.refl H) (rel_start a) ?_⟩
  unfold runO at q
  have up : ∀ {G' H' : Hp}, Adv H G G' H' → Ext G H G' H' := fun x => ⟨x.bh, x.gg, x.gh, x.nw⟩
  cases z : g (startE N.length ds) with
  | ro sl =>
    rw [z] at q
    have own : sl.own = true := (q G H ⟨.refl _, .refl _, s, fun _ h => .inl h⟩).1
    exact ⟨own, fun a G' H' x oa ga ba => (q G' H' (up x)).2 a oa ga ba⟩
  | ex x ρ => rw [z] at q; exact fun σ' G' H' c dx y r e => hW _ _ _ _ (q G' H' c dx (up y) e)
  | nx ρ => rw [z] at q; exact q.elim
  | rt d => rw [z] at q; exact q.elim
  | bk ρ => rw [z] at q; exact q.elim
  | ct ρ => rw [z] at q; exact q.elim
  | bad => rw [z] at q; exact q.elim
theorem fn_okO {x qual : Str} {params : Arguments} {body : List Stmt} {scope : Scope} {dvs : List V} {kws : List (Str × V)} {f : Addr} {fd : FuncData} {N ps : List Str} {k : Nat} {g : Ev → SO} (F : FunD K x qual params body scope dvs kws f fd) (S : FnScope N ps scope)
    (hb : ∀ (cdv : Value) (A : Around) (outer : List Env) (s : Shared) (H : Hp) (E : XK), Room k (A.deeper (envOfC qual scope s.heap.objs.size f cdv)) →
      FSs (cxOf (L2.CX P w) P w K mg base N qual scope f cdv A outer s H E) ca (fun c d _ H' => E c d H') body g) : FnOk P w K mg base (L2.CX P w) (k + 1) f fd ps (spO K ca ps.length (runO N.length g)) :=
  F.ok S (fun vs H Q E h => h.1) fun cdv A outer s H vs Q E hr h => by
    obtain ⟨l, G, ds, sm, a, q⟩ := h
    exact body_okO rfl (hb cdv A outer s H E hr) (fun _ _ _ _ z => z) sm a q
/-- a def that hands out a new object -/
structure DefO (P : Program) (w : World) (K : PySem.W.Frag) (mg : Str → Option Value) (base : Heap) (ca : Cn) (k : Nat) (x : Str) (st : Stmt) (dd : List D) (kd : List (Str × D)) (ps : List Str) (F : List D → R Sl) : Prop where
  ex : ∃ f fd, FnOk P w K mg base (L2.CX P w) k f fd ps (spO K ca ps.length F) ∧ mg x = some (.ref f) ∧ FD K x x st dd kd f fd
variable {x : Str} {st : Stmt} {dd : List D} {kd : List (Str × D)} {ps N : List Str} {k : Nat} {g : Ev → SO}
theorem DefO.of (h : FnAt K mg x st dd kd) (S : FnScope N ps (defScope st)) (hb : ∀ (f : Addr) (cdv : Value) (A : Around) (outer : List Env) (s : Shared) (H : Hp) (E : XK), Room k (A.deeper (envOfC x (defScope st) s.heap.objs.size f cdv)) →
      FSs (cxOf (L2.CX P w) P w K mg base N x (defScope st) f cdv A outer s H E) ca (fun c d _ H' => E c d H') (defBody st) g) : DefO P w K mg base ca (k + 1) x st dd kd ps (runO N.length g) := by
  obtain ⟨f, fd, F, hm⟩ := h.ex
  exact ⟨f, fd, fn_okO F S (hb f), hm, F⟩
end
section
variable {X : Cx} {ca : Cn} {W : WX} {k j n : Nat} {x : Str} {st : Stmt} {dd : List D} {kd : List (Str × D)} {ps ks : List Str} {Fn : List D → R Sl} {p pos : Pos} {e : Expr} {es : List Expr} {kws : List Keyword} {fa fk : Ev → R (List D)} {gD : List D → List D → List D}
theorem fn_a (d : DefO X.prog X.w X.K X.mg X.base ca k x st dd kd ps Fn) (hb : ∀ {f fd}, FD X.K x x st dd kd f fd → Binds X.K fd ps []) (hr : Room j X.A) (tk : Takes X W) (ha : FA X ca W (e :: es) fa) (hk : k ≤ j := by decide) (hg : Gl X x := by rfl) (hdb : (x == ("__debug__" : Str)) = false := by decide)
    (he : starEach (e :: es) X.env = (false, eval e X.env) :: starEach es X.env := by rfl) (hpl : (backTo pos (starEach es X.env)).any (·.1) = false := by rfl) : FN X ca W (.Call (.Name x p) (e :: es) [] pos) (oCall ps.length Fn fa) := by
  obtain ⟨f, fd, F, h1, h2⟩ := d.ex
  obtain ⟨t, pa, kt⟩ := ha.ex
  refine ⟨_, pe_callS (E := WE W) F (hr.mono hk) hg h1 h2.kp (hb h2) (fun σ => passAt tk σ) pa hdb he hpl, fun B G H σ ρ Q s b r h => ?_⟩
  refine kt B G H σ ρ _ s b r (Wish.bind h fun ds G1 H1 _ x1 w1 vs a1 => ?_)
  split at w1
  · rename_i hl
    exact ⟨by rw [← a1.length]; exact hl, G1, ds, x1.gh, a1, Wish.imp w1 fun G' sl H' q => ⟨q.1, fun a oa ga na => q.2 a oa ga (same_none x1.hh na)⟩⟩
  · exact w1.elim
end

/-! ### new lists by comprehensions -/
def SF (K : PySem.W.Frag) (ca : Cn) (H0 : Hp) (Q : VK) : Hp → List D → Hp → Prop := fun G' ds H' => ∀ p vs, H0 p = none → G' p = none → H' p = some (.lst vs) → AtL K ca G' ds vs → Q (.ref p) H'
def lLc (zs : List Nat) (fi : Ev → R (List D)) (h : Tg) (t : Ev → R Bool) (fe : Ev → R D) : Ev → R (List D) := fun ρ => (fi ρ).bind fun ds => if ds.length ≤ sizeLine then (lcL h t fe (wipeE ρ zs) ds).bind fun rs => .ok rs else .bad
/-- what is known at turn i of the comprehension that fills D -/
def LcWF (K : PySem.W.Frag) (ca : Cn) (h : Tg) (t : Ev → R Bool) (fe : Ev → R D) (ρw : Ev) (D : Addr) (ds : List Tk.D) (B G1 H1 : Hp) (σw : L2.St) (W1 : XK) (Hx : Hp) (Q : VK) (i : Nat) (H : Hp) : Prop :=
  ∃ G acc vs, Ext G1 H1 G H ∧ G D = none ∧ H D = some (.lst vs) ∧ AtL K ca G acc vs ∧ acc.length ≤ i ∧ Same B H ∧ Rel K ca B G H σw ρw ∧
    Wish K ca (SF K ca Hx Q) G1 H1 ((lcL h t fe ρw (ds.drop i)).bind fun rs => .ok (acc ++ rs)) W1
section
variable {X : Cx} {ca : Cn} {W : WX} {zs : List Nat} {elt tg iter : Expr} {ifs : List Expr} {scope : Scope} {own : List (Str × Nat)} {pos : Pos} {fi : Ev → R (List D)} {h : Tg} {ft : Ev → R Bool} {fe : Ev → R D}
theorem lc_tailF {tl : TI} (ki : ∀ B G H σ ρ (Q : It → Hp → Prop), Same G H → Same B H → Rel X.K ca B G H σ ρ → Wish X.K ca (fun G' ds H' => ∀ J, JOk X.K ca G' J ds → Q J H') G H (fi ρ) (WE W σ) → tl σ H Q)
    (B G H : Hp) (σ : L2.St) (ρ : Ev) (Hx : Hp) (Q : VK) (s : Same G H) (b : Same B H) (r : Rel X.K ca B G H σ ρ) (hx : Same Hx H) (w : Wish X.K ca (SF X.K ca Hx Q) G H (lLc zs fi h ft fe ρ) (WE W σ)) :
    tLc tl (tGc X.K ca zs h) (tT X.K ca W0 ft) (tE X.K ca W0 fe) zs σ H Q := by
  refine ki B G H σ ρ _ s b r (Wish.bind w fun ds G1 H1 _ x1 w1 J hj => ?_)
  intro D hD
  split at w1
  rename_i hlen
  have gD : G1 D = none := same_none x1.gh hD
  have b1 := b.trans x1.hh
  have r1 := (r.ext x1).wipe zs
  have e0 : Ext G1 H1 G1 (upd H1 D (.lst [])) := ⟨same_upd hD, .refl _, x1.gh.trans (same_upd hD), fun a z => .inl z⟩
  refine ⟨fun i m H => m = ds.length - i ∧ i ≤ ds.length ∧ LcWF X.K ca h ft fe (wipeE ρ zs) D ds B G1 H1 (L2.wipe σ zs) (WE W σ) Hx Q i H, ⟨_, rfl, Nat.zero_le _, G1, [], [], e0, gD, upd_same, rfl, Nat.le_refl _, b1.trans e0.hh, r1.ext e0, by rw [List.drop_zero]; exact w1⟩, ?_⟩
  rintro i m H2 ⟨rfl, hi, G2, acc, vs, e2, g2, d2, a2, l2, b2, r2, w2⟩
  obtain ⟨j1, j2⟩ := hj G2 H2 e2.gg e2.gh i
  by_cases hlt : i < ds.length
  · rw [List.drop_eq_getElem_cons hlt] at w2
    obtain ⟨go, yl⟩ := j1 ds[i] (by simp [hlt])
    refine .inr ⟨go, fun H' => LcWF X.K ca h ft fe (wipeE ρ zs) D ds B G1 H1 (L2.wipe σ zs) (WE W σ) Hx Q (i + 1) H', fun H' q => ⟨ds.length - (i + 1), by omega, rfl, hlt, q⟩, fun x H3 yy => ?_⟩
    obtain ⟨G3, x3, a3⟩ := yl x H3 yy
    have r3 := r2.ext x3
    have b3 := b2.trans x3.hh
    -- what stays of the new list, wherever the block's own expressions lay things
    have stay : ∀ {G4 H4 : Hp}, Ext G3 H3 G4 H4 → G4 D = none ∧ H4 D = some (.lst vs) ∧ AtL X.K ca G4 acc vs ∧ Ext G1 H1 G4 H4 ∧ Same B H4 ∧ Rel X.K ca B G4 H4 (L2.wipe σ zs) (wipeE ρ zs) := fun {G4 H4} x4 => by
      have x5 := x3.trans x4
      refine ⟨?_, x5.hh _ _ d2, AtL.mono x5.gg a2, e2.trans x5, b2.trans x5.hh, r2.ext x5⟩
      cases q : G4 D with
      | none => rfl
      | some u =>
        rcases x5.nw D (by rw [q]; simp) with z | z
        · exact absurd g2 z
        · rw [d2] at z; cases z
    have w3 : Wish X.K ca (SF X.K ca Hx Q) G1 H1 (((optR (h ds[i] (wipeE ρ zs))).bind fun ρ1 => (ft ρ1).quiet.bind fun b => if b = true then (fe ρ1).quiet.bind fun y => (lcL h ft fe (wipeE ρ zs) (ds.drop (i + 1))).bind fun r => .ok (y :: r) else lcL h ft fe (wipeE ρ zs) (ds.drop (i + 1))).bind fun rs => .ok (acc ++ rs)) (WE W σ) := w2
    cases z1 : h ds[i] (wipeE ρ zs) with
    | none => rw [z1] at w3; exact w3.elim
    | some ρ1 =>
      rw [z1] at w3
      refine ⟨B, G3, wipeE ρ zs, ds[i], x3.gh, b3, r3, a3, ρ1, z1, fun σ4 r4 e4 => ⟨e4.trans (wipe_idem σ zs), B, G3, ρ1, x3.gh, b3, r4, ?_⟩⟩
      cases z2 : ft ρ1 with
      | exc x => simp only [optR_some, bind_ok, z2] at w3; exact w3.elim
      | bad => simp only [optR_some, bind_ok, z2] at w3; exact w3.elim
      | ok bb =>
        simp only [optR_some, bind_ok, z2, quiet_ok] at w3
        intro G5 H5 x5
        show if bb = true then _ else _
        cases bb with
        | false =>
          rw [if_neg Bool.false_ne_true] at w3 ⊢
          obtain ⟨s1, s2, s3, s4, s5, s6⟩ := stay x5
          exact ⟨G5, acc, vs, s4, s1, s2, s3, by omega, s5, s6, w3⟩
        | true =>
          rw [if_pos rfl] at w3 ⊢
          refine ⟨B, G5, ρ1, x5.gh, b3.trans x5.hh, r4.ext x5, ?_⟩
          cases z3 : fe ρ1 with
          | exc x => simp only [z3] at w3; exact w3.elim
          | bad => simp only [z3] at w3; exact w3.elim
          | ok y =>
            simp only [z3, quiet_ok, bind_ok] at w3
            intro G6 H6 x6 v av
            obtain ⟨s1, s2, s3, s4, s5, s6⟩ := stay (x5.trans x6)
            have hl := s3.length
            refine ⟨vs, s2, by omega, G6, acc ++ [y], vs ++ [v], ?_, s1, upd_same, s3.append (.one av), by rw [List.length_append]; exact Nat.succ_le_succ l2, ?_, ?_, ?_⟩
            · -- the list's own place is the only one that turned
              have nD : ∀ c o, H1 c = some o → c ≠ D := fun c o q z => by rw [z, hD] at q; cases q
              have nG : ∀ c o, G6 c = some o → c ≠ D := fun c o q z => by rw [z, s1] at q; cases q
              exact ⟨fun c o q => by rw [upd_ne (nD c o q)]; exact s4.hh c o q, s4.gg, fun c o q => by rw [upd_ne (nG c o q)]; exact s4.gh c o q, s4.nw⟩
            · have nB : ∀ c o, B c = some o → c ≠ D := fun c o q z => by
                have := b1 c o q
                rw [z, hD] at this
                cases this
              exact fun c o q => by rw [upd_ne (nB c o q)]; exact s5 c o q
            · refine ⟨s6.len, s6.val, fun k s' q ho => ?_, s6.sep⟩
              obtain ⟨a', t1, t2, t3, t4⟩ := s6.own k s' q ho
              refine ⟨a', t1, t2.ext (.refl _) ?_, t3, t4⟩
              -- an own object of the frame stood ahead of the new list
              obtain ⟨a0, u1, u2, u3, u4⟩ := r1.own k s' q ho
              rw [t1] at u1
              cases u1
              obtain ⟨o, u5⟩ := u2.some
              rw [upd_ne (fun z => by rw [z, hD] at u5; cases u5)]
            · cases z4 : lcL h ft fe (wipeE ρ zs) (ds.drop (i + 1)) with
              | ok rs =>
                rw [z4] at w3
                rw [bind_ok, List.append_assoc]
                exact w3
              | exc x => rw [z4] at w3; exact w3
              | bad => rw [z4] at w3; exact w3
  · have e : i = ds.length := by omega
    subst e
    rw [List.drop_length] at w2
    have w3 : Wish X.K ca (SF X.K ca Hx Q) G1 H1 (.ok (acc ++ [])) (WE W σ) := w2
    rw [List.append_nil] at w3
    exact .inl ⟨j2 rfl, w3 G2 H2 e2 D vs (same_none (hx.trans x1.hh) hD) g2 d2 a2⟩
  · exact w1.elim
theorem fl_lc (hc : X.calm = true) (hN : X.N.Nodup) (hi : FI X ca W tg iter fi) (ok : BlkOk X.N X.env.scope scope own)
    (hg : ∀ (s : Shared) (H : Hp) (C : Addr) (cl : List (Str × Addr)) (fp : List Addr), FG (X.blk s H scope (compEnvC scope cl C X.env) fp) ca (own.map (·.2)) tg h) (ht : ∀ (s : Shared) (H : Hp) (C : Addr) (cl : List (Str × Addr)) (fp : List Addr), FTs (X.blk s H scope (compEnvC scope cl C X.env) fp) ca W0 ifs ft)
    (he : ∀ (s : Shared) (H : Hp) (C : Addr) (cl : List (Str × Addr)) (fp : List Addr), FE (X.blk s H scope (compEnvC scope cl C X.env) fp) ca W0 elt fe) (hs : ∀ x, foldedSetIterable iter X.env x = pure x := by intro _; rfl) :
    FL X ca W (.ListComp elt [⟨tg, iter, ifs, 0⟩] scope pos) (lLc (own.map (·.2)) fi h ft fe) := by
  obtain ⟨tl, pl, ki⟩ := hi.ex
  refine ⟨_, pe_lc (g := tGc X.K ca (own.map (·.2)) h) (tt := tT X.K ca W0 ft) (te := tE X.K ca W0 fe) hc hN pl ok (fun s H C cl fp => (hg s H C cl fp).can) (fun s H C cl fp => (ht s H C cl fp).ex) (fun s H C cl fp => (he s H C cl fp).can) hs, fun B G H σ ρ Q s b r w => ?_⟩
  exact lc_tailF ki B G H σ ρ H Q s b r (.refl H) w
/-- name = [..] -/
theorem fs_ownLc {i : Nat} {y : Str} {py spos : Pos} (hc : X.calm = true) (hN : X.N.Nodup) (hy : X.N[i]? = some y) (hyl : X.env.scope.names.lookup y = some .local) (hsw : swapsWith (.ListComp elt [⟨tg, iter, ifs, 0⟩] scope pos) (some (.Name y py)) spos.line X.env = pure true)
    (hi : FI X ca W tg iter fi) (ok : BlkOk X.N X.env.scope scope own)
    (hg : ∀ (s : Shared) (H : Hp) (C : Addr) (cl : List (Str × Addr)) (fp : List Addr), FG (X.blk s H scope (compEnvC scope cl C X.env) fp) ca (own.map (·.2)) tg h) (ht : ∀ (s : Shared) (H : Hp) (C : Addr) (cl : List (Str × Addr)) (fp : List Addr), FTs (X.blk s H scope (compEnvC scope cl C X.env) fp) ca W0 ifs ft)
    (he : ∀ (s : Shared) (H : Hp) (C : Addr) (cl : List (Str × Addr)) (fp : List Addr), FE (X.blk s H scope (compEnvC scope cl C X.env) fp) ca W0 elt fe) (hs : ∀ x, foldedSetIterable iter X.env x = pure x := by intro _; rfl) :
    FS X ca W (.Assign [.Name y py] (.ListComp elt [⟨tg, iter, ifs, 0⟩] scope pos) spos) (sOwn i (lLc (own.map (·.2)) fi h ft fe)) := by
  obtain ⟨tl, pl, ki⟩ := hi.ex
  refine ⟨_, ps_setLc (g := tGc X.K ca (own.map (·.2)) h) (tt := tT X.K ca W0 ft) (te := tE X.K ca W0 fe) hc hN hy hyl hsw pl ok (fun s H C cl fp => (hg s H C cl fp).can) (fun s H C cl fp => (ht s H C cl fp).ex) (fun s H C cl fp => (he s H C cl fp).can) hs, fun B G H σ ρ D s b r w => ?_⟩
  refine lc_tailF ki B G H σ ρ H _ s b r (.refl H) ?_
  refine WishS.from w b r fun ds G1 H1 _ x w1 r1 b1 q vs n g hq av => w1 _ G1 H1 (.refl x.gh b1) ?_
  refine r1.setOwn i rfl ⟨vs, hq, av⟩ g (same_none b n) fun j t' _ q' o' z => ?_
  obtain ⟨a, h1, h2, h3, h4⟩ := r.own j t' q' o'
  rw [z] at h1
  cases h1
  obtain ⟨ob, h5⟩ := h2.some
  rw [n] at h5
  cases h5
end
/-! ### x[i] = e; x[i], x an own list -/
def sPutL (i : Nat) (f fi : Ev → R D) : Ev → SO := fun ρ => SO.from ρ (f ρ) fun d => SO.from ρ (ownL ρ i) fun xs => SO.from ρ (fi ρ) fun n => match n with
  | .int k => (match ixN xs.length k with
    | some j => .nx (ρ.set i (.l (xs.set j d)))
    | none => .bad)
  | _ => .bad
def eOwnIx (i : Nat) (fi : Ev → R D) : Ev → R D := fun ρ => (ownL ρ i).bind fun xs => (fi ρ).bind fun n => gIx (.lst xs) n
section
variable {X : Cx} {ca : Cn} {W : WX} {e ei : Expr} {f fi : Ev → R D} {pos p py : Pos} {i : Nat} {y : Str}
theorem fs_putL (hi : X.N[i]? = some y) (h : FE X ca W e f) (hx : FE X ca W ei fi) (hv : Vis X.env.scope y := by first | exact Or.inl rfl | exact Or.inr (Or.inl rfl) | exact Or.inr (Or.inr rfl)) (hd : (y == ("__debug__" : Str)) = false := by decide) (hcd : (y == ("__classdict__" : Str)) = false := by decide)
    (ha : ∀ v, assign (.Subscript (.Name y py) ei p) X.env v = (do
      let ov ← holding [v] (eval (.Name y py) X.env)
      let iv ← holding [v, ov] (eval ei X.env)
      standAt p
      holding [v, ov, iv] (setItem ov iv v)
      release [v, ov, iv] []) := by intro _; rfl)
    (hs : swapsWithSole [.Subscript (.Name y py) ei p] e pos.line X.env = pure false := by rfl) (hw : swappedStores [.Subscript (.Name y py) ei p] e X.env = pure none := by rfl)
    (h1 : (assignEach [.Subscript (.Name y py) ei p] X.env).map (·.2) = [assign (.Subscript (.Name y py) ei p) X.env] := by rfl) : FS X ca W (.Assign [.Subscript (.Name y py) ei p] e pos) (sPutL i f fi) := by
  obtain ⟨t, pp, k⟩ := h.ex
  obtain ⟨u, pu, ku⟩ := hx.ex
  refine ⟨_, ps_asg pp (pg_sub (pe_var hi hv hd hcd) pu set_list ha) hs hw h1, fun B G H σ ρ D s b r w => k B G H σ ρ _ s b r ?_⟩
  refine WishS.from w b r fun d G1 H1 _ x w1 r1 b1 v av => ?_
  cases z : ownL ρ i with
  | exc x => unfold ownL at z; split at z <;> cases z
  | bad => rw [z] at w1; exact w1.elim
  | ok xs =>
    rw [z] at w1
    obtain ⟨q, a, vs, h1, h2, h3, h4, h5⟩ := own_l z r1
    refine ⟨_, h1, ku B G1 H1 σ ρ _ x.gh b1 r1 ?_⟩
    refine WishS.from w1 b1 r1 fun n G2 H2 _ x2 w2 r2 b2 nv an => ?_
    cases n with
    | int kk =>
      cases an
      have w3 : WishS X.K ca B G2 (match ixN xs.length kk with | some j => .nx (ρ.set i (.l (xs.set j d))) | none => .bad) D W := w2
      split at w3
      · rename_i j hj
        have l := h3.length
        obtain ⟨t1, t2, t3⟩ := r2.turn x2.gh b2 (t' := .l (xs.set j d)) (o := .lst (vs.set j v)) q rfl rfl h1 ⟨_, upd_same, (AtL.mono x2.gg h3).set j (At.mono x2.gg av)⟩
        exact ⟨a, vs, kk, j, rfl, rfl, x2.hh _ _ h2, by rw [← l]; exact hj, w3 _ G2 _ ⟨.refl _, t2, t3, fun c z => .inl z⟩ t1⟩
      · exact w3.elim
    | _ => exact w2.elim
theorem fe_ownIx (hp : PlainIx ei) (hi : X.N[i]? = some y) (hx : FE X ca W ei fi) (hv : Vis X.env.scope y := by first | exact Or.inl rfl | exact Or.inr (Or.inl rfl) | exact Or.inr (Or.inr rfl)) (hd : (y == ("__debug__" : Str)) = false := by decide) (hcd : (y == ("__classdict__" : Str)) = false := by decide) :
    FE X ca W (.Subscript (.Name y py) ei p) (eOwnIx i fi) := by
  obtain ⟨u, pu, ku⟩ := hx.ex
  refine ⟨_, pe_ix ix_seq (pe_var hi hv hd hcd) pu hp, fun B G H σ ρ Q s b r w => ?_⟩
  unfold eOwnIx at w
  cases z : ownL ρ i with
  | exc x => unfold ownL at z; split at z <;> cases z
  | bad => rw [z] at w; exact w.elim
  | ok xs =>
    rw [z] at w
    obtain ⟨q, a, vs, h1, h2, h3, h4, h5⟩ := own_l z r
    refine ⟨_, h1, ku B G H σ ρ _ s b r (Wish.bind w fun n G1 H1 _ x1 w1 nv an => ?_)⟩
    unfold gIx at w1
    split at w1
    · rename_i e _
      cases e
      obtain ⟨d, e, w2⟩ := wish_opt' w1
      obtain ⟨v, e2, a2⟩ := (AtL.mono x1.gg h3).atI e
      exact .inl ⟨a, vs, _, v, rfl, an, .of (x1.hh _ _ h2), e2, w2.here x1.gh _ a2⟩
    · rename_i e _; cases e
    · rename_i e _; cases e
    · rename_i e _; cases e
    · exact w1.elim
end
end Tk

namespace Tk
open PySem PySem.Spec L2 PyProof.Rows
/-! ### classes: own instances -/
def nmOf (l : List Str) (k : Nat) : Str := l.getD k Str.empty
theorem nm_inj {l : List Str} {f : Nat} (nd : l.Nodup) (h : f < l.length) (ne : Str.empty ∉ l) : ∀ k, nmOf l k = nmOf l f → k = f := fun k e => by
  unfold nmOf at e
  rw [List.getD_eq_getElem?_getD, List.getD_eq_getElem?_getD, List.getElem?_eq_getElem h] at e
  by_cases hk : k < l.length
  · rw [List.getElem?_eq_getElem hk] at e
    have e2 : l[k] = l[f] := e
    rcases Nat.lt_trichotomy k f with z | z | z
    · exact absurd e2 (List.pairwise_iff_getElem.mp nd k f hk h z)
    · exact z
    · exact absurd e2.symm (List.pairwise_iff_getElem.mp nd f k h hk z)
  · rw [List.getElem?_eq_none (by omega)] at e
    have e2 : Str.empty = l[f] := e
    exact absurd (e2 ▸ List.getElem_mem h) ne
def putN (f : Nat) (d : D) : List (Nat × D) → List (Nat × D)
  | [] => [(f, d)]
  | (g, x) :: r => if g = f then (g, d) :: r else (g, x) :: putN f d r
section
variable {K : PySem.W.Frag} {ca : Cn} {G : Hp}
theorem AtF.put {f : Nat} {d : D} {v : V} (hi : ∀ k, ca.n k = ca.n f → k = f) (h : At K ca G d v) : ∀ {fs : List (Nat × D)} {vs : List (Str × V)}, AtF K ca G fs vs → AtF K ca G (putN f d fs) (putF (ca.n f) v vs)
  | [], vs, a => by cases a; exact ⟨v, [], rfl, h, rfl⟩
  | (g, x) :: r, vs, ⟨u, us, e, b, t⟩ => by
    subst e
    unfold putN putF
    by_cases z : g = f
    · subst z
      rw [if_pos rfl, if_pos rfl]
      exact ⟨v, us, rfl, h, t⟩
    · rw [if_neg z, if_neg fun y => z (hi g y)]
      exact ⟨u, _, rfl, b, AtF.put hi h t⟩
theorem AtF.length : ∀ {fs : List (Nat × D)} {vs : List (Str × V)}, AtF K ca G fs vs → fs.length = vs.length
  | [], _, h => by cases h; rfl
  | (_, _) :: _, _, ⟨_, _, e, _, t⟩ => by subst e; simp [AtF.length t]
end
def ownO (ρ : Ev) (i : Nat) : R (Option Addr × Nat × List (Nat × D)) := match ρ[i]? with
  | some (.o g c fs) => .ok (g, c, fs)
  | _ => .bad
/-- self.f = e -/
def sFldO (cs : List Nat) (i f : Nat) (fe : Ev → R D) : Ev → SO := fun ρ => SO.from ρ (fe ρ) fun d => SO.from ρ (ownO ρ i) fun q => if q.2.1 ∈ cs ∧ q.2.2.length < 1000 then .nx (ρ.set i (.o q.1 q.2.1 (putN f d q.2.2))) else .bad
def eFldO (cs : List Nat) (i f : Nat) : Ev → R D := fun ρ => (ownO ρ i).bind fun q => if q.2.1 ∈ cs then optR (q.2.2.lookup f) else .bad
section
variable {X : Cx} {ca : Cn} {W : WX} {e : Expr} {fe : Ev → R D} {pos p py pos' : Pos} {i f : Nat} {y nm : Str} {cs : List Nat}
theorem own_o {K : PySem.W.Frag} {B G H : Hp} {σ : L2.St} {ρ : Ev} {i : Nat} {q : Option Addr × Nat × List (Nat × D)} (h : ownO ρ i = .ok q) (r : Rel K ca B G H σ ρ) :
    ρ[i]? = some (.o q.1 q.2.1 q.2.2) ∧ ∃ a C dx vs, σ[i]? = some (some (.ref a)) ∧ (∀ b, q.1 = some b → a = b) ∧ ca.a q.2.1 = some C ∧ H a = some (.ins C dx vs) ∧ AtF K ca G q.2.2 vs ∧ G a = none ∧ B a = none := by
  unfold ownO at h
  split at h
  · rename_i g c fs z
    cases h
    obtain ⟨a, h1, ⟨C, dx, vs, hg, h2, h3, h4⟩, h5, h6⟩ := r.own i _ z rfl
    exact ⟨z, a, C, dx, vs, h1, hg, h2, h3, h4, h5, h6⟩
  · cases h
theorem fs_fldO (hi : X.N[i]? = some y) (hf : ca.n f = nm) (hn : ∀ k, ca.n k = ca.n f → k = f) (hc : ∀ c ∈ cs, ∀ C, ca.a c = some C → Cls X.K C ∧ NoAttr X.K C nm) (h : FE X ca W e fe)
    (hv : Vis X.env.scope y := by first | exact Or.inl rfl | exact Or.inr (Or.inl rfl) | exact Or.inr (Or.inr rfl)) (hd : (y == ("__debug__" : Str)) = false := by decide) (hcd : (y == ("__classdict__" : Str)) = false := by decide)
    (hs : swapsWith e (some (.Attribute (.Name y py) nm pos')) pos.line X.env = pure false := by rfl) : FS X ca W (.Assign [.Attribute (.Name y py) nm pos'] e pos) (sFldO cs i f fe) := by
  obtain ⟨t, pp, k⟩ := h.ex
  refine ⟨_, ps_fld (pe_var hi hv hd hcd) pp hs, fun B G H σ ρ D s b r w => k B G H σ ρ _ s b r ?_⟩
  refine WishS.from w b r fun d G1 H1 _ x w1 r1 b1 v av => ?_
  cases z : ownO ρ i with
  | exc x => unfold ownO at z; split at z <;> cases z
  | bad => rw [z] at w1; exact w1.elim
  | ok q =>
    rw [z] at w1
    obtain ⟨q0, a, C, dx, vs, h1, hg, h2, h3, h4, h5, h6⟩ := own_o z r1
    have w2 : WishS X.K ca B G1 (if q.2.1 ∈ cs ∧ q.2.2.length < 1000 then .nx (ρ.set i (.o q.1 q.2.1 (putN f d q.2.2))) else .bad) D W := w1
    split at w2
    · rename_i hm
      have l := h4.length
      obtain ⟨t1, t2, t3⟩ := r1.turn x.gh b1 (t' := .o q.1 q.2.1 (putN f d q.2.2)) (o := .ins C dx (putF nm v vs)) q0 rfl rfl h1 ⟨C, dx, _, hg, h2, upd_same, hf ▸ h4.put hn av⟩
      exact ⟨_, h1, a, C, dx, vs, rfl, h3, (hc _ hm.1 C h2).1, (hc _ hm.1 C h2).2, by rw [← l]; exact hm.2, w2 _ G1 _ ⟨.refl _, t2, t3, fun c z => .inl z⟩ t1⟩
    · exact w2.elim
theorem fe_fldO (hi : X.N[i]? = some y) (hf : ca.n f = nm) (hn : ∀ k, ca.n k = ca.n f → k = f) (hc : ∀ c ∈ cs, ∀ C, ca.a c = some C → Cls X.K C ∧ NoAttr X.K C nm)
    (hv : Vis X.env.scope y := by first | exact Or.inl rfl | exact Or.inr (Or.inl rfl) | exact Or.inr (Or.inr rfl)) (hd : (y == ("__debug__" : Str)) = false := by decide) (hcd : (y == ("__classdict__" : Str)) = false := by decide)
    (hb : attributeBase (.Name y py) nm X.env (eval (.Name y py) X.env) = eval (.Name y py) X.env := by rfl) : FE X ca W (.Attribute (.Name y py) nm pos) (eFldO cs i f) := by
  refine ⟨_, pe_fld (pe_var hi hv hd hcd) hb, fun B G H σ ρ Q s b r w => ?_⟩
  unfold eFldO at w
  cases z : ownO ρ i with
  | exc x => unfold ownO at z; split at z <;> cases z
  | bad => rw [z] at w; exact w.elim
  | ok q =>
    rw [z] at w
    obtain ⟨q0, a, C, dx, vs, h1, hg, h2, h3, h4, h5, h6⟩ := own_o z r
    have w2 : Wish X.K ca (SV X.K ca Q) G H (if q.2.1 ∈ cs then optR (q.2.2.lookup f) else .bad) (WE W σ) := w
    split at w2
    · rename_i hm
      obtain ⟨d, e, w3⟩ := wish_opt' w2
      obtain ⟨v, l1, l2⟩ := h4.lookup (fun p _ q => hn _ q) e
      rw [hf] at l1
      exact ⟨_, h1, a, C, dx, vs, v, rfl, h3, (hc _ hm C h2).1, (hc _ hm C h2).2, l1, w3.here s _ l2⟩
    · exact w2.elim
end
/-! ### a new object as a value -/
def eFrz (f : Ev → R Sl) : Ev → R D := fun ρ => (f ρ).bind frzR
theorem own_frzR {s : Sl} {d : D} (h : frzR s = .ok d) : s.own = true ∧ frzS s = .v d := by
  cases s with
  | no => cases h
  | v _ => cases h
  | l _ => cases h; exact ⟨rfl, rfl⟩
  | k _ => cases h; exact ⟨rfl, rfl⟩
  | t _ => cases h; exact ⟨rfl, rfl⟩
  | o _ _ _ => cases h; exact ⟨rfl, rfl⟩
theorem frzR_ne {s : Sl} {x : Ex} : frzR s ≠ .exc x := by cases s <;> exact fun h => by cases h
section
variable {K : PySem.W.Frag} {ca : Cn} {G H : Hp}
theorem wish_frz {r : R Sl} {Q : VK} {W1 : XK} (h : Wish K ca (SV K ca Q) G H (r.bind frzR) W1) : Wish K ca (SN K ca H Q) G H r W1 := by
  cases r with
  | ok s =>
    have h1 : Wish K ca (SV K ca Q) G H (frzR s) W1 := h
    cases e : frzR s with
    | bad => rw [e] at h1; exact h1.elim
    | exc x => exact (frzR_ne e).elim
    | ok d =>
      rw [e] at h1
      obtain ⟨o1, o2⟩ := own_frzR e
      refine fun G' H' x => ⟨o1, fun a oa ga ha => ?_⟩
      obtain ⟨o, ho⟩ := oa.some
      have gg : Same G' (upd G' a o) := same_upd ga
      have gh : Same (upd G' a o) H' := fun c u e => by
        by_cases w : c = a
        · subst w; rw [upd_same] at e; rw [ho]; exact e
        · rw [upd_ne w] at e; exact x.gh c u e
      obtain ⟨d2, e1, e2⟩ := oa.at_ gg (show upd G' a o a = H' a by rw [upd_same, ho])
      rw [o2] at e1
      cases e1
      refine h1 (upd G' a o) H' ⟨x.hh, x.gg.trans gg, gh, fun c n => ?_⟩ (.ref a) e2
      by_cases w : c = a
      · subst w; exact .inr ha
      · rw [upd_ne w] at n; exact x.nw c n
  | exc x => exact h
  | bad => exact h
end
theorem fe_new {X : Cx} {ca : Cn} {W : WX} {e : Expr} {f : Ev → R Sl} (h : FN X ca W e f) : FE X ca W e (eFrz f) := by
  obtain ⟨t, p, k⟩ := h.ex
  exact ⟨t, p, fun B G H σ ρ Q s b r w => k B G H σ ρ Q s b r (wish_frz w)⟩
/-! ### __init__ -/
/-- what is wanted of the fields: the instance stands at a -/
def SI (K : PySem.W.Frag) (ca : Cn) (c : Nat) (a : Addr) (Q : VK) : Hp → List (Nat × D) → Hp → Prop := fun G' fs H' => Own K ca G' H' a (.o (some a) c fs) → G' a = none → Q .non H'
def spI (K : PySem.W.Frag) (ca : Cn) (c n : Nat) (F : Addr → List D → R (List (Nat × D))) : Sp := fun vs H Q E => vs.length = n ∧ ∃ B G ds a C dx us, vs = .ref a :: us ∧ ca.a c = some C ∧ H a = some (.ins C dx []) ∧ B a = none ∧ Same B H ∧ Same G B ∧ AtL K ca G ds us ∧ Wish K ca (SI K ca c a Q) G B (F a ds) E
def SO.outI (a : Addr) (c : Nat) : SO → R (List (Nat × D))
  | .nx ρ => (match ρ with
    | .o g c' fs :: _ => if g = some a ∧ c' = c then .ok fs else .bad
    | _ => .bad)
  | .ex x _ => .exc x
  | _ => .bad
def startI (a : Addr) (c n : Nat) (ds : List D) : Ev := .o (some a) c [] :: (ds.map Sl.v ++ List.replicate (n - ds.length - 1) .no)
def runI (c n : Nat) (g : Ev → SO) : Addr → List D → R (List (Nat × D)) := fun a ds => (g (startI a c n ds)).outI a c
theorem rel_startI {K : PySem.W.Frag} {ca : Cn} {B G H : Hp} {N : List Str} {ds : List D} {us : List V} {c : Nat} {a C : Addr} {dx : Addr} (hN : ds.length < N.length) (at_ : AtL K ca G ds us) (hc : ca.a c = some C) (ha : H a = some (.ins C dx [])) (ga : G a = none) (ba : B a = none) :
    Rel K ca B G H (L2.start N (.ref a :: us)) (startI a c N.length ds) := by
  have l := at_.length
  have own : ∀ {i : Nat} {s : Sl}, (startI a c N.length ds)[i]? = some s → s.own = true → i = 0 ∧ s = .o (some a) c [] := fun {i s} e o => by
    cases i with
    | zero => exact ⟨rfl, (Option.some.inj e).symm⟩
    | succ i => exact (own_start (ds := ds) (i := i) (n := N.length - ds.length - 1) (by simpa [startI] using e) o).elim
  refine ⟨?_, fun i d e => ?_, fun i s e o => ?_, fun i j s t x e o e2 o2 _ _ => ?_⟩
  · unfold L2.start startI
    simp only [List.length_cons, List.length_append, List.length_map, List.length_replicate]
    omega
  · cases i with
    | zero => cases e
    | succ i =>
      have e' : (ds.map Sl.v ++ List.replicate (N.length - ds.length - 1) Sl.no)[i]? = some (.v d) := by simpa [startI] using e
      obtain ⟨v, h1, h2⟩ := vals_start at_ e'
      refine ⟨v, ?_, h2⟩
      show ((V.ref a :: us).map some ++ List.replicate (N.length - (V.ref a :: us).length) none)[i + 1]? = _
      rw [List.map_cons, List.cons_append, List.getElem?_cons_succ, List.length_cons, ← l, show N.length - (ds.length + 1) = N.length - ds.length - 1 by omega]
      exact h1
  · obtain ⟨rfl, rfl⟩ := own e o
    exact ⟨a, rfl, ⟨C, dx, [], fun b e => Option.some.inj e, hc, ha, rfl⟩, ga, ba⟩
  · rw [(own e o).1, (own e2 o2).1]
section
variable {P : Program} {w : World} {K : PySem.W.Frag} {mg : Str → Option Value} {base : Heap} {ca : Cn}
theorem body_okI {X : Cx} {W : WX} {body : List Stmt} {g : Ev → SO} {H B : Hp} {us : List V} {ds : List D} {G : Hp} {Q : VK} {E : XK} {N : List Str} {c : Nat} {a C dx : Addr} (hK : X.K = K) (h : FSs X ca W body g) (hW : ∀ c d σ H', E c d H' → W c d σ H')
    (hN : ds.length < N.length) (hc : ca.a c = some C) (ha : H a = some (.ins C dx [])) (hb : B a = none) (s1 : Same B H) (s2 : Same G B) (at_ : AtL K ca G ds us) (q : Wish K ca (SI K ca c a Q) G B (runI c N.length g a ds) E) :
    ∃ t, PSs X body t ∧ t { nx := fun _ H' => Q .non H', rt := Q } (L2.start N (.ref a :: us)) H := by
  subst hK
  obtain ⟨t, p, k⟩ := h.ex
  have ga := same_none s2 hb
  refine ⟨t, p, k B G H _ (startI a c N.length ds) _ (s2.trans s1) s1 (rel_startI hN at_ hc ha ga hb) ?_⟩
  unfold runI at q
  have up : ∀ {G' H' : Hp}, Adv B G G' H' → Ext G B G' H' := fun x => ⟨x.bh, x.gg, x.gh, x.nw⟩
  have z0 : (L2.start N (.ref a :: us))[0]? = some (some (.ref a)) := rfl
  cases z : g (startI a c N.length ds) with
  | nx ρ =>
    rw [z] at q
    intro σ' G' H' x r
    cases ρ with
    | nil => exact q.elim
    | cons s0 ρ =>
      cases s0 with
      | o g0 c' fs =>
        have q2 : Wish X.K ca (SI X.K ca c a Q) G B (if g0 = some a ∧ c' = c then .ok fs else .bad) E := q
        split at q2
        · rename_i ec
          obtain ⟨rfl, rfl⟩ := ec
          obtain ⟨a', h1, h2, h3, h4⟩ := r.own 0 _ rfl rfl
          obtain ⟨C', dx', vs', hg, h5⟩ := id h2
          have ea := hg a rfl
          subst ea
          exact q2 G' H' (up x) h2 h3
        · exact q2.elim
      | _ => exact q.elim
  | ex x ρ => rw [z] at q; exact fun σ' G' H' c dx y r e => hW _ _ _ _ (q G' H' c dx (up y) e)
  | ro sl => rw [z] at q; exact q.elim
  | rt d => rw [z] at q; exact q.elim
  | bk ρ => rw [z] at q; exact q.elim
  | ct ρ => rw [z] at q; exact q.elim
  | bad => rw [z] at q; exact q.elim
theorem fn_okI {x qual : Str} {params : Arguments} {body : List Stmt} {scope : Scope} {dvs : List V} {kws : List (Str × V)} {f : Addr} {fd : FuncData} {N ps : List Str} {k c : Nat} {g : Ev → SO} (F : FunD K x qual params body scope dvs kws f fd) (S : FnScope N ps scope) (hN : ps.length ≤ N.length)
    (hb : ∀ (cdv : Value) (A : Around) (outer : List Env) (s : Shared) (H : Hp) (E : XK), Room k (A.deeper (envOfC qual scope s.heap.objs.size f cdv)) →
      FSs (cxOf (L2.CX P w) P w K mg base N qual scope f cdv A outer s H E) ca (fun c d _ H' => E c d H') body g) : FnOk P w K mg base (L2.CX P w) (k + 1) f fd ps (spI K ca c ps.length (runI c N.length g)) :=
  F.ok S (fun vs H Q E h => h.1) fun cdv A outer s H vs Q E hr h => by
    obtain ⟨l, B, G, ds, a, C, dx, us, rfl, hc, ha, hb', s1, s2, at_, q⟩ := h
    have l2 := at_.length
    have l3 : us.length + 1 = ps.length := l
    exact body_okI rfl (hb cdv A outer s H E hr) (fun _ _ _ _ z => z) (by omega) hc ha hb' s1 s2 at_ q
/-- a class's __init__ -/
structure DefI (P : Program) (w : World) (K : PySem.W.Frag) (mg : Str → Option Value) (base : Heap) (ca : Cn) (k c : Nat) (x qual : Str) (st : Stmt) (dd : List D) (kd : List (Str × D)) (ps : List Str) (F : Addr → List D → R (List (Nat × D))) : Prop where
  ex : ∃ f fd C, FnOk P w K mg base (L2.CX P w) k f fd ps (spI K ca c ps.length F) ∧ Mk K C f ∧ ca.a c = some C ∧ mg x = some (.ref C) ∧ FD K "__init__" qual st dd kd f fd
/-- a class that makes instances; its __init__ -/
structure ClAt (K : PySem.W.Frag) (mg : Str → Option Value) (ca : Cn) (c : Nat) (x qual : Str) (st : Stmt) (dd : List D) (kd : List (Str × D)) : Prop where
  ex : ∃ f fd C, FD K "__init__" qual st dd kd f fd ∧ Mk K C f ∧ ca.a c = some C ∧ mg x = some (.ref C)
variable {x qual : Str} {st : Stmt} {dd : List D} {kd : List (Str × D)} {ps N : List Str} {k c : Nat} {g : Ev → SO}
theorem DefI.of (h : ClAt K mg ca c x qual st dd kd) (S : FnScope N ps (defScope st)) (hN : ps.length ≤ N.length) (hb : ∀ (f : Addr) (cdv : Value) (A : Around) (outer : List Env) (s : Shared) (H : Hp) (E : XK), Room k (A.deeper (envOfC qual (defScope st) s.heap.objs.size f cdv)) →
      FSs (cxOf (L2.CX P w) P w K mg base N qual (defScope st) f cdv A outer s H E) ca (fun c d _ H' => E c d H') (defBody st) g) : DefI P w K mg base ca (k + 1) c x qual st dd kd ps (runI c N.length g) := by
  obtain ⟨f, fd, C, F, h1, h2, h3⟩ := h.ex
  exact ⟨f, fd, C, fn_okI F S hN (hb f), h1, h2, h3, F⟩
end
/-- a result that leans on no address -/
noncomputable def unA {α : Type} (F : Addr → R α) : R α := by
  classical exact if ∀ a, F a = F 0 then F 0 else .bad
theorem unA_eq {α : Type} {F : Addr → R α} {r : R α} (h : ∀ a, F a = r) : unA F = r := by
  classical
  unfold unA
  rw [if_pos (fun a => (h a).trans (h 0).symm), h 0]
theorem unA_at {α : Type} {F : Addr → R α} (a : Addr) : F a = unA F ∨ unA F = .bad := by
  classical
  unfold unA
  by_cases h : ∀ a, F a = F 0
  · rw [if_pos h]; exact .inl (h a)
  · rw [if_neg h]; exact .inr rfl
noncomputable def nMake (c n : Nat) (F : Addr → List D → R (List (Nat × D))) (fa : Ev → R (List D)) : Ev → R Sl := fun ρ => (fa ρ).bind fun ds => if ds.length + 1 = n then (unA fun a => F a ds).bind fun fs => .ok (.o none c fs) else .bad
/-- how a call with keywords lays its values behind self -/
structure KBI (K : PySem.W.Frag) (ca : Cn) (fd : FuncData) (ps : List Str) (n : Nat) (ks : List Str) (gD : List D → List D → List D) : Prop where
  ex : ∃ g gV, KBn K fd ps (n + 1) ks g gV ∧ ∀ x vs zs, ∃ us, gV (x :: vs) zs = x :: us ∧ ∀ G ds ws, AtL K ca G ds vs → AtL K ca G ws zs → AtL K ca G (gD ds ws) us
noncomputable def nMakeK (c n m p : Nat) (F : Addr → List D → R (List (Nat × D))) (gD : List D → List D → List D) (fa fk : Ev → R (List D)) : Ev → R Sl := fun ρ => (fa ρ).bind fun ds => (fk ρ).bind fun zs => if ds.length = n ∧ zs.length = m ∧ (gD ds zs).length + 1 = p then (unA fun a => F a (gD ds zs)).bind fun fs => .ok (.o none c fs) else .bad
section
variable {X : Cx} {ca : Cn} {W : WX} {k j c n : Nat} {x qual : Str} {st : Stmt} {dd : List D} {kd : List (Str × D)} {ps ks : List Str} {Fn : Addr → List D → R (List (Nat × D))} {p pos : Pos} {e : Expr} {es : List Expr} {kws : List Keyword} {fa fk : Ev → R (List D)} {gD : List D → List D → List D}
/-- the wish of a new instance gives the promise of its __init__ -/
theorem make_wish {K : PySem.W.Frag} {ca : Cn} {c np : Nat} {Fn : Addr → List D → R (List (Nat × D))} {G1 H1 H0 : Hp} {ds : List D} {vs : List V} {Q : VK} {E : XK} {C : Addr} (hc : ca.a c = some C) (h0 : Same H0 H1) (sg : Same G1 H1) (a1 : AtL K ca G1 ds vs) (hl : ds.length + 1 = np)
    (w1 : Wish K ca (SN K ca H0 Q) G1 H1 ((unA fun a => Fn a ds).bind fun fs => .ok (.o none c fs)) E) {a dx : Addr} (n1 : H1 a = none) (n2 : H1 dx = none) (ne : dx ≠ a) :
    spI K ca c np Fn (.ref a :: vs) (upd (upd H1 dx (.own a)) a (.ins C dx [])) (fun v H2 => v = .non ∧ Q (.ref a) H2) E := by
  refine ⟨by rw [List.length_cons, ← a1.length]; exact hl, H1, G1, ds, a, C, dx, vs, rfl, hc, upd_same, n1, (same_upd n2).trans (same_upd (by rw [upd_ne (Ne.symm ne)]; exact n1)), sg, a1, ?_⟩
  rcases unA_at (F := fun a => Fn a ds) a with q | q
  · have q : Fn a ds = unA fun a => Fn a ds := q
    rw [q]
    cases z : unA fun a => Fn a ds with
    | ok fs =>
      rw [z] at w1
      refine fun G' H' y oa ga => ⟨rfl, ?_⟩
      obtain ⟨C', dx', vs', hg, h5⟩ := id oa
      exact (w1 G' H' y).2 a ⟨C', dx', vs', (fun b e => by cases e), h5⟩ ga (same_none h0 n1)
    | exc x => rw [z] at w1; exact w1
    | bad => rw [z] at w1; exact w1.elim
  · have q : (unA fun a => Fn a ds) = .bad := q
    rw [q] at w1; exact w1.elim
theorem run_makeS {pins : List (Addr × Obj)} {σ : L2.St} {H : Hp} {s : Shared} {Q : VK} {us : List Value} {vs : List V} {f C : Addr} {fd : FuncData} {sp : Sp} {E : XK} (M : Mk X.K C f) (F : FnOk X.prog X.w X.K X.mg X.base (L2.CX X.prog X.w) k f fd ps sp) (hr : Room (k + 1) X.A) (hb : Binds X.K fd ps [])
    (hx : PassesAt (L2.CX X.prog X.w) X σ E) (I : Inv X pins σ H s) (r : Vals vs us)
    (h : ∀ x dx, H x = none → H dx = none → dx ≠ x → sp (.ref x :: vs) (upd (upd H dx (.own x)) x (.ins C dx [])) (fun v H2 => v = .non ∧ Q (.ref x) H2) E) :
    wpAny (model X.prog X.w) X.A (call (.ref C) us) (EP X pins σ Q) X.xe s := by
  have hq := h (s.heap.objs.size + 1) s.heap.objs.size (I.hok.fresh (Nat.le_succ _)) (I.hok.fresh (Nat.le_refl _)) (Nat.ne_of_lt (Nat.lt_succ_self _))
  have I2 := Inv.made (C := C) I
  have r2 : Vals (V.ref (s.heap.objs.size + 1) :: vs) (Value.ref (s.heap.objs.size + 1) :: us) := .cons rfl r
  have hl : (Value.ref (s.heap.objs.size + 1) :: us).length = ps.length := by
    have e := r2.length
    rw [F.len _ _ _ _ hq] at e
    exact e.symm
  have bt := hb _ (Value.ref (s.heap.objs.size + 1) :: us) I2.kIn (by rw [List.append_nil]; exact hl)
  rw [List.append_nil] at bt
  refine wpAny_call (make_map (f := f) I.kIn M.makes M.init (beq_iff_eq.mp M.fn) (codeAny_mono (F.run _ X.stack _ _ ⟨Value.ref (s.heap.objs.size + 1) :: us, []⟩ (Value.ref (s.heap.objs.size + 1) :: us) _ _ E (hr.make C us [])
    (I2.env0.make C us []) bt r2 hq) fun r s' hq' => ?_))
  cases r with
  | error e => exact hx pins _ _ e s' I2 hq'
  | ok fl =>
    cases fl with
    | ret u =>
      obtain ⟨v, H', I3, rv, ev, q3⟩ := I2.after hq'
      subst ev
      exact ⟨rv, ⟨V.ref (s.heap.objs.size + 1), H', I3, rfl, q3⟩⟩
    | next => exact False.elim hq'
    | brk => exact False.elim hq'
    | cont => exact False.elim hq'
theorem run_makeKS {pins : List (Addr × Obj)} {σ : L2.St} {H : Hp} {s : Shared} {Q : VK} {us ws : List Value} {vs zs : List V} {f C : Addr} {fd : FuncData} {sp : Sp} {E : XK} {g : List Value → List Value → List Value} {gV : List V → List V → List V} (M : Mk X.K C f) (F : FnOk X.prog X.w X.K X.mg X.base (L2.CX X.prog X.w) k f fd ps sp) (hr : Room (k + 1) X.A) (hb : KBn X.K fd ps (n + 1) ks g gV)
    (hx : PassesAt (L2.CX X.prog X.w) X σ E) (I : Inv X pins σ H s) (r : Vals vs us) (rz : Vals zs ws) (l1 : vs.length = n) (l2 : zs.length = ks.length)
    (h : ∀ x dx, H x = none → H dx = none → dx ≠ x → sp (gV (.ref x :: vs) zs) (upd (upd H dx (.own x)) x (.ins C dx [])) (fun v H2 => v = .non ∧ Q (.ref x) H2) E) :
    wpAny (model X.prog X.w) X.A (call (.ref C) us (ks.zip ws)) (EP X pins σ Q) X.xe s := by
  have hq := h (s.heap.objs.size + 1) s.heap.objs.size (I.hok.fresh (Nat.le_succ _)) (I.hok.fresh (Nat.le_refl _)) (Nat.ne_of_lt (Nat.lt_succ_self _))
  have I2 := Inv.made (C := C) I
  have r1 : Vals (V.ref (s.heap.objs.size + 1) :: vs) (Value.ref (s.heap.objs.size + 1) :: us) := .cons rfl r
  have r2 := hb.rel r1 rz
  have e1 : (Value.ref (s.heap.objs.size + 1) :: us).length = n + 1 := r1.length.symm.trans (congrArg Nat.succ l1)
  have e2 : ws.length = ks.length := rz.length.symm.trans l2
  refine wpAny_call (make_map (f := f) I.kIn M.makes M.init (beq_iff_eq.mp M.fn) (codeAny_mono (F.run _ X.stack _ _ ⟨Value.ref (s.heap.objs.size + 1) :: us, ks.zip ws⟩ (g (Value.ref (s.heap.objs.size + 1) :: us) ws) _ _ E (hr.make C us (ks.zip ws))
    (I2.env0.make C us (ks.zip ws)) (hb.to _ (Value.ref (s.heap.objs.size + 1) :: us) ws I2.kIn e1 e2) r2 hq) fun r s' hq' => ?_))
  cases r with
  | error e => exact hx pins _ _ e s' I2 hq'
  | ok fl =>
    cases fl with
    | ret u =>
      obtain ⟨v, H', I3, rv, ev, q3⟩ := I2.after hq'
      subst ev
      exact ⟨rv, ⟨V.ref (s.heap.objs.size + 1), H', I3, rfl, q3⟩⟩
    | next => exact False.elim hq'
    | brk => exact False.elim hq'
    | cont => exact False.elim hq'
theorem fn_make (d : DefI X.prog X.w X.K X.mg X.base ca k c x qual st dd kd ps Fn) (hb : ∀ {f fd}, FD X.K "__init__" qual st dd kd f fd → Binds X.K fd ps []) (hr : Room j X.A) (tk : Takes X W) (ha : FA X ca W (e :: es) fa) (hk : k + 1 ≤ j := by decide) (hg : Gl X x := by rfl) (hdb : (x == ("__debug__" : Str)) = false := by decide)
    (he : starEach (e :: es) X.env = (false, eval e X.env) :: starEach es X.env := by rfl) (hpl : (backTo pos (starEach es X.env)).any (·.1) = false := by rfl) : FN X ca W (.Call (.Name x p) (e :: es) [] pos) (nMake c ps.length Fn fa) := by
  obtain ⟨f, fd, C, F, M, hc, hm, h2⟩ := d.ex
  obtain ⟨t, pa, kt⟩ := ha.ex
  refine ⟨fun σ H Q => t σ H fun vs H1 => ∀ a dx, H1 a = none → H1 dx = none → dx ≠ a → spI X.K ca c ps.length Fn (.ref a :: vs) (upd (upd H1 dx (.own a)) a (.ins C dx [])) (fun v H2 => v = .non ∧ Q (.ref a) H2) (WE W σ), ⟨fun pins s σ H Q I h => ?_⟩, fun B G H σ ρ Q s b r h => ?_⟩
  · refine wpAny_Call_Name_kw (ld_glob I hg hm ?_ hdb)
    refine PySem.W.callWith_K (h₀ := X.base) I.ok.mod.kin M.kp (thn (pa.run pos pins s σ H _ I h) fun us s1 ⟨vs, H1, I1, r, q⟩ => ⟨I1.kIn, ?_⟩) he hpl
    exact run_makeS M F (hr.mono hk) (hb h2) (passAt tk σ) I1 r q
  · refine kt B G H σ ρ _ s b r (Wish.bind h fun ds G1 H1 _ x1 w1 vs a1 => ?_)
    intro a dx n1 n2 ne
    split at w1
    · rename_i hl
      exact make_wish hc x1.hh x1.gh a1 hl w1 n1 n2 ne
    · exact w1.elim
/-- C(e, .., k = v, ..) -/
theorem fn_makeK (d : DefI X.prog X.w X.K X.mg X.base ca k c x qual st dd kd ps Fn) (hb : ∀ {f fd}, FD X.K "__init__" qual st dd kd f fd → KBI X.K ca fd ps n ks gD) (hr : Room j X.A) (tk : Takes X W) (ha : FA X ca W (e :: es) fa) (hkw : FK X ca W kws fk) (hk : k + 1 ≤ j := by decide) (hg : Gl X x := by rfl)
    (hall : (backToKw pos (keywordEach kws X.env)).all (·.1.isSome) = true := by rfl) (hks : (backToKw pos (keywordEach kws X.env)).filterMap (·.1) = ks := by rfl) (hdb : (x == ("__debug__" : Str)) = false := by decide)
    (he : starEach (e :: es) X.env = (false, eval e X.env) :: starEach es X.env := by rfl) (hpl : ((backTo pos (starEach (e :: es) X.env)).any (·.1) || (backToKw pos (keywordEach kws X.env)).any (·.1.isNone)) = false := by rfl) :
    FN X ca W (.Call (.Name x p) (e :: es) kws pos) (nMakeK c n ks.length ps.length Fn gD fa fk) := by
  obtain ⟨f, fd, C, F, M, hc, hm, h2⟩ := d.ex
  obtain ⟨t, pa, kt⟩ := ha.ex
  obtain ⟨u, pk, ku⟩ := hkw.ex
  obtain ⟨g, gV, hbn, hgd⟩ := (hb h2).ex
  refine ⟨fun σ H Q => t σ H fun vs H1 => u σ H1 fun zs H2 => vs.length = n ∧ zs.length = ks.length ∧ ∀ a dx, H2 a = none → H2 dx = none → dx ≠ a → spI X.K ca c ps.length Fn (gV (.ref a :: vs) zs) (upd (upd H2 dx (.own a)) a (.ins C dx [])) (fun v H3 => v = .non ∧ Q (.ref a) H3) (WE W σ), ⟨fun pins s σ H Q I h => ?_⟩, fun B G H σ ρ Q s b r h => ?_⟩
  · refine wpAny_Call_Name_kw (ld_glob I hg hm ?_ hdb)
    refine PySem.W.callWith_KW (h₀ := X.base) I.ok.mod.kin M.kp hall (thn (pa.run pos pins s σ H _ I h) fun us s1 ⟨vs, H1, I1, r1, q1⟩ => ?_) hpl he
    refine thn (pk.run pos pins s1 σ H1 _ I1 q1) fun ws s2 ⟨zs, H2, I2, r2, l1, l2, q2⟩ => ⟨I2.kIn, ?_⟩
    rw [hks]
    exact run_makeKS M F (hr.mono hk) hbn (passAt tk σ) I2 r1 r2 l1 l2 q2
  · refine kt B G H σ ρ _ s b r (Wish.bind h fun ds G1 H1 _ x1 w1 vs a1 => ?_)
    refine ku B G1 H1 σ ρ _ x1.gh (b.trans x1.hh) (r.ext x1) (Wish.bind w1 fun zs G2 H2 _ x2 w2 ws a2 => ?_)
    split at w2
    · rename_i hl
      refine ⟨by rw [← a1.length]; exact hl.1, by rw [← a2.length]; exact hl.2.1, fun a dx n1 n2 ne => ?_⟩
      obtain ⟨us, e, au⟩ := hgd (.ref a) vs ws
      rw [e]
      exact make_wish hc (x1.hh.trans x2.hh) x2.gh (au G2 ds zs (AtL.mono x2.gg a1) a2) hl.2.2 w2 n1 n2 ne
    · exact w2.elim
/-- C(k = v, ..) -/
theorem fn_makeK0 (d : DefI X.prog X.w X.K X.mg X.base ca k c x qual st dd kd ps Fn) (hb : ∀ {f fd}, FD X.K "__init__" qual st dd kd f fd → KBI X.K ca fd ps 0 ks gD) (hr : Room j X.A) (tk : Takes X W) (hkw : FK X ca W kws fk) (hk : k + 1 ≤ j := by decide) (hg : Gl X x := by rfl)
    (hall : (backToKw pos (keywordEach kws X.env)).all (·.1.isSome) = true := by rfl) (hks : (backToKw pos (keywordEach kws X.env)).filterMap (·.1) = ks := by rfl) (hdb : (x == ("__debug__" : Str)) = false := by decide)
    (hpl : ((backTo pos (starEach [] X.env)).any (·.1) || (backToKw pos (keywordEach kws X.env)).any (·.1.isNone)) = false := by rfl) :
    FN X ca W (.Call (.Name x p) [] kws pos) (nMakeK c 0 ks.length ps.length Fn gD aN fk) := by
  obtain ⟨f, fd, C, F, M, hc, hm, h2⟩ := d.ex
  obtain ⟨u, pk, ku⟩ := hkw.ex
  obtain ⟨g, gV, hbn, hgd⟩ := (hb h2).ex
  refine ⟨fun σ H Q => u σ H fun zs H2 => zs.length = ks.length ∧ ∀ a dx, H2 a = none → H2 dx = none → dx ≠ a → spI X.K ca c ps.length Fn (gV [.ref a] zs) (upd (upd H2 dx (.own a)) a (.ins C dx [])) (fun v H3 => v = .non ∧ Q (.ref a) H3) (WE W σ), ⟨fun pins s σ H Q I h => ?_⟩, fun B G H σ ρ Q s b r h => ?_⟩
  · refine wpAny_Call_Name_kw (ld_glob I hg hm ?_ hdb)
    refine PySem.W.callWith_KW0 (h₀ := X.base) I.ok.mod.kin M.kp hall (thn (pk.run pos pins s σ H _ I h) fun ws s2 ⟨zs, H2, I2, r2, l2, q2⟩ => ⟨I2.kIn, ?_⟩) hpl
    rw [hks]
    exact run_makeKS (us := []) (vs := []) M F (hr.mono hk) hbn (passAt tk σ) I2 .nil r2 rfl l2 q2
  · refine ku B G H σ ρ _ s b r (Wish.bind (show Wish X.K ca (SN X.K ca H Q) G H ((fk ρ).bind fun zs => if ([] : List D).length = 0 ∧ zs.length = ks.length ∧ (gD [] zs).length + 1 = ps.length then (unA fun a => Fn a (gD [] zs)).bind fun fs => .ok (.o none c fs) else .bad) (WE W σ) from h) fun zs G2 H2 _ x2 w2 ws a2 => ?_)
    split at w2
    · rename_i hl
      refine ⟨by rw [← a2.length]; exact hl.2.1, fun a dx n1 n2 ne => ?_⟩
      obtain ⟨us, e, au⟩ := hgd (.ref a) [] ws
      rw [e]
      exact make_wish hc x2.hh x2.gh (au G2 [] zs rfl a2) hl.2.2 w2 n1 n2 ne
    · exact w2.elim
end
theorem pick_shift {α : Type} (x : α) (l : List α) : ∀ is : List Nat, (∀ i ∈ is, 1 ≤ i) → pickI is (x :: l) = pickI (is.map (· - 1)) l
  | [], _ => rfl
  | i :: is, h => by
    have h1 := h i List.mem_cons_self
    obtain ⟨j, rfl⟩ : ∃ j, i = j + 1 := ⟨i - 1, by omega⟩
    have ih := pick_shift x l is fun k m => h k (List.mem_cons_of_mem _ m)
    show (match (x :: l)[j + 1]? with | some a => a :: pickI is (x :: l) | none => pickI is (x :: l)) = (match l[j + 1 - 1]? with | some a => a :: pickI (is.map (· - 1)) l | none => pickI (is.map (· - 1)) l)
    rw [List.getElem?_cons_succ, Nat.add_sub_cancel, ih]
/-- self ahead of what a call lays -/
theorem kbi_of {K : PySem.W.Frag} {ca : Cn} {fd : FuncData} {ps ks : List Str} {n : Nat} {is : List Nat} {mid : List D} {its : List Value} (hm : mid.all flatD = true) (hv : Vals (mid.map toV) its) (hp : ∀ i ∈ is, 1 ≤ i)
    (to : ∀ (s : Shared) (us ws : List Value), K.In s.heap → us.length = n + 1 → ws.length = ks.length → BindsTo s fd ⟨us, ks.zip ws⟩ (ps.zip (pickI (0 :: is) (us ++ (its ++ ws))))) : KBI K ca fd ps n ks (gDk (is.map (· - 1)) mid) := by
  refine ⟨fun us ws => pickI (0 :: is) (us ++ (its ++ ws)), fun vs zs => pickI (0 :: is) (vs ++ (mid.map toV ++ zs)), ⟨to, fun r1 r2 => pick_vals (r1.append (hv.append r2)) (0 :: is)⟩, fun x vs zs => ⟨pickI (is.map (· - 1)) (vs ++ (mid.map toV ++ zs)), ?_, fun G ds ws a b => pick_at (a.append ((flats_at hm).append b)) _⟩⟩
  show (match (x :: (vs ++ (mid.map toV ++ zs)))[0]? with | some a => a :: pickI is (x :: (vs ++ (mid.map toV ++ zs))) | none => pickI is (x :: (vs ++ (mid.map toV ++ zs)))) = _
  rw [List.getElem?_cons_zero, pick_shift x _ is hp]
/-- a KB whose first place is the first written value -/
theorem KB.init {K : PySem.W.Frag} {fd : FuncData} {ps ks : List Str} {n : Nat} {is : List Nat} {mid : List D} (hm : mid.all flatD = true) (hp : ∀ i ∈ is, 1 ≤ i)
    (h : ∃ its : List Value, Vals (mid.map toV) its ∧ ∀ (s : Shared) (us ws : List Value), K.In s.heap → us.length = n + 1 → ws.length = ks.length → BindsTo s fd ⟨us, ks.zip ws⟩ (ps.zip (pickI (0 :: is) (us ++ (its ++ ws))))) {ca : Cn} : KBI K ca fd ps n ks (gDk (is.map (· - 1)) mid) := by
  obtain ⟨its, hv, to⟩ := h
  exact kbi_of hm hv hp to
/-! ### methods -/
structure MeAt (K : PySem.W.Frag) (ca : Cn) (c : Nat) (m qual : Str) (st : Stmt) (dd : List D) (kd : List (Str × D)) : Prop where
  ex : ∃ f fd C, FD K m qual st dd kd f fd ∧ ca.a c = some C ∧ Cls K C ∧ Meth K C m f
structure DefM (P : Program) (w : World) (K : PySem.W.Frag) (mg : Str → Option Value) (base : Heap) (ca : Cn) (k c : Nat) (m qual : Str) (st : Stmt) (dd : List D) (kd : List (Str × D)) (ps : List Str) (F : List D → R D) : Prop where
  ex : ∃ f fd C, FnOk P w K mg base (L2.CX P w) k f fd ps (spF K ca ps.length F) ∧ ca.a c = some C ∧ Cls K C ∧ Meth K C m f ∧ FD K m qual st dd kd f fd
section
variable {P : Program} {w : World} {K : PySem.W.Frag} {mg : Str → Option Value} {base : Heap} {ca : Cn} {m qual : Str} {st : Stmt} {dd : List D} {kd : List (Str × D)} {ps N : List Str} {k c : Nat} {g : Ev → SO}
theorem DefM.of (h : MeAt K ca c m qual st dd kd) (S : FnScope N ps (defScope st)) (hb : ∀ (f : Addr) (cdv : Value) (A : Around) (outer : List Env) (s : Shared) (H : Hp) (E : XK), Room k (A.deeper (envOfC qual (defScope st) s.heap.objs.size f cdv)) →
      FSs (cxOf (L2.CX P w) P w K mg base N qual (defScope st) f cdv A outer s H E) ca (fun c d _ H' => E c d H') (defBody st) g) : DefM P w K mg base ca (k + 1) c m qual st dd kd ps (runF N.length g) := by
  obtain ⟨f, fd, C, F, h1, h2, h3⟩ := h.ex
  exact ⟨f, fd, C, fn_okD F S (hb f), h1, h2, h3, F⟩
end
/-- an instance of the class c whose attributes are among the first nf names -/
def insB (c nf : Nat) : D → Bool
  | .ins c' fs => decide (c' = c) && fs.all fun p => decide (p.1 < nf)
  | _ => false
def eMeth (c nf n : Nat) (F : List D → R D) (fo : Ev → R D) (fa : Ev → R (List D)) : Ev → R D := fun ρ => (fo ρ).bind fun d => if insB c nf d = true then (fa ρ).bind fun ds => if ds.length + 1 = n then F (d :: ds) else .bad else .bad
def eMethK (c nf n m p : Nat) (F : List D → R D) (gD : List D → List D → List D) (fo : Ev → R D) (fa fk : Ev → R (List D)) : Ev → R D := fun ρ => (fo ρ).bind fun d => if insB c nf d = true then (fa ρ).bind fun ds => (fk ρ).bind fun zs => if ds.length = n ∧ zs.length = m ∧ (gD ds zs).length + 1 = p then F (d :: gD ds zs) else .bad else .bad
section
variable {X : Cx} {ca : Cn} {W : WX} {k j c nf n : Nat} {m qual : Str} {st : Stmt} {dd : List D} {kd : List (Str × D)} {ps ks : List Str} {Fn : List D → R D} {apos pos : Pos} {o e : Expr} {es : List Expr} {kws : List Keyword} {fo : Ev → R D} {fa fk : Ev → R (List D)} {gD : List D → List D → List D}
theorem ins_at {K : PySem.W.Frag} {ca : Cn} {G : Hp} {c nf : Nat} {d : D} {v : V} {m : Str} {C : Addr} (hc : ca.a c = some C) (hm : ∀ k, k < nf → ca.n k ≠ m) (h : insB c nf d = true) (a : At K ca G d v) : ∃ p dx vs, v = .ref p ∧ G p = some (.ins C dx vs) ∧ vs.lookup m = none := by
  cases d with
  | ins c' fs =>
    obtain ⟨h1, h2⟩ := Bool.and_eq_true_iff.mp (show (decide (c' = c) && fs.all fun p => decide (p.1 < nf)) = true from h)
    have e : c' = c := of_decide_eq_true h1
    subst e
    obtain ⟨p, C', dx, vs, rfl, q1, q2, q3⟩ := a
    rw [hc] at q1
    cases q1
    exact ⟨p, dx, vs, rfl, q2, q3.lookup_none fun p mp => hm _ (of_decide_eq_true (List.all_eq_true.mp h2 p mp))⟩
  | _ => cases h
/-- o.m(e, ..) -/
theorem fe_meth {pl : Sem Bool} (d : DefM X.prog X.w X.K X.mg X.base ca k c m qual st dd kd ps Fn) (hmn : ∀ k, k < nf → ca.n k ≠ m) (hb : ∀ {f fd}, FD X.K m qual st dd kd f fd → Binds X.K fd ps []) (hr : Room j X.A) (tk : Takes X W) (ho : FE X ca W o fo) (ha : FA X ca W (e :: es) fa) (hk : k ≤ j := by decide)
    (he : starEach (e :: es) X.env = (false, eval e X.env) :: starEach es X.env := by rfl) (hpl : (backTo pos (starEach es X.env)).any (·.1) = false := by rfl)
    (ht : eval (.Call (.Attribute o m apos) (e :: es) [] pos) X.env = (do
      let ov ← eval o X.env
      standAt apos.atName
      let (f, first) ← holding [ov] (getMethod ov m pl)
      callWith pos f first (backTo pos (starEach (e :: es) X.env)) (backToKw pos (keywordEach [] X.env))) := by rfl) :
    FE X ca W (.Call (.Attribute o m apos) (e :: es) [] pos) (eMeth c nf ps.length Fn fo fa) := by
  obtain ⟨f, fd, C, F, hc, cl, hm, h2⟩ := d.ex
  obtain ⟨to, po, ko⟩ := ho.ex
  obtain ⟨t, pa, kt⟩ := ha.ex
  refine ⟨fun σ H Q => to σ H fun x H1 => ∃ a dx fs, x = .ref a ∧ H1 a = some (.ins C dx fs) ∧ fs.lookup m = none ∧ t σ H1 fun vs H2 => spF X.K ca ps.length Fn (x :: vs) H2 Q (WE W σ), ⟨fun pins s σ H Q I h => ?_⟩, fun B G H σ ρ Q s b r h => ?_⟩
  · refine PySem.W.methodCall_KW (pl := pl) (thn (po.run pins s σ H _ I h) fun u s1 ⟨x, H1, I1, rx, a, dx, fs, ex, ea, l, q⟩ => ?_) ht
    subst ex
    obtain rfl : u = Value.ref a := rx
    refine getmeth_ok I1 ea cl hm l ?_
    refine PySem.W.callWith_K (first := [.ref a]) (h₀ := X.base) I.ok.mod.kin hm.kp (thn (pa.run pos pins s1 σ H1 _ I1 q) fun us s2 ⟨vs, H2, I2, r, q2⟩ => ⟨I2.kIn, ?_⟩) he hpl
    exact run_fnS (us := .ref a :: us) (vs := .ref a :: vs) (E := WE W) F (hr.mono hk) (hb h2) (passAt tk σ) I2 (.cons rfl r) q2
  · refine ko B G H σ ρ _ s b r (Wish.bind h fun d G1 H1 _ x1 w1 v av => ?_)
    split at w1
    · rename_i hi
      obtain ⟨p, dx, vs, rfl, g1, l1⟩ := ins_at hc hmn hi av
      refine ⟨p, dx, vs, rfl, x1.gh _ _ g1, l1, ?_⟩
      refine kt B G1 H1 σ ρ _ x1.gh (b.trans x1.hh) (r.ext x1) (Wish.bind w1 fun ds G2 H2 _ x2 w2 ws a2 => ?_)
      split at w2
      · rename_i hl
        exact ⟨by rw [List.length_cons, ← a2.length]; exact hl, G2, d :: ds, x2.gh, ⟨_, _, rfl, At.mono x2.gg av, a2⟩, w2⟩
      · exact w2.elim
    · exact w1.elim
/-- o.m() -/
theorem fe_meth0 {pl : Sem Bool} (d : DefM X.prog X.w X.K X.mg X.base ca k c m qual st dd kd ps Fn) (hmn : ∀ k, k < nf → ca.n k ≠ m) (hb : ∀ {f fd}, FD X.K m qual st dd kd f fd → Binds X.K fd ps []) (hr : Room j X.A) (tk : Takes X W) (ho : FE X ca W o fo) (hk : k ≤ j := by decide)
    (ht : eval (.Call (.Attribute o m apos) [] [] pos) X.env = (do
      let ov ← eval o X.env
      standAt apos.atName
      let (f, first) ← holding [ov] (getMethod ov m pl)
      callWith pos f first (backTo pos (starEach [] X.env)) (backToKw pos (keywordEach [] X.env))) := by rfl) :
    FE X ca W (.Call (.Attribute o m apos) [] [] pos) (eMeth c nf ps.length Fn fo aN) := by
  obtain ⟨f, fd, C, F, hc, cl, hm, h2⟩ := d.ex
  obtain ⟨to, po, ko⟩ := ho.ex
  refine ⟨fun σ H Q => to σ H fun x H1 => ∃ a dx fs, x = .ref a ∧ H1 a = some (.ins C dx fs) ∧ fs.lookup m = none ∧ spF X.K ca ps.length Fn [x] H1 Q (WE W σ), ⟨fun pins s σ H Q I h => ?_⟩, fun B G H σ ρ Q s b r h => ?_⟩
  · refine PySem.W.methodCall_KW (pl := pl) (thn (po.run pins s σ H _ I h) fun u s1 ⟨x, H1, I1, rx, a, dx, fs, ex, ea, l, q⟩ => ?_) ht
    subst ex
    obtain rfl : u = Value.ref a := rx
    refine getmeth_ok I1 ea cl hm l ?_
    exact PySem.W.callWith_K0 (first := [.ref a]) I1.kIn hm.kp (run_fnS (us := [.ref a]) (vs := [.ref a]) (E := WE W) F (hr.mono hk) (hb h2) (passAt tk σ) I1 (.cons rfl .nil) q)
  · refine ko B G H σ ρ _ s b r (Wish.bind h fun d G1 H1 _ x1 w1 v av => ?_)
    split at w1
    · rename_i hi
      obtain ⟨p, dx, vs, rfl, g1, l1⟩ := ins_at hc hmn hi av
      refine ⟨p, dx, vs, rfl, x1.gh _ _ g1, l1, ?_⟩
      have w2 : Wish X.K ca (SV X.K ca Q) G1 H1 (if ([] : List D).length + 1 = ps.length then Fn [d] else .bad) (WE W σ) := w1
      split at w2
      · rename_i hl
        exact ⟨hl, G1, [d], x1.gh, ⟨_, _, rfl, av, rfl⟩, w2⟩
      · exact w2.elim
    · exact w1.elim
/-- o.m(e, .., k = v, ..) -/
theorem fe_methK {pl : Sem Bool} (d : DefM X.prog X.w X.K X.mg X.base ca k c m qual st dd kd ps Fn) (hmn : ∀ k, k < nf → ca.n k ≠ m) (hb : ∀ {f fd}, FD X.K m qual st dd kd f fd → KBI X.K ca fd ps n ks gD) (hr : Room j X.A) (tk : Takes X W) (ho : FE X ca W o fo) (ha : FA X ca W (e :: es) fa) (hkw : FK X ca W kws fk) (hk : k ≤ j := by decide)
    (hall : (backToKw pos (keywordEach kws X.env)).all (·.1.isSome) = true := by rfl) (hks : (backToKw pos (keywordEach kws X.env)).filterMap (·.1) = ks := by rfl)
    (he : starEach (e :: es) X.env = (false, eval e X.env) :: starEach es X.env := by rfl) (hpl : ((backTo pos (starEach (e :: es) X.env)).any (·.1) || (backToKw pos (keywordEach kws X.env)).any (·.1.isNone)) = false := by rfl)
    (ht : eval (.Call (.Attribute o m apos) (e :: es) kws pos) X.env = (do
      let ov ← eval o X.env
      standAt apos.atName
      let (f, first) ← holding [ov] (getMethod ov m pl)
      callWith pos f first (backTo pos (starEach (e :: es) X.env)) (backToKw pos (keywordEach kws X.env))) := by rfl) :
    FE X ca W (.Call (.Attribute o m apos) (e :: es) kws pos) (eMethK c nf n ks.length ps.length Fn gD fo fa fk) := by
  obtain ⟨f, fd, C, F, hc, cl, hm, h2⟩ := d.ex
  obtain ⟨to, po, ko⟩ := ho.ex
  obtain ⟨t, pa, kt⟩ := ha.ex
  obtain ⟨u, pk, ku⟩ := hkw.ex
  obtain ⟨g, gV, hbn, hgd⟩ := (hb h2).ex
  refine ⟨fun σ H Q => to σ H fun x H1 => ∃ a dx fs, x = .ref a ∧ H1 a = some (.ins C dx fs) ∧ fs.lookup m = none ∧ t σ H1 fun vs H2 => u σ H2 fun zs H3 => vs.length = n ∧ zs.length = ks.length ∧ spF X.K ca ps.length Fn (gV (x :: vs) zs) H3 Q (WE W σ), ⟨fun pins s σ H Q I h => ?_⟩, fun B G H σ ρ Q s b r h => ?_⟩
  · refine PySem.W.methodCall_KW (pl := pl) (thn (po.run pins s σ H _ I h) fun u s1 ⟨x, H1, I1, rx, a, dx, fs, ex, ea, l, q⟩ => ?_) ht
    subst ex
    obtain rfl : u = Value.ref a := rx
    refine getmeth_ok I1 ea cl hm l ?_
    refine PySem.W.callWith_KW (first := [.ref a]) (h₀ := X.base) I.ok.mod.kin hm.kp hall (thn (pa.run pos pins s1 σ H1 _ I1 q) fun us s2 ⟨vs, H2, I2, r2, q2⟩ => ?_) hpl he
    refine thn (pk.run pos pins s2 σ H2 _ I2 q2) fun ws s3 ⟨zs, H3, I3, r3, l1, l2, q3⟩ => ⟨I3.kIn, ?_⟩
    rw [hks]
    exact run_kb (us := .ref a :: us) (vs := .ref a :: vs) F (hr.mono hk) hbn (passAt tk σ) I3 (.cons rfl r2) r3 (congrArg Nat.succ l1) l2 q3
  · refine ko B G H σ ρ _ s b r (Wish.bind h fun d G1 H1 _ x1 w1 v av => ?_)
    split at w1
    · rename_i hi
      obtain ⟨p, dx, vs, rfl, g1, l1⟩ := ins_at hc hmn hi av
      refine ⟨p, dx, vs, rfl, x1.gh _ _ g1, l1, ?_⟩
      refine kt B G1 H1 σ ρ _ x1.gh (b.trans x1.hh) (r.ext x1) (Wish.bind w1 fun ds G2 H2 _ x2 w2 ws a2 => ?_)
      refine ku B G2 H2 σ ρ _ x2.gh ((b.trans x1.hh).trans x2.hh) ((r.ext x1).ext x2) (Wish.bind w2 fun zs G3 H3 _ x3 w3 us a3 => ?_)
      split at w3
      · rename_i hl
        obtain ⟨ys, e, au⟩ := hgd (.ref p) ws us
        have a4 := au G3 ds zs (AtL.mono x3.gg a2) a3
        exact ⟨by rw [← a2.length]; exact hl.1, by rw [← a3.length]; exact hl.2.1, by rw [e, List.length_cons, ← a4.length]; exact hl.2.2, G3, d :: gD ds zs, x3.gh, by rw [e]; exact ⟨_, _, rfl, At.mono (x2.gg.trans x3.gg) av, a4⟩, w3⟩
      · exact w3.elim
    · exact w1.elim
/-- o.m(k = v, ..) -/
theorem fe_methK0 {pl : Sem Bool} (d : DefM X.prog X.w X.K X.mg X.base ca k c m qual st dd kd ps Fn) (hmn : ∀ k, k < nf → ca.n k ≠ m) (hb : ∀ {f fd}, FD X.K m qual st dd kd f fd → KBI X.K ca fd ps 0 ks gD) (hr : Room j X.A) (tk : Takes X W) (ho : FE X ca W o fo) (hkw : FK X ca W kws fk) (hk : k ≤ j := by decide)
    (hall : (backToKw pos (keywordEach kws X.env)).all (·.1.isSome) = true := by rfl) (hks : (backToKw pos (keywordEach kws X.env)).filterMap (·.1) = ks := by rfl)
    (hpl : ((backTo pos (starEach [] X.env)).any (·.1) || (backToKw pos (keywordEach kws X.env)).any (·.1.isNone)) = false := by rfl)
    (ht : eval (.Call (.Attribute o m apos) [] kws pos) X.env = (do
      let ov ← eval o X.env
      standAt apos.atName
      let (f, first) ← holding [ov] (getMethod ov m pl)
      callWith pos f first (backTo pos (starEach [] X.env)) (backToKw pos (keywordEach kws X.env))) := by rfl) :
    FE X ca W (.Call (.Attribute o m apos) [] kws pos) (eMethK c nf 0 ks.length ps.length Fn gD fo aN fk) := by
  obtain ⟨f, fd, C, F, hc, cl, hm, h2⟩ := d.ex
  obtain ⟨to, po, ko⟩ := ho.ex
  obtain ⟨u, pk, ku⟩ := hkw.ex
  obtain ⟨g, gV, hbn, hgd⟩ := (hb h2).ex
  refine ⟨fun σ H Q => to σ H fun x H1 => ∃ a dx fs, x = .ref a ∧ H1 a = some (.ins C dx fs) ∧ fs.lookup m = none ∧ u σ H1 fun zs H3 => zs.length = ks.length ∧ spF X.K ca ps.length Fn (gV [x] zs) H3 Q (WE W σ), ⟨fun pins s σ H Q I h => ?_⟩, fun B G H σ ρ Q s b r h => ?_⟩
  · refine PySem.W.methodCall_KW (pl := pl) (thn (po.run pins s σ H _ I h) fun u s1 ⟨x, H1, I1, rx, a, dx, fs, ex, ea, l, q⟩ => ?_) ht
    subst ex
    obtain rfl : u = Value.ref a := rx
    refine getmeth_ok I1 ea cl hm l ?_
    refine PySem.W.callWith_KW0 (first := [.ref a]) (h₀ := X.base) I.ok.mod.kin hm.kp hall (thn (pk.run pos pins s1 σ H1 _ I1 q) fun ws s3 ⟨zs, H3, I3, r3, l2, q3⟩ => ⟨I3.kIn, ?_⟩) hpl
    rw [hks]
    exact run_kb (us := [.ref a]) (vs := [.ref a]) F (hr.mono hk) hbn (passAt tk σ) I3 (.cons rfl .nil) r3 rfl l2 q3
  · refine ko B G H σ ρ _ s b r (Wish.bind h fun d G1 H1 _ x1 w1 v av => ?_)
    split at w1
    · rename_i hi
      obtain ⟨p, dx, vs, rfl, g1, l1⟩ := ins_at hc hmn hi av
      refine ⟨p, dx, vs, rfl, x1.gh _ _ g1, l1, ?_⟩
      refine ku B G1 H1 σ ρ _ x1.gh (b.trans x1.hh) (r.ext x1) (Wish.bind (show Wish X.K ca (SV X.K ca Q) G1 H1 ((fk ρ).bind fun zs => if ([] : List D).length = 0 ∧ zs.length = ks.length ∧ (gD [] zs).length + 1 = ps.length then Fn (d :: gD [] zs) else .bad) (WE W σ) from w1) fun zs G3 H3 _ x3 w3 us a3 => ?_)
      split at w3
      · rename_i hl
        obtain ⟨ys, e, au⟩ := hgd (.ref p) [] us
        have a4 := au G3 [] zs rfl a3
        exact ⟨by rw [← a3.length]; exact hl.2.1, by rw [e, List.length_cons, ← a4.length]; exact hl.2.2, G3, d :: gD [] zs, x3.gh, by rw [e]; exact ⟨_, _, rfl, At.mono x3.gg av, a4⟩, w3⟩
      · exact w3.elim
    · exact w1.elim
end
/-! ### isinstance(x, C), C an own class -/
inductive Kd where
  | ty (n : String) | cl (c : Nat)
deriving DecidableEq
def kdD : D → Option Kd
  | .ins c _ => some (.cl c)
  | d => (tyD d).map .ty
theorem kd_ty {d : D} {k : Kd} (h : kdD d = some k) : (∃ c fs, d = .ins c fs ∧ k = .cl c) ∨ ∃ n, tyD d = some n ∧ k = .ty n := by
  cases d with
  | ins c fs => cases h; exact .inl ⟨c, fs, rfl, rfl⟩
  | _ =>
    simp only [kdD, Option.map_eq_some_iff] at h
    obtain ⟨n, n1, n2⟩ := h
    exact .inr ⟨n, n1, n2.symm⟩
def isiTab (tab : List (Kd × Bool)) (d : D) : Option Bool := (kdD d).bind fun k => (tab.find? fun p => decide (p.1 = k)).map (·.2)
def eIsi (tab : List (Kd × Bool)) (f : Ev → R D) : Ev → R D := fun ρ => (f ρ).bind fun d => (optR (isiTab tab d)).bind fun b => .ok (.bl b)
def kdV (ca : Cn) : Kd → Option Value
  | .ty n => some (.type n)
  | .cl c => (ca.a c).map Value.ref
/-- what an own class must have that its instances are asked for their class -/
structure InsTy (K : PySem.W.Frag) (C : Addr) : Prop where
  cl : Cls K C
  ha : PySem.W.findIn K (.ref C) "__class__" = some (some (.builtin "object.__class__"))
  hn : PySem.W.specialIn K (.builtin "object.__class__") "__get__" = some (some (.builtin "getset_descriptor.__get__"))
  ht : PySem.W.takesIn K (.builtin "object.__class__") = some true
  hm : PySem.W.mroIn K C (.type "object") = some true
structure IsiOk (K : PySem.W.Frag) (ca : Cn) (C : Addr) (tab : List (Kd × Bool)) : Prop where
  kit : ∀ p ∈ tab, ∃ t, kdV ca p.1 = some t ∧ PySem.W.kitOne K t (.ref C) = some p.2
  ins : ∀ c C', ca.a c = some C' → (∃ b, (Kd.cl c, b) ∈ tab) → InsTy K C'
theorem fe_isic {X : Cx} {ca : Cn} {W : WX} {tab : List (Kd × Bool)} {x z : Str} {C : Addr} {e : Expr} {f : Ev → R D} {p p2 pos : Pos} (hg : Gl X x) (hm : X.mg x = none) (hv' : bootBuiltins x = some (.builtin "isinstance")) (hz : Gl X z) (hC : X.mg z = some (.ref C)) (ok : IsiOk X.K ca C tab) (h : FE X ca W e f)
    (hrel : RelV (.ref C) (.ref C) := by rfl) (hn : x ≠ "__name__" := by decide) (hd : (x == ("__debug__" : Str)) = false := by decide) (hdz : (z == ("__debug__" : Str)) = false := by decide) (hcz : (z == ("__classdict__" : Str)) = false := by decide)
    (he : starEach [e, .Name z p2] X.env = (false, eval e X.env) :: starEach [.Name z p2] X.env := by rfl) (he2 : starEach [.Name z p2] X.env = (false, eval (.Name z p2) X.env) :: starEach [] X.env := by rfl) (hpl : (backTo pos (starEach [.Name z p2] X.env)).any (·.1) = false := by rfl) :
    FE X ca W (.Call (.Name x p) [e, .Name z p2] [] pos) (eIsi tab f) := by
  obtain ⟨t, pp, k⟩ := h.ex
  refine ⟨_, pe_callB call_isi hg hm hv' (pa_cons pp (pa_cons (pe_glob (v := .ref C) hz hC hrel hdz) pa_nil he2) he) hn hd he hpl, fun B G H σ ρ Q s b r w => ?_⟩
  refine k B G H σ ρ _ s b r (Wish.bind w fun d G1 H1 _ x1 w1 v av => ?_)
  have w2 : Wish X.K ca (SV X.K ca Q) G1 H1 ((optR (isiTab tab d)).bind fun b => .ok (.bl b)) (WE W σ) := w1
  obtain ⟨bb, e1, w3⟩ := wish_opt w2
  obtain ⟨kd, k1, k2⟩ := Option.bind_eq_some_iff.mp e1
  obtain ⟨⟨kd', b'⟩, f1, f2⟩ := Option.map_eq_some_iff.mp k2
  have f3' := List.find?_some f1
  have f3 : kd' = kd := of_decide_eq_true f3'
  have f4 := List.mem_of_find?_eq_some f1
  subst f3
  have f5 : b' = bb := f2
  subst f5
  obtain ⟨t, t1, t2⟩ := ok.kit _ f4
  have ty : TyX X.K H1 v t := by
    rcases kd_ty k1 with ⟨c, fs, rfl, rfl⟩ | ⟨n, n1, rfl⟩
    · obtain ⟨q, C', dx, vs, rfl, h1, h2, h3⟩ := av
      have t1' : (ca.a c).map Value.ref = some t := t1
      rw [h1] at t1'
      cases t1'
      have it := ok.ins c C' h1 ⟨_, f4⟩
      exact .base (.ins (x1.gh _ _ h2) it.cl it.ha it.hn it.ht it.hm)
    · cases t1
      exact tyX_of x1.gh av n1
  exact ⟨v, .ref C, t, .ref C, b', rfl, .own C, ty, t2, w3.here x1.gh _ rfl⟩
end Tk

namespace Tk
open PySem PySem.Spec L2 PyProof.Rows
/-! ### a, b = e1, e2 -/
def sPar (i j : Nat) (fa : Ev → R (List D)) : Ev → SO := fun ρ => SO.from ρ (fa ρ) fun ds => match ds with
  | [a, b] => .nx ((ρ.set i (.v a)).set j (.v b))
  | _ => .bad
theorem fs_par {X : Cx} {ca : Cn} {W : WX} {i j : Nat} {x y : Str} {a b : Expr} {fa : Ev → R (List D)} {px py pt pos : Pos} {kt k2 pt2} (hc : X.calm = true) (hN : X.N.Nodup) (hi : X.N[i]? = some x) (hj : X.N[j]? = some y) (hij : i ≠ j)
    (hx : X.env.scope.names.lookup x = some .local) (hy : X.env.scope.names.lookup y = some .local)
    (hw : swappedStores [.Tuple [.Name x px, .Name y py] kt pt] (.Tuple [a, b] k2 pt2) X.env = pure (some [x, y])) (ha : FA X ca W [a, b] fa)
    (hs : swapsWithSole [.Tuple [.Name x px, .Name y py] kt pt] (.Tuple [a, b] k2 pt2) pos.line X.env = pure false := by rfl) : FS X ca W (.Assign [.Tuple [.Name x px, .Name y py] kt pt] (.Tuple [a, b] k2 pt2) pos) (sPar i j fa) := by
  obtain ⟨t, p, k⟩ := ha.ex
  refine ⟨_, ps_par hc hN hi hj hij hx hy p hw hs, fun B G H σ ρ D s b r w => k B G H σ ρ _ s b r ?_⟩
  refine WishS.from w b r fun ds G1 H1 _ x w1 r1 b1 vs a1 => ?_
  split at w1
  · obtain ⟨v1, v2, rfl, q1, q2⟩ := atl2 a1
    exact ⟨v1, v2, rfl, w1 _ G1 H1 (.refl x.gh b1) ((r1.set i q1).set j q2)⟩
  · exact w1.elim
/-! ### xs + ys as a new list -/
def lCat (f g : Ev → R D) : Ev → R (List D) := fun ρ => (f ρ).bind fun a => (g ρ).bind fun b => match a, b with
  | .lst xs, .lst ys => if xs.length + ys.length ≤ sizeLine then .ok (xs ++ ys) else .bad
  | _, _ => .bad
theorem fl_cat {X : Cx} {ca : Cn} {W : WX} {a b : Expr} {fa fb : Ev → R D} {pos : Pos} (ha : FE X ca W a fa) (hb : FE X ca W b fb) : FL X ca W (.BinOp a .Add b pos) (lCat fa fb) := by
  obtain ⟨ta, pa, ka⟩ := ha.ex
  obtain ⟨tb, pb, kb⟩ := hb.ex
  refine ⟨_, pe_op op_cat pa pb, fun B G H σ ρ Q s b r h => ?_⟩
  refine ka B G H σ ρ _ s b r (Wish.bind (S := fun G' ds H' => ∀ p vs, H p = none → G' p = none → H' p = some (.lst vs) → AtL X.K ca G' ds vs → Q (.ref p) H') h fun d G1 H1 _ x1 w1 v a1 => ?_)
  refine kb B G1 H1 σ ρ _ x1.gh (b.trans x1.hh) (r.ext x1) (Wish.bind w1 fun d2 G2 H2 _ x2 w2 v2 a2 => ?_)
  split at w2
  · split at w2
    · rename_i xs ys hz
      obtain ⟨p, vs, rfl, h1, h2⟩ := a1
      obtain ⟨q, ws, rfl, h3, h4⟩ := a2
      have h2' := AtL.mono x2.gg h2
      refine ⟨p, q, vs, ws, rfl, rfl, x2.gh _ _ (x2.gg _ _ h1), x2.gh _ _ h3, by rw [← h2.length, ← h4.length]; exact hz, fun l n => ?_⟩
      exact w2 G2 (upd H2 l (.lst (vs ++ ws))) ⟨same_upd n, .refl _, x2.gh.trans (same_upd n), fun c z => .inl z⟩ l _ (same_none (x1.hh.trans x2.hh) n) (same_none x2.gh n) upd_same (h2'.append h4)
    · exact w2.elim
  · exact w2.elim
/-! ### sorted(xs, reverse=True) of ints -/
def gSrtR : List D → R D
  | [.lst xs] => match intsOf xs with
    | some ns => .ok (.lst ((srtI ns).reverse.map .int))
    | none => .bad
  | _ => .bad
theorem srtR_uniq {ns ms : List Int} (p : ms.Perm ns) (s : ms.Pairwise (· ≥ ·)) : ms = (srtI ns).reverse := by
  have := srtI_uniq (ns := ns) (ms := ms.reverse) ((List.reverse_perm ms).trans p) (List.pairwise_reverse.mpr s)
  rw [← this, List.reverse_reverse]
def eSrtR (fl fk : Ev → R (List D)) : Ev → R D := fun ρ => (fl ρ).bind fun ds => (fk ρ).bind fun zs => match zs with
  | [.bl true] => gSrtR ds
  | _ => .bad
theorem fe_srtR {X : Cx} {ca : Cn} {W : WX} {e : Expr} {es : List Expr} {kws : List Keyword} {fl fk : Ev → R (List D)} {pos p : Pos} (T : BT X.mg) (ha : FA X ca W (e :: es) fl) (hkw : FK X ca W kws fk) (hg : Gl X "sorted" := by rfl)
    (he : backTo pos (starEach (e :: es) X.env) = (false, eval e X.env) :: backTo pos (starEach es X.env) := by rfl) (hpl : (backTo pos (starEach (e :: es) X.env)).any (·.1) = false := by rfl)
    (hall : (backToKw pos (keywordEach kws X.env)).all (·.1.isSome) = true := by rfl) (hnone : (backToKw pos (keywordEach kws X.env)).any (·.1.isNone) = false := by rfl) (hks : (backToKw pos (keywordEach kws X.env)).filterMap (·.1) = [Str.ofString "reverse"] := by rfl) :
    FE X ca W (.Call (.Name "sorted" p) (e :: es) kws pos) (eSrtR fl fk) := by
  obtain ⟨t, pa, kt⟩ := ha.ex
  obtain ⟨u, pk, ku⟩ := hkw.ex
  refine ⟨_, pe_callBK (cr_sortedRev (b := true)) hg T.sorted bb_sorted pa pk (by decide) (by decide) he hpl hall hnone hks, fun B G H σ ρ Q s b r h => ?_⟩
  refine kt B G H σ ρ _ s b r (Wish.bind h fun ds G1 H1 _ x1 w1 vs a1 => ?_)
  refine ku B G1 H1 σ ρ _ x1.gh (b.trans x1.hh) (r.ext x1) (Wish.bind w1 fun zs G2 H2 _ x2 w2 ws a2 => ?_)
  split at w2
  · unfold gSrtR at w2
    split at w2
    · rename_i xs
      split at w2
      · rename_i ns e1
        obtain ⟨v, rfl, p, us, rfl, h1, h2⟩ := atl1 a1
        obtain ⟨v2, rfl, q2⟩ := atl1 a2
        cases q2
        rw [intsOf_at e1 h2] at h1
        refine ⟨p, ns, rfl, rfl, .of (x2.gh _ _ (x2.gg _ _ h1)), fun ms q pm so n => ?_⟩
        rw [srtR_uniq pm so]
        exact new_lst x2.gh w2 (AtL.of_ints _) n
      · exact w2.elim
    · exact w2.elim
  · exact w2.elim
/-! ### comprehensions with two clauses -/
def noOwn : Ev → Bool
  | [] => true
  | .v _ :: ρ => noOwn ρ
  | .no :: ρ => noOwn ρ
  | _ :: _ => false
theorem noOwn_mem : ∀ {ρ : Ev}, noOwn ρ = true → ∀ s ∈ ρ, s.own = false
  | [], _, _, m => by cases m
  | .v d :: ρ, h, s, m => by
    rcases List.mem_cons.mp m with rfl | m
    · rfl
    · exact noOwn_mem (show noOwn ρ = true from h) s m
  | .no :: ρ, h, s, m => by
    rcases List.mem_cons.mp m with rfl | m
    · rfl
    · exact noOwn_mem (show noOwn ρ = true from h) s m
  | .l _ :: _, h, _, _ => by cases h
  | .k _ :: _, h, _, _ => by cases h
  | .t _ :: _, h, _, _ => by cases h
  | .o _ _ _ :: _, h, _, _ => by cases h
theorem noOwn_set : ∀ {ρ : Ev} (i : Nat), noOwn ρ = true → noOwn (ρ.set i .no) = true
  | [], _, _ => rfl
  | .v _ :: ρ, 0, h => h
  | .no :: ρ, 0, h => h
  | .v _ :: ρ, i + 1, h => noOwn_set (ρ := ρ) i h
  | .no :: ρ, i + 1, h => noOwn_set (ρ := ρ) i h
  | .l _ :: _, _, h => by cases h
  | .k _ :: _, _, h => by cases h
  | .t _ :: _, _, h => by cases h
  | .o _ _ _ :: _, _, h => by cases h
theorem noOwn_wipe {ρ : Ev} (h : noOwn ρ = true) : ∀ zs : List Nat, noOwn (wipeE ρ zs) = true
  | [] => h
  | z :: zs => noOwn_set z (noOwn_wipe h zs)
theorem Rel.moved {K : PySem.W.Frag} {ca : Cn} {B G H H' : Hp} {σ : L2.St} {ρ : Ev} (n : noOwn ρ = true) (r : Rel K ca B G H σ ρ) : Rel K ca B G H' σ ρ :=
  ⟨r.len, r.val, fun i s e o => (by have := noOwn_mem n s (List.mem_of_getElem? e); rw [o] at this; cases this), fun i j s t a e o _ _ _ _ => (by have := noOwn_mem n s (List.mem_of_getElem? e); rw [o] at this; cases this)⟩
def lc2L (h : Tg) (t : Ev → R Bool) (fi : Ev → R (List D)) (zs1 : List Nat) (h1 : Tg) (t1 : Ev → R Bool) (fe : Ev → R D) (ρ : Ev) : List D → R (List D)
  | [] => .ok []
  | d :: ds => (optR (h d ρ)).bind fun ρ1 => if noOwn ρ1 = true then (t ρ1).quiet.bind fun b => if b = true then (fi ρ1).quiet.bind fun es => (lcL h1 t1 fe (wipeE ρ1 zs1) es).quiet.bind fun ys => (lc2L h t fi zs1 h1 t1 fe ρ ds).quiet.bind fun rs => .ok (ys ++ rs) else lc2L h t fi zs1 h1 t1 fe ρ ds else .bad
def finL (xs : List D) : R (List D) := if xs.length ≤ sizeLine then .ok xs else .bad
def lLc2 (zs : List Nat) (fi0 : Ev → R (List D)) (h : Tg) (t : Ev → R Bool) (fi : Ev → R (List D)) (zs1 : List Nat) (h1 : Tg) (t1 : Ev → R Bool) (fe : Ev → R D) : Ev → R (List D) := fun ρ => (fi0 ρ).bind fun ds => (lc2L h t fi zs1 h1 t1 fe (wipeE ρ zs) ds).quiet.bind finL
def tIc (K : PySem.W.Frag) (ca : Cn) (W : WX) (fi : Ev → R (List D)) : TI := fun σ H Q => ∃ B G ρ, Same G H ∧ Same B H ∧ Rel K ca B G H σ ρ ∧ Wish K ca (fun G' ds H' => ∀ J, JOk K ca G' J ds → Q J H') G H (fi ρ) (WE W σ)
theorem FI.can {X : Cx} {ca : Cn} {W : WX} {tg iter : Expr} {fi : Ev → R (List D)} (a : FI X ca W tg iter fi) : PI X tg iter (tIc X.K ca W fi) := by
  obtain ⟨t, p, k⟩ := a.ex
  exact ⟨fun pins s σ H Q I ⟨B, G, ρ, h1, h2, h3, h4⟩ => p.run pins s σ H Q I (k B G H σ ρ Q h1 h2 h3 h4)⟩
/-- what stands while a list D is filled -/
structure LcI (K : PySem.W.Frag) (ca : Cn) (B G1 H1 : Hp) (D : Addr) (σw : L2.St) (ρw : Ev) (G : Hp) (acc : List Tk.D) (vs : List V) (H : Hp) : Prop where
  ext : Ext G1 H1 G H
  gD : G D = none
  hD : H D = some (.lst vs)
  at_ : AtL K ca G acc vs
  b : Same B H
  r : Rel K ca B G H σw ρw
section
variable {K : PySem.W.Frag} {ca : Cn} {B G1 H1 G H G' H' : Hp} {D : Addr} {σw : L2.St} {ρw : Ev} {acc : List Tk.D} {vs : List V}
theorem LcI.go (i : LcI K ca B G1 H1 D σw ρw G acc vs H) (x : Ext G H G' H') : LcI K ca B G1 H1 D σw ρw G' acc vs H' := by
  refine ⟨i.ext.trans x, ?_, x.hh _ _ i.hD, AtL.mono x.gg i.at_, i.b.trans x.hh, i.r.ext x⟩
  cases q : G' D with
  | none => rfl
  | some u =>
    rcases x.nw D (by rw [q]; simp) with z | z
    · exact absurd i.gD z
    · rw [i.hD] at z; cases z
theorem LcI.push (i : LcI K ca B G1 H1 D σw ρw G acc vs H) (n1 : H1 D = none) (nb : B D = none) (no : noOwn ρw = true) {y : Tk.D} {v : V} (a : At K ca G y v) : LcI K ca B G1 H1 D σw ρw G (acc ++ [y]) (vs ++ [v]) (upd H D (.lst (vs ++ [v]))) := by
  have nD : ∀ c o, H1 c = some o → c ≠ D := fun c o q z => by rw [z, n1] at q; cases q
  have nG : ∀ c o, G c = some o → c ≠ D := fun c o q z => by rw [z, i.gD] at q; cases q
  have nB : ∀ c o, B c = some o → c ≠ D := fun c o q z => by rw [z, nb] at q; cases q
  exact ⟨⟨fun c o q => by rw [upd_ne (nD c o q)]; exact i.ext.hh c o q, i.ext.gg, fun c o q => by rw [upd_ne (nG c o q)]; exact i.ext.gh c o q, i.ext.nw⟩, i.gD, upd_same, i.at_.append (.one a), fun c o q => by rw [upd_ne (nB c o q)]; exact i.b c o q, i.r.moved no⟩
end
section
variable {X : Cx} {ca : Cn} {W : WX} {zs zs1 : List Nat} {elt tg iter tg1 iter1 : Expr} {ifs ifs1 : List Expr} {scope : Scope} {own : List (Str × Nat)} {pos : Pos} {fi0 fi : Ev → R (List D)} {h h1 : Tg} {ft ft1 : Ev → R Bool} {fe : Ev → R D}
theorem lc2_tail {tl : TI} (ki : ∀ B G H σ ρ (Q : It → Hp → Prop), Same G H → Same B H → Rel X.K ca B G H σ ρ → Wish X.K ca (fun G' ds H' => ∀ J, JOk X.K ca G' J ds → Q J H') G H (fi0 ρ) (WE W σ) → tl σ H Q) (hv : ∀ i ∈ zs1, i ∈ zs)
    (B G H : Hp) (σ : L2.St) (ρ : Ev) (Hx : Hp) (Q : VK) (s : Same G H) (b : Same B H) (r : Rel X.K ca B G H σ ρ) (hx : Same Hx H) (hn : noOwn (wipeE ρ zs) = true) (w : Wish X.K ca (SF X.K ca Hx Q) G H (lLc2 zs fi0 h ft fi zs1 h1 ft1 fe ρ) (WE W σ)) :
    tLc2 tl (tGc X.K ca zs h) (tT X.K ca W0 ft) (tIc X.K ca W0 fi) (tGc X.K ca zs1 h1) (tT X.K ca W0 ft1) (tE X.K ca W0 fe) zs zs1 σ H Q := by
  refine ki B G H σ ρ _ s b r (Wish.bind w fun ds G1 H1 _ x1 w1 J hj => ?_)
  intro D hD
  have gD : G1 D = none := same_none x1.gh hD
  have b1 := b.trans x1.hh
  have bD : B D = none := same_none b1 hD
  have r1 := (r.ext x1).wipe zs
  have e0 : Ext G1 H1 G1 (upd H1 D (.lst [])) := ⟨same_upd hD, .refl _, x1.gh.trans (same_upd hD), fun a z => .inl z⟩
  refine ⟨fun i m H => m = ds.length - i ∧ i ≤ ds.length ∧ ∃ G acc vs, LcI X.K ca B G1 H1 D (L2.wipe σ zs) (wipeE ρ zs) G acc vs H ∧ Wish X.K ca (SF X.K ca Hx Q) G1 H1 ((lc2L h ft fi zs1 h1 ft1 fe (wipeE ρ zs) (ds.drop i)).quiet.bind fun rs => finL (acc ++ rs)) (WE W σ),
    ⟨_, rfl, Nat.zero_le _, G1, [], [], ⟨e0, gD, upd_same, rfl, b1.trans e0.hh, r1.ext e0⟩, by rw [List.drop_zero]; exact w1⟩, ?_⟩
  rintro i m H2 ⟨rfl, hi, G2, acc, vs, I2, w2⟩
  obtain ⟨j1, j2⟩ := hj G2 H2 I2.ext.gg I2.ext.gh i
  by_cases hlt : i < ds.length
  · rw [List.drop_eq_getElem_cons hlt] at w2
    obtain ⟨go, yl⟩ := j1 ds[i] (by simp [hlt])
    refine .inr ⟨go, fun H' => ∃ G acc vs, LcI X.K ca B G1 H1 D (L2.wipe σ zs) (wipeE ρ zs) G acc vs H' ∧ Wish X.K ca (SF X.K ca Hx Q) G1 H1 ((lc2L h ft fi zs1 h1 ft1 fe (wipeE ρ zs) (ds.drop (i + 1))).quiet.bind fun rs => finL (acc ++ rs)) (WE W σ), fun H' q => ⟨ds.length - (i + 1), by omega, rfl, hlt, q⟩, fun x H3 yy => ?_⟩
    obtain ⟨G3, x3, a3⟩ := yl x H3 yy
    have I3 := I2.go x3
    have w3 : Wish X.K ca (SF X.K ca Hx Q) G1 H1 (((optR (h ds[i] (wipeE ρ zs))).bind fun ρ1 => if noOwn ρ1 = true then (ft ρ1).quiet.bind fun b => if b = true then (fi ρ1).quiet.bind fun es => (lcL h1 ft1 fe (wipeE ρ1 zs1) es).quiet.bind fun ys => (lc2L h ft fi zs1 h1 ft1 fe (wipeE ρ zs) (ds.drop (i + 1))).quiet.bind fun rs => .ok (ys ++ rs) else lc2L h ft fi zs1 h1 ft1 fe (wipeE ρ zs) (ds.drop (i + 1)) else .bad).quiet.bind fun rs => finL (acc ++ rs)) (WE W σ) := w2
    cases z1 : h ds[i] (wipeE ρ zs) with
    | none => rw [z1] at w3; exact w3.elim
    | some ρ1 =>
      rw [z1] at w3
      simp only [optR_some, bind_ok] at w3
      split at w3
      · rename_i no1
        refine ⟨B, G3, wipeE ρ zs, ds[i], I3.ext.gh, I3.b, I3.r, a3, ρ1, z1, fun σ4 r4 e4 => ⟨e4.trans (wipe_idem σ zs), B, G3, ρ1, I3.ext.gh, I3.b, r4, ?_⟩⟩
        cases z2 : ft ρ1 with
        | exc x => simp only [z2] at w3; exact w3.elim
        | bad => simp only [z2] at w3; exact w3.elim
        | ok bb =>
          simp only [z2, quiet_ok, bind_ok] at w3
          intro G5 H5 x5
          show if bb = true then _ else _
          have I5 := I3.go x5
          cases bb with
          | false =>
            rw [if_neg Bool.false_ne_true] at w3 ⊢
            exact ⟨G5, acc, vs, I5, w3⟩
          | true =>
            rw [if_pos rfl] at w3 ⊢
            have r5 := r4.ext x5
            refine ⟨B, G5, ρ1, x5.gh, I5.b, r5, ?_⟩
            cases z3 : fi ρ1 with
            | exc x => simp only [z3] at w3; exact w3.elim
            | bad => simp only [z3] at w3; exact w3.elim
            | ok es =>
              simp only [z3, quiet_ok, bind_ok] at w3
              intro G6 H6 x6 J1 hj1
              have I6 := I5.go x6
              have r6 := r5.ext x6
              have now : noOwn (wipeE ρ1 zs1) = true := by
                exact noOwn_wipe no1 zs1
              refine ⟨fun j k H => k = es.length - j ∧ j ≤ es.length ∧ ∃ G acc vs, LcI X.K ca B G1 H1 D (L2.wipe σ zs) (wipeE ρ zs) G acc vs H ∧ Same G6 G ∧ Rel X.K ca B G H (L2.wipe σ4 zs1) (wipeE ρ1 zs1) ∧ Wish X.K ca (SF X.K ca Hx Q) G1 H1 ((lcL h1 ft1 fe (wipeE ρ1 zs1) (es.drop j)).quiet.bind fun ys => (lc2L h ft fi zs1 h1 ft1 fe (wipeE ρ zs) (ds.drop (i + 1))).quiet.bind fun rs => finL (acc ++ (ys ++ rs))) (WE W σ),
                ⟨_, rfl, Nat.zero_le _, G6, acc, vs, I6, .refl _, r6.wipe zs1, by
                  rw [List.drop_zero]
                  cases q1 : lcL h1 ft1 fe (wipeE ρ1 zs1) es with
                  | ok ys =>
                    rw [q1] at w3
                    simp only [bind_ok, quiet_ok] at w3 ⊢
                    cases q2 : lc2L h ft fi zs1 h1 ft1 fe (wipeE ρ zs) (ds.drop (i + 1)) with
                    | ok rs => rw [q2] at w3; simp only [bind_ok, quiet_ok] at w3 ⊢; exact w3
                    | exc x => rw [q2] at w3; exact w3
                    | bad => rw [q2] at w3; exact w3
                  | exc x => rw [q1] at w3; exact w3
                  | bad => rw [q1] at w3; exact w3⟩, ?_⟩
              rintro j k H7 ⟨rfl, hj7, G7, acc7, vs7, I7, g7, r7, w7⟩
              have jj := hj1 G7 H7 g7 I7.ext.gh j
              obtain ⟨k1, k2⟩ := jj
              by_cases hlt2 : j < es.length
              · rw [List.drop_eq_getElem_cons hlt2] at w7
                obtain ⟨go2, yl2⟩ := k1 es[j] (by simp [hlt2])
                refine .inr ⟨go2, fun H' => ∃ G acc vs, LcI X.K ca B G1 H1 D (L2.wipe σ zs) (wipeE ρ zs) G acc vs H' ∧ Same G6 G ∧ Rel X.K ca B G H' (L2.wipe σ4 zs1) (wipeE ρ1 zs1) ∧ Wish X.K ca (SF X.K ca Hx Q) G1 H1 ((lcL h1 ft1 fe (wipeE ρ1 zs1) (es.drop (j + 1))).quiet.bind fun ys => (lc2L h ft fi zs1 h1 ft1 fe (wipeE ρ zs) (ds.drop (i + 1))).quiet.bind fun rs => finL (acc ++ (ys ++ rs))) (WE W σ), fun H' q => ⟨es.length - (j + 1), by omega, rfl, hlt2, q⟩, fun x8 H8 y8 => ?_⟩
                obtain ⟨G8, x8', a8⟩ := yl2 x8 H8 y8
                have I8 := I7.go x8'
                have r8 := r7.ext x8'
                have w8 : Wish X.K ca (SF X.K ca Hx Q) G1 H1 (((optR (h1 es[j] (wipeE ρ1 zs1))).bind fun ρ2 => (ft1 ρ2).quiet.bind fun b => if b = true then (fe ρ2).quiet.bind fun y => (lcL h1 ft1 fe (wipeE ρ1 zs1) (es.drop (j + 1))).bind fun r => .ok (y :: r) else lcL h1 ft1 fe (wipeE ρ1 zs1) (es.drop (j + 1))).quiet.bind fun ys => (lc2L h ft fi zs1 h1 ft1 fe (wipeE ρ zs) (ds.drop (i + 1))).quiet.bind fun rs => finL (acc7 ++ (ys ++ rs))) (WE W σ) := w7
                cases y1 : h1 es[j] (wipeE ρ1 zs1) with
                | none => rw [y1] at w8; exact w8.elim
                | some ρ2 =>
                  rw [y1] at w8
                  simp only [optR_some, bind_ok] at w8
                  refine ⟨B, G8, wipeE ρ1 zs1, es[j], I8.ext.gh, I8.b, r8, a8, ρ2, y1, fun σ9 r9 e9 => ⟨e9.trans (wipe_idem σ4 zs1), B, G8, ρ2, I8.ext.gh, I8.b, r9, ?_⟩⟩
                  cases y2 : ft1 ρ2 with
                  | exc x => simp only [y2] at w8; exact w8.elim
                  | bad => simp only [y2] at w8; exact w8.elim
                  | ok bb2 =>
                    simp only [y2, quiet_ok, bind_ok] at w8
                    intro G10 H10 x10
                    show if bb2 = true then _ else _
                    have I10 := I8.go x10
                    have gg10 : Same G6 G10 := (g7.trans x8'.gg).trans x10.gg
                    cases bb2 with
                    | false =>
                      rw [if_neg Bool.false_ne_true] at w8 ⊢
                      exact ⟨G10, acc7, vs7, I10, gg10, r8.ext x10, w8⟩
                    | true =>
                      rw [if_pos rfl] at w8 ⊢
                      refine ⟨B, G10, ρ2, x10.gh, I10.b, r9.ext x10, ?_⟩
                      cases y3 : fe ρ2 with
                      | exc x => simp only [y3] at w8; exact w8.elim
                      | bad => simp only [y3] at w8; exact w8.elim
                      | ok y =>
                        simp only [y3, quiet_ok, bind_ok] at w8
                        intro G11 H11 x11 v av
                        have I11 := I10.go x11
                        have hl := I11.at_.length
                        have w9 : Wish X.K ca (SF X.K ca Hx Q) G1 H1 ((lcL h1 ft1 fe (wipeE ρ1 zs1) (es.drop (j + 1))).quiet.bind fun ys => (lc2L h ft fi zs1 h1 ft1 fe (wipeE ρ zs) (ds.drop (i + 1))).quiet.bind fun rs => finL ((acc7 ++ [y]) ++ (ys ++ rs))) (WE W σ) := by
                          cases q1 : lcL h1 ft1 fe (wipeE ρ1 zs1) (es.drop (j + 1)) with
                          | ok ys =>
                            rw [q1] at w8
                            simp only [bind_ok, quiet_ok] at w8 ⊢
                            cases q2 : lc2L h ft fi zs1 h1 ft1 fe (wipeE ρ zs) (ds.drop (i + 1)) with
                            | ok rs => rw [q2] at w8; simp only [bind_ok, quiet_ok] at w8 ⊢; rw [List.append_assoc]; exact w8
                            | exc x => rw [q2] at w8; exact w8
                            | bad => rw [q2] at w8; exact w8
                          | exc x => rw [q1] at w8; exact w8
                          | bad => rw [q1] at w8; exact w8
                        have hsz : acc7.length < sizeLine := by
                          obtain ⟨ys, q1, w10⟩ := wish_quiet w9
                          obtain ⟨rs, q2, w11⟩ := wish_quiet w10
                          unfold finL at w11
                          split at w11
                          · rename_i hz
                            simp only [List.length_append, List.length_cons, List.length_nil] at hz
                            omega
                          · exact w11.elim
                        exact ⟨vs7, I11.hD, by omega, G11, acc7 ++ [y], vs7 ++ [v], I11.push hD bD hn av, gg10.trans x11.gg, (((r8.ext x10).ext x11).moved now), w9⟩
              · have ej : j = es.length := by omega
                subst ej
                rw [List.drop_length] at w7
                exact .inl ⟨k2 rfl, G7, acc7, vs7, I7, w7⟩
      · exact w3.elim
  · have e : i = ds.length := by omega
    subst e
    rw [List.drop_length] at w2
    have w3 : Wish X.K ca (SF X.K ca Hx Q) G1 H1 (finL (acc ++ [])) (WE W σ) := w2
    rw [List.append_nil] at w3
    unfold finL at w3
    split at w3
    · exact .inl ⟨j2 rfl, w3 G2 H2 I2.ext D vs (same_none (hx.trans x1.hh) hD) I2.gD I2.hD I2.at_⟩
    · exact w3.elim
end
def lLc2' (zs : List Nat) (fi0 : Ev → R (List D)) (h : Tg) (t : Ev → R Bool) (fi : Ev → R (List D)) (zs1 : List Nat) (h1 : Tg) (t1 : Ev → R Bool) (fe : Ev → R D) : Ev → R (List D) := fun ρ => if noOwn (wipeE ρ zs) = true then lLc2 zs fi0 h t fi zs1 h1 t1 fe ρ else .bad
/-- name = [..]: the new list is nobody's own -/
def sOwnZ (i : Nat) (fl : Ev → R (List D)) : Ev → SO := fun ρ => SO.from ρ (fl ρ) fun ds => .nx (ρ.set i (.v (.lst ds)))
section
variable {X : Cx} {ca : Cn} {W : WX} {zs1 : List Nat} {elt tg iter tg1 iter1 : Expr} {ifs ifs1 : List Expr} {scope : Scope} {own : List (Str × Nat)} {pos : Pos} {fi0 fi : Ev → R (List D)} {h h1 : Tg} {ft ft1 : Ev → R Bool} {fe : Ev → R D}
theorem fl_lc2 (hc : X.calm = true) (hN : X.N.Nodup) (hi : FI X ca W tg iter fi0) (ok : BlkOk X.N X.env.scope scope own) (hv : ∀ i ∈ zs1, i ∈ own.map (·.2))
    (hg : ∀ (s : Shared) (H : Hp) (C : Addr) (cl : List (Str × Addr)) (fp : List Addr), FG (X.blk s H scope (compEnvC scope cl C X.env) fp) ca (own.map (·.2)) tg h) (ht : ∀ (s : Shared) (H : Hp) (C : Addr) (cl : List (Str × Addr)) (fp : List Addr), FTs (X.blk s H scope (compEnvC scope cl C X.env) fp) ca W0 ifs ft)
    (hi1 : ∀ (s : Shared) (H : Hp) (C : Addr) (cl : List (Str × Addr)) (fp : List Addr), FI (X.blk s H scope (compEnvC scope cl C X.env) fp) ca W0 tg1 iter1 fi)
    (hg1 : ∀ (s : Shared) (H : Hp) (C : Addr) (cl : List (Str × Addr)) (fp : List Addr), FG (X.blk s H scope (compEnvC scope cl C X.env) fp) ca zs1 tg1 h1) (ht1 : ∀ (s : Shared) (H : Hp) (C : Addr) (cl : List (Str × Addr)) (fp : List Addr), FTs (X.blk s H scope (compEnvC scope cl C X.env) fp) ca W0 ifs1 ft1)
    (he : ∀ (s : Shared) (H : Hp) (C : Addr) (cl : List (Str × Addr)) (fp : List Addr), FE (X.blk s H scope (compEnvC scope cl C X.env) fp) ca W0 elt fe) (hs : ∀ x, foldedSetIterable iter X.env x = pure x := by intro _; rfl) (hs1 : ∀ env x, foldedSetIterable iter1 env x = pure x := by intro _ _; rfl) :
    FL X ca W (.ListComp elt [⟨tg, iter, ifs, 0⟩, ⟨tg1, iter1, ifs1, 0⟩] scope pos) (lLc2' (own.map (·.2)) fi0 h ft fi zs1 h1 ft1 fe) := by
  obtain ⟨tl, pl, ki⟩ := hi.ex
  refine ⟨_, pe_lc2 (g := tGc X.K ca (own.map (·.2)) h) (tt := tT X.K ca W0 ft) (wi1 := tIc X.K ca W0 fi) (g1 := tGc X.K ca zs1 h1) (tt1 := tT X.K ca W0 ft1) (te := tE X.K ca W0 fe) hc hN pl ok hv (fun s H C cl fp => (hg s H C cl fp).can) (fun s H C cl fp => (ht s H C cl fp).ex) (fun s H C cl fp => (hi1 s H C cl fp).can) (fun s H C cl fp => (hg1 s H C cl fp).can) (fun s H C cl fp => (ht1 s H C cl fp).ex) (fun s H C cl fp => (he s H C cl fp).can) hs hs1, fun B G H σ ρ Q s b r w => ?_⟩
  unfold lLc2' at w
  split at w
  · rename_i no
    exact lc2_tail ki hv B G H σ ρ H Q s b r (.refl H) no w
  · exact w.elim
theorem fs_ownLc2 {i : Nat} {y : Str} {py spos : Pos} (hy : X.N[i]? = some y) (hyl : X.env.scope.names.lookup y = some .local) (hsw : swapsWith (.ListComp elt [⟨tg, iter, ifs, 0⟩, ⟨tg1, iter1, ifs1, 0⟩] scope pos) (some (.Name y py)) spos.line X.env = pure true) (hc : X.calm = true) (hN : X.N.Nodup) (hi : FI X ca W tg iter fi0) (ok : BlkOk X.N X.env.scope scope own) (hv : ∀ i ∈ zs1, i ∈ own.map (·.2))
    (hg : ∀ (s : Shared) (H : Hp) (C : Addr) (cl : List (Str × Addr)) (fp : List Addr), FG (X.blk s H scope (compEnvC scope cl C X.env) fp) ca (own.map (·.2)) tg h) (ht : ∀ (s : Shared) (H : Hp) (C : Addr) (cl : List (Str × Addr)) (fp : List Addr), FTs (X.blk s H scope (compEnvC scope cl C X.env) fp) ca W0 ifs ft)
    (hi1 : ∀ (s : Shared) (H : Hp) (C : Addr) (cl : List (Str × Addr)) (fp : List Addr), FI (X.blk s H scope (compEnvC scope cl C X.env) fp) ca W0 tg1 iter1 fi)
    (hg1 : ∀ (s : Shared) (H : Hp) (C : Addr) (cl : List (Str × Addr)) (fp : List Addr), FG (X.blk s H scope (compEnvC scope cl C X.env) fp) ca zs1 tg1 h1) (ht1 : ∀ (s : Shared) (H : Hp) (C : Addr) (cl : List (Str × Addr)) (fp : List Addr), FTs (X.blk s H scope (compEnvC scope cl C X.env) fp) ca W0 ifs1 ft1)
    (he : ∀ (s : Shared) (H : Hp) (C : Addr) (cl : List (Str × Addr)) (fp : List Addr), FE (X.blk s H scope (compEnvC scope cl C X.env) fp) ca W0 elt fe) (hs : ∀ x, foldedSetIterable iter X.env x = pure x := by intro _; rfl) (hs1 : ∀ env x, foldedSetIterable iter1 env x = pure x := by intro _ _; rfl) :
    FS X ca W (.Assign [.Name y py] (.ListComp elt [⟨tg, iter, ifs, 0⟩, ⟨tg1, iter1, ifs1, 0⟩] scope pos) spos) (sOwn i (lLc2' (own.map (·.2)) fi0 h ft fi zs1 h1 ft1 fe)) := by
  obtain ⟨tl, pl, ki⟩ := hi.ex
  refine ⟨_, ps_setLc2 (g := tGc X.K ca (own.map (·.2)) h) (tt := tT X.K ca W0 ft) (wi1 := tIc X.K ca W0 fi) (g1 := tGc X.K ca zs1 h1) (tt1 := tT X.K ca W0 ft1) (te := tE X.K ca W0 fe) hc hN hy hyl hsw pl ok hv (fun s H C cl fp => (hg s H C cl fp).can) (fun s H C cl fp => (ht s H C cl fp).ex) (fun s H C cl fp => (hi1 s H C cl fp).can) (fun s H C cl fp => (hg1 s H C cl fp).can) (fun s H C cl fp => (ht1 s H C cl fp).ex) (fun s H C cl fp => (he s H C cl fp).can) hs hs1, fun B G H σ ρ D s b r w => ?_⟩
  by_cases no : noOwn (wipeE ρ (own.map (·.2))) = true
  · have e : lLc2' (own.map (·.2)) fi0 h ft fi zs1 h1 ft1 fe ρ = lLc2 (own.map (·.2)) fi0 h ft fi zs1 h1 ft1 fe ρ := if_pos no
    refine lc2_tail ki hv B G H σ ρ H _ s b r (.refl H) no ?_
    have w' : WishS X.K ca B G (SO.from ρ (lLc2' (own.map (·.2)) fi0 h ft fi zs1 h1 ft1 fe ρ) fun ds => .nx (ρ.set i (.l ds))) D W := w
    rw [e] at w'
    refine WishS.from w' b r fun ds G1 H1 _ x w1 r1 b1 q vs n g hq av => w1 _ G1 H1 (.refl x.gh b1) ?_
    refine r1.setOwn i rfl ⟨vs, hq, av⟩ g (same_none b n) fun j t' _ q' o' z => ?_
    obtain ⟨a, h1, h2, h3, h4⟩ := r.own j t' q' o'
    rw [z] at h1
    cases h1
    obtain ⟨ob, h5⟩ := h2.some
    rw [n] at h5
    cases h5
  · have e : lLc2' (own.map (·.2)) fi0 h ft fi zs1 h1 ft1 fe ρ = .bad := if_neg no
    have w' : WishS X.K ca B G (SO.from ρ (lLc2' (own.map (·.2)) fi0 h ft fi zs1 h1 ft1 fe ρ) fun ds => .nx (ρ.set i (.l ds))) D W := w
    rw [e] at w'
    exact w'.elim
theorem fs_setLc2 {i : Nat} {y : Str} {py spos : Pos} (hy : X.N[i]? = some y) (hyl : X.env.scope.names.lookup y = some .local) (hsw : swapsWith (.ListComp elt [⟨tg, iter, ifs, 0⟩, ⟨tg1, iter1, ifs1, 0⟩] scope pos) (some (.Name y py)) spos.line X.env = pure true) (hc : X.calm = true) (hN : X.N.Nodup) (hi : FI X ca W tg iter fi0) (ok : BlkOk X.N X.env.scope scope own) (hv : ∀ i ∈ zs1, i ∈ own.map (·.2))
    (hg : ∀ (s : Shared) (H : Hp) (C : Addr) (cl : List (Str × Addr)) (fp : List Addr), FG (X.blk s H scope (compEnvC scope cl C X.env) fp) ca (own.map (·.2)) tg h) (ht : ∀ (s : Shared) (H : Hp) (C : Addr) (cl : List (Str × Addr)) (fp : List Addr), FTs (X.blk s H scope (compEnvC scope cl C X.env) fp) ca W0 ifs ft)
    (hi1 : ∀ (s : Shared) (H : Hp) (C : Addr) (cl : List (Str × Addr)) (fp : List Addr), FI (X.blk s H scope (compEnvC scope cl C X.env) fp) ca W0 tg1 iter1 fi)
    (hg1 : ∀ (s : Shared) (H : Hp) (C : Addr) (cl : List (Str × Addr)) (fp : List Addr), FG (X.blk s H scope (compEnvC scope cl C X.env) fp) ca zs1 tg1 h1) (ht1 : ∀ (s : Shared) (H : Hp) (C : Addr) (cl : List (Str × Addr)) (fp : List Addr), FTs (X.blk s H scope (compEnvC scope cl C X.env) fp) ca W0 ifs1 ft1)
    (he : ∀ (s : Shared) (H : Hp) (C : Addr) (cl : List (Str × Addr)) (fp : List Addr), FE (X.blk s H scope (compEnvC scope cl C X.env) fp) ca W0 elt fe) (hs : ∀ x, foldedSetIterable iter X.env x = pure x := by intro _; rfl) (hs1 : ∀ env x, foldedSetIterable iter1 env x = pure x := by intro _ _; rfl) :
    FS X ca W (.Assign [.Name y py] (.ListComp elt [⟨tg, iter, ifs, 0⟩, ⟨tg1, iter1, ifs1, 0⟩] scope pos) spos) (sOwnZ i (lLc2' (own.map (·.2)) fi0 h ft fi zs1 h1 ft1 fe)) := by
  obtain ⟨tl, pl, ki⟩ := hi.ex
  refine ⟨_, ps_setLc2 (g := tGc X.K ca (own.map (·.2)) h) (tt := tT X.K ca W0 ft) (wi1 := tIc X.K ca W0 fi) (g1 := tGc X.K ca zs1 h1) (tt1 := tT X.K ca W0 ft1) (te := tE X.K ca W0 fe) hc hN hy hyl hsw pl ok hv (fun s H C cl fp => (hg s H C cl fp).can) (fun s H C cl fp => (ht s H C cl fp).ex) (fun s H C cl fp => (hi1 s H C cl fp).can) (fun s H C cl fp => (hg1 s H C cl fp).can) (fun s H C cl fp => (ht1 s H C cl fp).ex) (fun s H C cl fp => (he s H C cl fp).can) hs hs1, fun B G H σ ρ D s b r w => ?_⟩
  by_cases no : noOwn (wipeE ρ (own.map (·.2))) = true
  · have e : lLc2' (own.map (·.2)) fi0 h ft fi zs1 h1 ft1 fe ρ = lLc2 (own.map (·.2)) fi0 h ft fi zs1 h1 ft1 fe ρ := if_pos no
    refine lc2_tail ki hv B G H σ ρ H _ s b r (.refl H) no ?_
    have w' : WishS X.K ca B G (SO.from ρ (lLc2' (own.map (·.2)) fi0 h ft fi zs1 h1 ft1 fe ρ) fun ds => .nx (ρ.set i (.v (.lst ds)))) D W := w
    rw [e] at w'
    refine WishS.from w' b r fun ds G1 H1 _ x w1 r1 b1 q vs n g hq av => ?_
    have gh : Same (upd G1 q (.lst vs)) H1 := fun c u e => by
      by_cases z : c = q
      · subst z; rw [upd_same] at e; rw [hq]; exact e
      · rw [upd_ne z] at e; exact x.gh c u e
    have x2 : Ext G H (upd G1 q (.lst vs)) H1 := ⟨x.hh, x.gg.trans (same_upd g), gh, fun c m => by
      by_cases z : c = q
      · subst z; exact .inr n
      · rw [upd_ne z] at m; exact x.nw c m⟩
    refine w1 _ (upd G1 q (.lst vs)) H1 ⟨same_upd g, gh, b1, fun c m => ?_⟩ ((r.ext x2).set i ⟨q, vs, rfl, upd_same, AtL.mono (same_upd g) av⟩)
    by_cases z : c = q
    · subst z; exact .inr (same_none b n)
    · rw [upd_ne z] at m; exact .inl m
  · have e : lLc2' (own.map (·.2)) fi0 h ft fi zs1 h1 ft1 fe ρ = .bad := if_neg no
    have w' : WishS X.K ca B G (SO.from ρ (lLc2' (own.map (·.2)) fi0 h ft fi zs1 h1 ft1 fe ρ) fun ds => .nx (ρ.set i (.v (.lst ds)))) D W := w
    rw [e] at w'
    exact w'.elim
end
end Tk

namespace Tk
open PySem PySem.Spec L2 PyProof.Rows
/-! ### calls with keywords that hand out a new object -/
def oCallK (n m p : Nat) (F : List D → R Sl) (gD : List D → List D → List D) (fa fk : Ev → R (List D)) : Ev → R Sl := fun ρ => (fa ρ).bind fun ds => (fk ρ).bind fun zs => if ds.length = n ∧ zs.length = m ∧ (gD ds zs).length = p then F (gD ds zs) else .bad
section
variable {X : Cx} {ca : Cn} {W : WX} {k j n : Nat} {x : Str} {st : Stmt} {dd : List D} {kd : List (Str × D)} {ps ks : List Str} {Fn : List D → R Sl} {p pos : Pos} {e : Expr} {es : List Expr} {kws : List Keyword} {fa fk : Ev → R (List D)} {gD : List D → List D → List D}
theorem fn_ak (d : DefO X.prog X.w X.K X.mg X.base ca k x st dd kd ps Fn) (hb : ∀ {f fd}, FD X.K x x st dd kd f fd → KB X.K ca fd ps n ks gD) (hr : Room j X.A) (tk : Takes X W) (ha : FA X ca W (e :: es) fa) (hkw : FK X ca W kws fk) (hk : k ≤ j := by decide) (hg : Gl X x := by rfl)
    (hall : (backToKw pos (keywordEach kws X.env)).all (·.1.isSome) = true := by rfl) (hks : (backToKw pos (keywordEach kws X.env)).filterMap (·.1) = ks := by rfl) (hdb : (x == ("__debug__" : Str)) = false := by decide)
    (he : starEach (e :: es) X.env = (false, eval e X.env) :: starEach es X.env := by rfl) (hpl : ((backTo pos (starEach (e :: es) X.env)).any (·.1) || (backToKw pos (keywordEach kws X.env)).any (·.1.isNone)) = false := by rfl) :
    FN X ca W (.Call (.Name x p) (e :: es) kws pos) (oCallK n ks.length ps.length Fn gD fa fk) := by
  obtain ⟨f, fd, F, h1, h2⟩ := d.ex
  obtain ⟨t, pa, kt⟩ := ha.ex
  obtain ⟨u, pk, ku⟩ := hkw.ex
  obtain ⟨g, gV, hbn, hgd⟩ := (hb h2).ex
  refine ⟨fun σ H Q => t σ H fun vs H1 => u σ H1 fun zs H2 => vs.length = n ∧ zs.length = ks.length ∧ spO X.K ca ps.length Fn (gV vs zs) H2 Q (WE W σ), ⟨fun pins s σ H Q I h => ?_⟩, fun B G H σ ρ Q s b r h => ?_⟩
  · refine wpAny_Call_Name_kw (ld_glob I hg h1 ?_ hdb)
    refine PySem.W.callWith_KW (h₀ := X.base) I.ok.mod.kin h2.kp hall (thn (pa.run pos pins s σ H _ I h) fun us s1 ⟨vs, H1, I1, r1, q1⟩ => ?_) hpl he
    refine thn (pk.run pos pins s1 σ H1 _ I1 q1) fun ws s2 ⟨zs, H2, I2, r2, l1, l2, q2⟩ => ⟨I2.kIn, ?_⟩
    rw [hks]
    exact run_kb F (hr.mono hk) hbn (passAt tk σ) I2 r1 r2 l1 l2 q2
  · refine kt B G H σ ρ _ s b r (Wish.bind h fun ds G1 H1 _ x1 w1 vs a1 => ?_)
    refine ku B G1 H1 σ ρ _ x1.gh (b.trans x1.hh) (r.ext x1) (Wish.bind w1 fun zs G2 H2 _ x2 w2 ws a2 => ?_)
    split at w2
    · rename_i hl
      have a3 := hgd G2 ds vs zs ws (AtL.mono x2.gg a1) a2
      exact ⟨by rw [← a1.length]; exact hl.1, by rw [← a2.length]; exact hl.2.1, by rw [← a3.length]; exact hl.2.2, G2, _, x2.gh, a3, Wish.imp w2 fun G' sl H' q => ⟨q.1, fun a oa ga na => q.2 a oa ga (same_none (x1.hh.trans x2.hh) na)⟩⟩
    · exact w2.elim
end
/-! ### {k: v for x in xs if t} -/
def dcL (h : Tg) (t : Ev → R Bool) (fk fv : Ev → R D) (ρ : Ev) : List (Key × D) → List D → R (List (Key × D))
  | acc, [] => .ok acc
  | acc, d :: ds => (optR (h d ρ)).bind fun ρ1 => (t ρ1).quiet.bind fun b => if b = true then (fk ρ1).quiet.bind fun y => (fv ρ1).quiet.bind fun z => (optR (keyD y)).bind fun k => dcL h t fk fv ρ (putG acc k z) ds else dcL h t fk fv ρ acc ds
def nDc (zs : List Nat) (fi : Ev → R (List D)) (h : Tg) (t : Ev → R Bool) (fk fv : Ev → R D) : Ev → R Sl := fun ρ => (fi ρ).bind fun ds => if ds.length ≤ sizeLine then (dcL h t fk fv (wipeE ρ zs) [] ds).bind fun kvs => .ok (.k kvs) else .bad
/-- what stands while a dict D is filled -/
structure DcI (K : PySem.W.Frag) (ca : Cn) (B G1 H1 : Hp) (D : Addr) (σw : L2.St) (ρw : Ev) (G : Hp) (acc : List (Key × Tk.D)) (vs : List (Key × V)) (H : Hp) : Prop where
  ext : Ext G1 H1 G H
  gD : G D = none
  hD : H D = some (.dK vs)
  at_ : AtK K ca G acc vs
  b : Same B H
  r : Rel K ca B G H σw ρw
section
variable {K : PySem.W.Frag} {ca : Cn} {B G1 H1 G H G' H' : Hp} {D : Addr} {σw : L2.St} {ρw : Ev} {acc : List (Key × Tk.D)} {vs : List (Key × V)}
theorem DcI.go (i : DcI K ca B G1 H1 D σw ρw G acc vs H) (x : Ext G H G' H') : DcI K ca B G1 H1 D σw ρw G' acc vs H' := by
  refine ⟨i.ext.trans x, ?_, x.hh _ _ i.hD, AtK.mono x.gg i.at_, i.b.trans x.hh, i.r.ext x⟩
  cases q : G' D with
  | none => rfl
  | some u =>
    rcases x.nw D (by rw [q]; simp) with z | z
    · exact absurd i.gD z
    · rw [i.hD] at z; cases z
theorem DcI.push (i : DcI K ca B G1 H1 D σw ρw G acc vs H) (n1 : H1 D = none) (nb : B D = none) (r1 : Rel K ca B G1 H1 σw ρw) {k : Key} {y : Tk.D} {v : V} (a : At K ca G y v) : DcI K ca B G1 H1 D σw ρw G (putG acc k y) (putK vs k v) (upd H D (.dK (putK vs k v))) := by
  have nD : ∀ c o, H1 c = some o → c ≠ D := fun c o q z => by rw [z, n1] at q; cases q
  have nG : ∀ c o, G c = some o → c ≠ D := fun c o q z => by rw [z, i.gD] at q; cases q
  have nB : ∀ c o, B c = some o → c ≠ D := fun c o q z => by rw [z, nb] at q; cases q
  refine ⟨⟨fun c o q => by rw [upd_ne (nD c o q)]; exact i.ext.hh c o q, i.ext.gg, fun c o q => by rw [upd_ne (nG c o q)]; exact i.ext.gh c o q, i.ext.nw⟩, i.gD, upd_same, i.at_.put a, fun c o q => by rw [upd_ne (nB c o q)]; exact i.b c o q, ⟨i.r.len, i.r.val, fun k s' q ho => ?_, i.r.sep⟩⟩
  obtain ⟨a', t1, t2, t3, t4⟩ := i.r.own k s' q ho
  refine ⟨a', t1, t2.ext (.refl _) ?_, t3, t4⟩
  obtain ⟨a0, u1, u2, u3, u4⟩ := r1.own k s' q ho
  rw [t1] at u1
  cases u1
  obtain ⟨o, u5⟩ := u2.some
  rw [upd_ne (fun z => by rw [z, n1] at u5; cases u5)]
end
theorem putG_len {κ α : Type} [DecidableEq κ] (kvs : List (κ × α)) (k : κ) (v : α) : (putG kvs k v).length ≤ kvs.length + 1 := by
  unfold putG
  split
  · rw [List.length_map]; omega
  · rw [List.length_append]; exact Nat.le_refl _
section
variable {X : Cx} {ca : Cn} {W : WX} {zs : List Nat} {kx vx tg iter : Expr} {ifs : List Expr} {scope : Scope} {own : List (Str × Nat)} {pos : Pos} {fi : Ev → R (List D)} {h : Tg} {ft : Ev → R Bool} {fk fv : Ev → R D}
theorem fn_dc (hc : X.calm = true) (hN : X.N.Nodup) (hi : FI X ca W tg iter fi) (ok : BlkOk X.N X.env.scope scope own)
    (hg : ∀ (s : Shared) (H : Hp) (C : Addr) (cl : List (Str × Addr)) (fp : List Addr), FG (X.blk s H scope (compEnvC scope cl C X.env) fp) ca (own.map (·.2)) tg h) (ht : ∀ (s : Shared) (H : Hp) (C : Addr) (cl : List (Str × Addr)) (fp : List Addr), FTs (X.blk s H scope (compEnvC scope cl C X.env) fp) ca W0 ifs ft)
    (hk : ∀ (s : Shared) (H : Hp) (C : Addr) (cl : List (Str × Addr)) (fp : List Addr), FE (X.blk s H scope (compEnvC scope cl C X.env) fp) ca W0 kx fk)
    (he : ∀ (s : Shared) (H : Hp) (C : Addr) (cl : List (Str × Addr)) (fp : List Addr), FE (X.blk s H scope (compEnvC scope cl C X.env) fp) ca W0 vx fv) (hs : ∀ x, foldedSetIterable iter X.env x = pure x := by intro _; rfl) :
    FN X ca W (.DictComp kx vx [⟨tg, iter, ifs, 0⟩] scope pos) (nDc (own.map (·.2)) fi h ft fk fv) := by
  obtain ⟨tl, pl, ki⟩ := hi.ex
  refine ⟨_, pe_dc (g := tGc X.K ca (own.map (·.2)) h) (tt := tT X.K ca W0 ft) (tk := tE X.K ca W0 fk) (tv := tE X.K ca W0 fv) hc hN pl ok (fun s H C cl fp => (hg s H C cl fp).can) (fun s H C cl fp => (ht s H C cl fp).ex) (fun s H C cl fp => (hk s H C cl fp).can) (fun s H C cl fp => (he s H C cl fp).can) hs, fun B G H σ ρ Q s b r w => ?_⟩
  generalize own.map (·.2) = zs at *
  refine ki B G H σ ρ _ s b r (Wish.bind w fun ds G1 H1 _ x1 w1 J hj => ?_)
  intro D hD
  split at w1
  · rename_i hlen
    have gD : G1 D = none := same_none x1.gh hD
    have b1 := b.trans x1.hh
    have bD : B D = none := same_none b1 hD
    have r1 := (r.ext x1).wipe zs
    have e0 : Ext G1 H1 G1 (upd H1 D (.dK [])) := ⟨same_upd hD, .refl _, x1.gh.trans (same_upd hD), fun a z => .inl z⟩
    refine ⟨fun i m H => m = ds.length - i ∧ i ≤ ds.length ∧ ∃ G acc vs, acc.length ≤ i ∧ DcI X.K ca B G1 H1 D (L2.wipe σ zs) (wipeE ρ zs) G acc vs H ∧ Wish X.K ca (SN X.K ca _ Q) G1 H1 ((dcL h ft fk fv (wipeE ρ zs) acc (ds.drop i)).bind fun kvs => .ok (.k kvs)) (WE W σ),
      ⟨_, rfl, Nat.zero_le _, G1, [], [], Nat.le_refl _, ⟨e0, gD, upd_same, rfl, b1.trans e0.hh, r1.ext e0⟩, by rw [List.drop_zero]; exact w1⟩, ?_⟩
    rintro i m H2 ⟨rfl, hi, G2, acc, vs, la, I2, w2⟩
    obtain ⟨j1, j2⟩ := hj G2 H2 I2.ext.gg I2.ext.gh i
    by_cases hlt : i < ds.length
    · rw [List.drop_eq_getElem_cons hlt] at w2
      obtain ⟨go, yl⟩ := j1 ds[i] (by simp [hlt])
      refine .inr ⟨go, fun H' => ∃ G acc vs, acc.length ≤ i + 1 ∧ DcI X.K ca B G1 H1 D (L2.wipe σ zs) (wipeE ρ zs) G acc vs H' ∧ Wish X.K ca (SN X.K ca _ Q) G1 H1 ((dcL h ft fk fv (wipeE ρ zs) acc (ds.drop (i + 1))).bind fun kvs => .ok (.k kvs)) (WE W σ), fun H' q => ⟨ds.length - (i + 1), by omega, rfl, hlt, q⟩, fun x H3 yy => ?_⟩
      obtain ⟨G3, x3, a3⟩ := yl x H3 yy
      have I3 := I2.go x3
      have w3 : Wish X.K ca (SN X.K ca H Q) G1 H1 (((optR (h ds[i] (wipeE ρ zs))).bind fun ρ1 => (ft ρ1).quiet.bind fun b => if b = true then (fk ρ1).quiet.bind fun y => (fv ρ1).quiet.bind fun z => (optR (keyD y)).bind fun k => dcL h ft fk fv (wipeE ρ zs) (putG acc k z) (ds.drop (i + 1)) else dcL h ft fk fv (wipeE ρ zs) acc (ds.drop (i + 1))).bind fun kvs => .ok (.k kvs)) (WE W σ) := w2
      cases z1 : h ds[i] (wipeE ρ zs) with
      | none => rw [z1] at w3; exact w3.elim
      | some ρ1 =>
        rw [z1] at w3
        simp only [optR_some, bind_ok] at w3
        refine ⟨B, G3, wipeE ρ zs, ds[i], I3.ext.gh, I3.b, I3.r, a3, ρ1, z1, fun σ4 r4 e4 => ⟨e4.trans (wipe_idem σ zs), B, G3, ρ1, I3.ext.gh, I3.b, r4, ?_⟩⟩
        cases z2 : ft ρ1 with
        | exc x => simp only [z2] at w3; exact w3.elim
        | bad => simp only [z2] at w3; exact w3.elim
        | ok bb =>
          simp only [z2, quiet_ok, bind_ok] at w3
          intro G5 H5 x5
          show if bb = true then _ else _
          have I5 := I3.go x5
          cases bb with
          | false =>
            rw [if_neg Bool.false_ne_true] at w3 ⊢
            exact ⟨G5, acc, vs, by omega, I5, w3⟩
          | true =>
            rw [if_pos rfl] at w3 ⊢
            refine ⟨B, G5, ρ1, x5.gh, I5.b, r4.ext x5, ?_⟩
            cases z3 : fk ρ1 with
            | exc x => simp only [z3] at w3; exact w3.elim
            | bad => simp only [z3] at w3; exact w3.elim
            | ok y =>
              simp only [z3, quiet_ok, bind_ok] at w3
              intro G6 H6 x6 yv ya
              have I6 := I5.go x6
              refine ⟨B, G6, ρ1, x6.gh, I6.b, (r4.ext x5).ext x6, ?_⟩
              cases z4 : fv ρ1 with
              | exc x => simp only [z4] at w3; exact w3.elim
              | bad => simp only [z4] at w3; exact w3.elim
              | ok z =>
                simp only [z4, quiet_ok, bind_ok] at w3
                intro G7 H7 x7 zv za
                have I7 := I6.go x7
                cases z5 : keyD y with
                | none => rw [z5] at w3; exact w3.elim
                | some k =>
                  simp only [z5, optR_some, bind_ok] at w3
                  have hl := AtK.length I7.at_
                  have hp := putG_len acc k z
                  exact ⟨vs, k, key_at ya z5, I7.hD, by omega, G7, putG acc k z, putK vs k zv, by omega, I7.push hD bD r1 za, w3⟩
    · have e : i = ds.length := by omega
      subst e
      rw [List.drop_length] at w2
      have w3 : Wish X.K ca (SN X.K ca H Q) G1 H1 (.ok (.k acc)) (WE W σ) := w2
      exact .inl ⟨j2 rfl, (w3 G2 H2 I2.ext).2 D ⟨vs, I2.hD, I2.at_⟩ I2.gD (same_none x1.hh hD)⟩
  · exact w1.elim
end
/-! ### d.get(k), d.get(k, x) -/
def gGet2 : D → D → D → R D
  | .dK kvs, d, x => (optR (keyD d)).bind fun k => .ok ((getG kvs k).getD x)
  | .dT kvs, d, x => (optR (keyT d)).bind fun k => .ok ((getG kvs k).getD x)
  | _, _, _ => .bad
def isDict : D → Bool
  | .dK _ => true
  | .dT _ => true
  | _ => false
def eGet2 (fo fa fb : Ev → R D) : Ev → R D := fun ρ => (fo ρ).bind fun o => if isDict o = true then (fa ρ).bind fun a => (fb ρ).bind fun b => gGet2 o a b else .bad
def eGet1 (fo fa : Ev → R D) : Ev → R D := fun ρ => (fo ρ).bind fun o => if isDict o = true then (fa ρ).bind fun a => gGet2 o a .non else .bad
section
variable {X : Cx} {ca : Cn} {W : WX} {o e f : Expr} {fo fa fb : Ev → R D} {apos cpos : Pos}
theorem isDict_at {K : PySem.W.Frag} {G H : Hp} {d : D} {v : V} (s : Same G H) (h : isDict d = true) (a : At K ca G d v) : ∃ p, v = .ref p ∧ IsD H p := by
  cases d with
  | dK kvs => obtain ⟨p, vs, rfl, h1, _⟩ := a; exact ⟨p, rfl, .inl ⟨vs, .inl (s _ _ h1)⟩⟩
  | dT kvs => obtain ⟨p, vs, rfl, h1, _⟩ := a; exact ⟨p, rfl, .inr ⟨vs, .inl (s _ _ h1)⟩⟩
  | _ => cases h
theorem get_at {K : PySem.W.Frag} {G H : Hp} {d y x : D} {v yv xv : V} {Q : VK} {E : XK} (s : Same G H) (ad : At K ca G d v) (ay : At K ca G y yv) (ax : At K ca G x xv) (w : Wish K ca (SV K ca Q) G H (gGet2 d y x) E) : ∃ p o, v = .ref p ∧ DGet H p yv o ∧ Q (o.getD xv) H := by
  unfold gGet2 at w
  split at w
  · rename_i kvs
    obtain ⟨kk, e1, w⟩ := wish_opt w
    obtain ⟨p, vs, rfl, h1, h2⟩ := ad
    have g := h2.get kk
    rw [key_at ay e1]
    refine ⟨p, valV vs kk, rfl, DGet.k (s _ _ h1), ?_⟩
    cases z : getG kvs kk with
    | none =>
      rw [z] at g w
      have g2 : valV vs kk = none := g
      rw [g2]
      exact w.here s _ ax
    | some d =>
      rw [z] at g w
      obtain ⟨u, g1, g2⟩ := g
      have g3 : valV vs kk = some u := g1
      rw [g3]
      exact w.here s _ g2
  · rename_i kvs
    obtain ⟨kk, e1, w3⟩ := wish_opt w
    obtain ⟨p, vs, rfl, h1, h2⟩ := ad
    have g := h2.get kk
    have fin : Q ((valV vs kk).getD xv) H := by
      cases z : getG kvs kk with
      | none =>
        rw [z] at g w3
        have g2 : valV vs kk = none := g
        rw [g2]
        exact w3.here s _ ax
      | some d =>
        rw [z] at g w3
        obtain ⟨u, g1, g2⟩ := g
        have g3 : valV vs kk = some u := g1
        rw [g3]
        exact w3.here s _ g2
    unfold keyT at e1
    split at e1
    · obtain ⟨q, ws, rfl, t1, t2⟩ := ay
      have e3 := keys_at t2 e1
      subst e3
      rcases t1 with t1 | ⟨t1, t3⟩
      · exact ⟨p, _, rfl, DGet.t (s _ _ h1) (s _ _ t1), fin⟩
      · have l := t2.length
        rw [t1] at l
        cases l
    · cases e1
  · exact w.elim
theorem fe_get2 (hu : X.A.units + 65 < cLine) (ho : FE X ca W o fo) (ha : FE X ca W e fa) (hb : FE X ca W f fb) (m : M2 X o "get" apos e f cpos := by exact ⟨rfl, rfl, rfl, rfl⟩) : FE X ca W (.Call (.Attribute o "get" apos) [e, f] [] cpos) (eGet2 fo fa fb) := by
  obtain ⟨to, po, ko⟩ := ho.ex
  obtain ⟨ta, pa, ka⟩ := ha.ex
  obtain ⟨tb, pb, kb⟩ := hb.ex
  refine ⟨_, pe_dget2 (by omega) po pa pb m, fun B G H σ ρ Q s b r h => ?_⟩
  refine ko B G H σ ρ _ s b r (Wish.bind h fun d G1 H1 _ x1 w1 v a1 => ?_)
  split at w1
  · rename_i hd
    obtain ⟨p, rfl, isd⟩ := isDict_at x1.gh hd a1
    refine ⟨p, rfl, isd, ka B G1 H1 σ ρ _ x1.gh (b.trans x1.hh) (r.ext x1) (Wish.bind w1 fun y G2 H2 _ x2 w2 yv ay => ?_)⟩
    refine kb B G2 H2 σ ρ _ x2.gh ((b.trans x1.hh).trans x2.hh) ((r.ext x1).ext x2) (Wish.bind w2 fun z G3 H3 _ x3 w3 zv az => ?_)
    obtain ⟨p', oo, ep, dg, q⟩ := get_at x3.gh (At.mono (x2.gg.trans x3.gg) a1) (At.mono x3.gg ay) az w3
    cases ep
    exact ⟨oo, dg, q⟩
  · exact w1.elim
theorem fe_get1 (hu : X.A.units + 65 < cLine) (ho : FE X ca W o fo) (ha : FE X ca W e fa) (m : M1 X o "get" apos e cpos := by exact ⟨rfl, rfl, rfl, rfl⟩) : FE X ca W (.Call (.Attribute o "get" apos) [e] [] cpos) (eGet1 fo fa) := by
  obtain ⟨to, po, ko⟩ := ho.ex
  obtain ⟨ta, pa, ka⟩ := ha.ex
  refine ⟨_, pe_dget1 (by omega) po pa m, fun B G H σ ρ Q s b r h => ?_⟩
  refine ko B G H σ ρ _ s b r (Wish.bind h fun d G1 H1 _ x1 w1 v a1 => ?_)
  split at w1
  · rename_i hd
    obtain ⟨p, rfl, isd⟩ := isDict_at x1.gh hd a1
    refine ⟨p, rfl, isd, ka B G1 H1 σ ρ _ x1.gh (b.trans x1.hh) (r.ext x1) (Wish.bind w1 fun y G2 H2 _ x2 w2 yv ay => ?_)⟩
    obtain ⟨p', oo, ep, dg, q⟩ := get_at (x := .non) (xv := .non) x2.gh (At.mono x2.gg a1) ay rfl w2
    cases ep
    exact ⟨oo, dg, q⟩
  · exact w1.elim
end
/-! ### new lists of plain things, the frame's own objects lent -/
theorem scals_at {K : PySem.W.Frag} {ca : Cn} {G G' : Hp} : ∀ {ds : List D} {vs : List V}, ds.all scalD = true → AtL K ca G ds vs → AtL K ca G' ds vs
  | [], _, _, a => by cases a; rfl
  | d :: ds, _, h, ⟨v, r, e, a, t⟩ => by
    rw [List.all_cons, Bool.and_eq_true] at h
    exact ⟨v, r, e, scal_at h.1 a, scals_at h.2 t⟩
def lBor (f : Ev → R (List D)) : Ev → R (List D) := fun ρ => (f (frzA ρ)).quiet.bind fun ds => if ds.all scalD = true then .ok ds else .bad
theorem fl_bor {X : Cx} {ca : Cn} {W : WX} {e : Expr} {f : Ev → R (List D)} (h : FL X ca W e f) : FL X ca W e (lBor f) := by
  obtain ⟨t, p, k⟩ := h.ex
  refine ⟨t, p, fun B G H σ ρ Q s b r w => k B H H σ _ Q (.refl H) b (r.frzA s) ?_⟩
  have w' : Wish X.K ca (fun G' ds H' => ∀ p vs, H p = none → G' p = none → H' p = some (.lst vs) → AtL X.K ca G' ds vs → Q (.ref p) H') G H ((f (frzA ρ)).quiet.bind fun ds => if ds.all scalD = true then .ok ds else .bad) (WE W σ) := w
  obtain ⟨ds, e1, w2⟩ := wish_quiet w'
  split at w2
  · rename_i hs
    show Wish X.K ca _ H H (f (frzA ρ)) (WE W σ)
    rw [e1]
    exact fun G' H' x p vs n g hq av => w2 G H' ⟨x.hh, .refl _, s.trans x.hh, fun a m => .inl m⟩ p vs n (same_none s n) hq (scals_at hs av)
  · exact w2.elim
theorem fs_setLcB {X : Cx} {ca : Cn} {W : WX} {elt tg iter : Expr} {ifs : List Expr} {scope : Scope} {own : List (Str × Nat)} {pos : Pos} {fi : Ev → R (List D)} {h : Tg} {ft : Ev → R Bool} {fe : Ev → R D} {i : Nat} {y : Str} {py spos : Pos} (hc : X.calm = true) (hN : X.N.Nodup) (hy : X.N[i]? = some y) (hyl : X.env.scope.names.lookup y = some .local) (hsw : swapsWith (.ListComp elt [⟨tg, iter, ifs, 0⟩] scope pos) (some (.Name y py)) spos.line X.env = pure true)
    (hi : FI X ca W tg iter fi) (ok : BlkOk X.N X.env.scope scope own)
    (hg : ∀ (s : Shared) (H : Hp) (C : Addr) (cl : List (Str × Addr)) (fp : List Addr), FG (X.blk s H scope (compEnvC scope cl C X.env) fp) ca (own.map (·.2)) tg h) (ht : ∀ (s : Shared) (H : Hp) (C : Addr) (cl : List (Str × Addr)) (fp : List Addr), FTs (X.blk s H scope (compEnvC scope cl C X.env) fp) ca W0 ifs ft)
    (he : ∀ (s : Shared) (H : Hp) (C : Addr) (cl : List (Str × Addr)) (fp : List Addr), FE (X.blk s H scope (compEnvC scope cl C X.env) fp) ca W0 elt fe) (hs : ∀ x, foldedSetIterable iter X.env x = pure x := by intro _; rfl) :
    FS X ca W (.Assign [.Name y py] (.ListComp elt [⟨tg, iter, ifs, 0⟩] scope pos) spos) (sOwnZ i (lBor (lLc (own.map (·.2)) fi h ft fe))) := by
  obtain ⟨tl, pl, ki⟩ := hi.ex
  refine ⟨_, ps_setLc (g := tGc X.K ca (own.map (·.2)) h) (tt := tT X.K ca W0 ft) (te := tE X.K ca W0 fe) hc hN hy hyl hsw pl ok (fun s H C cl fp => (hg s H C cl fp).can) (fun s H C cl fp => (ht s H C cl fp).ex) (fun s H C cl fp => (he s H C cl fp).can) hs, fun B G H σ ρ D s b r w => ?_⟩
  refine lc_tailF ki B H H σ (frzA ρ) H _ (.refl H) b (r.frzA s) (.refl H) ?_
  have w' : WishS X.K ca B G (SO.from ρ ((lLc (own.map (·.2)) fi h ft fe (frzA ρ)).quiet.bind fun ds => if ds.all scalD = true then .ok ds else .bad) fun ds => .nx (ρ.set i (.v (.lst ds)))) D W := w
  cases z : lLc (own.map (·.2)) fi h ft fe (frzA ρ) with
  | exc x => rw [z] at w'; exact w'.elim
  | bad => rw [z] at w'; exact w'.elim
  | ok ds =>
    rw [z, quiet_ok, bind_ok] at w'
    split at w'
    · rename_i hs
      have w2 : WishS X.K ca B G (.nx (ρ.set i (.v (.lst ds)))) D W := w'
      refine fun G' H' x q vs n g hq av => ?_
      have sc := scals_at (G' := G) hs av
      have gn := same_none s n
      have gh : Same (upd G q (.lst vs)) H' := fun c u e => by
        by_cases z : c = q
        · subst z; rw [upd_same] at e; rw [hq]; exact e
        · rw [upd_ne z] at e; exact x.hh _ _ (s c u e)
      have x2 : Ext G H (upd G q (.lst vs)) H' := ⟨x.hh, same_upd gn, gh, fun c m => by
        by_cases z : c = q
        · subst z; exact .inr n
        · rw [upd_ne z] at m; exact .inl m⟩
      refine w2 _ (upd G q (.lst vs)) H' (x2.adv b) ((r.ext x2).set i ⟨q, vs, rfl, upd_same, AtL.mono (same_upd gn) sc⟩)
    · exact w'.elim
end Tk

namespace Tk
open PySem PySem.Spec L2 PyProof.Rows
/-! ### tuples that are known to have no dict: tuple(xs), len, in, index -/
theorem call_tuple_z {X : Cx} : CallR X (.type "tuple") (fun xs H Q => ∃ p ys, xs = [.ref p] ∧ SqL X.K H p ys ∧ ∀ l o, o.cls = .type "tuple" ∧ o.dict = none → H l = none → Q (.ref l) (upd H l (.frz o (.tup ys)))) := by
  intro pins s σ H xs us Q I r h
  obtain ⟨p, ys, rfl, hq, q⟩ := h
  obtain ⟨u, rfl, rx⟩ := vals1 r
  cases rx
  obtain ⟨its, r', pl, hz⟩ := I.list hq
  have hlen := r'.length
  refine call_tuple_list pl.isList (fun h' kp => ?_) (by simp only [List.size_toArray] <;> omega)
  have I1 : Inv X pins σ H { s with heap := h' } := I.kept (t' := s.toks) kp
  have I2 : Inv X pins σ (upd H h'.objs.size (.frz { cls := .type "tuple", data := .seq its.toArray } (.tup ys))) { s with heap := h'.push { cls := .type "tuple", data := .seq its.toArray } } :=
    I1.laid (t' := s.toks) (fun b o e => Heap.get?_push_of_some _ e) (Nat.le_refl _) (show ObjOk X.prog X.w _ _ _ (.frz _ (.tup ys)) from ⟨Heap.get?_push_size _ rfl, hz, its, r', IsTup.new _ _⟩)
  exact ⟨.ref h'.objs.size, _, I2, rfl, q _ _ ⟨rfl, rfl⟩ (I1.hok.fresh (Nat.le_refl _))⟩
def gTupZ : List D → R D
  | [.lst xs] => .ok (.tpz xs)
  | _ => .bad
section
variable {X : Cx} {ca : Cn} {W : WX} {e o : Expr} {es : List Expr} {fl : Ev → R (List D)} {fa fb fo : Ev → R D} {pos p apos cpos : Pos}
theorem vn_tupz : VN X ca (fun xs H Q => ∃ p ys, xs = [.ref p] ∧ SqL X.K H p ys ∧ ∀ l o, o.cls = .type "tuple" ∧ o.dict = none → H l = none → Q (.ref l) (upd H l (.frz o (.tup ys)))) gTupZ := by
  intro G H W1 xs ds Q s a w
  unfold gTupZ at w
  split at w
  · obtain ⟨v, rfl, q, vs, rfl, h1, h2⟩ := atl1 a
    refine ⟨q, vs, rfl, .of (s _ _ h1), fun l o ho n => ?_⟩
    exact w _ _ (Ext.new s n) (.ref l) ⟨l, o, vs, rfl, ho, upd_same, AtL.mono (same_upd (same_none s n)) h2⟩
  · exact w.elim
theorem fe_tupz (T : BT X.mg) (ha : FA X ca W (e :: es) fl) (n : Nm X "tuple" e es pos := by exact ⟨rfl, rfl, rfl⟩) : FE X ca W (.Call (.Name "tuple" p) (e :: es) [] pos) (eA gTupZ fl) := fe_bty call_tuple_z vn_tupz n.g T.tuple bb_tuple ha (by decide) (by decide) n.h n.p
def gLenZ : List D → R D
  | [.tpz xs] => .ok (.int xs.length)
  | _ => .bad
theorem tz {K : PySem.W.Frag} {G H : Hp} {a : Addr} {o : Obj} {vs : List V} (s : Same G H) (h : G a = some (.frz o (.tup vs))) : SqT K H a vs := .inl (.inr ⟨o, s _ _ h⟩)
theorem fe_lenZ (T : BT X.mg) (ha : FA X ca W (e :: es) fl) (n : Nm X "len" e es pos := by exact ⟨rfl, rfl, rfl⟩) : FE X ca W (.Call (.Name "len" p) (e :: es) [] pos) (eA gLenZ fl) := fe_blt call_len_seq (fun G H W1 xs ds Q s a w => by
  unfold gLenZ at w
  split at w
  · rename_i ys
    obtain ⟨v, rfl, q, ob, vs, rfl, ho, h1, h2⟩ := atl1 a
    have w2 : Wish X.K ca (SV X.K ca Q) G H (.ok (.int ys.length)) W1 := w
    rw [h2.length] at w2
    exact ⟨q, vs, rfl, .inr (tz s h1), w2.here s _ rfl⟩
  · exact w.elim) n.g T.len bb_len ha (by decide) (by decide) n.h n.p
def gInZ : D → D → R D
  | a, .tpz xs => if flatD a = true ∧ xs.all flatD = true then .ok (.bl (inV (toV a) (xs.map toV))) else .bad
  | _, _ => .bad
theorem v2_inZ : V2 X ca (rIn X.K false) gInZ := by
  intro G H W1 x y a b Q s ax ay w
  unfold gInZ at w
  split at w
  · obtain ⟨p, ob, vs, rfl, ho, h1, h2⟩ := ay
    split at w
    · rename_i z
      obtain ⟨e1, f1⟩ := toV_at z.1 ax
      obtain ⟨e2, f2⟩ := toV_all z.2 h2
      refine ⟨p, vs, rfl, .inr (tz s h1), f1, f2, ?_⟩
      rw [e1, e2]
      exact w.here s _ rfl
    · exact w.elim
  · exact w.elim
def strsOf : List D → Option (List Str)
  | [] => some []
  | .str z :: r => (strsOf r).map (z :: ·)
  | _ => none
theorem strs_at {K : PySem.W.Frag} {ca : Cn} {G : Hp} : ∀ {ds : List D} {vs : List V} {zs : List Str}, AtL K ca G ds vs → strsOf ds = some zs → vs = zs.map V.str
  | [], _, _, a, e => by cases a; cases e; rfl
  | d :: ds, _, zs, ⟨v, r, e0, a, t⟩, e => by
    cases d with
    | str z =>
      obtain ⟨ws, e1, rfl⟩ := Option.map_eq_some_iff.mp (show (strsOf ds).map (z :: ·) = some zs from e)
      cases a
      rw [e0, strs_at t e1]
      rfl
    | _ => cases e
def isZ : D → Bool
  | .tpz _ => true
  | _ => false
def gIdxZ (o : D) : List D → R D
  | [.str z] => (match o with
    | .tpz xs => (optR (strsOf xs)).bind fun ys => if ys.findIdx (fun y => decide (y = z)) < ys.length then .ok (.int ((ys.findIdx (fun y => decide (y = z)) : Nat) : Int)) else .bad
    | _ => .bad)
  | _ => .bad
def eIdxZ (fo : Ev → R D) (fl : Ev → R (List D)) : Ev → R D := fun ρ => (fo ρ).bind fun o => if isZ o = true then (fl ρ).bind fun ds => gIdxZ o ds else .bad
def tBMZ (T : String) (r : V → List V → Hp → VK → Prop) (to : TE) (t : TA) : TE := fun σ H Q => to σ H fun x H1 => (∃ p ob u, x = .ref p ∧ H1 p = some (.frz ob u) ∧ ob.cls = .type T ∧ ob.dict = none) ∧ t σ H1 fun xs H2 => r x xs H2 Q
theorem pe_bmZ {T id : String} {name : Str} {r : V → List V → Hp → VK → Prop} {to : TE} {t : TA} (pa : PlainAttrs T) (slot : Slot T name id) (hty : typeOf (.builtin id) = pure (.type "method_descriptor")) (hm : MtR X id r) (ho : PE X o to) (ha : PA X (e :: es) t)
    (hbase : attributeBase o name X.env (eval o X.env) = eval o X.env := by rfl)
    (hfew : ((backTo cpos (starEach (e :: es) X.env)).all (fun x => !x.1) && (backToKw cpos (keywordEach [] X.env)).all (fun x => x.1.isSome)
      && decide ((e :: es).length + ([] : List Keyword).length + (if ([] : List Keyword).isEmpty then 0 else 1) < 30)) = true := by rfl)
    (hline : (apos.endLine == cpos.line) = true := by rfl) (hs : starEach (e :: es) X.env = (false, eval e X.env) :: starEach es X.env := by rfl) (hplain : (backTo cpos (starEach es X.env)).any (·.1) = false := by rfl) :
    PE X (.Call (.Attribute o name apos) (e :: es) [] cpos) (tBMZ T r to t) := by
  refine ⟨fun pins s σ H Q I h => ?_⟩
  refine wpAny_Call_method_late hbase hfew hline rfl (thn (ho.run pins s σ H _ I h) fun v s1 ⟨x, H1, I1, r1, ty, q1⟩ => ?_)
  obtain ⟨p, ob, u, rfl, hp, hcl, hdi⟩ := ty
  cases r1
  have hg := (I1.hok p _ hp).1
  refine ⟨T, id, pa, slot, hty, ⟨ob, hg, hcl⟩, fun a e => by cases e; exact ⟨ob, hg, hdi⟩, ?_⟩
  have hA := ha.run cpos pins s1 σ H1 _ I1 q1
  rw [hs] at hA ⊢
  refine Calls.callWith_builtin (by show (false || (backTo cpos (starEach es X.env)).any (·.1)) = false; rw [hplain] <;> rfl) (Calls.evalArgs_plain ?_)
  exact thn hA fun us s2 ⟨vs, H2, I2, r2, q2⟩ => hm pins s2 σ H2 (.ref p) vs _ us Q I2 rfl r2 q2
theorem fe_indexZ (ho : FE X ca W o fo) (h : FA X ca W (e :: es) fl)
    (he : starEach (e :: es) X.env = (false, eval e X.env) :: starEach es X.env := by rfl) (hb : attributeBase o "index" X.env (eval o X.env) = eval o X.env := by rfl) (hw : ((backTo cpos (starEach (e :: es) X.env)).all (fun x => !x.1) && (backToKw cpos (keywordEach [] X.env)).all (fun x => x.1.isSome) && decide ((e :: es).length + ([] : List Keyword).length + (if ([] : List Keyword).isEmpty then 0 else 1) < 30)) = true := by rfl)
    (hl : (apos.endLine == cpos.line) = true := by rfl) (hpl : (backTo cpos (starEach es X.env)).any (·.1) = false := by rfl) : FE X ca W (.Call (.Attribute o "index" apos) (e :: es) [] cpos) (eIdxZ fo fl) := by
  obtain ⟨to, po, ko⟩ := ho.ex
  obtain ⟨t, p, k⟩ := h.ex
  refine ⟨_, pe_bmZ PySem.F.plainAttrs_tuple PySem.F.slot_tuple_index PySem.F.type_tuple_index mt_tup_index po p hb hw hl he hpl, fun B G H σ ρ Q s b r w => ?_⟩
  refine ko B G H σ ρ _ s b r (Wish.bind w fun d G1 H1 e1 x1 w1 v a1 => ?_)
  split at w1
  · rename_i hs
    cases d with
    | tpz xs =>
      obtain ⟨q, ob, vs, rfl, hob, h1, h2⟩ := a1
      refine ⟨⟨q, ob, _, rfl, x1.gh _ _ h1, hob.1, hob.2⟩, k B G1 H1 σ ρ _ x1.gh (b.trans x1.hh) (r.ext x1) (Wish.bind w1 fun ds G2 H2 _ x2 w2 ws a2 => ?_)⟩
      unfold gIdxZ at w2
      split at w2
      · rename_i z _
        obtain ⟨ys, ey, w4⟩ := wish_opt w2
        split at w4
        · rename_i hlt
          obtain ⟨u, rfl, a3⟩ := atl1 a2
          cases a3
          have ev := strs_at h2 ey
          subst ev
          refine ⟨q, ys, z, ys.findIdx (fun y => decide (y = z)), rfl, rfl, tz x2.gh (x2.gg _ _ h1), ?_, fun m hm hz => ?_, w4.here x2.gh _ rfl⟩
          · rw [List.getElem?_eq_getElem hlt]
            have := List.findIdx_getElem (p := fun y => decide (y = z)) (w := hlt)
            rw [of_decide_eq_true this]
          · have hml : m < ys.length := by omega
            rw [List.getElem?_eq_getElem hml] at hz
            have := List.not_of_lt_findIdx (p := fun y => decide (y = z)) (xs := ys) hm
            simp only [Option.some.injEq] at hz
            simp [hz] at this
        · exact w4.elim
      · exact w2.elim
    | _ => cases hs
  · exact w1.elim
end
end Tk

/-! sorted(xs), xs a list of lists of ints -/
namespace Tk
open PySem PySem.Spec L2 PyProof.Rows
def ltL : List Int → List Int → Bool
  | [], [] => false
  | [], _ :: _ => true
  | _ :: _, [] => false
  | a :: as, b :: bs => if a = b then ltL as bs else decide (a < b)
theorem ltL_cons (a b : Int) (as bs : List Int) : ltL (a :: as) (b :: bs) = if a = b then ltL as bs else decide (a < b) := rfl
theorem ltL_asym : ∀ x y : List Int, ltL x y = true → ltL y x = false
  | [], [], h => by cases h
  | [], _ :: _, _ => rfl
  | _ :: _, [], h => by cases h
  | a :: as, b :: bs, h => by
    rw [ltL_cons] at h ⊢
    by_cases z : a = b
    · rw [if_pos z] at h
      rw [if_pos z.symm]
      exact ltL_asym as bs h
    · rw [if_neg z] at h
      have := of_decide_eq_true h
      rw [if_neg (fun e => z e.symm)]
      exact decide_eq_false (by omega)
theorem ltL_tr : ∀ x y z : List Int, ltL y x = false → ltL z y = false → ltL z x = false
  | [], [], [], _, _ => rfl
  | [], [], _ :: _, _, h => h
  | [], _ :: _, [], h, _ => rfl
  | [], _ :: _, _ :: _, h, _ => rfl
  | _ :: _, [], _, h, _ => by cases h
  | _ :: _, _ :: _, [], _, h => by cases h
  | a :: as, b :: bs, c :: cs, h1, h2 => by
    rw [ltL_cons] at h1 h2 ⊢
    by_cases z1 : b = a
    · rw [if_pos z1] at h1
      by_cases z2 : c = b
      · rw [if_pos z2] at h2
        rw [if_pos (z2.trans z1)]
        exact ltL_tr as bs cs h1 h2
      · rw [if_neg z2] at h2
        rw [← z1, if_neg z2]
        exact h2
    · rw [if_neg z1] at h1
      have h1 := of_decide_eq_false h1
      by_cases z2 : c = b
      · rw [if_neg (by omega)]
        exact decide_eq_false (by omega)
      · rw [if_neg z2] at h2
        have h2 := of_decide_eq_false h2
        rw [if_neg (by omega)]
        exact decide_eq_false (by omega)
theorem ltL_anti : ∀ x y : List Int, ltL x y = false → ltL y x = false → x = y
  | [], [], _, _ => rfl
  | [], _ :: _, h, _ => by cases h
  | _ :: _, [], _, h => by cases h
  | a :: as, b :: bs, h1, h2 => by
    rw [ltL_cons] at h1 h2
    by_cases z : a = b
    · rw [if_pos z] at h1
      rw [if_pos z.symm] at h2
      rw [z, ltL_anti as bs h1 h2]
    · rw [if_neg z] at h1
      rw [if_neg (fun e => z e.symm)] at h2
      have := of_decide_eq_false h1
      have := of_decide_eq_false h2
      omega
theorem swo_L {α : Type} (k : α → List Int) : SrtO.Swo fun v u => ltL (k v) (k u) := ⟨fun x y => ltL_asym (k x) (k y), fun x y z => ltL_tr (k x) (k y) (k z)⟩
theorem first_map (e r : Nat → Bool) (fin : Bool) (f : Nat → Nat) : ∀ l : List Nat, SeqAt.firstLt e r fin (l.map f) = SeqAt.firstLt (fun j => e (f j)) (fun j => r (f j)) fin l
  | [] => rfl
  | j :: t => by
    have ih := first_map e r fin f t
    show (if e (f j) = true then SeqAt.firstLt e r fin (t.map f) else r (f j)) = (if e (f j) = true then SeqAt.firstLt (fun j => e (f j)) (fun j => r (f j)) fin t else r (f j))
    rw [ih]
theorem first_L : ∀ a b : List Int, SeqAt.firstLt (fun j => a.getD j 0 == b.getD j 0) (fun j => decide (a.getD j 0 < b.getD j 0)) (decide (a.length < b.length)) (List.range (min a.length b.length)) = ltL a b
  | [], [] => rfl
  | [], _ :: _ => by simp [SeqAt.firstLt, ltL]
  | _ :: _, [] => by simp [SeqAt.firstLt, ltL]
  | a :: as, b :: bs => by
    have e : min (a :: as).length (b :: bs).length = min as.length bs.length + 1 := by simp [Nat.succ_min_succ]
    have ih := first_L as bs
    rw [e, List.range_succ_eq_map, ltL_cons]
    show (if (a == b) = true then SeqAt.firstLt _ _ _ ((List.range _).map Nat.succ) else decide (a < b)) = _
    rw [first_map]
    by_cases z : a = b
    · rw [if_pos (beq_iff_eq.mpr z), if_pos z, ← ih]
      simp
    · rw [if_neg (fun q => z (beq_iff_eq.mp q)), if_neg z]
section
variable {prog : Program} {w : World} {A : Around} {s : Shared}
/-- a list of these ints -/
def IsLI (h : Heap) (v : Value) (ns : List Int) : Prop := ∃ a its, v = .ref a ∧ h.IsList a its ∧ IntsAre its.toList ns
theorem ints_get : ∀ {vs : List Value} {ns : List Int}, IntsAre vs ns → vs.length = ns.length ∧ ∀ j (h : j < vs.length), ∃ t, vs[j] = Value.int (ns.getD j 0) t
  | _, _, .nil => ⟨rfl, fun j h => absurd h (by simp)⟩
  | _, _, .cons n t r => by
    obtain ⟨h1, h2⟩ := ints_get r
    refine ⟨by simp [h1], fun j h => ?_⟩
    cases j with
    | zero => exact ⟨t, rfl⟩
    | succ j => exact h2 j (by simpa using h)
theorem li_lt {v u : Value} {ns ms : List Int} (hu : A.units < cLine) (hv : IsLI s.heap v ns) (hw : IsLI s.heap u ms) : wpAny (model prog w) A (oneLt' true v u) (fun r s' => s' = s ∧ r = ltL ns ms) (fun _ _ => False) s := by
  obtain ⟨a, xs, rfl, la, ia⟩ := hv
  obtain ⟨b, ys, rfl, lb, ib⟩ := hw
  obtain ⟨n1, g1⟩ := ints_get ia
  obtain ⟨n2, g2⟩ := ints_get ib
  rw [Array.length_toList] at n1 n2
  rw [oneLt'_eq]
  simp only [if_true]
  refine wpAny_bind (wpAny_cRoomFor hu ?_)
  obtain ⟨o, ho, hc, n, hd⟩ := id la
  refine wpAny_bind (wpAny_callSpecialIfBound?_slot (T := "list") ⟨o, ho, hc⟩ F.slot_list_lt (SeqAt.call_list_lt (e := fun j => ns.getD j 0 == ms.getD j 0) (r := fun j => decide (ns.getD j 0 < ms.getD j 0)) la lb (fun j h1 h2 => ?_) (fun j h1 h2 _ => ?_) ?_))
  · obtain ⟨t1, e1⟩ := g1 j (by rw [Array.length_toList]; exact h1)
    obtain ⟨t2, e2⟩ := g2 j (by rw [Array.length_toList]; exact h2)
    rw [Array.getElem_toList] at e1 e2
    rw [e1, e2]
    exact SeqAt.EqAt.int_int _ t1 _ t2
  · obtain ⟨t1, e1⟩ := g1 j (by rw [Array.length_toList]; exact h1)
    obtain ⟨t2, e2⟩ := g2 j (by rw [Array.length_toList]; exact h2)
    rw [Array.getElem_toList] at e1 e2
    rw [e1, e2]
    exact fun _ _ _ _ h => PyProof.Rows.lt_int h
  · refine wpAny_truthy_bool ⟨rfl, ?_⟩
    rw [n1, n2]
    exact first_L ns ms
theorem li_sortable {a : Addr} {vs : List Value} {k : Value → List Int} (hu : A.units < cLine) (h2 : 2 ≤ vs.length) (hp : ∀ v ∈ vs, IsLI s.heap v (k v) ∧ v ≠ .ref a) : SrtO.SortableO prog w A s a vs fun v u => ltL (k v) (k u) := by
  intro h' keep
  have hp' : ∀ v ∈ vs, IsLI h' v (k v) := fun v hm => by
    obtain ⟨⟨b, its, rfl, ⟨o, ho, r⟩, i⟩, ne⟩ := hp v hm
    exact ⟨b, its, rfl, ⟨o, keep b o (fun e => ne (by rw [e])) ho, r⟩, i⟩
  refine ⟨oneType', fun Q E hq => ?_, fun p q hm hm' => ?_⟩
  · refine PySem.W.kas_kind (T := .type "list") h2 (fun v hm => ?_) (by first | rfl | decide +kernel | decide) (by first | rfl | decide +kernel | decide) hq
    obtain ⟨b, its, rfl, ⟨o, ho, hc, _⟩, _⟩ := hp' v hm
    rw [← hc]
    exact (PySem.W.Looks.ld ho).andThen .now
  · show wpAny (model prog w) A (keyLt' oneType' p.1 q.1) (fun r s' => s' = { s with heap := h' } ∧ r = ltL (k p.1) (k q.1)) (fun _ _ => False) { s with heap := h' }
    rw [keyLt'_oneType]
    exact li_lt hu (hp' _ hm) (hp' _ hm')
theorem sorted_li {l : Addr} {vs : List Value} {k : Value → List Int} {E : Value → Shared → Prop} {Q : Value → Shared → Prop} (hu : A.units + 2 < cLine) (hl : s.heap.IsList l vs.toArray) (hz : vs.length ≤ sizeLine) (hp : ∀ v ∈ vs, IsLI s.heap v (k v))
    (h : ∀ (h' : Heap) (d : Addr) (out : List Value), SrtO.Srtd (fun v u => ltL (k v) (k u)) out → SrtO.Stb (fun v u => ltL (k v) (k u)) out vs → (∀ b o, s.heap.get? b = some o → h'.get? b = some o) → s.heap.objs.size ≤ d → (∃ n, h'.get? d = some (seqObj "list" out.toArray n)) → Q (.ref d) { s with heap := h' }) :
    wpAny (model prog w) A (call (.builtin "sorted") [.ref l]) Q E s := by
  refine SrtO.sorted_ord (swo_L k) hl hz (fun h2 h₁ a ha kk => ?_) fun out hs hb => ?_
  · refine li_sortable (s := { s with heap := h₁ }) (by show A.units + 1 + 1 < cLine; omega) h2 fun v hm => ?_
    obtain ⟨b, its, rfl, ⟨o, ho, r⟩, i⟩ := hp v hm
    obtain ⟨ne, ho'⟩ := kk b o ho
    exact ⟨⟨b, its, rfl, ⟨o, ho', r⟩, i⟩, fun e => ne (Value.ref.inj e)⟩
  · exact h _ _ out hs hb (fun b o e => PyProof.Rows.sortedAll_old e) (Nat.le_succ _) (PyProof.Rows.sortedAll_at s.heap vs out.toArray)
end
/-- sorted(xs), xs a list of lists of ints (k says which) -/
def rSortedLL (K : PySem.W.Frag) : List V → Hp → VK → Prop := fun vs H Q => ∃ (a : Addr) (xs : List V) (k : V → List Int), vs = [V.ref a] ∧ SqL K H a xs ∧ (∀ x ∈ xs, ∃ t, x = V.ref t ∧ H t = some (.lst ((k x).map V.int))) ∧
  ∀ ys p, SrtO.Srtd (fun v u => ltL (k v) (k u)) ys → SrtO.Stb (fun v u => ltL (k v) (k u)) ys xs → H p = none → Q (.ref p) (upd H p (.lst ys))
section
variable {X : Cx} {ca : Cn} {W : WX} {e : Expr} {es : List Expr} {fl : Ev → R (List D)} {p pos : Pos}
theorem cr_sortedLL (hu : X.A.units + 2 < cLine) : CallR X (.builtin "sorted") (rSortedLL X.K) := by
  intro pins s σ H vs us Q I r h
  obtain ⟨a, xs, k, rfl, hs, hx, q⟩ := h
  obtain ⟨its, rv, hl, hz⟩ := I.list hs
  obtain ⟨u, rfl, ru⟩ := vals1 r
  obtain rfl : u = Value.ref a := ru
  obtain ⟨e1, e2⟩ := refs_back rv fun x m => by
    obtain ⟨t, e, _⟩ := hx x m
    exact ⟨t, e⟩
  refine sorted_li (k := fun u => k (backV u)) hu hl.isList (by rw [← rv.length]; exact hz) (fun v hv => ?_) fun h' d out h1 h2 kp hd hn => ?_
  · obtain ⟨t, rfl⟩ := e2 v hv
    have hm : V.ref t ∈ xs := by rw [e1]; exact List.mem_map.mpr ⟨_, hv, rfl⟩
    obtain ⟨t', e, ht⟩ := hx _ hm
    cases e
    obtain ⟨_, its2, n, r2, ho⟩ := I.hok _ _ ht
    exact ⟨t, its2.toArray, rfl, ⟨_, ho, rfl, n, rfl⟩, r2.ints⟩
  · have h3 : ∀ u ∈ out, ∃ a, u = Value.ref a := fun u hu => e2 u (h2.perm.mem_iff.mp hu)
    obtain ⟨n, hn⟩ := hn
    have hb : SrtO.Stb (fun v u => ltL (k v) (k u)) (out.map backV) xs := by
      rw [e1]
      exact SrtO.Stb.map (swo_L k) backV h2
    refine ⟨.ref d, upd H d (.lst (out.map backV)), I.laid (t' := s.toks) kp hd ⟨?_, out, n, vals_back h3, hn⟩, rfl, q _ d (SrtO.srtd_map h1) hb (I.hok.fresh hd)⟩
    rw [hb.len]
    exact hz
def dL (r : List Int) : D := .lst (r.map .int)
def listOf : D → Option (List Int)
  | .lst xs => intsOf xs
  | _ => none
def listsOf : List D → Option (List (List Int))
  | [] => some []
  | d :: r => (listOf d).bind fun p => (listsOf r).map (p :: ·)
def srtL (ps : List (List Int)) : List (List Int) := ps.mergeSort fun p q => !ltL q p
def gSrtL : List D → R D
  | [.lst xs] => (optR (listsOf xs)).bind fun ps => .ok (.lst ((srtL ps).map dL))
  | _ => .bad
theorem srtL_uniq {ns ms : List (List Int)} (p : ms.Perm ns) (s : ms.Pairwise fun x y => ltL y x = false) : ms = srtL ns := by
  have p2 : (srtL ns).Perm ns := List.mergeSort_perm _ _
  have s2 : (srtL ns).Pairwise fun x y => (!ltL y x) = true := List.pairwise_mergeSort (fun a b c h1 h2 => by
    rw [Bool.not_eq_true'] at *
    exact ltL_tr a b c h1 h2) (fun a b => by
    cases h : ltL b a with
    | false => rfl
    | true => rw [ltL_asym b a h]; rfl) ns
  exact List.Perm.eq_of_pairwise (le := fun x y => ltL y x = false) (fun a b _ _ h1 h2 => ltL_anti a b h2 h1) s (s2.imp fun h => by rwa [Bool.not_eq_true'] at h) (p.trans p2.symm)
theorem listsOf_eq : ∀ {ds : List D} {ps : List (List Int)}, listsOf ds = some ps → ∀ {G : Hp} {vs : List V}, AtL X.K ca G ds vs → ∃ k : V → List Int, vs.map k = ps ∧ ∀ x ∈ vs, ∃ t, x = V.ref t ∧ G t = some (.lst ((k x).map V.int)) := by
  intro ds ps h G vs a
  refine ⟨fun x => match x with
    | .ref t => match G t with
      | some (.lst ys) => ys.map fun y => match y with
        | .int i => i
        | _ => 0
      | _ => []
    | _ => [], ?_⟩
  induction ds generalizing ps vs with
  | nil => cases h; cases a; exact ⟨rfl, fun x m => by cases m⟩
  | cons d r ih =>
    obtain ⟨p, h1, h2⟩ := Option.bind_eq_some_iff.mp (show (listOf d).bind (fun p => (listsOf r).map (p :: ·)) = some ps from h)
    obtain ⟨qs, h3, rfl⟩ := Option.map_eq_some_iff.mp h2
    obtain ⟨v, us, rfl, a1, a2⟩ := a
    obtain ⟨e1, e2⟩ := ih h3 a2
    cases d with
    | lst xs =>
      obtain ⟨t, ws, rfl, g, a3⟩ := a1
      have ew := intsOf_at (show intsOf xs = some p from h1) a3
      subst ew
      have mm : (p.map V.int).map (fun y => match y with
        | .int i => i
        | _ => 0) = p := by
        rw [List.map_map]
        exact (List.map_congr_left fun _ _ => rfl).trans (List.map_id p)
      refine ⟨?_, fun x m => ?_⟩
      · rw [List.map_cons, e1]
        simp only [g, mm]
      · rcases List.mem_cons.mp m with rfl | m
        · refine ⟨t, rfl, ?_⟩
          simp only [g, mm]
        · exact e2 x m
    | _ => cases h1
theorem at_lists {G : Hp} {k : V → List Int} : ∀ {vs : List V}, (∀ x ∈ vs, ∃ t, x = V.ref t ∧ G t = some (.lst ((k x).map V.int))) → AtL X.K ca G ((vs.map k).map dL) vs
  | [], _ => rfl
  | v :: vs, h => by
    obtain ⟨t, e, g⟩ := h v List.mem_cons_self
    exact ⟨v, vs, rfl, ⟨t, _, e, g, AtL.of_ints _⟩, at_lists fun x m => h x (List.mem_cons_of_mem _ m)⟩
theorem vn_srtL : VN X ca (rSortedLL X.K) gSrtL := by
  intro G H W1 xs ds Q s a w
  unfold gSrtL at w
  split at w
  · obtain ⟨v, rfl, p, vs, rfl, h1, h2⟩ := atl1 a
    obtain ⟨ps, e, w2⟩ := wish_opt w
    obtain ⟨k, e1, e2⟩ := listsOf_eq e h2
    refine ⟨p, vs, k, rfl, .of (s _ _ h1), fun x m => let ⟨t, z1, z2⟩ := e2 x m; ⟨t, z1, s _ _ z2⟩, fun ys q so sb n => ?_⟩
    have e3 : ys.map k = srtL ps := srtL_uniq (e1 ▸ sb.perm.map k) (List.pairwise_map.mpr so)
    have a3 : AtL X.K ca G ((ys.map k).map dL) ys := at_lists fun x m => e2 x (sb.perm.mem_iff.mp m)
    rw [e3] at a3
    exact new_lst s w2 a3 n
  · exact w.elim
theorem fe_sortedL (hu : X.A.units + 65 < cLine) (T : BT X.mg) (ha : FA X ca W (e :: es) fl) (n : Nm X "sorted" e es pos := by exact ⟨rfl, rfl, rfl⟩) : FE X ca W (.Call (.Name "sorted" p) (e :: es) [] pos) (eA gSrtL fl) := fe_blt (cr_sortedLL (by omega)) vn_srtL n.g T.sorted bb_sorted ha (by decide) (by decide) n.h n.p
/-! ### sum(xs), xs a tuple of ints -/
def rSumT (K : PySem.W.Frag) : List V → Hp → VK → Prop := fun vs H Q => ∃ (a : Addr) (ns : List Int), vs = [V.ref a] ∧ SqT K H a (ns.map V.int) ∧ Q (.int ns.sum) H
theorem cr_sumT (hc : X.calm = true) : CallR X (.builtin "sum") (rSumT X.K) := by
  intro pins s σ H vs us Q I r h
  obtain ⟨a, ns, rfl, hs, q⟩ := h
  obtain ⟨its, rv, hl, _⟩ := I.tuple hs
  rw [Vals.ref1 r]
  obtain ⟨xs, e⟩ := rv.ints.allInts.items
  have hn : numsOf (intItems xs).toList = ns := by rw [← e]; exact rv.ints.numsOf
  rw [nums_intItems] at hn
  rw [e] at hl
  refine PySem.W.ktm_sumG (I.ok.hd hc) hl fun h' tk t' hk => ?_
  rw [preSum_eq, List.take_of_length_le (by simp), hn]
  exact ⟨.int _, H, I.kept hk, ⟨_, rfl⟩, q⟩
def gSumT : List D → R D
  | [.tup xs] => (optR (intsOf xs)).bind fun ns => .ok (.int ns.sum)
  | _ => .bad
theorem vn_sumT : VN X ca (rSumT X.K) gSumT := by
  intro G H W1 xs ds Q s a w
  unfold gSumT at w
  split at w
  · obtain ⟨ns, e, w⟩ := wish_opt w
    obtain ⟨v, rfl, p, vs, rfl, h1, h2⟩ := atl1 a
    rw [intsOf_at e h2] at h1
    exact ⟨p, ns, rfl, tq s h1, w.here s _ rfl⟩
  · exact w.elim
theorem fe_sumT (T : BT X.mg) (ha : FA X ca W (e :: es) fl) (hc : X.calm = true := by rfl) (n : Nm X "sum" e es pos := by exact ⟨rfl, rfl, rfl⟩) : FE X ca W (.Call (.Name "sum" p) (e :: es) [] pos) (eA gSumT fl) := fe_blt (cr_sumT hc) vn_sumT n.g T.sum bb_sum ha (by decide) (by decide) n.h n.p
end
end Tk

/-! own objects lent to a call that hands out a new list of tuples and plain data -/
namespace Tk
open PySem PySem.Spec L2 PyProof.Rows
mutual
def tupD : D → Bool
  | .non => true
  | .bl _ => true
  | .int _ => true
  | .str _ => true
  | .tup xs => tupL xs
  | _ => false
def tupL : List D → Bool
  | [] => true
  | d :: ds => tupD d && tupL ds
end
def oBor (f : Ev → R Sl) : Ev → R Sl := fun ρ => (f (frzA ρ)).quiet.bind fun s => match s with
  | .l xs => if tupL xs = true then .ok (.l xs) else .bad
  | _ => .bad
section
variable {K : PySem.W.Frag} {ca : Cn} {B G H G' G2 H' : Hp} {σ : L2.St} {ρ : Ev}
def isTupH : HO → Prop
  | .tup _ => True
  | .frz _ (.tup _) => True
  | _ => False
mutual
theorem tupD_at (k : ∀ t o, G' t = some o → isTupH o → G2 t = some o) : ∀ {d : D} {v : V}, tupD d = true → At K ca G' d v → At K ca G2 d v
  | .non, v, _, a => a
  | .bl _, v, _, a => a
  | .int _, v, _, a => a
  | .str _, v, _, a => a
  | .tup xs, v, h, ⟨a, vs, e, q, r⟩ => by
    refine ⟨a, vs, e, ?_, tupL_at k h r⟩
    rcases q with q | ⟨e2, q⟩
    · exact .inl (k _ _ q trivial)
    · refine .inr ⟨e2, ?_⟩
      rcases q with q | q
      · refine .inl ?_
        rcases q with q | ⟨o, q⟩
        · exact .inl (k _ _ q trivial)
        · exact .inr ⟨o, k _ _ q trivial⟩
      · exact .inr q
theorem tupL_at (k : ∀ t o, G' t = some o → isTupH o → G2 t = some o) : ∀ {ds : List D} {vs : List V}, tupL ds = true → AtL K ca G' ds vs → AtL K ca G2 ds vs
  | [], _, _, a => a
  | d :: ds, _, h, ⟨v, r, e, a, t⟩ => by
    have h' : (tupD d && tupL ds) = true := h
    rw [Bool.and_eq_true] at h'
    exact ⟨v, r, e, tupD_at k h'.1 a, tupL_at k h'.2 t⟩
end
theorem Own.notTup {a : Addr} {s : Sl} {o : HO} (h : Own K ca G H a s) (e : H a = Option.some o) : ¬ isTupH o := by
  cases s with
  | no => exact h.elim
  | v d => exact h.elim
  | l xs => obtain ⟨vs, h1, h2⟩ := h; rw [h1] at e; cases e; exact id
  | k xs => obtain ⟨vs, h1, h2⟩ := h; rw [h1] at e; cases e; exact id
  | t xs => obtain ⟨vs, h1, h2⟩ := h; rw [h1] at e; cases e; exact id
  | o g c fs => obtain ⟨C, dx, vs, hg, h0, h1, h2⟩ := h; rw [h1] at e; cases e; exact id
/-- the addresses of the own objects -/
def ownAt (σ : L2.St) (ρ : Ev) (a : Addr) : Prop := ∃ (i : Nat) (s : Sl), ρ[i]? = some s ∧ s.own = true ∧ σ[i]? = some (some (V.ref a))
open Classical in
noncomputable def lendH (G H : Hp) (σ : L2.St) (ρ : Ev) : Hp := fun c => match G c with
  | some o => some o
  | none => if ownAt σ ρ c then H c else none
theorem lend_old (c : Addr) (o : HO) (e : G c = some o) : lendH G H σ ρ c = some o := by
  unfold lendH
  rw [e]
open Classical in
theorem lend_own {a : Addr} (e : G a = none) (h : ownAt σ ρ a) : lendH G H σ ρ a = H a := by
  unfold lendH
  rw [e]
  exact if_pos h
open Classical in
theorem lend_H (s : Same G H) : Same (lendH G H σ ρ) H := fun c o e => by
  unfold lendH at e
  cases z : G c with
  | some o' => rw [z] at e; cases e; exact s c _ z
  | none =>
    rw [z] at e
    have e : (if ownAt σ ρ c then H c else none) = some o := e
    split at e
    · exact e
    · cases e
open Classical in
theorem lend_in {c : Addr} (h : lendH G H σ ρ c ≠ none) : G c ≠ none ∨ (G c = none ∧ ownAt σ ρ c) := by
  cases z : G c with
  | some o => exact .inl (by simp)
  | none =>
    right
    refine ⟨rfl, ?_⟩
    unfold lendH at h
    rw [z] at h
    have h : (if ownAt σ ρ c then H c else none) ≠ none := h
    split at h
    · assumption
    · exact absurd rfl h
theorem Rel.lend (r : Rel K ca B G H σ ρ) (s : Same G H) : Rel K ca B (lendH G H σ ρ) H σ (Tk.frzA ρ) := by
  have no : ∀ (i : Nat) (t : Sl), (Tk.frzA ρ)[i]? = some t → t.own = true → False := fun i t q o => by
    unfold Tk.frzA at q
    rw [List.getElem?_map] at q
    obtain ⟨u, _, q2⟩ := Option.map_eq_some_iff.mp q
    rw [← q2, frz_not_own] at o
    cases o
  have gg : Same G (lendH G H σ ρ) := fun c o e => lend_old c o e
  refine ⟨by unfold Tk.frzA; rw [List.length_map]; exact r.len, fun i d q => ?_, fun i t q o => (no i t q o).elim, fun i j t u a q o => (no i t q o).elim⟩
  unfold Tk.frzA at q
  rw [List.getElem?_map] at q
  obtain ⟨u, q1, q2⟩ := Option.map_eq_some_iff.mp q
  cases o : u.own with
  | false =>
    rw [frz_v o] at q2
    subst q2
    obtain ⟨v, h1, h2⟩ := r.val i d q1
    exact ⟨v, h1, At.mono gg h2⟩
  | true =>
    obtain ⟨a, h1, h2, h3, h4⟩ := r.own i u q1 o
    obtain ⟨d', e1, e2⟩ := h2.at_ gg (lend_own h3 ⟨i, u, q1, o, h1⟩)
    rw [e1] at q2
    cases q2
    exact ⟨_, h1, e2⟩
end
theorem fn_bor {X : Cx} {ca : Cn} {W : WX} {e : Expr} {f : Ev → R Sl} (h : FN X ca W e f) : FN X ca W e (oBor f) := by
  obtain ⟨t, p, k⟩ := h.ex
  refine ⟨t, p, fun B G H σ ρ Q s b r w => k B (lendH G H σ ρ) H σ _ Q (lend_H s) b (r.lend s) ?_⟩
  obtain ⟨sl, e1, w2⟩ := wish_quiet (show Wish X.K ca (SN X.K ca H Q) G H ((f (frzA ρ)).quiet.bind fun s => match s with
    | .l xs => if tupL xs = true then .ok (.l xs) else .bad
    | _ => .bad) (WE W σ) from w)
  cases sl with
  | l xs =>
    have w2 : Wish X.K ca (SN X.K ca H Q) G H (if tupL xs = true then .ok (.l xs) else .bad) (WE W σ) := w2
    split at w2
    · rename_i tl
      rw [e1]
      intro G' H' x
      refine ⟨rfl, fun a oa ga na => ?_⟩
      obtain ⟨vs, hv, av⟩ := oa
      -- the heap: what stood, and what is new
      let G2 : Hp := fun c => match G c with
        | some o => some o
        | none => match H c with
          | none => G' c
          | some _ => none
      have g2o : ∀ c o, G c = some o → G2 c = some o := fun c o e => by show (match G c with | some o => some o | none => _) = _; rw [e]
      have g2n : ∀ c, G c = none → H c = none → G2 c = G' c := fun c e1 e2 => by
        show (match G c with | some o => some o | none => match H c with | none => G' c | some _ => none) = _
        rw [e1, e2]
      have g2x : ∀ c o2, G c = none → H c = some o2 → G2 c = none := fun c o2 e1 e2 => by
        show (match G c with | some o => some o | none => match H c with | none => G' c | some _ => none) = _
        rw [e1, e2]
      have gH : Same G2 H' := fun c o e => by
        cases z : G c with
        | some o' =>
          rw [g2o c o' z] at e
          cases e
          exact x.hh _ _ (s _ _ z)
        | none =>
          cases y : H c with
          | none =>
            rw [g2n c z y] at e
            exact x.gh _ _ e
          | some o2 => rw [g2x c o2 z y] at e; cases e
      have x2 : Ext G H G2 H' := ⟨x.hh, fun c o e => g2o c o e, gH, fun c m => by
        cases z : G c with
        | some o' => exact .inl (by simp)
        | none =>
          cases y : H c with
          | none => exact .inr rfl
          | some o2 => exact absurd (g2x c o2 z y) m⟩
      have kt : ∀ t o, G' t = some o → isTupH o → G2 t = some o := fun t o e ti => by
        rcases x.nw t (by rw [e]; simp) with n | n
        · rcases lend_in n with n | ⟨n, i, sl, q1, q2, q3⟩
          · cases z : G t with
            | none => exact absurd z n
            | some o' =>
              have := x.gg _ _ (lend_old (H := H) (σ := σ) (ρ := ρ) t o' z)
              rw [e] at this
              cases this
              exact g2o _ _ z
          · obtain ⟨a', h1, h2, h3, h4⟩ := r.own i sl q1 q2
            rw [q3] at h1
            cases h1
            obtain ⟨ob, h5⟩ := h2.some
            have h6 := x.gg _ _ ((lend_own (H := H) h3 ⟨i, sl, q1, q2, q3⟩).trans h5)
            rw [e] at h6
            cases h6
            exact absurd ti (h2.notTup h5)
        · rw [g2n t (same_none s n) n]
          exact e
      refine ((show SN X.K ca H Q G2 (.l xs) H' from w2 G2 H' x2)).2 a ⟨vs, hv, tupL_at kt tl av⟩ ?_ na
      rw [g2n a (same_none s na) na]
      exact ga
    · exact w2.elim
  | _ => exact w2.elim
end Tk

set_option maxHeartbeats 2000000
namespace Tk
open PySem PySem.Spec L2 PyProof.Rows
/-! ### the end -/
/-- what the head gives for a law: its def keeps the mirror's promise -/
def LawOk (l : PySem.W.OpenLaw) (F : List D → R D) (k : Nat) (w : World) (mg : Str → Option Value) (fa : Addr) (h : Heap) : Prop :=
  ∃ (K : PySem.W.Frag) (fd : FuncData) (ca : Cn), K.In h ∧ (∀ (s : Shared) (u : Value), BindsTo s fd ⟨[u], []⟩ [("script", u)]) ∧ ∀ b : Heap, K.In b → b.Ns mainGlobals mg → FnOk l.prog w K mg b (L2.CX l.prog w) k fa fd ["script"] (spF K ca 1 F)
theorem law_walk {l : PySem.W.OpenLaw} {k : Nat} {q : Program} {loose : List Str} {XP : (Str → Option Value) → Heap → Prop} {YP : World → Heap → Prop} {d : DefRec} {F : List D → R D} (hn : l.most = some 63) (hdf : d.params.defaults = []) (hr : Room k callerA)
    (hF : ∀ (w : World) (mg : Str → Option Value) (fa : Addr) (h : Heap), YP w h → h.Ns mainGlobals mg → mg d.name = some (.ref fa) → LawOk l F k w mg fa h) (hl : ∀ ns : List Int, ns.length ≤ 63 → F [.scr ns] = .ok (.bl true)) :
    PySem.W.WalkO q loose XP YP l.row.toRowW d [] (fun f vs => PySem.call f vs) := by
  refine Att.attach_call hn hdf fun w s0 s1 mg mb fa o pm cd doc a vs ns G Y ho hd hcd hmg hobj hints hlen hg => ?_
  obtain ⟨K, fd, ca, KX, hb, go⟩ := hF w mg fa _ Y G.T.g hmg
  refine law_call KX G.T.g G.T.b G.T.builtins G.T.nolimit hg hobj hints (Nat.le_trans hlen (by decide)) hr go hb (fun H hO hS => ?_) fun H e s' z => let ⟨_, _, _, _, _, _, _, _, _, _, _, _, y⟩ := z; y
  refine ⟨rfl, H, [.scr ns], .refl H, ⟨_, [], rfl, ⟨a, rfl, hS⟩, rfl⟩, ?_⟩
  rw [hl ns hlen]
  exact fun G' H' _ v av => av
end Tk

set_option maxHeartbeats 2000000
namespace Tk
open PySem PySem.Spec L2 PyProof.Rows
/-! ### the head's facts, and one more Bool -/
abbrev AlM : Type := He.AlD × Bool
def obsM (n : Nat) (fa : List He.Fa) (fn : List He.DefD) (ex : PySem.W.Frag → Bool) (g : Addr → Option Obj) : AlM := (He.obsDG n fa fn g, ex (He.frG g (He.asD g n)))
def hookM (n : Nat) (fa : List He.Fa) (fn : List He.DefD) (ex : PySem.W.Frag → Bool) : PySem.W.Hook where
  α := AlM
  obs := fun s => obsM n fa fn ex s.heap.get?
  val := fun _ => (He.valD fn, true)
  says := fun _ h => ∃ K : PySem.W.Frag, K.In h ∧ He.SaysD fa fn K ∧ ex K = true
  of := fun _ _ e => ⟨_, He.frG_in, congrArg (fun z : AlM => z.1) e, congrArg (fun z : AlM => z.2) e⟩
  keeps := fun _ _ _ ⟨K, hK, c⟩ k => ⟨K, PySem.W.Frag.In.keeps hK k, c⟩
theorem obsM_eq {n : Nat} {fa : List He.Fa} {fn : List He.DefD} {ex : PySem.W.Frag → Bool} {g : Addr → Option Obj} {s : Shared} (h : ∀ a, g a = s.heap.get? a) : obsM n fa fn ex g = (hookM n fa fn ex).obs s := by
  have e : g = s.heap.get? := funext h
  rw [e] <;> rfl
structure SaysU (fa : List He.Fa) (fn : List He.DefD) (ex : PySem.W.Frag → Bool) (K : PySem.W.Frag) (mg : Str → Option Value) : Prop extends Says fa fn K mg where
  u : ex K = true
def clBody (s : Stmt) : List Stmt := match s with
  | .ClassDef _ _ _ b _ _ _ _ _ _ _ => b
  | _ => []
def clMeth (s : Stmt) (i : Nat) : Stmt := (clBody s).getD i (.Pass ⟨0, 0, 0, 0⟩)
section
variable {fa : List He.Fa} {fn : List He.DefD} {K : PySem.W.Frag} {mg : Str → Option Value} {ca : Cn} {c : Nat} {x m qual : Str} {st : Stmt} {dd : List D} {kd : List (Str × D)}
theorem Says.glo (T : Says fa fn K mg) (j : Nat) (hj : fa[j]? = some (.glo x) := by rfl) : mg x = some (.ref (He.ga K x)) := by
  obtain ⟨hp, X, G⟩ := T.h
  exact He.glo_ok X G (T.c.fact j hj)
/-- a class that is made: places of its facts mkr, glo, of its __init__ -/
theorem Says.clt (T : Says fa fn K mg) (jm jg i : Nat) (hc : ca.a c = some (He.ga K x)) (hm : fa[jm]? = some (.mkr x) := by rfl) (hg : fa[jg]? = some (.glo x) := by rfl) (hi : fn[i]? = some (dfD (x, some "__init__") "__init__" qual st dd kd) := by rfl) (h1 : dd.all flatD = true := by rfl) (h2 : (kd.map (·.2)).all flatD = true := by rfl) : ClAt K mg ca c x qual st dd kd := by
  obtain ⟨fd, F⟩ := T.fd i hi h1 h2
  exact ⟨_, fd, _, F, He.mkr_ok (T.c.fact jm hm), hc, T.glo jg hg⟩
/-- a method: places of cls, meth, of its def -/
theorem Says.met (T : Says fa fn K mg) (jc jm i : Nat) (hc : ca.a c = some (He.ga K x)) (h0 : fa[jc]? = some (.cls x) := by rfl) (hm : fa[jm]? = some (.meth x m) := by rfl) (hi : fn[i]? = some (dfD (x, some m) m qual st dd kd) := by rfl) (h1 : dd.all flatD = true := by rfl) (h2 : (kd.map (·.2)).all flatD = true := by rfl) : MeAt K ca c m qual st dd kd := by
  obtain ⟨fd, F⟩ := T.fd i hi h1 h2
  exact ⟨_, fd, _, F, hc, He.cls_ok (T.c.fact jc h0), He.meth_ok (T.c.fact jm hm)⟩
theorem Says.fld (T : Says fa fn K mg) {C : Addr} (jc jn : Nat) {nm : Str} (e : He.ga K x = C) (h0 : fa[jc]? = some (.cls x) := by rfl) (hn : fa[jn]? = some (.noat x nm) := by rfl) : Cls K C ∧ NoAttr K C nm := by
  subst e
  exact ⟨He.cls_ok (T.c.fact jc h0), He.noat_ok (T.c.fact jn hn)⟩
end
/-! ### calls of __init__ and methods with defaults -/
section
variable {K : PySem.W.Frag} {ca : Cn} {x qual : Str} {params : Arguments} {body : List Stmt} {scope : Scope} {dd : List D} {kd : List (Str × D)} {f : Addr} {fd : FuncData} {ps : List Str}
theorem kbi_n (F : FunD K x qual params body scope [] (kwV kd) f fd) (n : Nat) (ks : List Str) (is : List Nat) (hp : ∀ i ∈ is, 1 ≤ i)
    (h : ∀ (kV doc pm : Value) (an : Option Addr) (cdv ct : Value) (us ws : List Value), us.length = n + 1 → ws.length = ks.length → bindArgs (PySem.W.fnOf x qual params body scope .none kV doc pm an cdv ct) ⟨us, ks.zip ws⟩ = pure (ps.zip (pickI (0 :: is) (us ++ ws)))) : KBI K ca fd ps n ks (gDk (is.map (· - 1)) []) := by
  obtain ⟨oc, od, dV, kV, doc, pm, an, cdv, ct, osl, rfl, lk, hcd, hD, hK⟩ := F.ex
  rcases hD with ⟨_, rfl⟩ | ⟨e, _⟩
  · exact kbi_of rfl .nil hp fun s us ws _ l1 l2 => BindsTo.of_eq (h kV doc pm an cdv ct us ws l1 l2)
  · exact absurd rfl e
theorem kbi_k (F : FunD K x qual params body scope [] (kwV kd) f fd) (n : Nat) (ks : List Str) (is : List Nat) (ms : List (Str × D)) (hp : ∀ i ∈ is, 1 ≤ i) (hk : kd ≠ []) (hms : ∀ q ∈ kwV ms, q ∈ kwV kd) (hf : (ms.map (·.2)).all flatD = true)
    (h : ∀ (D : Addr) (doc pm : Value) (an : Option Addr) (cdv ct : Value) (us mv ws : List Value), us.length = n + 1 → mv.length = ms.length → ws.length = ks.length →
      KwChain D ((ms.map (·.1)).zip mv) (bindArgs (PySem.W.fnOf x qual params body scope .none (.ref D) doc pm an cdv ct) ⟨us, ks.zip ws⟩) (ps.zip (pickI (0 :: is) (us ++ (mv ++ ws))))) : KBI K ca fd ps n ks (gDk (is.map (· - 1)) (ms.map (·.2))) := by
  obtain ⟨oc, od, dV, kV, doc, pm, an, cdv, ct, osl, rfl, lk, hcd, hD, hK⟩ := F.ex
  rcases hD with ⟨_, rfl⟩ | ⟨e, _⟩
  · rcases hK with e | ⟨D, rfl, hq⟩
    · exact absurd (List.map_eq_nil_iff.mp e) hk
    · obtain ⟨mv, hl, rk, hks⟩ := kwd_vals (ms := kwV ms) fun q hm => hq q (hms q hm)
      rw [List.length_map] at hl
      have e1 : (kwV ms).map (·.1) = ms.map (·.1) := by rw [List.map_map]; rfl
      have e2 : (kwV ms).map (·.2) = (ms.map (·.2)).map toV := by rw [List.map_map, List.map_map]; rfl
      rw [e1] at hks
      rw [e2] at rk
      exact kbi_of hf rk hp fun s us ws X l1 l2 => BindsTo.of_looks fun M => KwChain.looks X hks (h D doc pm an cdv ct us mv ws l1 hl l2)
  · exact absurd rfl e
theorem kbi_d (F : FunD K x qual params body scope (dd.map toV) (kwV kd) f fd) (n : Nat) (ks : List Str) (is : List Nat) (hp : ∀ i ∈ is, 1 ≤ i) (hd : dd ≠ []) (hf : dd.all flatD = true)
    (h : ∀ (T : Addr) (kV doc pm : Value) (an : Option Addr) (cdv ct : Value) (us its ws : List Value), us.length = n + 1 → its.length = dd.length → ws.length = ks.length →
      ∃ k, bindArgs (PySem.W.fnOf x qual params body scope (.ref T) kV doc pm an cdv ct) ⟨us, ks.zip ws⟩ = seqItems? (.ref T) >>= k ∧ k (some its.toArray) = pure (ps.zip (pickI (0 :: is) (us ++ (its ++ ws))))) : KBI K ca fd ps n ks (gDk (is.map (· - 1)) dd) := by
  obtain ⟨oc, od, dV, kV, doc, pm, an, cdv, ct, osl, rfl, lk, hcd, hD, hK⟩ := F.ex
  rcases hD with ⟨e, _⟩ | ⟨_, T, o, its, m, rfl, lT, oT, rT⟩
  · exact absurd (List.map_eq_nil_iff.mp e) hd
  · refine kbi_of hf rT hp fun s us ws X l1 l2 => ?_
    obtain ⟨k, e1, e2⟩ := h T kV doc pm an cdv ct us its ws l1 (by rw [← rT.length, List.length_map]) l2
    refine BindsTo.of_looks fun M => ?_
    rw [e1]
    exact looks_items X lT oT (.of_pure e2)
end
/-! ### the Bool's parts -/
def kitB2 (K : PySem.W.Frag) (cls : List Str) (x : Str) (tab : List (Kd × Bool)) : Bool := tab.all fun p => (match p.1 with
  | .ty n => decide (PySem.W.kitOne K (.type n) (.ref (He.ga K x)) = some p.2)
  | .cl c => (match cls[c]? with
    | some y => decide (PySem.W.kitOne K (.ref (He.ga K y)) (.ref (He.ga K x)) = some p.2)
    | none => false))
def insTyB (K : PySem.W.Frag) (x : Str) : Bool := He.eqO (PySem.W.findIn K (.ref (He.ga K x)) "__class__") (some (some (.builtin "object.__class__"))) && (He.eqO (PySem.W.specialIn K (.builtin "object.__class__") "__get__") (some (some (.builtin "getset_descriptor.__get__"))) && (decide (PySem.W.takesIn K (.builtin "object.__class__") = some true) && decide (PySem.W.mroIn K (He.ga K x) (.type "object") = some true)))
theorem insTy_ok {K : PySem.W.Frag} {x : Str} (c : Cls K (He.ga K x)) (h : insTyB K x = true) : InsTy K (He.ga K x) := by
  obtain ⟨h1, h⟩ := He.ba h
  obtain ⟨h2, h⟩ := He.ba h
  obtain ⟨h3, h4⟩ := He.ba h
  exact ⟨c, He.eqO_ok h1, He.eqO_ok h2, of_decide_eq_true h3, of_decide_eq_true h4⟩
theorem isi_ok {K : PySem.W.Frag} {ca : Cn} {cls : List Str} {x : Str} {tab : List (Kd × Bool)} (hca : ∀ c, ca.a c = cls[c]?.map (He.ga K)) (h : kitB2 K cls x tab = true) (hi : ∀ c y, cls[c]? = some y → (∃ b, (Kd.cl c, b) ∈ tab) → InsTy K (He.ga K y)) : IsiOk K ca (He.ga K x) tab := by
  refine ⟨fun p m => ?_, fun c C' e q => ?_⟩
  · have := List.all_eq_true.mp h p m
    obtain ⟨k, b⟩ := p
    cases k with
    | ty n => exact ⟨_, rfl, of_decide_eq_true this⟩
    | cl c =>
      have h2 : (match cls[c]? with
        | some y => decide (PySem.W.kitOne K (.ref (He.ga K y)) (.ref (He.ga K x)) = some b)
        | none => false) = true := this
      cases e : cls[c]? with
      | none => rw [e] at h2; cases h2
      | some y =>
        rw [e] at h2
        refine ⟨.ref (He.ga K y), ?_, of_decide_eq_true h2⟩
        show (ca.a c).map Value.ref = _
        rw [hca, e]
        rfl
  · rw [hca] at e
    obtain ⟨y, y1, y2⟩ := Option.map_eq_some_iff.mp e
    subst y2
    exact hi c y y1 q
end Tk

namespace Tk
open PySem PySem.Spec L2 PyProof.Rows
/-! ### the program's classes and attributes by number -/
def clsL : List Str := (["BrokenRow", "Calls", "Count", "Trial", "Desk", "HouseError", "Refused", "BadName", "DoubledName", "UnknownName", "UnknownPage", "BadNumber", "BadCount", "OtherNames", "NoLink", "BadLot", "BadBook", "BadText", "BadStanding", "NoMove", "NoDeed", "TooLarge", "BadTable", "BadPlan", "NotFull", "BadStep", "BadRow", "BadHolding", "BadCommand", "DeskOver"] : List Str) ++ (["MoveWaits", "NoMoveWaits", "PagesFollow", "NothingToUndo", "NothingToRedo", "Game", "Guests", "Habit", "House", "Least", "Links", "Moment", "Net", "Page", "Book", "Paper", "Table", "Plan", "Raising", "RuleDraft", "Draft", "Allotment", "Roll", "Rule", "TurnRule", "BidRule", "Step", "Longest", "Dearest", "Safest"] : List Str) ++ (["Over", "Wait", "Without", "ToldRound", "Tolls"] : List Str)
def fldL : List Str := (["price", "rounds", "fault", "calls", "total", "prices", "table", "order", "winner", "_desk", "_now", "_past", "_ahead", "_most", "name", "number", "size", "lot", "part", "place", "line", "standing", "move", "deed", "why", "_first", "_net", "offers", "aside", "steps"] : List Str) ++ (["members", "rules", "names", "book", "roll", "most", "_votes", "plans", "links", "house", "game", "paid", "places", "standings", "options", "bids", "wishers", "followers", "home", "starts", "_pages", "_rows", "_standings", "_by_standing", "first", "raises", "ways", "kind", "parts", "pages"] : List Str) ++ (["page_lines", "ballots", "takers", "rents", "limit", "barred", "deposit", "fee", "start", "_hands", "_barred_tolls", "weights", "hours", "guests", "_least", "_house", "_page", "_rule", "_candidates", "_takers", "_prices"] : List Str)
abbrev nF : Nat := 200
def cnL (K : PySem.W.Frag) : Cn := ⟨fun c => clsL[c]?.map (He.ga K), nmOf fldL⟩
theorem fld_nd : fldL.Nodup := by decide +kernel
theorem fld_ne : Str.empty ∉ fldL := by decide +kernel
theorem nm_ne {l : List Str} {m : Str} (h : m ∉ l) (e : m ≠ Str.empty) (k : Nat) : nmOf l k ≠ m := fun z => by
  unfold nmOf at z
  rw [List.getD_eq_getElem?_getD] at z
  cases q : l[k]? with
  | none => rw [q] at z; exact e z.symm
  | some x => rw [q] at z; exact h (z ▸ List.mem_of_getElem? q)
def isT (yes no : List Nat) : List (Kd × Bool) := [(.ty "NoneType", false), (.ty "bool", false), (.ty "int", false), (.ty "str", false), (.ty "list", false), (.ty "tuple", false), (.ty "dict", false)] ++ (yes.map fun c => (.cl c, true)) ++ no.map fun c => (.cl c, false)
end Tk

/-! gcd of the module math, under its own name -/
namespace Tk
open PySem PySem.Spec L2 PyProof.Rows
/-- a name of the module that stands for a built-in function -/
def bltB (K : PySem.W.Frag) (x : Str) (id : String) : Bool := He.eqO (PySem.W.nsIn K mainGlobals x) (some (some (.builtin id)))
theorem Says.blt {fa : List He.Fa} {fn : List He.DefD} {K : PySem.W.Frag} {mg : Str → Option Value} {x : Str} {id : String} (T : Says fa fn K mg) (c : bltB K x id = true) : mg x = some (.builtin id) := by
  obtain ⟨hp, X, G⟩ := T.h
  exact PySem.W.mg_of X G (He.eqO_ok c)
def gGcd : List D → R D
  | [.int a, .int b] => .ok (.int ((Nat.gcd a.natAbs b.natAbs : Nat) : Int))
  | _ => .bad
section
variable {X : Cx} {ca : Cn} {W : WX} {e : Expr} {es : List Expr} {fl : Ev → R (List D)} {p pos : Pos}
theorem vn_gcd : VN X ca rGcd gGcd := by
  intro G H W1 xs ds Q s a w
  unfold gGcd at w
  split at w
  · obtain ⟨u, v, rfl, a1, a2⟩ := atl2 a
    cases a1
    cases a2
    exact ⟨_, _, rfl, w.here s _ rfl⟩
  · exact w.elim
theorem fe_gcd (hm : X.mg "gcd" = some (.builtin "math.gcd")) (ha : FA X ca W (e :: es) fl) (hg : Gl X "gcd" := by rfl)
    (he : starEach (e :: es) X.env = (false, eval e X.env) :: starEach es X.env := by rfl) (hpl : (backTo pos (starEach es X.env)).any (·.1) = false := by rfl) : FE X ca W (.Call (.Name "gcd" p) (e :: es) [] pos) (eA gGcd fl) := by
  obtain ⟨t, pa, kt⟩ := ha.ex
  refine ⟨_, pe_callBfun cr_gcd hg hm pa (by decide) he hpl, fun B G H σ ρ Q s b r h => ?_⟩
  exact kt B G H σ ρ _ s b r (Wish.bind h fun ds G1 H1 _ x1 w1 vs a1 => vn_gcd G1 H1 _ vs ds Q x1.gh a1 w1)
end
end Tk

/-! a == b, a an instance with an own __eq__ -/
namespace Tk
open PySem PySem.Spec L2 PyProof.Rows
/-- the classes that the other side may be of -/
def eqTys : List String := ["NoneType", "tuple", "str"]
def eqTyB (K : PySem.W.Frag) (C : Addr) : Bool := eqTys.all fun n => PySem.W.notFirst K C (.type n)
section
variable {X : Cx} {ca : Cn} {W : WX} {k j c nf : Nat} {qual : Str} {st : Stmt} {dd : List D} {kd : List (Str × D)} {ps : List Str} {Fn : List D → R D}
def yTy (C : Addr) (y : V) (H : Hp) : Prop := y = .non ∨ (∃ s, y = .str s) ∨ (∃ a vs, y = .ref a ∧ H a = some (.tup vs)) ∨ ∃ a dx fs, y = .ref a ∧ H a = some (.ins C dx fs)
def rOwn (K : PySem.W.Frag) (ca : Cn) (C : Addr) (n : Nat) (Fn : List D → R D) : R2 := fun x y H Q => ∃ p dx vs, x = .ref p ∧ H p = some (.ins C dx vs) ∧ yTy C y H ∧ spF K ca n Fn [x, y] H (fun v H' => (∃ b, v = .bl b) ∧ Q v H') (fun _ _ _ => False)
theorem op_own {f C : Addr} {fd : FuncData} (F : FnOk X.prog X.w X.K X.mg X.base (L2.CX X.prog X.w) k f fd ps (spF X.K ca ps.length Fn)) (hm : Meth X.K C "__eq__" f) (hr : Room k X.A) (hb : Binds X.K fd ps []) (ht : eqTyB X.K C = true) : OpR X (compareOp .Eq) (rOwn X.K ca C ps.length Fn) := by
  intro pins s σ H x y v u Q I rx ry hq
  obtain ⟨p, dx, vs, rfl, ha, hy, sp⟩ := hq
  cases rx
  obtain ⟨mA, J, _⟩ := ins_get I.hok ha
  obtain ⟨od, J, _⟩ := J.look
  obtain ⟨m, hF⟩ := I.fr
  have run : wpAny (model X.prog X.w) X.A (call (.ref f) [.ref p, u]) (EP X pins σ fun v H' => (∃ b, v = .bl b) ∧ Q v H') X.xe s :=
    run_fn (dvs := []) (ds := []) (us := [.ref p, u]) (vs := [.ref p, y]) (E := fun _ _ _ => False) F hr hb .nil (fun pins σ H s e s' I hq => by
      obtain ⟨_, _, _, _, _, _, _, _, _, _, _, _, hE⟩ := hq
      exact hE.elim) I (.cons rfl (.cons ry .nil)) sp
  have back : wpAny (model X.prog X.w) X.A (call (.ref f) [.ref p, u]) (PySem.W.CmpBack (EP X pins σ Q)) X.xe s := wpAny_mono run (fun r s' hq => by
    obtain ⟨z, H', I', rz, ⟨b, rfl⟩, q⟩ := hq
    cases rz
    exact ⟨.bl b, H', I', rfl, q⟩) fun _ _ e => e
  have nfT : ∀ n ∈ eqTys, PySem.W.notFirst X.K C (.type n) = true := fun n mn => List.all_eq_true.mp ht n mn
  show wpAny (model X.prog X.w) X.A (richCompare .Eq (.ref p) u) (EP X pins σ Q) X.xe s
  rcases hy with rfl | ⟨z, rfl⟩ | ⟨a, ws, rfl, ht2⟩ | ⟨a, dy, fs, rfl, hi⟩
  · cases ry
    exact PySem.W.cmp_K (op := .Eq) (tb := .type "NoneType") hr.units0 hF I.ok.mod.kin J .now (nfT _ (by decide)) hm.at_ hm.fn back
  · obtain ⟨t, rfl⟩ := ry
    exact PySem.W.cmp_K (op := .Eq) (tb := .type "str") hr.units0 hF I.ok.mod.kin J .now (nfT _ (by decide)) hm.at_ hm.fn back
  · cases ry
    obtain ⟨_, its, r2, o, ho, hc, n, hd⟩ := I.hok _ _ ht2
    refine PySem.W.cmp_K (op := .Eq) (tb := .type "tuple") hr.units0 hF I.ok.mod.kin J ?_ (nfT _ (by decide)) hm.at_ hm.fn back
    rw [← hc]
    exact (PySem.W.Looks.ld ho).andThen .now
  · cases ry
    obtain ⟨mB, J', _⟩ := ins_get I.hok hi
    obtain ⟨od', J', _⟩ := J'.look
    exact PySem.W.cmp_K (op := .Eq) (tb := .ref C) hr.units0 hF I.ok.mod.kin J J'.type (by simp [PySem.W.notFirst]) hm.at_ hm.fn back
def eqOk (c : Nat) : D → Bool
  | .non => true
  | .str _ => true
  | .tup (_ :: _) => true
  | .ins c' _ => decide (c' = c)
  | _ => false
def isIns (c : Nat) : D → Bool
  | .ins c' _ => decide (c' = c)
  | _ => false
def gOwn (c : Nat) (Fn : List D → R D) (a b : D) : R D := if (isIns c a && eqOk c b) = true then (match Fn [a, b] with
  | .ok (.bl z) => .ok (.bl z)
  | _ => .bad) else .bad
theorem v2_own {C : Addr} {n : Nat} (hc : ca.a c = some C) (hn : n = 2) : V2 X ca (rOwn X.K ca C n Fn) (gOwn c Fn) := by
  intro G H W1 x y a b Q s ax ay w
  unfold gOwn at w
  split at w
  · rename_i hh
    obtain ⟨h1, h2⟩ := Bool.and_eq_true_iff.mp hh
    have hx : ∃ p dx vs, x = .ref p ∧ H p = some (.ins C dx vs) := by
      cases a with
      | ins c' fs =>
        have e : c' = c := of_decide_eq_true h1
        subst e
        obtain ⟨p, C', dx, vs, rfl, q1, q2, q3⟩ := ax
        rw [hc] at q1
        cases q1
        exact ⟨p, dx, vs, rfl, s _ _ q2⟩
      | _ => cases h1
    have hy : yTy C y H := by
      cases b with
      | non => cases ay; exact .inl rfl
      | str z => cases ay; exact .inr (.inl ⟨_, rfl⟩)
      | tup xs =>
        cases xs with
        | nil => cases h2
        | cons d ds =>
          obtain ⟨p, vs, rfl, q, r⟩ := ay
          rcases q with q | ⟨e, _⟩
          · exact .inr (.inr (.inl ⟨p, vs, rfl, s _ _ q⟩))
          · subst e
            obtain ⟨_, _, e, _⟩ := r
            cases e
      | ins c' fs =>
        have e : c' = c := of_decide_eq_true h2
        subst e
        obtain ⟨p, C', dx, vs, rfl, q1, q2, q3⟩ := ay
        rw [hc] at q1
        cases q1
        exact .inr (.inr (.inr ⟨p, dx, vs, rfl, s _ _ q2⟩))
      | _ => cases h2
    split at w
    · rename_i z ez
      obtain ⟨p, dx, vs, e1, e2⟩ := hx
      refine ⟨p, dx, vs, e1, e2, hy, hn.symm, G, [a, b], s, ⟨x, [y], rfl, ax, y, [], rfl, ay, rfl⟩, ?_⟩
      rw [ez]
      exact fun G' H' x' v av => ⟨⟨z, av⟩, w G' H' x' v av⟩
    · exact w.elim
  · exact w.elim
theorem fe_own {a b : Expr} {fa fb : Ev → R D} {pos : Pos} {C : Addr} (d : DefM X.prog X.w X.K X.mg X.base ca k c "__eq__" qual st dd kd ps Fn) (hc : ca.a c = some C) (ht : eqTyB X.K C = true) (hb : ∀ {f fd}, FD X.K "__eq__" qual st dd kd f fd → Binds X.K fd ps []) (hr : Room j X.A) (ha : FE X ca W a fa) (hbb : FE X ca W b fb) (hk : k ≤ j := by decide) (hn : ps.length = 2 := by rfl) (hm : behindInMarks .Eq b = false := by rfl) : FE X ca W (.Compare a [.Eq] [b] pos) (e2 (gOwn c Fn) fa fb) := by
  obtain ⟨f, fd, C', F, q1, cl, me, fdp⟩ := d.ex
  rw [hc] at q1
  cases q1
  exact fe_cmp (op_own F me (hr.mono hk) (hb fdp) ht) (v2_own hc hn) hm ha hbb
/-! ### tuple(range(n)) -/
def rgL (n : Int) : List Int := (List.range n.toNat).map fun (k : Nat) => (k : Int)
def eTupR (fa : Ev → R D) : Ev → R D := fun ρ => (fa ρ).bind fun d => match d with
  | .int n => if 0 ≤ n ∧ n ≤ 100000 then .ok (.tup ((rgL n).map .int)) else .bad
  | _ => .bad
theorem rgV_eq (n : Int) : rgV 0 n = (rgL n).map V.int := by
  unfold rgV rgL
  rw [List.map_map, Int.sub_zero]
  refine List.map_congr_left fun k _ => ?_
  rw [Int.zero_add]
  rfl
theorem fe_tupR {e : Expr} {fa : Ev → R D} {p p2 pos pos2 : Pos} (T : BT X.mg) (ha : FE X ca W e fa) (hc : X.calm = true := by rfl) (hg : Gl X "tuple" := by rfl) (hg2 : Gl X "range" := by rfl) (na : starEach [.Call (.Name "range" p2) [e] [] pos2] X.env = (false, eval (.Call (.Name "range" p2) [e] [] pos2) X.env) :: starEach [] X.env := by rfl) (na2 : starEach [e] X.env = (false, eval e X.env) :: starEach [] X.env := by rfl) : FE X ca W (.Call (.Name "tuple" p) [.Call (.Name "range" p2) [e] [] pos2] [] pos) (eTupR fa) := by
  obtain ⟨t, pa, k⟩ := ha.ex
  refine ⟨_, pe_tupRg hc hg T.tuple (prg_1 hg2 T.range pa na2) na, fun B G H σ ρ Q s b r h => k B G H σ ρ _ s b r (Wish.bind h fun d G1 H1 _ x1 w1 v av => ?_)⟩
  cases d with
  | int n =>
    cases av
    have w1 : Wish X.K ca (SV X.K ca Q) G1 H1 (if 0 ≤ n ∧ n ≤ 100000 then .ok (.tup ((rgL n).map .int)) else .bad) (WE W σ) := w1
    split at w1
    · rename_i hn
      refine ⟨n, rfl, RgOk.of_le (Int.le_refl 0) (by omega) (by decide) hn.1, fun q hq => ?_⟩
      rw [rgV_eq]
      exact new_tup x1.gh w1 (AtL.of_ints _) hq
    · exact w1.elim
  | _ => exact w1.elim
end
end Tk

/-! own objects lent to an expression that makes an instance of tuples and plain data -/
namespace Tk
open PySem PySem.Spec L2 PyProof.Rows
def tupF : List (Nat × D) → Bool
  | [] => true
  | p :: ps => tupD p.2 && tupF ps
def insT : D → Bool
  | .ins _ fs => tupF fs
  | d => tupD d
def noO : Ev → Bool
  | [] => true
  | .o _ _ _ :: _ => false
  | _ :: ρ => noO ρ
theorem noO_mem : ∀ {ρ : Ev} {i : Nat} {g : Option Addr} {c : Nat} {fs : List (Nat × D)}, noO ρ = true → ρ[i]? = some (.o g c fs) → False
  | s :: ρ, 0, g, c, fs, h, e => by
    cases e
    cases h
  | s :: ρ, i + 1, g, c, fs, h, e => by
    have h2 : noO ρ = true := by
      cases s <;> first | exact h | cases h
    exact noO_mem h2 (by simpa using e)
def eBorT (f : Ev → R D) : Ev → R D := fun ρ => (f (frzA ρ)).quiet.bind fun d => if (insT d && noO ρ) = true then .ok d else .bad
section
variable {K : PySem.W.Frag} {ca : Cn} {B G H G' G2 H' : Hp} {σ : L2.St} {ρ : Ev}
def isIT : HO → Prop
  | .ins _ _ _ => True
  | o => isTupH o
theorem tup_it {o : HO} (h : isTupH o) : isIT o := by
  cases o <;> first | exact h | exact trivial | exact h.elim
theorem tupF_at (k : ∀ t o, G' t = some o → isTupH o → G2 t = some o) : ∀ {fs : List (Nat × D)} {vs : List (Str × V)}, tupF fs = true → AtF K ca G' fs vs → AtF K ca G2 fs vs
  | [], _, _, a => a
  | (f, d) :: fs, _, h, ⟨v, r, e, a, t⟩ => by
    have h' : (tupD d && tupF fs) = true := h
    rw [Bool.and_eq_true] at h'
    exact ⟨v, r, e, tupD_at k h'.1 a, tupF_at k h'.2 t⟩
theorem insT_at (k : ∀ t o, G' t = some o → isIT o → G2 t = some o) {d : D} {v : V} (h : insT d = true) (a : At K ca G' d v) : At K ca G2 d v := by
  have k2 : ∀ t o, G' t = some o → isTupH o → G2 t = some o := fun t o e i => k t o e (tup_it i)
  cases d with
  | ins c fs =>
    obtain ⟨p, C, dx, vs, rfl, q1, q2, q3⟩ := a
    exact ⟨p, C, dx, vs, rfl, q1, k _ _ q2 trivial, tupF_at k2 h q3⟩
  | _ => exact tupD_at k2 h a
theorem Own.notIT {a : Addr} {s : Sl} {o : HO} (h : Own K ca G H a s) (e : H a = Option.some o) (no : ∀ g c fs, s ≠ .o g c fs) : ¬ isIT o := by
  cases s with
  | no => exact h.elim
  | v d => exact h.elim
  | l xs => obtain ⟨vs, h1, h2⟩ := h; rw [h1] at e; cases e; exact id
  | k xs => obtain ⟨vs, h1, h2⟩ := h; rw [h1] at e; cases e; exact id
  | t xs => obtain ⟨vs, h1, h2⟩ := h; rw [h1] at e; cases e; exact id
  | o g c fs => exact (no g c fs rfl).elim
end
theorem fe_borT {X : Cx} {ca : Cn} {W : WX} {e : Expr} {f : Ev → R D} (h : FE X ca W e f) : FE X ca W e (eBorT f) := by
  obtain ⟨t, p, k⟩ := h.ex
  refine ⟨t, p, fun B G H σ ρ Q s b r w => k B (lendH G H σ ρ) H σ _ Q (lend_H s) b (r.lend s) ?_⟩
  obtain ⟨d, e1, w2⟩ := wish_quiet (show Wish X.K ca (SV X.K ca Q) G H ((f (frzA ρ)).quiet.bind fun d => if (insT d && noO ρ) = true then .ok d else .bad) (WE W σ) from w)
  split at w2
  · rename_i hh
    obtain ⟨tl, nO⟩ := Bool.and_eq_true_iff.mp hh
    rw [e1]
    intro G' H' x v av
    let G2 : Hp := fun c => match G c with
      | some o => some o
      | none => match H c with
        | none => G' c
        | some _ => none
    have g2o : ∀ c o, G c = some o → G2 c = some o := fun c o e => by show (match G c with | some o => some o | none => _) = _; rw [e]
    have g2n : ∀ c, G c = none → H c = none → G2 c = G' c := fun c e1 e2 => by
      show (match G c with | some o => some o | none => match H c with | none => G' c | some _ => none) = _
      rw [e1, e2]
    have g2x : ∀ c o2, G c = none → H c = some o2 → G2 c = none := fun c o2 e1 e2 => by
      show (match G c with | some o => some o | none => match H c with | none => G' c | some _ => none) = _
      rw [e1, e2]
    have gH : Same G2 H' := fun c o e => by
      cases z : G c with
      | some o' =>
        rw [g2o c o' z] at e
        cases e
        exact x.hh _ _ (s _ _ z)
      | none =>
        cases y : H c with
        | none =>
          rw [g2n c z y] at e
          exact x.gh _ _ e
        | some o2 => rw [g2x c o2 z y] at e; cases e
    have x2 : Ext G H G2 H' := ⟨x.hh, fun c o e => g2o c o e, gH, fun c m => by
      cases z : G c with
      | some o' => exact .inl (by simp)
      | none =>
        cases y : H c with
        | none => exact .inr rfl
        | some o2 => exact absurd (g2x c o2 z y) m⟩
    have kt : ∀ t o, G' t = some o → isIT o → G2 t = some o := fun t o e ti => by
      rcases x.nw t (by rw [e]; simp) with n | n
      · rcases lend_in n with n | ⟨n, i, sl, q1, q2, q3⟩
        · cases z : G t with
          | none => exact absurd z n
          | some o' =>
            have := x.gg _ _ (lend_old (H := H) (σ := σ) (ρ := ρ) t o' z)
            rw [e] at this
            cases this
            exact g2o _ _ z
        · obtain ⟨a', h1, h2, h3, h4⟩ := r.own i sl q1 q2
          rw [q3] at h1
          cases h1
          obtain ⟨ob, h5⟩ := h2.some
          have h6 := x.gg _ _ ((lend_own (H := H) h3 ⟨i, sl, q1, q2, q3⟩).trans h5)
          rw [e] at h6
          cases h6
          exact absurd ti (h2.notIT h5 fun g c fs es => by subst es; exact noO_mem nO q1)
      · rw [g2n t (same_none s n) n]
        exact e
    exact w2 G2 H' x2 v (insT_at kt tl av)
  · exact w2.elim
end Tk

namespace Tk
open PySem PySem.Spec L2 PyProof.Rows
def B__law_cell_1 : Ev → SO := sSet 2 (e2 gMod (e2 gAdd (eV 2) (e2 gMul (e2 gMul (e2 gAdd (eV 3) (eC (.int 3))) (e2 gMod (eA gAbs (aC (e2 gIx (eV 0) (eV 3)) (aN))) (eC (.int 1000003)))) (eC (.int 31)))) (eC (.int 1000003)))
def G__law_cell : Ev → SO := sSq (sIf (tV (e2 gLt (eV 1) (eA gLen (aC (eV 0) (aN))))) (sRet (e2 gIx (eV 0) (eV 1))) (sN)) (sSq (sSet 2 (e2 gMul (eC (.int 7919)) (e2 gAdd (eV 1) (eC (.int 1))))) (sSq (sFor (iR1 (eA gLen (aC (eV 0) (aN)))) (gN 3) (B__law_cell_1)) (sRet (eV 2))))
def F__law_cell : List D → R D := runF 4 G__law_cell
def G__law_mixed : Ev → SO := sSq (sSet 2 (e2 gMod (e2 gAdd (e2 gMul (e2 gMod (eA gAbs (aC (eV 0) (aN))) (eC (.int 2147483647))) (eC (.int 48271))) (e2 gMul (e2 gAdd (eV 1) (eC (.int 1))) (eC (.int 69621)))) (eC (.int 2147483647)))) (sSq (sSet 2 (e2 gMod (e2 gAdd (e2 gMul (eV 2) (e2 gAdd (e2 gMod (eV 2) (eC (.int 46337))) (eC (.int 16807)))) (e2 gMul (e2 gAdd (eV 1) (eC (.int 7))) (eC (.int 7919)))) (eC (.int 2147483629)))) (sSq (sSet 2 (e2 gMod (e2 gMul (eV 2) (e2 gAdd (e2 gMod (eV 2) (eC (.int 32749))) (eC (.int 48271)))) (eC (.int 2147483647)))) (sRet (e2 gDiv (eV 2) (eC (.int 11))))))
def F__law_mixed : List D → R D := runF 3 G__law_mixed
def B__law_pool_1 : Ev → SO := sIf (tAnd (tV (eV 3)) (tV (e2 gGt (eV 2) (eC (.int 0))))) (sSq (sApp 4 (e2 gMod (eV 2) (eC (.int 5040)))) (sSet 2 (e2 gDiv (eV 2) (eC (.int 5040))))) (sApp 4 (eCall 2 F__law_mixed (aC (eV 0) (aC (eV 5) (aN)))))
def G__law_pool : Ev → SO := sSq (sSet 2 (eA gAbs (aC (eV 0) (aN)))) (sSq (sSet 3 (e2 gGe (eV 2) (e2 gPow (eC (.int 10)) (eC (.int 18))))) (sSq (sOwn 4 (lDisp (aN))) (sSq (sFor (iR1 (eV 1)) (gN 5) (B__law_pool_1)) (sFrz 4 (sRet (eV 4))))))
def F__law_pool : List D → R D := runF 6 G__law_pool
def G__law_part : Ev → SO := sRet (e2 gMod (e2 gDiv (eA gInt (aC (e2 gIx (eV 0) (eV 1)) (aN))) (eV 2)) (eV 3))
def F__law_part : List D → R D := runF 4 G__law_part
def B__law_far_1 : Ev → SO := sSet 3 (e2 gAdd (e2 gMul (eV 3) (eC (.int 5040))) (e2 gMod (eA gInt (aC (e2 gIx (eV 0) (e2 gAdd (eV 1) (eV 4))) (aN))) (eC (.int 5040))))
def G__law_far : Ev → SO := sSq (sSet 3 (eC (.int 0))) (sSq (sFor (iR1 (eV 2)) (gN 4) (B__law_far_1)) (sRet (eV 3)))
def F__law_far : List D → R D := runF 5 G__law_far
def G__law_chosen : Ev → SO := sSq (sSet 6 (eCall 4 F__law_part (aC (eV 0) (aC (eV 1) (aC (eV 2) (aC (eC (.int 10)) (aN))))))) (sSq (sSet 7 (eCall 4 F__law_part (aC (eV 0) (aC (eV 1) (aC (e2 gMul (eC (.int 10)) (eV 2)) (aC (eV 3) (aN))))))) (sSq (sIf (tV (e2 gEq (eV 6) (eC (.int 8)))) (sRet (e2 gSub (eV 4) (eV 7))) (sN)) (sSq (sIf (tV (e2 gEq (eV 6) (eC (.int 9)))) (sRet (e2 gMod (eA gInt (aC (eV 5) (aN))) (e2 gAdd (eV 4) (eC (.int 1))))) (sN)) (sRet (eV 7)))))
def F__law_chosen : List D → R D := runF 8 G__law_chosen
def B__law_names_1 : Ev → SO := sSet 4 (e2 gAdd (e2 gAdd (eV 4) (e2 gIx (eV 3) (eCall 4 F__law_part (aC (eV 0) (aC (e2 gAdd (eV 1) (eV 5)) (aC (eC (.int 1)) (aC (eC (.int 26)) (aN)))))))) (e2 gIx (eV 3) (eCall 4 F__law_part (aC (eV 0) (aC (e2 gAdd (eV 1) (eV 5)) (aC (eC (.int 26)) (aC (eC (.int 26)) (aN))))))))
def B__law_names_2 : Ev → SO := sSq (sSet 12 (e2 gMod (eA gInt (aC (e2 gAdd (eV 5) (eV 6)) (aN))) (eC (.int 6)))) (sIf (tV (e2 gEq (eCall 4 F__law_part (aC (eV 0) (aC (e2 gAdd (eV 1) (eC (.int 4))) (aC (eC (.int 1)) (aC (eC (.int 2)) (aN)))))) (eC (.int 0)))) (sApp 11 (e2 gAdd (e2 gAdd (e2 gAdd (eSl (eV 9) (oN) (oS (eV 7))) (e2 gIx (eV 3) (e2 gMod (eA gInt (aC (e2 gAdd (eV 8) (e2 gMul (eC (.int 7)) (eV 12))) (aN))) (eC (.int 26))))) (eSl (eV 9) (oS (eV 7)) (oN))) (eV 10))) (sApp 11 (eSl (eV 4) (oN) (oS (e2 gAdd (eV 12) (eC (.int 1)))))))
def G__law_names : Ev → SO := sSq (sSet 3 (eC (.str "abcdefghijklmnopqrstuvwxyz"))) (sSq (sSet 4 (eC (.str ""))) (sSq (sFor (iR1 (eC (.int 3))) (gN 5) (B__law_names_1)) (sSq (sSet 6 (eCall 4 F__law_part (aC (eV 0) (aC (e2 gAdd (eV 1) (eC (.int 3))) (aC (eC (.int 1)) (aC (eC (.int 6)) (aN))))))) (sSq (sSet 7 (eCall 4 F__law_part (aC (eV 0) (aC (e2 gAdd (eV 1) (eC (.int 3))) (aC (eC (.int 6)) (aC (eC (.int 7)) (aN))))))) (sSq (sSet 8 (eCall 4 F__law_part (aC (eV 0) (aC (e2 gAdd (eV 1) (eC (.int 3))) (aC (eC (.int 42)) (aC (eC (.int 26)) (aN))))))) (sSq (sSet 9 (eSl (eV 4) (oN) (oS (eCall 4 F__law_part (aC (eV 0) (aC (e2 gAdd (eV 1) (eC (.int 4))) (aC (eC (.int 4)) (aC (eC (.int 7)) (aN))))))))) (sSq (sSet 10 (eSl (eV 4) (oN) (oS (eCall 4 F__law_part (aC (eV 0) (aC (e2 gAdd (eV 1) (eC (.int 4))) (aC (eC (.int 2)) (aC (eC (.int 2)) (aN))))))))) (sSq (sOwn 11 (lDisp (aN))) (sSq (sFor (iR1 (eV 2)) (gN 5) (B__law_names_2)) (sFrz 11 (sRet (eV 11))))))))))))
def F__law_names : List D → R D := runF 13 G__law_names
def G__law_integer : Ev → SO := sRet (eAnd (eA gIsi (aC (eV 0) (aC (eC (.ty "int")) (aN)))) (eNot (eA gIsi (aC (eV 0) (aC (eC (.ty "bool")) (aN))))))
def F__law_integer : List D → R D := runF 1 G__law_integer
def B__law_same_1 (Fr : List D → R D) : Ev → SO := sIf (tNot (tV (eCall 2 Fr (aC (e2 gIx (eV 0) (eV 2)) (aC (e2 gIx (eV 1) (eV 2)) (aN)))))) (sRet (eC (.bl false))) (sN)
def G__law_same (Fr : List D → R D) : Ev → SO := sSq (sIf (tV (e2 gIsN (eV 1) (eC .non))) (sRet (e2 gIsN (eV 0) (eC .non))) (sN)) (sSq (sIf (tV (e2 (gIsB false) (eV 1) (eC (.bl true)))) (sRet (e2 (gIsB false) (eV 0) (eC (.bl true)))) (sN)) (sSq (sIf (tV (e2 (gIsB false) (eV 1) (eC (.bl false)))) (sRet (e2 (gIsB false) (eV 0) (eC (.bl false)))) (sN)) (sSq (sIf (tV (eA gIsi (aC (eV 1) (aC (eC (.ty "int")) (aN))))) (sRet (eAnd (eCall 1 F__law_integer (aC (eV 0) (aN))) (e2 gEq (eV 0) (eV 1)))) (sN)) (sSq (sIf (tV (eA gIsi (aC (eV 1) (aC (eC (.ty "str")) (aN))))) (sRet (eAnd (eA gIsi (aC (eV 0) (aC (eC (.ty "str")) (aN)))) (e2 gEq (eV 0) (eV 1)))) (sN)) (sSq (sIf (tAnd (tV (eA gIsi (aC (eV 1) (aC (eC (.ty "tuple")) (aN))))) (tNot (tV (eA gIsi (aC (eV 0) (aC (eC (.ty "tuple")) (aN))))))) (sRet (eC (.bl false))) (sN)) (sSq (sIf (tAnd (tV (eA gIsi (aC (eV 1) (aC (eC (.ty "list")) (aN))))) (tNot (tV (eA gIsi (aC (eV 0) (aC (eC (.ty "list")) (aN))))))) (sRet (eC (.bl false))) (sN)) (sSq (sIf (tV (e2 gNe (eA gLen (aC (eV 0) (aN))) (eA gLen (aC (eV 1) (aN))))) (sRet (eC (.bl false))) (sN)) (sSq (sFor (iR1 (eA gLen (aC (eV 1) (aN)))) (gN 2) (B__law_same_1 Fr)) (sRet (eC (.bl true)))))))))))
def Fr__law_same : Nat → List D → R D
  | 0 => runF 3 sBad
  | n + 1 => runF 3 (G__law_same (Fr__law_same n))
def F__law_same : List D → R D := Fr__law_same 6
def G_is_name : Ev → SO := sSq (sIf (tNot (tV (eChain gLe gLe (eC (.int 1)) (eA gLen (aC (eV 0) (aN))) (eC (.int 8))))) (sRet (eC (.bl false))) (sN)) (sRet (eA gAll (aC (eLc [1] (iSq (eV 0)) (gN 1) (tsY) (e2 (gInS false) (eV 1) (eC (.str "abcdefghijklmnopqrstuvwxyz")))) (aN))))
def F_is_name : List D → R D := runF 2 G_is_name
def G_names_of : Ev → SO := sRet (eLc [1, 2, 3] (iSq (eV 0)) (gT 3 (gsC (gN 1) (gsC (gN 2) (gsC (gN 3) (gsN))))) (tsY) (eV 1))
def F_names_of : List D → R D := runF 4 G_names_of
def B_check_bidders_1 : Ev → SO := sSq (sIf (tNot (tV (eCall 1 F_is_name (aC (eV 2) (aN))))) (sBad) (sN)) (sSq (sIf (tV (e2 (gInS false) (eV 2) (eCall 1 F_names_of (aC (eSl (eV 0) (oN) (oS (eV 1))) (aN))))) (sBad) (sN)) (sSq (sIf (tNot (tV (eChain gLe gLe (eC (.int 1)) (eV 3) (eC (.int 1000))))) (sBad) (sN)) (sIf (tNot (tV (eChain gLe gLe (eC (.int 0)) (eV 4) (eC (.int 1000000000))))) (sBad) (sN))))
def G_check_bidders : Ev → SO := sSq (sIf (tV (e2 gGt (eA gLen (aC (eV 0) (aN))) (eC (.int 6)))) (sBad) (sN)) (sFor (iEn2 (eV 0)) (gT 2 (gsC (gN 1) (gsC (gT 3 (gsC (gN 2) (gsC (gN 3) (gsC (gN 4) (gsN))))) (gsN)))) (B_check_bidders_1))
def F_check_bidders : List D → R D := runF 5 G_check_bidders
def G_check_floor : Ev → SO := sIf (tNot (tV (eChain gLe gLe (eC (.int 0)) (eV 0) (eC (.int 1000000000000))))) (sBad) (sN)
def F_check_floor : List D → R D := runF 1 G_check_floor
def G_check_hours : Ev → SO := sIf (tNot (tV (eChain gLe gLe (eC (.int 1)) (eV 0) (eC (.int 3))))) (sBad) (sN)
def F_check_hours : List D → R D := runF 1 G_check_hours
def G_strengths_of : Ev → SO := sRet (eLc [1, 2, 3] (iSq (eV 0)) (gT 3 (gsC (gN 1) (gsC (gN 2) (gsC (gN 3) (gsN))))) (tsY) (e2 gMul (eV 2) (eV 3)))
def F_strengths_of : List D → R D := runF 4 G_strengths_of
def G_ranking : Ev → SO := sRet (eLc [3, 1] (iSq (eA gSrt (aC (eLc [1, 2] (iEn2 (eCall 1 F_strengths_of (aC (eV 0) (aN)))) (gT 2 (gsC (gN 1) (gsC (gN 2) (gsN)))) (tsY) (eA gTup (aC (e1 gNeg (eV 2)) (aC (eV 1) (aN))))) (aN)))) (gT 2 (gsC (gN 3) (gsC (gN 1) (gsN)))) (tsY) (eV 1))
def F_ranking : List D → R D := runF 4 G_ranking
def G_ladder : Ev → SO := sSq (sDrop (eCall 1 F_check_bidders (aC (eV 0) (aN)))) (sSq (sDrop (eCall 1 F_check_hours (aC (eV 1) (aN)))) (sSq (sDrop (eCall 1 F_check_floor (aC (eV 2) (aN)))) (sSq (sSet 3 (eCall 1 F_strengths_of (aC (eV 0) (aN)))) (sSq (sSet 4 (eLc [5] (iSq (eCall 1 F_ranking (aC (eV 0) (aN)))) (gN 5) (tV (e2 gGe (e2 gIx (eV 3) (eV 5)) (eV 2))) (eV 5))) (sRet (eA gTuple (aC (eLc [5] (iSq (eSl (eV 4) (oN) (oS (eV 1)))) (gN 5) (tsY) (e2 gIx (e2 gIx (eV 0) (eV 5)) (eC (.int 0)))) (aN))))))))
def F_ladder : List D → R D := runF 6 G_ladder
def B__law_bidders_1 : Ev → SO := sSq (sSet 6 (e2 gAdd (e2 gAdd (eV 1) (eC (.int 5))) (e2 gMul (eC (.int 5)) (eV 5)))) (sSq (sSet 7 (e2 gAdd (eC (.int 1)) (eCall 6 F__law_chosen (aC (eV 0) (aC (eV 6) (aC (eC (.int 1)) (aC (eC (.int 4)) (aC (eC (.int 999)) (aC (eCall 3 F__law_far (aC (eV 0) (aC (e2 gAdd (eV 6) (eC (.int 1))) (aC (eC (.int 1)) (aN))))) (aN)))))))))) (sSq (sSet 8 (eCall 6 F__law_chosen (aC (eV 0) (aC (eV 6) (aC (eC (.int 40)) (aC (eC (.int 9)) (aC (e2 gPow (eC (.int 10)) (eC (.int 9))) (aC (eCall 3 F__law_far (aC (eV 0) (aC (e2 gAdd (eV 6) (eC (.int 2))) (aC (eC (.int 3)) (aN))))) (aN))))))))) (sSq (sIf (tV (e2 gEq (eCall 4 F__law_part (aC (eV 0) (aC (e2 gAdd (eV 1) (eC (.int 4))) (aC (eC (.int 28)) (aC (eC (.int 2)) (aN)))))) (eC (.int 0)))) (sSq (sSet 7 (e2 gAdd (eC (.int 1)) (e2 gMod (eA gInt (aC (e2 gSub (eV 7) (eC (.int 1))) (aN))) (eC (.int 4))))) (sSet 8 (e2 gMod (eA gInt (aC (eV 8) (aN))) (eC (.int 9))))) (sN)) (sSq (sIf (tAnd (tV (e2 gLe (eV 7) (eC (.int 4)))) (tV (e2 gLt (eCall 4 F__law_part (aC (eV 0) (aC (e2 gAdd (eV 6) (eC (.int 1))) (aC (eC (.int 1000)) (aC (eC (.int 5)) (aN)))))) (eC (.int 2))))) (sSet 8 (e2 gDiv (eC (.int 12)) (eV 7))) (sN)) (sApp 4 (eA gTup (aC (e2 gIx (eV 3) (eV 5)) (aC (eV 7) (aC (eV 8) (aN))))))))))
def G__law_bidders : Ev → SO := sSq (sSet 3 (eCall 3 F__law_names (aC (eV 0) (aC (eV 1) (aC (eV 2) (aN)))))) (sSq (sOwn 4 (lDisp (aN))) (sSq (sFor (iR1 (eV 2)) (gN 5) (B__law_bidders_1)) (sFrz 4 (sRet (eV 4)))))
def F__law_bidders : List D → R D := runF 9 G__law_bidders
def G__law_sill : Ev → SO := sSq (sSet 3 (eCall 4 F__law_part (aC (eV 0) (aC (eV 1) (aC (eC (.int 1)) (aC (eC (.int 8)) (aN))))))) (sSq (sSet 4 (eCall 4 F__law_part (aC (eV 0) (aC (eV 1) (aC (eC (.int 8)) (aC (eC (.int 60)) (aN))))))) (sSq (sIf (tV (e2 gLt (eV 3) (eC (.int 2)))) (sRet (eC (.int 0))) (sN)) (sSq (sIf (tAnd (tV (e2 gLt (eV 3) (eC (.int 6)))) (tV (e2 gNe (eV 2) (eA gLst (aN))))) (sSq (sAsg (e2 gIx (eV 2) (e2 gMod (eA gInt (aC (eV 4) (aN))) (eA gLen (aC (eV 2) (aN))))) (gT 3 (gsC (gN 5) (gsC (gN 6) (gsC (gN 7) (gsN)))))) (sRet (eA gMin (aC (eA gMax (aC (eC (.int 0)) (aC (e2 gAdd (e2 gMul (eV 6) (eV 7)) (e2 gIx (eA gLst (aC (eC (.int 0)) (aC (eC (.int 0)) (aC (eC (.int 1)) (aC (e1 gNeg (eC (.int 1))) (aN)))))) (e2 gSub (eV 3) (eC (.int 2))))) (aN)))) (aC (e2 gPow (eC (.int 10)) (eC (.int 12))) (aN)))))) (sN)) (sSq (sIf (tV (e2 gEq (eV 3) (eC (.int 6)))) (sRet (eV 4)) (sN)) (sRet (e2 gMod (eA gInt (aC (eCall 3 F__law_far (aC (eV 0) (aC (e2 gAdd (eV 1) (eC (.int 1))) (aC (eC (.int 4)) (aN))))) (aN))) (e2 gAdd (e2 gPow (eC (.int 10)) (eC (.int 12))) (eC (.int 1)))))))))
def F__law_sill : List D → R D := runF 8 G__law_sill
def B__law_ladder_1 : Ev → SO := sSq (sSet 7 (eLc [11] (iR1 (eA gLen (aC (eV 0) (aN)))) (gN 11) (tOr (tV (e2 gGt (e2 gIx (eV 3) (eV 11)) (e2 gIx (eV 3) (eV 6)))) (tAnd (tV (e2 gEq (e2 gIx (eV 3) (eV 11)) (e2 gIx (eV 3) (eV 6)))) (tV (e2 gLt (eV 11) (eV 6))))) (eV 11))) (sIf (tAnd (tV (e2 gEq (eA gLen (aC (eV 7) (aN))) (eV 5))) (tV (e2 gGe (e2 gIx (eV 3) (eV 6)) (eV 2)))) (sApp 4 (e2 gIx (e2 gIx (eV 0) (eV 6)) (eC (.int 0)))) (sN))
def B__law_ladder_2 : Ev → SO := sFor (iR1 (eA gLen (aC (eV 0) (aN)))) (gN 6) (B__law_ladder_1)
def G__law_ladder : Ev → SO := sSq (sSet 3 (eLc [8, 9, 10] (iSq (eV 0)) (gT 3 (gsC (gN 8) (gsC (gN 9) (gsC (gN 10) (gsN))))) (tsY) (e2 gMul (eV 9) (eV 10)))) (sSq (sOwn 4 (lDisp (aN))) (sSq (sFor (iR1 (eV 1)) (gN 5) (B__law_ladder_2)) (sFrz 4 (sRet (eA gTuple (aC (eV 4) (aN)))))))
def F__law_ladder : List D → R D := runF 12 G__law_ladder
def G_passed_over : Ev → SO := sRet (eA gTuple (aC (eLc [3] (iSq (eV 0)) (gN 3) (tAnd (tV (e2 (gInS true) (eV 3) (eV 1))) (tV (e2 gNe (eV 3) (eV 2)))) (eV 3)) (aN)))
def F_passed_over : List D → R D := runF 4 G_passed_over
def B_next_passes_1 : Ev → SO := sIf (tOr (tV (e2 (gInS false) (eV 8) (eV 3))) (tV (e2 gEq (eV 8) (eV 4)))) (sApp 7 (eC (.int 0))) (sIf (tV (e2 (gInS false) (eV 8) (eV 6))) (sApp 7 (eA gMin (aC (e2 gAdd (eV 9) (eC (.int 1))) (aC (eV 5) (aN))))) (sApp 7 (eV 9)))
def G_next_passes : Ev → SO := sSq (sSet 6 (eCall 3 F_passed_over (aC (eV 2) (aC (eV 3) (aC (eV 4) (aN)))))) (sSq (sOwn 7 (lDisp (aN))) (sSq (sFor (iZp2 (eV 0) (eV 1)) (gT 2 (gsC (gN 8) (gsC (gN 9) (gsN)))) (B_next_passes_1)) (sFrz 7 (sRet (eA gTuple (aC (eV 7) (aN)))))))
def F_next_passes : List D → R D := runF 10 G_next_passes
def B_longest_1 : Ev → SO := sIf (tOr (tV (e2 gEq (eV 4) (eC (.str "")))) (tV (e2 gGt (e2 gIxA (eV 3) (eV 5)) (e2 gIxA (eV 3) (eV 4))))) (sSet 4 (eV 5)) (sN)
def G_longest : Ev → SO := sSq (sSet 3 (eDz (eV 0) (eV 1))) (sSq (sSet 4 (eC (.str ""))) (sSq (sFor (iSq (eV 2)) (gN 5) (B_longest_1)) (sRet (eV 4))))
def F_longest : List D → R D := runF 6 G_longest
def B__law_some_1 : Ev → SO := sIf (tV (e2 gEq (eCall 4 F__law_part (aC (eV 0) (aC (eV 1) (aC (e2 gIx (eA gLst (aC (eC (.int 1)) (aC (eC (.int 2)) (aC (eC (.int 4)) (aC (eC (.int 8)) (aN)))))) (eV 4)) (aC (eC (.int 2)) (aN)))))) (eC (.int 1)))) (sApp 3 (e2 gIx (eV 2) (eV 4))) (sN)
def G__law_some : Ev → SO := sSq (sOwn 3 (lDisp (aN))) (sSq (sFor (iR1 (eA gLen (aC (eV 2) (aN)))) (gN 4) (B__law_some_1)) (sFrz 3 (sRet (eV 3))))
def F__law_some : List D → R D := runF 5 G__law_some
def B_check_known_1 : Ev → SO := sIf (tV (e2 (gInS true) (eV 2) (eV 0))) (sBad) (sN)
def G_check_known : Ev → SO := sFor (iSq (eV 1)) (gN 2) (B_check_known_1)
def F_check_known : List D → R D := runF 3 G_check_known
def G_strengths_of_o : Ev → SO := sRetF (nL (lLc [1, 2, 3] (iSq (eV 0)) (gT 3 (gsC (gN 1) (gsC (gN 2) (gsC (gN 3) (gsN))))) (tsY) (e2 gMul (eV 2) (eV 3))))
def F_strengths_of_o : List D → R Sl := runO 4 G_strengths_of_o
def B_least_raises_1 : Ev → SO := sSq (sSet 8 (eBor (eA gMax (aC (e2 gAdd (eA gLst (aC (eV 3) (aN))) (eLc [12] (iSq (eV 5)) (gN 12) (tsY) (e2 gAdd (e2 gIx (eV 4) (eV 12)) (eIf (tV (e2 gLt (eV 12) (eV 7))) (eC (.int 1)) (eC (.int 0)))))) (aN))))) (sSq (sAsg (e2 gIx (eV 0) (eV 7)) (gT 3 (gsC (gN 9) (gsC (gN 10) (gsC (gN 11) (gsN)))))) (sSq (sPutL 6 (eA gMax (aC (eC (.int 0)) (aC (e2 gSub (e1 gNeg (e2 gDiv (e1 gNeg (eV 8)) (eV 10))) (eV 11)) (aN)))) (eV 7)) (sSq (sPutL 4 (eBor (e2 gMul (eV 10) (e2 gAdd (eV 11) (e2 gIx (eV 6) (eV 7))))) (eV 7)) (sSet 5 (eA gLst (aC (eV 7) (aN)))))))
def G_least_raises : Ev → SO := sSq (sNew 4 (oCall 1 F_strengths_of_o (aC (eV 0) (aN)))) (sSq (sSet 5 (eLc [7] (iR1 (eA gLen (aC (eV 0) (aN)))) (gN 7) (tBor (tAnd (tV (e2 (gInS true) (eV 7) (eV 1))) (tV (e2 gGe (e2 gIx (eV 4) (eV 7)) (eV 3))))) (eV 7))) (sSq (sIf (tOr (tV (e2 gGt (eA gLen (aC (eV 1) (aN))) (eV 2))) (tAnd (tV (e2 gLt (eA gLen (aC (eV 1) (aN))) (eV 2))) (tV (e2 gGt (eA gLen (aC (eV 5) (aN))) (eC (.int 0)))))) (sRet (eC .non)) (sN)) (sSq (sOwn 6 (lLc [9] (iSq (eV 0)) (gN 9) (tsY) (eC (.int 0)))) (sSq (sFor (iSq (e1 gRev (eV 1))) (gN 7) (B_least_raises_1)) (sFrz 6 (sRet (eA gTuple (aC (eV 6) (aN)))))))))
def F_least_raises : List D → R D := runF 13 G_least_raises
def B_raises_for_1 : Ev → SO := sSq (sDrop (eCall 2 F_check_known (aC (eV 4) (aC (eA gLst (aC (eV 6) (aN))) (aN))))) (sIf (tV (e2 (gInS false) (eV 6) (eSl (eV 1) (oN) (oS (eV 5))))) (sBad) (sN))
def G_raises_for : Ev → SO := sSq (sDrop (eCall 1 F_check_bidders (aC (eV 0) (aN)))) (sSq (sDrop (eCall 1 F_check_hours (aC (eV 2) (aN)))) (sSq (sDrop (eCall 1 F_check_floor (aC (eV 3) (aN)))) (sSq (sSet 4 (eCall 1 F_names_of (aC (eV 0) (aN)))) (sSq (sFor (iEn2 (eV 1)) (gT 2 (gsC (gN 5) (gsC (gN 6) (gsN)))) (B_raises_for_1)) (sRet (eCall 4 F_least_raises (aC (eV 0) (aC (eLc [6] (iSq (eV 1)) (gN 6) (tsY) (eMtL gIdx (eV 4) (aC (eV 6) (aN)))) (aC (eV 2) (aC (eV 3) (aN)))))))))))
def F_raises_for : List D → R D := runF 7 G_raises_for
def B__law_raised_1 : Ev → SO := sSq (sAsg (e2 gIx (eV 0) (eV 3)) (gT 3 (gsC (gN 4) (gsC (gN 5) (gsC (gN 6) (gsN)))))) (sApp 2 (eA gTup (aC (eV 4) (aC (eV 5) (aC (e2 gAdd (eV 6) (e2 gIx (eV 1) (eV 3))) (aN))))))
def G__law_raised : Ev → SO := sSq (sOwn 2 (lDisp (aN))) (sSq (sFor (iR1 (eA gLen (aC (eV 0) (aN)))) (gN 3) (B__law_raised_1)) (sFrz 2 (sRet (eV 2))))
def F__law_raised : List D → R D := runF 7 G__law_raised
def B__law_brings_1 : Ev → SO := sIf (tOr (tNot (tV (eCall 1 F__law_integer (aC (e2 gIx (eV 1) (eV 6)) (aN))))) (tOr (tV (e2 gLt (e2 gIx (eV 1) (eV 6)) (eC (.int 0)))) (tAnd (tV (e2 (gInS true) (e2 gIx (e2 gIx (eV 0) (eV 6)) (eC (.int 0))) (eV 2))) (tV (e2 gGt (e2 gIx (eV 1) (eV 6)) (eC (.int 0))))))) (sRet (eC (.bl false))) (sN)
def G__law_brings : Ev → SO := sSq (sSet 5 (eLc [8, 9, 10] (iSq (eV 0)) (gT 3 (gsC (gN 8) (gsC (gN 9) (gsC (gN 10) (gsN))))) (tAnd (tV (e2 (gInS true) (eV 8) (eV 2))) (tV (e2 gGe (e2 gMul (eV 9) (eV 10)) (eV 4)))) (eV 8))) (sSq (sIf (tOr (tV (e2 gGt (eA gLen (aC (eV 2) (aN))) (eV 3))) (tAnd (tV (e2 gLt (eA gLen (aC (eV 2) (aN))) (eV 3))) (tV (e2 gNe (eV 5) (eA gLst (aN)))))) (sRet (e2 gIsN (eV 1) (eC .non))) (sN)) (sSq (sIf (tOr (tNot (tV (eA gIsi (aC (eV 1) (aC (eC (.ty "tuple")) (aN)))))) (tV (e2 gNe (eA gLen (aC (eV 1) (aN))) (eA gLen (aC (eV 0) (aN)))))) (sRet (eC (.bl false))) (sN)) (sSq (sFor (iR1 (eA gLen (aC (eV 0) (aN)))) (gN 6) (B__law_brings_1)) (sSq (sSet 7 (eCall 2 F__law_raised (aC (eV 0) (aC (eV 1) (aN))))) (sSq (sIf (tV (e2 gNe (eCall 3 F__law_ladder (aC (eV 7) (aC (eV 3) (aC (eV 4) (aN))))) (eV 2))) (sRet (eC (.bl false))) (sN)) (sSq (sIf (tV (e2 gNe (eLc [8, 9, 10] (iSq (eV 7)) (gT 3 (gsC (gN 8) (gsC (gN 9) (gsC (gN 10) (gsN))))) (tV (e2 gGt (eV 10) (e2 gPow (eC (.int 10)) (eC (.int 9))))) (eV 10)) (eA gLst (aN)))) (sRet (eC (.bl true))) (sN)) (sRet (eCall 2 F__law_same (aC (eCallK 1 2 3 F_ladder (gDk [0, 1, 2] []) (aC (eV 7) (aN)) (aC (eV 3) (aC (eV 4) (aN)))) (aC (eV 2) (aN)))))))))))
def F__law_brings : List D → R D := runF 11 G__law_brings
def B__law_wished_1 : Ev → SO := sIf (tBor (tV (e2 gNe (eV 4) (eA gLst (aN))))) (sAppPop 5 4 (eBor (e2 gMod (eA gInt (aC (eCall 4 F__law_part (aC (eV 0) (aC (e2 gAdd (eV 1) (eV 6)) (aC (eC (.int 1)) (aC (eC (.int 60)) (aN)))))) (aN))) (eA gLen (aC (eV 4) (aN)))))) (sN)
def G__law_wished : Ev → SO := sSq (sOwn 4 (lLc [7, 8, 9] (iSq (eV 2)) (gT 3 (gsC (gN 7) (gsC (gN 8) (gsC (gN 9) (gsN))))) (tsY) (eV 7))) (sSq (sOwn 5 (lDisp (aN))) (sSq (sFor (iR1 (eV 3)) (gN 6) (B__law_wished_1)) (sFrz 5 (sRet (eA gTuple (aC (eV 5) (aN)))))))
def F__law_wished : List D → R D := runF 10 G__law_wished
noncomputable def B__law_scale_1 : Ev → SO := sSq (sSet 5 (e2 gAdd (eV 1) (e2 gMul (eC (.int 2)) (eV 4)))) (sApp 3 (e2 gAdd (eC (.int 1)) (eCall 6 F__law_chosen (aC (eV 0) (aC (eV 5) (aC (eC (.int 1)) (aC (eC (.int 6)) (aC (eC (.int 999)) (aC (eCall 3 F__law_far (aC (eV 0) (aC (e2 gAdd (eV 5) (eC (.int 1))) (aC (eC (.int 1)) (aN))))) (aN))))))))))
noncomputable def G__law_scale : Ev → SO := sSq (sOwn 3 (lDisp (aN))) (sSq (sFor (iR1 (eV 2)) (gN 4) (B__law_scale_1)) (sFrz 3 (sRet (eSrtR (aC (eV 3) (aN)) (aC (eC (.bl true)) (aN))))))
noncomputable def F__law_scale : List D → R D := runF 6 G__law_scale
noncomputable def B_check_rates_1 : Ev → SO := sSq (sIf (tNot (tV (eChain gLe gLe (eC (.int 1)) (eV 2) (eV 1)))) (sBad) (sN)) (sSet 1 (eV 2))
noncomputable def G_check_rates : Ev → SO := sSq (sIf (tNot (tV (eChain gLe gLe (eC (.int 1)) (eA gLen (aC (eV 0) (aN))) (eC (.int 3))))) (sBad) (sN)) (sSq (sSet 1 (eC (.int 1000))) (sFor (iSq (eV 0)) (gN 2) (B_check_rates_1)))
noncomputable def F_check_rates : List D → R D := runF 3 G_check_rates
noncomputable def B_least_rents_1 : Ev → SO := sSq (sSet 3 (e2 gAdd (eV 3) (e2 gMul (eV 6) (e2 gSub (eV 5) (eV 4))))) (sSq (sSet 4 (eV 5)) (sApp 2 (eV 3)))
noncomputable def G_least_rents : Ev → SO := sSq (sOwn 2 (lDisp (aN))) (sSq (sSet 3 (eC (.int 0))) (sSq (sSet 4 (eC (.int 0))) (sSq (sFor (iZp2 (e1 gRev (eV 0)) (e1 gRev (eV 1))) (gT 2 (gsC (gN 5) (gsC (gN 6) (gsN)))) (B_least_rents_1)) (sFrz 2 (sRet (eA gTuple (aC (e1 gRev (eV 2)) (aN))))))))
noncomputable def F_least_rents : List D → R D := runF 7 G_least_rents
noncomputable def G_strengths_behind : Ev → SO := sSq (sSet 3 (eCall 1 F_strengths_of (aC (eV 0) (aN)))) (sSq (sSet 4 (eLc [5] (iSq (eCall 1 F_ranking (aC (eV 0) (aN)))) (gN 5) (tsY) (eA gMax (aC (eV 2) (aC (e2 gIx (eV 3) (eV 5)) (aN)))))) (sRet (eLc [6] (iR1 (eV 1)) (gN 6) (tsY) (eIf (tV (e2 gLt (e2 gAdd (eV 6) (eC (.int 1))) (eA gLen (aC (eV 4) (aN))))) (e2 gIx (eV 4) (e2 gAdd (eV 6) (eC (.int 1)))) (eV 2)))))
noncomputable def F_strengths_behind : List D → R D := runF 7 G_strengths_behind
noncomputable def G_Allotment___init__ : Ev → SO := sSq (sFldO [51] 0 62 (eV 1)) (sSq (sFldO [51] 0 4 (eV 2)) (sFldO [51] 0 63 (eV 3)))
noncomputable def F_Allotment___init__ : Addr → List D → R (List (Nat × D)) := runI 51 4 G_Allotment___init__
noncomputable def G_dearest : Ev → SO := sSq (sDrop (eCall 1 F_check_bidders (aC (eV 0) (aN)))) (sSq (sDrop (eCall 1 F_check_rates (aC (eV 1) (aN)))) (sSq (sDrop (eCall 1 F_check_floor (aC (eV 2) (aN)))) (sSq (sSet 3 (eCallK 1 2 3 F_ladder (gDk [0, 1, 2] []) (aC (eV 0) (aN)) (aC (eA gLen (aC (eV 1) (aN))) (aC (eV 2) (aN))))) (sSq (sSet 4 (e2 gAdd (eV 3) (eA gTuple (aC (eLc [7] (iSq (eSl (eV 1) (oS (eA gLen (aC (eV 3) (aN)))) (oN))) (gN 7) (tsY) (eC (.str ""))) (aN))))) (sSq (sSet 5 (eFrz (nDc [8, 9, 10] (iSq (eV 0)) (gT 3 (gsC (gN 8) (gsC (gN 9) (gsC (gN 10) (gsN))))) (tsY) (eV 8) (e2 gMul (eV 9) (eV 10))))) (sSq (sSet 6 (eA gSum (aC (eLc [11, 12] (iZp2 (eV 1) (eV 4)) (gT 2 (gsC (gN 11) (gsC (gN 12) (gsN)))) (tsY) (e2 gMul (eV 11) (eGet2 (eV 5) (eV 12) (eV 2)))) (aN)))) (sRet (eFrz (nMake 51 4 F_Allotment___init__ (aC (eV 4) (aC (eV 6) (aC (eCall 2 F_least_rents (aC (eV 1) (aC (eCall 3 F_strengths_behind (aC (eV 0) (aC (eA gLen (aC (eV 1) (aN))) (aC (eV 2) (aN))))) (aN)))) (aN)))))))))))))
noncomputable def F_dearest : List D → R D := runF 13 G_dearest
noncomputable def B__law_ladder_z_1 : Ev → SO := sSq (sSet 7 (eLc [11] (iR1 (eA gLen (aC (eV 0) (aN)))) (gN 11) (tOr (tV (e2 gGt (e2 gIx (eV 3) (eV 11)) (e2 gIx (eV 3) (eV 6)))) (tAnd (tV (e2 gEq (e2 gIx (eV 3) (eV 11)) (e2 gIx (eV 3) (eV 6)))) (tV (e2 gLt (eV 11) (eV 6))))) (eV 11))) (sIf (tAnd (tV (e2 gEq (eA gLen (aC (eV 7) (aN))) (eV 5))) (tV (e2 gGe (e2 gIx (eV 3) (eV 6)) (eV 2)))) (sApp 4 (e2 gIx (e2 gIx (eV 0) (eV 6)) (eC (.int 0)))) (sN))
noncomputable def B__law_ladder_z_2 : Ev → SO := sFor (iR1 (eA gLen (aC (eV 0) (aN)))) (gN 6) (B__law_ladder_z_1)
noncomputable def G__law_ladder_z : Ev → SO := sSq (sSet 3 (eLc [8, 9, 10] (iSq (eV 0)) (gT 3 (gsC (gN 8) (gsC (gN 9) (gsC (gN 10) (gsN))))) (tsY) (e2 gMul (eV 9) (eV 10)))) (sSq (sOwn 4 (lDisp (aN))) (sSq (sFor (iR1 (eV 1)) (gN 5) (B__law_ladder_z_2)) (sFrz 4 (sRet (eA gTupZ (aC (eV 4) (aN)))))))
noncomputable def F__law_ladder_z : List D → R D := runF 12 G__law_ladder_z
noncomputable def B__law_holds_1 : Ev → SO := sIf (tV (e2 gGt (e2 gSub (e2 gMul (e2 gMul (e2 gIx (eV 2) (eV 10)) (eV 6)) (eV 7)) (e2 gIx (eV 0) (eV 10))) (eV 8))) (sRet (eC (.bl false))) (sN)
noncomputable def B__law_holds_2 : Ev → SO := sSq (sSet 8 (eC (.int 0))) (sSq (sIf (tV (e2 gInZ (eV 5) (eV 4))) (sSq (sSet 9 (eIdxZ (eV 4) (aC (eV 5) (aN)))) (sSet 8 (e2 gSub (e2 gMul (e2 gMul (e2 gIx (eV 2) (eV 9)) (eV 6)) (eV 7)) (e2 gIx (eV 0) (eV 9))))) (sN)) (sSq (sIf (tV (e2 gLt (eV 8) (eC (.int 0)))) (sRet (eC (.bl false))) (sN)) (sFor (iR1 (eA gLen (aC (eV 2) (aN)))) (gN 10) (B__law_holds_1))))
noncomputable def B__law_holds_3 : Ev → SO := sIf (tOr (tV (e2 gLt (e2 gIx (eV 0) (eV 10)) (e2 gMul (e2 gIx (eV 2) (eV 10)) (eV 3)))) (tAnd (tV (e2 gGe (eV 10) (eA gLenZ (aC (eV 4) (aN))))) (tV (e2 gGt (e2 gIx (eV 0) (eV 10)) (e2 gMul (e2 gIx (eV 2) (eV 10)) (eV 3)))))) (sRet (eC (.bl false))) (sN)
noncomputable def G__law_holds : Ev → SO := sSq (sSet 4 (eCall 3 F__law_ladder_z (aC (eV 1) (aC (eA gLen (aC (eV 2) (aN))) (aC (eV 3) (aN)))))) (sSq (sFor (iSq (eV 1)) (gT 3 (gsC (gN 5) (gsC (gN 6) (gsC (gN 7) (gsN))))) (B__law_holds_2)) (sSq (sFor (iR1 (eA gLen (aC (eV 2) (aN)))) (gN 10) (B__law_holds_3)) (sRet (eC (.bl true)))))
noncomputable def F__law_holds : List D → R D := runF 11 G__law_holds
end Tk

namespace Tk
open PySem PySem.Spec L2 PyProof.Rows
/-! ### the mirrors' words, worked out -/
def SO.sq (s : SO) (k : Ev → SO) : SO := match s with
  | .nx ρ => k ρ
  | r => r
def SO.lp (s : SO) (k : Ev → SO) : SO := match s with
  | .nx ρ => k ρ
  | .ct ρ => k ρ
  | .bk ρ => .nx ρ
  | r => r
section
variable {ρ : Ev} {k g : Ev → SO} {f fa fb fc : Ev → R D} {t u : Ev → R Bool} {fl : Ev → R (List D)} {d : D} {x : Ex} {i n : Nat} {s : Sl} {xs ds : List D}
@[simp] theorem sq_nx : SO.sq (.nx ρ) k = k ρ := (rfl)
@[simp] theorem sq_rt : SO.sq (.rt d) k = .rt d := (rfl)
@[simp] theorem sq_ro {s : Sl} : SO.sq (.ro s) k = .ro s := (rfl)
@[simp] theorem sq_bk : SO.sq (.bk ρ) k = .bk ρ := (rfl)
@[simp] theorem sq_ct : SO.sq (.ct ρ) k = .ct ρ := (rfl)
@[simp] theorem sq_ex : SO.sq (.ex x ρ) k = .ex x ρ := (rfl)
@[simp] theorem sq_bad : SO.sq .bad k = .bad := (rfl)
@[simp] theorem lp_nx : SO.lp (.nx ρ) k = k ρ := (rfl)
@[simp] theorem lp_ct : SO.lp (.ct ρ) k = k ρ := (rfl)
@[simp] theorem lp_bk : SO.lp (.bk ρ) k = .nx ρ := (rfl)
@[simp] theorem lp_rt : SO.lp (.rt d) k = .rt d := (rfl)
@[simp] theorem lp_ro {s : Sl} : SO.lp (.ro s) k = .ro s := (rfl)
@[simp] theorem lp_ex : SO.lp (.ex x ρ) k = .ex x ρ := (rfl)
@[simp] theorem lp_bad : SO.lp .bad k = .bad := (rfl)
@[simp] theorem sSq_ap : sSq g k ρ = SO.sq (g ρ) k := by unfold sSq SO.sq; cases g ρ <;> rfl
@[simp] theorem sN_ap : sN ρ = .nx ρ := (rfl)
@[simp] theorem sBad_ap : sBad ρ = .bad := (rfl)
@[simp] theorem sRet_ap : sRet f ρ = SO.from ρ (f ρ) .rt := (rfl)
@[simp] theorem sRetN_ap : sRetN ρ = .rt .non := (rfl)
@[simp] theorem sDrop_ap : sDrop f ρ = SO.from ρ (f ρ) fun _ => .nx ρ := (rfl)
@[simp] theorem sIf_ap : sIf t g k ρ = SO.from ρ (t ρ) fun b => if b = true then g ρ else k ρ := (rfl)
@[simp] theorem sSet_ap : sSet i f ρ = SO.from ρ (f ρ) fun d => .nx (ρ.set i (.v d)) := (rfl)
@[simp] theorem sBk_ap : sBk ρ = .bk ρ := (rfl)
@[simp] theorem sCt_ap : sCt ρ = .ct ρ := (rfl)
@[simp] theorem sAsg_ap {h : Tg} : sAsg f h ρ = SO.from ρ (f ρ) fun d => SO.ofO (h d ρ) .nx := (rfl)
@[simp] theorem ofO_none : SO.ofO none k = .bad := (rfl)
@[simp] theorem sFor_ap {h : Tg} : sFor fl h g ρ = SO.from ρ (fl ρ) fun ds => loop h g ds ρ := (rfl)
@[simp] theorem loop_nil {h : Tg} : loop h g [] ρ = .nx ρ := (rfl)
theorem loop_cons {h : Tg} : loop h g (d :: ds) ρ = SO.ofO (h d ρ) fun ρ1 => SO.lp (g ρ1) (loop h g ds) := by
  unfold loop SO.lp SO.ofO
  cases h d ρ with
  | none => rfl
  | some ρ1 =>
    show (match g ρ1 with
      | .nx ρ2 => loop h g ds ρ2
      | .ct ρ2 => loop h g ds ρ2
      | .bk ρ2 => .nx ρ2
      | r => r) = _
    cases e : g ρ1 <;> simp only [e]
theorem wloop_succ : wloop t g (n + 1) ρ = SO.from ρ (t ρ) fun b => if b = true then SO.lp (g ρ) (wloop t g n) else .nx ρ := by
  show SO.from ρ (t ρ) _ = _
  congr 1
@[simp] theorem eV_zero : eV 0 (.v d :: ρ) = .ok d := (rfl)
@[simp] theorem eV_succ : eV (i + 1) (s :: ρ) = eV i ρ := (rfl)
@[simp] theorem eC_ap : eC d ρ = .ok d := (rfl)
@[simp] theorem e1_ap {h : D → R D} : e1 h fa ρ = (fa ρ).bind h := (rfl)
@[simp] theorem e2_ap {h : D → D → R D} : e2 h fa fb ρ = (fa ρ).bind fun a => (fb ρ).bind fun b => h a b := (rfl)
@[simp] theorem eA_ap {h : List D → R D} : eA h fl ρ = (fl ρ).bind h := (rfl)
@[simp] theorem aN_ap : aN ρ = .ok [] := (rfl)
@[simp] theorem aC_ap : aC fa fl ρ = (fa ρ).bind fun a => (fl ρ).bind fun r => .ok (a :: r) := (rfl)
@[simp] theorem Bof_bl {b : Bool} : Bof (.bl b) = .ok b := (rfl)
@[simp] theorem tV_ap : tV fa ρ = (fa ρ).bind Bof := (rfl)
@[simp] theorem tAnd_ap : tAnd t u ρ = (t ρ).bind fun b => if b = true then u ρ else .ok false := (rfl)
@[simp] theorem tOr_ap : tOr t u ρ = (t ρ).bind fun b => if b = true then .ok true else u ρ := (rfl)
@[simp] theorem tNot_ap : tNot t ρ = (t ρ).bind fun b => .ok (!b) := (rfl)
@[simp] theorem eAnd_ap : eAnd fa fb ρ = (fa ρ).bind fun a => (Bof a).bind fun b => if b = true then fb ρ else .ok (.bl false) := (rfl)
@[simp] theorem eOr_ap : eOr fa fb ρ = (fa ρ).bind fun a => (Bof a).bind fun b => if b = true then .ok (.bl true) else fb ρ := (rfl)
@[simp] theorem eNot_ap : eNot fa ρ = (fa ρ).bind fun a => (Bof a).bind fun b => .ok (.bl (!b)) := (rfl)
@[simp] theorem eIf_ap : eIf t fa fb ρ = (t ρ).bind fun b => if b = true then fa ρ else fb ρ := (rfl)
@[simp] theorem eChain_ap {h h' : D → D → R D} : eChain h h' fa fb fc ρ = (fa ρ).bind fun a => (fb ρ).bind fun b => (h a b).bind fun z => (Bof z).bind fun k => if k = true then (fc ρ).bind fun c => h' b c else .ok (.bl false) := (rfl)
@[simp] theorem gN_ap : gN i d ρ = some (ρ.set i (.v d)) := (rfl)
@[simp] theorem gsN_ap : gsN [] ρ = some ρ := (rfl)
@[simp] theorem gsC_ap {h : Tg} {r : Tgs} : gsC h r (d :: ds) ρ = (h d ρ).bind fun ρ' => r ds ρ' := (rfl)
@[simp] theorem gT_ap {h : Tgs} : gT n h (.tup ds) ρ = if ds.length = n then h ds ρ else none := (rfl)
@[simp] theorem frzE_zero : frzE 0 (s :: ρ) = frzS s :: ρ := (rfl)
@[simp] theorem frzE_succ : frzE (i + 1) (s :: ρ) = s :: frzE i ρ := by
  unfold frzE
  rw [List.getElem?_cons_succ]
  cases ρ[i]? <;> rfl
@[simp] theorem frzS_l : frzS (.l xs) = .v (.lst xs) := (rfl)
@[simp] theorem frzS_v : frzS (.v d) = .v d := (rfl)
@[simp] theorem frzS_no : frzS .no = .no := (rfl)
@[simp] theorem frzA_nil : frzA [] = [] := (rfl)
@[simp] theorem frzA_cons : frzA (s :: ρ) = frzS s :: frzA ρ := (rfl)
@[simp] theorem sFrz_ap : sFrz i g ρ = g (frzE i ρ) := (rfl)
@[simp] theorem ownL_zero : ownL (.l xs :: ρ) 0 = .ok xs := (rfl)
@[simp] theorem ownL_succ : ownL (s :: ρ) (i + 1) = ownL ρ i := (rfl)
@[simp] theorem lDisp_ap : lDisp fl ρ = (fl ρ).bind fun ds => if ds.length ≤ sizeLine then .ok ds else .bad := (rfl)
@[simp] theorem lList_ap : lList f ρ = (f ρ).bind fun d => match d with
  | .lst xs => .ok xs
  | .tup xs => .ok xs
  | .scr ns => .ok (ns.map .int)
  | _ => .bad := (rfl)
@[simp] theorem sOwn_ap : sOwn i fl ρ = SO.from ρ (fl ρ) fun ds => .nx (ρ.set i (.l ds)) := (rfl)
@[simp] theorem sApp_ap : sApp i f ρ = SO.from ρ (ownL ρ i) fun xs => SO.from ρ (f ρ) fun d => if xs.length < sizeLine then .nx (ρ.set i (.l (xs ++ [d]))) else .bad := (rfl)
@[simp] theorem sMut_ap {h : List D → List D → Option (List D)} : sMut i h fl ρ = SO.from ρ (ownL ρ i) fun xs => SO.from ρ (fl ρ) fun ds => match h xs ds with
  | some xs' => .nx (ρ.set i (.l xs'))
  | none => .bad := (rfl)
@[simp] theorem sPop_ap : sPop i ρ = SO.from ρ (ownL ρ i) fun xs => if xs.length = 0 then .bad else .nx (ρ.set i (.l xs.dropLast)) := (rfl)
@[simp] theorem eBor_ap : eBor f ρ = (f (frzA ρ)).quiet.bind fun d => if scalD d = true then .ok d else .bad := (rfl)
@[simp] theorem tBor_ap : tBor t ρ = (t (frzA ρ)).quiet := (rfl)
@[simp] theorem wipeE_nil : wipeE ρ [] = ρ := (rfl)
@[simp] theorem wipeE_cons {vs : List Nat} : wipeE ρ (i :: vs) = (wipeE ρ vs).set i .no := (rfl)
@[simp] theorem eLc_ap {zs : List Nat} {h : Tg} : eLc zs fl h t f ρ = (fl ρ).bind fun ds => if ds.length ≤ sizeLine then (lcL h t f (wipeE ρ zs) ds).bind fun rs => .ok (.lst rs) else .bad := (rfl)
@[simp] theorem tsY_ap : tsY ρ = .ok true := (rfl)
@[simp] theorem iSq_ap : iSq fa ρ = (fa ρ).bind gIt := (rfl)
@[simp] theorem gIt_lst : gIt (.lst xs) = .ok xs := (rfl)
@[simp] theorem gIt_tup : gIt (.tup xs) = .ok xs := (rfl)
@[simp] theorem gIt_str {z : Str} : gIt (.str z) = .ok (signs z) := (rfl)
@[simp] theorem iR1_ap : iR1 fa ρ = (fa ρ).bind fun d => match d with
  | .int j => if small62 j then .ok (rgD 0 j.toNat) else .bad
  | _ => .bad := (rfl)
@[simp] theorem iR2_ap : iR2 fa fb ρ = (fa ρ).bind fun a => (fb ρ).bind fun b => match a, b with
  | .int i, .int j => if small62 i ∧ small62 j then .ok (rgD i (j - i).toNat) else .bad
  | _, _ => .bad := (rfl)
@[simp] theorem iEn2_ap : iEn2 fa ρ = (fa ρ).bind fun d => (optR (seqD d)).bind fun x => .ok (enumD 0 x.2) := (rfl)
@[simp] theorem iZp2_ap : iZp2 fa fb ρ = (fa ρ).bind fun a => (fb ρ).bind fun b => (optR (seqD a)).bind fun x => (optR (seqD b)).bind fun y => .ok (zipD x.2 y.2) := (rfl)
@[simp] theorem seqD_lst : seqD (.lst xs) = some (false, xs) := (rfl)
@[simp] theorem seqD_tup : seqD (.tup xs) = some (true, xs) := (rfl)
@[simp] theorem oN_ap : oN ρ = .ok none := (rfl)
@[simp] theorem oS_ap : oS f ρ = (f ρ).bind fun d => match d with
  | .int i => .ok (some i)
  | _ => .bad := (rfl)
@[simp] theorem eSl_ap {ga gb : Ev → R (Option Int)} : eSl fa ga gb ρ = (fa ρ).bind fun a => (ga ρ).bind fun l => (gb ρ).bind fun h => gSl a l h := (rfl)
@[simp] theorem eCall_ap {F : List D → R D} : eCall n F fl ρ = (fl ρ).bind fun ds => if ds.length = n then F ds else .bad := (rfl)
@[simp] theorem eCallK_ap {m p : Nat} {F : List D → R D} {gD : List D → List D → List D} {fk : Ev → R (List D)} : eCallK n m p F gD fl fk ρ = (fl ρ).bind fun ds => (fk ρ).bind fun zs => if ds.length = n ∧ zs.length = m ∧ (gD ds zs).length = p then F (gD ds zs) else .bad := (rfl)
@[simp] theorem out_nx : SO.out (.nx ρ) = .ok .non := (rfl)
@[simp] theorem out_rt : SO.out (.rt d) = .ok d := (rfl)
@[simp] theorem out_ro {s : Sl} : SO.out (.ro s) = frzR s := (rfl)
@[simp] theorem out_ex : SO.out (.ex x ρ) = .exc x := (rfl)
@[simp] theorem nL_ap : nL fl ρ = (fl ρ).bind fun ds => .ok (.l ds) := (rfl)
@[simp] theorem own_lT {xs : List D} : Sl.own (.l xs) = true := (rfl)
@[simp] theorem sNew_ap {f : Ev → R Sl} : sNew i f ρ = SO.from ρ (f ρ) fun s => if s.own = true then .nx (ρ.set i s) else .bad := (rfl)
@[simp] theorem sRetV_ap {i : Nat} : sRetV i ρ = (match ρ[i]? with
  | some s => if s.own = true then .ro s else .bad
  | none => .bad) := (rfl)
@[simp] theorem sRetF_ap {f : Ev → R Sl} : sRetF f ρ = SO.from ρ (f ρ) fun s => if s.own = true then .ro s else .bad := (rfl)
@[simp] theorem runO_ap : runO n g ds = (g (startE n ds)).outO := (rfl)
@[simp] theorem outO_ro {s : Sl} : SO.outO (.ro s) = .ok s := (rfl)
@[simp] theorem oCall_ap {F : List D → R Sl} : oCall n F fl ρ = (fl ρ).bind fun ds => if ds.length = n then F ds else .bad := (rfl)
@[simp] theorem lLc_ap {zs : List Nat} {h : Tg} {t : Ev → R Bool} {fe : Ev → R D} : lLc zs fl h t fe ρ = (fl ρ).bind fun ds => if ds.length ≤ sizeLine then (lcL h t fe (wipeE ρ zs) ds).bind fun rs => .ok rs else .bad := (rfl)
@[simp] theorem sPutL_ap {f fi : Ev → R D} : sPutL i f fi ρ = SO.from ρ (f ρ) fun d => SO.from ρ (ownL ρ i) fun xs => SO.from ρ (fi ρ) fun n => match n with
  | .int k => (match ixN xs.length k with
    | some j => .nx (ρ.set i (.l (xs.set j d)))
    | none => .bad)
  | _ => .bad := (rfl)
@[simp] theorem eOwnIx_ap {fi : Ev → R D} : eOwnIx i fi ρ = (ownL ρ i).bind fun xs => (fi ρ).bind fun n => gIx (.lst xs) n := (rfl)
@[simp] theorem frzR_l {xs : List D} : frzR (.l xs) = .ok (.lst xs) := (rfl)
@[simp] theorem runF_ap : runF n g ds = (g (startE n ds)).out := (rfl)
@[simp] theorem start_nil : startE n [] = List.replicate n .no := (rfl)
theorem start_cons : startE (n + 1) (d :: ds) = .v d :: startE n ds := by
  unfold startE
  rw [List.map_cons, List.cons_append, List.length_cons, Nat.add_sub_add_right]
@[simp] theorem start_cons' : startE n (d :: ds) = if n = 0 then .v d :: ds.map .v else .v d :: startE (n - 1) ds := by
  cases n with
  | zero => simp [startE]
  | succ n => rw [start_cons]; simp
/-! operators at data -/
@[simp] theorem gSub_int {i j : Int} : gSub (.int i) (.int j) = .ok (.int (i - j)) := (rfl)
@[simp] theorem gAdd_int {i j : Int} : gAdd (.int i) (.int j) = .ok (.int (i + j)) := (rfl)
@[simp] theorem gNeg_int {i : Int} : gNeg (.int i) = .ok (.int (-i)) := (rfl)
@[simp] theorem gLt_int {i j : Int} : gLt (.int i) (.int j) = .ok (.bl (decide (i < j))) := (rfl)
@[simp] theorem gLe_int {i j : Int} : gLe (.int i) (.int j) = .ok (.bl (decide (i ≤ j))) := (rfl)
@[simp] theorem gGt_int {i j : Int} : gGt (.int i) (.int j) = .ok (.bl (decide (j < i))) := (rfl)
@[simp] theorem gGe_int {i j : Int} : gGe (.int i) (.int j) = .ok (.bl (decide (j ≤ i))) := (rfl)
@[simp] theorem gEq_int {i j : Int} : gEq (.int i) (.int j) = .ok (.bl (decide (i = j))) := (rfl)
@[simp] theorem gEq_str {i j : Str} : gEq (.str i) (.str j) = .ok (.bl (decide (i = j))) := (rfl)
@[simp] theorem gEq_bl {i j : Bool} : gEq (.bl i) (.bl j) = .ok (.bl (decide (i = j))) := (rfl)
@[simp] theorem gNe_def {a b : D} : gNe a b = rNot (gEq a b) := (rfl)
@[simp] theorem rNot_bl {b : Bool} : rNot (.ok (.bl b)) = .ok (.bl (!b)) := (rfl)
@[simp] theorem gMod_int {i j : Int} (h : 0 < j) : gMod (.int i) (.int j) = .ok (.int (i % j)) := if_pos h
theorem log2_small {n : Nat} (h : n < 2 ^ 64) : n.log2 < 9000 := by
  by_cases z : n = 0
  · subst z; decide
  · exact Nat.lt_of_lt_of_le ((Nat.log2_lt z).mpr h) (by decide)
@[simp] theorem gDiv_int {i j : Int} (h : 0 < j) (h2 : j < 18446744073709551616) : gDiv (.int i) (.int j) = .ok (.int (i / j)) := if_pos ⟨h, log2_small (by omega : j.natAbs < 2 ^ 64)⟩
@[simp] theorem gMul_r {i j : Int} (h : -18446744073709551616 < j) (h2 : j < 18446744073709551616) : gMul (.int i) (.int j) = .ok (.int (i * j)) := if_pos (.inl (.inr ⟨by omega, by omega⟩))
theorem gMul_l {i j : Int} (h : -18446744073709551616 < i) (h2 : i < 18446744073709551616) : gMul (.int i) (.int j) = .ok (.int (i * j)) := if_pos (.inl (.inl ⟨by omega, by omega⟩))
@[simp] theorem gPow_int {i j : Int} (h : 0 ≤ j) (h2 : j ≤ 1000000) (h3 : -18446744073709551616 < i) (h4 : i < 18446744073709551616) : gPow (.int i) (.int j) = .ok (.int (i ^ j.toNat)) := if_pos ⟨h, h2, by omega⟩
@[simp] theorem gInt_int {i : Int} : gInt [.int i] = .ok (.int i) := (rfl)
@[simp] theorem gInt_bl {b : Bool} : gInt [.bl b] = .ok (.int (if b then 1 else 0)) := (rfl)
@[simp] theorem gAbs_int {i : Int} : gAbs [.int i] = .ok (.int (if i < 0 then -i else i)) := (rfl)
@[simp] theorem gLen_lst : gLen [.lst xs] = .ok (.int xs.length) := (rfl)
@[simp] theorem gLen_tup : gLen [.tup xs] = .ok (.int xs.length) := (rfl)
@[simp] theorem gLen_scr {ns : List Int} : gLen [.scr ns] = .ok (.int ns.length) := (rfl)
@[simp] theorem gLen_str {z : Str} (h : z.length ≤ sizeLine) : gLen [.str z] = .ok (.int z.length) := if_pos h
@[simp] theorem gMin_int {i j : Int} : gMin [.int i, .int j] = .ok (.int (if j < i then j else i)) := (rfl)
@[simp] theorem gMax_int {i j : Int} : gMax [.int i, .int j] = .ok (.int (if j > i then j else i)) := (rfl)
@[simp] theorem gList_lst : gList [.lst xs] = .ok (.lst xs) := (rfl)
@[simp] theorem gList_tup : gList [.tup xs] = .ok (.lst xs) := (rfl)
@[simp] theorem gTuple_lst : gTuple [.lst xs] = .ok (.tup xs) := (rfl)
@[simp] theorem gTuple_tup : gTuple [.tup xs] = .ok (.tup xs) := (rfl)
@[simp] theorem gIsN_non : gIsN d .non = .ok (.bl (isNon d)) := (rfl)
@[simp] theorem gNotN_non : gNotN d .non = .ok (.bl (!isNon d)) := (rfl)
@[simp] theorem gRev_lst : gRev (.lst xs) = .ok (.lst xs.reverse) := (rfl)
@[simp] theorem gRev_tup : gRev (.tup xs) = .ok (.tup xs.reverse) := (rfl)
theorem atI_nn {α : Type} {l : List α} {j : Int} (h : 0 ≤ j) (h2 : j < l.length) : L2.atI l j = l[j.toNat]? := by
  unfold L2.atI L2.ixN
  rw [if_pos h, if_pos h2]
  rfl
theorem gIx_lst {j : Int} (h : 0 ≤ j) (h2 : j < xs.length) : gIx (.lst xs) (.int j) = optR xs[j.toNat]? := by
  show optR (L2.atI xs j) = _
  rw [atI_nn h h2]
theorem gIx_tup {j : Int} (h : 0 ≤ j) (h2 : j < xs.length) : gIx (.tup xs) (.int j) = optR xs[j.toNat]? := by
  show optR (L2.atI xs j) = _
  rw [atI_nn h h2]
theorem gIx_map {α : Type} {inj : α → D} {l : List α} {j : Int} {a : α} (h : 0 ≤ j) (e : l[j.toNat]? = some a) : gIx (.lst (l.map inj)) (.int j) = .ok (inj a) := by
  have h2 : j.toNat < l.length := (List.getElem?_eq_some_iff.mp e).1
  rw [gIx_lst h (by rw [List.length_map]; omega), List.getElem?_map, e]
  rfl
theorem gIx_mapT {α : Type} {inj : α → D} {l : List α} {j : Int} {a : α} (h : 0 ≤ j) (e : l[j.toNat]? = some a) : gIx (.tup (l.map inj)) (.int j) = .ok (inj a) := by
  have h2 : j.toNat < l.length := (List.getElem?_eq_some_iff.mp e).1
  rw [gIx_tup h (by rw [List.length_map]; omega), List.getElem?_map, e]
  rfl
theorem gIx_getD {l : List Int} {j : Int} (h : 0 ≤ j) (h2 : j < l.length) : gIx (.lst (l.map .int)) (.int j) = .ok (.int (l.getD j.toNat 0)) := by
  refine gIx_map h ?_
  rw [List.getD_eq_getElem?_getD]
  have : j.toNat < l.length := by omega
  rw [List.getElem?_eq_getElem this]
  rfl
theorem gIx_scr {l : List Int} {j : Int} (h : 0 ≤ j) (h2 : j < l.length) : gIx (.scr l) (.int j) = .ok (.int (l.getD j.toNat 0)) := by
  show (optR (L2.atI l j)).bind _ = _
  rw [atI_nn h h2, List.getD_eq_getElem?_getD, List.getElem?_eq_getElem (by omega : j.toNat < l.length)]
  rfl
end
/-! ### loops, comprehensions -/
/-- the statement goes on, P of the slots -/
def SO.goes (s : SO) (P : Ev → Prop) : Prop := match s with
  | .nx ρ => P ρ
  | .ct ρ => P ρ
  | _ => False
@[simp] theorem goes_nx {ρ : Ev} {P : Ev → Prop} : SO.goes (.nx ρ) P = P ρ := (rfl)
@[simp] theorem goes_ct {ρ : Ev} {P : Ev → Prop} : SO.goes (.ct ρ) P = P ρ := (rfl)
theorem loop_inv {h : Tg} {body : Ev → SO} (I : Nat → Ev → Prop) : ∀ {ds : List D} {ρ : Ev} (m : Nat), I m ρ → (∀ i d ρ, ds[i]? = some d → I (m + i) ρ → ∃ ρ1, h d ρ = some ρ1 ∧ SO.goes (body ρ1) (I (m + i + 1))) → ∃ ρ', loop h body ds ρ = .nx ρ' ∧ I (m + ds.length) ρ'
  | [], ρ, m, h0, _ => ⟨ρ, rfl, h0⟩
  | d :: ds, ρ, m, h0, hs => by
    obtain ⟨ρ1, e1, e2⟩ := hs 0 d ρ rfl h0
    rw [loop_cons, e1, ofO_some]
    have go : ∀ ρ2, I (m + 1) ρ2 → ∃ ρ', loop h body ds ρ2 = .nx ρ' ∧ I (m + (d :: ds).length) ρ' := fun ρ2 h2 => by
      obtain ⟨ρ', e3, e4⟩ := loop_inv I (ds := ds) (ρ := ρ2) (m + 1) h2 fun i d' ρ q hI => by
        have := hs (i + 1) d' ρ (by simpa using q) (by rw [show m + (i + 1) = m + 1 + i by omega]; exact hI)
        rw [show m + (i + 1) + 1 = m + 1 + i + 1 by omega] at this
        exact this
      exact ⟨ρ', e3, by rw [List.length_cons, show m + (ds.length + 1) = m + 1 + ds.length by omega]; exact e4⟩
    cases z : body ρ1 with
    | nx ρ2 => rw [z] at e2; exact go ρ2 e2
    | ct ρ2 => rw [z] at e2; exact go ρ2 e2
    | rt d => rw [z] at e2; exact e2.elim
    | bk d => rw [z] at e2; exact e2.elim
    | ro d => rw [z] at e2; exact e2.elim
    | ex x d => rw [z] at e2; exact e2.elim
    | bad => rw [z] at e2; exact e2.elim
theorem rgD_get {lo : Int} {n i : Nat} {d : D} (h : (rgD lo n)[i]? = some d) : i < n ∧ d = .int (lo + i) := by
  unfold rgD at h
  rw [List.getElem?_map] at h
  obtain ⟨k, h1, rfl⟩ := Option.map_eq_some_iff.mp h
  obtain ⟨h2, h3⟩ := List.getElem?_eq_some_iff.mp h1
  rw [List.length_range] at h2
  rw [List.getElem_range] at h3
  subst h3
  exact ⟨h2, rfl⟩
@[simp] theorem rgD_len {lo : Int} {n : Nat} : (rgD lo n).length = n := by unfold rgD; simp
/-- for k in range(n) -/
theorem loop_rg {h : Tg} {body : Ev → SO} (I : Nat → Ev → Prop) {lo : Int} {n : Nat} {ρ : Ev} (h0 : I 0 ρ) (hs : ∀ i ρ, i < n → I i ρ → ∃ ρ1, h (.int (lo + i)) ρ = some ρ1 ∧ SO.goes (body ρ1) (I (i + 1))) : ∃ ρ', loop h body (rgD lo n) ρ = .nx ρ' ∧ I n ρ' := by
  obtain ⟨ρ', e1, e2⟩ := loop_inv I (ds := rgD lo n) (ρ := ρ) 0 h0 fun i d ρ q hI => by
    obtain ⟨q1, rfl⟩ := rgD_get q
    rw [Nat.zero_add] at hI ⊢
    exact hs i ρ q1 hI
  rw [rgD_len, Nat.zero_add] at e2
  exact ⟨ρ', e1, e2⟩
/-- for x in xs -/
theorem loop_map {α : Type} {inj : α → D} {h : Tg} {body : Ev → SO} (I : Nat → Ev → Prop) {l : List α} {ρ : Ev} (h0 : I 0 ρ) (hs : ∀ i a ρ, l[i]? = some a → I i ρ → ∃ ρ1, h (inj a) ρ = some ρ1 ∧ SO.goes (body ρ1) (I (i + 1))) : ∃ ρ', loop h body (l.map inj) ρ = .nx ρ' ∧ I l.length ρ' := by
  obtain ⟨ρ', e1, e2⟩ := loop_inv I (ds := l.map inj) (ρ := ρ) 0 h0 fun i d ρ q hI => by
    rw [List.getElem?_map] at q
    obtain ⟨a, q1, rfl⟩ := Option.map_eq_some_iff.mp q
    rw [Nat.zero_add] at hI ⊢
    exact hs i a ρ q1 hI
  rw [List.length_map, Nat.zero_add] at e2
  exact ⟨ρ', e1, e2⟩
theorem lc_map {α : Type} {inj : α → D} {h : Tg} {t : Ev → R Bool} {fe : Ev → R D} {ρ : Ev} (p : α → Bool) (f : α → D) : ∀ {l : List α}, (∀ a ∈ l, ∃ ρ1, h (inj a) ρ = some ρ1 ∧ t ρ1 = .ok (p a) ∧ (p a = true → fe ρ1 = .ok (f a))) → lcL h t fe ρ (l.map inj) = .ok ((l.filter p).map f)
  | [], _ => rfl
  | a :: l, H => by
    obtain ⟨ρ1, e1, e2, e3⟩ := H a List.mem_cons_self
    have ih := lc_map p f (l := l) fun b m => H b (List.mem_cons_of_mem _ m)
    show (optR (h (inj a) ρ)).bind _ = _
    rw [e1]
    simp only [optR_some, bind_ok, e2, quiet_ok]
    cases z : p a with
    | true => rw [if_pos rfl, e3 z, quiet_ok, bind_ok, ih, bind_ok, List.filter_cons_of_pos z, List.map_cons]
    | false => rw [if_neg Bool.false_ne_true, ih, List.filter_cons_of_neg (by rw [z]; decide)]
theorem lc_rg {h : Tg} {t : Ev → R Bool} {fe : Ev → R D} {ρ : Ev} {n : Nat} (p : Nat → Bool) (f : Nat → D) (H : ∀ a, a < n → ∃ ρ1, h (.int (a : Int)) ρ = some ρ1 ∧ t ρ1 = .ok (p a) ∧ (p a = true → fe ρ1 = .ok (f a))) : lcL h t fe ρ (rgD 0 n) = .ok (((List.range n).filter p).map f) := by
  unfold rgD
  refine lc_map p f fun a m => ?_
  rw [Int.zero_add]
  exact H a (List.mem_range.mp m)
end Tk

namespace Tk
open PySem PySem.Spec L2 PyProof.Rows
/-! ### the laws' own helpers, in plain words -/
def part (ps : List Int) (spot under size : Int) : Int := ps.getD spot.toNat 0 / under % size
theorem part_ok {ps : List Int} {spot under size : Int} (h0 : 0 ≤ spot) (h1 : spot < ps.length) (hu : 0 < under) (hu2 : under < 18446744073709551616) (hs : 0 < size) : F__law_part [.lst (ps.map .int), .int spot, .int under, .int size] = .ok (.int (part ps spot under size)) := by
  unfold F__law_part G__law_part
  simp [gIx_getD h0 h1, hu, hu2, hs]
  rfl
theorem part_lo {ps : List Int} {spot under size : Int} (hs : 0 < size) : 0 ≤ part ps spot under size := Int.emod_nonneg _ (by omega)
theorem part_hi {ps : List Int} {spot under size : Int} (hs : 0 < size) : part ps spot under size < size := Int.emod_lt_of_pos _ hs
theorem small_rg {j : Int} (h : 0 ≤ j) (h2 : j < 4611686018427387904) : small62 j := by unfold small62; omega
theorem far_ok {ps : List Int} {spot : Int} {number : Int} (h0 : 0 ≤ spot) (hn : 0 ≤ number) (hn2 : number < 4611686018427387904) (h1 : spot + number ≤ ps.length) : ∃ v : Int, 0 ≤ v ∧ F__law_far [.lst (ps.map .int), .int spot, .int number] = .ok (.int v) := by
  unfold F__law_far G__law_far
  obtain ⟨ρ', e, s, v, hv, rfl⟩ := loop_rg (h := gN 4) (body := B__law_far_1) (lo := 0) (n := number.toNat) (ρ := [.v (.lst (ps.map .int)), .v (.int spot), .v (.int number), .v (.int 0), .no])
    (fun _ ρ => ∃ (s : Sl) (v : Int), 0 ≤ v ∧ ρ = [.v (.lst (ps.map .int)), .v (.int spot), .v (.int number), .v (.int v), s]) ⟨_, 0, by omega, rfl⟩ (by
      rintro i ρ hi ⟨s, v, hv, rfl⟩
      refine ⟨_, rfl, ?_⟩
      unfold B__law_far_1
      simp [gIx_getD (l := ps) (j := spot + (i : Int)) (by omega) (by omega)]
      exact ⟨_, _, by omega, rfl, rfl⟩)
  simp [small_rg hn hn2, e, hv]
theorem chosen_ok {ps : List Int} {spot under small crest whole : Int} (h0 : 0 ≤ spot) (h1 : spot < ps.length) (hu : 0 < under) (hu2 : under < 1000000000000000000) (hs : 0 < small) (hc : small ≤ crest + 1) :
    ∃ v : Int, 0 ≤ v ∧ v ≤ crest ∧ F__law_chosen [.lst (ps.map .int), .int spot, .int under, .int small, .int crest, .int whole] = .ok (.int v) := by
  unfold F__law_chosen G__law_chosen
  have a1 := part_lo (ps := ps) (spot := spot) (under := 10 * under) hs
  have a2 := part_hi (ps := ps) (spot := spot) (under := 10 * under) hs
  have b1 := Int.emod_nonneg whole (by omega : crest + 1 ≠ 0)
  have b2 := Int.emod_lt_of_pos whole (by omega : 0 < crest + 1)
  by_cases c1 : part ps spot under 10 = 8
  · refine ⟨crest - part ps spot (10 * under) small, by omega, by omega, ?_⟩
    simp (disch := omega) [part_ok h0 h1, c1, gMul_r]
  · by_cases c2 : part ps spot under 10 = 9
    · refine ⟨whole % (crest + 1), by omega, by omega, ?_⟩
      simp (disch := omega) [part_ok h0 h1, c1, c2, gMul_r]
    · refine ⟨part ps spot (10 * under) small, by omega, by omega, ?_⟩
      simp (disch := omega) [part_ok h0 h1, c1, c2, gMul_r]
theorem cell_step {ns : List Int} {k : Int} (s : Sl) (v : Int) {i : Nat} (hi : i < ns.length) : B__law_cell_1 [.v (.scr ns), .v (.int k), .v (.int v), .v (.int (0 + (i : Int)))] = .nx [.v (.scr ns), .v (.int k), .v (.int ((v + ((i : Int) + 3) * ((if ns.getD i 0 < 0 then -ns.getD i 0 else ns.getD i 0) % 1000003) * 31) % 1000003)), .v (.int (i : Int))] := by
  unfold B__law_cell_1
  have q : ∀ z : Int, gMul (.int ((i : Int) + 3)) (.int (z % 1000003)) = .ok (.int (((i : Int) + 3) * (z % 1000003))) := fun z => gMul_r (by omega) (by omega)
  simp [gIx_scr (l := ns) (j := (i : Int)) (by omega) (by omega), q]
theorem cell_loop {ns : List Int} {k v0 : Int} : ∃ v s, loop (gN 3) B__law_cell_1 (rgD 0 ns.length) [.v (.scr ns), .v (.int k), .v (.int v0), .no] = .nx [.v (.scr ns), .v (.int k), .v (.int v), s] := by
  obtain ⟨ρ', e, s, v, rfl⟩ := loop_rg (h := gN 3) (body := B__law_cell_1) (lo := 0) (n := ns.length) (ρ := [.v (.scr ns), .v (.int k), .v (.int v0), .no])
      (fun _ ρ => ∃ (s : Sl) (v : Int), ρ = [.v (.scr ns), .v (.int k), .v (.int v), s]) ⟨_, _, rfl⟩ (by
        rintro i ρ hi ⟨s, v, rfl⟩
        refine ⟨_, rfl, ?_⟩
        show SO.goes (B__law_cell_1 [.v (.scr ns), .v (.int k), .v (.int v), .v (.int (0 + (i : Int)))]) _
        rw [cell_step s v hi]
        exact ⟨_, _, rfl⟩)
  exact ⟨v, s, e⟩
theorem cell_ok {ns : List Int} {k : Int} (h0 : 0 ≤ k) (hl : ns.length < 4611686018427387904) : ∃ v : Int, F__law_cell [.scr ns, .int k] = .ok (.int v) := by
  unfold F__law_cell G__law_cell
  by_cases c : k < (ns.length : Int)
  · refine ⟨ns.getD k.toNat 0, ?_⟩
    simp [c, gIx_scr h0 c]
  · obtain ⟨v, s, e⟩ := cell_loop (ns := ns) (k := k) (v0 := 7919 * (k + 1))
    refine ⟨v, ?_⟩
    have c2 : small62 (ns.length : Int) := small_rg (by omega) (by omega)
    have c3 : gMul (.int 7919) (.int (k + 1)) = .ok (.int (7919 * (k + 1))) := gMul_l (by decide) (by decide)
    simp [c, c3, c2, e]
def mixA (c k : Int) : Int := ((if c < 0 then -c else c) % 2147483647 * 48271 + (k + 1) * 69621) % 2147483647
def mixB (x k : Int) : Int := (x * (x % 46337 + 16807) + (k + 7) * 7919) % 2147483629
def mixC (x : Int) : Int := x * (x % 32749 + 48271) % 2147483647
theorem mixed_eq {c k : Int} (h0 : 0 ≤ k) (hk : k < 1000000) : F__law_mixed [.int c, .int k] = .ok (.int (mixC (mixB (mixA c k) k) / 11)) := by
  unfold F__law_mixed G__law_mixed
  have q1 : ∀ x : Int, -18446744073709551616 < x % 46337 + 16807 ∧ x % 46337 + 16807 < 18446744073709551616 := fun x => ⟨by omega, by omega⟩
  have q2 : ∀ x : Int, -18446744073709551616 < x % 32749 + 48271 ∧ x % 32749 + 48271 < 18446744073709551616 := fun x => ⟨by omega, by omega⟩
  simp [gMul_r, q1, q2, mixA, mixB, mixC]
theorem mixed_ok {c k : Int} (h0 : 0 ≤ k) (hk : k < 1000000) : ∃ v : Int, 0 ≤ v ∧ v < 2147483648 ∧ F__law_mixed [.int c, .int k] = .ok (.int v) := by
  refine ⟨_, ?_, ?_, mixed_eq h0 hk⟩
  · unfold mixC; omega
  · unfold mixC; omega
theorem pool_ok {c n : Int} (hn : 0 ≤ n) (hn2 : n < 1000000) : ∃ ps : List Int, ps.length = n.toNat ∧ (∀ p ∈ ps, 0 ≤ p ∧ p < 2147483648) ∧ F__law_pool [.int c, .int n] = .ok (.lst (ps.map .int)) := by
  unfold F__law_pool G__law_pool
  generalize hr : (if c < 0 then -c else c) = rest
  have hr0 : 0 ≤ rest := by subst hr; split <;> omega
  obtain ⟨ρ', e, s, r2, ps, _, hl, hp, rfl⟩ := loop_rg (h := gN 5) (body := B__law_pool_1) (lo := 0) (n := n.toNat) (ρ := [.v (.int c), .v (.int n), .v (.int rest), .v (.bl (decide (1000000000000000000 ≤ rest))), .l [], .no])
    (fun i ρ => ∃ (s : Sl) (r : Int) (ps : List Int), 0 ≤ r ∧ ps.length = i ∧ (∀ p ∈ ps, 0 ≤ p ∧ p < 2147483648) ∧ ρ = [.v (.int c), .v (.int n), .v (.int r), .v (.bl (decide (1000000000000000000 ≤ rest))), .l (ps.map .int), s])
    ⟨.no, rest, [], hr0, rfl, (fun p m => nomatch m), rfl⟩ (by
      rintro i ρ hi ⟨s, r, ps, hr1, hl, hp, rfl⟩
      refine ⟨_, rfl, ?_⟩
      have si : i < sizeLine := by unfold sizeLine; omega
      unfold B__law_pool_1
      by_cases q : 1000000000000000000 ≤ rest ∧ 0 < r
      · have st : sIf (tAnd (tV (eV 3)) (tV (e2 gGt (eV 2) (eC (.int 0))))) (sSq (sApp 4 (e2 gMod (eV 2) (eC (.int 5040)))) (sSet 2 (e2 gDiv (eV 2) (eC (.int 5040))))) (sApp 4 (eCall 2 F__law_mixed (aC (eV 0) (aC (eV 5) (aN))))) [.v (.int c), .v (.int n), .v (.int r), .v (.bl (decide (1000000000000000000 ≤ rest))), .l (ps.map .int), .v (.int (0 + (i : Int)))] =
            .nx [.v (.int c), .v (.int n), .v (.int (r / 5040)), .v (.bl (decide (1000000000000000000 ≤ rest))), .l ((ps ++ [r % 5040]).map .int), .v (.int (i : Int))] := by
          simp [q.1, q.2, hl, si]
        show SO.goes (sIf _ _ _ [.v (.int c), .v (.int n), .v (.int r), .v (.bl (decide (1000000000000000000 ≤ rest))), .l (ps.map .int), .v (.int (0 + (i : Int)))]) _
        rw [st]
        refine ⟨_, _, _, by omega, ?_, ?_, rfl⟩
        · rw [List.length_append, hl]; rfl
        · intro p m
          rcases List.mem_append.mp m with m | m
          · exact hp p m
          · rw [List.mem_singleton.mp m]; omega
      · obtain ⟨v, v1, v2, ve⟩ := mixed_ok (c := c) (k := (i : Int)) (by omega) (by omega)
        have st : sIf (tAnd (tV (eV 3)) (tV (e2 gGt (eV 2) (eC (.int 0))))) (sSq (sApp 4 (e2 gMod (eV 2) (eC (.int 5040)))) (sSet 2 (e2 gDiv (eV 2) (eC (.int 5040))))) (sApp 4 (eCall 2 F__law_mixed (aC (eV 0) (aC (eV 5) (aN))))) [.v (.int c), .v (.int n), .v (.int r), .v (.bl (decide (1000000000000000000 ≤ rest))), .l (ps.map .int), .v (.int (0 + (i : Int)))] =
            .nx [.v (.int c), .v (.int n), .v (.int r), .v (.bl (decide (1000000000000000000 ≤ rest))), .l ((ps ++ [v]).map .int), .v (.int (i : Int))] := by
          by_cases q1 : 1000000000000000000 ≤ rest
          · have q2 : ¬ 0 < r := fun z => q ⟨q1, z⟩
            simp [q1, q2, hl, ve, si]
          · simp [q1, hl, ve]
            unfold sizeLine
            omega
        show SO.goes (sIf _ _ _ [.v (.int c), .v (.int n), .v (.int r), .v (.bl (decide (1000000000000000000 ≤ rest))), .l (ps.map .int), .v (.int (0 + (i : Int)))]) _
        rw [st]
        refine ⟨_, _, _, hr1, ?_, ?_, rfl⟩
        · rw [List.length_append, hl]; rfl
        · intro p m
          rcases List.mem_append.mp m with m | m
          · exact hp p m
          · rw [List.mem_singleton.mp m]; omega)
  refine ⟨ps, hl, hp, ?_⟩
  have sm : small62 n := small_rg hn (by omega)
  simp [hr, sm, e]
/-! ### the laws' sameness -/
theorem gIsi_of {d : D} {t n : String} {b : Bool} (h1 : tyD d = some t) (h2 : kitB t n = some b) : gIsi [d, .ty n] = .ok (.bl b) := by
  show (optR ((tyD d).bind fun t => kitB t n)).bind _ = _
  rw [h1, Option.bind_some, h2]
  rfl
theorem kb1 : kitB "int" "int" = some true := by decide +kernel
theorem kb2 : kitB "int" "bool" = some false := by decide +kernel
theorem kb3 : kitB "str" "int" = some false := by decide +kernel
theorem kb4 : kitB "str" "str" = some true := by decide +kernel
theorem kb5 : kitB "list" "int" = some false := by decide +kernel
theorem kb6 : kitB "list" "str" = some false := by decide +kernel
theorem kb7 : kitB "list" "tuple" = some false := by decide +kernel
theorem kb8 : kitB "list" "list" = some true := by decide +kernel
theorem kb9 : kitB "tuple" "int" = some false := by decide +kernel
theorem kb10 : kitB "tuple" "str" = some false := by decide +kernel
theorem kb11 : kitB "tuple" "tuple" = some true := by decide +kernel
theorem kb12 : kitB "tuple" "list" = some false := by decide +kernel
section
variable {i : Int} {z : Str} {xs : List D}
@[simp] theorem is1 : gIsi [.int i, .ty "int"] = .ok (.bl true) := gIsi_of rfl kb1
@[simp] theorem is2 : gIsi [.int i, .ty "bool"] = .ok (.bl false) := gIsi_of rfl kb2
@[simp] theorem is3 : gIsi [.str z, .ty "int"] = .ok (.bl false) := gIsi_of rfl kb3
@[simp] theorem is4 : gIsi [.str z, .ty "str"] = .ok (.bl true) := gIsi_of rfl kb4
@[simp] theorem is5 : gIsi [.lst xs, .ty "int"] = .ok (.bl false) := gIsi_of rfl kb5
@[simp] theorem is6 : gIsi [.lst xs, .ty "str"] = .ok (.bl false) := gIsi_of rfl kb6
@[simp] theorem is7 : gIsi [.lst xs, .ty "tuple"] = .ok (.bl false) := gIsi_of rfl kb7
@[simp] theorem is8 : gIsi [.lst xs, .ty "list"] = .ok (.bl true) := gIsi_of rfl kb8
@[simp] theorem is9 : gIsi [.tup xs, .ty "int"] = .ok (.bl false) := gIsi_of rfl kb9
@[simp] theorem is10 : gIsi [.tup xs, .ty "str"] = .ok (.bl false) := gIsi_of rfl kb10
@[simp] theorem is11 : gIsi [.tup xs, .ty "tuple"] = .ok (.bl true) := gIsi_of rfl kb11
@[simp] theorem is12 : gIsi [.tup xs, .ty "list"] = .ok (.bl false) := gIsi_of rfl kb12
@[simp] theorem ib1 {b : Bool} : gIsB false .non (.bl b) = .ok (.bl false) := (rfl)
@[simp] theorem ib2 {a b : Bool} : gIsB false (.bl a) (.bl b) = .ok (.bl (decide (a = b))) := (rfl)
@[simp] theorem ib3 {b : Bool} : gIsB false (.int i) (.bl b) = .ok (.bl false) := (rfl)
@[simp] theorem ib4 {b : Bool} : gIsB false (.str z) (.bl b) = .ok (.bl false) := (rfl)
@[simp] theorem ib5 {b : Bool} : gIsB false (.lst xs) (.bl b) = .ok (.bl false) := (rfl)
@[simp] theorem ib6 {b : Bool} : gIsB false (.tup xs) (.bl b) = .ok (.bl false) := (rfl)
end
@[simp] theorem isNon_bl {b : Bool} : isNon (.bl b) = false := rfl
@[simp] theorem isNon_int {b : Int} : isNon (.int b) = false := rfl
@[simp] theorem isNon_str {b : Str} : isNon (.str b) = false := rfl
@[simp] theorem isNon_lst {b : List D} : isNon (.lst b) = false := rfl
@[simp] theorem isNon_tup {b : List D} : isNon (.tup b) = false := rfl
@[simp] theorem isNon_non : isNon .non = true := rfl
mutual
/-- plain data, n deep at most, no list too long -/
def plainD : Nat → D → Bool
  | _, .non => true
  | _, .bl _ => true
  | _, .int _ => true
  | _, .str _ => true
  | n + 1, .lst xs => decide (xs.length ≤ 1000000) && plainL n xs
  | n + 1, .tup xs => decide (xs.length ≤ 1000000) && plainL n xs
  | _, _ => false
def plainL : Nat → List D → Bool
  | _, [] => true
  | n, d :: ds => plainD n d && plainL n ds
end
theorem plainL_all {n : Nat} : ∀ {ds : List D}, plainL n ds = true ↔ ∀ d ∈ ds, plainD n d = true
  | [] => by simp [plainL]
  | d :: ds => by simp [plainL, plainL_all (ds := ds)]
theorem integer_ok {i : Int} : F__law_integer [.int i] = .ok (.bl true) := by
  unfold F__law_integer G__law_integer
  simp
theorem same_loop {n : Nat} {xs : List D} {f : List D → D} (hf : f = .lst ∨ f = .tup) (ih : ∀ d ∈ xs, Fr__law_same n [d, d] = .ok (.bl true)) : ∃ s, loop (gN 2) (B__law_same_1 (Fr__law_same n)) (rgD 0 xs.length) [.v (f xs), .v (f xs), .no] = .nx [.v (f xs), .v (f xs), s] := by
  obtain ⟨ρ', e, s, rfl⟩ := loop_rg (h := gN 2) (body := B__law_same_1 (Fr__law_same n)) (lo := 0) (n := xs.length) (ρ := [.v (f xs), .v (f xs), .no]) (fun _ ρ => ∃ s : Sl, ρ = [.v (f xs), .v (f xs), s]) ⟨_, rfl⟩ (by
    rintro i ρ hi ⟨s, rfl⟩
    refine ⟨_, rfl, ?_⟩
    have g : gIx (f xs) (.int (i : Int)) = .ok xs[i] := by
      rcases hf with rfl | rfl
      · rw [gIx_lst (by omega) (by omega), Int.toNat_natCast, List.getElem?_eq_getElem hi]; rfl
      · rw [gIx_tup (by omega) (by omega), Int.toNat_natCast, List.getElem?_eq_getElem hi]; rfl
    have h := ih xs[i] (List.getElem_mem hi)
    unfold B__law_same_1
    simp [g, h])
  exact ⟨s, e⟩
theorem same_n : ∀ (n : Nat) {d : D}, plainD n d = true → Fr__law_same (n + 1) [d, d] = .ok (.bl true)
  | n, .non, _ => by
    show runF 3 (G__law_same (Fr__law_same n)) [.non, .non] = _
    unfold G__law_same
    simp
  | n, .bl b, _ => by
    show runF 3 (G__law_same (Fr__law_same n)) [.bl b, .bl b] = _
    unfold G__law_same
    cases b <;> simp
  | n, .int i, _ => by
    show runF 3 (G__law_same (Fr__law_same n)) [.int i, .int i] = _
    unfold G__law_same
    simp [integer_ok]
  | n, .str i, _ => by
    show runF 3 (G__law_same (Fr__law_same n)) [.str i, .str i] = _
    unfold G__law_same
    simp
  | n + 1, .lst xs, h => by
    have h2 : (decide (xs.length ≤ 1000000) && plainL n xs) = true := h
    rw [Bool.and_eq_true, decide_eq_true_eq, plainL_all] at h2
    obtain ⟨s, e⟩ := same_loop (n := n + 1) (xs := xs) (f := .lst) (.inl rfl) fun d m => same_n n (h2.2 d m)
    have sm : small62 (xs.length : Int) := small_rg (by omega) (by omega)
    show runF 3 (G__law_same (Fr__law_same (n + 1))) [.lst xs, .lst xs] = _
    unfold G__law_same
    simp [sm, e]
  | n + 1, .tup xs, h => by
    have h2 : (decide (xs.length ≤ 1000000) && plainL n xs) = true := h
    rw [Bool.and_eq_true, decide_eq_true_eq, plainL_all] at h2
    obtain ⟨s, e⟩ := same_loop (n := n + 1) (xs := xs) (f := .tup) (.inr rfl) fun d m => same_n n (h2.2 d m)
    have sm : small62 (xs.length : Int) := small_rg (by omega) (by omega)
    show runF 3 (G__law_same (Fr__law_same (n + 1))) [.tup xs, .tup xs] = _
    unfold G__law_same
    simp [sm, e]
theorem same_ok {d : D} (h : plainD 5 d = true) : F__law_same [d, d] = .ok (.bl true) := same_n 5 h
end Tk

namespace Tk
open PySem PySem.Spec L2 PyProof.Rows
/-! ### texts as lists -/
abbrev S (l : List Nat) : Str := ⟨l.toArray⟩
theorem S_add (a b : List Nat) : S a ++ S b = S (a ++ b) := by
  show (⟨a.toArray ++ b.toArray⟩ : Str) = _
  simp
theorem S_len (a : List Nat) : (S a).length = a.length := by
  show (Array.size a.toArray) = _
  simp
theorem S_inj {a b : List Nat} (h : S a = S b) : a = b := by
  have := congrArg (fun z : Str => z.cps.toList) h
  simpa using this
theorem S_eta (z : Str) : S z.cps.toList = z := rfl
theorem S_cut_hi {l : List Nat} {v : Int} (h : 0 ≤ v) : cutS (S l) none (some v) = S (l.take v.toNat) := by
  have e : HT.sIx (S l).length (S l).length (some v) = min v.toNat l.length := by
    show (if v < 0 then (v + ((S l).length : Int)).toNat else min v.toNat (S l).length) = _
    rw [if_neg (by omega), S_len]
  unfold cutS
  rw [e, HT.sIx_none, List.drop_zero, Nat.sub_zero]
  show S (l.take (min v.toNat l.length)) = _
  rw [← List.take_eq_take_min]
theorem S_cut_lo {l : List Nat} {v : Int} (h : 0 ≤ v) : cutS (S l) (some v) none = S (l.drop v.toNat) := by
  have e : HT.sIx (S l).length 0 (some v) = min v.toNat l.length := by
    show (if v < 0 then (v + ((S l).length : Int)).toNat else min v.toNat (S l).length) = _
    rw [if_neg (by omega), S_len]
  unfold cutS
  rw [e, HT.sIx_none, S_len]
  show S ((l.drop (min v.toNat l.length)).take (l.length - min v.toNat l.length)) = _
  by_cases c : v.toNat ≤ l.length
  · rw [Nat.min_eq_left c, List.take_of_length_le (by rw [List.length_drop]; omega)]
  · rw [Nat.min_eq_right (by omega), List.drop_eq_nil_of_le (by omega : l.length ≤ v.toNat), List.drop_length]
    rw [Nat.sub_self]
    rfl
theorem sz24 : sizeLine = 16777216 := rfl
theorem gAdd_S {a b : List Nat} (h : a.length + b.length ≤ 1000000) : gAdd (.str (S a)) (.str (S b)) = .ok (.str (S (a ++ b))) := by
  show (if (S a).length + (S b).length ≤ sizeLine then R.ok (D.str (S a ++ S b)) else .bad) = _
  rw [if_pos (by rw [S_len, S_len, sz24]; omega), S_add]
theorem gSl_hi {l : List Nat} {v : Int} (h : 0 ≤ v) (hl : l.length ≤ 1000000) : gSl (.str (S l)) none (some v) = .ok (.str (S (l.take v.toNat))) := by
  show (if (S l).length ≤ sizeLine then R.ok (D.str (cutS (S l) none (some v))) else .bad) = _
  rw [if_pos (by rw [S_len, sz24]; omega), S_cut_hi h]
theorem gSl_lo {l : List Nat} {v : Int} (h : 0 ≤ v) (hl : l.length ≤ 1000000) : gSl (.str (S l)) (some v) none = .ok (.str (S (l.drop v.toNat))) := by
  show (if (S l).length ≤ sizeLine then R.ok (D.str (cutS (S l) (some v) none)) else .bad) = _
  rw [if_pos (by rw [S_len, sz24]; omega), S_cut_lo h]
theorem gIx_S {l : List Nat} {v : Int} (h : 0 ≤ v) (h2 : v < l.length) (hl : l.length ≤ 1000000) : gIx (.str (S l)) (.int v) = .ok (.str (S [l.getD v.toNat 0])) := by
  show (if (S l).length ≤ sizeLine then (optR (L2.atI l v)).bind fun c => R.ok (D.str ⟨#[c]⟩) else .bad) = _
  rw [if_pos (by rw [S_len, sz24]; omega), atI_nn h h2, List.getD_eq_getElem?_getD, List.getElem?_eq_getElem (by omega : v.toNat < l.length)]
  rfl
/-! ### the alphabet, names -/
def abc : List Nat := (List.range 26).map (· + 97)
theorem abc_eq : (Str.ofString "abcdefghijklmnopqrstuvwxyz") = S abc := by decide +kernel
theorem none_eq : (Str.ofString "") = S [] := by decide +kernel
theorem abc_len : abc.length = 26 := rfl
theorem abc_get {v : Nat} (h : v < 26) : abc.getD v 0 = v + 97 := by
  unfold abc
  rw [List.getD_eq_getElem?_getD, List.getElem?_map, List.getElem?_range h]
  rfl
theorem gIx_abc {v : Int} (h : 0 ≤ v) (h2 : v < 26) : gIx (.str (S abc)) (.int v) = .ok (.str (S [v.toNat + 97])) := by
  rw [gIx_S h (by rw [abc_len]; omega) (by rw [abc_len]; omega), abc_get (by omega)]
/-- small letters -/
def low (l : List Nat) : Prop := ∀ c ∈ l, 97 ≤ c ∧ c ≤ 122
/-- a name: 1 to 8 small letters -/
def okName (w : List Nat) : Prop := 1 ≤ w.length ∧ w.length ≤ 8 ∧ low w
theorem low_app {a b : List Nat} (h : low a) (h' : low b) : low (a ++ b) := fun c m => (List.mem_append.mp m).elim (h c) (h' c)
theorem low_one {c : Nat} (h : 97 ≤ c) (h' : c ≤ 122) : low [c] := fun d m => by rw [List.mem_singleton.mp m]; exact ⟨h, h'⟩
theorem low_take {a : List Nat} (h : low a) (n : Nat) : low (a.take n) := fun c m => h c (List.mem_of_mem_take m)
theorem low_drop {a : List Nat} (h : low a) (n : Nat) : low (a.drop n) := fun c m => h c (List.mem_of_mem_drop m)
/-! names that are drawn -/
theorem names_loop1 {ps : List Int} {spot number : Int} (h0 : 0 ≤ spot) (h1 : spot + 5 ≤ ps.length) : ∃ (l : List Nat) (s : Sl), l.length = 6 ∧ low l ∧ loop (gN 5) B__law_names_1 (rgD 0 3) [.v (.lst (ps.map .int)), .v (.int spot), .v (.int number), .v (.str (S abc)), .v (.str (S [])), .no, .no, .no, .no, .no, .no, .no, .no] =
    .nx [.v (.lst (ps.map .int)), .v (.int spot), .v (.int number), .v (.str (S abc)), .v (.str (S l)), s, .no, .no, .no, .no, .no, .no, .no] := by
  obtain ⟨ρ', e, s, l, hl, lw, rfl⟩ := loop_rg (h := gN 5) (body := B__law_names_1) (lo := 0) (n := 3) (ρ := [.v (.lst (ps.map .int)), .v (.int spot), .v (.int number), .v (.str (S abc)), .v (.str (S [])), .no, .no, .no, .no, .no, .no, .no, .no])
    (fun i ρ => ∃ (s : Sl) (l : List Nat), l.length = 2 * i ∧ low l ∧ ρ = [.v (.lst (ps.map .int)), .v (.int spot), .v (.int number), .v (.str (S abc)), .v (.str (S l)), s, .no, .no, .no, .no, .no, .no, .no])
    ⟨_, [], rfl, (fun _ m => nomatch m), rfl⟩ (by
      rintro i ρ hi ⟨s, l, hl, lw, rfl⟩
      refine ⟨_, rfl, ?_⟩
      have p1 := part_ok (ps := ps) (spot := spot + (i : Int)) (under := 1) (size := 26) (by omega) (by omega) (by decide) (by decide) (by decide)
      have p2 := part_ok (ps := ps) (spot := spot + (i : Int)) (under := 26) (size := 26) (by omega) (by omega) (by decide) (by decide) (by decide)
      have a1 := part_lo (ps := ps) (spot := spot + (i : Int)) (under := 1) (size := 26) (by decide)
      have a2 := part_hi (ps := ps) (spot := spot + (i : Int)) (under := 1) (size := 26) (by decide)
      have b1 := part_lo (ps := ps) (spot := spot + (i : Int)) (under := 26) (size := 26) (by decide)
      have b2 := part_hi (ps := ps) (spot := spot + (i : Int)) (under := 26) (size := 26) (by decide)
      generalize part ps (spot + (i : Int)) 1 26 = u at *
      generalize part ps (spot + (i : Int)) 26 26 = v at *
      have g1 := gIx_abc a1 a2
      have g2 := gIx_abc b1 b2
      have s1 := gAdd_S (a := l) (b := [u.toNat + 97]) (by simp; omega)
      have s2 := gAdd_S (a := l ++ [u.toNat + 97]) (b := [v.toNat + 97]) (by simp; omega)
      have st : B__law_names_1 [.v (.lst (ps.map .int)), .v (.int spot), .v (.int number), .v (.str (S abc)), .v (.str (S l)), .v (.int (0 + (i : Int))), .no, .no, .no, .no, .no, .no, .no] =
          .nx [.v (.lst (ps.map .int)), .v (.int spot), .v (.int number), .v (.str (S abc)), .v (.str (S (l ++ [u.toNat + 97] ++ [v.toNat + 97]))), .v (.int (i : Int)), .no, .no, .no, .no, .no, .no, .no] := by
        unfold B__law_names_1
        simp only [sSet_ap, e2_ap, eV_succ, eV_zero, bind_ok, eCall_ap, aC_ap, aN_ap, gAdd_int, eC_ap, List.length_cons, List.length_nil, Int.zero_add, Nat.zero_add, Nat.reduceAdd, if_true, p1, p2, g1, g2, s1, s2, from_ok, List.set_cons_succ, List.set_cons_zero]
      show SO.goes (B__law_names_1 [.v (.lst (ps.map .int)), .v (.int spot), .v (.int number), .v (.str (S abc)), .v (.str (S l)), .v (.int (0 + (i : Int))), .no, .no, .no, .no, .no, .no, .no]) _
      rw [st]
      refine ⟨_, _, ?_, ?_, rfl⟩
      · simp; omega
      · exact low_app (low_app lw (low_one (by omega) (by omega))) (low_one (by omega) (by omega)))
  exact ⟨l, s, hl, lw, e⟩
def nmA (sh tl : List Nat) (cut first m : Int) : List Nat := sh.take cut.toNat ++ [((first + 7 * m) % 26).toNat + 97] ++ sh.drop cut.toNat ++ tl
def nmK (c : Int) (stem sh tl : List Nat) (cut first turn : Int) (k : Nat) : List Nat := if c = 0 then nmA sh tl cut first (((k : Int) + turn) % 6) else stem.take ((((k : Int) + turn) % 6) + 1).toNat
theorem names_loop2 {ps : List Int} {spot number turn cut first : Int} {stem sh tl : List Nat} (h0 : 0 ≤ spot) (h1 : spot + 5 ≤ ps.length) (hn : 0 ≤ number) (hn2 : number ≤ 6) (ls : stem.length = 6) (lsh : sh.length ≤ 6) (ltl : tl.length ≤ 1) (c0 : 0 ≤ cut) (s0 : Sl) :
    ∃ (s t : Sl), loop (gN 5) B__law_names_2 (rgD 0 number.toNat) [.v (.lst (ps.map .int)), .v (.int spot), .v (.int number), .v (.str (S abc)), .v (.str (S stem)), s0, .v (.int turn), .v (.int cut), .v (.int first), .v (.str (S sh)), .v (.str (S tl)), .l [], .no] =
    .nx [.v (.lst (ps.map .int)), .v (.int spot), .v (.int number), .v (.str (S abc)), .v (.str (S stem)), s, .v (.int turn), .v (.int cut), .v (.int first), .v (.str (S sh)), .v (.str (S tl)), .l ((List.range number.toNat).map fun k => .str (S (nmK (part ps (spot + 4) 1 2) stem sh tl cut first turn k))), t] := by
  have pc := part_ok (ps := ps) (spot := spot + 4) (under := 1) (size := 2) (by omega) (by omega) (by decide) (by decide) (by decide)
  generalize part ps (spot + 4) 1 2 = c at *
  obtain ⟨ρ', e, s, t, rfl⟩ := loop_rg (h := gN 5) (body := B__law_names_2) (lo := 0) (n := number.toNat) (ρ := [.v (.lst (ps.map .int)), .v (.int spot), .v (.int number), .v (.str (S abc)), .v (.str (S stem)), s0, .v (.int turn), .v (.int cut), .v (.int first), .v (.str (S sh)), .v (.str (S tl)), .l [], .no])
    (fun i ρ => ∃ (s t : Sl), ρ = [.v (.lst (ps.map .int)), .v (.int spot), .v (.int number), .v (.str (S abc)), .v (.str (S stem)), s, .v (.int turn), .v (.int cut), .v (.int first), .v (.str (S sh)), .v (.str (S tl)), .l ((List.range i).map fun k => .str (S (nmK c stem sh tl cut first turn k))), t])
    ⟨_, _, rfl⟩ (by
      rintro i ρ hi ⟨s, t, rfl⟩
      refine ⟨_, rfl, ?_⟩
      have m0 : 0 ≤ ((i : Int) + turn) % 6 := by omega
      have m6 : ((i : Int) + turn) % 6 < 6 := by omega
      have f1 : 0 ≤ (first + 7 * (((i : Int) + turn) % 6)) % 26 := by omega
      have f2 : (first + 7 * (((i : Int) + turn) % 6)) % 26 < 26 := by omega
      have g1 := gIx_abc f1 f2
      have t1 := gSl_hi (l := sh) c0 (by omega)
      have t2 := gSl_lo (l := sh) c0 (by omega)
      have t3 := gSl_hi (l := stem) (v := ((i : Int) + turn) % 6 + 1) (by omega) (by omega)
      have q1 := gAdd_S (a := sh.take cut.toNat) (b := [((first + 7 * (((i : Int) + turn) % 6)) % 26).toNat + 97]) (by simp; omega)
      have q2 := gAdd_S (a := sh.take cut.toNat ++ [((first + 7 * (((i : Int) + turn) % 6)) % 26).toNat + 97]) (b := sh.drop cut.toNat) (by simp; omega)
      have q3 := gAdd_S (a := sh.take cut.toNat ++ [((first + 7 * (((i : Int) + turn) % 6)) % 26).toNat + 97] ++ sh.drop cut.toNat) (b := tl) (by simp; omega)
      have q4 := gMul_l (i := 7) (j := ((i : Int) + turn) % 6) (by decide) (by decide)
      have sl : ((List.range i).map fun k => D.str (S (nmK c stem sh tl cut first turn k))).length < sizeLine := by rw [List.length_map, List.length_range, sz24]; omega
      have d6 : gMod (.int ((i : Int) + turn)) (.int 6) = .ok (.int (((i : Int) + turn) % 6)) := gMod_int (by decide)
      have d26 : gMod (.int (first + 7 * (((i : Int) + turn) % 6))) (.int 26) = .ok (.int ((first + 7 * (((i : Int) + turn) % 6)) % 26)) := gMod_int (by decide)
      have st : B__law_names_2 [.v (.lst (ps.map .int)), .v (.int spot), .v (.int number), .v (.str (S abc)), .v (.str (S stem)), .v (.int (0 + (i : Int))), .v (.int turn), .v (.int cut), .v (.int first), .v (.str (S sh)), .v (.str (S tl)), .l ((List.range i).map fun k => .str (S (nmK c stem sh tl cut first turn k))), t] =
          .nx [.v (.lst (ps.map .int)), .v (.int spot), .v (.int number), .v (.str (S abc)), .v (.str (S stem)), .v (.int (i : Int)), .v (.int turn), .v (.int cut), .v (.int first), .v (.str (S sh)), .v (.str (S tl)), .l ((List.range (i + 1)).map fun k => .str (S (nmK c stem sh tl cut first turn k))), .v (.int (((i : Int) + turn) % 6))] := by
        rw [List.range_succ, List.map_append]
        show _ = SO.nx [_, _, _, _, _, _, _, _, _, _, _, .l (_ ++ [D.str (S (nmK c stem sh tl cut first turn i))]), _]
        unfold B__law_names_2
        by_cases z : c = 0
        · have en : nmK c stem sh tl cut first turn i = sh.take cut.toNat ++ [((first + 7 * (((i : Int) + turn) % 6)) % 26).toNat + 97] ++ sh.drop cut.toNat ++ tl := if_pos z
          rw [en]
          have ze : decide (c = 0) = true := decide_eq_true z
          simp only [sSq_ap, sSet_ap, sIf_ap, sApp_ap, tV_ap, e2_ap, eA_ap, eSl_ap, oN_ap, oS_ap, eV_succ, eV_zero, bind_ok, eCall_ap, aC_ap, aN_ap, gAdd_int, gInt_int, gEq_int, Bof_bl, eC_ap, List.length_cons, List.length_nil, Int.zero_add, Nat.zero_add, Nat.reduceAdd, if_true, pc, d6, d26, g1, t1, t2, t3, q1, q2, q3, q4, ze, sl, from_ok, sq_nx, ownL_succ, ownL_zero, List.set_cons_succ, List.set_cons_zero]
        · have en : nmK c stem sh tl cut first turn i = stem.take ((((i : Int) + turn) % 6) + 1).toNat := if_neg z
          rw [en]
          have ze : decide (c = 0) = false := decide_eq_false z
          simp only [sSq_ap, sSet_ap, sIf_ap, sApp_ap, tV_ap, e2_ap, eA_ap, eSl_ap, oN_ap, oS_ap, eV_succ, eV_zero, bind_ok, eCall_ap, aC_ap, aN_ap, gAdd_int, gInt_int, gEq_int, Bof_bl, eC_ap, List.length_cons, List.length_nil, Int.zero_add, Nat.zero_add, Nat.reduceAdd, if_true, pc, d6, d26, g1, t1, t2, t3, q1, q2, q3, q4, ze, sl, from_ok, sq_nx, ownL_succ, ownL_zero, List.set_cons_succ, List.set_cons_zero, Bool.false_eq_true, if_false]
      show SO.goes (B__law_names_2 [.v (.lst (ps.map .int)), .v (.int spot), .v (.int number), .v (.str (S abc)), .v (.str (S stem)), .v (.int (0 + (i : Int))), .v (.int turn), .v (.int cut), .v (.int first), .v (.str (S sh)), .v (.str (S tl)), .l ((List.range i).map fun k => .str (S (nmK c stem sh tl cut first turn k))), t]) _
      rw [st]
      exact ⟨_, _, rfl⟩)
  exact ⟨s, t, e⟩
theorem nmA_len (sh tl : List Nat) (cut first m : Int) : (nmA sh tl cut first m).length = sh.length + 1 + tl.length := by
  unfold nmA
  simp only [List.length_append, List.length_take, List.length_drop, List.length_cons, List.length_nil]
  omega
theorem nmA_inj {sh tl : List Nat} {cut first m m' : Int} (c0 : 0 ≤ m) (c1 : m < 6) (d0 : 0 ≤ m') (d1 : m' < 6) (h : nmA sh tl cut first m = nmA sh tl cut first m') : m = m' := by
  unfold nmA at h
  rw [List.append_assoc, List.append_assoc, List.append_assoc, List.append_assoc] at h
  have h2 := List.append_cancel_left h
  have h3 := (List.cons.inj h2).1
  omega
theorem nmK_ok {c turn cut first : Int} {stem sh tl : List Nat} (ls : stem.length = 6) (lsh : sh.length ≤ 6) (ltl : tl.length ≤ 1) (w1 : low stem) (w2 : low sh) (w3 : low tl) (k : Nat) : okName (nmK c stem sh tl cut first turn k) := by
  unfold nmK
  split
  · refine ⟨by rw [nmA_len]; omega, by rw [nmA_len]; omega, ?_⟩
    exact low_app (low_app (low_app (low_take w2 _) (low_one (by omega) (by omega))) (low_drop w2 _)) w3
  · exact ⟨by rw [List.length_take]; omega, by rw [List.length_take]; omega, low_take w1 _⟩
theorem nmK_inj {c turn cut first : Int} {stem sh tl : List Nat} (ls : stem.length = 6) {k k' : Nat} (hk : k < 6) (hk' : k' < 6) (h : nmK c stem sh tl cut first turn k = nmK c stem sh tl cut first turn k') : k = k' := by
  unfold nmK at h
  split at h
  · have := nmA_inj (by omega) (by omega) (by omega) (by omega) h
    omega
  · have := congrArg List.length h
    rw [List.length_take, List.length_take, ls] at this
    omega
theorem names_ok {ps : List Int} {spot number : Int} (h0 : 0 ≤ spot) (h1 : spot + 5 ≤ ps.length) (hn : 0 ≤ number) (hn2 : number ≤ 6) :
    ∃ ws : List (List Nat), ws.length = number.toNat ∧ (∀ w ∈ ws, okName w) ∧ ws.Nodup ∧ F__law_names [.lst (ps.map .int), .int spot, .int number] = .ok (.lst (ws.map fun w => .str (S w))) := by
  have p1 := part_ok (ps := ps) (spot := spot + 3) (under := 1) (size := 6) (by omega) (by omega) (by decide) (by decide) (by decide)
  have p2 := part_ok (ps := ps) (spot := spot + 3) (under := 6) (size := 7) (by omega) (by omega) (by decide) (by decide) (by decide)
  have p3 := part_ok (ps := ps) (spot := spot + 3) (under := 42) (size := 26) (by omega) (by omega) (by decide) (by decide) (by decide)
  have p4 := part_ok (ps := ps) (spot := spot + 4) (under := 4) (size := 7) (by omega) (by omega) (by decide) (by decide) (by decide)
  have p5 := part_ok (ps := ps) (spot := spot + 4) (under := 2) (size := 2) (by omega) (by omega) (by decide) (by decide) (by decide)
  have a2 := part_lo (ps := ps) (spot := spot + 3) (under := 6) (size := 7) (by decide)
  have a4 := part_lo (ps := ps) (spot := spot + 4) (under := 4) (size := 7) (by decide)
  have a5 := part_lo (ps := ps) (spot := spot + 4) (under := 2) (size := 2) (by decide)
  have b4 := part_hi (ps := ps) (spot := spot + 4) (under := 4) (size := 7) (by decide)
  have b5 := part_hi (ps := ps) (spot := spot + 4) (under := 2) (size := 2) (by decide)
  obtain ⟨stem, s0, ls, lw, e1⟩ := names_loop1 (ps := ps) (spot := spot) (number := number) h0 h1
  have t1 := gSl_hi (l := stem) a4 (by omega)
  have t2 := gSl_hi (l := stem) a5 (by omega)
  generalize part ps (spot + 3) 1 6 = turn at *
  generalize part ps (spot + 3) 6 7 = cut at *
  generalize part ps (spot + 3) 42 26 = first at *
  generalize part ps (spot + 4) 4 7 = x4 at *
  generalize part ps (spot + 4) 2 2 = x5 at *
  have k1 : (stem.take x4.toNat).length ≤ 6 := by rw [List.length_take]; omega
  have k2 : (stem.take x5.toNat).length ≤ 1 := by rw [List.length_take]; omega
  obtain ⟨s, t, e2⟩ := names_loop2 (ps := ps) (spot := spot) (number := number) (turn := turn) (cut := cut) (first := first) (stem := stem) (sh := stem.take x4.toNat) (tl := stem.take x5.toNat) h0 h1 hn hn2 ls k1 k2 a2 s0
  refine ⟨(List.range number.toNat).map (nmK (part ps (spot + 4) 1 2) stem (stem.take x4.toNat) (stem.take x5.toNat) cut first turn), by rw [List.length_map, List.length_range], ?_, ?_, ?_⟩
  · intro w m
    obtain ⟨k, _, rfl⟩ := List.mem_map.mp m
    exact nmK_ok ls k1 k2 lw (low_take lw _) (low_take lw _) k
  · refine List.pairwise_map.mpr (List.Pairwise.imp_of_mem (fun {k k'} hk hk' ne h => ne ?_) List.nodup_range)
    have := List.mem_range.mp hk
    have := List.mem_range.mp hk'
    exact nmK_inj ls (by omega) (by omega) h
  · unfold F__law_names G__law_names
    have sm3 : small62 3 := by decide
    have smn : small62 number := small_rg hn (by omega)
    have st : startE 13 [.lst (ps.map .int), .int spot, .int number] = [.v (.lst (ps.map .int)), .v (.int spot), .v (.int number), .no, .no, .no, .no, .no, .no, .no, .no, .no, .no] := rfl
    have r3 : (3 : Int).toNat = 3 := rfl
    have z0 : (0 : Nat) ≤ sizeLine := Nat.zero_le _
    simp only [runF_ap, st, abc_eq, none_eq, sSq_ap, sSet_ap, sFor_ap, iR1_ap, sOwn_ap, lDisp_ap, sFrz_ap, sRet_ap, eSl_ap, oN_ap, oS_ap, e2_ap, eV_succ, eV_zero, bind_ok, eCall_ap, aC_ap, aN_ap, gAdd_int, eC_ap, List.length_cons, List.length_nil, Nat.zero_add, Nat.reduceAdd, if_true, p1, p2, p3, p4, p5, sm3, smn, r3, e1, t1, t2, from_ok, sq_nx, List.set_cons_succ, List.set_cons_zero, z0, e2, frzE_succ, frzE_zero, frzS_l, out_rt, List.map_map]
    rfl
end Tk

namespace Tk
open PySem PySem.Spec L2 PyProof.Rows
/-! ### == of plain data without truth values -/
mutual
def cleanD : Nat → D → Bool
  | _, .non => true
  | _, .int _ => true
  | _, .str s => PyData.strOk s
  | n + 1, .lst xs => cleanL n xs
  | n + 1, .tup xs => cleanL n xs
  | _, _ => false
def cleanL : Nat → List D → Bool
  | _, [] => true
  | n, d :: ds => cleanD n d && cleanL n ds
end
theorem cleanL_all {n : Nat} : ∀ {ds : List D}, cleanL n ds = true ↔ ∀ d ∈ ds, cleanD n d = true
  | [] => by simp [cleanL]
  | d :: ds => by simp [cleanL, cleanL_all (ds := ds)]
mutual
theorem clean_toP : ∀ {n : Nat} {d : D}, cleanD n d = true → ∃ p, toP d = some p ∧ p.canLay0 = true ∧ p.depth ≤ n
  | _, .non, _ => ⟨.none, by simp [toP], by simp [PyData.canLay0], by simp [PyData.depth]⟩
  | _, .int i, _ => ⟨.int i, by simp [toP], by simp [PyData.canLay0], by simp [PyData.depth]⟩
  | _, .str s, h => ⟨.str s, by simp [toP], by simp only [PyData.canLay0]; simpa [cleanD] using h, by simp [PyData.depth]⟩
  | 0, .lst _, h => by simp [cleanD] at h
  | 0, .tup _, h => by simp [cleanD] at h
  | n + 1, .lst xs, h => by
    obtain ⟨ps, e1, e2, e3⟩ := cleanL_toP (n := n) (ds := xs) (by simpa [cleanD] using h)
    exact ⟨.list ps, by simp [toP, e1], by simpa [PyData.canLay0] using e2, by simp only [PyData.depth]; omega⟩
  | n + 1, .tup xs, h => by
    obtain ⟨ps, e1, e2, e3⟩ := cleanL_toP (n := n) (ds := xs) (by simpa [cleanD] using h)
    exact ⟨.tuple ps, by simp [toP, e1], by simpa [PyData.canLay0] using e2, by simp only [PyData.depth]; omega⟩
  | _, .bl _, h => by simp [cleanD] at h
  | _, .ty _, h => by simp [cleanD] at h
  | _, .cl _, h => by simp [cleanD] at h
  | _, .scr _, h => by simp [cleanD] at h
  | _, .dK _, h => by simp [cleanD] at h
  | _, .dT _, h => by simp [cleanD] at h
  | _, .ins _ _, h => by simp [cleanD] at h
theorem cleanL_toP : ∀ {n : Nat} {ds : List D}, cleanL n ds = true → ∃ ps, toPs ds = some ps ∧ PyData.canLayAll0 ps = true ∧ PyData.depthAll ps ≤ n
  | n, [], _ => ⟨[], by simp [toPs], by simp [PyData.canLayAll0], by simp [PyData.depthAll]⟩
  | n, d :: ds, h => by
    have h2 : cleanD n d = true ∧ cleanL n ds = true := by simpa [cleanL] using h
    obtain ⟨p, a1, a2, a3⟩ := clean_toP h2.1
    obtain ⟨ps, b1, b2, b3⟩ := cleanL_toP h2.2
    exact ⟨p :: ps, by simp [toPs, a1, b1], by simp [PyData.canLayAll0, a2, b2], by simp only [PyData.depthAll]; omega⟩
end
mutual
theorem eqv_iff : ∀ {n m : Nat} {a b : D} {p q : PyData}, cleanD n a = true → cleanD m b = true → toP a = some p → toP b = some q → (PyData.eqv p q = true ↔ a = b)
  | n, m, a, b, p, q, ha, hb, ea, eb => by
    cases a with
    | non =>
      cases (by simpa [toP] using ea : PyData.none = p)
      cases b with
      | non => cases (by simpa [toP] using eb : PyData.none = q); simp [PyData.eqv]
      | int j => cases (by simpa [toP] using eb : PyData.int j = q); simp [PyData.eqv]
      | str j => cases (by simpa [toP] using eb : PyData.str j = q); simp [PyData.eqv]
      | lst ys =>
        obtain ⟨qs, e2, rfl⟩ : ∃ ps, toPs ys = some ps ∧ PyData.list ps = q := by simpa [toP] using eb
        simp [PyData.eqv]
      | tup ys =>
        obtain ⟨qs, e2, rfl⟩ : ∃ ps, toPs ys = some ps ∧ PyData.tuple ps = q := by simpa [toP] using eb
        simp [PyData.eqv]
      | _ => simp [cleanD] at hb
    | int i =>
      cases (by simpa [toP] using ea : PyData.int i = p)
      cases b with
      | non => cases (by simpa [toP] using eb : PyData.none = q); simp [PyData.eqv]
      | int j => cases (by simpa [toP] using eb : PyData.int j = q); simp [PyData.eqv]
      | str j => cases (by simpa [toP] using eb : PyData.str j = q); simp [PyData.eqv]
      | lst ys =>
        obtain ⟨qs, e2, rfl⟩ : ∃ ps, toPs ys = some ps ∧ PyData.list ps = q := by simpa [toP] using eb
        simp [PyData.eqv]
      | tup ys =>
        obtain ⟨qs, e2, rfl⟩ : ∃ ps, toPs ys = some ps ∧ PyData.tuple ps = q := by simpa [toP] using eb
        simp [PyData.eqv]
      | _ => simp [cleanD] at hb
    | str i =>
      cases (by simpa [toP] using ea : PyData.str i = p)
      cases b with
      | non => cases (by simpa [toP] using eb : PyData.none = q); simp [PyData.eqv]
      | int j => cases (by simpa [toP] using eb : PyData.int j = q); simp [PyData.eqv]
      | str j => cases (by simpa [toP] using eb : PyData.str j = q); simp [PyData.eqv]
      | lst ys =>
        obtain ⟨qs, e2, rfl⟩ : ∃ ps, toPs ys = some ps ∧ PyData.list ps = q := by simpa [toP] using eb
        simp [PyData.eqv]
      | tup ys =>
        obtain ⟨qs, e2, rfl⟩ : ∃ ps, toPs ys = some ps ∧ PyData.tuple ps = q := by simpa [toP] using eb
        simp [PyData.eqv]
      | _ => simp [cleanD] at hb
    | lst xs =>
      cases n with
      | zero => simp [cleanD] at ha
      | succ n =>
        have ha2 : cleanL n xs = true := by simpa [cleanD] using ha
        obtain ⟨ps, e1, rfl⟩ : ∃ ps, toPs xs = some ps ∧ PyData.list ps = p := by simpa [toP] using ea
        cases b with
        | lst ys =>
          cases m with
          | zero => simp [cleanD] at hb
          | succ m =>
            have hb2 : cleanL m ys = true := by simpa [cleanD] using hb
            obtain ⟨qs, e2, rfl⟩ : ∃ ps, toPs ys = some ps ∧ PyData.list ps = q := by simpa [toP] using eb
            have := eqvL_iff ha2 hb2 e1 e2
            simp only [PyData.eqv]
            rw [this]
            simp
        | tup ys =>
          obtain ⟨qs, e2, rfl⟩ : ∃ ps, toPs ys = some ps ∧ PyData.tuple ps = q := by simpa [toP] using eb
          simp [PyData.eqv]
        | non => cases (by simpa [toP] using eb : PyData.none = q); simp [PyData.eqv]
        | int i => cases (by simpa [toP] using eb : PyData.int i = q); simp [PyData.eqv]
        | str i => cases (by simpa [toP] using eb : PyData.str i = q); simp [PyData.eqv]
        | _ => simp [cleanD] at hb
    | tup xs =>
      cases n with
      | zero => simp [cleanD] at ha
      | succ n =>
        have ha2 : cleanL n xs = true := by simpa [cleanD] using ha
        obtain ⟨ps, e1, rfl⟩ : ∃ ps, toPs xs = some ps ∧ PyData.tuple ps = p := by simpa [toP] using ea
        cases b with
        | tup ys =>
          cases m with
          | zero => simp [cleanD] at hb
          | succ m =>
            have hb2 : cleanL m ys = true := by simpa [cleanD] using hb
            obtain ⟨qs, e2, rfl⟩ : ∃ ps, toPs ys = some ps ∧ PyData.tuple ps = q := by simpa [toP] using eb
            have := eqvL_iff ha2 hb2 e1 e2
            simp only [PyData.eqv]
            rw [this]
            simp
        | lst ys =>
          obtain ⟨qs, e2, rfl⟩ : ∃ ps, toPs ys = some ps ∧ PyData.list ps = q := by simpa [toP] using eb
          simp [PyData.eqv]
        | non => cases (by simpa [toP] using eb : PyData.none = q); simp [PyData.eqv]
        | int i => cases (by simpa [toP] using eb : PyData.int i = q); simp [PyData.eqv]
        | str i => cases (by simpa [toP] using eb : PyData.str i = q); simp [PyData.eqv]
        | _ => simp [cleanD] at hb
    | _ => simp [cleanD] at ha
theorem eqvL_iff : ∀ {n m : Nat} {as bs : List D} {ps qs : List PyData}, cleanL n as = true → cleanL m bs = true → toPs as = some ps → toPs bs = some qs → (PyData.eqvAll ps qs = true ↔ as = bs)
  | n, m, [], [], ps, qs, _, _, e1, e2 => by
    cases (by simpa [toPs] using e1 : ps = [])
    cases (by simpa [toPs] using e2 : qs = [])
    simp [PyData.eqvAll]
  | n, m, [], b :: bs, ps, qs, _, hb, e1, e2 => by
    cases (by simpa [toPs] using e1 : ps = [])
    have hb2 : cleanD m b = true ∧ cleanL m bs = true := by simpa [cleanL] using hb
    obtain ⟨q, a1, _⟩ := clean_toP hb2.1
    obtain ⟨qs', b1, _⟩ := cleanL_toP hb2.2
    cases (by simpa [toPs, a1, b1] using e2 : q :: qs' = qs)
    simp [PyData.eqvAll]
  | n, m, a :: as, [], ps, qs, ha, _, e1, e2 => by
    cases (by simpa [toPs] using e2 : qs = [])
    have ha2 : cleanD n a = true ∧ cleanL n as = true := by simpa [cleanL] using ha
    obtain ⟨q, a1, _⟩ := clean_toP ha2.1
    obtain ⟨qs', b1, _⟩ := cleanL_toP ha2.2
    cases (by simpa [toPs, a1, b1] using e1 : q :: qs' = ps)
    simp [PyData.eqvAll]
  | n, m, a :: as, b :: bs, ps, qs, ha, hb, e1, e2 => by
    have ha2 : cleanD n a = true ∧ cleanL n as = true := by simpa [cleanL] using ha
    have hb2 : cleanD m b = true ∧ cleanL m bs = true := by simpa [cleanL] using hb
    obtain ⟨p, a1, _⟩ := clean_toP ha2.1
    obtain ⟨ps', c1, _⟩ := cleanL_toP ha2.2
    obtain ⟨q, d1, _⟩ := clean_toP hb2.1
    obtain ⟨qs', f1, _⟩ := cleanL_toP hb2.2
    cases (by simpa [toPs, a1, c1] using e1 : p :: ps' = ps)
    cases (by simpa [toPs, d1, f1] using e2 : q :: qs' = qs)
    have h1 := eqv_iff ha2.1 hb2.1 a1 d1
    have h2 := eqvL_iff ha2.2 hb2.2 c1 f1
    simp only [PyData.eqvAll, Bool.and_eq_true, h1, h2, List.cons.injEq]
end
theorem gEqP_clean {n m : Nat} {a b : D} (hn : n ≤ 64) (hm : m ≤ 64) (ha : cleanD n a = true) (hb : cleanD m b = true) : (a = b → gEqP a b = .ok (.bl true)) ∧ (a ≠ b → gEqP a b = .ok (.bl false)) := by
  obtain ⟨p, a1, a2, a3⟩ := clean_toP ha
  obtain ⟨q, b1, b2, b3⟩ := clean_toP hb
  have i := eqv_iff ha hb a1 b1
  have s1 : SeqAt.shaped p = true := by unfold SeqAt.shaped; rw [a2, decide_eq_true (by omega : p.depth ≤ 64)]; rfl
  have s2 : SeqAt.shaped q = true := by unfold SeqAt.shaped; rw [b2, decide_eq_true (by omega : q.depth ≤ 64)]; rfl
  have e : gEqP a b = .ok (.bl (PyData.eqv p q)) := by
    unfold gEqP
    rw [a1, b1]
    show (if (SeqAt.shaped p && SeqAt.shaped q) = true then _ else _) = _
    rw [s1, s2]
    rfl
  refine ⟨fun h => ?_, fun h => ?_⟩
  · rw [e, i.mpr h]
  · rw [e]
    cases z : PyData.eqv p q with
    | true => exact absurd (i.mp z) h
    | false => rfl
theorem gEq_clean {n m : Nat} {a b : D} (hn : n ≤ 64) (hm : m ≤ 64) (ha : cleanD n a = true) (hb : cleanD m b = true) : (a = b → gEq a b = .ok (.bl true)) ∧ (a ≠ b → gEq a b = .ok (.bl false)) := by
  unfold gEq
  split
  · refine ⟨fun h => ?_, fun h => ?_⟩
    · cases h; simp
    · rw [decide_eq_false]; intro z; exact h (by rw [z])
  · refine ⟨fun h => ?_, fun h => ?_⟩
    · cases h; simp
    · rw [decide_eq_false]; intro z; exact h (by rw [z])
  · refine ⟨fun h => ?_, fun h => ?_⟩
    · cases h; simp
    · rw [decide_eq_false]; intro z; exact h (by rw [z])
  · exact gEqP_clean hn hm ha hb
theorem S_ok {w : List Nat} (h : ∀ c ∈ w, c < 1114112) : PyData.strOk (S w) = true := by
  unfold PyData.strOk
  simpa using h
end Tk

namespace Tk
open PySem PySem.Spec L2 PyProof.Rows
/-! ### a list or a tuple -/
def sqD (b : Bool) (xs : List D) : D := match b with
  | true => .tup xs
  | false => .lst xs
section
variable {b : Bool} {xs : List D} {j : Int}
@[simp] theorem gIt_sq : gIt (sqD b xs) = .ok xs := by cases b <;> rfl
@[simp] theorem gLen_sq : gLen [sqD b xs] = .ok (.int xs.length) := by cases b <;> rfl
@[simp] theorem seqD_sq : seqD (sqD b xs) = some (b, xs) := by cases b <;> rfl
theorem gIx_sq {α : Type} {inj : α → D} {l : List α} {a : α} (h : 0 ≤ j) (e : l[j.toNat]? = some a) : gIx (sqD b (l.map inj)) (.int j) = .ok (inj a) := by
  cases b
  · exact gIx_map h e
  · exact gIx_mapT h e
theorem cut_hi {α : Type} {l : List α} (h : 0 ≤ j) : cutD l none (some j) = l.take j.toNat := by
  have e : HT.sIx l.length l.length (some j) = min j.toNat l.length := by
    show (if j < 0 then (j + (l.length : Int)).toNat else min j.toNat l.length) = _
    rw [if_neg (by omega)]
  unfold cutD
  rw [e, HT.sIx_none, List.drop_zero, Nat.sub_zero, ← List.take_eq_take_min]
theorem gSl_sq (h : 0 ≤ j) : gSl (sqD b xs) none (some j) = .ok (sqD b (xs.take j.toNat)) := by
  cases b
  · show R.ok (D.lst (cutD xs none (some j))) = _
    rw [cut_hi h] <;> rfl
  · show R.ok (D.tup (cutD xs none (some j))) = _
    rw [cut_hi h] <;> rfl
theorem gSl_lst (h : 0 ≤ j) : gSl (.lst xs) none (some j) = .ok (.lst (xs.take j.toNat)) := gSl_sq (b := false) h
end
/-! ### more loops -/
theorem enum_get {xs : List D} : ∀ {k i : Nat}, (enumD k xs)[i]? = xs[i]?.map fun d => .tup [.int ((k + i : Nat) : Int), d] := by
  induction xs with
  | nil => intro k i; rfl
  | cons d r ih =>
    intro k i
    cases i with
    | zero => rfl
    | succ i =>
      show (enumD (k + 1) r)[i]? = _
      rw [ih, List.getElem?_cons_succ, show k + 1 + i = k + (i + 1) by omega]
theorem enum_len {xs : List D} : ∀ {k : Nat}, (enumD k xs).length = xs.length := by
  induction xs with
  | nil => intro k; rfl
  | cons d r ih => intro k; show (enumD (k + 1) r).length + 1 = _; rw [ih]; rfl
theorem enum_map {α : Type} {inj : α → D} {l : List α} : enumD 0 (l.map inj) = l.zipIdx.map fun p => .tup [.int (p.2 : Int), inj p.1] := by
  apply List.ext_getElem?
  intro i
  rw [enum_get, List.getElem?_map, List.getElem?_map, List.getElem?_zipIdx, Option.map_map, Option.map_map]
  cases l[i]? with
  | none => rfl
  | some a => simp
theorem loop_en {α : Type} {inj : α → D} {h : Tg} {body : Ev → SO} (I : Nat → Ev → Prop) {l : List α} {ρ : Ev} (h0 : I 0 ρ) (hs : ∀ i a ρ, l[i]? = some a → I i ρ → ∃ ρ1, h (.tup [.int (i : Int), inj a]) ρ = some ρ1 ∧ SO.goes (body ρ1) (I (i + 1))) : ∃ ρ', loop h body (enumD 0 (l.map inj)) ρ = .nx ρ' ∧ I l.length ρ' := by
  obtain ⟨ρ', e1, e2⟩ := loop_inv I (ds := enumD 0 (l.map inj)) (ρ := ρ) 0 h0 fun i d ρ q hI => by
    rw [enum_get, List.getElem?_map] at q
    obtain ⟨d', q1, rfl⟩ := Option.map_eq_some_iff.mp q
    obtain ⟨a, q2, rfl⟩ := Option.map_eq_some_iff.mp q1
    rw [Nat.zero_add] at hI ⊢
    exact hs i a ρ q2 hI
  rw [enum_len, List.length_map, Nat.zero_add] at e2
  exact ⟨ρ', e1, e2⟩
theorem lc_all {α : Type} {inj : α → D} {h : Tg} {t : Ev → R Bool} {fe : Ev → R D} {ρ : Ev} (f : α → D) {l : List α} (H : ∀ a ∈ l, ∃ ρ1, h (inj a) ρ = some ρ1 ∧ t ρ1 = .ok true ∧ fe ρ1 = .ok (f a)) : lcL h t fe ρ (l.map inj) = .ok (l.map f) := by
  rw [lc_map (fun _ => true) f fun a m => by
    obtain ⟨ρ1, e1, e2, e3⟩ := H a m
    exact ⟨ρ1, e1, e2, fun _ => e3⟩, List.filter_eq_self.mpr fun _ _ => rfl]
theorem ints_map : ∀ ns : List Int, intsOf (ns.map .int) = some ns
  | [] => rfl
  | n :: ns => by
    show (intsOf (ns.map .int)).map (n :: ·) = _
    rw [ints_map ns]
    rfl
theorem bols_map : ∀ ns : List Bool, bolsOf (ns.map .bl) = some ns
  | [] => rfl
  | n :: ns => by
    show (bolsOf (ns.map .bl)).map (n :: ·) = _
    rw [bols_map ns]
    rfl
@[simp] theorem gAll_map {ns : List Bool} : gAll [.lst (ns.map .bl)] = .ok (.bl (ns.all id)) := by
  show (optR (bolsOf (ns.map .bl))).bind _ = _
  rw [bols_map]
  rfl
@[simp] theorem gSum_map {ns : List Int} : gSum [.lst (ns.map .int)] = .ok (.int ns.sum) := by
  show (optR (intsOf (ns.map .int))).bind _ = _
  rw [ints_map]
  rfl
theorem in_strs {w : List Nat} {ws : List (List Nat)} : gInS false (.str (S w)) (.lst (ws.map fun w => .str (S w))) = .ok (.bl (decide (w ∈ ws))) := by
  show (if flatD (.str (S w)) = true ∧ (ws.map fun w => D.str (S w)).all flatD = true then R.ok (D.bl (if false = true then !inV (toV (.str (S w))) ((ws.map fun w => D.str (S w)).map toV) else inV (toV (.str (S w))) ((ws.map fun w => D.str (S w)).map toV))) else gInP false (.str (S w)) (ws.map fun w => D.str (S w))) = _
  rw [if_pos ⟨rfl, by rw [List.all_map]; exact List.all_eq_true.mpr fun _ _ => rfl⟩, if_neg Bool.false_ne_true]
  congr 2
  unfold inV
  rw [List.map_map, List.any_map, Bool.eq_iff_iff, List.any_eq_true, decide_eq_true_eq]
  constructor
  · rintro ⟨u, m, e⟩
    have e2 : (S u == S w) = true := e
    rw [← S_inj (eq_of_beq e2)]
    exact m
  · intro m
    exact ⟨w, m, by show (S w == S w) = true; exact beq_self_eq_true _⟩
/-! ### names of small letters -/
theorem occ_abc : ∀ c : Nat, c < 26 → (!(Builtin.Str.occurrences (S abc) (S [c + 97]) 0 (S abc).length 1).isEmpty) = true := by decide +kernel
theorem in_abc {c : Nat} (h : 97 ≤ c ∧ c ≤ 122) : gInS false (.str (S [c])) (.str (S abc)) = .ok (.bl true) := by
  show R.ok (D.bl (!(Builtin.Str.occurrences (S abc) (S [c]) 0 (S abc).length 1).isEmpty)) = _
  have := occ_abc (c - 97) (by omega)
  rw [show c - 97 + 97 = c by omega] at this
  rw [this]
theorem is_name_ok {w : List Nat} (h : okName w) : F_is_name [.str (S w)] = .ok (.bl true) := by
  obtain ⟨h1, h2, h3⟩ := h
  have l : gLen [.str (S w)] = .ok (.int (w.length : Int)) := by rw [gLen_str (by rw [S_len, sz24]; omega), S_len]
  have c1 : decide ((1 : Int) ≤ (w.length : Int)) = true := decide_eq_true (by omega)
  have c2 : decide ((w.length : Int) ≤ 8) = true := decide_eq_true (by omega)
  have e := lc_all (inj := fun c => D.str (S [c])) (h := gN 1) (t := tsY) (fe := e2 (gInS false) (eV 1) (eC (.str (S abc)))) (ρ := [.v (.str (S w)), .no]) (fun _ => D.bl true) (l := w) fun c m =>
    ⟨[.v (.str (S w)), .v (.str (S [c]))], rfl, rfl, by simp only [e2_ap, eV_succ, eV_zero, eC_ap, bind_ok, in_abc (h3 c m)]⟩
  have sg : signs (S w) = w.map fun c => D.str (S [c]) := rfl
  have sz : (w.map fun c => D.str (S [c])).length ≤ sizeLine := by rw [List.length_map, sz24]; omega
  have all : w.map (fun _ => D.bl true) = (w.map fun _ => true).map D.bl := by rw [List.map_map]; rfl
  have all2 : (w.map fun _ => true).all id = true := by simp
  unfold F_is_name G_is_name
  simp only [abc_eq, runF_ap, show startE 2 [.str (S w)] = [.v (.str (S w)), .no] from rfl, sSq_ap, sIf_ap, tNot_ap, tV_ap, eChain_ap, eC_ap, eA_ap, aC_ap, aN_ap, eV_zero, bind_ok, l, gLe_int, Bof_bl, c1, c2, if_true, Bool.not_true, from_ok, if_false, Bool.false_eq_true, sN_ap, sq_nx, sRet_ap, eLc_ap, iSq_ap, gIt_str, sg, sz, wipeE_cons, wipeE_nil, List.set_cons_succ, List.set_cons_zero, e, all, gAll_map, all2, out_rt]
/-! ### bidders -/
abbrev Bd := List Nat × Int × Int
def dB (b : Bd) : D := .tup [.str (S b.1), .int b.2.1, .int b.2.2]
def load (b : Bd) : Int := b.2.1 * b.2.2
def okBd (b : Bd) : Prop := okName b.1 ∧ 1 ≤ b.2.1 ∧ b.2.1 ≤ 1000 ∧ 0 ≤ b.2.2 ∧ b.2.2 ≤ 1000000000
structure okCrew (bs : List Bd) : Prop where
  len : bs.length ≤ 6
  each : ∀ b ∈ bs, okBd b
  nd : (bs.map (·.1)).Nodup
theorem okCrew.rev {bs : List Bd} (h : okCrew bs) : okCrew bs.reverse := ⟨by rw [List.length_reverse]; exact h.len, fun b m => h.each b (List.mem_reverse.mp m), by rw [List.map_reverse]; exact List.pairwise_reverse.mpr (h.nd.imp Ne.symm)⟩
theorem mul_load {w b : Int} (h0 : 0 ≤ b) (h1 : b ≤ 1000000000) : gMul (.int w) (.int b) = .ok (.int (w * b)) := gMul_r (by omega) (by omega)
theorem names_of_ok {b : Bool} {bs : List Bd} (hl : bs.length ≤ 1000) : F_names_of [sqD b (bs.map dB)] = .ok (.lst ((bs.map (·.1)).map fun w => .str (S w))) := by
  have e := lc_all (inj := dB) (h := gT 3 (gsC (gN 1) (gsC (gN 2) (gsC (gN 3) (gsN))))) (t := tsY) (fe := eV 1) (ρ := [.v (sqD b (bs.map dB)), .no, .no, .no]) (fun x => .str (S x.1)) (l := bs) fun x m =>
    ⟨[.v (sqD b (bs.map dB)), .v (.str (S x.1)), .v (.int x.2.1), .v (.int x.2.2)], rfl, rfl, rfl⟩
  have sz : (bs.map dB).length ≤ sizeLine := by rw [List.length_map, sz24]; omega
  unfold F_names_of G_names_of
  simp only [runF_ap, show startE 4 [sqD b (bs.map dB)] = [.v (sqD b (bs.map dB)), .no, .no, .no] from rfl, sRet_ap, eLc_ap, iSq_ap, eV_zero, bind_ok, gIt_sq, sz, if_true, wipeE_cons, wipeE_nil, List.set_cons_succ, List.set_cons_zero, e, from_ok, out_rt, List.map_map]
  rfl
theorem strengths_ok {b : Bool} {bs : List Bd} (h : okCrew bs) : F_strengths_of [sqD b (bs.map dB)] = .ok (.lst ((bs.map load).map .int)) := by
  have e := lc_all (inj := dB) (h := gT 3 (gsC (gN 1) (gsC (gN 2) (gsC (gN 3) (gsN))))) (t := tsY) (fe := e2 gMul (eV 2) (eV 3)) (ρ := [.v (sqD b (bs.map dB)), .no, .no, .no]) (fun x => .int (load x)) (l := bs) fun x m =>
    ⟨[.v (sqD b (bs.map dB)), .v (.str (S x.1)), .v (.int x.2.1), .v (.int x.2.2)], rfl, rfl, by
      obtain ⟨_, _, _, h0, h1⟩ := h.each x m
      simp only [e2_ap, eV_succ, eV_zero, bind_ok, mul_load h0 h1]
      rfl⟩
  have sz : (bs.map dB).length ≤ sizeLine := by rw [List.length_map, sz24]; have := h.len; omega
  unfold F_strengths_of G_strengths_of
  simp only [runF_ap, show startE 4 [sqD b (bs.map dB)] = [.v (sqD b (bs.map dB)), .no, .no, .no] from rfl, sRet_ap, eLc_ap, iSq_ap, eV_zero, bind_ok, gIt_sq, sz, if_true, wipeE_cons, wipeE_nil, List.set_cons_succ, List.set_cons_zero, e, from_ok, out_rt, List.map_map]
  rfl
theorem take_map {α β : Type} (f : α → β) (l : List α) (n : Nat) : (l.map f).take n = (l.take n).map f := List.map_take.symm
theorem check_loop {b : Bool} {bs : List Bd} (h : okCrew bs) : ∃ ρ, loop (gT 2 (gsC (gN 1) (gsC (gT 3 (gsC (gN 2) (gsC (gN 3) (gsC (gN 4) (gsN))))) (gsN)))) B_check_bidders_1 (enumD 0 (bs.map dB)) [.v (sqD b (bs.map dB)), .no, .no, .no, .no] = .nx ρ := by
  obtain ⟨ρ', e, _⟩ := loop_en (inj := dB) (h := gT 2 (gsC (gN 1) (gsC (gT 3 (gsC (gN 2) (gsC (gN 3) (gsC (gN 4) (gsN))))) (gsN)))) (body := B_check_bidders_1) (l := bs) (ρ := [.v (sqD b (bs.map dB)), .no, .no, .no, .no])
    (fun _ ρ => ∃ s1 s2 s3 s4 : Sl, ρ = [.v (sqD b (bs.map dB)), s1, s2, s3, s4]) ⟨_, _, _, _, rfl⟩ (by
      rintro i x ρ q ⟨s1, s2, s3, s4, rfl⟩
      obtain ⟨hn, w0, w1, b0, b1⟩ := h.each x (List.mem_of_getElem? q)
      refine ⟨[.v (sqD b (bs.map dB)), .v (.int (i : Int)), .v (.str (S x.1)), .v (.int x.2.1), .v (.int x.2.2)], rfl, ?_⟩
      have n1 := is_name_ok hn
      have sl := gSl_sq (b := b) (xs := bs.map dB) (j := (i : Int)) (by omega)
      rw [Int.toNat_natCast, take_map] at sl
      have n2 := names_of_ok (b := b) (bs := bs.take i) (by rw [List.length_take]; have := h.len; omega)
      have n3 := in_strs (w := x.1) (ws := (bs.take i).map (·.1))
      have nin : decide (x.1 ∈ (bs.take i).map (·.1)) = false := decide_eq_false fun m => by
        obtain ⟨y, m1, m2⟩ := List.mem_map.mp m
        obtain ⟨j, hj⟩ := List.mem_iff_getElem?.mp m1
        rw [List.getElem?_take] at hj
        split at hj
        · rename_i ji
          obtain ⟨l1, g1⟩ := List.getElem?_eq_some_iff.mp hj
          obtain ⟨l2, g2⟩ := List.getElem?_eq_some_iff.mp q
          refine List.pairwise_iff_getElem.mp h.nd j i (by rw [List.length_map]; exact l1) (by rw [List.length_map]; exact l2) ji ?_
          rw [List.getElem_map, List.getElem_map, g1, g2, m2]
        · cases hj
      have d1 : decide ((1 : Int) ≤ x.2.1) = true := decide_eq_true w0
      have d2 : decide (x.2.1 ≤ (1000 : Int)) = true := decide_eq_true w1
      have d3 : decide ((0 : Int) ≤ x.2.2) = true := decide_eq_true b0
      have d4 : decide (x.2.2 ≤ (1000000000 : Int)) = true := decide_eq_true b1
      unfold B_check_bidders_1
      simp only [sSq_ap, sIf_ap, tNot_ap, tV_ap, eChain_ap, eC_ap, eCall_ap, aC_ap, aN_ap, eV_zero, eV_succ, bind_ok, List.length_cons, List.length_nil, Nat.zero_add, if_true, n1, Bof_bl, Bool.not_true, Bool.false_eq_true, if_false, from_ok, sN_ap, sq_nx, e2_ap, eSl_ap, oN_ap, oS_ap, sl, n2, n3, nin, gLe_int, d1, d2, d3, d4, goes_nx]
      exact ⟨_, _, _, _, rfl⟩)
  exact ⟨ρ', e⟩
theorem check_ok {b : Bool} {bs : List Bd} (h : okCrew bs) : F_check_bidders [sqD b (bs.map dB)] = .ok .non := by
  obtain ⟨ρ, e⟩ := check_loop (b := b) h
  have d : decide ((6 : Int) < ((bs.map dB).length : Int)) = false := decide_eq_false (by rw [List.length_map]; have := h.len; omega)
  unfold F_check_bidders G_check_bidders
  simp only [runF_ap, show startE 5 [sqD b (bs.map dB)] = [.v (sqD b (bs.map dB)), .no, .no, .no, .no] from rfl, sSq_ap, sIf_ap, tV_ap, e2_ap, eA_ap, aC_ap, aN_ap, eC_ap, eV_zero, bind_ok, gLen_sq, gGt_int, d, Bof_bl, from_ok, Bool.false_eq_true, if_false, sN_ap, sq_nx, sFor_ap, iEn2_ap, seqD_sq, optR_some, e, out_nx]
end Tk

namespace Tk
open PySem PySem.Spec L2 PyProof.Rows
/-! ### ranks by counting, ranks by sorting -/
def lg (L : List Int) (k : Nat) : Int := L.getD k 0
/-- j stands ahead of k -/
def bef (L : List Int) (j k : Nat) : Prop := lg L k < lg L j ∨ (lg L j = lg L k ∧ j < k)
instance (L : List Int) (j k : Nat) : Decidable (bef L j k) := by unfold bef; infer_instance
def cnt (L : List Int) (k : Nat) : Nat := ((List.range L.length).filter fun j => decide (bef L j k)).length
def rkP (L : List Int) : List (Int × Int) := srtP (L.zipIdx.map fun p => (-p.1, (p.2 : Int)))
def rkN (L : List Int) : List Nat := (rkP L).map fun p => p.2.toNat
theorem srtP_perm (ps : List (Int × Int)) : (srtP ps).Perm ps := List.mergeSort_perm _ _
theorem srtP_sorted (ps : List (Int × Int)) : (srtP ps).Pairwise fun p q => p.1 < q.1 ∨ (p.1 = q.1 ∧ p.2 ≤ q.2) := by
  have h : (srtP ps).Pairwise fun x y => leP x y = true := List.pairwise_mergeSort (fun a b c h1 h2 => by
    unfold leP at *
    rw [Bool.not_eq_true'] at *
    have a := SrtO.lexB_no.mp h1
    have b := SrtO.lexB_no.mp h2
    exact SrtO.lexB_no.mpr (by omega)) (fun a b => by rcases lex_tot a b with h | h <;> simp [h]) ps
  refine h.imp fun {p q} z => ?_
  unfold leP at z
  rw [Bool.not_eq_true'] at z
  have := SrtO.lexB_no.mp z
  omega
theorem rkP_mem {L : List Int} {p : Int × Int} (h : p ∈ rkP L) : ∃ k : Nat, k < L.length ∧ p = (-lg L k, (k : Int)) := by
  have h2 := (srtP_perm _).mem_iff.mp h
  obtain ⟨q, m, rfl⟩ := List.mem_map.mp h2
  obtain ⟨a, k⟩ := q
  have m2 := List.mem_zipIdx_iff_getElem?.mp m
  have hk : k < L.length := (List.getElem?_eq_some_iff.mp m2).1
  refine ⟨k, hk, ?_⟩
  have : lg L k = a := by
    unfold lg
    rw [List.getD_eq_getElem?_getD]
    have m3 : L[k]? = some a := m2
    rw [m3]
    rfl
  rw [this]
theorem rkP_eq (L : List Int) : rkP L = (rkN L).map fun k => (-lg L k, (k : Int)) := by
  unfold rkN
  rw [List.map_map]
  refine (List.map_id _).symm.trans (List.map_congr_left fun p m => ?_)
  obtain ⟨k, _, rfl⟩ := rkP_mem m
  simp
theorem rkN_perm (L : List Int) : (rkN L).Perm (List.range L.length) := by
  have h := (srtP_perm (L.zipIdx.map fun p => (-p.1, (p.2 : Int)))).map fun p : Int × Int => p.2.toNat
  rw [List.map_map] at h
  have e : (L.zipIdx.map ((fun p : Int × Int => p.2.toNat) ∘ fun p => (-p.1, (p.2 : Int)))) = List.range L.length := by
    have e1 : ((fun p : Int × Int => p.2.toNat) ∘ fun p : Int × Nat => (-p.1, (p.2 : Int))) = Prod.snd := by
      funext p
      simp
    rw [e1, List.zipIdx_map_snd, List.range_eq_range']
  rw [e] at h
  exact h
theorem rkN_nodup (L : List Int) : (rkN L).Nodup := (rkN_perm L).nodup_iff.mpr List.nodup_range
theorem rkN_sorted (L : List Int) : (rkN L).Pairwise (bef L) := by
  have h1 := srtP_sorted (L.zipIdx.map fun p => (-p.1, (p.2 : Int)))
  have h2 : (rkP L).Pairwise fun p q => p.1 < q.1 ∨ (p.1 = q.1 ∧ p.2 ≤ q.2) := h1
  rw [rkP_eq, List.pairwise_map] at h2
  refine (h2.and (rkN_nodup L)).imp fun {j k} z => ?_
  obtain ⟨z, ne⟩ := z
  unfold bef
  have z2 : -lg L j < -lg L k ∨ (-lg L j = -lg L k ∧ (j : Int) ≤ (k : Int)) := z
  omega
theorem bef_irr {L : List Int} {j : Nat} : ¬ bef L j j := by unfold bef; omega
theorem bef_asym {L : List Int} {j k : Nat} (h : bef L j k) : ¬ bef L k j := by unfold bef at *; omega
theorem cnt_at {L : List Int} {i k : Nat} (h : (rkN L)[i]? = some k) : cnt L k = i := by
  obtain ⟨hi, hk⟩ := List.getElem?_eq_some_iff.mp h
  unfold cnt
  rw [← ((rkN_perm L).filter _).length_eq]
  have e : rkN L = (rkN L).take i ++ k :: (rkN L).drop (i + 1) := by
    rw [← hk, ← List.drop_eq_getElem_cons hi, List.take_append_drop]
  have s := rkN_sorted L
  rw [e, List.pairwise_append, List.pairwise_cons] at s
  obtain ⟨_, ⟨s2, _⟩, s3⟩ := s
  rw [e, List.filter_append, List.filter_cons_of_neg (by simp [bef_irr]), List.filter_eq_self.mpr fun a m => decide_eq_true (s3 a m k List.mem_cons_self), List.filter_eq_nil_iff.mpr fun a m => by simp [bef_asym (s2 a m)], List.append_nil, List.length_take]
  omega
theorem one_of {l : List Nat} {a : Nat} (nd : l.Nodup) (h : ∀ x, x ∈ l ↔ x = a) : l = [a] := by
  match l, nd with
  | [], _ => exact absurd ((h a).mpr rfl) (by simp)
  | [x], _ => rw [(h x).mp (by simp)]
  | x :: y :: r, nd =>
    have hx := (h x).mp (by simp)
    have hy := (h y).mp (by simp)
    rw [List.nodup_cons] at nd
    exact absurd (by rw [hx, hy]; simp) nd.1
theorem cnt_filter (L : List Int) (r : Nat) (P : Nat → Bool) : (List.range L.length).filter (fun k => decide (cnt L k = r) && P k) = (rkN L)[r]?.toList.filter P := by
  have e : (List.range L.length).filter (fun k => decide (cnt L k = r)) = (rkN L)[r]?.toList := by
    cases z : (rkN L)[r]? with
    | none =>
      refine List.filter_eq_nil_iff.mpr fun k m => ?_
      obtain ⟨i, hi⟩ := List.mem_iff_getElem?.mp ((rkN_perm L).mem_iff.mpr m)
      have := cnt_at hi
      have : i ≠ r := fun q => by rw [q, z] at hi; cases hi
      simp
      omega
    | some a =>
      refine one_of (List.Pairwise.filter _ List.nodup_range) fun k => ?_
      rw [List.mem_filter, decide_eq_true_eq]
      constructor
      · rintro ⟨m, c⟩
        obtain ⟨i, hi⟩ := List.mem_iff_getElem?.mp ((rkN_perm L).mem_iff.mpr m)
        have := cnt_at hi
        rw [c] at this
        rw [← this, z] at hi
        exact (Option.some.inj hi).symm
      · rintro rfl
        exact ⟨(rkN_perm L).mem_iff.mp (List.mem_of_getElem? z), cnt_at z⟩
  rw [← e, List.filter_filter]
  congr 1
  funext k
  rw [Bool.and_comm]
theorem take_flat (l : List Nat) (P : Nat → Bool) : ∀ s : Nat, (List.range s).flatMap (fun r => l[r]?.toList.filter P) = (l.take s).filter P
  | 0 => by simp
  | s + 1 => by rw [List.range_succ, List.flatMap_append, take_flat l P s, List.take_succ, List.filter_append]; simp
theorem take_filter {l : List Nat} {P : Nat → Bool} (h : l.Pairwise fun a b => P b = true → P a = true) : ∀ s : Nat, (l.take s).filter P = (l.filter P).take s := by
  induction l with
  | nil => intro s; simp
  | cons a l ih =>
    intro s
    rw [List.pairwise_cons] at h
    cases s with
    | zero => simp
    | succ s =>
      rw [List.take_succ_cons]
      cases c : P a with
      | true => rw [List.filter_cons_of_pos c, List.filter_cons_of_pos c, List.take_succ_cons, ih h.2]
      | false =>
        have nb : ∀ b ∈ l, ¬ P b = true := fun b m z => by rw [h.1 b m z] at c; cases c
        rw [List.filter_cons_of_neg (by rw [c]; decide), List.filter_cons_of_neg (by rw [c]; decide), List.filter_eq_nil_iff.mpr nb, List.filter_eq_nil_iff.mpr fun b m => nb b (List.mem_of_mem_take m)]
        simp
/-- the places that the ladder takes -/
def lad (L : List Int) (s : Nat) (sill : Int) : List Nat := ((rkN L).filter fun k => decide (sill ≤ lg L k)).take s
theorem lad_by_rank (L : List Int) (s : Nat) (sill : Int) : (List.range s).flatMap (fun r => (List.range L.length).filter fun k => decide (cnt L k = r) && decide (sill ≤ lg L k)) = lad L s sill := by
  simp only [cnt_filter]
  rw [take_flat, take_filter]
  · rfl
  · refine (rkN_sorted L).imp fun {a b} h z => ?_
    have z2 := of_decide_eq_true z
    refine decide_eq_true ?_
    unfold bef at h
    omega
theorem lad_mem {L : List Int} {s : Nat} {sill : Int} {k : Nat} (h : k ∈ lad L s sill) : k < L.length := List.mem_range.mp ((rkN_perm L).mem_iff.mp (List.mem_filter.mp (List.mem_of_mem_take h)).1)
end Tk

namespace Tk
open PySem PySem.Spec L2 PyProof.Rows
abbrev dN (k : Nat) : D := .int (k : Int)
theorem pairs_map : ∀ ps : List (Int × Int), pairsOf (ps.map dP) = some ps
  | [] => rfl
  | p :: ps => by
    show (some (p.1, p.2)).bind (fun q => (pairsOf (ps.map dP)).map (q :: ·)) = _
    rw [pairs_map ps]
    rfl
theorem gSrt_pairs (ps : List (Int × Int)) : gSrt [.lst (ps.map dP)] = .ok (.lst ((srtP ps).map dP)) := by
  cases ps with
  | nil =>
    have e : srtP [] = [] := (srtP_perm []).eq_nil
    rw [e]
    show R.ok (D.lst ((srtI []).map .int)) = _
    rw [show srtI [] = [] from (List.mergeSort_perm [] _).eq_nil]
    rfl
  | cons p ps =>
    show (match intsOf ((p :: ps).map dP) with
      | some ns => R.ok (D.lst ((srtI ns).map .int))
      | none => match pairsOf ((p :: ps).map dP) with
        | some ps => R.ok (D.lst ((srtP ps).map dP))
        | none => .bad) = _
    rw [pairs_map]
    rfl
theorem ranking_ok {b : Bool} {bs : List Bd} (h : okCrew bs) : F_ranking [sqD b (bs.map dB)] = .ok (.lst ((rkN (bs.map load)).map dN)) := by
  have l6 := h.len
  have st := strengths_ok (b := b) h
  have e1 := lc_all (inj := fun p : Int × Nat => D.tup [.int (p.2 : Int), .int p.1]) (h := gT 2 (gsC (gN 1) (gsC (gN 2) (gsN)))) (t := tsY) (fe := eA gTup (aC (e1 gNeg (eV 2)) (aC (eV 1) (aN)))) (ρ := [.v (sqD b (bs.map dB)), .no, .no, .no]) (fun p => dP (-p.1, (p.2 : Int))) (l := (bs.map load).zipIdx) fun p m =>
    ⟨[.v (sqD b (bs.map dB)), .v (.int (p.2 : Int)), .v (.int p.1), .no], rfl, rfl, rfl⟩
  have sz1 : ((bs.map load).zipIdx.map fun p : Int × Nat => D.tup [.int (p.2 : Int), .int p.1]).length ≤ sizeLine := by rw [List.length_map, List.length_zipIdx, List.length_map, sz24]; omega
  have e2 := lc_all (inj := dP) (h := gT 2 (gsC (gN 3) (gsC (gN 1) (gsN)))) (t := tsY) (fe := eV 1) (ρ := [.v (sqD b (bs.map dB)), .no, .no, .no]) (fun p => .int p.2) (l := rkP (bs.map load)) fun p m =>
    ⟨[.v (sqD b (bs.map dB)), .v (.int p.2), .no, .v (.int p.1)], rfl, rfl, rfl⟩
  have sz2 : ((rkP (bs.map load)).map dP).length ≤ sizeLine := by
    have := (srtP_perm ((bs.map load).zipIdx.map fun p => (-p.1, (p.2 : Int)))).length_eq
    rw [List.length_map, show (rkP (bs.map load)).length = _ from this, List.length_map, List.length_zipIdx, List.length_map, sz24]
    omega
  have s1 : ((bs.map load).zipIdx.map fun p => dP (-p.1, (p.2 : Int))) = ((bs.map load).zipIdx.map fun p => (-p.1, (p.2 : Int))).map dP := by rw [List.map_map]; rfl
  have s2 := gSrt_pairs ((bs.map load).zipIdx.map fun p => (-p.1, (p.2 : Int)))
  have s3 : srtP ((bs.map load).zipIdx.map fun p => (-p.1, (p.2 : Int))) = rkP (bs.map load) := rfl
  unfold F_ranking G_ranking
  simp only [runF_ap, show startE 4 [sqD b (bs.map dB)] = [.v (sqD b (bs.map dB)), .no, .no, .no] from rfl, sRet_ap, eLc_ap, iSq_ap, eA_ap, aC_ap, aN_ap, iEn2_ap, eCall_ap, eV_zero, bind_ok, List.length_cons, List.length_nil, Nat.zero_add, if_true, st, seqD_lst, optR_some, enum_map, sz1, wipeE_cons, wipeE_nil, List.set_cons_succ, List.set_cons_zero, e1, s1, s2, s3, gIt_lst, sz2, e2, from_ok, out_rt]
  rw [rkP_eq, List.map_map]
  rfl
/-- what the ladder tells -/
def ladD (bs : List Bd) (s : Nat) (sill : Int) : D := .tup ((lad (bs.map load) s sill).map fun k => .str (S (bs.getD k ([], 0, 0)).1))
theorem lg_load {bs : List Bd} {k : Nat} (h : k < bs.length) : (bs.map load)[k]? = some (lg (bs.map load) k) := by
  unfold lg
  rw [List.getD_eq_getElem?_getD, List.getElem?_map, List.getElem?_eq_getElem h]
  rfl
theorem bs_get {bs : List Bd} {k : Nat} (h : k < bs.length) : bs[k]? = some (bs.getD k ([], 0, 0)) := by
  rw [List.getD_eq_getElem?_getD, List.getElem?_eq_getElem h]
  rfl
theorem ladder_ok {b : Bool} {bs : List Bd} (h : okCrew bs) {s sill : Int} (s1 : 1 ≤ s) (s3 : s ≤ 3) (f0 : 0 ≤ sill) (f1 : sill ≤ 1000000000000) : F_ladder [sqD b (bs.map dB), .int s, .int sill] = .ok (ladD bs s.toNat sill) := by
  have l6 := h.len
  have c1 := check_ok (b := b) h
  have c2 : F_check_hours [.int s] = .ok .non := by
    unfold F_check_hours G_check_hours
    simp [s1, s3]
  have c3 : F_check_floor [.int sill] = .ok .non := by
    unfold F_check_floor G_check_floor
    simp [f0, f1]
  have st := strengths_ok (b := b) h
  have rk := ranking_ok (b := b) h
  have mem : ∀ k ∈ rkN (bs.map load), k < bs.length := fun k m => by
    have := List.mem_range.mp ((rkN_perm _).mem_iff.mp m)
    rwa [List.length_map] at this
  have rl : (rkN (bs.map load)).length = bs.length := by rw [(rkN_perm _).length_eq, List.length_range, List.length_map]
  have e1 := lc_map (inj := dN) (h := gN 5) (t := tV (e2 gGe (e2 gIx (eV 3) (eV 5)) (eV 2))) (fe := eV 5) (ρ := [.v (sqD b (bs.map dB)), .v (.int s), .v (.int sill), .v (.lst ((bs.map load).map .int)), .no, .no]) (fun k => decide (sill ≤ lg (bs.map load) k)) (dN) (l := rkN (bs.map load)) fun k m =>
    ⟨[.v (sqD b (bs.map dB)), .v (.int s), .v (.int sill), .v (.lst ((bs.map load).map .int)), .no, .v (.int (k : Int))], rfl, by
      simp only [tV_ap, e2_ap, eV_succ, eV_zero, bind_ok, gIx_map (inj := D.int) (l := bs.map load) (j := (k : Int)) (by omega) (by rw [Int.toNat_natCast]; exact lg_load (mem k m)), gGe_int, Bof_bl], fun _ => rfl⟩
  have sz1 : ((rkN (bs.map load)).map dN).length ≤ sizeLine := by rw [List.length_map, rl, sz24]; omega
  have e2 := lc_all (inj := dN) (h := gN 5) (t := tsY) (fe := e2 gIx (e2 gIx (eV 0) (eV 5)) (eC (.int 0))) (ρ := [.v (sqD b (bs.map dB)), .v (.int s), .v (.int sill), .v (.lst ((bs.map load).map .int)), .v (.lst (((rkN (bs.map load)).filter fun k => decide (sill ≤ lg (bs.map load) k)).map dN)), .no]) (fun k => .str (S (bs.getD k ([], 0, 0)).1)) (l := lad (bs.map load) s.toNat sill) fun k m =>
    ⟨[.v (sqD b (bs.map dB)), .v (.int s), .v (.int sill), .v (.lst ((bs.map load).map .int)), .v (.lst (((rkN (bs.map load)).filter fun k => decide (sill ≤ lg (bs.map load) k)).map dN)), .v (.int (k : Int))], rfl, rfl, by
      have hk : k < bs.length := by have := lad_mem m; rwa [List.length_map] at this
      simp only [e2_ap, eC_ap, eV_succ, eV_zero, bind_ok, gIx_sq (b := b) (inj := dB) (l := bs) (j := (k : Int)) (by omega) (by rw [Int.toNat_natCast]; exact bs_get hk)]
      rfl⟩
  have sz2 : ((lad (bs.map load) s.toNat sill).map dN).length ≤ sizeLine := by
    unfold lad
    rw [List.length_map, List.length_take, sz24]
    omega
  have sl := gSl_lst (xs := ((rkN (bs.map load)).filter fun k => decide (sill ≤ lg (bs.map load) k)).map dN) (j := s) (by omega)
  rw [take_map, show ((rkN (bs.map load)).filter fun k => decide (sill ≤ lg (bs.map load) k)).take s.toNat = lad (bs.map load) s.toNat sill from rfl] at sl
  unfold F_ladder G_ladder
  simp only [runF_ap, show startE 6 [sqD b (bs.map dB), .int s, .int sill] = [.v (sqD b (bs.map dB)), .v (.int s), .v (.int sill), .no, .no, .no] from rfl, sSq_ap, sDrop_ap, sSet_ap, sRet_ap, eLc_ap, iSq_ap, eA_ap, aC_ap, aN_ap, eCall_ap, eSl_ap, oN_ap, oS_ap, eV_zero, eV_succ, bind_ok, List.length_cons, List.length_nil, Nat.zero_add, if_true, c1, c2, c3, from_ok, sq_nx, st, rk, List.set_cons_succ, List.set_cons_zero, gIt_lst, sz1, wipeE_cons, wipeE_nil, e1, sl, sz2, e2, gTuple_lst, out_rt]
  rfl
/-! ### the law's own ladder -/
def lsE (bs : List Bd) (s sill : Int) (acc : List D) (r : Sl) (a b : Sl) : Ev := [.v (.lst (bs.map dB)), .v (.int s), .v (.int sill), .v (.lst ((bs.map load).map .int)), .l acc, r, a, b, .no, .no, .no, .no]
def nmD (bs : List Bd) (k : Nat) : D := .str (S (bs.getD k ([], 0, 0)).1)
def pick (bs : List Bd) (sill : Int) (r k : Nat) : Bool := decide (cnt (bs.map load) k = r) && decide (sill ≤ lg (bs.map load) k)
theorem ls_ahead {bs : List Bd} {s sill : Int} {acc : List D} {r b : Sl} {k : Nat} (hk : k < bs.length) :
    lcL (gN 11) (tOr (tV (e2 gGt (e2 gIx (eV 3) (eV 11)) (e2 gIx (eV 3) (eV 6)))) (tAnd (tV (e2 gEq (e2 gIx (eV 3) (eV 11)) (e2 gIx (eV 3) (eV 6)))) (tV (e2 gLt (eV 11) (eV 6))))) (eV 11) (lsE bs s sill acc r (.v (dN k)) b) (rgD 0 bs.length) = .ok (((List.range bs.length).filter fun j => decide (bef (bs.map load) j k)).map dN) :=
  lc_rg (fun j => decide (bef (bs.map load) j k)) dN fun j hj => ⟨[.v (.lst (bs.map dB)), .v (.int s), .v (.int sill), .v (.lst ((bs.map load).map .int)), .l acc, r, .v (dN k), b, .no, .no, .no, .v (dN j)], rfl, by
    have gk : gIx (.lst ((bs.map load).map .int)) (.int (k : Int)) = .ok (.int (lg (bs.map load) k)) := gIx_map (inj := D.int) (by omega) (by rw [Int.toNat_natCast]; exact lg_load hk)
    have gj : gIx (.lst ((bs.map load).map .int)) (.int (j : Int)) = .ok (.int (lg (bs.map load) j)) := gIx_map (inj := D.int) (by omega) (by rw [Int.toNat_natCast]; exact lg_load hj)
    simp only [tOr_ap, tAnd_ap, tV_ap, e2_ap, eV_succ, eV_zero, bind_ok, gj, gk, gGt_int, gEq_int, gLt_int, Bof_bl]
    unfold bef
    by_cases c1 : lg (bs.map load) k < lg (bs.map load) j
    · simp [c1]
    · by_cases c2 : lg (bs.map load) j = lg (bs.map load) k
      · simp [c2]
      · simp [c1, c2], fun _ => rfl⟩
theorem ls_step {bs : List Bd} (l6 : bs.length ≤ 6) {s sill : Int} {acc : List D} (ha : acc.length ≤ 1000) {r k : Nat} {b : Sl} (hk : k < bs.length) :
    ∃ b', B__law_ladder_1 (lsE bs s sill acc (.v (dN r)) (.v (dN k)) b) = .nx (lsE bs s sill (acc ++ ([k].filter (pick bs sill r)).map (nmD bs)) (.v (dN r)) (.v (dN k)) b') := by
  have ah := ls_ahead (s := s) (sill := sill) (acc := acc) (r := .v (dN r)) (b := b) hk
  have gk : gIx (.lst ((bs.map load).map .int)) (.int (k : Int)) = .ok (.int (lg (bs.map load) k)) := gIx_map (inj := D.int) (by omega) (by rw [Int.toNat_natCast]; exact lg_load hk)
  have cl : (((List.range bs.length).filter fun j => decide (bef (bs.map load) j k)).map dN).length = cnt (bs.map load) k := by
    unfold cnt
    rw [List.length_map, List.length_map]
  have sm : small62 (bs.length : Int) := small_rg (by omega) (by omega)
  have ll : (bs.map dB).length = bs.length := List.length_map _
  have szr : (rgD 0 bs.length).length ≤ sizeLine := by rw [rgD_len, sz24]; omega
  have gb : gIx (.lst (bs.map dB)) (.int (k : Int)) = .ok (dB (bs.getD k ([], 0, 0))) := gIx_map (inj := dB) (by omega) (by rw [Int.toNat_natCast]; exact bs_get hk)
  have gn : gIx (dB (bs.getD k ([], 0, 0))) (.int 0) = .ok (nmD bs k) := rfl
  have sa : acc.length < sizeLine := by rw [sz24]; omega
  refine ⟨.v (.lst (((List.range bs.length).filter fun j => decide (bef (bs.map load) j k)).map dN)), ?_⟩
  unfold lsE at *
  unfold B__law_ladder_1
  simp only [sSq_ap, sSet_ap, sIf_ap, sApp_ap, sN_ap, tAnd_ap, tV_ap, e2_ap, eA_ap, aC_ap, aN_ap, eC_ap, eLc_ap, iR1_ap, eV_succ, eV_zero, bind_ok, gLen_lst, ll, sm, Int.toNat_natCast, szr, if_true, wipeE_cons, wipeE_nil, List.set_cons_succ, List.set_cons_zero, ah, from_ok, sq_nx, cl, gEq_int, Bof_bl, gk, gGe_int, gb, gn, ownL_succ, ownL_zero, sa]
  by_cases c1 : cnt (bs.map load) k = r
  · by_cases c2 : sill ≤ lg (bs.map load) k
    · have p : pick bs sill r k = true := by unfold pick; simp [c1, c2]
      simp [c1, c2, p]
    · have p : pick bs sill r k = false := by unfold pick; simp [c2]
      simp [c1, c2, p]
  · have c3 : ¬ ((cnt (bs.map load) k : Nat) : Int) = (r : Int) := by omega
    have p : pick bs sill r k = false := by unfold pick; simp [c1]
    simp [c3, p]
theorem ls_inner {bs : List Bd} (l6 : bs.length ≤ 6) {s sill : Int} {r : Nat} (acc : List D) (ha : acc.length ≤ 100) (a b : Sl) :
    ∃ a' b' : Sl, loop (gN 6) B__law_ladder_1 (rgD 0 bs.length) (lsE bs s sill acc (.v (dN r)) a b) = .nx (lsE bs s sill (acc ++ ((List.range bs.length).filter (pick bs sill r)).map (nmD bs)) (.v (dN r)) a' b') := by
  obtain ⟨ρ', e, a', b', rfl⟩ := loop_rg (h := gN 6) (body := B__law_ladder_1) (lo := 0) (n := bs.length) (ρ := lsE bs s sill acc (.v (dN r)) a b)
    (fun i ρ => ∃ a' b' : Sl, ρ = lsE bs s sill (acc ++ ((List.range i).filter (pick bs sill r)).map (nmD bs)) (.v (dN r)) a' b') ⟨a, b, by simp⟩ (by
      rintro k ρ hk ⟨u6, u7, rfl⟩
      have ff : ((List.range k).filter (pick bs sill r)).length ≤ k := by
        have := List.length_filter_le (pick bs sill r) (List.range k)
        rwa [List.length_range] at this
      obtain ⟨b', e⟩ := ls_step (s := s) l6 (acc := acc ++ ((List.range k).filter (pick bs sill r)).map (nmD bs)) (by rw [List.length_append, List.length_map]; omega) (sill := sill) (r := r) (b := u7) hk
      refine ⟨lsE bs s sill (acc ++ ((List.range k).filter (pick bs sill r)).map (nmD bs)) (.v (dN r)) (.v (dN k)) u7, by rw [Int.zero_add]; rfl, ?_⟩
      rw [e]
      refine ⟨.v (dN k), b', ?_⟩
      rw [List.range_succ, List.filter_append, List.map_append, List.append_assoc])
  exact ⟨a', b', e⟩
theorem pick_len (bs : List Bd) (sill : Int) (r : Nat) : ((List.range bs.length).filter (pick bs sill r)).length ≤ bs.length := by
  have := List.length_filter_le (pick bs sill r) (List.range bs.length)
  rwa [List.length_range] at this
theorem flat_len (bs : List Bd) (sill : Int) : ∀ n : Nat, ((List.range n).flatMap fun r => (List.range bs.length).filter (pick bs sill r)).length ≤ n * bs.length
  | 0 => by simp
  | n + 1 => by
    rw [List.range_succ, List.flatMap_append, List.length_append, Nat.succ_mul]
    have h1 := flat_len bs sill n
    have h2 := pick_len bs sill n
    simp only [List.flatMap_cons, List.flatMap_nil, List.append_nil]
    omega
theorem ls_outer {bs : List Bd} (l6 : bs.length ≤ 6) {s sill : Int} (s0 : 0 ≤ s) (s3 : s ≤ 3) :
    ∃ r a b : Sl, loop (gN 5) B__law_ladder_2 (rgD 0 s.toNat) (lsE bs s sill [] .no .no .no) = .nx (lsE bs s sill (((List.range s.toNat).flatMap fun r => (List.range bs.length).filter (pick bs sill r)).map (nmD bs)) r a b) := by
  obtain ⟨ρ', e, r', a', b', rfl⟩ := loop_rg (h := gN 5) (body := B__law_ladder_2) (lo := 0) (n := s.toNat) (ρ := lsE bs s sill [] .no .no .no)
    (fun i ρ => ∃ r a b : Sl, ρ = lsE bs s sill (((List.range i).flatMap fun r => (List.range bs.length).filter (pick bs sill r)).map (nmD bs)) r a b) ⟨_, _, _, rfl⟩ (by
      rintro i ρ hi ⟨r0, a, b, rfl⟩
      have fl := flat_len bs sill i
      have f2 : i * bs.length ≤ 3 * 6 := Nat.mul_le_mul (by omega) l6
      obtain ⟨a', b', e⟩ := ls_inner (s := s) (sill := sill) (r := i) l6 (((List.range i).flatMap fun r => (List.range bs.length).filter (pick bs sill r)).map (nmD bs)) (by rw [List.length_map]; omega) a b
      refine ⟨lsE bs s sill (((List.range i).flatMap fun r => (List.range bs.length).filter (pick bs sill r)).map (nmD bs)) (.v (dN i)) a b, by rw [Int.zero_add]; rfl, ?_⟩
      have sm : small62 (bs.length : Int) := small_rg (by omega) (by omega)
      have ll : (bs.map dB).length = bs.length := List.length_map _
      have it : iR1 (eA gLen (aC (eV 0) (aN))) (lsE bs s sill (((List.range i).flatMap fun r => (List.range bs.length).filter (pick bs sill r)).map (nmD bs)) (.v (dN i)) a b) = .ok (rgD 0 bs.length) := by
        unfold lsE
        simp only [iR1_ap, eA_ap, aC_ap, aN_ap, eV_zero, bind_ok, gLen_lst, ll, sm, if_true, Int.toNat_natCast]
      unfold B__law_ladder_2
      rw [sFor_ap, it, from_ok, e]
      refine ⟨.v (dN i), a', b', ?_⟩
      rw [List.range_succ, List.flatMap_append, List.map_append]
      simp only [List.flatMap_cons, List.flatMap_nil, List.append_nil])
  exact ⟨r', a', b', e⟩
theorem lawlad_ok {bs : List Bd} (h : okCrew bs) {s sill : Int} (s0 : 0 ≤ s) (s3 : s ≤ 3) : F__law_ladder [.lst (bs.map dB), .int s, .int sill] = .ok (ladD bs s.toNat sill) := by
  have l6 := h.len
  have e1 := lc_all (inj := dB) (h := gT 3 (gsC (gN 8) (gsC (gN 9) (gsC (gN 10) (gsN))))) (t := tsY) (fe := e2 gMul (eV 9) (eV 10)) (ρ := [.v (.lst (bs.map dB)), .v (.int s), .v (.int sill), .no, .no, .no, .no, .no, .no, .no, .no, .no]) (fun x => .int (load x)) (l := bs) fun x m =>
    ⟨[.v (.lst (bs.map dB)), .v (.int s), .v (.int sill), .no, .no, .no, .no, .no, .v (.str (S x.1)), .v (.int x.2.1), .v (.int x.2.2), .no], rfl, rfl, by
      obtain ⟨_, _, _, h0, h1⟩ := h.each x m
      simp only [e2_ap, eV_succ, eV_zero, bind_ok, mul_load h0 h1]
      rfl⟩
  have e1' : bs.map (fun x => D.int (load x)) = (bs.map load).map .int := by rw [List.map_map]; rfl
  have sz : (bs.map dB).length ≤ sizeLine := by rw [List.length_map, sz24]; omega
  obtain ⟨r, a, b, e2⟩ := ls_outer (sill := sill) l6 s0 s3
  have sm : small62 s := small_rg s0 (by omega)
  have z0 : (0 : Nat) ≤ sizeLine := Nat.zero_le _
  have eL : (List.range s.toNat).flatMap (fun r => (List.range bs.length).filter (pick bs sill r)) = lad (bs.map load) s.toNat sill := by
    have := lad_by_rank (bs.map load) s.toNat sill
    rw [List.length_map] at this
    exact this
  rw [eL] at e2
  unfold lsE at e2
  unfold F__law_ladder G__law_ladder
  simp only [runF_ap, show startE 12 [.lst (bs.map dB), .int s, .int sill] = [.v (.lst (bs.map dB)), .v (.int s), .v (.int sill), .no, .no, .no, .no, .no, .no, .no, .no, .no] from rfl, sSq_ap, sSet_ap, sOwn_ap, lDisp_ap, sFor_ap, sFrz_ap, sRet_ap, eLc_ap, iSq_ap, iR1_ap, eA_ap, aC_ap, aN_ap, eV_zero, eV_succ, bind_ok, gIt_lst, sz, if_true, wipeE_cons, wipeE_nil, List.set_cons_succ, List.set_cons_zero, e1, e1', from_ok, sq_nx, List.length_nil, z0, sm, e2, frzE_succ, frzE_zero, frzS_l, gTuple_lst, out_rt]
  rfl
end Tk

namespace Tk
open PySem PySem.Spec L2 PyProof.Rows
/-! ### the drawn bidders -/
def bdE (ps : List Int) (spot number : Int) (ws : List (List Nat)) (bs : List Bd) (a b c d : Sl) : Ev := [.v (.lst (ps.map .int)), .v (.int spot), .v (.int number), .v (.lst (ws.map fun w => .str (S w))), .l (bs.map dB), a, b, c, d]
theorem far_at {ps : List Int} {spot : Int} {number : Int} (h0 : 0 ≤ spot) (hn : 0 ≤ number) (hn2 : number < 4611686018427387904) (h1 : spot + number ≤ ps.length) : ∃ v : Int, 0 ≤ v ∧ F__law_far [.lst (ps.map .int), .int spot, .int number] = .ok (.int v) := far_ok h0 hn hn2 h1
theorem bd_step {ps : List Int} {spot number : Int} {ws : List (List Nat)} {bs : List Bd} {i : Nat} {w : List Nat} (h0 : 0 ≤ spot) (h1 : spot + 5 + 5 * (i : Int) + 5 ≤ ps.length) (hb : bs.length ≤ 100) (hw : ws[i]? = some w) (b c d : Sl) :
    ∃ (x y : Int) (b' c' d' : Sl), 1 ≤ x ∧ x ≤ 1000 ∧ 0 ≤ y ∧ y ≤ 1000000000 ∧ B__law_bidders_1 (bdE ps spot number ws bs (.v (dN i)) b c d) = .nx (bdE ps spot number ws (bs ++ [(w, x, y)]) (.v (dN i)) b' c' d') := by
  obtain ⟨f1, _, e1⟩ := far_ok (ps := ps) (spot := spot + 5 + 5 * (i : Int) + 1) (number := 1) (by omega) (by decide) (by decide) (by omega)
  obtain ⟨f2, _, e2⟩ := far_ok (ps := ps) (spot := spot + 5 + 5 * (i : Int) + 2) (number := 3) (by omega) (by decide) (by decide) (by omega)
  obtain ⟨c1, a1, b1, k1⟩ := chosen_ok (ps := ps) (spot := spot + 5 + 5 * (i : Int)) (under := 1) (small := 4) (crest := 999) (whole := f1) (by omega) (by omega) (by decide) (by decide) (by decide) (by decide)
  obtain ⟨c2, a2, b2, k2⟩ := chosen_ok (ps := ps) (spot := spot + 5 + 5 * (i : Int)) (under := 40) (small := 9) (crest := 1000000000) (whole := f2) (by omega) (by omega) (by decide) (by decide) (by decide) (by decide)
  have p1 := part_ok (ps := ps) (spot := spot + 4) (under := 28) (size := 2) (by omega) (by omega) (by decide) (by decide) (by decide)
  have p2 := part_ok (ps := ps) (spot := spot + 5 + 5 * (i : Int) + 1) (under := 1000) (size := 5) (by omega) (by omega) (by decide) (by decide) (by decide)
  generalize part ps (spot + 4) 28 2 = q1 at *
  generalize part ps (spot + 5 + 5 * (i : Int) + 1) 1000 5 = q2 at *
  have gn : gIx (.lst (ws.map fun w => .str (S w))) (.int (i : Int)) = .ok (.str (S w)) := gIx_map (inj := fun w => D.str (S w)) (by omega) (by rw [Int.toNat_natCast]; exact hw)
  have m5 : gMul (.int 5) (.int (i : Int)) = .ok (.int (5 * (i : Int))) := gMul_l (by decide) (by decide)
  have pw : gPow (.int 10) (.int 9) = .ok (.int 1000000000) := gPow_int (by decide) (by decide) (by decide) (by decide)
  have sb : (bs.map dB).length < sizeLine := by rw [List.length_map, sz24]; omega
  have d4 : ∀ z : Int, gMod (.int z) (.int 4) = .ok (.int (z % 4)) := fun z => gMod_int (by decide)
  have d9 : ∀ z : Int, gMod (.int z) (.int 9) = .ok (.int (z % 9)) := fun z => gMod_int (by decide)
  have gt : ∀ x y : Int, gTup [.str (S w), .int x, .int y] = .ok (dB (w, x, y)) := fun x y => rfl
  have key : ∀ x y : Int, (bs.map dB) ++ [dB (w, x, y)] = (bs ++ [(w, x, y)]).map dB := fun x y => by rw [List.map_append]; rfl
  -- the two draws, then the two turns
  have st : ∀ z1 z2 : Int, (q1 = 0 → z1 = 1 + (1 + c1 - 1) % 4 ∧ z2 = c2 % 9) → (q1 ≠ 0 → z1 = 1 + c1 ∧ z2 = c2) → 1 ≤ z1 → z1 ≤ 1000 → 0 ≤ z2 → z2 ≤ 1000000000 → ∃ (x y : Int) (b' c' d' : Sl), 1 ≤ x ∧ x ≤ 1000 ∧ 0 ≤ y ∧ y ≤ 1000000000 ∧ B__law_bidders_1 (bdE ps spot number ws bs (.v (dN i)) b c d) = .nx (bdE ps spot number ws (bs ++ [(w, x, y)]) (.v (dN i)) b' c' d') := by
    intro z1 z2 hz hz' l1 l2 l3 l4
    by_cases t : z1 ≤ 4 ∧ q2 < 2
    · have dv : gDiv (.int 12) (.int z1) = .ok (.int (12 / z1)) := gDiv_int (by omega) (by omega)
      have r0 : 0 ≤ 12 / z1 := Int.ediv_nonneg (by decide) (by omega)
      have r1 : 12 / z1 ≤ 12 := by
        have : z1 = 1 ∨ z1 = 2 ∨ z1 = 3 ∨ z1 = 4 := by omega
        rcases this with rfl | rfl | rfl | rfl <;> decide
      refine ⟨z1, 12 / z1, .v (.int (spot + 5 + 5 * (i : Int))), .v (.int z1), .v (.int (12 / z1)), l1, l2, r0, by omega, ?_⟩
      unfold bdE B__law_bidders_1
      rw [← key]
      have t1 := t.1
      have t2 := t.2
      by_cases q : q1 = 0
      · obtain ⟨rfl, rfl⟩ := hz q
        simp only [dN, sSq_ap, sSet_ap, sIf_ap, sApp_ap, sN_ap, tAnd_ap, tV_ap, e2_ap, eA_ap, aC_ap, aN_ap, eC_ap, eCall_ap, eV_succ, eV_zero, bind_ok, List.length_cons, List.length_nil, Nat.zero_add, Nat.reduceAdd, if_true, gAdd_int, gSub_int, gInt_int, gEq_int, gLe_int, gLt_int, Bof_bl, m5, e1, k1, pw, e2, k2, p1, p2, q, d4, d9, t1, t2, dv, decide_true, gn, gt, from_ok, sq_nx, ownL_succ, ownL_zero, sb, List.set_cons_succ, List.set_cons_zero]
      · obtain ⟨rfl, rfl⟩ := hz' q
        simp only [dN, sSq_ap, sSet_ap, sIf_ap, sApp_ap, sN_ap, tAnd_ap, tV_ap, e2_ap, eA_ap, aC_ap, aN_ap, eC_ap, eCall_ap, eV_succ, eV_zero, bind_ok, List.length_cons, List.length_nil, Nat.zero_add, Nat.reduceAdd, if_true, gAdd_int, gSub_int, gInt_int, gEq_int, gLe_int, gLt_int, Bof_bl, m5, e1, k1, pw, e2, k2, p1, p2, q, d4, d9, t1, t2, dv, decide_true, decide_false, Bool.false_eq_true, if_false, gn, gt, from_ok, sq_nx, ownL_succ, ownL_zero, sb, List.set_cons_succ, List.set_cons_zero]
    · refine ⟨z1, z2, .v (.int (spot + 5 + 5 * (i : Int))), .v (.int z1), .v (.int z2), l1, l2, l3, l4, ?_⟩
      unfold bdE B__law_bidders_1
      rw [← key]
      have tt : (if decide (z1 ≤ 4) = true then R.ok (decide (q2 < 2)) else R.ok false) = R.ok false := by
        by_cases u : z1 ≤ 4
        · have v : ¬ q2 < 2 := fun v => t ⟨u, v⟩
          simp [u, v]
        · simp [u]
      by_cases q : q1 = 0
      · obtain ⟨rfl, rfl⟩ := hz q
        simp only [dN, sSq_ap, sSet_ap, sIf_ap, sApp_ap, sN_ap, tAnd_ap, tV_ap, e2_ap, eA_ap, aC_ap, aN_ap, eC_ap, eCall_ap, eV_succ, eV_zero, bind_ok, List.length_cons, List.length_nil, Nat.zero_add, Nat.reduceAdd, if_true, gAdd_int, gSub_int, gInt_int, gEq_int, gLe_int, gLt_int, Bof_bl, m5, e1, k1, pw, e2, k2, p1, p2, q, d4, d9, decide_true, gn, gt, from_ok, sq_nx, ownL_succ, ownL_zero, sb, List.set_cons_succ, List.set_cons_zero, tt, Bool.false_eq_true, if_false]
      · obtain ⟨rfl, rfl⟩ := hz' q
        simp only [dN, sSq_ap, sSet_ap, sIf_ap, sApp_ap, sN_ap, tAnd_ap, tV_ap, e2_ap, eA_ap, aC_ap, aN_ap, eC_ap, eCall_ap, eV_succ, eV_zero, bind_ok, List.length_cons, List.length_nil, Nat.zero_add, Nat.reduceAdd, if_true, gAdd_int, gSub_int, gInt_int, gEq_int, gLe_int, gLt_int, Bof_bl, m5, e1, k1, pw, e2, k2, p1, p2, q, d4, d9, decide_false, gn, gt, from_ok, sq_nx, ownL_succ, ownL_zero, sb, List.set_cons_succ, List.set_cons_zero, tt, Bool.false_eq_true, if_false]
  by_cases q : q1 = 0
  · exact st _ _ (fun _ => ⟨rfl, rfl⟩) (fun z => absurd q z) (by omega) (by omega) (by omega) (by omega)
  · exact st _ _ (fun z => absurd z q) (fun _ => ⟨rfl, rfl⟩) (by omega) (by omega) (by omega) (by omega)
theorem bidders_ok {ps : List Int} {spot number : Int} (h0 : 0 ≤ spot) (hn : 0 ≤ number) (hn2 : number ≤ 6) (h1 : spot + 5 + 5 * number ≤ ps.length) :
    ∃ bs : List Bd, okCrew bs ∧ bs.length = number.toNat ∧ F__law_bidders [.lst (ps.map .int), .int spot, .int number] = .ok (.lst (bs.map dB)) := by
  obtain ⟨ws, wl, wo, wn, we⟩ := names_ok (ps := ps) (spot := spot) (number := number) h0 (by omega) hn hn2
  obtain ⟨ρ', e, a, b, c, d, bs, bl, bw, bo, rfl⟩ := loop_rg (h := gN 5) (body := B__law_bidders_1) (lo := 0) (n := number.toNat) (ρ := bdE ps spot number ws [] .no .no .no .no)
    (fun i ρ => ∃ (a b c d : Sl) (bs : List Bd), bs.length = i ∧ bs.map (·.1) = ws.take i ∧ (∀ x ∈ bs, okBd x) ∧ ρ = bdE ps spot number ws bs a b c d) ⟨_, _, _, _, [], rfl, by simp, (fun _ m => nomatch m), rfl⟩ (by
      rintro i ρ hi ⟨a, b, c, d, bs, bl, bw, bo, rfl⟩
      have hw : ws[i]? = some (ws[i]'(by omega)) := List.getElem?_eq_getElem _
      obtain ⟨x, y, b', c', d', x1, x2, y1, y2, e⟩ := bd_step (ps := ps) (spot := spot) (number := number) (ws := ws) (bs := bs) (i := i) h0 (by omega) (by omega) hw b c d
      refine ⟨bdE ps spot number ws bs (.v (dN i)) b c d, by rw [Int.zero_add]; rfl, ?_⟩
      rw [e]
      refine ⟨.v (dN i), b', c', d', bs ++ [(_, x, y)], by rw [List.length_append, bl]; rfl, ?_, ?_, rfl⟩
      · rw [List.map_append, bw, List.take_succ, hw]
        rfl
      · intro z m
        rcases List.mem_append.mp m with m | m
        · exact bo z m
        · rw [List.mem_singleton.mp m]
          exact ⟨wo _ (List.mem_of_getElem? hw), x1, x2, y1, y2⟩)
  refine ⟨bs, ⟨by omega, bo, ?_⟩, bl, ?_⟩
  · rw [bw, List.take_of_length_le (by omega)]
    exact wn
  · unfold bdE at e
    rw [List.map_nil] at e
    have sm : small62 number := small_rg hn (by omega)
    have z0 : (0 : Nat) ≤ sizeLine := Nat.zero_le _
    unfold F__law_bidders G__law_bidders
    simp only [runF_ap, show startE 9 [.lst (ps.map .int), .int spot, .int number] = [.v (.lst (ps.map .int)), .v (.int spot), .v (.int number), .no, .no, .no, .no, .no, .no] from rfl, sSq_ap, sSet_ap, sOwn_ap, lDisp_ap, sFor_ap, iR1_ap, sFrz_ap, sRet_ap, eCall_ap, aC_ap, aN_ap, eV_zero, eV_succ, bind_ok, List.length_cons, List.length_nil, Nat.zero_add, Nat.reduceAdd, if_true, we, from_ok, sq_nx, z0, sm, List.set_cons_succ, List.set_cons_zero, e, frzE_succ, frzE_zero, frzS_l, out_rt]
theorem low_ok {w : List Nat} (h : okName w) : PyData.strOk (S w) = true := S_ok fun c m => by have := (h.2.2 c m).2; omega
theorem clean_dB {b : Bd} (h : okBd b) : cleanD 1 (dB b) = true := by
  show cleanD (0 + 1) (.tup [.str (S b.1), .int b.2.1, .int b.2.2]) = true
  simp [cleanD, cleanL, low_ok h.1]
theorem clean_crew {bs : List Bd} (h : okCrew bs) : cleanD 2 (.lst (bs.map dB)) = true := by
  show cleanL 1 (bs.map dB) = true
  rw [cleanL_all]
  intro d m
  obtain ⟨b, m2, rfl⟩ := List.mem_map.mp m
  exact clean_dB (h.each b m2)
theorem ne_nil {bs : List Bd} (h : okCrew bs) : (bs = [] → gNe (.lst (bs.map dB)) (.lst []) = .ok (.bl false)) ∧ (bs ≠ [] → gNe (.lst (bs.map dB)) (.lst []) = .ok (.bl true)) := by
  have e := gEq_clean (n := 2) (m := 1) (a := .lst (bs.map dB)) (b := .lst []) (by decide) (by decide) (clean_crew h) rfl
  refine ⟨fun z => ?_, fun z => ?_⟩
  · rw [gNe_def, e.1 (by rw [z]; rfl)]; rfl
  · rw [gNe_def, e.2 (fun q => z (by simpa using q))]; rfl
/-! ### the drawn sill -/
theorem sill_ok {ps : List Int} {spot : Int} {bs : List Bd} (hb : okCrew bs) (h0 : 0 ≤ spot) (h1 : spot + 5 ≤ ps.length) : ∃ v : Int, 0 ≤ v ∧ v ≤ 1000000000000 ∧ F__law_sill [.lst (ps.map .int), .int spot, .lst (bs.map dB)] = .ok (.int v) := by
  have p1 := part_ok (ps := ps) (spot := spot) (under := 1) (size := 8) (by omega) (by omega) (by decide) (by decide) (by decide)
  have p2 := part_ok (ps := ps) (spot := spot) (under := 8) (size := 60) (by omega) (by omega) (by decide) (by decide) (by decide)
  have a1 := part_lo (ps := ps) (spot := spot) (under := 1) (size := 8) (by decide)
  have b1 := part_hi (ps := ps) (spot := spot) (under := 1) (size := 8) (by decide)
  have a2 := part_lo (ps := ps) (spot := spot) (under := 8) (size := 60) (by decide)
  have b2 := part_hi (ps := ps) (spot := spot) (under := 8) (size := 60) (by decide)
  obtain ⟨f, f0, fe⟩ := far_ok (ps := ps) (spot := spot + 1) (number := 4) (by omega) (by decide) (by decide) (by omega)
  generalize part ps spot 1 8 = way at *
  generalize part ps spot 8 60 = near at *
  have pw : gPow (.int 10) (.int 12) = .ok (.int 1000000000000) := gPow_int (by decide) (by decide) (by decide) (by decide)
  have st : startE 8 [.lst (ps.map .int), .int spot, .lst (bs.map dB)] = [.v (.lst (ps.map .int)), .v (.int spot), .v (.lst (bs.map dB)), .no, .no, .no, .no, .no] := rfl
  have md : gMod (.int f) (.int 1000000000001) = .ok (.int (f % 1000000000001)) := gMod_int (by decide)
  have z0 : (0 : Nat) ≤ sizeLine := Nat.zero_le _
  have gl : gLst [] = .ok (.lst []) := rfl
  by_cases w1 : way < 2
  · refine ⟨0, by decide, by decide, ?_⟩
    unfold F__law_sill G__law_sill
    simp only [runF_ap, st, sSq_ap, sSet_ap, sIf_ap, sRet_ap, tV_ap, e2_ap, eC_ap, eCall_ap, aC_ap, aN_ap, eV_zero, eV_succ, bind_ok, List.length_cons, List.length_nil, Nat.zero_add, Nat.reduceAdd, if_true, p1, p2, from_ok, sq_nx, sq_rt, List.set_cons_succ, List.set_cons_zero, gLt_int, decide_eq_true w1, Bof_bl, out_rt]
  · have ne := ne_nil hb
    by_cases w2 : way < 6 ∧ bs ≠ []
    · have l0 : 0 < bs.length := by
        cases bs with
        | nil => exact absurd rfl w2.2
        | cons b r => simp
      have mn : gMod (.int near) (.int (bs.length : Int)) = .ok (.int (near % (bs.length : Int))) := gMod_int (by omega)
      have m0 : 0 ≤ near % (bs.length : Int) := Int.emod_nonneg _ (by omega)
      have m1 : near % (bs.length : Int) < (bs.length : Int) := Int.emod_lt_of_pos _ (by omega)
      have hk : (near % (bs.length : Int)).toNat < bs.length := by omega
      have gb : gIx (.lst (bs.map dB)) (.int (near % (bs.length : Int))) = .ok (dB (bs.getD (near % (bs.length : Int)).toNat ([], 0, 0))) := gIx_map (inj := dB) m0 (bs_get hk)
      obtain ⟨_, _, _, o1, o2⟩ := hb.each _ (List.mem_of_getElem? (bs_get hk))
      generalize bs.getD (near % (bs.length : Int)).toNat ([], 0, 0) = x at *
      have ml := mul_load (w := x.2.1) o1 o2
      have gt : gLst [.int 0, .int 0, .int 1, .int (-1)] = .ok (.lst (([0, 0, 1, -1] : List Int).map .int)) := rfl
      obtain ⟨y, gy⟩ : ∃ y : Int, gIx (.lst (([0, 0, 1, -1] : List Int).map .int)) (.int (way - 2)) = .ok (.int y) := ⟨_, gIx_getD (by omega) (by simp; omega)⟩
      have ne2 : gNe (.lst (bs.map dB)) (.lst []) = .ok (.bl true) := ne.2 w2.2
      have ll : (bs.map dB).length = bs.length := List.length_map _
      have tg : gT 3 (gsC (gN 5) (gsC (gN 6) (gsC (gN 7) (gsN)))) (dB x) [.v (.lst (ps.map .int)), .v (.int spot), .v (.lst (bs.map dB)), .v (.int way), .v (.int near), .no, .no, .no] = some [.v (.lst (ps.map .int)), .v (.int spot), .v (.lst (bs.map dB)), .v (.int way), .v (.int near), .v (.str (S x.1)), .v (.int x.2.1), .v (.int x.2.2)] := rfl
      refine ⟨_, ?_, ?_, (?_ : _ = R.ok (D.int (if 1000000000000 < (if x.2.1 * x.2.2 + y > 0 then x.2.1 * x.2.2 + y else 0) then 1000000000000 else (if x.2.1 * x.2.2 + y > 0 then x.2.1 * x.2.2 + y else 0))))⟩
      · split <;> split <;> omega
      · split <;> split <;> omega
      · unfold F__law_sill G__law_sill
        simp only [runF_ap, st, sSq_ap, sSet_ap, sIf_ap, sRet_ap, sN_ap, sAsg_ap, tAnd_ap, tV_ap, e2_ap, e1_ap, eA_ap, eC_ap, eCall_ap, aC_ap, aN_ap, eV_zero, eV_succ, bind_ok, List.length_cons, List.length_nil, Nat.zero_add, Nat.reduceAdd, if_true, p1, p2, from_ok, sq_nx, sq_rt, List.set_cons_succ, List.set_cons_zero, gLt_int, decide_eq_false w1, decide_eq_true w2.1, Bof_bl, Bool.false_eq_true, if_false, gl, ne2, gInt_int, gLen_lst, ll, mn, gb, tg, ofO_some, ml, gNeg_int, gt, gSub_int, gy, gAdd_int, gMax_int, pw, gMin_int, out_rt]
    · have tt : (if decide (way < 6) = true then gNe (.lst (bs.map dB)) (.lst []) |>.bind Bof else R.ok false) = R.ok false := by
        by_cases u : way < 6
        · have v : bs = [] := Classical.byContradiction fun v => w2 ⟨u, v⟩
          rw [ne.1 v]
          simp [u]
        · simp [u]
      by_cases w3 : way = 6
      · refine ⟨near, a2, by omega, ?_⟩
        unfold F__law_sill G__law_sill
        simp only [runF_ap, st, sSq_ap, sSet_ap, sIf_ap, sRet_ap, sN_ap, sAsg_ap, tAnd_ap, tV_ap, e2_ap, eA_ap, eC_ap, eCall_ap, aC_ap, aN_ap, eV_zero, eV_succ, bind_ok, List.length_cons, List.length_nil, Nat.zero_add, Nat.reduceAdd, if_true, p1, p2, from_ok, sq_nx, sq_rt, List.set_cons_succ, List.set_cons_zero, gLt_int, decide_eq_false w1, Bof_bl, Bool.false_eq_true, if_false, gl, tt, gEq_int, decide_eq_true w3, out_rt]
      · refine ⟨f % 1000000000001, by omega, by omega, ?_⟩
        unfold F__law_sill G__law_sill
        simp only [runF_ap, st, sSq_ap, sSet_ap, sIf_ap, sRet_ap, sN_ap, sAsg_ap, tAnd_ap, tV_ap, e2_ap, eA_ap, eC_ap, eCall_ap, aC_ap, aN_ap, eV_zero, eV_succ, bind_ok, List.length_cons, List.length_nil, Nat.zero_add, Nat.reduceAdd, if_true, p1, p2, from_ok, sq_nx, sq_rt, List.set_cons_succ, List.set_cons_zero, gLt_int, decide_eq_false w1, Bof_bl, Bool.false_eq_true, if_false, gl, tt, gEq_int, decide_eq_false w3, gAdd_int, fe, gInt_int, pw, Int.reduceAdd, md, out_rt]
end Tk

namespace Tk
open PySem PySem.Spec L2 PyProof.Rows
theorem mul_w {w b : Int} (h0 : -18446744073709551616 < w) (h1 : w < 18446744073709551616) : gMul (.int w) (.int b) = .ok (.int (w * b)) := if_pos (.inl (.inl ⟨by omega, by omega⟩))
structure okLd (bs : List Bd) : Prop where
  len : bs.length ≤ 6
  each : ∀ b ∈ bs, 1 ≤ b.2.1 ∧ b.2.1 ≤ 1000
theorem okCrew.ld {bs : List Bd} (h : okCrew bs) : okLd bs := ⟨h.len, fun b m => let ⟨_, h1, h2, _⟩ := h.each b m; ⟨h1, h2⟩⟩
theorem lawlad_w {bs : List Bd} (h : okLd bs) {s sill : Int} (s0 : 0 ≤ s) (s3 : s ≤ 3) : F__law_ladder [.lst (bs.map dB), .int s, .int sill] = .ok (ladD bs s.toNat sill) := by
  have l6 := h.len
  have e1 := lc_all (inj := dB) (h := gT 3 (gsC (gN 8) (gsC (gN 9) (gsC (gN 10) (gsN))))) (t := tsY) (fe := e2 gMul (eV 9) (eV 10)) (ρ := [.v (.lst (bs.map dB)), .v (.int s), .v (.int sill), .no, .no, .no, .no, .no, .no, .no, .no, .no]) (fun x => .int (load x)) (l := bs) fun x m =>
    ⟨[.v (.lst (bs.map dB)), .v (.int s), .v (.int sill), .no, .no, .no, .no, .no, .v (.str (S x.1)), .v (.int x.2.1), .v (.int x.2.2), .no], rfl, rfl, by
      obtain ⟨h0, h1⟩ := h.each x m
      simp only [e2_ap, eV_succ, eV_zero, bind_ok, mul_w (show -18446744073709551616 < x.2.1 by omega) (by omega)]
      rfl⟩
  have e1' : bs.map (fun x => D.int (load x)) = (bs.map load).map .int := by rw [List.map_map]; rfl
  have sz : (bs.map dB).length ≤ sizeLine := by rw [List.length_map, sz24]; omega
  obtain ⟨r, a, b, e2⟩ := ls_outer (sill := sill) l6 s0 s3
  have sm : small62 s := small_rg s0 (by omega)
  have z0 : (0 : Nat) ≤ sizeLine := Nat.zero_le _
  have eL : (List.range s.toNat).flatMap (fun r => (List.range bs.length).filter (pick bs sill r)) = lad (bs.map load) s.toNat sill := by
    have := lad_by_rank (bs.map load) s.toNat sill
    rw [List.length_map] at this
    exact this
  rw [eL] at e2
  unfold lsE at e2
  unfold F__law_ladder G__law_ladder
  simp only [runF_ap, show startE 12 [.lst (bs.map dB), .int s, .int sill] = [.v (.lst (bs.map dB)), .v (.int s), .v (.int sill), .no, .no, .no, .no, .no, .no, .no, .no, .no] from rfl, sSq_ap, sSet_ap, sOwn_ap, lDisp_ap, sFor_ap, sFrz_ap, sRet_ap, eLc_ap, iSq_ap, iR1_ap, eA_ap, aC_ap, aN_ap, eV_zero, eV_succ, bind_ok, gIt_lst, sz, if_true, wipeE_cons, wipeE_nil, List.set_cons_succ, List.set_cons_zero, e1, e1', from_ok, sq_nx, List.length_nil, z0, sm, e2, frzE_succ, frzE_zero, frzS_l, gTuple_lst, out_rt]
  rfl
theorem strengths_o {b : Bool} {bs : List Bd} (h : okLd bs) : F_strengths_of_o [sqD b (bs.map dB)] = .ok (.l ((bs.map load).map .int)) := by
  have e := lc_all (inj := dB) (h := gT 3 (gsC (gN 1) (gsC (gN 2) (gsC (gN 3) (gsN))))) (t := tsY) (fe := e2 gMul (eV 2) (eV 3)) (ρ := [.v (sqD b (bs.map dB)), .no, .no, .no]) (fun x => .int (load x)) (l := bs) fun x m =>
    ⟨[.v (sqD b (bs.map dB)), .v (.str (S x.1)), .v (.int x.2.1), .v (.int x.2.2)], rfl, rfl, by
      obtain ⟨h0, h1⟩ := h.each x m
      simp only [e2_ap, eV_succ, eV_zero, bind_ok, mul_w (show -18446744073709551616 < x.2.1 by omega) (by omega)]
      rfl⟩
  have sz : (bs.map dB).length ≤ sizeLine := by rw [List.length_map, sz24]; have := h.len; omega
  unfold F_strengths_of_o G_strengths_of_o
  simp only [runO_ap, show startE 4 [sqD b (bs.map dB)] = [.v (sqD b (bs.map dB)), .no, .no, .no] from rfl, sRetF_ap, nL_ap, lLc_ap, iSq_ap, eV_zero, bind_ok, gIt_sq, sz, if_true, wipeE_cons, wipeE_nil, List.set_cons_succ, List.set_cons_zero, e, from_ok, own_lT, outO_ro, List.map_map]
  rfl
end Tk

namespace Tk
open PySem PySem.Spec L2 PyProof.Rows
/-! ### raises, by numbers alone -/
def mxI (a : Int) (l : List Int) : Int := l.foldl max a
theorem maxI_cons (a : Int) (l : List Int) : maxI (a :: l) = some (mxI a l) := rfl
theorem mxI_ge : ∀ (l : List Int) (a : Int), a ≤ mxI a l ∧ ∀ x ∈ l, x ≤ mxI a l
  | [], a => ⟨Int.le_refl _, fun _ m => by cases m⟩
  | x :: l, a => by
    obtain ⟨h1, h2⟩ := mxI_ge l (max a x)
    have e : mxI a (x :: l) = mxI (max a x) l := rfl
    rw [e]
    have h3 : a ≤ max a x ∧ x ≤ max a x := by omega
    exact ⟨by omega, fun y m => (List.mem_cons.mp m).elim (fun e => by rw [e]; omega) (h2 y)⟩
theorem mxI_in : ∀ (l : List Int) (a : Int), mxI a l = a ∨ mxI a l ∈ l
  | [], a => .inl rfl
  | x :: l, a => by
    have e : mxI a (x :: l) = mxI (max a x) l := rfl
    rw [e]
    rcases mxI_in l (max a x) with h | h
    · rw [h]
      rcases (show max a x = a ∨ max a x = x by omega) with z | z
      · exact .inl z
      · rw [z]; exact .inr List.mem_cons_self
    · exact .inr (List.mem_cons_of_mem _ h)
abbrev bdz : Bd := ([], 0, 0)
def wt (bs : List Bd) (k : Nat) : Int := (bs.getD k bdz).2.1
def bd (bs : List Bd) (k : Nat) : Int := (bs.getD k bdz).2.2
def needed (L : List Int) (v : Int) (beh : List Nat) (p : Nat) : Int := mxI v (beh.map fun o => lg L o + if o < p then 1 else 0)
def lift (w b n : Int) : Int := if -(-n / w) - b > 0 then -(-n / w) - b else 0
theorem lift_pos (w b n : Int) : 0 ≤ lift w b n := by unfold lift; split <;> omega
theorem lift_ge {w b n : Int} (hw : 1 ≤ w) : n ≤ w * (b + lift w b n) := by
  have h1 : n ≤ w * -(-n / w) := by
    have h2 := Int.mul_ediv_add_emod (-n) w
    have h3 := Int.emod_nonneg (-n) (show w ≠ 0 by omega)
    rw [Int.mul_neg]
    omega
  refine Int.le_trans h1 (Int.mul_le_mul_of_nonneg_left ?_ (by omega))
  unfold lift
  split <;> omega
structure St3 where
  L : List Int
  R : List Int
  beh : List Nat
def stp (bs : List Bd) (v : Int) (p : Nat) (s : St3) : St3 :=
  let r := lift (wt bs p) (bd bs p) (needed s.L v s.beh p)
  ⟨s.L.set p (wt bs p * (bd bs p + r)), s.R.set p r, [p]⟩
def run3 (bs : List Bd) (v : Int) (s : St3) (T : List Nat) : St3 := T.foldr (stp bs v) s
def behT (beh0 : List Nat) : List Nat → List Nat
  | [] => beh0
  | t :: _ => [t]
/-- what holds behind the places T -/
structure Rz (bs : List Bd) (v : Int) (beh0 T : List Nat) (s : St3) : Prop where
  lenL : s.L.length = bs.length
  lenR : s.R.length = bs.length
  out : ∀ k, k ∉ T → lg s.L k = lg (bs.map load) k ∧ lg s.R k = 0
  inn : ∀ k ∈ T, lg s.L k = wt bs k * (bd bs k + lg s.R k)
  pos : ∀ k, 0 ≤ lg s.R k
  srt : T.Pairwise (bef s.L)
  sill : ∀ k ∈ T, v ≤ lg s.L k
  aft : ∀ k ∈ T, ∀ o ∈ beh0, bef s.L k o
  beh : s.beh = behT beh0 T
theorem lg_set {L : List Int} {p k : Nat} {x : Int} (hp : p < L.length) : lg (L.set p x) k = if k = p then x else lg L k := by
  unfold lg
  rw [List.getD_eq_getElem?_getD, List.getD_eq_getElem?_getD]
  by_cases e : p = k
  · subst e; rw [List.getElem?_set_self hp, if_pos rfl]; rfl
  · rw [List.getElem?_set_ne e, if_neg fun z => e z.symm]
theorem rz_ok {bs : List Bd} (hb : okLd bs) {v : Int} {beh0 : List Nat} : ∀ {T : List Nat}, T.Nodup → (∀ k ∈ T, k < bs.length) → (∀ k ∈ T, k ∉ beh0) → Rz bs v beh0 T (run3 bs v ⟨bs.map load, bs.map fun _ => 0, beh0⟩ T)
  | [], _, _, _ => by
    have z : ∀ k, lg (bs.map fun _ => (0 : Int)) k = 0 := fun k => by
      unfold lg
      rw [List.getD_eq_getElem?_getD, List.getElem?_map]
      cases bs[k]? <;> rfl
    exact ⟨List.length_map _, List.length_map _, fun k _ => ⟨rfl, z k⟩, (fun _ m => by cases m), fun k => Int.le_of_eq (z k).symm, .nil, (fun _ m => by cases m), (fun _ m => by cases m), rfl⟩
  | p :: T, nd, hl, nb => by
    obtain ⟨np, nd'⟩ := List.nodup_cons.mp nd
    have ih := rz_ok hb (v := v) (beh0 := beh0) nd' (fun k m => hl k (List.mem_cons_of_mem _ m)) fun k m => nb k (List.mem_cons_of_mem _ m)
    have hp := hl p List.mem_cons_self
    show Rz bs v beh0 (p :: T) (stp bs v p (run3 bs v ⟨bs.map load, bs.map fun _ => 0, beh0⟩ T))
    generalize run3 bs v ⟨bs.map load, bs.map fun _ => 0, beh0⟩ T = s at ih
    have pL : p < s.L.length := by rw [ih.lenL]; exact hp
    have pR : p < s.R.length := by rw [ih.lenR]; exact hp
    obtain ⟨w1, w2⟩ : 1 ≤ wt bs p ∧ wt bs p ≤ 1000 := hb.each _ (by rw [List.getD_eq_getElem?_getD, List.getElem?_eq_getElem hp]; exact List.getElem_mem hp)
    have eL : ∀ k, lg (stp bs v p s).L k = if k = p then wt bs p * (bd bs p + lift (wt bs p) (bd bs p) (needed s.L v s.beh p)) else lg s.L k := fun k => lg_set pL
    have eR : ∀ k, lg (stp bs v p s).R k = if k = p then lift (wt bs p) (bd bs p) (needed s.L v s.beh p) else lg s.R k := fun k => lg_set pR
    have ge := lift_ge (w := wt bs p) (b := bd bs p) (n := needed s.L v s.beh p) w1
    have rp := lift_pos (wt bs p) (bd bs p) (needed s.L v s.beh p)
    obtain ⟨m1, m2⟩ := mxI_ge (s.beh.map fun o => lg s.L o + if o < p then 1 else 0) v
    have m1' : v ≤ needed s.L v s.beh p := m1
    have bb : ∀ o ∈ s.beh, o ≠ p → bef (stp bs v p s).L p o := fun o m ne => by
      have h := m2 _ (List.mem_map_of_mem m)
      have h' : (lg s.L o + if o < p then 1 else 0) ≤ needed s.L v s.beh p := h
      unfold bef
      rw [eL p, eL o, if_pos rfl, if_neg ne]
      split at h' <;> omega
    have old : ∀ a b, a ≠ p → b ≠ p → bef s.L a b → bef (stp bs v p s).L a b := fun a b na nb' h => by
      unfold bef at *
      rw [eL a, eL b, if_neg na, if_neg nb']
      exact h
    have ne : ∀ k ∈ T, k ≠ p := fun k m e => np (e ▸ m)
    have no : ∀ o ∈ beh0, o ≠ p := fun o m e => nb p List.mem_cons_self (e ▸ m)
    have tr : ∀ a b c, bef (stp bs v p s).L a b → bef (stp bs v p s).L b c → bef (stp bs v p s).L a c := fun a b c h1 h2 => by unfold bef at *; omega
    refine ⟨(List.length_set ..).trans ih.lenL, (List.length_set ..).trans ih.lenR, fun k m => ?_, fun k m => ?_, fun k => ?_, ?_, fun k m => ?_, ?_, rfl⟩
    · obtain ⟨n1, n2⟩ := not_or.mp fun z => m (List.mem_cons.mpr z)
      rw [eL, eR, if_neg n1, if_neg n1]
      exact ih.out k n2
    · rw [eL, eR]
      rcases List.mem_cons.mp m with rfl | m
      · rw [if_pos rfl, if_pos rfl]
      · rw [if_neg (ne k m), if_neg (ne k m)]; exact ih.inn k m
    · rw [eR]
      split
      · exact rp
      · exact ih.pos k
    · refine List.pairwise_cons.mpr ⟨fun k m => ?_, ih.srt.imp_of_mem fun ma mb h => old _ _ (ne _ ma) (ne _ mb) h⟩
      cases T with
      | nil => cases m
      | cons t T =>
        have eb := ih.beh
        have ht := bb t (by rw [eb]; exact List.mem_singleton.mpr rfl) (ne t List.mem_cons_self)
        rcases List.mem_cons.mp m with rfl | m'
        · exact ht
        · exact tr _ _ _ ht (old _ _ (ne t List.mem_cons_self) (ne k m) ((List.pairwise_cons.mp ih.srt).1 k m'))
    · rw [eL]
      rcases List.mem_cons.mp m with rfl | m
      · rw [if_pos rfl]; omega
      · rw [if_neg (ne k m)]; exact ih.sill k m
    · intro k m o mo
      rcases List.mem_cons.mp m with rfl | m
      · cases T with
        | nil => exact bb o (by rw [ih.beh]; exact mo) (no o mo)
        | cons t T =>
          have eb := ih.beh
          have ht := bb t (by rw [eb]; exact List.mem_singleton.mpr rfl) (ne t List.mem_cons_self)
          exact tr _ _ _ ht (old _ _ (ne t List.mem_cons_self) (no o mo) (ih.aft t List.mem_cons_self o mo))
      · exact old _ _ (ne k m) (no o mo) (ih.aft k m o mo)
/-- the head of a sorted list -/
theorem head_of {L : List Int} : ∀ {qs l : List Nat}, l.Pairwise (bef L) → qs.Pairwise (bef L) → (∀ q ∈ qs, q ∈ l) → (∀ x ∈ l, x ∉ qs → ∀ q ∈ qs, bef L q x) → l.take qs.length = qs
  | [], l, _, _, _, _ => rfl
  | q :: qs, [], _, _, h, _ => by cases h q List.mem_cons_self
  | q :: qs, x :: l, h1, h2, h3, h4 => by
    obtain ⟨p1, p2⟩ := List.pairwise_cons.mp h1
    obtain ⟨p3, p4⟩ := List.pairwise_cons.mp h2
    have e : x = q := by
      rcases List.mem_cons.mp (h3 q List.mem_cons_self) with e | m
      · exact e.symm
      · have b1 := p1 q m
        exfalso
        by_cases z : x ∈ q :: qs
        · rcases List.mem_cons.mp z with e | m'
          · rw [e] at b1; exact bef_irr b1
          · exact bef_asym b1 (p3 x m')
        · exact bef_asym b1 (h4 x List.mem_cons_self z q List.mem_cons_self)
    subst e
    rw [List.length_cons, List.take_succ_cons, head_of p2 p4 (fun q' m => ?_) (fun y m ny q' mq => ?_)]
    · rcases List.mem_cons.mp (h3 q' (List.mem_cons_of_mem _ m)) with e | m'
      · subst e; exact (bef_irr (p3 q' m)).elim
      · exact m'
    · refine h4 y (List.mem_cons_of_mem _ m) (fun z => ?_) q' (List.mem_cons_of_mem _ mq)
      rcases List.mem_cons.mp z with e | m'
      · subst e; exact bef_irr (p1 y m)
      · exact ny m'
/-- the places qs come out -/
theorem lad_is {L : List Int} {s : Nat} {v : Int} {qs : List Nat} (hq : ∀ q ∈ qs, q < L.length ∧ v ≤ lg L q) (srt : qs.Pairwise (bef L)) (hs : qs.length ≤ s) (after : ∀ k, k < L.length → v ≤ lg L k → k ∉ qs → qs.length = s ∧ ∀ q ∈ qs, bef L q k) : lad L s v = qs := by
  unfold lad
  have sl : ((rkN L).filter fun k => decide (v ≤ lg L k)).Pairwise (bef L) := (rkN_sorted L).filter _
  have mem : ∀ k, k ∈ (rkN L).filter (fun k => decide (v ≤ lg L k)) ↔ k < L.length ∧ v ≤ lg L k := fun k => by
    rw [List.mem_filter, (rkN_perm L).mem_iff, List.mem_range, decide_eq_true_eq]
  have nd : ((rkN L).filter fun k => decide (v ≤ lg L k)).Nodup := (rkN_nodup L).filter _
  generalize (rkN L).filter (fun k => decide (v ≤ lg L k)) = l at *
  have tk := head_of sl srt (fun q m => (mem q).mpr (hq q m)) fun x m nx => (after x ((mem x).mp m).1 ((mem x).mp m).2 nx).2
  by_cases e : qs.length = s
  · rw [← e]; exact tk
  · have all : ∀ x ∈ l, x ∈ qs := fun x m => Classical.byContradiction fun nx => e (after x ((mem x).mp m).1 ((mem x).mp m).2 nx).1
    have le : l.length ≤ qs.length := Nat.le_of_not_lt fun lt => by
      have m : l[qs.length] ∈ l.take qs.length := tk.symm ▸ all _ (List.getElem_mem lt)
      obtain ⟨i, hi, ei⟩ := List.mem_iff_getElem.mp m
      rw [List.getElem_take] at ei
      rw [List.length_take] at hi
      exact List.pairwise_iff_getElem.mp nd i qs.length (by omega) lt (by omega) ei
    rw [List.take_of_length_le (by omega)]
    rw [List.take_of_length_le le] at tk
    exact tk
end Tk

namespace Tk
open PySem PySem.Spec L2 PyProof.Rows
/-! ### names in lists and tuples -/
abbrev nD (w : List Nat) : D := .str (S w)
theorem inV_names {w : List Nat} {ws : List (List Nat)} : inV (toV (nD w)) ((ws.map nD).map toV) = decide (w ∈ ws) := by
  unfold inV
  rw [List.map_map, List.any_map, Bool.eq_iff_iff, List.any_eq_true, decide_eq_true_eq]
  constructor
  · rintro ⟨u, m, e⟩
    have e2 : (S u == S w) = true := e
    rw [← S_inj (eq_of_beq e2)]
    exact m
  · intro m
    exact ⟨w, m, by show (S w == S w) = true; exact beq_self_eq_true _⟩
theorem flat_names {ws : List (List Nat)} : (ws.map nD).all flatD = true := by rw [List.all_map]; exact List.all_eq_true.mpr fun _ _ => rfl
theorem in_lst {w : List Nat} {ws : List (List Nat)} : gInS false (nD w) (.lst (ws.map nD)) = .ok (.bl (decide (w ∈ ws))) := by
  show (if flatD (nD w) = true ∧ (ws.map nD).all flatD = true then R.ok (D.bl (if false = true then !inV (toV (nD w)) ((ws.map nD).map toV) else inV (toV (nD w)) ((ws.map nD).map toV))) else gInP false (nD w) (ws.map nD)) = _
  rw [if_pos ⟨rfl, flat_names⟩, if_neg Bool.false_ne_true, inV_names]
theorem nin_lst {w : List Nat} {ws : List (List Nat)} : gInS true (nD w) (.lst (ws.map nD)) = .ok (.bl (!decide (w ∈ ws))) := by
  show (if flatD (nD w) = true ∧ (ws.map nD).all flatD = true then R.ok (D.bl (if true = true then !inV (toV (nD w)) ((ws.map nD).map toV) else inV (toV (nD w)) ((ws.map nD).map toV))) else gInP true (nD w) (ws.map nD)) = _
  rw [if_pos ⟨rfl, flat_names⟩, if_pos rfl, inV_names]
theorem in_tup {w : List Nat} {ws : List (List Nat)} : gInS false (nD w) (.tup (ws.map nD)) = .ok (.bl (decide (w ∈ ws))) := by
  show (if flatD (nD w) = true ∧ (ws.map nD).all flatD = true then R.ok (D.bl (if false = true then !inV (toV (nD w)) ((ws.map nD).map toV) else inV (toV (nD w)) ((ws.map nD).map toV))) else .bad) = _
  rw [if_pos ⟨rfl, flat_names⟩, if_neg Bool.false_ne_true, inV_names]
theorem nin_tup {w : List Nat} {ws : List (List Nat)} : gInS true (nD w) (.tup (ws.map nD)) = .ok (.bl (!decide (w ∈ ws))) := by
  show (if flatD (nD w) = true ∧ (ws.map nD).all flatD = true then R.ok (D.bl (if true = true then !inV (toV (nD w)) ((ws.map nD).map toV) else inV (toV (nD w)) ((ws.map nD).map toV))) else .bad) = _
  rw [if_pos ⟨rfl, flat_names⟩, if_pos rfl, inV_names]
theorem eq_names {a b : List Nat} : gEq (nD a) (nD b) = .ok (.bl (decide (a = b))) := by
  show R.ok (D.bl (decide (S a = S b))) = _
  congr 2
  rw [decide_eq_decide]
  exact ⟨S_inj, fun h => by rw [h]⟩
theorem ne_names {a b : List Nat} : gNe (nD a) (nD b) = .ok (.bl (!decide (a = b))) := by rw [gNe_def, eq_names]; rfl
/-! ### who is passed over -/
def overL (cs ts : List (List Nat)) (kp : List Nat) : List (List Nat) := cs.filter fun m => (!decide (m ∈ ts)) && !decide (m = kp)
theorem passed_ok {cs ts : List (List Nat)} {kp : List Nat} (hl : cs.length ≤ 1000) : F_passed_over [.tup (cs.map nD), .tup (ts.map nD), nD kp] = .ok (.tup ((overL cs ts kp).map nD)) := by
  have e := lc_map (inj := nD) (h := gN 3) (t := tAnd (tV (e2 (gInS true) (eV 3) (eV 1))) (tV (e2 gNe (eV 3) (eV 2)))) (fe := eV 3) (ρ := [.v (.tup (cs.map nD)), .v (.tup (ts.map nD)), .v (nD kp), .no]) (fun m => (!decide (m ∈ ts)) && !decide (m = kp)) nD (l := cs) fun m _ =>
    ⟨[.v (.tup (cs.map nD)), .v (.tup (ts.map nD)), .v (nD kp), .v (nD m)], rfl, by
      simp only [tAnd_ap, tV_ap, e2_ap, eV_succ, eV_zero, bind_ok, nin_tup, ne_names, Bof_bl]
      cases (!decide (m ∈ ts)) <;> simp, fun _ => rfl⟩
  have sz : (cs.map nD).length ≤ sizeLine := by rw [List.length_map, sz24]; omega
  unfold F_passed_over G_passed_over
  simp only [runF_ap, show startE 4 [.tup (cs.map nD), .tup (ts.map nD), nD kp] = [.v (.tup (cs.map nD)), .v (.tup (ts.map nD)), .v (nD kp), .no] from rfl, sRet_ap, eA_ap, aC_ap, aN_ap, eLc_ap, iSq_ap, eV_zero, eV_succ, bind_ok, gIt_tup, sz, if_true, wipeE_cons, wipeE_nil, List.set_cons_succ, List.set_cons_zero, e, gTuple_lst, from_ok, out_rt]
  rfl
/-! ### the passes behind a round -/
def npass (cs ts : List (List Nat)) (kp : List Nat) (most : Int) (p : List Nat × Int) : Int := if p.1 ∈ ts ∨ p.1 = kp then 0 else if p.1 ∈ overL cs ts kp then (if most < p.2 + 1 then most else p.2 + 1) else p.2
theorem zip_map {α β : Type} (f : α → D) (g : β → D) : ∀ (l : List α) (l' : List β), zipD (l.map f) (l'.map g) = (l.zip l').map fun p => .tup [f p.1, g p.2]
  | [], _ => by cases ‹List β› <;> rfl
  | _ :: _, [] => rfl
  | a :: l, b :: l' => by
    show D.tup [f a, g b] :: zipD (l.map f) (l'.map g) = _
    rw [zip_map f g l l']
    rfl
def npE (ms cs ts : List (List Nat)) (ps : List Int) (kp : List Nat) (most : Int) (acc : List Int) (a b : Sl) : Ev := [.v (.tup (ms.map nD)), .v (.tup (ps.map .int)), .v (.tup (cs.map nD)), .v (.tup (ts.map nD)), .v (nD kp), .v (.int most), .v (.tup ((overL cs ts kp).map nD)), .l (acc.map .int), a, b]
theorem next_ok {ms cs ts : List (List Nat)} {ps : List Int} {kp : List Nat} {most : Int} (hm : ms.length ≤ 1000) (hl : cs.length ≤ 1000) :
    F_next_passes [.tup (ms.map nD), .tup (ps.map .int), .tup (cs.map nD), .tup (ts.map nD), nD kp, .int most] = .ok (.tup (((ms.zip ps).map (npass cs ts kp most)).map .int)) := by
  obtain ⟨ρ', e, a, b, rfl⟩ := loop_map (inj := fun p : List Nat × Int => D.tup [nD p.1, .int p.2]) (h := gT 2 (gsC (gN 8) (gsC (gN 9) (gsN)))) (body := B_next_passes_1) (l := ms.zip ps) (ρ := npE ms cs ts ps kp most [] .no .no)
    (fun i ρ => ∃ a b : Sl, ρ = npE ms cs ts ps kp most (((ms.zip ps).take i).map (npass cs ts kp most)) a b) ⟨_, _, rfl⟩ (by
      rintro i p ρ q ⟨a, b, rfl⟩
      refine ⟨npE ms cs ts ps kp most (((ms.zip ps).take i).map (npass cs ts kp most)) (.v (nD p.1)) (.v (.int p.2)), rfl, ?_⟩
      have sz : ((((ms.zip ps).take i).map (npass cs ts kp most)).map D.int).length < sizeLine := by rw [List.length_map, List.length_map, List.length_take, List.length_zip, sz24]; omega
      have st : B_next_passes_1 (npE ms cs ts ps kp most (((ms.zip ps).take i).map (npass cs ts kp most)) (.v (nD p.1)) (.v (.int p.2))) = .nx (npE ms cs ts ps kp most (((ms.zip ps).take (i + 1)).map (npass cs ts kp most)) (.v (nD p.1)) (.v (.int p.2))) := by
        rw [List.take_succ, q, List.map_append]
        unfold npE B_next_passes_1
        rw [List.map_append]
        have t1 : (if decide (p.1 ∈ ts) = true then R.ok true else R.ok (decide (p.1 = kp))) = R.ok (decide (p.1 ∈ ts ∨ p.1 = kp)) := by
          by_cases c1 : p.1 ∈ ts
          · simp [c1]
          · simp [c1]
        simp only [sIf_ap, sApp_ap, tOr_ap, tV_ap, e2_ap, eA_ap, aC_ap, aN_ap, eC_ap, eV_succ, eV_zero, bind_ok, in_tup, eq_names, Bof_bl, t1, from_ok, gAdd_int, gMin_int, ownL_succ, ownL_zero, sz, if_true, List.set_cons_succ, List.set_cons_zero]
        by_cases c1 : p.1 ∈ ts ∨ p.1 = kp
        · have e1 : npass cs ts kp most p = 0 := if_pos c1
          simp [c1, e1]
        · by_cases c2 : p.1 ∈ overL cs ts kp
          · have e1 : npass cs ts kp most p = (if most < p.2 + 1 then most else p.2 + 1) := by unfold npass; rw [if_neg c1, if_pos c2]
            simp [c1, c2, e1]
          · have e1 : npass cs ts kp most p = p.2 := by unfold npass; rw [if_neg c1, if_neg c2]
            simp [c1, c2, e1]
      rw [st]
      exact ⟨_, _, rfl⟩)
  rw [List.take_length] at e
  unfold npE at e
  have po := passed_ok (cs := cs) (ts := ts) (kp := kp) hl
  have zm := zip_map nD D.int ms ps
  have z0 : (0 : Nat) ≤ sizeLine := Nat.zero_le _
  rw [List.map_nil] at e
  unfold F_next_passes G_next_passes
  simp only [runF_ap, show startE 10 [.tup (ms.map nD), .tup (ps.map .int), .tup (cs.map nD), .tup (ts.map nD), nD kp, .int most] = [.v (.tup (ms.map nD)), .v (.tup (ps.map .int)), .v (.tup (cs.map nD)), .v (.tup (ts.map nD)), .v (nD kp), .v (.int most), .no, .no, .no, .no] from rfl,
    sSq_ap, sSet_ap, sOwn_ap, lDisp_ap, sFor_ap, iZp2_ap, sFrz_ap, sRet_ap, eA_ap, aC_ap, aN_ap, eCall_ap, eV_zero, eV_succ, bind_ok, List.length_cons, List.length_nil, Nat.zero_add, Nat.reduceAdd, if_true, po, from_ok, sq_nx, List.set_cons_succ, List.set_cons_zero, z0, seqD_tup, optR_some, zm, e, frzE_succ, frzE_zero, frzS_l, gTuple_lst, out_rt]
end Tk

namespace Tk
open PySem PySem.Spec L2 PyProof.Rows
/-! ### least_raises -/
theorem ixN_nat {n k : Nat} (h : k < n) : ixN n (k : Int) = some k := by
  unfold L2.ixN
  simp [h]
theorem needed_eq (L : List Int) (v : Int) (beh : List Nat) (p : Nat) : gMax [.lst ([D.int v] ++ beh.map fun o => D.int (lg L o + if o < p then 1 else 0))] = .ok (.int (needed L v beh p)) := by
  have e : [D.int v] ++ beh.map (fun o => D.int (lg L o + if o < p then 1 else 0)) = (v :: beh.map fun o => lg L o + if o < p then 1 else 0).map .int := by
    rw [List.map_cons, List.map_map]; rfl
  rw [e]
  show (optR ((intsOf _).bind maxI)).bind _ = _
  rw [ints_map]
  rfl
def lrE (b : Bool) (bs : List Bd) (qs : List Nat) (s v : Int) (st : St3) (u7 u8 u9 u10 u11 u12 : Sl) : Ev := [.v (sqD b (bs.map dB)), .v (.lst (qs.map dN)), .v (.int s), .v (.int v), .l (st.L.map .int), .v (.lst (st.beh.map dN)), .l (st.R.map .int), u7, u8, u9, u10, u11, u12]
theorem lr_step {b : Bool} {bs : List Bd} (hb : okLd bs) {qs : List Nat} {s v : Int} {st : St3} (hL : st.L.length = bs.length) (hR : st.R.length = bs.length) (hB : st.beh.length ≤ 6) (hB2 : ∀ o ∈ st.beh, o < bs.length) {p : Nat} (hp : p < bs.length) (u8 u9 u10 u11 u12 : Sl) :
    ∃ t8 t9 t10 t11 t12 : Sl, B_least_raises_1 (lrE b bs qs s v st (.v (dN p)) u8 u9 u10 u11 u12) = .nx (lrE b bs qs s v (stp bs v p st) (.v (dN p)) t8 t9 t10 t11 t12) := by
  have l6 := hb.len
  obtain ⟨w1, w2⟩ : 1 ≤ wt bs p ∧ wt bs p ≤ 1000 := hb.each _ (by rw [List.getD_eq_getElem?_getD, List.getElem?_eq_getElem hp]; exact List.getElem_mem hp)
  have e1 := lc_all (inj := dN) (h := gN 12) (t := tsY) (fe := e2 gAdd (e2 gIx (eV 4) (eV 12)) (eIf (tV (e2 gLt (eV 12) (eV 7))) (eC (.int 1)) (eC (.int 0))))
    (ρ := [.v (sqD b (bs.map dB)), .v (.lst (qs.map dN)), .v (.int s), .v (.int v), .v (.lst (st.L.map .int)), .v (.lst (st.beh.map dN)), .v (.lst (st.R.map .int)), .v (dN p), frzS u8, frzS u9, frzS u10, frzS u11, .no]) (fun o => .int (lg st.L o + if o < p then 1 else 0)) (l := st.beh) fun o m =>
    ⟨[.v (sqD b (bs.map dB)), .v (.lst (qs.map dN)), .v (.int s), .v (.int v), .v (.lst (st.L.map .int)), .v (.lst (st.beh.map dN)), .v (.lst (st.R.map .int)), .v (dN p), frzS u8, frzS u9, frzS u10, frzS u11, .v (dN o)], rfl, rfl, by
      have g : gIx (.lst (st.L.map .int)) (dN o) = .ok (.int (lg st.L o)) := gIx_getD (j := (o : Int)) (by omega) (by have := hB2 o m; omega)
      simp only [e2_ap, eV_succ, eV_zero, eIf_ap, tV_ap, eC_ap, bind_ok, g, gLt_int, Bof_bl]
      by_cases c : o < p
      · rw [if_pos c, decide_eq_true (show (o : Int) < p by omega)]; rfl
      · rw [if_neg c, decide_eq_false (show ¬ (o : Int) < p by omega)]; rfl⟩
  have nx := needed_eq st.L v st.beh p
  have sz : (st.beh.map dN).length ≤ sizeLine := by rw [List.length_map, sz24]; omega
  have ga : gAdd (.lst [.int v]) (.lst (st.beh.map fun o => .int (lg st.L o + if o < p then 1 else 0))) = .ok (.lst ([.int v] ++ st.beh.map fun o => .int (lg st.L o + if o < p then 1 else 0))) := if_pos (by rw [List.length_map, List.length_singleton, sz24]; omega)
  have gb : gIx (sqD b (bs.map dB)) (dN p) = .ok (dB (bs.getD p bdz)) := gIx_sq (inj := dB) (by omega) (by rw [Int.toNat_natCast]; exact bs_get hp)
  have gd : gDiv (.int (-needed st.L v st.beh p)) (.int (wt bs p)) = .ok (.int (-needed st.L v st.beh p / wt bs p)) := gDiv_int (by omega) (by omega)
  have iR : ixN (st.R.map D.int).length (p : Int) = some p := ixN_nat (by rw [List.length_map]; omega)
  have iL : ixN (st.L.map D.int).length (p : Int) = some p := ixN_nat (by rw [List.length_map]; omega)
  have gr : gIx (.lst ((st.R.set p (lift (wt bs p) (bd bs p) (needed st.L v st.beh p))).map .int)) (dN p) = .ok (.int (lift (wt bs p) (bd bs p) (needed st.L v st.beh p))) := gIx_map (inj := D.int) (by omega) (by rw [Int.toNat_natCast, List.getElem?_set_self (by omega)])
  have gm : gMul (.int (wt bs p)) (.int (bd bs p + lift (wt bs p) (bd bs p) (needed st.L v st.beh p))) = .ok (.int (wt bs p * (bd bs p + lift (wt bs p) (bd bs p) (needed st.L v st.beh p)))) := mul_w (by omega) (by omega)
  have asg : gT 3 (gsC (gN 9) (gsC (gN 10) (gsC (gN 11) gsN))) (dB (bs.getD p bdz)) (lrE b bs qs s v st (.v (dN p)) (.v (.int (needed st.L v st.beh p))) u9 u10 u11 u12) = some (lrE b bs qs s v st (.v (dN p)) (.v (.int (needed st.L v st.beh p))) (.v (.str (S (bs.getD p bdz).1))) (.v (.int (wt bs p))) (.v (.int (bd bs p))) u12) := rfl
  have gl1 : ∀ x : D, gLst [x] = .ok (.lst [x]) := fun x => if_pos (by rw [sz24]; simp)
  have sc : ∀ i : Int, scalD (.int i) = true := fun _ => rfl
  have ms : ∀ (l : List Int) (x : Int), (l.map D.int).set p (.int x) = (l.set p x).map .int := fun l x => by rw [List.map_set]
  have lf : (if -(-needed st.L v st.beh p / wt bs p) - bd bs p > 0 then -(-needed st.L v st.beh p / wt bs p) - bd bs p else 0) = lift (wt bs p) (bd bs p) (needed st.L v st.beh p) := rfl
  refine ⟨.v (.int (needed st.L v st.beh p)), .v (.str (S (bs.getD p bdz).1)), .v (.int (wt bs p)), .v (.int (bd bs p)), u12, ?_⟩
  unfold lrE at *
  unfold B_least_raises_1
  simp only [sSq_ap, sSet_ap, eBor_ap, sAsg_ap, sPutL_ap, eLc_ap, iSq_ap, e2_ap, e1_ap, eA_ap, aC_ap, aN_ap, eC_ap, eV_succ, eV_zero, bind_ok, frzA_cons, frzA_nil, frzS_l, frzS_v, gIt_lst, sz, if_true, wipeE_cons, wipeE_nil, List.set_cons_succ, List.set_cons_zero, e1, gl1, ga, nx, quiet_ok, sc, from_ok, sq_nx, gb, asg, ofO_some, gNeg_int, gd, gSub_int, gMax_int, lf, ownL_succ, ownL_zero, iR, iL, ms, gr, gAdd_int, gm]
  rfl
theorem flat_ints {l : List Nat} : (l.map dN).all flatD = true := by rw [List.all_map]; exact List.all_eq_true.mpr fun _ _ => rfl
theorem inV_ints {k : Nat} {l : List Nat} : inV (toV (dN k)) ((l.map dN).map toV) = decide (k ∈ l) := by
  unfold inV
  rw [List.map_map, List.any_map, Bool.eq_iff_iff, List.any_eq_true, decide_eq_true_eq]
  constructor
  · rintro ⟨u, m, e⟩
    have e2 : ((u : Int) == (k : Int)) = true := e
    have : u = k := by have := eq_of_beq e2; omega
    rw [← this]
    exact m
  · intro m
    exact ⟨k, m, by show ((k : Int) == (k : Int)) = true; exact beq_self_eq_true _⟩
theorem nin_ints {k : Nat} {l : List Nat} : gInS true (dN k) (.lst (l.map dN)) = .ok (.bl (!decide (k ∈ l))) := by
  show (if flatD (dN k) = true ∧ (l.map dN).all flatD = true then R.ok (D.bl (if true = true then !inV (toV (dN k)) ((l.map dN).map toV) else inV (toV (dN k)) ((l.map dN).map toV))) else gInP true (dN k) (l.map dN)) = _
  rw [if_pos ⟨rfl, flat_ints⟩, if_pos rfl, inV_ints]
def beh0 (bs : List Bd) (qs : List Nat) (v : Int) : List Nat := (List.range bs.length).filter fun k => (!decide (k ∈ qs)) && decide (v ≤ lg (bs.map load) k)
def st0 (bs : List Bd) (qs : List Nat) (v : Int) : St3 := ⟨bs.map load, bs.map fun _ => 0, beh0 bs qs v⟩
def rsOf (bs : List Bd) (qs : List Nat) (v : Int) : List Int := (run3 bs v (st0 bs qs v) qs).R
theorem beh0_mem {bs : List Bd} {qs : List Nat} {v : Int} {k : Nat} : k ∈ beh0 bs qs v ↔ k < bs.length ∧ k ∉ qs ∧ v ≤ lg (bs.map load) k := by
  unfold beh0
  rw [List.mem_filter, List.mem_range, Bool.and_eq_true, Bool.not_eq_true', decide_eq_false_iff_not, decide_eq_true_eq]
theorem beh0_len {bs : List Bd} {qs : List Nat} {v : Int} : (beh0 bs qs v).length ≤ bs.length := by
  have := List.length_filter_le (fun k => (!decide (k ∈ qs)) && decide (v ≤ lg (bs.map load) k)) (List.range bs.length)
  rwa [List.length_range] at this
theorem nodup_len {l : List Nat} {n : Nat} (nd : l.Nodup) (h : ∀ k ∈ l, k < n) : l.length ≤ n := by
  have := List.Nodup.length_le_of_subset nd (l₂ := List.range n) fun k m => List.mem_range.mpr (h k m)
  rwa [List.length_range] at this
theorem lr_loop {b : Bool} {bs : List Bd} (hb : okLd bs) {qs : List Nat} (nd : qs.Nodup) (hq : ∀ k ∈ qs, k < bs.length) {s v : Int} : ∃ u7 u8 u9 u10 u11 u12 : Sl, loop (gN 7) B_least_raises_1 (qs.reverse.map dN) (lrE b bs qs s v (st0 bs qs v) .no .no .no .no .no .no) = .nx (lrE b bs qs s v (run3 bs v (st0 bs qs v) qs) u7 u8 u9 u10 u11 u12) := by
  obtain ⟨ρ', e, u7, u8, u9, u10, u11, u12, rfl⟩ := loop_map (inj := dN) (h := gN 7) (body := B_least_raises_1) (l := qs.reverse) (ρ := lrE b bs qs s v (st0 bs qs v) .no .no .no .no .no .no)
    (fun i ρ => ∃ u7 u8 u9 u10 u11 u12 : Sl, ρ = lrE b bs qs s v (run3 bs v (st0 bs qs v) (qs.reverse.take i).reverse) u7 u8 u9 u10 u11 u12) ⟨_, _, _, _, _, _, rfl⟩ (by
      rintro i p ρ hp ⟨u7, u8, u9, u10, u11, u12, rfl⟩
      have mp : p ∈ qs := List.mem_reverse.mp (List.mem_of_getElem? hp)
      have sub : (qs.reverse.take i).reverse.Sublist qs := by
        have := (List.take_sublist i qs.reverse).reverse
        rwa [List.reverse_reverse] at this
      have rz := rz_ok hb (v := v) (beh0 := beh0 bs qs v) (T := (qs.reverse.take i).reverse) (sub.nodup nd) (fun k m => hq k (sub.subset m)) (fun k m z => (beh0_mem.mp z).2.1 (sub.subset m))
      have rb := rz.beh
      have hB : (run3 bs v (st0 bs qs v) (qs.reverse.take i).reverse).beh.length ≤ 6 ∧ ∀ o ∈ (run3 bs v (st0 bs qs v) (qs.reverse.take i).reverse).beh, o < bs.length := by
        unfold st0
        rw [rb]
        cases eT : (qs.reverse.take i).reverse with
        | nil => exact ⟨Nat.le_trans beh0_len hb.len, fun o m => (beh0_mem.mp m).1⟩
        | cons t T' =>
          refine ⟨by simp [behT], fun o m => ?_⟩
          rw [List.mem_singleton.mp m]
          exact hq t (sub.subset (by rw [eT]; exact List.mem_cons_self))
      obtain ⟨t8, t9, t10, t11, t12, es⟩ := lr_step (b := b) hb (qs := qs) (s := s) (v := v) (st := run3 bs v (st0 bs qs v) (qs.reverse.take i).reverse) rz.lenL rz.lenR hB.1 hB.2 (hq p mp) u8 u9 u10 u11 u12
      refine ⟨lrE b bs qs s v (run3 bs v (st0 bs qs v) (qs.reverse.take i).reverse) (.v (dN p)) u8 u9 u10 u11 u12, rfl, ?_⟩
      rw [es]
      refine ⟨.v (dN p), t8, t9, t10, t11, t12, ?_⟩
      have et : (qs.reverse.take (i + 1)).reverse = p :: (qs.reverse.take i).reverse := by rw [List.take_succ, hp, Option.toList_some, List.reverse_append]; rfl
      rw [et]
      rfl)
  rw [List.take_length, List.reverse_reverse] at e
  exact ⟨u7, u8, u9, u10, u11, u12, e⟩
theorem least_ok {b : Bool} {bs : List Bd} (hb : okLd bs) {qs : List Nat} (nd : qs.Nodup) (hq : ∀ k ∈ qs, k < bs.length) {s v : Int} : F_least_raises [sqD b (bs.map dB), .lst (qs.map dN), .int s, .int v] =
    .ok (if s < qs.length ∨ (qs.length < s ∧ beh0 bs qs v ≠ []) then .non else .tup ((rsOf bs qs v).map .int)) := by
  have l6 := hb.len
  have so := strengths_o (b := b) hb
  obtain ⟨u7, u8, u9, u10, u11, u12, el⟩ := lr_loop (b := b) hb nd hq (s := s) (v := v)
  have sm : small62 (bs.length : Int) := small_rg (by omega) (by omega)
  have szr : (rgD 0 bs.length).length ≤ sizeLine := by rw [rgD_len, sz24]; omega
  have ll : gLen [sqD b (bs.map dB)] = .ok (.int bs.length) := by rw [gLen_sq, List.length_map]
  have e1 := lc_rg (h := gN 7) (t := tBor (tAnd (tV (e2 (gInS true) (eV 7) (eV 1))) (tV (e2 gGe (e2 gIx (eV 4) (eV 7)) (eV 3))))) (fe := eV 7) (n := bs.length)
    (ρ := [.v (sqD b (bs.map dB)), .v (.lst (qs.map dN)), .v (.int s), .v (.int v), .l ((bs.map load).map .int), .no, .no, .no, .no, .no, .no, .no, .no]) (fun k => (!decide (k ∈ qs)) && decide (v ≤ lg (bs.map load) k)) dN fun k hk =>
    ⟨[.v (sqD b (bs.map dB)), .v (.lst (qs.map dN)), .v (.int s), .v (.int v), .l ((bs.map load).map .int), .no, .no, .v (dN k), .no, .no, .no, .no, .no], rfl, by
      have g : gIx (.lst ((bs.map load).map .int)) (dN k) = .ok (.int (lg (bs.map load) k)) := gIx_getD (j := (k : Int)) (by omega) (by rw [List.length_map]; omega)
      simp only [tBor_ap, frzA_cons, frzA_nil, frzS_l, frzS_v, frzS_no, tAnd_ap, tV_ap, e2_ap, eV_succ, eV_zero, bind_ok, nin_ints, g, gGe_int, Bof_bl]
      cases c : decide (k ∈ qs) <;> simp, fun _ => rfl⟩
  have e2 := lc_all (inj := dB) (h := gN 9) (t := tsY) (fe := eC (.int 0)) (ρ := [.v (sqD b (bs.map dB)), .v (.lst (qs.map dN)), .v (.int s), .v (.int v), .l ((bs.map load).map .int), .v (.lst ((beh0 bs qs v).map dN)), .no, .no, .no, .no, .no, .no, .no]) (fun _ => .int 0) (l := bs) fun x m => ⟨[.v (sqD b (bs.map dB)), .v (.lst (qs.map dN)), .v (.int s), .v (.int v), .l ((bs.map load).map .int), .v (.lst ((beh0 bs qs v).map dN)), .no, .no, .no, .v (dB x), .no, .no, .no], rfl, rfl, rfl⟩
  have ez : bs.map (fun _ => D.int 0) = (bs.map fun _ => (0 : Int)).map .int := by rw [List.map_map]; rfl
  have sz : (bs.map dB).length ≤ sizeLine := by rw [List.length_map, sz24]; omega
  have gq : gLen [.lst (qs.map dN)] = .ok (.int qs.length) := by rw [gLen_lst, List.length_map]
  have gb : gLen [.lst ((beh0 bs qs v).map dN)] = .ok (.int (beh0 bs qs v).length) := by rw [gLen_lst, List.length_map]
  have rv : gRev (.lst (qs.map dN)) = .ok (.lst (qs.reverse.map dN)) := by rw [gRev_lst, List.map_reverse]
  have szq : (qs.reverse.map dN).length ≤ sizeLine := by
    rw [List.length_map, List.length_reverse, sz24]
    have := nodup_len nd hq
    omega
  have eF : (List.range bs.length).filter (fun k => (!decide (k ∈ qs)) && decide (v ≤ lg (bs.map load) k)) = beh0 bs qs v := rfl
  rw [eF] at e1
  have el' : loop (gN 7) B_least_raises_1 (qs.reverse.map dN) [.v (sqD b (bs.map dB)), .v (.lst (qs.map dN)), .v (.int s), .v (.int v), .l ((bs.map load).map .int), .v (.lst ((beh0 bs qs v).map dN)), .l ((bs.map fun _ => (0 : Int)).map .int), .no, .no, .no, .no, .no, .no] = _ := el
  have z0 : (bs.map fun _ => (0 : Int)).map D.int = bs.map fun _ => D.int 0 := ez.symm
  unfold lrE at el'
  have tp : gTuple [.lst ((run3 bs v (st0 bs qs v) qs).R.map .int)] = .ok (.tup ((run3 bs v (st0 bs qs v) qs).R.map .int)) := rfl
  unfold F_least_raises G_least_raises
  by_cases c1 : s < (qs.length : Int)
  · rw [if_pos (Or.inl c1)]
    have d1 := decide_eq_true c1
    simp only [runF_ap, show startE 13 [sqD b (bs.map dB), .lst (qs.map dN), .int s, .int v] = [.v (sqD b (bs.map dB)), .v (.lst (qs.map dN)), .v (.int s), .v (.int v), .no, .no, .no, .no, .no, .no, .no, .no, .no] from rfl, sSq_ap, sNew_ap, oCall_ap, sSet_ap, sIf_ap, sRet_ap, sN_ap, sOwn_ap, sFor_ap, sFrz_ap, eLc_ap, lLc_ap, iR1_ap, iSq_ap, eA_ap, e1_ap, e2_ap, aC_ap, aN_ap, eC_ap, tOr_ap, tAnd_ap, tV_ap, eV_zero, eV_succ, bind_ok, List.length_cons, List.length_nil, Nat.zero_add, if_true, so, own_lT, from_ok, sq_nx, List.set_cons_succ, List.set_cons_zero, ll, sm, Int.toNat_natCast, szr, wipeE_cons, wipeE_nil, e1, gq, gb, gGt_int, gLt_int, Bof_bl, d1, sq_rt, out_rt]
  · have d1 := decide_eq_false c1
    by_cases c2 : (qs.length : Int) < s ∧ beh0 bs qs v ≠ []
    · have c3 : (0 : Int) < (beh0 bs qs v).length := by have := List.length_pos_iff.mpr c2.2; omega
      rw [if_pos (Or.inr c2)]
      have d2 := decide_eq_true c2.1
      have d3 := decide_eq_true c3
      simp only [runF_ap, show startE 13 [sqD b (bs.map dB), .lst (qs.map dN), .int s, .int v] = [.v (sqD b (bs.map dB)), .v (.lst (qs.map dN)), .v (.int s), .v (.int v), .no, .no, .no, .no, .no, .no, .no, .no, .no] from rfl, sSq_ap, sNew_ap, oCall_ap, sSet_ap, sIf_ap, sRet_ap, sN_ap, sOwn_ap, sFor_ap, sFrz_ap, eLc_ap, lLc_ap, iR1_ap, iSq_ap, eA_ap, e1_ap, e2_ap, aC_ap, aN_ap, eC_ap, tOr_ap, tAnd_ap, tV_ap, eV_zero, eV_succ, bind_ok, List.length_cons, List.length_nil, Nat.zero_add, if_true, so, own_lT, from_ok, sq_nx, List.set_cons_succ, List.set_cons_zero, ll, sm, Int.toNat_natCast, szr, wipeE_cons, wipeE_nil, e1, gq, gb, gGt_int, gLt_int, Bof_bl, d1, d2, d3, Bool.false_eq_true, if_false, sq_rt, out_rt]
    · rw [if_neg (fun z => z.elim c1 c2)]
      by_cases z : (qs.length : Int) < s
      · have eb : beh0 bs qs v = [] := Classical.byContradiction fun e => c2 ⟨z, e⟩
        have d2 := decide_eq_true z
        have d3 : decide ((0 : Int) < (beh0 bs qs v).length) = false := by rw [eb]; rfl
        simp only [runF_ap, show startE 13 [sqD b (bs.map dB), .lst (qs.map dN), .int s, .int v] = [.v (sqD b (bs.map dB)), .v (.lst (qs.map dN)), .v (.int s), .v (.int v), .no, .no, .no, .no, .no, .no, .no, .no, .no] from rfl, sSq_ap, sNew_ap, oCall_ap, sSet_ap, sIf_ap, sRet_ap, sN_ap, sOwn_ap, sFor_ap, sFrz_ap, eLc_ap, lLc_ap, iR1_ap, iSq_ap, eA_ap, e1_ap, e2_ap, aC_ap, aN_ap, eC_ap, tOr_ap, tAnd_ap, tV_ap, eV_zero, eV_succ, bind_ok, List.length_cons, List.length_nil, Nat.zero_add, if_true, so, own_lT, from_ok, sq_nx, List.set_cons_succ, List.set_cons_zero, ll, sm, Int.toNat_natCast, szr, wipeE_cons, wipeE_nil, e1, gq, gb, gGt_int, gLt_int, Bof_bl, d1, d2, d3, Bool.false_eq_true, if_false, sz, e2, ez, rv, gIt_lst, gIt_sq, szq, el', frzE_succ, frzE_zero, frzS_l, tp, out_rt]
        rfl
      · have d2 := decide_eq_false z
        simp only [runF_ap, show startE 13 [sqD b (bs.map dB), .lst (qs.map dN), .int s, .int v] = [.v (sqD b (bs.map dB)), .v (.lst (qs.map dN)), .v (.int s), .v (.int v), .no, .no, .no, .no, .no, .no, .no, .no, .no] from rfl, sSq_ap, sNew_ap, oCall_ap, sSet_ap, sIf_ap, sRet_ap, sN_ap, sOwn_ap, sFor_ap, sFrz_ap, eLc_ap, lLc_ap, iR1_ap, iSq_ap, eA_ap, e1_ap, e2_ap, aC_ap, aN_ap, eC_ap, tOr_ap, tAnd_ap, tV_ap, eV_zero, eV_succ, bind_ok, List.length_cons, List.length_nil, Nat.zero_add, if_true, so, own_lT, from_ok, sq_nx, List.set_cons_succ, List.set_cons_zero, ll, sm, Int.toNat_natCast, szr, wipeE_cons, wipeE_nil, e1, gq, gb, gGt_int, gLt_int, Bof_bl, d1, d2, Bool.false_eq_true, if_false, sz, e2, ez, rv, gIt_lst, gIt_sq, szq, el', frzE_succ, frzE_zero, frzS_l, tp, out_rt]
        rfl
end Tk

namespace Tk
open PySem PySem.Spec L2 PyProof.Rows
/-! ### raises_for -/
def nmW (bs : List Bd) (k : Nat) : List Nat := (bs.getD k bdz).1
def wsh (bs : List Bd) (qs : List Nat) : List (List Nat) := qs.map (nmW bs)
theorem nmW_get {bs : List Bd} {k : Nat} (h : k < bs.length) : (bs.map (·.1))[k]? = some (nmW bs k) := by rw [List.getElem?_map, bs_get h]; rfl
theorem nmW_mem {bs : List Bd} {k : Nat} (h : k < bs.length) : nmW bs k ∈ bs.map (·.1) := List.mem_of_getElem? (nmW_get h)
theorem nmW_inj {bs : List Bd} (h : okCrew bs) {j k : Nat} (hj : j < bs.length) (hk : k < bs.length) (e : nmW bs j = nmW bs k) : j = k := by
  have l : (bs.map (·.1)).length = bs.length := List.length_map _
  have e1 := (List.getElem?_eq_some_iff.mp (nmW_get hj)).2
  have e2 := (List.getElem?_eq_some_iff.mp (nmW_get hk)).2
  have nd : (bs.map (·.1)).Nodup := h.nd
  rcases Nat.lt_trichotomy j k with z | z | z
  · exact absurd (e1.trans (e.trans e2.symm)) (List.pairwise_iff_getElem.mp nd j k (by omega) (by omega) z)
  · exact z
  · exact absurd (e2.trans (e.symm.trans e1.symm)) (List.pairwise_iff_getElem.mp nd k j (by omega) (by omega) z)
theorem wsh_mem {bs : List Bd} (h : okCrew bs) {qs : List Nat} (hq : ∀ k ∈ qs, k < bs.length) {k : Nat} (hk : k < bs.length) : nmW bs k ∈ wsh bs qs ↔ k ∈ qs := by
  constructor
  · intro m
    obtain ⟨j, mj, e⟩ := List.mem_map.mp m
    exact nmW_inj h (hq j mj) hk e ▸ mj
  · exact fun m => List.mem_map_of_mem m
theorem idxD_nm {ws : List (List Nat)} {w : List Nat} (h : w ∈ ws) : ∀ j : Nat, idxD (nD w) (ws.map nD) j = some (j + ws.idxOf w) := by
  induction ws with
  | nil => cases h
  | cons v ws ih =>
    intro j
    show (if eqV (toV (nD v)) (toV (nD w)) = true then some j else idxD (nD w) (ws.map nD) (j + 1)) = _
    by_cases z : v = w
    · have e : eqV (toV (nD v)) (toV (nD w)) = true := by rw [z]; exact beq_self_eq_true _
      rw [if_pos e, List.idxOf_cons, z]
      simp
    · have e : ¬ eqV (toV (nD v)) (toV (nD w)) = true := fun q => z (S_inj (eq_of_beq (show (S v == S w) = true from q)))
      have h2 : w ∈ ws := (List.mem_cons.mp h).resolve_left (Ne.symm z)
      rw [if_neg e, ih h2, List.idxOf_cons, beq_eq_false_iff_ne.mpr z]
      simp
      omega
theorem idx_at {bs : List Bd} (h : okCrew bs) {k : Nat} (hk : k < bs.length) : gIdx ((bs.map (·.1)).map nD) [nD (nmW bs k)] = .ok (dN k) := by
  have hw := nmW_mem hk
  have e2 := (List.getElem?_eq_some_iff.mp (nmW_get hk)).2
  have nd : (bs.map (·.1)).Nodup := h.nd
  have hi : (bs.map (·.1)).idxOf (nmW bs k) = k := by
    rw [← e2]
    exact nd.idxOf_getElem ..
  show (if flatD (nD (nmW bs k)) = true ∧ ((bs.map (·.1)).map nD).all flatD = true then (optR (idxD (nD (nmW bs k)) ((bs.map (·.1)).map nD) 0)).bind fun j => R.ok (D.int (j : Int)) else .bad) = _
  rw [if_pos ⟨rfl, flat_names⟩, idxD_nm hw, Nat.zero_add, hi]
  rfl
theorem check_known_ok {ws : List (List Nat)} {w : List Nat} (h : w ∈ ws) : F_check_known [.lst (ws.map nD), .lst [nD w]] = .ok .non := by
  have e1 : gInS true (nD w) (.lst (ws.map nD)) = .ok (.bl false) := by rw [nin_lst, decide_eq_true h]; rfl
  have sz : ([nD w] : List D).length ≤ sizeLine := by rw [sz24]; simp
  have st : B_check_known_1 [.v (.lst (ws.map nD)), .v (.lst [nD w]), .v (nD w)] = .nx [.v (.lst (ws.map nD)), .v (.lst [nD w]), .v (nD w)] := by
    unfold B_check_known_1
    simp only [sIf_ap, tV_ap, e2_ap, eV_succ, eV_zero, bind_ok, e1, Bof_bl, from_ok, Bool.false_eq_true, if_false, sN_ap]
  have lp : loop (gN 2) B_check_known_1 [nD w] [.v (.lst (ws.map nD)), .v (.lst [nD w]), .no] = .nx [.v (.lst (ws.map nD)), .v (.lst [nD w]), .v (nD w)] := by
    rw [loop_cons]
    show (SO.lp (B_check_known_1 [.v (.lst (ws.map nD)), .v (.lst [nD w]), .v (nD w)]) _) = _
    rw [st]
    rfl
  unfold F_check_known G_check_known
  simp only [runF_ap, show startE 3 [.lst (ws.map nD), .lst [nD w]] = [.v (.lst (ws.map nD)), .v (.lst [nD w]), .no] from rfl, sFor_ap, iSq_ap, eV_succ, eV_zero, bind_ok, gIt_lst, from_ok, lp, out_nx]
theorem in_take {ws : List (List Nat)} (nd : ws.Nodup) {i : Nat} {w : List Nat} (hi : ws[i]? = some w) : gInS false (nD w) (.tup ((ws.map nD).take i)) = .ok (.bl false) := by
  rw [← List.map_take, in_tup]
  have : w ∉ ws.take i := fun m => by
    obtain ⟨j, hj, e⟩ := List.mem_iff_getElem.mp m
    rw [List.getElem_take] at e
    rw [List.length_take] at hj
    obtain ⟨h2, e2⟩ := List.getElem?_eq_some_iff.mp hi
    exact List.pairwise_iff_getElem.mp nd j i (by omega) h2 (by omega) (e.trans e2.symm)
  rw [decide_eq_false this]
theorem wsh_nodup {bs : List Bd} (h : okCrew bs) {qs : List Nat} (nd : qs.Nodup) (hq : ∀ k ∈ qs, k < bs.length) : (wsh bs qs).Nodup := by
  unfold wsh
  refine List.pairwise_map.mpr (nd.imp_of_mem fun ma mb ne e => ne (nmW_inj h (hq _ ma) (hq _ mb) e))
theorem raises_for_ok {b : Bool} {bs : List Bd} (h : okCrew bs) {qs : List Nat} (nd : qs.Nodup) (hq : ∀ k ∈ qs, k < bs.length) {s v : Int} (s1 : 1 ≤ s) (s3 : s ≤ 3) (f0 : 0 ≤ v) (f1 : v ≤ 1000000000000) : F_raises_for [sqD b (bs.map dB), .tup ((wsh bs qs).map nD), .int s, .int v] =
    .ok (if s < qs.length ∨ (qs.length < s ∧ beh0 bs qs v ≠ []) then .non else .tup ((rsOf bs qs v).map .int)) := by
  have l6 := h.len
  have lq := nodup_len nd hq
  have c1 := check_ok (b := b) h
  have c2 : F_check_hours [.int s] = .ok .non := by
    unfold F_check_hours G_check_hours
    simp [s1, s3]
  have c3 : F_check_floor [.int v] = .ok .non := by
    unfold F_check_floor G_check_floor
    simp [f0, f1]
  have kn : F_names_of [sqD b (bs.map dB)] = .ok (.lst ((bs.map (·.1)).map nD)) := names_of_ok (b := b) (bs := bs) (by omega)
  have wm : ∀ w ∈ wsh bs qs, w ∈ bs.map (·.1) := fun w m => by
    obtain ⟨k, mk, rfl⟩ := List.mem_map.mp m
    exact nmW_mem (hq k mk)
  have wl : (wsh bs qs).length = qs.length := List.length_map _
  have wn := wsh_nodup h nd hq
  obtain ⟨ρ', e, u5, u6, rfl⟩ := loop_en (inj := nD) (h := gT 2 (gsC (gN 5) (gsC (gN 6) gsN))) (body := B_raises_for_1) (l := wsh bs qs)
    (ρ := [.v (sqD b (bs.map dB)), .v (.tup ((wsh bs qs).map nD)), .v (.int s), .v (.int v), .v (.lst ((bs.map (·.1)).map nD)), .no, .no])
    (fun i ρ => ∃ u5 u6 : Sl, ρ = [.v (sqD b (bs.map dB)), .v (.tup ((wsh bs qs).map nD)), .v (.int s), .v (.int v), .v (.lst ((bs.map (·.1)).map nD)), u5, u6]) ⟨_, _, rfl⟩ (by
      rintro i w ρ hi ⟨u5, u6, rfl⟩
      refine ⟨[.v (sqD b (bs.map dB)), .v (.tup ((wsh bs qs).map nD)), .v (.int s), .v (.int v), .v (.lst ((bs.map (·.1)).map nD)), .v (.int (i : Int)), .v (nD w)], rfl, ?_⟩
      have ck := check_known_ok (wm w (List.mem_of_getElem? hi))
      have sl : gSl (.tup ((wsh bs qs).map nD)) none (some (i : Int)) = .ok (.tup (((wsh bs qs).map nD).take i)) := by
        have := gSl_sq (b := true) (xs := (wsh bs qs).map nD) (j := (i : Int)) (by omega)
        rw [Int.toNat_natCast] at this
        exact this
      have it := in_take wn hi
      have gl1 : gLst [nD w] = .ok (.lst [nD w]) := if_pos (by rw [sz24]; simp)
      have st : B_raises_for_1 [.v (sqD b (bs.map dB)), .v (.tup ((wsh bs qs).map nD)), .v (.int s), .v (.int v), .v (.lst ((bs.map (·.1)).map nD)), .v (.int (i : Int)), .v (nD w)] = .nx [.v (sqD b (bs.map dB)), .v (.tup ((wsh bs qs).map nD)), .v (.int s), .v (.int v), .v (.lst ((bs.map (·.1)).map nD)), .v (.int (i : Int)), .v (nD w)] := by
        unfold B_raises_for_1
        simp only [sSq_ap, sDrop_ap, sIf_ap, tV_ap, e2_ap, eA_ap, eCall_ap, eSl_ap, oN_ap, oS_ap, aC_ap, aN_ap, eV_succ, eV_zero, bind_ok, List.length_cons, List.length_nil, Nat.zero_add, Nat.reduceAdd, if_true, gl1, ck, from_ok, sq_nx, sl, it, Bof_bl, Bool.false_eq_true, if_false, sN_ap]
      rw [st]
      exact ⟨_, _, rfl⟩)
  have ix := lc_all (inj := nmD bs) (h := gN 6) (t := tsY) (fe := eMtL gIdx (eV 4) (aC (eV 6) (aN))) (ρ := [.v (sqD b (bs.map dB)), .v (.tup ((wsh bs qs).map nD)), .v (.int s), .v (.int v), .v (.lst ((bs.map (·.1)).map nD)), u5, .no]) dN (l := qs) fun k m =>
    ⟨[.v (sqD b (bs.map dB)), .v (.tup ((wsh bs qs).map nD)), .v (.int s), .v (.int v), .v (.lst ((bs.map (·.1)).map nD)), u5, .v (nmD bs k)], rfl, rfl, by
      have := idx_at h (hq k m)
      unfold eMtL
      simp only [aC_ap, aN_ap, eV_succ, eV_zero, bind_ok]
      exact this⟩
  have em : qs.map (nmD bs) = (wsh bs qs).map nD := by unfold wsh; rw [List.map_map]; rfl
  rw [em] at ix
  have sz : ((wsh bs qs).map nD).length ≤ sizeLine := by rw [List.length_map, wl, sz24]; omega
  have lo := least_ok (b := b) h.ld nd hq (s := s) (v := v)
  unfold F_raises_for G_raises_for
  simp only [runF_ap, show startE 7 [sqD b (bs.map dB), .tup ((wsh bs qs).map nD), .int s, .int v] = [.v (sqD b (bs.map dB)), .v (.tup ((wsh bs qs).map nD)), .v (.int s), .v (.int v), .no, .no, .no] from rfl, sSq_ap, sDrop_ap, sSet_ap, sFor_ap, sRet_ap, iEn2_ap, eLc_ap, iSq_ap, eCall_ap, aC_ap, aN_ap, eV_succ, eV_zero, bind_ok, List.length_cons, List.length_nil, Nat.zero_add, Nat.reduceAdd, if_true, c1, c2, c3, kn, from_ok, sq_nx, List.set_cons_succ, List.set_cons_zero, gIt_tup, seqD_tup, optR_some, sz, e, wipeE_cons, wipeE_nil, ix, lo, out_rt]
end Tk

namespace Tk
open PySem PySem.Spec L2 PyProof.Rows
/-! ### _law_raised -/
def up1 (bs : List Bd) (R : List Int) (k : Nat) : Bd := (nmW bs k, wt bs k, bd bs k + lg R k)
def ups (bs : List Bd) (R : List Int) : List Bd := (List.range bs.length).map (up1 bs R)
theorem ups_len {bs : List Bd} {R : List Int} : (ups bs R).length = bs.length := by unfold ups; rw [List.length_map, List.length_range]
theorem raised_ok {bs : List Bd} (l6 : bs.length ≤ 6) {R : List Int} (hR : R.length = bs.length) : F__law_raised [.lst (bs.map dB), .tup (R.map .int)] = .ok (.lst ((ups bs R).map dB)) := by
  obtain ⟨ρ', e, u3, u4, u5, u6, rfl⟩ := loop_rg (h := gN 3) (body := B__law_raised_1) (lo := 0) (n := bs.length) (ρ := [.v (.lst (bs.map dB)), .v (.tup (R.map .int)), .l [], .no, .no, .no, .no])
    (fun i ρ => ∃ u3 u4 u5 u6 : Sl, ρ = [.v (.lst (bs.map dB)), .v (.tup (R.map .int)), .l (((List.range i).map (up1 bs R)).map dB), u3, u4, u5, u6]) ⟨_, _, _, _, rfl⟩ (by
      rintro k ρ hk ⟨u3, u4, u5, u6, rfl⟩
      refine ⟨[.v (.lst (bs.map dB)), .v (.tup (R.map .int)), .l (((List.range k).map (up1 bs R)).map dB), .v (dN k), u4, u5, u6], by rw [Int.zero_add]; rfl, ?_⟩
      have gb : gIx (.lst (bs.map dB)) (dN k) = .ok (dB (bs.getD k bdz)) := gIx_map (inj := dB) (by omega) (by rw [Int.toNat_natCast]; exact bs_get hk)
      have gr : gIx (.tup (R.map .int)) (dN k) = .ok (.int (lg R k)) := gIx_mapT (inj := D.int) (by omega) (by rw [Int.toNat_natCast]; unfold lg; rw [List.getD_eq_getElem?_getD, List.getElem?_eq_getElem (by omega)]; rfl)
      have asg : gT 3 (gsC (gN 4) (gsC (gN 5) (gsC (gN 6) gsN))) (dB (bs.getD k bdz)) [.v (.lst (bs.map dB)), .v (.tup (R.map .int)), .l (((List.range k).map (up1 bs R)).map dB), .v (dN k), u4, u5, u6] = some [.v (.lst (bs.map dB)), .v (.tup (R.map .int)), .l (((List.range k).map (up1 bs R)).map dB), .v (dN k), .v (nD (nmW bs k)), .v (.int (wt bs k)), .v (.int (bd bs k))] := rfl
      have gt : ∀ x y z : D, gTup [x, y, z] = .ok (.tup [x, y, z]) := fun _ _ _ => if_pos (by rw [sz24]; simp)
      have sa : (((List.range k).map (up1 bs R)).map dB).length < sizeLine := by rw [List.length_map, List.length_map, List.length_range, sz24]; omega
      have st : B__law_raised_1 [.v (.lst (bs.map dB)), .v (.tup (R.map .int)), .l (((List.range k).map (up1 bs R)).map dB), .v (dN k), u4, u5, u6] = .nx [.v (.lst (bs.map dB)), .v (.tup (R.map .int)), .l (((List.range k).map (up1 bs R)).map dB ++ [dB (up1 bs R k)]), .v (dN k), .v (nD (nmW bs k)), .v (.int (wt bs k)), .v (.int (bd bs k))] := by
        unfold B__law_raised_1
        simp only [sSq_ap, sAsg_ap, sApp_ap, e2_ap, eA_ap, aC_ap, aN_ap, eV_succ, eV_zero, bind_ok, gb, from_ok, asg, ofO_some, sq_nx, gr, gAdd_int, gt, ownL_succ, ownL_zero, sa, if_true, List.set_cons_succ, List.set_cons_zero]
        rfl
      rw [st]
      refine ⟨.v (dN k), .v (nD (nmW bs k)), .v (.int (wt bs k)), .v (.int (bd bs k)), ?_⟩
      rw [List.range_succ, List.map_append, List.map_append]
      rfl)
  have sm : small62 (bs.length : Int) := small_rg (by omega) (by omega)
  have ll : (bs.map dB).length = bs.length := List.length_map _
  have z0 : (0 : Nat) ≤ sizeLine := Nat.zero_le _
  unfold F__law_raised G__law_raised
  simp only [runF_ap, show startE 7 [.lst (bs.map dB), .tup (R.map .int)] = [.v (.lst (bs.map dB)), .v (.tup (R.map .int)), .no, .no, .no, .no, .no] from rfl, sSq_ap, sOwn_ap, lDisp_ap, sFor_ap, iR1_ap, sFrz_ap, sRet_ap, eA_ap, aC_ap, aN_ap, eV_zero, eV_succ, bind_ok, List.length_nil, z0, if_true, from_ok, sq_nx, List.set_cons_succ, List.set_cons_zero, gLen_lst, ll, sm, Int.toNat_natCast, e, frzE_succ, frzE_zero, frzS_l, out_rt]
  rfl
theorem ups_get {bs : List Bd} {R : List Int} {k : Nat} (h : k < bs.length) : (ups bs R).getD k bdz = up1 bs R k := by
  unfold ups
  rw [List.getD_eq_getElem?_getD, List.getElem?_map, List.getElem?_range h]
  rfl
theorem ups_ld {bs : List Bd} (h : okLd bs) {R : List Int} : okLd (ups bs R) := ⟨by rw [ups_len]; exact h.len, fun b m => by
  obtain ⟨k, mk, rfl⟩ := List.mem_map.mp m
  have hk := List.mem_range.mp mk
  exact h.each (bs.getD k bdz) (List.mem_of_getElem? (bs_get hk))⟩
theorem ups_load {bs : List Bd} {R : List Int} {k : Nat} (h : k < bs.length) : lg ((ups bs R).map load) k = wt bs k * (bd bs k + lg R k) := by
  unfold lg ups
  rw [List.getD_eq_getElem?_getD, List.getElem?_map, List.getElem?_map, List.getElem?_range h]
  rfl
end Tk

namespace Tk
open PySem PySem.Spec L2 PyProof.Rows
/-! ### the raises bring the places about -/
theorem rz_of {bs : List Bd} (h : okLd bs) {qs : List Nat} (nd : qs.Nodup) (hq : ∀ k ∈ qs, k < bs.length) (v : Int) : Rz bs v (beh0 bs qs v) qs (run3 bs v (st0 bs qs v) qs) := rz_ok h nd hq fun k m z => (beh0_mem.mp z).2.1 m
theorem load_eq {bs : List Bd} {k : Nat} (h : k < bs.length) : lg (bs.map load) k = wt bs k * bd bs k := by
  unfold lg
  rw [List.getD_eq_getElem?_getD, List.getElem?_map, bs_get h]
  rfl
theorem ups_L {bs : List Bd} (h : okLd bs) {qs : List Nat} (nd : qs.Nodup) (hq : ∀ k ∈ qs, k < bs.length) {v : Int} : (ups bs (rsOf bs qs v)).map load = (run3 bs v (st0 bs qs v) qs).L := by
  have rz := rz_of h nd hq v
  have ll : ((ups bs (rsOf bs qs v)).map load).length = bs.length := by rw [List.length_map, ups_len]
  refine List.ext_getElem (by rw [ll, rz.lenL]) fun k h1 h2 => ?_
  have hk : k < bs.length := by rw [ll] at h1; exact h1
  have g1 : ((ups bs (rsOf bs qs v)).map load)[k] = lg ((ups bs (rsOf bs qs v)).map load) k := by unfold lg; rw [List.getD_eq_getElem?_getD, List.getElem?_eq_getElem h1]; rfl
  have g2 : (run3 bs v (st0 bs qs v) qs).L[k] = lg (run3 bs v (st0 bs qs v) qs).L k := by unfold lg; rw [List.getD_eq_getElem?_getD, List.getElem?_eq_getElem h2]; rfl
  rw [g1, g2, ups_load hk]
  by_cases m : k ∈ qs
  · exact (rz.inn k m).symm
  · obtain ⟨o1, o2⟩ := rz.out k m
    rw [o1, load_eq hk, show lg (rsOf bs qs v) k = 0 from o2, Int.add_zero]
theorem lad_ups {bs : List Bd} (h : okLd bs) {qs : List Nat} (nd : qs.Nodup) (hq : ∀ k ∈ qs, k < bs.length) {s : Nat} {v : Int} (hc : ¬ (s < qs.length ∨ (qs.length < s ∧ beh0 bs qs v ≠ []))) : lad ((ups bs (rsOf bs qs v)).map load) s v = qs := by
  have rz := rz_of h nd hq v
  rw [ups_L h nd hq]
  refine lad_is (fun q m => ⟨by rw [rz.lenL]; exact hq q m, rz.sill q m⟩) rz.srt (Nat.le_of_not_lt fun z => hc (.inl z)) fun k hk hv nk => ?_
  rw [rz.lenL] at hk
  obtain ⟨o1, o2⟩ := rz.out k nk
  rw [o1] at hv
  have mb : k ∈ beh0 bs qs v := beh0_mem.mpr ⟨hk, nk, hv⟩
  refine ⟨?_, fun q m => rz.aft q m k mb⟩
  rcases Nat.lt_trichotomy qs.length s with z | z | z
  · exact (hc (.inr ⟨z, fun e => by rw [e] at mb; cases mb⟩)).elim
  · exact z
  · exact (hc (.inl z)).elim
theorem lad_tup {bs : List Bd} (h : okLd bs) {qs : List Nat} (nd : qs.Nodup) (hq : ∀ k ∈ qs, k < bs.length) {s : Nat} {v : Int} (hc : ¬ (s < qs.length ∨ (qs.length < s ∧ beh0 bs qs v ≠ []))) : ladD (ups bs (rsOf bs qs v)) s v = .tup ((wsh bs qs).map nD) := by
  unfold ladD
  rw [lad_ups h nd hq hc]
  unfold wsh
  rw [List.map_map]
  congr 1
  refine List.map_congr_left fun k m => ?_
  rw [show (ups bs (rsOf bs qs v)).getD k ([], 0, 0) = up1 bs (rsOf bs qs v) k from ups_get (hq k m)]
  rfl
end Tk

namespace Tk
open PySem PySem.Spec L2 PyProof.Rows
theorem clean_lst {α : Type} {inj : α → D} {n : Nat} {l : List α} (h : ∀ a ∈ l, cleanD n (inj a) = true) : cleanD (n + 1) (.lst (l.map inj)) = true := by
  show cleanL n (l.map inj) = true
  rw [cleanL_all]
  intro d m
  obtain ⟨b, m2, rfl⟩ := List.mem_map.mp m
  exact h b m2
theorem ne_nil_map {α : Type} {inj : α → D} {n : Nat} (hn : n < 64) {l : List α} (h : ∀ a ∈ l, cleanD n (inj a) = true) : gNe (.lst (l.map inj)) (.lst []) = .ok (.bl (decide (l ≠ []))) := by
  have e := gEq_clean (n := n + 1) (m := 1) (a := .lst (l.map inj)) (b := .lst []) (by omega) (by decide) (clean_lst h) rfl
  by_cases z : l = []
  · rw [gNe_def, e.1 (by rw [z]; rfl), decide_eq_false (fun y => y z)]; rfl
  · rw [gNe_def, e.2 (fun q => z (by simpa using q)), decide_eq_true z]; rfl
theorem clean_nD {w : List Nat} (h : okName w) : cleanD 0 (nD w) = true := by
  have := low_ok h
  simpa [cleanD] using this
theorem clean_wsh {ws : List (List Nat)} (h : ∀ w ∈ ws, okName w) : cleanD 1 (.tup (ws.map nD)) = true := by
  show cleanL 0 (ws.map nD) = true
  rw [cleanL_all]
  intro d m
  obtain ⟨b, m2, rfl⟩ := List.mem_map.mp m
  exact clean_nD (h b m2)
/-- who else could come out -/
def rivs (bs : List Bd) (qs : List Nat) (v : Int) : List Bd := bs.filter fun x => (!decide (x.1 ∈ wsh bs qs)) && decide (v ≤ load x)
theorem rivs_nil {bs : List Bd} (h : okCrew bs) {qs : List Nat} (hq : ∀ k ∈ qs, k < bs.length) {v : Int} : rivs bs qs v ≠ [] ↔ beh0 bs qs v ≠ [] := by
  constructor
  · intro z
    obtain ⟨x, m⟩ := List.exists_mem_of_ne_nil _ z
    obtain ⟨m1, m2⟩ := List.mem_filter.mp m
    rw [Bool.and_eq_true, Bool.not_eq_true', decide_eq_false_iff_not, decide_eq_true_eq] at m2
    obtain ⟨k, hk, e⟩ := List.mem_iff_getElem.mp m1
    have ek : bs.getD k bdz = x := by rw [List.getD_eq_getElem?_getD, List.getElem?_eq_getElem hk, e]; rfl
    have mb : k ∈ beh0 bs qs v := beh0_mem.mpr ⟨hk, fun mk => m2.1 (by have := (wsh_mem h hq hk).mpr mk; rw [← ek]; exact this), by
      have : lg (bs.map load) k = load x := by rw [load_eq hk]; unfold wt bd; rw [ek]; rfl
      rw [this]; exact m2.2⟩
    exact fun e => by rw [e] at mb; cases mb
  · intro z
    obtain ⟨k, m⟩ := List.exists_mem_of_ne_nil _ z
    obtain ⟨hk, nk, hv⟩ := beh0_mem.mp m
    have : bs.getD k bdz ∈ rivs bs qs v := List.mem_filter.mpr ⟨List.mem_of_getElem? (bs_get hk), by
      rw [Bool.and_eq_true, Bool.not_eq_true', decide_eq_false_iff_not, decide_eq_true_eq]
      exact ⟨fun z => nk ((wsh_mem h hq hk).mp z), by rw [load_eq hk] at hv; exact hv⟩⟩
    exact fun e => by rw [e] at this; cases this
def brG (bs : List Bd) (qs : List Nat) (s v : Int) : D := if s < qs.length ∨ (qs.length < s ∧ beh0 bs qs v ≠ []) then .non else .tup ((rsOf bs qs v).map .int)
theorem brings_loop {bs : List Bd} (h : okCrew bs) {qs : List Nat} (nd : qs.Nodup) (hq : ∀ k ∈ qs, k < bs.length) {s v : Int} (rv : D) : ∃ u : Sl, loop (gN 6) B__law_brings_1 (rgD 0 bs.length) [.v (.lst (bs.map dB)), .v (.tup ((rsOf bs qs v).map .int)), .v (.tup ((wsh bs qs).map nD)), .v (.int s), .v (.int v), .v rv, .no, .no, .no, .no, .no] =
    .nx [.v (.lst (bs.map dB)), .v (.tup ((rsOf bs qs v).map .int)), .v (.tup ((wsh bs qs).map nD)), .v (.int s), .v (.int v), .v rv, u, .no, .no, .no, .no] := by
  have rz := rz_of h.ld nd hq v
  obtain ⟨ρ', e, u, rfl⟩ := loop_rg (h := gN 6) (body := B__law_brings_1) (lo := 0) (n := bs.length) (ρ := [.v (.lst (bs.map dB)), .v (.tup ((rsOf bs qs v).map .int)), .v (.tup ((wsh bs qs).map nD)), .v (.int s), .v (.int v), .v rv, .no, .no, .no, .no, .no])
    (fun i ρ => ∃ u : Sl, ρ = [.v (.lst (bs.map dB)), .v (.tup ((rsOf bs qs v).map .int)), .v (.tup ((wsh bs qs).map nD)), .v (.int s), .v (.int v), .v rv, u, .no, .no, .no, .no]) ⟨_, rfl⟩ (by
      rintro k ρ hk ⟨u, rfl⟩
      refine ⟨[.v (.lst (bs.map dB)), .v (.tup ((rsOf bs qs v).map .int)), .v (.tup ((wsh bs qs).map nD)), .v (.int s), .v (.int v), .v rv, .v (dN k), .no, .no, .no, .no], by rw [Int.zero_add]; rfl, ?_⟩
      have gb : gIx (.lst (bs.map dB)) (dN k) = .ok (dB (bs.getD k bdz)) := gIx_map (inj := dB) (by omega) (by rw [Int.toNat_natCast]; exact bs_get hk)
      have gn : gIx (dB (bs.getD k bdz)) (.int 0) = .ok (nD (nmW bs k)) := rfl
      have rl : (rsOf bs qs v).length = bs.length := rz.lenR
      have gr : gIx (.tup ((rsOf bs qs v).map .int)) (dN k) = .ok (.int (lg (rsOf bs qs v) k)) := gIx_mapT (inj := D.int) (by omega) (by rw [Int.toNat_natCast]; unfold lg; rw [List.getD_eq_getElem?_getD, List.getElem?_eq_getElem (by omega)]; rfl)
      have p0 : decide (lg (rsOf bs qs v) k < 0) = false := decide_eq_false (by have := rz.pos k; show ¬ lg (run3 bs v (st0 bs qs v) qs).R k < 0; omega)
      have st : B__law_brings_1 [.v (.lst (bs.map dB)), .v (.tup ((rsOf bs qs v).map .int)), .v (.tup ((wsh bs qs).map nD)), .v (.int s), .v (.int v), .v rv, .v (dN k), .no, .no, .no, .no] = .nx [.v (.lst (bs.map dB)), .v (.tup ((rsOf bs qs v).map .int)), .v (.tup ((wsh bs qs).map nD)), .v (.int s), .v (.int v), .v rv, .v (dN k), .no, .no, .no, .no] := by
        unfold B__law_brings_1
        by_cases m : k ∈ qs
        · have d1 : decide (nmW bs k ∈ wsh bs qs) = true := decide_eq_true ((wsh_mem h hq hk).mpr m)
          simp only [sIf_ap, tOr_ap, tAnd_ap, tNot_ap, tV_ap, e2_ap, eC_ap, eCall_ap, aC_ap, aN_ap, eV_succ, eV_zero, bind_ok, List.length_cons, List.length_nil, Nat.zero_add, if_true, gr, integer_ok, Bof_bl, Bool.not_true, Bool.false_eq_true, if_false, gLt_int, p0, gb, gn, nin_tup, d1, from_ok, sN_ap]
        · have d1 : decide (nmW bs k ∈ wsh bs qs) = false := decide_eq_false fun z => m ((wsh_mem h hq hk).mp z)
          have r0 : lg (rsOf bs qs v) k = 0 := (rz.out k m).2
          have d2 : decide ((0 : Int) < lg (rsOf bs qs v) k) = false := by rw [r0]; rfl
          simp only [sIf_ap, tOr_ap, tAnd_ap, tNot_ap, tV_ap, e2_ap, eC_ap, eCall_ap, aC_ap, aN_ap, eV_succ, eV_zero, bind_ok, List.length_cons, List.length_nil, Nat.zero_add, if_true, gr, integer_ok, Bof_bl, Bool.not_true, Bool.not_false, Bool.false_eq_true, if_false, gLt_int, gGt_int, p0, d2, gb, gn, nin_tup, d1, from_ok, sN_ap]
      rw [st]
      exact ⟨_, rfl⟩)
  exact ⟨u, e⟩
theorem ups_crew {bs : List Bd} (h : okCrew bs) {qs : List Nat} (nd : qs.Nodup) (hq : ∀ k ∈ qs, k < bs.length) {v : Int} (big : ∀ b ∈ ups bs (rsOf bs qs v), b.2.2 ≤ 1000000000) : okCrew (ups bs (rsOf bs qs v)) := by
  have rz := rz_of h.ld nd hq v
  refine ⟨by rw [ups_len]; exact h.len, fun b m => ?_, ?_⟩
  · have hb := big b m
    obtain ⟨k, mk, rfl⟩ := List.mem_map.mp m
    have hk := List.mem_range.mp mk
    obtain ⟨o1, o2, o3, o4, o5⟩ := h.each (bs.getD k bdz) (List.mem_of_getElem? (bs_get hk))
    have := rz.pos k
    have o6 : 0 ≤ bd bs k := o4
    have r0 : 0 ≤ lg (rsOf bs qs v) k := this
    exact ⟨o1, o2, o3, by show 0 ≤ bd bs k + lg (rsOf bs qs v) k; omega, hb⟩
  · have e : (ups bs (rsOf bs qs v)).map (·.1) = bs.map (·.1) := by
      refine List.ext_getElem (by rw [List.length_map, List.length_map, ups_len]) fun k h1 h2 => ?_
      rw [List.length_map] at h2
      have g1 : ((ups bs (rsOf bs qs v)).map (·.1))[k]? = some (nmW bs k) := by
        unfold ups
        rw [List.getElem?_map, List.getElem?_map, List.getElem?_range h2]
        rfl
      have g2 := nmW_get h2
      exact (List.getElem?_eq_some_iff.mp g1).2.trans (List.getElem?_eq_some_iff.mp g2).2.symm
    rw [e]
    exact h.nd
theorem brings_ok {bs : List Bd} (h : okCrew bs) {qs : List Nat} (nd : qs.Nodup) (hq : ∀ k ∈ qs, k < bs.length) {s v : Int} (s1 : 1 ≤ s) (s3 : s ≤ 3) (f0 : 0 ≤ v) (f1 : v ≤ 1000000000000) : F__law_brings [.lst (bs.map dB), brG bs qs s v, .tup ((wsh bs qs).map nD), .int s, .int v] = .ok (.bl true) := by
  have l6 := h.len
  have lq := nodup_len nd hq
  have wl : (wsh bs qs).length = qs.length := List.length_map _
  have gw : gLen [.tup ((wsh bs qs).map nD)] = .ok (.int qs.length) := by
    have := gLen_sq (b := true) (xs := (wsh bs qs).map nD)
    rw [List.length_map, wl] at this
    exact this
  have e1 := lc_map (inj := dB) (h := gT 3 (gsC (gN 8) (gsC (gN 9) (gsC (gN 10) (gsN))))) (t := tAnd (tV (e2 (gInS true) (eV 8) (eV 2))) (tV (e2 gGe (e2 gMul (eV 9) (eV 10)) (eV 4)))) (fe := eV 8)
    (ρ := [.v (.lst (bs.map dB)), .v (brG bs qs s v), .v (.tup ((wsh bs qs).map nD)), .v (.int s), .v (.int v), .no, .no, .no, .no, .no, .no]) (fun x : Bd => (!decide (x.1 ∈ wsh bs qs)) && decide (v ≤ load x)) (fun x => nD x.1) (l := bs) fun x m =>
    ⟨[.v (.lst (bs.map dB)), .v (brG bs qs s v), .v (.tup ((wsh bs qs).map nD)), .v (.int s), .v (.int v), .no, .no, .no, .v (nD x.1), .v (.int x.2.1), .v (.int x.2.2)], rfl, by
      obtain ⟨_, _, _, o4, o5⟩ := h.each x m
      simp only [tAnd_ap, tV_ap, e2_ap, eV_succ, eV_zero, bind_ok, nin_tup, mul_load o4 o5, gGe_int, Bof_bl]
      cases c : decide (x.1 ∈ wsh bs qs) <;> simp [load] <;> rfl, fun _ => rfl⟩
  have eR : bs.filter (fun x : Bd => (!decide (x.1 ∈ wsh bs qs)) && decide (v ≤ load x)) = rivs bs qs v := rfl
  rw [eR] at e1
  have nr := ne_nil_map (inj := fun x : Bd => nD x.1) (n := 0) (by decide) (l := rivs bs qs v) fun x m => clean_nD (h.each x (List.mem_filter.mp m).1).1
  have sz : (bs.map dB).length ≤ sizeLine := by rw [List.length_map, sz24]; omega
  have cl : (bs.map dB).length = bs.length := List.length_map _
  have rz := rz_of h.ld nd hq v
  have rl : ((rsOf bs qs v).map D.int).length = bs.length := by rw [List.length_map]; exact rz.lenR
  unfold F__law_brings G__law_brings
  have b0 : startE 11 [.lst (bs.map dB), brG bs qs s v, .tup ((wsh bs qs).map nD), .int s, .int v] = [.v (.lst (bs.map dB)), .v (brG bs qs s v), .v (.tup ((wsh bs qs).map nD)), .v (.int s), .v (.int v), .no, .no, .no, .no, .no, .no] := rfl
  by_cases c : s < qs.length ∨ (qs.length < s ∧ beh0 bs qs v ≠ [])
  · have eg : brG bs qs s v = .non := if_pos c
    rw [eg] at b0 e1 ⊢
    have gi : gIsN .non .non = .ok (.bl true) := rfl
    rcases c with c | ⟨c1, c2⟩
    · have d1 := decide_eq_true c
      simp only [runF_ap, b0, sSq_ap, sSet_ap, sIf_ap, sRet_ap, sN_ap, eLc_ap, iSq_ap, e2_ap, eA_ap, aC_ap, aN_ap, eC_ap, tOr_ap, tAnd_ap, tV_ap, eV_zero, eV_succ, bind_ok, gIt_lst, sz, if_true, wipeE_cons, wipeE_nil, List.set_cons_succ, List.set_cons_zero, e1, from_ok, sq_nx, gw, gGt_int, d1, Bof_bl, gi, sq_rt, out_rt]
    · have d1 : decide (s < (qs.length : Int)) = false := decide_eq_false (by omega)
      have d2 := decide_eq_true c1
      have d3 : decide (rivs bs qs v ≠ []) = true := decide_eq_true ((rivs_nil h hq).mpr c2)
      rw [d3] at nr
      have gl0 : gLst [] = .ok (.lst []) := rfl
      simp only [runF_ap, b0, sSq_ap, sSet_ap, sIf_ap, sRet_ap, sN_ap, eLc_ap, iSq_ap, e2_ap, eA_ap, aC_ap, aN_ap, eC_ap, tOr_ap, tAnd_ap, tV_ap, eV_zero, eV_succ, bind_ok, gIt_lst, sz, if_true, wipeE_cons, wipeE_nil, List.set_cons_succ, List.set_cons_zero, e1, from_ok, sq_nx, gw, gGt_int, gLt_int, d1, d2, nr, gl0, Bof_bl, Bool.false_eq_true, if_false, gi, sq_rt, out_rt]
  · have eg : brG bs qs s v = .tup ((rsOf bs qs v).map .int) := if_neg c
    rw [eg] at b0 e1 ⊢
    obtain ⟨n1, n2⟩ := not_or.mp c
    have d1 : decide (s < (qs.length : Int)) = false := decide_eq_false n1
    have sn : ¬ (s.toNat < qs.length ∨ (qs.length < s.toNat ∧ beh0 bs qs v ≠ [])) := fun z => z.elim (fun y => n1 (by omega)) fun y => n2 ⟨by omega, y.2⟩
    have d23 : (decide ((qs.length : Int) < s) = true → decide (rivs bs qs v ≠ []) = false) := fun z => decide_eq_false fun y => n2 ⟨of_decide_eq_true z, (rivs_nil h hq).mp y⟩
    have gl0 : gLst [] = .ok (.lst []) := rfl
    have gt : gIsi [.tup ((rsOf bs qs v).map .int), .ty "tuple"] = .ok (.bl true) := gIsi_of rfl kb11
    have gg : gLen [.tup ((rsOf bs qs v).map .int)] = .ok (.int bs.length) := by
      have := gLen_sq (b := true) (xs := (rsOf bs qs v).map .int)
      rw [rl] at this
      exact this
    have gc : gLen [.lst (bs.map dB)] = .ok (.int bs.length) := by rw [gLen_lst, cl]
    have ne : gNe (.int (bs.length : Int)) (.int bs.length) = .ok (.bl false) := by simp
    have sm : small62 (bs.length : Int) := small_rg (by omega) (by omega)
    obtain ⟨u, lp⟩ := brings_loop h nd hq (s := s) (v := v) (.lst ((rivs bs qs v).map fun x => nD x.1))
    have ra := raised_ok l6 (R := rsOf bs qs v) rz.lenR
    have ll := lawlad_w (ups_ld h.ld (R := rsOf bs qs v)) (s := s) (sill := v) (by omega) s3
    rw [lad_tup h.ld nd hq sn] at ll
    have wn : ∀ w ∈ wsh bs qs, okName w := fun w m => by
      obtain ⟨k, mk, rfl⟩ := List.mem_map.mp m
      exact (h.each _ (List.mem_of_getElem? (bs_get (hq k mk)))).1
    have nt : gNe (.tup ((wsh bs qs).map nD)) (.tup ((wsh bs qs).map nD)) = .ok (.bl false) := by
      rw [gNe_def, (gEq_clean (by decide) (by decide) (clean_wsh wn) (clean_wsh wn)).1 rfl]
      rfl
    have pw : gPow (.int 10) (.int 9) = .ok (.int 1000000000) := by rw [gPow_int (by decide) (by decide) (by decide) (by decide)]; rfl
    have e3 := lc_map (inj := dB) (h := gT 3 (gsC (gN 8) (gsC (gN 9) (gsC (gN 10) (gsN))))) (t := tV (e2 gGt (eV 10) (e2 gPow (eC (.int 10)) (eC (.int 9))))) (fe := eV 10)
      (ρ := [.v (.lst (bs.map dB)), .v (.tup ((rsOf bs qs v).map .int)), .v (.tup ((wsh bs qs).map nD)), .v (.int s), .v (.int v), .v (.lst ((rivs bs qs v).map fun x => nD x.1)), u, .v (.lst ((ups bs (rsOf bs qs v)).map dB)), .no, .no, .no]) (fun x : Bd => decide (1000000000 < x.2.2)) (fun x => .int x.2.2) (l := ups bs (rsOf bs qs v)) fun x m =>
      ⟨[.v (.lst (bs.map dB)), .v (.tup ((rsOf bs qs v).map .int)), .v (.tup ((wsh bs qs).map nD)), .v (.int s), .v (.int v), .v (.lst ((rivs bs qs v).map fun x => nD x.1)), u, .v (.lst ((ups bs (rsOf bs qs v)).map dB)), .v (nD x.1), .v (.int x.2.1), .v (.int x.2.2)], rfl, by
        simp only [tV_ap, e2_ap, eC_ap, eV_succ, eV_zero, bind_ok, pw, gGt_int, Bof_bl], fun _ => rfl⟩
    have sz2 : ((ups bs (rsOf bs qs v)).map dB).length ≤ sizeLine := by rw [List.length_map, ups_len, sz24]; omega
    have nb := ne_nil_map (inj := fun x : Bd => D.int x.2.2) (n := 0) (by decide) (l := (ups bs (rsOf bs qs v)).filter fun x : Bd => decide (1000000000 < x.2.2)) fun x m => rfl
    have md : ∀ (f : Bool → SO), (if decide ((qs.length : Int) < s) = true then f (decide (rivs bs qs v ≠ [])) else f false) = f false := fun f => by
      split
      · rename_i z; rw [d23 z]
      · rfl
    have la : (ups bs (rsOf bs qs v)).filter (fun x : Bd => decide (1000000000 < x.2.2)) = [] → F_ladder [.lst ((ups bs (rsOf bs qs v)).map dB), .int s, .int v] = .ok (.tup ((wsh bs qs).map nD)) := fun z => by
      have big : ∀ b ∈ ups bs (rsOf bs qs v), b.2.2 ≤ 1000000000 := fun b m => by
        have := List.filter_eq_nil_iff.mp z b m
        simpa using this
      have := ladder_ok (b := false) (ups_crew h nd hq big) s1 s3 f0 f1
      rw [lad_tup h.ld nd hq sn] at this
      exact this
    have g1 : ∀ x y z : D, gDk [0, 1, 2] [] [x] [y, z] = [x, y, z] := fun _ _ _ => rfl
    have sm5 : F__law_same [.tup ((wsh bs qs).map nD), .tup ((wsh bs qs).map nD)] = .ok (.bl true) := same_ok (by
      show (decide (((wsh bs qs).map nD).length ≤ 1000000) && plainL 4 ((wsh bs qs).map nD)) = true
      rw [Bool.and_eq_true, decide_eq_true_eq, plainL_all]
      refine ⟨by rw [List.length_map, wl]; omega, fun d m => ?_⟩
      obtain ⟨k, _, rfl⟩ := List.mem_map.mp m
      rfl)
    by_cases z2 : (qs.length : Int) < s
    · have d2 := decide_eq_true z2
      have d3 := d23 d2
      rw [d3] at nr
      by_cases z3 : (ups bs (rsOf bs qs v)).filter (fun x : Bd => decide (1000000000 < x.2.2)) = []
      · rw [decide_eq_false (fun y => y z3)] at nb
        have la' := la z3
        simp only [runF_ap, b0, sSq_ap, sSet_ap, sIf_ap, sRet_ap, sN_ap, sFor_ap, iR1_ap, eLc_ap, iSq_ap, e2_ap, eA_ap, eCall_ap, eCallK_ap, aC_ap, aN_ap, eC_ap, tOr_ap, tAnd_ap, tNot_ap, tV_ap, eV_zero, eV_succ, bind_ok, gIt_lst, sz, sz2, if_true, wipeE_cons, wipeE_nil, List.set_cons_succ, List.set_cons_zero, List.length_cons, List.length_nil, Nat.zero_add, Nat.reduceAdd, and_self, e1, e3, from_ok, sq_nx, gw, gGt_int, gLt_int, d1, d2, nr, gl0, gt, gg, gc, ne, sm, Int.toNat_natCast, lp, ra, ll, nt, nb, g1, la', sm5, Bof_bl, Bool.not_true, Bool.false_eq_true, if_false, sq_rt, out_rt]
      · rw [decide_eq_true z3] at nb
        simp only [runF_ap, b0, sSq_ap, sSet_ap, sIf_ap, sRet_ap, sN_ap, sFor_ap, iR1_ap, eLc_ap, iSq_ap, e2_ap, eA_ap, eCall_ap, eCallK_ap, aC_ap, aN_ap, eC_ap, tOr_ap, tAnd_ap, tNot_ap, tV_ap, eV_zero, eV_succ, bind_ok, gIt_lst, sz, sz2, if_true, wipeE_cons, wipeE_nil, List.set_cons_succ, List.set_cons_zero, List.length_cons, List.length_nil, Nat.zero_add, Nat.reduceAdd, and_self, e1, e3, from_ok, sq_nx, gw, gGt_int, gLt_int, d1, d2, nr, gl0, gt, gg, gc, ne, sm, Int.toNat_natCast, lp, ra, ll, nt, nb, g1, sm5, Bof_bl, Bool.not_true, Bool.false_eq_true, if_false, sq_rt, out_rt]
    · have d2 := decide_eq_false z2
      by_cases z3 : (ups bs (rsOf bs qs v)).filter (fun x : Bd => decide (1000000000 < x.2.2)) = []
      · rw [decide_eq_false (fun y => y z3)] at nb
        have la' := la z3
        simp only [runF_ap, b0, sSq_ap, sSet_ap, sIf_ap, sRet_ap, sN_ap, sFor_ap, iR1_ap, eLc_ap, iSq_ap, e2_ap, eA_ap, eCall_ap, eCallK_ap, aC_ap, aN_ap, eC_ap, tOr_ap, tAnd_ap, tNot_ap, tV_ap, eV_zero, eV_succ, bind_ok, gIt_lst, sz, sz2, if_true, wipeE_cons, wipeE_nil, List.set_cons_succ, List.set_cons_zero, List.length_cons, List.length_nil, Nat.zero_add, Nat.reduceAdd, and_self, e1, e3, from_ok, sq_nx, gw, gGt_int, gLt_int, d1, d2, gl0, gt, gg, gc, ne, sm, Int.toNat_natCast, lp, ra, ll, nt, nb, g1, la', sm5, Bof_bl, Bool.not_true, Bool.false_eq_true, if_false, sq_rt, out_rt]
      · rw [decide_eq_true z3] at nb
        simp only [runF_ap, b0, sSq_ap, sSet_ap, sIf_ap, sRet_ap, sN_ap, sFor_ap, iR1_ap, eLc_ap, iSq_ap, e2_ap, eA_ap, eCall_ap, eCallK_ap, aC_ap, aN_ap, eC_ap, tOr_ap, tAnd_ap, tNot_ap, tV_ap, eV_zero, eV_succ, bind_ok, gIt_lst, sz, sz2, if_true, wipeE_cons, wipeE_nil, List.set_cons_succ, List.set_cons_zero, List.length_cons, List.length_nil, Nat.zero_add, Nat.reduceAdd, and_self, e1, e3, from_ok, sq_nx, gw, gGt_int, gLt_int, d1, d2, gl0, gt, gg, gc, ne, sm, Int.toNat_natCast, lp, ra, ll, nt, nb, g1, sm5, Bof_bl, Bool.not_true, Bool.false_eq_true, if_false, sq_rt, out_rt]
end Tk

namespace Tk
open PySem PySem.Spec L2 PyProof.Rows
/-! ### the drawn names -/
theorem popmod_ok {ps : List Int} {spot k : Int} {n : Nat} (h0 : 0 ≤ spot + k) (h1 : spot + k < ps.length) (hn : 0 < n) (hn2 : n ≤ 6) : ∃ j : Nat, j < n ∧ part ps (spot + k) 1 60 % (n : Int) = (j : Int) := by
  have a := Int.emod_nonneg (part ps (spot + k) 1 60) (show (n : Int) ≠ 0 by omega)
  have b := Int.emod_lt_of_pos (part ps (spot + k) 1 60) (show (0 : Int) < n by omega)
  exact ⟨(part ps (spot + k) 1 60 % (n : Int)).toNat, by omega, by omega⟩
theorem map_eraseIdx' {α β : Type} (f : α → β) : ∀ (l : List α) (i : Nat), (l.map f).eraseIdx i = (l.eraseIdx i).map f
  | [], i => by cases i <;> rfl
  | a :: l, 0 => rfl
  | a :: l, i + 1 => by
    show f a :: (l.map f).eraseIdx i = f a :: (l.eraseIdx i).map f
    rw [map_eraseIdx' f l i]
theorem erase_perm {α : Type} : ∀ {l : List α} {i : Nat} {x : α}, l[i]? = some x → (x :: l.eraseIdx i).Perm l
  | [], i, x, h => by cases h
  | a :: l, 0, x, h => by cases h; exact .refl _
  | a :: l, i + 1, x, h => (List.Perm.swap a x _).trans ((erase_perm (l := l) (i := i) h).cons a)
def wdE (ps : List Int) (spot number : Int) (bs : List Bd) (lf qs : List Nat) (u : Sl) : Ev := [.v (.lst (ps.map .int)), .v (.int spot), .v (.lst (bs.map dB)), .v (.int number), .l (lf.map (nmD bs)), .l (qs.map (nmD bs)), u, .no, .no, .no]
theorem wished_ok {ps : List Int} {spot number : Int} {bs : List Bd} (h : okCrew bs) (h0 : 0 ≤ spot) (hn : 0 ≤ number) (hn2 : number ≤ 6) (h1 : spot + number ≤ ps.length) :
    ∃ qs : List Nat, qs.Nodup ∧ (∀ k ∈ qs, k < bs.length) ∧ F__law_wished [.lst (ps.map .int), .int spot, .lst (bs.map dB), .int number] = .ok (.tup ((wsh bs qs).map nD)) := by
  have l6 := h.len
  obtain ⟨ρ', e, lf, qs, u, pm, rfl⟩ := loop_rg (h := gN 6) (body := B__law_wished_1) (lo := 0) (n := number.toNat) (ρ := wdE ps spot number bs (List.range bs.length) [] .no)
    (fun _ ρ => ∃ (lf qs : List Nat) (u : Sl), (lf ++ qs).Perm (List.range bs.length) ∧ ρ = wdE ps spot number bs lf qs u) ⟨_, [], _, by simp, rfl⟩ (by
      rintro k ρ hk ⟨lf, qs, u, pm, rfl⟩
      refine ⟨wdE ps spot number bs lf qs (.v (dN k)), by rw [Int.zero_add]; rfl, ?_⟩
      have lt : ∀ j ∈ lf, j < bs.length := fun j m => List.mem_range.mp (pm.mem_iff.mp (List.mem_append_left _ m))
      have len : lf.length + qs.length = bs.length := by have := pm.length_eq; rwa [List.length_append, List.length_range] at this
      have ok : ∀ j ∈ lf, cleanD 0 (nmD bs j) = true := fun j m => clean_nD (h.each _ (List.mem_of_getElem? (bs_get (lt j m)))).1
      have nn := ne_nil_map (n := 0) (by decide) ok
      have gl0 : gLst [] = .ok (.lst []) := rfl
      by_cases z : lf = []
      · rw [decide_eq_false (fun y => y z)] at nn
        have st : B__law_wished_1 (wdE ps spot number bs lf qs (.v (dN k))) = .nx (wdE ps spot number bs lf qs (.v (dN k))) := by
          unfold B__law_wished_1 wdE
          simp only [sIf_ap, tBor_ap, tV_ap, e2_ap, eA_ap, aN_ap, frzA_cons, frzA_nil, frzS_l, frzS_v, frzS_no, eV_succ, eV_zero, bind_ok, gl0, nn, Bof_bl, quiet_ok, from_ok, Bool.false_eq_true, if_false, sN_ap]
        rw [st]
        exact ⟨lf, qs, _, pm, rfl⟩
      · rw [decide_eq_true z] at nn
        have pos : 0 < lf.length := List.length_pos_iff.mpr z
        obtain ⟨j, hj, ej⟩ := popmod_ok (ps := ps) (spot := spot) (k := (k : Int)) (n := lf.length) (by omega) (by omega) pos (by omega)
        have pp := part_ok (ps := ps) (spot := spot + (k : Int)) (under := 1) (size := 60) (by omega) (by omega) (by decide) (by decide) (by decide)
        have ll : gLen [.lst (lf.map (nmD bs))] = .ok (.int lf.length) := by rw [gLen_lst, List.length_map]
        have md : gMod (.int (part ps (spot + (k : Int)) 1 60)) (.int lf.length) = .ok (dN j) := by rw [gMod_int (by omega), ej]
        have gy : (lf.map (nmD bs))[((j : Int)).toNat]? = some (nmD bs lf[j]) := by rw [Int.toNat_natCast, List.getElem?_map, List.getElem?_eq_getElem hj]; rfl
        have sa : (0 : Int) ≤ (j : Int) ∧ (j : Int) < 9223372036854775808 ∧ (qs.map (nmD bs)).length < sizeLine := ⟨by omega, by omega, by rw [List.length_map, sz24]; omega⟩
        have er : (lf.map (nmD bs)).eraseIdx ((j : Int)).toNat = (lf.eraseIdx j).map (nmD bs) := by rw [Int.toNat_natCast, map_eraseIdx']
        have ap : qs.map (nmD bs) ++ [nmD bs lf[j]] = (qs ++ [lf[j]]).map (nmD bs) := by rw [List.map_append]; rfl
        have sc : ∀ i : Int, scalD (.int i) = true := fun _ => rfl
        have st : B__law_wished_1 (wdE ps spot number bs lf qs (.v (dN k))) = .nx (wdE ps spot number bs (lf.eraseIdx j) (qs ++ [lf[j]]) (.v (dN k))) := by
          unfold B__law_wished_1 wdE sAppPop
          simp only [sIf_ap, tBor_ap, eBor_ap, tV_ap, e2_ap, eA_ap, aC_ap, aN_ap, eC_ap, eCall_ap, frzA_cons, frzA_nil, frzS_l, frzS_v, frzS_no, eV_succ, eV_zero, bind_ok, List.length_cons, List.length_nil, Nat.zero_add, Nat.reduceAdd, if_true, gl0, nn, Bof_bl, quiet_ok, from_ok, gAdd_int, pp, gInt_int, ll, md, sc, ownL_succ, ownL_zero, sa, and_self, gy, er, ap, List.set_cons_succ, List.set_cons_zero]
        rw [st]
        refine ⟨_, _, _, ?_, rfl⟩
        have p1 := erase_perm (List.getElem?_eq_getElem hj)
        refine List.Perm.trans ?_ pm
        rw [← List.append_assoc]
        refine (List.perm_append_comm (l₁ := lf.eraseIdx j ++ qs) (l₂ := [lf[j]])).trans ?_
        exact p1.append_right qs)
  have nd : (lf ++ qs).Nodup := pm.nodup_iff.mpr List.nodup_range
  refine ⟨qs, (List.nodup_append.mp nd).2.1, fun k m => List.mem_range.mp (pm.mem_iff.mp (List.mem_append_right _ m)), ?_⟩
  have e1 := lc_all (inj := dB) (h := gT 3 (gsC (gN 7) (gsC (gN 8) (gsC (gN 9) (gsN))))) (t := tsY) (fe := eV 7) (ρ := [.v (.lst (ps.map .int)), .v (.int spot), .v (.lst (bs.map dB)), .v (.int number), .no, .no, .no, .no, .no, .no]) (fun x => nD x.1) (l := bs) fun x m =>
    ⟨[.v (.lst (ps.map .int)), .v (.int spot), .v (.lst (bs.map dB)), .v (.int number), .no, .no, .no, .v (nD x.1), .v (.int x.2.1), .v (.int x.2.2)], rfl, rfl, rfl⟩
  have e2 : bs.map (fun x => nD x.1) = (List.range bs.length).map (nmD bs) := by
    refine List.ext_getElem (by simp) fun k h1 h2 => ?_
    rw [List.length_map] at h1
    rw [List.getElem_map, List.getElem_map, List.getElem_range]
    unfold nmD
    rw [List.getD_eq_getElem?_getD, List.getElem?_eq_getElem h1]
    rfl
  rw [e2] at e1
  have sz : (bs.map dB).length ≤ sizeLine := by rw [List.length_map, sz24]; omega
  have z0 : (0 : Nat) ≤ sizeLine := Nat.zero_le _
  have sm : small62 number := small_rg hn (by omega)
  have em : qs.map (nmD bs) = (wsh bs qs).map nD := by unfold wsh; rw [List.map_map]; rfl
  unfold wdE at e
  unfold F__law_wished G__law_wished
  simp only [runF_ap, show startE 10 [.lst (ps.map .int), .int spot, .lst (bs.map dB), .int number] = [.v (.lst (ps.map .int)), .v (.int spot), .v (.lst (bs.map dB)), .v (.int number), .no, .no, .no, .no, .no, .no] from rfl, sSq_ap, sOwn_ap, lDisp_ap, lLc_ap, iSq_ap, sFor_ap, iR1_ap, sFrz_ap, sRet_ap, eA_ap, aC_ap, aN_ap, eV_zero, eV_succ, bind_ok, gIt_lst, sz, List.length_nil, z0, if_true, wipeE_cons, wipeE_nil, e1, from_ok, sq_nx, List.set_cons_succ, List.set_cons_zero, sm, List.map_nil, frzE_succ, frzE_zero, frzS_l]
  rw [show ([] : List D) = ([] : List Nat).map (nmD bs) from rfl, e]
  simp only [sq_nx, sFrz_ap, sRet_ap, eA_ap, aC_ap, aN_ap, eV_zero, eV_succ, bind_ok, frzE_succ, frzE_zero, frzS_l, gTuple_lst, from_ok, out_rt, em]
end Tk

namespace Tk
open PySem PySem.Spec L2 PyProof.Rows
end Tk
local macro_rules
  | `(tactic| simp_arith [$xs,*]) => `(tactic| simp only [Tk.sq_nx, Tk.sq_rt, Tk.sq_ro, Tk.sq_bk, Tk.sq_ct, Tk.sq_ex, Tk.sq_bad, Tk.lp_nx, Tk.lp_ct, Tk.lp_bk, Tk.lp_rt, Tk.lp_ro, Tk.lp_ex, Tk.lp_bad, Tk.sSq_ap, Tk.sN_ap, Tk.sBad_ap, Tk.sRet_ap, Tk.sRetN_ap, Tk.sDrop_ap, Tk.sIf_ap, Tk.sSet_ap, Tk.sBk_ap, Tk.sCt_ap, Tk.sAsg_ap, Tk.ofO_none, Tk.ofO_some, Tk.sFor_ap, Tk.loop_nil, Tk.eV_zero, Tk.eV_succ, Tk.eC_ap, Tk.e1_ap, Tk.e2_ap, Tk.eA_ap, Tk.aN_ap, Tk.aC_ap, Tk.Bof_bl, Tk.tV_ap, Tk.tAnd_ap, Tk.tOr_ap, Tk.tNot_ap, Tk.eAnd_ap, Tk.eOr_ap, Tk.eNot_ap, Tk.eIf_ap, Tk.eChain_ap, Tk.gN_ap, Tk.gsN_ap, Tk.gsC_ap, Tk.gT_ap, Tk.frzE_zero, Tk.frzE_succ, Tk.frzS_l, Tk.frzS_v, Tk.frzS_no, Tk.frzA_nil, Tk.frzA_cons, Tk.sFrz_ap, Tk.ownL_zero, Tk.ownL_succ, Tk.lDisp_ap, Tk.lList_ap, Tk.sOwn_ap, Tk.sApp_ap, Tk.sMut_ap, Tk.sPop_ap, Tk.eBor_ap, Tk.tBor_ap, Tk.wipeE_nil, Tk.wipeE_cons, Tk.eLc_ap, Tk.tsY_ap, Tk.iSq_ap, Tk.gIt_lst, Tk.gIt_tup, Tk.gIt_str, Tk.iR1_ap, Tk.iR2_ap, Tk.iEn2_ap, Tk.iZp2_ap, Tk.seqD_lst, Tk.seqD_tup, Tk.oN_ap, Tk.oS_ap, Tk.eSl_ap, Tk.eCall_ap, Tk.eCallK_ap, Tk.out_nx, Tk.out_rt, Tk.out_ro, Tk.out_ex, Tk.nL_ap, Tk.own_lT, Tk.sNew_ap, Tk.sRetV_ap, Tk.sRetF_ap, Tk.runO_ap, Tk.outO_ro, Tk.oCall_ap, Tk.lLc_ap, Tk.sPutL_ap, Tk.eOwnIx_ap, Tk.frzR_l, Tk.runF_ap, Tk.start_nil, Tk.start_cons', Tk.gSub_int, Tk.gAdd_int, Tk.gNeg_int, Tk.gLt_int, Tk.gLe_int, Tk.gGt_int, Tk.gGe_int, Tk.gEq_int, Tk.gEq_str, Tk.gEq_bl, Tk.gNe_def, Tk.rNot_bl, Tk.gInt_int, Tk.gInt_bl, Tk.gAbs_int, Tk.gLen_lst, Tk.gLen_tup, Tk.gLen_scr, Tk.gMin_int, Tk.gMax_int, Tk.gList_lst, Tk.gList_tup, Tk.gTuple_lst, Tk.gTuple_tup, Tk.gIsN_non, Tk.gNotN_non, Tk.gRev_lst, Tk.gRev_tup, Tk.goes_nx, Tk.goes_ct, Tk.quiet_ok, Tk.from_ok, Tk.from_exc, Tk.from_bad, Tk.bind_ok, Tk.bind_exc, Tk.bind_bad, List.set_cons_succ, List.set_cons_zero, List.map_nil, List.map_cons, List.length_cons, List.length_nil, Nat.zero_add, Nat.reduceAdd, Nat.reduceSub, Nat.reduceEqDiff, Nat.add_one_sub_one, and_self, if_true, if_false, Bool.not_true, Bool.not_false, Bool.false_eq_true, eq_self_iff_true, List.reduceReplicate, Nat.succ_ne_zero, List.cons_append, List.nil_append, Option.bind_some, decide_true, decide_false, $xs,*])
namespace Tk
open PySem PySem.Spec L2 PyProof.Rows
theorem tst : startE 5 [.non, .bl true] = [.v .non, .v (.bl true), .no, .no, .no] := by
  simp_arith []
theorem sz0 : (0 : Nat) ≤ sizeLine := Nat.zero_le _
theorem szle {n : Nat} (h : n ≤ 1000) : n ≤ sizeLine := by rw [sz24]; omega
theorem szlt {n : Nat} (h : n ≤ 1000) : n < sizeLine := by rw [sz24]; omega
end Tk

namespace Tk
open PySem PySem.Spec L2 PyProof.Rows
/-! ### the least raises are least -/
/-- what holds of the places that come out -/
theorem lad_prop {L : List Int} {s : Nat} {v : Int} {qs : List Nat} (h : lad L s v = qs) : qs.Nodup ∧ (∀ q ∈ qs, q < L.length ∧ v ≤ lg L q) ∧ qs.Pairwise (bef L) ∧ qs.length ≤ s ∧ ∀ k, k < L.length → v ≤ lg L k → k ∉ qs → qs.length = s ∧ ∀ q ∈ qs, bef L q k := by
  subst h
  unfold lad
  have sl : ((rkN L).filter fun k => decide (v ≤ lg L k)).Pairwise (bef L) := (rkN_sorted L).filter _
  have mem : ∀ k, k ∈ (rkN L).filter (fun k => decide (v ≤ lg L k)) ↔ k < L.length ∧ v ≤ lg L k := fun k => by
    rw [List.mem_filter, (rkN_perm L).mem_iff, List.mem_range, decide_eq_true_eq]
  have nd : ((rkN L).filter fun k => decide (v ≤ lg L k)).Nodup := (rkN_nodup L).filter _
  generalize (rkN L).filter (fun k => decide (v ≤ lg L k)) = l at *
  refine ⟨nd.sublist (List.take_sublist _ _), fun q m => (mem q).mp (List.mem_of_mem_take m), sl.sublist (List.take_sublist _ _), by rw [List.length_take]; omega, fun k hk hv nk => ?_⟩
  have mk : k ∈ l := (mem k).mpr ⟨hk, hv⟩
  have md : k ∈ l.drop s := by
    have := List.take_append_drop s l
    rw [← this] at mk
    rcases List.mem_append.mp mk with z | z
    · exact (nk z).elim
    · exact z
  refine ⟨?_, fun q m => ?_⟩
  · rw [List.length_take]
    have : (l.drop s).length ≠ 0 := fun z => by rw [List.length_eq_zero_iff] at z; rw [z] at md; cases md
    rw [List.length_drop] at this
    omega
  · have p : (l.take s ++ l.drop s).Pairwise (bef L) := by rw [List.take_append_drop]; exact sl
    exact (List.pairwise_append.mp p).2.2 q m k md
theorem mxI_le {a x : Int} : ∀ {l : List Int}, a ≤ x → (∀ y ∈ l, y ≤ x) → mxI a l ≤ x := fun {l} h0 h => by
  rcases mxI_in l a with e | m
  · omega
  · exact h _ m
theorem lift_le {w b n M : Int} (hw : 1 ≤ w) (hM : 0 ≤ M) (h : n ≤ w * (b + M)) : lift w b n ≤ M := by
  have h1 : -(-n / w) ≤ b + M := by
    have : -(b + M) ≤ -n / w := by
      rw [Int.le_ediv_iff_mul_le (by omega)]
      have e : -(b + M) * w = -(w * (b + M)) := by rw [Int.neg_mul, Int.mul_comm]
      rw [e]
      omega
    omega
  unfold lift
  split <;> omega
/-- any raises that bring qs about are at least these -/
theorem run_le {bs : List Bd} (hb : okLd bs) {v : Int} {qs : List Nat} {L' M : List Int} (hL : ∀ k, k < bs.length → lg L' k = wt bs k * (bd bs k + lg M k)) (hM : ∀ k, 0 ≤ lg M k) (len : L'.length = bs.length)
    (hv : ∀ q ∈ qs, q < L'.length ∧ v ≤ lg L' q) (srt : qs.Pairwise (bef L')) (aft : ∀ k, k < L'.length → v ≤ lg L' k → k ∉ qs → ∀ q ∈ qs, bef L' q k) : ∀ {T U : List Nat}, qs = U ++ T →
    (∀ k ∈ T, lg (run3 bs v (st0 bs qs v) T).R k ≤ lg M k ∧ lg (run3 bs v (st0 bs qs v) T).L k ≤ lg L' k)
  | [], U, e => fun k m => by cases m
  | p :: T, U, e => by
    have ih := run_le hb hL hM len hv srt aft (T := T) (U := U ++ [p]) (by rw [e]; simp)
    have srt' : (U ++ p :: T).Pairwise (bef L') := e ▸ srt
    have nd : (U ++ p :: T).Nodup := srt'.imp fun {a b} h => fun z => by subst z; exact bef_irr h
    have ndT := (List.nodup_append.mp nd).2.1
    obtain ⟨np, ndT'⟩ := List.nodup_cons.mp ndT
    have mq : ∀ k ∈ p :: T, k ∈ qs := fun k m => by rw [e]; exact List.mem_append_right _ m
    have hq : ∀ k ∈ p :: T, k < bs.length := fun k m => by have := (hv k (mq k m)).1; omega
    have rz := rz_ok hb (v := v) (beh0 := beh0 bs qs v) ndT' (fun k m => hq k (List.mem_cons_of_mem _ m)) fun k m z => (beh0_mem.mp z).2.1 (mq k (List.mem_cons_of_mem _ m))
    have rz : Rz bs v (beh0 bs qs v) T (run3 bs v (st0 bs qs v) T) := rz
    have hp := hq p List.mem_cons_self
    have w1 : 1 ≤ wt bs p := (hb.each _ (by rw [List.getD_eq_getElem?_getD, List.getElem?_eq_getElem hp]; exact List.getElem_mem hp)).1
    have pL : p < (run3 bs v (st0 bs qs v) T).L.length := by rw [rz.lenL]; exact hp
    have pR : p < (run3 bs v (st0 bs qs v) T).R.length := by rw [rz.lenR]; exact hp
    have need : needed (run3 bs v (st0 bs qs v) T).L v (run3 bs v (st0 bs qs v) T).beh p ≤ lg L' p := by
      refine mxI_le (hv p (mq p List.mem_cons_self)).2 fun y m => ?_
      obtain ⟨o, mo, rfl⟩ := List.mem_map.mp m
      have fin : ∀ x : Int, lg (run3 bs v (st0 bs qs v) T).L o ≤ x → x = lg L' o → bef L' p o → lg (run3 bs v (st0 bs qs v) T).L o + (if o < p then 1 else 0) ≤ lg L' p := fun x h1 h2 h3 => by
        unfold bef at h3
        split <;> omega
      rw [rz.beh] at mo
      cases T with
      | nil =>
        obtain ⟨ho, no, vo⟩ := beh0_mem.mp mo
        have l1 : lg (bs.map load) o ≤ lg L' o := by
          have wo : 1 ≤ wt bs o := (hb.each _ (by rw [List.getD_eq_getElem?_getD, List.getElem?_eq_getElem ho]; exact List.getElem_mem ho)).1
          rw [hL o ho, load_eq ho]
          exact Int.mul_le_mul_of_nonneg_left (by have := hM o; omega) (by omega)
        have l2 : lg (run3 bs v (st0 bs qs v) []).L o = lg (bs.map load) o := rfl
        exact fin (lg L' o) (by omega) rfl (aft o (by omega) (by omega) no p (mq p List.mem_cons_self))
      | cons t T =>
        have et : o = t := List.mem_singleton.mp mo
        subst et
        exact fin _ (ih o List.mem_cons_self).2 rfl ((List.pairwise_cons.mp ((List.pairwise_append.mp srt').2.1)).1 o List.mem_cons_self)
    rw [hL p hp] at need
    have le := lift_le w1 (hM p) need
    intro k m
    show lg (stp bs v p (run3 bs v (st0 bs qs v) T)).R k ≤ lg M k ∧ lg (stp bs v p (run3 bs v (st0 bs qs v) T)).L k ≤ lg L' k
    have eL : lg (stp bs v p (run3 bs v (st0 bs qs v) T)).L k = if k = p then wt bs p * (bd bs p + lift (wt bs p) (bd bs p) (needed (run3 bs v (st0 bs qs v) T).L v (run3 bs v (st0 bs qs v) T).beh p)) else lg (run3 bs v (st0 bs qs v) T).L k := lg_set pL
    have eR : lg (stp bs v p (run3 bs v (st0 bs qs v) T)).R k = if k = p then lift (wt bs p) (bd bs p) (needed (run3 bs v (st0 bs qs v) T).L v (run3 bs v (st0 bs qs v) T).beh p) else lg (run3 bs v (st0 bs qs v) T).R k := lg_set pR
    rw [eL, eR]
    by_cases z : k = p
    · rw [if_pos z, if_pos z, z]
      refine ⟨le, ?_⟩
      rw [hL p hp]
      exact Int.mul_le_mul_of_nonneg_left (by omega) (by omega)
    · rw [if_neg z, if_neg z]
      exact ih k ((List.mem_cons.mp m).resolve_left z)
/-- raises M bring qs about: then raises_for finds raises, none above M -/
theorem least_le {bs : List Bd} (hb : okLd bs) {s : Nat} {v : Int} {qs : List Nat} {M : List Int} (hM : ∀ k, 0 ≤ lg M k) (h : lad ((ups bs M).map load) s v = qs) :
    qs.Nodup ∧ (∀ k ∈ qs, k < bs.length) ∧ ¬ (s < qs.length ∨ (qs.length < s ∧ beh0 bs qs v ≠ [])) ∧ ∀ k, 0 ≤ lg (rsOf bs qs v) k ∧ lg (rsOf bs qs v) k ≤ lg M k := by
  obtain ⟨nd, hq, srt, le, aft⟩ := lad_prop h
  have len : ((ups bs M).map load).length = bs.length := by rw [List.length_map, ups_len]
  have hq' : ∀ k ∈ qs, k < bs.length := fun k m => by have := (hq k m).1; omega
  have hL : ∀ k, k < bs.length → lg ((ups bs M).map load) k = wt bs k * (bd bs k + lg M k) := fun k hk => ups_load hk
  have rz := rz_of hb nd hq' v
  refine ⟨nd, hq', fun z => ?_, fun k => ⟨rz.pos k, ?_⟩⟩
  · rcases z with z | ⟨z, n⟩
    · omega
    · obtain ⟨o, mo⟩ := List.exists_mem_of_ne_nil _ n
      obtain ⟨ho, no, vo⟩ := beh0_mem.mp mo
      have wo : 1 ≤ wt bs o := (hb.each _ (by rw [List.getD_eq_getElem?_getD, List.getElem?_eq_getElem ho]; exact List.getElem_mem ho)).1
      have l1 : lg (bs.map load) o ≤ lg ((ups bs M).map load) o := by
        rw [hL o ho, load_eq ho]
        exact Int.mul_le_mul_of_nonneg_left (by have := hM o; omega) (by omega)
      have := (aft o (by omega) (by omega) no).1
      omega
  · by_cases m : k ∈ qs
    · exact (run_le hb hL hM len hq srt (fun k a b c => (aft k a b c).2) (T := qs) (U := []) rfl k m).1
    · have := (rz.out k m).2
      have h0 := hM k
      show lg (run3 bs v (st0 bs qs v) qs).R k ≤ _
      omega
end Tk

namespace Tk
open PySem PySem.Spec L2 PyProof.Rows
section
variable {ρ : Ev} {d : D} {s : Sl} {i : Nat}
theorem eFrz_ap {f : Ev → R Sl} : eFrz f ρ = (f ρ).bind frzR := (rfl)
theorem frzR_k {xs : List (Key × D)} : frzR (.k xs) = .ok (.dK xs) := (rfl)
theorem frzR_t {xs : List (List Key × D)} : frzR (.t xs) = .ok (.dT xs) := (rfl)
theorem frzR_o {g : Option Addr} {c : Nat} {fs : List (Nat × D)} : frzR (.o g c fs) = .ok (.ins c fs) := (rfl)
theorem nMake_ap {c n : Nat} {F : Addr → List D → R (List (Nat × D))} {fa : Ev → R (List D)} : nMake c n F fa ρ = (fa ρ).bind fun ds => if ds.length + 1 = n then (unA fun a => F a ds).bind fun fs => .ok (.o none c fs) else .bad := (rfl)
theorem nMakeK_ap {c n m p : Nat} {F : Addr → List D → R (List (Nat × D))} {gD : List D → List D → List D} {fa fk : Ev → R (List D)} : nMakeK c n m p F gD fa fk ρ = (fa ρ).bind fun ds => (fk ρ).bind fun zs => if ds.length = n ∧ zs.length = m ∧ (gD ds zs).length + 1 = p then (unA fun a => F a (gD ds zs)).bind fun fs => .ok (.o none c fs) else .bad := (rfl)
theorem ownO_zero {g : Option Addr} {c : Nat} {fs : List (Nat × D)} : ownO (.o g c fs :: ρ) 0 = .ok (g, c, fs) := (rfl)
theorem sFldO_ap {cs : List Nat} {f : Nat} {fe : Ev → R D} : sFldO cs i f fe ρ = SO.from ρ (fe ρ) fun d => SO.from ρ (ownO ρ i) fun q => if q.2.1 ∈ cs ∧ q.2.2.length < 1000 then .nx (ρ.set i (.o q.1 q.2.1 (putN f d q.2.2))) else .bad := (rfl)
theorem eFldO_ap {cs : List Nat} {f : Nat} : eFldO cs i f ρ = (ownO ρ i).bind fun q => if q.2.1 ∈ cs then optR (q.2.2.lookup f) else .bad := (rfl)
theorem runI_ap {c n : Nat} {g : Ev → SO} {a : Addr} {ds : List D} : runI c n g a ds = (g (startI a c n ds)).outI a c := (rfl)
theorem outI_nx {a : Addr} {c : Nat} {fs : List (Nat × D)} : SO.outI a c (.nx (.o (some a) c fs :: ρ)) = .ok fs := by
  show (if some a = some a ∧ c = c then R.ok fs else .bad) = _
  rw [if_pos ⟨rfl, rfl⟩]
theorem putN_nil {f : Nat} : putN f d [] = [(f, d)] := (rfl)
theorem putN_cons {f g : Nat} {x : D} {r : List (Nat × D)} : putN f d ((g, x) :: r) = if g = f then (g, d) :: r else (g, x) :: putN f d r := (rfl)
theorem nDc_ap {zs : List Nat} {fi : Ev → R (List D)} {h : Tg} {t : Ev → R Bool} {fk fv : Ev → R D} : nDc zs fi h t fk fv ρ = (fi ρ).bind fun ds => if ds.length ≤ sizeLine then (dcL h t fk fv (wipeE ρ zs) [] ds).bind fun kvs => .ok (.k kvs) else .bad := (rfl)
theorem eGet2_ap {fo fa fb : Ev → R D} : eGet2 fo fa fb ρ = (fo ρ).bind fun o => if isDict o = true then (fa ρ).bind fun a => (fb ρ).bind fun b => gGet2 o a b else .bad := (rfl)
theorem isDict_k {xs : List (Key × D)} : isDict (.dK xs) = true := (rfl)
theorem eIsi_ap {tab : List (Kd × Bool)} {f : Ev → R D} : eIsi tab f ρ = (f ρ).bind fun d => (optR (isiTab tab d)).bind fun b => .ok (.bl b) := (rfl)
theorem gFld_ins {cs : List Nat} {f c : Nat} {fs : List (Nat × D)} : gFld cs f (.ins c fs) = if c ∈ cs ∧ (fs.map (·.1)).all (fun k => k ≤ 1000) = true then optR (fs.lookup f) else .bad := (rfl)
theorem eMeth_ap {c nf n : Nat} {F : List D → R D} {fo : Ev → R D} {fa : Ev → R (List D)} : eMeth c nf n F fo fa ρ = (fo ρ).bind fun d => if insB c nf d = true then (fa ρ).bind fun ds => if ds.length + 1 = n then F (d :: ds) else .bad else .bad := (rfl)
theorem eMethK_ap {c nf n m p : Nat} {F : List D → R D} {gD : List D → List D → List D} {fo : Ev → R D} {fa fk : Ev → R (List D)} : eMethK c nf n m p F gD fo fa fk ρ = (fo ρ).bind fun d => if insB c nf d = true then (fa ρ).bind fun ds => (fk ρ).bind fun zs => if ds.length = n ∧ zs.length = m ∧ (gD ds zs).length + 1 = p then F (d :: gD ds zs) else .bad else .bad := (rfl)
theorem sPar_ap {i j : Nat} {fa : Ev → R (List D)} : sPar i j fa ρ = SO.from ρ (fa ρ) fun ds => match ds with
  | [a, b] => .nx ((ρ.set i (.v a)).set j (.v b))
  | _ => .bad := (rfl)
theorem sOwnZ_ap {fl : Ev → R (List D)} : sOwnZ i fl ρ = SO.from ρ (fl ρ) fun ds => .nx (ρ.set i (.v (.lst ds))) := (rfl)
end
theorem cut_lo {α : Type} {l : List α} {j : Int} (h : 0 ≤ j) : cutD l (some j) none = l.drop j.toNat := by
  have e : HT.sIx l.length 0 (some j) = min j.toNat l.length := by
    show (if j < 0 then (j + (l.length : Int)).toNat else min j.toNat l.length) = _
    rw [if_neg (by omega)]
  unfold cutD
  rw [e, HT.sIx_none]
  by_cases z : j.toNat ≤ l.length
  · rw [Nat.min_eq_left z, List.take_of_length_le (by rw [List.length_drop]; exact Nat.le_refl _)]
  · rw [Nat.min_eq_right (by omega), List.drop_eq_nil_of_le (Nat.le_refl _), List.drop_eq_nil_of_le (by omega), List.take_nil]
theorem gSl_lo' {b : Bool} {xs : List D} {j : Int} (h : 0 ≤ j) : gSl (sqD b xs) (some j) none = .ok (sqD b (xs.drop j.toNat)) := by
  cases b
  · show R.ok (D.lst (cutD xs (some j) none)) = _
    rw [cut_lo h] <;> rfl
  · show R.ok (D.tup (cutD xs (some j) none)) = _
    rw [cut_lo h] <;> rfl
end Tk

namespace Tk
open PySem PySem.Spec L2 PyProof.Rows
noncomputable section
def isT_Guests : List (Kd × Bool) := isT [36] []
def G__law_beside : Ev → SO := sRet (e2 gAdd (eC (.int 1)) (eCall 6 F__law_chosen (aC (eV 0) (aC (eV 1) (aC (eC (.int 1)) (aC (eC (.int 30)) (aC (eC (.int 999)) (aC (eCall 3 F__law_far (aC (eV 0) (aC (e2 gAdd (eV 1) (eC (.int 1))) (aC (eC (.int 1)) (aN))))) (aN)))))))))
def F__law_beside : List D → R D := runF 2 G__law_beside
def B__law_goods_1 : Ev → SO := sSq (sSet 6 (e2 gAdd (eV 1) (e2 gMul (eC (.int 4)) (eV 5)))) (sSq (sSet 7 (eCall 6 F__law_chosen (aC (eV 0) (aC (eV 6) (aC (eC (.int 1)) (aC (eC (.int 12)) (aC (e2 gPow (eC (.int 10)) (eC (.int 6))) (aC (eCall 3 F__law_far (aC (eV 0) (aC (e2 gAdd (eV 6) (eC (.int 1))) (aC (eC (.int 2)) (aN))))) (aN))))))))) (sSq (sSet 8 (e2 gAdd (eC (.int 1)) (eCall 6 F__law_chosen (aC (eV 0) (aC (eV 6) (aC (eC (.int 120)) (aC (eC (.int 4)) (aC (eC (.int 999)) (aC (eCall 3 F__law_far (aC (eV 0) (aC (e2 gAdd (eV 6) (eC (.int 3))) (aC (eC (.int 1)) (aN))))) (aN)))))))))) (sSq (sIf (tV (eV 3)) (sSq (sSet 7 (e2 gMod (eA gInt (aC (eV 7) (aN))) (eC (.int 12)))) (sSet 8 (e2 gAdd (eC (.int 1)) (e2 gMod (eA gInt (aC (e2 gSub (eV 8) (eC (.int 1))) (aN))) (eC (.int 4)))))) (sN)) (sSq (sApp 4 (eA gTup (aC (eV 7) (aC (eV 8) (aN))))) (sIf (tAnd (tV (e2 gGt (eV 5) (eC (.int 0)))) (tV (e2 gEq (eCall 4 F__law_part (aC (eV 0) (aC (e2 gAdd (eV 6) (eC (.int 3))) (aC (eC (.int 1000)) (aC (eC (.int 5)) (aN)))))) (eC (.int 0))))) (sPutL 4 (eOwnIx 4 (e2 gSub (eV 5) (eC (.int 1)))) (eV 5)) (sN))))))
def G__law_goods : Ev → SO := sSq (sOwn 4 (lDisp (aN))) (sSq (sFor (iR1 (eV 2)) (gN 5) (B__law_goods_1)) (sFrz 4 (sRet (eV 4))))
def F__law_goods : List D → R D := runF 9 G__law_goods
def B__law_lowest_1 : Ev → SO := sSq (sIf (tV (e2 gEq (eV 3) (eC (.int 0)))) (sBk) (sN)) (sPar 2 3 (aC (eV 3) (aC (e2 gSub (eV 2) (e2 gMul (eV 3) (e2 gDiv (eV 2) (eV 3)))) (aN))))
def G__law_lowest : Ev → SO := sSq (sPar 2 3 (aC (eA gAbs (aC (eV 0) (aN))) (aC (eV 1) (aN)))) (sSq (sFor (iR1 (eC (.int 400))) (gN 4) (B__law_lowest_1)) (sRet (eA gTup (aC (e2 gDiv (eV 0) (eV 2)) (aC (e2 gDiv (eV 1) (eV 2)) (aN))))))
def F__law_lowest : List D → R D := runF 5 G__law_lowest
def G__law_mean : Ev → SO := sSq (sSet 3 (eA gSum (aC (eLc [5] (iSq (eV 2)) (gN 5) (tsY) (e2 gMul (e2 gIx (e2 gIx (eV 0) (eV 5)) (eC (.int 0))) (e2 gIx (e2 gIx (eV 0) (eV 5)) (eC (.int 1))))) (aN)))) (sSq (sSet 4 (e2 gAdd (eV 1) (eA gSum (aC (eLc [5] (iSq (eV 2)) (gN 5) (tsY) (e2 gIx (e2 gIx (eV 0) (eV 5)) (eC (.int 1)))) (aN))))) (sRet (eCall 2 F__law_lowest (aC (eV 3) (aC (eV 4) (aN))))))
def F__law_mean : List D → R D := runF 6 G__law_mean
def B_Guests___init___1 : Ev → SO := sSq (sIf (tNot (tV (eChain gLe gLe (eC (.int 0)) (eV 3) (eC (.int 1000000))))) (sBad) (sN)) (sIf (tNot (tV (eChain gLe gLe (eC (.int 1)) (eV 4) (eC (.int 1000))))) (sBad) (sN))
def G_Guests___init__ : Ev → SO := sSq (sIf (tV (e2 gGt (eA gLen (aC (eV 1) (aN))) (eC (.int 8)))) (sBad) (sN)) (sSq (sFor (iSq (eV 1)) (gT 2 (gsC (gN 3) (gsC (gN 4) (gsN)))) (B_Guests___init___1)) (sSq (sIf (tNot (tV (eChain gLe gLe (eC (.int 1)) (eV 2) (eC (.int 1000))))) (sBad) (sN)) (sSq (sFldO [36] 0 27 (eA gTuple (aC (eLc [3, 4] (iSq (eV 1)) (gT 2 (gsC (gN 3) (gsC (gN 4) (gsN)))) (tsY) (eA gTup (aC (eV 3) (aC (eV 4) (aN))))) (aN)))) (sFldO [36] 0 28 (eV 2)))))
def F_Guests___init__ : Addr → List D → R (List (Nat × D)) := runI 36 5 G_Guests___init__
def B_Guests_check_lot_1 : Ev → SO := sSq (sIf (tNot (tV (eChain gLt gLt (eV 2) (eV 3) (eA gLen (aC (e1 (gFld [36] 27) (eV 0)) (aN)))))) (sBad) (sN)) (sSet 2 (eV 3))
def G_Guests_check_lot : Ev → SO := sSq (sSet 2 (e1 gNeg (eC (.int 1)))) (sFor (iSq (eV 1)) (gN 3) (B_Guests_check_lot_1))
def F_Guests_check_lot : List D → R D := runF 4 G_Guests_check_lot
def G_Guests_mean : Ev → SO := sSq (sDrop (eMeth 36 nF 2 F_Guests_check_lot (eV 0) (aC (eV 1) (aN)))) (sSq (sSet 2 (eLc [6] (iSq (eV 1)) (gN 6) (tsY) (e2 gIx (e1 (gFld [36] 27) (eV 0)) (eV 6)))) (sSq (sSet 3 (eA gSum (aC (eLc [7, 8] (iSq (eV 2)) (gT 2 (gsC (gN 7) (gsC (gN 8) (gsN)))) (tsY) (e2 gMul (eV 7) (eV 8))) (aN)))) (sSq (sSet 4 (e2 gAdd (e1 (gFld [36] 28) (eV 0)) (eA gSum (aC (eLc [7, 8] (iSq (eV 2)) (gT 2 (gsC (gN 7) (gsC (gN 8) (gsN)))) (tsY) (eV 8)) (aN))))) (sSq (sSet 5 (eA gGcd (aC (eV 3) (aC (eV 4) (aN))))) (sRet (eA gTup (aC (e2 gDiv (eV 3) (eV 5)) (aC (e2 gDiv (eV 4) (eV 5)) (aN)))))))))
def F_Guests_mean : List D → R D := runF 9 G_Guests_mean
def G_Guests___eq__ : Ev → SO := sRet (eAnd (eIsi isT_Guests (eV 1)) (eAnd (e2 gEq (e1 (gFld [36] 27) (eV 0)) (e1 (gFld [36] 27) (eV 1))) (e2 gEq (e1 (gFld [36] 28) (eV 0)) (e1 (gFld [36] 28) (eV 1)))))
def F_Guests___eq__ : List D → R D := runF 2 G_Guests___eq__
def B_law_1 : Ev → SO := sSq (sIf (tNot (tV (eCall 2 F__law_same (aC (eMeth 36 nF 2 F_Guests_mean (eV 8) (aC (eV 10) (aN))) (aC (eCall 3 F__law_mean (aC (eV 3) (aC (eV 4) (aC (eV 10) (aN))))) (aN)))))) (sRet (eC (.bl false))) (sN)) (sIf (tNot (tV (eCall 2 F__law_same (aC (eMethK 36 nF 0 1 2 F_Guests_mean (gDk [0] []) (eV 9) (aN) (aC (eV 10) (aN))) (aC (eCall 3 F__law_mean (aC (e1 gRev (eV 3)) (aC (eV 4) (aC (eV 10) (aN))))) (aN)))))) (sRet (eC (.bl false))) (sN))
def G_law : Ev → SO := sSq (sSet 1 (eCall 2 F__law_pool (aC (eCall 2 F__law_cell (aC (eV 0) (aC (eC (.int 1)) (aN)))) (aC (eC (.int 11)) (aN))))) (sSq (sSet 2 (eCall 4 F__law_part (aC (eV 1) (aC (eC (.int 0)) (aC (eC (.int 1)) (aC (eC (.int 9)) (aN))))))) (sSq (sSet 3 (eCall 4 F__law_goods (aC (eCall 2 F__law_pool (aC (eCall 2 F__law_cell (aC (eV 0) (aC (eC (.int 0)) (aN)))) (aC (eC (.int 32)) (aN)))) (aC (eC (.int 0)) (aC (eV 2) (aC (e2 gEq (eCall 4 F__law_part (aC (eV 1) (aC (eC (.int 0)) (aC (eC (.int 9)) (aC (eC (.int 2)) (aN)))))) (eC (.int 0))) (aN))))))) (sSq (sSet 4 (eCall 2 F__law_beside (aC (eV 1) (aC (eC (.int 1)) (aN))))) (sSq (sSet 5 (eA gTuple (aC (eLc [12] (iR1 (eV 2)) (gN 12) (tV (e2 gEq (eCall 4 F__law_part (aC (eV 1) (aC (e2 gAdd (eC (.int 3)) (eV 12)) (aC (eC (.int 1)) (aC (eC (.int 2)) (aN)))))) (eC (.int 1)))) (eV 12)) (aN)))) (sSq (sSet 6 (eCall 3 F__law_mean (aC (eV 3) (aC (eV 4) (aC (eV 5) (aN)))))) (sSq (sOwn 7 (lList (eV 3))) (sSq (sSet 8 (eBorT (eFrz (nMake 36 3 F_Guests___init__ (aC (eV 7) (aC (eV 4) (aN))))))) (sSq (sIf (tBor (tOr (tNot (tV (eCall 2 F__law_same (aC (eMeth 36 nF 2 F_Guests_mean (eV 8) (aC (eV 5) (aN))) (aC (eV 6) (aN)))))) (tNot (tV (eCall 2 F__law_same (aC (eV 7) (aC (eV 3) (aN)))))))) (sRet (eC (.bl false))) (sN)) (sSq (sMut 7 mIns (aC (eC (.int 0)) (aC (eA gTup (aC (eC (.int 7)) (aC (eC (.int 3)) (aN)))) (aN)))) (sSq (sPop 7) (sSq (sSet 9 (eFrz (nMakeK 36 0 2 3 F_Guests___init__ (gDk [0, 1] []) (aN) (aC (eA gTuple (aC (e1 gRev (eV 3)) (aN))) (aC (eV 4) (aN)))))) (sSq (sFor (iSq (e2 gAdd (eA gLst (aC (eA gTup (aN)) (aC (eTupR (eV 2)) (aN)))) (eLc [12] (iR1 (eV 2)) (gN 12) (tsY) (eA gTup (aC (eV 12) (aN)))))) (gN 10) (B_law_1)) (sSq (sIf (tNot (tV (eCall 2 F__law_same (aC (eA gTup (aC (e1 (gFld [36] 27) (eV 8)) (aC (e1 (gFld [36] 28) (eV 8)) (aN)))) (aC (eA gTup (aC (eA gTuple (aC (eV 3) (aN))) (aC (eV 4) (aN)))) (aN)))))) (sRet (eC (.bl false))) (sN)) (sSq (sIf (tNot (tV (eCall 2 F__law_same (aC (eA gTup (aC (e2 (gOwn 36 F_Guests___eq__) (eV 8) (eFrz (nMake 36 3 F_Guests___init__ (aC (eA gList (aC (eV 3) (aN))) (aC (eV 4) (aN)))))) (aC (e2 (gOwn 36 F_Guests___eq__) (eV 8) (eV 9)) (aN)))) (aC (eA gTup (aC (eC (.bl true)) (aC (e2 gEq (eV 3) (e1 gRev (eV 3))) (aN)))) (aN)))))) (sRet (eC (.bl false))) (sN)) (sSq (sOwn 11 (lDisp (aC (eFrz (nMake 36 3 F_Guests___init__ (aC (eA gList (aC (eV 3) (aN))) (aC (e2 gAdd (e2 gSub (eV 4) (eC (.int 1))) (e2 gMul (eC (.int 2)) (eA gInt (aC (e2 gEq (eV 4) (eC (.int 1))) (aN))))) (aN))))) (aC (eC .non) (aC (eA gTup (aC (eA gTuple (aC (eV 3) (aN))) (aC (eV 4) (aN)))) (aC (eC (.str "guests")) (aN))))))) (sSq (sIf (tV (e2 gGt (eV 2) (eC (.int 0)))) (sApp 11 (eFrz (nMake 36 3 F_Guests___init__ (aC (eSl (eV 3) (oS (eC (.int 1))) (oN)) (aC (eV 4) (aN)))))) (sN)) (sSq (sIf (tV (e2 gLt (eV 2) (eC (.int 8)))) (sApp 11 (eFrz (nMake 36 3 F_Guests___init__ (aC (e2 gAdd (eV 3) (eA gLst (aC (eA gTup (aC (eC (.int 0)) (aC (eC (.int 1)) (aN)))) (aN)))) (aC (eV 4) (aN)))))) (sN)) (sSq (sFrz 11 (sIf (tV (e2 gNe (eLc [13] (iSq (eV 11)) (gN 13) (tNot (tV (eCall 2 F__law_same (aC (e2 (gOwn 36 F_Guests___eq__) (eV 8) (eV 13)) (aC (eC (.bl false)) (aN)))))) (eV 13)) (eA gLst (aN)))) (sRet (eC (.bl false))) (sN))) (sRet (eCall 2 F__law_same (aC (eMeth 36 nF 2 F_Guests_mean (eV 8) (aC (eV 5) (aN))) (aC (eV 6) (aN)))))))))))))))))))))))
def F_law : List D → R D := runF 14 G_law
end
end Tk

namespace Tk
open PySem PySem.Spec L2 PyProof.Rows
/-! ### lowest terms -/
def Ends : Nat → Nat → Nat → Prop
  | 0, _, y => y = 0
  | k + 1, x, y => y = 0 ∨ Ends k y (x % y)
theorem ends_mono : ∀ {k x y : Nat}, Ends k x y → Ends (k + 1) x y
  | 0, _, _, h => .inl h
  | k + 1, _, _, h => h.elim .inl fun h => .inr (ends_mono h)
theorem ends_log : ∀ {j x y : Nat}, y < 2 ^ j → Ends (2 * j) x y
  | 0, x, y, h => by
    show y = 0
    have : y < 1 := h
    omega
  | j + 1, x, y, h => by
    show Ends (2 * j + 1 + 1) x y
    by_cases z : y = 0
    · exact .inl z
    · right
      have hr := Nat.mod_lt x (Nat.pos_of_ne_zero z)
      generalize x % y = r at *
      by_cases z2 : r = 0
      · exact .inl z2
      · right
        have h2 : y % r < r := Nat.mod_lt y (Nat.pos_of_ne_zero z2)
        have h3 := Nat.div_add_mod y r
        have h4 : 1 ≤ y / r := (Nat.one_le_div_iff (Nat.pos_of_ne_zero z2)).mpr (Nat.le_of_lt hr)
        have h5 : r ≤ r * (y / r) := Nat.le_mul_of_pos_right r h4
        refine ends_log ?_
        rw [Nat.pow_succ] at h
        omega
def lwE (a b : D) (x y : Nat) (u : Sl) : Ev := [.v a, .v b, .v (dN x), .v (dN y), u]
theorem low_loop {a b : D} : ∀ {ds : List D} {k x y : Nat} (u : Sl), x < 18446744073709551616 → y < 18446744073709551616 → Ends k x y → k ≤ ds.length → ∃ u', loop (gN 4) B__law_lowest_1 ds (lwE a b x y u) = .nx (lwE a b (Nat.gcd x y) 0 u')
  | [], k, x, y, u, _, _, h, hk => by
    have k0 : k = 0 := by simpa using hk
    subst k0
    have y0 : y = 0 := h
    subst y0
    exact ⟨u, by rw [Nat.gcd_zero_right]; rfl⟩
  | d :: ds, k, x, y, u, hx, hy, h, hk => by
    rw [loop_cons]
    show ∃ u', SO.lp (B__law_lowest_1 (lwE a b x y (.v d))) _ = _
    by_cases z : y = 0
    · subst z
      have st : B__law_lowest_1 (lwE a b x 0 (.v d)) = .bk (lwE a b x 0 (.v d)) := by
        unfold B__law_lowest_1 lwE
        simp_arith [decide_eq_true (show ((0 : Nat) : Int) = 0 from rfl)]
      rw [st]
      exact ⟨.v d, by rw [Nat.gcd_zero_right]; rfl⟩
    · have y0 : 0 < y := Nat.pos_of_ne_zero z
      have gd : gDiv (dN x) (dN y) = .ok (.int ((x : Int) / (y : Int))) := gDiv_int (by omega) (by omega)
      have gm : gMul (dN y) (.int ((x : Int) / (y : Int))) = .ok (.int ((y : Int) * ((x : Int) / (y : Int)))) := gMul_l (by omega) (by omega)
      have em : (x : Int) - (y : Int) * ((x : Int) / (y : Int)) = ((x % y : Nat) : Int) := by
        rw [Int.natCast_emod, Int.emod_def]
      have st : B__law_lowest_1 (lwE a b x y (.v d)) = .nx (lwE a b y (x % y) (.v d)) := by
        unfold B__law_lowest_1 lwE
        simp_arith [decide_eq_false (show ¬ (y : Int) = 0 by omega), sPar_ap, gd, gm, em]
      rw [st]
      cases k with
      | zero => exact absurd h z
      | succ k =>
        have h2 : Ends k y (x % y) := h.resolve_left z
        have hm := Nat.mod_lt x y0
        obtain ⟨u', e⟩ := low_loop (a := a) (b := b) (ds := ds) (.v d) hy (by omega) h2 (by simpa using hk)
        refine ⟨u', ?_⟩
        have ge : Nat.gcd y (x % y) = Nat.gcd x y := by rw [Nat.gcd_comm y, ← Nat.gcd_rec, Nat.gcd_comm]
        rw [ge] at e
        exact e
/-- a pair in lowest terms -/
def gN2 (a b : Int) : Int := ((Nat.gcd a.natAbs b.natAbs : Nat) : Int)
def lowD (a b : Int) : D := .tup [.int (a / gN2 a b), .int (b / gN2 a b)]
theorem g_pos {a b : Int} (hb : 1 ≤ b) : 1 ≤ gN2 a b := by
  have : 0 < Nat.gcd a.natAbs b.natAbs := Nat.gcd_pos_of_pos_right _ (by omega)
  unfold gN2
  omega
theorem g_le {a b : Int} (hb : 1 ≤ b) : gN2 a b ≤ b := by
  have : Nat.gcd a.natAbs b.natAbs ≤ b.natAbs := Nat.gcd_le_right _ (by omega)
  unfold gN2
  omega
theorem lowest_ok {a b : Int} (ha : 0 ≤ a) (ha2 : a < 100000000000) (hb : 1 ≤ b) (hb2 : b ≤ 10000) : F__law_lowest [.int a, .int b] = .ok (lowD a b) := by
  obtain ⟨x, rfl⟩ : ∃ x : Nat, a = (x : Int) := ⟨a.toNat, by omega⟩
  obtain ⟨y, rfl⟩ : ∃ y : Nat, b = (y : Int) := ⟨b.toNat, by omega⟩
  have en : Ends (2 * 14) x y := ends_log (by omega)
  obtain ⟨u', e⟩ := low_loop (a := dN x) (b := dN y) (ds := rgD 0 400) .no (by omega) (by omega) en (by rw [rgD_len]; decide)
  have gp := g_pos (a := (x : Int)) (b := (y : Int)) hb
  have gl := g_le (a := (x : Int)) (b := (y : Int)) hb
  have eg : ((Nat.gcd x y : Nat) : Int) = gN2 (x : Int) (y : Int) := by unfold gN2; rw [Int.natAbs_natCast, Int.natAbs_natCast]
  unfold lwE at e
  have d1 : gDiv (.int (x : Int)) (.int (gN2 (x : Int) (y : Int))) = .ok (.int ((x : Int) / gN2 (x : Int) (y : Int))) := gDiv_int (by omega) (by omega)
  have d2 : gDiv (.int (y : Int)) (.int (gN2 (x : Int) (y : Int))) = .ok (.int ((y : Int) / gN2 (x : Int) (y : Int))) := gDiv_int (by omega) (by omega)
  have sm : small62 400 := by unfold small62; omega
  have ab : (if (x : Int) < 0 then -(x : Int) else (x : Int)) = (x : Int) := if_neg (by omega)
  have abN : (((x : Int).natAbs : Nat) : Int) = (x : Int) := by rw [Int.natAbs_natCast]
  have gt : ∀ p q : D, gTup [p, q] = .ok (.tup [p, q]) := fun p q => if_pos (szle (by simp))
  have tn : (400 : Int).toNat = 400 := rfl
  have eg' : dN (Nat.gcd x y) = .int (gN2 (x : Int) (y : Int)) := congrArg D.int eg
  rw [eg'] at e
  unfold F__law_lowest G__law_lowest
  simp_arith [sPar_ap, ab, abN, sm, tn, e, d1, d2, gt]
  rfl
/-- two fractions that are alike have the same lowest terms -/
theorem cop_uniq {p q p' q' : Nat} (h : Nat.gcd p q = 1) (h' : Nat.gcd p' q' = 1) (e : p * q' = p' * q) : p = p' ∧ q = q' := by
  have c : Nat.Coprime q p := by show Nat.gcd q p = 1; rw [Nat.gcd_comm]; exact h
  have c' : Nat.Coprime q' p' := by show Nat.gcd q' p' = 1; rw [Nat.gcd_comm]; exact h'
  have d1 : q ∣ q' := c.dvd_of_dvd_mul_left (k := q) (m := p) (n := q') (by rw [e]; exact Nat.dvd_mul_left q p')
  have d2 : q' ∣ q := c'.dvd_of_dvd_mul_left (k := q') (m := p') (n := q) (by rw [← e]; exact Nat.dvd_mul_left q' p)
  have eq : q = q' := Nat.dvd_antisymm d1 d2
  subst eq
  refine ⟨?_, rfl⟩
  by_cases z : q = 0
  · subst z
    rw [Nat.gcd_zero_right] at h h'
    rw [h, h']
  · exact Nat.eq_of_mul_eq_mul_right (Nat.pos_of_ne_zero z) e
theorem low_uniq {a b a' b' : Int} (ha : 0 ≤ a) (hb : 1 ≤ b) (ha' : 0 ≤ a') (hb' : 1 ≤ b') (e : a * b' = a' * b) : a / gN2 a b = a' / gN2 a' b' ∧ b / gN2 a b = b' / gN2 a' b' := by
  obtain ⟨x, rfl⟩ : ∃ x : Nat, a = (x : Int) := ⟨a.toNat, by omega⟩
  obtain ⟨y, rfl⟩ : ∃ y : Nat, b = (y : Int) := ⟨b.toNat, by omega⟩
  obtain ⟨x', rfl⟩ : ∃ x : Nat, a' = (x : Int) := ⟨a'.toNat, by omega⟩
  obtain ⟨y', rfl⟩ : ∃ y : Nat, b' = (y : Int) := ⟨b'.toNat, by omega⟩
  have e : x * y' = x' * y := by exact_mod_cast e
  have gp : 0 < Nat.gcd x y := Nat.gcd_pos_of_pos_right _ (by omega)
  have gp' : 0 < Nat.gcd x' y' := Nat.gcd_pos_of_pos_right _ (by omega)
  obtain ⟨p, hp⟩ := Nat.gcd_dvd_left x y
  obtain ⟨q, hq⟩ := Nat.gcd_dvd_right x y
  obtain ⟨p', hp'⟩ := Nat.gcd_dvd_left x' y'
  obtain ⟨q', hq'⟩ := Nat.gcd_dvd_right x' y'
  have cpq : Nat.gcd p q = 1 := by
    have := Nat.gcd_mul_left (Nat.gcd x y) p q
    rw [← hp, ← hq] at this
    exact Nat.eq_of_mul_eq_mul_left gp (by rw [Nat.mul_one]; exact this.symm)
  have cpq' : Nat.gcd p' q' = 1 := by
    have := Nat.gcd_mul_left (Nat.gcd x' y') p' q'
    rw [← hp', ← hq'] at this
    exact Nat.eq_of_mul_eq_mul_left gp' (by rw [Nat.mul_one]; exact this.symm)
  unfold gN2
  simp only [Int.natAbs_natCast]
  generalize Nat.gcd x y = g at *
  generalize Nat.gcd x' y' = g' at *
  subst hp hq hp' hq'
  have e2 : p * q' = p' * q := by
    have : (g * g') * (p * q') = (g * g') * (p' * q) := by
      have h1 : (g * g') * (p * q') = g * p * (g' * q') := by rw [Nat.mul_mul_mul_comm]
      have h2 : (g * g') * (p' * q) = g' * p' * (g * q) := by rw [Nat.mul_comm g g', Nat.mul_mul_mul_comm]
      rw [h1, h2]
      exact e
    exact Nat.eq_of_mul_eq_mul_left (Nat.mul_pos gp gp') this
  obtain ⟨e3, e4⟩ := cop_uniq cpq cpq' e2
  subst e3 e4
  have dv : ∀ (g p : Nat), 0 < g → ((g * p : Nat) : Int) / (g : Int) = (p : Int) := fun g p hg => by
    rw [Int.natCast_mul, Int.mul_ediv_cancel_left _ (by omega)]
  exact ⟨by rw [dv _ _ gp, dv _ _ gp'], by rw [dv _ _ gp, dv _ _ gp']⟩
end Tk

namespace Tk
open PySem PySem.Spec L2 PyProof.Rows
/-! ### guests -/
structure okGd (gs : List (Int × Int)) : Prop where
  len : gs.length ≤ 8
  each : ∀ p ∈ gs, 0 ≤ p.1 ∧ p.1 ≤ 1000000 ∧ 1 ≤ p.2 ∧ p.2 ≤ 1000
theorem okGd.rev {gs : List (Int × Int)} (h : okGd gs) : okGd gs.reverse := ⟨by rw [List.length_reverse]; exact h.len, fun p m => h.each p (List.mem_reverse.mp m)⟩
def cG (gs : List (Int × Int)) (k : Nat) : Int := (gs.getD k (0, 0)).1
def wG (gs : List (Int × Int)) (k : Nat) : Int := (gs.getD k (0, 0)).2
def gGD (gs : List (Int × Int)) (a : Int) : D := .ins 36 [(27, .tup (gs.map dP)), (28, .int a)]
section
variable {gs : List (Int × Int)} {a : Int}
theorem gd_at (h : okGd gs) {k : Nat} (hk : k < gs.length) : 0 ≤ cG gs k ∧ cG gs k ≤ 1000000 ∧ 1 ≤ wG gs k ∧ wG gs k ≤ 1000 := h.each _ (by rw [List.getD_eq_getElem?_getD, List.getElem?_eq_getElem hk]; exact List.getElem_mem hk)
theorem gd_get {k : Nat} (hk : k < gs.length) : gs[k]? = some (cG gs k, wG gs k) := by
  unfold cG wG
  rw [List.getD_eq_getElem?_getD, List.getElem?_eq_getElem hk]
  rfl
theorem ginit_ok {b : Bool} (h : okGd gs) (a0 : 1 ≤ a) (a1 : a ≤ 1000) : (unA fun ad => F_Guests___init__ ad [sqD b (gs.map dP), .int a]) = .ok [(27, .tup (gs.map dP)), (28, .int a)] := unA_eq fun ad => by
  show (G_Guests___init__ (startI ad 36 5 [sqD b (gs.map dP), .int a])).outI ad 36 = _
  have e : startI ad 36 5 [sqD b (gs.map dP), .int a] = [.o (some ad) 36 [], .v (sqD b (gs.map dP)), .v (.int a), .no, .no] := rfl
  rw [e]
  have l8 := h.len
  obtain ⟨ρ', lp, u3, u4, rfl⟩ := loop_map (inj := dP) (h := gT 2 (gsC (gN 3) (gsC (gN 4) gsN))) (body := B_Guests___init___1) (l := gs) (ρ := [.o (some ad) 36 [], .v (sqD b (gs.map dP)), .v (.int a), .no, .no])
    (fun i ρ => ∃ u3 u4, ρ = [.o (some ad) 36 [], .v (sqD b (gs.map dP)), .v (.int a), u3, u4]) ⟨_, _, rfl⟩ (by
      rintro i p ρ hp ⟨u3, u4, rfl⟩
      obtain ⟨x1, x2, x3, x4⟩ := h.each p (List.mem_of_getElem? hp)
      refine ⟨[.o (some ad) 36 [], .v (sqD b (gs.map dP)), .v (.int a), .v (.int p.1), .v (.int p.2)], rfl, ?_⟩
      have st : B_Guests___init___1 [.o (some ad) 36 [], .v (sqD b (gs.map dP)), .v (.int a), .v (.int p.1), .v (.int p.2)] = .nx [.o (some ad) 36 [], .v (sqD b (gs.map dP)), .v (.int a), .v (.int p.1), .v (.int p.2)] := by
        unfold B_Guests___init___1
        simp_arith [decide_eq_true x1, decide_eq_true x2, decide_eq_true x3, decide_eq_true x4]
      rw [st]
      exact ⟨_, _, rfl⟩)
  have lc := lc_all (inj := dP) (h := gT 2 (gsC (gN 3) (gsC (gN 4) gsN))) (t := tsY) (fe := eA gTup (aC (eV 3) (aC (eV 4) (aN)))) (ρ := [.o (some ad) 36 [], .v (sqD b (gs.map dP)), .v (.int a), .no, .no]) (fun p => dP p) (l := gs) fun p _ => by
    refine ⟨[.o (some ad) 36 [], .v (sqD b (gs.map dP)), .v (.int a), .v (.int p.1), .v (.int p.2)], rfl, rfl, ?_⟩
    have gt : gTup [.int p.1, .int p.2] = .ok (dP p) := if_pos (szle (by simp))
    simp_arith [gt]
  have sz : gs.length ≤ sizeLine := szle (by omega)
  unfold G_Guests___init__
  simp_arith [gLen_sq, gIt_sq, List.length_map, decide_eq_false (show ¬ (8 : Int) < (gs.length : Int) by omega), lp, decide_eq_true a0, decide_eq_true a1, sz, lc, sFldO_ap, ownO_zero, putN_nil, putN_cons, List.mem_singleton, outI_nx, Nat.reduceLT]
/-! ### the mean of a lot -/
def num (gs : List (Int × Int)) (ks : List Nat) : Int := (ks.map fun k => cG gs k * wG gs k).sum
def den (gs : List (Int × Int)) (a : Int) (ks : List Nat) : Int := a + (ks.map (wG gs)).sum
/-- a lot: numbers of offers, ascending -/
def okLot (n : Nat) (ks : List Nat) : Prop := ks.Pairwise (· < ·) ∧ ∀ k ∈ ks, k < n
theorem okLot.nd {n : Nat} {ks : List Nat} (h : okLot n ks) : ks.Nodup := h.1.imp fun h => Nat.ne_of_lt h
theorem okLot.len {n : Nat} {ks : List Nat} (h : okLot n ks) : ks.length ≤ n := nodup_len h.nd h.2
theorem den_pos (h : okGd gs) (a0 : 1 ≤ a) : ∀ {ks : List Nat}, (∀ k ∈ ks, k < gs.length) → 1 ≤ den gs a ks ∧ den gs a ks ≤ a + 1000 * ks.length ∧ 0 ≤ num gs ks ∧ num gs ks ≤ 1000000000 * ks.length
  | [], _ => by unfold den num; simp; omega
  | k :: ks, hk => by
    obtain ⟨i1, i2, i3, i4⟩ := den_pos h a0 (ks := ks) fun k m => hk k (List.mem_cons_of_mem _ m)
    obtain ⟨x1, x2, x3, x4⟩ := gd_at h (hk k List.mem_cons_self)
    have m1 : 0 ≤ cG gs k * wG gs k := Int.mul_nonneg x1 (by omega)
    have m2 : cG gs k * wG gs k ≤ 1000000 * 1000 := Int.mul_le_mul x2 x4 (by omega) (by omega)
    unfold den num at *
    rw [List.map_cons, List.sum_cons, List.map_cons, List.sum_cons, List.length_cons]
    omega
theorem ints_sum {ns : List Int} : gSum [.lst (ns.map .int)] = .ok (.int ns.sum) := by
  show (optR (intsOf _)).bind _ = _
  rw [ints_map, optR_some, bind_ok]
theorem f27 : gFld [36] 27 (gGD gs a) = .ok (.tup (gs.map dP)) := rfl
theorem f28 : gFld [36] 28 (gGD gs a) = .ok (.int a) := rfl
theorem gin : insB 36 nF (gGD gs a) = true := (rfl)
theorem lot_ok (h : okGd gs) {ks : List Nat} (hl : okLot gs.length ks) : F_Guests_check_lot [gGD gs a, .tup (ks.map dN)] = .ok .non := by
  have l8 := h.len
  have kl := hl.len
  obtain ⟨ρ', lp, b, u3, _, rfl⟩ := loop_map (inj := dN) (h := gN 3) (body := B_Guests_check_lot_1) (l := ks) (ρ := [.v (gGD gs a), .v (.tup (ks.map dN)), .v (.int (-1)), .no])
    (fun i ρ => ∃ (b : Int) (u3 : Sl), (∀ j k, i ≤ j → ks[j]? = some k → b < (k : Int)) ∧ ρ = [.v (gGD gs a), .v (.tup (ks.map dN)), .v (.int b), u3]) ⟨-1, _, fun _ _ _ _ => by omega, rfl⟩ (by
      rintro i k ρ hk ⟨b, u3, hb, rfl⟩
      have lt := hb i k (Nat.le_refl _) hk
      have kn := hl.2 k (List.mem_of_getElem? hk)
      refine ⟨[.v (gGD gs a), .v (.tup (ks.map dN)), .v (.int b), .v (dN k)], rfl, ?_⟩
      have st : B_Guests_check_lot_1 [.v (gGD gs a), .v (.tup (ks.map dN)), .v (.int b), .v (dN k)] = .nx [.v (gGD gs a), .v (.tup (ks.map dN)), .v (dN k), .v (dN k)] := by
        unfold B_Guests_check_lot_1
        simp_arith [f27, List.length_map, decide_eq_true lt, decide_eq_true (show (k : Int) < (gs.length : Int) by omega)]
      rw [st]
      refine ⟨_, _, fun j k2 hj hk2 => ?_, rfl⟩
      obtain ⟨h1, e1⟩ := List.getElem?_eq_some_iff.mp hk
      obtain ⟨h2, e2⟩ := List.getElem?_eq_some_iff.mp hk2
      have := List.pairwise_iff_getElem.mp hl.1 i j h1 h2 (by omega)
      rw [e1, e2] at this
      omega)
  have gneg : gNeg (.int 1) = .ok (.int (-1)) := rfl
  unfold F_Guests_check_lot G_Guests_check_lot
  simp_arith [gneg, lp]
theorem mean_ok (h : okGd gs) (a0 : 1 ≤ a) (a1 : a ≤ 1000) {ks : List Nat} (hl : okLot gs.length ks) : F_Guests_mean [gGD gs a, .tup (ks.map dN)] = .ok (lowD (num gs ks) (den gs a ks)) := by
  have l8 := h.len
  have kl := hl.len
  obtain ⟨d1, d2, n1, n2⟩ := den_pos h a0 hl.2
  have lo := lot_ok (a := a) h hl
  have lc1 := lc_all (inj := dN) (h := gN 6) (t := tsY) (fe := Tk.e2 gIx (Tk.e1 (gFld [36] 27) (eV 0)) (eV 6)) (ρ := [.v (gGD gs a), .v (.tup (ks.map dN)), .no, .no, .no, .no, .no, .no, .no]) (fun k => dP (cG gs k, wG gs k)) (l := ks) fun k mk => by
    refine ⟨[.v (gGD gs a), .v (.tup (ks.map dN)), .no, .no, .no, .no, .v (dN k), .no, .no], rfl, rfl, ?_⟩
    have g : gIx (.tup (gs.map dP)) (dN k) = .ok (dP (cG gs k, wG gs k)) := gIx_mapT (inj := dP) (by omega) (by rw [Int.toNat_natCast]; exact gd_get (hl.2 k mk))
    simp_arith [f27, g]
  have m1 : ks.map (fun k => dP (cG gs k, wG gs k)) = (ks.map fun k => (cG gs k, wG gs k)).map dP := by rw [List.map_map]; rfl
  rw [m1] at lc1
  have lc2 := lc_all (inj := fun k => dP (cG gs k, wG gs k)) (h := gT 2 (gsC (gN 7) (gsC (gN 8) gsN))) (t := tsY) (fe := Tk.e2 gMul (eV 7) (eV 8)) (ρ := [.v (gGD gs a), .v (.tup (ks.map dN)), .v (.lst ((ks.map fun k => (cG gs k, wG gs k)).map dP)), .no, .no, .no, .no, .no, .no]) (fun k => .int (cG gs k * wG gs k)) (l := ks) fun k mk => by
    obtain ⟨x1, x2, x3, x4⟩ := gd_at h (hl.2 k mk)
    refine ⟨[.v (gGD gs a), .v (.tup (ks.map dN)), .v (.lst ((ks.map fun k => (cG gs k, wG gs k)).map dP)), .no, .no, .no, .no, .v (.int (cG gs k)), .v (.int (wG gs k))], rfl, rfl, ?_⟩
    have g : gMul (.int (cG gs k)) (.int (wG gs k)) = .ok (.int (cG gs k * wG gs k)) := gMul_l (by omega) (by omega)
    simp_arith [g]
  have m2 : ks.map (fun k => D.int (cG gs k * wG gs k)) = (ks.map fun k => cG gs k * wG gs k).map .int := by rw [List.map_map]; rfl
  rw [m2, m1] at lc2
  have lc3 := lc_all (inj := fun k => dP (cG gs k, wG gs k)) (h := gT 2 (gsC (gN 7) (gsC (gN 8) gsN))) (t := tsY) (fe := eV 8) (ρ := [.v (gGD gs a), .v (.tup (ks.map dN)), .v (.lst ((ks.map fun k => (cG gs k, wG gs k)).map dP)), .v (.int (num gs ks)), .no, .no, .no, .no, .no]) (fun k => .int (wG gs k)) (l := ks) fun k mk => by
    exact ⟨[.v (gGD gs a), .v (.tup (ks.map dN)), .v (.lst ((ks.map fun k => (cG gs k, wG gs k)).map dP)), .v (.int (num gs ks)), .no, .no, .no, .v (.int (cG gs k)), .v (.int (wG gs k))], rfl, rfl, rfl⟩
  have m3 : ks.map (fun k => D.int (wG gs k)) = (ks.map (wG gs)).map .int := by rw [List.map_map]; rfl
  rw [m3, m1] at lc3
  have s1 : gSum [.lst ((ks.map fun k => cG gs k * wG gs k).map .int)] = .ok (.int (num gs ks)) := ints_sum
  have s2 : gSum [.lst ((ks.map (wG gs)).map .int)] = .ok (.int ((ks.map (wG gs)).sum)) := ints_sum
  have sz : ks.length ≤ sizeLine := szle (by omega)
  have ed : a + (ks.map (wG gs)).sum = den gs a ks := rfl
  have gg : gGcd [.int (num gs ks), .int (den gs a ks)] = .ok (.int (gN2 (num gs ks) (den gs a ks))) := rfl
  have gp := g_pos (a := num gs ks) d1
  have gl := g_le (a := num gs ks) d1
  have v1 : gDiv (.int (num gs ks)) (.int (gN2 (num gs ks) (den gs a ks))) = .ok (.int (num gs ks / gN2 (num gs ks) (den gs a ks))) := gDiv_int (by omega) (by omega)
  have v2 : gDiv (.int (den gs a ks)) (.int (gN2 (num gs ks) (den gs a ks))) = .ok (.int (den gs a ks / gN2 (num gs ks) (den gs a ks))) := gDiv_int (by omega) (by omega)
  have gt : ∀ p q : D, gTup [p, q] = .ok (.tup [p, q]) := fun p q => if_pos (szle (by simp))
  unfold F_Guests_mean G_Guests_mean
  simp_arith [eMeth_ap, gin, lo, List.length_map, sz, lc1, lc2, s1, f28, lc3, s2, ed, gg, v1, v2, gt]
  rfl
end
end Tk

namespace Tk
open PySem PySem.Spec L2 PyProof.Rows
theorem goes_of {s : SO} {ρ' : Ev} {I : Ev → Prop} (h : I ρ') (e : s = .nx ρ') : SO.goes s I := by rw [e]; exact h
theorem gd_ix {gs : List (Int × Int)} {k : Nat} (hk : k < gs.length) : gIx (.lst (gs.map dP)) (dN k) = .ok (.tup [.int (cG gs k), .int (wG gs k)]) := gIx_map (inj := dP) (by omega) (by rw [Int.toNat_natCast]; exact gd_get hk)
theorem ix0 {x y : D} : gIx (.tup [x, y]) (.int 0) = .ok x := rfl
theorem ix1 {x y : D} : gIx (.tup [x, y]) (.int 1) = .ok y := rfl
section
variable {ps : List Int}
theorem beside_ok (h : 3 ≤ ps.length) : ∃ a : Int, 1 ≤ a ∧ a ≤ 1000 ∧ F__law_beside [.lst (ps.map .int), .int 1] = .ok (.int a) := by
  obtain ⟨f, f0, fe⟩ := far_at (ps := ps) (spot := 1 + 1) (number := 1) (by decide) (by decide) (by decide) (by omega)
  obtain ⟨c, c0, c1, ce⟩ := chosen_ok (ps := ps) (spot := 1) (under := 1) (small := 30) (crest := 999) (whole := f) (by decide) (by omega) (by decide) (by decide) (by decide) (by decide)
  refine ⟨1 + c, by omega, by omega, ?_⟩
  unfold F__law_beside G__law_beside
  simp_arith [fe, ce]
def gdE (ps : List Int) (n : Int) (calm : Bool) (row : List (Int × Int)) (u5 u6 u7 u8 : Sl) : Ev := [.v (.lst (ps.map .int)), .v (.int 0), .v (.int n), .v (.bl calm), .l (row.map dP), u5, u6, u7, u8]
theorem goods_ok {n : Int} {calm : Bool} (n0 : 0 ≤ n) (n8 : n ≤ 8) (h : 32 ≤ ps.length) : ∃ gs, okGd gs ∧ gs.length = n.toNat ∧ F__law_goods [.lst (ps.map .int), .int 0, .int n, .bl calm] = .ok (.lst (gs.map dP)) := by
  obtain ⟨ρ', e, row, u5, u6, u7, u8, lr, pr, rfl⟩ := loop_rg (h := gN 5) (body := B__law_goods_1) (lo := 0) (n := n.toNat) (ρ := gdE ps n calm [] .no .no .no .no)
    (fun i ρ => ∃ (row : List (Int × Int)) (u5 u6 u7 u8 : Sl), row.length = i ∧ (∀ p ∈ row, 0 ≤ p.1 ∧ p.1 ≤ 1000000 ∧ 1 ≤ p.2 ∧ p.2 ≤ 1000) ∧ ρ = gdE ps n calm row u5 u6 u7 u8) ⟨[], .no, .no, .no, .no, rfl, by simp, rfl⟩ (by
      rintro k ρ hk ⟨row, u5, u6, u7, u8, lr, pr, rfl⟩
      refine ⟨gdE ps n calm row (.v (dN k)) u6 u7 u8, by rw [Int.zero_add]; rfl, ?_⟩
      have m4 : gMul (.int 4) (dN k) = .ok (.int (4 * (k : Int))) := gMul_l (by decide) (by decide)
      obtain ⟨f1, f10, fe1⟩ := far_at (ps := ps) (spot := 0 + 4 * (k : Int) + 1) (number := 2) (by omega) (by decide) (by decide) (by omega)
      obtain ⟨c, c0, c1, ce⟩ := chosen_ok (ps := ps) (spot := 0 + 4 * (k : Int)) (under := 1) (small := 12) (crest := 1000000) (whole := f1) (by omega) (by omega) (by decide) (by decide) (by decide) (by decide)
      obtain ⟨f2, f20, fe2⟩ := far_at (ps := ps) (spot := 0 + 4 * (k : Int) + 3) (number := 1) (by omega) (by decide) (by decide) (by omega)
      obtain ⟨w, w0, w1, we⟩ := chosen_ok (ps := ps) (spot := 0 + 4 * (k : Int)) (under := 120) (small := 4) (crest := 999) (whole := f2) (by omega) (by omega) (by decide) (by decide) (by decide) (by decide)
      have p5 := part_ok (ps := ps) (spot := 0 + 4 * (k : Int) + 3) (under := 1000) (size := 5) (by omega) (by omega) (by decide) (by decide) (by decide)
      generalize part ps (0 + 4 * (k : Int) + 3) 1000 5 = q at *
      have pw : gPow (.int 10) (.int 6) = .ok (.int 1000000) := gPow_int (by decide) (by decide) (by decide) (by decide)
      have d12 : ∀ z : Int, gMod (.int z) (.int 12) = .ok (.int (z % 12)) := fun z => gMod_int (by decide)
      have d4 : ∀ z : Int, gMod (.int z) (.int 4) = .ok (.int (z % 4)) := fun z => gMod_int (by decide)
      have sa : row.length < sizeLine := szlt (by omega)
      have gt : ∀ x y : Int, gTup [.int x, .int y] = .ok (dP (x, y)) := fun x y => if_pos (szle (by simp))
      -- the pair that is drawn
      obtain ⟨x, y, x0, x1, y0, y1, hxy⟩ : ∃ x y : Int, 0 ≤ x ∧ x ≤ 1000000 ∧ 1 ≤ y ∧ y ≤ 1000 ∧ ((calm = true ∧ x = c % 12 ∧ y = 1 + (1 + w - 1) % 4) ∨ (calm = false ∧ x = c ∧ y = 1 + w)) := by
        cases calm with
        | true => exact ⟨c % 12, 1 + (1 + w - 1) % 4, by omega, by omega, by omega, by omega, .inl ⟨rfl, rfl, rfl⟩⟩
        | false => exact ⟨c, 1 + w, by omega, by omega, by omega, by omega, .inr ⟨rfl, rfl, rfl⟩⟩
      have pr2 : ∀ p ∈ row ++ [(x, y)], 0 ≤ p.1 ∧ p.1 ≤ 1000000 ∧ 1 ≤ p.2 ∧ p.2 ≤ 1000 := fun p m => by
        rcases List.mem_append.mp m with m | m
        · exact pr p m
        · rw [List.mem_singleton.mp m]; exact ⟨x0, x1, y0, y1⟩
      have st : ∃ row2 : List (Int × Int), row2.length = k + 1 ∧ (∀ p ∈ row2, 0 ≤ p.1 ∧ p.1 ≤ 1000000 ∧ 1 ≤ p.2 ∧ p.2 ≤ 1000) ∧ B__law_goods_1 (gdE ps n calm row (.v (dN k)) u6 u7 u8) = .nx (gdE ps n calm row2 (.v (dN k)) (.v (.int (0 + 4 * (k : Int)))) (.v (.int x)) (.v (.int y))) := by
        have mp : row.map dP ++ [dP (x, y)] = (row ++ [(x, y)]).map dP := by rw [List.map_append]; rfl
        by_cases z : 0 < k ∧ q = 0
        · obtain ⟨r0, hr⟩ : ∃ r0, (row ++ [(x, y)])[k - 1]? = some r0 := ⟨_, List.getElem?_eq_getElem (by rw [List.length_append]; simp; omega)⟩
          have gi : gIx (.lst ((row ++ [(x, y)]).map dP)) (.int ((k : Int) - 1)) = .ok (dP r0) := gIx_map (inj := dP) (by omega) (by rw [show ((k : Int) - 1).toNat = k - 1 by omega]; exact hr)
          have ix : ixN ((row ++ [(x, y)]).map dP).length (k : Int) = some k := ixN_nat (by rw [List.length_map, List.length_append]; simp; omega)
          have ms : ((row ++ [(x, y)]).map dP).set k (dP r0) = ((row ++ [(x, y)]).set k r0).map dP := by rw [List.map_set]
          refine ⟨(row ++ [(x, y)]).set k r0, by rw [List.length_set, List.length_append, lr]; rfl, fun p m => ?_, ?_⟩
          · rcases List.mem_or_eq_of_mem_set m with m | rfl
            · exact pr2 p m
            · exact pr2 _ (List.mem_of_getElem? hr)
          · unfold gdE
            rw [← ms]
            rw [← mp] at gi ix ⊢
            rcases hxy with ⟨rfl, rfl, rfl⟩ | ⟨rfl, rfl, rfl⟩
            · unfold B__law_goods_1
              simp_arith [m4, fe1, pw, ce, fe2, we, d12, d4, gt, List.length_map, sa, decide_eq_true (show (0 : Int) < (k : Int) by omega), p5, decide_eq_true z.2, gi, ix]
            · unfold B__law_goods_1
              simp_arith [m4, fe1, pw, ce, fe2, we, gt, List.length_map, sa, decide_eq_true (show (0 : Int) < (k : Int) by omega), p5, decide_eq_true z.2, gi, ix]
        · refine ⟨row ++ [(x, y)], by rw [List.length_append, lr]; rfl, pr2, ?_⟩
          unfold gdE
          rw [← mp]
          by_cases z1 : 0 < k
          · have z2 : ¬ q = 0 := fun e => z ⟨z1, e⟩
            rcases hxy with ⟨rfl, rfl, rfl⟩ | ⟨rfl, rfl, rfl⟩
            · unfold B__law_goods_1
              simp_arith [m4, fe1, pw, ce, fe2, we, d12, d4, gt, List.length_map, sa, decide_eq_true (show (0 : Int) < (k : Int) by omega), p5, decide_eq_false z2]
            · unfold B__law_goods_1
              simp_arith [m4, fe1, pw, ce, fe2, we, gt, List.length_map, sa, decide_eq_true (show (0 : Int) < (k : Int) by omega), p5, decide_eq_false z2]
          · rcases hxy with ⟨rfl, rfl, rfl⟩ | ⟨rfl, rfl, rfl⟩
            · unfold B__law_goods_1
              simp_arith [m4, fe1, pw, ce, fe2, we, d12, d4, gt, List.length_map, sa, decide_eq_false (show ¬ (0 : Int) < (k : Int) by omega)]
            · unfold B__law_goods_1
              simp_arith [m4, fe1, pw, ce, fe2, we, gt, List.length_map, sa, decide_eq_false (show ¬ (0 : Int) < (k : Int) by omega)]
      obtain ⟨row2, l2, p2, st⟩ := st
      rw [st]
      exact ⟨row2, _, _, _, _, l2, p2, rfl⟩)
  refine ⟨row, ⟨by omega, pr⟩, lr, ?_⟩
  have sm : small62 n := small_rg n0 (by omega)
  unfold gdE at e
  have e : loop (gN 5) B__law_goods_1 (rgD 0 n.toNat) [.v (.lst (ps.map .int)), .v (.int 0), .v (.int n), .v (.bl calm), .l [], .no, .no, .no, .no] = _ := e
  unfold F__law_goods G__law_goods
  simp_arith [sz0, sm, e]
end
section
variable {gs : List (Int × Int)} {a : Int}
theorem lawmean_ok (h : okGd gs) (a0 : 1 ≤ a) (a1 : a ≤ 1000) {ks : List Nat} (hk : okLot gs.length ks) : F__law_mean [.lst (gs.map dP), .int a, .tup (ks.map dN)] = .ok (lowD (num gs ks) (den gs a ks)) := by
  have l8 := h.len
  have kl := hk.len
  obtain ⟨d1, d2, n0, n1⟩ := den_pos h a0 hk.2
  have lc1 := lc_all (inj := dN) (h := gN 5) (t := tsY) (fe := Tk.e2 gMul (Tk.e2 gIx (Tk.e2 gIx (eV 0) (eV 5)) (eC (.int 0))) (Tk.e2 gIx (Tk.e2 gIx (eV 0) (eV 5)) (eC (.int 1)))) (ρ := [.v (.lst (gs.map dP)), .v (.int a), .v (.tup (ks.map dN)), .no, .no, .no]) (fun k => .int (cG gs k * wG gs k)) (l := ks) fun k mk => by
    have hk' := hk.2 k mk
    obtain ⟨x1, x2, x3, x4⟩ := gd_at h hk'
    refine ⟨[.v (.lst (gs.map dP)), .v (.int a), .v (.tup (ks.map dN)), .no, .no, .v (dN k)], rfl, rfl, ?_⟩
    have g : gMul (.int (cG gs k)) (.int (wG gs k)) = .ok (.int (cG gs k * wG gs k)) := gMul_l (by omega) (by omega)
    simp_arith [gd_ix hk', ix0, ix1, g]
  have m1 : ks.map (fun k => D.int (cG gs k * wG gs k)) = (ks.map fun k => cG gs k * wG gs k).map .int := by rw [List.map_map]; rfl
  rw [m1] at lc1
  have lc2 := lc_all (inj := dN) (h := gN 5) (t := tsY) (fe := Tk.e2 gIx (Tk.e2 gIx (eV 0) (eV 5)) (eC (.int 1))) (ρ := [.v (.lst (gs.map dP)), .v (.int a), .v (.tup (ks.map dN)), .v (.int (num gs ks)), .no, .no]) (fun k => .int (wG gs k)) (l := ks) fun k mk => by
    have hk' := hk.2 k mk
    refine ⟨[.v (.lst (gs.map dP)), .v (.int a), .v (.tup (ks.map dN)), .v (.int (num gs ks)), .no, .v (dN k)], rfl, rfl, ?_⟩
    simp_arith [gd_ix hk', ix1]
  have m2 : ks.map (fun k => D.int (wG gs k)) = (ks.map (wG gs)).map .int := by rw [List.map_map]; rfl
  rw [m2] at lc2
  have s1 : gSum [.lst ((ks.map fun k => cG gs k * wG gs k).map .int)] = .ok (.int (num gs ks)) := ints_sum
  have s2 : gSum [.lst ((ks.map (wG gs)).map .int)] = .ok (.int ((ks.map (wG gs)).sum)) := ints_sum
  have ed : a + (ks.map (wG gs)).sum = den gs a ks := rfl
  have sz : ks.length ≤ sizeLine := szle (by omega)
  have lo := lowest_ok n0 (show num gs ks < 100000000000 by omega) d1 (show den gs a ks ≤ 10000 by omega)
  unfold F__law_mean G__law_mean
  simp_arith [List.length_map, sz, lc1, s1, lc2, s2, ed, lo]
/-! ### crowds that are alike -/
theorem clean_gl {gs : List (Int × Int)} : cleanD 2 (.lst (gs.map dP)) = true := clean_lst (inj := dP) (l := gs) fun p _ => rfl
theorem dP_inj {gs gs2 : List (Int × Int)} (e : gs.map dP = gs2.map dP) : gs = gs2 := by
  have inj : ∀ p q : Int × Int, dP p = dP q → p = q := fun p q h => by
    unfold dP at h
    injection h with h
    injection h with h1 h
    injection h with h2 h
    injection h1 with h1
    injection h2 with h2
    exact Prod.ext h1 h2
  exact (List.map_inj_right (f := dP) fun {x y} => inj x y).mp e
theorem eq_gl {gs gs2 : List (Int × Int)} : gEq (.lst (gs.map dP)) (.lst (gs2.map dP)) = .ok (.bl (decide (gs = gs2))) := by
  have g := gEq_clean (n := 2) (m := 2) (by decide) (by decide) (clean_gl (gs := gs)) (clean_gl (gs := gs2))
  by_cases z : gs = gs2
  · rw [decide_eq_true z]; exact g.1 (by rw [z])
  · rw [decide_eq_false z]; exact g.2 fun e => z (dP_inj (by injection e))
theorem clean_gt {gs : List (Int × Int)} : cleanD 2 (.tup (gs.map dP)) = true := clean_gl (gs := gs)
theorem eq_gt {gs gs2 : List (Int × Int)} : gEq (.tup (gs.map dP)) (.tup (gs2.map dP)) = .ok (.bl (decide (gs = gs2))) := by
  have g := gEq_clean (n := 2) (m := 2) (by decide) (by decide) (clean_gt (gs := gs)) (clean_gt (gs := gs2))
  by_cases z : gs = gs2
  · rw [decide_eq_true z]; exact g.1 (by rw [z])
  · rw [decide_eq_false z]; exact g.2 fun e => z (dP_inj (by injection e))
theorem eq_fn {gs gs2 : List (Int × Int)} {a a2 : Int} : F_Guests___eq__ [gGD gs a, gGD gs2 a2] = .ok (.bl (decide (gs = gs2 ∧ a = a2))) := by
  have t : isiTab isT_Guests (gGD gs2 a2) = some true := rfl
  have e := eq_gt (gs := gs) (gs2 := gs2)
  unfold F_Guests___eq__ G_Guests___eq__
  by_cases z : gs = gs2
  · rw [decide_eq_true z] at e
    by_cases y : a = a2
    · simp_arith [eIsi_ap, t, optR_some, f27, f28, e, decide_eq_true y]
      rw [decide_eq_true (show gs = gs2 ∧ a = a2 from ⟨z, y⟩)]
    · simp_arith [eIsi_ap, t, optR_some, f27, f28, e, decide_eq_false y]
      rw [decide_eq_false (show ¬ (gs = gs2 ∧ a = a2) from fun q => y q.2)]
  · rw [decide_eq_false z] at e
    simp_arith [eIsi_ap, t, optR_some, f27, f28, e]
    rw [decide_eq_false (show ¬ (gs = gs2 ∧ a = a2) from fun q => z q.1)]
theorem own_eq {gs gs2 : List (Int × Int)} {a a2 : Int} : gOwn 36 F_Guests___eq__ (gGD gs a) (gGD gs2 a2) = .ok (.bl (decide (gs = gs2 ∧ a = a2))) := by
  unfold gOwn
  rw [eq_fn]
  exact if_pos rfl
theorem own_no {gs : List (Int × Int)} {a : Int} {d : D} (h : eqOk 36 d = true) (t : isiTab isT_Guests d = some false) : gOwn 36 F_Guests___eq__ (gGD gs a) d = .ok (.bl false) := by
  have e : F_Guests___eq__ [gGD gs a, d] = .ok (.bl false) := by
    unfold F_Guests___eq__ G_Guests___eq__
    simp_arith [eIsi_ap, t, optR_some]
  unfold gOwn
  rw [e]
  exact if_pos (by rw [h]; rfl)
end
end Tk

namespace Tk
open PySem PySem.Spec L2 PyProof.Rows
def top (i : Nat) : Stmt := PySem.Challenge.pw_turnsandkeys_k32_guests_mean.main.body.getD i (.Pass ⟨0, 0, 0, 0⟩)
abbrev s__law_part : Stmt := top 16
abbrev s__law_chosen : Stmt := top 18
abbrev s__law_far : Stmt := top 17
abbrev s__law_beside : Stmt := top 20
abbrev s__law_cell : Stmt := top 13
abbrev s__law_goods : Stmt := top 19
abbrev s__law_lowest : Stmt := top 21
abbrev s__law_mean : Stmt := top 22
abbrev s__law_mixed : Stmt := top 14
abbrev s__law_pool : Stmt := top 15
abbrev s__law_integer : Stmt := top 23
abbrev s__law_same : Stmt := top 24
abbrev s_Guests___init__ : Stmt := clMeth (top 11) 0
abbrev s_Guests_check_lot : Stmt := clMeth (top 11) 2
abbrev s_Guests_mean : Stmt := clMeth (top 11) 3
abbrev s_Guests___eq__ : Stmt := clMeth (top 11) 1
abbrev s_law : Stmt := top 25
def df__law_part : He.DefD := dfD ("_law_part", none) "_law_part" "_law_part" s__law_part [] []
def df__law_chosen : He.DefD := dfD ("_law_chosen", none) "_law_chosen" "_law_chosen" s__law_chosen [] []
def df__law_far : He.DefD := dfD ("_law_far", none) "_law_far" "_law_far" s__law_far [] []
def df__law_beside : He.DefD := dfD ("_law_beside", none) "_law_beside" "_law_beside" s__law_beside [] []
def df__law_cell : He.DefD := dfD ("_law_cell", none) "_law_cell" "_law_cell" s__law_cell [] []
def df__law_goods : He.DefD := dfD ("_law_goods", none) "_law_goods" "_law_goods" s__law_goods [] []
def df__law_lowest : He.DefD := dfD ("_law_lowest", none) "_law_lowest" "_law_lowest" s__law_lowest [] []
def df__law_mean : He.DefD := dfD ("_law_mean", none) "_law_mean" "_law_mean" s__law_mean [] []
def df__law_mixed : He.DefD := dfD ("_law_mixed", none) "_law_mixed" "_law_mixed" s__law_mixed [] []
def df__law_pool : He.DefD := dfD ("_law_pool", none) "_law_pool" "_law_pool" s__law_pool [] []
def df__law_integer : He.DefD := dfD ("_law_integer", none) "_law_integer" "_law_integer" s__law_integer [] []
def df__law_same : He.DefD := dfD ("_law_same", none) "_law_same" "_law_same" s__law_same [] []
def df_Guests___init__ : He.DefD := dfD ("Guests", some "__init__") "__init__" "Guests.__init__" s_Guests___init__ [] []
def df_Guests_check_lot : He.DefD := dfD ("Guests", some "check_lot") "check_lot" "Guests.check_lot" s_Guests_check_lot [] []
def df_Guests_mean : He.DefD := dfD ("Guests", some "mean") "mean" "Guests.mean" s_Guests_mean [] []
def df_Guests___eq__ : He.DefD := dfD ("Guests", some "__eq__") "__eq__" "Guests.__eq__" s_Guests___eq__ [] []
def df_law : He.DefD := dfD ("law", none) "law" "law" s_law [] []
def fa : List He.Fa := faB ++ [.int "MOST_OFFERS" (8), .int "LARGEST_CHARGE" (1000000), .int "LARGEST_WEIGHT" (1000), .glo "_law_part", .glo "_law_chosen", .glo "_law_far", .glo "_law_beside", .glo "_law_cell", .glo "_law_goods", .glo "_law_lowest", .glo "_law_mean", .glo "_law_mixed", .glo "_law_pool", .glo "_law_integer", .glo "_law_same", .glo "law", .glo "Guests", .cls "Guests", .mkr "Guests", .meth "Guests" "mean", .meth "Guests" "check_lot", .meth "Guests" "__eq__", .noat "Guests" "offers", .noat "Guests" "aside"]
def fn : List He.DefD := [df__law_part, df__law_chosen, df__law_far, df__law_beside, df__law_cell, df__law_goods, df__law_lowest, df__law_mean, df__law_mixed, df__law_pool, df__law_integer, df__law_same, df_Guests___init__, df_Guests_check_lot, df_Guests_mean, df_Guests___eq__, df_law]
def exL (K : PySem.W.Frag) : Bool := [bltB K "gcd" "math.gcd", eqTyB K (He.ga K "Guests"), kitB2 K clsL "Guests" isT_Guests, insTyB K "Guests"].all fun b => b
section
variable {P : Program} {w : World} {K : PySem.W.Frag} {mg : Str → Option Value} {base : Heap}
theorem fn_offers : ∀ k, (cnL K).n k = (cnL K).n 27 → k = 27 := nm_inj (f := 27) fld_nd (by decide +kernel) fld_ne
theorem ff_Guests_offers (T : SaysU fa fn exL K mg) : ∀ c ∈ [36], ∀ C, (cnL K).a c = some C → Cls K C ∧ NoAttr K C "offers" := fun c m C e => by
  cases List.mem_singleton.mp m
  exact T.fld 35 40 (Option.some.inj e)
theorem fa_offers (T : SaysU fa fn exL K mg) : ∀ c ∈ [36], ∀ C, (cnL K).a c = some C → Cls K C ∧ NoAttr K C "offers" := fun c m C e => by
  simp only [List.mem_cons, List.not_mem_nil, or_false] at m
  rcases m with rfl
  · exact ff_Guests_offers T _ (by decide) C e
theorem fn_aside : ∀ k, (cnL K).n k = (cnL K).n 28 → k = 28 := nm_inj (f := 28) fld_nd (by decide +kernel) fld_ne
theorem ff_Guests_aside (T : SaysU fa fn exL K mg) : ∀ c ∈ [36], ∀ C, (cnL K).a c = some C → Cls K C ∧ NoAttr K C "aside" := fun c m C e => by
  cases List.mem_singleton.mp m
  exact T.fld 35 41 (Option.some.inj e)
theorem fa_aside (T : SaysU fa fn exL K mg) : ∀ c ∈ [36], ∀ C, (cnL K).a c = some C → Cls K C ∧ NoAttr K C "aside" := fun c m C e => by
  simp only [List.mem_cons, List.not_mem_nil, or_false] at m
  rcases m with rfl
  · exact ff_Guests_aside T _ (by decide) C e
theorem mn_mean : ∀ k, k < nF → nmOf fldL k ≠ "mean" := fun k _ => nm_ne (by decide +kernel) (by decide +kernel) k
theorem mn_check_lot : ∀ k, k < nF → nmOf fldL k ≠ "check_lot" := fun k _ => nm_ne (by decide +kernel) (by decide +kernel) k
theorem mn___eq__ : ∀ k, k < nF → nmOf fldL k ≠ "__eq__" := fun k _ => nm_ne (by decide +kernel) (by decide +kernel) k
theorem gb_gcd (T : SaysU fa fn exL K mg) : mg "gcd" = some (.builtin "math.gcd") := T.toSays.blt (List.all_eq_true.mp T.u _ (by simp))
theorem eq_Guests (T : SaysU fa fn exL K mg) : eqTyB K (He.ga K "Guests") = true := List.all_eq_true.mp T.u _ (by simp)
theorem gl_Guests (T : SaysU fa fn exL K mg) : mg "Guests" = some (.ref (He.ga K "Guests")) := T.glo 34
theorem is_Guests (T : SaysU fa fn exL K mg) : IsiOk K (cnL K) (He.ga K "Guests") isT_Guests := by
  have u := List.all_eq_true.mp T.u
  refine isi_ok (cls := clsL) (fun _ => rfl) (u _ (by simp)) fun c y e q => ?_
  have key : c ∈ [36] := by
    obtain ⟨b, hb⟩ := q
    simp [isT_Guests, isT] at hb ⊢
    omega
  simp only [List.mem_cons, List.not_mem_nil, or_false] at key
  rcases key with rfl
  · cases e; exact insTy_ok (He.cls_ok (T.c.fact 35 rfl)) (u _ (by simp))
abbrev N__law_part : List Str := ["pool", "spot", "under", "size"]
theorem sc__law_part : FnScope N__law_part ["pool", "spot", "under", "size"] (defScope s__law_part) := ⟨rfl, rfl, rfl, by decide +kernel, rfl, by decide +kernel, by decide +kernel⟩
theorem b__law_part {K : PySem.W.Frag} {f : Addr} {fd : FuncData} (F : FD K "_law_part" "_law_part" s__law_part [] [] f fd) : Binds K fd ["pool", "spot", "under", "size"] [] := FunD.bindsN (ps := ["pool", "spot", "under", "size"]) F fun _ _ _ _ _ _ us hl => match us, hl with | [_a0, _a1, _a2, _a3], _ => rfl
abbrev N__law_chosen : List Str := ["pool", "spot", "under", "small", "crest", "whole", "way", "near"]
theorem sc__law_chosen : FnScope N__law_chosen ["pool", "spot", "under", "small", "crest", "whole"] (defScope s__law_chosen) := ⟨rfl, rfl, rfl, by decide +kernel, rfl, by decide +kernel, by decide +kernel⟩
theorem b__law_chosen {K : PySem.W.Frag} {f : Addr} {fd : FuncData} (F : FD K "_law_chosen" "_law_chosen" s__law_chosen [] [] f fd) : Binds K fd ["pool", "spot", "under", "small", "crest", "whole"] [] := FunD.bindsN (ps := ["pool", "spot", "under", "small", "crest", "whole"]) F fun _ _ _ _ _ _ us hl => match us, hl with | [_a0, _a1, _a2, _a3, _a4, _a5], _ => rfl
abbrev N__law_far : List Str := ["pool", "spot", "number", "far", "k"]
theorem sc__law_far : FnScope N__law_far ["pool", "spot", "number"] (defScope s__law_far) := ⟨rfl, rfl, rfl, by decide +kernel, rfl, by decide +kernel, by decide +kernel⟩
theorem b__law_far {K : PySem.W.Frag} {f : Addr} {fd : FuncData} (F : FD K "_law_far" "_law_far" s__law_far [] [] f fd) : Binds K fd ["pool", "spot", "number"] [] := FunD.bindsN (ps := ["pool", "spot", "number"]) F fun _ _ _ _ _ _ us hl => match us, hl with | [_a0, _a1, _a2], _ => rfl
abbrev N__law_beside : List Str := ["pool", "spot"]
theorem sc__law_beside : FnScope N__law_beside ["pool", "spot"] (defScope s__law_beside) := ⟨rfl, rfl, rfl, by decide +kernel, rfl, by decide +kernel, by decide +kernel⟩
theorem b__law_beside {K : PySem.W.Frag} {f : Addr} {fd : FuncData} (F : FD K "_law_beside" "_law_beside" s__law_beside [] [] f fd) : Binds K fd ["pool", "spot"] [] := FunD.bindsN (ps := ["pool", "spot"]) F fun _ _ _ _ _ _ us hl => match us, hl with | [_a0, _a1], _ => rfl
abbrev N__law_cell : List Str := ["script", "k", "far", "j"]
theorem sc__law_cell : FnScope N__law_cell ["script", "k"] (defScope s__law_cell) := ⟨rfl, rfl, rfl, by decide +kernel, rfl, by decide +kernel, by decide +kernel⟩
theorem b__law_cell {K : PySem.W.Frag} {f : Addr} {fd : FuncData} (F : FD K "_law_cell" "_law_cell" s__law_cell [] [] f fd) : Binds K fd ["script", "k"] [] := FunD.bindsN (ps := ["script", "k"]) F fun _ _ _ _ _ _ us hl => match us, hl with | [_a0, _a1], _ => rfl
abbrev N__law_goods : List Str := ["pool", "spot", "number", "calm", "goods", "k", "place", "charge", "weight"]
theorem sc__law_goods : FnScope N__law_goods ["pool", "spot", "number", "calm"] (defScope s__law_goods) := ⟨rfl, rfl, rfl, by decide +kernel, rfl, by decide +kernel, by decide +kernel⟩
theorem b__law_goods {K : PySem.W.Frag} {f : Addr} {fd : FuncData} (F : FD K "_law_goods" "_law_goods" s__law_goods [] [] f fd) : Binds K fd ["pool", "spot", "number", "calm"] [] := FunD.bindsN (ps := ["pool", "spot", "number", "calm"]) F fun _ _ _ _ _ _ us hl => match us, hl with | [_a0, _a1, _a2, _a3], _ => rfl
abbrev N__law_lowest : List Str := ["above", "below", "one", "two", "turn"]
theorem sc__law_lowest : FnScope N__law_lowest ["above", "below"] (defScope s__law_lowest) := ⟨rfl, rfl, rfl, by decide +kernel, rfl, by decide +kernel, by decide +kernel⟩
theorem b__law_lowest {K : PySem.W.Frag} {f : Addr} {fd : FuncData} (F : FD K "_law_lowest" "_law_lowest" s__law_lowest [] [] f fd) : Binds K fd ["above", "below"] [] := FunD.bindsN (ps := ["above", "below"]) F fun _ _ _ _ _ _ us hl => match us, hl with | [_a0, _a1], _ => rfl
abbrev N__law_mean : List Str := ["goods", "beside", "picked", "above", "below", "k"]
theorem sc__law_mean : FnScope N__law_mean ["goods", "beside", "picked"] (defScope s__law_mean) := ⟨rfl, rfl, rfl, by decide +kernel, rfl, by decide +kernel, by decide +kernel⟩
theorem b__law_mean {K : PySem.W.Frag} {f : Addr} {fd : FuncData} (F : FD K "_law_mean" "_law_mean" s__law_mean [] [] f fd) : Binds K fd ["goods", "beside", "picked"] [] := FunD.bindsN (ps := ["goods", "beside", "picked"]) F fun _ _ _ _ _ _ us hl => match us, hl with | [_a0, _a1, _a2], _ => rfl
abbrev N__law_mixed : List Str := ["cell", "k", "x"]
theorem sc__law_mixed : FnScope N__law_mixed ["cell", "k"] (defScope s__law_mixed) := ⟨rfl, rfl, rfl, by decide +kernel, rfl, by decide +kernel, by decide +kernel⟩
theorem b__law_mixed {K : PySem.W.Frag} {f : Addr} {fd : FuncData} (F : FD K "_law_mixed" "_law_mixed" s__law_mixed [] [] f fd) : Binds K fd ["cell", "k"] [] := FunD.bindsN (ps := ["cell", "k"]) F fun _ _ _ _ _ _ us hl => match us, hl with | [_a0, _a1], _ => rfl
abbrev N__law_pool : List Str := ["cell", "number", "rest", "deep", "pool", "k"]
theorem sc__law_pool : FnScope N__law_pool ["cell", "number"] (defScope s__law_pool) := ⟨rfl, rfl, rfl, by decide +kernel, rfl, by decide +kernel, by decide +kernel⟩
theorem b__law_pool {K : PySem.W.Frag} {f : Addr} {fd : FuncData} (F : FD K "_law_pool" "_law_pool" s__law_pool [] [] f fd) : Binds K fd ["cell", "number"] [] := FunD.bindsN (ps := ["cell", "number"]) F fun _ _ _ _ _ _ us hl => match us, hl with | [_a0, _a1], _ => rfl
abbrev N__law_integer : List Str := ["got"]
theorem sc__law_integer : FnScope N__law_integer ["got"] (defScope s__law_integer) := ⟨rfl, rfl, rfl, by decide +kernel, rfl, by decide +kernel, by decide +kernel⟩
theorem b__law_integer {K : PySem.W.Frag} {f : Addr} {fd : FuncData} (F : FD K "_law_integer" "_law_integer" s__law_integer [] [] f fd) : Binds K fd ["got"] [] := FunD.bindsN (ps := ["got"]) F fun _ _ _ _ _ _ us hl => match us, hl with | [_a0], _ => rfl
abbrev N__law_same : List Str := ["got", "wanted", "k"]
theorem sc__law_same : FnScope N__law_same ["got", "wanted"] (defScope s__law_same) := ⟨rfl, rfl, rfl, by decide +kernel, rfl, by decide +kernel, by decide +kernel⟩
theorem b__law_same {K : PySem.W.Frag} {f : Addr} {fd : FuncData} (F : FD K "_law_same" "_law_same" s__law_same [] [] f fd) : Binds K fd ["got", "wanted"] [] := FunD.bindsN (ps := ["got", "wanted"]) F fun _ _ _ _ _ _ us hl => match us, hl with | [_a0, _a1], _ => rfl
abbrev N_Guests___init__ : List Str := ["self", "offers", "aside", "charge", "weight"]
theorem sc_Guests___init__ : FnScope N_Guests___init__ ["self", "offers", "aside"] (defScope s_Guests___init__) := ⟨rfl, rfl, rfl, by decide +kernel, rfl, by decide +kernel, by decide +kernel⟩
theorem kb_Guests___init___0_offers_aside {K : PySem.W.Frag} {ca : Cn} {f : Addr} {fd : FuncData} (F : FD K "__init__" "Guests.__init__" s_Guests___init__ [] [] f fd) : KBI K ca fd ["self", "offers", "aside"] 0 ["offers", "aside"] (gDk [0, 1] []) := kbi_n (kd := []) F 0 ["offers", "aside"] [1, 2] (by decide) fun _ _ _ _ _ _ us ws l1 l2 => match us, l1, ws, l2 with | [_a0], _, [_w0, _w1], _ => rfl
theorem b_Guests___init__ {K : PySem.W.Frag} {f : Addr} {fd : FuncData} (F : FD K "__init__" "Guests.__init__" s_Guests___init__ [] [] f fd) : Binds K fd ["self", "offers", "aside"] [] := FunD.bindsN (ps := ["self", "offers", "aside"]) F fun _ _ _ _ _ _ us hl => match us, hl with | [_a0, _a1, _a2], _ => rfl
abbrev N_Guests_check_lot : List Str := ["self", "lot", "before", "number"]
theorem sc_Guests_check_lot : FnScope N_Guests_check_lot ["self", "lot"] (defScope s_Guests_check_lot) := ⟨rfl, rfl, rfl, by decide +kernel, rfl, by decide +kernel, by decide +kernel⟩
theorem b_Guests_check_lot {K : PySem.W.Frag} {f : Addr} {fd : FuncData} (F : FD K "check_lot" "Guests.check_lot" s_Guests_check_lot [] [] f fd) : Binds K fd ["self", "lot"] [] := FunD.bindsN (ps := ["self", "lot"]) F fun _ _ _ _ _ _ us hl => match us, hl with | [_a0, _a1], _ => rfl
abbrev N_Guests_mean : List Str := ["self", "lot", "shown", "top", "bottom", "shared", "number", "charge", "weight"]
theorem sc_Guests_mean : FnScope N_Guests_mean ["self", "lot"] (defScope s_Guests_mean) := ⟨rfl, rfl, rfl, by decide +kernel, rfl, by decide +kernel, by decide +kernel⟩
theorem kb_Guests_mean_0_lot {K : PySem.W.Frag} {ca : Cn} {f : Addr} {fd : FuncData} (F : FD K "mean" "Guests.mean" s_Guests_mean [] [] f fd) : KBI K ca fd ["self", "lot"] 0 ["lot"] (gDk [0] []) := kbi_n (kd := []) F 0 ["lot"] [1] (by decide) fun _ _ _ _ _ _ us ws l1 l2 => match us, l1, ws, l2 with | [_a0], _, [_w0], _ => rfl
theorem b_Guests_mean {K : PySem.W.Frag} {f : Addr} {fd : FuncData} (F : FD K "mean" "Guests.mean" s_Guests_mean [] [] f fd) : Binds K fd ["self", "lot"] [] := FunD.bindsN (ps := ["self", "lot"]) F fun _ _ _ _ _ _ us hl => match us, hl with | [_a0, _a1], _ => rfl
abbrev N_Guests___eq__ : List Str := ["self", "other"]
theorem sc_Guests___eq__ : FnScope N_Guests___eq__ ["self", "other"] (defScope s_Guests___eq__) := ⟨rfl, rfl, rfl, by decide +kernel, rfl, by decide +kernel, by decide +kernel⟩
theorem b_Guests___eq__ {K : PySem.W.Frag} {f : Addr} {fd : FuncData} (F : FD K "__eq__" "Guests.__eq__" s_Guests___eq__ [] [] f fd) : Binds K fd ["self", "other"] [] := FunD.bindsN (ps := ["self", "other"]) F fun _ _ _ _ _ _ us hl => match us, hl with | [_a0, _a1], _ => rfl
abbrev N_law : List Str := ["script", "rest", "number", "goods", "beside", "picked", "wanted", "given", "crowd", "turned", "some", "others", "k", "other"]
theorem sc_law : FnScope N_law ["script"] (defScope s_law) := ⟨rfl, rfl, rfl, by decide +kernel, rfl, by decide +kernel, by decide +kernel⟩
theorem d__law_part (T : SaysU fa fn exL K mg) : DefA P w K mg base (cnL K) 1 "_law_part" s__law_part [] [] ["pool", "spot", "under", "size"] F__law_part :=
  DefA.of (N := N__law_part) (g := G__law_part) (T.dfn (dd := []) (kd := []) 21 0) sc__law_part fun f cdv A outer s H E hr => fss_one (fs_ret (fe_op op_mod v2_mod (fe_op op_fdivW v2_div (fe_intc T.bt (fa_cons (fe_ix (fun _ _ => rfl) (fe_v 0) (fe_v 1)) (fa_nil))) (fe_v 2)) (fe_v 3)))
theorem d__law_chosen (T : SaysU fa fn exL K mg) : DefA P w K mg base (cnL K) 2 "_law_chosen" s__law_chosen [] [] ["pool", "spot", "under", "small", "crest", "whole"] F__law_chosen :=
  DefA.of (N := N__law_chosen) (g := G__law_chosen) (T.dfn (dd := []) (kd := []) 22 1) sc__law_chosen fun f cdv A outer s H E hr => fss_cons (fs_set (i := 6) sc__law_chosen.nd rfl (fe_a (d__law_part T) b__law_part hr (takes_of rfl rfl rfl rfl) (fa_cons (fe_v 0) (fa_cons (fe_v 1) (fa_cons (fe_v 2) (fa_cons (fe_int) (fa_nil))))))) (fss_cons (fs_set (i := 7) sc__law_chosen.nd rfl (fe_a (d__law_part T) b__law_part hr (takes_of rfl rfl rfl rfl) (fa_cons (fe_v 0) (fa_cons (fe_v 1) (fa_cons (fe_op op_mul2 v2_mul (fe_int) (fe_v 2)) (fa_cons (fe_v 3) (fa_nil))))))) (fss_cons (fs_if (ft_cmp (op_eqA (hu64 hr)) v2_eq (by first | exact nomark _ | rfl) (fe_v 6) (fe_int)) (fss_one (fs_ret (fe_op op_sub v2_sub (fe_v 4) (fe_v 7)))) (fss_nil)) (fss_cons (fs_if (ft_cmp (op_eqA (hu64 hr)) v2_eq (by first | exact nomark _ | rfl) (fe_v 6) (fe_int)) (fss_one (fs_ret (fe_op op_mod v2_mod (fe_intc T.bt (fa_cons (fe_v 5) (fa_nil))) (fe_op op_addA v2_add (fe_v 4) (fe_int))))) (fss_nil)) (fss_one (fs_ret (fe_v 7))))))
theorem d__law_far (T : SaysU fa fn exL K mg) : DefA P w K mg base (cnL K) 1 "_law_far" s__law_far [] [] ["pool", "spot", "number"] F__law_far :=
  DefA.of (N := N__law_far) (g := G__law_far) (T.dfn (dd := []) (kd := []) 23 2) sc__law_far fun f cdv A outer s H E hr => fss_cons (fs_set (i := 3) sc__law_far.nd rfl (fe_int)) (fss_cons (fs_for (zs := [4]) (passes_of rfl) rfl (fi_r1 rfl T.bt.range (fe_v 2)) (fg_n (i := 4) sc__law_far.nd rfl) (fss_one (fs_set (i := 3) sc__law_far.nd rfl (fe_op op_addA v2_add (fe_op op_mul2 v2_mul (fe_v 3) (fe_int)) (fe_op op_mod v2_mod (fe_intc T.bt (fa_cons (fe_ix (fun _ _ => rfl) (fe_v 0) (fe_op op_addA v2_add (fe_v 1) (fe_v 4))) (fa_nil))) (fe_int)))))) (fss_one (fs_ret (fe_v 3))))
theorem d__law_beside (T : SaysU fa fn exL K mg) : DefA P w K mg base (cnL K) 3 "_law_beside" s__law_beside [] [] ["pool", "spot"] F__law_beside :=
  DefA.of (N := N__law_beside) (g := G__law_beside) (T.dfn (dd := []) (kd := []) 24 3) sc__law_beside fun f cdv A outer s H E hr => fss_one (fs_ret (fe_op op_addA v2_add (fe_int) (fe_a (d__law_chosen T) b__law_chosen hr (takes_of rfl rfl rfl rfl) (fa_cons (fe_v 0) (fa_cons (fe_v 1) (fa_cons (fe_int) (fa_cons (fe_int) (fa_cons (fe_int) (fa_cons (fe_a (d__law_far T) b__law_far hr (takes_of rfl rfl rfl rfl) (fa_cons (fe_v 0) (fa_cons (fe_op op_addA v2_add (fe_v 1) (fe_int)) (fa_cons (fe_int) (fa_nil))))) (fa_nil))))))))))
theorem d__law_cell (T : SaysU fa fn exL K mg) : DefA P w K mg base (cnL K) 1 "_law_cell" s__law_cell [] [] ["script", "k"] F__law_cell :=
  DefA.of (N := N__law_cell) (g := G__law_cell) (T.dfn (dd := []) (kd := []) 25 4) sc__law_cell fun f cdv A outer s H E hr => fss_cons (fs_if (ft_cmp op_lt v2_lt (by first | exact nomark _ | rfl) (fe_v 1) (fe_len T.bt (fa_cons (fe_v 0) (fa_nil)))) (fss_one (fs_ret (fe_ix (fun _ _ => rfl) (fe_v 0) (fe_v 1)))) (fss_nil)) (fss_cons (fs_set (i := 2) sc__law_cell.nd rfl (fe_op op_mul2 v2_mul (fe_int) (fe_op op_addA v2_add (fe_v 1) (fe_int)))) (fss_cons (fs_for (zs := [3]) (passes_of rfl) rfl (fi_r1 rfl T.bt.range (fe_len T.bt (fa_cons (fe_v 0) (fa_nil)))) (fg_n (i := 3) sc__law_cell.nd rfl) (fss_one (fs_set (i := 2) sc__law_cell.nd rfl (fe_op op_mod v2_mod (fe_op op_addA v2_add (fe_v 2) (fe_op op_mul2 v2_mul (fe_op op_mul2 v2_mul (fe_op op_addA v2_add (fe_v 3) (fe_int)) (fe_op op_mod v2_mod (fe_abs T.bt (fa_cons (fe_ix (fun _ _ => rfl) (fe_v 0) (fe_v 3)) (fa_nil))) (fe_int))) (fe_int))) (fe_int))))) (fss_one (fs_ret (fe_v 2)))))
theorem d__law_goods (T : SaysU fa fn exL K mg) : DefA P w K mg base (cnL K) 3 "_law_goods" s__law_goods [] [] ["pool", "spot", "number", "calm"] F__law_goods :=
  DefA.of (N := N__law_goods) (g := G__law_goods) (T.dfn (dd := []) (kd := []) 26 5) sc__law_goods fun f cdv A outer s H E hr => fss_cons (fs_own (i := 4) sc__law_goods.nd rfl (fl_lst (fa_nil))) (fss_cons (fs_for (zs := [5]) (passes_of rfl) rfl (fi_r1 rfl T.bt.range (fe_v 2)) (fg_n (i := 5) sc__law_goods.nd rfl) (fss_cons (fs_set (i := 6) sc__law_goods.nd rfl (fe_op op_addA v2_add (fe_v 1) (fe_op op_mul2 v2_mul (fe_int) (fe_v 5)))) (fss_cons (fs_set (i := 7) sc__law_goods.nd rfl (fe_a (d__law_chosen T) b__law_chosen hr (takes_of rfl rfl rfl rfl) (fa_cons (fe_v 0) (fa_cons (fe_v 6) (fa_cons (fe_int) (fa_cons (fe_int) (fa_cons (fe_op op_pow v2_pow (fe_int) (fe_int)) (fa_cons (fe_a (d__law_far T) b__law_far hr (takes_of rfl rfl rfl rfl) (fa_cons (fe_v 0) (fa_cons (fe_op op_addA v2_add (fe_v 6) (fe_int)) (fa_cons (fe_int) (fa_nil))))) (fa_nil))))))))) (fss_cons (fs_set (i := 8) sc__law_goods.nd rfl (fe_op op_addA v2_add (fe_int) (fe_a (d__law_chosen T) b__law_chosen hr (takes_of rfl rfl rfl rfl) (fa_cons (fe_v 0) (fa_cons (fe_v 6) (fa_cons (fe_int) (fa_cons (fe_int) (fa_cons (fe_int) (fa_cons (fe_a (d__law_far T) b__law_far hr (takes_of rfl rfl rfl rfl) (fa_cons (fe_v 0) (fa_cons (fe_op op_addA v2_add (fe_v 6) (fe_int)) (fa_cons (fe_int) (fa_nil))))) (fa_nil)))))))))) (fss_cons (fs_if (ft_val (fe_v 3)) (fss_cons (fs_set (i := 7) sc__law_goods.nd rfl (fe_op op_mod v2_mod (fe_intc T.bt (fa_cons (fe_v 7) (fa_nil))) (fe_int))) (fss_one (fs_set (i := 8) sc__law_goods.nd rfl (fe_op op_addA v2_add (fe_int) (fe_op op_mod v2_mod (fe_intc T.bt (fa_cons (fe_op op_sub v2_sub (fe_v 8) (fe_int)) (fa_nil))) (fe_int)))))) (fss_nil)) (fss_cons (fs_app (i := 4) rfl (fe_tup (fa_cons (fe_v 7) (fa_cons (fe_v 8) (fa_nil))))) (fss_one (fs_if (ft_w (fw_and (ft_cmp op_gt v2_gt (by first | exact nomark _ | rfl) (fe_v 5) (fe_int)) (fw_and1 (ft_cmp (op_eqA (hu64 hr)) v2_eq (by first | exact nomark _ | rfl) (fe_a (d__law_part T) b__law_part hr (takes_of rfl rfl rfl rfl) (fa_cons (fe_v 0) (fa_cons (fe_op op_addA v2_add (fe_v 6) (fe_int)) (fa_cons (fe_int) (fa_cons (fe_int) (fa_nil)))))) (fe_int))))) (fss_one (fs_putL (i := 4) rfl (fe_ownIx (i := 4) (fun _ _ => rfl) rfl (fe_op op_sub v2_sub (fe_v 5) (fe_int))) (fe_v 5))) (fss_nil))))))))) (fss_one (fs_frz 4 (fs_ret (fe_v 4)))))
theorem d__law_lowest (T : SaysU fa fn exL K mg) : DefA P w K mg base (cnL K) 1 "_law_lowest" s__law_lowest [] [] ["above", "below"] F__law_lowest :=
  DefA.of (N := N__law_lowest) (g := G__law_lowest) (T.dfn (dd := []) (kd := []) 27 6) sc__law_lowest fun f cdv A outer s H E hr => fss_cons (fs_par (i := 2) (j := 3) rfl sc__law_lowest.nd rfl rfl (by decide) rfl rfl rfl (fa_cons (fe_abs T.bt (fa_cons (fe_v 0) (fa_nil))) (fa_cons (fe_v 1) (fa_nil)))) (fss_cons (fs_for (zs := [4]) (passes_of rfl) rfl (fi_r1 rfl T.bt.range (fe_int)) (fg_n (i := 4) sc__law_lowest.nd rfl) (fss_cons (fs_if (ft_cmp (op_eqA (hu64 hr)) v2_eq (by first | exact nomark _ | rfl) (fe_v 3) (fe_int)) (fss_one (fs_break)) (fss_nil)) (fss_one (fs_par (i := 2) (j := 3) rfl sc__law_lowest.nd rfl rfl (by decide) rfl rfl rfl (fa_cons (fe_v 3) (fa_cons (fe_op op_sub v2_sub (fe_v 2) (fe_op op_mul2 v2_mul (fe_v 3) (fe_op op_fdivW v2_div (fe_v 2) (fe_v 3)))) (fa_nil))))))) (fss_one (fs_ret (fe_tup (fa_cons (fe_op op_fdivW v2_div (fe_v 0) (fe_v 2)) (fa_cons (fe_op op_fdivW v2_div (fe_v 1) (fe_v 2)) (fa_nil)))))))
theorem d__law_mean (T : SaysU fa fn exL K mg) : DefA P w K mg base (cnL K) 2 "_law_mean" s__law_mean [] [] ["goods", "beside", "picked"] F__law_mean :=
  DefA.of (N := N__law_mean) (g := G__law_mean) (T.dfn (dd := []) (kd := []) 28 7) sc__law_mean fun f cdv A outer s H E hr => fss_cons (fs_set (i := 3) sc__law_mean.nd rfl (fe_sum T.bt (fa_cons (fe_lc (own := [("k", 5)]) rfl sc__law_mean.nd (fi_sq (fe_v 2)) (blkOk_by (own := [("k", 5)]) (N := N__law_mean) (sc := defScope s__law_mean) (by decide +kernel)) (fun _ _ _ _ _ => fg_n (i := 5) sc__law_mean.nd rfl) (fun _ _ _ _ _ => fts_nil) (fun _ _ _ _ _ => fe_op op_mul2 v2_mul (fe_ix (fun _ _ => rfl) (fe_ix (fun _ _ => rfl) (fe_v 0) (fe_v 5)) (fe_int)) (fe_ix (fun _ _ => rfl) (fe_ix (fun _ _ => rfl) (fe_v 0) (fe_v 5)) (fe_int)))) (fa_nil)))) (fss_cons (fs_set (i := 4) sc__law_mean.nd rfl (fe_op op_addA v2_add (fe_v 1) (fe_sum T.bt (fa_cons (fe_lc (own := [("k", 5)]) rfl sc__law_mean.nd (fi_sq (fe_v 2)) (blkOk_by (own := [("k", 5)]) (N := N__law_mean) (sc := defScope s__law_mean) (by decide +kernel)) (fun _ _ _ _ _ => fg_n (i := 5) sc__law_mean.nd rfl) (fun _ _ _ _ _ => fts_nil) (fun _ _ _ _ _ => fe_ix (fun _ _ => rfl) (fe_ix (fun _ _ => rfl) (fe_v 0) (fe_v 5)) (fe_int))) (fa_nil))))) (fss_one (fs_ret (fe_a (d__law_lowest T) b__law_lowest hr (takes_of rfl rfl rfl rfl) (fa_cons (fe_v 3) (fa_cons (fe_v 4) (fa_nil)))))))
theorem d__law_mixed (T : SaysU fa fn exL K mg) : DefA P w K mg base (cnL K) 1 "_law_mixed" s__law_mixed [] [] ["cell", "k"] F__law_mixed :=
  DefA.of (N := N__law_mixed) (g := G__law_mixed) (T.dfn (dd := []) (kd := []) 29 8) sc__law_mixed fun f cdv A outer s H E hr => fss_cons (fs_set (i := 2) sc__law_mixed.nd rfl (fe_op op_mod v2_mod (fe_op op_addA v2_add (fe_op op_mul2 v2_mul (fe_op op_mod v2_mod (fe_abs T.bt (fa_cons (fe_v 0) (fa_nil))) (fe_int)) (fe_int)) (fe_op op_mul2 v2_mul (fe_op op_addA v2_add (fe_v 1) (fe_int)) (fe_int))) (fe_int))) (fss_cons (fs_set (i := 2) sc__law_mixed.nd rfl (fe_op op_mod v2_mod (fe_op op_addA v2_add (fe_op op_mul2 v2_mul (fe_v 2) (fe_op op_addA v2_add (fe_op op_mod v2_mod (fe_v 2) (fe_int)) (fe_int))) (fe_op op_mul2 v2_mul (fe_op op_addA v2_add (fe_v 1) (fe_int)) (fe_int))) (fe_int))) (fss_cons (fs_set (i := 2) sc__law_mixed.nd rfl (fe_op op_mod v2_mod (fe_op op_mul2 v2_mul (fe_v 2) (fe_op op_addA v2_add (fe_op op_mod v2_mod (fe_v 2) (fe_int)) (fe_int))) (fe_int))) (fss_one (fs_ret (fe_op op_fdivW v2_div (fe_v 2) (fe_int))))))
theorem d__law_pool (T : SaysU fa fn exL K mg) : DefA P w K mg base (cnL K) 2 "_law_pool" s__law_pool [] [] ["cell", "number"] F__law_pool :=
  DefA.of (N := N__law_pool) (g := G__law_pool) (T.dfn (dd := []) (kd := []) 30 9) sc__law_pool fun f cdv A outer s H E hr => fss_cons (fs_set (i := 2) sc__law_pool.nd rfl (fe_abs T.bt (fa_cons (fe_v 0) (fa_nil)))) (fss_cons (fs_set (i := 3) sc__law_pool.nd rfl (fe_cmp op_ge v2_ge (by first | exact nomark _ | rfl) (fe_v 2) (fe_op op_pow v2_pow (fe_int) (fe_int)))) (fss_cons (fs_own (i := 4) sc__law_pool.nd rfl (fl_lst (fa_nil))) (fss_cons (fs_for (zs := [5]) (passes_of rfl) rfl (fi_r1 rfl T.bt.range (fe_v 1)) (fg_n (i := 5) sc__law_pool.nd rfl) (fss_one (fs_if (ft_w (fw_and (ft_val (fe_v 3)) (fw_and1 (ft_cmp op_gt v2_gt (by first | exact nomark _ | rfl) (fe_v 2) (fe_int))))) (fss_cons (fs_app (i := 4) rfl (fe_op op_mod v2_mod (fe_v 2) (fe_int))) (fss_one (fs_set (i := 2) sc__law_pool.nd rfl (fe_op op_fdivW v2_div (fe_v 2) (fe_int))))) (fss_one (fs_app (i := 4) rfl (fe_a (d__law_mixed T) b__law_mixed hr (takes_of rfl rfl rfl rfl) (fa_cons (fe_v 0) (fa_cons (fe_v 5) (fa_nil))))))))) (fss_one (fs_frz 4 (fs_ret (fe_v 4)))))))
theorem d__law_integer (T : SaysU fa fn exL K mg) : DefA P w K mg base (cnL K) 1 "_law_integer" s__law_integer [] [] ["got"] F__law_integer :=
  DefA.of (N := N__law_integer) (g := G__law_integer) (T.dfn (dd := []) (kd := []) 31 10) sc__law_integer fun f cdv A outer s H E hr => fss_one (fs_ret (fe_and (fe_isi T.bt (fa_cons (fe_v 0) (fa_cons (fe_ty_int T.bt) (fa_nil)))) (fe_one (fe_not (fe_isi T.bt (fa_cons (fe_v 0) (fa_cons (fe_ty_bool T.bt) (fa_nil))))))))
theorem dr__law_same (T : SaysU fa fn exL K mg) : ∀ n : Nat, DefA P w K mg base (cnL K) (2 + n) "_law_same" s__law_same [] [] ["got", "wanted"] (Fr__law_same n)
  | 0 => DefA.of (N := N__law_same) (g := sBad) (k := 1) (T.dfn (dd := []) (kd := []) 32 11) sc__law_same fun f cdv A outer s H E hr => fss_never
  | n + 1 => have ih : DefA P w K mg base (cnL K) (2 + n) "_law_same" s__law_same [] [] ["got", "wanted"] (Fr__law_same n) := dr__law_same T n
    DefA.of (N := N__law_same) (g := G__law_same (Fr__law_same n)) (k := 2 + n) (T.dfn (dd := []) (kd := []) 32 11) sc__law_same fun f cdv A outer s H E hr => fss_cons (fs_if (ft_cmp op_isN v2_isN (by first | exact nomark _ | rfl) (fe_v 1) (fe_non)) (fss_one (fs_ret (fe_cmp op_isN v2_isN (by first | exact nomark _ | rfl) (fe_v 0) (fe_non)))) (fss_nil)) (fss_cons (fs_if (ft_cmp op_isB v2_isB (by first | exact nomark _ | rfl) (fe_v 1) (fe_bl)) (fss_one (fs_ret (fe_cmp op_isB v2_isB (by first | exact nomark _ | rfl) (fe_v 0) (fe_bl)))) (fss_nil)) (fss_cons (fs_if (ft_cmp op_isB v2_isB (by first | exact nomark _ | rfl) (fe_v 1) (fe_bl)) (fss_one (fs_ret (fe_cmp op_isB v2_isB (by first | exact nomark _ | rfl) (fe_v 0) (fe_bl)))) (fss_nil)) (fss_cons (fs_if (ft_val (fe_isi T.bt (fa_cons (fe_v 1) (fa_cons (fe_ty_int T.bt) (fa_nil))))) (fss_one (fs_ret (fe_and (fe_a (hk := by omega) (d__law_integer T) b__law_integer hr (takes_of rfl rfl rfl rfl) (fa_cons (fe_v 0) (fa_nil))) (fe_one (fe_cmp (op_eqA (hu64 hr)) v2_eq (by first | exact nomark _ | rfl) (fe_v 0) (fe_v 1)))))) (fss_nil)) (fss_cons (fs_if (ft_val (fe_isi T.bt (fa_cons (fe_v 1) (fa_cons (fe_ty_str T.bt) (fa_nil))))) (fss_one (fs_ret (fe_and (fe_isi T.bt (fa_cons (fe_v 0) (fa_cons (fe_ty_str T.bt) (fa_nil)))) (fe_one (fe_cmp (op_eqA (hu64 hr)) v2_eq (by first | exact nomark _ | rfl) (fe_v 0) (fe_v 1)))))) (fss_nil)) (fss_cons (fs_if (ft_w (fw_and (ft_val (fe_isi T.bt (fa_cons (fe_v 1) (fa_cons (fe_ty_tuple T.bt) (fa_nil))))) (fw_and1 (ft_not (ft_val (fe_isi T.bt (fa_cons (fe_v 0) (fa_cons (fe_ty_tuple T.bt) (fa_nil))))))))) (fss_one (fs_ret (fe_bl))) (fss_nil)) (fss_cons (fs_if (ft_w (fw_and (ft_val (fe_isi T.bt (fa_cons (fe_v 1) (fa_cons (fe_ty_list T.bt) (fa_nil))))) (fw_and1 (ft_not (ft_val (fe_isi T.bt (fa_cons (fe_v 0) (fa_cons (fe_ty_list T.bt) (fa_nil))))))))) (fss_one (fs_ret (fe_bl))) (fss_nil)) (fss_cons (fs_if (ft_cmp (op_neA (hu64 hr)) v2_ne (by first | exact nomark _ | rfl) (fe_len T.bt (fa_cons (fe_v 0) (fa_nil))) (fe_len T.bt (fa_cons (fe_v 1) (fa_nil)))) (fss_one (fs_ret (fe_bl))) (fss_nil)) (fss_cons (fs_for (zs := [2]) (passes_of rfl) rfl (fi_r1 rfl T.bt.range (fe_len T.bt (fa_cons (fe_v 1) (fa_nil)))) (fg_n (i := 2) sc__law_same.nd rfl) (fss_one (fs_if (ft_not (ft_val (fe_a (hk := Nat.le_refl _) ih b__law_same hr (takes_of rfl rfl rfl rfl) (fa_cons (fe_ix (fun _ _ => rfl) (fe_v 0) (fe_v 2)) (fa_cons (fe_ix (fun _ _ => rfl) (fe_v 1) (fe_v 2)) (fa_nil)))))) (fss_one (fs_ret (fe_bl))) (fss_nil)))) (fss_one (fs_ret (fe_bl)))))))))))
theorem d__law_same (T : SaysU fa fn exL K mg) : DefA P w K mg base (cnL K) 8 "_law_same" s__law_same [] [] ["got", "wanted"] F__law_same := dr__law_same T 6
theorem d_Guests___init__ (T : SaysU fa fn exL K mg) : DefI P w K mg base (cnL K) 1 36 "Guests" "Guests.__init__" s_Guests___init__ [] [] ["self", "offers", "aside"] F_Guests___init__ :=
  DefI.of (N := N_Guests___init__) (g := G_Guests___init__) (T.clt (dd := []) (kd := []) 36 34 12 rfl) sc_Guests___init__ (by decide) fun f cdv A outer s H E hr => fss_cons (fs_if (ft_cmp op_gt v2_gt (by first | exact nomark _ | rfl) (fe_len T.bt (fa_cons (fe_v 1) (fa_nil))) (fe_glb (T.int 18))) (fss_never) (fss_nil)) (fss_cons (fs_for (zs := [3, 4]) (passes_of rfl) rfl (fi_sq (fe_v 1)) (fg_t rfl (fgs_c (fg_n (i := 3) sc_Guests___init__.nd rfl) (fgs_c (fg_n (i := 4) sc_Guests___init__.nd rfl) (fgs_n)))) (fss_cons (fs_if (ft_not (ft_chain op_le v2_le op_le v2_le (fe_int) (fe_v 3) (fe_glb (T.int 19)))) (fss_never) (fss_nil)) (fss_one (fs_if (ft_not (ft_chain op_le v2_le op_le v2_le (fe_int) (fe_v 4) (fe_glb (T.int 20)))) (fss_never) (fss_nil))))) (fss_cons (fs_if (ft_not (ft_chain op_le v2_le op_le v2_le (fe_int) (fe_v 2) (fe_glb (T.int 20)))) (fss_never) (fss_nil)) (fss_cons (fs_fldO (i := 0) (f := 27) rfl rfl fn_offers (ff_Guests_offers T) (fe_tuplec T.bt (fa_cons (fe_lc (own := [("charge", 3), ("weight", 4)]) rfl sc_Guests___init__.nd (fi_sq (fe_v 1)) (blkOk_by (own := [("charge", 3), ("weight", 4)]) (N := N_Guests___init__) (sc := defScope s_Guests___init__) (by decide +kernel)) (fun _ _ _ _ _ => fg_t rfl (fgs_c (fg_n (i := 3) sc_Guests___init__.nd rfl) (fgs_c (fg_n (i := 4) sc_Guests___init__.nd rfl) (fgs_n)))) (fun _ _ _ _ _ => fts_nil) (fun _ _ _ _ _ => fe_tup (fa_cons (fe_v 3) (fa_cons (fe_v 4) (fa_nil))))) (fa_nil)))) (fss_one (fs_fldO (i := 0) (f := 28) rfl rfl fn_aside (ff_Guests_aside T) (fe_v 2))))))
theorem d_Guests_check_lot (T : SaysU fa fn exL K mg) : DefM P w K mg base (cnL K) 1 36 "check_lot" "Guests.check_lot" s_Guests_check_lot [] [] ["self", "lot"] F_Guests_check_lot :=
  DefM.of (N := N_Guests_check_lot) (g := G_Guests_check_lot) (T.met (x := "Guests") (dd := []) (kd := []) 35 38 13 rfl) sc_Guests_check_lot fun f cdv A outer s H E hr => fss_cons (fs_set (i := 2) sc_Guests_check_lot.nd rfl (fe_un un_neg v1_neg (fe_int))) (fss_one (fs_for (zs := [3]) (passes_of rfl) rfl (fi_sq (fe_v 1)) (fg_n (i := 3) sc_Guests_check_lot.nd rfl) (fss_cons (fs_if (ft_not (ft_chain op_lt v2_lt op_lt v2_lt (fe_v 2) (fe_v 3) (fe_len T.bt (fa_cons (fe_fld (cs := [36]) (f := 27) rfl fn_offers (fa_offers T) (fe_v 0)) (fa_nil))))) (fss_never) (fss_nil)) (fss_one (fs_set (i := 2) sc_Guests_check_lot.nd rfl (fe_v 3))))))
theorem d_Guests_mean (T : SaysU fa fn exL K mg) : DefM P w K mg base (cnL K) 2 36 "mean" "Guests.mean" s_Guests_mean [] [] ["self", "lot"] F_Guests_mean :=
  DefM.of (N := N_Guests_mean) (g := G_Guests_mean) (T.met (x := "Guests") (dd := []) (kd := []) 35 37 14 rfl) sc_Guests_mean fun f cdv A outer s H E hr => fss_cons (fs_expr (fe_meth (nf := nF) (d_Guests_check_lot T) mn_check_lot b_Guests_check_lot hr (takes_of rfl rfl rfl rfl) (fe_v 0) (fa_cons (fe_v 1) (fa_nil)))) (fss_cons (fs_setLc (own := [("number", 6)]) (i := 2) rfl sc_Guests_mean.nd rfl rfl (sw_true rfl rfl rfl (by decide +kernel)) (fi_sq (fe_v 1)) (blkOk_by (own := [("number", 6)]) (N := N_Guests_mean) (sc := defScope s_Guests_mean) (by decide +kernel)) (fun _ _ _ _ _ => fg_n (i := 6) sc_Guests_mean.nd rfl) (fun _ _ _ _ _ => fts_nil) (fun _ _ _ _ _ => fe_ix (fun _ _ => rfl) (fe_fld (cs := [36]) (f := 27) rfl fn_offers (fa_offers T) (fe_v 0)) (fe_v 6))) (fss_cons (fs_set (i := 3) sc_Guests_mean.nd rfl (fe_sum T.bt (fa_cons (fe_lc (own := [("charge", 7), ("weight", 8)]) rfl sc_Guests_mean.nd (fi_sq (fe_v 2)) (blkOk_by (own := [("charge", 7), ("weight", 8)]) (N := N_Guests_mean) (sc := defScope s_Guests_mean) (by decide +kernel)) (fun _ _ _ _ _ => fg_t rfl (fgs_c (fg_n (i := 7) sc_Guests_mean.nd rfl) (fgs_c (fg_n (i := 8) sc_Guests_mean.nd rfl) (fgs_n)))) (fun _ _ _ _ _ => fts_nil) (fun _ _ _ _ _ => fe_op op_mul2 v2_mul (fe_v 7) (fe_v 8))) (fa_nil)))) (fss_cons (fs_set (i := 4) sc_Guests_mean.nd rfl (fe_op op_addA v2_add (fe_fld (cs := [36]) (f := 28) rfl fn_aside (fa_aside T) (fe_v 0)) (fe_sum T.bt (fa_cons (fe_lc (own := [("charge", 7), ("weight", 8)]) rfl sc_Guests_mean.nd (fi_sq (fe_v 2)) (blkOk_by (own := [("charge", 7), ("weight", 8)]) (N := N_Guests_mean) (sc := defScope s_Guests_mean) (by decide +kernel)) (fun _ _ _ _ _ => fg_t rfl (fgs_c (fg_n (i := 7) sc_Guests_mean.nd rfl) (fgs_c (fg_n (i := 8) sc_Guests_mean.nd rfl) (fgs_n)))) (fun _ _ _ _ _ => fts_nil) (fun _ _ _ _ _ => fe_v 8)) (fa_nil))))) (fss_cons (fs_set (i := 5) sc_Guests_mean.nd rfl (fe_gcd (gb_gcd T) (fa_cons (fe_v 3) (fa_cons (fe_v 4) (fa_nil))))) (fss_one (fs_ret (fe_tup (fa_cons (fe_op op_fdivW v2_div (fe_v 3) (fe_v 5)) (fa_cons (fe_op op_fdivW v2_div (fe_v 4) (fe_v 5)) (fa_nil))))))))))
theorem d_Guests___eq__ (T : SaysU fa fn exL K mg) : DefM P w K mg base (cnL K) 1 36 "__eq__" "Guests.__eq__" s_Guests___eq__ [] [] ["self", "other"] F_Guests___eq__ :=
  DefM.of (N := N_Guests___eq__) (g := G_Guests___eq__) (T.met (x := "Guests") (dd := []) (kd := []) 35 39 15 rfl) sc_Guests___eq__ fun f cdv A outer s H E hr => fss_one (fs_ret (fe_and (fe_isic rfl T.bt.isinstance bb_isinstance rfl (gl_Guests T) (is_Guests T) (fe_v 1)) (fe_and (fe_cmp (op_eqA (hu64 hr)) v2_eq (by first | exact nomark _ | rfl) (fe_fld (cs := [36]) (f := 27) rfl fn_offers (fa_offers T) (fe_v 0)) (fe_fld (cs := [36]) (f := 27) rfl fn_offers (fa_offers T) (fe_v 1))) (fe_one (fe_cmp (op_eqA (hu64 hr)) v2_eq (by first | exact nomark _ | rfl) (fe_fld (cs := [36]) (f := 28) rfl fn_aside (fa_aside T) (fe_v 0)) (fe_fld (cs := [36]) (f := 28) rfl fn_aside (fa_aside T) (fe_v 1)))))))
theorem d_law (T : SaysU fa fn exL K mg) : DefA P w K mg base (cnL K) 9 "law" s_law [] [] ["script"] F_law :=
  DefA.of (N := N_law) (g := G_law) (T.dfn (dd := []) (kd := []) 33 16) sc_law fun f cdv A outer s H E hr => fss_cons (fs_set (i := 1) sc_law.nd rfl (fe_a (d__law_pool T) b__law_pool hr (takes_of rfl rfl rfl rfl) (fa_cons (fe_a (d__law_cell T) b__law_cell hr (takes_of rfl rfl rfl rfl) (fa_cons (fe_v 0) (fa_cons (fe_int) (fa_nil)))) (fa_cons (fe_int) (fa_nil))))) (fss_cons (fs_set (i := 2) sc_law.nd rfl (fe_a (d__law_part T) b__law_part hr (takes_of rfl rfl rfl rfl) (fa_cons (fe_v 1) (fa_cons (fe_int) (fa_cons (fe_int) (fa_cons (fe_int) (fa_nil))))))) (fss_cons (fs_set (i := 3) sc_law.nd rfl (fe_a (d__law_goods T) b__law_goods hr (takes_of rfl rfl rfl rfl) (fa_cons (fe_a (d__law_pool T) b__law_pool hr (takes_of rfl rfl rfl rfl) (fa_cons (fe_a (d__law_cell T) b__law_cell hr (takes_of rfl rfl rfl rfl) (fa_cons (fe_v 0) (fa_cons (fe_int) (fa_nil)))) (fa_cons (fe_int) (fa_nil)))) (fa_cons (fe_int) (fa_cons (fe_v 2) (fa_cons (fe_cmp (op_eqA (hu64 hr)) v2_eq (by first | exact nomark _ | rfl) (fe_a (d__law_part T) b__law_part hr (takes_of rfl rfl rfl rfl) (fa_cons (fe_v 1) (fa_cons (fe_int) (fa_cons (fe_int) (fa_cons (fe_int) (fa_nil)))))) (fe_int)) (fa_nil))))))) (fss_cons (fs_set (i := 4) sc_law.nd rfl (fe_a (d__law_beside T) b__law_beside hr (takes_of rfl rfl rfl rfl) (fa_cons (fe_v 1) (fa_cons (fe_int) (fa_nil))))) (fss_cons (fs_set (i := 5) sc_law.nd rfl (fe_tuplec T.bt (fa_cons (fe_lc (own := [("k", 12)]) rfl sc_law.nd (fi_r1 rfl T.bt.range (fe_v 2)) (blkOk_by (own := [("k", 12)]) (N := N_law) (sc := defScope s_law) (by decide +kernel)) (fun _ _ _ _ _ => fg_n (i := 12) sc_law.nd rfl) (fun _ _ _ _ _ => fts_one (ft_cmp (op_eqA (hu64 hr)) v2_eq (by first | exact nomark _ | rfl) (fe_a (d__law_part T) b__law_part hr takes0 (fa_cons (fe_v 1) (fa_cons (fe_op op_addA v2_add (fe_int) (fe_v 12)) (fa_cons (fe_int) (fa_cons (fe_int) (fa_nil)))))) (fe_int))) (fun _ _ _ _ _ => fe_v 12)) (fa_nil)))) (fss_cons (fs_set (i := 6) sc_law.nd rfl (fe_a (d__law_mean T) b__law_mean hr (takes_of rfl rfl rfl rfl) (fa_cons (fe_v 3) (fa_cons (fe_v 4) (fa_cons (fe_v 5) (fa_nil)))))) (fss_cons (fs_own (i := 7) sc_law.nd rfl (fl_list rfl T.bt.list bb_list (fe_v 3))) (fss_cons (fs_set (i := 8) sc_law.nd rfl (fe_borT (fe_new (fn_make (d_Guests___init__ T) b_Guests___init__ hr (takes_of rfl rfl rfl rfl) (fa_cons (fe_v 7) (fa_cons (fe_v 4) (fa_nil))))))) (fss_cons (fs_if (ft_bor (ft_w (fw_or (ft_not (ft_val (fe_a (d__law_same T) b__law_same hr (takes_of rfl rfl rfl rfl) (fa_cons (fe_meth (nf := nF) (d_Guests_mean T) mn_mean b_Guests_mean hr (takes_of rfl rfl rfl rfl) (fe_v 8) (fa_cons (fe_v 5) (fa_nil))) (fa_cons (fe_v 6) (fa_nil)))))) (fw_or1 (ft_not (ft_val (fe_a (d__law_same T) b__law_same hr (takes_of rfl rfl rfl rfl) (fa_cons (fe_v 7) (fa_cons (fe_v 3) (fa_nil)))))))))) (fss_one (fs_ret (fe_bl))) (fss_nil)) (fss_cons (fs_mut (i := 7) PySem.F.slot_list_insert PySem.F.type_list_insert mt_insert mut_ins rfl (fa_cons (fe_int) (fa_cons (fe_tup (fa_cons (fe_int) (fa_cons (fe_int) (fa_nil)))) (fa_nil)))) (fss_cons (fs_pop (i := 7) rfl) (fss_cons (fs_set (i := 9) sc_law.nd rfl (fe_new (fn_makeK0 (d_Guests___init__ T) (fun F => kb_Guests___init___0_offers_aside F) hr (takes_of rfl rfl rfl rfl) (fk_cons (fe_tuplec T.bt (fa_cons (fe_rev (fe_v 3)) (fa_nil))) (fk_cons (fe_v 4) (fk_nil)))))) (fss_cons (fs_for (zs := [10]) (passes_of rfl) rfl (fi_sq (fe_op op_addA v2_add (fe_lst (fa_cons (fe_tup (fa_nil)) (fa_cons (fe_tupR T.bt (fe_v 2)) (fa_nil)))) (fe_lc (own := [("k", 12)]) rfl sc_law.nd (fi_r1 rfl T.bt.range (fe_v 2)) (blkOk_by (own := [("k", 12)]) (N := N_law) (sc := defScope s_law) (by decide +kernel)) (fun _ _ _ _ _ => fg_n (i := 12) sc_law.nd rfl) (fun _ _ _ _ _ => fts_nil) (fun _ _ _ _ _ => fe_tup (fa_cons (fe_v 12) (fa_nil)))))) (fg_n (i := 10) sc_law.nd rfl) (fss_cons (fs_if (ft_not (ft_val (fe_a (d__law_same T) b__law_same hr (takes_of rfl rfl rfl rfl) (fa_cons (fe_meth (nf := nF) (d_Guests_mean T) mn_mean b_Guests_mean hr (takes_of rfl rfl rfl rfl) (fe_v 8) (fa_cons (fe_v 10) (fa_nil))) (fa_cons (fe_a (d__law_mean T) b__law_mean hr (takes_of rfl rfl rfl rfl) (fa_cons (fe_v 3) (fa_cons (fe_v 4) (fa_cons (fe_v 10) (fa_nil))))) (fa_nil)))))) (fss_one (fs_ret (fe_bl))) (fss_nil)) (fss_one (fs_if (ft_not (ft_val (fe_a (d__law_same T) b__law_same hr (takes_of rfl rfl rfl rfl) (fa_cons (fe_methK0 (nf := nF) (d_Guests_mean T) mn_mean (fun F => kb_Guests_mean_0_lot F) hr (takes_of rfl rfl rfl rfl) (fe_v 9) (fk_cons (fe_v 10) (fk_nil))) (fa_cons (fe_a (d__law_mean T) b__law_mean hr (takes_of rfl rfl rfl rfl) (fa_cons (fe_rev (fe_v 3)) (fa_cons (fe_v 4) (fa_cons (fe_v 10) (fa_nil))))) (fa_nil)))))) (fss_one (fs_ret (fe_bl))) (fss_nil))))) (fss_cons (fs_if (ft_not (ft_val (fe_a (d__law_same T) b__law_same hr (takes_of rfl rfl rfl rfl) (fa_cons (fe_tup (fa_cons (fe_fld (cs := [36]) (f := 27) rfl fn_offers (fa_offers T) (fe_v 8)) (fa_cons (fe_fld (cs := [36]) (f := 28) rfl fn_aside (fa_aside T) (fe_v 8)) (fa_nil)))) (fa_cons (fe_tup (fa_cons (fe_tuplec T.bt (fa_cons (fe_v 3) (fa_nil))) (fa_cons (fe_v 4) (fa_nil)))) (fa_nil)))))) (fss_one (fs_ret (fe_bl))) (fss_nil)) (fss_cons (fs_if (ft_not (ft_val (fe_a (d__law_same T) b__law_same hr (takes_of rfl rfl rfl rfl) (fa_cons (fe_tup (fa_cons (fe_own (C := He.ga K "Guests") (d_Guests___eq__ T) rfl (eq_Guests T) b_Guests___eq__ hr (fe_v 8) (fe_new (fn_make (d_Guests___init__ T) b_Guests___init__ hr (takes_of rfl rfl rfl rfl) (fa_cons (fe_listc T.bt (fa_cons (fe_v 3) (fa_nil))) (fa_cons (fe_v 4) (fa_nil)))))) (fa_cons (fe_own (C := He.ga K "Guests") (d_Guests___eq__ T) rfl (eq_Guests T) b_Guests___eq__ hr (fe_v 8) (fe_v 9)) (fa_nil)))) (fa_cons (fe_tup (fa_cons (fe_bl) (fa_cons (fe_cmp (op_eqA (hu64 hr)) v2_eq (by first | exact nomark _ | rfl) (fe_v 3) (fe_rev (fe_v 3))) (fa_nil)))) (fa_nil)))))) (fss_one (fs_ret (fe_bl))) (fss_nil)) (fss_cons (fs_own (i := 11) sc_law.nd rfl (fl_lst (fa_cons (fe_new (fn_make (d_Guests___init__ T) b_Guests___init__ hr (takes_of rfl rfl rfl rfl) (fa_cons (fe_listc T.bt (fa_cons (fe_v 3) (fa_nil))) (fa_cons (fe_op op_addA v2_add (fe_op op_sub v2_sub (fe_v 4) (fe_int)) (fe_op op_mul2 v2_mul (fe_int) (fe_intc T.bt (fa_cons (fe_cmp (op_eqA (hu64 hr)) v2_eq (by first | exact nomark _ | rfl) (fe_v 4) (fe_int)) (fa_nil))))) (fa_nil))))) (fa_cons (fe_non) (fa_cons (fe_tup (fa_cons (fe_tuplec T.bt (fa_cons (fe_v 3) (fa_nil))) (fa_cons (fe_v 4) (fa_nil)))) (fa_cons (fe_str) (fa_nil))))))) (fss_cons (fs_if (ft_cmp op_gt v2_gt (by first | exact nomark _ | rfl) (fe_v 2) (fe_int)) (fss_one (fs_app (i := 11) rfl (fe_new (fn_make (d_Guests___init__ T) b_Guests___init__ hr (takes_of rfl rfl rfl rfl) (fa_cons (fe_sl (fe_v 3) (fo_s (fe_int)) (fo_n)) (fa_cons (fe_v 4) (fa_nil))))))) (fss_nil)) (fss_cons (fs_if (ft_cmp op_lt v2_lt (by first | exact nomark _ | rfl) (fe_v 2) (fe_int)) (fss_one (fs_app (i := 11) rfl (fe_new (fn_make (d_Guests___init__ T) b_Guests___init__ hr (takes_of rfl rfl rfl rfl) (fa_cons (fe_op op_addA v2_add (fe_v 3) (fe_lst (fa_cons (fe_tup (fa_cons (fe_int) (fa_cons (fe_int) (fa_nil)))) (fa_nil)))) (fa_cons (fe_v 4) (fa_nil))))))) (fss_nil)) (fss_cons (fs_frz 11 (fs_if (ft_cmp (op_neA (hu64 hr)) v2_ne (by first | exact nomark _ | rfl) (fe_lc (own := [("other", 13)]) rfl sc_law.nd (fi_sq (fe_v 11)) (blkOk_by (own := [("other", 13)]) (N := N_law) (sc := defScope s_law) (by decide +kernel)) (fun _ _ _ _ _ => fg_n (i := 13) sc_law.nd rfl) (fun _ _ _ _ _ => fts_one (ft_not (ft_val (fe_a (d__law_same T) b__law_same hr takes0 (fa_cons (fe_own (C := He.ga K "Guests") (d_Guests___eq__ T) rfl (eq_Guests T) b_Guests___eq__ hr (fe_v 8) (fe_v 13)) (fa_cons (fe_bl) (fa_nil))))))) (fun _ _ _ _ _ => fe_v 13)) (fe_lst (fa_nil))) (fss_one (fs_ret (fe_bl))) (fss_nil))) (fss_one (fs_ret (fe_a (d__law_same T) b__law_same hr (takes_of rfl rfl rfl rfl) (fa_cons (fe_meth (nf := nF) (d_Guests_mean T) mn_mean b_Guests_mean hr (takes_of rfl rfl rfl rfl) (fe_v 8) (fa_cons (fe_v 5) (fa_nil))) (fa_cons (fe_v 6) (fa_nil))))))))))))))))))))))))
end
end Tk

namespace Tk
open PySem PySem.Spec L2 PyProof.Rows
theorem oCallK_none : True := trivial
theorem eBorT_of {f : Ev → R D} {ρ : Ev} {d : D} (e : f (frzA ρ) = .ok d) (h : (insT d && noO ρ) = true) : eBorT f ρ = .ok d := by
  unfold eBorT
  rw [e, quiet_ok, bind_ok]
  exact if_pos h
theorem plain_gl {gs : List (Int × Int)} {n : Nat} (h : gs.length ≤ 1000) : plainD (n + 2) (.lst (gs.map dP)) = true := by
  show (decide ((gs.map dP).length ≤ 1000000) && plainL (n + 1) (gs.map dP)) = true
  rw [Bool.and_eq_true, decide_eq_true_eq, plainL_all]
  refine ⟨by rw [List.length_map]; omega, fun d m => ?_⟩
  obtain ⟨k, _, rfl⟩ := List.mem_map.mp m
  cases n <;> rfl
theorem plain_gtp {gs : List (Int × Int)} {n : Nat} (h : gs.length ≤ 1000) : plainD (n + 2) (.tup (gs.map dP)) = true := plain_gl h
theorem plain_low {x y : Int} : plainD 5 (lowD x y) = true := rfl
theorem tup_gl {gs : List (Int × Int)} : tupL (gs.map dP) = true := by
  induction gs with
  | nil => rfl
  | cons p gs ih =>
    show (tupD (dP p) && tupL (gs.map dP)) = true
    rw [ih]
    rfl
theorem law_true : ∀ ns : List Int, ns.length ≤ 63 → F_law [.scr ns] = .ok (.bl true) := by
  intro ns hl
  obtain ⟨c0, e0⟩ := cell_ok (ns := ns) (k := 0) (by decide) (by omega)
  obtain ⟨c1, e1⟩ := cell_ok (ns := ns) (k := 1) (by decide) (by omega)
  obtain ⟨ps, pl, _, pe⟩ := pool_ok (c := c1) (n := 11) (by decide) (by decide)
  obtain ⟨qs0, ql, _, qe⟩ := pool_ok (c := c0) (n := 32) (by decide) (by decide)
  have pl' : (ps.length : Int) = 11 := by rw [pl]; rfl
  have ql' : (qs0.length : Int) = 32 := by rw [ql]; rfl
  have p1 := part_ok (ps := ps) (spot := 0) (under := 1) (size := 9) (by decide) (by omega) (by decide) (by decide) (by decide)
  have a1 := part_lo (ps := ps) (spot := 0) (under := 1) (size := 9) (by decide)
  have b1 := part_hi (ps := ps) (spot := 0) (under := 1) (size := 9) (by decide)
  have p2 := part_ok (ps := ps) (spot := 0) (under := 9) (size := 2) (by decide) (by omega) (by decide) (by decide) (by decide)
  generalize part ps 0 1 9 = n at *
  generalize part ps 0 9 2 = coin at *
  obtain ⟨gs, hg, gn, ge⟩ := goods_ok (ps := qs0) (n := n) (calm := decide (coin = 0)) a1 (by omega) (by omega)
  obtain ⟨a, a0, aa1, ae⟩ := beside_ok (ps := ps) (by omega)
  have l8 := hg.len
  have nE : n = (gs.length : Int) := by omega
  subst nE
  have sm : small62 (gs.length : Int) := small_rg (by omega) (by omega)
  have sz : gs.length ≤ sizeLine := szle (by omega)
  have lr : gs.reverse.length = gs.length := List.length_reverse
  -- the drawn lot
  obtain ⟨ks0, hk0, lc0⟩ : ∃ ks0, okLot gs.length ks0 ∧ lcL (gN 12) (tV (Tk.e2 gEq (eCall 4 F__law_part (aC (eV 1) (aC (Tk.e2 gAdd (eC (.int 3)) (eV 12)) (aC (eC (.int 1)) (aC (eC (.int 2)) (aN)))))) (eC (.int 1)))) (eV 12) [.v (.scr ns), .v (.lst (ps.map .int)), .v (.int (gs.length : Int)), .v (.lst (gs.map dP)), .v (.int a), .no, .no, .no, .no, .no, .no, .no, .no, .no] (rgD 0 gs.length) = .ok (ks0.map dN) := by
    refine ⟨(List.range gs.length).filter fun k => decide (part ps (3 + (k : Int)) 1 2 = 1), ⟨List.Pairwise.filter _ List.pairwise_lt_range, fun k m => List.mem_range.mp (List.mem_filter.mp m).1⟩, ?_⟩
    exact lc_rg (fun k => decide (part ps (3 + (k : Int)) 1 2 = 1)) dN fun k hk => by
      refine ⟨[.v (.scr ns), .v (.lst (ps.map .int)), .v (.int (gs.length : Int)), .v (.lst (gs.map dP)), .v (.int a), .no, .no, .no, .no, .no, .no, .no, .v (dN k), .no], rfl, ?_, fun _ => rfl⟩
      have p3 := part_ok (ps := ps) (spot := 3 + (k : Int)) (under := 1) (size := 2) (by omega) (by omega) (by decide) (by decide) (by decide)
      simp_arith [p3]
  have lm0 := lawmean_ok hg a0 aa1 hk0
  have mn0 := mean_ok hg a0 aa1 hk0
  -- the crowds
  have i1 := ginit_ok (b := false) hg a0 aa1
  have i1 : (unA fun ad => F_Guests___init__ ad [.lst (gs.map dP), .int a]) = _ := i1
  have i2 := ginit_ok (b := true) hg.rev a0 aa1
  have i2 : (unA fun ad => F_Guests___init__ ad [.tup (gs.reverse.map dP), .int a]) = _ := i2
  have hgt : okGd gs.tail := ⟨by rw [List.length_tail]; omega, fun p m => hg.each p (List.mem_of_mem_tail m)⟩
  have i3 := ginit_ok (b := false) hgt a0 aa1
  have i3 : (unA fun ad => F_Guests___init__ ad [.lst (gs.tail.map dP), .int a]) = _ := i3
  obtain ⟨a2, ea2, a20, a21, ane⟩ : ∃ a2 : Int, a - 1 + 2 * (if decide (a = 1) = true then 1 else 0) = a2 ∧ 1 ≤ a2 ∧ a2 ≤ 1000 ∧ a ≠ a2 := by
    by_cases z : a = 1
    · exact ⟨2, by rw [decide_eq_true z, z]; rfl, by decide, by decide, by omega⟩
    · exact ⟨a - 1, by rw [decide_eq_false z]; simp, by omega, by omega, by omega⟩
  have i4 := ginit_ok (b := false) hg a20 a21
  have i4 : (unA fun ad => F_Guests___init__ ad [.lst (gs.map dP), .int a2]) = _ := i4
  have G1 : (D.ins 36 [(27, .tup (gs.map dP)), (28, .int a)]) = gGD gs a := rfl
  have G2 : (D.ins 36 [(27, .tup (gs.reverse.map dP)), (28, .int a)]) = gGD gs.reverse a := rfl
  have G3 : (D.ins 36 [(27, .tup (gs.tail.map dP)), (28, .int a)]) = gGD gs.tail a := rfl
  have G4 : (D.ins 36 [(27, .tup (gs.map dP)), (28, .int a2)]) = gGD gs a2 := rfl
  have bt := eBorT_of (f := eFrz (nMake 36 3 F_Guests___init__ (aC (eV 7) (aC (eV 4) (aN))))) (ρ := [.v (.scr ns), .v (.lst (ps.map .int)), .v (.int (gs.length : Int)), .v (.lst (gs.map dP)), .v (.int a), .v (.tup (ks0.map dN)), .v (lowD (num gs ks0) (den gs a ks0)), .l (gs.map dP), .no, .no, .no, .no, .no, .no]) (d := gGD gs a) (by simp_arith [eFrz_ap, nMake_ap, i1, frzR_o, G1]) (by
    show ((tupD (.tup (gs.map dP)) && (tupD (.int a) && true)) && true) = true
    have : tupD (.tup (gs.map dP)) = true := tup_gl
    rw [this]
    rfl)
  have q0 := same_ok (plain_low (x := num gs ks0) (y := den gs a ks0))
  have q1 := same_ok (plain_gl (gs := gs) (n := 3) (by omega))
  -- the lots
  have sng : ∀ k, k < gs.length → okLot gs.length [k] := fun k hk => ⟨List.pairwise_singleton _ _, fun j m => by rw [List.mem_singleton.mp m]; exact hk⟩
  obtain ⟨rows, hrows, er⟩ : ∃ rows : List (List Nat), (∀ r ∈ rows, okLot gs.length r) ∧ rows = [[], List.range gs.length] ++ (List.range gs.length).map fun k => [k] := by
    refine ⟨_, fun r m => ?_, rfl⟩
    rcases List.mem_append.mp m with m | m
    · rcases List.mem_cons.mp m with rfl | m
      · exact ⟨.nil, fun _ m => by cases m⟩
      · rw [List.mem_singleton.mp m]
        exact ⟨List.pairwise_lt_range, fun k m => List.mem_range.mp m⟩
    · obtain ⟨k, mk, rfl⟩ := List.mem_map.mp m
      exact sng k (List.mem_range.mp mk)
  have rlen : rows.length ≤ 10 := by rw [er, List.length_append, List.length_map, List.length_range]; simp; omega
  have gt0 : gTup [] = .ok (.tup (([] : List Nat).map dN)) := rfl
  have gt1 : ∀ x : D, gTup [x] = .ok (.tup [x]) := fun x => if_pos (szle (by simp))
  have gt2 : ∀ x y : D, gTup [x, y] = .ok (.tup [x, y]) := fun x y => if_pos (szle (by simp))
  have er0 : (rgL (gs.length : Int)).map D.int = (List.range gs.length).map dN := by
    unfold rgL
    rw [Int.toNat_natCast, List.map_map]
    rfl
  have tr : ∀ ρ : Ev, eV 2 ρ = .ok (.int (gs.length : Int)) → eTupR (eV 2) ρ = .ok (.tup ((List.range gs.length).map dN)) := fun ρ h => by
    unfold eTupR
    rw [h, bind_ok]
    show (if 0 ≤ (gs.length : Int) ∧ (gs.length : Int) ≤ 100000 then R.ok (D.tup ((rgL (gs.length : Int)).map .int)) else .bad) = _
    rw [if_pos ⟨by omega, by omega⟩, er0]
  have gl2 : gLst [.tup (([] : List Nat).map dN), .tup ((List.range gs.length).map dN)] = .ok (.lst (([[], List.range gs.length] : List (List Nat)).map fun r => .tup (r.map dN))) := if_pos (szle (by simp))
  have lcS := fun (ρ : Ev) (hl : ρ.length = 14) => lc_rg (h := gN 12) (t := tsY) (fe := eA gTup (aC (eV 12) (aN))) (ρ := ρ) (n := gs.length) (fun _ => true) (fun k => .tup (([k] : List Nat).map dN)) fun k hk => by
    refine ⟨ρ.set 12 (.v (dN k)), rfl, rfl, fun _ => ?_⟩
    have e : eV 12 (ρ.set 12 (.v (dN k))) = .ok (dN k) := by
      unfold eV
      rw [List.getElem?_set_self (by omega)]
    simp only [eA_ap, aC_ap, aN_ap, e, bind_ok, gt1]
    rfl
  have ft : ((List.range gs.length).filter fun _ => true) = List.range gs.length := by simp
  simp only [ft] at lcS
  have mS : (List.range gs.length).map (fun k => D.tup (([k] : List Nat).map dN)) = ((List.range gs.length).map fun k => [k]).map fun r => .tup (r.map dN) := by rw [List.map_map]; rfl
  simp only [mS] at lcS
  have gaR : gAdd (.lst (([[], List.range gs.length] : List (List Nat)).map fun r => .tup (r.map dN))) (.lst (((List.range gs.length).map fun k => [k]).map fun r => .tup (r.map dN))) = .ok (.lst (rows.map fun r => .tup (r.map dN))) := by
    show (if _ then _ else _) = _
    rw [if_pos (by rw [List.length_map, List.length_map, List.length_map, List.length_range]; exact szle (by simp; omega)), er, List.map_append]
  have gin2 : insB 36 nF (gGD gs.reverse a) = true := gin
  have g1 : ∀ x : D, gDk [0] [] [] [x] = [x] := fun _ => rfl
  have g2 : ∀ x y : D, gDk [0, 1] [] [] [x, y] = [x, y] := fun _ _ => rfl
  have rv : (gs.map dP).reverse = gs.reverse.map dP := by rw [List.map_reverse]
  obtain ⟨ρ', lp, u10, rfl⟩ := loop_map (inj := fun r : List Nat => D.tup (r.map dN)) (h := gN 10) (body := B_law_1) (l := rows) (ρ := [.v (.scr ns), .v (.lst (ps.map .int)), .v (.int (gs.length : Int)), .v (.lst (gs.map dP)), .v (.int a), .v (.tup (ks0.map dN)), .v (lowD (num gs ks0) (den gs a ks0)), .l (((D.tup [.int 7, .int 3]) :: gs.map dP).dropLast), .v (gGD gs a), .v (gGD gs.reverse a), .no, .no, .no, .no])
    (fun i ρ => ∃ u10, ρ = [.v (.scr ns), .v (.lst (ps.map .int)), .v (.int (gs.length : Int)), .v (.lst (gs.map dP)), .v (.int a), .v (.tup (ks0.map dN)), .v (lowD (num gs ks0) (den gs a ks0)), .l (((D.tup [.int 7, .int 3]) :: gs.map dP).dropLast), .v (gGD gs a), .v (gGD gs.reverse a), u10, .no, .no, .no]) ⟨.no, rfl⟩ (by
      rintro i r ρ hi ⟨u10, rfl⟩
      have hr := hrows r (List.mem_of_getElem? hi)
      have hr2 : okLot gs.reverse.length r := by rw [lr]; exact hr
      have m1 := mean_ok hg a0 aa1 hr
      have m2 := lawmean_ok hg a0 aa1 hr
      have m3 := mean_ok hg.rev a0 aa1 hr2
      have m4 := lawmean_ok hg.rev a0 aa1 hr2
      have s1 := same_ok (plain_low (x := num gs r) (y := den gs a r))
      have s2 := same_ok (plain_low (x := num gs.reverse r) (y := den gs.reverse a r))
      refine ⟨_, rfl, ?_⟩
      refine goes_of ⟨.v (.tup (r.map dN)), rfl⟩ ?_
      generalize D.tup (r.map dN) = T at *
      unfold B_law_1
      simp_arith [eMeth_ap, eMethK_ap, gin, gin2, m1, m2, s1, g1, m3, rv, m4, s2])
  have qf := same_ok (show plainD 5 (.tup [.tup (gs.map dP), .int a]) = true by
    show (decide (2 ≤ 1000000) && (plainD 4 (.tup (gs.map dP)) && (plainD 4 (.int a) && true))) = true
    rw [plain_gtp (n := 2) (by omega)]
    rfl)
  have o1 := own_eq (gs := gs) (gs2 := gs) (a := a) (a2 := a)
  rw [decide_eq_true ⟨rfl, rfl⟩] at o1
  have o2 := own_eq (gs := gs) (gs2 := gs.reverse) (a := a) (a2 := a)
  have ed : decide (gs = gs.reverse ∧ a = a) = decide (gs = gs.reverse) := decide_eq_decide.mpr ⟨fun q => q.1, fun q => ⟨q, rfl⟩⟩
  rw [ed] at o2
  have el := eq_gl (gs := gs) (gs2 := gs.reverse)
  have qb := same_ok (show plainD 5 (.tup [.bl true, .bl (decide (gs = gs.reverse))]) = true from rfl)
  -- the others
  have fs : F__law_same [.bl false, .bl false] = .ok (.bl true) := same_ok (d := .bl false) rfl
  have lcO : ∀ oth : List D, (∀ d ∈ oth, gOwn 36 F_Guests___eq__ (gGD gs a) d = .ok (.bl false)) → ∀ ρ : Ev, ρ.length = 14 → eV 8 ρ = .ok (gGD gs a) → lcL (gN 13) (tNot (tV (eCall 2 F__law_same (aC (Tk.e2 (gOwn 36 F_Guests___eq__) (eV 8) (eV 13)) (aC (eC (.bl false)) (aN)))))) (eV 13) ρ oth = .ok [] := fun oth ho ρ hl h8 => by
    have := lc_map (inj := fun d : D => d) (h := gN 13) (t := tNot (tV (eCall 2 F__law_same (aC (Tk.e2 (gOwn 36 F_Guests___eq__) (eV 8) (eV 13)) (aC (eC (.bl false)) (aN)))))) (fe := eV 13) (ρ := ρ) (fun _ => false) (fun _ => .non) (l := oth) fun d md => by
      refine ⟨ρ.set 13 (.v d), rfl, ?_, fun q => by cases q⟩
      have e1 : eV 13 (ρ.set 13 (.v d)) = .ok d := by unfold eV; rw [List.getElem?_set_self (by omega)]
      have e2 : eV 8 (ρ.set 13 (.v d)) = .ok (gGD gs a) := by
        have : (ρ.set 13 (.v d))[8]? = ρ[8]? := List.getElem?_set_ne (by decide)
        unfold eV at h8 ⊢
        rw [this]
        exact h8
      have g := ho d md
      simp only [tNot_ap, tV_ap, eCall_ap, aC_ap, aN_ap, eC_ap, e2_ap, e1, e2, bind_ok, g, fs, List.length_cons, List.length_nil, Nat.zero_add, Nat.reduceAdd, if_true, Bof_bl, Bool.not_true]
    have fl : oth.filter (fun _ => false) = [] := by simp
    rw [fl, List.map_nil] at this
    rw [List.map_id'] at this
    exact this
  have x1 : gOwn 36 F_Guests___eq__ (gGD gs a) (gGD gs a2) = .ok (.bl false) := by rw [own_eq, decide_eq_false fun q => ane q.2]
  have x2 : gOwn 36 F_Guests___eq__ (gGD gs a) .non = .ok (.bl false) := own_no rfl rfl
  have x3 : gOwn 36 F_Guests___eq__ (gGD gs a) (.tup [.tup (gs.map dP), .int a]) = .ok (.bl false) := own_no rfl rfl
  have x4 : gOwn 36 F_Guests___eq__ (gGD gs a) (.str "guests") = .ok (.bl false) := own_no rfl rfl
  have x5 : 0 < gs.length → gOwn 36 F_Guests___eq__ (gGD gs a) (gGD gs.tail a) = .ok (.bl false) := fun h => by
    rw [own_eq, decide_eq_false fun q => by
      have := congrArg List.length q.1
      rw [List.length_tail] at this
      omega]
  have x6 : gOwn 36 F_Guests___eq__ (gGD gs a) (gGD (gs ++ [(0, 1)]) a) = .ok (.bl false) := by
    rw [own_eq, decide_eq_false fun q => by
      have := congrArg List.length q.1
      rw [List.length_append] at this
      simp at this]
  have gl2 : gLst [.tup [], .tup ((List.range gs.length).map dN)] = .ok (.lst (([[], List.range gs.length] : List (List Nat)).map fun r => .tup (r.map dN))) := gl2
  have gt0 : gTup [] = .ok (.tup []) := rfl
  generalize (([[], List.range gs.length] : List (List Nat)).map fun r => D.tup (r.map dN)) = Y at gl2 gaR
  have mi : mIns (gs.map dP) [.int 0, .tup [.int 7, .int 3]] = some ((D.tup [.int 7, .int 3]) :: gs.map dP) := by
    unfold mIns
    have c : (gs.map dP).length < sizeLine ∧ (0 : Int) ≤ 0 ∧ (0 : Int) < 2 ^ 63 := ⟨by rw [List.length_map]; exact szlt (by omega), by decide, by decide⟩
    simp only [c, and_self, if_true]
    rfl
  have szr : rows.length ≤ sizeLine := szle (by omega)
  have m2 : ∀ z : Int, gMul (.int 2) (.int z) = .ok (.int (2 * z)) := fun z => gMul_l (by decide) (by decide)
  have g0 : gLst [] = .ok (.lst []) := rfl
  have gee : gEq (.lst []) (.lst []) = .ok (.bl true) := (gEq_clean (n := 1) (m := 1) (by decide) (by decide) rfl rfl).1 rfl
  have sl : gSl (.lst (gs.map dP)) (some 1) none = .ok (.lst (gs.tail.map dP)) := by
    have := gSl_lo' (b := false) (xs := gs.map dP) (j := 1) (by decide)
    have e : (gs.map dP).drop (1 : Int).toNat = gs.tail.map dP := by
      show (gs.map dP).drop 1 = _
      rw [List.drop_one, List.map_tail]
    rw [e] at this
    exact this
  have gl01 : gLst [.tup [.int 0, .int 1]] = .ok (.lst [.tup [.int 0, .int 1]]) := if_pos (szle (by simp))
  have ga01 : gAdd (.lst (gs.map dP)) (.lst [.tup [.int 0, .int 1]]) = .ok (.lst ((gs ++ [(0, 1)]).map dP)) := by
    show (if _ then _ else _) = _
    rw [if_pos (by rw [List.length_map]; exact szle (by simp; omega)), List.map_append]
    rfl
  have G5 : (D.ins 36 [(27, .tup ((gs ++ [(0, 1)]).map dP)), (28, .int a)]) = gGD (gs ++ [(0, 1)]) a := rfl
  have trr := fun (u10 u11 u12 u13 : Sl) => tr [.v (.scr ns), .v (.lst (ps.map .int)), .v (.int (gs.length : Int)), .v (.lst (gs.map dP)), .v (.int a), .v (.tup (ks0.map dN)), .v (lowD (num gs ks0) (den gs a ks0)), .l (((D.tup [.int 7, .int 3]) :: gs.map dP).dropLast), .v (gGD gs a), .v (gGD gs.reverse a), u10, u11, u12, u13] rfl
  have lcS' := fun (u10 u11 u12 u13 : Sl) => lcS [.v (.scr ns), .v (.lst (ps.map .int)), .v (.int (gs.length : Int)), .v (.lst (gs.map dP)), .v (.int a), .v (.tup (ks0.map dN)), .v (lowD (num gs ks0) (den gs a ks0)), .l (((D.tup [.int 7, .int 3]) :: gs.map dP).dropLast), .v (gGD gs a), .v (gGD gs.reverse a), u10, u11, u12, u13] rfl
  by_cases z1 : 0 < gs.length
  · by_cases z2 : gs.length < 8
    · have hg6 : okGd (gs ++ [(0, 1)]) := ⟨by rw [List.length_append]; simp; omega, fun p m => by
        rcases List.mem_append.mp m with m | m
        · exact hg.each p m
        · rw [List.mem_singleton.mp m]; exact ⟨by decide, by decide, by decide, by decide⟩⟩
      have i6 := ginit_ok (b := false) hg6 a0 aa1
      have i6 : (unA fun ad => F_Guests___init__ ad [.lst ((gs ++ [(0, 1)]).map dP), .int a]) = _ := i6
      have lcF := lcO [gGD gs a2, .non, .tup [.tup (gs.map dP), .int a], .str "guests", gGD gs.tail a, gGD (gs ++ [(0, 1)]) a] (by
        intro d md
        simp only [List.mem_cons, List.not_mem_nil, or_false] at md
        rcases md with rfl | rfl | rfl | rfl | rfl | rfl
        · exact x1
        · exact x2
        · exact x3
        · exact x4
        · exact x5 z1
        · exact x6) [.v (.scr ns), .v (.lst (ps.map .int)), .v (.int (gs.length : Int)), .v (.lst (gs.map dP)), .v (.int a), .v (.tup (ks0.map dN)), .v (lowD (num gs ks0) (den gs a ks0)), .l (((D.tup [.int 7, .int 3]) :: gs.map dP).dropLast), .v (gGD gs a), .v (gGD gs.reverse a), u10, .v (.lst [gGD gs a2, .non, .tup [.tup (gs.map dP), .int a], .str "guests", gGD gs.tail a, gGD (gs ++ [(0, 1)]) a]), .no, .no] rfl rfl
      unfold F_law G_law
      simp_arith [e0, e1, pe, qe, p1, p2, ge, ae, sm, Int.toNat_natCast, rgD_len, sz, lc0, lm0, bt, eMeth_ap, gin, mn0, q0, q1, gt2, mi, eFrz_ap, nMakeK_ap, rv, g2, i2, frzR_o, G2, gt0, gt1, trr, gl2, lcS', gaR, List.length_map, szr, lp, f27, f28, qf, nMake_ap, i1, G1, o1, o2, el, qb, m2, ea2, i4, G4, decide_eq_true (show (0 : Int) < (gs.length : Int) by omega), decide_eq_true (show (gs.length : Int) < 8 by omega), sl, i3, G3, gl01, ga01, i6, G5, szle (show 6 ≤ 1000 by decide), szlt (show 4 ≤ 1000 by decide), szlt (show 5 ≤ 1000 by decide), szle (show 4 ≤ 1000 by decide), lcF, g0, gee]
    · have i6 := trivial
      have lcF := lcO [gGD gs a2, .non, .tup [.tup (gs.map dP), .int a], .str "guests", gGD gs.tail a] (by
        intro d md
        simp only [List.mem_cons, List.not_mem_nil, or_false] at md
        rcases md with rfl | rfl | rfl | rfl | rfl
        · exact x1
        · exact x2
        · exact x3
        · exact x4
        · exact x5 z1) [.v (.scr ns), .v (.lst (ps.map .int)), .v (.int (gs.length : Int)), .v (.lst (gs.map dP)), .v (.int a), .v (.tup (ks0.map dN)), .v (lowD (num gs ks0) (den gs a ks0)), .l (((D.tup [.int 7, .int 3]) :: gs.map dP).dropLast), .v (gGD gs a), .v (gGD gs.reverse a), u10, .v (.lst [gGD gs a2, .non, .tup [.tup (gs.map dP), .int a], .str "guests", gGD gs.tail a]), .no, .no] rfl rfl
      unfold F_law G_law
      simp_arith [e0, e1, pe, qe, p1, p2, ge, ae, sm, Int.toNat_natCast, rgD_len, sz, lc0, lm0, bt, eMeth_ap, gin, mn0, q0, q1, gt2, mi, eFrz_ap, nMakeK_ap, rv, g2, i2, frzR_o, G2, gt0, gt1, trr, gl2, lcS', gaR, List.length_map, szr, lp, f27, f28, qf, nMake_ap, i1, G1, o1, o2, el, qb, m2, ea2, i4, G4, decide_eq_true (show (0 : Int) < (gs.length : Int) by omega), decide_eq_false (show ¬ (gs.length : Int) < 8 by omega), sl, i3, G3, szle (show 5 ≤ 1000 by decide), szlt (show 4 ≤ 1000 by decide), szle (show 4 ≤ 1000 by decide), lcF, g0, gee]
  · have hg6 : okGd (gs ++ [(0, 1)]) := ⟨by rw [List.length_append]; simp; omega, fun p m => by
      rcases List.mem_append.mp m with m | m
      · exact hg.each p m
      · rw [List.mem_singleton.mp m]; exact ⟨by decide, by decide, by decide, by decide⟩⟩
    have i6 := ginit_ok (b := false) hg6 a0 aa1
    have i6 : (unA fun ad => F_Guests___init__ ad [.lst ((gs ++ [(0, 1)]).map dP), .int a]) = _ := i6
    have lcF := lcO [gGD gs a2, .non, .tup [.tup (gs.map dP), .int a], .str "guests", gGD (gs ++ [(0, 1)]) a] (by
      intro d md
      simp only [List.mem_cons, List.not_mem_nil, or_false] at md
      rcases md with rfl | rfl | rfl | rfl | rfl
      · exact x1
      · exact x2
      · exact x3
      · exact x4
      · exact x6) [.v (.scr ns), .v (.lst (ps.map .int)), .v (.int (gs.length : Int)), .v (.lst (gs.map dP)), .v (.int a), .v (.tup (ks0.map dN)), .v (lowD (num gs ks0) (den gs a ks0)), .l (((D.tup [.int 7, .int 3]) :: gs.map dP).dropLast), .v (gGD gs a), .v (gGD gs.reverse a), u10, .v (.lst [gGD gs a2, .non, .tup [.tup (gs.map dP), .int a], .str "guests", gGD (gs ++ [(0, 1)]) a]), .no, .no] rfl rfl
    unfold F_law G_law
    simp_arith [e0, e1, pe, qe, p1, p2, ge, ae, sm, Int.toNat_natCast, rgD_len, sz, lc0, lm0, bt, eMeth_ap, gin, mn0, q0, q1, gt2, mi, eFrz_ap, nMakeK_ap, rv, g2, i2, frzR_o, G2, gt0, gt1, trr, gl2, lcS', gaR, List.length_map, szr, lp, f27, f28, qf, nMake_ap, i1, G1, o1, o2, el, qb, m2, ea2, i4, G4, decide_eq_false (show ¬ (0 : Int) < (gs.length : Int) by omega), decide_eq_true (show (gs.length : Int) < 8 by omega), gl01, ga01, i6, G5, szle (show 5 ≤ 1000 by decide), szlt (show 4 ≤ 1000 by decide), szle (show 4 ≤ 1000 by decide), lcF, g0, gee]
end Tk

set_option maxHeartbeats 0
namespace Tk
open PySem PySem.Spec L2 PyProof.Rows
abbrev Rw : PySem.W.OpenRow := PySem.W.OpenLaw.row PySem.Challenge.rw_turnsandkeys_k32_guests_mean
abbrev hookL : PySem.W.Hook := hookM 5 fa fn exL
def obL (s : PySem.W.SharedT) : AlM := obsM 5 fa fn exL (HandSHeadRun.getT s)
theorem obL_eq (s : PySem.W.SharedT) : obL s = hookL.obs s.abs := obsM_eq (HandSHeadRun.getT_eq s)
def loose : List PySem.Str := (["gcd", "_wall", "HouseError", "BadNumber", "BadCount", "BadLot", "MOST_OFFERS", "LARGEST_CHARGE", "LARGEST_WEIGHT", "Guests", "_law_cell", "_law_mixed", "_law_pool", "_law_part", "_law_far", "_law_chosen", "_law_goods", "_law_beside", "_law_lowest", "_law_mean", "_law_integer", "_law_same"] : List PySem.Str)
theorem runL (w : World) : HandSHeadRun.RunEqI Rw (PySem.W.view Rw.prog [25]) hookL obL 4000 loose w := by
  show _ = _
  kernel_rfl
theorem head_ok {w : World} {K : PySem.W.Frag} {h : Heap} {mg : Str → Option Value} {f : Addr} (X : K.In h) (G : h.Ns mainGlobals mg) (hfa : mg ("law" : Str) = some (.ref f)) (c : He.SaysD fa fn K ∧ exL K = true) : LawOk PySem.Challenge.rw_turnsandkeys_k32_guests_mean F_law 9 w mg f h := by
  have T : SaysU fa fn exL K mg := ⟨⟨⟨h, X, G⟩, c.1⟩, c.2⟩
  obtain ⟨fd, F⟩ := T.fd (dd := []) (kd := []) 16 rfl rfl rfl
  have e := hfa.symm.trans (He.glo_ok X G (T.c.fact 33 (f := .glo "law") rfl))
  cases e
  refine ⟨K, fd, cnL K, X, fun s u => FunD.bindsA (ps := ["script"]) F (fun _ _ _ _ _ _ us hl => match us, hl with | [_], _ => rfl) s [u] rfl, fun b KB NB => ?_⟩
  have T2 : SaysU fa fn exL K mg := ⟨⟨⟨b, KB, NB⟩, c.1⟩, c.2⟩
  obtain ⟨f2, fd2, F2, h2, h3⟩ := (d_law (P := (PySem.Challenge.rw_turnsandkeys_k32_guests_mean).prog) (w := w) (base := b) T2).ex
  have e2 := (He.glo_ok X G (T.c.fact 33 (f := .glo "law") rfl)).symm.trans h2
  cases e2
  have e3 : fd2 = fd := FunD.same h3 F
  rw [← e3]
  exact F2
end Tk
open PySem PySem.W PySem.Calls PyProof.Rows
theorem PySem.Challenge.cw_turnsandkeys_k32_guests_mean_holds : PySem.Challenge.rw_turnsandkeys_k32_guests_mean.Holds := by
  w_on; o_law
  refine HandSHeadRun.head_imp (r := OpenLaw.row PySem.Challenge.rw_turnsandkeys_k32_guests_mean) (q := view (OpenLaw.row PySem.Challenge.rw_turnsandkeys_k32_guests_mean).prog [25]) (H := Tk.hookL) (ob := Tk.obL) (M := 4000) (loose := Tk.loose) (d := HandSHeadRun.topDef (OpenLaw.row PySem.Challenge.rw_turnsandkeys_k32_guests_mean).prog 25) (kwd := []) Tk.obL_eq
     Tk.runL (by kernel_rfl) (by kernel_rfl) (by kernel_rfl) (by rfl) (by first | assumption | decide +kernel) (by decide +kernel) ⟨rfl, rfl, rfl, rfl, rfl, by decide +kernel⟩ ?hw ?hc
  case hw => w_witness2
  case hc =>
    refine Tk.law_walk (l := PySem.Challenge.rw_turnsandkeys_k32_guests_mean) (k := 9) (F := Tk.F_law) rfl (by kernel_rfl) ⟨rfl, by decide, by decide⟩ ?F Tk.law_true
    intro w mg fa h Y G hmg0
    obtain ⟨K, KX, c⟩ := Y
    refine Tk.head_ok KX G ?_ c
    have e : (HandSHeadRun.topDef (OpenLaw.row PySem.Challenge.rw_turnsandkeys_k32_guests_mean).prog 25).name = ("law" : PySem.Str) := by kernel_rfl
    rw [← e]
    exact hmg0
