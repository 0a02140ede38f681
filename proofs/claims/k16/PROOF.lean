import PyProof.Rows.All
import Wide.All
import OpenK.AllK
import Wide.FinOn
import HandS.ForMost
import HandS.WordsExc
import HandS.Exc
import HandS.ExcOwn
import HandS.TryOnly
import HandS.IsInst
import HandS.Flow
import HandS.Zip
import HandS.DictTup
import HandS.Wide
import HandS.TupAny
import HandS.Style
import HandS.Deep
import HandS.TupLe
import HandS.Defaults
import HandS.Rev
import HandS.IterVal
import HandS.More
import KE.GoesNew
import HandS.SortRule
import HandS.SortInts
import HandS.HeadHook2
import HandS.MakeKw
import HandS.MakeKwOnly
import HandS.Dict
import HandS.ForDict
import KE.KDictZip
import HandS.Property
import HandS.MethStar
import HandS.SortKw
import HandS.DictComp
import HandS.Strs
import KE.LtSeq
import KE.KSortAsk
import KE.KTupSum
import KE.KStateDown
import HandS.Ends
import HandS.Head0
import HandS.Head1
import HandS.Head2
import HandS.Head3
import HandS.HeadEnd
import HandS.Gcd
import HandS.OwnEq
import HandS.Conv
import PyProof.ListNew
import KE.KSortTupAny
import PySem.Challenge.RW_turnsandkeys_k16_whole_order_by_leads
set_option Elab.async false
set_option linter.all false
set_option maxRecDepth 100000
namespace Tk
open PySem PySem.Spec L2

inductive D where
  | non | bl (b : Bool) | int (i : Int) | str (s : Str) | ty (n : String) | cl (c : Nat)
  | scr (ns : List Int)
  | lst (xs : List D) | tup (xs : List D) | tpz (xs : List D) | tp0
  | dK (kvs : List (Key × D)) | dT (kvs : List (List Key × D)) | zK (kvs : List (Key × D)) | zT (kvs : List (List Key × D))
  | ins (c : Nat) (fs : List (Nat × D))
/-- the classes' places, the attributes' names -/
structure Cn where
  a : Nat → Option Addr
  n : Nat → Str
  /-- the exception that a suite handles: its place, its class, its dict -/
  φ : Addr → Value → Option Addr → Prop := fun _ _ _ => False

/-- a tuple that the run has laid -/
def TupAt (K : PySem.W.Frag) (G : Hp) (a : Addr) (vs : List V) : Prop := G a = some (.tup vs)
section
variable (K : PySem.W.Frag) (ca : Cn) (G : Hp)
mutual
def At : D → V → Prop
  | .non, v => v = .non
  | .bl b, v => v = .bl b
  | .int i, v => v = .int i
  | .str s, v => v = .str s
  | .ty n, v => v = .ty n
  | .cl c, v => ∃ C, ca.a c = some C ∧ v = .ref C
  | .scr ns, v => ∃ a, v = .ref a ∧ SqL K G a (ns.map V.int)
  | .lst xs, v => ∃ a vs, v = .ref a ∧ G a = some (.lst vs) ∧ AtL xs vs
  | .tup xs, v => ∃ a vs, v = .ref a ∧ TupAt K G a vs ∧ AtL xs vs
  | .tpz xs, v => ∃ a o vs, v = .ref a ∧ (o.cls = .type "tuple" ∧ o.dict = none) ∧ G a = some (.frz o (.tup vs)) ∧ AtL xs vs
  | .tp0, v => ∃ a, v = .ref a ∧ SqT K G a []
  | .dK kvs, v => ∃ a vs, v = .ref a ∧ Rd G a (.dK vs) ∧ AtK kvs vs
  | .dT kvs, v => ∃ a vs, v = .ref a ∧ Rd G a (.dT vs) ∧ AtT kvs vs
  | .zK kvs, v => ∃ a o vs, v = .ref a ∧ G a = some (.frz o (.dK vs)) ∧ AtK kvs vs
  | .zT kvs, v => ∃ a o vs, v = .ref a ∧ G a = some (.frz o (.dT vs)) ∧ AtT kvs vs
  | .ins c fs, v => ∃ a C dx vs, v = .ref a ∧ ca.a c = some C ∧ G a = some (.ins C dx vs) ∧ AtF fs vs
def AtL : List D → List V → Prop
  | [], vs => vs = []
  | d :: ds, vs => ∃ v r, vs = v :: r ∧ At d v ∧ AtL ds r
def AtK : List (Key × D) → List (Key × V) → Prop
  | [], vs => vs = []
  | (k, d) :: ds, vs => ∃ v r, vs = (k, v) :: r ∧ At d v ∧ AtK ds r
def AtT : List (List Key × D) → List (List Key × V) → Prop
  | [], vs => vs = []
  | (k, d) :: ds, vs => ∃ v r, vs = (k, v) :: r ∧ At d v ∧ AtT ds r
def AtF : List (Nat × D) → List (Str × V) → Prop
  | [], vs => vs = []
  | (k, d) :: ds, vs => ∃ v r, vs = (ca.n k, v) :: r ∧ At d v ∧ AtF ds r
end
end

theorem Rd.mono {G G' : Hp} {a : Addr} {u : HO} (s : Same G G') (h : Rd G a u) : Rd G' a u := by
  rcases h with h | ⟨o, h⟩
  · exact .inl (s _ _ h)
  · exact .inr ⟨o, s _ _ h⟩
theorem SqL_mono {K : PySem.W.Frag} {G G' : Hp} {a : Addr} {xs : List V} (s : Same G G') (h : SqL K G a xs) : SqL K G' a xs := s.seq h
theorem SqT_mono {K : PySem.W.Frag} {G G' : Hp} {a : Addr} {xs : List V} (s : Same G G') (h : SqT K G a xs) : SqT K G' a xs := by
  rcases h with h | h
  · exact .inl (Rd.mono s h)
  · exact .inr h

theorem TupAt.mono {K : PySem.W.Frag} {G G' : Hp} {a : Addr} {vs : List V} (s : Same G G') (h : TupAt K G a vs) : TupAt K G' a vs := s a (.tup vs) h
/-- read at a later heap -/
theorem tq {K : PySem.W.Frag} {G G' : Hp} {a : Addr} {vs : List V} (s : Same G G') (h : TupAt K G a vs) : SqT K G' a vs := .of (s a (.tup vs) h)
section
variable {K : PySem.W.Frag} {ca : Cn} {G G' : Hp}
mutual
theorem At.mono (s : Same G G') : ∀ {d : D} {v : V}, At K ca G d v → At K ca G' d v
  | .non, v, h => h
  | .bl _, v, h => h
  | .int _, v, h => h
  | .str _, v, h => h
  | .ty _, v, h => h
  | .cl _, v, h => h
  | .scr ns, v, ⟨a, e, h⟩ => ⟨a, e, SqL_mono s h⟩
  | .lst xs, v, ⟨a, vs, e, h, r⟩ => ⟨a, vs, e, s _ _ h, AtL.mono s r⟩
  | .tup xs, v, ⟨a, vs, e, h, r⟩ => ⟨a, vs, e, TupAt.mono s h, AtL.mono s r⟩
  | .tpz xs, v, ⟨a, o, vs, e, q, h, r⟩ => ⟨a, o, vs, e, q, s _ _ h, AtL.mono s r⟩
  | .tp0, v, ⟨a, e, h⟩ => ⟨a, e, SqT_mono s h⟩
  | .dK xs, v, ⟨a, vs, e, h, r⟩ => ⟨a, vs, e, Rd.mono s h, AtK.mono s r⟩
  | .dT xs, v, ⟨a, vs, e, h, r⟩ => ⟨a, vs, e, Rd.mono s h, AtT.mono s r⟩
  | .zK xs, v, ⟨a, o, vs, e, h, r⟩ => ⟨a, o, vs, e, s _ _ h, AtK.mono s r⟩
  | .zT xs, v, ⟨a, o, vs, e, h, r⟩ => ⟨a, o, vs, e, s _ _ h, AtT.mono s r⟩
  | .ins c xs, v, ⟨a, C, dx, vs, e, q, h, r⟩ => ⟨a, C, dx, vs, e, q, s _ _ h, AtF.mono s r⟩
theorem AtL.mono (s : Same G G') : ∀ {ds : List D} {vs : List V}, AtL K ca G ds vs → AtL K ca G' ds vs
  | [], _, h => h
  | _ :: _, _, ⟨v, r, e, h, t⟩ => ⟨v, r, e, At.mono s h, AtL.mono s t⟩
theorem AtK.mono (s : Same G G') : ∀ {ds : List (Key × D)} {vs : List (Key × V)}, AtK K ca G ds vs → AtK K ca G' ds vs
  | [], _, h => h
  | (_, _) :: _, _, ⟨v, r, e, h, t⟩ => ⟨v, r, e, At.mono s h, AtK.mono s t⟩
theorem AtT.mono (s : Same G G') : ∀ {ds : List (List Key × D)} {vs : List (List Key × V)}, AtT K ca G ds vs → AtT K ca G' ds vs
  | [], _, h => h
  | (_, _) :: _, _, ⟨v, r, e, h, t⟩ => ⟨v, r, e, At.mono s h, AtT.mono s t⟩
theorem AtF.mono (s : Same G G') : ∀ {ds : List (Nat × D)} {vs : List (Str × V)}, AtF K ca G ds vs → AtF K ca G' ds vs
  | [], _, h => h
  | (_, _) :: _, _, ⟨v, r, e, h, t⟩ => ⟨v, r, e, At.mono s h, AtF.mono s t⟩
end
theorem AtL.length : ∀ {ds : List D} {vs : List V}, AtL K ca G ds vs → ds.length = vs.length
  | [], _, h => by cases h; rfl
  | _ :: _, _, ⟨_, _, e, _, t⟩ => by subst e; simp [AtL.length t]
theorem AtL.get : ∀ {ds : List D} {vs : List V} {i : Nat} {d : D}, AtL K ca G ds vs → ds[i]? = some d → ∃ v, vs[i]? = some v ∧ At K ca G d v
  | [], _, _, _, _, e => by simp at e
  | d :: ds, _, 0, _, ⟨v, r, e, h, t⟩, q => by subst e; simp at q; subst q; exact ⟨v, rfl, h⟩
  | d :: ds, _, i + 1, _, ⟨v, r, e, h, t⟩, q => by
    subst e
    obtain ⟨w, h1, h2⟩ := AtL.get (i := i) t (by simpa using q)
    exact ⟨w, by simpa using h1, h2⟩
theorem AtL.append : ∀ {ds es : List D} {vs ws : List V}, AtL K ca G ds vs → AtL K ca G es ws → AtL K ca G (ds ++ es) (vs ++ ws)
  | [], _, _, _, h, h' => by cases h; exact h'
  | _ :: _, _, _, _, ⟨v, r, e, h, t⟩, h' => by subst e; exact ⟨v, _, rfl, h, AtL.append t h'⟩
theorem AtL.one {d : D} {v : V} (h : At K ca G d v) : AtL K ca G [d] [v] := ⟨v, [], rfl, h, rfl⟩
theorem AtL.drop : ∀ {ds : List D} {vs : List V} (n : Nat), AtL K ca G ds vs → AtL K ca G (ds.drop n) (vs.drop n)
  | _, _, 0, h => h
  | [], _, _ + 1, h => by cases h; rfl
  | _ :: _, _, n + 1, ⟨_, _, e, _, t⟩ => by subst e; exact AtL.drop n t
theorem AtL.take : ∀ {ds : List D} {vs : List V} (n : Nat), AtL K ca G ds vs → AtL K ca G (ds.take n) (vs.take n)
  | _, _, 0, _ => rfl
  | [], _, _ + 1, h => by cases h; rfl
  | _ :: _, _, n + 1, ⟨_, _, e, h, t⟩ => by subst e; exact ⟨_, _, rfl, h, AtL.take n t⟩
theorem AtL.reverse : ∀ {ds : List D} {vs : List V}, AtL K ca G ds vs → AtL K ca G ds.reverse vs.reverse
  | [], _, h => by cases h; rfl
  | _ :: _, _, ⟨_, _, e, h, t⟩ => by subst e; rw [List.reverse_cons, List.reverse_cons]; exact AtL.append (AtL.reverse t) (AtL.one h)
theorem AtL.set : ∀ {ds : List D} {vs : List V} (n : Nat) {d : D} {v : V}, AtL K ca G ds vs → At K ca G d v → AtL K ca G (ds.set n d) (vs.set n v)
  | [], _, _, _, _, h, _ => by cases h; rfl
  | _ :: _, _, 0, _, _, ⟨_, _, e, h, t⟩, q => by subst e; exact ⟨_, _, rfl, q, t⟩
  | _ :: _, _, n + 1, _, _, ⟨_, _, e, h, t⟩, q => by subst e; exact ⟨_, _, rfl, h, AtL.set n t q⟩
theorem AtL.ints : ∀ {ns : List Int} {vs : List V}, AtL K ca G (ns.map D.int) vs → vs = ns.map V.int
  | [], _, h => h
  | _ :: _, _, ⟨_, _, e, h, t⟩ => by subst e; cases h; rw [AtL.ints t]; rfl
theorem AtL.of_ints : ∀ (ns : List Int), AtL K ca G (ns.map D.int) (ns.map V.int)
  | [] => rfl
  | _ :: ns => ⟨_, _, rfl, rfl, AtL.of_ints ns⟩
theorem AtL.eraseIdx : ∀ {ds : List D} {vs : List V} (n : Nat), AtL K ca G ds vs → AtL K ca G (ds.eraseIdx n) (vs.eraseIdx n)
  | [], _, _, h => by cases h; rfl
  | _ :: _, _, 0, ⟨_, _, e, h, t⟩ => by subst e; exact t
  | _ :: _, _, n + 1, ⟨_, _, e, h, t⟩ => by subst e; exact ⟨_, _, rfl, h, AtL.eraseIdx n t⟩
theorem AtF.lookup : ∀ {fs : List (Nat × D)} {vs : List (Str × V)} {n : Nat} {d : D}, (∀ p ∈ fs, ca.n p.1 = ca.n n → p.1 = n) → AtF K ca G fs vs → fs.lookup n = some d → ∃ v, vs.lookup (ca.n n) = some v ∧ At K ca G d v
  | [], _, _, _, _, _, e => by simp at e
  | (k, d) :: ds, _, n, _, i, ⟨v, r, e, h, t⟩, q => by
    subst e
    rw [List.lookup_cons] at q ⊢
    by_cases z : n = k
    · subst z
      rw [beq_self_eq_true] at q ⊢
      cases q
      exact ⟨v, rfl, h⟩
    · have z' : (ca.n n == ca.n k) = false := beq_eq_false_iff_ne.mpr fun y => z (i (k, d) List.mem_cons_self y.symm).symm
      rw [beq_eq_false_iff_ne.mpr z] at q
      rw [z']
      exact AtF.lookup (fun p m => i p (List.mem_cons_of_mem _ m)) t q
theorem AtF.lookup_none : ∀ {fs : List (Nat × D)} {vs : List (Str × V)} {n : Str}, (∀ p ∈ fs, ca.n p.1 ≠ n) → AtF K ca G fs vs → vs.lookup n = none
  | [], _, _, _, h => by cases h; rfl
  | (k, d) :: ds, _, n, i, ⟨v, r, e, h, t⟩ => by
    subst e
    rw [List.lookup_cons, beq_eq_false_iff_ne.mpr (Ne.symm (i (k, d) List.mem_cons_self))]
    exact AtF.lookup_none (fun p m => i p (List.mem_cons_of_mem _ m)) t
end

/-! ### heaps that grow -/
/-- free, or a tuple (which nobody owns) -/
def Fre (H : Hp) (a : Addr) : Prop := H a = none ∨ ∃ vs, H a = some (.tup vs)
theorem Fre.up {H H' : Hp} {a : Addr} (s : Same H H') (h : Fre H' a) : Fre H a := by
  cases e : H a with
  | none => exact .inl e
  | some o =>
    rcases h with h | ⟨vs, h⟩
    · rw [s a o e] at h; cases h
    · rw [s a o e] at h; cases h; exact .inr ⟨vs, e⟩
theorem Fre.no {H : Hp} {a : Addr} {o : HO} (h : Fre H a) (e : H a = some o) (n : ∀ vs, o ≠ .tup vs) : False := by
  rcases h with h | ⟨vs, h⟩
  · rw [h] at e; cases e
  · rw [h] at e; cases e; exact n vs rfl
structure Ext (G H G' H' : Hp) : Prop where
  hh : Same H H'
  gg : Same G G'
  gh : Same G' H'
  nw : ∀ a, G' a ≠ none → G a ≠ none ∨ Fre H a
theorem Ext.refl {G H : Hp} (s : Same G H) : Ext G H G H := ⟨.refl _, .refl _, s, fun _ h => .inl h⟩
theorem same_none {H H' : Hp} (s : Same H H') {a : Addr} (h : H' a = none) : H a = none := by
  cases e : H a with
  | none => rfl
  | some o => rw [s a o e] at h; cases h
theorem same_some {H H' : Hp} (s : Same H H') {a : Addr} (h : H a ≠ none) : H' a ≠ none := fun z => h (same_none s z)
theorem Ext.trans {G H G1 H1 G2 H2 : Hp} (e : Ext G H G1 H1) (f : Ext G1 H1 G2 H2) : Ext G H G2 H2 :=
  ⟨e.hh.trans f.hh, e.gg.trans f.gg, f.gh, fun a h => (f.nw a h).elim (e.nw a) fun z => .inr (z.up e.hh)⟩
theorem same_upd {H : Hp} {p : Addr} {o : HO} (n : H p = none) : Same H (upd H p o) := fun b u e => by
  rw [upd_ne (ne_of_none e n)]; exact e
theorem same_upd2 {G H : Hp} {p : Addr} {o : HO} (s : Same G H) : Same (upd G p o) (upd H p o) := fun b u e => by
  by_cases h : b = p
  · subst h; rw [upd_same] at e ⊢; exact e
  · rw [upd_ne h] at e ⊢; exact s _ _ e
/-- a new object that nobody changes any more -/
theorem Ext.new {G H : Hp} {p : Addr} {o : HO} (s : Same G H) (n : H p = none) : Ext G H (upd G p o) (upd H p o) := by
  refine ⟨same_upd n, same_upd (same_none s n), same_upd2 s, fun a h => ?_⟩
  by_cases e : a = p
  · subst e; exact .inr (.inl n)
  · rw [upd_ne e] at h; exact .inl h

/-! ### results -/
structure Ex where
  c : Nat
  fs : List (Nat × D)
inductive R (α : Type) where
  | ok (a : α) | exc (x : Ex) | bad
def R.bind {α β : Type} (r : R α) (k : α → R β) : R β := match r with
  | .ok a => k a
  | .exc x => .exc x
  | .bad => .bad
instance : Monad R where
  pure := .ok
  bind := R.bind
@[simp] theorem bind_ok {α β : Type} (a : α) (k : α → R β) : R.bind (.ok a) k = k a := (rfl)
@[simp] theorem bind_exc {α β : Type} (x : Ex) (k : α → R β) : R.bind (.exc x) k = .exc x := (rfl)
@[simp] theorem bind_bad {α β : Type} (k : α → R β) : R.bind .bad k = .bad := (rfl)

/-- how a raised exception lies -/
def ExAt (K : PySem.W.Frag) (ca : Cn) (G : Hp) (x : Ex) (c : Value) (dx : Option Addr) : Prop :=
  ∃ C, ca.a x.c = some C ∧ c = .ref C ∧ ((x.fs = [] ∧ dx = none) ∨ ∃ d vs, dx = some d ∧ G d = some (.xd vs) ∧ AtF K ca G x.fs vs)
theorem ExAt.mono {K : PySem.W.Frag} {ca : Cn} {G G' : Hp} {x : Ex} {c : Value} {dx : Option Addr} (s : Same G G') : ExAt K ca G x c dx → ExAt K ca G' x c dx
  | ⟨C, h1, h2, h3⟩ => ⟨C, h1, h2, h3.elim .inl fun ⟨d, vs, e1, e2, e3⟩ => .inr ⟨d, vs, e1, s _ _ e2, AtF.mono s e3⟩⟩

section
variable (K : PySem.W.Frag) (ca : Cn)
/-- what is wanted of a result -/
def Wish {α : Type} (S : Hp → α → Hp → Prop) (G H : Hp) (r : R α) (W1 : XK) : Prop := match r with
  | .ok d => ∀ G' H', Ext G H G' H' → S G' d H'
  | .exc x => ∀ G' H' c dx, Ext G H G' H' → ExAt K ca G' x c dx → W1 c dx H'
  | .bad => False
/-- .. of a value -/
abbrev SV (Q : VK) : Hp → D → Hp → Prop := fun G' d H' => ∀ v, At K ca G' d v → Q v H'
abbrev SB (Q : Bool → Hp → Prop) : Hp → Bool → Hp → Prop := fun _ b H' => Q b H'
abbrev SL (Q : List V → Hp → Prop) : Hp → List D → Hp → Prop := fun G' ds H' => ∀ vs, AtL K ca G' ds vs → Q vs H'
end
section
variable {K : PySem.W.Frag} {ca : Cn} {α β : Type} {S : Hp → α → Hp → Prop} {G H G' H' : Hp} {W1 : XK}
theorem Wish.mono {r : R α} (h : Wish K ca S G H r W1) (e : Ext G H G' H') : Wish K ca S G' H' r W1 := by
  cases r with
  | ok d => exact fun G2 H2 f => h G2 H2 (e.trans f)
  | exc x => exact fun G2 H2 c dx f => h G2 H2 c dx (e.trans f)
  | bad => exact h
theorem Wish.bind {r : R β} {k : β → R α} {S1 : Hp → β → Hp → Prop} (h : Wish K ca S G H (r.bind k) W1) (hk : ∀ d G1 H1, r = .ok d → Ext G H G1 H1 → Wish K ca S G1 H1 (k d) W1 → S1 G1 d H1) : Wish K ca S1 G H r W1 := by
  cases r with
  | ok d => exact fun G1 H1 e => hk d G1 H1 rfl e (Wish.mono (r := k d) h e)
  | exc x => exact h
  | bad => exact h
/-- the result without a change -/
theorem Wish.here {d : α} (h : Wish K ca S G H (.ok d) W1) (s : Same G H) : S G d H := h G H (.refl s)
end
end Tk

namespace Tk
open PySem PySem.Spec L2
/-! ### what the slots hold -/
inductive Sl where
  | no | v (d : D) | l (xs : List D) | k (kvs : List (Key × D)) | t (kvs : List (List Key × D)) | o (g : Option Addr) (c : Nat) (fs : List (Nat × D)) | x (x : Ex)
abbrev Ev := List Sl
def Sl.own : Sl → Bool
  | .no => false
  | .v _ => false
  | .x _ => false
  | _ => true
section
variable (K : PySem.W.Frag) (ca : Cn)
def Own (G H : Hp) (a : Addr) : Sl → Prop
  | .no => False
  | .v _ => False
  | .x _ => False
  | .l xs => ∃ vs, H a = some (.lst vs) ∧ AtL K ca G xs vs
  | .k xs => ∃ vs, H a = some (.dK vs) ∧ AtK K ca G xs vs
  | .t xs => ∃ vs, H a = some (.dT vs) ∧ AtT K ca G xs vs
  | .o g c fs => ∃ C dx vs, (∀ b, g = some b → a = b) ∧ ca.a c = some C ∧ H a = some (.ins C dx vs) ∧ AtF K ca G fs vs
/-- the slots of the frame and what they hold; B: what stood at the entry -/
structure Rel (B G H : Hp) (σ : L2.St) (ρ : Ev) : Prop where
  len : σ.length = ρ.length
  val : ∀ (i : Nat) (d : D), ρ[i]? = some (.v d) → ∃ v, σ[i]? = some (some v) ∧ At K ca G d v
  own : ∀ (i : Nat) (s : Sl), ρ[i]? = some s → s.own = true → ∃ a, σ[i]? = some (some (.ref a)) ∧ Own K ca G H a s ∧ G a = none ∧ B a = none
  sep : ∀ (i j : Nat) (s t : Sl) (a : Addr), ρ[i]? = some s → s.own = true → ρ[j]? = some t → t.own = true → σ[i]? = some (some (.ref a)) → σ[j]? = some (some (.ref a)) → i = j
  exc : ∀ (i : Nat) (x : Ex), ρ[i]? = some (.x x) → ∃ a c dx, σ[i]? = some (some (.ref a)) ∧ ca.φ a c dx ∧ ExAt K ca G x c dx
end
section
variable {K : PySem.W.Frag} {ca : Cn} {B G H G' H' : Hp} {σ : L2.St} {ρ : Ev}
theorem Own.ext {a : Addr} {s : Sl} (h : Own K ca G H a s) (sg : Same G G') (e : H' a = H a) : Own K ca G' H' a s := by
  cases s with
  | no => exact h
  | x _ => exact h
  | v d => exact h
  | l xs => obtain ⟨vs, h1, h2⟩ := h; exact ⟨vs, e.trans h1, AtL.mono sg h2⟩
  | k xs => obtain ⟨vs, h1, h2⟩ := h; exact ⟨vs, e.trans h1, AtK.mono sg h2⟩
  | t xs => obtain ⟨vs, h1, h2⟩ := h; exact ⟨vs, e.trans h1, AtT.mono sg h2⟩
  | o g c fs => obtain ⟨C, dx, vs, hg, h0, h1, h2⟩ := h; exact ⟨C, dx, vs, hg, h0, e.trans h1, AtF.mono sg h2⟩
theorem Own.some {a : Addr} {s : Sl} (h : Own K ca G H a s) : ∃ o, H a = some o := by
  cases s with
  | no => exact h.elim
  | x _ => exact h.elim
  | v d => exact h.elim
  | l xs => obtain ⟨vs, h1, h2⟩ := h; exact ⟨_, h1⟩
  | k xs => obtain ⟨vs, h1, h2⟩ := h; exact ⟨_, h1⟩
  | t xs => obtain ⟨vs, h1, h2⟩ := h; exact ⟨_, h1⟩
  | o g c fs => obtain ⟨C, dx, vs, hg, h0, h1, h2⟩ := h; exact ⟨_, h1⟩
theorem Own.notT {a : Addr} {s : Sl} {vs : List V} (h : Own K ca G H a s) : H a ≠ Option.some (.tup vs) := fun e => by
  cases s with
  | no => exact h.elim
  | x _ => exact h.elim
  | v d => exact h.elim
  | l xs => obtain ⟨vs, h1, h2⟩ := h; rw [h1] at e; cases e
  | k xs => obtain ⟨vs, h1, h2⟩ := h; rw [h1] at e; cases e
  | t xs => obtain ⟨vs, h1, h2⟩ := h; rw [h1] at e; cases e
  | o g c fs => obtain ⟨C, dx, vs, hg, h0, h1, h2⟩ := h; rw [h1] at e; cases e
theorem Rel.ext (r : Rel K ca B G H σ ρ) (e : Ext G H G' H') : Rel K ca B G' H' σ ρ where
  len := r.len
  val := fun i d h => let ⟨v, h1, h2⟩ := r.val i d h; ⟨v, h1, At.mono e.gg h2⟩
  own := fun i s h ho => by
    obtain ⟨a, h1, h2, h3, h4⟩ := r.own i s h ho
    obtain ⟨o, h5⟩ := h2.some
    refine ⟨a, h1, h2.ext e.gg ((e.hh _ _ h5).trans h5.symm), ?_, h4⟩
    cases q : G' a with
    | none => rfl
    | some u =>
      rcases e.nw a (by rw [q]; simp) with z | z
      · exact (z h3).elim
      · rcases z with z | ⟨vs, z⟩
        · rw [h5] at z; cases z
        · exact (h2.notT z).elim
  sep := r.sep
  exc := fun i x h => let ⟨a, c, dx, h1, h2, h3⟩ := r.exc i x h; ⟨a, c, dx, h1, h2, h3.mono e.gg⟩
theorem getElem?_set' {α : Type} {l : List α} {i j : Nat} {x y : α} (h : (l.set i x)[j]? = some y) : (j = i ∧ y = x) ∨ (j ≠ i ∧ l[j]? = some y) := by
  by_cases e : i = j
  · subst e
    rw [List.getElem?_set_self'] at h
    cases q : l[i]? with
    | none => rw [q] at h; cases h
    | some z => rw [q] at h; cases h; exact .inl ⟨rfl, rfl⟩
  · rw [List.getElem?_set_ne e] at h; exact .inr ⟨fun z => e z.symm, h⟩
theorem Rel.set (r : Rel K ca B G H σ ρ) (i : Nat) {d : D} {v : V} (h : At K ca G d v) : Rel K ca B G H (σ.set i (some v)) (ρ.set i (.v d)) where
  len := by rw [List.length_set, List.length_set]; exact r.len
  val := fun j e q => by
    rcases getElem?_set' q with ⟨rfl, z⟩ | ⟨ne, q⟩
    · cases z
      refine ⟨v, ?_, h⟩
      have : j < σ.length := by
        rw [r.len]
        have := (List.getElem?_eq_some_iff.mp q).1
        rwa [List.length_set] at this
      rw [List.getElem?_set_self this]
    · obtain ⟨w, h1, h2⟩ := r.val j e q
      exact ⟨w, by rw [List.getElem?_set_ne (Ne.symm ne)]; exact h1, h2⟩
  own := fun j s q ho => by
    rcases getElem?_set' q with ⟨rfl, z⟩ | ⟨ne, q⟩
    · cases z; cases ho
    · obtain ⟨a, h1, h2⟩ := r.own j s q ho
      exact ⟨a, by rw [List.getElem?_set_ne (Ne.symm ne)]; exact h1, h2⟩
  sep := fun j k s t a qj oj qk ok hj hk => by
    rcases getElem?_set' qj with ⟨rfl, z⟩ | ⟨nj, qj⟩
    · cases z; cases oj
    · rcases getElem?_set' qk with ⟨rfl, z⟩ | ⟨nk, qk⟩
      · cases z; cases ok
      · rw [List.getElem?_set_ne (Ne.symm nj)] at hj
        rw [List.getElem?_set_ne (Ne.symm nk)] at hk
        exact r.sep j k s t a qj oj qk ok hj hk
  exc := fun j x q => by
    rcases getElem?_set' q with ⟨rfl, z⟩ | ⟨ne, q⟩
    · cases z
    · obtain ⟨a, c, dx, h1, h2⟩ := r.exc j x q
      exact ⟨a, c, dx, by rw [List.getElem?_set_ne (Ne.symm ne)]; exact h1, h2⟩
/-- an own object comes to a slot -/
theorem Rel.setOwn (r : Rel K ca B G H σ ρ) (i : Nat) {s : Sl} {a : Addr} (ho : s.own = true) (h : Own K ca G H a s) (hg : G a = none) (hb : B a = none)
    (hn : ∀ (j : Nat) (t : Sl), j ≠ i → ρ[j]? = some t → t.own = true → σ[j]? ≠ some (some (.ref a))) : Rel K ca B G H (σ.set i (some (.ref a))) (ρ.set i s) where
  len := by rw [List.length_set, List.length_set]; exact r.len
  val := fun j e q => by
    rcases getElem?_set' q with ⟨rfl, z⟩ | ⟨ne, q⟩
    · rw [← z] at ho; cases ho
    · obtain ⟨w, h1, h2⟩ := r.val j e q
      exact ⟨w, by rw [List.getElem?_set_ne (Ne.symm ne)]; exact h1, h2⟩
  own := fun j s' q ho' => by
    rcases getElem?_set' q with ⟨rfl, z⟩ | ⟨ne, q⟩
    · subst z
      refine ⟨a, ?_, h, hg, hb⟩
      have : j < σ.length := by
        rw [r.len]
        have := (List.getElem?_eq_some_iff.mp q).1
        rwa [List.length_set] at this
      rw [List.getElem?_set_self this]
    · obtain ⟨a', h1, h2⟩ := r.own j s' q ho'
      exact ⟨a', by rw [List.getElem?_set_ne (Ne.symm ne)]; exact h1, h2⟩
  sep := fun j k s' t b qj oj qk ok hj hk => by
    have lt : ∀ {j : Nat} {s' : Sl}, (ρ.set i s)[j]? = some s' → j < σ.length := fun {j s'} q => by
      rw [r.len]
      have := (List.getElem?_eq_some_iff.mp q).1
      rwa [List.length_set] at this
    have lj := lt qj
    have lk := lt qk
    by_cases ej : j = i
    · subst ej
      rw [List.getElem?_set_self lj] at hj
      cases hj
      by_cases ek : k = j
      · exact ek.symm
      · rw [List.getElem?_set_ne (Ne.symm ek)] at hk qk
        exact (hn k t ek qk ok hk).elim
    · rw [List.getElem?_set_ne (Ne.symm ej)] at hj qj
      by_cases ek : k = i
      · subst ek
        rw [List.getElem?_set_self lk] at hk
        cases hk
        exact (hn j s' ej qj oj hj).elim
      · rw [List.getElem?_set_ne (Ne.symm ek)] at hk qk
        exact r.sep j k s' t b qj oj qk ok hj hk
  exc := fun j x q => by
    rcases getElem?_set' q with ⟨rfl, z⟩ | ⟨ne, q⟩
    · rw [← z] at ho; cases ho
    · obtain ⟨a, c, dx, h1, h2⟩ := r.exc j x q
      exact ⟨a, c, dx, by rw [List.getElem?_set_ne (Ne.symm ne)]; exact h1, h2⟩
end

/-! ### judgements -/
structure FE (X : Cx) (ca : Cn) (W : WX) (e : Expr) (f : Ev → R D) : Prop where
  ex : ∃ t, PE X e t ∧ ∀ B G H σ ρ Q, Same G H → Same B H → Rel X.K ca B G H σ ρ → Wish X.K ca (SV X.K ca Q) G H (f ρ) (WE W σ) → t σ H Q
structure FT (X : Cx) (ca : Cn) (W : WX) (e : Expr) (f : Ev → R Bool) : Prop where
  ex : ∃ t, PT X e t ∧ ∀ B G H σ ρ Q, Same G H → Same B H → Rel X.K ca B G H σ ρ → Wish X.K ca (SB Q) G H (f ρ) (WE W σ) → t σ H Q
structure FW (X : Cx) (ca : Cn) (W : WX) (e : Expr) (f : Ev → R Bool) : Prop where
  ex : ∃ t, PW X e t ∧ ∀ B G H σ ρ Q, Same G H → Same B H → Rel X.K ca B G H σ ρ → Wish X.K ca (SB Q) G H (f ρ) (WE W σ) → t σ H Q
structure FA (X : Cx) (ca : Cn) (W : WX) (es : List Expr) (f : Ev → R (List D)) : Prop where
  ex : ∃ t, PA X es t ∧ ∀ B G H σ ρ Q, Same G H → Same B H → Rel X.K ca B G H σ ρ → Wish X.K ca (SL X.K ca Q) G H (f ρ) (WE W σ) → t σ H Q
structure FK (X : Cx) (ca : Cn) (W : WX) (es : List Keyword) (f : Ev → R (List D)) : Prop where
  ex : ∃ t, PK X es t ∧ ∀ B G H σ ρ Q, Same G H → Same B H → Rel X.K ca B G H σ ρ → Wish X.K ca (SL X.K ca Q) G H (f ρ) (WE W σ) → t σ H Q

inductive SO where
  | nx (ρ : Ev) | rt (d : D) | ro (s : Sl) | bk (ρ : Ev) | ct (ρ : Ev) | ex (x : Ex) (ρ : Ev) | bad
structure Adv (B G G' H' : Hp) : Prop where
  gg : Same G G'
  gh : Same G' H'
  bh : Same B H'
  nw : ∀ a, G' a ≠ none → G a ≠ none ∨ Fre B a
theorem Adv.refl {B G H : Hp} (s : Same G H) (b : Same B H) : Adv B G G H := ⟨.refl _, s, b, fun _ h => .inl h⟩
theorem Adv.trans {B G G1 H1 G2 H2 : Hp} (e : Adv B G G1 H1) (f : Adv B G1 G2 H2) : Adv B G G2 H2 :=
  ⟨e.gg.trans f.gg, f.gh, f.bh, fun a h => (f.nw a h).elim (e.nw a) .inr⟩
theorem Ext.adv {B G H G' H' : Hp} (e : Ext G H G' H') (b : Same B H) : Adv B G G' H' :=
  ⟨e.gg, e.gh, b.trans e.hh, fun a h => (e.nw a h).elim .inl fun z => .inr (z.up b)⟩
section
variable (K : PySem.W.Frag) (ca : Cn)
def WishS (B G : Hp) (r : SO) (D : Ends) (W : WX) : Prop := match r with
  | .nx ρ => ∀ σ' G' H', Adv B G G' H' → Rel K ca B G' H' σ' ρ → D.nx σ' H'
  | .bk ρ => ∀ σ' G' H', Adv B G G' H' → Rel K ca B G' H' σ' ρ → D.bk σ' H'
  | .ct ρ => ∀ σ' G' H', Adv B G G' H' → Rel K ca B G' H' σ' ρ → D.ct σ' H'
  | .rt d => ∀ v G' H', Adv B G G' H' → At K ca G' d v → D.rt v H'
  | .ro s => s.own = true ∧ ∀ a G' H', Adv B G G' H' → Own K ca G' H' a s → G' a = none → B a = none → D.rt (.ref a) H'
  | .ex x ρ => ∀ σ' G' H' c dx, Adv B G G' H' → Rel K ca B G' H' σ' ρ → ExAt K ca G' x c dx → W c dx σ' H'
  | .bad => False
end
theorem WishS.mono {K : PySem.W.Frag} {ca : Cn} {B G G' H' : Hp} {r : SO} {D : Ends} {W : WX} (h : WishS K ca B G r D W) (e : Adv B G G' H') : WishS K ca B G' r D W := by
  cases r with
  | nx ρ => exact fun σ' G2 H2 f => h σ' G2 H2 (e.trans f)
  | bk ρ => exact fun σ' G2 H2 f => h σ' G2 H2 (e.trans f)
  | ct ρ => exact fun σ' G2 H2 f => h σ' G2 H2 (e.trans f)
  | rt d => exact fun v G2 H2 f => h v G2 H2 (e.trans f)
  | ro s => exact ⟨h.1, fun a G2 H2 f => h.2 a G2 H2 (e.trans f)⟩
  | ex x ρ => exact fun σ' G2 H2 c dx f => h σ' G2 H2 c dx (e.trans f)
  | bad => exact h
structure FS (X : Cx) (ca : Cn) (W : WX) (st : Stmt) (g : Ev → SO) : Prop where
  ex : ∃ t, PS X st t ∧ ∀ B G H σ ρ D, Same G H → Same B H → Rel X.K ca B G H σ ρ → WishS X.K ca B G (g ρ) D W → t D σ H
structure FSs (X : Cx) (ca : Cn) (W : WX) (sts : List Stmt) (g : Ev → SO) : Prop where
  ex : ∃ t, PSs X sts t ∧ ∀ B G H σ ρ D, Same G H → Same B H → Rel X.K ca B G H σ ρ → WishS X.K ca B G (g ρ) D W → t D σ H
/-- from an expression's result to a statement's -/
def SO.from {α : Type} (ρ : Ev) (r : R α) (k : α → SO) : SO := match r with
  | .ok a => k a
  | .exc x => .ex x ρ
  | .bad => .bad
@[simp] theorem from_ok {α : Type} (ρ : Ev) (a : α) (k : α → SO) : SO.from ρ (.ok a) k = k a := (rfl)
@[simp] theorem from_exc {α : Type} (ρ : Ev) (x : Ex) (k : α → SO) : SO.from ρ (.exc x) k = .ex x ρ := (rfl)
@[simp] theorem from_bad {α : Type} (ρ : Ev) (k : α → SO) : SO.from ρ .bad k = .bad := (rfl)
theorem WishS.from {K : PySem.W.Frag} {ca : Cn} {α : Type} {B G H : Hp} {σ : L2.St} {ρ : Ev} {r : R α} {k : α → SO} {D : Ends} {W : WX} {S : Hp → α → Hp → Prop} (h : WishS K ca B G (SO.from ρ r k) D W) (b : Same B H) (rl : Rel K ca B G H σ ρ)
    (hk : ∀ a G1 H1, r = .ok a → Ext G H G1 H1 → WishS K ca B G1 (k a) D W → Rel K ca B G1 H1 σ ρ → Same B H1 → S G1 a H1) : Wish K ca S G H r (WE W σ) := by
  cases r with
  | ok a => exact fun G1 H1 e => hk a G1 H1 rfl e (WishS.mono (r := k a) h (e.adv b)) (rl.ext e) (b.trans e.hh)
  | exc x => exact fun G1 H1 c dx e z => h σ G1 H1 c dx (e.adv b) (rl.ext e) z
  | bad => exact h
end Tk

namespace Tk
open PySem PySem.Spec L2
/-! ### the words of the mirror: expressions -/
def eV (i : Nat) : Ev → R D := fun ρ => match ρ[i]? with
  | some (.v d) => .ok d
  | _ => .bad
def eC (d : D) : Ev → R D := fun _ => .ok d
def e1 (g : D → R D) (fa : Ev → R D) : Ev → R D := fun ρ => (fa ρ).bind g
def e2 (g : D → D → R D) (fa fb : Ev → R D) : Ev → R D := fun ρ => (fa ρ).bind fun a => (fb ρ).bind fun b => g a b
def eA (g : List D → R D) (fa : Ev → R (List D)) : Ev → R D := fun ρ => (fa ρ).bind g
def aN : Ev → R (List D) := fun _ => .ok []
def aC (fa : Ev → R D) (fr : Ev → R (List D)) : Ev → R (List D) := fun ρ => (fa ρ).bind fun a => (fr ρ).bind fun r => .ok (a :: r)
def Bof : D → R Bool
  | .bl b => .ok b
  | _ => .bad
def tV (fa : Ev → R D) : Ev → R Bool := fun ρ => (fa ρ).bind Bof
def tAnd (f g : Ev → R Bool) : Ev → R Bool := fun ρ => (f ρ).bind fun b => if b = true then g ρ else .ok false
def tOr (f g : Ev → R Bool) : Ev → R Bool := fun ρ => (f ρ).bind fun b => if b = true then .ok true else g ρ
def tNot (f : Ev → R Bool) : Ev → R Bool := fun ρ => (f ρ).bind fun b => .ok (!b)
def eB (f : Ev → R Bool) : Ev → R D := fun ρ => (f ρ).bind fun b => .ok (.bl b)
def eAnd (fa fb : Ev → R D) : Ev → R D := fun ρ => (fa ρ).bind fun a => (Bof a).bind fun b => if b = true then fb ρ else .ok (.bl false)
def eOr (fa fb : Ev → R D) : Ev → R D := fun ρ => (fa ρ).bind fun a => (Bof a).bind fun b => if b = true then .ok (.bl true) else fb ρ
def eNot (fa : Ev → R D) : Ev → R D := fun ρ => (fa ρ).bind fun a => (Bof a).bind fun b => .ok (.bl (!b))
def eIf (t : Ev → R Bool) (fa fb : Ev → R D) : Ev → R D := fun ρ => (t ρ).bind fun b => if b = true then fa ρ else fb ρ
def eChain (g h : D → D → R D) (fa fb fc : Ev → R D) : Ev → R D := fun ρ => (fa ρ).bind fun a => (fb ρ).bind fun b => (g a b).bind fun z => (Bof z).bind fun k => if k = true then (fc ρ).bind fun c => h b c else .ok (.bl false)

section
variable {X : Cx} {ca : Cn} {W : WX} {a b c e : Expr} {es : List Expr} {fa fb fc : Ev → R D} {fl : Ev → R (List D)} {ft fu : Ev → R Bool} {pos : Pos}

theorem fe_v (i : Nat) {x : Str} {pos : Pos} (hN : X.N[i]? = some x := by rfl) (hv : Vis X.env.scope x := by first | exact Or.inl rfl | exact Or.inr (Or.inl rfl) | exact Or.inr (Or.inr rfl)) (hd : (x == ("__debug__" : Str)) = false := by decide)
    (hcd : (x == ("__classdict__" : Str)) = false := by decide) : FE X ca W (.Name x pos) (eV i) := by
  refine ⟨_, pe_var hN hv hd hcd, fun B G H σ ρ Q s b r h => ?_⟩
  unfold eV at h
  split at h
  · rename_i d e
    obtain ⟨v, h1, h2⟩ := r.val i d e
    exact ⟨v, h1, h.here s v h2⟩
  · exact h.elim
theorem fe_int {i : Int} {j : Nat} {pos : Pos} : FE X ca W (.Constant (.int i) j pos) (eC (.int i)) := ⟨_, pe_int, fun B G H σ ρ Q s b r h => h.here s _ rfl⟩
theorem fe_bl {i : Bool} {j : Nat} {pos : Pos} : FE X ca W (.Constant (.bool i) j pos) (eC (.bl i)) := ⟨_, pe_bl, fun B G H σ ρ Q s b r h => h.here s _ rfl⟩
theorem fe_non {j : Nat} {pos : Pos} : FE X ca W (.Constant .none j pos) (eC .non) := ⟨_, pe_non, fun B G H σ ρ Q s b r h => h.here s _ rfl⟩
theorem fe_str {x : Str} {j : Nat} {pos : Pos} : FE X ca W (.Constant (.str x) j pos) (eC (.str x)) := ⟨_, pe_str, fun B G H σ ρ Q s b r h => h.here s _ rfl⟩
/-- a module's name -/
theorem fe_glob {x : Str} {v : V} {u : Value} {d : D} {pos : Pos} (hg : Gl X x) (hm : X.mg x = some u) (r : RelV v u) (ha : ∀ G, At X.K ca G d v) (hd : (x == ("__debug__" : Str)) = false := by decide) : FE X ca W (.Name x pos) (eC d) :=
  ⟨_, pe_glob hg hm r hd, fun B G H σ ρ Q s b r h => h.here s _ (ha G)⟩

def V1 (X : Cx) (ca : Cn) (r : V → Hp → VK → Prop) (g : D → R D) : Prop := ∀ G H W1 x a Q, Same G H → At X.K ca G a x → Wish X.K ca (SV X.K ca Q) G H (g a) W1 → r x H Q
def V2 (X : Cx) (ca : Cn) (r : R2) (g : D → D → R D) : Prop := ∀ G H W1 x y a b Q, Same G H → At X.K ca G a x → At X.K ca G b y → Wish X.K ca (SV X.K ca Q) G H (g a b) W1 → r x y H Q
def VN (X : Cx) (ca : Cn) (r : List V → Hp → VK → Prop) (g : List D → R D) : Prop := ∀ G H W1 xs ds Q, Same G H → AtL X.K ca G ds xs → Wish X.K ca (SV X.K ca Q) G H (g ds) W1 → r xs H Q

theorem fe_op {op : Operator} {r : R2} {g : D → D → R D} (ho : OpR X (binaryOp op) r) (hv : V2 X ca r g) (ha : FE X ca W a fa) (hb : FE X ca W b fb) : FE X ca W (.BinOp a op b pos) (e2 g fa fb) := by
  obtain ⟨ta, pa, ka⟩ := ha.ex
  obtain ⟨tb, pb, kb⟩ := hb.ex
  refine ⟨_, pe_op ho pa pb, fun B G H σ ρ Q s b r h => ?_⟩
  refine ka B G H σ ρ _ s b r (Wish.bind h fun d G1 H1 _ x1 w1 v a1 => ?_)
  refine kb B G1 H1 σ ρ _ x1.gh (b.trans x1.hh) (r.ext x1) (Wish.bind w1 fun d2 G2 H2 _ x2 w2 v2 a2 => ?_)
  exact hv G2 H2 _ v v2 d d2 Q x2.gh (At.mono x2.gg a1) a2 w2
theorem fe_un {op : UnaryOp} {r : V → Hp → VK → Prop} {g : D → R D} (ho : UnR X (unaryOp op) r) (hv : V1 X ca r g) (ha : FE X ca W a fa) : FE X ca W (.UnaryOp op a pos) (e1 g fa) := by
  obtain ⟨ta, pa, ka⟩ := ha.ex
  refine ⟨_, pe_un ho pa, fun B G H σ ρ Q s b r h => ?_⟩
  exact ka B G H σ ρ _ s b r (Wish.bind h fun d G1 H1 _ x1 w1 v a1 => hv G1 H1 _ v d Q x1.gh a1 w1)
theorem fe_cmp {op : CmpOp} {r : R2} {g : D → D → R D} (ho : OpR X (compareOp op) r) (hv : V2 X ca r g) (hm : behindInMarks op b = false) (ha : FE X ca W a fa) (hb : FE X ca W b fb) : FE X ca W (.Compare a [op] [b] pos) (e2 g fa fb) := by
  obtain ⟨ta, pa, ka⟩ := ha.ex
  obtain ⟨tb, pb, kb⟩ := hb.ex
  refine ⟨_, pe_cmpR ho pa pb hm, fun B G H σ ρ Q s b r h => ?_⟩
  refine ka B G H σ ρ _ s b r (Wish.bind h fun d G1 H1 _ x1 w1 v a1 => ?_)
  refine kb B G1 H1 σ ρ _ x1.gh (b.trans x1.hh) (r.ext x1) (Wish.bind w1 fun d2 G2 H2 _ x2 w2 v2 a2 => ?_)
  exact hv G2 H2 _ v v2 d d2 Q x2.gh (At.mono x2.gg a1) a2 w2
theorem wish_tst {K : PySem.W.Frag} {G H : Hp} {r : R D} {Q : Bool → Hp → Prop} {W1 : XK} (h : Wish K ca (SB Q) G H (r.bind Bof) W1) : Wish K ca (SV K ca fun x H' => ∃ k, x = .bl k ∧ Q k H') G H r W1 := by
  refine Wish.bind h fun d G1 H1 _ x1 w1 v a1 => ?_
  cases d with
  | bl k => exact ⟨k, a1, w1.here x1.gh⟩
  | _ => exact w1.elim
theorem ft_cmp {op : CmpOp} {r : R2} {g : D → D → R D} (ho : OpR X (compareOp op) r) (hv : V2 X ca r g) (hm : behindInMarks op b = false) (ha : FE X ca W a fa) (hb : FE X ca W b fb) : FT X ca W (.Compare a [op] [b] pos) (tV (e2 g fa fb)) := by
  obtain ⟨ta, pa, ka⟩ := ha.ex
  obtain ⟨tb, pb, kb⟩ := hb.ex
  refine ⟨_, pt_cmpR ho pa pb hm, fun B G H σ ρ Q s b r h => ?_⟩
  refine ka B G H σ ρ _ s b r (Wish.bind (wish_tst h) fun d G1 H1 _ x1 w1 v a1 => ?_)
  refine kb B G1 H1 σ ρ _ x1.gh (b.trans x1.hh) (r.ext x1) (Wish.bind w1 fun d2 G2 H2 _ x2 w2 v2 a2 => ?_)
  exact hv G2 H2 _ v v2 d d2 _ x2.gh (At.mono x2.gg a1) a2 w2
theorem ft_val (h : FE X ca W e fa) (he : ∀ whole, isTrue e X.env whole = (do let v ← whole; standAt e.pos; holding [v] (truthy v)) := by intro _; rfl) : FT X ca W e (tV fa) := by
  obtain ⟨ta, pa, ka⟩ := h.ex
  exact ⟨_, pt_val pa he, fun B G H σ ρ Q s b r h => ka B G H σ ρ _ s b r (wish_tst h)⟩
theorem ft_w (h : FW X ca W e ft) : FT X ca W e ft := let ⟨t, p, k⟩ := h.ex; ⟨t, p.pt, k⟩
theorem fw_and1 (h : FT X ca W a ft) : FW X ca W (.BoolOp .And [a] pos) ft := let ⟨t, p, k⟩ := h.ex; ⟨t, pw_and1 p, k⟩
theorem fw_or1 (h : FT X ca W a ft) : FW X ca W (.BoolOp .Or [a] pos) ft := let ⟨t, p, k⟩ := h.ex; ⟨t, pw_or1 p, k⟩
theorem fw_and {rest : List Expr} (ha : FT X ca W a ft) (hb : FW X ca W (.BoolOp .And (b :: rest) pos) fu) : FW X ca W (.BoolOp .And (a :: b :: rest) pos) (tAnd ft fu) := by
  obtain ⟨t, p, k⟩ := ha.ex
  obtain ⟨u, q, l⟩ := hb.ex
  refine ⟨_, pw_and p q, fun B G H σ ρ Q s b r h => ?_⟩
  refine k B G H σ ρ _ s b r (Wish.bind h fun d G1 H1 _ x1 w1 => ?_)
  cases d with
  | true => exact l B G1 H1 σ ρ _ x1.gh (b.trans x1.hh) (r.ext x1) w1
  | false => exact w1.here x1.gh
theorem fw_or {rest : List Expr} (ha : FT X ca W a ft) (hb : FW X ca W (.BoolOp .Or (b :: rest) pos) fu) : FW X ca W (.BoolOp .Or (a :: b :: rest) pos) (tOr ft fu) := by
  obtain ⟨t, p, k⟩ := ha.ex
  obtain ⟨u, q, l⟩ := hb.ex
  refine ⟨_, pw_or p q, fun B G H σ ρ Q s b r h => ?_⟩
  refine k B G H σ ρ _ s b r (Wish.bind h fun d G1 H1 _ x1 w1 => ?_)
  cases d with
  | false => exact l B G1 H1 σ ρ _ x1.gh (b.trans x1.hh) (r.ext x1) w1
  | true => exact w1.here x1.gh
theorem ft_not (ha : FT X ca W a ft) : FT X ca W (.UnaryOp .Not a pos) (tNot ft) := by
  obtain ⟨t, p, k⟩ := ha.ex
  refine ⟨_, pt_not p, fun B G H σ ρ Q s b r h => ?_⟩
  exact k B G H σ ρ _ s b r (Wish.bind h fun d G1 H1 _ x1 w1 => w1.here x1.gh)
theorem fe_one {op : BoolOp} (ha : FE X ca W a fa) : FE X ca W (.BoolOp op [a] pos) fa := let ⟨t, p, k⟩ := ha.ex; ⟨t, pe_one p, k⟩
theorem fe_and {rest : List Expr} (ha : FE X ca W a fa) (hb : FE X ca W (.BoolOp .And (b :: rest) pos) fb) : FE X ca W (.BoolOp .And (a :: b :: rest) pos) (eAnd fa fb) := by
  obtain ⟨t, p, k⟩ := ha.ex
  obtain ⟨u, q, l⟩ := hb.ex
  refine ⟨_, pe_and p q, fun B G H σ ρ Q s b r h => ?_⟩
  refine k B G H σ ρ _ s b r (Wish.bind h fun d G1 H1 _ x1 w1 v a1 => ?_)
  cases d with
  | bl z =>
    refine ⟨z, a1, ?_⟩
    cases z with
    | true => exact l B G1 H1 σ ρ _ x1.gh (b.trans x1.hh) (r.ext x1) w1
    | false => exact w1.here x1.gh _ rfl
  | _ => exact w1.elim
theorem fe_or {rest : List Expr} (ha : FE X ca W a fa) (hb : FE X ca W (.BoolOp .Or (b :: rest) pos) fb) : FE X ca W (.BoolOp .Or (a :: b :: rest) pos) (eOr fa fb) := by
  obtain ⟨t, p, k⟩ := ha.ex
  obtain ⟨u, q, l⟩ := hb.ex
  refine ⟨_, pe_or p q, fun B G H σ ρ Q s b r h => ?_⟩
  refine k B G H σ ρ _ s b r (Wish.bind h fun d G1 H1 _ x1 w1 v a1 => ?_)
  cases d with
  | bl z =>
    refine ⟨z, a1, ?_⟩
    cases z with
    | false => exact l B G1 H1 σ ρ _ x1.gh (b.trans x1.hh) (r.ext x1) w1
    | true => exact w1.here x1.gh _ rfl
  | _ => exact w1.elim
theorem fe_not (ha : FE X ca W a fa) : FE X ca W (.UnaryOp .Not a pos) (eNot fa) := by
  obtain ⟨t, p, k⟩ := ha.ex
  refine ⟨_, pe_not p, fun B G H σ ρ Q s b r h => ?_⟩
  refine k B G H σ ρ _ s b r (Wish.bind h fun d G1 H1 _ x1 w1 v a1 => ?_)
  cases d with
  | bl z => exact ⟨z, a1, w1.here x1.gh _ rfl⟩
  | _ => exact w1.elim
theorem fe_if (hc : FT X ca W c ft) (ha : FE X ca W a fa) (hb : FE X ca W b fb) : FE X ca W (.IfExp c a b pos) (eIf ft fa fb) := by
  obtain ⟨t, p, k⟩ := hc.ex
  obtain ⟨ta, pa, ka⟩ := ha.ex
  obtain ⟨tb, pb, kb⟩ := hb.ex
  refine ⟨_, pe_ifExp p pa pb, fun B G H σ ρ Q s b r h => ?_⟩
  refine k B G H σ ρ _ s b r (Wish.bind h fun d G1 H1 _ x1 w1 => ?_)
  cases d with
  | true => exact ka B G1 H1 σ ρ _ x1.gh (b.trans x1.hh) (r.ext x1) w1
  | false => exact kb B G1 H1 σ ρ _ x1.gh (b.trans x1.hh) (r.ext x1) w1
theorem chain_core {r r' : R2} {g h' : D → D → R D} (hv : V2 X ca r g) (hv' : V2 X ca r' h') {ta tb tc : TE}
    (ka : ∀ B G H σ ρ Q, Same G H → Same B H → Rel X.K ca B G H σ ρ → Wish X.K ca (SV X.K ca Q) G H (fa ρ) (WE W σ) → ta σ H Q)
    (kb : ∀ B G H σ ρ Q, Same G H → Same B H → Rel X.K ca B G H σ ρ → Wish X.K ca (SV X.K ca Q) G H (fb ρ) (WE W σ) → tb σ H Q)
    (kc : ∀ B G H σ ρ Q, Same G H → Same B H → Rel X.K ca B G H σ ρ → Wish X.K ca (SV X.K ca Q) G H (fc ρ) (WE W σ) → tc σ H Q)
    (B G H σ ρ Q) (s : Same G H) (b : Same B H) (rl : Rel X.K ca B G H σ ρ) (h : Wish X.K ca (SV X.K ca Q) G H (eChain g h' fa fb fc ρ) (WE W σ)) : tChain r r' ta tb tc σ H Q := by
  refine ka B G H σ ρ _ s b rl (Wish.bind h fun d G1 H1 _ x1 w1 v a1 => ?_)
  refine kb B G1 H1 σ ρ _ x1.gh (b.trans x1.hh) (rl.ext x1) (Wish.bind w1 fun d2 G2 H2 _ x2 w2 v2 a2 => ?_)
  refine hv G2 H2 (WE W σ) v v2 d d2 _ x2.gh (At.mono x2.gg a1) a2 (Wish.bind w2 fun d3 G3 H3 _ x3 w3 v3 a3 => ?_)
  cases d3 with
  | bl z =>
    refine ⟨z, a3, ?_⟩
    cases z with
    | true =>
      refine kc B G3 H3 σ ρ _ x3.gh (b.trans (x1.hh.trans (x2.hh.trans x3.hh))) (((rl.ext x1).ext x2).ext x3) (Wish.bind w3 fun d4 G4 H4 _ x4 w4 v4 a4 => ?_)
      exact hv' G4 H4 _ v2 v4 d2 d4 Q x4.gh (At.mono (x3.gg.trans x4.gg) a2) a4 w4
    | false => exact w3.here x3.gh _ rfl
  | _ => exact w3.elim
theorem fe_chain {op op' : CmpOp} {r r' : R2} {g h' : D → D → R D} (ho : OpR X (compareOp op) r) (hv : V2 X ca r g) (ho' : OpR X (compareOp op') r') (hv' : V2 X ca r' h') (ha : FE X ca W a fa) (hb : FE X ca W b fb) (hc : FE X ca W c fc) (hm : lastMarks [op, op'] [b, c] = false := by with_unfolding_all rfl) :
    FE X ca W (.Compare a [op, op'] [b, c] pos) (eChain g h' fa fb fc) := by
  obtain ⟨ta, pa, ka⟩ := ha.ex
  obtain ⟨tb, pb, kb⟩ := hb.ex
  obtain ⟨tc, pc, kc⟩ := hc.ex
  exact ⟨_, pe_chain ho ho' pa pb pc hm, chain_core hv hv' ka kb kc⟩
theorem ft_chain {op op' : CmpOp} {r r' : R2} {g h' : D → D → R D} (ho : OpR X (compareOp op) r) (hv : V2 X ca r g) (ho' : OpR X (compareOp op') r') (hv' : V2 X ca r' h') (ha : FE X ca W a fa) (hb : FE X ca W b fb) (hc : FE X ca W c fc) (hm : lastMarks [op, op'] [b, c] = false := by with_unfolding_all rfl) :
    FT X ca W (.Compare a [op, op'] [b, c] pos) (tV (eChain g h' fa fb fc)) := by
  obtain ⟨ta, pa, ka⟩ := ha.ex
  obtain ⟨tb, pb, kb⟩ := hb.ex
  obtain ⟨tc, pc, kc⟩ := hc.ex
  exact ⟨_, pt_chain ho ho' pa pb pc hm, fun B G H σ ρ Q s b r h => chain_core hv hv' ka kb kc B G H σ ρ _ s b r (wish_tst h)⟩
/-! arguments, displays -/
theorem fa_nil : FA X ca W [] aN := ⟨_, pa_nil, fun B G H σ ρ Q s b r h => h.here s _ rfl⟩
theorem fa_cons (ha : FE X ca W e fa) (hr : FA X ca W es fl) (hs : starEach (e :: es) X.env = (false, eval e X.env) :: starEach es X.env := by rfl) : FA X ca W (e :: es) (aC fa fl) := by
  obtain ⟨ta, pa, ka⟩ := ha.ex
  obtain ⟨tb, pb, kb⟩ := hr.ex
  refine ⟨_, pa_cons pa pb hs, fun B G H σ ρ Q s b r h => ?_⟩
  refine ka B G H σ ρ _ s b r (Wish.bind h fun d G1 H1 _ x1 w1 v a1 => ?_)
  refine kb B G1 H1 σ ρ _ x1.gh (b.trans x1.hh) (r.ext x1) (Wish.bind w1 fun d2 G2 H2 _ x2 w2 v2 a2 => ?_)
  exact w2.here x2.gh _ ⟨v, v2, rfl, At.mono x2.gg a1, a2⟩
theorem fk_nil : FK X ca W [] aN := ⟨_, pk_nil, fun B G H σ ρ Q s b r h => h.here s _ rfl⟩
theorem fk_cons {nm : Option Str} {kpos : Pos} {kws : List Keyword} (ha : FE X ca W e fa) (hr : FK X ca W kws fl) : FK X ca W (⟨nm, e, kpos⟩ :: kws) (aC fa fl) := by
  obtain ⟨ta, pa, ka⟩ := ha.ex
  obtain ⟨tb, pb, kb⟩ := hr.ex
  refine ⟨_, pk_cons pa pb, fun B G H σ ρ Q s b r h => ?_⟩
  refine ka B G H σ ρ _ s b r (Wish.bind h fun d G1 H1 _ x1 w1 v a1 => ?_)
  refine kb B G1 H1 σ ρ _ x1.gh (b.trans x1.hh) (r.ext x1) (Wish.bind w1 fun d2 G2 H2 _ x2 w2 v2 a2 => ?_)
  exact w2.here x2.gh _ ⟨v, v2, rfl, At.mono x2.gg a1, a2⟩
def gLst (ds : List D) : R D := if ds.length ≤ sizeLine then .ok (.lst ds) else .bad
def gTup (ds : List D) : R D := if ds.length ≤ sizeLine then .ok (.tup ds) else .bad
theorem new_lst {G H : Hp} {p : Addr} {ds : List D} {vs : List V} {Q : VK} {W1 : XK} (s : Same G H) (h : Wish X.K ca (SV X.K ca Q) G H (.ok (.lst ds)) W1) (a : AtL X.K ca G ds vs) (n : H p = none) : Q (.ref p) (upd H p (.lst vs)) :=
  h _ _ (Ext.new s n) (.ref p) ⟨p, vs, rfl, upd_same, AtL.mono (same_upd (same_none s n)) a⟩
theorem new_tup {G H : Hp} {p : Addr} {ds : List D} {vs : List V} {Q : VK} {W1 : XK} (s : Same G H) (h : Wish X.K ca (SV X.K ca Q) G H (.ok (.tup ds)) W1) (a : AtL X.K ca G ds vs) (n : H p = none) : Q (.ref p) (upd H p (.tup vs)) :=
  h _ _ (Ext.new s n) (.ref p) ⟨p, vs, rfl, upd_same, AtL.mono (same_upd (same_none s n)) a⟩
theorem fe_lst (h : FA X ca W es fl) : FE X ca W (.List es pos) (eA gLst fl) := by
  obtain ⟨t, p, k⟩ := h.ex
  refine ⟨_, pe_lst p, fun B G H σ ρ Q s b r h => ?_⟩
  refine k B G H σ ρ _ s b r (Wish.bind h fun ds G1 H1 _ x1 w1 vs a1 => ?_)
  unfold gLst at w1
  split at w1
  · rename_i z
    exact ⟨by rw [← a1.length]; exact z, fun p n => new_lst x1.gh w1 a1 n⟩
  · exact w1.elim
theorem fe_tup {x1 : Nat} (h : FA X ca W es fl) : FE X ca W (.Tuple es x1 pos) (eA gTup fl) := by
  obtain ⟨t, p, k⟩ := h.ex
  refine ⟨_, pe_tup p, fun B G H σ ρ Q s b r h => ?_⟩
  refine k B G H σ ρ _ s b r (Wish.bind h fun ds G1 H1 _ x1 w1 vs a1 => ?_)
  unfold gTup at w1
  split at w1
  · rename_i z
    exact ⟨by rw [← a1.length]; exact z, fun p n => new_tup x1.gh w1 a1 n⟩
  · exact w1.elim
end
end Tk

namespace Tk
open PySem PySem.Spec L2
/-! ### the words of the mirror: statements -/
def sN : Ev → SO := fun ρ => .nx ρ
def sSq (g k : Ev → SO) : Ev → SO := fun ρ => match g ρ with
  | .nx ρ' => k ρ'
  | r => r
def sBad : Ev → SO := fun _ => .bad
def sRet (f : Ev → R D) : Ev → SO := fun ρ => SO.from ρ (f ρ) .rt
def sRetN : Ev → SO := fun _ => .rt .non
def sDrop (f : Ev → R D) : Ev → SO := fun ρ => SO.from ρ (f ρ) fun _ => .nx ρ
def sIf (t : Ev → R Bool) (g k : Ev → SO) : Ev → SO := fun ρ => SO.from ρ (t ρ) fun b => if b = true then g ρ else k ρ
def sSet (i : Nat) (f : Ev → R D) : Ev → SO := fun ρ => SO.from ρ (f ρ) fun d => .nx (ρ.set i (.v d))
def sBk : Ev → SO := fun ρ => .bk ρ
def sCt : Ev → SO := fun ρ => .ct ρ
/-- targets: none where the value has not that shape -/
abbrev Tg := D → Ev → Option Ev
abbrev Tgs := List D → Ev → Option Ev
def gN (i : Nat) : Tg := fun d ρ => some (ρ.set i (.v d))
def gsN : Tgs
  | [], ρ => some ρ
  | _ :: _, _ => none
def gsC (g : Tg) (r : Tgs) : Tgs
  | [], _ => none
  | d :: ds, ρ => (g d ρ).bind fun ρ' => r ds ρ'
def gT (n : Nat) (g : Tgs) : Tg
  | .tup ds, ρ => if ds.length = n then g ds ρ else none
  | _, _ => none
def SO.ofO (o : Option Ev) (k : Ev → SO) : SO := match o with
  | some ρ => k ρ
  | none => .bad
@[simp] theorem ofO_some (ρ : Ev) (k : Ev → SO) : SO.ofO (some ρ) k = k ρ := (rfl)
def sAsg (f : Ev → R D) (g : Tg) : Ev → SO := fun ρ => SO.from ρ (f ρ) fun d => SO.ofO (g d ρ) .nx
def loop (g : Tg) (body : Ev → SO) : List D → Ev → SO
  | [], ρ => .nx ρ
  | d :: ds, ρ => SO.ofO (g d ρ) fun ρ1 => match body ρ1 with
    | .nx ρ2 => loop g body ds ρ2
    | .ct ρ2 => loop g body ds ρ2
    | .bk ρ2 => .nx ρ2
    | r => r
def sFor (fi : Ev → R (List D)) (g : Tg) (body : Ev → SO) : Ev → SO := fun ρ => SO.from ρ (fi ρ) fun ds => loop g body ds ρ
def wloop (t : Ev → R Bool) (body : Ev → SO) : Nat → Ev → SO
  | 0, ρ => .bad
  | n + 1, ρ => SO.from ρ (t ρ) fun b => if b = true then (match body ρ with
    | .nx ρ2 => wloop t body n ρ2
    | .ct ρ2 => wloop t body n ρ2
    | .bk ρ2 => .nx ρ2
    | r => r) else .nx ρ

/-- zs: the slots that the target may store to -/
structure FG (X : Cx) (ca : Cn) (zs : List Nat) (tg : Expr) (h : Tg) : Prop where
  ex : ∃ t, PG X tg t ∧ ∀ B G H σ ρ d v (Q : L2.St → Hp → Prop), Same G H → Same B H → Rel X.K ca B G H σ ρ → At X.K ca G d v → (∃ ρ', h d ρ = some ρ' ∧ ∀ σ', Rel X.K ca B G H σ' ρ' → wipe σ' zs = wipe σ zs → Q σ' H) → t v σ H Q
structure FGs (X : Cx) (ca : Cn) (zs : List Nat) (tgs : List Expr) (h : Tgs) : Prop where
  ex : ∃ t, PGs X tgs t ∧ ∀ B G H σ ρ ds vs (Q : L2.St → Hp → Prop), Same G H → Same B H → Rel X.K ca B G H σ ρ → AtL X.K ca G ds vs → (∃ ρ', h ds ρ = some ρ' ∧ ∀ σ', Rel X.K ca B G H σ' ρ' → wipe σ' zs = wipe σ zs → Q σ' H) → t vs σ H Q
theorem wipe_set {σ : L2.St} {i : Nat} {x : Option V} : ∀ {zs : List Nat}, i ∈ zs → wipe (σ.set i x) zs = wipe σ zs
  | [], h => by cases h
  | z :: zs, h => by
    unfold wipe
    by_cases e : i ∈ zs
    · rw [wipe_set e]
    · rcases List.mem_cons.mp h with rfl | h
      · have : ∀ zs : List Nat, i ∉ zs → wipe (σ.set i x) zs = (wipe σ zs).set i x := by
          intro zs
          induction zs with
          | nil => intro _; rfl
          | cons y ys ih =>
            intro hn
            rw [List.mem_cons, not_or] at hn
            unfold wipe
            rw [ih hn.2, List.set_comm _ _ hn.1]
        rw [this zs e, List.set_set]
      · exact absurd h e
/-- the items ds come one after another, whatever grows meanwhile -/
def JOk (K : PySem.W.Frag) (ca : Cn) (G0 : Hp) (J : It) (ds : List D) : Prop := ∀ G H, Same G0 G → Same G H → ∀ i,
  (∀ d, ds[i]? = some d → J.go i H ∧ ∀ x H', J.yld i H x H' → ∃ G', Ext G H G' H' ∧ At K ca G' d x) ∧ (ds.length = i → J.stop i H)
structure FI (X : Cx) (ca : Cn) (W : WX) (tg iter : Expr) (fi : Ev → R (List D)) : Prop where
  ex : ∃ t, PI X tg iter t ∧ ∀ B G H σ ρ (Q : It → Hp → Prop), Same G H → Same B H → Rel X.K ca B G H σ ρ → Wish X.K ca (fun G' ds H' => ∀ J, JOk X.K ca G' J ds → Q J H') G H (fi ρ) (WE W σ) → t σ H Q

section
variable {X : Cx} {ca : Cn} {W : WX} {e c : Expr} {st : Stmt} {rest body orelse : List Stmt} {fa : Ev → R D} {ft : Ev → R Bool} {g k : Ev → SO} {pos : Pos} {zs : List Nat}
theorem fss_nil : FSs X ca W [] sN := ⟨_, pss_nil, fun B G H σ ρ D s b r h => h σ G H (.refl s b) r⟩
theorem fss_cons (h1 : FS X ca W st g) (h2 : FSs X ca W rest k) : FSs X ca W (st :: rest) (sSq g k) := by
  obtain ⟨t, p, kt⟩ := h1.ex
  obtain ⟨u, q, ku⟩ := h2.ex
  refine ⟨_, pss_cons p q, fun B G H σ ρ D s b r h => ?_⟩
  refine kt B G H σ ρ _ s b r ?_
  unfold sSq at h
  cases z : g ρ with
  | nx ρ1 =>
    rw [z] at h
    exact fun σ' G' H' a r' => ku B G' H' σ' ρ1 D a.gh a.bh r' (WishS.mono (r := k ρ1) h a)
  | _ => rw [z] at h; exact h
theorem fss_one (h1 : FS X ca W st g) : FSs X ca W [st] g := let ⟨t, p, kt⟩ := h1.ex; ⟨t, pss_one p, kt⟩
theorem fs_never : FS X ca W st sBad := ⟨_, ps_never, fun B G H σ ρ D s b r h => h.elim⟩
theorem fss_never : FSs X ca W rest sBad := ⟨_, pss_never, fun B G H σ ρ D s b r h => h.elim⟩
theorem fs_pass : FS X ca W (.Pass pos) sN := ⟨_, ps_pass, fun B G H σ ρ D s b r h => h σ G H (.refl s b) r⟩
theorem fs_break : FS X ca W (.Break pos) sBk := ⟨_, ps_break, fun B G H σ ρ D s b r h => h σ G H (.refl s b) r⟩
theorem fs_continue : FS X ca W (.Continue pos) sCt := ⟨_, ps_continue, fun B G H σ ρ D s b r h => h σ G H (.refl s b) r⟩
theorem fs_ret (h : FE X ca W e fa) : FS X ca W (.Return (some e) pos) (sRet fa) := by
  obtain ⟨t, p, kt⟩ := h.ex
  refine ⟨_, ps_ret p, fun B G H σ ρ D s b r h => kt B G H σ ρ _ s b r ?_⟩
  exact WishS.from h b r fun a G1 H1 _ x w r1 b1 v av => w v G1 H1 (.refl x.gh b1) av
theorem fs_retN : FS X ca W (.Return none pos) sRetN := ⟨_, ps_retN, fun B G H σ ρ D s b r h => h _ G H (.refl s b) rfl⟩
theorem fs_expr (h : FE X ca W e fa) (hs : swapsWith e none pos.line X.env = pure false := by rfl) : FS X ca W (.Expr e pos) (sDrop fa) := by
  obtain ⟨t, p, kt⟩ := h.ex
  refine ⟨_, ps_expr p hs, fun B G H σ ρ D s b r h => kt B G H σ ρ _ s b r ?_⟩
  exact WishS.from h b r fun a G1 H1 _ x w r1 b1 v av => w σ G1 H1 (.refl x.gh b1) r1
theorem fs_if (hc : FT X ca W c ft) (ha : FSs X ca W body g) (hb : FSs X ca W orelse k) : FS X ca W (.If c body orelse pos) (sIf ft g k) := by
  obtain ⟨t, p, kt⟩ := hc.ex
  obtain ⟨ta, pa, ka⟩ := ha.ex
  obtain ⟨tb, pb, kb⟩ := hb.ex
  refine ⟨_, ps_if p pa pb, fun B G H σ ρ D s b r h => kt B G H σ ρ _ s b r ?_⟩
  refine WishS.from h b r fun a G1 H1 _ x w r1 b1 => ?_
  cases a with
  | true => exact ka B G1 H1 σ ρ D x.gh b1 r1 w
  | false => exact kb B G1 H1 σ ρ D x.gh b1 r1 w
theorem fs_set {i : Nat} {y : Str} {pos' : Pos} (hN : X.N.Nodup) (hi : X.N[i]? = some y) (h : FE X ca W e fa) (hx : Loc X.env.scope y := by first | exact .inl rfl | exact .inr rfl) (hs : swapsWith e (some (.Name y pos')) pos.line X.env = pure false := by rfl)
    (hf : X.fn y = true ∨ X.env.scope.names.lookup y = some .local := by first | exact .inl rfl | exact .inr rfl | assumption) : FS X ca W (.Assign [.Name y pos'] e pos) (sSet i fa) := by
  obtain ⟨t, p, kt⟩ := h.ex
  refine ⟨_, ps_set hN hi hx p hs hf, fun B G H σ ρ D s b r h => kt B G H σ ρ _ s b r ?_⟩
  exact WishS.from h b r fun a G1 H1 _ x w r1 b1 v av => w _ G1 H1 (.refl x.gh b1) (r1.set i av)
/-! targets -/
theorem fg_n {i : Nat} {y : Str} (hN : X.N.Nodup) (hi : X.N[i]? = some y) (hz : i ∈ zs := by decide) (hx : Loc X.env.scope y := by first | exact .inl rfl | exact .inr rfl) (hf : X.fn y = true ∨ X.env.scope.names.lookup y = some .local := by first | exact .inl rfl | exact .inr rfl | assumption) : FG X ca zs (.Name y pos) (gN i) :=
  ⟨_, pg_name hN hi hx hf, fun B G H σ ρ d v Q s b r a ⟨ρ', e, q⟩ => by cases e; exact q _ (r.set i a) (wipe_set hz)⟩
theorem fgs_n : FGs X ca zs [] gsN := ⟨_, pgs_nil, fun B G H σ ρ ds vs Q s b r a ⟨ρ', e, q⟩ => by
  cases ds with
  | nil => cases e; exact ⟨a, q _ r rfl⟩
  | cons _ _ => cases e⟩
theorem fgs_c {es : List Expr} {h1 : Tg} {h2 : Tgs} (a : FG X ca zs e h1) (b : FGs X ca zs es h2) (hs : (assignEach (e :: es) X.env).map (·.2) = assign e X.env :: (assignEach es X.env).map (·.2) := by rfl) : FGs X ca zs (e :: es) (gsC h1 h2) := by
  obtain ⟨t, p, kt⟩ := a.ex
  obtain ⟨u, q, ku⟩ := b.ex
  refine ⟨_, pgs_cons p q hs, fun B G H σ ρ ds vs Q s b r a ⟨ρ', e, q⟩ => ?_⟩
  cases ds with
  | nil => cases e
  | cons d ds =>
    obtain ⟨v, vr, rfl, a1, a2⟩ := a
    obtain ⟨ρ1, z, e⟩ := Option.bind_eq_some_iff.mp (show (h1 d ρ).bind (fun ρ' => h2 ds ρ') = some ρ' from e)
    exact ⟨v, vr, rfl, kt B G H σ ρ d v _ s b r a1 ⟨ρ1, z, fun σ' r' w' => ku B G H σ' ρ1 ds vr Q s b r' a2 ⟨ρ', e, fun σ2 r2 w2 => q σ2 r2 (w2.trans w')⟩⟩⟩
theorem fg_t {es : List Expr} {kk n : Nat} {h1 : Tgs} (hc : X.calm = true) (a : FGs X ca zs es h1) (hn : (assignEach es X.env).length = n := by rfl) (hst : (assignEach es X.env).findIdx? (·.1) = none := by rfl) : FG X ca zs (.Tuple es kk pos) (gT n h1) := by
  obtain ⟨t, p, kt⟩ := a.ex
  refine ⟨_, pg_tup hc p hn hst, fun B G H σ ρ d v Q s b r a z => ?_⟩
  obtain ⟨ρ', e, q⟩ := z
  cases d with
  | tup ds =>
    have e : (if ds.length = n then h1 ds ρ else none) = some ρ' := e
    split at e
    · rename_i hl
      obtain ⟨p', vs, rfl, a1, a2⟩ := a
      exact ⟨p', vs, rfl, tq s a1, by rw [← a2.length]; exact hl, kt B G H σ ρ ds vs Q s b r a2 ⟨ρ', e, q⟩⟩
    · cases e
  | _ => cases e
theorem fs_asg {tg : Expr} {h1 : Tg} (h : FE X ca W e fa) (a : FG X ca zs tg h1) (hs : swapsWithSole [tg] e pos.line X.env = pure false := by rfl) (hw : swappedStores [tg] e X.env = pure none := by rfl)
    (h1' : (assignEach [tg] X.env).map (·.2) = [assign tg X.env] := by rfl) : FS X ca W (.Assign [tg] e pos) (sAsg fa h1) := by
  obtain ⟨t, p, kt⟩ := h.ex
  obtain ⟨u, q, ku⟩ := a.ex
  refine ⟨_, ps_asg p q hs hw h1', fun B G H σ ρ D s b r h => kt B G H σ ρ _ s b r ?_⟩
  refine WishS.from h b r fun d G1 H1 _ x w r1 b1 v av => ?_
  cases z : h1 d ρ with
  | some ρ1 => rw [z] at w; exact ku B G1 H1 σ ρ d v _ x.gh b1 r1 av ⟨ρ1, z, fun σ' r' _ => w σ' G1 H1 (.refl x.gh b1) r'⟩
  | none => rw [z] at w; exact w.elim
/-- a turn's end -/
theorem turn_end {B G : Hp} {r : SO} {D' : Ends} {K : PySem.W.Frag} (kk : Ev → SO) (N : L2.St → Hp → Prop) (h : WishS K ca B G (match r with
    | .nx ρ2 => kk ρ2
    | .ct ρ2 => kk ρ2
    | .bk ρ2 => .nx ρ2
    | r => r) D' W) (hn : ∀ ρ2 σ' G' H', WishS K ca B G' (kk ρ2) D' W → Adv B G G' H' → Rel K ca B G' H' σ' ρ2 → N σ' H') : WishS K ca B G r { D' with nx := N, ct := N, bk := D'.nx } W := by
  cases r with
  | nx ρ2 => exact fun σ' G' H' a r' => hn ρ2 σ' G' H' (WishS.mono (r := kk ρ2) h a) a r'
  | ct ρ2 => exact fun σ' G' H' a r' => hn ρ2 σ' G' H' (WishS.mono (r := kk ρ2) h a) a r'
  | bk ρ2 => exact h
  | rt d => exact h
  | ro s => exact h
  | ex x ρ => exact h
  | bad => exact h
theorem fs_for {tg iter : Expr} {fi : Ev → R (List D)} {h1 : Tg} (hp : PassesOwn (model X.prog X.w) X.A X.env X.xe) (hc : X.calm = true) (hi : FI X ca W tg iter fi) (hg : FG X ca zs tg h1) (hb : FSs X ca W body g)
    (hs : ∀ x, foldedSetIterable iter X.env x = pure x := by intro _; rfl) : FS X ca W (.For tg iter body [] pos) (sFor fi h1 g) := by
  obtain ⟨ti, pi, ki⟩ := hi.ex
  obtain ⟨tg', pg, kg⟩ := hg.ex
  obtain ⟨tb, pb, kb⟩ := hb.ex
  refine ⟨_, ps_for hp hc pi pg pb hs, fun B G H σ ρ D s b r h => ki B G H σ ρ _ s b r ?_⟩
  refine WishS.from h b r fun ds G1 H1 _ x w r1 b1 J hj => ?_
  refine ⟨fun i m σ2 H2 => m = ds.length - i ∧ i ≤ ds.length ∧ ∃ G2 ρ2, Adv B G1 G2 H2 ∧ Rel X.K ca B G2 H2 σ2 ρ2 ∧ WishS X.K ca B G2 (loop h1 g (ds.drop i) ρ2) D W, ⟨_, rfl, Nat.zero_le _, G1, ρ, .refl x.gh b1, r1, by rw [List.drop_zero]; exact w⟩, ?_⟩
  rintro i m σ2 H2 ⟨rfl, hi, G2, ρ2, a2, r2, w2⟩
  obtain ⟨j1, j2⟩ := hj G2 H2 a2.gg a2.gh i
  by_cases hlt : i < ds.length
  · rw [List.drop_eq_getElem_cons hlt] at w2
    obtain ⟨go, yl⟩ := j1 ds[i] (by simp [hlt])
    refine .inr ⟨go, fun σ3 H3 => ∃ G3 ρ3, Adv B G1 G3 H3 ∧ Rel X.K ca B G3 H3 σ3 ρ3 ∧ WishS X.K ca B G3 (loop h1 g (ds.drop (i + 1)) ρ3) D W, fun σ3 H3 q => ⟨ds.length - (i + 1), by omega, rfl, hlt, q⟩, fun y H3 yy => ?_⟩
    obtain ⟨G3, x3, a3⟩ := yl y H3 yy
    have r3 := r2.ext x3
    have b3 := a2.bh.trans x3.hh
    have w3 := WishS.mono w2 (x3.adv a2.bh)
    show tg' y σ2 H3 _
    unfold loop at w3
    cases z : h1 ds[i] ρ2 with
    | none => rw [z] at w3; exact w3.elim
    | some ρ4 =>
      rw [z] at w3
      refine kg B G3 H3 σ2 ρ2 ds[i] y _ x3.gh b3 r3 a3 ⟨ρ4, z, fun σ4 r4 _ => ?_⟩
      refine kb B G3 H3 σ4 ρ4 _ x3.gh b3 r4 (turn_end (fun ρ5 => loop h1 g (ds.drop (i + 1)) ρ5) _ w3 fun ρ5 σ5 G5 H5 w5 a5 r5 => ?_)
      exact ⟨G5, ρ5, a2.trans ((x3.adv a2.bh).trans a5), r5, w5⟩
  · have e : i = ds.length := by omega
    subst e
    rw [List.drop_length] at w2
    exact .inl ⟨j2 rfl, w2 σ2 G2 H2 (.refl a2.gh a2.bh) r2⟩
theorem fs_while {n : Nat} (hp : PassesOwn (model X.prog X.w) X.A X.env X.xe) (hc : FT X ca W c ft) (hb : FSs X ca W body g) : FS X ca W (.While c body [] pos) (wloop ft g n) := by
  obtain ⟨tc, pc, kc⟩ := hc.ex
  obtain ⟨tb, pb, kb⟩ := hb.ex
  refine ⟨_, ps_while hp pc pb, fun B G H σ ρ D s b r h => ?_⟩
  refine ⟨fun m σ2 H2 => ∃ G2 ρ2, Same G2 H2 ∧ Same B H2 ∧ Rel X.K ca B G2 H2 σ2 ρ2 ∧ WishS X.K ca B G2 (wloop ft g m ρ2) D W, ⟨n, G, ρ, s, b, r, h⟩, ?_⟩
  rintro m σ2 H2 ⟨G2, ρ2, s2, b2, r2, w2⟩
  cases m with
  | zero => exact w2.elim
  | succ m =>
    unfold wloop at w2
    refine kc B G2 H2 σ2 ρ2 _ s2 b2 r2 (WishS.from w2 b2 r2 fun a G3 H3 _ x3 w3 r3 b3 => ?_)
    show if a = true then _ else _
    cases a with
    | true =>
      rw [if_pos rfl] at w3 ⊢
      refine ⟨fun σ4 H4 => ∃ G4 ρ4, Same G4 H4 ∧ Same B H4 ∧ Rel X.K ca B G4 H4 σ4 ρ4 ∧ WishS X.K ca B G4 (wloop ft g m ρ4) D W, fun σ' H' q => ⟨m, Nat.lt_succ_self m, q⟩, ?_⟩
      refine kb B G3 H3 σ2 ρ2 _ x3.gh b3 r3 (turn_end (fun ρ5 => wloop ft g m ρ5) _ w3 fun ρ5 σ5 G5 H5 w5 a5 r5 => ?_)
      exact ⟨G5, ρ5, a5.gh, a5.bh, r5, w5⟩
    | false =>
      rw [if_neg Bool.false_ne_true] at w3 ⊢
      exact w3 σ2 G3 H3 (.refl x3.gh b3) r3
end
end Tk

namespace Tk
open PySem PySem.Spec L2 PyProof.Rows
/-! ### defs -/
/-- a def's promise by its mirror -/
def spF (K : PySem.W.Frag) (ca : Cn) (n : Nat) (F : List D → R D) : Sp := fun vs H Q E => vs.length = n ∧ ∃ G ds, Same G H ∧ AtL K ca G ds vs ∧ Wish K ca (SV K ca Q) G H (F ds) E
def startE (n : Nat) (ds : List D) : Ev := ds.map Sl.v ++ List.replicate (n - ds.length) .no
def frzS : Sl → Sl
  | .l xs => .v (.lst xs)
  | .k xs => .v (.dK xs)
  | .t xs => .v (.dT xs)
  | .o _ c fs => .v (.ins c fs)
  | s => s
section
variable {K : PySem.W.Frag} {ca : Cn} {G H G' H' : Hp}
theorem Own.at_ {a : Addr} {s : Sl} (h : Own K ca G H a s) (sg : Same G G') (e : G' a = H a) : ∃ d, frzS s = .v d ∧ At K ca G' d (.ref a) := by
  cases s with
  | no => exact h.elim
  | x _ => exact h.elim
  | v d => exact h.elim
  | l xs => obtain ⟨vs, h1, h2⟩ := h; exact ⟨_, rfl, a, vs, rfl, e.trans h1, AtL.mono sg h2⟩
  | k xs => obtain ⟨vs, h1, h2⟩ := h; exact ⟨_, rfl, a, vs, rfl, .inl (e.trans h1), AtK.mono sg h2⟩
  | t xs => obtain ⟨vs, h1, h2⟩ := h; exact ⟨_, rfl, a, vs, rfl, .inl (e.trans h1), AtT.mono sg h2⟩
  | o g c fs => obtain ⟨C, dx, vs, hg, h0, h1, h2⟩ := h; exact ⟨_, rfl, a, C, dx, vs, rfl, h0, e.trans h1, AtF.mono sg h2⟩
end
def frzR : Sl → R D
  | .l xs => .ok (.lst xs)
  | .k xs => .ok (.dK xs)
  | .t xs => .ok (.dT xs)
  | .o _ c fs => .ok (.ins c fs)
  | _ => .bad
theorem frzR_of {s : Sl} {d : D} (h : frzS s = .v d) (o : s.own = true) : frzR s = .ok d := by
  cases s with
  | no => cases o
  | x _ => cases o
  | v _ => cases o
  | l _ => cases h; rfl
  | k _ => cases h; rfl
  | t _ => cases h; rfl
  | o _ _ _ => cases h; rfl
def SO.out : SO → R D
  | .nx _ => .ok .non
  | .rt d => .ok d
  | .ro s => frzR s
  | .ex x _ => .exc x
  | _ => .bad
/-- what a def hands out as the caller's own -/
def SO.outO : SO → R Sl
  | .ro s => .ok s
  | .ex x _ => .exc x
  | _ => .bad
/-- a body's mirror as a def's: n names -/
def runF (n : Nat) (g : Ev → SO) : List D → R D := fun ds => (g (startE n ds)).out
theorem vals_start {K : PySem.W.Frag} {ca : Cn} {G : Hp} : ∀ {ds : List D} {vs : List V} {i : Nat} {d : D} {n : Nat}, AtL K ca G ds vs → (ds.map Sl.v ++ List.replicate n Sl.no)[i]? = some (.v d) → ∃ v, (vs.map some ++ List.replicate n none)[i]? = some (some v) ∧ At K ca G d v
  | [], vs, i, d, n, h, e => by
    cases h
    simp only [List.map_nil, List.nil_append, List.getElem?_replicate] at e
    split at e <;> cases e
  | x :: ds, vs, i, d, n, ⟨v, r, q, h, t⟩, e => by
    subst q
    cases i with
    | zero => simp at e; subst e; exact ⟨v, rfl, h⟩
    | succ i =>
      obtain ⟨w, h1, h2⟩ := vals_start (i := i) (n := n) t (by simpa using e)
      exact ⟨w, by simpa using h1, h2⟩
theorem own_start : ∀ {ds : List D} {i : Nat} {s : Sl} {n : Nat}, (ds.map Sl.v ++ List.replicate n Sl.no)[i]? = some s → s.own = true → False
  | [], i, s, n, e, o => by
    simp only [List.map_nil, List.nil_append, List.getElem?_replicate] at e
    split at e
    · cases e; cases o
    · cases e
  | x :: ds, i, s, n, e, o => by
    cases i with
    | zero => simp at e; subst e; cases o
    | succ i => exact own_start (ds := ds) (i := i) (n := n) (by simpa using e) o
theorem ex_start : ∀ {ds : List D} {i : Nat} {x : Ex} {n : Nat}, (ds.map Sl.v ++ List.replicate n Sl.no)[i]? = some (.x x) → False
  | [], i, x, n, e => by
    simp only [List.map_nil, List.nil_append, List.getElem?_replicate] at e
    split at e <;> cases e
  | y :: ds, i, x, n, e => by
    cases i with
    | zero => simp at e
    | succ i => exact ex_start (ds := ds) (i := i) (n := n) (by simpa using e)
theorem rel_start {K : PySem.W.Frag} {ca : Cn} {B G H : Hp} {N : List Str} {ds : List D} {vs : List V} (a : AtL K ca G ds vs) : Rel K ca B G H (L2.start N vs) (startE N.length ds) := by
  have l := a.length
  refine ⟨?_, fun i d e => ?_, fun i s e o => (own_start (show (ds.map Sl.v ++ List.replicate (N.length - ds.length) Sl.no)[i]? = some s from e) o).elim, fun i j s t x e o => (own_start (show (ds.map Sl.v ++ List.replicate (N.length - ds.length) Sl.no)[i]? = some s from e) o).elim,
    fun i x e => (ex_start (show (ds.map Sl.v ++ List.replicate (N.length - ds.length) Sl.no)[i]? = some (.x x) from e)).elim⟩
  · unfold L2.start startE
    simp [l]
  · have e' : (ds.map Sl.v ++ List.replicate (N.length - ds.length) Sl.no)[i]? = some (.v d) := e
    rw [l] at e'
    exact vals_start a e'
section
variable {P : Program} {w : World} {K : PySem.W.Frag} {mg : Str → Option Value} {base : Heap} {ca : Cn}
/-- the body's wish gives the def's -/
theorem body_ok {X : Cx} {W : WX} {body : List Stmt} {g : Ev → SO} {H : Hp} {vs : List V} {ds : List D} {G : Hp} {Q : VK} {E : XK} {N : List Str} (hK : X.K = K) (h : FSs X ca W body g) (hW : ∀ c d σ H', E c d H' → W c d σ H')
    (s : Same G H) (a : AtL K ca G ds vs) (q : Wish K ca (SV K ca Q) G H (runF N.length g ds) E) : ∃ t, PSs X body t ∧ t { nx := fun _ H' => Q .non H', rt := Q } (L2.start N vs) H := by
  subst hK
  obtain ⟨t, p, k⟩ := h.ex
  refine ⟨t, p, k H G H _ (startE N.length ds) _ s (.refl H) (rel_start a) ?_⟩
  unfold runF at q
  have up : ∀ {G' H' : Hp}, Adv H G G' H' → Ext G H G' H' := fun x => ⟨x.bh, x.gg, x.gh, x.nw⟩
  cases z : g (startE N.length ds) with
  | nx ρ => rw [z] at q; exact fun σ' G' H' x r => q G' H' (up x) .non rfl
  | rt d => rw [z] at q; exact fun v G' H' x r => q G' H' (up x) v r
  | ro sl =>
    rw [z] at q
    have q1 : Wish X.K ca (SV X.K ca Q) G H (frzR sl) E := q
    have own : sl.own = true := by cases sl <;> first | rfl | exact q1.elim
    refine ⟨own, fun a G' H' x oa ga ba => ?_⟩
    obtain ⟨o, ho⟩ := oa.some
    have gg : Same G' (upd G' a o) := same_upd ga
    have gh : Same (upd G' a o) H' := fun c u e => by
      by_cases w : c = a
      · subst w; rw [upd_same] at e; rw [ho]; exact e
      · rw [upd_ne w] at e; exact x.gh c u e
    obtain ⟨d, e1, e2⟩ := oa.at_ gg (show upd G' a o a = H' a by rw [upd_same, ho])
    have q2 : Wish X.K ca (SV X.K ca Q) G H (.ok d) E := by
      rw [frzR_of e1 own] at q1
      exact q1
    refine q2 (upd G' a o) H' ⟨x.bh, x.gg.trans gg, gh, fun c n => ?_⟩ (.ref a) e2
    by_cases w : c = a
    · subst w; exact .inr (.inl ba)
    · rw [upd_ne w] at n; exact x.nw c n
  | ex x ρ => rw [z] at q; exact fun σ' G' H' c dx y r e => hW _ _ _ _ (q G' H' c dx (up y) e)
  | bk ρ => rw [z] at q; exact q.elim
  | ct ρ => rw [z] at q; exact q.elim
  | bad => rw [z] at q; exact q.elim
/-- a def without defaults -/
theorem fn_ok {x qual : Str} {st : Stmt} {f : Addr} {fd : FuncData} {N ps : List Str} {k : Nat} {g : Ev → SO} (F : Fun K x qual st f fd) (S : FnScope N ps (defScope st))
    (hb : ∀ (cdv : Value) (A : Around) (outer : List Env) (s : Shared) (H : Hp) (E : XK), Room k (A.deeper (envOfC qual (defScope st) s.heap.objs.size f cdv)) →
      FSs (cxOf (L2.CX P w) P w K mg base N qual (defScope st) f cdv A outer s H E) ca (fun c d _ H' => E c d H') (defBody st) g) : FnOk P w K mg base (L2.CX P w) (k + 1) f fd ps (spF K ca ps.length (runF N.length g)) :=
  F.okX S (fun vs H Q E h => h.1) fun cdv A outer s H vs Q E hr h => by
    obtain ⟨l, G, ds, sm, a, q⟩ := h
    exact body_ok rfl (hb cdv A outer s H E hr) (fun _ _ _ _ z => z) sm a q
/-- .. with defaults -/
theorem fn_okD {x qual : Str} {params : Arguments} {body : List Stmt} {scope : Scope} {dvs : List V} {kws : List (Str × V)} {f : Addr} {fd : FuncData} {N ps : List Str} {k : Nat} {g : Ev → SO} (F : FunD K x qual params body scope dvs kws f fd) (S : FnScope N ps scope)
    (hb : ∀ (cdv : Value) (A : Around) (outer : List Env) (s : Shared) (H : Hp) (E : XK), Room k (A.deeper (envOfC qual scope s.heap.objs.size f cdv)) →
      FSs (cxOf (L2.CX P w) P w K mg base N qual scope f cdv A outer s H E) ca (fun c d _ H' => E c d H') body g) : FnOk P w K mg base (L2.CX P w) (k + 1) f fd ps (spF K ca ps.length (runF N.length g)) :=
  F.ok S (fun vs H Q E h => h.1) fun cdv A outer s H vs Q E hr h => by
    obtain ⟨l, G, ds, sm, a, q⟩ := h
    exact body_ok rfl (hb cdv A outer s H E hr) (fun _ _ _ _ z => z) sm a q
end
/-! ### calls -/
def eCall (n : Nat) (F : List D → R D) (fa : Ev → R (List D)) : Ev → R D := fun ρ => (fa ρ).bind fun ds => if ds.length = n then F ds else .bad
/-- how a call with keywords lays its values: by data -/
structure KB (K : PySem.W.Frag) (ca : Cn) (fd : FuncData) (ps : List Str) (n : Nat) (ks : List Str) (gD : List D → List D → List D) : Prop where
  ex : ∃ g gV, KBn K fd ps n ks g gV ∧ ∀ G ds vs zs ws, AtL K ca G ds vs → AtL K ca G zs ws → AtL K ca G (gD ds zs) (gV vs ws)
def eCallK (n m p : Nat) (F : List D → R D) (gD : List D → List D → List D) (fa fk : Ev → R (List D)) : Ev → R D := fun ρ => (fa ρ).bind fun ds => (fk ρ).bind fun zs => if ds.length = n ∧ zs.length = m ∧ (gD ds zs).length = p then F (gD ds zs) else .bad
section
variable {X : Cx} {ca : Cn} {W : WX} {k : Nat} {f : Addr} {fd : FuncData} {ps ks : List Str} {Fn : List D → R D} {x : Str} {p pos : Pos} {e : Expr} {es : List Expr} {fa fk : Ev → R (List D)}
theorem fe_call (F : FnOk X.prog X.w X.K X.mg X.base (L2.CX X.prog X.w) k f fd ps (spF X.K ca ps.length Fn)) (hr : Room k X.A) (tk : Takes X W) (hg : Gl X x) (hm : X.mg x = some (.ref f)) (hk : PySem.W.keepIn X.K (.ref f) = true) (hb : Binds X.K fd ps [])
    (ha : FA X ca W (e :: es) fa) (hdb : (x == ("__debug__" : Str)) = false := by decide) (he : starEach (e :: es) X.env = (false, eval e X.env) :: starEach es X.env := by rfl) (hpl : (backTo pos (starEach es X.env)).any (·.1) = false := by rfl) :
    FE X ca W (.Call (.Name x p) (e :: es) [] pos) (eCall ps.length Fn fa) := by
  obtain ⟨t, pa, kt⟩ := ha.ex
  refine ⟨_, pe_callS (E := WE W) F hr hg hm hk hb (fun σ => passAt tk σ) pa hdb he hpl, fun B G H σ ρ Q s b r h => ?_⟩
  refine kt B G H σ ρ _ s b r (Wish.bind h fun ds G1 H1 _ x1 w1 vs a1 => ?_)
  split at w1
  · rename_i hl
    exact ⟨by rw [← a1.length]; exact hl, G1, ds, x1.gh, a1, w1⟩
  · exact w1.elim
/-- the callee runs, its arguments laid by keywords -/
theorem run_kb {gV : List V → List V → List V} {g : List Value → List Value → List Value} {n : Nat} {E : XK} {sp : Sp} {pins : List (Addr × Obj)} {σ : L2.St} {H : Hp} {s : Shared} {Q : VK} {us ws : List Value} {vs zs : List V} (F : FnOk X.prog X.w X.K X.mg X.base (L2.CX X.prog X.w) k f fd ps sp)
    (hr : Room k X.A) (hb : KBn X.K fd ps n ks g gV) (hx : PassesAt (L2.CX X.prog X.w) X σ E) (I : Inv X pins σ H s) (ru : Vals vs us) (rw' : Vals zs ws) (lu : vs.length = n) (lw : zs.length = ks.length) (h : sp (gV vs zs) H Q E) :
    wpAny (model X.prog X.w) X.A (call (.ref f) us (ks.zip ws)) (EP X pins σ Q) X.xe s := by
  have bt := hb.to s us ws I.kIn (ru.length.symm.trans lu) (rw'.length.symm.trans lw)
  have go := F.run X.A X.stack s H ⟨us, ks.zip ws⟩ _ _ Q E hr I.env0 bt (hb.rel ru rw') h
  refine wpAny_call (codeAny_mono go fun r s' hq => ?_)
  rcases r with e | fl
  · exact hx pins H s e s' I hq
  · cases fl with
    | ret u => exact I.after hq
    | _ => exact hq.elim
theorem fe_callK {kws : List Keyword} {n : Nat} {gD : List D → List D → List D} (F : FnOk X.prog X.w X.K X.mg X.base (L2.CX X.prog X.w) k f fd ps (spF X.K ca ps.length Fn)) (hr : Room k X.A) (tk : Takes X W) (hg : Gl X x) (hm : X.mg x = some (.ref f)) (hk : PySem.W.keepIn X.K (.ref f) = true) (hb : KB X.K ca fd ps n ks gD)
    (ha : FA X ca W (e :: es) fa) (hkw : FK X ca W kws fk) (hall : (backToKw pos (keywordEach kws X.env)).all (·.1.isSome) = true := by rfl) (hks : (backToKw pos (keywordEach kws X.env)).filterMap (·.1) = ks := by rfl) (hdb : (x == ("__debug__" : Str)) = false := by decide)
    (he : starEach (e :: es) X.env = (false, eval e X.env) :: starEach es X.env := by rfl) (hpl : ((backTo pos (starEach (e :: es) X.env)).any (·.1) || (backToKw pos (keywordEach kws X.env)).any (·.1.isNone)) = false := by rfl) :
    FE X ca W (.Call (.Name x p) (e :: es) kws pos) (eCallK n ks.length ps.length Fn gD fa fk) := by
  obtain ⟨t, pa, kt⟩ := ha.ex
  obtain ⟨u, pk, ku⟩ := hkw.ex
  obtain ⟨g, gV, hbn, hgd⟩ := hb.ex
  refine ⟨fun σ H Q => t σ H fun vs H1 => u σ H1 fun zs H2 => vs.length = n ∧ zs.length = ks.length ∧ spF X.K ca ps.length Fn (gV vs zs) H2 Q (WE W σ), ⟨fun pins s σ H Q I h => ?_⟩, fun B G H σ ρ Q s b r h => ?_⟩
  · refine wpAny_Call_Name_kw (ld_glob I hg hm ?_ hdb)
    refine PySem.W.callWith_KW (h₀ := X.base) I.ok.mod.kin hk hall (thn (pa.run pos pins s σ H _ I h) fun us s1 ⟨vs, H1, I1, r1, q1⟩ => ?_) hpl he
    refine thn (pk.run pos pins s1 σ H1 _ I1 q1) fun ws s2 ⟨zs, H2, I2, r2, l1, l2, q2⟩ => ⟨I2.kIn, ?_⟩
    rw [hks]
    exact run_kb F hr hbn (passAt tk σ) I2 r1 r2 l1 l2 q2
  · refine kt B G H σ ρ _ s b r (Wish.bind h fun ds G1 H1 _ x1 w1 vs a1 => ?_)
    refine ku B G1 H1 σ ρ _ x1.gh (b.trans x1.hh) (r.ext x1) (Wish.bind w1 fun zs G2 H2 _ x2 w2 ws a2 => ?_)
    split at w2
    · rename_i hl
      have a3 := hgd G2 ds vs zs ws (AtL.mono x2.gg a1) a2
      exact ⟨by rw [← a1.length]; exact hl.1, by rw [← a2.length]; exact hl.2.1, by rw [← a3.length]; exact hl.2.2, G2, _, x2.gh, a3, w2⟩
    · exact w2.elim
/-- a built-in by its name -/
theorem fe_blt {id : String} {r : List V → Hp → VK → Prop} {g : List D → R D} (hc : CallR X (.builtin id) r) (hv : VN X ca r g) (hg : Gl X x) (hm : X.mg x = none) (hv' : bootBuiltins x = some (.builtin id)) (ha : FA X ca W (e :: es) fa) (hn : x ≠ "__name__" := by decide) (hd : (x == ("__debug__" : Str)) = false := by decide)
    (he : starEach (e :: es) X.env = (false, eval e X.env) :: starEach es X.env := by rfl) (hpl : (backTo pos (starEach es X.env)).any (·.1) = false := by rfl) : FE X ca W (.Call (.Name x p) (e :: es) [] pos) (eA g fa) := by
  obtain ⟨t, pa, kt⟩ := ha.ex
  refine ⟨_, pe_callB hc hg hm hv' pa hn hd he hpl, fun B G H σ ρ Q s b r h => ?_⟩
  exact kt B G H σ ρ _ s b r (Wish.bind h fun ds G1 H1 _ x1 w1 vs a1 => hv G1 H1 _ vs ds Q x1.gh a1 w1)
theorem fe_bty {T : String} {r : List V → Hp → VK → Prop} {g : List D → R D} (hc : CallR X (.type T) r) (hv : VN X ca r g) (hg : Gl X x) (hm : X.mg x = none) (hv' : bootBuiltins x = some (.type T)) (ha : FA X ca W (e :: es) fa) (hn : x ≠ "__name__" := by decide) (hd : (x == ("__debug__" : Str)) = false := by decide)
    (he : starEach (e :: es) X.env = (false, eval e X.env) :: starEach es X.env := by rfl) (hpl : (backTo pos (starEach es X.env)).any (·.1) = false := by rfl) : FE X ca W (.Call (.Name x p) (e :: es) [] pos) (eA g fa) := by
  obtain ⟨t, pa, kt⟩ := ha.ex
  refine ⟨_, pe_callTy hc hg hm hv' pa hn hd he hpl, fun B G H σ ρ Q s b r h => ?_⟩
  exact kt B G H σ ρ _ s b r (Wish.bind h fun ds G1 H1 _ x1 w1 vs a1 => hv G1 H1 _ vs ds Q x1.gh a1 w1)
end
end Tk

namespace Tk
open PySem PySem.Spec L2 PyProof.Rows
/-! ### operators by data -/
def gAdd : D → D → R D
  | .int i, .int j => .ok (.int (i + j))
  | .str a, .str b => if a.length + b.length ≤ sizeLine then .ok (.str (a ++ b)) else .bad
  | .lst xs, .lst ys => if xs.length + ys.length ≤ sizeLine then .ok (.lst (xs ++ ys)) else .bad
  | .tup xs, .tup ys => if xs.length + ys.length ≤ sizeLine then .ok (.tup (xs ++ ys)) else .bad
  | _, _ => .bad
def gSub : D → D → R D
  | .int i, .int j => .ok (.int (i - j))
  | _, _ => .bad
instance (i j : Int) : Decidable (CMul i j) := by unfold CMul; infer_instance
instance (i j : Int) : Decidable (CMulW i j) := by unfold CMulW; infer_instance
instance (i j : Int) : Decidable (CDivW i j) := by unfold CDivW; infer_instance
instance (i j : Int) : Decidable (CPow i j) := by unfold CPow; infer_instance
def gMul : D → D → R D
  | .int i, .int j => if CMul i j ∨ CMulW i j then .ok (.int (i * j)) else .bad
  | _, _ => .bad
def gDiv : D → D → R D
  | .int i, .int j => if CDivW i j then .ok (.int (i / j)) else .bad
  | _, _ => .bad
def gMod : D → D → R D
  | .int i, .int j => if 0 < j then .ok (.int (i % j)) else .bad
  | _, _ => .bad
def gPow : D → D → R D
  | .int i, .int j => if CPow i j then .ok (.int (i ^ j.toNat)) else .bad
  | _, _ => .bad
def gNeg : D → R D
  | .int i => .ok (.int (-i))
  | _ => .bad
def gLt : D → D → R D
  | .int i, .int j => .ok (.bl (decide (i < j)))
  | _, _ => .bad
def gLe : D → D → R D
  | .int i, .int j => .ok (.bl (decide (i ≤ j)))
  | _, _ => .bad
def gGt : D → D → R D
  | .int i, .int j => .ok (.bl (decide (j < i)))
  | _, _ => .bad
def gGe : D → D → R D
  | .int i, .int j => .ok (.bl (decide (j ≤ i)))
  | _, _ => .bad
mutual
/-- plain data, for == -/
def toP : D → Option PyData
  | .non => some .none
  | .bl b => some (.bool b)
  | .int i => some (.int i)
  | .str s => some (.str s)
  | .lst xs => (toPs xs).map .list
  | .tup xs => (toPs xs).map .tuple
  | .tpz xs => (toPs xs).map .tuple
  | _ => none
def toPs : List D → Option (List PyData)
  | [] => some []
  | d :: ds => match toP d, toPs ds with
    | some p, some ps => some (p :: ps)
    | _, _ => none
end
def gEqP (a b : D) : R D := match toP a, toP b with
  | some p, some q => if (SeqAt.shaped p && SeqAt.shaped q) = true then .ok (.bl (PyData.eqv p q)) else .bad
  | _, _ => .bad
def gEq : D → D → R D
  | .int i, .int j => .ok (.bl (decide (i = j)))
  | .str i, .str j => .ok (.bl (decide (i = j)))
  | .bl i, .bl j => .ok (.bl (decide (i = j)))
  | a, b => gEqP a b
def rNot (r : R D) : R D := r.bind fun d => match d with
  | .bl b => .ok (.bl (!b))
  | _ => .bad
def gNe (a b : D) : R D := rNot (gEq a b)
def isNon : D → Bool
  | .non => true
  | _ => false
def gIsN (a : D) (b : D) : R D := match b with
  | .non => .ok (.bl (isNon a))
  | _ => .bad
def gNotN (a : D) (b : D) : R D := rNot (gIsN a b)
/-- membership -/
def gInP (neg : Bool) (a : D) (ys : List D) : R D := match toP a, toPs ys with
  | some p, some qs => if (SeqAt.shaped p && SeqAt.shaped (.list qs)) = true then .ok (.bl (if neg then !(qs.any fun z => PyData.eqv z p) else qs.any fun z => PyData.eqv z p)) else .bad
  | _, _ => .bad
/-- plain flat items: as V's eqV -/
def flatD : D → Bool
  | .non => true
  | .bl _ => true
  | .int _ => true
  | .str _ => true
  | _ => false
def toV : D → V
  | .non => .non
  | .bl b => .bl b
  | .int i => .int i
  | .str s => .str s
  | _ => .non
def gInS (neg : Bool) : D → D → R D
  | .str a, .str b => .ok (.bl (if neg then !(!(Builtin.Str.occurrences b a 0 b.length 1).isEmpty) else !(Builtin.Str.occurrences b a 0 b.length 1).isEmpty))
  | a, .lst ys => if flatD a = true ∧ ys.all flatD = true then .ok (.bl (if neg then !inV (toV a) (ys.map toV) else inV (toV a) (ys.map toV))) else gInP neg a ys
  | a, .tup ys => if flatD a = true ∧ ys.all flatD = true then .ok (.bl (if neg then !inV (toV a) (ys.map toV) else inV (toV a) (ys.map toV))) else .bad
  | a, .tpz ys => if flatD a = true ∧ ys.all flatD = true then .ok (.bl (if neg then !inV (toV a) (ys.map toV) else inV (toV a) (ys.map toV))) else .bad
  | _, _ => .bad

section
variable {X : Cx} {ca : Cn}
theorem v2_int {g : D → D → R D} {h : Int → Int → V} {z : Int → Int → D} (hg : ∀ i j, g (.int i) (.int j) = .ok (z i j)) (hz : ∀ i j G, At X.K ca G (z i j) (h i j)) (hb : ∀ a b, (∀ i j, ¬ (a = .int i ∧ b = .int j)) → g a b = .bad) : V2 X ca (rI0 h) g := by
  intro G H W1 x y a b Q s ax ay w
  by_cases e : ∃ i j, a = .int i ∧ b = .int j
  · obtain ⟨i, j, rfl, rfl⟩ := e
    rw [hg] at w
    exact ⟨i, j, ax, ay, w.here s _ (hz i j _)⟩
  · rw [hb a b fun i j q => e ⟨i, j, q⟩] at w
    exact w.elim
theorem v2_intC {C : Int → Int → Prop} {g : D → D → R D} {h : Int → Int → V} {z : Int → Int → D} (hg : ∀ i j, g (.int i) (.int j) = .ok (z i j) ∧ C i j ∨ g (.int i) (.int j) = .bad) (hz : ∀ i j G, At X.K ca G (z i j) (h i j)) (hb : ∀ a b, (∀ i j, ¬ (a = .int i ∧ b = .int j)) → g a b = .bad) : V2 X ca (rI C h) g := by
  intro G H W1 x y a b Q s ax ay w
  by_cases e : ∃ i j, a = .int i ∧ b = .int j
  · obtain ⟨i, j, rfl, rfl⟩ := e
    rcases hg i j with ⟨e, c⟩ | e
    · rw [e] at w
      exact ⟨i, j, ax, ay, c, w.here s _ (hz i j _)⟩
    · rw [e] at w; exact w.elim
  · rw [hb a b fun i j q => e ⟨i, j, q⟩] at w
    exact w.elim
theorem bad_of {g : D → D → R D} {a b : D} (h : ∀ i j, ¬ (a = .int i ∧ b = .int j)) (hc : g a b = .bad ∨ ∃ i j, a = .int i ∧ b = .int j) : g a b = .bad := hc.elim id fun ⟨i, j, q⟩ => (h i j q).elim
theorem v2_sub : V2 X ca (rI0 fun i j => .int (i - j)) gSub := v2_int (z := fun i j => .int (i - j)) (fun _ _ => rfl) (fun _ _ _ => rfl) fun a b h => by cases a <;> first | rfl | (cases b <;> first | rfl | exact (h _ _ ⟨rfl, rfl⟩).elim)
theorem v2_lt : V2 X ca (rI0 fun i j => .bl (decide (i < j))) gLt := v2_int (z := fun i j => .bl (decide (i < j))) (fun _ _ => rfl) (fun _ _ _ => rfl) fun a b h => by cases a <;> first | rfl | (cases b <;> first | rfl | exact (h _ _ ⟨rfl, rfl⟩).elim)
theorem v2_le : V2 X ca (rI0 fun i j => .bl (decide (i ≤ j))) gLe := v2_int (z := fun i j => .bl (decide (i ≤ j))) (fun _ _ => rfl) (fun _ _ _ => rfl) fun a b h => by cases a <;> first | rfl | (cases b <;> first | rfl | exact (h _ _ ⟨rfl, rfl⟩).elim)
theorem v2_gt : V2 X ca (rI0 fun i j => .bl (decide (j < i))) gGt := v2_int (z := fun i j => .bl (decide (j < i))) (fun _ _ => rfl) (fun _ _ _ => rfl) fun a b h => by cases a <;> first | rfl | (cases b <;> first | rfl | exact (h _ _ ⟨rfl, rfl⟩).elim)
theorem v2_ge : V2 X ca (rI0 fun i j => .bl (decide (j ≤ i))) gGe := v2_int (z := fun i j => .bl (decide (j ≤ i))) (fun _ _ => rfl) (fun _ _ _ => rfl) fun a b h => by cases a <;> first | rfl | (cases b <;> first | rfl | exact (h _ _ ⟨rfl, rfl⟩).elim)
theorem op_mul2 : OpR X (binaryOp .Mult) (rI (fun i j => CMul i j ∨ CMulW i j) fun i j => .int (i * j)) := opI fun i j _ _ _ _ _ hc q => by
  rcases hc with hc | hc
  · exact mul_int q hc.ok
  · exact mul_int q hc.ok
theorem v2_mul : V2 X ca (rI (fun i j => CMul i j ∨ CMulW i j) fun i j => .int (i * j)) gMul := v2_intC (z := fun i j => .int (i * j)) (fun i j => by unfold gMul; by_cases h : CMul i j ∨ CMulW i j <;> simp [h]) (fun _ _ _ => rfl) fun a b h => by cases a <;> first | rfl | (cases b <;> first | rfl | exact (h _ _ ⟨rfl, rfl⟩).elim)
theorem v2_div : V2 X ca (rI CDivW fun i j => .int (i / j)) gDiv := v2_intC (z := fun i j => .int (i / j)) (fun i j => by unfold gDiv; by_cases h : CDivW i j <;> simp [h]) (fun _ _ _ => rfl) fun a b h => by cases a <;> first | rfl | (cases b <;> first | rfl | exact (h _ _ ⟨rfl, rfl⟩).elim)
theorem v2_mod : V2 X ca (rI (fun _ j => 0 < j) fun i j => .int (i % j)) gMod := v2_intC (z := fun i j => .int (i % j)) (fun i j => by unfold gMod; by_cases h : 0 < j <;> simp [h]) (fun _ _ _ => rfl) fun a b h => by cases a <;> first | rfl | (cases b <;> first | rfl | exact (h _ _ ⟨rfl, rfl⟩).elim)
theorem v2_pow : V2 X ca (rI CPow fun i j => .int (i ^ j.toNat)) gPow := v2_intC (z := fun i j => .int (i ^ j.toNat)) (fun i j => by unfold gPow; by_cases h : CPow i j <;> simp [h]) (fun _ _ _ => rfl) fun a b h => by cases a <;> first | rfl | (cases b <;> first | rfl | exact (h _ _ ⟨rfl, rfl⟩).elim)
theorem v1_neg : V1 X ca (rU fun i => .int (-i)) gNeg := by
  intro G H W1 x a Q s ax w
  cases a with
  | int i => exact ⟨i, ax, w.here s _ rfl⟩
  | _ => exact w.elim
theorem op_addA : OpR X (binaryOp .Add) (fun x y H Q => (rI0 fun i j => .int (i + j)) x y H Q ∨ ((∃ i j, x = .str i ∧ y = .str j ∧ i.length + j.length ≤ sizeLine ∧ Q (.str (i ++ j)) H) ∨ (rCat x y H Q ∨ rCatA X.K x y H Q))) := op_add.or (op_add_str.or (op_cat.or op_catA))
theorem v2_add : V2 X ca (fun x y H Q => (rI0 fun i j => .int (i + j)) x y H Q ∨ ((∃ i j, x = .str i ∧ y = .str j ∧ i.length + j.length ≤ sizeLine ∧ Q (.str (i ++ j)) H) ∨ (rCat x y H Q ∨ rCatA X.K x y H Q))) gAdd := by
  intro G H W1 x y a b Q s ax ay w
  cases a with
  | int i =>
    cases b with
    | int j => exact .inl ⟨i, j, ax, ay, w.here s _ rfl⟩
    | _ => exact w.elim
  | str i =>
    cases b with
    | str j =>
      have w' : Wish X.K ca (SV X.K ca Q) G H (if i.length + j.length ≤ sizeLine then .ok (.str (i ++ j)) else .bad) W1 := w
      split at w'
      · rename_i z; exact .inr (.inl ⟨i, j, ax, ay, z, w'.here s _ rfl⟩)
      · exact w'.elim
    | _ => exact w.elim
  | lst i =>
    cases b with
    | lst j =>
      have w' : Wish X.K ca (SV X.K ca Q) G H (if i.length + j.length ≤ sizeLine then .ok (.lst (i ++ j)) else .bad) W1 := w
      split at w'
      · rename_i z
        obtain ⟨p, vs, rfl, h1, h2⟩ := ax
        obtain ⟨q, ws, rfl, h3, h4⟩ := ay
        exact .inr (.inr (.inl ⟨p, q, vs, ws, rfl, rfl, s _ _ h1, s _ _ h3, by rw [← h2.length, ← h4.length]; exact z, fun l n => new_lst s w' (h2.append h4) n⟩))
      · exact w'.elim
    | _ => exact w.elim
  | tup i =>
    cases b with
    | tup j =>
      have w' : Wish X.K ca (SV X.K ca Q) G H (if i.length + j.length ≤ sizeLine then .ok (.tup (i ++ j)) else .bad) W1 := w
      split at w'
      · rename_i z
        obtain ⟨p, vs, rfl, h1, h2⟩ := ax
        obtain ⟨q, ws, rfl, h3, h4⟩ := ay
        have l1 := h2.length
        have l2 := h4.length
        refine .inr (.inr (.inr ⟨p, q, vs, ws, rfl, rfl, tq s h1, tq s h3, by rw [← l1, ← l2]; exact z, fun e => ?_, fun e1 e2 => ?_, fun _ _ l n => new_tup s w' (h2.append h4) n⟩))
        · have : i = [] := by rw [e] at l1; exact List.length_eq_zero_iff.mp l1
          subst this
          exact w'.here s _ ⟨q, ws, rfl, h3, h4⟩
        · have : j = [] := by rw [e2] at l2; exact List.length_eq_zero_iff.mp l2
          subst this
          rw [List.append_nil] at w'
          exact w'.here s _ ⟨p, vs, rfl, h1, h2⟩
      · exact w'.elim
    | _ => exact w.elim
  | _ => exact w.elim
mutual
theorem dp_of {G H : Hp} (s : Same G H) : ∀ (d : D) (v : V) (p : PyData), At X.K ca G d v → toP d = some p → Dp X.K H v p
  | .non, v, p, a, e => by cases e; cases a; exact .non
  | .bl b, v, p, a, e => by cases e; cases a; exact .bl b
  | .int i, v, p, a, e => by cases e; cases a; exact .int i
  | .str x, v, p, a, e => by cases e; cases a; exact .str x
  | .lst xs, v, p, ⟨q, vs, e1, h, r⟩, e => by
    obtain ⟨ps, e2, e3⟩ := Option.map_eq_some_iff.mp (show (toPs xs).map PyData.list = some p from e)
    subst e1 e3
    exact .lst (.of (s _ _ h)) (dps_of s xs vs ps r e2)
  | .tup xs, v, p, ⟨q, vs, e1, h, r⟩, e => by
    obtain ⟨ps, e2, e3⟩ := Option.map_eq_some_iff.mp (show (toPs xs).map PyData.tuple = some p from e)
    subst e1 e3
    exact .tup (tq s h) (dps_of s xs vs ps r e2)
  | .ty _, v, p, a, e => by cases e
  | .cl _, v, p, a, e => by cases e
  | .scr _, v, p, a, e => by cases e
  | .tpz xs, v, p, ⟨q, o, vs, e1, oo, h, r⟩, e => by
    obtain ⟨ps, e2, e3⟩ := Option.map_eq_some_iff.mp (show (toPs xs).map PyData.tuple = some p from e)
    subst e1 e3
    exact .tup (.inl (.inr ⟨o, s _ _ h⟩)) (dps_of s xs vs ps r e2)
  | .tp0, v, p, a, e => by cases e
  | .zK _, v, p, a, e => by cases e
  | .zT _, v, p, a, e => by cases e
  | .dK _, v, p, a, e => by cases e
  | .dT _, v, p, a, e => by cases e
  | .ins _ _, v, p, a, e => by cases e
theorem dps_of {G H : Hp} (s : Same G H) : ∀ (ds : List D) (vs : List V) (ps : List PyData), AtL X.K ca G ds vs → toPs ds = some ps → DpAll X.K H vs ps
  | [], vs, ps, a, e => by cases e; cases a; exact .nil
  | d :: ds, vs, ps, ⟨v, r, e1, a1, a2⟩, e => by
    have e' : (match toP d, toPs ds with | some p, some ps => some (p :: ps) | _, _ => none) = some ps := e
    split at e'
    · rename_i p ps' h1 h2
      cases e'
      subst e1
      exact .cons (dp_of s d v p a1 h1) (dps_of s ds r ps' a2 h2)
    · cases e'
end
theorem op_eqA (hu : X.A.units + 64 < cLine) : OpR X (compareOp .Eq) (fun x y H Q => rEq x y H Q ∨ rEqD X.K x y H Q) := op_eq.or (op_eqD hu)
theorem op_neA (hu : X.A.units + 64 < cLine) : OpR X (compareOp .NotEq) (fun x y H Q => rNe x y H Q ∨ rNeD X.K x y H Q) := op_ne.or (op_neD hu)
theorem gEqP_some {a b : D} {G H : Hp} {W1 : XK} {S : Hp → D → Hp → Prop} (h : Wish X.K ca S G H (gEqP a b) W1) : ∃ p q, toP a = some p ∧ toP b = some q ∧ SeqAt.shaped p = true ∧ SeqAt.shaped q = true ∧ gEqP a b = .ok (.bl (PyData.eqv p q)) := by
  unfold gEqP at h ⊢
  split at h
  · rename_i p q e1 e2
    split at h
    · rename_i z
      rw [Bool.and_eq_true] at z
      exact ⟨p, q, e1, e2, z.1, z.2, by simp only [e1, e2, z.1, z.2]; rfl⟩
    · exact h.elim
  · exact h.elim
theorem v2_eqP {a b : D} {x y : V} {G H : Hp} {W1 : XK} {Q : VK} (s : Same G H) (ax : At X.K ca G a x) (ay : At X.K ca G b y) (w : Wish X.K ca (SV X.K ca Q) G H (gEqP a b) W1) : rEqD X.K x y H Q := by
  obtain ⟨p, q, e1, e2, z1, z2, e3⟩ := gEqP_some w
  rw [e3] at w
  exact ⟨p, q, dp_of s a x p ax e1, dp_of s b y q ay e2, z1, z2, w.here s _ rfl⟩
theorem dec_V {i j : Int} : decide (V.int i = V.int j) = decide (i = j) := by by_cases h : i = j <;> simp [h]
theorem dec_VS {i j : Str} : decide (V.str i = V.str j) = decide (i = j) := by by_cases h : i = j <;> simp [h]
theorem dec_VB {i j : Bool} : decide (V.bl i = V.bl j) = decide (i = j) := by by_cases h : i = j <;> simp [h]
theorem v2_eq : V2 X ca (fun x y H Q => rEq x y H Q ∨ rEqD X.K x y H Q) gEq := by
  intro G H W1 x y a b Q s ax ay w
  unfold gEq at w
  split at w
  · cases ax; cases ay; exact .inl ⟨rfl, by rw [dec_V]; exact w.here s _ rfl⟩
  · cases ax; cases ay; exact .inl ⟨rfl, by rw [dec_VS]; exact w.here s _ rfl⟩
  · cases ax; cases ay; exact .inl ⟨rfl, by rw [dec_VB]; exact w.here s _ rfl⟩
  · exact .inr (v2_eqP s ax ay w)
theorem v2_ne : V2 X ca (fun x y H Q => rNe x y H Q ∨ rNeD X.K x y H Q) gNe := by
  intro G H W1 x y a b Q s ax ay w
  unfold gNe gEq rNot at w
  split at w
  · cases ax; cases ay; exact .inl ⟨rfl, by rw [dec_V]; exact w.here s _ rfl⟩
  · cases ax; cases ay; exact .inl ⟨rfl, by rw [dec_VS]; exact w.here s _ rfl⟩
  · cases ax; cases ay; exact .inl ⟨rfl, by rw [dec_VB]; exact w.here s _ rfl⟩
  · have w1 : Wish X.K ca (fun _ _ _ => True) G H (gEqP a b) W1 := Wish.bind w fun _ _ _ _ _ _ => trivial
    obtain ⟨p, q, e1, e2, z1, z2, e3⟩ := gEqP_some w1
    rw [e3] at w
    exact .inr ⟨p, q, dp_of s a x p ax e1, dp_of s b y q ay e2, z1, z2, w.here s _ rfl⟩
theorem at_non {a : D} {x : V} {G : Hp} (h : At X.K ca G a x) : decide (x = .non) = isNon a := by
  cases a with
  | non => cases h; rfl
  | bl _ => cases h; rfl
  | int _ => cases h; rfl
  | str _ => cases h; rfl
  | ty _ => cases h; rfl
  | cl _ => obtain ⟨_, _, rfl⟩ := h; rfl
  | scr _ => obtain ⟨_, rfl, _⟩ := h; rfl
  | lst _ => obtain ⟨_, _, rfl, _⟩ := h; rfl
  | tup _ => obtain ⟨_, _, rfl, _⟩ := h; rfl
  | tpz _ => obtain ⟨_, _, _, rfl, _⟩ := h; rfl
  | tp0 => obtain ⟨_, rfl, _⟩ := h; rfl
  | zK _ => obtain ⟨_, _, _, rfl, _⟩ := h; rfl
  | zT _ => obtain ⟨_, _, _, rfl, _⟩ := h; rfl
  | dK _ => obtain ⟨_, _, rfl, _⟩ := h; rfl
  | dT _ => obtain ⟨_, _, rfl, _⟩ := h; rfl
  | ins _ _ => obtain ⟨_, _, _, _, rfl, _⟩ := h; rfl
theorem v2_isN : V2 X ca (fun x y H Q => y = .non ∧ Q (.bl (decide (x = .non))) H) gIsN := by
  intro G H W1 x y a b Q s ax ay w
  cases b with
  | non => exact ⟨ay, by rw [at_non ax]; exact w.here s _ rfl⟩
  | _ => exact w.elim
theorem v2_notN : V2 X ca (fun x y H Q => y = .non ∧ Q (.bl (!decide (x = .non))) H) gNotN := by
  intro G H W1 x y a b Q s ax ay w
  cases b with
  | non => exact ⟨ay, by rw [at_non ax]; exact w.here s _ rfl⟩
  | _ => exact w.elim
/-! membership -/
theorem toV_at {a : D} {x : V} {G : Hp} (f : flatD a = true) (h : At X.K ca G a x) : x = toV a ∧ flatV x = true := by
  cases a with
  | non => cases h; exact ⟨rfl, rfl⟩
  | bl _ => cases h; exact ⟨rfl, rfl⟩
  | int _ => cases h; exact ⟨rfl, rfl⟩
  | str _ => cases h; exact ⟨rfl, rfl⟩
  | _ => cases f
theorem toV_all {G : Hp} : ∀ {ds : List D} {vs : List V}, ds.all flatD = true → AtL X.K ca G ds vs → vs = ds.map toV ∧ vs.all flatV = true
  | [], _, _, h => by cases h; exact ⟨rfl, rfl⟩
  | d :: ds, _, f, ⟨v, r, e, h, t⟩ => by
    rw [List.all_cons, Bool.and_eq_true] at f
    obtain ⟨e1, f1⟩ := toV_at f.1 h
    obtain ⟨e2, f2⟩ := toV_all f.2 t
    subst e
    exact ⟨by rw [e1, e2]; rfl, by rw [List.all_cons, f1, f2]; rfl⟩
theorem op_inA (hu : X.A.units + 65 < cLine) : OpR X (compareOp .In) (fun x y H Q => (∃ i j, x = .str i ∧ y = .str j ∧ Q (.bl (!(Builtin.Str.occurrences j i 0 j.length 1).isEmpty)) H) ∨ (rIn X.K false x y H Q ∨ rInD X.K x y H Q)) := op_in_str.or (op_in_seq.or (op_inD hu))
theorem op_ninA (hu : X.A.units + 65 < cLine) : OpR X (compareOp .NotIn) (fun x y H Q => (∃ i j, x = .str i ∧ y = .str j ∧ Q (.bl (!(!(Builtin.Str.occurrences j i 0 j.length 1).isEmpty))) H) ∨ (rIn X.K true x y H Q ∨ rNotInD X.K x y H Q)) := op_notin_str.or (op_notIn_seq.or (op_notInD hu))
theorem gInP_some {neg : Bool} {a : D} {ys : List D} {G H : Hp} {W1 : XK} {S : Hp → D → Hp → Prop} (h : Wish X.K ca S G H (gInP neg a ys) W1) : ∃ p qs, toP a = some p ∧ toPs ys = some qs ∧ SeqAt.shaped p = true ∧ SeqAt.shaped (.list qs) = true ∧
    gInP neg a ys = .ok (.bl (if neg then !(qs.any fun z => PyData.eqv z p) else qs.any fun z => PyData.eqv z p)) := by
  unfold gInP at h ⊢
  split at h
  · rename_i p q e1 e2
    split at h
    · rename_i z
      rw [Bool.and_eq_true] at z
      exact ⟨p, q, e1, e2, z.1, z.2, by simp only [e1, e2, z.1, z.2]; rfl⟩
    · exact h.elim
  · exact h.elim
theorem v2_in : V2 X ca (fun x y H Q => (∃ i j, x = .str i ∧ y = .str j ∧ Q (.bl (!(Builtin.Str.occurrences j i 0 j.length 1).isEmpty)) H) ∨ (rIn X.K false x y H Q ∨ rInD X.K x y H Q)) (gInS false) := by
  intro G H W1 x y a b Q s ax ay w
  unfold gInS at w
  split at w
  · exact .inl ⟨_, _, ax, ay, w.here s _ rfl⟩
  · obtain ⟨p, vs, rfl, h1, h2⟩ := ay
    split at w
    · rename_i z
      obtain ⟨e1, f1⟩ := toV_at z.1 ax
      obtain ⟨e2, f2⟩ := toV_all z.2 h2
      refine .inr (.inl ⟨p, vs, rfl, .inl (.of (s _ _ h1)), f1, f2, ?_⟩)
      rw [e1, e2]
      exact w.here s _ rfl
    · obtain ⟨q, qs, e1, e2, z1, z2, e3⟩ := gInP_some w
      rw [e3] at w
      exact .inr (.inr ⟨q, qs, dp_of s a x q ax e1, .lst (.of (s _ _ h1)) (dps_of s _ vs qs h2 e2), z1, z2, w.here s _ rfl⟩)
  · obtain ⟨p, vs, rfl, h1, h2⟩ := ay
    split at w
    · rename_i z
      obtain ⟨e1, f1⟩ := toV_at z.1 ax
      obtain ⟨e2, f2⟩ := toV_all z.2 h2
      refine .inr (.inl ⟨p, vs, rfl, .inr (tq s h1), f1, f2, ?_⟩)
      rw [e1, e2]
      exact w.here s _ rfl
    · exact w.elim
  · obtain ⟨p, o, vs, rfl, oo, h1, h2⟩ := ay
    split at w
    · rename_i z
      obtain ⟨e1, f1⟩ := toV_at z.1 ax
      obtain ⟨e2, f2⟩ := toV_all z.2 h2
      refine .inr (.inl ⟨p, vs, rfl, .inr (.inl (.inr ⟨o, s _ _ h1⟩)), f1, f2, ?_⟩)
      rw [e1, e2]
      exact w.here s _ rfl
    · exact w.elim
  · exact w.elim
theorem v2_nin : V2 X ca (fun x y H Q => (∃ i j, x = .str i ∧ y = .str j ∧ Q (.bl (!(!(Builtin.Str.occurrences j i 0 j.length 1).isEmpty))) H) ∨ (rIn X.K true x y H Q ∨ rNotInD X.K x y H Q)) (gInS true) := by
  intro G H W1 x y a b Q s ax ay w
  unfold gInS at w
  split at w
  · exact .inl ⟨_, _, ax, ay, w.here s _ rfl⟩
  · obtain ⟨p, vs, rfl, h1, h2⟩ := ay
    split at w
    · rename_i z
      obtain ⟨e1, f1⟩ := toV_at z.1 ax
      obtain ⟨e2, f2⟩ := toV_all z.2 h2
      refine .inr (.inl ⟨p, vs, rfl, .inl (.of (s _ _ h1)), f1, f2, ?_⟩)
      rw [e1, e2]
      exact w.here s _ rfl
    · obtain ⟨q, qs, e1, e2, z1, z2, e3⟩ := gInP_some w
      rw [e3] at w
      exact .inr (.inr ⟨q, qs, dp_of s a x q ax e1, .lst (.of (s _ _ h1)) (dps_of s _ vs qs h2 e2), z1, z2, w.here s _ rfl⟩)
  · obtain ⟨p, vs, rfl, h1, h2⟩ := ay
    split at w
    · rename_i z
      obtain ⟨e1, f1⟩ := toV_at z.1 ax
      obtain ⟨e2, f2⟩ := toV_all z.2 h2
      refine .inr (.inl ⟨p, vs, rfl, .inr (tq s h1), f1, f2, ?_⟩)
      rw [e1, e2]
      exact w.here s _ rfl
    · exact w.elim
  · obtain ⟨p, o, vs, rfl, oo, h1, h2⟩ := ay
    split at w
    · rename_i z
      obtain ⟨e1, f1⟩ := toV_at z.1 ax
      obtain ⟨e2, f2⟩ := toV_all z.2 h2
      refine .inr (.inl ⟨p, vs, rfl, .inr (.inl (.inr ⟨o, s _ _ h1⟩)), f1, f2, ?_⟩)
      rw [e1, e2]
      exact w.here s _ rfl
    · exact w.elim
  · exact w.elim
end
end Tk

namespace Tk
open PySem PySem.Spec L2 PyProof.Rows
/-! ### subscripts, slices -/
def optR {α : Type} (o : Option α) : R α := match o with
  | some a => .ok a
  | none => .bad
@[simp] theorem optR_some {α : Type} (a : α) : optR (some a) = .ok a := (rfl)
def gIx : D → D → R D
  | .lst xs, .int i => optR (atI xs i)
  | .tup xs, .int i => optR (atI xs i)
  | .tpz xs, .int i => optR (atI xs i)
  | .str z, .int i => if z.length ≤ sizeLine then (optR (atI z.cps.toList i)).bind fun c => .ok (.str ⟨#[c]⟩) else .bad
  | .scr ns, .int i => (optR (atI ns i)).bind fun n => .ok (.int n)
  | _, _ => .bad
def cutD {α : Type} (xs : List α) (lo hi : Option Int) : List α := (xs.drop (HT.sIx xs.length 0 lo)).take (HT.sIx xs.length xs.length hi - HT.sIx xs.length 0 lo)
def gSl : D → Option Int → Option Int → R D
  | .lst xs, lo, hi => .ok (.lst (cutD xs lo hi))
  | .scr ns, lo, hi => .ok (.lst ((cutD ns lo hi).map .int))
  | .tup xs, lo, hi => .ok (.tup (cutD xs lo hi))
  | .tpz xs, lo, hi => if HT.sIx xs.length 0 lo = 0 ∧ HT.sIx xs.length xs.length hi = xs.length then .ok (.tpz xs) else .ok (.tup (cutD xs lo hi))
  | .str z, lo, hi => if z.length ≤ sizeLine then .ok (.str (cutS z lo hi)) else .bad
  | _, _, _ => .bad
def oN : Ev → R (Option Int) := fun _ => .ok none
def oS (f : Ev → R D) : Ev → R (Option Int) := fun ρ => (f ρ).bind fun d => match d with
  | .int i => .ok (some i)
  | _ => .bad
def eSl (fa : Ev → R D) (fl fh : Ev → R (Option Int)) : Ev → R D := fun ρ => (fa ρ).bind fun a => (fl ρ).bind fun l => (fh ρ).bind fun h => gSl a l h
structure FO (X : Cx) (ca : Cn) (W : WX) (e : Option Expr) (f : Ev → R (Option Int)) : Prop where
  ex : ∃ t, PO X e t ∧ ∀ B G H σ ρ (Q : Option Int → Hp → Prop), Same G H → Same B H → Rel X.K ca B G H σ ρ → Wish X.K ca (fun _ o H' => Q o H') G H (f ρ) (WE W σ) → t σ H Q
section
variable {X : Cx} {ca : Cn} {W : WX} {a b e : Expr} {lo hi : Option Expr} {fa fb : Ev → R D} {fl fh : Ev → R (Option Int)} {pos p2 : Pos}
theorem AtL.atI {K : PySem.W.Frag} {G : Hp} {ds : List D} {vs : List V} {i : Int} {d : D} (h : AtL K ca G ds vs) (e : atI ds i = some d) : ∃ v, L2.atI vs i = some v ∧ At K ca G d v := by
  unfold L2.atI at e ⊢
  rw [← h.length]
  cases z : ixN ds.length i with
  | none => rw [z] at e; cases e
  | some j =>
    rw [z] at e
    obtain ⟨v, h1, h2⟩ := h.get (i := j) (d := d) e
    exact ⟨v, h1, h2⟩
theorem atI_map {α β : Type} {f : α → β} {xs : List α} {i : Int} {x : α} (e : atI xs i = some x) : atI (xs.map f) i = some (f x) := by
  unfold L2.atI at e ⊢
  rw [List.length_map]
  cases z : ixN xs.length i with
  | none => rw [z] at e; cases e
  | some j =>
    rw [z] at e
    have e' : xs[j]? = some x := e
    show (xs.map f)[j]? = some (f x)
    rw [List.getElem?_map, e']
    rfl
theorem wish_opt {α β : Type} {K : PySem.W.Frag} {S : Hp → β → Hp → Prop} {G H : Hp} {o : Option α} {k : α → R β} {W1 : XK} (h : Wish K ca S G H ((optR o).bind k) W1) : ∃ x, o = some x ∧ Wish K ca S G H (k x) W1 := by
  cases o with
  | none => exact h.elim
  | some x => exact ⟨x, rfl, h⟩
theorem wish_opt' {β : Type} {K : PySem.W.Frag} {S : Hp → β → Hp → Prop} {G H : Hp} {o : Option β} {W1 : XK} (h : Wish K ca S G H (optR o) W1) : ∃ x, o = some x ∧ Wish K ca S G H (.ok x) W1 := by
  cases o with
  | none => exact h.elim
  | some x => exact ⟨x, rfl, h⟩
theorem v2_ix : V2 X ca (rIx X.K) gIx := by
  intro G H W1 x y a b Q s ax ay w
  unfold gIx at w
  split at w
  · obtain ⟨d, e, w⟩ := wish_opt' w
    obtain ⟨p, vs, rfl, h1, h2⟩ := ax
    obtain ⟨v, e2, a2⟩ := h2.atI e
    exact .inl ⟨p, vs, _, v, rfl, ay, .of (s _ _ h1), e2, w.here s _ a2⟩
  · obtain ⟨d, e, w⟩ := wish_opt' w
    obtain ⟨p, vs, rfl, h1, h2⟩ := ax
    obtain ⟨v, e2, a2⟩ := h2.atI e
    exact .inr (.inl ⟨p, vs, _, v, rfl, ay, tq s h1, e2, w.here s _ a2⟩)
  · obtain ⟨d, e, w⟩ := wish_opt' w
    obtain ⟨p, o, vs, rfl, oo, h1, h2⟩ := ax
    obtain ⟨v, e2, a2⟩ := h2.atI e
    exact .inr (.inl ⟨p, vs, _, v, rfl, ay, .inl (.inr ⟨o, s _ _ h1⟩), e2, w.here s _ a2⟩)
  · split at w
    · rename_i z
      obtain ⟨c, e, w⟩ := wish_opt w
      exact .inr (.inr ⟨_, _, c, ax, ay, z, e, w.here s _ rfl⟩)
    · exact w.elim
  · obtain ⟨n, e, w⟩ := wish_opt w
    obtain ⟨p, rfl, h1⟩ := ax
    exact .inl ⟨p, _, _, _, rfl, ay, SqL_mono s h1, atI_map e, w.here s _ rfl⟩
  · exact w.elim
theorem fe_ix (hs : PlainIx b) (ha : FE X ca W a fa) (hb : FE X ca W b fb) : FE X ca W (.Subscript a b pos) (e2 gIx fa fb) := by
  obtain ⟨ta, pa, ka⟩ := ha.ex
  obtain ⟨tb, pb, kb⟩ := hb.ex
  refine ⟨_, pe_ix ix_seq pa pb hs, fun B G H σ ρ Q s b r h => ?_⟩
  refine ka B G H σ ρ _ s b r (Wish.bind h fun d G1 H1 _ x1 w1 v a1 => ?_)
  refine kb B G1 H1 σ ρ _ x1.gh (b.trans x1.hh) (r.ext x1) (Wish.bind w1 fun d2 G2 H2 _ x2 w2 v2 a2 => ?_)
  exact v2_ix G2 H2 _ v v2 d d2 Q x2.gh (At.mono x2.gg a1) a2 w2
theorem fo_n : FO X ca W none oN := ⟨_, po_none, fun B G H σ ρ Q s b r h => h.here s⟩
theorem fo_s (h : FE X ca W e fa) : FO X ca W (some e) (oS fa) := by
  obtain ⟨t, p, k⟩ := h.ex
  refine ⟨_, po_some p, fun B G H σ ρ Q s b r h => ?_⟩
  refine k B G H σ ρ _ s b r (Wish.bind h fun d G1 H1 _ x1 w1 v a1 => ?_)
  cases d with
  | int i => exact ⟨i, a1, w1.here x1.gh⟩
  | _ => exact w1.elim
theorem AtL.cut {K : PySem.W.Frag} {G : Hp} {ds : List D} {vs : List V} (lo hi : Option Int) (h : AtL K ca G ds vs) : AtL K ca G (cutD ds lo hi) (cutV vs lo hi) := by
  unfold cutD cutV
  rw [← h.length]
  exact AtL.take _ (AtL.drop _ h)
theorem sl_all : SlR X (fun x lo hi H Q => rSlL X.K x lo hi H Q ∨ (rSlA X.K x lo hi H Q ∨ rSlS x lo hi H Q)) := sl_list.or (sl_tupA.or sl_str)
theorem fe_sl (ha : FE X ca W a fa) (hl : FO X ca W lo fl) (hh : FO X ca W hi fh) : FE X ca W (.Subscript a (.Slice lo hi none p2) pos) (eSl fa fl fh) := by
  obtain ⟨ta, pa, ka⟩ := ha.ex
  obtain ⟨tl, pl, kl⟩ := hl.ex
  obtain ⟨th, ph, kh⟩ := hh.ex
  refine ⟨_, pe_slice sl_all pa pl ph, fun B G H σ ρ Q s b r h => ?_⟩
  refine ka B G H σ ρ _ s b r (Wish.bind h fun d G1 H1 _ x1 w1 v a1 => ?_)
  refine kl B G1 H1 σ ρ _ x1.gh (b.trans x1.hh) (r.ext x1) (Wish.bind w1 fun l G2 H2 _ x2 w2 => ?_)
  refine kh B G2 H2 σ ρ _ x2.gh ((b.trans x1.hh).trans x2.hh) ((r.ext x1).ext x2) (Wish.bind w2 fun u G3 H3 _ x3 w3 => ?_)
  have a3 := At.mono (x2.gg.trans x3.gg) a1
  cases d with
  | lst xs =>
    obtain ⟨p, vs, rfl, h1, h2⟩ := a3
    exact .inl ⟨p, vs, rfl, .of (x3.gh _ _ h1), fun q n => new_lst x3.gh w3 (h2.cut l u) n⟩
  | scr ns =>
    obtain ⟨p, rfl, h1⟩ := a3
    refine .inl ⟨p, _, rfl, SqL_mono x3.gh h1, fun q n => ?_⟩
    have e : cutV (ns.map V.int) l u = (cutD ns l u).map V.int := by
      unfold cutV cutD
      rw [List.length_map, List.map_take, List.map_drop]
    rw [e]
    exact new_lst x3.gh w3 (AtL.of_ints _) n
  | tup xs =>
    obtain ⟨p, vs, rfl, h1, h2⟩ := a3
    refine .inr (.inl ⟨p, vs, rfl, tq x3.gh h1, fun e => ?_, fun e q n => new_tup x3.gh w3 (h2.cut l u) n⟩)
    have e3 : cutD xs l u = xs := by
      unfold cutD
      rw [h2.length, e.1, e.2, List.drop_zero, Nat.sub_zero, ← h2.length, List.take_length]
    have w4 : Wish X.K ca (SV X.K ca Q) G3 H3 (.ok (.tup (cutD xs l u))) (WE W σ) := w3
    rw [e3] at w4
    exact w4.here x3.gh _ ⟨p, vs, rfl, h1, h2⟩
  | tpz xs =>
    obtain ⟨p, o, vs, rfl, oo, h1, h2⟩ := a3
    have w4 : Wish X.K ca (SV X.K ca Q) G3 H3 (if HT.sIx xs.length 0 l = 0 ∧ HT.sIx xs.length xs.length u = xs.length then .ok (.tpz xs) else .ok (.tup (cutD xs l u))) (WE W σ) := w3
    refine .inr (.inl ⟨p, vs, rfl, .inl (.inr ⟨o, x3.gh _ _ h1⟩), fun e => ?_, fun e q n => ?_⟩)
    · rw [if_pos (by rw [h2.length]; exact e)] at w4
      exact w4.here x3.gh _ ⟨p, o, vs, rfl, oo, h1, h2⟩
    · rw [if_neg (by rw [h2.length]; exact e)] at w4
      exact new_tup x3.gh w4 (h2.cut l u) n
  | str z =>
    have w4 : Wish X.K ca (SV X.K ca Q) G3 H3 (if z.length ≤ sizeLine then .ok (.str (cutS z l u)) else .bad) (WE W σ) := w3
    split at w4
    · rename_i hz
      exact .inr (.inr ⟨z, a3, hz, w4.here x3.gh _ rfl⟩)
    · exact w4.elim
  | _ => exact w3.elim
/-! ### fields -/
def gFld (cs : List Nat) (f : Nat) : D → R D
  | .ins c fs => if c ∈ cs ∧ (fs.map (·.1)).all (fun k => k ≤ 1000) = true then optR (fs.lookup f) else .bad
  | _ => .bad
theorem fe_fld {cs : List Nat} {f : Nat} {nm : Str} (hf : ca.n f = nm) (hi : ∀ k, ca.n k = ca.n f → k = f) (hc : ∀ c ∈ cs, ∀ C, ca.a c = some C → Cls X.K C ∧ NoAttr X.K C nm) (h : FE X ca W e fa) (hb : attributeBase e nm X.env (eval e X.env) = eval e X.env := by rfl) :
    FE X ca W (.Attribute e nm pos) (e1 (gFld cs f) fa) := by
  obtain ⟨t, p, k⟩ := h.ex
  refine ⟨_, pe_fld p hb, fun B G H σ ρ Q s b r h => ?_⟩
  refine k B G H σ ρ _ s b r (Wish.bind h fun d G1 H1 _ x1 w1 v a1 => ?_)
  cases d with
  | ins c fs =>
    obtain ⟨a', C, dx, vs, rfl, h1, h2, h3⟩ := a1
    have w2 : Wish X.K ca (SV X.K ca Q) G1 H1 (if c ∈ cs ∧ (fs.map (·.1)).all (fun k => k ≤ 1000) = true then optR (fs.lookup f) else .bad) (WE W σ) := w1
    split at w2
    · rename_i hm
      obtain ⟨z, e, w3⟩ := wish_opt' w2
      obtain ⟨v, l1, l2⟩ := h3.lookup (fun p _ q => hi _ q) e
      rw [hf] at l1
      exact ⟨a', C, dx, vs, v, rfl, x1.gh _ _ h2, (hc c hm.1 C h1).1, (hc c hm.1 C h1).2, l1, w3.here x1.gh _ l2⟩
    · exact w2.elim
  | _ => exact w1.elim
end

/-! ### built-ins -/
def gLen : List D → R D
  | [.str z] => if z.length ≤ sizeLine then .ok (.int z.length) else .bad
  | [.lst xs] => .ok (.int xs.length)
  | [.tup xs] => .ok (.int xs.length)
  | [.tpz xs] => .ok (.int xs.length)
  | [.scr ns] => .ok (.int ns.length)
  | _ => .bad
def gAbs : List D → R D
  | [.int i] => .ok (.int (if i < 0 then -i else i))
  | _ => .bad
def gInt : List D → R D
  | [.int i] => .ok (.int i)
  | [.bl k] => .ok (.int (if k then 1 else 0))
  | _ => .bad
def gList : List D → R D
  | [.lst xs] => .ok (.lst xs)
  | [.tup xs] => .ok (.lst xs)
  | [.tpz xs] => .ok (.lst xs)
  | [.scr ns] => .ok (.lst (ns.map .int))
  | _ => .bad
def gTuple : List D → R D
  | [.lst xs] => .ok (.tup xs)
  | [.tup xs] => .ok (.tup xs)
  | [.tpz xs] => .ok (.tpz xs)
  | _ => .bad
def intsOf : List D → Option (List Int)
  | [] => some []
  | .int i :: r => (intsOf r).map (i :: ·)
  | _ :: _ => none
def bolsOf : List D → Option (List Bool)
  | [] => some []
  | .bl i :: r => (bolsOf r).map (i :: ·)
  | _ :: _ => none
def gSum : List D → R D
  | [.lst xs] => (optR (intsOf xs)).bind fun ns => .ok (.int ns.sum)
  | _ => .bad
def gAll : List D → R D
  | [.lst xs] => (optR (bolsOf xs)).bind fun ns => .ok (.bl (ns.all id))
  | _ => .bad
def gAny : List D → R D
  | [.lst xs] => (optR (bolsOf xs)).bind fun ns => .ok (.bl (ns.any id))
  | _ => .bad
def maxI : List Int → Option Int
  | [] => none
  | n :: ns => some (ns.foldl max n)
def minI : List Int → Option Int
  | [] => none
  | n :: ns => some (ns.foldl min n)
def gMax : List D → R D
  | [.lst xs] => (optR ((intsOf xs).bind maxI)).bind fun n => .ok (.int n)
  | [.int i, .int j] => .ok (.int (if j > i then j else i))
  | _ => .bad
def gMin : List D → R D
  | [.lst xs] => (optR ((intsOf xs).bind minI)).bind fun n => .ok (.int n)
  | [.int i, .int j] => .ok (.int (if j < i then j else i))
  | _ => .bad
section
variable {X : Cx} {ca : Cn}
theorem atl1 {K : PySem.W.Frag} {G : Hp} {d : D} {vs : List V} (h : AtL K ca G [d] vs) : ∃ v, vs = [v] ∧ At K ca G d v := by
  obtain ⟨v, r, e, h, t⟩ := h
  cases t
  exact ⟨v, e, h⟩
theorem atl2 {K : PySem.W.Frag} {G : Hp} {d d' : D} {vs : List V} (h : AtL K ca G [d, d'] vs) : ∃ v v', vs = [v, v'] ∧ At K ca G d v ∧ At K ca G d' v' := by
  obtain ⟨v, r, e, h, t⟩ := h
  obtain ⟨v', e', h'⟩ := atl1 t
  subst e'
  exact ⟨v, v', e, h, h'⟩
theorem intsOf_at {K : PySem.W.Frag} {G : Hp} : ∀ {ds : List D} {ns : List Int} {vs : List V}, intsOf ds = some ns → AtL K ca G ds vs → vs = ns.map V.int
  | [], _, _, e, h => by cases e; exact h
  | .int i :: r, ns, vs, e, ⟨v, r', e', h, t⟩ => by
    obtain ⟨ms, e1, e2⟩ := Option.map_eq_some_iff.mp (show (intsOf r).map (i :: ·) = some ns from e)
    subst e2 e'
    cases h
    rw [intsOf_at e1 t]
    rfl
  | .non :: _, _, _, e, _ => by cases e
  | .bl _ :: _, _, _, e, _ => by cases e
  | .str _ :: _, _, _, e, _ => by cases e
  | .ty _ :: _, _, _, e, _ => by cases e
  | .cl _ :: _, _, _, e, _ => by cases e
  | .scr _ :: _, _, _, e, _ => by cases e
  | .lst _ :: _, _, _, e, _ => by cases e
  | .tup _ :: _, _, _, e, _ => by cases e
  | .dK _ :: _, _, _, e, _ => by cases e
  | .dT _ :: _, _, _, e, _ => by cases e
  | .ins _ _ :: _, _, _, e, _ => by cases e
theorem bolsOf_at {K : PySem.W.Frag} {G : Hp} : ∀ {ds : List D} {ns : List Bool} {vs : List V}, bolsOf ds = some ns → AtL K ca G ds vs → vs = ns.map V.bl
  | [], _, _, e, h => by cases e; exact h
  | .bl i :: r, ns, vs, e, ⟨v, r', e', h, t⟩ => by
    obtain ⟨ms, e1, e2⟩ := Option.map_eq_some_iff.mp (show (bolsOf r).map (i :: ·) = some ns from e)
    subst e2 e'
    cases h
    rw [bolsOf_at e1 t]
    rfl
  | .non :: _, _, _, e, _ => by cases e
  | .int _ :: _, _, _, e, _ => by cases e
  | .str _ :: _, _, _, e, _ => by cases e
  | .ty _ :: _, _, _, e, _ => by cases e
  | .cl _ :: _, _, _, e, _ => by cases e
  | .scr _ :: _, _, _, e, _ => by cases e
  | .lst _ :: _, _, _, e, _ => by cases e
  | .tup _ :: _, _, _, e, _ => by cases e
  | .dK _ :: _, _, _, e, _ => by cases e
  | .dT _ :: _, _, _, e, _ => by cases e
  | .ins _ _ :: _, _, _, e, _ => by cases e
theorem vn_len : VN X ca (fun xs H Q => ∃ x n, xs = [x] ∧ LenV X.K x H n ∧ Q (.int n) H) gLen := by
  intro G H W1 xs ds Q s a w
  unfold gLen at w
  split at w
  · obtain ⟨v, rfl, a1⟩ := atl1 a
    cases a1
    split at w
    · rename_i z; exact ⟨.str _, _, rfl, ⟨z, rfl⟩, w.here s _ rfl⟩
    · exact w.elim
  · obtain ⟨v, rfl, p, vs, rfl, h1, h2⟩ := atl1 a
    exact ⟨.ref p, _, rfl, .inl ⟨vs, .of (s _ _ h1), h2.length⟩, w.here s _ rfl⟩
  · obtain ⟨v, rfl, p, vs, rfl, h1, h2⟩ := atl1 a
    exact ⟨.ref p, _, rfl, .inr ⟨vs, tq s h1, h2.length⟩, w.here s _ rfl⟩
  · obtain ⟨v, rfl, p, o, vs, rfl, oo, h1, h2⟩ := atl1 a
    exact ⟨.ref p, _, rfl, .inr ⟨vs, .inl (.inr ⟨o, s _ _ h1⟩), h2.length⟩, w.here s _ rfl⟩
  · obtain ⟨v, rfl, p, rfl, h1⟩ := atl1 a
    exact ⟨.ref p, _, rfl, .inl ⟨_, SqL_mono s h1, (List.length_map ..).symm⟩, w.here s _ rfl⟩
  · exact w.elim
theorem vn_abs : VN X ca (fun xs H Q => ∃ i, xs = [.int i] ∧ Q (.int (if i < 0 then -i else i)) H) gAbs := by
  intro G H W1 xs ds Q s a w
  unfold gAbs at w
  split at w
  · obtain ⟨v, rfl, a1⟩ := atl1 a
    cases a1
    exact ⟨_, rfl, w.here s _ rfl⟩
  · exact w.elim
theorem vn_int : VN X ca (fun xs H Q => (∃ i, xs = [.int i] ∧ Q (.int i) H) ∨ ∃ k, xs = [.bl k] ∧ Q (.int (if k then 1 else 0)) H) gInt := by
  intro G H W1 xs ds Q s a w
  unfold gInt at w
  split at w
  · obtain ⟨v, rfl, a1⟩ := atl1 a
    cases a1
    exact .inl ⟨_, rfl, w.here s _ rfl⟩
  · obtain ⟨v, rfl, a1⟩ := atl1 a
    cases a1
    exact .inr ⟨_, rfl, w.here s _ rfl⟩
  · exact w.elim
theorem vn_list : VN X ca (fun xs H Q => ∃ p ys, xs = [.ref p] ∧ (SqL X.K H p ys ∨ SqT X.K H p ys) ∧ ∀ l, H l = none → Q (.ref l) (upd H l (.lst ys))) gList := by
  intro G H W1 xs ds Q s a w
  unfold gList at w
  split at w
  · obtain ⟨v, rfl, p, vs, rfl, h1, h2⟩ := atl1 a
    exact ⟨p, vs, rfl, .inl (.of (s _ _ h1)), fun l n => new_lst s w h2 n⟩
  · obtain ⟨v, rfl, p, vs, rfl, h1, h2⟩ := atl1 a
    exact ⟨p, vs, rfl, .inr (tq s h1), fun l n => new_lst s w h2 n⟩
  · obtain ⟨v, rfl, p, o, vs, rfl, oo, h1, h2⟩ := atl1 a
    exact ⟨p, vs, rfl, .inr (.inl (.inr ⟨o, s _ _ h1⟩)), fun l n => new_lst s w h2 n⟩
  · obtain ⟨v, rfl, p, rfl, h1⟩ := atl1 a
    exact ⟨p, _, rfl, .inl (SqL_mono s h1), fun l n => new_lst s w (AtL.of_ints _) n⟩
  · exact w.elim
theorem vn_tuple : VN X ca (fun xs H Q => ∃ p ys, xs = [.ref p] ∧ ((SqL X.K H p ys ∧ ∀ l, H l = none → Q (.ref l) (upd H l (.tup ys))) ∨ (SqT X.K H p ys ∧ Q (.ref p) H))) gTuple := by
  intro G H W1 xs ds Q s a w
  unfold gTuple at w
  split at w
  · obtain ⟨v, rfl, p, vs, rfl, h1, h2⟩ := atl1 a
    exact ⟨p, vs, rfl, .inl ⟨.of (s _ _ h1), fun l n => new_tup s w h2 n⟩⟩
  · obtain ⟨v, rfl, p, vs, rfl, h1, h2⟩ := atl1 a
    exact ⟨p, vs, rfl, .inr ⟨tq s h1, w.here s _ ⟨p, vs, rfl, h1, h2⟩⟩⟩
  · obtain ⟨v, rfl, p, o, vs, rfl, oo, h1, h2⟩ := atl1 a
    exact ⟨p, vs, rfl, .inr ⟨.inl (.inr ⟨o, s _ _ h1⟩), w.here s _ ⟨p, o, vs, rfl, oo, h1, h2⟩⟩⟩
  · exact w.elim
theorem vn_sum : VN X ca (rSum X.K) gSum := by
  intro G H W1 xs ds Q s a w
  unfold gSum at w
  split at w
  · obtain ⟨ns, e, w⟩ := wish_opt w
    obtain ⟨v, rfl, p, vs, rfl, h1, h2⟩ := atl1 a
    rw [intsOf_at e h2] at h1
    exact ⟨p, ns, rfl, .of (s _ _ h1), w.here s _ rfl⟩
  · exact w.elim
theorem vn_all : VN X ca (rAll X.K) gAll := by
  intro G H W1 xs ds Q s a w
  unfold gAll at w
  split at w
  · obtain ⟨ns, e, w⟩ := wish_opt w
    obtain ⟨v, rfl, p, vs, rfl, h1, h2⟩ := atl1 a
    rw [bolsOf_at e h2] at h1
    exact ⟨p, ns, rfl, .of (s _ _ h1), w.here s _ rfl⟩
  · exact w.elim
theorem vn_any : VN X ca (rAny X.K) gAny := by
  intro G H W1 xs ds Q s a w
  unfold gAny at w
  split at w
  · obtain ⟨ns, e, w⟩ := wish_opt w
    obtain ⟨v, rfl, p, vs, rfl, h1, h2⟩ := atl1 a
    rw [bolsOf_at e h2] at h1
    exact ⟨p, ns, rfl, .of (s _ _ h1), w.here s _ rfl⟩
  · exact w.elim
theorem foldl_max (ns : List Int) : ∀ n : Int, (ns.foldl max n = n ∨ ns.foldl max n ∈ ns) ∧ n ≤ ns.foldl max n ∧ ∀ y ∈ ns, y ≤ ns.foldl max n := by
  induction ns with
  | nil => intro n; exact ⟨.inl rfl, Int.le_refl _, fun y h => by cases h⟩
  | cons m ns ih =>
    intro n
    obtain ⟨h1, h2, h3⟩ := ih (max n m)
    rw [List.foldl_cons]
    refine ⟨?_, by omega, fun y h => ?_⟩
    · rcases h1 with h1 | h1
      · rw [h1]
        by_cases z : n ≤ m
        · exact .inr (by rw [Int.max_eq_right z]; exact List.mem_cons_self)
        · exact .inl (by omega)
      · exact .inr (List.mem_cons_of_mem _ h1)
    · rcases List.mem_cons.mp h with rfl | h
      · omega
      · exact h3 y h
theorem foldl_min (ns : List Int) : ∀ n : Int, (ns.foldl min n = n ∨ ns.foldl min n ∈ ns) ∧ ns.foldl min n ≤ n ∧ ∀ y ∈ ns, ns.foldl min n ≤ y := by
  induction ns with
  | nil => intro n; exact ⟨.inl rfl, Int.le_refl _, fun y h => by cases h⟩
  | cons m ns ih =>
    intro n
    obtain ⟨h1, h2, h3⟩ := ih (min n m)
    rw [List.foldl_cons]
    refine ⟨?_, by omega, fun y h => ?_⟩
    · rcases h1 with h1 | h1
      · rw [h1]
        by_cases z : n ≤ m
        · exact .inl (by omega)
        · exact .inr (by rw [Int.min_eq_right (by omega)]; exact List.mem_cons_self)
      · exact .inr (List.mem_cons_of_mem _ h1)
    · rcases List.mem_cons.mp h with rfl | h
      · omega
      · exact h3 y h
theorem call_maxA (hc : X.calm = true) : CallR X (.builtin "max") (fun xs H Q => rMax X.K xs H Q ∨ ∃ i j, xs = [.int i, .int j] ∧ Q (.int (if j > i then j else i)) H) := (cr_max hc).or (call_max2 hc)
theorem call_minA (hc : X.calm = true) : CallR X (.builtin "min") (fun xs H Q => rMin X.K xs H Q ∨ ∃ i j, xs = [.int i, .int j] ∧ Q (.int (if j < i then j else i)) H) := (cr_min hc).or (call_min2 hc)
theorem vn_max : VN X ca (fun xs H Q => rMax X.K xs H Q ∨ ∃ i j, xs = [.int i, .int j] ∧ Q (.int (if j > i then j else i)) H) gMax := by
  intro G H W1 xs ds Q s a w
  unfold gMax at w
  split at w
  · obtain ⟨n, e, w⟩ := wish_opt w
    obtain ⟨ns, e1, e2⟩ := Option.bind_eq_some_iff.mp e
    obtain ⟨v, rfl, p, vs, rfl, h1, h2⟩ := atl1 a
    rw [intsOf_at e1 h2] at h1
    cases ns with
    | nil => cases e2
    | cons m ns =>
      cases e2
      obtain ⟨f1, f2, f3⟩ := foldl_max ns m
      refine .inl ⟨p, m :: ns, rfl, .of (s _ _ h1), Nat.succ_pos _, fun k hk hmax => ?_⟩
      have : k = ns.foldl max m := by
        have g1 : ns.foldl max m ∈ m :: ns := by
          rcases f1 with f1 | f1
          · rw [f1]; exact List.mem_cons_self
          · exact List.mem_cons_of_mem _ f1
        have g2 := hmax _ g1
        have g3 : k ≤ ns.foldl max m := by
          rcases List.mem_cons.mp hk with rfl | hk
          · exact f2
          · exact f3 k hk
        omega
      rw [this]
      exact w.here s _ rfl
  · obtain ⟨v, v', rfl, a1, a2⟩ := atl2 a
    cases a1; cases a2
    exact .inr ⟨_, _, rfl, w.here s _ rfl⟩
  · exact w.elim
theorem vn_min : VN X ca (fun xs H Q => rMin X.K xs H Q ∨ ∃ i j, xs = [.int i, .int j] ∧ Q (.int (if j < i then j else i)) H) gMin := by
  intro G H W1 xs ds Q s a w
  unfold gMin at w
  split at w
  · obtain ⟨n, e, w⟩ := wish_opt w
    obtain ⟨ns, e1, e2⟩ := Option.bind_eq_some_iff.mp e
    obtain ⟨v, rfl, p, vs, rfl, h1, h2⟩ := atl1 a
    rw [intsOf_at e1 h2] at h1
    cases ns with
    | nil => cases e2
    | cons m ns =>
      cases e2
      obtain ⟨f1, f2, f3⟩ := foldl_min ns m
      refine .inl ⟨p, m :: ns, rfl, .of (s _ _ h1), Nat.succ_pos _, fun k hk hmin => ?_⟩
      have : k = ns.foldl min m := by
        have g1 : ns.foldl min m ∈ m :: ns := by
          rcases f1 with f1 | f1
          · rw [f1]; exact List.mem_cons_self
          · exact List.mem_cons_of_mem _ f1
        have g2 := hmin _ g1
        have g3 : ns.foldl min m ≤ k := by
          rcases List.mem_cons.mp hk with rfl | hk
          · exact f2
          · exact f3 k hk
        omega
      rw [this]
      exact w.here s _ rfl
  · obtain ⟨v, v', rfl, a1, a2⟩ := atl2 a
    cases a1; cases a2
    exact .inr ⟨_, _, rfl, w.here s _ rfl⟩
  · exact w.elim
end
end Tk

namespace Tk
open PySem PySem.Spec L2 PyProof.Rows
/-! ### what a for walks -/
def signs (z : Str) : List D := z.cps.toList.map fun c => .str ⟨#[c]⟩
def gIt : D → R (List D)
  | .lst xs => .ok xs
  | .tup xs => .ok xs
  | .tpz xs => .ok xs
  | .tp0 => .ok []
  | .str z => .ok (signs z)
  | .scr ns => .ok (ns.map .int)
  | _ => .bad
def iSq (fa : Ev → R D) : Ev → R (List D) := fun ρ => (fa ρ).bind gIt
def small62 (i : Int) : Prop := -(2 ^ 62) ≤ i ∧ i < 2 ^ 62
instance (i : Int) : Decidable (small62 i) := by unfold small62; infer_instance
def rgD (lo : Int) (n : Nat) : List D := (List.range n).map fun (k : Nat) => .int (lo + (k : Int))
def iR1 (fa : Ev → R D) : Ev → R (List D) := fun ρ => (fa ρ).bind fun d => match d with
  | .int j => if small62 j then .ok (rgD 0 j.toNat) else .bad
  | _ => .bad
def iR2 (fa fb : Ev → R D) : Ev → R (List D) := fun ρ => (fa ρ).bind fun a => (fb ρ).bind fun b => match a, b with
  | .int i, .int j => if small62 i ∧ small62 j then .ok (rgD i (j - i).toNat) else .bad
  | _, _ => .bad
def enumD (k : Nat) : List D → List D
  | [] => []
  | d :: r => .tup [.int (k : Int), d] :: enumD (k + 1) r
def iEn (fa : Ev → R D) : Ev → R (List D) := fun ρ => (fa ρ).bind fun d => match d with
  | .lst xs => .ok (enumD 0 xs)
  | _ => .bad
def zipD : List D → List D → List D
  | d :: r, e :: s => .tup [d, e] :: zipD r s
  | _, _ => []
def iZp (fa fb : Ev → R D) : Ev → R (List D) := fun ρ => (fa ρ).bind fun a => (fb ρ).bind fun b => match a, b with
  | .lst xs, .lst ys => .ok (zipD xs ys)
  | .tup xs, .tup ys => .ok (zipD xs ys)
  | _, _ => .bad
section
variable {K : PySem.W.Frag} {ca : Cn} {G0 : Hp}
theorem jok_list {a : Addr} {ds : List D} {vs : List V} (h : SqL K G0 a vs) (r : AtL K ca G0 ds vs) : JOk K ca G0 (Itl K a) ds := by
  intro G H s1 s2 i
  have q : SqL K H a vs := SqL_mono s2 (SqL_mono s1 h)
  refine ⟨fun d e => ?_, fun l => ⟨vs, q, by rw [← r.length]; omega⟩⟩
  obtain ⟨v, e1, a1⟩ := r.get e
  refine ⟨⟨vs, v, q, e1⟩, fun x H' y => ⟨G, by rw [y.1]; exact .refl s2, ?_⟩⟩
  have := y.2 vs q
  rw [e1] at this
  cases this
  exact At.mono s1 a1
theorem jok_tup {a : Addr} {ds : List D} {vs : List V} (h : SqT K G0 a vs) (r : AtL K ca G0 ds vs) : JOk K ca G0 (Itt K a) ds := by
  intro G H s1 s2 i
  have q : SqT K H a vs := SqT_mono s2 (SqT_mono s1 h)
  refine ⟨fun d e => ?_, fun l => ⟨vs, q, by rw [← r.length]; omega⟩⟩
  obtain ⟨v, e1, a1⟩ := r.get e
  refine ⟨⟨vs, v, q, e1⟩, fun x H' y => ⟨G, by rw [y.1]; exact .refl s2, ?_⟩⟩
  have := y.2 vs q
  rw [e1] at this
  cases this
  exact At.mono s1 a1
theorem jok_str {z : Str} : JOk K ca G0 (Its z) (signs z) := by
  intro G H s1 s2 i
  have hl : (signs z).length = z.cps.size := by unfold signs; rw [List.length_map, Array.length_toList]
  refine ⟨fun d e => ?_, fun l => Nat.le_of_eq (hl.symm.trans l)⟩
  have hi : i < z.cps.size := by rw [← hl]; exact (List.getElem?_eq_some_iff.mp e).1
  refine ⟨hi, fun x H' y => ⟨G, by rw [y.1]; exact .refl s2, ?_⟩⟩
  obtain ⟨c, e1, e2⟩ := y.2
  unfold signs at e
  rw [List.getElem?_map, Array.getElem?_toList, e1] at e
  cases e
  exact e2
theorem jok_rg {lo : Int} {n : Nat} : JOk K ca G0 (Itr lo n) (rgD lo n) := by
  intro G H s1 s2 i
  have hl : (rgD lo n).length = n := by unfold rgD; rw [List.length_map, List.length_range]
  refine ⟨fun d e => ?_, fun l => Nat.le_of_eq (hl.symm.trans l)⟩
  have hi : i < n := by rw [← hl]; exact (List.getElem?_eq_some_iff.mp e).1
  refine ⟨hi, fun x H' y => ⟨G, by rw [y.1]; exact .refl s2, ?_⟩⟩
  unfold rgD at e
  rw [List.getElem?_map, List.getElem?_range hi] at e
  cases e
  exact y.2
theorem enumD_get : ∀ (ds : List D) (k i : Nat), (enumD k ds)[i]? = ds[i]?.map fun d => .tup [.int ((k + i : Nat) : Int), d]
  | [], k, i => by simp [enumD]
  | d :: r, k, 0 => by simp [enumD]
  | d :: r, k, i + 1 => by
    show (enumD (k + 1) r)[i]? = r[i]?.map _
    rw [enumD_get r (k + 1) i]
    rw [show k + 1 + i = k + (i + 1) by omega]
theorem enumD_len : ∀ (ds : List D) (k : Nat), (enumD k ds).length = ds.length
  | [], k => rfl
  | d :: r, k => congrArg Nat.succ (enumD_len r (k + 1))
theorem zipD_get : ∀ (ds es : List D) (i : Nat), (zipD ds es)[i]? = (match ds[i]?, es[i]? with | some d, some e => some (.tup [d, e]) | _, _ => none)
  | [], es, i => by simp [zipD]
  | d :: r, [], i => by cases h : (d :: r)[i]? <;> simp [zipD]
  | d :: r, e :: s, 0 => by simp [zipD]
  | d :: r, e :: s, i + 1 => by
    show (zipD r s)[i]? = _
    rw [zipD_get r s i]
    rfl
theorem zipD_len : ∀ (ds es : List D), (zipD ds es).length = min ds.length es.length
  | [], es => by simp [zipD]
  | d :: r, [] => by simp [zipD]
  | d :: r, e :: s => by
    show (zipD r s).length + 1 = _
    rw [zipD_len r s, List.length_cons, List.length_cons]
    omega
theorem pair_at {G H : Hp} {T : Addr} {x y : V} {d e : D} (s : Same G H) (n : H T = none) (a : At K ca G d x) (b : At K ca G e y) : ∃ G', Ext G H G' (upd H T (.tup [x, y])) ∧ At K ca G' (.tup [d, e]) (.ref T) := by
  refine ⟨upd G T (.tup [x, y]), Ext.new s n, T, [x, y], rfl, upd_same, ?_⟩
  have m := same_upd (o := .tup [x, y]) (same_none s n)
  exact ⟨x, [y], rfl, At.mono m a, y, [], rfl, At.mono m b, rfl⟩
theorem jok_enum {a : Addr} {ds : List D} {vs : List V} (h : SqL K G0 a vs) (r : AtL K ca G0 ds vs) : JOk K ca G0 (Ite K a) (enumD 0 ds) := by
  intro G H s1 s2 i
  have q : SqL K H a vs := SqL_mono s2 (SqL_mono s1 h)
  refine ⟨fun d e => ?_, fun l => ⟨vs, q, by rw [enumD_len] at l; rw [← r.length]; omega⟩⟩
  rw [enumD_get] at e
  obtain ⟨d0, e0, e1⟩ := Option.map_eq_some_iff.mp e
  obtain ⟨v, e2, a1⟩ := r.get e0
  refine ⟨⟨vs, v, q, e2⟩, fun x H' y => ?_⟩
  obtain ⟨T, x0, rfl, n, rfl, hx⟩ := y
  have := hx vs q
  rw [e2] at this
  cases this
  subst e1
  refine pair_at s2 n ?_ (At.mono s1 a1)
  rw [Nat.zero_add]
  rfl
theorem jok_zip {a b : Addr} {ds es : List D} {vs ws : List V} (h : SqL K G0 a vs) (h' : SqL K G0 b ws) (r : AtL K ca G0 ds vs) (r' : AtL K ca G0 es ws) : JOk K ca G0 (L2.Itz K a b) (zipD ds es) := by
  intro G H s1 s2 i
  have q : SqL K H a vs := SqL_mono s2 (SqL_mono s1 h)
  have q' : SqL K H b ws := SqL_mono s2 (SqL_mono s1 h')
  refine ⟨fun d e => ?_, fun l => ⟨vs, ws, q, q', by rw [zipD_len, r.length, r'.length] at l; omega⟩⟩
  rw [zipD_get] at e
  cases e0 : ds[i]? with
  | none => rw [e0] at e; cases e
  | some d0 =>
    cases e1 : es[i]? with
    | none => rw [e0, e1] at e; cases e
    | some d1 =>
      rw [e0, e1] at e
      cases e
      obtain ⟨v, e2, a1⟩ := r.get e0
      obtain ⟨w, e3, a2⟩ := r'.get e1
      refine ⟨⟨vs, ws, v, w, q, q', e2, e3⟩, fun x H' y => ?_⟩
      obtain ⟨T, x0, y0, rfl, n, rfl, hx, hy⟩ := y
      have z1 := hx vs q
      have z2 := hy ws q'
      rw [e2] at z1
      rw [e3] at z2
      cases z1; cases z2
      exact pair_at s2 n (At.mono s1 a1) (At.mono s1 a2)
theorem jok_zipT {a b : Addr} {ds es : List D} {vs ws : List V} (h : SqT K G0 a vs) (h' : SqT K G0 b ws) (r : AtL K ca G0 ds vs) (r' : AtL K ca G0 es ws) : JOk K ca G0 (RZ.ItzT K a b) (zipD ds es) := by
  intro G H s1 s2 i
  have q : SqT K H a vs := SqT_mono s2 (SqT_mono s1 h)
  have q' : SqT K H b ws := SqT_mono s2 (SqT_mono s1 h')
  refine ⟨fun d e => ?_, fun l => ⟨vs, ws, q, q', by rw [zipD_len, r.length, r'.length] at l; omega⟩⟩
  rw [zipD_get] at e
  cases e0 : ds[i]? with
  | none => rw [e0] at e; cases e
  | some d0 =>
    cases e1 : es[i]? with
    | none => rw [e0, e1] at e; cases e
    | some d1 =>
      rw [e0, e1] at e
      cases e
      obtain ⟨v, e2, a1⟩ := r.get e0
      obtain ⟨w, e3, a2⟩ := r'.get e1
      refine ⟨⟨vs, ws, v, w, q, q', e2, e3⟩, fun x H' y => ?_⟩
      obtain ⟨T, x0, y0, rfl, n, rfl, hx, hy⟩ := y
      have z1 := hx vs q
      have z2 := hy ws q'
      rw [e2] at z1
      rw [e3] at z2
      cases z1; cases z2
      exact pair_at s2 n (At.mono s1 a1) (At.mono s1 a2)
end
theorem pi_or {X : Cx} {tg it : Expr} {w1 w2 : TI} (h1 : PI X tg it w1) (h2 : PI X tg it w2) : PI X tg it (fun σ H R => w1 σ H R ∨ w2 σ H R) :=
  ⟨fun pins s σ H R I h => h.elim (h1.run pins s σ H R I) (h2.run pins s σ H R I)⟩
theorem pe_or2 {X : Cx} {e : Expr} {w1 w2 : TE} (h1 : PE X e w1) (h2 : PE X e w2) : PE X e (fun σ H R => w1 σ H R ∨ w2 σ H R) :=
  ⟨fun pins s σ H R I h => h.elim (h1.run pins s σ H R I) (h2.run pins s σ H R I)⟩
section
variable {X : Cx} {ca : Cn} {W : WX} {tg e e' : Expr} {es : List Expr} {fa fb : Ev → R D} {fl : Ev → R (List D)} {p pos : Pos}
theorem fi_sq (h : FE X ca W e fa) : FI X ca W tg e (iSq fa) := by
  obtain ⟨t, p, k⟩ := h.ex
  refine ⟨_, pi_or (pi_or (pi_list p) (pi_tup p)) (pi_str p), fun B G H σ ρ Q s b r h => ?_⟩
  unfold iSq at h
  -- which of the three is known ahead: the mirror's value
  cases z : fa ρ with
  | bad => rw [z] at h; exact h.elim
  | exc x =>
    refine .inl (.inl (k B G H σ ρ _ s b r ?_))
    rw [z] at h ⊢
    exact h
  | ok d =>
    have hw : ∀ ds, gIt d = .ok ds → ∀ Q1 : VK, (∀ v G1 H1, Ext G H G1 H1 → Wish X.K ca (fun G' ds H' => ∀ J, JOk X.K ca G' J ds → Q J H') G1 H1 (.ok ds) (WE W σ) → At X.K ca G1 d v → Q1 v H1) → Wish X.K ca (SV X.K ca Q1) G H (fa ρ) (WE W σ) := fun ds e Q1 hq => by
      refine Wish.bind (k := gIt) h fun d' G1 H1 e1 x1 w1 v a1 => ?_
      rw [z] at e1
      cases e1
      rw [e] at w1
      exact hq v G1 H1 x1 w1 a1
    cases d with
    | lst xs =>
      refine .inl (.inl (k B G H σ ρ _ s b r (hw xs rfl _ fun v G1 H1 x1 w1 a1 => ?_)))
      obtain ⟨q, vs, rfl, h1, h2⟩ := a1
      exact ⟨q, rfl, ⟨vs, .of (x1.gh _ _ h1)⟩, w1.here x1.gh _ (jok_list (.of h1) h2)⟩
    | scr ns =>
      refine .inl (.inl (k B G H σ ρ _ s b r (hw _ rfl _ fun v G1 H1 x1 w1 a1 => ?_)))
      obtain ⟨q, rfl, h1⟩ := a1
      exact ⟨q, rfl, ⟨_, SqL_mono x1.gh h1⟩, w1.here x1.gh _ (jok_list h1 (AtL.of_ints _))⟩
    | tup xs =>
      refine .inl (.inr (k B G H σ ρ _ s b r (hw xs rfl _ fun v G1 H1 x1 w1 a1 => ?_)))
      obtain ⟨q, vs, rfl, h1, h2⟩ := a1
      exact ⟨q, rfl, ⟨vs, tq x1.gh h1⟩, w1.here x1.gh _ (jok_tup (tq (.refl _) h1) h2)⟩
    | tp0 =>
      refine .inl (.inr (k B G H σ ρ _ s b r (hw [] rfl _ fun v G1 H1 x1 w1 a1 => ?_)))
      obtain ⟨q, rfl, h1⟩ := a1
      exact ⟨q, rfl, ⟨[], SqT_mono x1.gh h1⟩, w1.here x1.gh _ (jok_tup h1 rfl)⟩
    | tpz xs =>
      refine .inl (.inr (k B G H σ ρ _ s b r (hw xs rfl _ fun v G1 H1 x1 w1 a1 => ?_)))
      obtain ⟨q, o, vs, rfl, oo, h1, h2⟩ := a1
      exact ⟨q, rfl, ⟨vs, .inl (.inr ⟨o, x1.gh _ _ h1⟩)⟩, w1.here x1.gh _ (jok_tup (.inl (.inr ⟨o, h1⟩)) h2)⟩
    | str x =>
      refine .inr (k B G H σ ρ _ s b r (hw _ rfl _ fun v G1 H1 x1 w1 a1 => ?_))
      cases a1
      exact ⟨x, rfl, w1.here x1.gh _ jok_str⟩
    | _ => rw [z] at h; exact h.elim
theorem fi_r1 (hg : Gl X "range") (hm : X.mg "range" = none) (h : FE X ca W e fa) (hs : starEach [e] X.env = [(false, eval e X.env)] := by rfl) : FI X ca W tg (.Call (.Name "range" p) [e] [] pos) (iR1 fa) := by
  obtain ⟨t, p, k⟩ := h.ex
  refine ⟨_, pi_range1 hg hm (pa_cons p pa_nil hs) hs, fun B G H σ ρ Q s b r h => ?_⟩
  refine k B G H σ ρ _ s b r (Wish.bind h fun d G1 H1 e1 x1 w1 v a1 => ?_)
  cases d with
  | int j =>
    cases a1
    have w2 : Wish X.K ca (fun G' ds H' => ∀ J, JOk X.K ca G' J ds → Q J H') G1 H1 (if small62 j then .ok (rgD 0 j.toNat) else .bad) (WE W σ) := w1
    split at w2
    · rename_i z; exact ⟨_, rfl, z.1, z.2, w2.here x1.gh _ jok_rg⟩
    · exact w2.elim
  | _ => exact w1.elim
theorem fi_r2 (hg : Gl X "range") (hm : X.mg "range" = none) (h : FE X ca W e fa) (h' : FE X ca W e' fb) (hs : starEach [e, e'] X.env = (false, eval e X.env) :: starEach [e'] X.env := by rfl) (hs' : starEach [e'] X.env = (false, eval e' X.env) :: starEach [] X.env := by rfl) (hs2 : starEach [e, e'] X.env = [(false, eval e X.env), (false, eval e' X.env)] := by rfl) :
    FI X ca W tg (.Call (.Name "range" p) [e, e'] [] pos) (iR2 fa fb) := by
  obtain ⟨t, p, k⟩ := h.ex
  obtain ⟨u, q, l⟩ := h'.ex
  refine ⟨_, pi_range2 hg hm (pa_cons p (pa_cons q pa_nil hs') hs) hs2 hs', fun B G H σ ρ Q s b r h => ?_⟩
  refine k B G H σ ρ _ s b r (Wish.bind h fun d G1 H1 e1 x1 w1 v a1 => ?_)
  refine l B G1 H1 σ ρ _ x1.gh (b.trans x1.hh) (r.ext x1) (Wish.bind w1 fun d2 G2 H2 e2 x2 w2 v2 a2 => ?_)
  cases d with
  | int i =>
    cases d2 with
    | int j =>
      cases a1
      cases a2
      have w3 : Wish X.K ca (fun G' ds H' => ∀ J, JOk X.K ca G' J ds → Q J H') G2 H2 (if small62 i ∧ small62 j then .ok (rgD i (j - i).toNat) else .bad) (WE W σ) := w2
      split at w3
      · rename_i z; exact ⟨_, _, rfl, ⟨z.1.1, z.1.2, z.2.1, z.2.2⟩, w3.here x2.gh _ jok_rg⟩
      · exact w3.elim
    | _ => exact w2.elim
  | _ => exact w2.elim
theorem fi_en {elts : List Expr} {kk : Nat} {tpos : Pos} (hg : Gl X "enumerate") (hm : X.mg "enumerate" = none) (h : FE X ca W e fa) (hs : starEach [e] X.env = [(false, eval e X.env)] := by rfl) : FI X ca W (.Tuple elts kk tpos) (.Call (.Name "enumerate" p) [e] [] pos) (iEn fa) := by
  obtain ⟨t, p, k⟩ := h.ex
  refine ⟨_, pi_enum hg hm (pa_cons p pa_nil hs) hs, fun B G H σ ρ Q s b r h => ?_⟩
  refine k B G H σ ρ _ s b r (Wish.bind h fun d G1 H1 e1 x1 w1 v a1 => ?_)
  cases d with
  | lst xs =>
    obtain ⟨q, vs, rfl, h1, h2⟩ := a1
    exact ⟨q, vs, rfl, .of (x1.gh _ _ h1), w1.here x1.gh _ (jok_enum (.of h1) h2)⟩
  | _ => exact w1.elim
theorem fi_zp {elts : List Expr} {kk : Nat} {tpos : Pos} (hg : Gl X "zip") (hm : X.mg "zip" = none) (h : FE X ca W e fa) (h' : FE X ca W e' fb) (hs : starEach [e, e'] X.env = (false, eval e X.env) :: starEach [e'] X.env := by rfl) (hs' : starEach [e'] X.env = (false, eval e' X.env) :: starEach [] X.env := by rfl)
    (hpl : (backTo pos (starEach [e'] X.env)).any (·.1) = false := by rfl) : FI X ca W (.Tuple elts kk tpos) (.Call (.Name "zip" p) [e, e'] [] pos) (iZp fa fb) := by
  obtain ⟨t, p, k⟩ := h.ex
  obtain ⟨u, q, l⟩ := h'.ex
  refine ⟨_, RZ.pi_zipA hg hm (pa_cons p (pa_cons q pa_nil hs') hs) hs hpl, fun B G H σ ρ Q s b r h => ?_⟩
  refine k B G H σ ρ _ s b r (Wish.bind h fun d G1 H1 e1 x1 w1 v a1 => ?_)
  refine l B G1 H1 σ ρ _ x1.gh (b.trans x1.hh) (r.ext x1) (Wish.bind w1 fun d2 G2 H2 e2 x2 w2 v2 a2 => ?_)
  have a3 := At.mono x2.gg a1
  cases d with
  | lst xs =>
    cases d2 with
    | lst ys =>
      obtain ⟨q, vs, rfl, h1, h2⟩ := a3
      obtain ⟨q', ws, rfl, h3, h4⟩ := a2
      exact ⟨q, q', vs, ws, rfl, .inl ⟨.of (x2.gh _ _ h1), .of (x2.gh _ _ h3), w2.here x2.gh _ (jok_zip (.of h1) (.of h3) h2 h4)⟩⟩
    | _ => exact w2.elim
  | tup xs =>
    cases d2 with
    | tup ys =>
      obtain ⟨q, vs, rfl, h1, h2⟩ := a3
      obtain ⟨q', ws, rfl, h3, h4⟩ := a2
      exact ⟨q, q', vs, ws, rfl, .inr ⟨tq x2.gh h1, tq x2.gh h3, w2.here x2.gh _ (jok_zipT (tq (.refl _) h1) (tq (.refl _) h3) h2 h4)⟩⟩
    | _ => exact w2.elim
  | _ => exact w2.elim
end
end Tk

namespace Tk
open PySem PySem.Spec L2 PyProof.Rows
/-! ### comprehensions -/
abbrev W0 : WX := fun _ _ _ _ => False
/-- the widest readings of a mirror -/
def tE (K : PySem.W.Frag) (ca : Cn) (W : WX) (f : Ev → R D) : TE := fun σ H Q => ∃ B G ρ, Same G H ∧ Same B H ∧ Rel K ca B G H σ ρ ∧ Wish K ca (SV K ca Q) G H (f ρ) (WE W σ)
def tT (K : PySem.W.Frag) (ca : Cn) (W : WX) (f : Ev → R Bool) : TT := fun σ H Q => ∃ B G ρ, Same G H ∧ Same B H ∧ Rel K ca B G H σ ρ ∧ Wish K ca (SB Q) G H (f ρ) (WE W σ)
def tGc (K : PySem.W.Frag) (ca : Cn) (zs : List Nat) (h : Tg) : TG := fun v σ H Q => ∃ B G ρ d, Same G H ∧ Same B H ∧ Rel K ca B G H σ ρ ∧ At K ca G d v ∧ ∃ ρ', h d ρ = some ρ' ∧ ∀ σ', Rel K ca B G H σ' ρ' → wipe σ' zs = wipe σ zs → Q σ' H
section
variable {X : Cx} {ca : Cn} {W : WX} {zs : List Nat} {e tg : Expr} {f : Ev → R D} {ft : Ev → R Bool} {h : Tg}
theorem FE.can (a : FE X ca W e f) : PE X e (tE X.K ca W f) := by
  obtain ⟨t, p, k⟩ := a.ex
  exact ⟨fun pins s σ H Q I ⟨B, G, ρ, h1, h2, h3, h4⟩ => p.run pins s σ H Q I (k B G H σ ρ Q h1 h2 h3 h4)⟩
theorem FT.can (a : FT X ca W e ft) : PT X e (tT X.K ca W ft) := by
  obtain ⟨t, p, k⟩ := a.ex
  exact ⟨fun pins s σ H Q I ⟨B, G, ρ, h1, h2, h3, h4⟩ => p.run pins s σ H Q I (k B G H σ ρ Q h1 h2 h3 h4)⟩
theorem FG.can (a : FG X ca zs tg h) : PG X tg (tGc X.K ca zs h) := by
  obtain ⟨t, p, k⟩ := a.ex
  exact ⟨fun pins s σ H v u Q I r ⟨B, G, ρ, d, h1, h2, h3, h4, h5⟩ => p.run pins s σ H v u Q I r (k B G H σ ρ d v Q h1 h2 h3 h4 h5)⟩
structure FTs (X : Cx) (ca : Cn) (W : WX) (es : List Expr) (f : Ev → R Bool) : Prop where
  ex : PTs X es (tT X.K ca W f)
def tsY : Ev → R Bool := fun _ => .ok true
theorem fts_nil : FTs X ca W [] tsY := ⟨⟨fun pins s σ H Q I ⟨B, G, ρ, h1, h2, h3, h4⟩ => pts_nil.run pins s σ H Q I (h4.here h1)⟩⟩
theorem fts_one (a : FT X ca W e ft) : FTs X ca W [e] ft := ⟨pts_one a.can⟩
end
def wipeE (ρ : Ev) : List Nat → Ev
  | [] => ρ
  | v :: vs => (wipeE ρ vs).set v .no
def R.quiet {α : Type} (r : R α) : R α := match r with
  | .ok a => .ok a
  | _ => .bad
@[simp] theorem quiet_ok {α : Type} (a : α) : R.quiet (.ok a) = .ok a := (rfl)
@[simp] theorem quiet_bad {α : Type} : R.quiet (.bad : R α) = .bad := (rfl)
def lcL (h : Tg) (t : Ev → R Bool) (fe : Ev → R D) (ρ : Ev) : List D → R (List D)
  | [] => .ok []
  | d :: ds => (optR (h d ρ)).bind fun ρ1 => (t ρ1).quiet.bind fun b => if b = true then (fe ρ1).quiet.bind fun y => (lcL h t fe ρ ds).bind fun r => .ok (y :: r) else lcL h t fe ρ ds
def eLc (zs : List Nat) (fi : Ev → R (List D)) (h : Tg) (t : Ev → R Bool) (fe : Ev → R D) : Ev → R D := fun ρ => (fi ρ).bind fun ds => if ds.length ≤ sizeLine then (lcL h t fe (wipeE ρ zs) ds).bind fun rs => .ok (.lst rs) else .bad
section
variable {K : PySem.W.Frag} {ca : Cn} {B G H : Hp} {σ : L2.St} {ρ : Ev}
theorem Rel.unset (r : Rel K ca B G H σ ρ) (i : Nat) : Rel K ca B G H (σ.set i none) (ρ.set i .no) where
  len := by rw [List.length_set, List.length_set]; exact r.len
  val := fun j d q => by
    rcases getElem?_set' q with ⟨rfl, z⟩ | ⟨ne, q⟩
    · cases z
    · obtain ⟨v, h1, h2⟩ := r.val j d q
      exact ⟨v, by rw [List.getElem?_set_ne (Ne.symm ne)]; exact h1, h2⟩
  own := fun j s q ho => by
    rcases getElem?_set' q with ⟨rfl, z⟩ | ⟨ne, q⟩
    · rw [z] at ho; cases ho
    · obtain ⟨a, h1, h2⟩ := r.own j s q ho
      exact ⟨a, by rw [List.getElem?_set_ne (Ne.symm ne)]; exact h1, h2⟩
  sep := fun j k s t a qj oj qk ok hj hk => by
    rcases getElem?_set' qj with ⟨rfl, z⟩ | ⟨nj, qj⟩
    · rw [z] at oj; cases oj
    · rcases getElem?_set' qk with ⟨rfl, z⟩ | ⟨nk, qk⟩
      · rw [z] at ok; cases ok
      · rw [List.getElem?_set_ne (Ne.symm nj)] at hj
        rw [List.getElem?_set_ne (Ne.symm nk)] at hk
        exact r.sep j k s t a qj oj qk ok hj hk
  exc := fun j x q => by
    rcases getElem?_set' q with ⟨rfl, z⟩ | ⟨ne, q⟩
    · cases z
    · obtain ⟨a, c, dx, h1, h2⟩ := r.exc j x q
      exact ⟨a, c, dx, by rw [List.getElem?_set_ne (Ne.symm ne)]; exact h1, h2⟩
theorem Rel.wipe (r : Rel K ca B G H σ ρ) : ∀ zs : List Nat, Rel K ca B G H (L2.wipe σ zs) (wipeE ρ zs)
  | [] => r
  | z :: zs => (Rel.wipe r zs).unset z
end
theorem wipe_sub {σ : L2.St} {zs : List Nat} : ∀ ys : List Nat, (∀ i ∈ ys, i ∈ zs) → L2.wipe (L2.wipe σ ys) zs = L2.wipe σ zs
  | [], _ => rfl
  | y :: ys, h => by
    show L2.wipe ((L2.wipe σ ys).set y none) zs = _
    rw [wipe_set (h y List.mem_cons_self), wipe_sub ys fun i m => h i (List.mem_cons_of_mem _ m)]
theorem wipe_idem (σ : L2.St) (zs : List Nat) : L2.wipe (L2.wipe σ zs) zs = L2.wipe σ zs := wipe_sub zs fun _ h => h
theorem wish_quiet {ca : Cn} {α β : Type} {K : PySem.W.Frag} {S : Hp → β → Hp → Prop} {G H : Hp} {r : R α} {k : α → R β} {W1 : XK} (h : Wish K ca S G H (r.quiet.bind k) W1) : ∃ x, r = .ok x ∧ Wish K ca S G H (k x) W1 := by
  cases r with
  | ok x => exact ⟨x, rfl, h⟩
  | exc x => exact h.elim
  | bad => exact h.elim
/-- what is known at turn i of the comprehension that fills D -/
def LcW (K : PySem.W.Frag) (ca : Cn) (h : Tg) (t : Ev → R Bool) (fe : Ev → R D) (ρw : Ev) (D : Addr) (ds : List Tk.D) (B G1 H1 : Hp) (σw : L2.St) (W1 : XK) (Q : VK) (i : Nat) (H : Hp) : Prop :=
  ∃ G acc vs, Ext G1 H1 G H ∧ G D = none ∧ H D = some (.lst vs) ∧ AtL K ca G acc vs ∧ acc.length ≤ i ∧ Same B H ∧ Rel K ca B G H σw ρw ∧
    Wish K ca (SV K ca Q) G1 H1 ((lcL h t fe ρw (ds.drop i)).bind fun rs => .ok (.lst (acc ++ rs))) W1
section
variable {X : Cx} {ca : Cn} {W : WX} {zs : List Nat} {elt tg iter : Expr} {ifs : List Expr} {scope : Scope} {own : List (Str × Nat)} {pos : Pos} {fi : Ev → R (List D)} {h : Tg} {ft : Ev → R Bool} {fe : Ev → R D}
theorem lc_tail {tl : TI} (ki : ∀ B G H σ ρ (Q : It → Hp → Prop), Same G H → Same B H → Rel X.K ca B G H σ ρ → Wish X.K ca (fun G' ds H' => ∀ J, JOk X.K ca G' J ds → Q J H') G H (fi ρ) (WE W σ) → tl σ H Q)
    (B G H : Hp) (σ : L2.St) (ρ : Ev) (Q : VK) (s : Same G H) (b : Same B H) (r : Rel X.K ca B G H σ ρ) (w : Wish X.K ca (SV X.K ca Q) G H (eLc zs fi h ft fe ρ) (WE W σ)) :
    tLc tl (tGc X.K ca zs h) (tT X.K ca W0 ft) (tE X.K ca W0 fe) zs σ H Q := by
  refine ki B G H σ ρ _ s b r (Wish.bind w fun ds G1 H1 _ x1 w1 J hj => ?_)
  intro D hD
  split at w1
  rename_i hlen
  have gD : G1 D = none := same_none x1.gh hD
  have b1 := b.trans x1.hh
  have r1 := (r.ext x1).wipe zs
  have e0 : Ext G1 H1 G1 (upd H1 D (.lst [])) := ⟨same_upd hD, .refl _, x1.gh.trans (same_upd hD), fun a z => .inl z⟩
  refine ⟨fun i m H => m = ds.length - i ∧ i ≤ ds.length ∧ LcW X.K ca h ft fe (wipeE ρ zs) D ds B G1 H1 (L2.wipe σ zs) (WE W σ) Q i H, ⟨_, rfl, Nat.zero_le _, G1, [], [], e0, gD, upd_same, rfl, Nat.le_refl _, b1.trans e0.hh, r1.ext e0, by rw [List.drop_zero]; exact w1⟩, ?_⟩
  rintro i m H2 ⟨rfl, hi, G2, acc, vs, e2, g2, d2, a2, l2, b2, r2, w2⟩
  obtain ⟨j1, j2⟩ := hj G2 H2 e2.gg e2.gh i
  by_cases hlt : i < ds.length
  · rw [List.drop_eq_getElem_cons hlt] at w2
    obtain ⟨go, yl⟩ := j1 ds[i] (by simp [hlt])
    refine .inr ⟨go, fun H' => LcW X.K ca h ft fe (wipeE ρ zs) D ds B G1 H1 (L2.wipe σ zs) (WE W σ) Q (i + 1) H', fun H' q => ⟨ds.length - (i + 1), by omega, rfl, hlt, q⟩, fun x H3 yy => ?_⟩
    obtain ⟨G3, x3, a3⟩ := yl x H3 yy
    have r3 := r2.ext x3
    have b3 := b2.trans x3.hh
    -- what stays of the new list, wherever the block's own expressions lay things
    have stay : ∀ {G4 H4 : Hp}, Ext G3 H3 G4 H4 → G4 D = none ∧ H4 D = some (.lst vs) ∧ AtL X.K ca G4 acc vs ∧ Ext G1 H1 G4 H4 ∧ Same B H4 ∧ Rel X.K ca B G4 H4 (L2.wipe σ zs) (wipeE ρ zs) := fun {G4 H4} x4 => by
      have x5 := x3.trans x4
      refine ⟨?_, x5.hh _ _ d2, AtL.mono x5.gg a2, e2.trans x5, b2.trans x5.hh, r2.ext x5⟩
      cases q : G4 D with
      | none => rfl
      | some u =>
        rcases x5.nw D (by rw [q]; simp) with z | z
        · exact absurd g2 z
        · exact (z.no d2 fun _ y => nomatch y).elim
    have w3 : Wish X.K ca (SV X.K ca Q) G1 H1 (((optR (h ds[i] (wipeE ρ zs))).bind fun ρ1 => (ft ρ1).quiet.bind fun b => if b = true then (fe ρ1).quiet.bind fun y => (lcL h ft fe (wipeE ρ zs) (ds.drop (i + 1))).bind fun r => .ok (y :: r) else lcL h ft fe (wipeE ρ zs) (ds.drop (i + 1))).bind fun rs => .ok (.lst (acc ++ rs))) (WE W σ) := w2
    cases z1 : h ds[i] (wipeE ρ zs) with
    | none => rw [z1] at w3; exact w3.elim
    | some ρ1 =>
      rw [z1] at w3
      refine ⟨B, G3, wipeE ρ zs, ds[i], x3.gh, b3, r3, a3, ρ1, z1, fun σ4 r4 e4 => ⟨e4.trans (wipe_idem σ zs), B, G3, ρ1, x3.gh, b3, r4, ?_⟩⟩
      cases z2 : ft ρ1 with
      | exc x => simp only [optR_some, bind_ok, z2] at w3; exact w3.elim
      | bad => simp only [optR_some, bind_ok, z2] at w3; exact w3.elim
      | ok bb =>
        simp only [optR_some, bind_ok, z2, quiet_ok] at w3
        intro G5 H5 x5
        show if bb = true then _ else _
        cases bb with
        | false =>
          rw [if_neg Bool.false_ne_true] at w3 ⊢
          obtain ⟨s1, s2, s3, s4, s5, s6⟩ := stay x5
          exact ⟨G5, acc, vs, s4, s1, s2, s3, by omega, s5, s6, w3⟩
        | true =>
          rw [if_pos rfl] at w3 ⊢
          refine ⟨B, G5, ρ1, x5.gh, b3.trans x5.hh, r4.ext x5, ?_⟩
          cases z3 : fe ρ1 with
          | exc x => simp only [z3] at w3; exact w3.elim
          | bad => simp only [z3] at w3; exact w3.elim
          | ok y =>
            simp only [z3, quiet_ok, bind_ok] at w3
            intro G6 H6 x6 v av
            obtain ⟨s1, s2, s3, s4, s5, s6⟩ := stay (x5.trans x6)
            have hl := s3.length
            refine ⟨vs, s2, by omega, G6, acc ++ [y], vs ++ [v], ?_, s1, upd_same, s3.append (.one av), by rw [List.length_append]; exact Nat.succ_le_succ l2, ?_, ?_, ?_⟩
            · -- the list's own place is the only one that turned
              have nD : ∀ c o, H1 c = some o → c ≠ D := fun c o q z => by rw [z, hD] at q; cases q
              have nG : ∀ c o, G6 c = some o → c ≠ D := fun c o q z => by rw [z, s1] at q; cases q
              exact ⟨fun c o q => by rw [upd_ne (nD c o q)]; exact s4.hh c o q, s4.gg, fun c o q => by rw [upd_ne (nG c o q)]; exact s4.gh c o q, s4.nw⟩
            · have nB : ∀ c o, B c = some o → c ≠ D := fun c o q z => by
                have := b1 c o q
                rw [z, hD] at this
                cases this
              exact fun c o q => by rw [upd_ne (nB c o q)]; exact s5 c o q
            · refine ⟨s6.len, s6.val, fun k s' q ho => ?_, s6.sep, s6.exc⟩
              obtain ⟨a', t1, t2, t3, t4⟩ := s6.own k s' q ho
              refine ⟨a', t1, t2.ext (.refl _) ?_, t3, t4⟩
              -- an own object of the frame stood ahead of the new list
              obtain ⟨a0, u1, u2, u3, u4⟩ := r1.own k s' q ho
              rw [t1] at u1
              cases u1
              obtain ⟨o, u5⟩ := u2.some
              rw [upd_ne (fun z => by rw [z, hD] at u5; cases u5)]
            · cases z4 : lcL h ft fe (wipeE ρ zs) (ds.drop (i + 1)) with
              | ok rs =>
                rw [z4] at w3
                rw [bind_ok, List.append_assoc]
                exact w3
              | exc x => rw [z4] at w3; exact w3
              | bad => rw [z4] at w3; exact w3
  · have e : i = ds.length := by omega
    subst e
    rw [List.drop_length] at w2
    have w3 : Wish X.K ca (SV X.K ca Q) G1 H1 (.ok (.lst (acc ++ []))) (WE W σ) := w2
    rw [List.append_nil] at w3
    refine .inl ⟨j2 rfl, w3 (upd G2 D (.lst vs)) H2 ⟨e2.hh, e2.gg.trans (same_upd g2), fun c o q => ?_, fun c q => ?_⟩ (.ref D) ⟨D, vs, rfl, upd_same, AtL.mono (same_upd g2) a2⟩⟩
    · by_cases z : c = D
      · subst z; rw [upd_same] at q; cases q; exact d2
      · rw [upd_ne z] at q; exact e2.gh c o q
    · by_cases z : c = D
      · subst z; exact .inr (.inl hD)
      · rw [upd_ne z] at q; exact e2.nw c q
  · exact w1.elim
theorem fe_lc (hc : X.calm = true) (hN : X.N.Nodup) (hi : FI X ca W tg iter fi) (ok : BlkOk X.N X.env.scope scope own)
    (hg : ∀ (s : Shared) (H : Hp) (C : Addr) (cl : List (Str × Addr)) (fp : List Addr), FG (X.blk s H scope (compEnvC scope cl C X.env) fp) ca (own.map (·.2)) tg h) (ht : ∀ (s : Shared) (H : Hp) (C : Addr) (cl : List (Str × Addr)) (fp : List Addr), FTs (X.blk s H scope (compEnvC scope cl C X.env) fp) ca W0 ifs ft)
    (he : ∀ (s : Shared) (H : Hp) (C : Addr) (cl : List (Str × Addr)) (fp : List Addr), FE (X.blk s H scope (compEnvC scope cl C X.env) fp) ca W0 elt fe) (hs : ∀ x, foldedSetIterable iter X.env x = pure x := by intro _; rfl) :
    FE X ca W (.ListComp elt [⟨tg, iter, ifs, 0⟩] scope pos) (eLc (own.map (·.2)) fi h ft fe) := by
  obtain ⟨tl, pl, ki⟩ := hi.ex
  refine ⟨_, pe_lc (g := tGc X.K ca (own.map (·.2)) h) (tt := tT X.K ca W0 ft) (te := tE X.K ca W0 fe) hc hN pl ok (fun s H C cl fp => (hg s H C cl fp).can) (fun s H C cl fp => (ht s H C cl fp).ex) (fun s H C cl fp => (he s H C cl fp).can) hs, fun B G H σ ρ Q s b r w => ?_⟩
  exact lc_tail ki B G H σ ρ Q s b r w
/-- name = [..] -/
theorem fs_setLc {i : Nat} {y : Str} {py spos : Pos} (hc : X.calm = true) (hN : X.N.Nodup) (hy : X.N[i]? = some y) (hyl : X.env.scope.names.lookup y = some .local) (hsw : swapsWith (.ListComp elt [⟨tg, iter, ifs, 0⟩] scope pos) (some (.Name y py)) spos.line X.env = pure true)
    (hi : FI X ca W tg iter fi) (ok : BlkOk X.N X.env.scope scope own)
    (hg : ∀ (s : Shared) (H : Hp) (C : Addr) (cl : List (Str × Addr)) (fp : List Addr), FG (X.blk s H scope (compEnvC scope cl C X.env) fp) ca (own.map (·.2)) tg h) (ht : ∀ (s : Shared) (H : Hp) (C : Addr) (cl : List (Str × Addr)) (fp : List Addr), FTs (X.blk s H scope (compEnvC scope cl C X.env) fp) ca W0 ifs ft)
    (he : ∀ (s : Shared) (H : Hp) (C : Addr) (cl : List (Str × Addr)) (fp : List Addr), FE (X.blk s H scope (compEnvC scope cl C X.env) fp) ca W0 elt fe) (hs : ∀ x, foldedSetIterable iter X.env x = pure x := by intro _; rfl) :
    FS X ca W (.Assign [.Name y py] (.ListComp elt [⟨tg, iter, ifs, 0⟩] scope pos) spos) (sSet i (eLc (own.map (·.2)) fi h ft fe)) := by
  obtain ⟨tl, pl, ki⟩ := hi.ex
  refine ⟨_, ps_setLc (g := tGc X.K ca (own.map (·.2)) h) (tt := tT X.K ca W0 ft) (te := tE X.K ca W0 fe) hc hN hy hyl hsw pl ok (fun s H C cl fp => (hg s H C cl fp).can) (fun s H C cl fp => (ht s H C cl fp).ex) (fun s H C cl fp => (he s H C cl fp).can) hs, fun B G H σ ρ D s b r w => ?_⟩
  refine lc_tail ki B G H σ ρ _ s b r ?_
  exact WishS.from w b r fun a G1 H1 _ x w1 r1 b1 v av => w1 _ G1 H1 (.refl x.gh b1) (r1.set i av)
end
end Tk

namespace Tk
open PySem PySem.Spec L2 PyProof.Rows
/-! ### own objects: freezing, lending -/
def frzA (ρ : Ev) : Ev := ρ.map frzS
def frzE (i : Nat) (ρ : Ev) : Ev := match ρ[i]? with
  | some s => ρ.set i (frzS s)
  | none => ρ
def sFrz (i : Nat) (g : Ev → SO) : Ev → SO := fun ρ => g (frzE i ρ)
def scalD : D → Bool
  | .non => true
  | .bl _ => true
  | .int _ => true
  | .str _ => true
  | _ => false
def eBor (f : Ev → R D) : Ev → R D := fun ρ => (f (frzA ρ)).quiet.bind fun d => if scalD d = true then .ok d else .bad
def tBor (f : Ev → R Bool) : Ev → R Bool := fun ρ => (f (frzA ρ)).quiet
section
variable {K : PySem.W.Frag} {ca : Cn} {B G H G' H' : Hp} {σ : L2.St} {ρ : Ev}
theorem frz_not_own (s : Sl) : (frzS s).own = false := by cases s <;> rfl
theorem frz_v {s : Sl} (h : s.own = false) : frzS s = s := by cases s <;> first | rfl | cases h
theorem frzA_x {i : Nat} {x : Ex} (h : (Tk.frzA ρ)[i]? = some (.x x)) : ρ[i]? = some (.x x) := by
  unfold Tk.frzA at h
  rw [List.getElem?_map] at h
  obtain ⟨u, q1, q2⟩ := Option.map_eq_some_iff.mp h
  cases u <;> first | (cases q2; exact q1) | cases q2
theorem exc_mono {i : Nat} {x : Ex} (r : Rel K ca B G H σ ρ) (s : Same G G') (h : ρ[i]? = some (.x x)) : ∃ a c dx, σ[i]? = some (some (.ref a)) ∧ ca.φ a c dx ∧ ExAt K ca G' x c dx :=
  let ⟨a, c, dx, h1, h2, h3⟩ := r.exc i x h; ⟨a, c, dx, h1, h2, h3.mono s⟩
theorem Rel.frzA (r : Rel K ca B G H σ ρ) (s : Same G H) : Rel K ca B H H σ (frzA ρ) := by
  have no : ∀ (i : Nat) (t : Sl), (Tk.frzA ρ)[i]? = some t → t.own = true → False := fun i t q o => by
    unfold Tk.frzA at q
    rw [List.getElem?_map] at q
    obtain ⟨u, _, q2⟩ := Option.map_eq_some_iff.mp q
    rw [← q2, frz_not_own] at o
    cases o
  refine ⟨by unfold Tk.frzA; rw [List.length_map]; exact r.len, fun i d q => ?_, fun i t q o => (no i t q o).elim, fun i j t u a q o => (no i t q o).elim, fun i x q => exc_mono r s (frzA_x q)⟩
  unfold Tk.frzA at q
  rw [List.getElem?_map] at q
  obtain ⟨u, q1, q2⟩ := Option.map_eq_some_iff.mp q
  cases o : u.own with
  | false =>
    rw [frz_v o] at q2
    subst q2
    obtain ⟨v, h1, h2⟩ := r.val i d q1
    exact ⟨v, h1, At.mono s h2⟩
  | true =>
    obtain ⟨a, h1, h2, h3, h4⟩ := r.own i u q1 o
    obtain ⟨d', e1, e2⟩ := h2.at_ s rfl
    rw [e1] at q2
    cases q2
    exact ⟨_, h1, e2⟩
theorem scal_at {d : D} {v : V} (h : scalD d = true) (a : At K ca G d v) : At K ca G' d v := by
  cases d with
  | non => exact a
  | bl _ => exact a
  | int _ => exact a
  | str _ => exact a
  | _ => cases h
theorem set_same {i : Nat} {s : Sl} (h : ρ[i]? = some s) : ρ.set i s = ρ := by
  apply List.ext_getElem?
  intro j
  by_cases e : i = j
  · subst e
    rw [List.getElem?_set_self (List.getElem?_eq_some_iff.mp h).1, h]
  · rw [List.getElem?_set_ne e]
/-- one slot's object is frozen -/
theorem Rel.frz (r : Rel K ca B G H σ ρ) (s : Same G H) (b : Same B H) (i : Nat) : ∃ G', Adv B G G' H ∧ Rel K ca B G' H σ (frzE i ρ) := by
  unfold frzE
  split
  · rename_i t q
    cases o : t.own with
    | false =>
      rw [frz_v o, set_same q]
      exact ⟨G, .refl s b, r⟩
    | true =>
      obtain ⟨a, h1, h2, h3, h4⟩ := r.own i t q o
      obtain ⟨ob, h5⟩ := h2.some
      have gg : Same G (upd G a ob) := same_upd h3
      have gh : Same (upd G a ob) H := fun c u e => by
        by_cases z : c = a
        · subst z; rw [upd_same] at e; rw [h5]; exact e
        · rw [upd_ne z] at e; exact s c u e
      obtain ⟨d', e1, e2⟩ := h2.at_ gg (show upd G a ob a = H a by rw [upd_same, h5])
      refine ⟨upd G a ob, ⟨gg, gh, b, fun c n => ?_⟩, ?_⟩
      · by_cases z : c = a
        · subst z; exact .inr (.inl h4)
        · rw [upd_ne z] at n; exact .inl n
      · rw [e1]
        refine ⟨by rw [List.length_set]; exact r.len, fun j d w => ?_, fun j u w o' => ?_, fun j k u u' c w o' w' o'' x y => ?_, fun j x w => ?_⟩
        rotate_left 3
        · rcases getElem?_set' w with ⟨rfl, z⟩ | ⟨ne, w⟩
          · cases z
          · exact exc_mono r gg w
        · rcases getElem?_set' w with ⟨rfl, z⟩ | ⟨ne, w⟩
          · cases z; exact ⟨_, h1, e2⟩
          · obtain ⟨v, t1, t2⟩ := r.val j d w
            exact ⟨v, t1, At.mono gg t2⟩
        · rcases getElem?_set' w with ⟨rfl, z⟩ | ⟨ne, w⟩
          · rw [z] at o'; cases o'
          · obtain ⟨c, t1, t2, t3, t4⟩ := r.own j u w o'
            refine ⟨c, t1, t2.ext gg rfl, ?_, t4⟩
            rw [upd_ne fun z => ne (r.sep j i u t a w o' q o (by rw [← z]; exact t1) h1)]
            exact t3
        · rcases getElem?_set' w with ⟨rfl, z⟩ | ⟨nj, w⟩
          · rw [z] at o'; cases o'
          · rcases getElem?_set' w' with ⟨rfl, z⟩ | ⟨nk, w'⟩
            · rw [z] at o''; cases o''
            · exact r.sep j k u u' c w o' w' o'' x y
  · exact ⟨G, .refl s b, r⟩
/-- one slot's own object is changed -/
theorem Rel.turn (r : Rel K ca B G H σ ρ) (s : Same G H) (b : Same B H) {i : Nat} {t t' : Sl} {a : Addr} {o : HO} (q : ρ[i]? = some t) (ot : t.own = true) (ot' : t'.own = true) (ha : σ[i]? = some (some (.ref a))) (h : Own K ca G (upd H a o) a t') :
    Rel K ca B G (upd H a o) σ (ρ.set i t') ∧ Same G (upd H a o) ∧ Same B (upd H a o) := by
  obtain ⟨a', h1, h2, h3, h4⟩ := r.own i t q ot
  rw [ha] at h1
  cases h1
  refine ⟨⟨by rw [List.length_set]; exact r.len, fun j d w => ?_, fun j u w o' => ?_, fun j k u u' c w o' w' o'' x y => ?_, fun j x w => ?_⟩, fun c u e => ?_, fun c u e => ?_⟩
  rotate_left 3
  · rcases getElem?_set' w with ⟨rfl, z⟩ | ⟨ne, w⟩
    · rw [← z] at ot'; cases ot'
    · exact r.exc j x w
  rotate_left 2
  · rcases getElem?_set' w with ⟨rfl, z⟩ | ⟨ne, w⟩
    · rw [← z] at ot'; cases ot'
    · exact r.val j d w
  · rcases getElem?_set' w with ⟨rfl, z⟩ | ⟨ne, w⟩
    · subst z; exact ⟨a, ha, h, h3, h4⟩
    · obtain ⟨c, t1, t2, t3, t4⟩ := r.own j u w o'
      refine ⟨c, t1, t2.ext (.refl _) ?_, t3, t4⟩
      rw [upd_ne fun z => ne (r.sep j i u t a w o' q ot (by rw [← z]; exact t1) ha)]
  · have up : ∀ {j : Nat} {u : Sl}, (ρ.set i t')[j]? = some u → u.own = true → ∃ u0, ρ[j]? = some u0 ∧ u0.own = true := fun {j u} w o' => by
      rcases getElem?_set' w with ⟨rfl, z⟩ | ⟨ne, w⟩
      · exact ⟨t, q, ot⟩
      · exact ⟨u, w, o'⟩
    obtain ⟨u0, z1, z2⟩ := up w o'
    obtain ⟨u1, z3, z4⟩ := up w' o''
    exact r.sep j k u0 u1 c z1 z2 z3 z4 x y
  · rw [upd_ne fun z => by rw [z, h3] at e; cases e]; exact s c u e
  · rw [upd_ne fun z => by rw [z, h4] at e; cases e]; exact b c u e
end
section
variable {X : Cx} {ca : Cn} {W : WX} {e : Expr} {st : Stmt} {sts : List Stmt} {f : Ev → R D} {ft : Ev → R Bool} {g : Ev → SO} {pos : Pos}
theorem fs_frz (i : Nat) (h : FS X ca W st g) : FS X ca W st (sFrz i g) := by
  obtain ⟨t, p, k⟩ := h.ex
  refine ⟨t, p, fun B G H σ ρ D s b r w => ?_⟩
  obtain ⟨G', a, r'⟩ := r.frz s b i
  exact k B G' H σ _ D a.gh b r' (WishS.mono w a)
theorem fe_bor (h : FE X ca W e f) : FE X ca W e (eBor f) := by
  obtain ⟨t, p, k⟩ := h.ex
  refine ⟨t, p, fun B G H σ ρ Q s b r w => k B H H σ _ Q (.refl H) b (r.frzA s) ?_⟩
  obtain ⟨d, e1, w⟩ := wish_quiet w
  rw [e1]
  split at w
  · rename_i hs
    intro G' H' x v a
    exact w G H' ⟨x.hh, .refl _, s.trans x.hh, fun c z => .inl z⟩ v (scal_at hs a)
  · exact w.elim
theorem ft_bor (h : FT X ca W e ft) : FT X ca W e (tBor ft) := by
  obtain ⟨t, p, k⟩ := h.ex
  refine ⟨t, p, fun B G H σ ρ Q s b r w => k B H H σ _ Q (.refl H) b (r.frzA s) ?_⟩
  unfold tBor at w
  cases z : ft (frzA ρ) with
  | ok d =>
    rw [z] at w
    intro G' H' x
    exact w G H' ⟨x.hh, .refl _, s.trans x.hh, fun c z => .inl z⟩
  | exc x => rw [z] at w; exact w.elim
  | bad => rw [z] at w; exact w.elim
end
/-! ### new lists that stay the frame's own -/
def WishF (K : PySem.W.Frag) (ca : Cn) (G H : Hp) (r : R (List D)) (Q : VK) (W1 : XK) : Prop := Wish K ca (fun G' ds H' => ∀ p vs, H p = none → G' p = none → H' p = some (.lst vs) → AtL K ca G' ds vs → Q (.ref p) H') G H r W1
structure FL (X : Cx) (ca : Cn) (W : WX) (e : Expr) (f : Ev → R (List D)) : Prop where
  ex : ∃ t, PE X e t ∧ ∀ B G H σ ρ Q, Same G H → Same B H → Rel X.K ca B G H σ ρ → WishF X.K ca G H (f ρ) Q (WE W σ) → t σ H Q
def lDisp (fl : Ev → R (List D)) : Ev → R (List D) := fun ρ => (fl ρ).bind fun ds => if ds.length ≤ sizeLine then .ok ds else .bad
def lList (f : Ev → R D) : Ev → R (List D) := fun ρ => (f ρ).bind fun d => match d with
  | .lst xs => .ok xs
  | .tup xs => .ok xs
  | .scr ns => .ok (ns.map .int)
  | _ => .bad
def sOwn (i : Nat) (f : Ev → R (List D)) : Ev → SO := fun ρ => SO.from ρ (f ρ) fun ds => .nx (ρ.set i (.l ds))
def ownL (ρ : Ev) (i : Nat) : R (List D) := match ρ[i]? with
  | some (.l xs) => .ok xs
  | _ => .bad
def sApp (i : Nat) (f : Ev → R D) : Ev → SO := fun ρ => SO.from ρ (ownL ρ i) fun xs => SO.from ρ (f ρ) fun d => if xs.length < sizeLine then .nx (ρ.set i (.l (xs ++ [d]))) else .bad
section
variable {X : Cx} {ca : Cn} {W : WX} {e o : Expr} {es : List Expr} {f : Ev → R D} {fl : Ev → R (List D)} {pos apos cpos p : Pos}
theorem own_l {K : PySem.W.Frag} {B G H : Hp} {σ : L2.St} {ρ : Ev} {i : Nat} {xs : List D} (h : ownL ρ i = .ok xs) (r : Rel K ca B G H σ ρ) : ρ[i]? = some (.l xs) ∧ ∃ a vs, σ[i]? = some (some (.ref a)) ∧ H a = some (.lst vs) ∧ AtL K ca G xs vs ∧ G a = none ∧ B a = none := by
  unfold ownL at h
  split at h
  · rename_i ys q
    cases h
    obtain ⟨a, h1, ⟨vs, h2, h3⟩, h4, h5⟩ := r.own i _ q rfl
    exact ⟨q, a, vs, h1, h2, h3, h4, h5⟩
  · cases h
theorem fl_lst (h : FA X ca W es fl) : FL X ca W (.List es pos) (lDisp fl) := by
  obtain ⟨t, p, k⟩ := h.ex
  refine ⟨_, pe_lst p, fun B G H σ ρ Q s b r h => ?_⟩
  refine k B G H σ ρ _ s b r (Wish.bind (S := fun G' ds H' => ∀ p vs, H p = none → G' p = none → H' p = some (.lst vs) → AtL X.K ca G' ds vs → Q (.ref p) H') h fun ds G1 H1 _ x1 w1 vs a1 => ?_)
  split at w1
  · rename_i z
    refine ⟨by rw [← a1.length]; exact z, fun q n => w1 G1 (upd H1 q (.lst vs)) ⟨same_upd n, .refl _, x1.gh.trans (same_upd n), fun c z => .inl z⟩ q vs (same_none x1.hh n) (same_none x1.gh n) upd_same a1⟩
  · exact w1.elim
theorem fl_list {x : Str} (hg : Gl X x) (hm : X.mg x = none) (hv : bootBuiltins x = some (.type "list")) (h : FE X ca W e f) (hn : x ≠ "__name__" := by decide) (hd : (x == ("__debug__" : Str)) = false := by decide)
    (he : starEach [e] X.env = (false, eval e X.env) :: starEach [] X.env := by rfl) (hpl : (backTo pos (starEach [] X.env)).any (·.1) = false := by rfl) : FL X ca W (.Call (.Name x p) [e] [] pos) (lList f) := by
  obtain ⟨t, pp, k⟩ := h.ex
  refine ⟨_, pe_callTy call_list_of hg hm hv (pa_cons pp pa_nil he) hn hd he hpl, fun B G H σ ρ Q s b r h => ?_⟩
  refine k B G H σ ρ _ s b r (Wish.bind (S := fun G' ds H' => ∀ p vs, H p = none → G' p = none → H' p = some (.lst vs) → AtL X.K ca G' ds vs → Q (.ref p) H') h fun d G1 H1 _ x1 w1 v a1 => ?_)
  have fin : ∀ {xs : List D} {vs : List V}, Wish X.K ca (fun G' ds H' => ∀ p vs, H p = none → G' p = none → H' p = some (.lst vs) → AtL X.K ca G' ds vs → Q (.ref p) H') G1 H1 (.ok xs) (WE W σ) → AtL X.K ca G1 xs vs → ∀ l, H1 l = none → Q (.ref l) (upd H1 l (.lst vs)) :=
    fun w a l n => w G1 _ ⟨same_upd n, .refl _, x1.gh.trans (same_upd n), fun c z => .inl z⟩ l _ (same_none x1.hh n) (same_none x1.gh n) upd_same a
  cases d with
  | lst xs =>
    obtain ⟨q, vs, rfl, h1, h2⟩ := a1
    exact ⟨q, vs, rfl, .inl (.of (x1.gh _ _ h1)), fin w1 h2⟩
  | tup xs =>
    obtain ⟨q, vs, rfl, h1, h2⟩ := a1
    exact ⟨q, vs, rfl, .inr (tq x1.gh h1), fin w1 h2⟩
  | scr ns =>
    obtain ⟨q, rfl, h1⟩ := a1
    exact ⟨q, _, rfl, .inl (SqL_mono x1.gh h1), fin w1 (AtL.of_ints _)⟩
  | _ => exact w1.elim
theorem fs_own {i : Nat} {y : Str} {pos' : Pos} (hN : X.N.Nodup) (hi : X.N[i]? = some y) (h : FL X ca W e fl) (hx : Loc X.env.scope y := by first | exact .inl rfl | exact .inr rfl) (hs : swapsWith e (some (.Name y pos')) pos.line X.env = pure false := by rfl)
    (hf : X.fn y = true ∨ X.env.scope.names.lookup y = some .local := by first | exact .inl rfl | exact .inr rfl | assumption) : FS X ca W (.Assign [.Name y pos'] e pos) (sOwn i fl) := by
  obtain ⟨t, p, kt⟩ := h.ex
  refine ⟨_, ps_set hN hi hx p hs hf, fun B G H σ ρ D s b r h => kt B G H σ ρ _ s b r ?_⟩
  refine WishS.from h b r fun ds G1 H1 _ x w r1 b1 q vs n g hq av => w _ G1 H1 (.refl x.gh b1) ?_
  refine r1.setOwn i rfl ⟨vs, hq, av⟩ g (same_none b n) fun j t' _ q' o' z => ?_
  obtain ⟨a, h1, h2, h3, h4⟩ := r.own j t' q' o'
  rw [z] at h1
  cases h1
  obtain ⟨ob, h5⟩ := h2.some
  rw [n] at h5
  cases h5
/-- x.append(e), x an own list -/
theorem fs_app {i : Nat} {y : Str} {py : Pos} (hi : X.N[i]? = some y) (h : FE X ca W e f) (hv : Vis X.env.scope y := by first | exact Or.inl rfl | exact Or.inr (Or.inl rfl) | exact Or.inr (Or.inr rfl)) (hd : (y == ("__debug__" : Str)) = false := by decide) (hcd : (y == ("__classdict__" : Str)) = false := by decide)
    (he : starEach [e] X.env = (false, eval e X.env) :: starEach [] X.env := by rfl) (hb : attributeBase (.Name y py) "append" X.env (eval (.Name y py) X.env) = eval (.Name y py) X.env := by rfl) (hw : ((backTo cpos (starEach [e] X.env)).all (fun x => !x.1) && (backToKw cpos (keywordEach [] X.env)).all (fun x => x.1.isSome) && decide ([e].length + ([] : List Keyword).length + (if ([] : List Keyword).isEmpty then 0 else 1) < 30)) = true := by rfl)
    (hl : (apos.endLine == cpos.line) = true := by rfl) (hpl : (backTo cpos (starEach [] X.env)).any (·.1) = false := by rfl)
    (hs : swapsWith (.Call (.Attribute (.Name y py) "append" apos) [e] [] cpos) none pos.line X.env = pure false := by rfl) : FS X ca W (.Expr (.Call (.Attribute (.Name y py) "append" apos) [e] [] cpos) pos) (sApp i f) := by
  obtain ⟨t, p, k⟩ := h.ex
  refine ⟨_, ps_expr (pe_bm PySem.F.plainAttrs_list PySem.F.slot_list_append PySem.F.type_list_append mt_append (pe_var hi hv hd hcd) (pa_cons p pa_nil he) hb hw hl he hpl) hs, fun B G H σ ρ D s b r h => ?_⟩
  unfold sApp at h
  cases z : ownL ρ i with
  | ok xs =>
    rw [z] at h
    obtain ⟨q, a, vs, h1, h2, h3, h4, h5⟩ := own_l z r
    refine ⟨_, h1, .inl ⟨rfl, vs, .of h2⟩, k B G H σ ρ _ s b r (WishS.from h b r fun d G1 H1 _ x w r1 b1 v av => ?_)⟩
    split at w
    · rename_i hl
      have l := h3.length
      refine ⟨a, vs, v, rfl, rfl, x.hh _ _ h2, by omega, ?_⟩
      obtain ⟨t1, t2, t3⟩ := r1.turn x.gh b1 (t' := .l (xs ++ [d])) (o := .lst (vs ++ [v])) q rfl rfl h1 ⟨_, upd_same, (AtL.mono x.gg h3).append (.one av)⟩
      exact w _ G1 _ ⟨.refl _, t2, t3, fun c z => .inl z⟩ t1
    · exact w.elim
  | exc x => rw [z] at h; unfold ownL at z; split at z <;> cases z
  | bad => rw [z] at h; exact h.elim
end
end Tk

namespace Tk
open PySem PySem.Spec L2 PyProof.Rows HT
/-! ### t[::-1] of a tuple -/
section
variable {prog : Program} {w : World} {A : Around} {E : Value → Shared → Prop} {s : Shared}
theorem places_rev (n : Nat) : Builtin.Slice.slicePlaces ((n : Int) - 1) (-1) (-1) = n := by
  unfold Builtin.Slice.slicePlaces
  have h1 : ¬ ((-1 : Int) > 0) := by omega
  simp only [h1, if_false]
  have e : -(-1 : Int) = 1 := rfl
  rw [e]
  split
  · rw [Int.ediv_one]; omega
  · omega
theorem pick_rev (xs : Array Value) : ((List.range xs.size).filterMap fun (m : Nat) => xs[(((xs.size : Int) - 1) + (m : Int) * (-1)).toNat]?).toArray = xs.toList.reverse.toArray := by
  have e : (List.range xs.size).filterMap (fun (m : Nat) => xs[(((xs.size : Int) - 1) + (m : Int) * (-1)).toNat]?) = ((List.range xs.size).map fun k => xs.size - 1 - k).filterMap (xs[·]?) := by
    rw [List.filterMap_map]
    have e : ∀ m : Nat, (((xs.size : Int) - 1) + (m : Int) * (-1)).toNat = xs.size - 1 - m := fun m => by omega
    simp only [e]
    rfl
  rw [e, PySem.W.krv_range, List.filterMap_reverse, PySem.W.krv_all]
theorem getItem_tuple_rev {t sl : Addr} {items : Array Value} {vs : Value} {Q : Value → Shared → Prop} (ht : IsTup s.heap t items) (hs : s.heap.IsSliceOf sl .none .none vs) (ps : IsPart vs (some (-1)))
    (h : Q (.ref s.heap.objs.size) { s with heap := s.heap.push { cls := .type "tuple", data := .seq items.toList.reverse.toArray } })
    (hsz : items.size ≤ sizeLine) : wpAny (model prog w) A (getItem (.ref t) (.ref sl)) Q E s := by
  have htake : sizeOk (.seq items.toList.reverse.toArray) := by
    show items.toList.reverse.toArray.size ≤ sizeLine
    rw [List.size_toArray, List.length_reverse, Array.length_toList]
    omega
  obtain ⟨os, hos, hcs, hds⟩ := id hs
  have hTs : s.TypeIs (.ref sl) "slice" := ⟨os, hos, hcs⟩
  unfold getItem
  try with_reducible refine wpAny_holding ?_
  first | refine wpAny_bind (wpAny_pure ?_) | skip
  refine wpAny_bind (wpAny_sequenceKey ht.typeIs (by decide) ?_)
  refine wpAny_bind (wpAny_callSpecial?_slot (name := Str.ofString "__getitem__") ht.typeIs PyProof.Rows.slot_tuple_getitem
    (wpAny_call_entry PyProof.Rows.slot_tuple_getitem ht.typeIs entry_tuple_getitem ?_ (args_tuple_getitem _ _)))
  show wpAny _ _ (Builtin.Tuple.tupleItemsOf (.ref t) >>= _) _ _ s
  refine wpAny_bind (tupleItemsOf_ ht ?_)
  refine wpAny_bind (wpAny_typeOf hTs ?_)
  rw [if_pos (by decide)]
  refine wpAny_bind ?_
  unfold Builtin.Slice.sliceApplied Builtin.Slice.sliceFields
  refine wpAny_bind (wpAny_bind (wpAny_field hos hds (x := .none) rfl (wpAny_bind (wpAny_field hos hds (x := .none) rfl (wpAny_bind (wpAny_field hos hds (x := vs) rfl (wpAny_pure ?_)))))))
  refine wpAny_bind (slicePart_ ps ?_)
  show wpAny _ _ (if ((-1 : Int) == 0) = true then _ else _) _ _ s
  rw [if_neg (by decide)]
  refine wpAny_bind (slicePart_none (wpAny_bind (slicePart_none (wpAny_bind (wpAny_pure ?_)))))
  show wpAny _ _ (pure (((items.size : Int) - 1), (-1 : Int), Builtin.Slice.slicePlaces ((items.size : Int) - 1) (-1) (-1))) _ _ s
  rw [places_rev]
  refine wpAny_pure ?_
  have hno : ¬ (((((items.size : Int) - 1) == 0 && (-1 : Int) == 1) && items.size == items.size) = true) := by
    rw [show ((-1 : Int) == 1) = false by decide]
    simp
  show wpAny _ _ (if (((((items.size : Int) - 1) == 0 && (-1 : Int) == 1) && items.size == items.size) = true) then _ else _) _ _ s
  rw [if_neg hno, pick_rev]
  first
    | exact wpAny_bind (m := Builtin.Tuple.tupleExact _) (wpAny_newObj_type (wpAny_pure ⟨_, rfl, wpAny_pure h⟩) htake)
    | exact wpAny_bind (m := Builtin.Tuple.tupleExact _) (wpAny_newObj_type (wpAny_bind (wpAny_pure (wpAny_pure ⟨_, rfl, wpAny_pure h⟩))) htake)
end
section
variable {X : Cx}
def tRevA (K : PySem.W.Frag) (te : TE) : TE := fun σ H Q => te σ H fun x H1 => (∃ a xs, x = .ref a ∧ SqL K H1 a xs ∧ ∀ p, H1 p = none → Q (.ref p) (upd H1 p (.lst xs.reverse))) ∨ (∃ a xs, x = .ref a ∧ SqT K H1 a xs ∧ ∀ p, H1 p = none → Q (.ref p) (upd H1 p (.tup xs.reverse)))
theorem pe_revA {e : Expr} {te : TE} {k : Nat} {p1 p2 p3 pos : Pos} (he : PE X e te) : PE X (.Subscript e (.Slice none none (some (.UnaryOp .USub (.Constant (.int 1) k p1) p2)) p3) pos) (tRevA X.K te) := by
  refine ⟨fun pins s σ H Q I h => ?_⟩
  refine Subscript_ (thn (he.run pins s σ H _ I h) fun v s1 ⟨x, H1, I1, r1, q1⟩ => ?_)
  have hst : PO X (some (.UnaryOp .USub (.Constant (.int 1) k p1) p2)) (tPart (tUn (rU fun i => .int (-i)) (tC (.int 1)))) := po_some (pe_un un_neg pe_int)
  rcases q1 with ⟨a, xs, ex, hx, q⟩ | ⟨a, xs, ex, hx, q⟩
  · subst ex
    cases r1
    refine wpAny_Slice (thn (po_none.run pins s1 σ H1 (fun o H2 => o = none ∧ H2 = H1) I1 ⟨rfl, rfl⟩) fun vl s2 ⟨l, H2, I2, pl, el, e2⟩ => ?_)
    subst el e2
    refine thn (po_none.run pins s2 σ H2 (fun o H3 => o = none ∧ H3 = H2) I2 ⟨rfl, rfl⟩) fun vu s3 ⟨u, H3, I3, pu, eu, e3⟩ => ?_
    subst eu e3
    refine thn (hst.run pins s3 σ H3 (fun o H4 => o = some (-1) ∧ H4 = H3) I3 ⟨1, rfl, -1, rfl, rfl, rfl⟩) fun vs s4 ⟨o, H4, I4, ps, eo, e4⟩ => ?_
    subst eo e4
    have I5 : Inv X pins σ H4 { s4 with heap := s4.heap.push { cls := .type "slice", data := .fields #[vl, vu, vs] } } := I4.kept (t' := s4.toks) fun b ob q => Heap.get?_push_of_some _ q
    obtain ⟨its, r, ht, hz⟩ := I5.list hx
    have hlen := r.length
    show wpAny (model X.prog X.w) X.A (subscriptTail e (.Slice none none (some (.UnaryOp .USub (.Constant (.int 1) k p1) p2)) p3) (.ref a) (.ref s4.heap.objs.size)) (EP X pins σ Q) X.xe { s4 with heap := s4.heap.push { cls := .type "slice", data := .fields #[vl, vu, vs] } }
    refine tail_any (ops := [.ref a, .ref s4.heap.objs.size]) ht.isList.typeIs (PySem.slot_list_getitem.lookup) ?_ (by with_unfolding_all rfl)
    refine wpAny_getItem_list_slice ht.isList (Heap.IsSliceOf.new _ vl vu vs) pl pu ps (by decide) ?_ (by rw [List.size_toArray]; omega)
    rw [PySem.W.krv_pick]
    refine ⟨.ref _, _, I5.laid (t' := s4.toks) (o := .lst xs.reverse) (fun b ob q => Heap.get?_push_of_some _ q) (Nat.le_refl _) ?_, rfl, q _ (I5.hok.fresh (Nat.le_refl _))⟩
    exact ⟨by rw [List.length_reverse]; exact hz, _, 0, r.reverse, Heap.get?_push_size _ rfl⟩
  · subst ex
    cases r1
    refine wpAny_Slice (thn (po_none.run pins s1 σ H1 (fun o H2 => o = none ∧ H2 = H1) I1 ⟨rfl, rfl⟩) fun vl s2 ⟨l, H2, I2, pl, el, e2⟩ => ?_)
    subst el e2
    refine thn (po_none.run pins s2 σ H2 (fun o H3 => o = none ∧ H3 = H2) I2 ⟨rfl, rfl⟩) fun vu s3 ⟨u, H3, I3, pu, eu, e3⟩ => ?_
    subst eu e3
    refine thn (hst.run pins s3 σ H3 (fun o H4 => o = some (-1) ∧ H4 = H3) I3 ⟨1, rfl, -1, rfl, rfl, rfl⟩) fun vs s4 ⟨o, H4, I4, ps, eo, e4⟩ => ?_
    subst eo e4
    have I5 : Inv X pins σ H4 { s4 with heap := s4.heap.push { cls := .type "slice", data := .fields #[vl, vu, vs] } } := I4.kept (t' := s4.toks) fun b ob q => Heap.get?_push_of_some _ q
    cases pl
    cases pu
    obtain ⟨its, r, ht, hz⟩ := I5.tuple hx
    have hlen := r.length
    show wpAny (model X.prog X.w) X.A (subscriptTail e (.Slice none none (some (.UnaryOp .USub (.Constant (.int 1) k p1) p2)) p3) (.ref a) (.ref s4.heap.objs.size)) (EP X pins σ Q) X.xe { s4 with heap := s4.heap.push { cls := .type "slice", data := .fields #[.none, .none, vs] } }
    refine tail_any (ops := [.ref a, .ref s4.heap.objs.size]) ht.typeIs (PyProof.Rows.slot_tuple_getitem.lookup) ?_ (by with_unfolding_all rfl)
    refine getItem_tuple_rev ht (Heap.IsSliceOf.new _ .none .none vs) ps ?_ (by rw [List.size_toArray]; omega)
    refine ⟨.ref _, _, I5.laid (t' := s4.toks) (o := .tup xs.reverse) (fun b ob q => Heap.get?_push_of_some _ q) (Nat.le_refl _) ?_, rfl, q _ (I5.hok.fresh (Nat.le_refl _))⟩
    exact ⟨by rw [List.length_reverse]; exact hz, _, r.reverse, IsTup.new _ _⟩
end
def gRev : D → R D
  | .lst xs => .ok (.lst xs.reverse)
  | .tup xs => .ok (.tup xs.reverse)
  | _ => .bad
theorem fe_rev {X : Cx} {ca : Cn} {W : WX} {e : Expr} {fa : Ev → R D} {k : Nat} {p1 p2 p3 pos : Pos} (h : FE X ca W e fa) : FE X ca W (.Subscript e (.Slice none none (some (.UnaryOp .USub (.Constant (.int 1) k p1) p2)) p3) pos) (e1 gRev fa) := by
  obtain ⟨t, p, kt⟩ := h.ex
  refine ⟨_, pe_revA p, fun B G H σ ρ Q s b r h => ?_⟩
  refine kt B G H σ ρ _ s b r (Wish.bind h fun d G1 H1 _ x1 w1 v a1 => ?_)
  cases d with
  | lst xs =>
    obtain ⟨q, vs, rfl, h1, h2⟩ := a1
    exact .inl ⟨q, vs, rfl, .of (x1.gh _ _ h1), fun l n => new_lst x1.gh w1 h2.reverse n⟩
  | tup xs =>
    obtain ⟨q, vs, rfl, h1, h2⟩ := a1
    exact .inr ⟨q, vs, rfl, tq x1.gh h1, fun l n => new_tup x1.gh w1 h2.reverse n⟩
  | _ => exact w1.elim
end Tk

namespace Tk
open PySem PySem.Spec L2 PyProof.Rows
/-! ### enumerate and zip over lists and tuples alike: b tells a tuple -/
def SqB (b : Bool) (K : PySem.W.Frag) (H : Hp) (a : Addr) (xs : List V) : Prop := match b with
  | false => SqL K H a xs
  | true => SqT K H a xs
def ItB (b : Bool) (h : Heap) (it a : Addr) (i : Nat) : Prop := match b with
  | false => h.IsListIter it a i
  | true => h.IsTupleIter it a i
def IsB (b : Bool) (h : Heap) (a : Addr) (items : Array Value) : Prop := match b with
  | false => h.IsList a items
  | true => h.IsTuple a items
def obB (b : Bool) (a : Addr) : Obj := match b with
  | false => { cls := .type "list_iterator", data := .fields #[.ref a, .int 0 0] }
  | true => { cls := .type "tuple_iterator", data := .fields #[.ref a, .int 0 0] }
theorem beginsB (b : Bool) (a : Addr) (items : Array Value) : Begins (.ref a) (obB b a) (fun h => IsB b h a items) := by
  cases b with
  | false => exact begins_list a items
  | true => exact begins_tuple a items
theorem itB0 {b : Bool} {h : Heap} {it a : Addr} (e : h.get? it = some (obB b a)) : ItB b h it a 0 := by
  cases b with
  | false => exact ⟨_, e, rfl, rfl⟩
  | true => exact ⟨_, e, rfl, rfl⟩
theorem ItB.there {b : Bool} {h : Heap} {it a : Addr} {i : Nat} (x : ItB b h it a i) : ∃ o, h.get? it = some o ∧ ∀ v, o.data ≠ .cell v := by
  cases b with
  | false => obtain ⟨o, e, _, d⟩ := x; exact ⟨o, e, fun v q => by rw [d] at q; cases q⟩
  | true => obtain ⟨o, e, _, d⟩ := x; exact ⟨o, e, fun v q => by rw [d] at q; cases q⟩
theorem ItB.move {b : Bool} {h h' : Heap} {it a : Addr} {i : Nat} (x : ItB b h it a i) (k : ∀ o, h.get? it = some o → h'.get? it = some o) : ItB b h' it a i := by
  cases b with
  | false => exact x.at fun o e => k o e
  | true => exact x.at fun o e => k o e
theorem drawsB {P : Program} {w : World} {A : Around} (hh : A.handled = none) (b : Bool) (it a : Addr) (ne : a ≠ it) (items : Array Value) : Draws P w A it [it, a] items.size (fun i v => items[i]? = some v) (fun i h => ItB b h it a i ∧ IsB b h a items) := by
  cases b with
  | false => exact Draws.list hh it a ne items
  | true => exact Draws.tuple hh it a ne items
section
variable {X : Cx} {pins : List (Addr × Obj)} {σ : L2.St} {H : Hp} {s : Shared} {b : Bool} {a : Addr} {xs ys : List V}
theorem inv_sq (I : Inv X pins σ H s) (q : SqB b X.K H a xs) : ∃ its : List Value, Vals xs its ∧ IsB b s.heap a its.toArray := by
  cases b with
  | false => obtain ⟨its, r, p, _⟩ := I.list q; exact ⟨its, r, p.isList⟩
  | true => obtain ⟨its, r, p, _⟩ := I.tuple q; exact ⟨its, r, p⟩
theorem inv_inj (I : Inv X pins σ H s) (q : SqB b X.K H a xs) (q' : SqB b X.K H a ys) : xs = ys := by
  cases b with
  | false => exact I.list_inj q q'
  | true => exact I.tuple_inj q q'
theorem IsB.lt {h : Heap} {items : Array Value} (x : IsB b h a items) : a < h.objs.size := by
  cases b with
  | false => obtain ⟨o, e, _⟩ := x; exact Heap.lt_size e
  | true => obtain ⟨o, e, _⟩ := x; exact Heap.lt_size e
theorem IsB.move {h h' : Heap} {items : Array Value} (x : IsB b h a items) (k : ∀ o, h.get? a = some o → h'.get? a = some o) : IsB b h' a items := by
  cases b with
  | false => exact x.at fun o e => k o e
  | true => exact x.at fun o e => k o e
/-- where the walked thing stands, none of the iterator's cells does -/
theorem sq_apart (I : Inv X pins σ H s) (q : SqB b X.K H a xs) {c : Addr} (f : FpOk X pins H c) (hc : ∃ o, s.heap.get? c = some o ∧ o.cls ≠ .type "list" ∧ o.cls ≠ .type "tuple") : a ≠ c := by
  intro e
  subst e
  obtain ⟨its, _, ib⟩ := inv_sq I q
  obtain ⟨o, e, n1, n2⟩ := hc
  cases b with
  | false => obtain ⟨o', e', c', _⟩ := ib; rw [e] at e'; cases e'; exact n1 c'
  | true => obtain ⟨o', e', c', _⟩ := ib; rw [e] at e'; cases e'; exact n2 c'
end
/-- a tuple of two that an iterator gave out, as the layer's new object -/
theorem pair_new {P : Program} {w : World} {H : Hp} {h : Heap} {T : Addr} {x y : V} {u v : Value} (ru : RelV x u) (rv : RelV y v) (t : h.IsTuple T #[u, v]) : ObjOk P w (upd H T (.tup [x, y])) h T (.tup [x, y]) := by
  obtain ⟨o, e, c, n, d⟩ := t
  exact ⟨by show 2 ≤ sizeLine; decide, [u, v], .cons ru (.cons rv .nil), o, e, c, n, d⟩
def IteB (b : Bool) (K : PySem.W.Frag) (a : Addr) : It where
  go i H := ∃ xs x, SqB b K H a xs ∧ xs[i]? = some x
  yld i H v H' := ∃ T x, v = .ref T ∧ H T = none ∧ H' = upd H T (.tup [.int (i : Int), x]) ∧ ∀ xs, SqB b K H a xs → xs[i]? = some x
  stop i H := ∃ xs, SqB b K H a xs ∧ xs.length = i
theorem itB_not {b : Bool} {h : Heap} {it a : Addr} {i : Nat} (x : ItB b h it a i) : ∃ o, h.get? it = some o ∧ o.cls ≠ .type "list" ∧ o.cls ≠ .type "tuple" := by
  cases b with
  | false => obtain ⟨o, q, c, _⟩ := x; exact ⟨o, q, by rw [c]; decide +kernel, by rw [c]; decide +kernel⟩
  | true => obtain ⟨o, q, c, _⟩ := x; exact ⟨o, q, by rw [c]; decide +kernel, by rw [c]; decide +kernel⟩
theorem cls_not {h : Heap} {e : Addr} {T : String} {d : Data} {o : Option Addr} {sl : Array (Option Value)} (q : h.get? e = some { cls := .type T, dict := o, data := d, slots := sl }) (h1 : T ≠ "list") (h2 : T ≠ "tuple") : ∃ o, h.get? e = some o ∧ o.cls ≠ .type "list" ∧ o.cls ≠ .type "tuple" :=
  ⟨_, q, ⟨fun z => h1 (Value.type.inj z), fun z => h2 (Value.type.inj z)⟩⟩
theorem turn_enB {P : Program} {w : World} {K : PySem.W.Frag} {elts : List Expr} {kk : Nat} {tpos : Pos} (b : Bool) (a e it : Addr) (hei : e ≠ it) :
    Turn P w K (.Tuple elts kk tpos) (IteB b K a) [e, it] e (fun i h => (∃ old, IsEnum h e it (0 + (i : Int)) old) ∧ ItB b h it a i) where
  mem := List.mem_cons_self
  obj i h st c hc := by
    obtain ⟨⟨old, he⟩, hi⟩ := st
    rcases List.mem_cons.mp hc with z | hc
    · exact ⟨_, z ▸ he, fun v q => Data.noConfusion q⟩
    · rw [List.mem_singleton.mp hc]; exact hi.there
  keep i h h' st k := ⟨let ⟨old, he⟩ := st.1; ⟨old, k e List.mem_cons_self _ he⟩, st.2.move fun o q => k it (List.mem_cons_of_mem _ List.mem_cons_self) o q⟩
  item := by
    intro X hP hw hK hc i pins s σ H E I hf st hg
    subst hP hw hK
    obtain ⟨xs, x, hq, hx⟩ := hg
    obtain ⟨its, rv, ib⟩ := inv_sq I hq
    obtain ⟨u, hu, ru⟩ := rv.get hx
    obtain ⟨⟨old, he⟩, hi⟩ := id st
    have ane : a ≠ e := sq_apart I hq (hf e List.mem_cons_self) (cls_not he (by decide +kernel) (by decide +kernel))
    have ani : a ≠ it := sq_apart I hq (hf it (List.mem_cons_of_mem _ List.mem_cons_self)) (itB_not hi)
    have G := GoesN.enumFrom (prog := X.prog) (w := X.w) (A := X.A) (elts := elts) (x1 := kk) (pos := tpos) 0 (drawsB (P := X.prog) (w := X.w) (A := X.A.in1) (I.ok.hd hc) b it a ani its.toArray) e hei (by simp [hei, Ne.symm ane]) List.mem_cons_self
    have hlen : i < its.toArray.size := by
      have := (List.getElem?_eq_some_iff.mp hu).1
      simpa using this
    have lt : ∀ c ∈ [e, it], c < s.heap.objs.size := fun c hc => by
      rcases List.mem_cons.mp hc with q | q
      · rw [q]; exact Heap.lt_size he
      · rw [List.mem_singleton.mp q]; obtain ⟨o, q, _⟩ := hi.there; exact Heap.lt_size q
    refine wpAny_mono (G.goes i s (fun u' s2 => ∃ x H', Inv X pins σ H' s2 ∧ RelV x u' ∧ (IteB b X.K a).yld i H x H' ∧ ((∃ old, IsEnum s2.heap e it (0 + ((i + 1 : Nat) : Int)) old) ∧ ItB b s2.heap it a (i + 1)) ∧ ∀ b ∈ [e, it], H' b = none) E hlen ⟨⟨old, he⟩, hi, ib⟩ fun v h' tk hY st' kp ht => ?_) (fun _ _ z => z) fun _ _ z => z
    obtain ⟨T, t, u2, ev, hT, hu2, tT⟩ := hY
    have : u2 = u := by simpa [hu] using hu2.symm
    subst this ev
    have new : ObjOk X.prog X.w (upd H T (.tup [.int (i : Int), x])) h' T (.tup [.int (i : Int), x]) := pair_new ⟨t, by rw [Int.zero_add]⟩ ru tT
    refine ⟨.ref T, _, I.turnedNew (t' := tk) (ch := [e, it]) (fun c o hb q => kp c o hb q) hf hT new, rfl, ⟨T, x, rfl, I.hok.fresh hT, rfl, fun zs hz => by rw [inv_inj I hz hq]; exact hx⟩, ⟨st'.1, st'.2.1⟩, fun c hc => ?_⟩
    rw [upd_ne (fun z => by have l := lt c hc; rw [z] at l; exact absurd (Nat.lt_of_lt_of_le l hT) (Nat.lt_irrefl _))]
    exact (hf c hc).1
  done := by
    intro X hP hw hK hc i pins s σ H E I hf st hg
    subst hP hw hK
    obtain ⟨xs, hq, hl⟩ := hg
    obtain ⟨its, rv, ib⟩ := inv_sq I hq
    obtain ⟨⟨old, he⟩, hi⟩ := id st
    have ane : a ≠ e := sq_apart I hq (hf e List.mem_cons_self) (cls_not he (by decide +kernel) (by decide +kernel))
    have ani : a ≠ it := sq_apart I hq (hf it (List.mem_cons_of_mem _ List.mem_cons_self)) (itB_not hi)
    have G := GoesN.enumFrom (prog := X.prog) (w := X.w) (A := X.A) (elts := elts) (x1 := kk) (pos := tpos) 0 (drawsB (P := X.prog) (w := X.w) (A := X.A.in1) (I.ok.hd hc) b it a ani its.toArray) e hei (by simp [hei, Ne.symm ane]) List.mem_cons_self
    have ei : its.toArray.size = i := by rw [List.size_toArray, ← rv.length]; exact hl
    rw [ei] at G
    exact G.stops s _ E ⟨⟨old, he⟩, hi, ib⟩ fun h' tk kp _ => I.turnedL (t' := tk) (ch := [e, it]) kp hf
  self A i s Q E st h := let ⟨⟨_, he⟩, _⟩ := st; wpAny_pyIter_enum he h
set_option maxHeartbeats 1000000 in
theorem enum_newB {v : Value} {o : Obj} {H : Heap → Prop} (B : Begins v o H) :
    Meets (Builtin.«enumerate.__new__» ⟨[.type "enumerate", v], []⟩) (fun _ R s => H s.heap ∧
      R (.ok (.ret (.ref (s.heap.push o).objs.size))) { s with heap := (s.heap.push o).push { cls := .type "enumerate", data := .fields #[.none, .bool false, .ref s.heap.objs.size, rawInt 0, .none, .none] } }) := by
  refine .of_wp fun prog w A R s h => ?_
  obtain ⟨hp, g, d, tk, os⟩ := s
  obtain ⟨h1, h⟩ := h
  have hs := sub_enumerate
  have q : ∀ {A' : Around} {E : Value → Shared → Prop} {Q : Value → Shared → Prop}, Q (.ref hp.objs.size) ⟨hp.push o, g, d, tk, os⟩ → wpAny (model prog w) A' (pyIter v) Q E ⟨hp, g, d, tk, os⟩ := fun z => B.iter prog w _ _ ⟨hp, g, d, tk, os⟩ _ h1 z
  wp_walk using q
  refine wpAny_stack_any fun st => wpAny_pure ?_
  split
  · rename_i c _ _ _ _ _
    cases (c == Value.type "enumerate") <;> (wp_walk using q; exact ⟨_, rfl, h⟩)
  · wp_walk using q
    exact ⟨_, rfl, h⟩
theorem enum_begins1 {prog : Program} {w : World} {A : Around} {E : Value → Shared → Prop} {s : Shared} {v : Value} {o : Obj} {H : Heap → Prop} {Q : Value → Shared → Prop} (B : Begins v o H) (h1 : H s.heap)
    (h : ∀ h', IsEnum h' (s.heap.objs.size + 1) s.heap.objs.size 0 .none → h'.get? s.heap.objs.size = some o → (∀ b o, s.heap.get? b = some o → h'.get? b = some o) → Q (.ref (s.heap.objs.size + 1)) { s with heap := h' }) :
    wpAny (model prog w) A (call (.type "enumerate") [v]) Q E s := by
  refine callType_new F.called_enumerate (by decide) (F.typeCall_enumerate_1 _) (F.newCall_enumerate_1 _) (fun obj => F.args_object_init_2 obj _) F.entry_enumerate_new (enum_newB B) ⟨h1, ?_⟩
  have hz : (s.heap.push o).objs.size = s.heap.objs.size + 1 := Heap.size_push ..
  have he : IsEnum ((s.heap.push o).push { cls := .type "enumerate", data := .fields #[.none, .bool false, .ref s.heap.objs.size, rawInt 0, .none, .none] }) (s.heap.objs.size + 1) s.heap.objs.size 0 .none := by
    have q := Heap.get?_push_size (s.heap.push o) (o := { cls := .type "enumerate", data := .fields #[.none, .bool false, .ref s.heap.objs.size, rawInt 0, .none, .none] }) rfl
    rw [hz] at q
    exact q
  show _ ∧ _
  rw [hz]
  exact ⟨⟨_, he, rfl⟩, h _ he (Heap.get?_push_of_some _ (Heap.get?_push_size _ B.free)) fun b o x => Heap.get?_push_of_some _ (Heap.get?_push_of_some _ x)⟩
def wEnB (b : Bool) (K : PySem.W.Frag) (ta : TA) : TI := fun σ H R => ta σ H fun vs H1 => ∃ a xs, vs = [.ref a] ∧ SqB b K H1 a xs ∧ R (IteB b K a) H1
theorem pi_enB {X : Cx} (b : Bool) {e : Expr} {ta : TA} {p pos tpos : Pos} {elts : List Expr} {kk : Nat} (hg : Gl X "enumerate") (hm : X.mg "enumerate" = none) (ha : PA X [e] ta) (hs : starEach [e] X.env = [(false, eval e X.env)] := by rfl) :
    PI X (.Tuple elts kk tpos) (.Call (.Name "enumerate" p) [e] [] pos) (wEnB b X.K ta) := by
  refine ⟨fun pins s σ H R I h => ?_⟩
  refine Call_ (ld_blt I hg hm boot_enumerate (PyProof.Rows.callWith_type1 (thn (ha.run pos pins s σ H _ I h) fun us s1 ⟨vs, H1, I1, r1, a, xs, ex, hq, q⟩ => ?_) hs rfl))
  subst ex
  obtain ⟨u, rfl, ru⟩ := vals1 r1
  obtain rfl : u = Value.ref a := ru
  obtain ⟨its, rv, ib⟩ := inv_sq I1 hq
  refine enum_begins1 (beginsB b a its.toArray) ib fun h' he hi kp => wpAny_pyIter_enum he ?_
  refine ⟨s1.heap.objs.size + 1, [s1.heap.objs.size + 1, s1.heap.objs.size], _, _, H1, rfl, I1.kept (t' := s1.toks) kp, turn_enB b a (s1.heap.objs.size + 1) s1.heap.objs.size (Nat.succ_ne_self _), ⟨⟨.none, he⟩, itB0 hi⟩, fun c hc => ?_, q⟩
  have le : s1.heap.objs.size ≤ c := by
    rcases List.mem_cons.mp hc with z | z
    · rw [z]; exact Nat.le_succ _
    · rw [List.mem_singleton.mp z]; exact Nat.le_refl _
  exact I1.fpOk le (I1.hok.fresh le)
/-! zip of two -/
def ItzB (b c : Bool) (K : PySem.W.Frag) (a1 a2 : Addr) : It where
  go i H := ∃ xs ys x y, SqB b K H a1 xs ∧ SqB c K H a2 ys ∧ xs[i]? = some x ∧ ys[i]? = some y
  yld i H v H' := ∃ T x y, v = .ref T ∧ H T = none ∧ H' = upd H T (.tup [x, y]) ∧ (∀ xs, SqB b K H a1 xs → xs[i]? = some x) ∧ ∀ ys, SqB c K H a2 ys → ys[i]? = some y
  stop i H := ∃ xs ys, SqB b K H a1 xs ∧ SqB c K H a2 ys ∧ min xs.length ys.length = i
structure ZCells (z t o i1 i2 : Addr) : Prop where
  tz : t ≠ z
  oz : o ≠ z
  to : t ≠ o
  t1 : t ≠ i1
  t2 : t ≠ i2
  z1 : z ≠ i1
  z2 : z ≠ i2
  o1 : o ≠ i1
  o2 : o ≠ i2
  i12 : i1 ≠ i2
def ZSt (b c : Bool) (z t o i1 i2 a1 a2 : Addr) (i : Nat) (h : Heap) : Prop := IsZip h z t o .none ∧ IsTupOf2 h t (.ref i1) (.ref i2) ∧ (∃ u v, IsTupOf2 h o u v) ∧ ItB b h i1 a1 i ∧ ItB c h i2 a2 i
theorem zst_there {b c : Bool} {z t o i1 i2 a1 a2 : Addr} {i : Nat} {h : Heap} (x : ZSt b c z t o i1 i2 a1 a2 i h) : ∀ d ∈ [z, t, o, i1, i2], ∃ ob, h.get? d = some ob ∧ ∀ v, ob.data ≠ .cell v := fun d hd => by
  obtain ⟨hz, ht, ⟨u, v, ho⟩, h1, h2⟩ := x
  simp only [List.mem_cons, List.not_mem_nil, or_false] at hd
  rcases hd with q | q | q | q | q
  · exact ⟨_, q ▸ hz, fun v w => Data.noConfusion w⟩
  · exact ⟨_, q ▸ ht, fun v w => Data.noConfusion w⟩
  · exact ⟨_, q ▸ ho, fun v w => Data.noConfusion w⟩
  · exact q ▸ h1.there
  · exact q ▸ h2.there
section
variable {P : Program} {w : World} {b c : Bool} {z t o i1 i2 a1 a2 : Addr} {elts : List Expr} {kk : Nat} {tpos : Pos}
theorem zip_goes {X : Cx} {pins : List (Addr × Obj)} {σ : L2.St} {H : Hp} {s : Shared} {xs ys : List V} {i : Nat} (Z : ZCells z t o i1 i2) (I : Inv X pins σ H s) (hc : X.calm = true) (hf : ∀ d ∈ [z, t, o, i1, i2], FpOk X pins H d) (st : ZSt b c z t o i1 i2 a1 a2 i s.heap) (q1 : SqB b X.K H a1 xs) (q2 : SqB c X.K H a2 ys) :
    ∃ us vs : List Value, Vals xs us ∧ Vals ys vs ∧ IsB b s.heap a1 us.toArray ∧ IsB c s.heap a2 vs.toArray ∧
      GoesN X.prog X.w X.A (.Tuple elts kk tpos) z (z :: t :: o :: ([i1, a1] ++ [i2, a2])) [z, o, i1, i2] (min us.toArray.size vs.toArray.size) (fun i h₀ v h => ∃ T x y, v = .ref T ∧ h₀.objs.size ≤ T ∧ us.toArray[i]? = some x ∧ vs.toArray[i]? = some y ∧ h.IsTuple T #[x, y])
        (fun i h => IsZip h z t o .none ∧ IsTupOf2 h t (.ref i1) (.ref i2) ∧ (∃ u v, IsTupOf2 h o u v) ∧ (ItB b h i1 a1 i ∧ IsB b h a1 us.toArray) ∧ (ItB c h i2 a2 i ∧ IsB c h a2 vs.toArray)) := by
  obtain ⟨us, r1, ib1⟩ := inv_sq I q1
  obtain ⟨vs, r2, ib2⟩ := inv_sq I q2
  obtain ⟨hz, ht, ⟨u, v, ho⟩, h1, h2⟩ := st
  have fz : ∀ {d : Addr}, d ∈ [z, t, o, i1, i2] → FpOk X pins H d := fun {d} m => hf d m
  -- the tuple that zip gives out lies among its cells, and is told apart by what the layer tracks
  have trk : ∀ {b : Bool} {a : Addr} {xs : List V} {d : Addr}, SqB b X.K H a xs → d ∈ [z, o, i1, i2] → a ≠ d := fun {b a xs d} q m e => by
    subst e
    have f := hf a (by simp only [List.mem_cons, List.not_mem_nil, or_false] at m ⊢; rcases m with m | m | m | m <;> simp [m])
    obtain ⟨f0, f1, f2, f3, f4, f5⟩ := f
    cases b with
    | false =>
      rcases q with (q | ⟨_, q⟩) | ⟨ob, its, n, k, _⟩
      · rw [f0] at q; cases q
      · rw [f0] at q; cases q
      · have base := I.ok.mod.kin a ob k
        rcases f3 with x | x
        · exact I.ok.noex a ob base x
        · exact absurd (Nat.lt_of_lt_of_le (Heap.lt_size (I.ok.bs a ob base).1) x) (Nat.lt_irrefl _)
    | true =>
      rcases q with (q | ⟨_, q⟩) | ⟨ob, its, n, k, _⟩
      · rw [f0] at q; cases q
      · rw [f0] at q; cases q
      · have base := I.ok.mod.kin a ob k
        rcases f3 with x | x
        · exact I.ok.noex a ob base x
        · exact absurd (Nat.lt_of_lt_of_le (Heap.lt_size (I.ok.bs a ob base).1) x) (Nat.lt_irrefl _)
  have S : ZipSep2 z t o i1 i2 [i1, a1] [i2, a2] :=
    { TIz := Z.tz, TOz := Z.oz, TITO := Z.to, TIi1 := Z.t1, mem1 := List.mem_cons_self, zf1 := by simp [Z.z1, Ne.symm (trk q1 (d := z) (by simp))], Tf1 := by simp [Z.o1, Ne.symm (trk q1 (d := o) (by simp))],
      TIi2 := Z.t2, mem2 := List.mem_cons_self, zf2 := by simp [Z.z2, Ne.symm (trk q2 (d := z) (by simp))], Tf2 := by simp [Z.o2, Ne.symm (trk q2 (d := o) (by simp))],
      sep1_2 := by simp [Z.i12, Ne.symm (trk q2 (d := i1) (by simp))], sep2_1 := by simp [Ne.symm Z.i12, Ne.symm (trk q1 (d := i2) (by simp))] }
  exact ⟨us, vs, r1, r2, ib1, ib2, GoesN.zip2 S (drawsB (A := X.A.in1) (I.ok.hd hc) b i1 a1 (trk q1 (by simp)) us.toArray) (drawsB (A := X.A.in1) (I.ok.hd hc) c i2 a2 (trk q2 (by simp)) vs.toArray)⟩
theorem turn_zpB {K : PySem.W.Frag} (Z : ZCells z t o i1 i2) : Turn P w K (.Tuple elts kk tpos) (ItzB b c K a1 a2) [z, t, o, i1, i2] z (ZSt b c z t o i1 i2 a1 a2) where
  mem := List.mem_cons_self
  obj i h st := zst_there st
  keep i h h' st k := by
    obtain ⟨hz, ht, ⟨u, v, ho⟩, h1, h2⟩ := st
    exact ⟨k z (by simp) _ hz, k t (by simp) _ ht, ⟨u, v, k o (by simp) _ ho⟩, h1.move fun ob q => k i1 (by simp) ob q, h2.move fun ob q => k i2 (by simp) ob q⟩
  item := by
    intro X hP hw hK hc i pins s σ H E I hf st hg
    subst hP hw hK
    obtain ⟨xs, ys, x, y, q1, q2, hx, hy⟩ := hg
    obtain ⟨us, vs, r1, r2, ib1, ib2, G⟩ := zip_goes (elts := elts) (kk := kk) (tpos := tpos) Z I hc hf st q1 q2
    obtain ⟨u, hu, ru⟩ := r1.get hx
    obtain ⟨v, hv, rv⟩ := r2.get hy
    have hlen : i < min us.toArray.size vs.toArray.size := by
      have l1 := (List.getElem?_eq_some_iff.mp hu).1
      have l2 := (List.getElem?_eq_some_iff.mp hv).1
      simp only [List.size_toArray]
      omega
    obtain ⟨hz, ht, ho, h1, h2⟩ := id st
    refine wpAny_mono (G.goes i s (fun u' s2 => ∃ x H', Inv X pins σ H' s2 ∧ RelV x u' ∧ (ItzB b c X.K a1 a2).yld i H x H' ∧ ZSt b c z t o i1 i2 a1 a2 (i + 1) s2.heap ∧ ∀ d ∈ [z, t, o, i1, i2], H' d = none) E hlen ⟨hz, ht, ho, ⟨h1, ib1⟩, h2, ib2⟩ fun v' h' tk hY st' kp _ => ?_) (fun _ _ q => q) fun _ _ q => q
    obtain ⟨T, u2, v2, ev, hT, hu2, hv2, tT⟩ := hY
    have e1 : u2 = u := by simpa [hu] using hu2.symm
    have e2 : v2 = v := by simpa [hv] using hv2.symm
    subst e1 e2 ev
    refine ⟨.ref T, _, I.turnedNew (t' := tk) (ch := [z, t, o, i1, i2]) (fun d ob hb q => kp d ob (fun m => hb ?_) q) hf hT (pair_new ru rv tT), rfl, ⟨T, x, y, rfl, I.hok.fresh hT, rfl, fun zs hz => by rw [inv_inj I hz q1]; exact hx, fun zs hz => by rw [inv_inj I hz q2]; exact hy⟩, ⟨st'.1, st'.2.1, st'.2.2.1, st'.2.2.2.1.1, st'.2.2.2.2.1⟩, fun d hd => ?_⟩
    · simp only [List.mem_cons, List.not_mem_nil, or_false] at m ⊢
      rcases m with m | m | m | m <;> simp [m]
    · obtain ⟨ob, eo, _⟩ := zst_there st d hd
      rw [upd_ne (fun e => by have l := Heap.lt_size eo; rw [e] at l; exact absurd (Nat.lt_of_lt_of_le l hT) (Nat.lt_irrefl _))]
      exact (hf d hd).1
  done := by
    intro X hP hw hK hc i pins s σ H E I hf st hg
    subst hP hw hK
    obtain ⟨xs, ys, q1, q2, hl⟩ := hg
    obtain ⟨us, vs, r1, r2, ib1, ib2, G⟩ := zip_goes (elts := elts) (kk := kk) (tpos := tpos) Z I hc hf st q1 q2
    obtain ⟨hz, ht, ho, h1, h2⟩ := id st
    have ei : min us.toArray.size vs.toArray.size = i := by rw [List.size_toArray, List.size_toArray, ← r1.length, ← r2.length]; exact hl
    rw [ei] at G
    refine G.stops s _ E ⟨hz, ht, ho, ⟨h1, ib1⟩, h2, ib2⟩ fun h' tk kp _ => I.turnedL (t' := tk) (ch := [z, t, o, i1, i2]) (fun d ob hb q => kp d ob (fun m => hb ?_) q) hf
    simp only [List.mem_cons, List.not_mem_nil, or_false] at m ⊢
    rcases m with m | m | m | m <;> simp [m]
  self A i s Q E st h := wpAny_pyIter_zip st.1 h
end
def wZpB (b c : Bool) (K : PySem.W.Frag) (ta : TA) : TI := fun σ H R => ta σ H fun vs H1 => ∃ a1 a2 xs ys, vs = [.ref a1, .ref a2] ∧ SqB b K H1 a1 xs ∧ SqB c K H1 a2 ys ∧ R (ItzB b c K a1 a2) H1
theorem pi_zpB {X : Cx} (b c : Bool) {e e' : Expr} {ta : TA} {p pos tpos : Pos} {elts : List Expr} {kk : Nat} (hg : Gl X "zip") (hm : X.mg "zip" = none) (ha : PA X [e, e'] ta) (hs : starEach [e, e'] X.env = (false, eval e X.env) :: starEach [e'] X.env := by rfl) (hpl : (backTo pos (starEach [e'] X.env)).any (·.1) = false := by rfl) :
    PI X (.Tuple elts kk tpos) (.Call (.Name "zip" p) [e, e'] [] pos) (wZpB b c X.K ta) := by
  refine ⟨fun pins s σ H R I h => ?_⟩
  refine Call_ (ld_blt I hg hm boot_zip (PyProof.Rows.callWith_type1 (thn (ha.run pos pins s σ H _ I h) fun us s1 ⟨vs, H1, I1, r1, a1, a2, xs, ys, ex, q1, q2, q⟩ => ?_) hs hpl))
  subst ex
  obtain ⟨u, v, rfl, ru, rv⟩ := vals2 r1
  obtain rfl : u = Value.ref a1 := ru
  obtain rfl : v = Value.ref a2 := rv
  obtain ⟨its, _, ib1⟩ := inv_sq I1 q1
  obtain ⟨its2, _, ib2⟩ := inv_sq I1 q2
  refine zip_begins2 (beginsB b a1 its.toArray) (beginsB c a2 its2.toArray) ib1 ib2 fun h' hz ht ho g1 g2 hsz kp => wpAny_pyIter_zip hz ?_
  have Z : ZCells (s1.heap.objs.size + 4) (s1.heap.objs.size + 2) (s1.heap.objs.size + 3) s1.heap.objs.size (s1.heap.objs.size + 1) := by
    constructor <;> (intro q; have q' : (_ : Nat) = _ := q; omega)
  refine ⟨_, _, _, _, H1, rfl, I1.kept (t' := s1.toks) kp, turn_zpB (a1 := a1) (a2 := a2) Z, ⟨hz, ht, ⟨_, _, ho⟩, itB0 g1, itB0 g2⟩, fun d hd => ?_, q⟩
  have le : s1.heap.objs.size ≤ d := by
    simp only [List.mem_cons, List.not_mem_nil, or_false] at hd
    rcases hd with z | z | z | z | z <;> (rw [z]; first | exact Nat.le_add_right _ _ | exact Nat.le_refl _)
  exact I1.fpOk le (I1.hok.fresh le)
/-! ### the layer's own rows -/
def seqD : D → Option (Bool × List D)
  | .lst xs => some (false, xs)
  | .scr ns => some (false, ns.map .int)
  | .tup xs => some (true, xs)
  | .tpz xs => some (true, xs)
  | _ => none
def iEn2 (fa : Ev → R D) : Ev → R (List D) := fun ρ => (fa ρ).bind fun d => (optR (seqD d)).bind fun x => .ok (enumD 0 x.2)
def iZp2 (fa fb : Ev → R D) : Ev → R (List D) := fun ρ => (fa ρ).bind fun a => (fb ρ).bind fun b => (optR (seqD a)).bind fun x => (optR (seqD b)).bind fun y => .ok (zipD x.2 y.2)
section
variable {K : PySem.W.Frag} {ca : Cn} {G0 : Hp}
theorem seqD_at {d : D} {v : V} {x : Bool × List D} (h : At K ca G0 d v) (e : seqD d = some x) : ∃ a vs, v = .ref a ∧ SqB x.1 K G0 a vs ∧ AtL K ca G0 x.2 vs := by
  cases d with
  | lst xs => cases e; obtain ⟨a, vs, e1, h1, h2⟩ := h; exact ⟨a, vs, e1, SqL.of h1, h2⟩
  | scr ns => cases e; obtain ⟨a, e1, h1⟩ := h; exact ⟨a, _, e1, h1, AtL.of_ints ns⟩
  | tup xs => cases e; obtain ⟨a, vs, e1, h1, h2⟩ := h; exact ⟨a, vs, e1, tq (.refl _) h1, h2⟩
  | tpz xs => cases e; obtain ⟨a, o, vs, e1, oo, h1, h2⟩ := h; exact ⟨a, vs, e1, .inl (.inr ⟨o, h1⟩), h2⟩
  | _ => cases e
theorem sqB_mono {b : Bool} {H H' : Hp} {a : Addr} {xs : List V} (s : Same H H') (h : SqB b K H a xs) : SqB b K H' a xs := by
  cases b with
  | false => exact SqL_mono s h
  | true => exact SqT_mono s h
theorem jok_enB {b : Bool} {a : Addr} {ds : List D} {vs : List V} (h : SqB b K G0 a vs) (r : AtL K ca G0 ds vs) : JOk K ca G0 (IteB b K a) (enumD 0 ds) := by
  intro G H s1 s2 i
  have q : SqB b K H a vs := sqB_mono s2 (sqB_mono s1 h)
  refine ⟨fun d e => ?_, fun l => ⟨vs, q, by rw [enumD_len] at l; rw [← r.length]; exact l⟩⟩
  rw [enumD_get] at e
  obtain ⟨d0, e0, e1⟩ := Option.map_eq_some_iff.mp e
  obtain ⟨v, e2, a1⟩ := r.get e0
  refine ⟨⟨vs, v, q, e2⟩, fun x H' y => ?_⟩
  obtain ⟨T, x0, rfl, n, rfl, hx⟩ := y
  have := hx vs q
  rw [e2] at this
  cases this
  subst e1
  refine pair_at s2 n ?_ (At.mono s1 a1)
  rw [Nat.zero_add]
  rfl
theorem jok_zpB {b c : Bool} {a1 a2 : Addr} {ds es : List D} {vs ws : List V} (h : SqB b K G0 a1 vs) (h' : SqB c K G0 a2 ws) (r : AtL K ca G0 ds vs) (r' : AtL K ca G0 es ws) : JOk K ca G0 (ItzB b c K a1 a2) (zipD ds es) := by
  intro G H s1 s2 i
  have q : SqB b K H a1 vs := sqB_mono s2 (sqB_mono s1 h)
  have q' : SqB c K H a2 ws := sqB_mono s2 (sqB_mono s1 h')
  refine ⟨fun d e => ?_, fun l => ⟨vs, ws, q, q', by rw [zipD_len, r.length, r'.length] at l; exact l⟩⟩
  rw [zipD_get] at e
  cases e0 : ds[i]? with
  | none => rw [e0] at e; cases e
  | some d0 =>
    cases e1 : es[i]? with
    | none => rw [e0, e1] at e; cases e
    | some d1 =>
      rw [e0, e1] at e
      cases e
      obtain ⟨v, e2, b1⟩ := r.get e0
      obtain ⟨w, e3, b2⟩ := r'.get e1
      refine ⟨⟨vs, ws, v, w, q, q', e2, e3⟩, fun x H' y => ?_⟩
      obtain ⟨T, x0, y0, rfl, n, rfl, hx, hy⟩ := y
      have z1 := hx vs q
      have z2 := hy ws q'
      rw [e2] at z1
      rw [e3] at z2
      cases z1; cases z2
      exact pair_at s2 n (At.mono s1 b1) (At.mono s1 b2)
end
section
variable {X : Cx} {ca : Cn} {W : WX} {e e' : Expr} {fa fb : Ev → R D} {p pos tpos : Pos} {elts : List Expr} {kk : Nat}
theorem fi_en2 (hg : Gl X "enumerate") (hm : X.mg "enumerate" = none) (h : FE X ca W e fa) (hs : starEach [e] X.env = [(false, eval e X.env)] := by rfl) : FI X ca W (.Tuple elts kk tpos) (.Call (.Name "enumerate" p) [e] [] pos) (iEn2 fa) := by
  obtain ⟨t, p, k⟩ := h.ex
  refine ⟨_, pi_or (pi_enB false hg hm (pa_cons p pa_nil hs) hs) (pi_enB true hg hm (pa_cons p pa_nil hs) hs), fun B G H σ ρ Q s b r h => ?_⟩
  have go : ∀ bb, (∀ d, fa ρ = .ok d → ∀ x, seqD d = some x → x.1 = bb) → wEnB bb X.K (tCons t tNil) σ H Q := fun bb hb => by
    refine k B G H σ ρ _ s b r (Wish.bind h fun d G1 H1 e1 x1 w1 v a1 => ?_)
    obtain ⟨x, ex, w2⟩ := wish_opt w1
    obtain ⟨a, vs, rfl, h1, h2⟩ := seqD_at a1 ex
    have := hb d e1 x ex
    subst this
    exact ⟨a, vs, rfl, sqB_mono x1.gh h1, w2.here x1.gh _ (jok_enB h1 h2)⟩
  cases z : fa ρ with
  | ok d =>
    cases q : seqD d with
    | none => exact .inl (go false fun d' e x ex => by rw [z] at e; cases e; rw [q] at ex; cases ex)
    | some x =>
      obtain ⟨bb, ds⟩ := x
      cases bb with
      | false => exact .inl (go false fun d' e x ex => by rw [z] at e; cases e; rw [q] at ex; cases ex; rfl)
      | true => exact .inr (go true fun d' e x ex => by rw [z] at e; cases e; rw [q] at ex; cases ex; rfl)
  | exc x => exact .inl (go false fun d' e => by rw [z] at e; cases e)
  | bad => exact .inl (go false fun d' e => by rw [z] at e; cases e)
theorem fi_zp2 (hg : Gl X "zip") (hm : X.mg "zip" = none) (h : FE X ca W e fa) (h' : FE X ca W e' fb) (hs : starEach [e, e'] X.env = (false, eval e X.env) :: starEach [e'] X.env := by rfl) (hs' : starEach [e'] X.env = (false, eval e' X.env) :: starEach [] X.env := by rfl)
    (hpl : (backTo pos (starEach [e'] X.env)).any (·.1) = false := by rfl) : FI X ca W (.Tuple elts kk tpos) (.Call (.Name "zip" p) [e, e'] [] pos) (iZp2 fa fb) := by
  obtain ⟨t, pp, k⟩ := h.ex
  obtain ⟨u, q, l⟩ := h'.ex
  have pz := fun b c => pi_zpB (X := X) (p := p) (pos := pos) (elts := elts) (kk := kk) (tpos := tpos) b c hg hm (pa_cons pp (pa_cons q pa_nil hs') hs) hs hpl
  refine ⟨_, pi_or (pi_or (pz false false) (pz false true)) (pi_or (pz true false) (pz true true)), fun B G H σ ρ Q s b r h => ?_⟩
  have go : ∀ bb cc, (∀ d, fa ρ = .ok d → ∀ x, seqD d = some x → x.1 = bb) → (∀ d, fb ρ = .ok d → ∀ x, seqD d = some x → x.1 = cc) → wZpB bb cc X.K (tCons t (tCons u tNil)) σ H Q := fun bb cc hb hb' => by
    refine k B G H σ ρ _ s b r (Wish.bind h fun d G1 H1 e1 x1 w1 v a1 => ?_)
    refine l B G1 H1 σ ρ _ x1.gh (b.trans x1.hh) (r.ext x1) (Wish.bind w1 fun d2 G2 H2 e2 x2 w2 v2 a2 => ?_)
    obtain ⟨x, ex, w2⟩ := wish_opt w2
    obtain ⟨y, ey, w2⟩ := wish_opt w2
    obtain ⟨a, vs, rfl, h1, h2⟩ := seqD_at (At.mono x2.gg a1) ex
    obtain ⟨a', ws, rfl, h3, h4⟩ := seqD_at a2 ey
    have := hb d e1 x ex
    have := hb' d2 e2 y ey
    subst bb cc
    exact ⟨a, a', vs, ws, rfl, sqB_mono x2.gh h1, sqB_mono x2.gh h3, w2.here x2.gh _ (jok_zpB h1 h3 h2 h4)⟩
  have kind : ∀ f : Ev → R D, ∃ bb : Bool, ∀ d, f ρ = .ok d → ∀ x, seqD d = some x → x.1 = bb := fun f => by
    cases z : f ρ with
    | ok d =>
      cases q : seqD d with
      | none => exact ⟨false, fun d' e x ex => by cases e; rw [q] at ex; cases ex⟩
      | some x => exact ⟨x.1, fun d' e y ey => by cases e; rw [q] at ey; cases ey; rfl⟩
    | exc x => exact ⟨false, fun d' e => by cases e⟩
    | bad => exact ⟨false, fun d' e => by cases e⟩
  obtain ⟨bb, hb⟩ := kind fa
  obtain ⟨cc, hc⟩ := kind fb
  cases bb <;> cases cc
  · exact .inl (.inl (go _ _ hb hc))
  · exact .inl (.inr (go _ _ hb hc))
  · exact .inr (.inl (go _ _ hb hc))
  · exact .inr (.inr (go _ _ hb hc))
end
end Tk

namespace Tk
open PySem PySem.Spec L2 PyProof.Rows
/-! ### isinstance, is True -/
def tyD : D → Option String
  | .non => some "NoneType"
  | .bl _ => some "bool"
  | .int _ => some "int"
  | .str _ => some "str"
  | .scr _ => some "list"
  | .lst _ => some "list"
  | .tup _ => some "tuple"
  | .tpz _ => some "tuple"
  | .dK _ => some "dict"
  | _ => none
def gIsi : List D → R D
  | [d, .ty n] => (optR ((tyD d).bind fun t => kitB t n)).bind fun b => .ok (.bl b)
  | _ => .bad
def gIsB (neg : Bool) : D → D → R D
  | .bl a, .bl b => .ok (.bl (if neg then !decide (a = b) else decide (a = b)))
  | _, .bl _ => .ok (.bl neg)
  | _, _ => .bad
section
variable {X : Cx} {ca : Cn}
theorem tyX_of {G H : Hp} (s : Same G H) {d : D} {v : V} {t : String} (a : At X.K ca G d v) (e : tyD d = some t) : TyX X.K H v (.type t) := by
  cases d with
  | non => cases e; cases a; exact .base .non
  | bl b => cases e; cases a; exact .base (.bl b)
  | int b => cases e; cases a; exact .base (.int b)
  | str b => cases e; cases a; exact .base (.str b)
  | scr ns =>
    cases e
    obtain ⟨p, rfl, h⟩ := a
    rcases h with (h | ⟨o, h⟩) | ⟨o, its, n, k, c, _⟩
    · exact .base (.lst (s _ _ h))
    · exact .base (.frz (s _ _ h))
    · exact .kList k c
  | lst xs => cases e; obtain ⟨p, vs, rfl, h, _⟩ := a; exact .base (.lst (s _ _ h))
  | tup xs =>
    cases e
    obtain ⟨p, vs, rfl, h, _⟩ := a
    exact .base (.tup (s p _ h))
  | tpz xs =>
    cases e
    obtain ⟨p, o, vs, rfl, oo, h, _⟩ := a
    exact .fTuple (s _ _ h)
  | dK xs =>
    cases e
    obtain ⟨p, vs, rfl, h, _⟩ := a
    rcases h with h | ⟨o, h⟩
    · exact .base (.dK (s _ _ h))
    · exact .fDict (s _ _ h)
  | _ => cases e
theorem vn_isi : VN X ca (rIsi X.K) gIsi := by
  intro G H W1 xs ds Q s a w
  unfold gIsi at w
  split at w
  · obtain ⟨b, e, w⟩ := wish_opt w
    obtain ⟨t, e1, e2⟩ := Option.bind_eq_some_iff.mp e
    obtain ⟨v, v', rfl, a1, a2⟩ := atl2 a
    cases a2
    exact ⟨v, _, .type t, .type _, b, rfl, .ty _, tyX_of s a1 e1, kit_ty e2, w.here s _ rfl⟩
  · exact w.elim
theorem op_isB : OpR X (compareOp .Is) (fun x y H Q => ∃ b, y = .bl b ∧ Q (.bl (decide (x = .bl b))) H) := by
  intro pins s σ H x y v u Q I rx ry h
  obtain ⟨b, rfl, q⟩ := h
  cases (show u = Value.bool b from ry)
  cases x with
  | bl a =>
    cases (show v = Value.bool a from rx)
    exact wpAny_is_plain rfl (fin_bl I q (by cases a <;> cases b <;> rfl))
  | non => cases (show v = Value.none from rx); exact wpAny_is_plain rfl (fin_bl I q rfl)
  | int i => obtain ⟨t, rfl⟩ := rx; exact wpAny_is_plain rfl (fin_bl I q rfl)
  | str i => obtain ⟨t, rfl⟩ := rx; exact wpAny_is_plain rfl (fin_bl I q rfl)
  | byt i => obtain ⟨t, rfl⟩ := rx; exact wpAny_is_plain rfl (fin_bl I q rfl)
  | flt i => obtain ⟨t, rfl⟩ := rx; exact wpAny_is_plain rfl (fin_bl I q rfl)
  | ref i => cases (show v = Value.ref i from rx); exact wpAny_is_plain rfl (fin_bl I q rfl)
  | ty i => cases (show v = Value.type i from rx); exact wpAny_is_plain rfl (fin_bl I q rfl)
theorem op_nisB : OpR X (compareOp .IsNot) (fun x y H Q => ∃ b, y = .bl b ∧ Q (.bl (!decide (x = .bl b))) H) := by
  intro pins s σ H x y v u Q I rx ry h
  obtain ⟨b, rfl, q⟩ := h
  cases (show u = Value.bool b from ry)
  cases x with
  | bl a =>
    cases (show v = Value.bool a from rx)
    exact wpAny_isNot_plain rfl (fin_bl I q (by cases a <;> cases b <;> rfl))
  | non => cases (show v = Value.none from rx); exact wpAny_isNot_plain rfl (fin_bl I q rfl)
  | int i => obtain ⟨t, rfl⟩ := rx; exact wpAny_isNot_plain rfl (fin_bl I q rfl)
  | str i => obtain ⟨t, rfl⟩ := rx; exact wpAny_isNot_plain rfl (fin_bl I q rfl)
  | byt i => obtain ⟨t, rfl⟩ := rx; exact wpAny_isNot_plain rfl (fin_bl I q rfl)
  | flt i => obtain ⟨t, rfl⟩ := rx; exact wpAny_isNot_plain rfl (fin_bl I q rfl)
  | ref i => cases (show v = Value.ref i from rx); exact wpAny_isNot_plain rfl (fin_bl I q rfl)
  | ty i => cases (show v = Value.type i from rx); exact wpAny_isNot_plain rfl (fin_bl I q rfl)
theorem at_bl {a : D} {x : V} {G : Hp} {b : Bool} (h : At X.K ca G a x) (n : ∀ c, a ≠ .bl c) : decide (x = .bl b) = false := by
  cases a with
  | bl c => exact (n c rfl).elim
  | non => cases h; rfl
  | int _ => cases h; rfl
  | str _ => cases h; rfl
  | ty _ => cases h; rfl
  | cl _ => obtain ⟨_, _, rfl⟩ := h; rfl
  | scr _ => obtain ⟨_, rfl, _⟩ := h; rfl
  | lst _ => obtain ⟨_, _, rfl, _⟩ := h; rfl
  | tup _ => obtain ⟨_, _, rfl, _⟩ := h; rfl
  | tpz _ => obtain ⟨_, _, _, rfl, _⟩ := h; rfl
  | tp0 => obtain ⟨_, rfl, _⟩ := h; rfl
  | zK _ => obtain ⟨_, _, _, rfl, _⟩ := h; rfl
  | zT _ => obtain ⟨_, _, _, rfl, _⟩ := h; rfl
  | dK _ => obtain ⟨_, _, rfl, _⟩ := h; rfl
  | dT _ => obtain ⟨_, _, rfl, _⟩ := h; rfl
  | ins _ _ => obtain ⟨_, _, _, _, rfl, _⟩ := h; rfl
theorem v2_isB : V2 X ca (fun x y H Q => ∃ b, y = .bl b ∧ Q (.bl (decide (x = .bl b))) H) (gIsB false) := by
  intro G H W1 x y a b Q s ax ay w
  unfold gIsB at w
  split at w
  · cases ax; cases ay; exact ⟨_, rfl, by rw [dec_VB]; exact w.here s _ rfl⟩
  · rename_i n; cases ay; exact ⟨_, rfl, by rw [at_bl ax fun c e => n c e]; exact w.here s _ rfl⟩
  · exact w.elim
theorem v2_nisB : V2 X ca (fun x y H Q => ∃ b, y = .bl b ∧ Q (.bl (!decide (x = .bl b))) H) (gIsB true) := by
  intro G H W1 x y a b Q s ax ay w
  unfold gIsB at w
  split at w
  · cases ax; cases ay; exact ⟨_, rfl, by rw [dec_VB]; exact w.here s _ rfl⟩
  · rename_i n; cases ay; exact ⟨_, rfl, by rw [at_bl ax fun c e => n c e]; exact w.here s _ rfl⟩
  · exact w.elim
/-- a built-in class as a value -/
theorem fe_bltn {W : WX} {x : Str} {n : String} {pos : Pos} (hg : Gl X x) (hm : X.mg x = none) (hv : bootBuiltins x = some (.type n)) (hn : x ≠ "__name__" := by decide) (hd : (x == ("__debug__" : Str)) = false := by decide) : FE X ca W (.Name x pos) (eC (.ty n)) :=
  ⟨_, pe_bltn (v := .ty n) hg hm hv rfl hn hd, fun B G H σ ρ Q s b r h => h.here s _ rfl⟩
end
/-! ### sorted -/
def pairOf : D → Option (Int × Int)
  | .tup [.int i, .int j] => some (i, j)
  | _ => none
def pairsOf : List D → Option (List (Int × Int))
  | [] => some []
  | d :: r => (pairOf d).bind fun p => (pairsOf r).map (p :: ·)
def leP (p q : Int × Int) : Bool := !SrtO.lexB q p
def srtP (ps : List (Int × Int)) : List (Int × Int) := ps.mergeSort leP
def dP (p : Int × Int) : D := .tup [.int p.1, .int p.2]
def srtI (ns : List Int) : List Int := ns.mergeSort fun i j => decide (i ≤ j)
def gSrt : List D → R D
  | [.lst xs] => match intsOf xs with
    | some ns => .ok (.lst ((srtI ns).map .int))
    | none => match pairsOf xs with
      | some ps => .ok (.lst ((srtP ps).map dP))
      | none => .bad
  | _ => .bad
section
variable {X : Cx} {ca : Cn}
theorem srtI_uniq {ns ms : List Int} (p : ms.Perm ns) (s : ms.Pairwise (· ≤ ·)) : ms = srtI ns := by
  have p2 : (srtI ns).Perm ns := List.mergeSort_perm _ _
  have s2 : (srtI ns).Pairwise fun i j => decide (i ≤ j) = true := List.pairwise_mergeSort (fun a b c h1 h2 => by simp at *; omega) (fun a b => by simp; omega) ns
  have s3 : (srtI ns).Pairwise (· ≤ ·) := s2.imp fun h => of_decide_eq_true h
  exact List.Perm.eq_of_pairwise (fun a b _ _ h1 h2 => Int.le_antisymm h1 h2) s s3 (p.trans p2.symm)
theorem lex_tot (p q : Int × Int) : leP p q = true ∨ leP q p = true := by
  unfold leP
  cases h : SrtO.lexB q p with
  | false => exact .inl rfl
  | true =>
    right
    rw [Bool.not_eq_true']
    exact (ltP_swo (fun _ => (0, 0))).1 |> fun _ => by
      have a := SrtO.lexB_iff.mp h
      exact SrtO.lexB_no.mpr (by omega)
theorem srtP_uniq {ns ms : List (Int × Int)} (p : ms.Perm ns) (s : ms.Pairwise fun x y => SrtO.lexB y x = false) : ms = srtP ns := by
  have p2 : (srtP ns).Perm ns := List.mergeSort_perm _ _
  have s2 : (srtP ns).Pairwise fun x y => leP x y = true := List.pairwise_mergeSort (fun a b c h1 h2 => by
    unfold leP at *
    rw [Bool.not_eq_true'] at *
    have a := SrtO.lexB_no.mp h1
    have b := SrtO.lexB_no.mp h2
    exact SrtO.lexB_no.mpr (by omega)) (fun a b => by rcases lex_tot a b with h | h <;> simp [h]) ns
  refine List.Perm.eq_of_pairwise (le := fun x y => SrtO.lexB y x = false) (fun a b _ _ h1 h2 => ?_) s (s2.imp fun h => by unfold leP at h; rwa [Bool.not_eq_true'] at h) (p.trans p2.symm)
  have x := SrtO.lexB_no.mp h1
  have y := SrtO.lexB_no.mp h2
  exact Prod.ext (by omega) (by omega)
theorem pairOf_eq {d : D} {p : Int × Int} (h : pairOf d = some p) : d = dP p := by
  unfold pairOf at h
  split at h
  · cases h; rfl
  · cases h
theorem pairsOf_eq : ∀ {ds : List D} {ps : List (Int × Int)}, pairsOf ds = some ps → ds = ps.map dP
  | [], ps, h => by cases h; rfl
  | d :: r, ps, h => by
    obtain ⟨p, h1, h2⟩ := Option.bind_eq_some_iff.mp (show (pairOf d).bind (fun p => (pairsOf r).map (p :: ·)) = some ps from h)
    obtain ⟨qs, h3, rfl⟩ := Option.map_eq_some_iff.mp h2
    rw [List.map_cons, ← pairOf_eq h1, ← pairsOf_eq h3]
theorem pairs_at {G : Hp} : ∀ {ps : List (Int × Int)} {vs : List V}, AtL X.K ca G (ps.map dP) vs → ∃ k : V → Int × Int, vs.map k = ps ∧ ∀ x ∈ vs, ∃ t, x = V.ref t ∧ G t = some (.tup [.int (k x).1, .int (k x).2]) := by
  intro ps vs h
  refine ⟨fun x => match x with
    | .ref t => match G t with
      | some (.tup [.int i, .int j]) => (i, j)
      | _ => (0, 0)
    | _ => (0, 0), ?_⟩
  induction ps generalizing vs with
  | nil => cases h; exact ⟨rfl, fun x m => by cases m⟩
  | cons p ps ih =>
    obtain ⟨v, r, rfl, ⟨t, ws, rfl, h1, h2⟩, h3⟩ := h
    obtain ⟨e1, e2⟩ := ih h3
    obtain ⟨u, u', rfl, a1, a2⟩ := atl2 h2
    cases a1
    cases a2
    have g : G t = some (.tup [.int p.1, .int p.2]) := h1
    refine ⟨?_, fun x m => ?_⟩
    · rw [List.map_cons, e1]
      simp only [g]
    · rcases List.mem_cons.mp m with rfl | m
      · exact ⟨t, rfl, by simp only [g]⟩
      · exact e2 x m
theorem at_pairs {G : Hp} {k : V → Int × Int} : ∀ {vs : List V}, (∀ x ∈ vs, ∃ t, x = V.ref t ∧ G t = some (.tup [.int (k x).1, .int (k x).2])) → AtL X.K ca G ((vs.map k).map dP) vs
  | [], _ => rfl
  | v :: vs, h => by
    obtain ⟨t, e, g⟩ := h v List.mem_cons_self
    refine ⟨v, vs, rfl, ⟨t, _, e, g, ?_⟩, at_pairs fun x m => h x (List.mem_cons_of_mem _ m)⟩
    exact ⟨_, _, rfl, rfl, _, _, rfl, rfl, rfl⟩
theorem cr_srt : CallR X (.builtin "sorted") (fun xs H Q => rSortedI X.K xs H Q ∨ rSortedPO X.K xs H Q) := cr_sortedI.or cr_sortedPO
theorem vn_srt : VN X ca (fun xs H Q => rSortedI X.K xs H Q ∨ rSortedPO X.K xs H Q) gSrt := by
  intro G H W1 xs ds Q s a w
  unfold gSrt at w
  split at w
  · obtain ⟨v, rfl, p, vs, rfl, h1, h2⟩ := atl1 a
    split at w
    · rename_i ns e
      rw [intsOf_at e h2] at h1
      refine .inl ⟨p, ns, rfl, .of (s _ _ h1), fun ms q pm so n => ?_⟩
      rw [srtI_uniq pm so]
      exact new_lst s w (AtL.of_ints _) n
    · split at w
      · rename_i ps e
        rw [pairsOf_eq e] at h2
        obtain ⟨k, e1, e2⟩ := pairs_at h2
        refine .inr ⟨p, vs, k, rfl, .of (s _ _ h1), fun x m => let ⟨t, z1, z2⟩ := e2 x m; ⟨t, z1, s _ _ z2⟩, fun ys q so sb n => ?_⟩
        have e3 : ys.map k = srtP ps := by
          refine srtP_uniq (e1 ▸ sb.perm.map k) (List.pairwise_map.mpr so)
        have a3 : AtL X.K ca G ((ys.map k).map dP) ys := at_pairs fun x m => e2 x (sb.perm.mem_iff.mp m)
        rw [e3] at a3
        exact new_lst s w a3 n
      · exact w.elim
  · exact w.elim
end
/-! ### xs[::-1] -/
end Tk

namespace Tk
open PySem PySem.Spec L2 PyProof.Rows
/-! ### built-ins by name -/
/-- the module hides none of these -/
structure BT (mg : Str → Option Value) : Prop where
  len : mg "len" = none
  abs : mg "abs" = none
  int : mg "int" = none
  list : mg "list" = none
  tuple : mg "tuple" = none
  min : mg "min" = none
  max : mg "max" = none
  sum : mg "sum" = none
  all : mg "all" = none
  any : mg "any" = none
  sorted : mg "sorted" = none
  isinstance : mg "isinstance" = none
  range : mg "range" = none
  enumerate : mg "enumerate" = none
  zip : mg "zip" = none
  bool : mg "bool" = none
  str : mg "str" = none
  dict : mg "dict" = none
theorem bb_len : bootBuiltins "len" = some (.builtin "len") := by decide +kernel
theorem bb_abs : bootBuiltins "abs" = some (.builtin "abs") := by decide +kernel
theorem bb_int : bootBuiltins "int" = some (.type "int") := by decide +kernel
theorem bb_bool : bootBuiltins "bool" = some (.type "bool") := by decide +kernel
theorem bb_str : bootBuiltins "str" = some (.type "str") := by decide +kernel
theorem bb_dict : bootBuiltins "dict" = some (.type "dict") := by decide +kernel
theorem bb_list : bootBuiltins "list" = some (.type "list") := by decide +kernel
theorem bb_tuple : bootBuiltins "tuple" = some (.type "tuple") := by decide +kernel
theorem bb_min : bootBuiltins "min" = some (.builtin "min") := by decide +kernel
theorem bb_max : bootBuiltins "max" = some (.builtin "max") := by decide +kernel
theorem bb_sum : bootBuiltins "sum" = some (.builtin "sum") := by decide +kernel
theorem bb_all : bootBuiltins "all" = some (.builtin "all") := by decide +kernel
theorem bb_any : bootBuiltins "any" = some (.builtin "any") := by decide +kernel
theorem bb_sorted : bootBuiltins "sorted" = some (.builtin "sorted") := by decide +kernel
theorem bb_isinstance : bootBuiltins "isinstance" = some (.builtin "isinstance") := by decide +kernel
section
variable {X : Cx} {ca : Cn} {W : WX} {e e' : Expr} {es : List Expr} {fl : Ev → R (List D)} {p pos : Pos}
/-- the names stand as the text has them -/
structure Nm (X : Cx) (x : Str) (e : Expr) (es : List Expr) (pos : Pos) : Prop where
  g : Gl X x
  h : starEach (e :: es) X.env = (false, eval e X.env) :: starEach es X.env
  p : (backTo pos (starEach es X.env)).any (·.1) = false
theorem fe_len (T : BT X.mg) (ha : FA X ca W (e :: es) fl) (n : Nm X "len" e es pos := by exact ⟨rfl, rfl, rfl⟩) : FE X ca W (.Call (.Name "len" p) (e :: es) [] pos) (eA gLen fl) := fe_blt call_len vn_len n.g T.len bb_len ha (by decide) (by decide) n.h n.p
theorem fe_abs (T : BT X.mg) (ha : FA X ca W (e :: es) fl) (n : Nm X "abs" e es pos := by exact ⟨rfl, rfl, rfl⟩) : FE X ca W (.Call (.Name "abs" p) (e :: es) [] pos) (eA gAbs fl) := fe_blt call_abs vn_abs n.g T.abs bb_abs ha (by decide) (by decide) n.h n.p
theorem fe_intc (T : BT X.mg) (ha : FA X ca W (e :: es) fl) (n : Nm X "int" e es pos := by exact ⟨rfl, rfl, rfl⟩) : FE X ca W (.Call (.Name "int" p) (e :: es) [] pos) (eA gInt fl) := fe_bty call_int1 vn_int n.g T.int bb_int ha (by decide) (by decide) n.h n.p
theorem fe_listc (T : BT X.mg) (ha : FA X ca W (e :: es) fl) (n : Nm X "list" e es pos := by exact ⟨rfl, rfl, rfl⟩) : FE X ca W (.Call (.Name "list" p) (e :: es) [] pos) (eA gList fl) := fe_bty call_list_of vn_list n.g T.list bb_list ha (by decide) (by decide) n.h n.p
theorem fe_tuplec (T : BT X.mg) (ha : FA X ca W (e :: es) fl) (n : Nm X "tuple" e es pos := by exact ⟨rfl, rfl, rfl⟩) : FE X ca W (.Call (.Name "tuple" p) (e :: es) [] pos) (eA gTuple fl) := fe_bty call_tuple_of vn_tuple n.g T.tuple bb_tuple ha (by decide) (by decide) n.h n.p
theorem fe_min (T : BT X.mg) (ha : FA X ca W (e :: es) fl) (hc : X.calm = true := by rfl) (n : Nm X "min" e es pos := by exact ⟨rfl, rfl, rfl⟩) : FE X ca W (.Call (.Name "min" p) (e :: es) [] pos) (eA gMin fl) := fe_blt (call_minA hc) vn_min n.g T.min bb_min ha (by decide) (by decide) n.h n.p
theorem fe_max (T : BT X.mg) (ha : FA X ca W (e :: es) fl) (hc : X.calm = true := by rfl) (n : Nm X "max" e es pos := by exact ⟨rfl, rfl, rfl⟩) : FE X ca W (.Call (.Name "max" p) (e :: es) [] pos) (eA gMax fl) := fe_blt (call_maxA hc) vn_max n.g T.max bb_max ha (by decide) (by decide) n.h n.p
theorem fe_sum (T : BT X.mg) (ha : FA X ca W (e :: es) fl) (hc : X.calm = true := by rfl) (n : Nm X "sum" e es pos := by exact ⟨rfl, rfl, rfl⟩) : FE X ca W (.Call (.Name "sum" p) (e :: es) [] pos) (eA gSum fl) := fe_blt (cr_sum hc) vn_sum n.g T.sum bb_sum ha (by decide) (by decide) n.h n.p
theorem fe_all (T : BT X.mg) (ha : FA X ca W (e :: es) fl) (hc : X.calm = true := by rfl) (n : Nm X "all" e es pos := by exact ⟨rfl, rfl, rfl⟩) : FE X ca W (.Call (.Name "all" p) (e :: es) [] pos) (eA gAll fl) := fe_blt (cr_all hc) vn_all n.g T.all bb_all ha (by decide) (by decide) n.h n.p
theorem fe_any (T : BT X.mg) (ha : FA X ca W (e :: es) fl) (hc : X.calm = true := by rfl) (n : Nm X "any" e es pos := by exact ⟨rfl, rfl, rfl⟩) : FE X ca W (.Call (.Name "any" p) (e :: es) [] pos) (eA gAny fl) := fe_blt (cr_any hc) vn_any n.g T.any bb_any ha (by decide) (by decide) n.h n.p
theorem fe_sorted (T : BT X.mg) (ha : FA X ca W (e :: es) fl) (n : Nm X "sorted" e es pos := by exact ⟨rfl, rfl, rfl⟩) : FE X ca W (.Call (.Name "sorted" p) (e :: es) [] pos) (eA gSrt fl) := fe_blt cr_srt vn_srt n.g T.sorted bb_sorted ha (by decide) (by decide) n.h n.p
theorem fe_isi (T : BT X.mg) (ha : FA X ca W (e :: es) fl) (n : Nm X "isinstance" e es pos := by exact ⟨rfl, rfl, rfl⟩) : FE X ca W (.Call (.Name "isinstance" p) (e :: es) [] pos) (eA gIsi fl) := fe_blt call_isi vn_isi n.g T.isinstance bb_isinstance ha (by decide) (by decide) n.h n.p
theorem fe_ty_int (T : BT X.mg) (hg : Gl X "int" := by rfl) : FE X ca W (.Name "int" pos) (eC (.ty "int")) := fe_bltn hg T.int bb_int (by decide) (by decide)
theorem fe_ty_bool (T : BT X.mg) (hg : Gl X "bool" := by rfl) : FE X ca W (.Name "bool" pos) (eC (.ty "bool")) := fe_bltn hg T.bool bb_bool (by decide) (by decide)
theorem fe_ty_str (T : BT X.mg) (hg : Gl X "str" := by rfl) : FE X ca W (.Name "str" pos) (eC (.ty "str")) := fe_bltn hg T.str bb_str (by decide) (by decide)
theorem fe_ty_list (T : BT X.mg) (hg : Gl X "list" := by rfl) : FE X ca W (.Name "list" pos) (eC (.ty "list")) := fe_bltn hg T.list bb_list (by decide) (by decide)
theorem fe_ty_tuple (T : BT X.mg) (hg : Gl X "tuple" := by rfl) : FE X ca W (.Name "tuple" pos) (eC (.ty "tuple")) := fe_bltn hg T.tuple bb_tuple (by decide) (by decide)
theorem fe_ty_dict (T : BT X.mg) (hg : Gl X "dict" := by rfl) : FE X ca W (.Name "dict" pos) (eC (.ty "dict")) := fe_bltn hg T.dict bb_dict (by decide) (by decide)
end
/-- a constant of the module -/
def Glb (mg : Str → Option Value) (x : Str) (d : D) : Prop := ∃ u, mg x = some u ∧ RelV (toV d) u ∧ flatD d = true
theorem fe_glb {X : Cx} {ca : Cn} {W : WX} {x : Str} {d : D} {pos : Pos} (h : Glb X.mg x d) (hg : Gl X x := by rfl) (hd : (x == ("__debug__" : Str)) = false := by decide) : FE X ca W (.Name x pos) (eC d) := by
  obtain ⟨u, h1, h2, h3⟩ := h
  exact fe_glob hg h1 h2 (fun G => by cases d <;> first | rfl | cases h3) hd
/-! ### defs -/
structure Def (P : Program) (w : World) (K : PySem.W.Frag) (mg : Str → Option Value) (base : Heap) (ca : Cn) (k : Nat) (x : Str) (ps : List Str) (F : List D → R D) : Prop where
  ex : ∃ f fd, FnOk P w K mg base (L2.CX P w) k f fd ps (spF K ca ps.length F) ∧ mg x = some (.ref f) ∧ PySem.W.keepIn K (.ref f) = true ∧ Binds K fd ps []
/-- a def as it stands behind the top -/
structure FunAt (K : PySem.W.Frag) (mg : Str → Option Value) (x : Str) (st : Stmt) : Prop where
  ex : ∃ f fd, Fun K x x st f fd ∧ mg x = some (.ref f)
theorem fe_d {X : Cx} {ca : Cn} {W : WX} {k j : Nat} {x : Str} {ps : List Str} {Fn : List D → R D} {p pos : Pos} {e : Expr} {es : List Expr} {fa : Ev → R (List D)} (d : Def X.prog X.w X.K X.mg X.base ca k x ps Fn) (hr : Room j X.A) (tk : Takes X W) (ha : FA X ca W (e :: es) fa) (hk : k ≤ j := by decide) (hg : Gl X x := by rfl) (hdb : (x == ("__debug__" : Str)) = false := by decide)
    (he : starEach (e :: es) X.env = (false, eval e X.env) :: starEach es X.env := by rfl) (hpl : (backTo pos (starEach es X.env)).any (·.1) = false := by rfl) : FE X ca W (.Call (.Name x p) (e :: es) [] pos) (eCall ps.length Fn fa) := by
  obtain ⟨f, fd, F, h1, h2, h3⟩ := d.ex
  exact fe_call F (hr.mono hk) tk hg h1 h2 h3 ha hdb he hpl
end Tk

namespace Tk
open PySem PySem.Spec L2 PyProof.Rows
/-! ### binding: which of the written values, the defaults, the keywords' values -/
def pickI {α : Type} : List Nat → List α → List α
  | [], _ => []
  | i :: is, l => match l[i]? with
    | some a => a :: pickI is l
    | none => pickI is l
theorem pick_vals {vs : List V} {us : List Value} (h : Vals vs us) : ∀ is : List Nat, Vals (pickI is vs) (pickI is us)
  | [] => .nil
  | i :: is => by
    unfold pickI
    cases e : vs[i]? with
    | none => rw [h.none_of e]; exact pick_vals h is
    | some x =>
      obtain ⟨u, e2, r⟩ := h.get e
      rw [e2]
      exact .cons r (pick_vals h is)
theorem pick_at {K : PySem.W.Frag} {ca : Cn} {G : Hp} {ds : List D} {vs : List V} (h : AtL K ca G ds vs) : ∀ is : List Nat, AtL K ca G (pickI is ds) (pickI is vs)
  | [] => rfl
  | i :: is => by
    unfold pickI
    cases e : ds[i]? with
    | none =>
      have e2 : vs[i]? = none := by rw [List.getElem?_eq_none_iff] at e ⊢; rw [← h.length]; exact e
      rw [e2]
      exact pick_at h is
    | some d =>
      obtain ⟨v, e2, a⟩ := h.get e
      rw [e2]
      exact ⟨v, _, rfl, a, pick_at h is⟩
def gDk (is : List Nat) (mid : List D) : List D → List D → List D := fun ds zs => pickI is (ds ++ (mid ++ zs))
theorem flat_at {K : PySem.W.Frag} {ca : Cn} {G : Hp} {d : D} (h : flatD d = true) : At K ca G d (toV d) := by
  cases d <;> first | rfl | cases h
theorem flats_at {K : PySem.W.Frag} {ca : Cn} {G : Hp} : ∀ {ds : List D}, ds.all flatD = true → AtL K ca G ds (ds.map toV)
  | [], _ => rfl
  | d :: ds, h => by
    rw [List.all_cons, Bool.and_eq_true] at h
    exact ⟨_, _, rfl, flat_at h.1, flats_at h.2⟩
abbrev kwV (kd : List (Str × D)) : List (Str × V) := kd.map fun q => (q.1, toV q.2)
section
variable {K : PySem.W.Frag} {ca : Cn} {x qual : Str} {params : Arguments} {body : List Stmt} {scope : Scope} {dd : List D} {kd : List (Str × D)} {f : Addr} {fd : FuncData} {ps : List Str}
theorem kb_of {n : Nat} {ks : List Str} {is : List Nat} {mid : List D} {its : List Value} (hm : mid.all flatD = true) (hv : Vals (mid.map toV) its)
    (to : ∀ (s : Shared) (us ws : List Value), K.In s.heap → us.length = n → ws.length = ks.length → BindsTo s fd ⟨us, ks.zip ws⟩ (ps.zip (pickI is (us ++ (its ++ ws))))) : KB K ca fd ps n ks (gDk is mid) :=
  ⟨fun us ws => pickI is (us ++ (its ++ ws)), fun vs zs => pickI is (vs ++ (mid.map toV ++ zs)), ⟨to, fun r1 r2 => pick_vals (r1.append (hv.append r2)) is⟩, fun G ds vs zs ws a b => pick_at (a.append ((flats_at hm).append b)) is⟩
/-- no default is looked up -/
theorem kb_n (F : FunD K x qual params body scope [] (kwV kd) f fd) (n : Nat) (ks : List Str) (is : List Nat)
    (h : ∀ (kV doc pm : Value) (an : Option Addr) (cdv ct : Value) (us ws : List Value), us.length = n → ws.length = ks.length → bindArgs (PySem.W.fnOf x qual params body scope .none kV doc pm an cdv ct) ⟨us, ks.zip ws⟩ = pure (ps.zip (pickI is (us ++ ws)))) : KB K ca fd ps n ks (gDk is []) := by
  obtain ⟨oc, od, dV, kV, doc, pm, an, cdv, ct, osl, rfl, lk, hcd, hD, hK⟩ := F.ex
  rcases hD with ⟨_, rfl⟩ | ⟨e, _⟩
  · exact kb_of rfl .nil fun s us ws _ l1 l2 => BindsTo.of_eq (h kV doc pm an cdv ct us ws l1 l2)
  · exact absurd rfl e
/-- keyword-only defaults -/
theorem kb_k (F : FunD K x qual params body scope [] (kwV kd) f fd) (n : Nat) (ks : List Str) (is : List Nat) (ms : List (Str × D)) (hk : kd ≠ []) (hms : ∀ q ∈ kwV ms, q ∈ kwV kd) (hf : (ms.map (·.2)).all flatD = true)
    (h : ∀ (D : Addr) (doc pm : Value) (an : Option Addr) (cdv ct : Value) (us mv ws : List Value), us.length = n → mv.length = ms.length → ws.length = ks.length →
      KwChain D ((ms.map (·.1)).zip mv) (bindArgs (PySem.W.fnOf x qual params body scope .none (.ref D) doc pm an cdv ct) ⟨us, ks.zip ws⟩) (ps.zip (pickI is (us ++ (mv ++ ws))))) : KB K ca fd ps n ks (gDk is (ms.map (·.2))) := by
  obtain ⟨oc, od, dV, kV, doc, pm, an, cdv, ct, osl, rfl, lk, hcd, hD, hK⟩ := F.ex
  rcases hD with ⟨_, rfl⟩ | ⟨e, _⟩
  · rcases hK with e | ⟨D, rfl, hq⟩
    · exact absurd (List.map_eq_nil_iff.mp e) hk
    · obtain ⟨mv, hl, rk, hks⟩ := kwd_vals (ms := kwV ms) fun q hm => hq q (hms q hm)
      rw [List.length_map] at hl
      have e1 : (kwV ms).map (·.1) = ms.map (·.1) := by rw [List.map_map]; rfl
      have e2 : (kwV ms).map (·.2) = (ms.map (·.2)).map toV := by rw [List.map_map, List.map_map]; rfl
      rw [e1] at hks
      rw [e2] at rk
      exact kb_of hf rk fun s us ws X l1 l2 => BindsTo.of_looks fun M => KwChain.looks X hks (h D doc pm an cdv ct us mv ws l1 hl l2)
  · exact absurd rfl e
/-- defaults, no keyword-only one looked up -/
theorem kb_d (F : FunD K x qual params body scope (dd.map toV) (kwV kd) f fd) (n : Nat) (ks : List Str) (is : List Nat) (hd : dd ≠ []) (hf : dd.all flatD = true)
    (h : ∀ (T : Addr) (kV doc pm : Value) (an : Option Addr) (cdv ct : Value) (us its ws : List Value), us.length = n → its.length = dd.length → ws.length = ks.length →
      ∃ k, bindArgs (PySem.W.fnOf x qual params body scope (.ref T) kV doc pm an cdv ct) ⟨us, ks.zip ws⟩ = seqItems? (.ref T) >>= k ∧ k (some its.toArray) = pure (ps.zip (pickI is (us ++ (its ++ ws))))) : KB K ca fd ps n ks (gDk is dd) := by
  obtain ⟨oc, od, dV, kV, doc, pm, an, cdv, ct, osl, rfl, lk, hcd, hD, hK⟩ := F.ex
  rcases hD with ⟨e, _⟩ | ⟨_, T, o, its, m, rfl, lT, oT, rT⟩
  · exact absurd (List.map_eq_nil_iff.mp e) hd
  · refine kb_of hf rT fun s us ws X l1 l2 => ?_
    obtain ⟨k, e1, e2⟩ := h T kV doc pm an cdv ct us its ws l1 (by rw [← rT.length, List.length_map]) l2
    refine BindsTo.of_looks fun M => ?_
    rw [e1]
    exact looks_items X lT oT (.of_pure e2)
/-- both -/
theorem kb_dk (F : FunD K x qual params body scope (dd.map toV) (kwV kd) f fd) (n : Nat) (ks : List Str) (is : List Nat) (ms : List (Str × D)) (hd : dd ≠ []) (hk : kd ≠ []) (hms : ∀ q ∈ kwV ms, q ∈ kwV kd) (hf : (dd ++ ms.map (·.2)).all flatD = true)
    (h : ∀ (T D : Addr) (doc pm : Value) (an : Option Addr) (cdv ct : Value) (us its mv ws : List Value), us.length = n → its.length = dd.length → mv.length = ms.length → ws.length = ks.length →
      ∃ k, bindArgs (PySem.W.fnOf x qual params body scope (.ref T) (.ref D) doc pm an cdv ct) ⟨us, ks.zip ws⟩ = seqItems? (.ref T) >>= k ∧ KwChain D ((ms.map (·.1)).zip mv) (k (some its.toArray)) (ps.zip (pickI is (us ++ ((its ++ mv) ++ ws))))) : KB K ca fd ps n ks (gDk is (dd ++ ms.map (·.2))) := by
  obtain ⟨oc, od, dV, kV, doc, pm, an, cdv, ct, osl, rfl, lk, hcd, hD, hK⟩ := F.ex
  rcases hD with ⟨e, _⟩ | ⟨_, T, o, its, m, rfl, lT, oT, rT⟩
  · exact absurd (List.map_eq_nil_iff.mp e) hd
  · rcases hK with e | ⟨D, rfl, hq⟩
    · exact absurd (List.map_eq_nil_iff.mp e) hk
    · obtain ⟨mv, hl, rk, hks⟩ := kwd_vals (ms := kwV ms) fun q hm => hq q (hms q hm)
      rw [List.length_map] at hl
      have e1 : (kwV ms).map (·.1) = ms.map (·.1) := by rw [List.map_map]; rfl
      have e2 : (kwV ms).map (·.2) = (ms.map (·.2)).map toV := by rw [List.map_map, List.map_map]; rfl
      rw [e1] at hks
      rw [e2] at rk
      refine kb_of (its := its ++ mv) hf (by rw [List.map_append]; exact rT.append rk) fun s us ws X l1 l2 => ?_
      obtain ⟨k, e1, e2⟩ := h T D doc pm an cdv ct us its mv ws l1 (by rw [← rT.length, List.length_map]) hl l2
      refine BindsTo.of_looks fun M => ?_
      rw [e1]
      exact looks_items X lT oT (KwChain.looks X hks e2)
end
theorem FunD.same {K : PySem.W.Frag} {x x' q q' : Str} {pa pa' : Arguments} {bd bd' : List Stmt} {sc sc' : Scope} {dv dv' : List V} {kw kw' : List (Str × V)} {f : Addr} {fd fd' : FuncData} (F : FunD K x q pa bd sc dv kw f fd) (F' : FunD K x' q' pa' bd' sc' dv' kw' f fd') : fd = fd' := by
  obtain ⟨oc, od, dV, kV, doc, pm, an, cdv, ct, osl, e1, lk, _⟩ := F.ex
  obtain ⟨oc', od', dV', kV', doc', pm', an', cdv', ct', osl', e1', lk', _⟩ := F'.ex
  rw [lk] at lk'
  injection lk' with h
  injection h with h1 h2 h3 h4
  injection h3
/-! ### defs by the head's facts -/
abbrev FD (K : PySem.W.Frag) (x qual : Str) (st : Stmt) (dd : List D) (kd : List (Str × D)) (f : Addr) (fd : FuncData) : Prop := FunD K x qual (defArgs st) (defBody st) (defScope st) (dd.map toV) (kwV kd) f fd
/-- a def of the module as it stands behind the top -/
structure FnAt (K : PySem.W.Frag) (mg : Str → Option Value) (x : Str) (st : Stmt) (dd : List D) (kd : List (Str × D)) : Prop where
  ex : ∃ f fd, FD K x x st dd kd f fd ∧ mg x = some (.ref f)
/-- .. that keeps its promise -/
structure DefA (P : Program) (w : World) (K : PySem.W.Frag) (mg : Str → Option Value) (base : Heap) (ca : Cn) (k : Nat) (x : Str) (st : Stmt) (dd : List D) (kd : List (Str × D)) (ps : List Str) (F : List D → R D) : Prop where
  ex : ∃ f fd, FnOk P w K mg base (L2.CX P w) k f fd ps (spF K ca ps.length F) ∧ mg x = some (.ref f) ∧ FD K x x st dd kd f fd
section
variable {P : Program} {w : World} {K : PySem.W.Frag} {mg : Str → Option Value} {base : Heap} {ca : Cn} {x : Str} {st : Stmt} {dd : List D} {kd : List (Str × D)} {ps N : List Str} {k : Nat} {g : Ev → SO}
theorem DefA.of (h : FnAt K mg x st dd kd) (S : FnScope N ps (defScope st)) (hb : ∀ (f : Addr) (cdv : Value) (A : Around) (outer : List Env) (s : Shared) (H : Hp) (E : XK), Room k (A.deeper (envOfC x (defScope st) s.heap.objs.size f cdv)) →
      FSs (cxOf (L2.CX P w) P w K mg base N x (defScope st) f cdv A outer s H E) ca (fun c d _ H' => E c d H') (defBody st) g) : DefA P w K mg base ca (k + 1) x st dd kd ps (runF N.length g) := by
  obtain ⟨f, fd, F, hm⟩ := h.ex
  exact ⟨f, fd, fn_okD F S (hb f), hm, F⟩
end
section
variable {X : Cx} {ca : Cn} {W : WX} {k j n : Nat} {x : Str} {st : Stmt} {dd : List D} {kd : List (Str × D)} {ps ks : List Str} {Fn : List D → R D} {p pos : Pos} {e : Expr} {es : List Expr} {kws : List Keyword} {fa fk : Ev → R (List D)} {gD : List D → List D → List D}
/-- f(e, ..), every parameter written -/
theorem fe_a (d : DefA X.prog X.w X.K X.mg X.base ca k x st dd kd ps Fn) (hb : ∀ {f fd}, FD X.K x x st dd kd f fd → Binds X.K fd ps []) (hr : Room j X.A) (tk : Takes X W) (ha : FA X ca W (e :: es) fa) (hk : k ≤ j := by decide) (hg : Gl X x := by rfl) (hdb : (x == ("__debug__" : Str)) = false := by decide)
    (he : starEach (e :: es) X.env = (false, eval e X.env) :: starEach es X.env := by rfl) (hpl : (backTo pos (starEach es X.env)).any (·.1) = false := by rfl) : FE X ca W (.Call (.Name x p) (e :: es) [] pos) (eCall ps.length Fn fa) := by
  obtain ⟨f, fd, F, h1, h2⟩ := d.ex
  exact fe_call F (hr.mono hk) tk hg h1 h2.kp (hb h2) ha hdb he hpl
/-- f(e, .., k = v, ..) -/
theorem fe_ak (d : DefA X.prog X.w X.K X.mg X.base ca k x st dd kd ps Fn) (hb : ∀ {f fd}, FD X.K x x st dd kd f fd → KB X.K ca fd ps n ks gD) (hr : Room j X.A) (tk : Takes X W) (ha : FA X ca W (e :: es) fa) (hkw : FK X ca W kws fk) (hk : k ≤ j := by decide) (hg : Gl X x := by rfl)
    (hall : (backToKw pos (keywordEach kws X.env)).all (·.1.isSome) = true := by rfl) (hks : (backToKw pos (keywordEach kws X.env)).filterMap (·.1) = ks := by rfl) (hdb : (x == ("__debug__" : Str)) = false := by decide)
    (he : starEach (e :: es) X.env = (false, eval e X.env) :: starEach es X.env := by rfl) (hpl : ((backTo pos (starEach (e :: es) X.env)).any (·.1) || (backToKw pos (keywordEach kws X.env)).any (·.1.isNone)) = false := by rfl) :
    FE X ca W (.Call (.Name x p) (e :: es) kws pos) (eCallK n ks.length ps.length Fn gD fa fk) := by
  obtain ⟨f, fd, F, h1, h2⟩ := d.ex
  exact fe_callK F (hr.mono hk) tk hg h1 h2.kp (hb h2) ha hkw hall hks hdb he hpl
/-- f(k = v, ..) -/
theorem fe_ak0 (d : DefA X.prog X.w X.K X.mg X.base ca k x st dd kd ps Fn) (hb : ∀ {f fd}, FD X.K x x st dd kd f fd → KB X.K ca fd ps 0 ks gD) (hr : Room j X.A) (tk : Takes X W) (hkw : FK X ca W kws fk) (hk : k ≤ j := by decide) (hg : Gl X x := by rfl)
    (hall : (backToKw pos (keywordEach kws X.env)).all (·.1.isSome) = true := by rfl) (hks : (backToKw pos (keywordEach kws X.env)).filterMap (·.1) = ks := by rfl) (hdb : (x == ("__debug__" : Str)) = false := by decide)
    (hpl : ((backTo pos (starEach [] X.env)).any (·.1) || (backToKw pos (keywordEach kws X.env)).any (·.1.isNone)) = false := by rfl) :
    FE X ca W (.Call (.Name x p) [] kws pos) (eCallK 0 ks.length ps.length Fn gD aN fk) := by
  obtain ⟨f, fd, F, h1, h2⟩ := d.ex
  obtain ⟨u, pk, ku⟩ := hkw.ex
  obtain ⟨g, gV, hbn, hgd⟩ := (hb h2).ex
  refine ⟨fun σ H Q => u σ H fun zs H2 => zs.length = ks.length ∧ spF X.K ca ps.length Fn (gV [] zs) H2 Q (WE W σ), ⟨fun pins s σ H Q I h => ?_⟩, fun B G H σ ρ Q s b r h => ?_⟩
  · refine wpAny_Call_Name_kw (ld_glob I hg h1 ?_ hdb)
    refine PySem.W.callWith_KW0 (h₀ := X.base) I.ok.mod.kin h2.kp hall (thn (pk.run pos pins s σ H _ I h) fun ws s2 ⟨zs, H2, I2, r2, l2, q2⟩ => ⟨I2.kIn, ?_⟩) hpl
    rw [hks]
    exact run_kb F (hr.mono hk) hbn (passAt tk σ) I2 .nil r2 rfl l2 q2
  · refine ku B G H σ ρ _ s b r (Wish.bind (show Wish X.K ca (SV X.K ca Q) G H ((fk ρ).bind fun zs => if ([] : List D).length = 0 ∧ zs.length = ks.length ∧ (gD [] zs).length = ps.length then Fn (gD [] zs) else .bad) (WE W σ) from h) fun zs G2 H2 _ x2 w2 ws a2 => ?_)
    split at w2
    · rename_i hl
      have a3 := hgd G2 [] [] zs ws rfl a2
      exact ⟨by rw [← a2.length]; exact hl.2.1, by rw [← a3.length]; exact hl.2.2, G2, _, x2.gh, a3, w2⟩
    · exact w2.elim
end
/-! ### the head's facts -/
def kwD (kd : List (Str × He.Dv)) : List (Str × V) := kd.map fun q => (q.1, q.2.v [])
structure Says (fa : List He.Fa) (fn : List He.DefD) (K : PySem.W.Frag) (mg : Str → Option Value) : Prop where
  h : ∃ hp : Heap, K.In hp ∧ hp.Ns mainGlobals mg
  c : He.SaysD fa fn K
def dvD : D → He.Dv
  | .non => .non
  | .bl b => .bl b
  | .int i => .int i
  | .str s => .str s
  | _ => .non
/-- a def's data, as the head reads it -/
def dfD (p : Str × Option Str) (x qual : Str) (st : Stmt) (dd : List D) (kd : List (Str × D)) : He.DefD := ⟨p, x, qual, defArgs st, defBody st, defScope st, dd.map dvD, kd.map fun q => (q.1, dvD q.2)⟩
theorem dv_eq {K : PySem.W.Frag} {d : D} (h : flatD d = true) : (dvD d).v K = toV d := by
  cases d <;> first | rfl | cases h
section
variable {fa : List He.Fa} {fn : List He.DefD} {K : PySem.W.Frag} {mg : Str → Option Value} {x : Str} {st : Stmt} {dd : List D} {kd : List (Str × D)}
theorem Says.fd (T : Says fa fn K mg) (i : Nat) {p : Str × Option Str} {q : Str} (hi : fn[i]? = some (dfD p x q st dd kd)) (h1 : dd.all flatD = true) (h2 : (kd.map (·.2)).all flatD = true) : ∃ fd, FD K x q st dd kd (He.fAd K p) fd := by
  obtain ⟨fd, F⟩ := T.c.def_ i hi
  have e1 : He.DefD.dvs K (dfD p x q st dd kd) = dd.map toV := by
    show (dd.map dvD).map (He.Dv.v K) = _
    rw [List.map_map]
    exact List.map_congr_left fun d m => dv_eq (List.all_eq_true.mp h1 d m)
  have e2 : He.DefD.kws K (dfD p x q st dd kd) = kwV kd := by
    show (kd.map fun q => (q.1, dvD q.2)).map (fun q => (q.1, q.2.v K)) = _
    rw [List.map_map]
    refine List.map_congr_left fun d m => ?_
    show (d.1, (dvD d.2).v K) = (d.1, toV d.2)
    rw [dv_eq (List.all_eq_true.mp h2 d.2 (List.mem_map.mpr ⟨d, m, rfl⟩))]
  rw [e1, e2] at F
  exact ⟨fd, F⟩
/-- the module's def x: its fact by place j, its data by place i -/
theorem Says.dfn (T : Says fa fn K mg) (j i : Nat) (hj : fa[j]? = some (.glo x) := by rfl) (hi : fn[i]? = some (dfD (x, none) x x st dd kd) := by rfl) (h1 : dd.all flatD = true := by rfl) (h2 : (kd.map (·.2)).all flatD = true := by rfl) : FnAt K mg x st dd kd := by
  obtain ⟨hp, X, G⟩ := T.h
  obtain ⟨fd, F⟩ := T.fd i hi h1 h2
  exact ⟨He.fAd K (x, none), fd, F, He.glo_ok X G (T.c.fact j hj)⟩
theorem Says.free (T : Says fa fn K mg) (j : Nat) (hj : fa[j]? = some (.free x) := by rfl) : mg x = none := by
  obtain ⟨hp, X, G⟩ := T.h
  exact He.free_ok X G (T.c.fact j hj)
theorem Says.int (T : Says fa fn K mg) (j : Nat) {i : Int} (hj : fa[j]? = some (.int x i) := by rfl) : Glb mg x (.int i) := by
  obtain ⟨hp, X, G⟩ := T.h
  obtain ⟨t, h⟩ := He.int_ok X G (T.c.fact j hj)
  exact ⟨_, h, ⟨t, rfl⟩, rfl⟩
theorem Says.str (T : Says fa fn K mg) (j : Nat) {z : Str} (hj : fa[j]? = some (.str x z) := by rfl) : Glb mg x (.str z) := by
  obtain ⟨hp, X, G⟩ := T.h
  obtain ⟨t, h⟩ := He.str_ok X G (T.c.fact j hj)
  exact ⟨_, h, ⟨t, rfl⟩, rfl⟩
end
/-- the facts about built-ins: the first of a list -/
def faB : List He.Fa := [.free "len", .free "abs", .free "int", .free "list", .free "tuple", .free "min", .free "max", .free "sum", .free "all", .free "any", .free "sorted", .free "isinstance", .free "range", .free "enumerate", .free "zip", .free "bool", .free "str", .free "dict"]
theorem Says.bt {fa : List He.Fa} {fn : List He.DefD} {K : PySem.W.Frag} {mg : Str → Option Value} (T : Says (faB ++ fa) fn K mg) : BT mg :=
  ⟨T.free 0, T.free 1, T.free 2, T.free 3, T.free 4, T.free 5, T.free 6, T.free 7, T.free 8, T.free 9, T.free 10, T.free 11, T.free 12, T.free 13, T.free 14, T.free 15, T.free 16, T.free 17⟩
end Tk

namespace Tk
open PySem PySem.Spec L2 PyProof.Rows
/-! ### own lists changed by their methods -/
/-- what a method does with an own list, by data; its value is none -/
def MutR (K : PySem.W.Frag) (ca : Cn) (r : V → List V → Hp → VK → Prop) (g : List D → List D → Option (List D)) : Prop :=
  ∀ (G H : Hp) (l : Addr) (xs ds xs' : List D) (vs ys : List V) (Q : VK), Same G H → H l = some (.lst vs) → AtL K ca G xs vs → AtL K ca G ds ys → g xs ds = some xs' → (∀ vs', AtL K ca G xs' vs' → Q .non (upd H l (.lst vs'))) → r (.ref l) ys H Q
def sMut (i : Nat) (g : List D → List D → Option (List D)) (fl : Ev → R (List D)) : Ev → SO := fun ρ => SO.from ρ (ownL ρ i) fun xs => SO.from ρ (fl ρ) fun ds => match g xs ds with
  | some xs' => .nx (ρ.set i (.l xs'))
  | none => .bad
def mRev (xs : List D) (ds : List D) : Option (List D) := match ds with
  | [] => some xs.reverse
  | _ => none
def mClr (_ : List D) (ds : List D) : Option (List D) := match ds with
  | [] => some []
  | _ => none
def mIns (xs : List D) (ds : List D) : Option (List D) := match ds with
  | [.int i, d] => if xs.length < sizeLine ∧ 0 ≤ i ∧ i < 2 ^ 63 then some (xs.take i.toNat ++ [d] ++ xs.drop i.toNat) else none
  | _ => none
def mExt (xs : List D) (ds : List D) : Option (List D) := match ds with
  | [.lst ys] => if xs.length + ys.length ≤ sizeLine then some (xs ++ ys) else none
  | _ => none
theorem mut_rev {K : PySem.W.Frag} {ca : Cn} : MutR K ca rReverse mRev := fun G H l xs ds xs' vs ys Q s h a b e q => by
  unfold mRev at e
  split at e
  · cases e; cases b; exact ⟨l, vs, rfl, rfl, h, q _ a.reverse⟩
  · cases e
theorem mut_clr {K : PySem.W.Frag} {ca : Cn} : MutR K ca rClear mClr := fun G H l xs ds xs' vs ys Q s h a b e q => by
  unfold mClr at e
  split at e
  · cases e; cases b; exact ⟨l, vs, rfl, rfl, h, q [] rfl⟩
  · cases e
theorem mut_ext {K : PySem.W.Frag} {ca : Cn} : MutR K ca rExtend mExt := fun G H l xs ds xs' vs ys Q s h a b e q => by
  unfold mExt at e
  split at e
  · split at e
    · rename_i hl
      cases e
      obtain ⟨v, rfl, p, ws, rfl, h1, h2⟩ := atl1 b
      exact ⟨l, p, vs, ws, rfl, rfl, h, s _ _ h1, by rw [← a.length, ← h2.length]; exact hl, q _ (a.append h2)⟩
    · cases e
  · cases e
abbrev rInsert : V → List V → Hp → VK → Prop := fun x vs H Q => ∃ (l : Addr) (xs : List V) (i : Int) (y : V), x = .ref l ∧ vs = [.int i, y] ∧ H l = some (.lst xs) ∧ xs.length < sizeLine ∧ 0 ≤ i ∧ i < 2 ^ 63 ∧
    Q .non (upd H l (.lst (xs.take i.toNat ++ [y] ++ xs.drop i.toNat)))
theorem mut_ins {K : PySem.W.Frag} {ca : Cn} : MutR K ca rInsert mIns := fun G H l xs ds xs' vs ys Q s h a b e q => by
  unfold mIns at e
  split at e
  · split at e
    · rename_i hl
      cases e
      obtain ⟨v, w, rfl, b1, b2⟩ := atl2 b
      cases b1
      exact ⟨l, vs, _, w, rfl, rfl, h, by rw [← a.length]; exact hl.1, hl.2.1, hl.2.2, q _ (((a.take _).append (.one b2)).append (a.drop _))⟩
    · cases e
  · cases e
section
variable {X : Cx} {ca : Cn} {W : WX} {e : Expr} {es : List Expr} {fl : Ev → R (List D)} {pos apos cpos py : Pos} {i : Nat} {y m : Str} {id : String} {r : V → List V → Hp → VK → Prop} {g : List D → List D → Option (List D)}
theorem fs_mut (slot : Slot "list" m id) (hty : typeOf (.builtin id) = pure (.type "method_descriptor")) (hm : MtR X id r) (hg : MutR X.K ca r g) (hi : X.N[i]? = some y) (h : FA X ca W (e :: es) fl)
    (hv : Vis X.env.scope y := by first | exact Or.inl rfl | exact Or.inr (Or.inl rfl) | exact Or.inr (Or.inr rfl)) (hd : (y == ("__debug__" : Str)) = false := by decide) (hcd : (y == ("__classdict__" : Str)) = false := by decide)
    (he : starEach (e :: es) X.env = (false, eval e X.env) :: starEach es X.env := by rfl) (hb : attributeBase (.Name y py) m X.env (eval (.Name y py) X.env) = eval (.Name y py) X.env := by rfl) (hw : ((backTo cpos (starEach (e :: es) X.env)).all (fun x => !x.1) && (backToKw cpos (keywordEach [] X.env)).all (fun x => x.1.isSome) && decide ((e :: es).length + ([] : List Keyword).length + (if ([] : List Keyword).isEmpty then 0 else 1) < 30)) = true := by rfl)
    (hl : (apos.endLine == cpos.line) = true := by rfl) (hpl : (backTo cpos (starEach es X.env)).any (·.1) = false := by rfl)
    (hs : swapsWith (.Call (.Attribute (.Name y py) m apos) (e :: es) [] cpos) none pos.line X.env = pure false := by rfl) : FS X ca W (.Expr (.Call (.Attribute (.Name y py) m apos) (e :: es) [] cpos) pos) (sMut i g fl) := by
  obtain ⟨t, p, k⟩ := h.ex
  refine ⟨_, ps_expr (pe_bm PySem.F.plainAttrs_list slot hty hm (pe_var hi hv hd hcd) p hb hw hl he hpl) hs, fun B G H σ ρ D s b r h => ?_⟩
  unfold sMut at h
  cases z : ownL ρ i with
  | ok xs =>
    rw [z] at h
    obtain ⟨q, a, vs, h1, h2, h3, h4, h5⟩ := own_l z r
    refine ⟨_, h1, .inl ⟨rfl, vs, .of h2⟩, k B G H σ ρ _ s b r (WishS.from h b r fun ds G1 H1 _ x w r1 b1 v av => ?_)⟩
    split at w
    · rename_i xs' hx
      refine hg G1 H1 a xs ds xs' vs v _ x.gh (x.hh _ _ h2) (AtL.mono x.gg h3) av hx fun vs' a' => ?_
      obtain ⟨t1, t2, t3⟩ := r1.turn x.gh b1 (t' := .l xs') (o := .lst vs') q rfl rfl h1 ⟨_, upd_same, a'⟩
      exact w _ G1 _ ⟨.refl _, t2, t3, fun c z => .inl z⟩ t1
    · exact w.elim
  | exc x => unfold ownL at z; split at z <;> cases z
  | bad => rw [z] at h; exact h.elim
theorem fs_mut0 (slot : Slot "list" m id) (hty : typeOf (.builtin id) = pure (.type "method_descriptor")) (hm : MtR X id r) (hg : MutR X.K ca r g) (hi : X.N[i]? = some y)
    (hv : Vis X.env.scope y := by first | exact Or.inl rfl | exact Or.inr (Or.inl rfl) | exact Or.inr (Or.inr rfl)) (hd : (y == ("__debug__" : Str)) = false := by decide) (hcd : (y == ("__classdict__" : Str)) = false := by decide)
    (hb : attributeBase (.Name y py) m X.env (eval (.Name y py) X.env) = eval (.Name y py) X.env := by rfl) (hl : (apos.endLine == cpos.line) = true := by rfl)
    (hs : swapsWith (.Call (.Attribute (.Name y py) m apos) [] [] cpos) none pos.line X.env = pure false := by rfl) : FS X ca W (.Expr (.Call (.Attribute (.Name y py) m apos) [] [] cpos) pos) (sMut i g aN) := by
  refine ⟨_, ps_expr (pe_bm0 PySem.F.plainAttrs_list slot hty hm (pe_var hi hv hd hcd) hb hl) hs, fun B G H σ ρ D s b r h => ?_⟩
  unfold sMut at h
  cases z : ownL ρ i with
  | ok xs =>
    rw [z] at h
    obtain ⟨q, a, vs, h1, h2, h3, h4, h5⟩ := own_l z r
    refine ⟨_, h1, .inl ⟨rfl, vs, .of h2⟩, ?_⟩
    have w : WishS X.K ca B G (match g xs [] with | some xs' => .nx (ρ.set i (.l xs')) | none => .bad) D W := h
    split at w
    · rename_i xs' hx
      refine hg G H a xs [] xs' vs [] _ s h2 h3 rfl hx fun vs' a' => ?_
      obtain ⟨t1, t2, t3⟩ := r.turn s b (t' := .l xs') (o := .lst vs') q rfl rfl h1 ⟨_, upd_same, a'⟩
      exact w _ G _ ⟨.refl _, t2, t3, fun c z => .inl z⟩ t1
    · exact w.elim
  | exc x => unfold ownL at z; split at z <;> cases z
  | bad => rw [z] at h; exact h.elim
end
/-- x.pop(), its value let go -/
def mPop (xs : List D) (ds : List D) : Option (List D) := match ds with
  | [] => if xs.length = 0 then none else some xs.dropLast
  | _ => none
abbrev rPopD : V → List V → Hp → VK → Prop := rPop
def sPop (i : Nat) : Ev → SO := fun ρ => SO.from ρ (ownL ρ i) fun xs => if xs.length = 0 then .bad else .nx (ρ.set i (.l xs.dropLast))
theorem AtL.dropLast {K : PySem.W.Frag} {ca : Cn} {G : Hp} : ∀ {ds : List D} {vs : List V}, AtL K ca G ds vs → AtL K ca G ds.dropLast vs.dropLast
  | ds, vs, h => by rw [List.dropLast_eq_take, List.dropLast_eq_take, ← h.length]; exact h.take _
theorem fs_pop {X : Cx} {ca : Cn} {W : WX} {pos apos cpos py : Pos} {i : Nat} {y : Str} (hi : X.N[i]? = some y)
    (hv : Vis X.env.scope y := by first | exact Or.inl rfl | exact Or.inr (Or.inl rfl) | exact Or.inr (Or.inr rfl)) (hd : (y == ("__debug__" : Str)) = false := by decide) (hcd : (y == ("__classdict__" : Str)) = false := by decide)
    (hb : attributeBase (.Name y py) "pop" X.env (eval (.Name y py) X.env) = eval (.Name y py) X.env := by rfl) (hl : (apos.endLine == cpos.line) = true := by rfl)
    (hs : swapsWith (.Call (.Attribute (.Name y py) "pop" apos) [] [] cpos) none pos.line X.env = pure false := by rfl) : FS X ca W (.Expr (.Call (.Attribute (.Name y py) "pop" apos) [] [] cpos) pos) (sPop i) := by
  refine ⟨_, ps_expr (pe_bm0 PySem.F.plainAttrs_list PySem.F.slot_list_pop PySem.F.type_list_pop mt_pop (pe_var hi hv hd hcd) hb hl) hs, fun B G H σ ρ D s b r h => ?_⟩
  unfold sPop at h
  cases z : ownL ρ i with
  | ok xs =>
    rw [z] at h
    obtain ⟨q, a, vs, h1, h2, h3, h4, h5⟩ := own_l z r
    refine ⟨_, h1, .inl ⟨rfl, vs, .of h2⟩, ?_⟩
    have w : WishS X.K ca B G (if xs.length = 0 then .bad else .nx (ρ.set i (.l xs.dropLast))) D W := h
    split at w
    · exact w.elim
    · rename_i hx
      have hl := h3.length
      refine ⟨a, vs, vs[vs.length - 1], rfl, rfl, h2, List.getElem?_eq_getElem (by omega), ?_⟩
      obtain ⟨t1, t2, t3⟩ := r.turn s b (t' := .l xs.dropLast) (o := .lst vs.dropLast) q rfl rfl h1 ⟨_, upd_same, h3.dropLast⟩
      exact w _ G _ ⟨.refl _, t2, t3, fun c z => .inl z⟩ t1
  | exc x => unfold ownL at z; split at z <;> cases z
  | bad => rw [z] at h; exact h.elim
end Tk
namespace Tk
open PySem PySem.Spec L2 PyProof.Rows
theorem hu64 {A : Around} {k : Nat} (hr : Room k A) : A.units + 64 < cLine := by have := hr.un; omega
theorem hu65 {A : Around} {k : Nat} (hr : Room k A) : A.units + 65 < cLine := by have := hr.un; omega
end Tk

namespace Tk
open PySem PySem.Spec L2 PyProof.Rows
/-! ### dicts: by data -/
def keyD : D → Option Key
  | .int i => some (.inl i)
  | .str z => some (.inr z)
  | _ => none
def keysD : List D → Option (List Key)
  | [] => some []
  | d :: r => match keyD d, keysD r with
    | some k, some ks => some (k :: ks)
    | _, _ => none
/-- a tuple of keys -/
def keyT : D → Option (List Key)
  | .tup r => keysD r
  | _ => none
def getG {κ α : Type} [DecidableEq κ] (kvs : List (κ × α)) (k : κ) : Option α := (kvs.find? fun kv => decide (kv.1 = k)).map (·.2)
def putG {κ α : Type} [DecidableEq κ] (kvs : List (κ × α)) (k : κ) (v : α) : List (κ × α) :=
  if (kvs.any fun kv => decide (kv.1 = k)) = true then kvs.map (fun kv => if kv.1 = k then (kv.1, v) else kv) else kvs ++ [(k, v)]
def gIxA : D → D → R D
  | .dK kvs, d => (optR (keyD d)).bind fun k => optR (getG kvs k)
  | .dT kvs, d => (optR (keyT d)).bind fun k => optR (getG kvs k)
  | .zK kvs, d => (optR (keyD d)).bind fun k => optR (getG kvs k)
  | .zT kvs, d => (optR (keyT d)).bind fun k => optR (getG kvs k)
  | a, b => gIx a b
section
variable {K : PySem.W.Frag} {ca : Cn} {G : Hp}
theorem key_at {d : D} {v : V} {k : Key} (a : At K ca G d v) (e : keyD d = some k) : v = kV k := by
  cases d with
  | int i => cases e; cases a; rfl
  | str i => cases e; cases a; rfl
  | _ => cases e
theorem keys_at : ∀ {ds : List D} {vs : List V} {ks : List Key}, AtL K ca G ds vs → keysD ds = some ks → vs = ks.map kV
  | [], _, _, a, e => by cases a; cases e; rfl
  | d :: r, _, ks, a, e => by
    obtain ⟨v, vs, rfl, a1, a2⟩ := a
    unfold keysD at e
    cases z1 : keyD d with
    | none => rw [z1] at e; cases e
    | some k =>
      cases z2 : keysD r with
      | none => rw [z1, z2] at e; cases e
      | some ks' =>
        rw [z1, z2] at e
        cases e
        rw [key_at a1 z1, keys_at a2 z2]
        rfl
theorem AtK.get : ∀ {kvs : List (Key × D)} {vs : List (Key × V)} (k : Key), AtK K ca G kvs vs → match getG kvs k with
    | some d => ∃ v, valV vs k = some v ∧ At K ca G d v
    | none => valV vs k = none
  | [], _, k, h => by cases h; rfl
  | (k', d) :: kvs, _, k, ⟨v, r, e, h, t⟩ => by
    subst e
    unfold getG valV
    rw [List.find?_cons, List.find?_cons]
    by_cases z : k' = k
    · simp only [z, decide_true]
      exact ⟨v, rfl, h⟩
    · simp only [z, decide_false]
      exact AtK.get k t
theorem AtT.get : ∀ {kvs : List (List Key × D)} {vs : List (List Key × V)} (k : List Key), AtT K ca G kvs vs → match getG kvs k with
    | some d => ∃ v, valV vs k = some v ∧ At K ca G d v
    | none => valV vs k = none
  | [], _, k, h => by cases h; rfl
  | (k', d) :: kvs, _, k, ⟨v, r, e, h, t⟩ => by
    subst e
    unfold getG valV
    rw [List.find?_cons, List.find?_cons]
    by_cases z : k' = k
    · simp only [z, decide_true]
      exact ⟨v, rfl, h⟩
    · simp only [z, decide_false]
      exact AtT.get k t
theorem AtK.any : ∀ {kvs : List (Key × D)} {vs : List (Key × V)} (k : Key), AtK K ca G kvs vs → (kvs.any fun kv => decide (kv.1 = k)) = (vs.any fun kv => decide (kv.1 = k))
  | [], _, k, h => by cases h; rfl
  | (k', d) :: kvs, _, k, ⟨v, r, e, h, t⟩ => by subst e; rw [List.any_cons, List.any_cons, AtK.any k t]
theorem AtK.app : ∀ {kvs kws : List (Key × D)} {vs ws : List (Key × V)}, AtK K ca G kvs vs → AtK K ca G kws ws → AtK K ca G (kvs ++ kws) (vs ++ ws)
  | [], _, _, _, h, h' => by cases h; exact h'
  | (_, _) :: _, _, _, _, ⟨v, r, e, h, t⟩, h' => by subst e; exact ⟨v, _, rfl, h, AtK.app t h'⟩
theorem AtK.upd1 : ∀ {kvs : List (Key × D)} {vs : List (Key × V)} {k : Key} {d : D} {v : V}, AtK K ca G kvs vs → At K ca G d v → AtK K ca G (kvs.map fun kv => if kv.1 = k then (kv.1, d) else kv) (vs.map fun kv => if kv.1 = k then (kv.1, v) else kv)
  | [], _, k, d, v, h, a => by cases h; rfl
  | (k', d') :: kvs, _, k, d, v, ⟨v', r, e, h, t⟩, a => by
    subst e
    rw [List.map_cons, List.map_cons]
    have ih := AtK.upd1 (k := k) t a
    by_cases z : k' = k
    · rw [if_pos z, if_pos z]; exact ⟨v, _, rfl, a, ih⟩
    · rw [if_neg z, if_neg z]; exact ⟨v', _, rfl, h, ih⟩
theorem AtK.put {kvs : List (Key × D)} {vs : List (Key × V)} {k : Key} {d : D} {v : V} (h : AtK K ca G kvs vs) (a : At K ca G d v) : AtK K ca G (putG kvs k d) (putK vs k v) := by
  unfold putG putK
  rw [h.any k]
  split
  · exact h.upd1 a
  · exact h.app ⟨v, [], rfl, a, rfl⟩
theorem AtK.length : ∀ {kvs : List (Key × D)} {vs : List (Key × V)}, AtK K ca G kvs vs → kvs.length = vs.length
  | [], _, h => by cases h; rfl
  | (_, _) :: _, _, ⟨v, r, e, h, t⟩ => by subst e; rw [List.length_cons, List.length_cons, AtK.length t]
end
def rDG : R2 := fun x y H Q => ∃ a v, x = .ref a ∧ DGet H a y (some v) ∧ Q v H
theorem ix_dget {X : Cx} (hu : X.A.units + 1 < cLine) : IxR X rDG := by
  intro value slice pins s σ H x y v u Q I rx ry h hs
  obtain ⟨a, z, rfl, g, q⟩ := h
  cases rx
  have hT := dict_typeIs I g
  unfold subscriptTail
  refine wpAny_bind ?_
  rw [getitemInPython_of_ne hT.not_modules]
  refine wpAny_bind (wpAny_specialOf hT PySem.F.slot_dict_getitem.lookup ?_)
  have fin : wpAny (model X.prog X.w) X.A (subscripted slice false (.ref a) u) (fun r s₃ => wpAny (model X.prog X.w) X.A (letTemporaryGo value (.ref a) r >>= fun _ => pure r) (EP X pins σ Q) X.xe s₃) X.xe s := by
    rw [hs]
    exact wpAny_operating (wpAny_mono (d_getItem (E := X.xe) (Q := EP X pins σ Q) hu I g ry fun w' s3 I3 rw' => ⟨z, H, I3, rw', q⟩) (fun r s₃ h₃ => wpAny_bind (wpAny_letTemporaryGo (wpAny_pure h₃))) fun _ _ x => x)
  first
    | exact wpAny_pure (wpAny_bind fin)
    | exact wpAny_bind (wpAny_pure (wpAny_bind fin))
    | exact wpAny_bind fin
section
variable {X : Cx} {ca : Cn} {W : WX} {a b e : Expr} {fa fb : Ev → R D} {pos : Pos}
theorem ix_k {G H : Hp} {W1 : XK} {Q : VK} {kvs : List (Key × D)} {k : D} {x y : V} (s : Same G H) (ax : At X.K ca G (.dK kvs) x) (ay : At X.K ca G k y) (w : Wish X.K ca (SV X.K ca Q) G H ((optR (keyD k)).bind fun k => optR (getG kvs k)) W1) : rDG x y H Q := by
  obtain ⟨kk, e1, w⟩ := wish_opt w
  obtain ⟨p, vs, rfl, h1, h2⟩ := ax
  obtain ⟨z, e2, w⟩ := wish_opt' w
  have g := h2.get kk
  rw [e2] at g
  obtain ⟨v, g1, g2⟩ := g
  rw [key_at ay e1]
  refine ⟨p, v, rfl, ?_, w.here s _ g2⟩
  rw [← g1]
  exact .inl ⟨vs, kk, Rd.mono s h1, rfl, rfl⟩
theorem ix_t {G H : Hp} {W1 : XK} {Q : VK} {kvs : List (List Key × D)} {k : D} {x y : V} (s : Same G H) (ax : At X.K ca G (.dT kvs) x) (ay : At X.K ca G k y) (w : Wish X.K ca (SV X.K ca Q) G H ((optR (keyT k)).bind fun k => optR (getG kvs k)) W1) : rDG x y H Q := by
  obtain ⟨kk, e1, w3⟩ := wish_opt w
  obtain ⟨p, vs, rfl, h1, h2⟩ := ax
  obtain ⟨z, e2, w4⟩ := wish_opt' w3
  have g := h2.get kk
  rw [e2] at g
  obtain ⟨v, g1, g2⟩ := g
  have fin : Q v H := w4.here s _ g2
  unfold keyT at e1
  split at e1
  · obtain ⟨q, ws, rfl, t1, t2⟩ := ay
    have e3 := keys_at t2 e1
    subst e3
    refine ⟨p, v, rfl, ?_, fin⟩
    rw [← g1]
    exact .inr ⟨vs, kk, q, Rd.mono s h1, rfl, s q _ t1, rfl⟩
  · cases e1
theorem at_zk {K : PySem.W.Frag} {ca : Cn} {G : Hp} {kvs : List (Key × D)} {v : V} (a : At K ca G (.zK kvs) v) : At K ca G (.dK kvs) v := let ⟨p, o, vs, e, h, r⟩ := a; ⟨p, vs, e, .inr ⟨o, h⟩, r⟩
theorem at_zt {K : PySem.W.Frag} {ca : Cn} {G : Hp} {kvs : List (List Key × D)} {v : V} (a : At K ca G (.zT kvs) v) : At K ca G (.dT kvs) v := let ⟨p, o, vs, e, h, r⟩ := a; ⟨p, vs, e, .inr ⟨o, h⟩, r⟩
theorem v2_ixA : V2 X ca (fun x y H Q => rIx X.K x y H Q ∨ rDG x y H Q) gIxA := by
  intro G H W1 x y d k Q s ax ay w
  unfold gIxA at w
  split at w
  · exact .inr (ix_k s ax ay w)
  · exact .inr (ix_t s ax ay w)
  · exact .inr (ix_k s (at_zk ax) ay w)
  · exact .inr (ix_t s (at_zt ax) ay w)
  · exact .inl (v2_ix G H W1 x y d k Q s ax ay w)
theorem fe_ixA (hu : X.A.units + 65 < cLine) (hs : PlainIx b) (ha : FE X ca W a fa) (hb : FE X ca W b fb) : FE X ca W (.Subscript a b pos) (e2 gIxA fa fb) := by
  obtain ⟨ta, pa, ka⟩ := ha.ex
  obtain ⟨tb, pb, kb⟩ := hb.ex
  refine ⟨_, pe_ix (ix_seq.or (ix_dget (by omega))) pa pb hs, fun B G H σ ρ Q s b r h => ?_⟩
  refine ka B G H σ ρ _ s b r (Wish.bind h fun d G1 H1 _ x1 w1 v a1 => ?_)
  refine kb B G1 H1 σ ρ _ x1.gh (b.trans x1.hh) (r.ext x1) (Wish.bind w1 fun d2 G2 H2 _ x2 w2 v2 a2 => ?_)
  exact v2_ixA G2 H2 _ v v2 d d2 Q x2.gh (At.mono x2.gg a1) a2 w2
end
/-! ### xs.index(y), flat items -/
def idxD (y : D) : List D → Nat → Option Nat
  | [], _ => none
  | d :: r, j => if eqV (toV d) (toV y) = true then some j else idxD y r (j + 1)
def gIdx (xs : List D) : List D → R D
  | [y] => if flatD y = true ∧ xs.all flatD = true then (optR (idxD y xs 0)).bind fun j => .ok (.int (j : Int)) else .bad
  | _ => .bad
theorem flat_is {K : PySem.W.Frag} {ca : Cn} {G : Hp} {d : D} {v : V} (h : flatD d = true) (a : At K ca G d v) : v = toV d := by
  cases d with
  | non => exact a
  | bl _ => exact a
  | int _ => exact a
  | str _ => exact a
  | _ => cases h
theorem flats_is {K : PySem.W.Frag} {ca : Cn} {G : Hp} : ∀ {ds : List D} {vs : List V}, ds.all flatD = true → AtL K ca G ds vs → vs = ds.map toV
  | [], _, _, a => a
  | d :: r, _, h, ⟨v, vs, e, a1, a2⟩ => by
    subst e
    rw [List.all_cons, Bool.and_eq_true] at h
    rw [flat_is h.1 a1, flats_is h.2 a2]
    rfl
theorem flatV_toV {d : D} (h : flatD d = true) : flatV (toV d) = true := by
  cases d <;> first | rfl | cases h
theorem idx_is {y : D} : ∀ {xs : List D} {i j : Nat}, idxD y xs i = some j → i ≤ j ∧ (∃ z, (xs.map toV)[j - i]? = some z ∧ eqV z (toV y) = true) ∧ ∀ m z, m < j - i → (xs.map toV)[m]? = some z → eqV z (toV y) = false
  | [], _, _, e => by cases e
  | d :: r, i, j, e => by
    unfold idxD at e
    split at e
    · cases e
      exact ⟨Nat.le_refl _, ⟨toV d, by simp, by assumption⟩, fun m z hm => by omega⟩
    · rename_i ne
      obtain ⟨h1, ⟨z, h2, h3⟩, h4⟩ := idx_is e
      refine ⟨by omega, ⟨z, ?_, h3⟩, fun m z' hm hz => ?_⟩
      · rw [List.map_cons, show j - i = (j - (i + 1)) + 1 by omega, List.getElem?_cons_succ]; exact h2
      · cases m with
        | zero =>
          rw [List.map_cons, List.getElem?_cons_zero] at hz
          cases hz
          exact Bool.not_eq_true _ ▸ ne
        | succ m =>
          rw [List.map_cons, List.getElem?_cons_succ] at hz
          exact h4 m z' (by omega) hz
def lstD : D → Option (List D)
  | .lst xs => some xs
  | _ => none
def eMtL (g : List D → List D → R D) (fo : Ev → R D) (fl : Ev → R (List D)) : Ev → R D := fun ρ => (fo ρ).bind fun o => (optR (lstD o)).bind fun xs => (fl ρ).bind fun ds => g xs ds
section
variable {X : Cx} {ca : Cn} {W : WX} {o e : Expr} {es : List Expr} {fo : Ev → R D} {fl : Ev → R (List D)} {apos cpos : Pos}
theorem fe_index (ho : FE X ca W o fo) (h : FA X ca W (e :: es) fl)
    (he : starEach (e :: es) X.env = (false, eval e X.env) :: starEach es X.env := by rfl) (hb : attributeBase o "index" X.env (eval o X.env) = eval o X.env := by rfl) (hw : ((backTo cpos (starEach (e :: es) X.env)).all (fun x => !x.1) && (backToKw cpos (keywordEach [] X.env)).all (fun x => x.1.isSome) && decide ((e :: es).length + ([] : List Keyword).length + (if ([] : List Keyword).isEmpty then 0 else 1) < 30)) = true := by rfl)
    (hl : (apos.endLine == cpos.line) = true := by rfl) (hpl : (backTo cpos (starEach es X.env)).any (·.1) = false := by rfl) : FE X ca W (.Call (.Attribute o "index" apos) (e :: es) [] cpos) (eMtL gIdx fo fl) := by
  obtain ⟨to, po, ko⟩ := ho.ex
  obtain ⟨t, p, k⟩ := h.ex
  refine ⟨_, pe_bm PySem.F.plainAttrs_list PySem.F.slot_list_index PySem.F.type_list_index mt_index po p hb hw hl he hpl, fun B G H σ ρ Q s b r h => ?_⟩
  refine ko B G H σ ρ _ s b r (Wish.bind h fun d G1 H1 _ x1 w1 v a1 => ?_)
  obtain ⟨xs, ex, w1⟩ := wish_opt w1
  obtain rfl : d = .lst xs := by unfold lstD at ex; split at ex <;> cases ex; rfl
  obtain ⟨q, vs, rfl, h1, h2⟩ := a1
  refine ⟨.inl ⟨rfl, vs, .of (x1.gh _ _ h1)⟩, k B G1 H1 σ ρ _ x1.gh (b.trans x1.hh) (r.ext x1) (Wish.bind w1 fun ds G2 H2 _ x2 w2 ws a2 => ?_)⟩
  unfold gIdx at w2
  split at w2
  · rename_i y
    split at w2
    · rename_i hf
      obtain ⟨j, ej, w3⟩ := wish_opt w2
      obtain ⟨u, rfl, a3⟩ := atl1 a2
      have e2 := flats_is hf.2 (AtL.mono x2.gg h2)
      have e3 := flat_is hf.1 a3
      subst e2 e3
      obtain ⟨_, ⟨z, i2, i3⟩, i4⟩ := idx_is ej
      exact ⟨q, _, _, j, z, rfl, rfl, .of (x2.hh _ _ (x1.gh _ _ h1)), flatV_toV hf.1, by rw [List.all_map]; exact List.all_eq_true.mpr fun d m => flatV_toV (List.all_eq_true.mp hf.2 d m), i2, i3, fun m z' hm hz => i4 m z' hm hz, w3.here x2.gh _ rfl⟩
    · exact w2.elim
  · exact w2.elim
end
end Tk

namespace Tk
open PySem PySem.Spec L2 PyProof.Rows
/-! ### dict(zip(xs, ys)), lists and tuples alike -/
section
variable {prog : Program} {w : World} {A : Around} {E : Value → Shared → Prop} {s : Shared} {z TI TO T i1 i2 : Addr} {f : Bool} {oT : Obj} {fp1 fp2 : List Addr} {n1 n2 i : Nat} {P1 P2 : Nat → Value → Prop} {St1 St2 : Nat → Heap → Prop}
theorem heldD_item {Q : Value → Shared → Prop} (S : ZipSep2 z TI TO i1 i2 fp1 fp2) (D1 : Draws prog w A i1 fp1 n1 P1 St1) (D2 : Draws prog w A i2 fp2 n2 P2 St2) (hz : IsZipHeld s.heap z TI TO T f) (hT : s.heap.get? T = some oT) (hTI : IsTupOf2 s.heap TI (.ref i1) (.ref i2))
    (st1 : St1 i s.heap) (st2 : St2 i s.heap) (l1 : i < n1) (l2 : i < n2)
    (hQ : ∀ x y h' tk, P1 i x → P2 i y → IsZipHeld h' z TI TO T true → St1 (i + 1) h' → St2 (i + 1) h' → IsTupOf2 h' s.heap.objs.size x y → (∀ c o, c ≠ z → c ≠ i1 → c ≠ i2 → s.heap.get? c = some o → h'.get? c = some o) → Q (.ref s.heap.objs.size) { s with heap := h', toks := tk }) :
    wpAny (model prog w) A (Builtin.«zip.__next__» ⟨[.ref z], []⟩) (fun fin s' => ∃ v, fin = .done (.ret v) ∧ Q v s') E s := by
  obtain ⟨hp, g, d, tk0, os⟩ := s
  show wpAny _ _ (field (.ref z) 2 >>= _) _ _ _
  refine wpAny_bind (wpAny_field hz rfl (x := .bool false) rfl ?_)
  show wpAny _ _ (field (.ref z) 3 >>= _) _ _ _
  refine wpAny_bind (wpAny_field hz rfl (x := .ref TI) rfl ?_)
  refine wpAny_bind (wpAny_seqItems hTI rfl ?_)
  show wpAny _ _ (Builtin.SmallTypes.ownedTupleIsFree (.ref z) >>= _) _ _ _
  refine wpAny_bind (wpAny_tupleHeld_zip hz hT fun g0 hz0 hs0 => ?_)
  replace hs0 : Heap.SameBut z hp g0 := hs0
  simp only [Bool.false_eq_true, if_false]
  refine wpAny_bind ?_
  rw [← Array.forIn_toList]
  simp only [List.forIn_cons, List.forIn_nil]
  refine wpAny_bind (wpAny_bind (wpAny_holding ?_))
  show wpAny _ _ (Builtin.SmallTypes.nextOf (.ref i1) >>= _) _ _ ⟨g0, g, d, tk0, os⟩
  refine wpAny_bind (D1.item i ⟨g0, g, d, tk0, os⟩ _ _ l1 (D1.over st1 hs0 S.zf1) fun x p1 tk1 hx sn1 hp1 => wpAny_pure ?_)
  replace hp1 : Heap.SameBut i1 g0 p1 := hp1
  refine wpAny_pure ?_
  refine wpAny_bind (wpAny_bind (wpAny_holding ?_))
  show wpAny _ _ (Builtin.SmallTypes.nextOf (.ref i2) >>= _) _ _ ⟨p1, g, d, tk1, os⟩
  refine wpAny_bind (D2.item i ⟨p1, g, d, tk1, os⟩ _ _ l2 (D2.over (D2.over st2 hs0 S.zf2) hp1 S.sep1_2) fun y p2 tk2 hy sn2 hp2 => wpAny_pure ?_)
  replace hp2 : Heap.SameBut i2 p1 p2 := hp2
  refine wpAny_pure (wpAny_pure ?_)
  show wpAny _ _ (newTuple [x, y] >>= _) _ _ ⟨p2, g, d, tk2, os⟩
  refine wpAny_bind (wpAny_newTuple ?_)
  have hsz : p2.objs.size = hp.objs.size := by rw [hp2.1, hp1.1, hs0.1]
  have hz3 : IsZipHeld p2 z TI TO T true := hp2.extBut _ _ S.zi2 (hp1.extBut _ _ S.zi1 hz0)
  have hk : ∀ c o, c ≠ z → c ≠ i1 → c ≠ i2 → hp.get? c = some o → p2.get? c = some o := fun c o c1 c2 c3 e => hp2.extBut _ _ c3 (hp1.extBut _ _ c2 (hs0.extBut _ _ c1 e))
  have j1 : St1 (i + 1) p2 := D1.over sn1 hp2 S.sep2_1
  refine wpAny_pure ⟨_, rfl, ?_⟩
  show Q (.ref p2.objs.size) _
  have hpp : IsTupOf2 (p2.push { cls := .type "tuple", data := .seq #[x, y] }) p2.objs.size x y := Heap.get?_push_size _ rfl
  rw [hsz] at hpp ⊢
  exact hQ x y _ tk2 hx hy (Heap.get?_push_of_some _ hz3) (D1.frame _ _ _ j1 fun b hb o e => Heap.get?_push_of_some _ e) (D2.frame _ _ _ sn2 fun b hb o e => Heap.get?_push_of_some _ e) hpp fun c o c1 c2 c3 e => Heap.get?_push_of_some _ (hk c o c1 c2 c3 e)
theorem heldD_end {Q : Fin → Shared → Prop} (S : ZipSep2 z TI TO i1 i2 fp1 fp2) (D1 : Draws prog w A i1 fp1 n1 P1 St1) (D2 : Draws prog w A i2 fp2 n2 P2 St2) (hz : IsZipHeld s.heap z TI TO T f) (hT : s.heap.get? T = some oT) (hTI : IsTupOf2 s.heap TI (.ref i1) (.ref i2))
    (st1 : St1 i s.heap) (st2 : St2 i s.heap) (l1 : i ≤ n1) (l2 : i ≤ n2) (hend : i = n1 ∨ i = n2)
    (hE : ∀ h' tk e, (∀ c o, c ≠ z → c ≠ i1 → c ≠ i2 → s.heap.get? c = some o → h'.get? c = some o) → (∃ o, h'.get? e = some o ∧ o.cls = .type "StopIteration") → E (.ref e) { s with heap := h', toks := tk }) :
    wpAny (model prog w) A (Builtin.«zip.__next__» ⟨[.ref z], []⟩) Q E s := by
  obtain ⟨hp, g, d, tk0, os⟩ := s
  show wpAny _ _ (field (.ref z) 2 >>= _) _ _ _
  refine wpAny_bind (wpAny_field hz rfl (x := .bool false) rfl ?_)
  show wpAny _ _ (field (.ref z) 3 >>= _) _ _ _
  refine wpAny_bind (wpAny_field hz rfl (x := .ref TI) rfl ?_)
  refine wpAny_bind (wpAny_seqItems hTI rfl ?_)
  show wpAny _ _ (Builtin.SmallTypes.ownedTupleIsFree (.ref z) >>= _) _ _ _
  refine wpAny_bind (wpAny_tupleHeld_zip hz hT fun g0 hz0 hs0 => ?_)
  replace hs0 : Heap.SameBut z hp g0 := hs0
  simp only [Bool.false_eq_true, if_false]
  refine wpAny_bind ?_
  rw [← Array.forIn_toList]
  simp only [List.forIn_cons, List.forIn_nil]
  refine wpAny_bind (wpAny_bind (wpAny_holding ?_))
  show wpAny _ _ (Builtin.SmallTypes.nextOf (.ref i1) >>= _) _ _ ⟨g0, g, d, tk0, os⟩
  by_cases hlt : i < n1
  · refine wpAny_bind (D1.item i ⟨g0, g, d, tk0, os⟩ _ _ hlt (D1.over st1 hs0 S.zf1) fun x p1 tk1 hx sn1 hp1 => wpAny_pure ?_)
    replace hp1 : Heap.SameBut i1 g0 p1 := hp1
    refine wpAny_pure ?_
    refine wpAny_bind (wpAny_bind (wpAny_holding ?_))
    show wpAny _ _ (Builtin.SmallTypes.nextOf (.ref i2) >>= _) _ _ ⟨p1, g, d, tk1, os⟩
    have e2 : i = n2 := by omega
    refine wpAny_bind (D2.done ⟨p1, g, d, tk1, os⟩ _ _ (by rw [← e2]; exact D2.over (D2.over st2 hs0 S.zf2) hp1 S.sep1_2) fun q e hq he => ?_)
    exact hE q tk1 e (fun c o c1 c2 c3 x => hq _ _ c3 (hp1.extBut _ _ c2 (hs0.extBut _ _ c1 x))) he
  · have e1 : i = n1 := by omega
    refine wpAny_bind (D1.done ⟨g0, g, d, tk0, os⟩ _ _ (by rw [← e1]; exact D1.over st1 hs0 S.zf1) fun q e hq he => ?_)
    exact hE q tk0 e (fun c o c1 c2 c3 x => hq _ _ c2 (hs0.extBut _ _ c1 x)) he
theorem next_heldD_item {Q : Option Value → Shared → Prop} (S : ZipSep2 z TI TO i1 i2 fp1 fp2) (D1 : Draws prog w A.in1 i1 fp1 n1 P1 St1) (D2 : Draws prog w A.in1 i2 fp2 n2 P2 St2) (hz : IsZipHeld s.heap z TI TO T f) (hT : s.heap.get? T = some oT) (hTI : IsTupOf2 s.heap TI (.ref i1) (.ref i2))
    (st1 : St1 i s.heap) (st2 : St2 i s.heap) (l1 : i < n1) (l2 : i < n2)
    (hQ : ∀ x y h' tk, P1 i x → P2 i y → IsZipHeld h' z TI TO T true → St1 (i + 1) h' → St2 (i + 1) h' → IsTupOf2 h' s.heap.objs.size x y → (∀ c o, c ≠ z → c ≠ i1 → c ≠ i2 → s.heap.get? c = some o → h'.get? c = some o) → Q (some (.ref s.heap.objs.size)) { s with heap := h', toks := tk }) :
    wpAny (model prog w) A (pyNext (.ref z)) Q E s := by
  have ty : s.TypeIs (.ref z) "zip" := ⟨_, hz, rfl⟩
  unfold pyNext
  exact wpAny_bind (wpAny_attempt (wpAny_callSpecial?_slot (name := Str.ofString "__next__") ty F.slot_zip_next
    (wpAny_call_entry F.slot_zip_next ty F.entry_zip_next (heldD_item S D1 D2 hz hT hTI st1 st2 l1 l2 fun x y h' tk a1 a2 a3 a4 a5 a6 a7 => wpAny_pure (hQ x y h' tk a1 a2 a3 a4 a5 a6 a7)) (F.args_zip_next_1 _))))
theorem next_heldD_end {Q : Option Value → Shared → Prop} (S : ZipSep2 z TI TO i1 i2 fp1 fp2) (D1 : Draws prog w A.in1 i1 fp1 n1 P1 St1) (D2 : Draws prog w A.in1 i2 fp2 n2 P2 St2) (hz : IsZipHeld s.heap z TI TO T f) (hT : s.heap.get? T = some oT) (hTI : IsTupOf2 s.heap TI (.ref i1) (.ref i2))
    (st1 : St1 i s.heap) (st2 : St2 i s.heap) (l1 : i ≤ n1) (l2 : i ≤ n2) (hend : i = n1 ∨ i = n2)
    (hQ : ∀ h' tk, (∀ c o, c ≠ z → c ≠ i1 → c ≠ i2 → s.heap.get? c = some o → h'.get? c = some o) → Q none { s with heap := h', toks := tk }) : wpAny (model prog w) A (pyNext (.ref z)) Q E s := by
  have ty : s.TypeIs (.ref z) "zip" := ⟨_, hz, rfl⟩
  unfold pyNext
  refine wpAny_bind (wpAny_attempt (wpAny_callSpecial?_slot (name := Str.ofString "__next__") ty F.slot_zip_next
    (wpAny_call_entry F.slot_zip_next ty F.entry_zip_next (heldD_end S D1 D2 hz hT hTI st1 st2 l1 l2 hend fun h' tk e hk he => ?_) (F.args_zip_next_1 _))))
  obtain ⟨o, ho, hc⟩ := he
  exact wpAny_bind (wpAny_isInstance (T := "StopIteration") (b := true) ⟨o, ho, hc⟩ isSubtype_stop (wpAny_pure (hQ _ _ hk)))
end
theorem zipArgD {prog : Program} {w : World} {z TI TO i1 i2 : Addr} {fp1 fp2 : List Addr} {n1 n2 : Nat} {P1 P2 : Nat → Value → Prop} {St1 St2 : Nat → Heap → Prop} (S : ZipSep2 z TI TO i1 i2 fp1 fp2)
    (D1 : ∀ A : Around, A.handled = none → Draws prog w A i1 fp1 n1 P1 St1) (D2 : ∀ A : Around, A.handled = none → Draws prog w A i2 fp2 n2 P2 St2) (t1 : ∀ h, St1 0 h → ∀ b ∈ fp1, ∃ o, h.get? b = some o) (t2 : ∀ h, St2 0 h → ∀ b ∈ fp2, ∃ o, h.get? b = some o) :
    PairArg prog w "zip" z (z :: TI :: TO :: (fp1 ++ fp2)) [z, TO, i1, i2] (min n1 n2) (fun i k v => P1 i k ∧ P2 i v) (fun h => IsZip h z TI TO .none ∧ IsTupOf2 h TI (.ref i1) (.ref i2) ∧ (∃ a b, IsTupOf2 h TO a b) ∧ St1 0 h ∧ St2 0 h) where
  type := fun s ok => ⟨_, ok.1, rfl⟩
  notDict := by decide
  keep := fun h h' ok hk => by
    obtain ⟨a1, a2, ⟨u, v, a3⟩, a4, a5⟩ := ok
    have A0 : (callerA).handled = none := rfl
    exact ⟨hk _ _ a1, hk _ _ a2, ⟨u, v, hk _ _ a3⟩, (D1 _ A0).frame _ _ _ a4 fun b _ o e => hk _ _ e, (D2 _ A0).frame _ _ _ a5 fun b _ o e => hk _ _ e⟩
  there := fun h ok b hb => by
    obtain ⟨a1, a2, ⟨u, v, a3⟩, a4, a5⟩ := ok
    rcases List.mem_cons.mp hb with rfl | hb
    · exact ⟨_, a1⟩
    · rcases List.mem_cons.mp hb with rfl | hb
      · exact ⟨_, a2⟩
      · rcases List.mem_cons.mp hb with rfl | hb
        · exact ⟨_, a3⟩
        · exact (List.mem_append.mp hb).elim (t1 h a4 b) (t2 h a5 b)
  sub := fun b hb => by
    simp only [List.mem_cons, List.not_mem_nil, or_false] at hb
    have m1 := S.mem1
    have m2 := S.mem2
    rcases hb with rfl | rfl | rfl | rfl <;> simp [m1, m2]
  noKeys := fun A s Q E hA ok h => getAttrOr_miss_zip ok.1 rfl rfl rfl zip_no_keys (by decide +kernel) hA h
  iter := fun A s d Q E hA ok hd hdf h => by
    obtain ⟨hz, hTI, ⟨a, b, hTO⟩, s1, s2⟩ := ok
    have dz : d ≠ z := fun e => hdf (by rw [e]; simp)
    have dTI : d ≠ TI := fun e => hdf (by rw [e]; simp)
    have dTO : d ≠ TO := fun e => hdf (by rw [e]; simp)
    have d1 : ∀ b ∈ fp1, b ≠ d := fun b m e => hdf (by rw [← e]; simp [m])
    have d2 : ∀ b ∈ fp2, b ≠ d := fun b m e => hdf (by rw [← e]; simp [m])
    have A1 : A.in1.handled = none := hA
    have E1 := D1 A.in1 A1
    have E2 := D2 A.in1 A1
    refine wpAny_pyIter_zip hz (h z [z, TO, i1, i2] (fun i h => IsTupOf2 h TI (.ref i1) (.ref i2) ∧ St1 i h ∧ St2 i h ∧
      ((IsZip h z TI TO .none ∧ ∃ a b, IsTupOf2 h TO a b) ∨ ∃ T f oT, IsZipHeld h z TI TO T f ∧ h.get? T = some oT ∧ T ≠ z ∧ T ≠ i1 ∧ T ≠ i2 ∧ T ≠ d)) s.heap s.toks ?_ ⟨hTI, s1, s2, .inl ⟨hz, a, b, hTO⟩⟩ (fun _ _ e => e) fun b hb => .inl hb)
    exact {
      off := fun hm => by
        simp only [List.mem_cons, List.not_mem_nil, or_false] at hm
        rcases hm with e | e | e | e
        · exact dz e
        · exact dTO e
        · exact d1 _ S.mem1 e.symm
        · exact d2 _ S.mem2 e.symm
      frame := fun i h₁ h₂ st hk => by
        obtain ⟨b1, b2, b3, b4⟩ := st
        refine ⟨hk _ _ (Ne.symm dTI) b1, E1.frame _ _ _ b2 fun b m o e => hk _ _ (d1 b m) e, E2.frame _ _ _ b3 fun b m o e => hk _ _ (d2 b m) e, ?_⟩
        rcases b4 with ⟨c1, u, v, c2⟩ | ⟨T, f, oT, c1, c2, r1, r2, r3, r4⟩
        · exact .inl ⟨hk _ _ (Ne.symm dz) c1, u, v, hk _ _ (Ne.symm dTO) c2⟩
        · exact .inr ⟨T, f, oT, hk _ _ (Ne.symm dz) c1, hk _ _ r4 c2, r1, r2, r3, r4⟩
      item := fun i s₁ Q₁ E₁ hi st hds hQ => by
        obtain ⟨b1, b2, b3, b4⟩ := st
        have l1 : i < n1 := Nat.lt_of_lt_of_le hi (Nat.min_le_left ..)
        have l2 : i < n2 := Nat.lt_of_lt_of_le hi (Nat.min_le_right ..)
        have lt : ∀ {c o}, s₁.heap.get? c = some o → s₁.heap.objs.size ≠ c := fun e => Nat.ne_of_gt (Heap.lt_size e)
        have x1 : s₁.heap.objs.size ≠ i1 := let ⟨_, e⟩ := E1.live _ _ b2; lt e
        have x2 : s₁.heap.objs.size ≠ i2 := let ⟨_, e⟩ := E2.live _ _ b3; lt e
        rcases b4 with ⟨c1, u, v, c2⟩ | ⟨T, f, oT, c1, c2, r1, r2, r3, r4⟩
        · refine wpAny_pyNext_zipD2_item S E1 E2 c1 b1 c2 b2 b3 l1 l2 fun x y h' tk p1 p2 a1 a2 a3 a4 a5 a6 hk => ?_
          exact hQ s₁.heap.objs.size x y h' tk ⟨p1, p2⟩ (.inl ⟨_, a5, rfl, _, rfl⟩) ⟨hk _ _ S.TIz S.TITO S.TIi1 S.TIi2 b1, a3, a4, .inr ⟨s₁.heap.objs.size, false, _, a1, a5, lt c1, x1, x2, Nat.ne_of_gt hds⟩⟩
            fun c o hc e => hk c o (fun x => hc (by simp [x])) (fun x => hc (by simp [x])) (fun x => hc (by simp [x])) (fun x => hc (by simp [x])) e
        · refine next_heldD_item S E1 E2 c1 c2 b1 b2 b3 l1 l2 fun x y h' tk p1 p2 a1 a3 a4 a5 hk => ?_
          exact hQ s₁.heap.objs.size x y h' tk ⟨p1, p2⟩ (.inl ⟨_, a5, rfl, _, rfl⟩) ⟨hk _ _ S.TIz S.TIi1 S.TIi2 b1, a3, a4, .inr ⟨T, true, oT, a1, hk _ _ r1 r2 r3 c2, r1, r2, r3, r4⟩⟩
            fun c o hc e => hk c o (fun x => hc (by simp [x])) (fun x => hc (by simp [x])) (fun x => hc (by simp [x])) e
      done := fun s₁ Q₁ E₁ st hQ => by
        obtain ⟨b1, b2, b3, b4⟩ := st
        have l1 : min n1 n2 ≤ n1 := Nat.min_le_left ..
        have l2 : min n1 n2 ≤ n2 := Nat.min_le_right ..
        have hend : min n1 n2 = n1 ∨ min n1 n2 = n2 := by omega
        rcases b4 with ⟨c1, u, v, c2⟩ | ⟨T, f, oT, c1, c2, r1, r2, r3, r4⟩
        · exact wpAny_pyNext_zipD2_end S E1 E2 c1 b1 c2 b2 b3 l1 l2 hend fun h' tk hk => hQ h' tk fun c o hc e => hk c o (fun x => hc (by simp [x])) (fun x => hc (by simp [x])) (fun x => hc (by simp [x])) (fun x => hc (by simp [x])) e
        · exact next_heldD_end S E1 E2 c1 c2 b1 b2 b3 l1 l2 hend fun h' tk hk => hQ h' tk fun c o hc e => hk c o (fun x => hc (by simp [x])) (fun x => hc (by simp [x])) (fun x => hc (by simp [x])) e }
theorem kv_zip : ∀ {ks : List Key} {ys : List V} {vs : List Value}, Vals ys vs → KV (ks.zip ys) (ks.zip vs)
  | [], _, _, _ => .nil
  | _ :: _, _, _, .nil => .nil
  | k :: ks, _, _, .cons r t => .cons ⟨rfl, r⟩ (kv_zip t)
theorem isB_there {b : Bool} {h : Heap} {a : Addr} {items : Array Value} (x : IsB b h a items) : ∃ o, h.get? a = some o := by
  cases b with
  | false => obtain ⟨o, e, _⟩ := x; exact ⟨o, e⟩
  | true => obtain ⟨o, e, _⟩ := x; exact ⟨o, e⟩
theorem sqB_len {b : Bool} {X : Cx} {pins : List (Addr × Obj)} {σ : L2.St} {H : Hp} {s : Shared} {a : Addr} {xs : List V} (I : Inv X pins σ H s) (q : SqB b X.K H a xs) : xs.length ≤ sizeLine := by
  cases b with
  | false => obtain ⟨its, r, p, z⟩ := I.list q; exact z
  | true => obtain ⟨its, r, p, z⟩ := I.tuple q; exact z
def wDz (b c : Bool) (K : PySem.W.Frag) (ta : TA) : TE := fun σ H Q => ta σ H fun vs H1 => ∃ (a1 a2 : Addr) (ks : List Key) (ys : List V), vs = [.ref a1, .ref a2] ∧ SqB b K H1 a1 (ks.map kV) ∧ SqB c K H1 a2 ys ∧ ∀ p, H1 p = none → Q (.ref p) (upd H1 p (.dK (mergeK [] (ks.zip ys))))
theorem pe_dz {X : Cx} (b c : Bool) {e e' : Expr} {ta : TA} {p p2 pos pos2 : Pos} (hc : X.calm = true) (hg : Gl X "zip") (hm : X.mg "zip" = none) (hg2 : Gl X "dict") (hm2 : X.mg "dict" = none) (ha : PA X [e, e'] ta)
    (hs2 : starEach [.Call (.Name "zip" p) [e, e'] [] pos] X.env = [(false, eval (.Call (.Name "zip" p) [e, e'] [] pos) X.env)] := by rfl) (hs : starEach [e, e'] X.env = (false, eval e X.env) :: starEach [e'] X.env := by rfl) (hpl : (backTo pos (starEach [e'] X.env)).any (·.1) = false := by rfl) :
    PE X (.Call (.Name "dict" p2) [.Call (.Name "zip" p) [e, e'] [] pos] [] pos2) (wDz b c X.K ta) := by
  refine ⟨fun pins s σ H Q I h => ?_⟩
  refine Call_ (ld_blt I hg2 hm2 bb_dict (PyProof.Rows.callWith_type1 ?_ hs2 rfl))
  rw [hs2]
  show wpAny _ _ (spliced ((false, eval (.Call (.Name "zip" p) [e, e'] [] pos) X.env) :: [])) _ _ s
  refine Calls.spliced_cons (Call_ (ld_blt I hg hm boot_zip (PyProof.Rows.callWith_type1 (thn (ha.run pos pins s σ H _ I h) fun us s1 ⟨vs, H1, I1, r1, a1, a2, ks, ys, ex, q1, q2, q⟩ => ?_) hs hpl)))
  subst ex
  obtain ⟨u, v, rfl, ru, rv⟩ := vals2 r1
  obtain rfl : u = Value.ref a1 := ru
  obtain rfl : v = Value.ref a2 := rv
  obtain ⟨us, ku, ib1⟩ := inv_sq I1 q1
  obtain ⟨vs, kv, ib2⟩ := inv_sq I1 q2
  have z1 := sqB_len I1 q1
  have z2 := sqB_len I1 q2
  refine zip_begins2 (beginsB b a1 us.toArray) (beginsB c a2 vs.toArray) ib1 ib2 fun h' hz ht ho g1 g2 hsz kp => Calls.spliced_nil ?_
  have I2 : Inv X pins σ H1 { s1 with heap := h' } := I1.kept (t' := s1.toks) kp
  obtain ⟨o1, e1⟩ := isB_there ib1
  obtain ⟨o2, e2⟩ := isB_there ib2
  have l1 : a1 < s1.heap.objs.size := Heap.lt_size e1
  have l2 : a2 < s1.heap.objs.size := Heap.lt_size e2
  have S := zip_sep2 (N := s1.heap.objs.size) (fp1 := [a1]) (fp2 := [a2]) (fun b m => by rw [List.mem_singleton.mp m]; exact l1) (fun b m => by rw [List.mem_singleton.mp m]; exact l2)
  have P := zipArgD (prog := X.prog) (w := X.w) S (fun A hA => drawsB (P := X.prog) (w := X.w) (A := A) hA b s1.heap.objs.size a1 (Nat.ne_of_lt l1) us.toArray)
    (fun A hA => drawsB (P := X.prog) (w := X.w) (A := A) hA c (s1.heap.objs.size + 1) a2 (Nat.ne_of_lt (Nat.lt_succ_of_lt l2)) vs.toArray)
    (fun h st d m => by
      rcases List.mem_cons.mp m with z | m
      · rw [z]; obtain ⟨o, e, _⟩ := st.1.there; exact ⟨o, e⟩
      · rw [List.mem_singleton.mp m]; exact isB_there st.2)
    (fun h st d m => by
      rcases List.mem_cons.mp m with z | m
      · rw [z]; obtain ⟨o, e, _⟩ := st.1.there; exact ⟨o, e⟩
      · rw [List.mem_singleton.mp m]; exact isB_there st.2)
  have ok : IsZip h' (s1.heap.objs.size + 4) (s1.heap.objs.size + 2) (s1.heap.objs.size + 3) .none ∧ IsTupOf2 h' (s1.heap.objs.size + 2) (.ref s1.heap.objs.size) (.ref (s1.heap.objs.size + 1)) ∧ (∃ u v, IsTupOf2 h' (s1.heap.objs.size + 3) u v) ∧
      (ItB b h' s1.heap.objs.size a1 0 ∧ IsB b h' a1 us.toArray) ∧ (ItB c h' (s1.heap.objs.size + 1) a2 0 ∧ IsB c h' a2 vs.toArray) := ⟨hz, ht, ⟨_, _, ho⟩, ⟨itB0 g1, ib1.move fun o e => kp _ _ e⟩, itB0 g2, ib2.move fun o e => kp _ _ e⟩
  have kl : ks.length = us.length := by rw [← ku.length, List.length_map]
  have yl : ys.length = vs.length := kv.length
  have have_ : PairsHave (mixKind X.prog X.w) (min us.toArray.size vs.toArray.size) (fun i k v => us.toArray[i]? = some k ∧ vs.toArray[i]? = some v) (ks.zip vs) := by
    refine ⟨by rw [List.length_zip, kl]; simp, fun i key v hr => ?_⟩
    have h1 : us[i]? = some key := by simpa using hr.1
    have h2 : vs[i]? = some v := by simpa using hr.2
    have li : i < ks.length := by rw [kl]; exact (List.getElem?_eq_some_iff.mp h1).1
    have hk : ks[i]? = some ks[i] := List.getElem?_eq_getElem li
    obtain ⟨u', hu', ru'⟩ := ku.get (i := i) (x := kV ks[i]) (by rw [List.getElem?_map, hk]; rfl)
    rw [h1] at hu'
    cases hu'
    exact ⟨ks[i], by rw [List.getElem?_zip_eq_some]; exact ⟨hk, h2⟩, kV_is ru'⟩
  refine PySem.call_dict_pairs (knd := mixKind X.prog X.w) (kvs := ks.zip vs) P (I2.ok.hd hc) ok have_ (Nat.le_trans (Nat.min_le_left ..) (by rw [List.size_toArray, ← kl]; simpa using z1)) fun h2 tk hd k2 => ?_
  have hf : ∀ d ∈ [s1.heap.objs.size + 4, s1.heap.objs.size + 3, s1.heap.objs.size, s1.heap.objs.size + 1], FpOk X pins H1 d := fun d m => by
    have le : s1.heap.objs.size ≤ d := by
      simp only [List.mem_cons, List.not_mem_nil, or_false] at m
      rcases m with z | z | z | z <;> (rw [z]; first | exact Nat.le_add_right _ _ | exact Nat.le_refl _)
    exact I1.fpOk le (I1.hok.fresh le)
  have hlen : (mergeK [] (ks.zip ys)).length ≤ sizeLine := by
    refine Nat.le_trans (length_mergeK (ks.zip ys) []) ?_
    rw [List.length_nil, Nat.zero_add, List.length_zip]
    exact Nat.le_trans (Nat.min_le_right ..) z2
  have hmm : (h'.objs.size == sysModules) = false := beq_eq_false_iff_ne.mpr (Nat.ne_of_gt I2.big)
  have new : ObjOk X.prog X.w (upd H1 h'.objs.size (.dK (mergeK [] (ks.zip ys)))) h2 h'.objs.size (.dK (mergeK [] (ks.zip ys))) := ⟨hlen, hmm, merged [] (ks.zip vs), KV.merge (kv_zip kv) .nil, hd⟩
  exact ⟨.ref h'.objs.size, _, I2.turnedNew (t' := tk) (ch := [s1.heap.objs.size + 4, s1.heap.objs.size + 3, s1.heap.objs.size, s1.heap.objs.size + 1]) (fun d o nd q => k2 d o nd q) hf (Nat.le_refl _) new, rfl, q _ (I2.hok.fresh (Nat.le_refl _))⟩
/-! by data -/
def mergeG {α : Type} (kvs more : List (Key × α)) : List (Key × α) := more.foldl (fun acc kv => putG acc kv.1 kv.2) kvs
theorem AtK.merge {K : PySem.W.Frag} {ca : Cn} {G : Hp} : ∀ {more kvs : List (Key × D)} {more' kvs' : List (Key × V)}, AtK K ca G more more' → AtK K ca G kvs kvs' → AtK K ca G (mergeG kvs more) (mergeK kvs' more')
  | [], _, _, _, h, h' => by cases h; exact h'
  | (k, d) :: more, kvs, _, kvs', ⟨v, r, e, h, t⟩, h' => by
    subst e
    show AtK K ca G (mergeG (putG kvs k d) more) (mergeK (putK kvs' k v) r)
    exact AtK.merge t (h'.put h)
theorem AtK.zip {K : PySem.W.Frag} {ca : Cn} {G : Hp} : ∀ {ks : List Key} {ds : List D} {vs : List V}, AtL K ca G ds vs → AtK K ca G (ks.zip ds) (ks.zip vs)
  | [], _, _, _ => rfl
  | k :: ks, [], _, h => by cases h; rfl
  | k :: ks, d :: ds, _, ⟨v, r, e, h, t⟩ => by subst e; exact ⟨v, _, rfl, h, AtK.zip t⟩
def eDz (fa fb : Ev → R D) : Ev → R D := fun ρ => (fa ρ).bind fun a => (fb ρ).bind fun b => (optR (seqD a)).bind fun x => (optR (seqD b)).bind fun y => (optR (keysD x.2)).bind fun ks => .ok (.dK (mergeG [] (ks.zip y.2)))
section
variable {X : Cx} {ca : Cn} {W : WX} {e e' : Expr} {fa fb : Ev → R D} {p p2 pos pos2 : Pos}
theorem fe_dz (hc : X.calm = true) (T : BT X.mg) (h : FE X ca W e fa) (h' : FE X ca W e' fb) (hg : Gl X "zip" := by rfl) (hg2 : Gl X "dict" := by rfl) (hs2 : starEach [.Call (.Name "zip" p) [e, e'] [] pos] X.env = [(false, eval (.Call (.Name "zip" p) [e, e'] [] pos) X.env)] := by rfl)
    (hs : starEach [e, e'] X.env = (false, eval e X.env) :: starEach [e'] X.env := by rfl) (hs' : starEach [e'] X.env = (false, eval e' X.env) :: starEach [] X.env := by rfl)
    (hpl : (backTo pos (starEach [e'] X.env)).any (·.1) = false := by rfl) : FE X ca W (.Call (.Name "dict" p2) [.Call (.Name "zip" p) [e, e'] [] pos] [] pos2) (eDz fa fb) := by
  obtain ⟨t, pp, k⟩ := h.ex
  obtain ⟨u, q, l⟩ := h'.ex
  have pz := fun b c => pe_dz (X := X) (p := p) (p2 := p2) (pos := pos) (pos2 := pos2) b c hc hg T.zip hg2 T.dict (pa_cons pp (pa_cons q pa_nil hs') hs) hs2 hs hpl
  have or2 : ∀ {ex : Expr} {w1 w2 : TE}, PE X ex w1 → PE X ex w2 → PE X ex (fun σ H Q => w1 σ H Q ∨ w2 σ H Q) := fun h1 h2 => ⟨fun pins s σ H Q I h => h.elim (h1.run pins s σ H Q I) (h2.run pins s σ H Q I)⟩
  refine ⟨_, or2 (or2 (pz false false) (pz false true)) (or2 (pz true false) (pz true true)), fun B G H σ ρ Q s b r h => ?_⟩
  have go : ∀ bb cc, (∀ d, fa ρ = .ok d → ∀ x, seqD d = some x → x.1 = bb) → (∀ d, fb ρ = .ok d → ∀ x, seqD d = some x → x.1 = cc) → wDz bb cc X.K (tCons t (tCons u tNil)) σ H Q := fun bb cc hb hb' => by
    refine k B G H σ ρ _ s b r (Wish.bind h fun d G1 H1 e1 x1 w1 v a1 => ?_)
    refine l B G1 H1 σ ρ _ x1.gh (b.trans x1.hh) (r.ext x1) (Wish.bind w1 fun d2 G2 H2 e2 x2 w2 v2 a2 => ?_)
    obtain ⟨x, ex, w2⟩ := wish_opt w2
    obtain ⟨y, ey, w2⟩ := wish_opt w2
    obtain ⟨ks, ek, w2⟩ := wish_opt w2
    obtain ⟨a, vs, rfl, h1, h2⟩ := seqD_at (At.mono x2.gg a1) ex
    obtain ⟨a', ws, rfl, h3, h4⟩ := seqD_at a2 ey
    have := hb d e1 x ex
    have := hb' d2 e2 y ey
    subst bb cc
    have ev := keys_at h2 ek
    subst ev
    refine ⟨a, a', ks, ws, rfl, sqB_mono x2.gh h1, sqB_mono x2.gh h3, fun q nq => ?_⟩
    have nG := same_none x2.gh nq
    have ge : Ext G2 H2 (upd G2 q (.dK (mergeK [] (ks.zip ws)))) (upd H2 q (.dK (mergeK [] (ks.zip ws)))) := Ext.new x2.gh nq
    exact w2 _ _ ge (.ref q) ⟨q, _, rfl, .inl upd_same, AtK.mono ge.gg (AtK.merge (AtK.zip h4) rfl)⟩
  have kind : ∀ f : Ev → R D, ∃ bb : Bool, ∀ d, f ρ = .ok d → ∀ x, seqD d = some x → x.1 = bb := fun f => by
    cases z : f ρ with
    | ok d =>
      cases q : seqD d with
      | none => exact ⟨false, fun d' e x ex => by cases e; rw [q] at ex; cases ex⟩
      | some x => exact ⟨x.1, fun d' e y ey => by cases e; rw [q] at ey; cases ey; rfl⟩
    | exc x => exact ⟨false, fun d' e => by cases e⟩
    | bad => exact ⟨false, fun d' e => by cases e⟩
  obtain ⟨bb, hb⟩ := kind fa
  obtain ⟨cc, hc⟩ := kind fb
  cases bb <;> cases cc
  · exact .inl (.inl (go _ _ hb hc))
  · exact .inl (.inr (go _ _ hb hc))
  · exact .inr (.inl (go _ _ hb hc))
  · exact .inr (.inr (go _ _ hb hc))
end
end Tk

namespace Tk
open PySem PySem.Spec L2 PyProof.Rows
/-! ### x.append(y.pop(e)), two own lists -/
def sAppPop (i j : Nat) (f : Ev → R D) : Ev → SO := fun ρ => SO.from ρ (ownL ρ i) fun xs => SO.from ρ (ownL ρ j) fun ys => SO.from ρ (f ρ) fun d => match d with
  | .int n => if 0 ≤ n ∧ n < 9223372036854775808 ∧ xs.length < sizeLine then (match ys[n.toNat]? with
    | some y => .nx ((ρ.set j (.l (ys.eraseIdx n.toNat))).set i (.l (xs ++ [y])))
    | none => .bad) else .bad
  | _ => .bad
section
variable {X : Cx} {ca : Cn} {W : WX} {e : Expr} {f : Ev → R D} {pos apos cpos py apos2 cpos2 pz : Pos} {i j : Nat} {y z : Str}
theorem fs_appPop (hi : X.N[i]? = some y) (hj : X.N[j]? = some z) (h : FE X ca W e f) (ne : i ≠ j := by decide)
    (hv : Vis X.env.scope y := by first | exact Or.inl rfl | exact Or.inr (Or.inl rfl) | exact Or.inr (Or.inr rfl)) (hd : (y == ("__debug__" : Str)) = false := by decide) (hcd : (y == ("__classdict__" : Str)) = false := by decide)
    (hv2 : Vis X.env.scope z := by first | exact Or.inl rfl | exact Or.inr (Or.inl rfl) | exact Or.inr (Or.inr rfl)) (hd2 : (z == ("__debug__" : Str)) = false := by decide) (hcd2 : (z == ("__classdict__" : Str)) = false := by decide)
    (he : starEach [e] X.env = (false, eval e X.env) :: starEach [] X.env := by rfl) (hb2 : attributeBase (.Name z pz) "pop" X.env (eval (.Name z pz) X.env) = eval (.Name z pz) X.env := by rfl)
    (hw2 : ((backTo cpos2 (starEach [e] X.env)).all (fun x => !x.1) && (backToKw cpos2 (keywordEach [] X.env)).all (fun x => x.1.isSome) && decide ([e].length + ([] : List Keyword).length + (if ([] : List Keyword).isEmpty then 0 else 1) < 30)) = true := by rfl) (hl2 : (apos2.endLine == cpos2.line) = true := by rfl) (hpl2 : (backTo cpos2 (starEach [] X.env)).any (·.1) = false := by rfl)
    (he1 : starEach [.Call (.Attribute (.Name z pz) "pop" apos2) [e] [] cpos2] X.env = (false, eval (.Call (.Attribute (.Name z pz) "pop" apos2) [e] [] cpos2) X.env) :: starEach [] X.env := by rfl) (hb : attributeBase (.Name y py) "append" X.env (eval (.Name y py) X.env) = eval (.Name y py) X.env := by rfl)
    (hw : ((backTo cpos (starEach [.Call (.Attribute (.Name z pz) "pop" apos2) [e] [] cpos2] X.env)).all (fun x => !x.1) && (backToKw cpos (keywordEach [] X.env)).all (fun x => x.1.isSome) && decide ([(.Call (.Attribute (.Name z pz) "pop" apos2) [e] [] cpos2 : Expr)].length + ([] : List Keyword).length + (if ([] : List Keyword).isEmpty then 0 else 1) < 30)) = true := by rfl)
    (hl : (apos.endLine == cpos.line) = true := by rfl) (hpl : (backTo cpos (starEach [] X.env)).any (·.1) = false := by rfl)
    (hs : swapsWith (.Call (.Attribute (.Name y py) "append" apos) [.Call (.Attribute (.Name z pz) "pop" apos2) [e] [] cpos2] [] cpos) none pos.line X.env = pure false := by rfl) :
    FS X ca W (.Expr (.Call (.Attribute (.Name y py) "append" apos) [.Call (.Attribute (.Name z pz) "pop" apos2) [e] [] cpos2] [] cpos) pos) (sAppPop i j f) := by
  obtain ⟨t, p, k⟩ := h.ex
  refine ⟨_, ps_expr (pe_bm PySem.F.plainAttrs_list PySem.F.slot_list_append PySem.F.type_list_append mt_append (pe_var hi hv hd hcd) (pa_cons (pe_bm PySem.F.plainAttrs_list PySem.F.slot_list_pop PySem.F.type_list_pop mt_popAt (pe_var hj hv2 hd2 hcd2) (pa_cons p pa_nil he) hb2 hw2 hl2 he hpl2) pa_nil he1) hb hw hl he1 hpl) hs, fun B G H σ ρ D s b r h => ?_⟩
  unfold sAppPop at h
  cases q1 : ownL ρ i with
  | exc x => unfold ownL at q1; split at q1 <;> cases q1
  | bad => rw [q1] at h; exact h.elim
  | ok xs =>
    rw [q1] at h
    cases q2 : ownL ρ j with
    | exc x => unfold ownL at q2; split at q2 <;> cases q2
    | bad => rw [q2] at h; exact h.elim
    | ok ys =>
      rw [q2] at h
      obtain ⟨r1, a, vs, a1, a2, a3, a4, a5⟩ := own_l q1 r
      obtain ⟨r2, c, ws, c1, c2, c3, c4, c5⟩ := own_l q2 r
      have nac : a ≠ c := fun z => ne (r.sep i j _ _ a r1 rfl r2 rfl a1 (by rw [z]; exact c1))
      refine ⟨_, a1, .inl ⟨rfl, vs, .of a2⟩, _, c1, .inl ⟨rfl, ws, .of c2⟩, k B G H σ ρ _ s b r (WishS.from h b r fun d G1 H1 _ x w r3 b1 v av => ?_)⟩
      cases d with
      | int n =>
        cases av
        have w2 : WishS X.K ca B G1 (if 0 ≤ n ∧ n < 9223372036854775808 ∧ xs.length < sizeLine then (match ys[n.toNat]? with
          | some y => .nx ((ρ.set j (.l (ys.eraseIdx n.toNat))).set i (.l (xs ++ [y])))
          | none => .bad) else .bad) D W := w
        split at w2
        · rename_i hn
          split at w2
          · rename_i yy hy
            obtain ⟨u, hu, au⟩ := c3.get hy
            have lw : n.toNat < ws.length := (List.getElem?_eq_some_iff.mp hu).1
            have lc := c3.length
            have la := a3.length
            refine ⟨c, ws, n, n.toNat, u, rfl, rfl, x.hh _ _ c2, by omega, by omega, ?_, hu, ?_⟩
            · exact seqIndex_of hn.1 (by omega)
            · obtain ⟨t1, t2, t3⟩ := r3.turn x.gh b1 (t' := .l (ys.eraseIdx n.toNat)) (o := .lst (ws.eraseIdx n.toNat)) r2 rfl rfl c1 ⟨_, upd_same, (AtL.mono x.gg c3).eraseIdx _⟩
              have e1 : (ρ.set j (.l (ys.eraseIdx n.toNat)))[i]? = some (.l xs) := by rw [List.getElem?_set_ne (Ne.symm ne)]; exact r1
              have e2 : upd H1 c (.lst (ws.eraseIdx n.toNat)) a = some (.lst vs) := by rw [upd_ne nac]; exact x.hh _ _ a2
              refine ⟨a, vs, u, rfl, rfl, e2, by omega, ?_⟩
              obtain ⟨u1, u2, u3⟩ := t1.turn t2 t3 (t' := .l (xs ++ [yy])) (o := .lst (vs ++ [u])) e1 rfl rfl a1 ⟨_, upd_same, (AtL.mono x.gg a3).append (.one (At.mono x.gg au))⟩
              exact w2 _ G1 _ ⟨.refl _, u2, u3, fun c z => .inl z⟩ u1
          · exact w2.elim
        · exact w2.elim
      | _ => exact w.elim
end
end Tk

namespace Tk
open PySem PySem.Spec L2 PyProof.Rows
/-! ### new objects that stay the frame's own: of any kind; calls that hand them out -/
/-- what is wanted of a new object: H0 the heap ahead -/
def SN (K : PySem.W.Frag) (ca : Cn) (H0 : Hp) (Q : VK) : Hp → Sl → Hp → Prop := fun G' s H' => s.own = true ∧ ∀ a, Own K ca G' H' a s → G' a = none → H0 a = none → Q (.ref a) H'
theorem Wish.imp {α : Type} {K : PySem.W.Frag} {ca : Cn} {G H : Hp} {r : R α} {S S' : Hp → α → Hp → Prop} {W1 : XK} (h : Wish K ca S G H r W1) (q : ∀ G' d H', S G' d H' → S' G' d H') : Wish K ca S' G H r W1 := by
  cases r with
  | ok a => exact fun G' H' x => q _ _ _ (h G' H' x)
  | exc x => exact h
  | bad => exact h
structure FN (X : Cx) (ca : Cn) (W : WX) (e : Expr) (f : Ev → R Sl) : Prop where
  ex : ∃ t, PE X e t ∧ ∀ B G H σ ρ Q, Same G H → Same B H → Rel X.K ca B G H σ ρ → Wish X.K ca (SN X.K ca H Q) G H (f ρ) (WE W σ) → t σ H Q
def nL (f : Ev → R (List D)) : Ev → R Sl := fun ρ => (f ρ).bind fun ds => .ok (.l ds)
def sNew (i : Nat) (f : Ev → R Sl) : Ev → SO := fun ρ => SO.from ρ (f ρ) fun s => if s.own = true then .nx (ρ.set i s) else .bad
def sRetV (i : Nat) : Ev → SO := fun ρ => match ρ[i]? with
  | some s => if s.own = true then .ro s else .bad
  | none => .bad
def sRetF (f : Ev → R Sl) : Ev → SO := fun ρ => SO.from ρ (f ρ) fun s => if s.own = true then .ro s else .bad
def runO (n : Nat) (g : Ev → SO) : List D → R Sl := fun ds => (g (startE n ds)).outO
def oCall (n : Nat) (F : List D → R Sl) (fa : Ev → R (List D)) : Ev → R Sl := fun ρ => (fa ρ).bind fun ds => if ds.length = n then F ds else .bad
def spO (K : PySem.W.Frag) (ca : Cn) (n : Nat) (F : List D → R Sl) : Sp := fun vs H Q E => vs.length = n ∧ ∃ G ds, Same G H ∧ AtL K ca G ds vs ∧ Wish K ca (SN K ca H Q) G H (F ds) E
section
variable {X : Cx} {ca : Cn} {W : WX} {e : Expr} {es : List Expr} {f : Ev → R Sl} {fl fa : Ev → R (List D)} {pos p : Pos}
theorem fn_l (h : FL X ca W e fl) : FN X ca W e (nL fl) := by
  obtain ⟨t, pp, k⟩ := h.ex
  refine ⟨t, pp, fun B G H σ ρ Q s b r w => k B G H σ ρ Q s b r ?_⟩
  unfold nL at w
  cases z : fl ρ with
  | ok ds =>
    rw [z] at w
    exact fun G' H' x q vs n g hq av => (w G' H' x).2 q ⟨vs, hq, av⟩ g n
  | exc x => rw [z] at w; exact w
  | bad => rw [z] at w; exact w
theorem fs_new {i : Nat} {y : Str} {pos' : Pos} (hN : X.N.Nodup) (hi : X.N[i]? = some y) (h : FN X ca W e f) (hx : Loc X.env.scope y := by first | exact .inl rfl | exact .inr rfl) (hs : swapsWith e (some (.Name y pos')) pos.line X.env = pure false := by rfl)
    (hf : X.fn y = true ∨ X.env.scope.names.lookup y = some .local := by first | exact .inl rfl | exact .inr rfl | assumption) : FS X ca W (.Assign [.Name y pos'] e pos) (sNew i f) := by
  obtain ⟨t, p, kt⟩ := h.ex
  refine ⟨_, ps_set hN hi hx p hs hf, fun B G H σ ρ D s b r h => kt B G H σ ρ _ s b r ?_⟩
  refine WishS.from h b r fun sl G1 H1 e1 x w r1 b1 => ?_
  split at w
  · rename_i o
    refine ⟨o, fun a oa ga na => ?_⟩
    refine w _ G1 H1 (.refl x.gh b1) ?_
    refine r1.setOwn i o oa ga (same_none b na) fun j t' _ q' o' z => ?_
    obtain ⟨a', h1, h2, h3, h4⟩ := r.own j t' q' o'
    rw [z] at h1
    cases h1
    obtain ⟨ob, h5⟩ := h2.some
    rw [na] at h5
    cases h5
  · exact w.elim
/-- return y, y an own object -/
theorem fs_retV {i : Nat} {y : Str} {py : Pos} (hi : X.N[i]? = some y) (hv : Vis X.env.scope y := by first | exact Or.inl rfl | exact Or.inr (Or.inl rfl) | exact Or.inr (Or.inr rfl)) (hd : (y == ("__debug__" : Str)) = false := by decide) (hcd : (y == ("__classdict__" : Str)) = false := by decide) : FS X ca W (.Return (some (.Name y py)) pos) (sRetV i) := by
  refine ⟨_, ps_ret (pe_var hi hv hd hcd), fun B G H σ ρ D s b r h => ?_⟩
  unfold sRetV at h
  split at h
  · rename_i sl q
    split at h
    · rename_i o
      obtain ⟨a, h1, h2, h3, h4⟩ := r.own i sl q o
      exact ⟨_, h1, h.2 a G H (.refl s b) h2 h3 h4⟩
    · exact h.elim
  · exact h.elim
theorem fs_retF (h : FN X ca W e f) : FS X ca W (.Return (some e) pos) (sRetF f) := by
  obtain ⟨t, p, k⟩ := h.ex
  refine ⟨_, ps_ret p, fun B G H σ ρ D s b r h => k B G H σ ρ _ s b r ?_⟩
  refine WishS.from h b r fun sl G1 H1 e1 x w r1 b1 => ?_
  split at w
  · rename_i o
    exact ⟨o, fun a oa ga na => w.2 a G1 H1 (.refl x.gh b1) oa ga (same_none b na)⟩
  · exact w.elim
end
section
variable {P : Program} {w : World} {K : PySem.W.Frag} {mg : Str → Option Value} {base : Heap} {ca : Cn}
theorem body_okO {X : Cx} {W : WX} {body : List Stmt} {g : Ev → SO} {H : Hp} {vs : List V} {ds : List D} {G : Hp} {Q : VK} {E : XK} {N : List Str} (hK : X.K = K) (h : FSs X ca W body g) (hW : ∀ c d σ H', E c d H' → W c d σ H')
    (s : Same G H) (a : AtL K ca G ds vs) (q : Wish K ca (SN K ca H Q) G H (runO N.length g ds) E) : ∃ t, PSs X body t ∧ t { nx := fun _ H' => Q .non H', rt := Q } (L2.start N vs) H := by
  subst hK
  obtain ⟨t, p, k⟩ := h.ex
  refine ⟨t, p, k H G H _ (startE N.length ds) _ s (.refl H) (rel_start a) ?_⟩
  unfold runO at q
  have up : ∀ {G' H' : Hp}, Adv H G G' H' → Ext G H G' H' := fun x => ⟨x.bh, x.gg, x.gh, x.nw⟩
  cases z : g (startE N.length ds) with
  | ro sl =>
    rw [z] at q
    have own : sl.own = true := (q G H ⟨.refl _, .refl _, s, fun _ h => .inl h⟩).1
    exact ⟨own, fun a G' H' x oa ga ba => (q G' H' (up x)).2 a oa ga ba⟩
  | ex x ρ => rw [z] at q; exact fun σ' G' H' c dx y r e => hW _ _ _ _ (q G' H' c dx (up y) e)
  | nx ρ => rw [z] at q; exact q.elim
  | rt d => rw [z] at q; exact q.elim
  | bk ρ => rw [z] at q; exact q.elim
  | ct ρ => rw [z] at q; exact q.elim
  | bad => rw [z] at q; exact q.elim
theorem fn_okO {x qual : Str} {params : Arguments} {body : List Stmt} {scope : Scope} {dvs : List V} {kws : List (Str × V)} {f : Addr} {fd : FuncData} {N ps : List Str} {k : Nat} {g : Ev → SO} (F : FunD K x qual params body scope dvs kws f fd) (S : FnScope N ps scope)
    (hb : ∀ (cdv : Value) (A : Around) (outer : List Env) (s : Shared) (H : Hp) (E : XK), Room k (A.deeper (envOfC qual scope s.heap.objs.size f cdv)) →
      FSs (cxOf (L2.CX P w) P w K mg base N qual scope f cdv A outer s H E) ca (fun c d _ H' => E c d H') body g) : FnOk P w K mg base (L2.CX P w) (k + 1) f fd ps (spO K ca ps.length (runO N.length g)) :=
  F.ok S (fun vs H Q E h => h.1) fun cdv A outer s H vs Q E hr h => by
    obtain ⟨l, G, ds, sm, a, q⟩ := h
    exact body_okO rfl (hb cdv A outer s H E hr) (fun _ _ _ _ z => z) sm a q
/-- a def that hands out a new object -/
structure DefO (P : Program) (w : World) (K : PySem.W.Frag) (mg : Str → Option Value) (base : Heap) (ca : Cn) (k : Nat) (x : Str) (st : Stmt) (dd : List D) (kd : List (Str × D)) (ps : List Str) (F : List D → R Sl) : Prop where
  ex : ∃ f fd, FnOk P w K mg base (L2.CX P w) k f fd ps (spO K ca ps.length F) ∧ mg x = some (.ref f) ∧ FD K x x st dd kd f fd
variable {x : Str} {st : Stmt} {dd : List D} {kd : List (Str × D)} {ps N : List Str} {k : Nat} {g : Ev → SO}
theorem DefO.of (h : FnAt K mg x st dd kd) (S : FnScope N ps (defScope st)) (hb : ∀ (f : Addr) (cdv : Value) (A : Around) (outer : List Env) (s : Shared) (H : Hp) (E : XK), Room k (A.deeper (envOfC x (defScope st) s.heap.objs.size f cdv)) →
      FSs (cxOf (L2.CX P w) P w K mg base N x (defScope st) f cdv A outer s H E) ca (fun c d _ H' => E c d H') (defBody st) g) : DefO P w K mg base ca (k + 1) x st dd kd ps (runO N.length g) := by
  obtain ⟨f, fd, F, hm⟩ := h.ex
  exact ⟨f, fd, fn_okO F S (hb f), hm, F⟩
end
section
variable {X : Cx} {ca : Cn} {W : WX} {k j n : Nat} {x : Str} {st : Stmt} {dd : List D} {kd : List (Str × D)} {ps ks : List Str} {Fn : List D → R Sl} {p pos : Pos} {e : Expr} {es : List Expr} {kws : List Keyword} {fa fk : Ev → R (List D)} {gD : List D → List D → List D}
theorem fn_a (d : DefO X.prog X.w X.K X.mg X.base ca k x st dd kd ps Fn) (hb : ∀ {f fd}, FD X.K x x st dd kd f fd → Binds X.K fd ps []) (hr : Room j X.A) (tk : Takes X W) (ha : FA X ca W (e :: es) fa) (hk : k ≤ j := by decide) (hg : Gl X x := by rfl) (hdb : (x == ("__debug__" : Str)) = false := by decide)
    (he : starEach (e :: es) X.env = (false, eval e X.env) :: starEach es X.env := by rfl) (hpl : (backTo pos (starEach es X.env)).any (·.1) = false := by rfl) : FN X ca W (.Call (.Name x p) (e :: es) [] pos) (oCall ps.length Fn fa) := by
  obtain ⟨f, fd, F, h1, h2⟩ := d.ex
  obtain ⟨t, pa, kt⟩ := ha.ex
  refine ⟨_, pe_callS (E := WE W) F (hr.mono hk) hg h1 h2.kp (hb h2) (fun σ => passAt tk σ) pa hdb he hpl, fun B G H σ ρ Q s b r h => ?_⟩
  refine kt B G H σ ρ _ s b r (Wish.bind h fun ds G1 H1 _ x1 w1 vs a1 => ?_)
  split at w1
  · rename_i hl
    exact ⟨by rw [← a1.length]; exact hl, G1, ds, x1.gh, a1, Wish.imp w1 fun G' sl H' q => ⟨q.1, fun a oa ga na => q.2 a oa ga (same_none x1.hh na)⟩⟩
  · exact w1.elim
end

/-! ### new lists by comprehensions -/
def SF (K : PySem.W.Frag) (ca : Cn) (H0 : Hp) (Q : VK) : Hp → List D → Hp → Prop := fun G' ds H' => ∀ p vs, H0 p = none → G' p = none → H' p = some (.lst vs) → AtL K ca G' ds vs → Q (.ref p) H'
def lLc (zs : List Nat) (fi : Ev → R (List D)) (h : Tg) (t : Ev → R Bool) (fe : Ev → R D) : Ev → R (List D) := fun ρ => (fi ρ).bind fun ds => if ds.length ≤ sizeLine then (lcL h t fe (wipeE ρ zs) ds).bind fun rs => .ok rs else .bad
/-- what is known at turn i of the comprehension that fills D -/
def LcWF (K : PySem.W.Frag) (ca : Cn) (h : Tg) (t : Ev → R Bool) (fe : Ev → R D) (ρw : Ev) (D : Addr) (ds : List Tk.D) (B G1 H1 : Hp) (σw : L2.St) (W1 : XK) (Hx : Hp) (Q : VK) (i : Nat) (H : Hp) : Prop :=
  ∃ G acc vs, Ext G1 H1 G H ∧ G D = none ∧ H D = some (.lst vs) ∧ AtL K ca G acc vs ∧ acc.length ≤ i ∧ Same B H ∧ Rel K ca B G H σw ρw ∧
    Wish K ca (SF K ca Hx Q) G1 H1 ((lcL h t fe ρw (ds.drop i)).bind fun rs => .ok (acc ++ rs)) W1
section
variable {X : Cx} {ca : Cn} {W : WX} {zs : List Nat} {elt tg iter : Expr} {ifs : List Expr} {scope : Scope} {own : List (Str × Nat)} {pos : Pos} {fi : Ev → R (List D)} {h : Tg} {ft : Ev → R Bool} {fe : Ev → R D}
theorem lc_tailF {tl : TI} (ki : ∀ B G H σ ρ (Q : It → Hp → Prop), Same G H → Same B H → Rel X.K ca B G H σ ρ → Wish X.K ca (fun G' ds H' => ∀ J, JOk X.K ca G' J ds → Q J H') G H (fi ρ) (WE W σ) → tl σ H Q)
    (B G H : Hp) (σ : L2.St) (ρ : Ev) (Hx : Hp) (Q : VK) (s : Same G H) (b : Same B H) (r : Rel X.K ca B G H σ ρ) (hx : Same Hx H) (w : Wish X.K ca (SF X.K ca Hx Q) G H (lLc zs fi h ft fe ρ) (WE W σ)) :
    tLc tl (tGc X.K ca zs h) (tT X.K ca W0 ft) (tE X.K ca W0 fe) zs σ H Q := by
  refine ki B G H σ ρ _ s b r (Wish.bind w fun ds G1 H1 _ x1 w1 J hj => ?_)
  intro D hD
  split at w1
  rename_i hlen
  have gD : G1 D = none := same_none x1.gh hD
  have b1 := b.trans x1.hh
  have r1 := (r.ext x1).wipe zs
  have e0 : Ext G1 H1 G1 (upd H1 D (.lst [])) := ⟨same_upd hD, .refl _, x1.gh.trans (same_upd hD), fun a z => .inl z⟩
  refine ⟨fun i m H => m = ds.length - i ∧ i ≤ ds.length ∧ LcWF X.K ca h ft fe (wipeE ρ zs) D ds B G1 H1 (L2.wipe σ zs) (WE W σ) Hx Q i H, ⟨_, rfl, Nat.zero_le _, G1, [], [], e0, gD, upd_same, rfl, Nat.le_refl _, b1.trans e0.hh, r1.ext e0, by rw [List.drop_zero]; exact w1⟩, ?_⟩
  rintro i m H2 ⟨rfl, hi, G2, acc, vs, e2, g2, d2, a2, l2, b2, r2, w2⟩
  obtain ⟨j1, j2⟩ := hj G2 H2 e2.gg e2.gh i
  by_cases hlt : i < ds.length
  · rw [List.drop_eq_getElem_cons hlt] at w2
    obtain ⟨go, yl⟩ := j1 ds[i] (by simp [hlt])
    refine .inr ⟨go, fun H' => LcWF X.K ca h ft fe (wipeE ρ zs) D ds B G1 H1 (L2.wipe σ zs) (WE W σ) Hx Q (i + 1) H', fun H' q => ⟨ds.length - (i + 1), by omega, rfl, hlt, q⟩, fun x H3 yy => ?_⟩
    obtain ⟨G3, x3, a3⟩ := yl x H3 yy
    have r3 := r2.ext x3
    have b3 := b2.trans x3.hh
    -- what stays of the new list, wherever the block's own expressions lay things
    have stay : ∀ {G4 H4 : Hp}, Ext G3 H3 G4 H4 → G4 D = none ∧ H4 D = some (.lst vs) ∧ AtL X.K ca G4 acc vs ∧ Ext G1 H1 G4 H4 ∧ Same B H4 ∧ Rel X.K ca B G4 H4 (L2.wipe σ zs) (wipeE ρ zs) := fun {G4 H4} x4 => by
      have x5 := x3.trans x4
      refine ⟨?_, x5.hh _ _ d2, AtL.mono x5.gg a2, e2.trans x5, b2.trans x5.hh, r2.ext x5⟩
      cases q : G4 D with
      | none => rfl
      | some u =>
        rcases x5.nw D (by rw [q]; simp) with z | z
        · exact absurd g2 z
        · exact (z.no d2 fun _ y => nomatch y).elim
    have w3 : Wish X.K ca (SF X.K ca Hx Q) G1 H1 (((optR (h ds[i] (wipeE ρ zs))).bind fun ρ1 => (ft ρ1).quiet.bind fun b => if b = true then (fe ρ1).quiet.bind fun y => (lcL h ft fe (wipeE ρ zs) (ds.drop (i + 1))).bind fun r => .ok (y :: r) else lcL h ft fe (wipeE ρ zs) (ds.drop (i + 1))).bind fun rs => .ok (acc ++ rs)) (WE W σ) := w2
    cases z1 : h ds[i] (wipeE ρ zs) with
    | none => rw [z1] at w3; exact w3.elim
    | some ρ1 =>
      rw [z1] at w3
      refine ⟨B, G3, wipeE ρ zs, ds[i], x3.gh, b3, r3, a3, ρ1, z1, fun σ4 r4 e4 => ⟨e4.trans (wipe_idem σ zs), B, G3, ρ1, x3.gh, b3, r4, ?_⟩⟩
      cases z2 : ft ρ1 with
      | exc x => simp only [optR_some, bind_ok, z2] at w3; exact w3.elim
      | bad => simp only [optR_some, bind_ok, z2] at w3; exact w3.elim
      | ok bb =>
        simp only [optR_some, bind_ok, z2, quiet_ok] at w3
        intro G5 H5 x5
        show if bb = true then _ else _
        cases bb with
        | false =>
          rw [if_neg Bool.false_ne_true] at w3 ⊢
          obtain ⟨s1, s2, s3, s4, s5, s6⟩ := stay x5
          exact ⟨G5, acc, vs, s4, s1, s2, s3, by omega, s5, s6, w3⟩
        | true =>
          rw [if_pos rfl] at w3 ⊢
          refine ⟨B, G5, ρ1, x5.gh, b3.trans x5.hh, r4.ext x5, ?_⟩
          cases z3 : fe ρ1 with
          | exc x => simp only [z3] at w3; exact w3.elim
          | bad => simp only [z3] at w3; exact w3.elim
          | ok y =>
            simp only [z3, quiet_ok, bind_ok] at w3
            intro G6 H6 x6 v av
            obtain ⟨s1, s2, s3, s4, s5, s6⟩ := stay (x5.trans x6)
            have hl := s3.length
            refine ⟨vs, s2, by omega, G6, acc ++ [y], vs ++ [v], ?_, s1, upd_same, s3.append (.one av), by rw [List.length_append]; exact Nat.succ_le_succ l2, ?_, ?_, ?_⟩
            · -- the list's own place is the only one that turned
              have nD : ∀ c o, H1 c = some o → c ≠ D := fun c o q z => by rw [z, hD] at q; cases q
              have nG : ∀ c o, G6 c = some o → c ≠ D := fun c o q z => by rw [z, s1] at q; cases q
              exact ⟨fun c o q => by rw [upd_ne (nD c o q)]; exact s4.hh c o q, s4.gg, fun c o q => by rw [upd_ne (nG c o q)]; exact s4.gh c o q, s4.nw⟩
            · have nB : ∀ c o, B c = some o → c ≠ D := fun c o q z => by
                have := b1 c o q
                rw [z, hD] at this
                cases this
              exact fun c o q => by rw [upd_ne (nB c o q)]; exact s5 c o q
            · refine ⟨s6.len, s6.val, fun k s' q ho => ?_, s6.sep, s6.exc⟩
              obtain ⟨a', t1, t2, t3, t4⟩ := s6.own k s' q ho
              refine ⟨a', t1, t2.ext (.refl _) ?_, t3, t4⟩
              -- an own object of the frame stood ahead of the new list
              obtain ⟨a0, u1, u2, u3, u4⟩ := r1.own k s' q ho
              rw [t1] at u1
              cases u1
              obtain ⟨o, u5⟩ := u2.some
              rw [upd_ne (fun z => by rw [z, hD] at u5; cases u5)]
            · cases z4 : lcL h ft fe (wipeE ρ zs) (ds.drop (i + 1)) with
              | ok rs =>
                rw [z4] at w3
                rw [bind_ok, List.append_assoc]
                exact w3
              | exc x => rw [z4] at w3; exact w3
              | bad => rw [z4] at w3; exact w3
  · have e : i = ds.length := by omega
    subst e
    rw [List.drop_length] at w2
    have w3 : Wish X.K ca (SF X.K ca Hx Q) G1 H1 (.ok (acc ++ [])) (WE W σ) := w2
    rw [List.append_nil] at w3
    exact .inl ⟨j2 rfl, w3 G2 H2 e2 D vs (same_none (hx.trans x1.hh) hD) g2 d2 a2⟩
  · exact w1.elim
theorem fl_lc (hc : X.calm = true) (hN : X.N.Nodup) (hi : FI X ca W tg iter fi) (ok : BlkOk X.N X.env.scope scope own)
    (hg : ∀ (s : Shared) (H : Hp) (C : Addr) (cl : List (Str × Addr)) (fp : List Addr), FG (X.blk s H scope (compEnvC scope cl C X.env) fp) ca (own.map (·.2)) tg h) (ht : ∀ (s : Shared) (H : Hp) (C : Addr) (cl : List (Str × Addr)) (fp : List Addr), FTs (X.blk s H scope (compEnvC scope cl C X.env) fp) ca W0 ifs ft)
    (he : ∀ (s : Shared) (H : Hp) (C : Addr) (cl : List (Str × Addr)) (fp : List Addr), FE (X.blk s H scope (compEnvC scope cl C X.env) fp) ca W0 elt fe) (hs : ∀ x, foldedSetIterable iter X.env x = pure x := by intro _; rfl) :
    FL X ca W (.ListComp elt [⟨tg, iter, ifs, 0⟩] scope pos) (lLc (own.map (·.2)) fi h ft fe) := by
  obtain ⟨tl, pl, ki⟩ := hi.ex
  refine ⟨_, pe_lc (g := tGc X.K ca (own.map (·.2)) h) (tt := tT X.K ca W0 ft) (te := tE X.K ca W0 fe) hc hN pl ok (fun s H C cl fp => (hg s H C cl fp).can) (fun s H C cl fp => (ht s H C cl fp).ex) (fun s H C cl fp => (he s H C cl fp).can) hs, fun B G H σ ρ Q s b r w => ?_⟩
  exact lc_tailF ki B G H σ ρ H Q s b r (.refl H) w
/-- name = [..] -/
theorem fs_ownLc {i : Nat} {y : Str} {py spos : Pos} (hc : X.calm = true) (hN : X.N.Nodup) (hy : X.N[i]? = some y) (hyl : X.env.scope.names.lookup y = some .local) (hsw : swapsWith (.ListComp elt [⟨tg, iter, ifs, 0⟩] scope pos) (some (.Name y py)) spos.line X.env = pure true)
    (hi : FI X ca W tg iter fi) (ok : BlkOk X.N X.env.scope scope own)
    (hg : ∀ (s : Shared) (H : Hp) (C : Addr) (cl : List (Str × Addr)) (fp : List Addr), FG (X.blk s H scope (compEnvC scope cl C X.env) fp) ca (own.map (·.2)) tg h) (ht : ∀ (s : Shared) (H : Hp) (C : Addr) (cl : List (Str × Addr)) (fp : List Addr), FTs (X.blk s H scope (compEnvC scope cl C X.env) fp) ca W0 ifs ft)
    (he : ∀ (s : Shared) (H : Hp) (C : Addr) (cl : List (Str × Addr)) (fp : List Addr), FE (X.blk s H scope (compEnvC scope cl C X.env) fp) ca W0 elt fe) (hs : ∀ x, foldedSetIterable iter X.env x = pure x := by intro _; rfl) :
    FS X ca W (.Assign [.Name y py] (.ListComp elt [⟨tg, iter, ifs, 0⟩] scope pos) spos) (sOwn i (lLc (own.map (·.2)) fi h ft fe)) := by
  obtain ⟨tl, pl, ki⟩ := hi.ex
  refine ⟨_, ps_setLc (g := tGc X.K ca (own.map (·.2)) h) (tt := tT X.K ca W0 ft) (te := tE X.K ca W0 fe) hc hN hy hyl hsw pl ok (fun s H C cl fp => (hg s H C cl fp).can) (fun s H C cl fp => (ht s H C cl fp).ex) (fun s H C cl fp => (he s H C cl fp).can) hs, fun B G H σ ρ D s b r w => ?_⟩
  refine lc_tailF ki B G H σ ρ H _ s b r (.refl H) ?_
  refine WishS.from w b r fun ds G1 H1 _ x w1 r1 b1 q vs n g hq av => w1 _ G1 H1 (.refl x.gh b1) ?_
  refine r1.setOwn i rfl ⟨vs, hq, av⟩ g (same_none b n) fun j t' _ q' o' z => ?_
  obtain ⟨a, h1, h2, h3, h4⟩ := r.own j t' q' o'
  rw [z] at h1
  cases h1
  obtain ⟨ob, h5⟩ := h2.some
  rw [n] at h5
  cases h5
end
/-! ### x[i] = e; x[i], x an own list -/
def sPutL (i : Nat) (f fi : Ev → R D) : Ev → SO := fun ρ => SO.from ρ (f ρ) fun d => SO.from ρ (ownL ρ i) fun xs => SO.from ρ (fi ρ) fun n => match n with
  | .int k => (match ixN xs.length k with
    | some j => .nx (ρ.set i (.l (xs.set j d)))
    | none => .bad)
  | _ => .bad
def eOwnIx (i : Nat) (fi : Ev → R D) : Ev → R D := fun ρ => (ownL ρ i).bind fun xs => (fi ρ).bind fun n => gIx (.lst xs) n
section
variable {X : Cx} {ca : Cn} {W : WX} {e ei : Expr} {f fi : Ev → R D} {pos p py : Pos} {i : Nat} {y : Str}
theorem fs_putL (hi : X.N[i]? = some y) (h : FE X ca W e f) (hx : FE X ca W ei fi) (hv : Vis X.env.scope y := by first | exact Or.inl rfl | exact Or.inr (Or.inl rfl) | exact Or.inr (Or.inr rfl)) (hd : (y == ("__debug__" : Str)) = false := by decide) (hcd : (y == ("__classdict__" : Str)) = false := by decide)
    (ha : ∀ v, assign (.Subscript (.Name y py) ei p) X.env v = (do
      let ov ← holding [v] (eval (.Name y py) X.env)
      let iv ← holding [v, ov] (eval ei X.env)
      standAt p
      holding [v, ov, iv] (setItem ov iv v)
      release [v, ov, iv] []) := by intro _; rfl)
    (hs : swapsWithSole [.Subscript (.Name y py) ei p] e pos.line X.env = pure false := by rfl) (hw : swappedStores [.Subscript (.Name y py) ei p] e X.env = pure none := by rfl)
    (h1 : (assignEach [.Subscript (.Name y py) ei p] X.env).map (·.2) = [assign (.Subscript (.Name y py) ei p) X.env] := by rfl) : FS X ca W (.Assign [.Subscript (.Name y py) ei p] e pos) (sPutL i f fi) := by
  obtain ⟨t, pp, k⟩ := h.ex
  obtain ⟨u, pu, ku⟩ := hx.ex
  refine ⟨_, ps_asg pp (pg_sub (pe_var hi hv hd hcd) pu set_list ha) hs hw h1, fun B G H σ ρ D s b r w => k B G H σ ρ _ s b r ?_⟩
  refine WishS.from w b r fun d G1 H1 _ x w1 r1 b1 v av => ?_
  cases z : ownL ρ i with
  | exc x => unfold ownL at z; split at z <;> cases z
  | bad => rw [z] at w1; exact w1.elim
  | ok xs =>
    rw [z] at w1
    obtain ⟨q, a, vs, h1, h2, h3, h4, h5⟩ := own_l z r1
    refine ⟨_, h1, ku B G1 H1 σ ρ _ x.gh b1 r1 ?_⟩
    refine WishS.from w1 b1 r1 fun n G2 H2 _ x2 w2 r2 b2 nv an => ?_
    cases n with
    | int kk =>
      cases an
      have w3 : WishS X.K ca B G2 (match ixN xs.length kk with | some j => .nx (ρ.set i (.l (xs.set j d))) | none => .bad) D W := w2
      split at w3
      · rename_i j hj
        have l := h3.length
        obtain ⟨t1, t2, t3⟩ := r2.turn x2.gh b2 (t' := .l (xs.set j d)) (o := .lst (vs.set j v)) q rfl rfl h1 ⟨_, upd_same, (AtL.mono x2.gg h3).set j (At.mono x2.gg av)⟩
        exact ⟨a, vs, kk, j, rfl, rfl, x2.hh _ _ h2, by rw [← l]; exact hj, w3 _ G2 _ ⟨.refl _, t2, t3, fun c z => .inl z⟩ t1⟩
      · exact w3.elim
    | _ => exact w2.elim
theorem fe_ownIx (hp : PlainIx ei) (hi : X.N[i]? = some y) (hx : FE X ca W ei fi) (hv : Vis X.env.scope y := by first | exact Or.inl rfl | exact Or.inr (Or.inl rfl) | exact Or.inr (Or.inr rfl)) (hd : (y == ("__debug__" : Str)) = false := by decide) (hcd : (y == ("__classdict__" : Str)) = false := by decide) :
    FE X ca W (.Subscript (.Name y py) ei p) (eOwnIx i fi) := by
  obtain ⟨u, pu, ku⟩ := hx.ex
  refine ⟨_, pe_ix ix_seq (pe_var hi hv hd hcd) pu hp, fun B G H σ ρ Q s b r w => ?_⟩
  unfold eOwnIx at w
  cases z : ownL ρ i with
  | exc x => unfold ownL at z; split at z <;> cases z
  | bad => rw [z] at w; exact w.elim
  | ok xs =>
    rw [z] at w
    obtain ⟨q, a, vs, h1, h2, h3, h4, h5⟩ := own_l z r
    refine ⟨_, h1, ku B G H σ ρ _ s b r (Wish.bind w fun n G1 H1 _ x1 w1 nv an => ?_)⟩
    unfold gIx at w1
    split at w1
    · rename_i e _
      cases e
      obtain ⟨d, e, w2⟩ := wish_opt' w1
      obtain ⟨v, e2, a2⟩ := (AtL.mono x1.gg h3).atI e
      exact .inl ⟨a, vs, _, v, rfl, an, .of (x1.hh _ _ h2), e2, w2.here x1.gh _ a2⟩
    · rename_i e _; cases e
    · rename_i e _; cases e
    · rename_i e _; cases e
    · rename_i e _; cases e
    · exact w1.elim
end
end Tk

namespace Tk
open PySem PySem.Spec L2 PyProof.Rows
/-! ### classes: own instances -/
def nmOf (l : List Str) (k : Nat) : Str := l.getD k Str.empty
theorem nm_inj {l : List Str} {f : Nat} (nd : l.Nodup) (h : f < l.length) (ne : Str.empty ∉ l) : ∀ k, nmOf l k = nmOf l f → k = f := fun k e => by
  unfold nmOf at e
  rw [List.getD_eq_getElem?_getD, List.getD_eq_getElem?_getD, List.getElem?_eq_getElem h] at e
  by_cases hk : k < l.length
  · rw [List.getElem?_eq_getElem hk] at e
    have e2 : l[k] = l[f] := e
    rcases Nat.lt_trichotomy k f with z | z | z
    · exact absurd e2 (List.pairwise_iff_getElem.mp nd k f hk h z)
    · exact z
    · exact absurd e2.symm (List.pairwise_iff_getElem.mp nd f k h hk z)
  · rw [List.getElem?_eq_none (by omega)] at e
    have e2 : Str.empty = l[f] := e
    exact absurd (e2 ▸ List.getElem_mem h) ne
def putN (f : Nat) (d : D) : List (Nat × D) → List (Nat × D)
  | [] => [(f, d)]
  | (g, x) :: r => if g = f then (g, d) :: r else (g, x) :: putN f d r
section
variable {K : PySem.W.Frag} {ca : Cn} {G : Hp}
theorem AtF.put {f : Nat} {d : D} {v : V} (hi : ∀ k, ca.n k = ca.n f → k = f) (h : At K ca G d v) : ∀ {fs : List (Nat × D)} {vs : List (Str × V)}, AtF K ca G fs vs → AtF K ca G (putN f d fs) (putF (ca.n f) v vs)
  | [], vs, a => by cases a; exact ⟨v, [], rfl, h, rfl⟩
  | (g, x) :: r, vs, ⟨u, us, e, b, t⟩ => by
    subst e
    unfold putN putF
    by_cases z : g = f
    · subst z
      rw [if_pos rfl, if_pos rfl]
      exact ⟨v, us, rfl, h, t⟩
    · rw [if_neg z, if_neg fun y => z (hi g y)]
      exact ⟨u, _, rfl, b, AtF.put hi h t⟩
theorem AtF.length : ∀ {fs : List (Nat × D)} {vs : List (Str × V)}, AtF K ca G fs vs → fs.length = vs.length
  | [], _, h => by cases h; rfl
  | (_, _) :: _, _, ⟨_, _, e, _, t⟩ => by subst e; simp [AtF.length t]
end
def ownO (ρ : Ev) (i : Nat) : R (Option Addr × Nat × List (Nat × D)) := match ρ[i]? with
  | some (.o g c fs) => .ok (g, c, fs)
  | _ => .bad
/-- self.f = e -/
def sFldO (cs : List Nat) (i f : Nat) (fe : Ev → R D) : Ev → SO := fun ρ => SO.from ρ (fe ρ) fun d => SO.from ρ (ownO ρ i) fun q => if q.2.1 ∈ cs ∧ q.2.2.length < 1000 then .nx (ρ.set i (.o q.1 q.2.1 (putN f d q.2.2))) else .bad
def eFldO (cs : List Nat) (i f : Nat) : Ev → R D := fun ρ => (ownO ρ i).bind fun q => if q.2.1 ∈ cs then optR (q.2.2.lookup f) else .bad
section
variable {X : Cx} {ca : Cn} {W : WX} {e : Expr} {fe : Ev → R D} {pos p py pos' : Pos} {i f : Nat} {y nm : Str} {cs : List Nat}
theorem own_o {K : PySem.W.Frag} {B G H : Hp} {σ : L2.St} {ρ : Ev} {i : Nat} {q : Option Addr × Nat × List (Nat × D)} (h : ownO ρ i = .ok q) (r : Rel K ca B G H σ ρ) :
    ρ[i]? = some (.o q.1 q.2.1 q.2.2) ∧ ∃ a C dx vs, σ[i]? = some (some (.ref a)) ∧ (∀ b, q.1 = some b → a = b) ∧ ca.a q.2.1 = some C ∧ H a = some (.ins C dx vs) ∧ AtF K ca G q.2.2 vs ∧ G a = none ∧ B a = none := by
  unfold ownO at h
  split at h
  · rename_i g c fs z
    cases h
    obtain ⟨a, h1, ⟨C, dx, vs, hg, h2, h3, h4⟩, h5, h6⟩ := r.own i _ z rfl
    exact ⟨z, a, C, dx, vs, h1, hg, h2, h3, h4, h5, h6⟩
  · cases h
theorem fs_fldO (hi : X.N[i]? = some y) (hf : ca.n f = nm) (hn : ∀ k, ca.n k = ca.n f → k = f) (hc : ∀ c ∈ cs, ∀ C, ca.a c = some C → Cls X.K C ∧ NoAttr X.K C nm) (h : FE X ca W e fe)
    (hv : Vis X.env.scope y := by first | exact Or.inl rfl | exact Or.inr (Or.inl rfl) | exact Or.inr (Or.inr rfl)) (hd : (y == ("__debug__" : Str)) = false := by decide) (hcd : (y == ("__classdict__" : Str)) = false := by decide)
    (hs : swapsWith e (some (.Attribute (.Name y py) nm pos')) pos.line X.env = pure false := by rfl) : FS X ca W (.Assign [.Attribute (.Name y py) nm pos'] e pos) (sFldO cs i f fe) := by
  obtain ⟨t, pp, k⟩ := h.ex
  refine ⟨_, ps_fld (pe_var hi hv hd hcd) pp hs, fun B G H σ ρ D s b r w => k B G H σ ρ _ s b r ?_⟩
  refine WishS.from w b r fun d G1 H1 _ x w1 r1 b1 v av => ?_
  cases z : ownO ρ i with
  | exc x => unfold ownO at z; split at z <;> cases z
  | bad => rw [z] at w1; exact w1.elim
  | ok q =>
    rw [z] at w1
    obtain ⟨q0, a, C, dx, vs, h1, hg, h2, h3, h4, h5, h6⟩ := own_o z r1
    have w2 : WishS X.K ca B G1 (if q.2.1 ∈ cs ∧ q.2.2.length < 1000 then .nx (ρ.set i (.o q.1 q.2.1 (putN f d q.2.2))) else .bad) D W := w1
    split at w2
    · rename_i hm
      have l := h4.length
      obtain ⟨t1, t2, t3⟩ := r1.turn x.gh b1 (t' := .o q.1 q.2.1 (putN f d q.2.2)) (o := .ins C dx (putF nm v vs)) q0 rfl rfl h1 ⟨C, dx, _, hg, h2, upd_same, hf ▸ h4.put hn av⟩
      exact ⟨_, h1, a, C, dx, vs, rfl, h3, (hc _ hm.1 C h2).1, (hc _ hm.1 C h2).2, by rw [← l]; exact hm.2, w2 _ G1 _ ⟨.refl _, t2, t3, fun c z => .inl z⟩ t1⟩
    · exact w2.elim
theorem fe_fldO (hi : X.N[i]? = some y) (hf : ca.n f = nm) (hn : ∀ k, ca.n k = ca.n f → k = f) (hc : ∀ c ∈ cs, ∀ C, ca.a c = some C → Cls X.K C ∧ NoAttr X.K C nm)
    (hv : Vis X.env.scope y := by first | exact Or.inl rfl | exact Or.inr (Or.inl rfl) | exact Or.inr (Or.inr rfl)) (hd : (y == ("__debug__" : Str)) = false := by decide) (hcd : (y == ("__classdict__" : Str)) = false := by decide)
    (hb : attributeBase (.Name y py) nm X.env (eval (.Name y py) X.env) = eval (.Name y py) X.env := by rfl) : FE X ca W (.Attribute (.Name y py) nm pos) (eFldO cs i f) := by
  refine ⟨_, pe_fld (pe_var hi hv hd hcd) hb, fun B G H σ ρ Q s b r w => ?_⟩
  unfold eFldO at w
  cases z : ownO ρ i with
  | exc x => unfold ownO at z; split at z <;> cases z
  | bad => rw [z] at w; exact w.elim
  | ok q =>
    rw [z] at w
    obtain ⟨q0, a, C, dx, vs, h1, hg, h2, h3, h4, h5, h6⟩ := own_o z r
    have w2 : Wish X.K ca (SV X.K ca Q) G H (if q.2.1 ∈ cs then optR (q.2.2.lookup f) else .bad) (WE W σ) := w
    split at w2
    · rename_i hm
      obtain ⟨d, e, w3⟩ := wish_opt' w2
      obtain ⟨v, l1, l2⟩ := h4.lookup (fun p _ q => hn _ q) e
      rw [hf] at l1
      exact ⟨_, h1, a, C, dx, vs, v, rfl, h3, (hc _ hm C h2).1, (hc _ hm C h2).2, l1, w3.here s _ l2⟩
    · exact w2.elim
end
/-! ### a new object as a value -/
def eFrz (f : Ev → R Sl) : Ev → R D := fun ρ => (f ρ).bind frzR
theorem own_frzR {s : Sl} {d : D} (h : frzR s = .ok d) : s.own = true ∧ frzS s = .v d := by
  cases s with
  | no => cases h
  | x _ => cases h
  | v _ => cases h
  | l _ => cases h; exact ⟨rfl, rfl⟩
  | k _ => cases h; exact ⟨rfl, rfl⟩
  | t _ => cases h; exact ⟨rfl, rfl⟩
  | o _ _ _ => cases h; exact ⟨rfl, rfl⟩
theorem frzR_ne {s : Sl} {x : Ex} : frzR s ≠ .exc x := by cases s <;> exact fun h => by cases h
section
variable {K : PySem.W.Frag} {ca : Cn} {G H : Hp}
theorem wish_frz {r : R Sl} {Q : VK} {W1 : XK} (h : Wish K ca (SV K ca Q) G H (r.bind frzR) W1) : Wish K ca (SN K ca H Q) G H r W1 := by
  cases r with
  | ok s =>
    have h1 : Wish K ca (SV K ca Q) G H (frzR s) W1 := h
    cases e : frzR s with
    | bad => rw [e] at h1; exact h1.elim
    | exc x => exact (frzR_ne e).elim
    | ok d =>
      rw [e] at h1
      obtain ⟨o1, o2⟩ := own_frzR e
      refine fun G' H' x => ⟨o1, fun a oa ga ha => ?_⟩
      obtain ⟨o, ho⟩ := oa.some
      have gg : Same G' (upd G' a o) := same_upd ga
      have gh : Same (upd G' a o) H' := fun c u e => by
        by_cases w : c = a
        · subst w; rw [upd_same] at e; rw [ho]; exact e
        · rw [upd_ne w] at e; exact x.gh c u e
      obtain ⟨d2, e1, e2⟩ := oa.at_ gg (show upd G' a o a = H' a by rw [upd_same, ho])
      rw [o2] at e1
      cases e1
      refine h1 (upd G' a o) H' ⟨x.hh, x.gg.trans gg, gh, fun c n => ?_⟩ (.ref a) e2
      by_cases w : c = a
      · subst w; exact .inr (.inl ha)
      · rw [upd_ne w] at n; exact x.nw c n
  | exc x => exact h
  | bad => exact h
end
theorem fe_new {X : Cx} {ca : Cn} {W : WX} {e : Expr} {f : Ev → R Sl} (h : FN X ca W e f) : FE X ca W e (eFrz f) := by
  obtain ⟨t, p, k⟩ := h.ex
  exact ⟨t, p, fun B G H σ ρ Q s b r w => k B G H σ ρ Q s b r (wish_frz w)⟩
/-! ### __init__ -/
/-- what is wanted of the fields: the instance stands at a -/
def SI (K : PySem.W.Frag) (ca : Cn) (c : Nat) (a : Addr) (Q : VK) : Hp → List (Nat × D) → Hp → Prop := fun G' fs H' => Own K ca G' H' a (.o (some a) c fs) → G' a = none → Q .non H'
def spI (K : PySem.W.Frag) (ca : Cn) (c n : Nat) (F : Addr → List D → R (List (Nat × D))) : Sp := fun vs H Q E => vs.length = n ∧ ∃ B G ds a C dx us, vs = .ref a :: us ∧ ca.a c = some C ∧ H a = some (.ins C dx []) ∧ B a = none ∧ Same B H ∧ Same G B ∧ AtL K ca G ds us ∧ Wish K ca (SI K ca c a Q) G B (F a ds) E
def SO.outI (a : Addr) (c : Nat) : SO → R (List (Nat × D))
  | .nx ρ => (match ρ with
    | .o g c' fs :: _ => if g = some a ∧ c' = c then .ok fs else .bad
    | _ => .bad)
  | .ex x _ => .exc x
  | _ => .bad
def startI (a : Addr) (c n : Nat) (ds : List D) : Ev := .o (some a) c [] :: (ds.map Sl.v ++ List.replicate (n - ds.length - 1) .no)
def runI (c n : Nat) (g : Ev → SO) : Addr → List D → R (List (Nat × D)) := fun a ds => (g (startI a c n ds)).outI a c
theorem rel_startI {K : PySem.W.Frag} {ca : Cn} {B G H : Hp} {N : List Str} {ds : List D} {us : List V} {c : Nat} {a C : Addr} {dx : Addr} (hN : ds.length < N.length) (at_ : AtL K ca G ds us) (hc : ca.a c = some C) (ha : H a = some (.ins C dx [])) (ga : G a = none) (ba : B a = none) :
    Rel K ca B G H (L2.start N (.ref a :: us)) (startI a c N.length ds) := by
  have l := at_.length
  have own : ∀ {i : Nat} {s : Sl}, (startI a c N.length ds)[i]? = some s → s.own = true → i = 0 ∧ s = .o (some a) c [] := fun {i s} e o => by
    cases i with
    | zero => exact ⟨rfl, (Option.some.inj e).symm⟩
    | succ i => exact (own_start (ds := ds) (i := i) (n := N.length - ds.length - 1) (by simpa [startI] using e) o).elim
  refine ⟨?_, fun i d e => ?_, fun i s e o => ?_, fun i j s t x e o e2 o2 _ _ => ?_, fun i x e => ?_⟩
  rotate_left 4
  · cases i with
    | zero => cases e
    | succ i => exact (ex_start (ds := ds) (i := i) (n := N.length - ds.length - 1) (by simpa [startI] using e)).elim
  · unfold L2.start startI
    simp only [List.length_cons, List.length_append, List.length_map, List.length_replicate]
    omega
  · cases i with
    | zero => cases e
    | succ i =>
      have e' : (ds.map Sl.v ++ List.replicate (N.length - ds.length - 1) Sl.no)[i]? = some (.v d) := by simpa [startI] using e
      obtain ⟨v, h1, h2⟩ := vals_start at_ e'
      refine ⟨v, ?_, h2⟩
      show ((V.ref a :: us).map some ++ List.replicate (N.length - (V.ref a :: us).length) none)[i + 1]? = _
      rw [List.map_cons, List.cons_append, List.getElem?_cons_succ, List.length_cons, ← l, show N.length - (ds.length + 1) = N.length - ds.length - 1 by omega]
      exact h1
  · obtain ⟨rfl, rfl⟩ := own e o
    exact ⟨a, rfl, ⟨C, dx, [], fun b e => Option.some.inj e, hc, ha, rfl⟩, ga, ba⟩
  · rw [(own e o).1, (own e2 o2).1]
section
variable {P : Program} {w : World} {K : PySem.W.Frag} {mg : Str → Option Value} {base : Heap} {ca : Cn}
theorem body_okI {X : Cx} {W : WX} {body : List Stmt} {g : Ev → SO} {H B : Hp} {us : List V} {ds : List D} {G : Hp} {Q : VK} {E : XK} {N : List Str} {c : Nat} {a C dx : Addr} (hK : X.K = K) (h : FSs X ca W body g) (hW : ∀ c d σ H', E c d H' → W c d σ H')
    (hN : ds.length < N.length) (hc : ca.a c = some C) (ha : H a = some (.ins C dx [])) (hb : B a = none) (s1 : Same B H) (s2 : Same G B) (at_ : AtL K ca G ds us) (q : Wish K ca (SI K ca c a Q) G B (runI c N.length g a ds) E) :
    ∃ t, PSs X body t ∧ t { nx := fun _ H' => Q .non H', rt := Q } (L2.start N (.ref a :: us)) H := by
  subst hK
  obtain ⟨t, p, k⟩ := h.ex
  have ga := same_none s2 hb
  refine ⟨t, p, k B G H _ (startI a c N.length ds) _ (s2.trans s1) s1 (rel_startI hN at_ hc ha ga hb) ?_⟩
  unfold runI at q
  have up : ∀ {G' H' : Hp}, Adv B G G' H' → Ext G B G' H' := fun x => ⟨x.bh, x.gg, x.gh, x.nw⟩
  have z0 : (L2.start N (.ref a :: us))[0]? = some (some (.ref a)) := rfl
  cases z : g (startI a c N.length ds) with
  | nx ρ =>
    rw [z] at q
    intro σ' G' H' x r
    cases ρ with
    | nil => exact q.elim
    | cons s0 ρ =>
      cases s0 with
      | o g0 c' fs =>
        have q2 : Wish X.K ca (SI X.K ca c a Q) G B (if g0 = some a ∧ c' = c then .ok fs else .bad) E := q
        split at q2
        · rename_i ec
          obtain ⟨rfl, rfl⟩ := ec
          obtain ⟨a', h1, h2, h3, h4⟩ := r.own 0 _ rfl rfl
          obtain ⟨C', dx', vs', hg, h5⟩ := id h2
          have ea := hg a rfl
          subst ea
          exact q2 G' H' (up x) h2 h3
        · exact q2.elim
      | _ => exact q.elim
  | ex x ρ => rw [z] at q; exact fun σ' G' H' c dx y r e => hW _ _ _ _ (q G' H' c dx (up y) e)
  | ro sl => rw [z] at q; exact q.elim
  | rt d => rw [z] at q; exact q.elim
  | bk ρ => rw [z] at q; exact q.elim
  | ct ρ => rw [z] at q; exact q.elim
  | bad => rw [z] at q; exact q.elim
theorem fn_okI {x qual : Str} {params : Arguments} {body : List Stmt} {scope : Scope} {dvs : List V} {kws : List (Str × V)} {f : Addr} {fd : FuncData} {N ps : List Str} {k c : Nat} {g : Ev → SO} (F : FunD K x qual params body scope dvs kws f fd) (S : FnScope N ps scope) (hN : ps.length ≤ N.length)
    (hb : ∀ (cdv : Value) (A : Around) (outer : List Env) (s : Shared) (H : Hp) (E : XK), Room k (A.deeper (envOfC qual scope s.heap.objs.size f cdv)) →
      FSs (cxOf (L2.CX P w) P w K mg base N qual scope f cdv A outer s H E) ca (fun c d _ H' => E c d H') body g) : FnOk P w K mg base (L2.CX P w) (k + 1) f fd ps (spI K ca c ps.length (runI c N.length g)) :=
  F.ok S (fun vs H Q E h => h.1) fun cdv A outer s H vs Q E hr h => by
    obtain ⟨l, B, G, ds, a, C, dx, us, rfl, hc, ha, hb', s1, s2, at_, q⟩ := h
    have l2 := at_.length
    have l3 : us.length + 1 = ps.length := l
    exact body_okI rfl (hb cdv A outer s H E hr) (fun _ _ _ _ z => z) (by omega) hc ha hb' s1 s2 at_ q
/-- an __init__ as it stands behind the top; dd: its defaults, objects of the module among them -/
structure FDI (K : PySem.W.Frag) (qual : Str) (st : Stmt) (dd : List D) (kd : List (Str × D)) (f : Addr) (fd : FuncData) : Prop where
  ex : ∃ dvs, FunD K "__init__" qual (defArgs st) (defBody st) (defScope st) dvs (kwV kd) f fd ∧ ∀ ca G, AtL K ca G dd dvs
theorem FDI.of_flat {K : PySem.W.Frag} {qual : Str} {st : Stmt} {dd : List D} {kd : List (Str × D)} {f : Addr} {fd : FuncData} (F : FD K "__init__" qual st dd kd f fd) (h : dd.all flatD = true) : FDI K qual st dd kd f fd := ⟨_, F, fun ca G => flats_at h⟩
theorem FDI.fd {K : PySem.W.Frag} {qual : Str} {st : Stmt} {kd : List (Str × D)} {f : Addr} {fd : FuncData} (F : FDI K qual st [] kd f fd) : FD K "__init__" qual st [] kd f fd := by
  obtain ⟨dvs, h, a⟩ := F.ex
  have := a ⟨fun _ => none, fun _ => Str.empty, fun _ _ _ => False⟩ (fun _ => none)
  cases this
  exact h
/-- a class's __init__ -/
structure DefI (P : Program) (w : World) (K : PySem.W.Frag) (mg : Str → Option Value) (base : Heap) (ca : Cn) (k c : Nat) (x qual : Str) (st : Stmt) (dd : List D) (kd : List (Str × D)) (ps : List Str) (F : Addr → List D → R (List (Nat × D))) : Prop where
  ex : ∃ f fd C, FnOk P w K mg base (L2.CX P w) k f fd ps (spI K ca c ps.length F) ∧ Mk K C f ∧ ca.a c = some C ∧ mg x = some (.ref C) ∧ FDI K qual st dd kd f fd
/-- a class that makes instances; its __init__ -/
structure ClAt (K : PySem.W.Frag) (mg : Str → Option Value) (ca : Cn) (c : Nat) (x qual : Str) (st : Stmt) (dd : List D) (kd : List (Str × D)) : Prop where
  ex : ∃ f fd C, FDI K qual st dd kd f fd ∧ Mk K C f ∧ ca.a c = some C ∧ mg x = some (.ref C)
variable {x qual : Str} {st : Stmt} {dd : List D} {kd : List (Str × D)} {ps N : List Str} {k c : Nat} {g : Ev → SO}
theorem DefI.of (h : ClAt K mg ca c x qual st dd kd) (S : FnScope N ps (defScope st)) (hN : ps.length ≤ N.length) (hb : ∀ (f : Addr) (cdv : Value) (A : Around) (outer : List Env) (s : Shared) (H : Hp) (E : XK), Room k (A.deeper (envOfC qual (defScope st) s.heap.objs.size f cdv)) →
      FSs (cxOf (L2.CX P w) P w K mg base N qual (defScope st) f cdv A outer s H E) ca (fun c d _ H' => E c d H') (defBody st) g) : DefI P w K mg base ca (k + 1) c x qual st dd kd ps (runI c N.length g) := by
  obtain ⟨f, fd, C, F, h1, h2, h3⟩ := h.ex
  obtain ⟨dvs, F1, _⟩ := F.ex
  exact ⟨f, fd, C, fn_okI F1 S hN (hb f), h1, h2, h3, F⟩
end
/-- a result that leans on no address -/
noncomputable def unA {α : Type} (F : Addr → R α) : R α := by
  classical exact if ∀ a, F a = F 0 then F 0 else .bad
theorem unA_eq {α : Type} {F : Addr → R α} {r : R α} (h : ∀ a, F a = r) : unA F = r := by
  classical
  unfold unA
  rw [if_pos (fun a => (h a).trans (h 0).symm), h 0]
theorem unA_at {α : Type} {F : Addr → R α} (a : Addr) : F a = unA F ∨ unA F = .bad := by
  classical
  unfold unA
  by_cases h : ∀ a, F a = F 0
  · rw [if_pos h]; exact .inl (h a)
  · rw [if_neg h]; exact .inr rfl
noncomputable def nMake (c n : Nat) (F : Addr → List D → R (List (Nat × D))) (fa : Ev → R (List D)) : Ev → R Sl := fun ρ => (fa ρ).bind fun ds => if ds.length + 1 = n then (unA fun a => F a ds).bind fun fs => .ok (.o none c fs) else .bad
/-- how a call with keywords lays its values behind self -/
structure KBI (K : PySem.W.Frag) (ca : Cn) (fd : FuncData) (ps : List Str) (n : Nat) (ks : List Str) (gD : List D → List D → List D) : Prop where
  ex : ∃ g gV, KBn K fd ps (n + 1) ks g gV ∧ ∀ x vs zs, ∃ us, gV (x :: vs) zs = x :: us ∧ ∀ G ds ws, AtL K ca G ds vs → AtL K ca G ws zs → AtL K ca G (gD ds ws) us
noncomputable def nMakeK (c n m p : Nat) (F : Addr → List D → R (List (Nat × D))) (gD : List D → List D → List D) (fa fk : Ev → R (List D)) : Ev → R Sl := fun ρ => (fa ρ).bind fun ds => (fk ρ).bind fun zs => if ds.length = n ∧ zs.length = m ∧ (gD ds zs).length + 1 = p then (unA fun a => F a (gD ds zs)).bind fun fs => .ok (.o none c fs) else .bad
section
variable {X : Cx} {ca : Cn} {W : WX} {k j c n : Nat} {x qual : Str} {st : Stmt} {dd : List D} {kd : List (Str × D)} {ps ks : List Str} {Fn : Addr → List D → R (List (Nat × D))} {p pos : Pos} {e : Expr} {es : List Expr} {kws : List Keyword} {fa fk : Ev → R (List D)} {gD : List D → List D → List D}
/-- the wish of a new instance gives the promise of its __init__ -/
theorem make_wish {K : PySem.W.Frag} {ca : Cn} {c np : Nat} {Fn : Addr → List D → R (List (Nat × D))} {G1 H1 H0 : Hp} {ds : List D} {vs : List V} {Q : VK} {E : XK} {C : Addr} (hc : ca.a c = some C) (h0 : Same H0 H1) (sg : Same G1 H1) (a1 : AtL K ca G1 ds vs) (hl : ds.length + 1 = np)
    (w1 : Wish K ca (SN K ca H0 Q) G1 H1 ((unA fun a => Fn a ds).bind fun fs => .ok (.o none c fs)) E) {a dx : Addr} (n1 : H1 a = none) (n2 : H1 dx = none) (ne : dx ≠ a) :
    spI K ca c np Fn (.ref a :: vs) (upd (upd H1 dx (.own a)) a (.ins C dx [])) (fun v H2 => v = .non ∧ Q (.ref a) H2) E := by
  refine ⟨by rw [List.length_cons, ← a1.length]; exact hl, H1, G1, ds, a, C, dx, vs, rfl, hc, upd_same, n1, (same_upd n2).trans (same_upd (by rw [upd_ne (Ne.symm ne)]; exact n1)), sg, a1, ?_⟩
  rcases unA_at (F := fun a => Fn a ds) a with q | q
  · have q : Fn a ds = unA fun a => Fn a ds := q
    rw [q]
    cases z : unA fun a => Fn a ds with
    | ok fs =>
      rw [z] at w1
      refine fun G' H' y oa ga => ⟨rfl, ?_⟩
      obtain ⟨C', dx', vs', hg, h5⟩ := id oa
      exact (w1 G' H' y).2 a ⟨C', dx', vs', (fun b e => by cases e), h5⟩ ga (same_none h0 n1)
    | exc x => rw [z] at w1; exact w1
    | bad => rw [z] at w1; exact w1.elim
  · have q : (unA fun a => Fn a ds) = .bad := q
    rw [q] at w1; exact w1.elim
theorem run_makeS {pins : List (Addr × Obj)} {σ : L2.St} {H : Hp} {s : Shared} {Q : VK} {us : List Value} {vs : List V} {f C : Addr} {fd : FuncData} {sp : Sp} {E : XK} (M : Mk X.K C f) (F : FnOk X.prog X.w X.K X.mg X.base (L2.CX X.prog X.w) k f fd ps sp) (hr : Room (k + 1) X.A) (hb : Binds X.K fd ps [])
    (hx : PassesAt (L2.CX X.prog X.w) X σ E) (I : Inv X pins σ H s) (r : Vals vs us)
    (h : ∀ x dx, H x = none → H dx = none → dx ≠ x → sp (.ref x :: vs) (upd (upd H dx (.own x)) x (.ins C dx [])) (fun v H2 => v = .non ∧ Q (.ref x) H2) E) :
    wpAny (model X.prog X.w) X.A (call (.ref C) us) (EP X pins σ Q) X.xe s := by
  have hq := h (s.heap.objs.size + 1) s.heap.objs.size (I.hok.fresh (Nat.le_succ _)) (I.hok.fresh (Nat.le_refl _)) (Nat.ne_of_lt (Nat.lt_succ_self _))
  have I2 := Inv.made (C := C) I
  have r2 : Vals (V.ref (s.heap.objs.size + 1) :: vs) (Value.ref (s.heap.objs.size + 1) :: us) := .cons rfl r
  have hl : (Value.ref (s.heap.objs.size + 1) :: us).length = ps.length := by
    have e := r2.length
    rw [F.len _ _ _ _ hq] at e
    exact e.symm
  have bt := hb _ (Value.ref (s.heap.objs.size + 1) :: us) I2.kIn (by rw [List.append_nil]; exact hl)
  rw [List.append_nil] at bt
  refine wpAny_call (make_map (f := f) I.kIn M.makes M.init (beq_iff_eq.mp M.fn) (codeAny_mono (F.run _ X.stack _ _ ⟨Value.ref (s.heap.objs.size + 1) :: us, []⟩ (Value.ref (s.heap.objs.size + 1) :: us) _ _ E (hr.make C us [])
    (I2.env0.make C us []) bt r2 hq) fun r s' hq' => ?_))
  cases r with
  | error e => exact hx pins _ _ e s' I2 hq'
  | ok fl =>
    cases fl with
    | ret u =>
      obtain ⟨v, H', I3, rv, ev, q3⟩ := I2.after hq'
      subst ev
      exact ⟨rv, ⟨V.ref (s.heap.objs.size + 1), H', I3, rfl, q3⟩⟩
    | next => exact False.elim hq'
    | brk => exact False.elim hq'
    | cont => exact False.elim hq'
theorem run_makeKS {pins : List (Addr × Obj)} {σ : L2.St} {H : Hp} {s : Shared} {Q : VK} {us ws : List Value} {vs zs : List V} {f C : Addr} {fd : FuncData} {sp : Sp} {E : XK} {g : List Value → List Value → List Value} {gV : List V → List V → List V} (M : Mk X.K C f) (F : FnOk X.prog X.w X.K X.mg X.base (L2.CX X.prog X.w) k f fd ps sp) (hr : Room (k + 1) X.A) (hb : KBn X.K fd ps (n + 1) ks g gV)
    (hx : PassesAt (L2.CX X.prog X.w) X σ E) (I : Inv X pins σ H s) (r : Vals vs us) (rz : Vals zs ws) (l1 : vs.length = n) (l2 : zs.length = ks.length)
    (h : ∀ x dx, H x = none → H dx = none → dx ≠ x → sp (gV (.ref x :: vs) zs) (upd (upd H dx (.own x)) x (.ins C dx [])) (fun v H2 => v = .non ∧ Q (.ref x) H2) E) :
    wpAny (model X.prog X.w) X.A (call (.ref C) us (ks.zip ws)) (EP X pins σ Q) X.xe s := by
  have hq := h (s.heap.objs.size + 1) s.heap.objs.size (I.hok.fresh (Nat.le_succ _)) (I.hok.fresh (Nat.le_refl _)) (Nat.ne_of_lt (Nat.lt_succ_self _))
  have I2 := Inv.made (C := C) I
  have r1 : Vals (V.ref (s.heap.objs.size + 1) :: vs) (Value.ref (s.heap.objs.size + 1) :: us) := .cons rfl r
  have r2 := hb.rel r1 rz
  have e1 : (Value.ref (s.heap.objs.size + 1) :: us).length = n + 1 := r1.length.symm.trans (congrArg Nat.succ l1)
  have e2 : ws.length = ks.length := rz.length.symm.trans l2
  refine wpAny_call (make_map (f := f) I.kIn M.makes M.init (beq_iff_eq.mp M.fn) (codeAny_mono (F.run _ X.stack _ _ ⟨Value.ref (s.heap.objs.size + 1) :: us, ks.zip ws⟩ (g (Value.ref (s.heap.objs.size + 1) :: us) ws) _ _ E (hr.make C us (ks.zip ws))
    (I2.env0.make C us (ks.zip ws)) (hb.to _ (Value.ref (s.heap.objs.size + 1) :: us) ws I2.kIn e1 e2) r2 hq) fun r s' hq' => ?_))
  cases r with
  | error e => exact hx pins _ _ e s' I2 hq'
  | ok fl =>
    cases fl with
    | ret u =>
      obtain ⟨v, H', I3, rv, ev, q3⟩ := I2.after hq'
      subst ev
      exact ⟨rv, ⟨V.ref (s.heap.objs.size + 1), H', I3, rfl, q3⟩⟩
    | next => exact False.elim hq'
    | brk => exact False.elim hq'
    | cont => exact False.elim hq'
theorem fn_make (d : DefI X.prog X.w X.K X.mg X.base ca k c x qual st dd kd ps Fn) (hb : ∀ {f fd}, FDI X.K qual st dd kd f fd → Binds X.K fd ps []) (hr : Room j X.A) (tk : Takes X W) (ha : FA X ca W (e :: es) fa) (hk : k + 1 ≤ j := by decide) (hg : Gl X x := by rfl) (hdb : (x == ("__debug__" : Str)) = false := by decide)
    (he : starEach (e :: es) X.env = (false, eval e X.env) :: starEach es X.env := by rfl) (hpl : (backTo pos (starEach es X.env)).any (·.1) = false := by rfl) : FN X ca W (.Call (.Name x p) (e :: es) [] pos) (nMake c ps.length Fn fa) := by
  obtain ⟨f, fd, C, F, M, hc, hm, h2⟩ := d.ex
  obtain ⟨t, pa, kt⟩ := ha.ex
  refine ⟨fun σ H Q => t σ H fun vs H1 => ∀ a dx, H1 a = none → H1 dx = none → dx ≠ a → spI X.K ca c ps.length Fn (.ref a :: vs) (upd (upd H1 dx (.own a)) a (.ins C dx [])) (fun v H2 => v = .non ∧ Q (.ref a) H2) (WE W σ), ⟨fun pins s σ H Q I h => ?_⟩, fun B G H σ ρ Q s b r h => ?_⟩
  · refine wpAny_Call_Name_kw (ld_glob I hg hm ?_ hdb)
    refine PySem.W.callWith_K (h₀ := X.base) I.ok.mod.kin M.kp (thn (pa.run pos pins s σ H _ I h) fun us s1 ⟨vs, H1, I1, r, q⟩ => ⟨I1.kIn, ?_⟩) he hpl
    exact run_makeS M F (hr.mono hk) (hb h2) (passAt tk σ) I1 r q
  · refine kt B G H σ ρ _ s b r (Wish.bind h fun ds G1 H1 _ x1 w1 vs a1 => ?_)
    intro a dx n1 n2 ne
    split at w1
    · rename_i hl
      exact make_wish hc x1.hh x1.gh a1 hl w1 n1 n2 ne
    · exact w1.elim
/-- C(e, .., k = v, ..) -/
theorem fn_makeK (d : DefI X.prog X.w X.K X.mg X.base ca k c x qual st dd kd ps Fn) (hb : ∀ {f fd}, FDI X.K qual st dd kd f fd → KBI X.K ca fd ps n ks gD) (hr : Room j X.A) (tk : Takes X W) (ha : FA X ca W (e :: es) fa) (hkw : FK X ca W kws fk) (hk : k + 1 ≤ j := by decide) (hg : Gl X x := by rfl)
    (hall : (backToKw pos (keywordEach kws X.env)).all (·.1.isSome) = true := by rfl) (hks : (backToKw pos (keywordEach kws X.env)).filterMap (·.1) = ks := by rfl) (hdb : (x == ("__debug__" : Str)) = false := by decide)
    (he : starEach (e :: es) X.env = (false, eval e X.env) :: starEach es X.env := by rfl) (hpl : ((backTo pos (starEach (e :: es) X.env)).any (·.1) || (backToKw pos (keywordEach kws X.env)).any (·.1.isNone)) = false := by rfl) :
    FN X ca W (.Call (.Name x p) (e :: es) kws pos) (nMakeK c n ks.length ps.length Fn gD fa fk) := by
  obtain ⟨f, fd, C, F, M, hc, hm, h2⟩ := d.ex
  obtain ⟨t, pa, kt⟩ := ha.ex
  obtain ⟨u, pk, ku⟩ := hkw.ex
  obtain ⟨g, gV, hbn, hgd⟩ := (hb h2).ex
  refine ⟨fun σ H Q => t σ H fun vs H1 => u σ H1 fun zs H2 => vs.length = n ∧ zs.length = ks.length ∧ ∀ a dx, H2 a = none → H2 dx = none → dx ≠ a → spI X.K ca c ps.length Fn (gV (.ref a :: vs) zs) (upd (upd H2 dx (.own a)) a (.ins C dx [])) (fun v H3 => v = .non ∧ Q (.ref a) H3) (WE W σ), ⟨fun pins s σ H Q I h => ?_⟩, fun B G H σ ρ Q s b r h => ?_⟩
  · refine wpAny_Call_Name_kw (ld_glob I hg hm ?_ hdb)
    refine PySem.W.callWith_KW (h₀ := X.base) I.ok.mod.kin M.kp hall (thn (pa.run pos pins s σ H _ I h) fun us s1 ⟨vs, H1, I1, r1, q1⟩ => ?_) hpl he
    refine thn (pk.run pos pins s1 σ H1 _ I1 q1) fun ws s2 ⟨zs, H2, I2, r2, l1, l2, q2⟩ => ⟨I2.kIn, ?_⟩
    rw [hks]
    exact run_makeKS M F (hr.mono hk) hbn (passAt tk σ) I2 r1 r2 l1 l2 q2
  · refine kt B G H σ ρ _ s b r (Wish.bind h fun ds G1 H1 _ x1 w1 vs a1 => ?_)
    refine ku B G1 H1 σ ρ _ x1.gh (b.trans x1.hh) (r.ext x1) (Wish.bind w1 fun zs G2 H2 _ x2 w2 ws a2 => ?_)
    split at w2
    · rename_i hl
      refine ⟨by rw [← a1.length]; exact hl.1, by rw [← a2.length]; exact hl.2.1, fun a dx n1 n2 ne => ?_⟩
      obtain ⟨us, e, au⟩ := hgd (.ref a) vs ws
      rw [e]
      exact make_wish hc (x1.hh.trans x2.hh) x2.gh (au G2 ds zs (AtL.mono x2.gg a1) a2) hl.2.2 w2 n1 n2 ne
    · exact w2.elim
/-- C(k = v, ..) -/
theorem fn_makeK0 (d : DefI X.prog X.w X.K X.mg X.base ca k c x qual st dd kd ps Fn) (hb : ∀ {f fd}, FDI X.K qual st dd kd f fd → KBI X.K ca fd ps 0 ks gD) (hr : Room j X.A) (tk : Takes X W) (hkw : FK X ca W kws fk) (hk : k + 1 ≤ j := by decide) (hg : Gl X x := by rfl)
    (hall : (backToKw pos (keywordEach kws X.env)).all (·.1.isSome) = true := by rfl) (hks : (backToKw pos (keywordEach kws X.env)).filterMap (·.1) = ks := by rfl) (hdb : (x == ("__debug__" : Str)) = false := by decide)
    (hpl : ((backTo pos (starEach [] X.env)).any (·.1) || (backToKw pos (keywordEach kws X.env)).any (·.1.isNone)) = false := by rfl) :
    FN X ca W (.Call (.Name x p) [] kws pos) (nMakeK c 0 ks.length ps.length Fn gD aN fk) := by
  obtain ⟨f, fd, C, F, M, hc, hm, h2⟩ := d.ex
  obtain ⟨u, pk, ku⟩ := hkw.ex
  obtain ⟨g, gV, hbn, hgd⟩ := (hb h2).ex
  refine ⟨fun σ H Q => u σ H fun zs H2 => zs.length = ks.length ∧ ∀ a dx, H2 a = none → H2 dx = none → dx ≠ a → spI X.K ca c ps.length Fn (gV [.ref a] zs) (upd (upd H2 dx (.own a)) a (.ins C dx [])) (fun v H3 => v = .non ∧ Q (.ref a) H3) (WE W σ), ⟨fun pins s σ H Q I h => ?_⟩, fun B G H σ ρ Q s b r h => ?_⟩
  · refine wpAny_Call_Name_kw (ld_glob I hg hm ?_ hdb)
    refine PySem.W.callWith_KW0 (h₀ := X.base) I.ok.mod.kin M.kp hall (thn (pk.run pos pins s σ H _ I h) fun ws s2 ⟨zs, H2, I2, r2, l2, q2⟩ => ⟨I2.kIn, ?_⟩) hpl
    rw [hks]
    exact run_makeKS (us := []) (vs := []) M F (hr.mono hk) hbn (passAt tk σ) I2 .nil r2 rfl l2 q2
  · refine ku B G H σ ρ _ s b r (Wish.bind (show Wish X.K ca (SN X.K ca H Q) G H ((fk ρ).bind fun zs => if ([] : List D).length = 0 ∧ zs.length = ks.length ∧ (gD [] zs).length + 1 = ps.length then (unA fun a => Fn a (gD [] zs)).bind fun fs => .ok (.o none c fs) else .bad) (WE W σ) from h) fun zs G2 H2 _ x2 w2 ws a2 => ?_)
    split at w2
    · rename_i hl
      refine ⟨by rw [← a2.length]; exact hl.2.1, fun a dx n1 n2 ne => ?_⟩
      obtain ⟨us, e, au⟩ := hgd (.ref a) [] ws
      rw [e]
      exact make_wish hc x2.hh x2.gh (au G2 [] zs rfl a2) hl.2.2 w2 n1 n2 ne
    · exact w2.elim
end
theorem pick_shift {α : Type} (x : α) (l : List α) : ∀ is : List Nat, (∀ i ∈ is, 1 ≤ i) → pickI is (x :: l) = pickI (is.map (· - 1)) l
  | [], _ => rfl
  | i :: is, h => by
    have h1 := h i List.mem_cons_self
    obtain ⟨j, rfl⟩ : ∃ j, i = j + 1 := ⟨i - 1, by omega⟩
    have ih := pick_shift x l is fun k m => h k (List.mem_cons_of_mem _ m)
    show (match (x :: l)[j + 1]? with | some a => a :: pickI is (x :: l) | none => pickI is (x :: l)) = (match l[j + 1 - 1]? with | some a => a :: pickI (is.map (· - 1)) l | none => pickI (is.map (· - 1)) l)
    rw [List.getElem?_cons_succ, Nat.add_sub_cancel, ih]
/-- self ahead of what a call lays -/
theorem kbi_of {K : PySem.W.Frag} {ca : Cn} {fd : FuncData} {ps ks : List Str} {n : Nat} {is : List Nat} {mid : List D} {its : List Value} (hm : mid.all flatD = true) (hv : Vals (mid.map toV) its) (hp : ∀ i ∈ is, 1 ≤ i)
    (to : ∀ (s : Shared) (us ws : List Value), K.In s.heap → us.length = n + 1 → ws.length = ks.length → BindsTo s fd ⟨us, ks.zip ws⟩ (ps.zip (pickI (0 :: is) (us ++ (its ++ ws))))) : KBI K ca fd ps n ks (gDk (is.map (· - 1)) mid) := by
  refine ⟨fun us ws => pickI (0 :: is) (us ++ (its ++ ws)), fun vs zs => pickI (0 :: is) (vs ++ (mid.map toV ++ zs)), ⟨to, fun r1 r2 => pick_vals (r1.append (hv.append r2)) (0 :: is)⟩, fun x vs zs => ⟨pickI (is.map (· - 1)) (vs ++ (mid.map toV ++ zs)), ?_, fun G ds ws a b => pick_at (a.append ((flats_at hm).append b)) _⟩⟩
  show (match (x :: (vs ++ (mid.map toV ++ zs)))[0]? with | some a => a :: pickI is (x :: (vs ++ (mid.map toV ++ zs))) | none => pickI is (x :: (vs ++ (mid.map toV ++ zs)))) = _
  rw [List.getElem?_cons_zero, pick_shift x _ is hp]
/-- a KB whose first place is the first written value -/
theorem KB.init {K : PySem.W.Frag} {fd : FuncData} {ps ks : List Str} {n : Nat} {is : List Nat} {mid : List D} (hm : mid.all flatD = true) (hp : ∀ i ∈ is, 1 ≤ i)
    (h : ∃ its : List Value, Vals (mid.map toV) its ∧ ∀ (s : Shared) (us ws : List Value), K.In s.heap → us.length = n + 1 → ws.length = ks.length → BindsTo s fd ⟨us, ks.zip ws⟩ (ps.zip (pickI (0 :: is) (us ++ (its ++ ws))))) {ca : Cn} : KBI K ca fd ps n ks (gDk (is.map (· - 1)) mid) := by
  obtain ⟨its, hv, to⟩ := h
  exact kbi_of hm hv hp to
/-! ### methods -/
structure MeAt (K : PySem.W.Frag) (ca : Cn) (c : Nat) (m qual : Str) (st : Stmt) (dd : List D) (kd : List (Str × D)) : Prop where
  ex : ∃ f fd C, FD K m qual st dd kd f fd ∧ ca.a c = some C ∧ Cls K C ∧ Meth K C m f
structure DefM (P : Program) (w : World) (K : PySem.W.Frag) (mg : Str → Option Value) (base : Heap) (ca : Cn) (k c : Nat) (m qual : Str) (st : Stmt) (dd : List D) (kd : List (Str × D)) (ps : List Str) (F : List D → R D) : Prop where
  ex : ∃ f fd C, FnOk P w K mg base (L2.CX P w) k f fd ps (spF K ca ps.length F) ∧ ca.a c = some C ∧ Cls K C ∧ Meth K C m f ∧ FD K m qual st dd kd f fd
section
variable {P : Program} {w : World} {K : PySem.W.Frag} {mg : Str → Option Value} {base : Heap} {ca : Cn} {m qual : Str} {st : Stmt} {dd : List D} {kd : List (Str × D)} {ps N : List Str} {k c : Nat} {g : Ev → SO}
theorem DefM.of (h : MeAt K ca c m qual st dd kd) (S : FnScope N ps (defScope st)) (hb : ∀ (f : Addr) (cdv : Value) (A : Around) (outer : List Env) (s : Shared) (H : Hp) (E : XK), Room k (A.deeper (envOfC qual (defScope st) s.heap.objs.size f cdv)) →
      FSs (cxOf (L2.CX P w) P w K mg base N qual (defScope st) f cdv A outer s H E) ca (fun c d _ H' => E c d H') (defBody st) g) : DefM P w K mg base ca (k + 1) c m qual st dd kd ps (runF N.length g) := by
  obtain ⟨f, fd, C, F, h1, h2, h3⟩ := h.ex
  exact ⟨f, fd, C, fn_okD F S (hb f), h1, h2, h3, F⟩
end
/-- an instance of the class c whose attributes are among the first nf names -/
def insB (c nf : Nat) : D → Bool
  | .ins c' fs => decide (c' = c) && fs.all fun p => decide (p.1 < nf)
  | _ => false
def eMeth (c nf n : Nat) (F : List D → R D) (fo : Ev → R D) (fa : Ev → R (List D)) : Ev → R D := fun ρ => (fo ρ).bind fun d => if insB c nf d = true then (fa ρ).bind fun ds => if ds.length + 1 = n then F (d :: ds) else .bad else .bad
def eMethK (c nf n m p : Nat) (F : List D → R D) (gD : List D → List D → List D) (fo : Ev → R D) (fa fk : Ev → R (List D)) : Ev → R D := fun ρ => (fo ρ).bind fun d => if insB c nf d = true then (fa ρ).bind fun ds => (fk ρ).bind fun zs => if ds.length = n ∧ zs.length = m ∧ (gD ds zs).length + 1 = p then F (d :: gD ds zs) else .bad else .bad
section
variable {X : Cx} {ca : Cn} {W : WX} {k j c nf n : Nat} {m qual : Str} {st : Stmt} {dd : List D} {kd : List (Str × D)} {ps ks : List Str} {Fn : List D → R D} {apos pos : Pos} {o e : Expr} {es : List Expr} {kws : List Keyword} {fo : Ev → R D} {fa fk : Ev → R (List D)} {gD : List D → List D → List D}
theorem ins_at {K : PySem.W.Frag} {ca : Cn} {G : Hp} {c nf : Nat} {d : D} {v : V} {m : Str} {C : Addr} (hc : ca.a c = some C) (hm : ∀ k, k < nf → ca.n k ≠ m) (h : insB c nf d = true) (a : At K ca G d v) : ∃ p dx vs, v = .ref p ∧ G p = some (.ins C dx vs) ∧ vs.lookup m = none := by
  cases d with
  | ins c' fs =>
    obtain ⟨h1, h2⟩ := Bool.and_eq_true_iff.mp (show (decide (c' = c) && fs.all fun p => decide (p.1 < nf)) = true from h)
    have e : c' = c := of_decide_eq_true h1
    subst e
    obtain ⟨p, C', dx, vs, rfl, q1, q2, q3⟩ := a
    rw [hc] at q1
    cases q1
    exact ⟨p, dx, vs, rfl, q2, q3.lookup_none fun p mp => hm _ (of_decide_eq_true (List.all_eq_true.mp h2 p mp))⟩
  | _ => cases h
/-- o.m(e, ..) -/
theorem fe_meth {pl : Sem Bool} (d : DefM X.prog X.w X.K X.mg X.base ca k c m qual st dd kd ps Fn) (hmn : ∀ k, k < nf → ca.n k ≠ m) (hb : ∀ {f fd}, FD X.K m qual st dd kd f fd → Binds X.K fd ps []) (hr : Room j X.A) (tk : Takes X W) (ho : FE X ca W o fo) (ha : FA X ca W (e :: es) fa) (hk : k ≤ j := by decide)
    (he : starEach (e :: es) X.env = (false, eval e X.env) :: starEach es X.env := by rfl) (hpl : (backTo pos (starEach es X.env)).any (·.1) = false := by rfl)
    (ht : eval (.Call (.Attribute o m apos) (e :: es) [] pos) X.env = (do
      let ov ← eval o X.env
      standAt apos.atName
      let (f, first) ← holding [ov] (getMethod ov m pl)
      callWith pos f first (backTo pos (starEach (e :: es) X.env)) (backToKw pos (keywordEach [] X.env))) := by rfl) :
    FE X ca W (.Call (.Attribute o m apos) (e :: es) [] pos) (eMeth c nf ps.length Fn fo fa) := by
  obtain ⟨f, fd, C, F, hc, cl, hm, h2⟩ := d.ex
  obtain ⟨to, po, ko⟩ := ho.ex
  obtain ⟨t, pa, kt⟩ := ha.ex
  refine ⟨fun σ H Q => to σ H fun x H1 => ∃ a dx fs, x = .ref a ∧ H1 a = some (.ins C dx fs) ∧ fs.lookup m = none ∧ t σ H1 fun vs H2 => spF X.K ca ps.length Fn (x :: vs) H2 Q (WE W σ), ⟨fun pins s σ H Q I h => ?_⟩, fun B G H σ ρ Q s b r h => ?_⟩
  · refine PySem.W.methodCall_KW (pl := pl) (thn (po.run pins s σ H _ I h) fun u s1 ⟨x, H1, I1, rx, a, dx, fs, ex, ea, l, q⟩ => ?_) ht
    subst ex
    obtain rfl : u = Value.ref a := rx
    refine getmeth_ok I1 ea cl hm l ?_
    refine PySem.W.callWith_K (first := [.ref a]) (h₀ := X.base) I.ok.mod.kin hm.kp (thn (pa.run pos pins s1 σ H1 _ I1 q) fun us s2 ⟨vs, H2, I2, r, q2⟩ => ⟨I2.kIn, ?_⟩) he hpl
    exact run_fnS (us := .ref a :: us) (vs := .ref a :: vs) (E := WE W) F (hr.mono hk) (hb h2) (passAt tk σ) I2 (.cons rfl r) q2
  · refine ko B G H σ ρ _ s b r (Wish.bind h fun d G1 H1 _ x1 w1 v av => ?_)
    split at w1
    · rename_i hi
      obtain ⟨p, dx, vs, rfl, g1, l1⟩ := ins_at hc hmn hi av
      refine ⟨p, dx, vs, rfl, x1.gh _ _ g1, l1, ?_⟩
      refine kt B G1 H1 σ ρ _ x1.gh (b.trans x1.hh) (r.ext x1) (Wish.bind w1 fun ds G2 H2 _ x2 w2 ws a2 => ?_)
      split at w2
      · rename_i hl
        exact ⟨by rw [List.length_cons, ← a2.length]; exact hl, G2, d :: ds, x2.gh, ⟨_, _, rfl, At.mono x2.gg av, a2⟩, w2⟩
      · exact w2.elim
    · exact w1.elim
/-- o.m() -/
theorem fe_meth0 {pl : Sem Bool} (d : DefM X.prog X.w X.K X.mg X.base ca k c m qual st dd kd ps Fn) (hmn : ∀ k, k < nf → ca.n k ≠ m) (hb : ∀ {f fd}, FD X.K m qual st dd kd f fd → Binds X.K fd ps []) (hr : Room j X.A) (tk : Takes X W) (ho : FE X ca W o fo) (hk : k ≤ j := by decide)
    (ht : eval (.Call (.Attribute o m apos) [] [] pos) X.env = (do
      let ov ← eval o X.env
      standAt apos.atName
      let (f, first) ← holding [ov] (getMethod ov m pl)
      callWith pos f first (backTo pos (starEach [] X.env)) (backToKw pos (keywordEach [] X.env))) := by rfl) :
    FE X ca W (.Call (.Attribute o m apos) [] [] pos) (eMeth c nf ps.length Fn fo aN) := by
  obtain ⟨f, fd, C, F, hc, cl, hm, h2⟩ := d.ex
  obtain ⟨to, po, ko⟩ := ho.ex
  refine ⟨fun σ H Q => to σ H fun x H1 => ∃ a dx fs, x = .ref a ∧ H1 a = some (.ins C dx fs) ∧ fs.lookup m = none ∧ spF X.K ca ps.length Fn [x] H1 Q (WE W σ), ⟨fun pins s σ H Q I h => ?_⟩, fun B G H σ ρ Q s b r h => ?_⟩
  · refine PySem.W.methodCall_KW (pl := pl) (thn (po.run pins s σ H _ I h) fun u s1 ⟨x, H1, I1, rx, a, dx, fs, ex, ea, l, q⟩ => ?_) ht
    subst ex
    obtain rfl : u = Value.ref a := rx
    refine getmeth_ok I1 ea cl hm l ?_
    exact PySem.W.callWith_K0 (first := [.ref a]) I1.kIn hm.kp (run_fnS (us := [.ref a]) (vs := [.ref a]) (E := WE W) F (hr.mono hk) (hb h2) (passAt tk σ) I1 (.cons rfl .nil) q)
  · refine ko B G H σ ρ _ s b r (Wish.bind h fun d G1 H1 _ x1 w1 v av => ?_)
    split at w1
    · rename_i hi
      obtain ⟨p, dx, vs, rfl, g1, l1⟩ := ins_at hc hmn hi av
      refine ⟨p, dx, vs, rfl, x1.gh _ _ g1, l1, ?_⟩
      have w2 : Wish X.K ca (SV X.K ca Q) G1 H1 (if ([] : List D).length + 1 = ps.length then Fn [d] else .bad) (WE W σ) := w1
      split at w2
      · rename_i hl
        exact ⟨hl, G1, [d], x1.gh, ⟨_, _, rfl, av, rfl⟩, w2⟩
      · exact w2.elim
    · exact w1.elim
/-- o.m(e, .., k = v, ..) -/
theorem fe_methK {pl : Sem Bool} (d : DefM X.prog X.w X.K X.mg X.base ca k c m qual st dd kd ps Fn) (hmn : ∀ k, k < nf → ca.n k ≠ m) (hb : ∀ {f fd}, FD X.K m qual st dd kd f fd → KBI X.K ca fd ps n ks gD) (hr : Room j X.A) (tk : Takes X W) (ho : FE X ca W o fo) (ha : FA X ca W (e :: es) fa) (hkw : FK X ca W kws fk) (hk : k ≤ j := by decide)
    (hall : (backToKw pos (keywordEach kws X.env)).all (·.1.isSome) = true := by rfl) (hks : (backToKw pos (keywordEach kws X.env)).filterMap (·.1) = ks := by rfl)
    (he : starEach (e :: es) X.env = (false, eval e X.env) :: starEach es X.env := by rfl) (hpl : ((backTo pos (starEach (e :: es) X.env)).any (·.1) || (backToKw pos (keywordEach kws X.env)).any (·.1.isNone)) = false := by rfl)
    (ht : eval (.Call (.Attribute o m apos) (e :: es) kws pos) X.env = (do
      let ov ← eval o X.env
      standAt apos.atName
      let (f, first) ← holding [ov] (getMethod ov m pl)
      callWith pos f first (backTo pos (starEach (e :: es) X.env)) (backToKw pos (keywordEach kws X.env))) := by rfl) :
    FE X ca W (.Call (.Attribute o m apos) (e :: es) kws pos) (eMethK c nf n ks.length ps.length Fn gD fo fa fk) := by
  obtain ⟨f, fd, C, F, hc, cl, hm, h2⟩ := d.ex
  obtain ⟨to, po, ko⟩ := ho.ex
  obtain ⟨t, pa, kt⟩ := ha.ex
  obtain ⟨u, pk, ku⟩ := hkw.ex
  obtain ⟨g, gV, hbn, hgd⟩ := (hb h2).ex
  refine ⟨fun σ H Q => to σ H fun x H1 => ∃ a dx fs, x = .ref a ∧ H1 a = some (.ins C dx fs) ∧ fs.lookup m = none ∧ t σ H1 fun vs H2 => u σ H2 fun zs H3 => vs.length = n ∧ zs.length = ks.length ∧ spF X.K ca ps.length Fn (gV (x :: vs) zs) H3 Q (WE W σ), ⟨fun pins s σ H Q I h => ?_⟩, fun B G H σ ρ Q s b r h => ?_⟩
  · refine PySem.W.methodCall_KW (pl := pl) (thn (po.run pins s σ H _ I h) fun u s1 ⟨x, H1, I1, rx, a, dx, fs, ex, ea, l, q⟩ => ?_) ht
    subst ex
    obtain rfl : u = Value.ref a := rx
    refine getmeth_ok I1 ea cl hm l ?_
    refine PySem.W.callWith_KW (first := [.ref a]) (h₀ := X.base) I.ok.mod.kin hm.kp hall (thn (pa.run pos pins s1 σ H1 _ I1 q) fun us s2 ⟨vs, H2, I2, r2, q2⟩ => ?_) hpl he
    refine thn (pk.run pos pins s2 σ H2 _ I2 q2) fun ws s3 ⟨zs, H3, I3, r3, l1, l2, q3⟩ => ⟨I3.kIn, ?_⟩
    rw [hks]
    exact run_kb (us := .ref a :: us) (vs := .ref a :: vs) F (hr.mono hk) hbn (passAt tk σ) I3 (.cons rfl r2) r3 (congrArg Nat.succ l1) l2 q3
  · refine ko B G H σ ρ _ s b r (Wish.bind h fun d G1 H1 _ x1 w1 v av => ?_)
    split at w1
    · rename_i hi
      obtain ⟨p, dx, vs, rfl, g1, l1⟩ := ins_at hc hmn hi av
      refine ⟨p, dx, vs, rfl, x1.gh _ _ g1, l1, ?_⟩
      refine kt B G1 H1 σ ρ _ x1.gh (b.trans x1.hh) (r.ext x1) (Wish.bind w1 fun ds G2 H2 _ x2 w2 ws a2 => ?_)
      refine ku B G2 H2 σ ρ _ x2.gh ((b.trans x1.hh).trans x2.hh) ((r.ext x1).ext x2) (Wish.bind w2 fun zs G3 H3 _ x3 w3 us a3 => ?_)
      split at w3
      · rename_i hl
        obtain ⟨ys, e, au⟩ := hgd (.ref p) ws us
        have a4 := au G3 ds zs (AtL.mono x3.gg a2) a3
        exact ⟨by rw [← a2.length]; exact hl.1, by rw [← a3.length]; exact hl.2.1, by rw [e, List.length_cons, ← a4.length]; exact hl.2.2, G3, d :: gD ds zs, x3.gh, by rw [e]; exact ⟨_, _, rfl, At.mono (x2.gg.trans x3.gg) av, a4⟩, w3⟩
      · exact w3.elim
    · exact w1.elim
/-- o.m(k = v, ..) -/
theorem fe_methK0 {pl : Sem Bool} (d : DefM X.prog X.w X.K X.mg X.base ca k c m qual st dd kd ps Fn) (hmn : ∀ k, k < nf → ca.n k ≠ m) (hb : ∀ {f fd}, FD X.K m qual st dd kd f fd → KBI X.K ca fd ps 0 ks gD) (hr : Room j X.A) (tk : Takes X W) (ho : FE X ca W o fo) (hkw : FK X ca W kws fk) (hk : k ≤ j := by decide)
    (hall : (backToKw pos (keywordEach kws X.env)).all (·.1.isSome) = true := by rfl) (hks : (backToKw pos (keywordEach kws X.env)).filterMap (·.1) = ks := by rfl)
    (hpl : ((backTo pos (starEach [] X.env)).any (·.1) || (backToKw pos (keywordEach kws X.env)).any (·.1.isNone)) = false := by rfl)
    (ht : eval (.Call (.Attribute o m apos) [] kws pos) X.env = (do
      let ov ← eval o X.env
      standAt apos.atName
      let (f, first) ← holding [ov] (getMethod ov m pl)
      callWith pos f first (backTo pos (starEach [] X.env)) (backToKw pos (keywordEach kws X.env))) := by rfl) :
    FE X ca W (.Call (.Attribute o m apos) [] kws pos) (eMethK c nf 0 ks.length ps.length Fn gD fo aN fk) := by
  obtain ⟨f, fd, C, F, hc, cl, hm, h2⟩ := d.ex
  obtain ⟨to, po, ko⟩ := ho.ex
  obtain ⟨u, pk, ku⟩ := hkw.ex
  obtain ⟨g, gV, hbn, hgd⟩ := (hb h2).ex
  refine ⟨fun σ H Q => to σ H fun x H1 => ∃ a dx fs, x = .ref a ∧ H1 a = some (.ins C dx fs) ∧ fs.lookup m = none ∧ u σ H1 fun zs H3 => zs.length = ks.length ∧ spF X.K ca ps.length Fn (gV [x] zs) H3 Q (WE W σ), ⟨fun pins s σ H Q I h => ?_⟩, fun B G H σ ρ Q s b r h => ?_⟩
  · refine PySem.W.methodCall_KW (pl := pl) (thn (po.run pins s σ H _ I h) fun u s1 ⟨x, H1, I1, rx, a, dx, fs, ex, ea, l, q⟩ => ?_) ht
    subst ex
    obtain rfl : u = Value.ref a := rx
    refine getmeth_ok I1 ea cl hm l ?_
    refine PySem.W.callWith_KW0 (first := [.ref a]) (h₀ := X.base) I.ok.mod.kin hm.kp hall (thn (pk.run pos pins s1 σ H1 _ I1 q) fun ws s3 ⟨zs, H3, I3, r3, l2, q3⟩ => ⟨I3.kIn, ?_⟩) hpl
    rw [hks]
    exact run_kb (us := [.ref a]) (vs := [.ref a]) F (hr.mono hk) hbn (passAt tk σ) I3 (.cons rfl .nil) r3 rfl l2 q3
  · refine ko B G H σ ρ _ s b r (Wish.bind h fun d G1 H1 _ x1 w1 v av => ?_)
    split at w1
    · rename_i hi
      obtain ⟨p, dx, vs, rfl, g1, l1⟩ := ins_at hc hmn hi av
      refine ⟨p, dx, vs, rfl, x1.gh _ _ g1, l1, ?_⟩
      refine ku B G1 H1 σ ρ _ x1.gh (b.trans x1.hh) (r.ext x1) (Wish.bind (show Wish X.K ca (SV X.K ca Q) G1 H1 ((fk ρ).bind fun zs => if ([] : List D).length = 0 ∧ zs.length = ks.length ∧ (gD [] zs).length + 1 = ps.length then Fn (d :: gD [] zs) else .bad) (WE W σ) from w1) fun zs G3 H3 _ x3 w3 us a3 => ?_)
      split at w3
      · rename_i hl
        obtain ⟨ys, e, au⟩ := hgd (.ref p) [] us
        have a4 := au G3 [] zs rfl a3
        exact ⟨by rw [← a3.length]; exact hl.2.1, by rw [e, List.length_cons, ← a4.length]; exact hl.2.2, G3, d :: gD [] zs, x3.gh, by rw [e]; exact ⟨_, _, rfl, At.mono x3.gg av, a4⟩, w3⟩
      · exact w3.elim
    · exact w1.elim
end
/-! ### isinstance(x, C), C an own class -/
inductive Kd where
  | ty (n : String) | cl (c : Nat)
deriving DecidableEq
def kdD : D → Option Kd
  | .ins c _ => some (.cl c)
  | d => (tyD d).map .ty
theorem kd_ty {d : D} {k : Kd} (h : kdD d = some k) : (∃ c fs, d = .ins c fs ∧ k = .cl c) ∨ ∃ n, tyD d = some n ∧ k = .ty n := by
  cases d with
  | ins c fs => cases h; exact .inl ⟨c, fs, rfl, rfl⟩
  | _ =>
    simp only [kdD, Option.map_eq_some_iff] at h
    obtain ⟨n, n1, n2⟩ := h
    exact .inr ⟨n, n1, n2.symm⟩
def isiTab (tab : List (Kd × Bool)) (d : D) : Option Bool := (kdD d).bind fun k => (tab.find? fun p => decide (p.1 = k)).map (·.2)
def eIsi (tab : List (Kd × Bool)) (f : Ev → R D) : Ev → R D := fun ρ => (f ρ).bind fun d => (optR (isiTab tab d)).bind fun b => .ok (.bl b)
def kdV (ca : Cn) : Kd → Option Value
  | .ty n => some (.type n)
  | .cl c => (ca.a c).map Value.ref
/-- what an own class must have that its instances are asked for their class -/
structure InsTy (K : PySem.W.Frag) (C : Addr) : Prop where
  cl : Cls K C
  ha : PySem.W.findIn K (.ref C) "__class__" = some (some (.builtin "object.__class__"))
  hn : PySem.W.specialIn K (.builtin "object.__class__") "__get__" = some (some (.builtin "getset_descriptor.__get__"))
  ht : PySem.W.takesIn K (.builtin "object.__class__") = some true
  hm : PySem.W.mroIn K C (.type "object") = some true
structure IsiOk (K : PySem.W.Frag) (ca : Cn) (C : Addr) (tab : List (Kd × Bool)) : Prop where
  kit : ∀ p ∈ tab, ∃ t, kdV ca p.1 = some t ∧ PySem.W.kitOne K t (.ref C) = some p.2
  ins : ∀ c C', ca.a c = some C' → (∃ b, (Kd.cl c, b) ∈ tab) → InsTy K C'
theorem fe_isic {X : Cx} {ca : Cn} {W : WX} {tab : List (Kd × Bool)} {x z : Str} {C : Addr} {e : Expr} {f : Ev → R D} {p p2 pos : Pos} (hg : Gl X x) (hm : X.mg x = none) (hv' : bootBuiltins x = some (.builtin "isinstance")) (hz : Gl X z) (hC : X.mg z = some (.ref C)) (ok : IsiOk X.K ca C tab) (h : FE X ca W e f)
    (hrel : RelV (.ref C) (.ref C) := by rfl) (hn : x ≠ "__name__" := by decide) (hd : (x == ("__debug__" : Str)) = false := by decide) (hdz : (z == ("__debug__" : Str)) = false := by decide) (hcz : (z == ("__classdict__" : Str)) = false := by decide)
    (he : starEach [e, .Name z p2] X.env = (false, eval e X.env) :: starEach [.Name z p2] X.env := by rfl) (he2 : starEach [.Name z p2] X.env = (false, eval (.Name z p2) X.env) :: starEach [] X.env := by rfl) (hpl : (backTo pos (starEach [.Name z p2] X.env)).any (·.1) = false := by rfl) :
    FE X ca W (.Call (.Name x p) [e, .Name z p2] [] pos) (eIsi tab f) := by
  obtain ⟨t, pp, k⟩ := h.ex
  refine ⟨_, pe_callB call_isi hg hm hv' (pa_cons pp (pa_cons (pe_glob (v := .ref C) hz hC hrel hdz) pa_nil he2) he) hn hd he hpl, fun B G H σ ρ Q s b r w => ?_⟩
  refine k B G H σ ρ _ s b r (Wish.bind w fun d G1 H1 _ x1 w1 v av => ?_)
  have w2 : Wish X.K ca (SV X.K ca Q) G1 H1 ((optR (isiTab tab d)).bind fun b => .ok (.bl b)) (WE W σ) := w1
  obtain ⟨bb, e1, w3⟩ := wish_opt w2
  obtain ⟨kd, k1, k2⟩ := Option.bind_eq_some_iff.mp e1
  obtain ⟨⟨kd', b'⟩, f1, f2⟩ := Option.map_eq_some_iff.mp k2
  have f3' := List.find?_some f1
  have f3 : kd' = kd := of_decide_eq_true f3'
  have f4 := List.mem_of_find?_eq_some f1
  subst f3
  have f5 : b' = bb := f2
  subst f5
  obtain ⟨t, t1, t2⟩ := ok.kit _ f4
  have ty : TyX X.K H1 v t := by
    rcases kd_ty k1 with ⟨c, fs, rfl, rfl⟩ | ⟨n, n1, rfl⟩
    · obtain ⟨q, C', dx, vs, rfl, h1, h2, h3⟩ := av
      have t1' : (ca.a c).map Value.ref = some t := t1
      rw [h1] at t1'
      cases t1'
      have it := ok.ins c C' h1 ⟨_, f4⟩
      exact .base (.ins (x1.gh _ _ h2) it.cl it.ha it.hn it.ht it.hm)
    · cases t1
      exact tyX_of x1.gh av n1
  exact ⟨v, .ref C, t, .ref C, b', rfl, .own C, ty, t2, w3.here x1.gh _ rfl⟩
end Tk

namespace Tk
open PySem PySem.Spec L2 PyProof.Rows
/-! ### a, b = e1, e2 -/
def sPar (i j : Nat) (fa : Ev → R (List D)) : Ev → SO := fun ρ => SO.from ρ (fa ρ) fun ds => match ds with
  | [a, b] => .nx ((ρ.set i (.v a)).set j (.v b))
  | _ => .bad
theorem fs_par {X : Cx} {ca : Cn} {W : WX} {i j : Nat} {x y : Str} {a b : Expr} {fa : Ev → R (List D)} {px py pt pos : Pos} {kt k2 pt2} (hc : X.calm = true) (hN : X.N.Nodup) (hi : X.N[i]? = some x) (hj : X.N[j]? = some y) (hij : i ≠ j)
    (hx : X.env.scope.names.lookup x = some .local) (hy : X.env.scope.names.lookup y = some .local)
    (hw : swappedStores [.Tuple [.Name x px, .Name y py] kt pt] (.Tuple [a, b] k2 pt2) X.env = pure (some [x, y])) (ha : FA X ca W [a, b] fa)
    (hs : swapsWithSole [.Tuple [.Name x px, .Name y py] kt pt] (.Tuple [a, b] k2 pt2) pos.line X.env = pure false := by rfl) : FS X ca W (.Assign [.Tuple [.Name x px, .Name y py] kt pt] (.Tuple [a, b] k2 pt2) pos) (sPar i j fa) := by
  obtain ⟨t, p, k⟩ := ha.ex
  refine ⟨_, ps_par hc hN hi hj hij hx hy p hw hs, fun B G H σ ρ D s b r w => k B G H σ ρ _ s b r ?_⟩
  refine WishS.from w b r fun ds G1 H1 _ x w1 r1 b1 vs a1 => ?_
  split at w1
  · obtain ⟨v1, v2, rfl, q1, q2⟩ := atl2 a1
    exact ⟨v1, v2, rfl, w1 _ G1 H1 (.refl x.gh b1) ((r1.set i q1).set j q2)⟩
  · exact w1.elim
/-! ### xs + ys as a new list -/
def lCat (f g : Ev → R D) : Ev → R (List D) := fun ρ => (f ρ).bind fun a => (g ρ).bind fun b => match a, b with
  | .lst xs, .lst ys => if xs.length + ys.length ≤ sizeLine then .ok (xs ++ ys) else .bad
  | _, _ => .bad
theorem fl_cat {X : Cx} {ca : Cn} {W : WX} {a b : Expr} {fa fb : Ev → R D} {pos : Pos} (ha : FE X ca W a fa) (hb : FE X ca W b fb) : FL X ca W (.BinOp a .Add b pos) (lCat fa fb) := by
  obtain ⟨ta, pa, ka⟩ := ha.ex
  obtain ⟨tb, pb, kb⟩ := hb.ex
  refine ⟨_, pe_op op_cat pa pb, fun B G H σ ρ Q s b r h => ?_⟩
  refine ka B G H σ ρ _ s b r (Wish.bind (S := fun G' ds H' => ∀ p vs, H p = none → G' p = none → H' p = some (.lst vs) → AtL X.K ca G' ds vs → Q (.ref p) H') h fun d G1 H1 _ x1 w1 v a1 => ?_)
  refine kb B G1 H1 σ ρ _ x1.gh (b.trans x1.hh) (r.ext x1) (Wish.bind w1 fun d2 G2 H2 _ x2 w2 v2 a2 => ?_)
  split at w2
  · split at w2
    · rename_i xs ys hz
      obtain ⟨p, vs, rfl, h1, h2⟩ := a1
      obtain ⟨q, ws, rfl, h3, h4⟩ := a2
      have h2' := AtL.mono x2.gg h2
      refine ⟨p, q, vs, ws, rfl, rfl, x2.gh _ _ (x2.gg _ _ h1), x2.gh _ _ h3, by rw [← h2.length, ← h4.length]; exact hz, fun l n => ?_⟩
      exact w2 G2 (upd H2 l (.lst (vs ++ ws))) ⟨same_upd n, .refl _, x2.gh.trans (same_upd n), fun c z => .inl z⟩ l _ (same_none (x1.hh.trans x2.hh) n) (same_none x2.gh n) upd_same (h2'.append h4)
    · exact w2.elim
  · exact w2.elim
/-! ### sorted(xs, reverse=True) of ints -/
def gSrtR : List D → R D
  | [.lst xs] => match intsOf xs with
    | some ns => .ok (.lst ((srtI ns).reverse.map .int))
    | none => .bad
  | _ => .bad
theorem srtR_uniq {ns ms : List Int} (p : ms.Perm ns) (s : ms.Pairwise (· ≥ ·)) : ms = (srtI ns).reverse := by
  have := srtI_uniq (ns := ns) (ms := ms.reverse) ((List.reverse_perm ms).trans p) (List.pairwise_reverse.mpr s)
  rw [← this, List.reverse_reverse]
def eSrtR (fl fk : Ev → R (List D)) : Ev → R D := fun ρ => (fl ρ).bind fun ds => (fk ρ).bind fun zs => match zs with
  | [.bl true] => gSrtR ds
  | _ => .bad
theorem fe_srtR {X : Cx} {ca : Cn} {W : WX} {e : Expr} {es : List Expr} {kws : List Keyword} {fl fk : Ev → R (List D)} {pos p : Pos} (T : BT X.mg) (ha : FA X ca W (e :: es) fl) (hkw : FK X ca W kws fk) (hg : Gl X "sorted" := by rfl)
    (he : backTo pos (starEach (e :: es) X.env) = (false, eval e X.env) :: backTo pos (starEach es X.env) := by rfl) (hpl : (backTo pos (starEach (e :: es) X.env)).any (·.1) = false := by rfl)
    (hall : (backToKw pos (keywordEach kws X.env)).all (·.1.isSome) = true := by rfl) (hnone : (backToKw pos (keywordEach kws X.env)).any (·.1.isNone) = false := by rfl) (hks : (backToKw pos (keywordEach kws X.env)).filterMap (·.1) = [Str.ofString "reverse"] := by rfl) :
    FE X ca W (.Call (.Name "sorted" p) (e :: es) kws pos) (eSrtR fl fk) := by
  obtain ⟨t, pa, kt⟩ := ha.ex
  obtain ⟨u, pk, ku⟩ := hkw.ex
  refine ⟨_, pe_callBK (cr_sortedRev (b := true)) hg T.sorted bb_sorted pa pk (by decide) (by decide) he hpl hall hnone hks, fun B G H σ ρ Q s b r h => ?_⟩
  refine kt B G H σ ρ _ s b r (Wish.bind h fun ds G1 H1 _ x1 w1 vs a1 => ?_)
  refine ku B G1 H1 σ ρ _ x1.gh (b.trans x1.hh) (r.ext x1) (Wish.bind w1 fun zs G2 H2 _ x2 w2 ws a2 => ?_)
  split at w2
  · unfold gSrtR at w2
    split at w2
    · rename_i xs
      split at w2
      · rename_i ns e1
        obtain ⟨v, rfl, p, us, rfl, h1, h2⟩ := atl1 a1
        obtain ⟨v2, rfl, q2⟩ := atl1 a2
        cases q2
        rw [intsOf_at e1 h2] at h1
        refine ⟨p, ns, rfl, rfl, .of (x2.gh _ _ (x2.gg _ _ h1)), fun ms q pm so n => ?_⟩
        rw [srtR_uniq pm so]
        exact new_lst x2.gh w2 (AtL.of_ints _) n
      · exact w2.elim
    · exact w2.elim
  · exact w2.elim
/-! ### comprehensions with two clauses -/
def noOwn : Ev → Bool
  | [] => true
  | .v _ :: ρ => noOwn ρ
  | .no :: ρ => noOwn ρ
  | _ :: _ => false
theorem noOwn_mem : ∀ {ρ : Ev}, noOwn ρ = true → ∀ s ∈ ρ, s.own = false
  | [], _, _, m => by cases m
  | .v d :: ρ, h, s, m => by
    rcases List.mem_cons.mp m with rfl | m
    · rfl
    · exact noOwn_mem (show noOwn ρ = true from h) s m
  | .no :: ρ, h, s, m => by
    rcases List.mem_cons.mp m with rfl | m
    · rfl
    · exact noOwn_mem (show noOwn ρ = true from h) s m
  | .l _ :: _, h, _, _ => by cases h
  | .k _ :: _, h, _, _ => by cases h
  | .t _ :: _, h, _, _ => by cases h
  | .o _ _ _ :: _, h, _, _ => by cases h
theorem noOwn_set : ∀ {ρ : Ev} (i : Nat), noOwn ρ = true → noOwn (ρ.set i .no) = true
  | [], _, _ => rfl
  | .v _ :: ρ, 0, h => h
  | .no :: ρ, 0, h => h
  | .v _ :: ρ, i + 1, h => noOwn_set (ρ := ρ) i h
  | .no :: ρ, i + 1, h => noOwn_set (ρ := ρ) i h
  | .l _ :: _, _, h => by cases h
  | .k _ :: _, _, h => by cases h
  | .t _ :: _, _, h => by cases h
  | .o _ _ _ :: _, _, h => by cases h
theorem noOwn_wipe {ρ : Ev} (h : noOwn ρ = true) : ∀ zs : List Nat, noOwn (wipeE ρ zs) = true
  | [] => h
  | z :: zs => noOwn_set z (noOwn_wipe h zs)
theorem Rel.moved {K : PySem.W.Frag} {ca : Cn} {B G H H' : Hp} {σ : L2.St} {ρ : Ev} (n : noOwn ρ = true) (r : Rel K ca B G H σ ρ) : Rel K ca B G H' σ ρ :=
  ⟨r.len, r.val, fun i s e o => (by have := noOwn_mem n s (List.mem_of_getElem? e); rw [o] at this; cases this), fun i j s t a e o _ _ _ _ => (by have := noOwn_mem n s (List.mem_of_getElem? e); rw [o] at this; cases this), r.exc⟩
def lc2L (h : Tg) (t : Ev → R Bool) (fi : Ev → R (List D)) (zs1 : List Nat) (h1 : Tg) (t1 : Ev → R Bool) (fe : Ev → R D) (ρ : Ev) : List D → R (List D)
  | [] => .ok []
  | d :: ds => (optR (h d ρ)).bind fun ρ1 => if noOwn ρ1 = true then (t ρ1).quiet.bind fun b => if b = true then (fi ρ1).quiet.bind fun es => (lcL h1 t1 fe (wipeE ρ1 zs1) es).quiet.bind fun ys => (lc2L h t fi zs1 h1 t1 fe ρ ds).quiet.bind fun rs => .ok (ys ++ rs) else lc2L h t fi zs1 h1 t1 fe ρ ds else .bad
def finL (xs : List D) : R (List D) := if xs.length ≤ sizeLine then .ok xs else .bad
def lLc2 (zs : List Nat) (fi0 : Ev → R (List D)) (h : Tg) (t : Ev → R Bool) (fi : Ev → R (List D)) (zs1 : List Nat) (h1 : Tg) (t1 : Ev → R Bool) (fe : Ev → R D) : Ev → R (List D) := fun ρ => (fi0 ρ).bind fun ds => (lc2L h t fi zs1 h1 t1 fe (wipeE ρ zs) ds).quiet.bind finL
def tIc (K : PySem.W.Frag) (ca : Cn) (W : WX) (fi : Ev → R (List D)) : TI := fun σ H Q => ∃ B G ρ, Same G H ∧ Same B H ∧ Rel K ca B G H σ ρ ∧ Wish K ca (fun G' ds H' => ∀ J, JOk K ca G' J ds → Q J H') G H (fi ρ) (WE W σ)
theorem FI.can {X : Cx} {ca : Cn} {W : WX} {tg iter : Expr} {fi : Ev → R (List D)} (a : FI X ca W tg iter fi) : PI X tg iter (tIc X.K ca W fi) := by
  obtain ⟨t, p, k⟩ := a.ex
  exact ⟨fun pins s σ H Q I ⟨B, G, ρ, h1, h2, h3, h4⟩ => p.run pins s σ H Q I (k B G H σ ρ Q h1 h2 h3 h4)⟩
/-- what stands while a list D is filled -/
structure LcI (K : PySem.W.Frag) (ca : Cn) (B G1 H1 : Hp) (D : Addr) (σw : L2.St) (ρw : Ev) (G : Hp) (acc : List Tk.D) (vs : List V) (H : Hp) : Prop where
  ext : Ext G1 H1 G H
  gD : G D = none
  hD : H D = some (.lst vs)
  at_ : AtL K ca G acc vs
  b : Same B H
  r : Rel K ca B G H σw ρw
section
variable {K : PySem.W.Frag} {ca : Cn} {B G1 H1 G H G' H' : Hp} {D : Addr} {σw : L2.St} {ρw : Ev} {acc : List Tk.D} {vs : List V}
theorem LcI.go (i : LcI K ca B G1 H1 D σw ρw G acc vs H) (x : Ext G H G' H') : LcI K ca B G1 H1 D σw ρw G' acc vs H' := by
  refine ⟨i.ext.trans x, ?_, x.hh _ _ i.hD, AtL.mono x.gg i.at_, i.b.trans x.hh, i.r.ext x⟩
  cases q : G' D with
  | none => rfl
  | some u =>
    rcases x.nw D (by rw [q]; simp) with z | z
    · exact absurd i.gD z
    · exact (z.no i.hD fun _ y => nomatch y).elim
theorem LcI.push (i : LcI K ca B G1 H1 D σw ρw G acc vs H) (n1 : H1 D = none) (nb : B D = none) (no : noOwn ρw = true) {y : Tk.D} {v : V} (a : At K ca G y v) : LcI K ca B G1 H1 D σw ρw G (acc ++ [y]) (vs ++ [v]) (upd H D (.lst (vs ++ [v]))) := by
  have nD : ∀ c o, H1 c = some o → c ≠ D := fun c o q z => by rw [z, n1] at q; cases q
  have nG : ∀ c o, G c = some o → c ≠ D := fun c o q z => by rw [z, i.gD] at q; cases q
  have nB : ∀ c o, B c = some o → c ≠ D := fun c o q z => by rw [z, nb] at q; cases q
  exact ⟨⟨fun c o q => by rw [upd_ne (nD c o q)]; exact i.ext.hh c o q, i.ext.gg, fun c o q => by rw [upd_ne (nG c o q)]; exact i.ext.gh c o q, i.ext.nw⟩, i.gD, upd_same, i.at_.append (.one a), fun c o q => by rw [upd_ne (nB c o q)]; exact i.b c o q, i.r.moved no⟩
end
section
variable {X : Cx} {ca : Cn} {W : WX} {zs zs1 : List Nat} {elt tg iter tg1 iter1 : Expr} {ifs ifs1 : List Expr} {scope : Scope} {own : List (Str × Nat)} {pos : Pos} {fi0 fi : Ev → R (List D)} {h h1 : Tg} {ft ft1 : Ev → R Bool} {fe : Ev → R D}
theorem lc2_tail {tl : TI} (ki : ∀ B G H σ ρ (Q : It → Hp → Prop), Same G H → Same B H → Rel X.K ca B G H σ ρ → Wish X.K ca (fun G' ds H' => ∀ J, JOk X.K ca G' J ds → Q J H') G H (fi0 ρ) (WE W σ) → tl σ H Q) (hv : ∀ i ∈ zs1, i ∈ zs)
    (B G H : Hp) (σ : L2.St) (ρ : Ev) (Hx : Hp) (Q : VK) (s : Same G H) (b : Same B H) (r : Rel X.K ca B G H σ ρ) (hx : Same Hx H) (hn : noOwn (wipeE ρ zs) = true) (w : Wish X.K ca (SF X.K ca Hx Q) G H (lLc2 zs fi0 h ft fi zs1 h1 ft1 fe ρ) (WE W σ)) :
    tLc2 tl (tGc X.K ca zs h) (tT X.K ca W0 ft) (tIc X.K ca W0 fi) (tGc X.K ca zs1 h1) (tT X.K ca W0 ft1) (tE X.K ca W0 fe) zs zs1 σ H Q := by
  refine ki B G H σ ρ _ s b r (Wish.bind w fun ds G1 H1 _ x1 w1 J hj => ?_)
  intro D hD
  have gD : G1 D = none := same_none x1.gh hD
  have b1 := b.trans x1.hh
  have bD : B D = none := same_none b1 hD
  have r1 := (r.ext x1).wipe zs
  have e0 : Ext G1 H1 G1 (upd H1 D (.lst [])) := ⟨same_upd hD, .refl _, x1.gh.trans (same_upd hD), fun a z => .inl z⟩
  refine ⟨fun i m H => m = ds.length - i ∧ i ≤ ds.length ∧ ∃ G acc vs, LcI X.K ca B G1 H1 D (L2.wipe σ zs) (wipeE ρ zs) G acc vs H ∧ Wish X.K ca (SF X.K ca Hx Q) G1 H1 ((lc2L h ft fi zs1 h1 ft1 fe (wipeE ρ zs) (ds.drop i)).quiet.bind fun rs => finL (acc ++ rs)) (WE W σ),
    ⟨_, rfl, Nat.zero_le _, G1, [], [], ⟨e0, gD, upd_same, rfl, b1.trans e0.hh, r1.ext e0⟩, by rw [List.drop_zero]; exact w1⟩, ?_⟩
  rintro i m H2 ⟨rfl, hi, G2, acc, vs, I2, w2⟩
  obtain ⟨j1, j2⟩ := hj G2 H2 I2.ext.gg I2.ext.gh i
  by_cases hlt : i < ds.length
  · rw [List.drop_eq_getElem_cons hlt] at w2
    obtain ⟨go, yl⟩ := j1 ds[i] (by simp [hlt])
    refine .inr ⟨go, fun H' => ∃ G acc vs, LcI X.K ca B G1 H1 D (L2.wipe σ zs) (wipeE ρ zs) G acc vs H' ∧ Wish X.K ca (SF X.K ca Hx Q) G1 H1 ((lc2L h ft fi zs1 h1 ft1 fe (wipeE ρ zs) (ds.drop (i + 1))).quiet.bind fun rs => finL (acc ++ rs)) (WE W σ), fun H' q => ⟨ds.length - (i + 1), by omega, rfl, hlt, q⟩, fun x H3 yy => ?_⟩
    obtain ⟨G3, x3, a3⟩ := yl x H3 yy
    have I3 := I2.go x3
    have w3 : Wish X.K ca (SF X.K ca Hx Q) G1 H1 (((optR (h ds[i] (wipeE ρ zs))).bind fun ρ1 => if noOwn ρ1 = true then (ft ρ1).quiet.bind fun b => if b = true then (fi ρ1).quiet.bind fun es => (lcL h1 ft1 fe (wipeE ρ1 zs1) es).quiet.bind fun ys => (lc2L h ft fi zs1 h1 ft1 fe (wipeE ρ zs) (ds.drop (i + 1))).quiet.bind fun rs => .ok (ys ++ rs) else lc2L h ft fi zs1 h1 ft1 fe (wipeE ρ zs) (ds.drop (i + 1)) else .bad).quiet.bind fun rs => finL (acc ++ rs)) (WE W σ) := w2
    cases z1 : h ds[i] (wipeE ρ zs) with
    | none => rw [z1] at w3; exact w3.elim
    | some ρ1 =>
      rw [z1] at w3
      simp only [optR_some, bind_ok] at w3
      split at w3
      · rename_i no1
        refine ⟨B, G3, wipeE ρ zs, ds[i], I3.ext.gh, I3.b, I3.r, a3, ρ1, z1, fun σ4 r4 e4 => ⟨e4.trans (wipe_idem σ zs), B, G3, ρ1, I3.ext.gh, I3.b, r4, ?_⟩⟩
        cases z2 : ft ρ1 with
        | exc x => simp only [z2] at w3; exact w3.elim
        | bad => simp only [z2] at w3; exact w3.elim
        | ok bb =>
          simp only [z2, quiet_ok, bind_ok] at w3
          intro G5 H5 x5
          show if bb = true then _ else _
          have I5 := I3.go x5
          cases bb with
          | false =>
            rw [if_neg Bool.false_ne_true] at w3 ⊢
            exact ⟨G5, acc, vs, I5, w3⟩
          | true =>
            rw [if_pos rfl] at w3 ⊢
            have r5 := r4.ext x5
            refine ⟨B, G5, ρ1, x5.gh, I5.b, r5, ?_⟩
            cases z3 : fi ρ1 with
            | exc x => simp only [z3] at w3; exact w3.elim
            | bad => simp only [z3] at w3; exact w3.elim
            | ok es =>
              simp only [z3, quiet_ok, bind_ok] at w3
              intro G6 H6 x6 J1 hj1
              have I6 := I5.go x6
              have r6 := r5.ext x6
              have now : noOwn (wipeE ρ1 zs1) = true := by
                exact noOwn_wipe no1 zs1
              refine ⟨fun j k H => k = es.length - j ∧ j ≤ es.length ∧ ∃ G acc vs, LcI X.K ca B G1 H1 D (L2.wipe σ zs) (wipeE ρ zs) G acc vs H ∧ Same G6 G ∧ Rel X.K ca B G H (L2.wipe σ4 zs1) (wipeE ρ1 zs1) ∧ Wish X.K ca (SF X.K ca Hx Q) G1 H1 ((lcL h1 ft1 fe (wipeE ρ1 zs1) (es.drop j)).quiet.bind fun ys => (lc2L h ft fi zs1 h1 ft1 fe (wipeE ρ zs) (ds.drop (i + 1))).quiet.bind fun rs => finL (acc ++ (ys ++ rs))) (WE W σ),
                ⟨_, rfl, Nat.zero_le _, G6, acc, vs, I6, .refl _, r6.wipe zs1, by
                  rw [List.drop_zero]
                  cases q1 : lcL h1 ft1 fe (wipeE ρ1 zs1) es with
                  | ok ys =>
                    rw [q1] at w3
                    simp only [bind_ok, quiet_ok] at w3 ⊢
                    cases q2 : lc2L h ft fi zs1 h1 ft1 fe (wipeE ρ zs) (ds.drop (i + 1)) with
                    | ok rs => rw [q2] at w3; simp only [bind_ok, quiet_ok] at w3 ⊢; exact w3
                    | exc x => rw [q2] at w3; exact w3
                    | bad => rw [q2] at w3; exact w3
                  | exc x => rw [q1] at w3; exact w3
                  | bad => rw [q1] at w3; exact w3⟩, ?_⟩
              rintro j k H7 ⟨rfl, hj7, G7, acc7, vs7, I7, g7, r7, w7⟩
              have jj := hj1 G7 H7 g7 I7.ext.gh j
              obtain ⟨k1, k2⟩ := jj
              by_cases hlt2 : j < es.length
              · rw [List.drop_eq_getElem_cons hlt2] at w7
                obtain ⟨go2, yl2⟩ := k1 es[j] (by simp [hlt2])
                refine .inr ⟨go2, fun H' => ∃ G acc vs, LcI X.K ca B G1 H1 D (L2.wipe σ zs) (wipeE ρ zs) G acc vs H' ∧ Same G6 G ∧ Rel X.K ca B G H' (L2.wipe σ4 zs1) (wipeE ρ1 zs1) ∧ Wish X.K ca (SF X.K ca Hx Q) G1 H1 ((lcL h1 ft1 fe (wipeE ρ1 zs1) (es.drop (j + 1))).quiet.bind fun ys => (lc2L h ft fi zs1 h1 ft1 fe (wipeE ρ zs) (ds.drop (i + 1))).quiet.bind fun rs => finL (acc ++ (ys ++ rs))) (WE W σ), fun H' q => ⟨es.length - (j + 1), by omega, rfl, hlt2, q⟩, fun x8 H8 y8 => ?_⟩
                obtain ⟨G8, x8', a8⟩ := yl2 x8 H8 y8
                have I8 := I7.go x8'
                have r8 := r7.ext x8'
                have w8 : Wish X.K ca (SF X.K ca Hx Q) G1 H1 (((optR (h1 es[j] (wipeE ρ1 zs1))).bind fun ρ2 => (ft1 ρ2).quiet.bind fun b => if b = true then (fe ρ2).quiet.bind fun y => (lcL h1 ft1 fe (wipeE ρ1 zs1) (es.drop (j + 1))).bind fun r => .ok (y :: r) else lcL h1 ft1 fe (wipeE ρ1 zs1) (es.drop (j + 1))).quiet.bind fun ys => (lc2L h ft fi zs1 h1 ft1 fe (wipeE ρ zs) (ds.drop (i + 1))).quiet.bind fun rs => finL (acc7 ++ (ys ++ rs))) (WE W σ) := w7
                cases y1 : h1 es[j] (wipeE ρ1 zs1) with
                | none => rw [y1] at w8; exact w8.elim
                | some ρ2 =>
                  rw [y1] at w8
                  simp only [optR_some, bind_ok] at w8
                  refine ⟨B, G8, wipeE ρ1 zs1, es[j], I8.ext.gh, I8.b, r8, a8, ρ2, y1, fun σ9 r9 e9 => ⟨e9.trans (wipe_idem σ4 zs1), B, G8, ρ2, I8.ext.gh, I8.b, r9, ?_⟩⟩
                  cases y2 : ft1 ρ2 with
                  | exc x => simp only [y2] at w8; exact w8.elim
                  | bad => simp only [y2] at w8; exact w8.elim
                  | ok bb2 =>
                    simp only [y2, quiet_ok, bind_ok] at w8
                    intro G10 H10 x10
                    show if bb2 = true then _ else _
                    have I10 := I8.go x10
                    have gg10 : Same G6 G10 := (g7.trans x8'.gg).trans x10.gg
                    cases bb2 with
                    | false =>
                      rw [if_neg Bool.false_ne_true] at w8 ⊢
                      exact ⟨G10, acc7, vs7, I10, gg10, r8.ext x10, w8⟩
                    | true =>
                      rw [if_pos rfl] at w8 ⊢
                      refine ⟨B, G10, ρ2, x10.gh, I10.b, r9.ext x10, ?_⟩
                      cases y3 : fe ρ2 with
                      | exc x => simp only [y3] at w8; exact w8.elim
                      | bad => simp only [y3] at w8; exact w8.elim
                      | ok y =>
                        simp only [y3, quiet_ok, bind_ok] at w8
                        intro G11 H11 x11 v av
                        have I11 := I10.go x11
                        have hl := I11.at_.length
                        have w9 : Wish X.K ca (SF X.K ca Hx Q) G1 H1 ((lcL h1 ft1 fe (wipeE ρ1 zs1) (es.drop (j + 1))).quiet.bind fun ys => (lc2L h ft fi zs1 h1 ft1 fe (wipeE ρ zs) (ds.drop (i + 1))).quiet.bind fun rs => finL ((acc7 ++ [y]) ++ (ys ++ rs))) (WE W σ) := by
                          cases q1 : lcL h1 ft1 fe (wipeE ρ1 zs1) (es.drop (j + 1)) with
                          | ok ys =>
                            rw [q1] at w8
                            simp only [bind_ok, quiet_ok] at w8 ⊢
                            cases q2 : lc2L h ft fi zs1 h1 ft1 fe (wipeE ρ zs) (ds.drop (i + 1)) with
                            | ok rs => rw [q2] at w8; simp only [bind_ok, quiet_ok] at w8 ⊢; rw [List.append_assoc]; exact w8
                            | exc x => rw [q2] at w8; exact w8
                            | bad => rw [q2] at w8; exact w8
                          | exc x => rw [q1] at w8; exact w8
                          | bad => rw [q1] at w8; exact w8
                        have hsz : acc7.length < sizeLine := by
                          obtain ⟨ys, q1, w10⟩ := wish_quiet w9
                          obtain ⟨rs, q2, w11⟩ := wish_quiet w10
                          unfold finL at w11
                          split at w11
                          · rename_i hz
                            simp only [List.length_append, List.length_cons, List.length_nil] at hz
                            omega
                          · exact w11.elim
                        exact ⟨vs7, I11.hD, by omega, G11, acc7 ++ [y], vs7 ++ [v], I11.push hD bD hn av, gg10.trans x11.gg, (((r8.ext x10).ext x11).moved now), w9⟩
              · have ej : j = es.length := by omega
                subst ej
                rw [List.drop_length] at w7
                exact .inl ⟨k2 rfl, G7, acc7, vs7, I7, w7⟩
      · exact w3.elim
  · have e : i = ds.length := by omega
    subst e
    rw [List.drop_length] at w2
    have w3 : Wish X.K ca (SF X.K ca Hx Q) G1 H1 (finL (acc ++ [])) (WE W σ) := w2
    rw [List.append_nil] at w3
    unfold finL at w3
    split at w3
    · exact .inl ⟨j2 rfl, w3 G2 H2 I2.ext D vs (same_none (hx.trans x1.hh) hD) I2.gD I2.hD I2.at_⟩
    · exact w3.elim
end
def lLc2' (zs : List Nat) (fi0 : Ev → R (List D)) (h : Tg) (t : Ev → R Bool) (fi : Ev → R (List D)) (zs1 : List Nat) (h1 : Tg) (t1 : Ev → R Bool) (fe : Ev → R D) : Ev → R (List D) := fun ρ => if noOwn (wipeE ρ zs) = true then lLc2 zs fi0 h t fi zs1 h1 t1 fe ρ else .bad
/-- name = [..]: the new list is nobody's own -/
def sOwnZ (i : Nat) (fl : Ev → R (List D)) : Ev → SO := fun ρ => SO.from ρ (fl ρ) fun ds => .nx (ρ.set i (.v (.lst ds)))
section
variable {X : Cx} {ca : Cn} {W : WX} {zs1 : List Nat} {elt tg iter tg1 iter1 : Expr} {ifs ifs1 : List Expr} {scope : Scope} {own : List (Str × Nat)} {pos : Pos} {fi0 fi : Ev → R (List D)} {h h1 : Tg} {ft ft1 : Ev → R Bool} {fe : Ev → R D}
theorem fl_lc2 (hc : X.calm = true) (hN : X.N.Nodup) (hi : FI X ca W tg iter fi0) (ok : BlkOk X.N X.env.scope scope own) (hv : ∀ i ∈ zs1, i ∈ own.map (·.2))
    (hg : ∀ (s : Shared) (H : Hp) (C : Addr) (cl : List (Str × Addr)) (fp : List Addr), FG (X.blk s H scope (compEnvC scope cl C X.env) fp) ca (own.map (·.2)) tg h) (ht : ∀ (s : Shared) (H : Hp) (C : Addr) (cl : List (Str × Addr)) (fp : List Addr), FTs (X.blk s H scope (compEnvC scope cl C X.env) fp) ca W0 ifs ft)
    (hi1 : ∀ (s : Shared) (H : Hp) (C : Addr) (cl : List (Str × Addr)) (fp : List Addr), FI (X.blk s H scope (compEnvC scope cl C X.env) fp) ca W0 tg1 iter1 fi)
    (hg1 : ∀ (s : Shared) (H : Hp) (C : Addr) (cl : List (Str × Addr)) (fp : List Addr), FG (X.blk s H scope (compEnvC scope cl C X.env) fp) ca zs1 tg1 h1) (ht1 : ∀ (s : Shared) (H : Hp) (C : Addr) (cl : List (Str × Addr)) (fp : List Addr), FTs (X.blk s H scope (compEnvC scope cl C X.env) fp) ca W0 ifs1 ft1)
    (he : ∀ (s : Shared) (H : Hp) (C : Addr) (cl : List (Str × Addr)) (fp : List Addr), FE (X.blk s H scope (compEnvC scope cl C X.env) fp) ca W0 elt fe) (hs : ∀ x, foldedSetIterable iter X.env x = pure x := by intro _; rfl) (hs1 : ∀ env x, foldedSetIterable iter1 env x = pure x := by intro _ _; rfl) :
    FL X ca W (.ListComp elt [⟨tg, iter, ifs, 0⟩, ⟨tg1, iter1, ifs1, 0⟩] scope pos) (lLc2' (own.map (·.2)) fi0 h ft fi zs1 h1 ft1 fe) := by
  obtain ⟨tl, pl, ki⟩ := hi.ex
  refine ⟨_, pe_lc2 (g := tGc X.K ca (own.map (·.2)) h) (tt := tT X.K ca W0 ft) (wi1 := tIc X.K ca W0 fi) (g1 := tGc X.K ca zs1 h1) (tt1 := tT X.K ca W0 ft1) (te := tE X.K ca W0 fe) hc hN pl ok hv (fun s H C cl fp => (hg s H C cl fp).can) (fun s H C cl fp => (ht s H C cl fp).ex) (fun s H C cl fp => (hi1 s H C cl fp).can) (fun s H C cl fp => (hg1 s H C cl fp).can) (fun s H C cl fp => (ht1 s H C cl fp).ex) (fun s H C cl fp => (he s H C cl fp).can) hs hs1, fun B G H σ ρ Q s b r w => ?_⟩
  unfold lLc2' at w
  split at w
  · rename_i no
    exact lc2_tail ki hv B G H σ ρ H Q s b r (.refl H) no w
  · exact w.elim
theorem fs_ownLc2 {i : Nat} {y : Str} {py spos : Pos} (hy : X.N[i]? = some y) (hyl : X.env.scope.names.lookup y = some .local) (hsw : swapsWith (.ListComp elt [⟨tg, iter, ifs, 0⟩, ⟨tg1, iter1, ifs1, 0⟩] scope pos) (some (.Name y py)) spos.line X.env = pure true) (hc : X.calm = true) (hN : X.N.Nodup) (hi : FI X ca W tg iter fi0) (ok : BlkOk X.N X.env.scope scope own) (hv : ∀ i ∈ zs1, i ∈ own.map (·.2))
    (hg : ∀ (s : Shared) (H : Hp) (C : Addr) (cl : List (Str × Addr)) (fp : List Addr), FG (X.blk s H scope (compEnvC scope cl C X.env) fp) ca (own.map (·.2)) tg h) (ht : ∀ (s : Shared) (H : Hp) (C : Addr) (cl : List (Str × Addr)) (fp : List Addr), FTs (X.blk s H scope (compEnvC scope cl C X.env) fp) ca W0 ifs ft)
    (hi1 : ∀ (s : Shared) (H : Hp) (C : Addr) (cl : List (Str × Addr)) (fp : List Addr), FI (X.blk s H scope (compEnvC scope cl C X.env) fp) ca W0 tg1 iter1 fi)
    (hg1 : ∀ (s : Shared) (H : Hp) (C : Addr) (cl : List (Str × Addr)) (fp : List Addr), FG (X.blk s H scope (compEnvC scope cl C X.env) fp) ca zs1 tg1 h1) (ht1 : ∀ (s : Shared) (H : Hp) (C : Addr) (cl : List (Str × Addr)) (fp : List Addr), FTs (X.blk s H scope (compEnvC scope cl C X.env) fp) ca W0 ifs1 ft1)
    (he : ∀ (s : Shared) (H : Hp) (C : Addr) (cl : List (Str × Addr)) (fp : List Addr), FE (X.blk s H scope (compEnvC scope cl C X.env) fp) ca W0 elt fe) (hs : ∀ x, foldedSetIterable iter X.env x = pure x := by intro _; rfl) (hs1 : ∀ env x, foldedSetIterable iter1 env x = pure x := by intro _ _; rfl) :
    FS X ca W (.Assign [.Name y py] (.ListComp elt [⟨tg, iter, ifs, 0⟩, ⟨tg1, iter1, ifs1, 0⟩] scope pos) spos) (sOwn i (lLc2' (own.map (·.2)) fi0 h ft fi zs1 h1 ft1 fe)) := by
  obtain ⟨tl, pl, ki⟩ := hi.ex
  refine ⟨_, ps_setLc2 (g := tGc X.K ca (own.map (·.2)) h) (tt := tT X.K ca W0 ft) (wi1 := tIc X.K ca W0 fi) (g1 := tGc X.K ca zs1 h1) (tt1 := tT X.K ca W0 ft1) (te := tE X.K ca W0 fe) hc hN hy hyl hsw pl ok hv (fun s H C cl fp => (hg s H C cl fp).can) (fun s H C cl fp => (ht s H C cl fp).ex) (fun s H C cl fp => (hi1 s H C cl fp).can) (fun s H C cl fp => (hg1 s H C cl fp).can) (fun s H C cl fp => (ht1 s H C cl fp).ex) (fun s H C cl fp => (he s H C cl fp).can) hs hs1, fun B G H σ ρ D s b r w => ?_⟩
  by_cases no : noOwn (wipeE ρ (own.map (·.2))) = true
  · have e : lLc2' (own.map (·.2)) fi0 h ft fi zs1 h1 ft1 fe ρ = lLc2 (own.map (·.2)) fi0 h ft fi zs1 h1 ft1 fe ρ := if_pos no
    refine lc2_tail ki hv B G H σ ρ H _ s b r (.refl H) no ?_
    have w' : WishS X.K ca B G (SO.from ρ (lLc2' (own.map (·.2)) fi0 h ft fi zs1 h1 ft1 fe ρ) fun ds => .nx (ρ.set i (.l ds))) D W := w
    rw [e] at w'
    refine WishS.from w' b r fun ds G1 H1 _ x w1 r1 b1 q vs n g hq av => w1 _ G1 H1 (.refl x.gh b1) ?_
    refine r1.setOwn i rfl ⟨vs, hq, av⟩ g (same_none b n) fun j t' _ q' o' z => ?_
    obtain ⟨a, h1, h2, h3, h4⟩ := r.own j t' q' o'
    rw [z] at h1
    cases h1
    obtain ⟨ob, h5⟩ := h2.some
    rw [n] at h5
    cases h5
  · have e : lLc2' (own.map (·.2)) fi0 h ft fi zs1 h1 ft1 fe ρ = .bad := if_neg no
    have w' : WishS X.K ca B G (SO.from ρ (lLc2' (own.map (·.2)) fi0 h ft fi zs1 h1 ft1 fe ρ) fun ds => .nx (ρ.set i (.l ds))) D W := w
    rw [e] at w'
    exact w'.elim
theorem fs_setLc2 {i : Nat} {y : Str} {py spos : Pos} (hy : X.N[i]? = some y) (hyl : X.env.scope.names.lookup y = some .local) (hsw : swapsWith (.ListComp elt [⟨tg, iter, ifs, 0⟩, ⟨tg1, iter1, ifs1, 0⟩] scope pos) (some (.Name y py)) spos.line X.env = pure true) (hc : X.calm = true) (hN : X.N.Nodup) (hi : FI X ca W tg iter fi0) (ok : BlkOk X.N X.env.scope scope own) (hv : ∀ i ∈ zs1, i ∈ own.map (·.2))
    (hg : ∀ (s : Shared) (H : Hp) (C : Addr) (cl : List (Str × Addr)) (fp : List Addr), FG (X.blk s H scope (compEnvC scope cl C X.env) fp) ca (own.map (·.2)) tg h) (ht : ∀ (s : Shared) (H : Hp) (C : Addr) (cl : List (Str × Addr)) (fp : List Addr), FTs (X.blk s H scope (compEnvC scope cl C X.env) fp) ca W0 ifs ft)
    (hi1 : ∀ (s : Shared) (H : Hp) (C : Addr) (cl : List (Str × Addr)) (fp : List Addr), FI (X.blk s H scope (compEnvC scope cl C X.env) fp) ca W0 tg1 iter1 fi)
    (hg1 : ∀ (s : Shared) (H : Hp) (C : Addr) (cl : List (Str × Addr)) (fp : List Addr), FG (X.blk s H scope (compEnvC scope cl C X.env) fp) ca zs1 tg1 h1) (ht1 : ∀ (s : Shared) (H : Hp) (C : Addr) (cl : List (Str × Addr)) (fp : List Addr), FTs (X.blk s H scope (compEnvC scope cl C X.env) fp) ca W0 ifs1 ft1)
    (he : ∀ (s : Shared) (H : Hp) (C : Addr) (cl : List (Str × Addr)) (fp : List Addr), FE (X.blk s H scope (compEnvC scope cl C X.env) fp) ca W0 elt fe) (hs : ∀ x, foldedSetIterable iter X.env x = pure x := by intro _; rfl) (hs1 : ∀ env x, foldedSetIterable iter1 env x = pure x := by intro _ _; rfl) :
    FS X ca W (.Assign [.Name y py] (.ListComp elt [⟨tg, iter, ifs, 0⟩, ⟨tg1, iter1, ifs1, 0⟩] scope pos) spos) (sOwnZ i (lLc2' (own.map (·.2)) fi0 h ft fi zs1 h1 ft1 fe)) := by
  obtain ⟨tl, pl, ki⟩ := hi.ex
  refine ⟨_, ps_setLc2 (g := tGc X.K ca (own.map (·.2)) h) (tt := tT X.K ca W0 ft) (wi1 := tIc X.K ca W0 fi) (g1 := tGc X.K ca zs1 h1) (tt1 := tT X.K ca W0 ft1) (te := tE X.K ca W0 fe) hc hN hy hyl hsw pl ok hv (fun s H C cl fp => (hg s H C cl fp).can) (fun s H C cl fp => (ht s H C cl fp).ex) (fun s H C cl fp => (hi1 s H C cl fp).can) (fun s H C cl fp => (hg1 s H C cl fp).can) (fun s H C cl fp => (ht1 s H C cl fp).ex) (fun s H C cl fp => (he s H C cl fp).can) hs hs1, fun B G H σ ρ D s b r w => ?_⟩
  by_cases no : noOwn (wipeE ρ (own.map (·.2))) = true
  · have e : lLc2' (own.map (·.2)) fi0 h ft fi zs1 h1 ft1 fe ρ = lLc2 (own.map (·.2)) fi0 h ft fi zs1 h1 ft1 fe ρ := if_pos no
    refine lc2_tail ki hv B G H σ ρ H _ s b r (.refl H) no ?_
    have w' : WishS X.K ca B G (SO.from ρ (lLc2' (own.map (·.2)) fi0 h ft fi zs1 h1 ft1 fe ρ) fun ds => .nx (ρ.set i (.v (.lst ds)))) D W := w
    rw [e] at w'
    refine WishS.from w' b r fun ds G1 H1 _ x w1 r1 b1 q vs n g hq av => ?_
    have gh : Same (upd G1 q (.lst vs)) H1 := fun c u e => by
      by_cases z : c = q
      · subst z; rw [upd_same] at e; rw [hq]; exact e
      · rw [upd_ne z] at e; exact x.gh c u e
    have x2 : Ext G H (upd G1 q (.lst vs)) H1 := ⟨x.hh, x.gg.trans (same_upd g), gh, fun c m => by
      by_cases z : c = q
      · subst z; exact .inr (.inl n)
      · rw [upd_ne z] at m; exact x.nw c m⟩
    refine w1 _ (upd G1 q (.lst vs)) H1 ⟨same_upd g, gh, b1, fun c m => ?_⟩ ((r.ext x2).set i ⟨q, vs, rfl, upd_same, AtL.mono (same_upd g) av⟩)
    by_cases z : c = q
    · subst z; exact .inr (.inl (same_none b n))
    · rw [upd_ne z] at m; exact .inl m
  · have e : lLc2' (own.map (·.2)) fi0 h ft fi zs1 h1 ft1 fe ρ = .bad := if_neg no
    have w' : WishS X.K ca B G (SO.from ρ (lLc2' (own.map (·.2)) fi0 h ft fi zs1 h1 ft1 fe ρ) fun ds => .nx (ρ.set i (.v (.lst ds)))) D W := w
    rw [e] at w'
    exact w'.elim
end
end Tk

namespace Tk
open PySem PySem.Spec L2 PyProof.Rows
/-! ### calls with keywords that hand out a new object -/
def oCallK (n m p : Nat) (F : List D → R Sl) (gD : List D → List D → List D) (fa fk : Ev → R (List D)) : Ev → R Sl := fun ρ => (fa ρ).bind fun ds => (fk ρ).bind fun zs => if ds.length = n ∧ zs.length = m ∧ (gD ds zs).length = p then F (gD ds zs) else .bad
section
variable {X : Cx} {ca : Cn} {W : WX} {k j n : Nat} {x : Str} {st : Stmt} {dd : List D} {kd : List (Str × D)} {ps ks : List Str} {Fn : List D → R Sl} {p pos : Pos} {e : Expr} {es : List Expr} {kws : List Keyword} {fa fk : Ev → R (List D)} {gD : List D → List D → List D}
theorem fn_ak (d : DefO X.prog X.w X.K X.mg X.base ca k x st dd kd ps Fn) (hb : ∀ {f fd}, FD X.K x x st dd kd f fd → KB X.K ca fd ps n ks gD) (hr : Room j X.A) (tk : Takes X W) (ha : FA X ca W (e :: es) fa) (hkw : FK X ca W kws fk) (hk : k ≤ j := by decide) (hg : Gl X x := by rfl)
    (hall : (backToKw pos (keywordEach kws X.env)).all (·.1.isSome) = true := by rfl) (hks : (backToKw pos (keywordEach kws X.env)).filterMap (·.1) = ks := by rfl) (hdb : (x == ("__debug__" : Str)) = false := by decide)
    (he : starEach (e :: es) X.env = (false, eval e X.env) :: starEach es X.env := by rfl) (hpl : ((backTo pos (starEach (e :: es) X.env)).any (·.1) || (backToKw pos (keywordEach kws X.env)).any (·.1.isNone)) = false := by rfl) :
    FN X ca W (.Call (.Name x p) (e :: es) kws pos) (oCallK n ks.length ps.length Fn gD fa fk) := by
  obtain ⟨f, fd, F, h1, h2⟩ := d.ex
  obtain ⟨t, pa, kt⟩ := ha.ex
  obtain ⟨u, pk, ku⟩ := hkw.ex
  obtain ⟨g, gV, hbn, hgd⟩ := (hb h2).ex
  refine ⟨fun σ H Q => t σ H fun vs H1 => u σ H1 fun zs H2 => vs.length = n ∧ zs.length = ks.length ∧ spO X.K ca ps.length Fn (gV vs zs) H2 Q (WE W σ), ⟨fun pins s σ H Q I h => ?_⟩, fun B G H σ ρ Q s b r h => ?_⟩
  · refine wpAny_Call_Name_kw (ld_glob I hg h1 ?_ hdb)
    refine PySem.W.callWith_KW (h₀ := X.base) I.ok.mod.kin h2.kp hall (thn (pa.run pos pins s σ H _ I h) fun us s1 ⟨vs, H1, I1, r1, q1⟩ => ?_) hpl he
    refine thn (pk.run pos pins s1 σ H1 _ I1 q1) fun ws s2 ⟨zs, H2, I2, r2, l1, l2, q2⟩ => ⟨I2.kIn, ?_⟩
    rw [hks]
    exact run_kb F (hr.mono hk) hbn (passAt tk σ) I2 r1 r2 l1 l2 q2
  · refine kt B G H σ ρ _ s b r (Wish.bind h fun ds G1 H1 _ x1 w1 vs a1 => ?_)
    refine ku B G1 H1 σ ρ _ x1.gh (b.trans x1.hh) (r.ext x1) (Wish.bind w1 fun zs G2 H2 _ x2 w2 ws a2 => ?_)
    split at w2
    · rename_i hl
      have a3 := hgd G2 ds vs zs ws (AtL.mono x2.gg a1) a2
      exact ⟨by rw [← a1.length]; exact hl.1, by rw [← a2.length]; exact hl.2.1, by rw [← a3.length]; exact hl.2.2, G2, _, x2.gh, a3, Wish.imp w2 fun G' sl H' q => ⟨q.1, fun a oa ga na => q.2 a oa ga (same_none (x1.hh.trans x2.hh) na)⟩⟩
    · exact w2.elim
end
/-! ### {k: v for x in xs if t} -/
def dcL (h : Tg) (t : Ev → R Bool) (fk fv : Ev → R D) (ρ : Ev) : List (Key × D) → List D → R (List (Key × D))
  | acc, [] => .ok acc
  | acc, d :: ds => (optR (h d ρ)).bind fun ρ1 => (t ρ1).quiet.bind fun b => if b = true then (fk ρ1).quiet.bind fun y => (fv ρ1).quiet.bind fun z => (optR (keyD y)).bind fun k => dcL h t fk fv ρ (putG acc k z) ds else dcL h t fk fv ρ acc ds
def nDc (zs : List Nat) (fi : Ev → R (List D)) (h : Tg) (t : Ev → R Bool) (fk fv : Ev → R D) : Ev → R Sl := fun ρ => (fi ρ).bind fun ds => if ds.length ≤ sizeLine then (dcL h t fk fv (wipeE ρ zs) [] ds).bind fun kvs => .ok (.k kvs) else .bad
/-- what stands while a dict D is filled -/
structure DcI (K : PySem.W.Frag) (ca : Cn) (B G1 H1 : Hp) (D : Addr) (σw : L2.St) (ρw : Ev) (G : Hp) (acc : List (Key × Tk.D)) (vs : List (Key × V)) (H : Hp) : Prop where
  ext : Ext G1 H1 G H
  gD : G D = none
  hD : H D = some (.dK vs)
  at_ : AtK K ca G acc vs
  b : Same B H
  r : Rel K ca B G H σw ρw
section
variable {K : PySem.W.Frag} {ca : Cn} {B G1 H1 G H G' H' : Hp} {D : Addr} {σw : L2.St} {ρw : Ev} {acc : List (Key × Tk.D)} {vs : List (Key × V)}
theorem DcI.go (i : DcI K ca B G1 H1 D σw ρw G acc vs H) (x : Ext G H G' H') : DcI K ca B G1 H1 D σw ρw G' acc vs H' := by
  refine ⟨i.ext.trans x, ?_, x.hh _ _ i.hD, AtK.mono x.gg i.at_, i.b.trans x.hh, i.r.ext x⟩
  cases q : G' D with
  | none => rfl
  | some u =>
    rcases x.nw D (by rw [q]; simp) with z | z
    · exact absurd i.gD z
    · exact (z.no i.hD fun _ y => nomatch y).elim
theorem DcI.push (i : DcI K ca B G1 H1 D σw ρw G acc vs H) (n1 : H1 D = none) (nb : B D = none) (r1 : Rel K ca B G1 H1 σw ρw) {k : Key} {y : Tk.D} {v : V} (a : At K ca G y v) : DcI K ca B G1 H1 D σw ρw G (putG acc k y) (putK vs k v) (upd H D (.dK (putK vs k v))) := by
  have nD : ∀ c o, H1 c = some o → c ≠ D := fun c o q z => by rw [z, n1] at q; cases q
  have nG : ∀ c o, G c = some o → c ≠ D := fun c o q z => by rw [z, i.gD] at q; cases q
  have nB : ∀ c o, B c = some o → c ≠ D := fun c o q z => by rw [z, nb] at q; cases q
  refine ⟨⟨fun c o q => by rw [upd_ne (nD c o q)]; exact i.ext.hh c o q, i.ext.gg, fun c o q => by rw [upd_ne (nG c o q)]; exact i.ext.gh c o q, i.ext.nw⟩, i.gD, upd_same, i.at_.put a, fun c o q => by rw [upd_ne (nB c o q)]; exact i.b c o q, ⟨i.r.len, i.r.val, fun k s' q ho => ?_, i.r.sep, i.r.exc⟩⟩
  obtain ⟨a', t1, t2, t3, t4⟩ := i.r.own k s' q ho
  refine ⟨a', t1, t2.ext (.refl _) ?_, t3, t4⟩
  obtain ⟨a0, u1, u2, u3, u4⟩ := r1.own k s' q ho
  rw [t1] at u1
  cases u1
  obtain ⟨o, u5⟩ := u2.some
  rw [upd_ne (fun z => by rw [z, n1] at u5; cases u5)]
end
theorem putG_len {κ α : Type} [DecidableEq κ] (kvs : List (κ × α)) (k : κ) (v : α) : (putG kvs k v).length ≤ kvs.length + 1 := by
  unfold putG
  split
  · rw [List.length_map]; omega
  · rw [List.length_append]; exact Nat.le_refl _
section
variable {X : Cx} {ca : Cn} {W : WX} {zs : List Nat} {kx vx tg iter : Expr} {ifs : List Expr} {scope : Scope} {own : List (Str × Nat)} {pos : Pos} {fi : Ev → R (List D)} {h : Tg} {ft : Ev → R Bool} {fk fv : Ev → R D}
theorem fn_dc (hc : X.calm = true) (hN : X.N.Nodup) (hi : FI X ca W tg iter fi) (ok : BlkOk X.N X.env.scope scope own)
    (hg : ∀ (s : Shared) (H : Hp) (C : Addr) (cl : List (Str × Addr)) (fp : List Addr), FG (X.blk s H scope (compEnvC scope cl C X.env) fp) ca (own.map (·.2)) tg h) (ht : ∀ (s : Shared) (H : Hp) (C : Addr) (cl : List (Str × Addr)) (fp : List Addr), FTs (X.blk s H scope (compEnvC scope cl C X.env) fp) ca W0 ifs ft)
    (hk : ∀ (s : Shared) (H : Hp) (C : Addr) (cl : List (Str × Addr)) (fp : List Addr), FE (X.blk s H scope (compEnvC scope cl C X.env) fp) ca W0 kx fk)
    (he : ∀ (s : Shared) (H : Hp) (C : Addr) (cl : List (Str × Addr)) (fp : List Addr), FE (X.blk s H scope (compEnvC scope cl C X.env) fp) ca W0 vx fv) (hs : ∀ x, foldedSetIterable iter X.env x = pure x := by intro _; rfl) :
    FN X ca W (.DictComp kx vx [⟨tg, iter, ifs, 0⟩] scope pos) (nDc (own.map (·.2)) fi h ft fk fv) := by
  obtain ⟨tl, pl, ki⟩ := hi.ex
  refine ⟨_, pe_dc (g := tGc X.K ca (own.map (·.2)) h) (tt := tT X.K ca W0 ft) (tk := tE X.K ca W0 fk) (tv := tE X.K ca W0 fv) hc hN pl ok (fun s H C cl fp => (hg s H C cl fp).can) (fun s H C cl fp => (ht s H C cl fp).ex) (fun s H C cl fp => (hk s H C cl fp).can) (fun s H C cl fp => (he s H C cl fp).can) hs, fun B G H σ ρ Q s b r w => ?_⟩
  generalize own.map (·.2) = zs at *
  refine ki B G H σ ρ _ s b r (Wish.bind w fun ds G1 H1 _ x1 w1 J hj => ?_)
  intro D hD
  split at w1
  · rename_i hlen
    have gD : G1 D = none := same_none x1.gh hD
    have b1 := b.trans x1.hh
    have bD : B D = none := same_none b1 hD
    have r1 := (r.ext x1).wipe zs
    have e0 : Ext G1 H1 G1 (upd H1 D (.dK [])) := ⟨same_upd hD, .refl _, x1.gh.trans (same_upd hD), fun a z => .inl z⟩
    refine ⟨fun i m H => m = ds.length - i ∧ i ≤ ds.length ∧ ∃ G acc vs, acc.length ≤ i ∧ DcI X.K ca B G1 H1 D (L2.wipe σ zs) (wipeE ρ zs) G acc vs H ∧ Wish X.K ca (SN X.K ca _ Q) G1 H1 ((dcL h ft fk fv (wipeE ρ zs) acc (ds.drop i)).bind fun kvs => .ok (.k kvs)) (WE W σ),
      ⟨_, rfl, Nat.zero_le _, G1, [], [], Nat.le_refl _, ⟨e0, gD, upd_same, rfl, b1.trans e0.hh, r1.ext e0⟩, by rw [List.drop_zero]; exact w1⟩, ?_⟩
    rintro i m H2 ⟨rfl, hi, G2, acc, vs, la, I2, w2⟩
    obtain ⟨j1, j2⟩ := hj G2 H2 I2.ext.gg I2.ext.gh i
    by_cases hlt : i < ds.length
    · rw [List.drop_eq_getElem_cons hlt] at w2
      obtain ⟨go, yl⟩ := j1 ds[i] (by simp [hlt])
      refine .inr ⟨go, fun H' => ∃ G acc vs, acc.length ≤ i + 1 ∧ DcI X.K ca B G1 H1 D (L2.wipe σ zs) (wipeE ρ zs) G acc vs H' ∧ Wish X.K ca (SN X.K ca _ Q) G1 H1 ((dcL h ft fk fv (wipeE ρ zs) acc (ds.drop (i + 1))).bind fun kvs => .ok (.k kvs)) (WE W σ), fun H' q => ⟨ds.length - (i + 1), by omega, rfl, hlt, q⟩, fun x H3 yy => ?_⟩
      obtain ⟨G3, x3, a3⟩ := yl x H3 yy
      have I3 := I2.go x3
      have w3 : Wish X.K ca (SN X.K ca H Q) G1 H1 (((optR (h ds[i] (wipeE ρ zs))).bind fun ρ1 => (ft ρ1).quiet.bind fun b => if b = true then (fk ρ1).quiet.bind fun y => (fv ρ1).quiet.bind fun z => (optR (keyD y)).bind fun k => dcL h ft fk fv (wipeE ρ zs) (putG acc k z) (ds.drop (i + 1)) else dcL h ft fk fv (wipeE ρ zs) acc (ds.drop (i + 1))).bind fun kvs => .ok (.k kvs)) (WE W σ) := w2
      cases z1 : h ds[i] (wipeE ρ zs) with
      | none => rw [z1] at w3; exact w3.elim
      | some ρ1 =>
        rw [z1] at w3
        simp only [optR_some, bind_ok] at w3
        refine ⟨B, G3, wipeE ρ zs, ds[i], I3.ext.gh, I3.b, I3.r, a3, ρ1, z1, fun σ4 r4 e4 => ⟨e4.trans (wipe_idem σ zs), B, G3, ρ1, I3.ext.gh, I3.b, r4, ?_⟩⟩
        cases z2 : ft ρ1 with
        | exc x => simp only [z2] at w3; exact w3.elim
        | bad => simp only [z2] at w3; exact w3.elim
        | ok bb =>
          simp only [z2, quiet_ok, bind_ok] at w3
          intro G5 H5 x5
          show if bb = true then _ else _
          have I5 := I3.go x5
          cases bb with
          | false =>
            rw [if_neg Bool.false_ne_true] at w3 ⊢
            exact ⟨G5, acc, vs, by omega, I5, w3⟩
          | true =>
            rw [if_pos rfl] at w3 ⊢
            refine ⟨B, G5, ρ1, x5.gh, I5.b, r4.ext x5, ?_⟩
            cases z3 : fk ρ1 with
            | exc x => simp only [z3] at w3; exact w3.elim
            | bad => simp only [z3] at w3; exact w3.elim
            | ok y =>
              simp only [z3, quiet_ok, bind_ok] at w3
              intro G6 H6 x6 yv ya
              have I6 := I5.go x6
              refine ⟨B, G6, ρ1, x6.gh, I6.b, (r4.ext x5).ext x6, ?_⟩
              cases z4 : fv ρ1 with
              | exc x => simp only [z4] at w3; exact w3.elim
              | bad => simp only [z4] at w3; exact w3.elim
              | ok z =>
                simp only [z4, quiet_ok, bind_ok] at w3
                intro G7 H7 x7 zv za
                have I7 := I6.go x7
                cases z5 : keyD y with
                | none => rw [z5] at w3; exact w3.elim
                | some k =>
                  simp only [z5, optR_some, bind_ok] at w3
                  have hl := AtK.length I7.at_
                  have hp := putG_len acc k z
                  exact ⟨vs, k, key_at ya z5, I7.hD, by omega, G7, putG acc k z, putK vs k zv, by omega, I7.push hD bD r1 za, w3⟩
    · have e : i = ds.length := by omega
      subst e
      rw [List.drop_length] at w2
      have w3 : Wish X.K ca (SN X.K ca H Q) G1 H1 (.ok (.k acc)) (WE W σ) := w2
      exact .inl ⟨j2 rfl, (w3 G2 H2 I2.ext).2 D ⟨vs, I2.hD, I2.at_⟩ I2.gD (same_none x1.hh hD)⟩
  · exact w1.elim
end
/-! ### d.get(k), d.get(k, x) -/
def gGet2 : D → D → D → R D
  | .dK kvs, d, x => (optR (keyD d)).bind fun k => .ok ((getG kvs k).getD x)
  | .dT kvs, d, x => (optR (keyT d)).bind fun k => .ok ((getG kvs k).getD x)
  | _, _, _ => .bad
def isDict : D → Bool
  | .dK _ => true
  | .dT _ => true
  | _ => false
def eGet2 (fo fa fb : Ev → R D) : Ev → R D := fun ρ => (fo ρ).bind fun o => if isDict o = true then (fa ρ).bind fun a => (fb ρ).bind fun b => gGet2 o a b else .bad
def eGet1 (fo fa : Ev → R D) : Ev → R D := fun ρ => (fo ρ).bind fun o => if isDict o = true then (fa ρ).bind fun a => gGet2 o a .non else .bad
section
variable {X : Cx} {ca : Cn} {W : WX} {o e f : Expr} {fo fa fb : Ev → R D} {apos cpos : Pos}
theorem isDict_at {K : PySem.W.Frag} {G H : Hp} {d : D} {v : V} (s : Same G H) (h : isDict d = true) (a : At K ca G d v) : ∃ p, v = .ref p ∧ IsD H p := by
  cases d with
  | dK kvs => obtain ⟨p, vs, rfl, h1, _⟩ := a; exact ⟨p, rfl, .inl ⟨vs, Rd.mono s h1⟩⟩
  | dT kvs => obtain ⟨p, vs, rfl, h1, _⟩ := a; exact ⟨p, rfl, .inr ⟨vs, Rd.mono s h1⟩⟩
  | _ => cases h
theorem get_at {K : PySem.W.Frag} {G H : Hp} {d y x : D} {v yv xv : V} {Q : VK} {E : XK} (s : Same G H) (ad : At K ca G d v) (ay : At K ca G y yv) (ax : At K ca G x xv) (w : Wish K ca (SV K ca Q) G H (gGet2 d y x) E) : ∃ p o, v = .ref p ∧ DGet H p yv o ∧ Q (o.getD xv) H := by
  unfold gGet2 at w
  split at w
  · rename_i kvs
    obtain ⟨kk, e1, w⟩ := wish_opt w
    obtain ⟨p, vs, rfl, h1, h2⟩ := ad
    have g := h2.get kk
    rw [key_at ay e1]
    refine ⟨p, valV vs kk, rfl, .inl ⟨vs, kk, Rd.mono s h1, rfl, rfl⟩, ?_⟩
    cases z : getG kvs kk with
    | none =>
      rw [z] at g w
      have g2 : valV vs kk = none := g
      rw [g2]
      exact w.here s _ ax
    | some d =>
      rw [z] at g w
      obtain ⟨u, g1, g2⟩ := g
      have g3 : valV vs kk = some u := g1
      rw [g3]
      exact w.here s _ g2
  · rename_i kvs
    obtain ⟨kk, e1, w3⟩ := wish_opt w
    obtain ⟨p, vs, rfl, h1, h2⟩ := ad
    have g := h2.get kk
    have fin : Q ((valV vs kk).getD xv) H := by
      cases z : getG kvs kk with
      | none =>
        rw [z] at g w3
        have g2 : valV vs kk = none := g
        rw [g2]
        exact w3.here s _ ax
      | some d =>
        rw [z] at g w3
        obtain ⟨u, g1, g2⟩ := g
        have g3 : valV vs kk = some u := g1
        rw [g3]
        exact w3.here s _ g2
    unfold keyT at e1
    split at e1
    · obtain ⟨q, ws, rfl, t1, t2⟩ := ay
      have e3 := keys_at t2 e1
      subst e3
      exact ⟨p, _, rfl, .inr ⟨vs, kk, q, Rd.mono s h1, rfl, s q _ t1, rfl⟩, fin⟩
    · cases e1
  · exact w.elim
theorem fe_get2 (hu : X.A.units + 65 < cLine) (ho : FE X ca W o fo) (ha : FE X ca W e fa) (hb : FE X ca W f fb) (m : M2 X o "get" apos e f cpos := by exact ⟨rfl, rfl, rfl, rfl⟩) : FE X ca W (.Call (.Attribute o "get" apos) [e, f] [] cpos) (eGet2 fo fa fb) := by
  obtain ⟨to, po, ko⟩ := ho.ex
  obtain ⟨ta, pa, ka⟩ := ha.ex
  obtain ⟨tb, pb, kb⟩ := hb.ex
  refine ⟨_, pe_dget2 (by omega) po pa pb m, fun B G H σ ρ Q s b r h => ?_⟩
  refine ko B G H σ ρ _ s b r (Wish.bind h fun d G1 H1 _ x1 w1 v a1 => ?_)
  split at w1
  · rename_i hd
    obtain ⟨p, rfl, isd⟩ := isDict_at x1.gh hd a1
    refine ⟨p, rfl, isd, ka B G1 H1 σ ρ _ x1.gh (b.trans x1.hh) (r.ext x1) (Wish.bind w1 fun y G2 H2 _ x2 w2 yv ay => ?_)⟩
    refine kb B G2 H2 σ ρ _ x2.gh ((b.trans x1.hh).trans x2.hh) ((r.ext x1).ext x2) (Wish.bind w2 fun z G3 H3 _ x3 w3 zv az => ?_)
    obtain ⟨p', oo, ep, dg, q⟩ := get_at x3.gh (At.mono (x2.gg.trans x3.gg) a1) (At.mono x3.gg ay) az w3
    cases ep
    exact ⟨oo, dg, q⟩
  · exact w1.elim
theorem fe_get1 (hu : X.A.units + 65 < cLine) (ho : FE X ca W o fo) (ha : FE X ca W e fa) (m : M1 X o "get" apos e cpos := by exact ⟨rfl, rfl, rfl, rfl⟩) : FE X ca W (.Call (.Attribute o "get" apos) [e] [] cpos) (eGet1 fo fa) := by
  obtain ⟨to, po, ko⟩ := ho.ex
  obtain ⟨ta, pa, ka⟩ := ha.ex
  refine ⟨_, pe_dget1 (by omega) po pa m, fun B G H σ ρ Q s b r h => ?_⟩
  refine ko B G H σ ρ _ s b r (Wish.bind h fun d G1 H1 _ x1 w1 v a1 => ?_)
  split at w1
  · rename_i hd
    obtain ⟨p, rfl, isd⟩ := isDict_at x1.gh hd a1
    refine ⟨p, rfl, isd, ka B G1 H1 σ ρ _ x1.gh (b.trans x1.hh) (r.ext x1) (Wish.bind w1 fun y G2 H2 _ x2 w2 yv ay => ?_)⟩
    obtain ⟨p', oo, ep, dg, q⟩ := get_at (x := .non) (xv := .non) x2.gh (At.mono x2.gg a1) ay rfl w2
    cases ep
    exact ⟨oo, dg, q⟩
  · exact w1.elim
end
/-! ### new lists of plain things, the frame's own objects lent -/
theorem scals_at {K : PySem.W.Frag} {ca : Cn} {G G' : Hp} : ∀ {ds : List D} {vs : List V}, ds.all scalD = true → AtL K ca G ds vs → AtL K ca G' ds vs
  | [], _, _, a => by cases a; rfl
  | d :: ds, _, h, ⟨v, r, e, a, t⟩ => by
    rw [List.all_cons, Bool.and_eq_true] at h
    exact ⟨v, r, e, scal_at h.1 a, scals_at h.2 t⟩
def lBor (f : Ev → R (List D)) : Ev → R (List D) := fun ρ => (f (frzA ρ)).quiet.bind fun ds => if ds.all scalD = true then .ok ds else .bad
theorem fl_bor {X : Cx} {ca : Cn} {W : WX} {e : Expr} {f : Ev → R (List D)} (h : FL X ca W e f) : FL X ca W e (lBor f) := by
  obtain ⟨t, p, k⟩ := h.ex
  refine ⟨t, p, fun B G H σ ρ Q s b r w => k B H H σ _ Q (.refl H) b (r.frzA s) ?_⟩
  have w' : Wish X.K ca (fun G' ds H' => ∀ p vs, H p = none → G' p = none → H' p = some (.lst vs) → AtL X.K ca G' ds vs → Q (.ref p) H') G H ((f (frzA ρ)).quiet.bind fun ds => if ds.all scalD = true then .ok ds else .bad) (WE W σ) := w
  obtain ⟨ds, e1, w2⟩ := wish_quiet w'
  split at w2
  · rename_i hs
    show Wish X.K ca _ H H (f (frzA ρ)) (WE W σ)
    rw [e1]
    exact fun G' H' x p vs n g hq av => w2 G H' ⟨x.hh, .refl _, s.trans x.hh, fun a m => .inl m⟩ p vs n (same_none s n) hq (scals_at hs av)
  · exact w2.elim
theorem fs_setLcB {X : Cx} {ca : Cn} {W : WX} {elt tg iter : Expr} {ifs : List Expr} {scope : Scope} {own : List (Str × Nat)} {pos : Pos} {fi : Ev → R (List D)} {h : Tg} {ft : Ev → R Bool} {fe : Ev → R D} {i : Nat} {y : Str} {py spos : Pos} (hc : X.calm = true) (hN : X.N.Nodup) (hy : X.N[i]? = some y) (hyl : X.env.scope.names.lookup y = some .local) (hsw : swapsWith (.ListComp elt [⟨tg, iter, ifs, 0⟩] scope pos) (some (.Name y py)) spos.line X.env = pure true)
    (hi : FI X ca W tg iter fi) (ok : BlkOk X.N X.env.scope scope own)
    (hg : ∀ (s : Shared) (H : Hp) (C : Addr) (cl : List (Str × Addr)) (fp : List Addr), FG (X.blk s H scope (compEnvC scope cl C X.env) fp) ca (own.map (·.2)) tg h) (ht : ∀ (s : Shared) (H : Hp) (C : Addr) (cl : List (Str × Addr)) (fp : List Addr), FTs (X.blk s H scope (compEnvC scope cl C X.env) fp) ca W0 ifs ft)
    (he : ∀ (s : Shared) (H : Hp) (C : Addr) (cl : List (Str × Addr)) (fp : List Addr), FE (X.blk s H scope (compEnvC scope cl C X.env) fp) ca W0 elt fe) (hs : ∀ x, foldedSetIterable iter X.env x = pure x := by intro _; rfl) :
    FS X ca W (.Assign [.Name y py] (.ListComp elt [⟨tg, iter, ifs, 0⟩] scope pos) spos) (sOwnZ i (lBor (lLc (own.map (·.2)) fi h ft fe))) := by
  obtain ⟨tl, pl, ki⟩ := hi.ex
  refine ⟨_, ps_setLc (g := tGc X.K ca (own.map (·.2)) h) (tt := tT X.K ca W0 ft) (te := tE X.K ca W0 fe) hc hN hy hyl hsw pl ok (fun s H C cl fp => (hg s H C cl fp).can) (fun s H C cl fp => (ht s H C cl fp).ex) (fun s H C cl fp => (he s H C cl fp).can) hs, fun B G H σ ρ D s b r w => ?_⟩
  refine lc_tailF ki B H H σ (frzA ρ) H _ (.refl H) b (r.frzA s) (.refl H) ?_
  have w' : WishS X.K ca B G (SO.from ρ ((lLc (own.map (·.2)) fi h ft fe (frzA ρ)).quiet.bind fun ds => if ds.all scalD = true then .ok ds else .bad) fun ds => .nx (ρ.set i (.v (.lst ds)))) D W := w
  cases z : lLc (own.map (·.2)) fi h ft fe (frzA ρ) with
  | exc x => rw [z] at w'; exact w'.elim
  | bad => rw [z] at w'; exact w'.elim
  | ok ds =>
    rw [z, quiet_ok, bind_ok] at w'
    split at w'
    · rename_i hs
      have w2 : WishS X.K ca B G (.nx (ρ.set i (.v (.lst ds)))) D W := w'
      refine fun G' H' x q vs n g hq av => ?_
      have sc := scals_at (G' := G) hs av
      have gn := same_none s n
      have gh : Same (upd G q (.lst vs)) H' := fun c u e => by
        by_cases z : c = q
        · subst z; rw [upd_same] at e; rw [hq]; exact e
        · rw [upd_ne z] at e; exact x.hh _ _ (s c u e)
      have x2 : Ext G H (upd G q (.lst vs)) H' := ⟨x.hh, same_upd gn, gh, fun c m => by
        by_cases z : c = q
        · subst z; exact .inr (.inl n)
        · rw [upd_ne z] at m; exact .inl m⟩
      refine w2 _ (upd G q (.lst vs)) H' (x2.adv b) ((r.ext x2).set i ⟨q, vs, rfl, upd_same, AtL.mono (same_upd gn) sc⟩)
    · exact w'.elim
end Tk

namespace Tk
open PySem PySem.Spec L2 PyProof.Rows
/-! ### tuples that are known to have no dict: tuple(xs), len, in, index -/
theorem call_tuple_z {X : Cx} : CallR X (.type "tuple") (fun xs H Q => ∃ p ys, xs = [.ref p] ∧ SqL X.K H p ys ∧ ∀ l o, o.cls = .type "tuple" ∧ o.dict = none → H l = none → Q (.ref l) (upd H l (.frz o (.tup ys)))) := by
  intro pins s σ H xs us Q I r h
  obtain ⟨p, ys, rfl, hq, q⟩ := h
  obtain ⟨u, rfl, rx⟩ := vals1 r
  cases rx
  obtain ⟨its, r', pl, hz⟩ := I.list hq
  have hlen := r'.length
  refine call_tuple_list pl.isList (fun h' kp => ?_) (by simp only [List.size_toArray] <;> omega)
  have I1 : Inv X pins σ H { s with heap := h' } := I.kept (t' := s.toks) kp
  have I2 : Inv X pins σ (upd H h'.objs.size (.frz { cls := .type "tuple", data := .seq its.toArray } (.tup ys))) { s with heap := h'.push { cls := .type "tuple", data := .seq its.toArray } } :=
    I1.laid (t' := s.toks) (fun b o e => Heap.get?_push_of_some _ e) (Nat.le_refl _) (show ObjOk X.prog X.w _ _ _ (.frz _ (.tup ys)) from ⟨Heap.get?_push_size _ rfl, hz, its, r', IsTup.new _ _⟩)
  exact ⟨.ref h'.objs.size, _, I2, rfl, q _ _ ⟨rfl, rfl⟩ (I1.hok.fresh (Nat.le_refl _))⟩
def gTupZ : List D → R D
  | [.lst xs] => .ok (.tpz xs)
  | [.tpz xs] => .ok (.tpz xs)
  | _ => .bad
def rTupZ (K : PySem.W.Frag) : List V → Hp → VK → Prop := fun xs H Q => (∃ p ys, xs = [.ref p] ∧ SqL K H p ys ∧ ∀ l o, o.cls = .type "tuple" ∧ o.dict = none → H l = none → Q (.ref l) (upd H l (.frz o (.tup ys)))) ∨ ∃ p ys, xs = [.ref p] ∧ ((SqL K H p ys ∧ ∀ l, H l = none → Q (.ref l) (upd H l (.tup ys))) ∨ (SqT K H p ys ∧ Q (.ref p) H))
theorem call_tupZ {X : Cx} : CallR X (.type "tuple") (rTupZ X.K) := call_tuple_z.or call_tuple_of
section
variable {X : Cx} {ca : Cn} {W : WX} {e o : Expr} {es : List Expr} {fl : Ev → R (List D)} {fa fb fo : Ev → R D} {pos p apos cpos : Pos}
theorem vn_tupz : VN X ca (rTupZ X.K) gTupZ := by
  intro G H W1 xs ds Q s a w
  unfold gTupZ at w
  split at w
  · obtain ⟨v, rfl, q, vs, rfl, h1, h2⟩ := atl1 a
    refine .inl ⟨q, vs, rfl, .of (s _ _ h1), fun l o ho n => ?_⟩
    exact w _ _ (Ext.new s n) (.ref l) ⟨l, o, vs, rfl, ho, upd_same, AtL.mono (same_upd (same_none s n)) h2⟩
  · obtain ⟨v, rfl, p, o, vs, rfl, oo, h1, h2⟩ := atl1 a
    exact .inr ⟨p, vs, rfl, .inr ⟨.inl (.inr ⟨o, s _ _ h1⟩), w.here s _ ⟨p, o, vs, rfl, oo, h1, h2⟩⟩⟩
  · exact w.elim
theorem fe_tupz (T : BT X.mg) (ha : FA X ca W (e :: es) fl) (n : Nm X "tuple" e es pos := by exact ⟨rfl, rfl, rfl⟩) : FE X ca W (.Call (.Name "tuple" p) (e :: es) [] pos) (eA gTupZ fl) := fe_bty call_tupZ vn_tupz n.g T.tuple bb_tuple ha (by decide) (by decide) n.h n.p
def gLenZ : List D → R D
  | [.tpz xs] => .ok (.int xs.length)
  | _ => .bad
theorem tz {K : PySem.W.Frag} {G H : Hp} {a : Addr} {o : Obj} {vs : List V} (s : Same G H) (h : G a = some (.frz o (.tup vs))) : SqT K H a vs := .inl (.inr ⟨o, s _ _ h⟩)
theorem fe_lenZ (T : BT X.mg) (ha : FA X ca W (e :: es) fl) (n : Nm X "len" e es pos := by exact ⟨rfl, rfl, rfl⟩) : FE X ca W (.Call (.Name "len" p) (e :: es) [] pos) (eA gLenZ fl) := fe_blt call_len_seq (fun G H W1 xs ds Q s a w => by
  unfold gLenZ at w
  split at w
  · rename_i ys
    obtain ⟨v, rfl, q, ob, vs, rfl, ho, h1, h2⟩ := atl1 a
    have w2 : Wish X.K ca (SV X.K ca Q) G H (.ok (.int ys.length)) W1 := w
    rw [h2.length] at w2
    exact ⟨q, vs, rfl, .inr (tz s h1), w2.here s _ rfl⟩
  · exact w.elim) n.g T.len bb_len ha (by decide) (by decide) n.h n.p
def gInZ : D → D → R D
  | a, .tpz xs => if flatD a = true ∧ xs.all flatD = true then .ok (.bl (inV (toV a) (xs.map toV))) else .bad
  | _, _ => .bad
theorem v2_inZ : V2 X ca (rIn X.K false) gInZ := by
  intro G H W1 x y a b Q s ax ay w
  unfold gInZ at w
  split at w
  · obtain ⟨p, ob, vs, rfl, ho, h1, h2⟩ := ay
    split at w
    · rename_i z
      obtain ⟨e1, f1⟩ := toV_at z.1 ax
      obtain ⟨e2, f2⟩ := toV_all z.2 h2
      refine ⟨p, vs, rfl, .inr (tz s h1), f1, f2, ?_⟩
      rw [e1, e2]
      exact w.here s _ rfl
    · exact w.elim
  · exact w.elim
def strsOf : List D → Option (List Str)
  | [] => some []
  | .str z :: r => (strsOf r).map (z :: ·)
  | _ => none
theorem strs_at {K : PySem.W.Frag} {ca : Cn} {G : Hp} : ∀ {ds : List D} {vs : List V} {zs : List Str}, AtL K ca G ds vs → strsOf ds = some zs → vs = zs.map V.str
  | [], _, _, a, e => by cases a; cases e; rfl
  | d :: ds, _, zs, ⟨v, r, e0, a, t⟩, e => by
    cases d with
    | str z =>
      obtain ⟨ws, e1, rfl⟩ := Option.map_eq_some_iff.mp (show (strsOf ds).map (z :: ·) = some zs from e)
      cases a
      rw [e0, strs_at t e1]
      rfl
    | _ => cases e
def isZ : D → Bool
  | .tpz _ => true
  | _ => false
def gIdxZ (o : D) : List D → R D
  | [.str z] => (match o with
    | .tpz xs => (optR (strsOf xs)).bind fun ys => if ys.findIdx (fun y => decide (y = z)) < ys.length then .ok (.int ((ys.findIdx (fun y => decide (y = z)) : Nat) : Int)) else .bad
    | _ => .bad)
  | _ => .bad
def eIdxZ (fo : Ev → R D) (fl : Ev → R (List D)) : Ev → R D := fun ρ => (fo ρ).bind fun o => if isZ o = true then (fl ρ).bind fun ds => gIdxZ o ds else .bad
def tBMZ (T : String) (r : V → List V → Hp → VK → Prop) (to : TE) (t : TA) : TE := fun σ H Q => to σ H fun x H1 => (∃ p ob u, x = .ref p ∧ H1 p = some (.frz ob u) ∧ ob.cls = .type T ∧ ob.dict = none) ∧ t σ H1 fun xs H2 => r x xs H2 Q
theorem pe_bmZ {T id : String} {name : Str} {r : V → List V → Hp → VK → Prop} {to : TE} {t : TA} (pa : PlainAttrs T) (slot : Slot T name id) (hty : typeOf (.builtin id) = pure (.type "method_descriptor")) (hm : MtR X id r) (ho : PE X o to) (ha : PA X (e :: es) t)
    (hbase : attributeBase o name X.env (eval o X.env) = eval o X.env := by rfl)
    (hfew : ((backTo cpos (starEach (e :: es) X.env)).all (fun x => !x.1) && (backToKw cpos (keywordEach [] X.env)).all (fun x => x.1.isSome)
      && decide ((e :: es).length + ([] : List Keyword).length + (if ([] : List Keyword).isEmpty then 0 else 1) < 30)) = true := by rfl)
    (hline : (apos.endLine == cpos.line) = true := by rfl) (hs : starEach (e :: es) X.env = (false, eval e X.env) :: starEach es X.env := by rfl) (hplain : (backTo cpos (starEach es X.env)).any (·.1) = false := by rfl) :
    PE X (.Call (.Attribute o name apos) (e :: es) [] cpos) (tBMZ T r to t) := by
  refine ⟨fun pins s σ H Q I h => ?_⟩
  refine wpAny_Call_method_late hbase hfew hline rfl (thn (ho.run pins s σ H _ I h) fun v s1 ⟨x, H1, I1, r1, ty, q1⟩ => ?_)
  obtain ⟨p, ob, u, rfl, hp, hcl, hdi⟩ := ty
  cases r1
  have hg := (I1.hok p _ hp).1
  refine ⟨T, id, pa, slot, hty, ⟨ob, hg, hcl⟩, fun a e => by cases e; exact ⟨ob, hg, hdi⟩, ?_⟩
  have hA := ha.run cpos pins s1 σ H1 _ I1 q1
  rw [hs] at hA ⊢
  refine Calls.callWith_builtin (by show (false || (backTo cpos (starEach es X.env)).any (·.1)) = false; rw [hplain] <;> rfl) (Calls.evalArgs_plain ?_)
  exact thn hA fun us s2 ⟨vs, H2, I2, r2, q2⟩ => hm pins s2 σ H2 (.ref p) vs _ us Q I2 rfl r2 q2
theorem fe_indexZ (ho : FE X ca W o fo) (h : FA X ca W (e :: es) fl)
    (he : starEach (e :: es) X.env = (false, eval e X.env) :: starEach es X.env := by rfl) (hb : attributeBase o "index" X.env (eval o X.env) = eval o X.env := by rfl) (hw : ((backTo cpos (starEach (e :: es) X.env)).all (fun x => !x.1) && (backToKw cpos (keywordEach [] X.env)).all (fun x => x.1.isSome) && decide ((e :: es).length + ([] : List Keyword).length + (if ([] : List Keyword).isEmpty then 0 else 1) < 30)) = true := by rfl)
    (hl : (apos.endLine == cpos.line) = true := by rfl) (hpl : (backTo cpos (starEach es X.env)).any (·.1) = false := by rfl) : FE X ca W (.Call (.Attribute o "index" apos) (e :: es) [] cpos) (eIdxZ fo fl) := by
  obtain ⟨to, po, ko⟩ := ho.ex
  obtain ⟨t, p, k⟩ := h.ex
  refine ⟨_, pe_bmZ PySem.F.plainAttrs_tuple PySem.F.slot_tuple_index PySem.F.type_tuple_index mt_tup_index po p hb hw hl he hpl, fun B G H σ ρ Q s b r w => ?_⟩
  refine ko B G H σ ρ _ s b r (Wish.bind w fun d G1 H1 e1 x1 w1 v a1 => ?_)
  split at w1
  · rename_i hs
    cases d with
    | tpz xs =>
      obtain ⟨q, ob, vs, rfl, hob, h1, h2⟩ := a1
      refine ⟨⟨q, ob, _, rfl, x1.gh _ _ h1, hob.1, hob.2⟩, k B G1 H1 σ ρ _ x1.gh (b.trans x1.hh) (r.ext x1) (Wish.bind w1 fun ds G2 H2 _ x2 w2 ws a2 => ?_)⟩
      unfold gIdxZ at w2
      split at w2
      · rename_i z _
        obtain ⟨ys, ey, w4⟩ := wish_opt w2
        split at w4
        · rename_i hlt
          obtain ⟨u, rfl, a3⟩ := atl1 a2
          cases a3
          have ev := strs_at h2 ey
          subst ev
          refine ⟨q, ys, z, ys.findIdx (fun y => decide (y = z)), rfl, rfl, tz x2.gh (x2.gg _ _ h1), ?_, fun m hm hz => ?_, w4.here x2.gh _ rfl⟩
          · rw [List.getElem?_eq_getElem hlt]
            have := List.findIdx_getElem (p := fun y => decide (y = z)) (w := hlt)
            rw [of_decide_eq_true this]
          · have hml : m < ys.length := by omega
            rw [List.getElem?_eq_getElem hml] at hz
            have := List.not_of_lt_findIdx (p := fun y => decide (y = z)) (xs := ys) hm
            simp only [Option.some.injEq] at hz
            simp [hz] at this
        · exact w4.elim
      · exact w2.elim
    | _ => cases hs
  · exact w1.elim
end
end Tk

/-! sorted(xs), xs a list of lists of ints -/
namespace Tk
open PySem PySem.Spec L2 PyProof.Rows
def ltL : List Int → List Int → Bool
  | [], [] => false
  | [], _ :: _ => true
  | _ :: _, [] => false
  | a :: as, b :: bs => if a = b then ltL as bs else decide (a < b)
theorem ltL_cons (a b : Int) (as bs : List Int) : ltL (a :: as) (b :: bs) = if a = b then ltL as bs else decide (a < b) := rfl
theorem ltL_asym : ∀ x y : List Int, ltL x y = true → ltL y x = false
  | [], [], h => by cases h
  | [], _ :: _, _ => rfl
  | _ :: _, [], h => by cases h
  | a :: as, b :: bs, h => by
    rw [ltL_cons] at h ⊢
    by_cases z : a = b
    · rw [if_pos z] at h
      rw [if_pos z.symm]
      exact ltL_asym as bs h
    · rw [if_neg z] at h
      have := of_decide_eq_true h
      rw [if_neg (fun e => z e.symm)]
      exact decide_eq_false (by omega)
theorem ltL_tr : ∀ x y z : List Int, ltL y x = false → ltL z y = false → ltL z x = false
  | [], [], [], _, _ => rfl
  | [], [], _ :: _, _, h => h
  | [], _ :: _, [], h, _ => rfl
  | [], _ :: _, _ :: _, h, _ => rfl
  | _ :: _, [], _, h, _ => by cases h
  | _ :: _, _ :: _, [], _, h => by cases h
  | a :: as, b :: bs, c :: cs, h1, h2 => by
    rw [ltL_cons] at h1 h2 ⊢
    by_cases z1 : b = a
    · rw [if_pos z1] at h1
      by_cases z2 : c = b
      · rw [if_pos z2] at h2
        rw [if_pos (z2.trans z1)]
        exact ltL_tr as bs cs h1 h2
      · rw [if_neg z2] at h2
        rw [← z1, if_neg z2]
        exact h2
    · rw [if_neg z1] at h1
      have h1 := of_decide_eq_false h1
      by_cases z2 : c = b
      · rw [if_neg (by omega)]
        exact decide_eq_false (by omega)
      · rw [if_neg z2] at h2
        have h2 := of_decide_eq_false h2
        rw [if_neg (by omega)]
        exact decide_eq_false (by omega)
theorem ltL_anti : ∀ x y : List Int, ltL x y = false → ltL y x = false → x = y
  | [], [], _, _ => rfl
  | [], _ :: _, h, _ => by cases h
  | _ :: _, [], _, h => by cases h
  | a :: as, b :: bs, h1, h2 => by
    rw [ltL_cons] at h1 h2
    by_cases z : a = b
    · rw [if_pos z] at h1
      rw [if_pos z.symm] at h2
      rw [z, ltL_anti as bs h1 h2]
    · rw [if_neg z] at h1
      rw [if_neg (fun e => z e.symm)] at h2
      have := of_decide_eq_false h1
      have := of_decide_eq_false h2
      omega
theorem swo_L {α : Type} (k : α → List Int) : SrtO.Swo fun v u => ltL (k v) (k u) := ⟨fun x y => ltL_asym (k x) (k y), fun x y z => ltL_tr (k x) (k y) (k z)⟩
theorem first_map (e r : Nat → Bool) (fin : Bool) (f : Nat → Nat) : ∀ l : List Nat, SeqAt.firstLt e r fin (l.map f) = SeqAt.firstLt (fun j => e (f j)) (fun j => r (f j)) fin l
  | [] => rfl
  | j :: t => by
    have ih := first_map e r fin f t
    show (if e (f j) = true then SeqAt.firstLt e r fin (t.map f) else r (f j)) = (if e (f j) = true then SeqAt.firstLt (fun j => e (f j)) (fun j => r (f j)) fin t else r (f j))
    rw [ih]
theorem first_L : ∀ a b : List Int, SeqAt.firstLt (fun j => a.getD j 0 == b.getD j 0) (fun j => decide (a.getD j 0 < b.getD j 0)) (decide (a.length < b.length)) (List.range (min a.length b.length)) = ltL a b
  | [], [] => rfl
  | [], _ :: _ => by simp [SeqAt.firstLt, ltL]
  | _ :: _, [] => by simp [SeqAt.firstLt, ltL]
  | a :: as, b :: bs => by
    have e : min (a :: as).length (b :: bs).length = min as.length bs.length + 1 := by simp [Nat.succ_min_succ]
    have ih := first_L as bs
    rw [e, List.range_succ_eq_map, ltL_cons]
    show (if (a == b) = true then SeqAt.firstLt _ _ _ ((List.range _).map Nat.succ) else decide (a < b)) = _
    rw [first_map]
    by_cases z : a = b
    · rw [if_pos (beq_iff_eq.mpr z), if_pos z, ← ih]
      simp
    · rw [if_neg (fun q => z (beq_iff_eq.mp q)), if_neg z]
section
variable {prog : Program} {w : World} {A : Around} {s : Shared}
/-- a list of these ints -/
def IsLI (h : Heap) (v : Value) (ns : List Int) : Prop := ∃ a its, v = .ref a ∧ h.IsList a its ∧ IntsAre its.toList ns
theorem ints_get : ∀ {vs : List Value} {ns : List Int}, IntsAre vs ns → vs.length = ns.length ∧ ∀ j (h : j < vs.length), ∃ t, vs[j] = Value.int (ns.getD j 0) t
  | _, _, .nil => ⟨rfl, fun j h => absurd h (by simp)⟩
  | _, _, .cons n t r => by
    obtain ⟨h1, h2⟩ := ints_get r
    refine ⟨by simp [h1], fun j h => ?_⟩
    cases j with
    | zero => exact ⟨t, rfl⟩
    | succ j => exact h2 j (by simpa using h)
theorem li_lt {v u : Value} {ns ms : List Int} (hu : A.units < cLine) (hv : IsLI s.heap v ns) (hw : IsLI s.heap u ms) : wpAny (model prog w) A (oneLt' true v u) (fun r s' => s' = s ∧ r = ltL ns ms) (fun _ _ => False) s := by
  obtain ⟨a, xs, rfl, la, ia⟩ := hv
  obtain ⟨b, ys, rfl, lb, ib⟩ := hw
  obtain ⟨n1, g1⟩ := ints_get ia
  obtain ⟨n2, g2⟩ := ints_get ib
  rw [Array.length_toList] at n1 n2
  rw [oneLt'_eq]
  simp only [if_true]
  refine wpAny_bind (wpAny_cRoomFor hu ?_)
  obtain ⟨o, ho, hc, n, hd⟩ := id la
  refine wpAny_bind (wpAny_callSpecialIfBound?_slot (T := "list") ⟨o, ho, hc⟩ F.slot_list_lt (SeqAt.call_list_lt (e := fun j => ns.getD j 0 == ms.getD j 0) (r := fun j => decide (ns.getD j 0 < ms.getD j 0)) la lb (fun j h1 h2 => ?_) (fun j h1 h2 _ => ?_) ?_))
  · obtain ⟨t1, e1⟩ := g1 j (by rw [Array.length_toList]; exact h1)
    obtain ⟨t2, e2⟩ := g2 j (by rw [Array.length_toList]; exact h2)
    rw [Array.getElem_toList] at e1 e2
    rw [e1, e2]
    exact SeqAt.EqAt.int_int _ t1 _ t2
  · obtain ⟨t1, e1⟩ := g1 j (by rw [Array.length_toList]; exact h1)
    obtain ⟨t2, e2⟩ := g2 j (by rw [Array.length_toList]; exact h2)
    rw [Array.getElem_toList] at e1 e2
    rw [e1, e2]
    exact fun _ _ _ _ h => PyProof.Rows.lt_int h
  · refine wpAny_truthy_bool ⟨rfl, ?_⟩
    rw [n1, n2]
    exact first_L ns ms
theorem li_sortable {a : Addr} {vs : List Value} {k : Value → List Int} (hu : A.units < cLine) (h2 : 2 ≤ vs.length) (hp : ∀ v ∈ vs, IsLI s.heap v (k v) ∧ v ≠ .ref a) : SrtO.SortableO prog w A s a vs fun v u => ltL (k v) (k u) := by
  intro h' keep
  have hp' : ∀ v ∈ vs, IsLI h' v (k v) := fun v hm => by
    obtain ⟨⟨b, its, rfl, ⟨o, ho, r⟩, i⟩, ne⟩ := hp v hm
    exact ⟨b, its, rfl, ⟨o, keep b o (fun e => ne (by rw [e])) ho, r⟩, i⟩
  refine ⟨oneType', fun Q E hq => ?_, fun p q hm hm' => ?_⟩
  · refine PySem.W.kas_kind (T := .type "list") h2 (fun v hm => ?_) (by first | rfl | decide +kernel | decide) (by first | rfl | decide +kernel | decide) hq
    obtain ⟨b, its, rfl, ⟨o, ho, hc, _⟩, _⟩ := hp' v hm
    rw [← hc]
    exact (PySem.W.Looks.ld ho).andThen .now
  · show wpAny (model prog w) A (keyLt' oneType' p.1 q.1) (fun r s' => s' = { s with heap := h' } ∧ r = ltL (k p.1) (k q.1)) (fun _ _ => False) { s with heap := h' }
    rw [keyLt'_oneType]
    exact li_lt hu (hp' _ hm) (hp' _ hm')
theorem sorted_li {l : Addr} {vs : List Value} {k : Value → List Int} {E : Value → Shared → Prop} {Q : Value → Shared → Prop} (hu : A.units + 2 < cLine) (hl : s.heap.IsList l vs.toArray) (hz : vs.length ≤ sizeLine) (hp : ∀ v ∈ vs, IsLI s.heap v (k v))
    (h : ∀ (h' : Heap) (d : Addr) (out : List Value), SrtO.Srtd (fun v u => ltL (k v) (k u)) out → SrtO.Stb (fun v u => ltL (k v) (k u)) out vs → (∀ b o, s.heap.get? b = some o → h'.get? b = some o) → s.heap.objs.size ≤ d → (∃ n, h'.get? d = some (seqObj "list" out.toArray n)) → Q (.ref d) { s with heap := h' }) :
    wpAny (model prog w) A (call (.builtin "sorted") [.ref l]) Q E s := by
  refine SrtO.sorted_ord (swo_L k) hl hz (fun h2 h₁ a ha kk => ?_) fun out hs hb => ?_
  · refine li_sortable (s := { s with heap := h₁ }) (by show A.units + 1 + 1 < cLine; omega) h2 fun v hm => ?_
    obtain ⟨b, its, rfl, ⟨o, ho, r⟩, i⟩ := hp v hm
    obtain ⟨ne, ho'⟩ := kk b o ho
    exact ⟨⟨b, its, rfl, ⟨o, ho', r⟩, i⟩, fun e => ne (Value.ref.inj e)⟩
  · exact h _ _ out hs hb (fun b o e => PyProof.Rows.sortedAll_old e) (Nat.le_succ _) (PyProof.Rows.sortedAll_at s.heap vs out.toArray)
end
/-- sorted(xs), xs a list of lists of ints (k says which) -/
def rSortedLL (K : PySem.W.Frag) : List V → Hp → VK → Prop := fun vs H Q => ∃ (a : Addr) (xs : List V) (k : V → List Int), vs = [V.ref a] ∧ SqL K H a xs ∧ (∀ x ∈ xs, ∃ t, x = V.ref t ∧ H t = some (.lst ((k x).map V.int))) ∧
  ∀ ys p, SrtO.Srtd (fun v u => ltL (k v) (k u)) ys → SrtO.Stb (fun v u => ltL (k v) (k u)) ys xs → H p = none → Q (.ref p) (upd H p (.lst ys))
section
variable {X : Cx} {ca : Cn} {W : WX} {e : Expr} {es : List Expr} {fl : Ev → R (List D)} {p pos : Pos}
theorem cr_sortedLL (hu : X.A.units + 2 < cLine) : CallR X (.builtin "sorted") (rSortedLL X.K) := by
  intro pins s σ H vs us Q I r h
  obtain ⟨a, xs, k, rfl, hs, hx, q⟩ := h
  obtain ⟨its, rv, hl, hz⟩ := I.list hs
  obtain ⟨u, rfl, ru⟩ := vals1 r
  obtain rfl : u = Value.ref a := ru
  obtain ⟨e1, e2⟩ := refs_back rv fun x m => by
    obtain ⟨t, e, _⟩ := hx x m
    exact ⟨t, e⟩
  refine sorted_li (k := fun u => k (backV u)) hu hl.isList (by rw [← rv.length]; exact hz) (fun v hv => ?_) fun h' d out h1 h2 kp hd hn => ?_
  · obtain ⟨t, rfl⟩ := e2 v hv
    have hm : V.ref t ∈ xs := by rw [e1]; exact List.mem_map.mpr ⟨_, hv, rfl⟩
    obtain ⟨t', e, ht⟩ := hx _ hm
    cases e
    obtain ⟨_, its2, n, r2, ho⟩ := I.hok _ _ ht
    exact ⟨t, its2.toArray, rfl, ⟨_, ho, rfl, n, rfl⟩, r2.ints⟩
  · have h3 : ∀ u ∈ out, ∃ a, u = Value.ref a := fun u hu => e2 u (h2.perm.mem_iff.mp hu)
    obtain ⟨n, hn⟩ := hn
    have hb : SrtO.Stb (fun v u => ltL (k v) (k u)) (out.map backV) xs := by
      rw [e1]
      exact SrtO.Stb.map (swo_L k) backV h2
    refine ⟨.ref d, upd H d (.lst (out.map backV)), I.laid (t' := s.toks) kp hd ⟨?_, out, n, vals_back h3, hn⟩, rfl, q _ d (SrtO.srtd_map h1) hb (I.hok.fresh hd)⟩
    rw [hb.len]
    exact hz
def dL (r : List Int) : D := .lst (r.map .int)
def listOf : D → Option (List Int)
  | .lst xs => intsOf xs
  | _ => none
def listsOf : List D → Option (List (List Int))
  | [] => some []
  | d :: r => (listOf d).bind fun p => (listsOf r).map (p :: ·)
def srtL (ps : List (List Int)) : List (List Int) := ps.mergeSort fun p q => !ltL q p
def gSrtL : List D → R D
  | [.lst xs] => (optR (listsOf xs)).bind fun ps => .ok (.lst ((srtL ps).map dL))
  | _ => .bad
theorem srtL_uniq {ns ms : List (List Int)} (p : ms.Perm ns) (s : ms.Pairwise fun x y => ltL y x = false) : ms = srtL ns := by
  have p2 : (srtL ns).Perm ns := List.mergeSort_perm _ _
  have s2 : (srtL ns).Pairwise fun x y => (!ltL y x) = true := List.pairwise_mergeSort (fun a b c h1 h2 => by
    rw [Bool.not_eq_true'] at *
    exact ltL_tr a b c h1 h2) (fun a b => by
    cases h : ltL b a with
    | false => rfl
    | true => rw [ltL_asym b a h]; rfl) ns
  exact List.Perm.eq_of_pairwise (le := fun x y => ltL y x = false) (fun a b _ _ h1 h2 => ltL_anti a b h2 h1) s (s2.imp fun h => by rwa [Bool.not_eq_true'] at h) (p.trans p2.symm)
theorem listsOf_eq : ∀ {ds : List D} {ps : List (List Int)}, listsOf ds = some ps → ∀ {G : Hp} {vs : List V}, AtL X.K ca G ds vs → ∃ k : V → List Int, vs.map k = ps ∧ ∀ x ∈ vs, ∃ t, x = V.ref t ∧ G t = some (.lst ((k x).map V.int)) := by
  intro ds ps h G vs a
  refine ⟨fun x => match x with
    | .ref t => match G t with
      | some (.lst ys) => ys.map fun y => match y with
        | .int i => i
        | _ => 0
      | _ => []
    | _ => [], ?_⟩
  induction ds generalizing ps vs with
  | nil => cases h; cases a; exact ⟨rfl, fun x m => by cases m⟩
  | cons d r ih =>
    obtain ⟨p, h1, h2⟩ := Option.bind_eq_some_iff.mp (show (listOf d).bind (fun p => (listsOf r).map (p :: ·)) = some ps from h)
    obtain ⟨qs, h3, rfl⟩ := Option.map_eq_some_iff.mp h2
    obtain ⟨v, us, rfl, a1, a2⟩ := a
    obtain ⟨e1, e2⟩ := ih h3 a2
    cases d with
    | lst xs =>
      obtain ⟨t, ws, rfl, g, a3⟩ := a1
      have ew := intsOf_at (show intsOf xs = some p from h1) a3
      subst ew
      have mm : (p.map V.int).map (fun y => match y with
        | .int i => i
        | _ => 0) = p := by
        rw [List.map_map]
        exact (List.map_congr_left fun _ _ => rfl).trans (List.map_id p)
      refine ⟨?_, fun x m => ?_⟩
      · rw [List.map_cons, e1]
        simp only [g, mm]
      · rcases List.mem_cons.mp m with rfl | m
        · refine ⟨t, rfl, ?_⟩
          simp only [g, mm]
        · exact e2 x m
    | _ => cases h1
theorem at_lists {G : Hp} {k : V → List Int} : ∀ {vs : List V}, (∀ x ∈ vs, ∃ t, x = V.ref t ∧ G t = some (.lst ((k x).map V.int))) → AtL X.K ca G ((vs.map k).map dL) vs
  | [], _ => rfl
  | v :: vs, h => by
    obtain ⟨t, e, g⟩ := h v List.mem_cons_self
    exact ⟨v, vs, rfl, ⟨t, _, e, g, AtL.of_ints _⟩, at_lists fun x m => h x (List.mem_cons_of_mem _ m)⟩
theorem vn_srtL : VN X ca (rSortedLL X.K) gSrtL := by
  intro G H W1 xs ds Q s a w
  unfold gSrtL at w
  split at w
  · obtain ⟨v, rfl, p, vs, rfl, h1, h2⟩ := atl1 a
    obtain ⟨ps, e, w2⟩ := wish_opt w
    obtain ⟨k, e1, e2⟩ := listsOf_eq e h2
    refine ⟨p, vs, k, rfl, .of (s _ _ h1), fun x m => let ⟨t, z1, z2⟩ := e2 x m; ⟨t, z1, s _ _ z2⟩, fun ys q so sb n => ?_⟩
    have e3 : ys.map k = srtL ps := srtL_uniq (e1 ▸ sb.perm.map k) (List.pairwise_map.mpr so)
    have a3 : AtL X.K ca G ((ys.map k).map dL) ys := at_lists fun x m => e2 x (sb.perm.mem_iff.mp m)
    rw [e3] at a3
    exact new_lst s w2 a3 n
  · exact w.elim
theorem fe_sortedL (hu : X.A.units + 65 < cLine) (T : BT X.mg) (ha : FA X ca W (e :: es) fl) (n : Nm X "sorted" e es pos := by exact ⟨rfl, rfl, rfl⟩) : FE X ca W (.Call (.Name "sorted" p) (e :: es) [] pos) (eA gSrtL fl) := fe_blt (cr_sortedLL (by omega)) vn_srtL n.g T.sorted bb_sorted ha (by decide) (by decide) n.h n.p
/-! ### sum(xs), xs a tuple of ints -/
def rSumT (K : PySem.W.Frag) : List V → Hp → VK → Prop := fun vs H Q => ∃ (a : Addr) (ns : List Int), vs = [V.ref a] ∧ SqT K H a (ns.map V.int) ∧ Q (.int ns.sum) H
theorem cr_sumT (hc : X.calm = true) : CallR X (.builtin "sum") (rSumT X.K) := by
  intro pins s σ H vs us Q I r h
  obtain ⟨a, ns, rfl, hs, q⟩ := h
  obtain ⟨its, rv, hl, _⟩ := I.tuple hs
  rw [Vals.ref1 r]
  obtain ⟨xs, e⟩ := rv.ints.allInts.items
  have hn : numsOf (intItems xs).toList = ns := by rw [← e]; exact rv.ints.numsOf
  rw [nums_intItems] at hn
  rw [e] at hl
  refine PySem.W.ktm_sumG (I.ok.hd hc) hl fun h' tk t' hk => ?_
  rw [preSum_eq, List.take_of_length_le (by simp), hn]
  exact ⟨.int _, H, I.kept hk, ⟨_, rfl⟩, q⟩
def gSumT : List D → R D
  | [.tup xs] => (optR (intsOf xs)).bind fun ns => .ok (.int ns.sum)
  | _ => .bad
theorem vn_sumT : VN X ca (rSumT X.K) gSumT := by
  intro G H W1 xs ds Q s a w
  unfold gSumT at w
  split at w
  · obtain ⟨ns, e, w⟩ := wish_opt w
    obtain ⟨v, rfl, p, vs, rfl, h1, h2⟩ := atl1 a
    rw [intsOf_at e h2] at h1
    exact ⟨p, ns, rfl, tq s h1, w.here s _ rfl⟩
  · exact w.elim
theorem fe_sumT (T : BT X.mg) (ha : FA X ca W (e :: es) fl) (hc : X.calm = true := by rfl) (n : Nm X "sum" e es pos := by exact ⟨rfl, rfl, rfl⟩) : FE X ca W (.Call (.Name "sum" p) (e :: es) [] pos) (eA gSumT fl) := fe_blt (cr_sumT hc) vn_sumT n.g T.sum bb_sum ha (by decide) (by decide) n.h n.p
end
end Tk

/-! own objects lent to a call that hands out a new list of tuples and plain data -/
namespace Tk
open PySem PySem.Spec L2 PyProof.Rows
mutual
def tupD : D → Bool
  | .non => true
  | .bl _ => true
  | .int _ => true
  | .str _ => true
  | .tup xs => tupL xs
  | _ => false
def tupL : List D → Bool
  | [] => true
  | d :: ds => tupD d && tupL ds
end
def oBor (f : Ev → R Sl) : Ev → R Sl := fun ρ => (f (frzA ρ)).quiet.bind fun s => match s with
  | .l xs => if tupL xs = true then .ok (.l xs) else .bad
  | _ => .bad
section
variable {K : PySem.W.Frag} {ca : Cn} {B G H G' G2 H' : Hp} {σ : L2.St} {ρ : Ev}
def isTupH : HO → Prop
  | .tup _ => True
  | .frz _ (.tup _) => True
  | _ => False
mutual
theorem tupD_at (k : ∀ t o, G' t = some o → isTupH o → G2 t = some o) : ∀ {d : D} {v : V}, tupD d = true → At K ca G' d v → At K ca G2 d v
  | .non, v, _, a => a
  | .bl _, v, _, a => a
  | .int _, v, _, a => a
  | .str _, v, _, a => a
  | .tup xs, v, h, ⟨a, vs, e, q, r⟩ => by
    refine ⟨a, vs, e, ?_, tupL_at k h r⟩
    exact k a (.tup vs) q trivial
theorem tupL_at (k : ∀ t o, G' t = some o → isTupH o → G2 t = some o) : ∀ {ds : List D} {vs : List V}, tupL ds = true → AtL K ca G' ds vs → AtL K ca G2 ds vs
  | [], _, _, a => a
  | d :: ds, _, h, ⟨v, r, e, a, t⟩ => by
    have h' : (tupD d && tupL ds) = true := h
    rw [Bool.and_eq_true] at h'
    exact ⟨v, r, e, tupD_at k h'.1 a, tupL_at k h'.2 t⟩
end
theorem Own.notTup {a : Addr} {s : Sl} {o : HO} (h : Own K ca G H a s) (e : H a = Option.some o) : ¬ isTupH o := by
  cases s with
  | no => exact h.elim
  | x _ => exact h.elim
  | v d => exact h.elim
  | l xs => obtain ⟨vs, h1, h2⟩ := h; rw [h1] at e; cases e; exact id
  | k xs => obtain ⟨vs, h1, h2⟩ := h; rw [h1] at e; cases e; exact id
  | t xs => obtain ⟨vs, h1, h2⟩ := h; rw [h1] at e; cases e; exact id
  | o g c fs => obtain ⟨C, dx, vs, hg, h0, h1, h2⟩ := h; rw [h1] at e; cases e; exact id
/-- the addresses of the own objects -/
def ownAt (σ : L2.St) (ρ : Ev) (a : Addr) : Prop := ∃ (i : Nat) (s : Sl), ρ[i]? = some s ∧ s.own = true ∧ σ[i]? = some (some (V.ref a))
open Classical in
noncomputable def lendH (G H : Hp) (σ : L2.St) (ρ : Ev) : Hp := fun c => match G c with
  | some o => some o
  | none => if ownAt σ ρ c then H c else none
theorem lend_old (c : Addr) (o : HO) (e : G c = some o) : lendH G H σ ρ c = some o := by
  unfold lendH
  rw [e]
open Classical in
theorem lend_own {a : Addr} (e : G a = none) (h : ownAt σ ρ a) : lendH G H σ ρ a = H a := by
  unfold lendH
  rw [e]
  exact if_pos h
open Classical in
theorem lend_H (s : Same G H) : Same (lendH G H σ ρ) H := fun c o e => by
  unfold lendH at e
  cases z : G c with
  | some o' => rw [z] at e; cases e; exact s c _ z
  | none =>
    rw [z] at e
    have e : (if ownAt σ ρ c then H c else none) = some o := e
    split at e
    · exact e
    · cases e
open Classical in
theorem lend_in {c : Addr} (h : lendH G H σ ρ c ≠ none) : G c ≠ none ∨ (G c = none ∧ ownAt σ ρ c) := by
  cases z : G c with
  | some o => exact .inl (by simp)
  | none =>
    right
    refine ⟨rfl, ?_⟩
    unfold lendH at h
    rw [z] at h
    have h : (if ownAt σ ρ c then H c else none) ≠ none := h
    split at h
    · assumption
    · exact absurd rfl h
theorem Rel.lend (r : Rel K ca B G H σ ρ) (s : Same G H) : Rel K ca B (lendH G H σ ρ) H σ (Tk.frzA ρ) := by
  have no : ∀ (i : Nat) (t : Sl), (Tk.frzA ρ)[i]? = some t → t.own = true → False := fun i t q o => by
    unfold Tk.frzA at q
    rw [List.getElem?_map] at q
    obtain ⟨u, _, q2⟩ := Option.map_eq_some_iff.mp q
    rw [← q2, frz_not_own] at o
    cases o
  have gg : Same G (lendH G H σ ρ) := fun c o e => lend_old c o e
  refine ⟨by unfold Tk.frzA; rw [List.length_map]; exact r.len, fun i d q => ?_, fun i t q o => (no i t q o).elim, fun i j t u a q o => (no i t q o).elim, fun i x q => exc_mono r gg (frzA_x q)⟩
  unfold Tk.frzA at q
  rw [List.getElem?_map] at q
  obtain ⟨u, q1, q2⟩ := Option.map_eq_some_iff.mp q
  cases o : u.own with
  | false =>
    rw [frz_v o] at q2
    subst q2
    obtain ⟨v, h1, h2⟩ := r.val i d q1
    exact ⟨v, h1, At.mono gg h2⟩
  | true =>
    obtain ⟨a, h1, h2, h3, h4⟩ := r.own i u q1 o
    obtain ⟨d', e1, e2⟩ := h2.at_ gg (lend_own h3 ⟨i, u, q1, o, h1⟩)
    rw [e1] at q2
    cases q2
    exact ⟨_, h1, e2⟩
end
theorem fn_bor {X : Cx} {ca : Cn} {W : WX} {e : Expr} {f : Ev → R Sl} (h : FN X ca W e f) : FN X ca W e (oBor f) := by
  obtain ⟨t, p, k⟩ := h.ex
  refine ⟨t, p, fun B G H σ ρ Q s b r w => k B (lendH G H σ ρ) H σ _ Q (lend_H s) b (r.lend s) ?_⟩
  obtain ⟨sl, e1, w2⟩ := wish_quiet (show Wish X.K ca (SN X.K ca H Q) G H ((f (frzA ρ)).quiet.bind fun s => match s with
    | .l xs => if tupL xs = true then .ok (.l xs) else .bad
    | _ => .bad) (WE W σ) from w)
  cases sl with
  | l xs =>
    have w2 : Wish X.K ca (SN X.K ca H Q) G H (if tupL xs = true then .ok (.l xs) else .bad) (WE W σ) := w2
    split at w2
    · rename_i tl
      rw [e1]
      intro G' H' x
      refine ⟨rfl, fun a oa ga na => ?_⟩
      obtain ⟨vs, hv, av⟩ := oa
      -- the heap: what stood, and what is new
      let G2 : Hp := fun c => match G c with
        | some o => some o
        | none => @ite _ (Fre H c) (Classical.propDecidable _) (G' c) none
      have g2o : ∀ c o, G c = some o → G2 c = some o := fun c o e => by show (match G c with | some o => some o | none => _) = _; rw [e]
      have g2n : ∀ c, G c = none → Fre H c → G2 c = G' c := fun c e1 e2 => by
        show (match G c with | some o => some o | none => @ite _ (Fre H c) (Classical.propDecidable _) (G' c) none) = _
        rw [e1]
        exact if_pos e2
      have g2x : ∀ c, G c = none → ¬ Fre H c → G2 c = none := fun c e1 e2 => by
        show (match G c with | some o => some o | none => @ite _ (Fre H c) (Classical.propDecidable _) (G' c) none) = _
        rw [e1]
        exact if_neg e2
      have gH : Same G2 H' := fun c o e => by
        cases z : G c with
        | some o' =>
          rw [g2o c o' z] at e
          cases e
          exact x.hh _ _ (s _ _ z)
        | none =>
          by_cases y : Fre H c
          · rw [g2n c z y] at e
            exact x.gh _ _ e
          · rw [g2x c z y] at e; cases e
      have x2 : Ext G H G2 H' := ⟨x.hh, fun c o e => g2o c o e, gH, fun c m => by
        cases z : G c with
        | some o' => exact .inl (by simp)
        | none =>
          by_cases y : Fre H c
          · exact .inr y
          · exact absurd (g2x c z y) m⟩
      have kt : ∀ t o, G' t = some o → isTupH o → G2 t = some o := fun t o e ti => by
        rcases x.nw t (by rw [e]; simp) with n | n
        · rcases lend_in n with n | ⟨n, i, sl, q1, q2, q3⟩
          · cases z : G t with
            | none => exact absurd z n
            | some o' =>
              have := x.gg _ _ (lend_old (H := H) (σ := σ) (ρ := ρ) t o' z)
              rw [e] at this
              cases this
              exact g2o _ _ z
          · obtain ⟨a', h1, h2, h3, h4⟩ := r.own i sl q1 q2
            rw [q3] at h1
            cases h1
            obtain ⟨ob, h5⟩ := h2.some
            have h6 := x.gg _ _ ((lend_own (H := H) h3 ⟨i, sl, q1, q2, q3⟩).trans h5)
            rw [e] at h6
            cases h6
            exact absurd ti (h2.notTup h5)
        · cases z : G t with
          | none => rw [g2n t z n]; exact e
          | some o' =>
            have := x.gg _ _ (lend_old (H := H) (σ := σ) (ρ := ρ) t o' z)
            rw [e] at this
            cases this
            exact g2o _ _ z
      refine ((show SN X.K ca H Q G2 (.l xs) H' from w2 G2 H' x2)).2 a ⟨vs, hv, tupL_at kt tl av⟩ ?_ na
      rw [g2n a (same_none s na) (.inl na)]
      exact ga
    · exact w2.elim
  | _ => exact w2.elim
end Tk

set_option maxHeartbeats 2000000
namespace Tk
open PySem PySem.Spec L2 PyProof.Rows
/-! ### the end -/
/-- what the head gives for a law: its def keeps the mirror's promise -/
def LawOk (l : PySem.W.OpenLaw) (F : List D → R D) (k : Nat) (w : World) (mg : Str → Option Value) (fa : Addr) (h : Heap) : Prop :=
  ∃ (K : PySem.W.Frag) (fd : FuncData) (ca : Cn), K.In h ∧ (∀ (s : Shared) (u : Value), BindsTo s fd ⟨[u], []⟩ [("script", u)]) ∧ ∀ b : Heap, K.In b → b.Ns mainGlobals mg → FnOk l.prog w K mg b (L2.CX l.prog w) k fa fd ["script"] (spF K ca 1 F)
theorem law_walk {l : PySem.W.OpenLaw} {k : Nat} {q : Program} {loose : List Str} {XP : (Str → Option Value) → Heap → Prop} {YP : World → Heap → Prop} {d : DefRec} {F : List D → R D} (hn : l.most = some 63) (hdf : d.params.defaults = []) (hr : Room k callerA)
    (hF : ∀ (w : World) (mg : Str → Option Value) (fa : Addr) (h : Heap), YP w h → h.Ns mainGlobals mg → mg d.name = some (.ref fa) → LawOk l F k w mg fa h) (hl : ∀ ns : List Int, ns.length ≤ 63 → F [.scr ns] = .ok (.bl true)) :
    PySem.W.WalkO q loose XP YP l.row.toRowW d [] (fun f vs => PySem.call f vs) := by
  refine Att.attach_call hn hdf fun w s0 s1 mg mb fa o pm cd doc a vs ns G Y ho hd hcd hmg hobj hints hlen hg => ?_
  obtain ⟨K, fd, ca, KX, hb, go⟩ := hF w mg fa _ Y G.T.g hmg
  refine law_call KX G.T.g G.T.b G.T.builtins G.T.nolimit hg hobj hints (Nat.le_trans hlen (by decide)) hr go hb (fun H hO hS => ?_) fun H e s' z => let ⟨_, _, _, _, _, _, _, _, _, _, _, _, y⟩ := z; y
  refine ⟨rfl, H, [.scr ns], .refl H, ⟨_, [], rfl, ⟨a, rfl, hS⟩, rfl⟩, ?_⟩
  rw [hl ns hlen]
  exact fun G' H' _ v av => av
end Tk

set_option maxHeartbeats 2000000
namespace Tk
open PySem PySem.Spec L2 PyProof.Rows
/-! ### the head's facts, and one more Bool -/
abbrev AlM : Type := He.AlD × Bool
def obsM (n : Nat) (fa : List He.Fa) (fn : List He.DefD) (ex : PySem.W.Frag → Bool) (g : Addr → Option Obj) : AlM := (He.obsDG n fa fn g, ex (He.frG g (He.asD g n)))
def hookM (n : Nat) (fa : List He.Fa) (fn : List He.DefD) (ex : PySem.W.Frag → Bool) : PySem.W.Hook where
  α := AlM
  obs := fun s => obsM n fa fn ex s.heap.get?
  val := fun _ => (He.valD fn, true)
  says := fun _ h => ∃ K : PySem.W.Frag, K.In h ∧ He.SaysD fa fn K ∧ ex K = true
  of := fun _ _ e => ⟨_, He.frG_in, congrArg (fun z : AlM => z.1) e, congrArg (fun z : AlM => z.2) e⟩
  keeps := fun _ _ _ ⟨K, hK, c⟩ k => ⟨K, PySem.W.Frag.In.keeps hK k, c⟩
theorem obsM_eq {n : Nat} {fa : List He.Fa} {fn : List He.DefD} {ex : PySem.W.Frag → Bool} {g : Addr → Option Obj} {s : Shared} (h : ∀ a, g a = s.heap.get? a) : obsM n fa fn ex g = (hookM n fa fn ex).obs s := by
  have e : g = s.heap.get? := funext h
  rw [e] <;> rfl
structure SaysU (fa : List He.Fa) (fn : List He.DefD) (ex : PySem.W.Frag → Bool) (K : PySem.W.Frag) (mg : Str → Option Value) : Prop extends Says fa fn K mg where
  u : ex K = true
def clBody (s : Stmt) : List Stmt := match s with
  | .ClassDef _ _ _ b _ _ _ _ _ _ _ => b
  | _ => []
def clMeth (s : Stmt) (i : Nat) : Stmt := (clBody s).getD i (.Pass ⟨0, 0, 0, 0⟩)
section
variable {fa : List He.Fa} {fn : List He.DefD} {K : PySem.W.Frag} {mg : Str → Option Value} {ca : Cn} {c : Nat} {x m qual : Str} {st : Stmt} {dd : List D} {kd : List (Str × D)}
theorem Says.glo (T : Says fa fn K mg) (j : Nat) (hj : fa[j]? = some (.glo x) := by rfl) : mg x = some (.ref (He.ga K x)) := by
  obtain ⟨hp, X, G⟩ := T.h
  exact He.glo_ok X G (T.c.fact j hj)
/-- a class that is made: places of its facts mkr, glo, of its __init__ -/
theorem Says.clt (T : Says fa fn K mg) (jm jg i : Nat) (hc : ca.a c = some (He.ga K x)) (hm : fa[jm]? = some (.mkr x) := by rfl) (hg : fa[jg]? = some (.glo x) := by rfl) (hi : fn[i]? = some (dfD (x, some "__init__") "__init__" qual st dd kd) := by rfl) (h1 : dd.all flatD = true := by rfl) (h2 : (kd.map (·.2)).all flatD = true := by rfl) : ClAt K mg ca c x qual st dd kd := by
  obtain ⟨fd, F⟩ := T.fd i hi h1 h2
  exact ⟨_, fd, _, .of_flat F h1, He.mkr_ok (T.c.fact jm hm), hc, T.glo jg hg⟩
/-- a method: places of cls, meth, of its def -/
theorem Says.met (T : Says fa fn K mg) (jc jm i : Nat) (hc : ca.a c = some (He.ga K x)) (h0 : fa[jc]? = some (.cls x) := by rfl) (hm : fa[jm]? = some (.meth x m) := by rfl) (hi : fn[i]? = some (dfD (x, some m) m qual st dd kd) := by rfl) (h1 : dd.all flatD = true := by rfl) (h2 : (kd.map (·.2)).all flatD = true := by rfl) : MeAt K ca c m qual st dd kd := by
  obtain ⟨fd, F⟩ := T.fd i hi h1 h2
  exact ⟨_, fd, _, F, hc, He.cls_ok (T.c.fact jc h0), He.meth_ok (T.c.fact jm hm)⟩
theorem Says.fld (T : Says fa fn K mg) {C : Addr} (jc jn : Nat) {nm : Str} (e : He.ga K x = C) (h0 : fa[jc]? = some (.cls x) := by rfl) (hn : fa[jn]? = some (.noat x nm) := by rfl) : Cls K C ∧ NoAttr K C nm := by
  subst e
  exact ⟨He.cls_ok (T.c.fact jc h0), He.noat_ok (T.c.fact jn hn)⟩
end
/-! ### calls of __init__ and methods with defaults -/
section
variable {K : PySem.W.Frag} {ca : Cn} {x qual : Str} {params : Arguments} {body : List Stmt} {scope : Scope} {dd : List D} {kd : List (Str × D)} {f : Addr} {fd : FuncData} {ps : List Str}
theorem kbi_n (F : FunD K x qual params body scope [] (kwV kd) f fd) (n : Nat) (ks : List Str) (is : List Nat) (hp : ∀ i ∈ is, 1 ≤ i)
    (h : ∀ (kV doc pm : Value) (an : Option Addr) (cdv ct : Value) (us ws : List Value), us.length = n + 1 → ws.length = ks.length → bindArgs (PySem.W.fnOf x qual params body scope .none kV doc pm an cdv ct) ⟨us, ks.zip ws⟩ = pure (ps.zip (pickI (0 :: is) (us ++ ws)))) : KBI K ca fd ps n ks (gDk (is.map (· - 1)) []) := by
  obtain ⟨oc, od, dV, kV, doc, pm, an, cdv, ct, osl, rfl, lk, hcd, hD, hK⟩ := F.ex
  rcases hD with ⟨_, rfl⟩ | ⟨e, _⟩
  · exact kbi_of rfl .nil hp fun s us ws _ l1 l2 => BindsTo.of_eq (h kV doc pm an cdv ct us ws l1 l2)
  · exact absurd rfl e
theorem kbi_k (F : FunD K x qual params body scope [] (kwV kd) f fd) (n : Nat) (ks : List Str) (is : List Nat) (ms : List (Str × D)) (hp : ∀ i ∈ is, 1 ≤ i) (hk : kd ≠ []) (hms : ∀ q ∈ kwV ms, q ∈ kwV kd) (hf : (ms.map (·.2)).all flatD = true)
    (h : ∀ (D : Addr) (doc pm : Value) (an : Option Addr) (cdv ct : Value) (us mv ws : List Value), us.length = n + 1 → mv.length = ms.length → ws.length = ks.length →
      KwChain D ((ms.map (·.1)).zip mv) (bindArgs (PySem.W.fnOf x qual params body scope .none (.ref D) doc pm an cdv ct) ⟨us, ks.zip ws⟩) (ps.zip (pickI (0 :: is) (us ++ (mv ++ ws))))) : KBI K ca fd ps n ks (gDk (is.map (· - 1)) (ms.map (·.2))) := by
  obtain ⟨oc, od, dV, kV, doc, pm, an, cdv, ct, osl, rfl, lk, hcd, hD, hK⟩ := F.ex
  rcases hD with ⟨_, rfl⟩ | ⟨e, _⟩
  · rcases hK with e | ⟨D, rfl, hq⟩
    · exact absurd (List.map_eq_nil_iff.mp e) hk
    · obtain ⟨mv, hl, rk, hks⟩ := kwd_vals (ms := kwV ms) fun q hm => hq q (hms q hm)
      rw [List.length_map] at hl
      have e1 : (kwV ms).map (·.1) = ms.map (·.1) := by rw [List.map_map]; rfl
      have e2 : (kwV ms).map (·.2) = (ms.map (·.2)).map toV := by rw [List.map_map, List.map_map]; rfl
      rw [e1] at hks
      rw [e2] at rk
      exact kbi_of hf rk hp fun s us ws X l1 l2 => BindsTo.of_looks fun M => KwChain.looks X hks (h D doc pm an cdv ct us mv ws l1 hl l2)
  · exact absurd rfl e
theorem kbi_d (F : FunD K x qual params body scope (dd.map toV) (kwV kd) f fd) (n : Nat) (ks : List Str) (is : List Nat) (hp : ∀ i ∈ is, 1 ≤ i) (hd : dd ≠ []) (hf : dd.all flatD = true)
    (h : ∀ (T : Addr) (kV doc pm : Value) (an : Option Addr) (cdv ct : Value) (us its ws : List Value), us.length = n + 1 → its.length = dd.length → ws.length = ks.length →
      ∃ k, bindArgs (PySem.W.fnOf x qual params body scope (.ref T) kV doc pm an cdv ct) ⟨us, ks.zip ws⟩ = seqItems? (.ref T) >>= k ∧ k (some its.toArray) = pure (ps.zip (pickI (0 :: is) (us ++ (its ++ ws))))) : KBI K ca fd ps n ks (gDk (is.map (· - 1)) dd) := by
  obtain ⟨oc, od, dV, kV, doc, pm, an, cdv, ct, osl, rfl, lk, hcd, hD, hK⟩ := F.ex
  rcases hD with ⟨e, _⟩ | ⟨_, T, o, its, m, rfl, lT, oT, rT⟩
  · exact absurd (List.map_eq_nil_iff.mp e) hd
  · refine kbi_of hf rT hp fun s us ws X l1 l2 => ?_
    obtain ⟨k, e1, e2⟩ := h T kV doc pm an cdv ct us its ws l1 (by rw [← rT.length, List.length_map]) l2
    refine BindsTo.of_looks fun M => ?_
    rw [e1]
    exact looks_items X lT oT (.of_pure e2)
end
section
variable {K : PySem.W.Frag} {x qual : Str} {dd : List D} {kd : List (Str × D)} {f : Addr} {fd : FuncData} {ps : List Str}
theorem kbi_ofD {ca : Cn} {ks : List Str} {n : Nat} {is : List Nat} {mid : List D} {mv : List V} {its : List Value} (hm : ∀ G, AtL K ca G mid mv) (hv : Vals mv its) (hp : ∀ i ∈ is, 1 ≤ i)
    (to : ∀ (s : Shared) (us ws : List Value), K.In s.heap → us.length = n + 1 → ws.length = ks.length → BindsTo s fd ⟨us, ks.zip ws⟩ (ps.zip (pickI (0 :: is) (us ++ (its ++ ws))))) : KBI K ca fd ps n ks (gDk (is.map (· - 1)) mid) := by
  refine ⟨fun us ws => pickI (0 :: is) (us ++ (its ++ ws)), fun vs zs => pickI (0 :: is) (vs ++ (mv ++ zs)), ⟨to, fun r1 r2 => pick_vals (r1.append (hv.append r2)) (0 :: is)⟩, fun x vs zs => ⟨pickI (is.map (· - 1)) (vs ++ (mv ++ zs)), ?_, fun G ds ws a b => pick_at (a.append ((hm G).append b)) _⟩⟩
  show (match (x :: (vs ++ (mv ++ zs)))[0]? with | some a => a :: pickI is (x :: (vs ++ (mv ++ zs))) | none => pickI is (x :: (vs ++ (mv ++ zs)))) = _
  rw [List.getElem?_cons_zero, pick_shift x _ is hp]
/-- defaults, objects among them -/
theorem kbi_dD {ca : Cn} {st : Stmt} (F : FDI K qual st dd kd f fd) (n : Nat) (ks : List Str) (is : List Nat) (hp : ∀ i ∈ is, 1 ≤ i) (hd : dd ≠ [])
    (h : ∀ (T : Addr) (kV doc pm : Value) (an : Option Addr) (cdv ct : Value) (us its ws : List Value), us.length = n + 1 → its.length = dd.length → ws.length = ks.length →
      ∃ k, bindArgs (PySem.W.fnOf "__init__" qual (defArgs st) (defBody st) (defScope st) (.ref T) kV doc pm an cdv ct) ⟨us, ks.zip ws⟩ = seqItems? (.ref T) >>= k ∧ k (some its.toArray) = pure (ps.zip (pickI (0 :: is) (us ++ (its ++ ws))))) : KBI K ca fd ps n ks (gDk (is.map (· - 1)) dd) := by
  obtain ⟨dvs, F1, ad⟩ := F.ex
  have ld := (ad ca fun _ => none).length
  obtain ⟨oc, od, dV, kV, doc, pm, an, cdv, ct, osl, rfl, lk, hcd, hD, hK⟩ := F1.ex
  rcases hD with ⟨e, _⟩ | ⟨_, T, o, its, m, rfl, lT, oT, rT⟩
  · rw [e] at ld
    exact absurd (List.length_eq_zero_iff.mp ld) hd
  · refine kbi_ofD (ad ca) rT hp fun s us ws X l1 l2 => ?_
    obtain ⟨k, e1, e2⟩ := h T kV doc pm an cdv ct us its ws l1 (by rw [← rT.length, ld]) l2
    refine BindsTo.of_looks fun M => ?_
    rw [e1]
    exact looks_items X lT oT (.of_pure e2)
/-- .. and keyword-only ones -/
theorem kbi_dkD {ca : Cn} {st : Stmt} (F : FDI K qual st dd kd f fd) (n : Nat) (ks : List Str) (is : List Nat) (ms : List (Str × D)) (hp : ∀ i ∈ is, 1 ≤ i) (hd : dd ≠ []) (hk : kd ≠ []) (hms : ∀ q ∈ kwV ms, q ∈ kwV kd) (hf : (ms.map (·.2)).all flatD = true)
    (h : ∀ (T D : Addr) (doc pm : Value) (an : Option Addr) (cdv ct : Value) (us its mv ws : List Value), us.length = n + 1 → its.length = dd.length → mv.length = ms.length → ws.length = ks.length →
      ∃ k, bindArgs (PySem.W.fnOf "__init__" qual (defArgs st) (defBody st) (defScope st) (.ref T) (.ref D) doc pm an cdv ct) ⟨us, ks.zip ws⟩ = seqItems? (.ref T) >>= k ∧ KwChain D ((ms.map (·.1)).zip mv) (k (some its.toArray)) (ps.zip (pickI (0 :: is) (us ++ ((its ++ mv) ++ ws))))) : KBI K ca fd ps n ks (gDk (is.map (· - 1)) (dd ++ ms.map (·.2))) := by
  obtain ⟨dvs, F1, ad⟩ := F.ex
  have ld := (ad ca fun _ => none).length
  obtain ⟨oc, od, dV, kV, doc, pm, an, cdv, ct, osl, rfl, lk, hcd, hD, hK⟩ := F1.ex
  rcases hD with ⟨e, _⟩ | ⟨_, T, o, its, m, rfl, lT, oT, rT⟩
  · rw [e] at ld
    exact absurd (List.length_eq_zero_iff.mp ld) hd
  · rcases hK with e | ⟨D, rfl, hq⟩
    · exact absurd (List.map_eq_nil_iff.mp e) hk
    · obtain ⟨mv, hl, rk, hks⟩ := kwd_vals (ms := kwV ms) fun q hm => hq q (hms q hm)
      rw [List.length_map] at hl
      have e1 : (kwV ms).map (·.1) = ms.map (·.1) := by rw [List.map_map]; rfl
      have e2 : (kwV ms).map (·.2) = (ms.map (·.2)).map toV := by rw [List.map_map, List.map_map]; rfl
      rw [e1] at hks
      rw [e2] at rk
      refine kbi_ofD (its := its ++ mv) (mv := dvs ++ (ms.map (·.2)).map toV) (fun G => (ad ca G).append (flats_at hf)) (rT.append rk) hp fun s us ws X l1 l2 => ?_
      obtain ⟨k, e1, e2⟩ := h T D doc pm an cdv ct us its mv ws l1 (by rw [← rT.length, ld]) hl l2
      refine BindsTo.of_looks fun M => ?_
      rw [e1]
      exact looks_items X lT oT (KwChain.looks X hks e2)
/-! an __init__ among whose defaults stands () -/
def tp0B (K : PySem.W.Frag) (a : Addr) : Bool := match K.lookup a with
  | some ⟨c, _, .seq its _, _⟩ => c == .type "tuple" && its.isEmpty
  | _ => false
theorem tp0_at {K : PySem.W.Frag} {ca : Cn} {G : Hp} {a : Addr} (h : tp0B K a = true) : At K ca G .tp0 (.ref a) := by
  unfold tp0B at h
  split at h
  · rename_i c d its n sl q
    obtain ⟨h1, h2⟩ := Bool.and_eq_true_iff.mp h
    have hi : its = #[] := Array.isEmpty_iff.mp h2
    subst hi
    refine ⟨a, rfl, .inr ⟨_, #[], n, q, eq_of_beq h1, rfl, by simp, .nil⟩⟩
  · cases h
def dvI (x : Str) (i : Nat) : D → He.Dv
  | .tp0 => .adr (He.dflAt (x, some "__init__") i)
  | d => dvD d
def dvL (x : Str) (dd : List D) : List He.Dv := dd.zipIdx.map fun p => dvI x p.2 p.1
def dfDI (x qual : Str) (st : Stmt) (dd : List D) (kd : List (Str × D)) : He.DefD := ⟨(x, some "__init__"), "__init__", qual, defArgs st, defBody st, defScope st, dvL x dd, kd.map fun q => (q.1, dvD q.2)⟩
def okD : D → Bool
  | .tp0 => true
  | d => flatD d
theorem Says.cltD {fa : List He.Fa} {fn : List He.DefD} {mg : Str → Option Value} {ca : Cn} {c : Nat} {st : Stmt} (T : Says fa fn K mg) (jm jg i : Nat) (hc : ca.a c = some (He.ga K x)) (ht : ∀ p ∈ dd.zipIdx, p.1 = .tp0 → tp0B K (He.dflAt (x, some "__init__") p.2 K) = true) (hm : fa[jm]? = some (.mkr x) := by rfl) (hg : fa[jg]? = some (.glo x) := by rfl) (hi : fn[i]? = some (dfDI x qual st dd kd) := by rfl) (h1 : dd.all okD = true := by rfl) (h2 : (kd.map (·.2)).all flatD = true := by rfl) : ClAt K mg ca c x qual st dd kd := by
  obtain ⟨fd, F⟩ := T.c.def_ i hi
  have e2 : He.DefD.kws K (dfDI x qual st dd kd) = kwV kd := by
    show (kd.map fun q => (q.1, dvD q.2)).map (fun q => (q.1, q.2.v K)) = _
    rw [List.map_map]
    refine List.map_congr_left fun d m => ?_
    show (d.1, (dvD d.2).v K) = (d.1, toV d.2)
    rw [dv_eq (List.all_eq_true.mp h2 d.2 (List.mem_map.mpr ⟨d, m, rfl⟩))]
  rw [e2] at F
  refine ⟨_, fd, _, ⟨_, F, fun ca G => ?_⟩, He.mkr_ok (T.c.fact jm hm), hc, T.glo jg hg⟩
  show AtL K ca G dd ((dvL x dd).map (He.Dv.v K))
  have go : ∀ (l : List D) (k : Nat), (∀ p ∈ l.zipIdx k, p.1 = .tp0 → tp0B K (He.dflAt (x, some "__init__") p.2 K) = true) → l.all okD = true → AtL K ca G l (((l.zipIdx k).map fun p => dvI x p.2 p.1).map (He.Dv.v K)) := by
    intro l
    induction l with
    | nil => intro k _ _; rfl
    | cons d r ih =>
      intro k a b
      rw [List.all_cons, Bool.and_eq_true] at b
      rw [List.zipIdx_cons] at a ⊢
      refine ⟨_, _, rfl, ?_, ih (k + 1) (fun p m => a p (List.mem_cons_of_mem _ m)) b.2⟩
      by_cases z : d = .tp0
      · subst z
        exact tp0_at (a (.tp0, k) List.mem_cons_self rfl)
      · have hf : flatD d = true := by
          have := b.1
          cases d <;> first | exact this | exact (z rfl).elim
        have e : dvI x k d = dvD d := by cases d <;> first | rfl | exact (z rfl).elim
        show At K ca G d ((dvI x k d).v K)
        rw [e, dv_eq hf]
        exact flat_at hf
  exact go dd 0 ht h1
end
/-! ### the Bool's parts -/
def kitB2 (K : PySem.W.Frag) (cls : List Str) (x : Str) (tab : List (Kd × Bool)) : Bool := tab.all fun p => (match p.1 with
  | .ty n => decide (PySem.W.kitOne K (.type n) (.ref (He.ga K x)) = some p.2)
  | .cl c => (match cls[c]? with
    | some y => decide (PySem.W.kitOne K (.ref (He.ga K y)) (.ref (He.ga K x)) = some p.2)
    | none => false))
def insTyB (K : PySem.W.Frag) (x : Str) : Bool := He.eqO (PySem.W.findIn K (.ref (He.ga K x)) "__class__") (some (some (.builtin "object.__class__"))) && (He.eqO (PySem.W.specialIn K (.builtin "object.__class__") "__get__") (some (some (.builtin "getset_descriptor.__get__"))) && (decide (PySem.W.takesIn K (.builtin "object.__class__") = some true) && decide (PySem.W.mroIn K (He.ga K x) (.type "object") = some true)))
theorem insTy_ok {K : PySem.W.Frag} {x : Str} (c : Cls K (He.ga K x)) (h : insTyB K x = true) : InsTy K (He.ga K x) := by
  obtain ⟨h1, h⟩ := He.ba h
  obtain ⟨h2, h⟩ := He.ba h
  obtain ⟨h3, h4⟩ := He.ba h
  exact ⟨c, He.eqO_ok h1, He.eqO_ok h2, of_decide_eq_true h3, of_decide_eq_true h4⟩
theorem isi_ok {K : PySem.W.Frag} {ca : Cn} {cls : List Str} {x : Str} {tab : List (Kd × Bool)} (hca : ∀ c, ca.a c = cls[c]?.map (He.ga K)) (h : kitB2 K cls x tab = true) (hi : ∀ c y, cls[c]? = some y → (∃ b, (Kd.cl c, b) ∈ tab) → InsTy K (He.ga K y)) : IsiOk K ca (He.ga K x) tab := by
  refine ⟨fun p m => ?_, fun c C' e q => ?_⟩
  · have := List.all_eq_true.mp h p m
    obtain ⟨k, b⟩ := p
    cases k with
    | ty n => exact ⟨_, rfl, of_decide_eq_true this⟩
    | cl c =>
      have h2 : (match cls[c]? with
        | some y => decide (PySem.W.kitOne K (.ref (He.ga K y)) (.ref (He.ga K x)) = some b)
        | none => false) = true := this
      cases e : cls[c]? with
      | none => rw [e] at h2; cases h2
      | some y =>
        rw [e] at h2
        refine ⟨.ref (He.ga K y), ?_, of_decide_eq_true h2⟩
        show (ca.a c).map Value.ref = _
        rw [hca, e]
        rfl
  · rw [hca] at e
    obtain ⟨y, y1, y2⟩ := Option.map_eq_some_iff.mp e
    subst y2
    exact hi c y y1 q
end Tk

namespace Tk
open PySem PySem.Spec L2 PyProof.Rows
/-! ### the program's classes and attributes by number -/
def clsL : List Str := (["BrokenRow", "Calls", "Count", "Trial", "Desk", "HouseError", "Refused", "BadName", "DoubledName", "UnknownName", "UnknownPage", "BadNumber", "BadCount", "OtherNames", "NoLink", "BadLot", "BadBook", "BadText", "BadStanding", "NoMove", "NoDeed", "TooLarge", "BadTable", "BadPlan", "NotFull", "BadStep", "BadRow", "BadHolding", "BadCommand", "DeskOver"] : List Str) ++ (["MoveWaits", "NoMoveWaits", "PagesFollow", "NothingToUndo", "NothingToRedo", "Game", "Guests", "Habit", "House", "Least", "Links", "Moment", "Net", "Page", "Book", "Paper", "Table", "Plan", "Raising", "RuleDraft", "Draft", "Allotment", "Roll", "Rule", "TurnRule", "BidRule", "Step", "Longest", "Dearest", "Safest"] : List Str) ++ (["Over", "Wait", "Without", "ToldRound", "Tolls"] : List Str)
def fldL : List Str := (["price", "rounds", "fault", "calls", "total", "prices", "table", "order", "winner", "_desk", "_now", "_past", "_ahead", "_most", "name", "number", "size", "lot", "part", "place", "line", "standing", "move", "deed", "why", "_first", "_net", "offers", "aside", "steps"] : List Str) ++ (["members", "rules", "names", "book", "roll", "most", "_votes", "plans", "links", "house", "game", "paid", "places", "standings", "options", "bids", "wishers", "followers", "home", "starts", "_pages", "_rows", "_standings", "_by_standing", "first", "raises", "ways", "kind", "parts", "pages"] : List Str) ++ (["page_lines", "ballots", "takers", "rents", "limit", "barred", "deposit", "fee", "start", "_hands", "_barred_tolls", "weights", "hours", "guests", "_least", "_house", "_page", "_rule", "_candidates", "_takers", "_prices"] : List Str)
abbrev nF : Nat := 200
def cnL (K : PySem.W.Frag) : Cn := ⟨fun c => clsL[c]?.map (He.ga K), nmOf fldL, fun _ _ _ => False⟩
theorem fld_nd : fldL.Nodup := by decide +kernel
theorem fld_ne : Str.empty ∉ fldL := by decide +kernel
theorem nm_ne {l : List Str} {m : Str} (h : m ∉ l) (e : m ≠ Str.empty) (k : Nat) : nmOf l k ≠ m := fun z => by
  unfold nmOf at z
  rw [List.getD_eq_getElem?_getD] at z
  cases q : l[k]? with
  | none => rw [q] at z; exact e z.symm
  | some x => rw [q] at z; exact h (z ▸ List.mem_of_getElem? q)
def isT (yes no : List Nat) : List (Kd × Bool) := [(.ty "NoneType", false), (.ty "bool", false), (.ty "int", false), (.ty "str", false), (.ty "list", false), (.ty "tuple", false), (.ty "dict", false)] ++ (yes.map fun c => (.cl c, true)) ++ no.map fun c => (.cl c, false)
end Tk

/-! gcd of the module math, under its own name -/
namespace Tk
open PySem PySem.Spec L2 PyProof.Rows
/-- a name of the module that stands for a built-in function -/
def bltB (K : PySem.W.Frag) (x : Str) (id : String) : Bool := He.eqO (PySem.W.nsIn K mainGlobals x) (some (some (.builtin id)))
theorem Says.blt {fa : List He.Fa} {fn : List He.DefD} {K : PySem.W.Frag} {mg : Str → Option Value} {x : Str} {id : String} (T : Says fa fn K mg) (c : bltB K x id = true) : mg x = some (.builtin id) := by
  obtain ⟨hp, X, G⟩ := T.h
  exact PySem.W.mg_of X G (He.eqO_ok c)
def gGcd : List D → R D
  | [.int a, .int b] => .ok (.int ((Nat.gcd a.natAbs b.natAbs : Nat) : Int))
  | _ => .bad
section
variable {X : Cx} {ca : Cn} {W : WX} {e : Expr} {es : List Expr} {fl : Ev → R (List D)} {p pos : Pos}
theorem vn_gcd : VN X ca rGcd gGcd := by
  intro G H W1 xs ds Q s a w
  unfold gGcd at w
  split at w
  · obtain ⟨u, v, rfl, a1, a2⟩ := atl2 a
    cases a1
    cases a2
    exact ⟨_, _, rfl, w.here s _ rfl⟩
  · exact w.elim
theorem fe_gcd (hm : X.mg "gcd" = some (.builtin "math.gcd")) (ha : FA X ca W (e :: es) fl) (hg : Gl X "gcd" := by rfl)
    (he : starEach (e :: es) X.env = (false, eval e X.env) :: starEach es X.env := by rfl) (hpl : (backTo pos (starEach es X.env)).any (·.1) = false := by rfl) : FE X ca W (.Call (.Name "gcd" p) (e :: es) [] pos) (eA gGcd fl) := by
  obtain ⟨t, pa, kt⟩ := ha.ex
  refine ⟨_, pe_callBfun cr_gcd hg hm pa (by decide) he hpl, fun B G H σ ρ Q s b r h => ?_⟩
  exact kt B G H σ ρ _ s b r (Wish.bind h fun ds G1 H1 _ x1 w1 vs a1 => vn_gcd G1 H1 _ vs ds Q x1.gh a1 w1)
end
end Tk

/-! a == b, a an instance with an own __eq__ -/
namespace Tk
open PySem PySem.Spec L2 PyProof.Rows
/-- the classes that the other side may be of -/
def eqTys : List String := ["NoneType", "tuple", "str"]
def eqTyB (K : PySem.W.Frag) (C : Addr) : Bool := eqTys.all fun n => PySem.W.notFirst K C (.type n)
section
variable {X : Cx} {ca : Cn} {W : WX} {k j c nf : Nat} {qual : Str} {st : Stmt} {dd : List D} {kd : List (Str × D)} {ps : List Str} {Fn : List D → R D}
def yTy (C : Addr) (y : V) (H : Hp) : Prop := y = .non ∨ (∃ s, y = .str s) ∨ (∃ a vs, y = .ref a ∧ H a = some (.tup vs)) ∨ ∃ a dx fs, y = .ref a ∧ H a = some (.ins C dx fs)
def rOwn (K : PySem.W.Frag) (ca : Cn) (C : Addr) (n : Nat) (Fn : List D → R D) : R2 := fun x y H Q => ∃ p dx vs, x = .ref p ∧ H p = some (.ins C dx vs) ∧ yTy C y H ∧ spF K ca n Fn [x, y] H (fun v H' => (∃ b, v = .bl b) ∧ Q v H') (fun _ _ _ => False)
theorem op_own {f C : Addr} {fd : FuncData} (F : FnOk X.prog X.w X.K X.mg X.base (L2.CX X.prog X.w) k f fd ps (spF X.K ca ps.length Fn)) (hm : Meth X.K C "__eq__" f) (hr : Room k X.A) (hb : Binds X.K fd ps []) (ht : eqTyB X.K C = true) : OpR X (compareOp .Eq) (rOwn X.K ca C ps.length Fn) := by
  intro pins s σ H x y v u Q I rx ry hq
  obtain ⟨p, dx, vs, rfl, ha, hy, sp⟩ := hq
  cases rx
  obtain ⟨mA, J, _⟩ := ins_get I.hok ha
  obtain ⟨od, J, _⟩ := J.look
  obtain ⟨m, hF⟩ := I.fr
  have run : wpAny (model X.prog X.w) X.A (call (.ref f) [.ref p, u]) (EP X pins σ fun v H' => (∃ b, v = .bl b) ∧ Q v H') X.xe s :=
    run_fn (dvs := []) (ds := []) (us := [.ref p, u]) (vs := [.ref p, y]) (E := fun _ _ _ => False) F hr hb .nil (fun pins σ H s e s' I hq => by
      obtain ⟨_, _, _, _, _, _, _, _, _, _, _, _, hE⟩ := hq
      exact hE.elim) I (.cons rfl (.cons ry .nil)) sp
  have back : wpAny (model X.prog X.w) X.A (call (.ref f) [.ref p, u]) (PySem.W.CmpBack (EP X pins σ Q)) X.xe s := wpAny_mono run (fun r s' hq => by
    obtain ⟨z, H', I', rz, ⟨b, rfl⟩, q⟩ := hq
    cases rz
    exact ⟨.bl b, H', I', rfl, q⟩) fun _ _ e => e
  have nfT : ∀ n ∈ eqTys, PySem.W.notFirst X.K C (.type n) = true := fun n mn => List.all_eq_true.mp ht n mn
  show wpAny (model X.prog X.w) X.A (richCompare .Eq (.ref p) u) (EP X pins σ Q) X.xe s
  rcases hy with rfl | ⟨z, rfl⟩ | ⟨a, ws, rfl, ht2⟩ | ⟨a, dy, fs, rfl, hi⟩
  · cases ry
    exact PySem.W.cmp_K (op := .Eq) (tb := .type "NoneType") hr.units0 hF I.ok.mod.kin J .now (nfT _ (by decide)) hm.at_ hm.fn back
  · obtain ⟨t, rfl⟩ := ry
    exact PySem.W.cmp_K (op := .Eq) (tb := .type "str") hr.units0 hF I.ok.mod.kin J .now (nfT _ (by decide)) hm.at_ hm.fn back
  · cases ry
    obtain ⟨_, its, r2, o, ho, hc, n, hd⟩ := I.hok _ _ ht2
    refine PySem.W.cmp_K (op := .Eq) (tb := .type "tuple") hr.units0 hF I.ok.mod.kin J ?_ (nfT _ (by decide)) hm.at_ hm.fn back
    rw [← hc]
    exact (PySem.W.Looks.ld ho).andThen .now
  · cases ry
    obtain ⟨mB, J', _⟩ := ins_get I.hok hi
    obtain ⟨od', J', _⟩ := J'.look
    exact PySem.W.cmp_K (op := .Eq) (tb := .ref C) hr.units0 hF I.ok.mod.kin J J'.type (by simp [PySem.W.notFirst]) hm.at_ hm.fn back
def eqOk (c : Nat) : D → Bool
  | .non => true
  | .str _ => true
  | .tup _ => true
  | .ins c' _ => decide (c' = c)
  | _ => false
def isIns (c : Nat) : D → Bool
  | .ins c' _ => decide (c' = c)
  | _ => false
def gOwn (c : Nat) (Fn : List D → R D) (a b : D) : R D := if (isIns c a && eqOk c b) = true then (match Fn [a, b] with
  | .ok (.bl z) => .ok (.bl z)
  | _ => .bad) else .bad
theorem v2_own {C : Addr} {n : Nat} (hc : ca.a c = some C) (hn : n = 2) : V2 X ca (rOwn X.K ca C n Fn) (gOwn c Fn) := by
  intro G H W1 x y a b Q s ax ay w
  unfold gOwn at w
  split at w
  · rename_i hh
    obtain ⟨h1, h2⟩ := Bool.and_eq_true_iff.mp hh
    have hx : ∃ p dx vs, x = .ref p ∧ H p = some (.ins C dx vs) := by
      cases a with
      | ins c' fs =>
        have e : c' = c := of_decide_eq_true h1
        subst e
        obtain ⟨p, C', dx, vs, rfl, q1, q2, q3⟩ := ax
        rw [hc] at q1
        cases q1
        exact ⟨p, dx, vs, rfl, s _ _ q2⟩
      | _ => cases h1
    have hy : yTy C y H := by
      cases b with
      | non => cases ay; exact .inl rfl
      | str z => cases ay; exact .inr (.inl ⟨_, rfl⟩)
      | tup xs =>
        obtain ⟨p, vs, rfl, q, r⟩ := ay
        exact .inr (.inr (.inl ⟨p, vs, rfl, s p _ q⟩))
      | ins c' fs =>
        have e : c' = c := of_decide_eq_true h2
        subst e
        obtain ⟨p, C', dx, vs, rfl, q1, q2, q3⟩ := ay
        rw [hc] at q1
        cases q1
        exact .inr (.inr (.inr ⟨p, dx, vs, rfl, s _ _ q2⟩))
      | _ => cases h2
    split at w
    · rename_i z ez
      obtain ⟨p, dx, vs, e1, e2⟩ := hx
      refine ⟨p, dx, vs, e1, e2, hy, hn.symm, G, [a, b], s, ⟨x, [y], rfl, ax, y, [], rfl, ay, rfl⟩, ?_⟩
      rw [ez]
      exact fun G' H' x' v av => ⟨⟨z, av⟩, w G' H' x' v av⟩
    · exact w.elim
  · exact w.elim
theorem fe_own {a b : Expr} {fa fb : Ev → R D} {pos : Pos} {C : Addr} (d : DefM X.prog X.w X.K X.mg X.base ca k c "__eq__" qual st dd kd ps Fn) (hc : ca.a c = some C) (ht : eqTyB X.K C = true) (hb : ∀ {f fd}, FD X.K "__eq__" qual st dd kd f fd → Binds X.K fd ps []) (hr : Room j X.A) (ha : FE X ca W a fa) (hbb : FE X ca W b fb) (hk : k ≤ j := by decide) (hn : ps.length = 2 := by rfl) (hm : behindInMarks .Eq b = false := by rfl) : FE X ca W (.Compare a [.Eq] [b] pos) (e2 (gOwn c Fn) fa fb) := by
  obtain ⟨f, fd, C', F, q1, cl, me, fdp⟩ := d.ex
  rw [hc] at q1
  cases q1
  exact fe_cmp (op_own F me (hr.mono hk) (hb fdp) ht) (v2_own hc hn) hm ha hbb
/-! ### tuple(range(n)) -/
def rgL (n : Int) : List Int := (List.range n.toNat).map fun (k : Nat) => (k : Int)
def eTupR (fa : Ev → R D) : Ev → R D := fun ρ => (fa ρ).bind fun d => match d with
  | .int n => if 0 ≤ n ∧ n ≤ 100000 then .ok (.tup ((rgL n).map .int)) else .bad
  | _ => .bad
theorem rgV_eq (n : Int) : rgV 0 n = (rgL n).map V.int := by
  unfold rgV rgL
  rw [List.map_map, Int.sub_zero]
  refine List.map_congr_left fun k _ => ?_
  rw [Int.zero_add]
  rfl
theorem fe_tupR {e : Expr} {fa : Ev → R D} {p p2 pos pos2 : Pos} (T : BT X.mg) (ha : FE X ca W e fa) (hc : X.calm = true := by rfl) (hg : Gl X "tuple" := by rfl) (hg2 : Gl X "range" := by rfl) (na : starEach [.Call (.Name "range" p2) [e] [] pos2] X.env = (false, eval (.Call (.Name "range" p2) [e] [] pos2) X.env) :: starEach [] X.env := by rfl) (na2 : starEach [e] X.env = (false, eval e X.env) :: starEach [] X.env := by rfl) : FE X ca W (.Call (.Name "tuple" p) [.Call (.Name "range" p2) [e] [] pos2] [] pos) (eTupR fa) := by
  obtain ⟨t, pa, k⟩ := ha.ex
  refine ⟨_, pe_tupRg hc hg T.tuple (prg_1 hg2 T.range pa na2) na, fun B G H σ ρ Q s b r h => k B G H σ ρ _ s b r (Wish.bind h fun d G1 H1 _ x1 w1 v av => ?_)⟩
  cases d with
  | int n =>
    cases av
    have w1 : Wish X.K ca (SV X.K ca Q) G1 H1 (if 0 ≤ n ∧ n ≤ 100000 then .ok (.tup ((rgL n).map .int)) else .bad) (WE W σ) := w1
    split at w1
    · rename_i hn
      refine ⟨n, rfl, RgOk.of_le (Int.le_refl 0) (by omega) (by decide) hn.1, fun q hq => ?_⟩
      rw [rgV_eq]
      exact new_tup x1.gh w1 (AtL.of_ints _) hq
    · exact w1.elim
  | _ => exact w1.elim
end
end Tk

/-! own objects lent to an expression that makes an instance of tuples and plain data -/
namespace Tk
open PySem PySem.Spec L2 PyProof.Rows
def tupF : List (Nat × D) → Bool
  | [] => true
  | p :: ps => tupD p.2 && tupF ps
def insT : D → Bool
  | .ins _ fs => tupF fs
  | d => tupD d
def noO : Ev → Bool
  | [] => true
  | .o _ _ _ :: _ => false
  | _ :: ρ => noO ρ
theorem noO_mem : ∀ {ρ : Ev} {i : Nat} {g : Option Addr} {c : Nat} {fs : List (Nat × D)}, noO ρ = true → ρ[i]? = some (.o g c fs) → False
  | s :: ρ, 0, g, c, fs, h, e => by
    cases e
    cases h
  | s :: ρ, i + 1, g, c, fs, h, e => by
    have h2 : noO ρ = true := by
      cases s <;> first | exact h | cases h
    exact noO_mem h2 (by simpa using e)
def eBorT (f : Ev → R D) : Ev → R D := fun ρ => (f (frzA ρ)).quiet.bind fun d => if (insT d && noO ρ) = true then .ok d else .bad
section
variable {K : PySem.W.Frag} {ca : Cn} {B G H G' G2 H' : Hp} {σ : L2.St} {ρ : Ev}
def isIT : HO → Prop
  | .ins _ _ _ => True
  | o => isTupH o
theorem tup_it {o : HO} (h : isTupH o) : isIT o := by
  cases o <;> first | exact h | exact trivial | exact h.elim
theorem tupF_at (k : ∀ t o, G' t = some o → isTupH o → G2 t = some o) : ∀ {fs : List (Nat × D)} {vs : List (Str × V)}, tupF fs = true → AtF K ca G' fs vs → AtF K ca G2 fs vs
  | [], _, _, a => a
  | (f, d) :: fs, _, h, ⟨v, r, e, a, t⟩ => by
    have h' : (tupD d && tupF fs) = true := h
    rw [Bool.and_eq_true] at h'
    exact ⟨v, r, e, tupD_at k h'.1 a, tupF_at k h'.2 t⟩
theorem insT_at (k : ∀ t o, G' t = some o → isIT o → G2 t = some o) {d : D} {v : V} (h : insT d = true) (a : At K ca G' d v) : At K ca G2 d v := by
  have k2 : ∀ t o, G' t = some o → isTupH o → G2 t = some o := fun t o e i => k t o e (tup_it i)
  cases d with
  | ins c fs =>
    obtain ⟨p, C, dx, vs, rfl, q1, q2, q3⟩ := a
    exact ⟨p, C, dx, vs, rfl, q1, k _ _ q2 trivial, tupF_at k2 h q3⟩
  | _ => exact tupD_at k2 h a
theorem Own.notIT {a : Addr} {s : Sl} {o : HO} (h : Own K ca G H a s) (e : H a = Option.some o) (no : ∀ g c fs, s ≠ .o g c fs) : ¬ isIT o := by
  cases s with
  | no => exact h.elim
  | x _ => exact h.elim
  | v d => exact h.elim
  | l xs => obtain ⟨vs, h1, h2⟩ := h; rw [h1] at e; cases e; exact id
  | k xs => obtain ⟨vs, h1, h2⟩ := h; rw [h1] at e; cases e; exact id
  | t xs => obtain ⟨vs, h1, h2⟩ := h; rw [h1] at e; cases e; exact id
  | o g c fs => exact (no g c fs rfl).elim
end
theorem fe_borT {X : Cx} {ca : Cn} {W : WX} {e : Expr} {f : Ev → R D} (h : FE X ca W e f) : FE X ca W e (eBorT f) := by
  obtain ⟨t, p, k⟩ := h.ex
  refine ⟨t, p, fun B G H σ ρ Q s b r w => k B (lendH G H σ ρ) H σ _ Q (lend_H s) b (r.lend s) ?_⟩
  obtain ⟨d, e1, w2⟩ := wish_quiet (show Wish X.K ca (SV X.K ca Q) G H ((f (frzA ρ)).quiet.bind fun d => if (insT d && noO ρ) = true then .ok d else .bad) (WE W σ) from w)
  split at w2
  · rename_i hh
    obtain ⟨tl, nO⟩ := Bool.and_eq_true_iff.mp hh
    rw [e1]
    intro G' H' x v av
    let G2 : Hp := fun c => match G c with
      | some o => some o
      | none => @ite _ (Fre H c) (Classical.propDecidable _) (G' c) none
    have g2o : ∀ c o, G c = some o → G2 c = some o := fun c o e => by show (match G c with | some o => some o | none => _) = _; rw [e]
    have g2n : ∀ c, G c = none → Fre H c → G2 c = G' c := fun c e1 e2 => by
      show (match G c with | some o => some o | none => @ite _ (Fre H c) (Classical.propDecidable _) (G' c) none) = _
      rw [e1]
      exact if_pos e2
    have g2x : ∀ c, G c = none → ¬ Fre H c → G2 c = none := fun c e1 e2 => by
      show (match G c with | some o => some o | none => @ite _ (Fre H c) (Classical.propDecidable _) (G' c) none) = _
      rw [e1]
      exact if_neg e2
    have gH : Same G2 H' := fun c o e => by
      cases z : G c with
      | some o' =>
        rw [g2o c o' z] at e
        cases e
        exact x.hh _ _ (s _ _ z)
      | none =>
        by_cases y : Fre H c
        · rw [g2n c z y] at e
          exact x.gh _ _ e
        · rw [g2x c z y] at e; cases e
    have x2 : Ext G H G2 H' := ⟨x.hh, fun c o e => g2o c o e, gH, fun c m => by
      cases z : G c with
      | some o' => exact .inl (by simp)
      | none =>
        by_cases y : Fre H c
        · exact .inr y
        · exact absurd (g2x c z y) m⟩
    have kt : ∀ t o, G' t = some o → isIT o → G2 t = some o := fun t o e ti => by
      rcases x.nw t (by rw [e]; simp) with n | n
      · rcases lend_in n with n | ⟨n, i, sl, q1, q2, q3⟩
        · cases z : G t with
          | none => exact absurd z n
          | some o' =>
            have := x.gg _ _ (lend_old (H := H) (σ := σ) (ρ := ρ) t o' z)
            rw [e] at this
            cases this
            exact g2o _ _ z
        · obtain ⟨a', h1, h2, h3, h4⟩ := r.own i sl q1 q2
          rw [q3] at h1
          cases h1
          obtain ⟨ob, h5⟩ := h2.some
          have h6 := x.gg _ _ ((lend_own (H := H) h3 ⟨i, sl, q1, q2, q3⟩).trans h5)
          rw [e] at h6
          cases h6
          exact absurd ti (h2.notIT h5 fun g c fs es => by subst es; exact noO_mem nO q1)
      · cases z : G t with
        | none => rw [g2n t z n]; exact e
        | some o' =>
          have := x.gg _ _ (lend_old (H := H) (σ := σ) (ρ := ρ) t o' z)
          rw [e] at this
          cases this
          exact g2o _ _ z
    exact w2 G2 H' x2 v (insT_at kt tl av)
  · exact w2.elim
end Tk

/-! own dunder methods: len(o), o[i], x in o, a op b -/
namespace Tk
open PySem PySem.Spec L2 PyProof.Rows
section
variable {X : Cx} {ca : Cn} {W : WX} {k j c : Nat} {qual m : Str} {st : Stmt} {dd : List D} {kd : List (Str × D)} {ps : List Str} {Fn : List D → R D}
/-- the callee runs, somewhere below the frame -/
theorem run_at {A1 : Around} {f : Addr} {fd : FuncData} {sp : Sp} {E : XK} {pins : List (Addr × Obj)} {σ : L2.St} {H : Hp} {s : Shared} {Q : VK} {us : List Value} {vs : List V} (F : FnOk X.prog X.w X.K X.mg X.base (L2.CX X.prog X.w) k f fd ps sp)
    (hr : Room k A1) (hf : A1.frames = X.A.frames) (hb : Binds X.K fd ps []) (hx : PassesAt (L2.CX X.prog X.w) X σ E) (I : Inv X pins σ H s) (rv : Vals vs us) (h : sp vs H Q E) : wpAny (model X.prog X.w) A1 (call (.ref f) us) (EP X pins σ Q) X.xe s := by
  have e0 := I.env0
  have e1 : Env0 X.prog X.w X.K X.mg X.base A1 X.stack s H := { frames := hf.trans e0.frames, mod := e0.mod, bs := e0.bs, bsz := e0.bsz, funs := e0.funs, frf := e0.frf, hok := e0.hok, bare := e0.bare }
  have hn : (us ++ []).length = ps.length := by rw [List.append_nil, ← rv.length]; exact F.len vs H Q E h
  have bt := hb s us I.kIn hn
  rw [List.append_nil] at bt
  have go := F.run A1 X.stack s H ⟨us, []⟩ us vs Q E hr e1 bt rv h
  refine wpAny_call (codeAny_mono go fun r s1 hq => ?_)
  rcases r with e | fl
  · exact hx pins H s e s1 I hq
  · cases fl with
    | ret u => exact I.after hq
    | _ => exact hq.elim
/-- what a dunder of an instance of the class c gives -/
def gDun (c : Nat) (Fn : List D → R D) (a b : D) : R D := if isIns c a = true then Fn [a, b] else .bad
def R.ins (c : Nat) : R D → R D
  | .ok d => if isIns c d = true then .ok d else .bad
  | .exc x => .exc x
  | .bad => .bad
def gDun2 (c : Nat) (Fn : List D → R D) (a b : D) : R D := if (isIns c a && isIns c b) = true then R.ins c (Fn [a, b]) else .bad
def R.b (neg : Bool) : R D → R D
  | .ok (.bl z) => .ok (.bl (xor neg z))
  | .exc x => .exc x
  | _ => .bad
def gDunIn (c : Nat) (neg : Bool) (Fn : List D → R D) (a b : D) : R D := if isIns c b = true then R.b neg (Fn [b, a]) else .bad
def R.len : R D → R D
  | .ok (.int n) => if 0 ≤ n ∧ n < 2 ^ 63 then .ok (.int n) else .bad
  | _ => .bad
def gDunLen (c : Nat) (Fn : List D → R D) : List D → R D
  | [a] => if isIns c a = true then R.len (Fn [a]) else .bad
  | _ => .bad
theorem isIns_at {K : PySem.W.Frag} {G : Hp} {a : D} {x : V} {C : Addr} (hc : ca.a c = some C) (h : isIns c a = true) (ax : At K ca G a x) : ∃ p dx vs, x = .ref p ∧ G p = some (.ins C dx vs) := by
  cases a with
  | ins c' fs =>
    have e : c' = c := of_decide_eq_true h
    subst e
    obtain ⟨p, C', dx, vs, rfl, q1, q2, q3⟩ := ax
    rw [hc] at q1
    cases q1
    exact ⟨p, dx, vs, rfl, q2⟩
  | _ => cases h
theorem FunD.fnIn {K : PySem.W.Frag} {x qual : Str} {params : Arguments} {body : List Stmt} {scope : Scope} {dvs : List V} {kws : List (Str × V)} {f : Addr} {fd : FuncData} (F : FunD K x qual params body scope dvs kws f fd) : PySem.W.fnIn K f = true := by
  obtain ⟨oc, od, dV, kV, doc, pm, an, cdv, ct, osl, rfl, lk, _⟩ := F.ex
  unfold PySem.W.fnIn
  rw [lk]
/-- o[i] -/
theorem fe_subO {a b : Expr} {fa fb : Ev → R D} {pos : Pos} (d : DefM X.prog X.w X.K X.mg X.base ca k c "__getitem__" qual st dd kd ps Fn) (hb : ∀ {f fd}, FD X.K "__getitem__" qual st dd kd f fd → Binds X.K fd ps []) (hr : Room j X.A) (tk : Takes X W)
    (ha : FE X ca W a fa) (hbb : FE X ca W b fb) (hk : k + 1 ≤ j := by decide) (hn : ps.length = 2 := by rfl)
    (hs : ∀ v i, subscripted b true v i = runValue (.builtin "lifetime.subscript" ⟨[v, i], []⟩) := by intro v i; with_unfolding_all rfl) : FE X ca W (.Subscript a b pos) (e2 (gDun c Fn) fa fb) := by
  obtain ⟨f, fd, C, F, hc, cl, hm, h2⟩ := d.ex
  obtain ⟨ta, pa, ka⟩ := ha.ex
  obtain ⟨tb, pb, kb⟩ := hbb.ex
  refine ⟨fun σ H Q => ta σ H fun x H1 => tb σ H1 fun y H2 => ∃ p dx vs, x = .ref p ∧ H2 p = some (.ins C dx vs) ∧ spF X.K ca ps.length Fn [x, y] H2 Q (WE W σ), ⟨fun pins s σ H Q I h => ?_⟩, fun B G H σ ρ Q s b r h => ?_⟩
  · refine Subscript_ (binT pa pb I h fun v u s2 x y H2 I2 rx ry q => ?_)
    obtain ⟨p, dx, vs, rfl, e, sp⟩ := q
    cases rx
    obtain ⟨mA, J, _⟩ := ins_get I2.hok e
    obtain ⟨od, J, _⟩ := J.look
    obtain ⟨mm, hF⟩ := I2.fr
    refine PySem.W.sub_K hF I2.ok.mod.kin J hm.at_ (FunD.fnIn h2) hm.fn ?_ (hs _ _)
    exact run_at (us := [.ref p, u]) (vs := [.ref p, y]) F ((hr.mono hk).in1) rfl (hb h2) (passAt tk σ) I2 (.cons rfl (.cons ry .nil)) sp
  · refine ka B G H σ ρ _ s b r (Wish.bind h fun d1 G1 H1 _ x1 w1 v av => ?_)
    refine kb B G1 H1 σ ρ _ x1.gh (b.trans x1.hh) (r.ext x1) (Wish.bind w1 fun d2 G2 H2 _ x2 w2 v2 a2 => ?_)
    unfold gDun at w2
    split at w2
    · rename_i hi
      obtain ⟨p, dx, vs, rfl, g1⟩ := isIns_at hc hi (At.mono x2.gg av)
      exact ⟨p, dx, vs, rfl, x2.gh _ _ g1, hn.symm, G2, [d1, d2], x2.gh, ⟨_, _, rfl, At.mono x2.gg av, _, _, rfl, a2, rfl⟩, w2⟩
    · exact w2.elim
/-- a op b, both of the class c -/
theorem fe_opO {a b : Expr} {fa fb : Ev → R D} {pos : Pos} {op : Operator} (d : DefM X.prog X.w X.K X.mg X.base ca k c (PySem.dunder op.info.2) qual st dd kd ps Fn) (hself : ∀ C, ca.a c = some C → PySem.W.selfFirst X.K C = true) (hb : ∀ {f fd}, FD X.K (PySem.dunder op.info.2) qual st dd kd f fd → Binds X.K fd ps []) (hr : Room j X.A) (tk : Takes X W)
    (ha : FE X ca W a fa) (hbb : FE X ca W b fb) (hk : k ≤ j := by decide) (hn : ps.length = 2 := by rfl) : FE X ca W (.BinOp a op b pos) (e2 (gDun2 c Fn) fa fb) := by
  obtain ⟨f, fd, C, F, hc, cl, hm, h2⟩ := d.ex
  obtain ⟨ta, pa, ka⟩ := ha.ex
  obtain ⟨tb, pb, kb⟩ := hbb.ex
  refine ⟨fun σ H Q => ta σ H fun x H1 => tb σ H1 fun y H2 => ∃ p dx vs q dy us, x = .ref p ∧ H2 p = some (.ins C dx vs) ∧ y = .ref q ∧ H2 q = some (.ins C dy us) ∧ spF X.K ca ps.length Fn [x, y] H2 (fun v H' => (∃ z, v = .ref z) ∧ Q v H') (WE W σ), ⟨fun pins s σ H Q I h => ?_⟩, fun B G H σ ρ Q s b r h => ?_⟩
  · refine wpAny_BinOp (binT pa pb I h fun v u s2 x y H2 I2 rx ry q => ?_)
    obtain ⟨p, dx, vs, q, dy, us, rfl, e, rfl, e', sp⟩ := q
    cases rx
    cases ry
    obtain ⟨mA, J, _⟩ := ins_get I2.hok e
    obtain ⟨od, J, _⟩ := J.look
    obtain ⟨mB, J', _⟩ := ins_get I2.hok e'
    obtain ⟨od', J', _⟩ := J'.look
    obtain ⟨mm, hF⟩ := I2.fr
    refine PySem.W.binop_K hF I2.ok.mod.kin J J'.type (hself C hc) hm.at_ hm.fn ?_
    refine wpAny_mono (run_at (us := [.ref p, .ref q]) (vs := [.ref p, .ref q]) F (hr.mono hk) rfl (hb h2) (passAt tk σ) I2 (.cons rfl (.cons rfl .nil)) sp) (fun w s' hq => ?_) fun _ _ e => e
    obtain ⟨z, H', I', rz, ⟨a', rfl⟩, q⟩ := hq
    cases rz
    exact ⟨.ref a', H', I', rfl, q⟩
  · refine ka B G H σ ρ _ s b r (Wish.bind h fun d1 G1 H1 _ x1 w1 v av => ?_)
    refine kb B G1 H1 σ ρ _ x1.gh (b.trans x1.hh) (r.ext x1) (Wish.bind w1 fun d2 G2 H2 _ x2 w2 v2 a2 => ?_)
    unfold gDun2 at w2
    split at w2
    · rename_i hi
      obtain ⟨hi1, hi2⟩ := Bool.and_eq_true_iff.mp hi
      obtain ⟨p, dx, vs, rfl, g1⟩ := isIns_at hc hi1 (At.mono x2.gg av)
      obtain ⟨q, dy, us, rfl, g2⟩ := isIns_at hc hi2 a2
      refine ⟨p, dx, vs, q, dy, us, rfl, x2.gh _ _ g1, rfl, x2.gh _ _ g2, hn.symm, G2, [d1, d2], x2.gh, ⟨_, _, rfl, At.mono x2.gg av, _, _, rfl, a2, rfl⟩, ?_⟩
      cases e : Fn [d1, d2] with
      | ok d =>
        rw [e] at w2
        have w3 : Wish X.K ca (SV X.K ca Q) G2 H2 (if isIns c d = true then .ok d else .bad) (WE W σ) := w2
        split at w3
        · rename_i hi
          intro G' H' x' v av'
          refine ⟨?_, w3 G' H' x' v av'⟩
          obtain ⟨z, _, _, rfl, _⟩ := isIns_at hc hi av'
          exact ⟨z, rfl⟩
        · exact w3.elim
      | exc x => rw [e] at w2; exact w2
      | bad => rw [e] at w2; exact w2
    · exact w2.elim
theorem passNone {X : Cx} (σ : L2.St) : PassesAt (L2.CX X.prog X.w) X σ (fun _ _ _ => False) := fun pins H s e s' I c => by
  obtain ⟨_, _, _, _, _, _, _, _, _, _, _, _, hE⟩ := c
  exact hE.elim
/-- len(o) -/
theorem fe_lenO {e : Expr} {fl : Ev → R (List D)} {p pos : Pos} (T : BT X.mg) (d : DefM X.prog X.w X.K X.mg X.base ca k c "__len__" qual st dd kd ps Fn) (hb : ∀ {f fd}, FD X.K "__len__" qual st dd kd f fd → Binds X.K fd ps []) (hr : Room j X.A)
    (ha : FA X ca W [e] fl) (hk : k + 1 ≤ j := by decide) (hn : ps.length = 1 := by rfl) (nm : Nm X "len" e [] pos := by exact ⟨rfl, rfl, rfl⟩) : FE X ca W (.Call (.Name "len" p) [e] [] pos) (eA (gDunLen c Fn) fl) := by
  obtain ⟨f, fd, C, F, hc, cl, hm, h2⟩ := d.ex
  refine fe_blt (r := fun xs H Q => ∃ a dx vs, xs = [.ref a] ∧ H a = some (.ins C dx vs) ∧ spF X.K ca ps.length Fn [.ref a] H (fun v H' => ∃ n, v = .int n ∧ (0 ≤ n ∧ n < 2 ^ 63) ∧ Q (.int n) H') fun _ _ _ => False) ?_ ?_ nm.g T.len bb_len ha (by decide) (by decide) nm.h nm.p
  · intro pins s σ H xs us Q I rv h
    obtain ⟨a, dx, vs, rfl, e, sp⟩ := h
    obtain ⟨u, rfl, ru⟩ := rv.one
    cases ru
    obtain ⟨mA, J, _⟩ := ins_get I.hok e
    obtain ⟨od, J, _⟩ := J.look
    obtain ⟨mm, hF⟩ := I.fr
    refine PySem.W.len_K hF I.ok.mod.kin J hm.at_ hm.fn (wpAny_mono (run_at (us := [.ref a]) (vs := [.ref a]) F (hr.mono hk).in1 rfl (hb h2) (passNone σ) I (.cons rfl .nil) sp) (fun w s' hq => ?_) fun _ _ e => e)
    obtain ⟨z, H', I', rz, n, rfl, hn, q⟩ := hq
    obtain ⟨t, rfl⟩ := rz
    exact ⟨hn, .int n, H', I'.tok _, ⟨_, rfl⟩, q⟩
  · intro G H W1 xs ds Q s a w
    unfold gDunLen at w
    split at w
    · rename_i d0
      split at w
      · rename_i hi
        obtain ⟨v, rfl, av⟩ := atl1 a
        obtain ⟨p, dx, vs, rfl, g1⟩ := isIns_at hc hi av
        refine ⟨p, dx, vs, rfl, s _ _ g1, hn.symm, G, [d0], s, ⟨_, _, rfl, av, rfl⟩, ?_⟩
        cases e : Fn [d0] with
        | ok d =>
          rw [e] at w
          cases d with
          | int n =>
            have w3 : Wish X.K ca (SV X.K ca Q) G H (if 0 ≤ n ∧ n < 2 ^ 63 then .ok (.int n) else .bad) W1 := w
            split at w3
            · rename_i hz
              intro G' H' x' v av'
              cases av'
              exact ⟨n, rfl, hz, w3 G' H' x' _ rfl⟩
            · exact w3.elim
          | _ => exact w.elim
        | exc x => rw [e] at w; exact w.elim
        | bad => rw [e] at w; exact w.elim
      · exact w.elim
    · exact w.elim
/-- x in o, x not in o -/
theorem fe_inO {a b : Expr} {fa fb : Ev → R D} {pos : Pos} (neg : Bool) (d : DefM X.prog X.w X.K X.mg X.base ca k c "__contains__" qual st dd kd ps Fn) (hb : ∀ {f fd}, FD X.K "__contains__" qual st dd kd f fd → Binds X.K fd ps []) (hr : Room j X.A) (tk : Takes X W)
    (ha : FE X ca W a fa) (hbb : FE X ca W b fb) (hk : k ≤ j := by decide) (hn : ps.length = 2 := by rfl) (hmk : behindInMarks (if neg then .NotIn else .In) b = false := by rfl) : FE X ca W (.Compare a [if neg then .NotIn else .In] [b] pos) (e2 (gDunIn c neg Fn) fa fb) := by
  obtain ⟨f, fd, C, F, hc, cl, hm, h2⟩ := d.ex
  obtain ⟨ta, pa, ka⟩ := ha.ex
  obtain ⟨tb, pb, kb⟩ := hbb.ex
  refine ⟨fun σ H Q => ta σ H fun x H1 => tb σ H1 fun y H2 => ∃ p dx vs, y = .ref p ∧ H2 p = some (.ins C dx vs) ∧ spF X.K ca ps.length Fn [y, x] H2 (fun v H' => ∃ z, v = .bl z ∧ Q (.bl (xor neg z)) H') (WE W σ), ⟨fun pins s σ H Q I h => ?_⟩, fun B G H σ ρ Q s b r h => ?_⟩
  · refine wpAny_Compare1 (binT pa pb I h fun v u s2 x y H2 I2 rx ry q => ?_) hmk
    obtain ⟨p, dx, vs, rfl, e, sp⟩ := q
    cases ry
    obtain ⟨mA, J, _⟩ := ins_get I2.hok e
    obtain ⟨od, J, _⟩ := J.look
    obtain ⟨mm, hF⟩ := I2.fr
    have go := run_at (us := [.ref p, v]) (vs := [.ref p, x]) F (hr.mono hk) rfl (hb h2) (passAt tk σ) I2 (.cons rfl (.cons rx .nil)) sp
    cases neg with
    | false =>
      refine PySem.W.in_K hF I2.ok.mod.kin J hm.at_ hm.fn (wpAny_mono go (fun w s' hq => ?_) fun _ _ e => e)
      obtain ⟨z, H', I', rz, n, rfl, q⟩ := hq
      cases rz
      exact wpAny_truthy_bool ⟨.bl n, H', I', rfl, by simpa using q⟩
    | true =>
      refine PySem.W.notIn_K hF I2.ok.mod.kin J hm.at_ hm.fn (wpAny_mono go (fun w s' hq => ?_) fun _ _ e => e)
      obtain ⟨z, H', I', rz, n, rfl, q⟩ := hq
      cases rz
      exact wpAny_truthy_bool ⟨.bl (!n), H', I', rfl, by simpa using q⟩
  · refine ka B G H σ ρ _ s b r (Wish.bind h fun d1 G1 H1 _ x1 w1 v av => ?_)
    refine kb B G1 H1 σ ρ _ x1.gh (b.trans x1.hh) (r.ext x1) (Wish.bind w1 fun d2 G2 H2 _ x2 w2 v2 a2 => ?_)
    unfold gDunIn at w2
    split at w2
    · rename_i hi
      obtain ⟨p, dx, vs, rfl, g1⟩ := isIns_at hc hi a2
      refine ⟨p, dx, vs, rfl, x2.gh _ _ g1, hn.symm, G2, [d2, d1], x2.gh, ⟨_, _, rfl, a2, _, _, rfl, At.mono x2.gg av, rfl⟩, ?_⟩
      cases e : Fn [d2, d1] with
      | ok d =>
        rw [e] at w2
        cases d with
        | bl z =>
          intro G' H' x' v av'
          cases av'
          exact ⟨z, rfl, w2 G' H' x' _ rfl⟩
        | _ => exact w2.elim
      | exc x => rw [e] at w2; exact w2
      | bad => rw [e] at w2; exact w2
    · exact w2.elim
end
end Tk

/-! own __iter__: a def whose body is `return iter(e)`, e a tuple -/
namespace Tk
open PySem PySem.Spec L2 PyProof.Rows
/-- a new iterator over the tuple at l -/
def ItT (l it : Addr) : HO := .ext fun h => h.IsTupleIter it l 0
theorem tup_iter_call {prog : Program} {w : World} {A : Around} {E : Value → Shared → Prop} {s : Shared} {l : Addr} {items : Array Value} {Q : Value → Shared → Prop} (hl : s.heap.IsTuple l items)
    (h : Q (.ref s.heap.objs.size) { s with heap := s.heap.push { cls := .type "tuple_iterator", data := .fields #[.ref l, .int 0 0] } }) : wpAny (model prog w) A (call (.builtin "iter") [.ref l]) Q E s := by
  refine Calls.call_function_entry (by decide +kernel) (by decide +kernel) PySem.W.kdk_entry_iter (PySem.W.kdk_args_iter _) ?_
  unfold Builtin.«iter»
  refine wpAny_bind (m := someArgs "iter" 1 2 _) (wpAny_of_eq (a := [Value.ref l]) (by first | rfl | kernel_rfl!) (wpAny_bind (wpAny_pyIter_tuple hl ?_)))
  exact wpAny_pure ⟨_, rfl, h⟩
theorem itT_ok {P : Program} {w : World} {H : Hp} {h : Heap} {l it : Addr} (e : h.IsTupleIter it l 0) : ObjOk P w H h it (ItT l it) :=
  ⟨e, let ⟨o, ho, _⟩ := e; ⟨o, ho⟩, fun h1 h2 q k => let ⟨o, ho, r⟩ := q; ⟨o, k _ ho, r⟩⟩
def rIterT (K : PySem.W.Frag) (n : Nat) : List V → Hp → VK → Prop := fun xs H Q => ∃ (l : Addr) (ys : List V), xs = [.ref l] ∧ SqT K H l ys ∧ ∀ it, H it = none → n ≤ it → Q (.ref it) (upd H it (ItT l it))
theorem call_iterT {X : Cx} : CallR X (.builtin "iter") (rIterT X.K X.s_0.heap.objs.size) := by
  intro pins s σ H xs us Q I r h
  obtain ⟨l, ys, rfl, hq, q⟩ := h
  obtain ⟨u, rfl, ru⟩ := r.one
  cases ru
  obtain ⟨its, rv, pl, hz⟩ := I.tuple hq
  refine tup_iter_call (show s.heap.IsTuple l its.toArray from pl) ?_
  refine ⟨.ref s.heap.objs.size, _, I.laid (t' := s.toks) (fun b u e => Heap.get?_push_of_some _ e) (Nat.le_refl _) (itT_ok ⟨_, Heap.get?_push_size _ rfl, rfl, rfl⟩), rfl, q _ (I.hok.fresh (Nat.le_refl _)) I.sz⟩
/-- what a call of such a def leaves: l the tuple, n the heap's size at the call -/
def LeftT (n : Nat) (Q : Addr → Hp → Prop) : VK := fun v H1 => ∃ it l H0, v = .ref it ∧ n ≤ it ∧ H0 it = none ∧ H1 = upd H0 it (ItT l it) ∧ Q l H0
structure DefT (P : Program) (w : World) (K : PySem.W.Frag) (mg : Str → Option Value) (base : Heap) (ca : Cn) (k c : Nat) (qual : Str) (st : Stmt) (F : List D → R D) : Prop where
  ex : ∃ f C, ca.a c = some C ∧ Meth K C "__iter__" f ∧ ∀ (A : Around) (outer : List Env) (s : Shared) (H G : Hp) (a : Addr) (d : D) (Q : Addr → Hp → Prop), Room k A → Env0 P w K mg base A outer s H → Same G H → At K ca G d (.ref a) →
    Wish K ca (fun G1 r H1 => ∀ v, At K ca G1 r v → ∃ l ys, v = .ref l ∧ SqT K H1 l ys ∧ Q l H1) G H (F [d]) (fun _ _ _ => False) →
    codeAny (model P w) A (.call (.ref f) ⟨[.ref a], []⟩) (CR (L2.CX P w) outer P w H s (LeftT s.heap.objs.size Q) fun _ _ _ => False) s
section
variable {P : Program} {w : World} {K : PySem.W.Frag} {mg : Str → Option Value} {base : Heap} {ca : Cn} {qual : Str} {st : Stmt} {N : List Str} {k c : Nat} {e : Expr} {fa : Ev → R D} {px pc pr : Pos} {y : Str}
theorem DefT.of (h : MeAt K ca c "__iter__" qual st [] []) (S : FnScope N [y] (defScope st)) (hbs : defBody st = [.Return (some (.Call (.Name "iter" px) [e] [] pc)) pr])
    (hbd : ∀ {f fd}, FD K "__iter__" qual st [] [] f fd → Binds K fd [y] [])
    (hg : ∀ (f : Addr) (cdv : Value) (A : Around) (outer : List Env) (s : Shared) (H : Hp) (E : XK), let X := cxOf (L2.CX P w) P w K mg base N qual (defScope st) f cdv A outer s H E; Gl X "iter" ∧ starEach [e] X.env = (false, eval e X.env) :: starEach [] X.env)
    (hm : mg "iter" = none) (hbb : bootBuiltins "iter" = some (.builtin "iter"))
    (hb : ∀ (f : Addr) (cdv : Value) (A : Around) (outer : List Env) (s : Shared) (H : Hp) (E : XK), Room k (A.deeper (envOfC qual (defScope st) s.heap.objs.size f cdv)) → FE (cxOf (L2.CX P w) P w K mg base N qual (defScope st) f cdv A outer s H E) ca (fun c d _ H' => E c d H') e fa) :
    DefT P w K mg base ca (k + 1) c qual st (runF N.length (sRet fa)) := by
  obtain ⟨f, fd, C, F, hc, cl, me⟩ := h.ex
  refine ⟨f, C, hc, me, fun A outer s H G a d Q hr e0 sm av q => ?_⟩
  have bt := hbd F
  obtain ⟨oc, od, dV, kV, doc, pm, an, cdv, ct, osl, efd, lk, hcd, _⟩ := F.ex
  have there := fun b o e => (e0.bs b o e).1
  have KX : K.In s.heap := e0.mod.kin.keeps there
  have pars : ∀ z ∈ [y].zip [Value.ref a], (defScope st).names.lookup z.1 = some .local ∨ ((defScope st).names.lookup z.1 = some .cell ∧ ((cellsFrom (s.heap.objs.size + 1) (defScope st).names []).lookup z.1).isSome = true) := by
    rintro ⟨n, v⟩ hz
    have inN := (List.of_mem_zip hz).1
    exact (S.par n inN).imp id fun t => ⟨t, PySem.W.cellsFrom_some _ _ _ (.inl t)⟩
  have to := bt s [.ref a] KX rfl
  subst efd
  refine codeAny_call_function hr.depth (KX _ _ lk) rfl S.co S.gen rfl (PySem.W.codeRec_of KX hcd) (to _ _ _ _ (wpAny_newFunctionEnv_cells S.kind pars fun env he s1 x => ?_))
  subst he
  refine ⟨(e0.mod.nolimit.keeps there).keeps x.toInCall.keep, codeAny_func ?_⟩
  have fe := hb f cdv A outer s H (fun _ _ _ => False) (hr.deeper _)
  obtain ⟨gl, se⟩ := hg f cdv A outer s H (fun _ _ _ => False)
  obtain ⟨t, pt, kt⟩ := (fa_cons fe fa_nil se).ex
  have body := pss_one (ps_ret (pos := pr) (pe_callB (p := px) (pos := pc) (he := se) call_iterT gl hm hbb pt))
  have I := inv_start (CX := L2.CX P w) (E := fun _ _ _ => False) (qual := qual) (f := f) (cd := cdv) (vs := [V.ref a]) S hr.hd e0 rfl (.cons rfl .nil) x
  have at1 : AtL K ca G [d] [V.ref a] := ⟨_, _, rfl, av, rfl⟩
  rw [hbs]
  have up : ∀ {G1 H1 : Hp}, Adv H G G1 H1 → Ext G H G1 H1 := fun x => ⟨x.bh, x.gg, x.gh, x.nw⟩
  have z0 : Rel K ca H G H (L2.start N [V.ref a]) (startE N.length [d]) := rel_start at1
  refine wpAny_mono (body.run [] s1 (L2.start N [V.ref a]) H { nx := fun _ _ => False, rt := LeftT s.heap.objs.size Q } I ?_) (fun fl s2 hs => ?_) fun e s2 hs => hs
  · refine kt H G H _ (startE N.length [d]) _ sm (.refl H) z0 ?_
    unfold runF sRet at q
    show Wish K ca _ G H ((fa (startE N.length [d])).bind fun a => R.bind (.ok []) fun r => .ok (a :: r)) _
    cases z : fa (startE N.length [d]) with
    | ok r =>
      rw [z] at q
      have q2 : Wish K ca (fun G1 r H1 => ∀ v, At K ca G1 r v → ∃ l ys, v = .ref l ∧ SqT K H1 l ys ∧ Q l H1) G H (.ok r) (fun _ _ _ => False) := q
      intro G1 H1 x1 vs al
      obtain ⟨v, rfl, a1⟩ := atl1 al
      obtain ⟨l, ys, rfl, h1, h2⟩ := q2 G1 H1 x1 v a1
      exact ⟨l, ys, rfl, h1, fun it hn hz => ⟨it, l, H1, rfl, hz, hn, rfl, h2⟩⟩
    | exc x => rw [z] at q; exact fun G1 H1 c dx x1 ea => q G1 H1 c dx x1 ea
    | bad => rw [z] at q; exact q
  · cases fl with
    | ret u =>
      obtain ⟨v, σ1, H1, J, rv, q1⟩ := hs
      exact ⟨v, H1, J.os, J.bare, J.base, J.hok, rv, q1⟩
    | next => obtain ⟨_, _, _, q1⟩ := hs; exact q1.elim
    | brk => obtain ⟨_, _, _, q1⟩ := hs; exact q1.elim
    | cont => obtain ⟨_, _, _, q1⟩ := hs; exact q1.elim
end
/-! ### walking over such an instance -/
def R.tup : R D → R (List D)
  | .ok (.tup ys) => .ok ys
  | _ => .bad
def iDun (c : Nat) (F : List D → R D) (fo : Ev → R D) : Ev → R (List D) := fun ρ => (fo ρ).bind fun d => if isIns c d = true then R.tup (F [d]) else .bad
theorem fi_own {X : Cx} {ca : Cn} {W : WX} {k j c : Nat} {qual : Str} {st : Stmt} {F : List D → R D} {tg e : Expr} {fo : Ev → R D} (d : DefT X.prog X.w X.K X.mg X.base ca k c qual st F) (hr : Room j X.A) (ho : FE X ca W e fo) (hk : k ≤ j := by decide) : FI X ca W tg e (iDun c F fo) := by
  obtain ⟨f, C, hc, me, run⟩ := d.ex
  obtain ⟨to, po, ko⟩ := ho.ex
  refine ⟨fun σ H R => to σ H fun x H1 => ∃ a dx fs d ys G1, x = .ref a ∧ H1 a = some (.ins C dx fs) ∧ Same G1 H1 ∧ At X.K ca G1 d (.ref a) ∧ F [d] = .ok (.tup ys) ∧ ∀ G2 H2 J, Ext G1 H1 G2 H2 → JOk X.K ca G2 J ys → R J H2, ⟨fun pins s σ H R I h => ?_⟩, fun B G H σ ρ Q s b r w => ?_⟩
  · refine thn (po.run pins s σ H _ I h) fun u s1 ⟨x, H1, I1, r1, q1⟩ => ?_
    obtain ⟨a, dx, fs, d, ys, G1, rfl, e1, sm, av, eF, q⟩ := q1
    cases r1
    obtain ⟨mA, J, _⟩ := ins_get I1.hok e1
    obtain ⟨od, J, _⟩ := J.look
    obtain ⟨mm, hF⟩ := I1.fr
    refine PySem.W.owit_iter hF I1.ok.mod.kin J me.at_ me.fn (wpAny_call (codeAny_mono (run X.A X.stack s1 H1 G1 a d (fun l H2 => ∃ vs G2, SqT X.K G2 l vs ∧ AtL X.K ca G2 ys vs ∧ Ext G1 H1 G2 H2) (hr.mono hk) I1.env0 sm av ?_) fun r s2 hq => ?_))
    · rw [eF]
      intro G2 H2 x v ⟨l, vs, ev, h1, h2⟩
      exact ⟨l, vs, ev, tq x.gh h1, vs, G2, tq (.refl _) h1, h2, x⟩
    · rcases r with er | fl
      · exact (passNone σ pins H1 s1 er s2 I1 hq)
      · cases fl with
        | ret u =>
          obtain ⟨v, H2, I2, rv, it, l, H0, rfl, hn, h0, rfl, vs, G2, qs, ql, x⟩ := I1.after hq
          cases rv
          have e2 : upd H0 it (ItT l it) it = some (ItT l it) := upd_same
          have ti : s2.heap.IsTupleIter it l 0 := (I2.hok it _ e2).1
          unfold PySem.W.OwitIt
          refine wpAny_specialOf (name := "__next__") ti.typeIs PySem.F.slot_tuple_iterator_next.lookup ?_
          have z2 := e2
          unfold ItT at z2
          have z3 := ItX.inv_drop I2 z2
          have ed : ItX.dropH (upd H0 it (ItT l it)) it = H0 := ItX.dropH_upd h0
          have fp := ItX.inv_fp I2 z2 (Nat.le_trans I1.sz hn)
          rw [ed] at z3 fp
          show PIE X pins σ tg R (Value.ref it) s2
          refine ⟨it, [it], _, _, H0, rfl, z3, turn_tuple l it, ti, fun b hb => ?_, q G2 H0 _ x (jok_tup qs ql)⟩
          rcases List.mem_cons.mp hb with rfl | hb
          · exact fp
          · cases hb
        | _ => exact hq.elim
  · refine ko B G H σ ρ _ s b r (Wish.bind w fun d G1 H1 _ x1 w1 v av => ?_)
    split at w1
    · rename_i hi
      obtain ⟨p, dx, vs, rfl, g1⟩ := isIns_at hc hi av
      cases z : F [d] with
      | ok t =>
        rw [z] at w1
        cases t with
        | tup ys => exact ⟨p, dx, vs, d, ys, G1, rfl, x1.gh _ _ g1, x1.gh, av, z, fun G2 H2 J x2 hj => w1 G2 H2 x2 J hj⟩
        | _ => exact w1.elim
      | exc x => rw [z] at w1; exact w1.elim
      | bad => rw [z] at w1; exact w1.elim
    · exact w1.elim
end Tk

set_option maxHeartbeats 2000000
/-! list(o), o an instance with own __iter__ (over a tuple) and own __len__ -/
namespace Tk
open PySem PySem.Spec L2 PyProof.Rows
section
variable {X : Cx} {pins : List (Addr × Obj)} {σ : L2.St} {A1 : Around}
theorem take_get {α : Type} {l : List α} {i : Nat} {x : α} (h : l[i]? = some x) : l.take i ++ [x] = l.take (i + 1) := by
  obtain ⟨hi, e⟩ := List.getElem?_eq_some_iff.mp h
  rw [List.take_succ_eq_append_getElem hi, e]
theorem ls_loop {l it S : Addr} {ys : List V} {Rs : Result → Shared → Prop} (hc : A1.in1.handled = none) (hS : S ≠ it) (hlS : l ≠ S) (hz : ys.length ≤ sizeLine) :
    ∀ (m i : Nat) (H : Hp) (s : Shared) (R : Hp → Prop), m = ys.length - i → i ≤ ys.length → Inv X pins σ H s → s.heap.IsTupleIter it l i → FpOk X pins H it → SqT X.K H l ys → H S = some (.lst (ys.take i)) → R (upd H S (.lst ys)) →
      (∀ H' s', Inv X pins σ H' s' → R H' → Rs (.ok (.ret .none)) s') →
      codeAny (model X.prog X.w) A1 (.builtin "list.extend.loop" ⟨[.ref S, .ref it, .none], []⟩) Rs s := by
  intro m
  induction m with
  | zero =>
    intro i H s R hm hi I st fp sq hl hR k
    have e : i = ys.length := by omega
    refine codeAny_builtin PySem.F.entry_extend_loop ?_
    rw [Around.under_plainId PySem.F.plain_extend_loop _]
    show wpAny _ A1.in1 (pyNext (.ref it) >>= _) _ _ s
    obtain ⟨its, rv, pl, _⟩ := I.tuple sq
    obtain ⟨f0, f1, f2, f3, f4, f5⟩ := fp
    have ln := rv.length
    refine wpAny_bind (wpAny_pyNext_tuple_end hc st (show s.heap.IsTuple l its.toArray from pl) (by simp; omega) fun h' eb => ?_)
    have I1 : Inv X pins σ H { s with heap := h' } := I.turned (t' := s.toks) (fun b o hb e => eb b o hb e) f0 f1 f3 f4 f5
    refine wpAny_pure (k H _ I1 ?_)
    have eH : upd H S (.lst ys) = H := by
      funext b
      by_cases hb : b = S
      · rw [hb, upd_same, hl, e, List.take_length]
      · rw [upd_ne hb]
    rw [← eH]
    exact hR
  | succ m ih =>
    intro i H s R hm hi I st fp sq hl hR k
    have hlt : i < ys.length := by omega
    refine codeAny_builtin PySem.F.entry_extend_loop ?_
    rw [Around.under_plainId PySem.F.plain_extend_loop _]
    show wpAny _ A1.in1 (pyNext (.ref it) >>= _) _ _ s
    obtain ⟨its, rv, pl, _⟩ := I.tuple sq
    have hx : ys[i]? = some ys[i] := List.getElem?_eq_getElem hlt
    obtain ⟨u, hu, ru⟩ := rv.get hx
    obtain ⟨f0, f1, f2, f3, f4, f5⟩ := fp
    refine wpAny_bind (wpAny_pyNext_tuple_item st (show s.heap.IsTuple l its.toArray from pl) (x := u) (by simpa using hu) fun h' st' sb => ?_)
    have I1 : Inv X pins σ H { s with heap := h' } := I.turned (t' := s.toks) (fun b o hb e => (sb.2 b hb).trans e) f0 f1 f3 f4 f5
    show wpAny _ A1.in1 (updateSeq S (·.push u) >>= _) _ _ _
    obtain ⟨z, is2, n, r2, hl2, e2⟩ := I1.lstM hl
    have hlen : is2.length = i := by rw [← hl2, List.length_take]; omega
    have I2 := I1.lset (f := (·.push u)) (its' := is2 ++ [u]) (ys := ys.take i ++ [ys[i]]) (t' := s.toks) hl e2 (by simp) (r2.append (.cons ru .nil)) (by simp; omega)
    rw [take_get hx] at I2
    refine wpAny_bind (wpAny_updateSeq e2 rfl (wpAny_pure ⟨plainId_quiet PySem.F.plain_extend_loop _, ?_⟩) (by simp; omega) (by simp; omega))
    have sq2 : SqT X.K (upd H S (.lst (ys.take (i + 1)))) l ys := by
      rcases sq with h | h
      · exact .inl (by unfold Rd at h ⊢; rw [upd_ne hlS]; exact h)
      · exact .inr h
    refine ih (i + 1) (upd H S (.lst (ys.take (i + 1)))) _ R (by omega) hlt I2 ?_ ⟨by rw [upd_ne (Ne.symm hS)]; exact f0, f1, f2, f3, f4, f5⟩ sq2 upd_same (by rw [upd_upd]; exact hR) k
    obtain ⟨o, ho, r⟩ := st'
    exact ⟨o, (Heap.get?_update_other _ _ hS).trans ho, r⟩
/-- the callee runs and raises nothing -/
theorem run_q {ca : Cn} {k : Nat} {ps : List Str} {f : Addr} {fd : FuncData} {sp : Sp} {H : Hp} {s : Shared} {Q : VK} {us : List Value} {vs : List V} {E : Value → Shared → Prop} (F : FnOk X.prog X.w X.K X.mg X.base (L2.CX X.prog X.w) k f fd ps sp)
    (hr : Room k A1) (hf : A1.frames = X.A.frames) (hb : Binds X.K fd ps []) (I : Inv X pins σ H s) (rv : Vals vs us) (h : sp vs H Q fun _ _ _ => False) : wpAny (model X.prog X.w) A1 (call (.ref f) us) (EP X pins σ Q) E s := by
  have e0 := I.env0
  have e1 : Env0 X.prog X.w X.K X.mg X.base A1 X.stack s H := { frames := hf.trans e0.frames, mod := e0.mod, bs := e0.bs, bsz := e0.bsz, funs := e0.funs, frf := e0.frf, hok := e0.hok, bare := e0.bare }
  have hn : (us ++ []).length = ps.length := by rw [List.append_nil, ← rv.length]; exact F.len vs H Q _ h
  have bt := hb s us I.kIn hn
  rw [List.append_nil] at bt
  refine wpAny_call (codeAny_mono (F.run A1 X.stack s H ⟨us, []⟩ us vs Q _ hr e1 bt rv h) fun r s1 hq => ?_)
  rcases r with e | fl
  · exact (False.elim (by obtain ⟨_, _, _, _, _, _, _, _, _, _, _, _, hE⟩ := hq; exact hE))
  · cases fl with
    | ret u => exact I.after hq
    | _ => exact hq.elim
/-- the length that an own __len__ tells -/
theorem ls_hint {a C f : Addr} {fs : List (Str × V)} {H : Hp} {s : Shared} {dx : Addr} {E : Value → Shared → Prop} {Q : Bool → Shared → Prop} (I : Inv X pins σ H s) (e : H a = some (.ins C dx fs)) (hm : Meth X.K C "__len__" f)
    (run : ∀ E, wpAny (model X.prog X.w) A1.in1 (call (.ref f) [.ref a]) (PySem.W.LenBack fun v s' => ∃ n t, v = .int n t ∧ n ≤ (sizeLine : Int) ∧ ∀ b, Q b s') E s) : wpAny (model X.prog X.w) A1 (Builtin.List.listLengthHint (.ref a)) Q E s := by
  obtain ⟨mA, J, _⟩ := ins_get I.hok e
  obtain ⟨od, J, _⟩ := J.look
  obtain ⟨mm, hF⟩ := I.fr
  unfold Builtin.List.listLengthHint
  refine wpAny_bind (wpAny_bind (J.type.here ((PySem.W.looks_findIn I.kIn hm.at_).here ?_)))
  refine PySem.W.KFB.if_not rfl ?_
  refine PySem.W.KFB.if_so rfl ?_
  refine wpAny_bind (wpAny_rule ?_)
  refine wpAny_bind (wpAny_attempt (PySem.W.len_K hF I.ok.mod.kin J hm.at_ hm.fn (wpAny_mono (run _) (fun v s' hv => ?_) fun _ _ z => z)))
  cases v <;> first | exact hv.elim | skip
  rename_i n t
  obtain ⟨hn, n', t', ev, hz, q⟩ := hv
  refine ⟨hn, ?_⟩
  cases ev
  show wpAny _ _ (asInt? (.int n _) >>= _) _ _ _
  refine wpAny_bind (m := asInt? (.int n _)) (wpAny_pure ?_)
  have hl : Builtin.List.listTooLong n.toNat = false := by
    unfold Builtin.List.listTooLong
    exact decide_eq_false (by omega)
  show wpAny _ _ (if Builtin.List.listTooLong n.toNat = true then _ else _) _ _ _
  rw [if_neg (by rw [hl]; exact Bool.false_ne_true)]
  exact wpAny_pure (q _)
/-- what is wanted of list(o): o's data d, its tuple ys -/
structure LsW (K : PySem.W.Frag) (ca : Cn) (G H : Hp) (ys : List D) (Q : VK) : Prop where
  ex : ∀ q G' H' vs, Ext G H G' H' → G' q = some (.lst vs) → AtL K ca G' ys vs → Q (.ref q) H'
theorem same_keep {H H' : Hp} {a : Addr} {o : HO} (s : Same H H') (h : H a = some o) : H' a = some o := s _ _ h
theorem ls_extend {ca : Cn} {ki kl c : Nat} {qi : Str} {sti : Stmt} {Fi Fl : List D → R D} {a C S fl : Addr} {fdl : FuncData} {psl : List Str} {fs : List (Str × V)} {dx : Addr} {H G H0 : Hp} {s : Shared} {d : D} {ys : List D} {n : Int} {Q : VK} {Rs : Result → Shared → Prop}
    (di : DefT X.prog X.w X.K X.mg X.base ca ki c qi sti Fi) (hC : ca.a c = some C) (Fn : FnOk X.prog X.w X.K X.mg X.base (L2.CX X.prog X.w) kl fl fdl psl (spF X.K ca psl.length Fl)) (ml : Meth X.K C "__len__" fl) (bl : Binds X.K fdl psl []) (hpl : psl.length = 1)
    (ri : Room ki A1.in1) (rl : Room kl A1.in1.in1) (hf : A1.frames = X.A.frames) (hh : A1.in1.handled = none)
    (e1 : Fi [d] = .ok (.tup ys)) (e2 : Fl [d] = .ok (.int n)) (z1 : ys.length ≤ sizeLine) (z2 : 0 ≤ n) (z3 : n ≤ (sizeLine : Int))
    (I : Inv X pins σ H s) (hS : H S = some (.lst [])) (eH : H = upd H0 S (.lst [])) (fS : H0 S = none) (ha : H a = some (.ins C dx fs)) (sm : Same G H0) (av : At X.K ca G d (.ref a)) (want : LsW X.K ca G H0 ys Q)
    (fin : ∀ H' s', Inv X pins σ H' s' → Q (.ref S) H' → Rs (.ok (.ret .none)) s') :
    wpAny (model X.prog X.w) A1.in1 (Builtin.List.listExtendWith (.ref S) (.ref a) .none)
      (fun r s' => match r with | .done f => Rs (.ok f) s' | .again c' => c'.quiet = true ∧ codeAny (model X.prog X.w) A1 c' Rs s') (fun e s' => Rs (.error e) s') s := by
  have hne : S ≠ a := ne_of hS ha (fun z => nomatch z)
  have smH : Same G H := fun b o e => by
    rw [eH, upd_ne (ne_of_none (sm _ _ e) fS)]
    exact sm _ _ e
  obtain ⟨mA, J, _⟩ := ins_get I.hok ha
  obtain ⟨od, J, _⟩ := J.look
  obtain ⟨m0, hF⟩ := I.fr
  obtain ⟨fi, C', hC', mi, run⟩ := di.ex
  rw [hC] at hC'
  cases hC'
  unfold Builtin.List.listExtendWith
  refine wpAny_bind (J.type.here ?_)
  have q1 : Builtin.List.listSameRef (.ref S) (.ref a) = false := by simp [Builtin.List.listSameRef, hne]
  have q2 : (Value.ref C == Value.type "list") = false := rfl
  have q3 : (Value.ref C == Value.type "tuple") = false := rfl
  simp only [q1, q2, q3, Bool.or_false, Bool.false_eq_true, if_false]
  have ev0 := I.env0
  have ev : Env0 X.prog X.w X.K X.mg X.base A1.in1 X.stack s H := { frames := hf.trans ev0.frames, mod := ev0.mod, bs := ev0.bs, bsz := ev0.bsz, funs := ev0.funs, frf := ev0.frf, hok := ev0.hok, bare := ev0.bare }
  have go := run A1.in1 X.stack s H G a d (fun l H2 => ∃ vs G2, SqT X.K G2 l vs ∧ AtL X.K ca G2 ys vs ∧ Ext G H G2 H2) ri ev smH av (by
    rw [e1]
    intro G2 H2 x v ⟨l, vs, ev, h1, h2⟩
    exact ⟨l, vs, ev, tq x.gh h1, vs, G2, tq (.refl _) h1, h2, x⟩)
  refine wpAny_bind (PySem.W.owit_iter hF I.ok.mod.kin J mi.at_ mi.fn (wpAny_call (codeAny_mono go fun r s2 hq => ?_)))
  rcases r with er | fl'
  · exact (False.elim (by obtain ⟨_, _, _, _, _, _, _, _, _, _, _, _, hE⟩ := hq; exact hE))
  cases fl' with
  | ret u =>
    obtain ⟨v, Ht, I2, rv, it, l, H2, rfl, hn, h0, rfl, vs, G2, sq2, al, x⟩ := I.after hq
    cases rv
    have et : upd H2 it (ItT l it) it = some (ItT l it) := upd_same
    have ti : s2.heap.IsTupleIter it l 0 := (I2.hok it _ et).1
    unfold PySem.W.OwitIt
    refine wpAny_specialOf (name := "__next__") ti.typeIs PySem.F.slot_tuple_iterator_next.lookup ?_
    have gi : G2 it = none := same_none x.gh h0
    have sm2 : Same G2 (upd H2 it (ItT l it)) := fun b o e => by
      rw [upd_ne (ne_of_none e gi)]
      exact x.gh _ _ e
    have ea : upd H2 it (ItT l it) a = some (.ins C dx fs) := by
      rw [upd_ne (ne_of_none (x.hh _ _ ha) h0)]
      exact x.hh _ _ ha
    show wpAny _ A1.in1 (holding [.ref it] (Builtin.List.listLengthHint (.ref a)) >>= _) _ _ s2
    refine wpAny_bind (wpAny_holding (ls_hint I2 ea ml fun E => ?_))
    refine wpAny_mono (run_q (ca := ca) (us := [.ref a]) (vs := [.ref a]) (sp := spF X.K ca psl.length Fl) (Q := fun v H' => v = .int n ∧ ∃ G3, Ext G2 (upd H2 it (ItT l it)) G3 H') Fn rl (by exact hf) bl I2 (.cons rfl .nil) ⟨hpl.symm, G2, [d], sm2, ⟨_, _, rfl, At.mono x.gg av, rfl⟩, ?_⟩) (fun w s3 hw => ?_) fun _ _ z => z
    · rw [e2]
      intro G3 H3 y v a1
      cases a1
      exact ⟨rfl, G3, y⟩
    obtain ⟨v, H3, I3, rv3, rfl, G3, y⟩ := hw
    obtain ⟨tk, rfl⟩ := rv3
    refine ⟨⟨z2, by have : (sizeLine : Int) < 2 ^ 63 := by rw [sizeLine_eq]; decide
                    omega⟩, n, _, rfl, z3, fun b => ?_⟩
    have I4 := I3.tok (s3.toks + 1)
    have i3 : H3 it = some (ItT l it) := y.hh _ _ et
    have i3' := i3
    unfold ItT at i3'
    have I5 := ItX.inv_drop I4 i3'
    have fp := ItX.inv_fp I4 i3' (Nat.le_trans I.sz hn)
    have ti3 : s3.heap.IsTupleIter it l 0 := (I3.hok it _ i3).1
    have nS : S ≠ it := fun z => by
      have : H2 S = some (.lst []) := x.hh _ _ hS
      rw [z, h0] at this
      cases this
    have lS : H3 S = some (.lst []) := y.hh _ _ (by rw [upd_ne nS]; exact x.hh _ _ hS)
    have g3i : G3 it = none := by
      cases z : G3 it with
      | none => rfl
      | some o =>
        rcases y.nw it (by rw [z]; simp) with q | q
        · exact (q gi).elim
        · exact (q.no et fun _ z => nomatch z).elim
    have sg : ∀ b o, G3 b = some o → ItX.dropH H3 it b = some o := fun b o e => by
      rw [ItX.dropH_ne (ne_of_none e g3i)]
      exact y.gh _ _ e
    have g3S : G3 S = none := by
      cases z : G3 S with
      | none => rfl
      | some o =>
        rcases y.nw S (by rw [z]; simp) with q | q
        · rcases x.nw S q with q | q
          · exact (q (same_none sm fS)).elim
          · exact (q.no hS fun _ z => nomatch z).elim
        · exact (q.no (o := .lst []) (by rw [upd_ne nS]; exact x.hh _ _ hS) fun _ z => nomatch z).elim
    have sqd : SqT X.K (ItX.dropH H3 it) l vs := SqT_mono (fun b o e => sg b o e) (SqT_mono y.gg sq2)
    have eS : ItX.dropH H3 it S = some (.lst []) := by rw [ItX.dropH_ne nS]; exact lS
    have lnS : l ≠ S := fun z => by
      subst z
      rcases sqd with (q | ⟨o, q⟩) | ⟨o, _, _, q, qc, _⟩
      · rw [eS] at q; cases q
      · rw [eS] at q; cases q
      · obtain ⟨_, _, _, _, _, g⟩ := I5.lstM eS
        have g2 := I5.kIn _ _ q
        have g3 : some o = _ := g2.symm.trans g
        cases g3
        exact absurd qc (by simp)
    have vl := al.length
    have Hq : Q (.ref S) (upd (ItX.dropH H3 it) S (.lst vs)) := by
      have hkeep : ∀ b o, H0 b = some o → ItX.dropH H3 it b = some o := fun b o e => by
        have n1 : b ≠ S := ne_of_none e fS
        have e1 : H b = some o := by rw [eH, upd_ne n1]; exact e
        have e2 := x.hh _ _ e1
        have n2 : b ≠ it := ne_of_none e2 h0
        rw [ItX.dropH_ne n2]
        exact y.hh _ _ (by rw [upd_ne n2]; exact e2)
      refine want.ex S (upd G3 S (.lst vs)) _ vs ⟨fun b o e => ?_, fun b o e => ?_, fun b o e => ?_, fun b e => ?_⟩ upd_same (AtL.mono (fun b o e => by rw [upd_ne (ne_of_none e g3S)]; exact e) (AtL.mono y.gg al))
      · rw [upd_ne (ne_of_none e fS)]; exact hkeep b o e
      · rw [upd_ne (ne_of_none (sm _ _ e) fS)]; exact y.gg _ _ (x.gg _ _ e)
      · by_cases z : b = S
        · subst z; rw [upd_same] at e ⊢; exact e
        · rw [upd_ne z] at e ⊢; exact sg b o e
      · by_cases z : b = S
        · subst z; exact .inr (.inl fS)
        · rw [upd_ne z] at e
          have un : Fre H b → Fre H0 b := fun q => by unfold Fre at q ⊢; rw [eH, upd_ne z] at q; exact q
          rcases y.nw b e with q | q
          · exact (x.nw b q).imp id un
          · refine .inr (un ?_)
            have : Fre H2 b := by
              by_cases zi : b = it
              · rw [zi]; exact .inl h0
              · unfold Fre at q ⊢; rw [upd_ne zi] at q; exact q
            exact this.up x.hh
    have fl : FpOk X pins (ItX.dropH H3 it) it := fp
    refine wpAny_ite_split (fun _ => ?_) (fun _ => ?_)
    · refine wpAny_bind (wpAny_rule (wpAny_bind ?_))
      show wpAny _ _ (updateSeq S (·.push .none) >>= fun _ => updateSeq S (·.pop)) _ _ _
      obtain ⟨z, its, k0, rr, _, g⟩ := I5.lstM eS
      cases rr
      have J1 := I5.lset (f := (·.push Value.none)) (its' := [Value.none]) (ys := [.non]) (t' := s3.toks + 1) eS g (by simp) (.cons rfl .nil) (by rw [List.length_singleton, sizeLine_eq]; decide)
      refine wpAny_bind (wpAny_updateSeq g rfl ?_)
      obtain ⟨z4, its4, k4, r4, _, g4⟩ := J1.lstM upd_same
      obtain ⟨u4, rfl, ru4⟩ := r4.one
      have J2 := J1.lset (f := (·.pop)) (its := [u4]) (its' := []) (ys := []) (t' := s3.toks + 1) upd_same g4 (by rfl) .nil (Nat.zero_le _)
      rw [upd_upd] at J2
      have eqH : upd (ItX.dropH H3 it) S (.lst []) = ItX.dropH H3 it := by
        funext b
        by_cases hb : b = S
        · subst hb; rw [upd_same]; exact eS.symm
        · rw [upd_ne hb]
      rw [eqH] at J2
      refine wpAny_updateSeq g4 rfl ?_ (by show 1 ≤ sizeLine; rw [sizeLine_eq]; decide) (by show 0 ≤ sizeLine + 1; exact Nat.zero_le _)
      have keep : (({ s3 with heap := s3.heap.update S (Obj.mapSeq (·.push Value.none)) } : Shared).heap.update S (Obj.mapSeq (·.pop))).IsTupleIter it l 0 := by
        obtain ⟨o, ho, r⟩ := ti3
        exact ⟨o, (Heap.get?_update_other _ _ nS).trans ((Heap.get?_update_other _ _ nS).trans ho), r⟩
      exact wpAny_pure ⟨plainId_quiet PySem.F.plain_extend_loop _, ls_loop (Rs := Rs) hh nS lnS (by rw [← vl]; exact z1) vs.length 0 (ItX.dropH H3 it) _ (fun H' => Q (.ref S) H') rfl (Nat.zero_le _) J2 keep fp sqd eS Hq fin⟩
    · exact wpAny_pure ⟨plainId_quiet PySem.F.plain_extend_loop _, ls_loop (Rs := Rs) hh nS lnS (by rw [← vl]; exact z1) vs.length 0 (ItX.dropH H3 it) _ (fun H' => Q (.ref S) H') rfl (Nat.zero_le _) I5 ti3 fp sqd eS Hq fin⟩
  | _ => exact hq.elim
end
def gListO (c : Nat) (Fi Fl : List D → R D) : List D → R D
  | [d] => if isIns c d = true then (match Fi [d], Fl [d] with
    | .ok (.tup ys), .ok (.int n) => if ys.length ≤ sizeLine ∧ 0 ≤ n ∧ n ≤ (sizeLine : Int) then .ok (.lst ys) else .bad
    | _, _ => .bad) else .bad
  | _ => .bad
def rListO (X : Cx) (ca : Cn) (c : Nat) (Fi Fl : List D → R D) : List V → Hp → VK → Prop := fun xs H Q => ∃ G d ys n v, xs = [v] ∧ Same G H ∧ At X.K ca G d v ∧ isIns c d = true ∧ Fi [d] = .ok (.tup ys) ∧ Fl [d] = .ok (.int n) ∧ ys.length ≤ sizeLine ∧ 0 ≤ n ∧ n ≤ (sizeLine : Int) ∧ LsW X.K ca G H ys Q
theorem call_listO {X : Cx} {ca : Cn} {ki kl c j : Nat} {qi ql : Str} {sti stl : Stmt} {ddl : List D} {kdl : List (Str × D)} {psl : List Str} {Fi Fl : List D → R D} (di : DefT X.prog X.w X.K X.mg X.base ca ki c qi sti Fi) (dl : DefM X.prog X.w X.K X.mg X.base ca kl c "__len__" ql stl ddl kdl psl Fl)
    (hb : ∀ {f fd}, FD X.K "__len__" ql stl ddl kdl f fd → Binds X.K fd psl []) (hr : Room j X.A) (hc : X.calm = true) (hn : psl.length = 1) (hi : ki + 2 ≤ j) (hl : kl + 3 ≤ j) : CallR X (.type "list") (rListO X ca c Fi Fl) := by
  intro pins s σ H xs us Q I rv h
  obtain ⟨G, d, ys, n, v, rfl, sm, av, hi2, e1, e2, z1, z2, z3, want⟩ := h
  obtain ⟨u, rfl, ru⟩ := rv.one
  obtain ⟨fl, fdl, C, Fn, hC, cl, ml, fdp⟩ := dl.ex
  obtain ⟨a, dx, fs, rfl, ga⟩ := isIns_at hC hi2 av
  cases ru
  have hd : X.A.in1.in1.handled = none := I.ok.hd hc
  refine callType_codes (Q₁ := fun obj s₁ => obj = .ref s.heap.objs.size ∧ s₁ = { s with heap := s.heap.push { cls := .type "list", data := .seq #[] } }) PySem.F.called_list (PySem.F.typeCall_list_1 _) PySem.F.entry_list_init (code_list_new _ ⟨rfl, rfl⟩) fun obj s1 h1 => ?_
  obtain ⟨rfl, rfl⟩ := h1
  have lay : (s.heap.push { cls := .type "list", data := .seq #[] }).get? s.heap.objs.size = some { cls := .type "list", data := .seq #[] } := Heap.get?_push_size _ rfl
  have fresh : H s.heap.objs.size = none := I.fresh
  refine ⟨⟨_, lay, rfl⟩, PySem.F.args_list_init_2 _ _, ?_⟩
  have I1 : Inv X pins σ (upd H s.heap.objs.size (.lst [])) { s with heap := s.heap.push { cls := .type "list", data := .seq #[] } } := I.lnew (its := []) (t' := s.toks) .nil (Nat.zero_le _)
  show wpAny _ _ (Builtin.List.listItems (.ref s.heap.objs.size) >>= fun old => Builtin.List.listUpdate (.ref s.heap.objs.size) (fun _ => #[]) >>= fun _ => letGo old.toList.reverse >>= fun _ => Builtin.List.listExtendWith (.ref s.heap.objs.size) (.ref a) .none) _ _ _
  refine wpAny_bind ?_
  unfold Builtin.List.listItems
  refine wpAny_bind (wpAny_seqItems lay rfl (wpAny_pure ?_))
  show wpAny _ _ (updateSeq s.heap.objs.size (fun _ => #[]) >>= fun _ => letGo (#[] : Array Value).toList.reverse >>= fun _ => Builtin.List.listExtendWith (.ref s.heap.objs.size) (.ref a) .none) _ _ _
  refine wpAny_bind (wpAny_updateSeq lay rfl (wpAny_bind (wpAny_letGo ?_)))
  have I2 := I1.lset (f := fun _ => #[]) (its := []) (its' := []) (ys := []) (t' := s.toks) upd_same lay rfl .nil (Nat.zero_le _)
  rw [upd_upd] at I2
  have r1 := hr.mono hi
  have r2 := hr.mono hl
  exact ls_extend (A1 := X.A.in1) (H0 := H) (Rs := wants (fun r s₂ => r = .none ∧ EP X pins σ Q (.ref s.heap.objs.size) s₂) X.xe) di hC Fn ml (hb fdp) hn r1.in1.in1 r2.in1.in1.in1 rfl hd e1 e2 z1 z2 z3 I2 upd_same rfl fresh
    (by rw [upd_ne (ne_of_none (sm _ _ ga) fresh)]; exact sm _ _ ga) sm av want fun H' s' J q => ⟨rfl, .ref s.heap.objs.size, H', J, rfl, q⟩
theorem fe_listO {X : Cx} {ca : Cn} {W : WX} {ki kl c j : Nat} {qi ql : Str} {sti stl : Stmt} {ddl : List D} {kdl : List (Str × D)} {psl : List Str} {Fi Fl : List D → R D} {e : Expr} {fl : Ev → R (List D)} {p pos : Pos} (T : BT X.mg) (di : DefT X.prog X.w X.K X.mg X.base ca ki c qi sti Fi) (dl : DefM X.prog X.w X.K X.mg X.base ca kl c "__len__" ql stl ddl kdl psl Fl)
    (hb : ∀ {f fd}, FD X.K "__len__" ql stl ddl kdl f fd → Binds X.K fd psl []) (hr : Room j X.A) (ha : FA X ca W [e] fl) (hn : psl.length = 1 := by rfl) (hi : ki + 2 ≤ j := by decide) (hl : kl + 3 ≤ j := by decide) (hc : X.calm = true := by rfl) (nm : Nm X "list" e [] pos := by exact ⟨rfl, rfl, rfl⟩) :
    FE X ca W (.Call (.Name "list" p) [e] [] pos) (eA (gListO c Fi Fl) fl) := by
  refine fe_bty (call_listO di dl hb hr hc hn hi hl) ?_ nm.g T.list bb_list ha (by decide) (by decide) nm.h nm.p
  intro G H W1 xs ds Q s a w
  unfold gListO at w
  split at w
  · split at w
    · rename_i d hi2
      obtain ⟨v, rfl, av⟩ := atl1 a
      split at w
      · rename_i ys n e1 e2
        split at w
        · rename_i z
          exact ⟨G, d, ys, n, v, rfl, s, av, hi2, e1, e2, z.1, z.2.1, z.2.2, ⟨fun q G' H' vs x g al => w G' H' x _ ⟨q, vs, rfl, g, al⟩⟩⟩
        · exact w.elim
      · exact w.elim
    · exact w.elim
  · exact w.elim
end Tk

/-! own dicts: {}, d[k] = e; a dict walked by keys (locked meanwhile) -/
namespace Tk
open PySem PySem.Spec L2 PyProof.Rows
section
variable {K : PySem.W.Frag} {ca : Cn} {G : Hp}
theorem AtT.any : ∀ {kvs : List (List Key × D)} {vs : List (List Key × V)} (k : List Key), AtT K ca G kvs vs → (kvs.any fun kv => decide (kv.1 = k)) = (vs.any fun kv => decide (kv.1 = k))
  | [], _, _, h => by cases h; rfl
  | (_, _) :: _, _, k, ⟨_, _, e, _, t⟩ => by subst e; simp only [List.any_cons, AtT.any k t]
theorem AtT.app : ∀ {kvs kws : List (List Key × D)} {vs ws : List (List Key × V)}, AtT K ca G kvs vs → AtT K ca G kws ws → AtT K ca G (kvs ++ kws) (vs ++ ws)
  | [], _, _, _, h, h' => by cases h; exact h'
  | (_, _) :: _, _, _, _, ⟨_, _, e, a, t⟩, h' => by subst e; exact ⟨_, _, rfl, a, AtT.app t h'⟩
theorem AtT.upd1 : ∀ {kvs : List (List Key × D)} {vs : List (List Key × V)} {k : List Key} {d : D} {v : V}, AtT K ca G kvs vs → At K ca G d v → AtT K ca G (kvs.map fun kv => if kv.1 = k then (kv.1, d) else kv) (vs.map fun kv => if kv.1 = k then (kv.1, v) else kv)
  | [], _, _, _, _, h, _ => by cases h; rfl
  | (j, _) :: _, _, k, d, v, ⟨_, _, e, a, t⟩, q => by
    subst e
    simp only [List.map_cons]
    by_cases z : j = k
    · simp only [z, if_true]; exact ⟨_, _, rfl, q, AtT.upd1 t q⟩
    · simp only [z, if_false]; exact ⟨_, _, rfl, a, AtT.upd1 t q⟩
theorem AtT.put {kvs : List (List Key × D)} {vs : List (List Key × V)} {k : List Key} {d : D} {v : V} (h : AtT K ca G kvs vs) (a : At K ca G d v) : AtT K ca G (putG kvs k d) (putK vs k v) := by
  unfold putG putK
  rw [h.any k]
  split
  · exact h.upd1 a
  · exact h.app ⟨_, _, rfl, a, rfl⟩
theorem AtT.length : ∀ {kvs : List (List Key × D)} {vs : List (List Key × V)}, AtT K ca G kvs vs → kvs.length = vs.length
  | [], _, h => by cases h; rfl
  | (_, _) :: _, _, ⟨_, _, e, _, t⟩ => by subst e; simp [AtT.length t]
end
/-! {} -/
def nDT : Ev → R Sl := fun _ => .ok (.t [])
def nDK : Ev → R Sl := fun _ => .ok (.k [])
section
variable {X : Cx} {ca : Cn} {W : WX} {pos : Pos}
theorem fn_dT : FN X ca W (.Dict [] [] pos) nDT := ⟨_, pe_dnewT, fun B G H σ ρ Q s b r w p n => (w G (upd H p (.dT [])) ⟨same_upd n, .refl _, s.trans (same_upd n), fun c z => .inl z⟩).2 p ⟨[], upd_same, rfl⟩ (same_none s n) n⟩
theorem fn_dK : FN X ca W (.Dict [] [] pos) nDK := ⟨_, pe_dnewK, fun B G H σ ρ Q s b r w p n => (w G (upd H p (.dK [])) ⟨same_upd n, .refl _, s.trans (same_upd n), fun c z => .inl z⟩).2 p ⟨[], upd_same, rfl⟩ (same_none s n) n⟩
end
/-! d[k] = e -/
def ownT (ρ : Ev) (i : Nat) : R (List (List Key × D)) := match ρ[i]? with
  | some (.t xs) => .ok xs
  | _ => .bad
def ownK (ρ : Ev) (i : Nat) : R (List (Key × D)) := match ρ[i]? with
  | some (.k xs) => .ok xs
  | _ => .bad
def sPutT (i : Nat) (fk fv : Ev → R D) : Ev → SO := fun ρ => SO.from ρ (fv ρ) fun d => SO.from ρ (ownT ρ i) fun kvs => SO.from ρ (fk ρ) fun y => match keyT y with
  | some k => if kvs.length < sizeLine then .nx (ρ.set i (.t (putG kvs k d))) else .bad
  | none => .bad
def sPutK (i : Nat) (fk fv : Ev → R D) : Ev → SO := fun ρ => SO.from ρ (fv ρ) fun d => SO.from ρ (ownK ρ i) fun kvs => SO.from ρ (fk ρ) fun y => match keyD y with
  | some k => if kvs.length < sizeLine then .nx (ρ.set i (.k (putG kvs k d))) else .bad
  | none => .bad
section
variable {X : Cx} {ca : Cn} {W : WX} {e ei : Expr} {f fi : Ev → R D} {pos p py : Pos} {i : Nat} {y : Str}
theorem own_at {K : PySem.W.Frag} {B G H : Hp} {σ : L2.St} {ρ : Ev} {i : Nat} {s : Sl} (r : Rel K ca B G H σ ρ) (h : ρ[i]? = some s) (o : s.own = true) : ∃ a, σ[i]? = some (some (.ref a)) ∧ Own K ca G H a s := let ⟨a, h1, h2, _⟩ := r.own i s h o; ⟨a, h1, h2⟩
theorem fs_putT (hu : X.A.units + 65 < cLine) (hi : X.N[i]? = some y) (h : FE X ca W e f) (hx : FE X ca W ei fi) (hv : Vis X.env.scope y := by first | exact Or.inl rfl | exact Or.inr (Or.inl rfl) | exact Or.inr (Or.inr rfl)) (hd : (y == ("__debug__" : Str)) = false := by decide) (hcd : (y == ("__classdict__" : Str)) = false := by decide)
    (hs : swapsWith e (some (.Subscript (.Name y py) ei p)) pos.line X.env = pure false := by rfl) : FS X ca W (.Assign [.Subscript (.Name y py) ei p] e pos) (sPutT i fi f) := by
  obtain ⟨t, pp, k⟩ := h.ex
  obtain ⟨u, pu, ku⟩ := hx.ex
  refine ⟨_, ps_dput (by omega) (pe_var hi hv hd hcd) pu pp hs, fun B G H σ ρ D s b r w => k B G H σ ρ _ s b r ?_⟩
  refine WishS.from w b r fun d G1 H1 _ x w1 r1 b1 v av => ?_
  cases z : ownT ρ i with
  | exc x => unfold ownT at z; split at z <;> cases z
  | bad => rw [z] at w1; exact w1.elim
  | ok kvs =>
    rw [z] at w1
    have hk : ρ[i]? = some (.t kvs) := by
      unfold ownT at z
      split at z
      · rename_i q; cases z; exact q
      · cases z
    obtain ⟨a, h1, ⟨vs, h2, h3⟩⟩ := own_at r1 hk rfl
    refine ⟨_, h1, ku B G1 H1 σ ρ _ x.gh b1 r1 ?_⟩
    refine WishS.from w1 b1 r1 fun n G2 H2 _ x2 w2 r2 b2 nv an => ?_
    have w3 : WishS X.K ca B G2 (match keyT n with | some k => if kvs.length < sizeLine then .nx (ρ.set i (.t (putG kvs k d))) else .bad | none => .bad) D W := w2
    cases hkk : keyT n with
    | none => rw [hkk] at w3; exact w3.elim
    | some kk =>
      rw [hkk] at w3
      have w4 : WishS X.K ca B G2 (if kvs.length < sizeLine then .nx (ρ.set i (.t (putG kvs kk d))) else .bad) D W := w3
      split at w4
      · rename_i hl
        have h3' : AtT X.K ca G2 kvs vs := AtT.mono x2.gg h3
        obtain ⟨t1, t2, t3⟩ := r2.turn x2.gh b2 (t' := .t (putG kvs kk d)) (o := .dT (putK vs kk v)) hk rfl rfl h1 ⟨_, upd_same, h3'.put (At.mono x2.gg av)⟩
        unfold keyT at hkk
        split at hkk
        · obtain ⟨q, ws, rfl, u1, u2⟩ := an
          have e3 := keys_at u2 hkk
          subst e3
          exact ⟨a, _, rfl, DPut.t (x2.hh _ _ h2) (x2.gh q _ u1) (by rw [← h3'.length]; exact hl), w4 _ G2 _ ⟨.refl _, t2, t3, fun c z => .inl z⟩ t1⟩
        · cases hkk
      · exact w4.elim
theorem fs_putK (hu : X.A.units + 65 < cLine) (hi : X.N[i]? = some y) (h : FE X ca W e f) (hx : FE X ca W ei fi) (hv : Vis X.env.scope y := by first | exact Or.inl rfl | exact Or.inr (Or.inl rfl) | exact Or.inr (Or.inr rfl)) (hd : (y == ("__debug__" : Str)) = false := by decide) (hcd : (y == ("__classdict__" : Str)) = false := by decide)
    (hs : swapsWith e (some (.Subscript (.Name y py) ei p)) pos.line X.env = pure false := by rfl) : FS X ca W (.Assign [.Subscript (.Name y py) ei p] e pos) (sPutK i fi f) := by
  obtain ⟨t, pp, k⟩ := h.ex
  obtain ⟨u, pu, ku⟩ := hx.ex
  refine ⟨_, ps_dput (by omega) (pe_var hi hv hd hcd) pu pp hs, fun B G H σ ρ D s b r w => k B G H σ ρ _ s b r ?_⟩
  refine WishS.from w b r fun d G1 H1 _ x w1 r1 b1 v av => ?_
  cases z : ownK ρ i with
  | exc x => unfold ownK at z; split at z <;> cases z
  | bad => rw [z] at w1; exact w1.elim
  | ok kvs =>
    rw [z] at w1
    have hk : ρ[i]? = some (.k kvs) := by
      unfold ownK at z
      split at z
      · rename_i q; cases z; exact q
      · cases z
    obtain ⟨a, h1, ⟨vs, h2, h3⟩⟩ := own_at r1 hk rfl
    refine ⟨_, h1, ku B G1 H1 σ ρ _ x.gh b1 r1 ?_⟩
    refine WishS.from w1 b1 r1 fun n G2 H2 _ x2 w2 r2 b2 nv an => ?_
    have w3 : WishS X.K ca B G2 (match keyD n with | some k => if kvs.length < sizeLine then .nx (ρ.set i (.k (putG kvs k d))) else .bad | none => .bad) D W := w2
    cases hkk : keyD n with
    | none => rw [hkk] at w3; exact w3.elim
    | some kk =>
      rw [hkk] at w3
      have w4 : WishS X.K ca B G2 (if kvs.length < sizeLine then .nx (ρ.set i (.k (putG kvs kk d))) else .bad) D W := w3
      split at w4
      · rename_i hl
        have h3' : AtK X.K ca G2 kvs vs := AtK.mono x2.gg h3
        obtain ⟨t1, t2, t3⟩ := r2.turn x2.gh b2 (t' := .k (putG kvs kk d)) (o := .dK (putK vs kk v)) hk rfl rfl h1 ⟨_, upd_same, h3'.put (At.mono x2.gg av)⟩
        rw [key_at an hkk]
        exact ⟨a, _, rfl, DPut.k (x2.hh _ _ h2) (by rw [← h3'.length]; exact hl), w4 _ G2 _ ⟨.refl _, t2, t3, fun c z => .inl z⟩ t1⟩
      · exact w4.elim
end
/-! ### a dict that is locked: its keys are walked -/
def dictH : HO → Prop
  | .dK _ => True
  | .dT _ => True
  | _ => False
/-- dicts may be frozen -/
def Lck (G G' : Hp) : Prop := ∀ b u, G b = some u → G' b = some u ∨ (dictH u ∧ ∃ o, G' b = some (.frz o u))
theorem Lck.no {G G' : Hp} (l : Lck G G') {b : Addr} {u : HO} (h : G b = some u) (n : ¬ dictH u) : G' b = some u := (l b u h).elim id fun z => (n z.1).elim
theorem Lck.rdD {G G' : Hp} (l : Lck G G') {b : Addr} {u : HO} (d : dictH u) (h : Rd G b u) : Rd G' b u := by
  rcases h with h | ⟨o, h⟩
  · rcases l b u h with h | ⟨_, o, h⟩
    · exact .inl h
    · exact .inr ⟨o, h⟩
  · exact .inr ⟨o, l.no h id⟩
theorem Lck.rd {G G' : Hp} (l : Lck G G') {b : Addr} {u : HO} (n : ¬ dictH u) (h : Rd G b u) : Rd G' b u := by
  rcases h with h | ⟨o, h⟩
  · exact .inl (l.no h n)
  · exact .inr ⟨o, l.no h id⟩
section
variable {K : PySem.W.Frag} {ca : Cn} {G G' : Hp}
mutual
theorem At.lck (l : Lck G G') : ∀ {d : D} {v : V}, At K ca G d v → At K ca G' d v
  | .non, v, h => h
  | .bl _, v, h => h
  | .int _, v, h => h
  | .str _, v, h => h
  | .ty _, v, h => h
  | .cl _, v, h => h
  | .scr ns, v, ⟨a, e, h⟩ => ⟨a, e, h.elim (fun h => .inl (l.rd id h)) .inr⟩
  | .lst xs, v, ⟨a, vs, e, h, r⟩ => ⟨a, vs, e, l.no h id, AtL.lck l r⟩
  | .tup xs, v, ⟨a, vs, e, h, r⟩ => ⟨a, vs, e, l.no (u := .tup vs) h id, AtL.lck l r⟩
  | .tpz xs, v, ⟨a, o, vs, e, q, h, r⟩ => ⟨a, o, vs, e, q, l.no h id, AtL.lck l r⟩
  | .tp0, v, ⟨a, e, h⟩ => ⟨a, e, h.elim (fun h => .inl (l.rd id h)) .inr⟩
  | .dK xs, v, ⟨a, vs, e, h, r⟩ => ⟨a, vs, e, l.rdD trivial h, AtK.lck l r⟩
  | .dT xs, v, ⟨a, vs, e, h, r⟩ => ⟨a, vs, e, l.rdD trivial h, AtT.lck l r⟩
  | .zK xs, v, ⟨a, o, vs, e, h, r⟩ => ⟨a, o, vs, e, l.no h id, AtK.lck l r⟩
  | .zT xs, v, ⟨a, o, vs, e, h, r⟩ => ⟨a, o, vs, e, l.no h id, AtT.lck l r⟩
  | .ins c xs, v, ⟨a, C, dx, vs, e, q, h, r⟩ => ⟨a, C, dx, vs, e, q, l.no h id, AtF.lck l r⟩
theorem AtL.lck (l : Lck G G') : ∀ {ds : List D} {vs : List V}, AtL K ca G ds vs → AtL K ca G' ds vs
  | [], _, h => h
  | _ :: _, _, ⟨v, r, e, h, t⟩ => ⟨v, r, e, At.lck l h, AtL.lck l t⟩
theorem AtK.lck (l : Lck G G') : ∀ {ds : List (Key × D)} {vs : List (Key × V)}, AtK K ca G ds vs → AtK K ca G' ds vs
  | [], _, h => h
  | (_, _) :: _, _, ⟨v, r, e, h, t⟩ => ⟨v, r, e, At.lck l h, AtK.lck l t⟩
theorem AtT.lck (l : Lck G G') : ∀ {ds : List (List Key × D)} {vs : List (List Key × V)}, AtT K ca G ds vs → AtT K ca G' ds vs
  | [], _, h => h
  | (_, _) :: _, _, ⟨v, r, e, h, t⟩ => ⟨v, r, e, At.lck l h, AtT.lck l t⟩
theorem AtF.lck (l : Lck G G') : ∀ {ds : List (Nat × D)} {vs : List (Str × V)}, AtF K ca G ds vs → AtF K ca G' ds vs
  | [], _, h => h
  | (_, _) :: _, _, ⟨v, r, e, h, t⟩ => ⟨v, r, e, At.lck l h, AtF.lck l t⟩
end
theorem Own.lck {H H' : Hp} {a : Addr} {s : Sl} (l : Lck G G') (e : H' a = H a) (h : Own K ca G H a s) : Own K ca G' H' a s := by
  cases s with
  | no => exact h
  | x _ => exact h
  | v d => exact h
  | l xs => obtain ⟨vs, h1, h2⟩ := h; exact ⟨vs, e.trans h1, AtL.lck l h2⟩
  | k xs => obtain ⟨vs, h1, h2⟩ := h; exact ⟨vs, e.trans h1, AtK.lck l h2⟩
  | t xs => obtain ⟨vs, h1, h2⟩ := h; exact ⟨vs, e.trans h1, AtT.lck l h2⟩
  | o g c fs => obtain ⟨C, dx, vs, hg, h0, h1, h2⟩ := h; exact ⟨C, dx, vs, hg, h0, e.trans h1, AtF.lck l h2⟩
theorem ExAt.lck {x : Ex} {c : Value} {dx : Option Addr} (l : Lck G G') : ExAt K ca G x c dx → ExAt K ca G' x c dx
  | ⟨C, h1, h2, h3⟩ => ⟨C, h1, h2, h3.elim .inl fun ⟨d, vs, e1, e2, e3⟩ => .inr ⟨d, vs, e1, l.no e2 id, AtF.lck l e3⟩⟩
/-- the dict of slot i is locked -/
theorem Rel.lck {B H : Hp} {σ : L2.St} {ρ : Ev} {i : Nat} {kvs : List (List Key × D)} {vs : List (List Key × V)} {a : Addr} {od : Obj} (r : Rel K ca B G H σ ρ) (s : Same G H) (b : Same B H) (hi : σ[i]? = some (some (.ref a))) (hl : ρ[i]? = some (.v (.dT kvs))) (g : G a = some (.dT vs)) (t : AtT K ca G kvs vs) :
    ∃ B', Same B' (upd H a (.frz od (.dT vs))) ∧ Rel K ca B' (upd G a (.frz od (.dT vs))) (upd H a (.frz od (.dT vs))) σ (ρ.set i (.v (.zT kvs))) := by
  have lk : Lck G (upd G a (.frz od (.dT vs))) := fun c u e => by
    by_cases z : c = a
    · subst z; rw [g] at e; cases e; exact .inr ⟨trivial, od, upd_same⟩
    · exact .inl (by rw [upd_ne z]; exact e)
  refine ⟨fun c => if c = a then (if B a = none then none else some (.frz od (.dT vs))) else B c, fun c u e => ?_, ?_⟩
  · by_cases z : c = a
    · subst z
      have e2 : (if c = c then (if B c = none then none else some (.frz od (.dT vs))) else B c) = some u := e
      rw [if_pos rfl] at e2
      split at e2
      · cases e2
      · rw [upd_same]; exact e2
    · have e2 : (if c = a then (if B a = none then none else some (.frz od (.dT vs))) else B c) = some u := e
      rw [if_neg z] at e2; rw [upd_ne z]; exact b c u e2
  · refine ⟨by rw [List.length_set]; exact r.len, fun j d q => ?_, fun j u q o => ?_, fun j k u u' c q o q' o' x y => ?_, fun j x q => ?_⟩
    · rcases getElem?_set' q with ⟨rfl, z⟩ | ⟨ne, q⟩
      · cases z
        exact ⟨_, hi, a, od, vs, rfl, upd_same, AtT.lck lk t⟩
      · obtain ⟨v, h1, h2⟩ := r.val j d q
        exact ⟨v, h1, At.lck lk h2⟩
    · rcases getElem?_set' q with ⟨rfl, z⟩ | ⟨ne, q⟩
      · rw [z] at o; cases o
      · obtain ⟨c, h1, h2, h3, h4⟩ := r.own j u q o
        have nc : c ≠ a := fun z => by rw [z, g] at h3; cases h3
        exact ⟨c, h1, Own.lck lk (upd_ne nc) h2, by rw [upd_ne nc]; exact h3, by show (if c = a then _ else B c) = none; rw [if_neg nc]; exact h4⟩
    · rcases getElem?_set' q with ⟨rfl, z⟩ | ⟨nj, q⟩
      · rw [z] at o; cases o
      · rcases getElem?_set' q' with ⟨rfl, z⟩ | ⟨nk, q'⟩
        · rw [z] at o'; cases o'
        · exact r.sep j k u u' c q o q' o' x y
    · rcases getElem?_set' q with ⟨rfl, z⟩ | ⟨ne, q⟩
      · cases z
      · obtain ⟨c, cc, dx, h1, h2, h3⟩ := r.exc j x q
        exact ⟨c, cc, dx, h1, h2, h3.lck lk⟩
end
def eLckT (i : Nat) (f : Ev → R D) : Ev → R D := fun ρ => match ρ[i]? with
  | some (.v (.dT kvs)) => (f (ρ.set i (.v (.zT kvs)))).quiet.bind fun d => (match d with
    | .lst xs => if tupL xs = true then .ok (.lst xs) else .bad
    | _ => .bad)
  | _ => .bad
theorem fe_lckT {X : Cx} {ca : Cn} {W : WX} {e : Expr} {f : Ev → R D} (i : Nat) (h : FE X ca W e f) : FE X ca W e (eLckT i f) := by
  obtain ⟨t, p, k⟩ := h.ex
  refine ⟨fun σ H Q => tLockE t σ H Q ∨ t σ H Q, pe_or2 (pe_lock p) p, fun B G H σ ρ Q s b r w => ?_⟩
  unfold eLckT at w
  split at w
  · rename_i kvs hl
    obtain ⟨d, e1, w2⟩ := wish_quiet w
    split at w2
    · rename_i xs
      split at w2
      · rename_i tl
        obtain ⟨v, hi, a, vs, rfl, g, at_⟩ := r.val i _ hl
        rcases g with g | ⟨od, g⟩
        · refine .inl ⟨a, .dT vs, s _ _ g, trivial, fun od => ?_⟩
          obtain ⟨B', b', r'⟩ := r.lck (od := od) s b hi hl g at_
          refine k B' (upd G a (.frz od (.dT vs))) _ σ _ _ (same_upd2 s) b' r' ?_
          rw [e1]
          intro G2 H2 x v av
          have ha : H2 a = some (.frz od (.dT vs)) := x.hh _ _ upd_same
          have ga : G2 a = some (.frz od (.dT vs)) := x.gg _ _ upd_same
          refine ⟨ha, w2 (upd G2 a (.dT vs)) (upd H2 a (.dT vs)) ⟨fun c u e => ?_, fun c u e => ?_, same_upd2 x.gh, fun c n => ?_⟩ v ?_⟩
          · by_cases z : c = a
            · subst z; rw [s _ _ g] at e; rw [upd_same]; exact e
            · rw [upd_ne z]; exact x.hh c u (by rw [upd_ne z]; exact e)
          · by_cases z : c = a
            · subst z; rw [g] at e; rw [upd_same]; exact e
            · rw [upd_ne z]; exact x.gg c u (by rw [upd_ne z]; exact e)
          · by_cases z : c = a
            · subst z; exact .inl (by rw [g]; simp)
            · rw [upd_ne z] at n
              rcases x.nw c n with q | q
              · exact .inl (by rw [upd_ne z] at q; exact q)
              · exact .inr (by unfold Fre at q ⊢; rw [upd_ne z] at q; exact q)
          · obtain ⟨pp, ws, rfl, q1, q2⟩ := av
            have npa : pp ≠ a := fun z => by rw [z, ga] at q1; cases q1
            refine ⟨pp, ws, rfl, by rw [upd_ne npa]; exact q1, tupL_at (fun tt o e it => ?_) tl q2⟩
            have nta : tt ≠ a := fun z => by rw [z, ga] at e; cases e; exact it
            rw [upd_ne nta]
            exact e
        · refine .inr (k B G H σ (ρ.set i (.v (.zT kvs))) Q s b ⟨by rw [List.length_set]; exact r.len, fun j d q => ?_, fun j u q o => ?_, fun j kk u u' c q o q' o' x y => ?_, fun j x q => ?_⟩ ?_)
          · rcases getElem?_set' q with ⟨rfl, z⟩ | ⟨ne, q⟩
            · cases z
              exact ⟨_, hi, a, od, vs, rfl, g, at_⟩
            · exact r.val j d q
          · rcases getElem?_set' q with ⟨rfl, z⟩ | ⟨ne, q⟩
            · rw [z] at o; cases o
            · exact r.own j u q o
          · rcases getElem?_set' q with ⟨rfl, z⟩ | ⟨nj, q⟩
            · rw [z] at o; cases o
            · rcases getElem?_set' q' with ⟨rfl, z⟩ | ⟨nk, q'⟩
              · rw [z] at o'; cases o'
              · exact r.sep j kk u u' c q o q' o' x y
          · rcases getElem?_set' q with ⟨rfl, z⟩ | ⟨ne, q⟩
            · cases z
            · exact r.exc j x q
          · rw [e1]; exact w2
      · exact w2.elim
    · exact w2.elim
  · exact w.elim
/-! the keys, walked -/
def dKey : Key → D
  | .inl i => .int i
  | .inr z => .str z
def iKeyT (fo : Ev → R D) : Ev → R (List D) := fun ρ => (fo ρ).bind fun d => match d with
  | .zT kvs => .ok (kvs.map fun kv => .tup (kv.1.map dKey))
  | _ => .bad
theorem keyV_at {K : PySem.W.Frag} {ca : Cn} {G : Hp} : ∀ k : List Key, AtL K ca G (k.map dKey) (k.map kV)
  | [] => rfl
  | .inl i :: k => ⟨_, _, rfl, rfl, keyV_at k⟩
  | .inr i :: k => ⟨_, _, rfl, rfl, keyV_at k⟩
theorem AtT.keys {K : PySem.W.Frag} {ca : Cn} {G : Hp} : ∀ {kvs : List (List Key × D)} {vs : List (List Key × V)}, AtT K ca G kvs vs → vs.map (·.1) = kvs.map (·.1)
  | [], _, h => by cases h; rfl
  | (_, _) :: _, _, ⟨_, _, e, _, t⟩ => by subst e; simp [AtT.keys t]
theorem jok_keysT {K : PySem.W.Frag} {ca : Cn} {G0 : Hp} {a : Addr} {od : Obj} {kvs : List (List Key × D)} {vs : List (List Key × V)} (g : G0 a = some (.frz od (.dT vs))) (r : AtT K ca G0 kvs vs) : JOk K ca G0 (Itkt a od vs) (kvs.map fun kv => .tup (kv.1.map dKey)) := by
  intro G H s1 s2 i
  have ga : H a = some (.frz od (.dT vs)) := s2 _ _ (s1 _ _ g)
  have l := r.length
  have ks := r.keys
  refine ⟨fun d e => ?_, fun e => ⟨ga, by rw [List.length_map] at e; omega⟩⟩
  have hi : i < kvs.length := by
    have := (List.getElem?_eq_some_iff.mp e).1
    rwa [List.length_map] at this
  refine ⟨⟨ga, by omega⟩, fun x H' y => ?_⟩
  obtain ⟨rfl, k, v, q, h1, rfl, h2⟩ := y
  have hk : (kvs.map (·.1))[i]? = some k := by rw [← ks, List.getElem?_map, h1]; rfl
  rw [List.getElem?_map] at e hk
  cases z : kvs[i]? with
  | none => rw [z] at hk; cases hk
  | some kv =>
    rw [z] at e hk
    cases e
    have e1 : kv.1 = k := Option.some.inj hk
    subst e1
    refine ⟨upd G q (.tup (kv.1.map kV)), ⟨.refl _, fun c o e => ?_, fun c o e => ?_, fun c n => ?_⟩, q, _, rfl, upd_same, keyV_at kv.1⟩
    · by_cases zc : c = q
      · subst zc
        have := s2 _ _ e
        rw [h2] at this
        rw [upd_same]
        exact this
      · rw [upd_ne zc]; exact e
    · by_cases zc : c = q
      · subst zc; rw [upd_same] at e; cases e; exact h2
      · rw [upd_ne zc] at e; exact s2 _ _ e
    · by_cases zc : c = q
      · subst zc; exact .inr (.inr ⟨_, h2⟩)
      · rw [upd_ne zc] at n; exact .inl n
theorem fi_keyT {X : Cx} {ca : Cn} {W : WX} {tg e : Expr} {fo : Ev → R D} (h : FE X ca W e fo) : FI X ca W tg e (iKeyT fo) := by
  obtain ⟨t, p, k⟩ := h.ex
  refine ⟨_, pi_keys p, fun B G H σ ρ Q s b r w => k B G H σ ρ _ s b r (Wish.bind w fun d G1 H1 _ x1 w1 v av => ?_)⟩
  cases d with
  | zT kvs =>
    obtain ⟨a, od, vs, rfl, g, at_⟩ := av
    exact ⟨a, od, rfl, .inr ⟨vs, x1.gh _ _ g, w1 G1 H1 (.refl x1.gh) _ (jok_keysT g at_)⟩⟩
  | _ => exact w1.elim
end Tk

/-! sorted(xs), xs a list of tuples of ints, of any lengths -/
namespace Tk
open PySem PySem.Spec L2 PyProof.Rows
theorem lex_ints : ∀ ns ms : List Int, lexLt itemOrd (ns.map Sum.inl) (ms.map Sum.inl) = ltL ns ms
  | [], [] => rfl
  | [], _ :: _ => rfl
  | _ :: _, [] => rfl
  | a :: as, b :: bs => by
    rw [ltL_cons]
    by_cases z : a = b
    · subst z
      rw [if_pos rfl, List.map_cons, List.map_cons, lex_self]
      exact lex_ints as bs
    · rw [if_neg z, List.map_cons, List.map_cons, lex_diff fun e => z (Sum.inl.inj e)]
      rfl
theorem tupItems_ints : ∀ {vs : List Value} {ns : List Int} (i : Nat), IntsAre vs ns → tupItems (fun _ => false) i vs = some (ns.map Sum.inl)
  | _, _, _, .nil => rfl
  | _, _, i, .cons n t r => by
    have ih := tupItems_ints (i + 1) r
    simp only [tupItems, List.map_cons, ih]
    rfl
section
variable {prog : Program} {w : World} {A : Around} {s : Shared}
/-- a tuple of these ints -/
def IsTI (h : Heap) (v : Value) (ns : List Int) : Prop := ∃ a its, v = .ref a ∧ h.IsTuple a its ∧ IntsAre its.toList ns
def kdOf (ns : List (List Int)) : SortKind := if (ns.all fun n => !n.isEmpty) = true then tuples' true else if ((ns.head?.map fun n => !n.isEmpty).getD false) = true then general' else oneType'
theorem ti_lt_ref {v u : Value} {ns ms : List Int} (hu : A.units < cLine) (hv : IsTI s.heap v ns) (hw : IsTI s.heap u ms) : SeqAt.RcLt A s v u (ltL ns ms) := by
  obtain ⟨a, xs, rfl, la, ia⟩ := hv
  obtain ⟨b, ys, rfl, lb, ib⟩ := hw
  obtain ⟨n1, g1⟩ := ints_get ia
  obtain ⟨n2, g2⟩ := ints_get ib
  rw [Array.length_toList] at n1 n2
  rw [← first_L ns ms, ← n1, ← n2]
  refine SeqAt.RcLt.tuples (e := fun j => ns.getD j 0 == ms.getD j 0) (r := fun j => decide (ns.getD j 0 < ms.getD j 0)) la lb hu (fun j h1 h2 => ?_) fun j h1 h2 _ => ?_
  · obtain ⟨t1, e1⟩ := g1 j (by rw [Array.length_toList]; exact h1)
    obtain ⟨t2, e2⟩ := g2 j (by rw [Array.length_toList]; exact h2)
    rw [Array.getElem_toList] at e1 e2
    rw [e1, e2]
    exact SeqAt.EqAt.int_int _ t1 _ t2
  · obtain ⟨t1, e1⟩ := g1 j (by rw [Array.length_toList]; exact h1)
    obtain ⟨t2, e2⟩ := g2 j (by rw [Array.length_toList]; exact h2)
    rw [Array.getElem_toList] at e1 e2
    rw [e1, e2]
    exact fun _ _ _ _ h => PyProof.Rows.lt_int h
theorem ti_lt_slot {v u : Value} {ns ms : List Int} (hu : A.units < cLine) (hv : IsTI s.heap v ns) (hw : IsTI s.heap u ms) : wpAny (model prog w) A (oneLt' true v u) (fun r s' => s' = s ∧ r = ltL ns ms) (fun _ _ => False) s := by
  obtain ⟨a, xs, rfl, la, ia⟩ := hv
  obtain ⟨b, ys, rfl, lb, ib⟩ := hw
  obtain ⟨n1, g1⟩ := ints_get ia
  obtain ⟨n2, g2⟩ := ints_get ib
  rw [Array.length_toList] at n1 n2
  rw [oneLt'_eq]
  simp only [if_true]
  refine wpAny_bind (wpAny_cRoomFor hu ?_)
  obtain ⟨⟨cls, dd, data, sl⟩, ho, hc, n, hd⟩ := id la
  obtain ⟨⟨cls2, dd2, data2, sl2⟩, ho2, hc2, m, hd2⟩ := id lb
  simp only at hc hd hc2 hd2
  subst hc hd hc2 hd2
  refine wpAny_bind (wpAny_callSpecialIfBound?_slot (T := "tuple") ⟨_, ho, rfl⟩ PySem.F.slot_tuple_lt (call_meets PySem.F.slot_tuple_lt ⟨_, ho, rfl⟩ PySem.F.entry_tuple_lt (PySem.F.args_tuple_lt_2 _ _) (SeqAt.tuple_ltAt a b xs ys n m dd dd2 sl sl2 (fun j => ns.getD j 0 == ms.getD j 0) (fun j => decide (ns.getD j 0 < ms.getD j 0))) ⟨ho, ho2, fun j h1 h2 => ?_, fun j h1 h2 _ => ?_, ?_⟩))
  · obtain ⟨t1, e1⟩ := g1 j (by rw [Array.length_toList]; exact h1)
    obtain ⟨t2, e2⟩ := g2 j (by rw [Array.length_toList]; exact h2)
    rw [Array.getElem_toList] at e1 e2
    rw [e1, e2]
    exact SeqAt.EqAt.int_int _ t1 _ t2
  · obtain ⟨t1, e1⟩ := g1 j (by rw [Array.length_toList]; exact h1)
    obtain ⟨t2, e2⟩ := g2 j (by rw [Array.length_toList]; exact h2)
    rw [Array.getElem_toList] at e1 e2
    rw [e1, e2]
    exact fun _ _ _ _ h => PyProof.Rows.lt_int h
  · refine wpAny_truthy_bool ⟨rfl, ?_⟩
    rw [n1, n2]
    exact first_L ns ms
theorem ti_lt {v u : Value} {ns ms : List Int} (kd : List (List Int)) (hu : A.units < cLine) (hv : IsTI s.heap v ns) (hw : IsTI s.heap u ms) : wpAny (model prog w) A (keyLt' (kdOf kd) v u) (fun r s' => s' = s ∧ r = ltL ns ms) (fun _ _ => False) s := by
  unfold kdOf
  split
  · obtain ⟨a, xs, rfl, ⟨oa, ha, ca, na, da⟩, ia⟩ := hv
    obtain ⟨b, ys, rfl, ⟨ob, hb, cb, nb, db⟩, ib⟩ := hw
    exact PySem.W.kat_lt ha da hb db (tup_lex xs.toList ys.toList 0 _ _ (tupItems_ints 0 ia) (tupItems_ints 0 ib) (by rw [Array.length_toList, Array.length_toList]) ⟨rfl, lex_ints ns ms⟩)
  · split
    · show wpAny _ A (oneLt' false v u) _ _ s
      rw [oneLt'_eq]
      simp only [Bool.false_eq_true, if_false]
      exact wpAny_bind (ti_lt_ref hu hv hw prog w _ _ (wpAny_truthy_bool ⟨rfl, rfl⟩))
    · rw [keyLt'_oneType]
      exact ti_lt_slot hu hv hw
theorem firsts_ti {M : Model} {E : Value → Shared → Prop} {k : Value → List Int} : ∀ (vs : List Value) {Q : List (Option Value) → Shared → Prop}, (∀ v ∈ vs, IsTI s.heap v (k v)) →
    (∀ fs : List (Option Value), fs.map Option.isSome = vs.map (fun v => !(k v).isEmpty) → (∀ u, some u ∈ fs → ∃ n t, u = .int n t) → Q fs s) → wpAny M A (vs.mapM firstOfTuple') Q E s
  | [], Q, _, h => by rw [List.mapM_nil]; exact wpAny_pure (h [] rfl fun u m => by cases m)
  | v :: vs, Q, hv, h => by
    obtain ⟨a, its, rfl, ⟨o, ho, hc, n, hd⟩, i⟩ := hv v List.mem_cons_self
    rw [List.mapM_cons]
    refine wpAny_bind ?_
    rw [PySem.W.kas_first_eq]
    refine wpAny_bind (PySem.W.Looks.here (show PySem.W.Looks M s.heap (typeOf (.ref a)) o.cls from (PySem.W.Looks.ld ho).andThen .now) ?_)
    rw [hc, if_neg (by first | decide | simp)]
    refine wpAny_bind (listItems_at ho hd (wpAny_pure (wpAny_bind (firsts_ti vs (fun u m => hv u (List.mem_cons_of_mem _ m)) fun fs e q => wpAny_pure ?_))))
    refine h (its[0]? :: fs) ?_ fun u m => ?_
    · rw [List.map_cons, List.map_cons, e]
      obtain ⟨ln, g⟩ := ints_get i
      congr 1
      cases z : k (.ref a) with
      | nil =>
        rw [z, Array.length_toList] at ln
        have z0 : its[0]? = none := Array.getElem?_eq_none (by rw [ln]; exact Nat.le_refl _)
        rw [z0]; rfl
      | cons x r =>
        rw [z, Array.length_toList] at ln
        have : 0 < its.size := by rw [ln]; exact Nat.succ_pos _
        rw [Array.getElem?_eq_getElem this]; rfl
    · rcases List.mem_cons.mp m with m | m
      · obtain ⟨ln, g⟩ := ints_get i
        obtain ⟨h0, e0⟩ := Array.getElem?_eq_some_iff.mp m.symm
        obtain ⟨t, et⟩ := g 0 (by rw [Array.length_toList]; exact h0)
        rw [Array.getElem_toList] at et
        exact ⟨_, t, e0.symm.trans et⟩
      · exact q u m
theorem all_isSome : ∀ {fs : List (Option Value)} {b : List Bool}, fs.map Option.isSome = b → fs.all (·.isSome) = b.all id
  | [], _, e => by subst e; rfl
  | f :: fs, _, e => by subst e; simp only [List.map_cons, List.all_cons, id, all_isSome (fs := fs) rfl]
theorem filter_id : ∀ {fs : List (Option Value)}, fs.all (·.isSome) = true → (fs.filterMap id).map some = fs
  | [], _ => rfl
  | none :: _, h => by simp at h
  | some f :: fs, h => by
    rw [List.all_cons, Bool.and_eq_true] at h
    rw [List.filterMap_cons]
    show some f :: (fs.filterMap id).map some = _
    rw [filter_id h.2]
theorem kind_ti {M : Model} {E : Value → Shared → Prop} {k : Value → List Int} {vs : List Value} {Q : SortKind → Shared → Prop} (h2 : 2 ≤ vs.length) (hv : ∀ v ∈ vs, IsTI s.heap v (k v)) (h : Q (kdOf (vs.map k)) s) : wpAny M A (keyKind' vs.toArray) Q E s := by
  rw [kat_kind_eq, List.mapM_toArray, map_eq_pure_bind]
  refine wpAny_bind (wpAny_bind (firsts_ti (k := k) vs hv fun fs e q => wpAny_pure ?_))
  have ea : fs.toArray.all (·.isSome) = (vs.map k).all fun n => !n.isEmpty := by
    rw [List.all_toArray, all_isSome e, List.all_map, List.all_map]; rfl
  have eh : ((fs.toArray[0]?).bind id).isSome = ((vs.map k).head?.map fun n => !n.isEmpty).getD false := by
    cases vs with
    | nil => simp at h2
    | cons v r =>
      cases fs with
      | nil => cases e
      | cons f fr =>
        rw [List.map_cons, List.map_cons] at e
        have e1 := (List.cons.inj e).1
        simpa using e1
  unfold kdOf at h
  by_cases hall : ((vs.map k).all fun n => !n.isEmpty) = true
  · rw [if_pos hall] at h
    rw [if_pos (by rw [ea]; exact hall)]
    refine wpAny_bind (wpAny_rule ?_)
    have fa : fs.all (·.isSome) = true := by rw [← List.all_toArray, ea]; exact hall
    have f1 := filter_id fa
    have fm : (fs.toArray.filterMap id) = (fs.filterMap id).toArray := by simp
    have inT : ∀ u ∈ fs.filterMap id, ∃ n t, u = Value.int n t := fun u m => q u (by rw [← f1]; exact List.mem_map.mpr ⟨u, m, rfl⟩)
    have ne : fs.filterMap id ≠ [] := fun z => by
      rw [z] at f1
      have l := congrArg List.length e
      rw [← f1] at l
      simp at l
      omega
    rw [fm, oneTypeOnly'_eq, List.mapM_toArray, map_eq_pure_bind]
    refine wpAny_bind (wpAny_bind (wpAny_bind (PySem.W.kas_mapM (r := Value.type "int") _ (fun u m Q' hq => ?_) (wpAny_pure ?_))))
    · obtain ⟨n, t, rfl⟩ := inT u m
      exact (PySem.W.Looks.of_pure (M := M) (h := s.heap) rfl).here hq
    · have hall2 : ((List.map (fun _ => Value.type "int") (fs.filterMap id)).toArray.all fun x => x == Value.type "int") = true := by
        simp only [List.all_toArray, List.all_map, List.all_eq_true]
        intro _ _
        rfl
      have h0 : (List.map (fun _ => Value.type "int") (fs.filterMap id)).toArray[0]? = some (Value.type "int") := by
        cases z : fs.filterMap id with
        | nil => exact (ne z).elim
        | cons _ _ => simp
      rw [h0]
      simp only [hall2, if_true]
      exact wpAny_pure (wpAny_pure h)
  · rw [if_neg hall] at h
    rw [if_neg (by rw [ea]; exact hall)]
    by_cases hh : (((vs.map k).head?.map fun n => !n.isEmpty).getD false) = true
    · rw [if_pos hh] at h
      rw [if_pos (by rw [eh]; exact hh)]
      exact wpAny_pure h
    · rw [if_neg hh] at h
      rw [if_neg (by rw [eh]; exact hh)]
      rw [oneTypeOnly'_eq, List.mapM_toArray, map_eq_pure_bind]
      refine wpAny_bind (wpAny_bind (wpAny_bind (PySem.W.kas_mapM (r := Value.type "tuple") _ (fun u m Q' hq => ?_) (wpAny_pure ?_))))
      · obtain ⟨a, its, rfl, ⟨o, ho, hc, _⟩, _⟩ := hv u m
        exact PySem.W.Looks.here (show PySem.W.Looks M s.heap (typeOf (.ref a)) o.cls from (PySem.W.Looks.ld ho).andThen .now) (by rw [hc]; exact hq)
      · have hall2 : ((List.map (fun _ => Value.type "tuple") vs).toArray.all fun x => x == Value.type "tuple") = true := by
          simp only [List.all_toArray, List.all_map, List.all_eq_true]
          intro _ _
          rfl
        have h0 : (List.map (fun _ => Value.type "tuple") vs).toArray[0]? = some (Value.type "tuple") := by
          cases vs with
          | nil => simp at h2
          | cons _ _ => simp
        rw [h0]
        simp only [hall2, if_true]
        exact wpAny_pure (wpAny_pure h)
theorem ti_sortable {a : Addr} {vs : List Value} {k : Value → List Int} (hu : A.units < cLine) (h2 : 2 ≤ vs.length) (hp : ∀ v ∈ vs, IsTI s.heap v (k v) ∧ v ≠ .ref a) : SrtO.SortableO prog w A s a vs fun v u => ltL (k v) (k u) := by
  intro h' keep
  have hp' : ∀ v ∈ vs, IsTI h' v (k v) := fun v hm => by
    obtain ⟨⟨b, its, rfl, ⟨o, ho, r⟩, i⟩, ne⟩ := hp v hm
    exact ⟨b, its, rfl, ⟨o, keep b o (fun e => ne (by rw [e])) ho, r⟩, i⟩
  exact ⟨kdOf (vs.map k), fun Q E hq => kind_ti h2 hp' hq, fun p q hm hm' => ti_lt (vs.map k) hu (hp' _ hm) (hp' _ hm')⟩
theorem sorted_ti {l : Addr} {vs : List Value} {k : Value → List Int} {E : Value → Shared → Prop} {Q : Value → Shared → Prop} (hu : A.units + 2 < cLine) (hl : s.heap.IsList l vs.toArray) (hz : vs.length ≤ sizeLine) (hp : ∀ v ∈ vs, IsTI s.heap v (k v))
    (h : ∀ (h' : Heap) (d : Addr) (out : List Value), SrtO.Srtd (fun v u => ltL (k v) (k u)) out → SrtO.Stb (fun v u => ltL (k v) (k u)) out vs → (∀ b o, s.heap.get? b = some o → h'.get? b = some o) → s.heap.objs.size ≤ d → (∃ n, h'.get? d = some { cls := .type "list", data := .seq out.toArray n }) → Q (.ref d) { s with heap := h' }) :
    wpAny (model prog w) A (call (.builtin "sorted") [.ref l]) Q E s := by
  refine SrtO.sorted_ord (swo_L k) hl hz (fun h2 h₁ a ha kk => ?_) fun out hs hb => ?_
  · refine ti_sortable (s := { s with heap := h₁ }) (by show A.units + 1 + 1 < cLine; omega) h2 fun v hm => ?_
    obtain ⟨b, its, rfl, ⟨o, ho, r⟩, i⟩ := hp v hm
    obtain ⟨ne, ho'⟩ := kk b o ho
    exact ⟨⟨b, its, rfl, ⟨o, ho', r⟩, i⟩, fun e => ne (Value.ref.inj e)⟩
  · exact h _ _ out hs hb (fun b o e => PyProof.Rows.sortedAll_old e) (Nat.le_succ _) (PyProof.Rows.sortedAll_at s.heap vs out.toArray)
end
/-- sorted(xs), xs a list of tuples of ints (k says which) -/
def rSortedTL (K : PySem.W.Frag) : List V → Hp → VK → Prop := fun vs H Q => ∃ (a : Addr) (xs : List V) (k : V → List Int), vs = [V.ref a] ∧ SqL K H a xs ∧ (∀ x ∈ xs, ∃ t, x = V.ref t ∧ H t = some (.tup ((k x).map V.int))) ∧
  ∀ ys p, SrtO.Srtd (fun v u => ltL (k v) (k u)) ys → SrtO.Stb (fun v u => ltL (k v) (k u)) ys xs → H p = none → Q (.ref p) (upd H p (.lst ys))
section
variable {X : Cx} {ca : Cn} {W : WX} {e : Expr} {es : List Expr} {fl : Ev → R (List D)} {p pos : Pos}
theorem cr_sortedTL (hu : X.A.units + 2 < cLine) : CallR X (.builtin "sorted") (rSortedTL X.K) := by
  intro pins s σ H vs us Q I r h
  obtain ⟨a, xs, k, rfl, hs, hx, q⟩ := h
  obtain ⟨its, rv, hl, hz⟩ := I.list hs
  obtain ⟨u, rfl, ru⟩ := vals1 r
  obtain rfl : u = Value.ref a := ru
  obtain ⟨e1, e2⟩ := refs_back rv fun x m => by
    obtain ⟨t, e, _⟩ := hx x m
    exact ⟨t, e⟩
  refine sorted_ti (k := fun u => k (backV u)) hu hl.isList (by rw [← rv.length]; exact hz) (fun v hv => ?_) fun h' d out h1 h2 kp hd hn => ?_
  · obtain ⟨t, rfl⟩ := e2 v hv
    have hm : V.ref t ∈ xs := by rw [e1]; exact List.mem_map.mpr ⟨_, hv, rfl⟩
    obtain ⟨t', e, ht⟩ := hx _ hm
    cases e
    obtain ⟨_, its2, r2, ho⟩ := I.hok _ _ ht
    exact ⟨t, its2.toArray, rfl, ho, r2.ints⟩
  · have h3 : ∀ u ∈ out, ∃ a, u = Value.ref a := fun u hu => e2 u (h2.perm.mem_iff.mp hu)
    obtain ⟨n, hn⟩ := hn
    have hb : SrtO.Stb (fun v u => ltL (k v) (k u)) (out.map backV) xs := by
      rw [e1]
      exact SrtO.Stb.map (swo_L k) backV h2
    refine ⟨.ref d, upd H d (.lst (out.map backV)), I.laid (t' := s.toks) kp hd ⟨?_, out, n, vals_back h3, hn⟩, rfl, q _ d (SrtO.srtd_map h1) hb (I.hok.fresh hd)⟩
    rw [hb.len]
    exact hz
def dTI (r : List Int) : D := .tup (r.map .int)
def tintOf : D → Option (List Int)
  | .tup xs => intsOf xs
  | _ => none
def tintsOf : List D → Option (List (List Int))
  | [] => some []
  | d :: r => (tintOf d).bind fun p => (tintsOf r).map (p :: ·)
def gSrtT : List D → R D
  | [.lst xs] => (optR (tintsOf xs)).bind fun ps => .ok (.lst ((srtL ps).map dTI))
  | _ => .bad
theorem tintsOf_eq : ∀ {ds : List D} {ps : List (List Int)}, tintsOf ds = some ps → ∀ {G : Hp} {vs : List V}, AtL X.K ca G ds vs → ∃ k : V → List Int, vs.map k = ps ∧ ∀ x ∈ vs, ∃ t, x = V.ref t ∧ G t = some (.tup ((k x).map V.int)) := by
  intro ds ps h G vs a
  refine ⟨fun x => match x with
    | .ref t => match G t with
      | some (.tup ys) => ys.map fun y => match y with
        | .int i => i
        | _ => 0
      | _ => []
    | _ => [], ?_⟩
  induction ds generalizing ps vs with
  | nil => cases h; cases a; exact ⟨rfl, fun x m => by cases m⟩
  | cons d r ih =>
    obtain ⟨p, h1, h2⟩ := Option.bind_eq_some_iff.mp (show (tintOf d).bind (fun p => (tintsOf r).map (p :: ·)) = some ps from h)
    obtain ⟨qs, h3, rfl⟩ := Option.map_eq_some_iff.mp h2
    obtain ⟨v, us, rfl, a1, a2⟩ := a
    obtain ⟨e1, e2⟩ := ih h3 a2
    cases d with
    | tup xs =>
      obtain ⟨t, ws, rfl, g0, a3⟩ := a1
      have g : G t = some (.tup ws) := g0
      have ew := intsOf_at (show intsOf xs = some p from h1) a3
      subst ew
      have mm : (p.map V.int).map (fun y => match y with
        | .int i => i
        | _ => 0) = p := by
        rw [List.map_map]
        exact (List.map_congr_left fun _ _ => rfl).trans (List.map_id p)
      refine ⟨?_, fun x m => ?_⟩
      · rw [List.map_cons, e1]
        simp only [g, mm]
      · rcases List.mem_cons.mp m with rfl | m
        · refine ⟨t, rfl, ?_⟩
          simp only [g, mm]
        · exact e2 x m
    | _ => cases h1
theorem at_tints {G : Hp} {k : V → List Int} : ∀ {vs : List V}, (∀ x ∈ vs, ∃ t, x = V.ref t ∧ G t = some (.tup ((k x).map V.int))) → AtL X.K ca G ((vs.map k).map dTI) vs
  | [], _ => rfl
  | v :: vs, h => by
    obtain ⟨t, e, g⟩ := h v List.mem_cons_self
    exact ⟨v, vs, rfl, ⟨t, _, e, g, AtL.of_ints _⟩, at_tints fun x m => h x (List.mem_cons_of_mem _ m)⟩
theorem vn_srtT : VN X ca (rSortedTL X.K) gSrtT := by
  intro G H W1 xs ds Q s a w
  unfold gSrtT at w
  split at w
  · obtain ⟨v, rfl, p, vs, rfl, h1, h2⟩ := atl1 a
    obtain ⟨ps, e, w2⟩ := wish_opt w
    obtain ⟨k, e1, e2⟩ := tintsOf_eq e h2
    refine ⟨p, vs, k, rfl, .of (s _ _ h1), fun x m => let ⟨t, z1, z2⟩ := e2 x m; ⟨t, z1, s _ _ z2⟩, fun ys q so sb n => ?_⟩
    have e3 : ys.map k = srtL ps := srtL_uniq (e1 ▸ sb.perm.map k) (List.pairwise_map.mpr so)
    have a3 : AtL X.K ca G ((ys.map k).map dTI) ys := at_tints fun x m => e2 x (sb.perm.mem_iff.mp m)
    rw [e3] at a3
    exact new_lst s w2 a3 n
  · exact w.elim
theorem fe_sortedT (hu : X.A.units + 65 < cLine) (T : BT X.mg) (ha : FA X ca W (e :: es) fl) (n : Nm X "sorted" e es pos := by exact ⟨rfl, rfl, rfl⟩) : FE X ca W (.Call (.Name "sorted" p) (e :: es) [] pos) (eA gSrtT fl) := fe_blt (cr_sortedTL (by omega)) vn_srtT n.g T.sorted bb_sorted ha (by decide) (by decide) n.h n.p
end
end Tk

/-! min(xs), max(xs), xs a tuple of ints -/
namespace Tk
open PySem PySem.Spec L2 PyProof.Rows
section
variable {prog : Program} {w : World} {A : Around} {E : Value → Shared → Prop} {s : Shared} {l : Addr} {xs : Array (Int × Tok)}
theorem iter_intTup {Q : Value → Shared → Prop} (hl : s.heap.IsTuple l (intItems xs))
    (h : ∀ s₂ : Shared, s₂ = { s with heap := s.heap.push { cls := .type "tuple_iterator", data := .fields #[.ref l, .int 0 0] } } →
      (s₂.heap.IsTupleIter s.heap.objs.size l 0 ∧ s₂.heap.IsTuple l (intItems xs)) → (∀ b ∈ [s.heap.objs.size, l], b < s₂.heap.objs.size) → l ≠ s.heap.objs.size → Q (.ref s.heap.objs.size) s₂) :
    wpAny (model prog w) A (pyIter (.ref l)) Q E s := by
  have hlt : l < s.heap.objs.size := by obtain ⟨_, e, _⟩ := hl; exact Heap.lt_size e
  refine wpAny_pyIter_tuple hl (h _ rfl ⟨⟨_, Heap.get?_push_size _ rfl, rfl, rfl⟩, hl.push _⟩ (fun b hb => ?_) (Nat.ne_of_lt hlt))
  show b < (s.heap.push _).objs.size
  rw [Heap.size_push]
  rcases List.mem_cons.mp hb with rfl | hb
  · exact Nat.lt_succ_self _
  · rcases List.mem_cons.mp hb with rfl | hb
    · exact Nat.lt_succ_of_lt hlt
    · cases hb
theorem old_keptT {h' : Heap} (hk : ∀ b o, b ∉ [s.heap.objs.size] → (s.heap.push { cls := .type "tuple_iterator", data := .fields #[.ref l, .int 0 0] }).get? b = some o → h'.get? b = some o) :
    ∀ b o, s.heap.get? b = some o → h'.get? b = some o := fun b o e => by
  refine hk b o (fun hm => ?_) (Heap.get?_push_of_some _ e)
  rcases List.mem_cons.mp hm with e1 | hm
  · exact absurd (e1 ▸ Heap.lt_size e) (Nat.lt_irrefl _)
  · cases hm
theorem min_intTup {Q : Value → Shared → Prop} (hh : A.handled = none) (hl : s.heap.IsTuple l (intItems xs)) (hne : 0 < xs.size)
    (h : ∀ v h' tk, (intItems xs)[argBest (fun i j => decide (numAt xs i < numAt xs j)) (xs.size - 1)]? = some v → (∀ b o, s.heap.get? b = some o → h'.get? b = some o) → Q v { s with heap := h', toks := tk }) :
    wpAny (model prog w) A (call (.builtin "min") [.ref l]) Q E s := by
  refine call_min_walk (iter_intTup hl fun s₂ e st hfp hlI => ?_)
  subst e
  refine ⟨_, _, _, _, _, _, _, rfl, Walks.tuple (A := A.in1) hh _ l hlI (intItems xs), st, hfp, by simpa [intItems] using hne, CmpOf.ints_lt (numAt xs) (fun _ _ => intItems_at), fun v h' tk hP hk => ?_⟩
  exact h v h' tk (by simpa [intItems] using hP) (old_keptT hk)
theorem max_intTup {Q : Value → Shared → Prop} (hh : A.handled = none) (hl : s.heap.IsTuple l (intItems xs)) (hne : 0 < xs.size)
    (h : ∀ v h' tk, (intItems xs)[argBest (fun i j => decide (numAt xs i > numAt xs j)) (xs.size - 1)]? = some v → (∀ b o, s.heap.get? b = some o → h'.get? b = some o) → Q v { s with heap := h', toks := tk }) :
    wpAny (model prog w) A (call (.builtin "max") [.ref l]) Q E s := by
  refine call_max_walk (iter_intTup hl fun s₂ e st hfp hlI => ?_)
  subst e
  refine ⟨_, _, _, _, _, _, _, rfl, Walks.tuple (A := A.in1) hh _ l hlI (intItems xs), st, hfp, by simpa [intItems] using hne, CmpOf.ints_gt (numAt xs) (fun _ _ => intItems_at), fun v h' tk hP hk => ?_⟩
  exact h v h' tk (by simpa [intItems] using hP) (old_keptT hk)
theorem max_rawT {its : List Value} {ns : List Int} {Q : Value → Shared → Prop} (hh : A.handled = none) (hl : s.heap.IsTuple l its.toArray) (hi : IntsAre its ns) (hne : 0 < ns.length)
    (h : ∀ h' tk M t', (∀ b o, s.heap.get? b = some o → h'.get? b = some o) → M ∈ ns → (∀ a, a ∈ ns → a ≤ M) → Q (.int M t') { s with heap := h', toks := tk }) : wpAny (model prog w) A (call (.builtin "max") [.ref l]) Q E s := by
  obtain ⟨xs, e⟩ := hi.allInts.items
  have hn : numsOf (intItems xs).toList = ns := by rw [← e]; exact hi.numsOf
  rw [nums_intItems] at hn
  subst hn
  rw [e] at hl
  have hsz : 0 < xs.size := by simpa using hne
  refine max_intTup hh hl hsz fun v h' tk hv hk => ?_
  obtain ⟨t, rfl⟩ := intItems_at hv
  obtain ⟨h1, h2⟩ := argBest_gt (numAt xs) (xs.size - 1)
  refine h h' tk _ t hk ?_ fun a ha => ?_
  · rw [numAt_eq]; exact PySem.getD_mem (by rw [List.length_map, Array.length_toList]; omega)
  · obtain ⟨j, hj, rfl⟩ := mem_getD ha
    rw [List.length_map, Array.length_toList] at hj
    rw [← numAt_eq]; exact h2 j (by omega)
theorem min_rawT {its : List Value} {ns : List Int} {Q : Value → Shared → Prop} (hh : A.handled = none) (hl : s.heap.IsTuple l its.toArray) (hi : IntsAre its ns) (hne : 0 < ns.length)
    (h : ∀ h' tk M t', (∀ b o, s.heap.get? b = some o → h'.get? b = some o) → M ∈ ns → (∀ a, a ∈ ns → M ≤ a) → Q (.int M t') { s with heap := h', toks := tk }) : wpAny (model prog w) A (call (.builtin "min") [.ref l]) Q E s := by
  obtain ⟨xs, e⟩ := hi.allInts.items
  have hn : numsOf (intItems xs).toList = ns := by rw [← e]; exact hi.numsOf
  rw [nums_intItems] at hn
  subst hn
  rw [e] at hl
  have hsz : 0 < xs.size := by simpa using hne
  refine min_intTup hh hl hsz fun v h' tk hv hk => ?_
  obtain ⟨t, rfl⟩ := intItems_at hv
  obtain ⟨h1, h2⟩ := argBest_lt (numAt xs) (xs.size - 1)
  refine h h' tk _ t hk ?_ fun a ha => ?_
  · rw [numAt_eq]; exact PySem.getD_mem (by rw [List.length_map, Array.length_toList]; omega)
  · obtain ⟨j, hj, rfl⟩ := mem_getD ha
    rw [List.length_map, Array.length_toList] at hj
    rw [← numAt_eq]; exact h2 j (by omega)
end
section
variable {X : Cx} {ca : Cn} {W : WX} {e : Expr} {es : List Expr} {fl : Ev → R (List D)} {p pos : Pos}
def rMaxT (K : PySem.W.Frag) : List V → Hp → VK → Prop := fun vs H Q => ∃ (a : Addr) (ns : List Int), vs = [V.ref a] ∧ SqT K H a (ns.map V.int) ∧ 0 < ns.length ∧ ∀ m, m ∈ ns → (∀ y, y ∈ ns → y ≤ m) → Q (.int m) H
def rMinT (K : PySem.W.Frag) : List V → Hp → VK → Prop := fun vs H Q => ∃ (a : Addr) (ns : List Int), vs = [V.ref a] ∧ SqT K H a (ns.map V.int) ∧ 0 < ns.length ∧ ∀ m, m ∈ ns → (∀ y, y ∈ ns → m ≤ y) → Q (.int m) H
theorem cr_maxT (hc : X.calm = true) : CallR X (.builtin "max") (rMaxT X.K) := by
  intro pins s σ H vs us Q I r h
  obtain ⟨a, ns, rfl, hs, hne, q⟩ := h
  obtain ⟨its, rv, hl, _⟩ := I.tuple hs
  rw [Vals.ref1 r]
  exact max_rawT (I.ok.hd hc) hl rv.ints hne fun h' tk m t' hk h1 h2 => ⟨.int _, H, I.kept hk, ⟨_, rfl⟩, q m h1 h2⟩
theorem cr_minT (hc : X.calm = true) : CallR X (.builtin "min") (rMinT X.K) := by
  intro pins s σ H vs us Q I r h
  obtain ⟨a, ns, rfl, hs, hne, q⟩ := h
  obtain ⟨its, rv, hl, _⟩ := I.tuple hs
  rw [Vals.ref1 r]
  exact min_rawT (I.ok.hd hc) hl rv.ints hne fun h' tk m t' hk h1 h2 => ⟨.int _, H, I.kept hk, ⟨_, rfl⟩, q m h1 h2⟩
def gMaxT : List D → R D
  | [.tup xs] => (optR ((intsOf xs).bind maxI)).bind fun n => .ok (.int n)
  | _ => .bad
def gMinT : List D → R D
  | [.tup xs] => (optR ((intsOf xs).bind minI)).bind fun n => .ok (.int n)
  | _ => .bad
theorem vn_maxT : VN X ca (rMaxT X.K) gMaxT := by
  intro G H W1 xs ds Q s a w
  unfold gMaxT at w
  split at w
  · obtain ⟨n, e, w⟩ := wish_opt w
    obtain ⟨ns, e1, e2⟩ := Option.bind_eq_some_iff.mp e
    obtain ⟨v, rfl, p, vs, rfl, h1, h2⟩ := atl1 a
    rw [intsOf_at e1 h2] at h1
    cases ns with
    | nil => cases e2
    | cons m ns =>
      cases e2
      obtain ⟨f1, f2, f3⟩ := foldl_max ns m
      refine ⟨p, m :: ns, rfl, tq s h1, Nat.succ_pos _, fun k hk hmax => ?_⟩
      have : k = ns.foldl max m := by
        have g1 : ns.foldl max m ∈ m :: ns := by
          rcases f1 with f1 | f1
          · rw [f1]; exact List.mem_cons_self
          · exact List.mem_cons_of_mem _ f1
        have g2 := hmax _ g1
        have g3 : k ≤ ns.foldl max m := by
          rcases List.mem_cons.mp hk with rfl | hk
          · exact f2
          · exact f3 k hk
        omega
      rw [this]
      exact w.here s _ rfl
  · exact w.elim
theorem vn_minT : VN X ca (rMinT X.K) gMinT := by
  intro G H W1 xs ds Q s a w
  unfold gMinT at w
  split at w
  · obtain ⟨n, e, w⟩ := wish_opt w
    obtain ⟨ns, e1, e2⟩ := Option.bind_eq_some_iff.mp e
    obtain ⟨v, rfl, p, vs, rfl, h1, h2⟩ := atl1 a
    rw [intsOf_at e1 h2] at h1
    cases ns with
    | nil => cases e2
    | cons m ns =>
      cases e2
      obtain ⟨f1, f2, f3⟩ := foldl_min ns m
      refine ⟨p, m :: ns, rfl, tq s h1, Nat.succ_pos _, fun k hk hmin => ?_⟩
      have : k = ns.foldl min m := by
        have g1 : ns.foldl min m ∈ m :: ns := by
          rcases f1 with f1 | f1
          · rw [f1]; exact List.mem_cons_self
          · exact List.mem_cons_of_mem _ f1
        have g2 := hmin _ g1
        have g3 : ns.foldl min m ≤ k := by
          rcases List.mem_cons.mp hk with rfl | hk
          · exact f2
          · exact f3 k hk
        omega
      rw [this]
      exact w.here s _ rfl
  · exact w.elim
theorem fe_maxT (T : BT X.mg) (ha : FA X ca W (e :: es) fl) (hc : X.calm = true := by rfl) (n : Nm X "max" e es pos := by exact ⟨rfl, rfl, rfl⟩) : FE X ca W (.Call (.Name "max" p) (e :: es) [] pos) (eA gMaxT fl) := fe_blt (cr_maxT hc) vn_maxT n.g T.max bb_max ha (by decide) (by decide) n.h n.p
theorem fe_minT (T : BT X.mg) (ha : FA X ca W (e :: es) fl) (hc : X.calm = true := by rfl) (n : Nm X "min" e es pos := by exact ⟨rfl, rfl, rfl⟩) : FE X ca W (.Call (.Name "min" p) (e :: es) [] pos) (eA gMinT fl) := fe_blt (cr_minT hc) vn_minT n.g T.min bb_min ha (by decide) (by decide) n.h n.p
end
/-! ### one expression, read in one of two ways -/
def eOr2 (c : Ev → Bool) (f g : Ev → R D) : Ev → R D := fun ρ => if c ρ = true then f ρ else g ρ
theorem fe_or2 {X : Cx} {ca : Cn} {W : WX} {e : Expr} {f g : Ev → R D} (c : Ev → Bool) (h1 : FE X ca W e f) (h2 : FE X ca W e g) : FE X ca W e (eOr2 c f g) := by
  obtain ⟨t, p1, k1⟩ := h1.ex
  obtain ⟨u, p2, k2⟩ := h2.ex
  refine ⟨fun σ H Q => t σ H Q ∨ u σ H Q, ⟨fun pins s σ H Q I q => q.elim (p1.run pins s σ H Q I) (p2.run pins s σ H Q I)⟩, fun B G H σ ρ Q s b r w => ?_⟩
  unfold eOr2 at w
  split at w
  · exact .inl (k1 B G H σ ρ Q s b r w)
  · exact .inr (k2 B G H σ ρ Q s b r w)
/-- o.index(x), o a list or a tuple without a dict -/
def zB (fo : Ev → R D) (ρ : Ev) : Bool := match fo ρ with
  | .ok o => isZ o
  | _ => false
def eIdxA (fo : Ev → R D) (fl : Ev → R (List D)) : Ev → R D := eOr2 (zB fo) (eIdxZ fo fl) (eMtL gIdx fo fl)
end Tk

namespace Tk
open PySem PySem.Spec L2 PyProof.Rows
def B__law_cell_1 : Ev → SO := sSet 2 (e2 gMod (e2 gAdd (eV 2) (e2 gMul (e2 gMul (e2 gAdd (eV 3) (eC (.int 3))) (e2 gMod (eA gAbs (aC (e2 gIx (eV 0) (eV 3)) (aN))) (eC (.int 1000003)))) (eC (.int 31)))) (eC (.int 1000003)))
def G__law_cell : Ev → SO := sSq (sIf (tV (e2 gLt (eV 1) (eA gLen (aC (eV 0) (aN))))) (sRet (e2 gIx (eV 0) (eV 1))) (sN)) (sSq (sSet 2 (e2 gMul (eC (.int 7919)) (e2 gAdd (eV 1) (eC (.int 1))))) (sSq (sFor (iR1 (eA gLen (aC (eV 0) (aN)))) (gN 3) (B__law_cell_1)) (sRet (eV 2))))
def F__law_cell : List D → R D := runF 4 G__law_cell
def G__law_mixed : Ev → SO := sSq (sSet 2 (e2 gMod (e2 gAdd (e2 gMul (e2 gMod (eA gAbs (aC (eV 0) (aN))) (eC (.int 2147483647))) (eC (.int 48271))) (e2 gMul (e2 gAdd (eV 1) (eC (.int 1))) (eC (.int 69621)))) (eC (.int 2147483647)))) (sSq (sSet 2 (e2 gMod (e2 gAdd (e2 gMul (eV 2) (e2 gAdd (e2 gMod (eV 2) (eC (.int 46337))) (eC (.int 16807)))) (e2 gMul (e2 gAdd (eV 1) (eC (.int 7))) (eC (.int 7919)))) (eC (.int 2147483629)))) (sSq (sSet 2 (e2 gMod (e2 gMul (eV 2) (e2 gAdd (e2 gMod (eV 2) (eC (.int 32749))) (eC (.int 48271)))) (eC (.int 2147483647)))) (sRet (e2 gDiv (eV 2) (eC (.int 11))))))
def F__law_mixed : List D → R D := runF 3 G__law_mixed
def B__law_pool_1 : Ev → SO := sIf (tAnd (tV (eV 3)) (tV (e2 gGt (eV 2) (eC (.int 0))))) (sSq (sApp 4 (e2 gMod (eV 2) (eC (.int 5040)))) (sSet 2 (e2 gDiv (eV 2) (eC (.int 5040))))) (sApp 4 (eCall 2 F__law_mixed (aC (eV 0) (aC (eV 5) (aN)))))
def G__law_pool : Ev → SO := sSq (sSet 2 (eA gAbs (aC (eV 0) (aN)))) (sSq (sSet 3 (e2 gGe (eV 2) (e2 gPow (eC (.int 10)) (eC (.int 18))))) (sSq (sOwn 4 (lDisp (aN))) (sSq (sFor (iR1 (eV 1)) (gN 5) (B__law_pool_1)) (sFrz 4 (sRet (eV 4))))))
def F__law_pool : List D → R D := runF 6 G__law_pool
def G__law_part : Ev → SO := sRet (e2 gMod (e2 gDiv (eA gInt (aC (e2 gIx (eV 0) (eV 1)) (aN))) (eV 2)) (eV 3))
def F__law_part : List D → R D := runF 4 G__law_part
def B__law_far_1 : Ev → SO := sSet 3 (e2 gAdd (e2 gMul (eV 3) (eC (.int 5040))) (e2 gMod (eA gInt (aC (e2 gIx (eV 0) (e2 gAdd (eV 1) (eV 4))) (aN))) (eC (.int 5040))))
def G__law_far : Ev → SO := sSq (sSet 3 (eC (.int 0))) (sSq (sFor (iR1 (eV 2)) (gN 4) (B__law_far_1)) (sRet (eV 3)))
def F__law_far : List D → R D := runF 5 G__law_far
def G__law_chosen : Ev → SO := sSq (sSet 6 (eCall 4 F__law_part (aC (eV 0) (aC (eV 1) (aC (eV 2) (aC (eC (.int 10)) (aN))))))) (sSq (sSet 7 (eCall 4 F__law_part (aC (eV 0) (aC (eV 1) (aC (e2 gMul (eC (.int 10)) (eV 2)) (aC (eV 3) (aN))))))) (sSq (sIf (tV (e2 gEq (eV 6) (eC (.int 8)))) (sRet (e2 gSub (eV 4) (eV 7))) (sN)) (sSq (sIf (tV (e2 gEq (eV 6) (eC (.int 9)))) (sRet (e2 gMod (eA gInt (aC (eV 5) (aN))) (e2 gAdd (eV 4) (eC (.int 1))))) (sN)) (sRet (eV 7)))))
def F__law_chosen : List D → R D := runF 8 G__law_chosen
def B__law_names_1 : Ev → SO := sSet 4 (e2 gAdd (e2 gAdd (eV 4) (e2 gIx (eV 3) (eCall 4 F__law_part (aC (eV 0) (aC (e2 gAdd (eV 1) (eV 5)) (aC (eC (.int 1)) (aC (eC (.int 26)) (aN)))))))) (e2 gIx (eV 3) (eCall 4 F__law_part (aC (eV 0) (aC (e2 gAdd (eV 1) (eV 5)) (aC (eC (.int 26)) (aC (eC (.int 26)) (aN))))))))
def B__law_names_2 : Ev → SO := sSq (sSet 12 (e2 gMod (eA gInt (aC (e2 gAdd (eV 5) (eV 6)) (aN))) (eC (.int 6)))) (sIf (tV (e2 gEq (eCall 4 F__law_part (aC (eV 0) (aC (e2 gAdd (eV 1) (eC (.int 4))) (aC (eC (.int 1)) (aC (eC (.int 2)) (aN)))))) (eC (.int 0)))) (sApp 11 (e2 gAdd (e2 gAdd (e2 gAdd (eSl (eV 9) (oN) (oS (eV 7))) (e2 gIx (eV 3) (e2 gMod (eA gInt (aC (e2 gAdd (eV 8) (e2 gMul (eC (.int 7)) (eV 12))) (aN))) (eC (.int 26))))) (eSl (eV 9) (oS (eV 7)) (oN))) (eV 10))) (sApp 11 (eSl (eV 4) (oN) (oS (e2 gAdd (eV 12) (eC (.int 1)))))))
def G__law_names : Ev → SO := sSq (sSet 3 (eC (.str "abcdefghijklmnopqrstuvwxyz"))) (sSq (sSet 4 (eC (.str ""))) (sSq (sFor (iR1 (eC (.int 3))) (gN 5) (B__law_names_1)) (sSq (sSet 6 (eCall 4 F__law_part (aC (eV 0) (aC (e2 gAdd (eV 1) (eC (.int 3))) (aC (eC (.int 1)) (aC (eC (.int 6)) (aN))))))) (sSq (sSet 7 (eCall 4 F__law_part (aC (eV 0) (aC (e2 gAdd (eV 1) (eC (.int 3))) (aC (eC (.int 6)) (aC (eC (.int 7)) (aN))))))) (sSq (sSet 8 (eCall 4 F__law_part (aC (eV 0) (aC (e2 gAdd (eV 1) (eC (.int 3))) (aC (eC (.int 42)) (aC (eC (.int 26)) (aN))))))) (sSq (sSet 9 (eSl (eV 4) (oN) (oS (eCall 4 F__law_part (aC (eV 0) (aC (e2 gAdd (eV 1) (eC (.int 4))) (aC (eC (.int 4)) (aC (eC (.int 7)) (aN))))))))) (sSq (sSet 10 (eSl (eV 4) (oN) (oS (eCall 4 F__law_part (aC (eV 0) (aC (e2 gAdd (eV 1) (eC (.int 4))) (aC (eC (.int 2)) (aC (eC (.int 2)) (aN))))))))) (sSq (sOwn 11 (lDisp (aN))) (sSq (sFor (iR1 (eV 2)) (gN 5) (B__law_names_2)) (sFrz 11 (sRet (eV 11))))))))))))
def F__law_names : List D → R D := runF 13 G__law_names
def G__law_integer : Ev → SO := sRet (eAnd (eA gIsi (aC (eV 0) (aC (eC (.ty "int")) (aN)))) (eNot (eA gIsi (aC (eV 0) (aC (eC (.ty "bool")) (aN))))))
def F__law_integer : List D → R D := runF 1 G__law_integer
def B__law_same_1 (Fr : List D → R D) : Ev → SO := sIf (tNot (tV (eCall 2 Fr (aC (e2 gIx (eV 0) (eV 2)) (aC (e2 gIx (eV 1) (eV 2)) (aN)))))) (sRet (eC (.bl false))) (sN)
def G__law_same (Fr : List D → R D) : Ev → SO := sSq (sIf (tV (e2 gIsN (eV 1) (eC .non))) (sRet (e2 gIsN (eV 0) (eC .non))) (sN)) (sSq (sIf (tV (e2 (gIsB false) (eV 1) (eC (.bl true)))) (sRet (e2 (gIsB false) (eV 0) (eC (.bl true)))) (sN)) (sSq (sIf (tV (e2 (gIsB false) (eV 1) (eC (.bl false)))) (sRet (e2 (gIsB false) (eV 0) (eC (.bl false)))) (sN)) (sSq (sIf (tV (eA gIsi (aC (eV 1) (aC (eC (.ty "int")) (aN))))) (sRet (eAnd (eCall 1 F__law_integer (aC (eV 0) (aN))) (e2 gEq (eV 0) (eV 1)))) (sN)) (sSq (sIf (tV (eA gIsi (aC (eV 1) (aC (eC (.ty "str")) (aN))))) (sRet (eAnd (eA gIsi (aC (eV 0) (aC (eC (.ty "str")) (aN)))) (e2 gEq (eV 0) (eV 1)))) (sN)) (sSq (sIf (tAnd (tV (eA gIsi (aC (eV 1) (aC (eC (.ty "tuple")) (aN))))) (tNot (tV (eA gIsi (aC (eV 0) (aC (eC (.ty "tuple")) (aN))))))) (sRet (eC (.bl false))) (sN)) (sSq (sIf (tAnd (tV (eA gIsi (aC (eV 1) (aC (eC (.ty "list")) (aN))))) (tNot (tV (eA gIsi (aC (eV 0) (aC (eC (.ty "list")) (aN))))))) (sRet (eC (.bl false))) (sN)) (sSq (sIf (tV (e2 gNe (eA gLen (aC (eV 0) (aN))) (eA gLen (aC (eV 1) (aN))))) (sRet (eC (.bl false))) (sN)) (sSq (sFor (iR1 (eA gLen (aC (eV 1) (aN)))) (gN 2) (B__law_same_1 Fr)) (sRet (eC (.bl true)))))))))))
def Fr__law_same : Nat → List D → R D
  | 0 => runF 3 sBad
  | n + 1 => runF 3 (G__law_same (Fr__law_same n))
def F__law_same : List D → R D := Fr__law_same 6
def G_is_name : Ev → SO := sSq (sIf (tNot (tV (eChain gLe gLe (eC (.int 1)) (eA gLen (aC (eV 0) (aN))) (eC (.int 8))))) (sRet (eC (.bl false))) (sN)) (sRet (eA gAll (aC (eLc [1] (iSq (eV 0)) (gN 1) (tsY) (e2 (gInS false) (eV 1) (eC (.str "abcdefghijklmnopqrstuvwxyz")))) (aN))))
def F_is_name : List D → R D := runF 2 G_is_name
def G_names_of : Ev → SO := sRet (eLc [1, 2, 3] (iSq (eV 0)) (gT 3 (gsC (gN 1) (gsC (gN 2) (gsC (gN 3) (gsN))))) (tsY) (eV 1))
def F_names_of : List D → R D := runF 4 G_names_of
def B_check_bidders_1 : Ev → SO := sSq (sIf (tNot (tV (eCall 1 F_is_name (aC (eV 2) (aN))))) (sBad) (sN)) (sSq (sIf (tV (e2 (gInS false) (eV 2) (eCall 1 F_names_of (aC (eSl (eV 0) (oN) (oS (eV 1))) (aN))))) (sBad) (sN)) (sSq (sIf (tNot (tV (eChain gLe gLe (eC (.int 1)) (eV 3) (eC (.int 1000))))) (sBad) (sN)) (sIf (tNot (tV (eChain gLe gLe (eC (.int 0)) (eV 4) (eC (.int 1000000000))))) (sBad) (sN))))
def G_check_bidders : Ev → SO := sSq (sIf (tV (e2 gGt (eA gLen (aC (eV 0) (aN))) (eC (.int 6)))) (sBad) (sN)) (sFor (iEn2 (eV 0)) (gT 2 (gsC (gN 1) (gsC (gT 3 (gsC (gN 2) (gsC (gN 3) (gsC (gN 4) (gsN))))) (gsN)))) (B_check_bidders_1))
def F_check_bidders : List D → R D := runF 5 G_check_bidders
def G_check_floor : Ev → SO := sIf (tNot (tV (eChain gLe gLe (eC (.int 0)) (eV 0) (eC (.int 1000000000000))))) (sBad) (sN)
def F_check_floor : List D → R D := runF 1 G_check_floor
def G_check_hours : Ev → SO := sIf (tNot (tV (eChain gLe gLe (eC (.int 1)) (eV 0) (eC (.int 3))))) (sBad) (sN)
def F_check_hours : List D → R D := runF 1 G_check_hours
def G_strengths_of : Ev → SO := sRet (eLc [1, 2, 3] (iSq (eV 0)) (gT 3 (gsC (gN 1) (gsC (gN 2) (gsC (gN 3) (gsN))))) (tsY) (e2 gMul (eV 2) (eV 3)))
def F_strengths_of : List D → R D := runF 4 G_strengths_of
def G_ranking : Ev → SO := sRet (eLc [3, 1] (iSq (eA gSrt (aC (eLc [1, 2] (iEn2 (eCall 1 F_strengths_of (aC (eV 0) (aN)))) (gT 2 (gsC (gN 1) (gsC (gN 2) (gsN)))) (tsY) (eA gTup (aC (e1 gNeg (eV 2)) (aC (eV 1) (aN))))) (aN)))) (gT 2 (gsC (gN 3) (gsC (gN 1) (gsN)))) (tsY) (eV 1))
def F_ranking : List D → R D := runF 4 G_ranking
def G_ladder : Ev → SO := sSq (sDrop (eCall 1 F_check_bidders (aC (eV 0) (aN)))) (sSq (sDrop (eCall 1 F_check_hours (aC (eV 1) (aN)))) (sSq (sDrop (eCall 1 F_check_floor (aC (eV 2) (aN)))) (sSq (sSet 3 (eCall 1 F_strengths_of (aC (eV 0) (aN)))) (sSq (sSet 4 (eLc [5] (iSq (eCall 1 F_ranking (aC (eV 0) (aN)))) (gN 5) (tV (e2 gGe (e2 gIx (eV 3) (eV 5)) (eV 2))) (eV 5))) (sRet (eA gTuple (aC (eLc [5] (iSq (eSl (eV 4) (oN) (oS (eV 1)))) (gN 5) (tsY) (e2 gIx (e2 gIx (eV 0) (eV 5)) (eC (.int 0)))) (aN))))))))
def F_ladder : List D → R D := runF 6 G_ladder
def B__law_bidders_1 : Ev → SO := sSq (sSet 6 (e2 gAdd (e2 gAdd (eV 1) (eC (.int 5))) (e2 gMul (eC (.int 5)) (eV 5)))) (sSq (sSet 7 (e2 gAdd (eC (.int 1)) (eCall 6 F__law_chosen (aC (eV 0) (aC (eV 6) (aC (eC (.int 1)) (aC (eC (.int 4)) (aC (eC (.int 999)) (aC (eCall 3 F__law_far (aC (eV 0) (aC (e2 gAdd (eV 6) (eC (.int 1))) (aC (eC (.int 1)) (aN))))) (aN)))))))))) (sSq (sSet 8 (eCall 6 F__law_chosen (aC (eV 0) (aC (eV 6) (aC (eC (.int 40)) (aC (eC (.int 9)) (aC (e2 gPow (eC (.int 10)) (eC (.int 9))) (aC (eCall 3 F__law_far (aC (eV 0) (aC (e2 gAdd (eV 6) (eC (.int 2))) (aC (eC (.int 3)) (aN))))) (aN))))))))) (sSq (sIf (tV (e2 gEq (eCall 4 F__law_part (aC (eV 0) (aC (e2 gAdd (eV 1) (eC (.int 4))) (aC (eC (.int 28)) (aC (eC (.int 2)) (aN)))))) (eC (.int 0)))) (sSq (sSet 7 (e2 gAdd (eC (.int 1)) (e2 gMod (eA gInt (aC (e2 gSub (eV 7) (eC (.int 1))) (aN))) (eC (.int 4))))) (sSet 8 (e2 gMod (eA gInt (aC (eV 8) (aN))) (eC (.int 9))))) (sN)) (sSq (sIf (tAnd (tV (e2 gLe (eV 7) (eC (.int 4)))) (tV (e2 gLt (eCall 4 F__law_part (aC (eV 0) (aC (e2 gAdd (eV 6) (eC (.int 1))) (aC (eC (.int 1000)) (aC (eC (.int 5)) (aN)))))) (eC (.int 2))))) (sSet 8 (e2 gDiv (eC (.int 12)) (eV 7))) (sN)) (sApp 4 (eA gTup (aC (e2 gIx (eV 3) (eV 5)) (aC (eV 7) (aC (eV 8) (aN))))))))))
def G__law_bidders : Ev → SO := sSq (sSet 3 (eCall 3 F__law_names (aC (eV 0) (aC (eV 1) (aC (eV 2) (aN)))))) (sSq (sOwn 4 (lDisp (aN))) (sSq (sFor (iR1 (eV 2)) (gN 5) (B__law_bidders_1)) (sFrz 4 (sRet (eV 4)))))
def F__law_bidders : List D → R D := runF 9 G__law_bidders
def G__law_sill : Ev → SO := sSq (sSet 3 (eCall 4 F__law_part (aC (eV 0) (aC (eV 1) (aC (eC (.int 1)) (aC (eC (.int 8)) (aN))))))) (sSq (sSet 4 (eCall 4 F__law_part (aC (eV 0) (aC (eV 1) (aC (eC (.int 8)) (aC (eC (.int 60)) (aN))))))) (sSq (sIf (tV (e2 gLt (eV 3) (eC (.int 2)))) (sRet (eC (.int 0))) (sN)) (sSq (sIf (tAnd (tV (e2 gLt (eV 3) (eC (.int 6)))) (tV (e2 gNe (eV 2) (eA gLst (aN))))) (sSq (sAsg (e2 gIx (eV 2) (e2 gMod (eA gInt (aC (eV 4) (aN))) (eA gLen (aC (eV 2) (aN))))) (gT 3 (gsC (gN 5) (gsC (gN 6) (gsC (gN 7) (gsN)))))) (sRet (eA gMin (aC (eA gMax (aC (eC (.int 0)) (aC (e2 gAdd (e2 gMul (eV 6) (eV 7)) (e2 gIx (eA gLst (aC (eC (.int 0)) (aC (eC (.int 0)) (aC (eC (.int 1)) (aC (e1 gNeg (eC (.int 1))) (aN)))))) (e2 gSub (eV 3) (eC (.int 2))))) (aN)))) (aC (e2 gPow (eC (.int 10)) (eC (.int 12))) (aN)))))) (sN)) (sSq (sIf (tV (e2 gEq (eV 3) (eC (.int 6)))) (sRet (eV 4)) (sN)) (sRet (e2 gMod (eA gInt (aC (eCall 3 F__law_far (aC (eV 0) (aC (e2 gAdd (eV 1) (eC (.int 1))) (aC (eC (.int 4)) (aN))))) (aN))) (e2 gAdd (e2 gPow (eC (.int 10)) (eC (.int 12))) (eC (.int 1)))))))))
def F__law_sill : List D → R D := runF 8 G__law_sill
def B__law_ladder_1 : Ev → SO := sSq (sSet 7 (eLc [11] (iR1 (eA gLen (aC (eV 0) (aN)))) (gN 11) (tOr (tV (e2 gGt (e2 gIx (eV 3) (eV 11)) (e2 gIx (eV 3) (eV 6)))) (tAnd (tV (e2 gEq (e2 gIx (eV 3) (eV 11)) (e2 gIx (eV 3) (eV 6)))) (tV (e2 gLt (eV 11) (eV 6))))) (eV 11))) (sIf (tAnd (tV (e2 gEq (eA gLen (aC (eV 7) (aN))) (eV 5))) (tV (e2 gGe (e2 gIx (eV 3) (eV 6)) (eV 2)))) (sApp 4 (e2 gIx (e2 gIx (eV 0) (eV 6)) (eC (.int 0)))) (sN))
def B__law_ladder_2 : Ev → SO := sFor (iR1 (eA gLen (aC (eV 0) (aN)))) (gN 6) (B__law_ladder_1)
def G__law_ladder : Ev → SO := sSq (sSet 3 (eLc [8, 9, 10] (iSq (eV 0)) (gT 3 (gsC (gN 8) (gsC (gN 9) (gsC (gN 10) (gsN))))) (tsY) (e2 gMul (eV 9) (eV 10)))) (sSq (sOwn 4 (lDisp (aN))) (sSq (sFor (iR1 (eV 1)) (gN 5) (B__law_ladder_2)) (sFrz 4 (sRet (eA gTuple (aC (eV 4) (aN)))))))
def F__law_ladder : List D → R D := runF 12 G__law_ladder
def G_passed_over : Ev → SO := sRet (eA gTuple (aC (eLc [3] (iSq (eV 0)) (gN 3) (tAnd (tV (e2 (gInS true) (eV 3) (eV 1))) (tV (e2 gNe (eV 3) (eV 2)))) (eV 3)) (aN)))
def F_passed_over : List D → R D := runF 4 G_passed_over
def B_next_passes_1 : Ev → SO := sIf (tOr (tV (e2 (gInS false) (eV 8) (eV 3))) (tV (e2 gEq (eV 8) (eV 4)))) (sApp 7 (eC (.int 0))) (sIf (tV (e2 (gInS false) (eV 8) (eV 6))) (sApp 7 (eA gMin (aC (e2 gAdd (eV 9) (eC (.int 1))) (aC (eV 5) (aN))))) (sApp 7 (eV 9)))
def G_next_passes : Ev → SO := sSq (sSet 6 (eCall 3 F_passed_over (aC (eV 2) (aC (eV 3) (aC (eV 4) (aN)))))) (sSq (sOwn 7 (lDisp (aN))) (sSq (sFor (iZp2 (eV 0) (eV 1)) (gT 2 (gsC (gN 8) (gsC (gN 9) (gsN)))) (B_next_passes_1)) (sFrz 7 (sRet (eA gTuple (aC (eV 7) (aN)))))))
def F_next_passes : List D → R D := runF 10 G_next_passes
def B_longest_1 : Ev → SO := sIf (tOr (tV (e2 gEq (eV 4) (eC (.str "")))) (tV (e2 gGt (e2 gIxA (eV 3) (eV 5)) (e2 gIxA (eV 3) (eV 4))))) (sSet 4 (eV 5)) (sN)
def G_longest : Ev → SO := sSq (sSet 3 (eDz (eV 0) (eV 1))) (sSq (sSet 4 (eC (.str ""))) (sSq (sFor (iSq (eV 2)) (gN 5) (B_longest_1)) (sRet (eV 4))))
def F_longest : List D → R D := runF 6 G_longest
def B__law_some_1 : Ev → SO := sIf (tV (e2 gEq (eCall 4 F__law_part (aC (eV 0) (aC (eV 1) (aC (e2 gIx (eA gLst (aC (eC (.int 1)) (aC (eC (.int 2)) (aC (eC (.int 4)) (aC (eC (.int 8)) (aN)))))) (eV 4)) (aC (eC (.int 2)) (aN)))))) (eC (.int 1)))) (sApp 3 (e2 gIx (eV 2) (eV 4))) (sN)
def G__law_some : Ev → SO := sSq (sOwn 3 (lDisp (aN))) (sSq (sFor (iR1 (eA gLen (aC (eV 2) (aN)))) (gN 4) (B__law_some_1)) (sFrz 3 (sRet (eV 3))))
def F__law_some : List D → R D := runF 5 G__law_some
def B_check_known_1 : Ev → SO := sIf (tV (e2 (gInS true) (eV 2) (eV 0))) (sBad) (sN)
def G_check_known : Ev → SO := sFor (iSq (eV 1)) (gN 2) (B_check_known_1)
def F_check_known : List D → R D := runF 3 G_check_known
def G_strengths_of_o : Ev → SO := sRetF (nL (lLc [1, 2, 3] (iSq (eV 0)) (gT 3 (gsC (gN 1) (gsC (gN 2) (gsC (gN 3) (gsN))))) (tsY) (e2 gMul (eV 2) (eV 3))))
def F_strengths_of_o : List D → R Sl := runO 4 G_strengths_of_o
def B_least_raises_1 : Ev → SO := sSq (sSet 8 (eBor (eA gMax (aC (e2 gAdd (eA gLst (aC (eV 3) (aN))) (eLc [12] (iSq (eV 5)) (gN 12) (tsY) (e2 gAdd (e2 gIx (eV 4) (eV 12)) (eIf (tV (e2 gLt (eV 12) (eV 7))) (eC (.int 1)) (eC (.int 0)))))) (aN))))) (sSq (sAsg (e2 gIx (eV 0) (eV 7)) (gT 3 (gsC (gN 9) (gsC (gN 10) (gsC (gN 11) (gsN)))))) (sSq (sPutL 6 (eA gMax (aC (eC (.int 0)) (aC (e2 gSub (e1 gNeg (e2 gDiv (e1 gNeg (eV 8)) (eV 10))) (eV 11)) (aN)))) (eV 7)) (sSq (sPutL 4 (eBor (e2 gMul (eV 10) (e2 gAdd (eV 11) (e2 gIx (eV 6) (eV 7))))) (eV 7)) (sSet 5 (eA gLst (aC (eV 7) (aN)))))))
def G_least_raises : Ev → SO := sSq (sNew 4 (oCall 1 F_strengths_of_o (aC (eV 0) (aN)))) (sSq (sSet 5 (eLc [7] (iR1 (eA gLen (aC (eV 0) (aN)))) (gN 7) (tBor (tAnd (tV (e2 (gInS true) (eV 7) (eV 1))) (tV (e2 gGe (e2 gIx (eV 4) (eV 7)) (eV 3))))) (eV 7))) (sSq (sIf (tOr (tV (e2 gGt (eA gLen (aC (eV 1) (aN))) (eV 2))) (tAnd (tV (e2 gLt (eA gLen (aC (eV 1) (aN))) (eV 2))) (tV (e2 gGt (eA gLen (aC (eV 5) (aN))) (eC (.int 0)))))) (sRet (eC .non)) (sN)) (sSq (sOwn 6 (lLc [9] (iSq (eV 0)) (gN 9) (tsY) (eC (.int 0)))) (sSq (sFor (iSq (e1 gRev (eV 1))) (gN 7) (B_least_raises_1)) (sFrz 6 (sRet (eA gTuple (aC (eV 6) (aN)))))))))
def F_least_raises : List D → R D := runF 13 G_least_raises
def B_raises_for_1 : Ev → SO := sSq (sDrop (eCall 2 F_check_known (aC (eV 4) (aC (eA gLst (aC (eV 6) (aN))) (aN))))) (sIf (tV (e2 (gInS false) (eV 6) (eSl (eV 1) (oN) (oS (eV 5))))) (sBad) (sN))
def G_raises_for : Ev → SO := sSq (sDrop (eCall 1 F_check_bidders (aC (eV 0) (aN)))) (sSq (sDrop (eCall 1 F_check_hours (aC (eV 2) (aN)))) (sSq (sDrop (eCall 1 F_check_floor (aC (eV 3) (aN)))) (sSq (sSet 4 (eCall 1 F_names_of (aC (eV 0) (aN)))) (sSq (sFor (iEn2 (eV 1)) (gT 2 (gsC (gN 5) (gsC (gN 6) (gsN)))) (B_raises_for_1)) (sRet (eCall 4 F_least_raises (aC (eV 0) (aC (eLc [6] (iSq (eV 1)) (gN 6) (tsY) (eMtL gIdx (eV 4) (aC (eV 6) (aN)))) (aC (eV 2) (aC (eV 3) (aN)))))))))))
def F_raises_for : List D → R D := runF 7 G_raises_for
def B__law_raised_1 : Ev → SO := sSq (sAsg (e2 gIx (eV 0) (eV 3)) (gT 3 (gsC (gN 4) (gsC (gN 5) (gsC (gN 6) (gsN)))))) (sApp 2 (eA gTup (aC (eV 4) (aC (eV 5) (aC (e2 gAdd (eV 6) (e2 gIx (eV 1) (eV 3))) (aN))))))
def G__law_raised : Ev → SO := sSq (sOwn 2 (lDisp (aN))) (sSq (sFor (iR1 (eA gLen (aC (eV 0) (aN)))) (gN 3) (B__law_raised_1)) (sFrz 2 (sRet (eV 2))))
def F__law_raised : List D → R D := runF 7 G__law_raised
def B__law_brings_1 : Ev → SO := sIf (tOr (tNot (tV (eCall 1 F__law_integer (aC (e2 gIx (eV 1) (eV 6)) (aN))))) (tOr (tV (e2 gLt (e2 gIx (eV 1) (eV 6)) (eC (.int 0)))) (tAnd (tV (e2 (gInS true) (e2 gIx (e2 gIx (eV 0) (eV 6)) (eC (.int 0))) (eV 2))) (tV (e2 gGt (e2 gIx (eV 1) (eV 6)) (eC (.int 0))))))) (sRet (eC (.bl false))) (sN)
def G__law_brings : Ev → SO := sSq (sSet 5 (eLc [8, 9, 10] (iSq (eV 0)) (gT 3 (gsC (gN 8) (gsC (gN 9) (gsC (gN 10) (gsN))))) (tAnd (tV (e2 (gInS true) (eV 8) (eV 2))) (tV (e2 gGe (e2 gMul (eV 9) (eV 10)) (eV 4)))) (eV 8))) (sSq (sIf (tOr (tV (e2 gGt (eA gLen (aC (eV 2) (aN))) (eV 3))) (tAnd (tV (e2 gLt (eA gLen (aC (eV 2) (aN))) (eV 3))) (tV (e2 gNe (eV 5) (eA gLst (aN)))))) (sRet (e2 gIsN (eV 1) (eC .non))) (sN)) (sSq (sIf (tOr (tNot (tV (eA gIsi (aC (eV 1) (aC (eC (.ty "tuple")) (aN)))))) (tV (e2 gNe (eA gLen (aC (eV 1) (aN))) (eA gLen (aC (eV 0) (aN)))))) (sRet (eC (.bl false))) (sN)) (sSq (sFor (iR1 (eA gLen (aC (eV 0) (aN)))) (gN 6) (B__law_brings_1)) (sSq (sSet 7 (eCall 2 F__law_raised (aC (eV 0) (aC (eV 1) (aN))))) (sSq (sIf (tV (e2 gNe (eCall 3 F__law_ladder (aC (eV 7) (aC (eV 3) (aC (eV 4) (aN))))) (eV 2))) (sRet (eC (.bl false))) (sN)) (sSq (sIf (tV (e2 gNe (eLc [8, 9, 10] (iSq (eV 7)) (gT 3 (gsC (gN 8) (gsC (gN 9) (gsC (gN 10) (gsN))))) (tV (e2 gGt (eV 10) (e2 gPow (eC (.int 10)) (eC (.int 9))))) (eV 10)) (eA gLst (aN)))) (sRet (eC (.bl true))) (sN)) (sRet (eCall 2 F__law_same (aC (eCallK 1 2 3 F_ladder (gDk [0, 1, 2] []) (aC (eV 7) (aN)) (aC (eV 3) (aC (eV 4) (aN)))) (aC (eV 2) (aN)))))))))))
def F__law_brings : List D → R D := runF 11 G__law_brings
def B__law_wished_1 : Ev → SO := sIf (tBor (tV (e2 gNe (eV 4) (eA gLst (aN))))) (sAppPop 5 4 (eBor (e2 gMod (eA gInt (aC (eCall 4 F__law_part (aC (eV 0) (aC (e2 gAdd (eV 1) (eV 6)) (aC (eC (.int 1)) (aC (eC (.int 60)) (aN)))))) (aN))) (eA gLen (aC (eV 4) (aN)))))) (sN)
def G__law_wished : Ev → SO := sSq (sOwn 4 (lLc [7, 8, 9] (iSq (eV 2)) (gT 3 (gsC (gN 7) (gsC (gN 8) (gsC (gN 9) (gsN))))) (tsY) (eV 7))) (sSq (sOwn 5 (lDisp (aN))) (sSq (sFor (iR1 (eV 3)) (gN 6) (B__law_wished_1)) (sFrz 5 (sRet (eA gTuple (aC (eV 5) (aN)))))))
def F__law_wished : List D → R D := runF 10 G__law_wished
noncomputable def B__law_scale_1 : Ev → SO := sSq (sSet 5 (e2 gAdd (eV 1) (e2 gMul (eC (.int 2)) (eV 4)))) (sApp 3 (e2 gAdd (eC (.int 1)) (eCall 6 F__law_chosen (aC (eV 0) (aC (eV 5) (aC (eC (.int 1)) (aC (eC (.int 6)) (aC (eC (.int 999)) (aC (eCall 3 F__law_far (aC (eV 0) (aC (e2 gAdd (eV 5) (eC (.int 1))) (aC (eC (.int 1)) (aN))))) (aN))))))))))
noncomputable def G__law_scale : Ev → SO := sSq (sOwn 3 (lDisp (aN))) (sSq (sFor (iR1 (eV 2)) (gN 4) (B__law_scale_1)) (sFrz 3 (sRet (eSrtR (aC (eV 3) (aN)) (aC (eC (.bl true)) (aN))))))
noncomputable def F__law_scale : List D → R D := runF 6 G__law_scale
noncomputable def B_check_rates_1 : Ev → SO := sSq (sIf (tNot (tV (eChain gLe gLe (eC (.int 1)) (eV 2) (eV 1)))) (sBad) (sN)) (sSet 1 (eV 2))
noncomputable def G_check_rates : Ev → SO := sSq (sIf (tNot (tV (eChain gLe gLe (eC (.int 1)) (eA gLen (aC (eV 0) (aN))) (eC (.int 3))))) (sBad) (sN)) (sSq (sSet 1 (eC (.int 1000))) (sFor (iSq (eV 0)) (gN 2) (B_check_rates_1)))
noncomputable def F_check_rates : List D → R D := runF 3 G_check_rates
noncomputable def B_least_rents_1 : Ev → SO := sSq (sSet 3 (e2 gAdd (eV 3) (e2 gMul (eV 6) (e2 gSub (eV 5) (eV 4))))) (sSq (sSet 4 (eV 5)) (sApp 2 (eV 3)))
noncomputable def G_least_rents : Ev → SO := sSq (sOwn 2 (lDisp (aN))) (sSq (sSet 3 (eC (.int 0))) (sSq (sSet 4 (eC (.int 0))) (sSq (sFor (iZp2 (e1 gRev (eV 0)) (e1 gRev (eV 1))) (gT 2 (gsC (gN 5) (gsC (gN 6) (gsN)))) (B_least_rents_1)) (sFrz 2 (sRet (eA gTuple (aC (e1 gRev (eV 2)) (aN))))))))
noncomputable def F_least_rents : List D → R D := runF 7 G_least_rents
noncomputable def G_strengths_behind : Ev → SO := sSq (sSet 3 (eCall 1 F_strengths_of (aC (eV 0) (aN)))) (sSq (sSet 4 (eLc [5] (iSq (eCall 1 F_ranking (aC (eV 0) (aN)))) (gN 5) (tsY) (eA gMax (aC (eV 2) (aC (e2 gIx (eV 3) (eV 5)) (aN)))))) (sRet (eLc [6] (iR1 (eV 1)) (gN 6) (tsY) (eIf (tV (e2 gLt (e2 gAdd (eV 6) (eC (.int 1))) (eA gLen (aC (eV 4) (aN))))) (e2 gIx (eV 4) (e2 gAdd (eV 6) (eC (.int 1)))) (eV 2)))))
noncomputable def F_strengths_behind : List D → R D := runF 7 G_strengths_behind
noncomputable def G_Allotment___init__ : Ev → SO := sSq (sFldO [51] 0 62 (eV 1)) (sSq (sFldO [51] 0 4 (eV 2)) (sFldO [51] 0 63 (eV 3)))
noncomputable def F_Allotment___init__ : Addr → List D → R (List (Nat × D)) := runI 51 4 G_Allotment___init__
noncomputable def G_dearest : Ev → SO := sSq (sDrop (eCall 1 F_check_bidders (aC (eV 0) (aN)))) (sSq (sDrop (eCall 1 F_check_rates (aC (eV 1) (aN)))) (sSq (sDrop (eCall 1 F_check_floor (aC (eV 2) (aN)))) (sSq (sSet 3 (eCallK 1 2 3 F_ladder (gDk [0, 1, 2] []) (aC (eV 0) (aN)) (aC (eA gLen (aC (eV 1) (aN))) (aC (eV 2) (aN))))) (sSq (sSet 4 (e2 gAdd (eV 3) (eA gTuple (aC (eLc [7] (iSq (eSl (eV 1) (oS (eA gLen (aC (eV 3) (aN)))) (oN))) (gN 7) (tsY) (eC (.str ""))) (aN))))) (sSq (sSet 5 (eFrz (nDc [8, 9, 10] (iSq (eV 0)) (gT 3 (gsC (gN 8) (gsC (gN 9) (gsC (gN 10) (gsN))))) (tsY) (eV 8) (e2 gMul (eV 9) (eV 10))))) (sSq (sSet 6 (eA gSum (aC (eLc [11, 12] (iZp2 (eV 1) (eV 4)) (gT 2 (gsC (gN 11) (gsC (gN 12) (gsN)))) (tsY) (e2 gMul (eV 11) (eGet2 (eV 5) (eV 12) (eV 2)))) (aN)))) (sRet (eFrz (nMake 51 4 F_Allotment___init__ (aC (eV 4) (aC (eV 6) (aC (eCall 2 F_least_rents (aC (eV 1) (aC (eCall 3 F_strengths_behind (aC (eV 0) (aC (eA gLen (aC (eV 1) (aN))) (aC (eV 2) (aN))))) (aN)))) (aN)))))))))))))
noncomputable def F_dearest : List D → R D := runF 13 G_dearest
noncomputable def B__law_ladder_z_1 : Ev → SO := sSq (sSet 7 (eLc [11] (iR1 (eA gLen (aC (eV 0) (aN)))) (gN 11) (tOr (tV (e2 gGt (e2 gIx (eV 3) (eV 11)) (e2 gIx (eV 3) (eV 6)))) (tAnd (tV (e2 gEq (e2 gIx (eV 3) (eV 11)) (e2 gIx (eV 3) (eV 6)))) (tV (e2 gLt (eV 11) (eV 6))))) (eV 11))) (sIf (tAnd (tV (e2 gEq (eA gLen (aC (eV 7) (aN))) (eV 5))) (tV (e2 gGe (e2 gIx (eV 3) (eV 6)) (eV 2)))) (sApp 4 (e2 gIx (e2 gIx (eV 0) (eV 6)) (eC (.int 0)))) (sN))
noncomputable def B__law_ladder_z_2 : Ev → SO := sFor (iR1 (eA gLen (aC (eV 0) (aN)))) (gN 6) (B__law_ladder_z_1)
noncomputable def G__law_ladder_z : Ev → SO := sSq (sSet 3 (eLc [8, 9, 10] (iSq (eV 0)) (gT 3 (gsC (gN 8) (gsC (gN 9) (gsC (gN 10) (gsN))))) (tsY) (e2 gMul (eV 9) (eV 10)))) (sSq (sOwn 4 (lDisp (aN))) (sSq (sFor (iR1 (eV 1)) (gN 5) (B__law_ladder_z_2)) (sFrz 4 (sRet (eA gTupZ (aC (eV 4) (aN)))))))
noncomputable def F__law_ladder_z : List D → R D := runF 12 G__law_ladder_z
noncomputable def B__law_holds_1 : Ev → SO := sIf (tV (e2 gGt (e2 gSub (e2 gMul (e2 gMul (e2 gIx (eV 2) (eV 10)) (eV 6)) (eV 7)) (e2 gIx (eV 0) (eV 10))) (eV 8))) (sRet (eC (.bl false))) (sN)
noncomputable def B__law_holds_2 : Ev → SO := sSq (sSet 8 (eC (.int 0))) (sSq (sIf (tV (e2 gInZ (eV 5) (eV 4))) (sSq (sSet 9 (eIdxZ (eV 4) (aC (eV 5) (aN)))) (sSet 8 (e2 gSub (e2 gMul (e2 gMul (e2 gIx (eV 2) (eV 9)) (eV 6)) (eV 7)) (e2 gIx (eV 0) (eV 9))))) (sN)) (sSq (sIf (tV (e2 gLt (eV 8) (eC (.int 0)))) (sRet (eC (.bl false))) (sN)) (sFor (iR1 (eA gLen (aC (eV 2) (aN)))) (gN 10) (B__law_holds_1))))
noncomputable def B__law_holds_3 : Ev → SO := sIf (tOr (tV (e2 gLt (e2 gIx (eV 0) (eV 10)) (e2 gMul (e2 gIx (eV 2) (eV 10)) (eV 3)))) (tAnd (tV (e2 gGe (eV 10) (eA gLenZ (aC (eV 4) (aN))))) (tV (e2 gGt (e2 gIx (eV 0) (eV 10)) (e2 gMul (e2 gIx (eV 2) (eV 10)) (eV 3)))))) (sRet (eC (.bl false))) (sN)
noncomputable def G__law_holds : Ev → SO := sSq (sSet 4 (eCall 3 F__law_ladder_z (aC (eV 1) (aC (eA gLen (aC (eV 2) (aN))) (aC (eV 3) (aN)))))) (sSq (sFor (iSq (eV 1)) (gT 3 (gsC (gN 5) (gsC (gN 6) (gsC (gN 7) (gsN))))) (B__law_holds_2)) (sSq (sFor (iR1 (eA gLen (aC (eV 2) (aN)))) (gN 10) (B__law_holds_3)) (sRet (eC (.bl true)))))
noncomputable def F__law_holds : List D → R D := runF 11 G__law_holds
noncomputable def B__law_ballots_1 : Ev → SO := sAppPop 7 6 (eBor (e2 gMod (eCall 4 F__law_part (aC (eV 0) (aC (e2 gAdd (e2 gAdd (eV 1) (e2 gMul (eC (.int 2)) (eV 5))) (eC (.int 1))) (aC (e2 gIx (eA gLst (aC (eC (.int 1)) (aC (eC (.int 4)) (aC (eC (.int 12)) (aC (eC (.int 24)) (aN)))))) (eV 8)) (aC (e2 gIx (eA gLst (aC (eC (.int 4)) (aC (eC (.int 3)) (aC (eC (.int 2)) (aC (eC (.int 1)) (aN)))))) (eV 8)) (aN)))))) (eA gLen (aC (eV 6) (aN)))))
noncomputable def B__law_ballots_2 : Ev → SO := sSq (sOwn 6 (lList (eV 2))) (sSq (sOwn 7 (lDisp (aN))) (sSq (sFor (iR1 (e2 gMod (eCall 4 F__law_part (aC (eV 0) (aC (e2 gAdd (eV 1) (e2 gMul (eC (.int 2)) (eV 5))) (aC (eC (.int 1)) (aC (eC (.int 60)) (aN)))))) (e2 gAdd (eA gLen (aC (eV 2) (aN))) (eC (.int 1))))) (gN 8) (B__law_ballots_1)) (sSq (sSet 9 (eCall 4 F__law_part (aC (eV 0) (aC (e2 gAdd (eV 1) (e2 gMul (eC (.int 2)) (eV 5))) (aC (eC (.int 60)) (aC (eC (.int 7)) (aN))))))) (sSq (sIf (tV (e2 gEq (eCall 4 F__law_part (aC (eV 0) (aC (e2 gAdd (eV 1) (e2 gMul (eC (.int 2)) (eV 5))) (aC (eC (.int 420)) (aC (eC (.int 12)) (aN)))))) (eC (.int 11)))) (sSet 9 (e2 gSub (e2 gPow (eC (.int 10)) (eC (.int 9))) (eV 9))) (sN)) (sFrz 7 (sApp 4 (eA gTup (aC (eA gTuple (aC (eV 7) (aN))) (aC (eV 9) (aN))))))))))
noncomputable def G__law_ballots : Ev → SO := sSq (sOwn 4 (lDisp (aN))) (sSq (sFor (iR1 (eV 3)) (gN 5) (B__law_ballots_2)) (sFrz 4 (sRet (eV 4))))
noncomputable def F__law_ballots : List D → R D := runF 10 G__law_ballots
noncomputable def B__law_counted_1 : Ev → SO := sSq (sSet 9 (eLc [12] (iSq (eV 7)) (gN 12) (tV (e2 (gInS false) (eV 12) (eV 2))) (eMtL gIdx (eV 2) (aC (eV 12) (aN))))) (sIf (tV (e2 gEq (eV 9) (eA gLst (aN)))) (sSet 6 (e2 gAdd (eV 6) (eV 8))) (sPutL 5 (eBor (e2 gAdd (e2 gIx (eV 5) (e2 gIx (eV 9) (eC (.int 0)))) (eV 8))) (e2 gIx (eV 9) (eC (.int 0)))))
noncomputable def B__law_counted_2 : Ev → SO := sFrz 5 (sIf (tV (e2 gLe (e2 gIx (eV 5) (eV 11)) (e2 gIx (eV 5) (eMtL gIdx (eV 2) (aC (eV 10) (aN)))))) (sSet 10 (e2 gIx (eV 2) (eV 11))) (sN))
noncomputable def B__law_counted_3 : Ev → SO := sSq (sOwn 5 (lLc [12] (iSq (eV 2)) (gN 12) (tsY) (eC (.int 0)))) (sSq (sSet 6 (eC (.int 0))) (sSq (sFor (iSq (eV 1)) (gT 2 (gsC (gN 7) (gsC (gN 8) (gsN)))) (B__law_counted_1)) (sSq (sSet 10 (e2 gIx (eV 2) (eC (.int 0)))) (sSq (sFor (iR1 (eA gLen (aC (eV 2) (aN)))) (gN 11) (B__law_counted_2)) (sIf (tV (e2 gEq (eA gLen (aC (eV 2) (aN))) (eC (.int 1)))) (sFrz 5 (sApp 3 (eA gTup (aC (eA gTuple (aC (eV 2) (aN))) (aC (eA gTuple (aC (eV 5) (aN))) (aC (eV 6) (aC (eC .non) (aN)))))))) (sSq (sFrz 5 (sApp 3 (eA gTup (aC (eA gTuple (aC (eV 2) (aN))) (aC (eA gTuple (aC (eV 5) (aN))) (aC (eV 6) (aC (eV 10) (aN)))))))) (sSet 2 (eLc [12] (iSq (eV 2)) (gN 12) (tV (e2 gNe (eV 12) (eV 10))) (eV 12)))))))))
noncomputable def G__law_counted : Ev → SO := sSq (sSet 2 (eA gList (aC (eV 0) (aN)))) (sSq (sOwn 3 (lDisp (aN))) (sSq (sFor (iR1 (eA gLen (aC (eV 0) (aN)))) (gN 4) (B__law_counted_3)) (sFrz 3 (sRet (eV 3)))))
noncomputable def F__law_counted : List D → R D := runF 13 G__law_counted
noncomputable def G__law_big : Ev → SO := sSq (sSet 4 (e2 gAdd (e2 gAdd (e2 gMul (e2 gMod (eA gInt (aC (e2 gIx (eV 0) (eV 1)) (aN))) (eC (.int 5040))) (eC (.int 25401600))) (e2 gMul (e2 gMod (eA gInt (aC (e2 gIx (eV 0) (e2 gAdd (eV 1) (eC (.int 1)))) (aN))) (eC (.int 5040))) (eC (.int 5040)))) (e2 gMod (eA gInt (aC (e2 gIx (eV 0) (e2 gAdd (eV 1) (eC (.int 2)))) (aN))) (eC (.int 5040))))) (sRet (e2 gAdd (eV 2) (e2 gMod (eA gInt (aC (eV 4) (aN))) (e2 gAdd (e2 gSub (eV 3) (eV 2)) (eC (.int 1))))))
noncomputable def F__law_big : List D → R D := runF 5 G__law_big
noncomputable def B__law_all_ballots_1 : Ev → SO := sSq (sApp 3 (eV 4)) (sIf (tV (e2 gEq (eA gLen (aC (eV 4) (aN))) (eV 2))) (sFrz 3 (sNew 3 (oBor (nL (lCat (eV 3) (eLc [5] (iSq (eV 0)) (gN 5) (tV (e2 (gInS true) (eV 5) (eV 4))) (e2 gAdd (eV 4) (eA gTup (aC (eV 5) (aN)))))))))) (sN))
noncomputable def B__law_all_ballots_2 : Ev → SO := sSq (sOwn 3 (lDisp (aN))) (sSq (sFor (iSq (eA gList (aC (eV 1) (aN)))) (gN 4) (B__law_all_ballots_1)) (sFrz 3 (sSet 1 (eV 3))))
noncomputable def G__law_all_ballots : Ev → SO := sSq (sSet 1 (eA gLst (aC (eA gTup (aN)) (aN)))) (sSq (sFor (iR1 (eA gLen (aC (eV 0) (aN)))) (gN 2) (B__law_all_ballots_2)) (sRet (eV 1)))
noncomputable def F__law_all_ballots : List D → R D := runF 6 G__law_all_ballots
noncomputable def G__law_each_ballot : Ev → SO := sSq (sSet 2 (e2 gIx (eA gLst (aC (eC (.int 2)) (aC (eC (.int 4)) (aC (eC (.int 70)) (aN))))) (eCall 4 F__law_part (aC (eV 1) (aC (eC (.int 33)) (aC (eC (.int 1)) (aC (eC (.int 3)) (aN)))))))) (sSq (sSet 3 (eCall 1 F__law_all_ballots (aC (eV 0) (aN)))) (sRet (eLc [4] (iR1 (eA gLen (aC (eV 3) (aN)))) (gN 4) (tsY) (eA gTup (aC (e2 gIx (eV 3) (eV 4)) (aC (e2 gMod (eCall 4 F__law_part (aC (eV 1) (aC (e2 gDiv (eV 4) (eC (.int 2))) (aC (e2 gIx (eA gLst (aC (eC (.int 1)) (aC (eC (.int 70)) (aN)))) (e2 gMod (eV 4) (eC (.int 2)))) (aC (eC (.int 70)) (aN)))))) (eV 2)) (aN)))))))
noncomputable def F__law_each_ballot : List D → R D := runF 5 G__law_each_ballot
noncomputable def G__law_mixed_k15 : Ev → SO := sSq (sSet 2 (e2 gMod (e2 gAdd (e2 gMul (e2 gMod (eA gAbs (aC (eV 0) (aN))) (eC (.int 2147483647))) (eC (.int 48271))) (e2 gMul (e2 gAdd (eV 1) (eC (.int 1))) (eC (.int 69621)))) (eC (.int 2147483647)))) (sSq (sSet 2 (e2 gMod (e2 gAdd (e2 gAdd (e2 gMul (eV 2) (eC (.int 16807))) (e2 gDiv (eV 2) (eC (.int 127773)))) (e2 gMul (e2 gAdd (eV 1) (eC (.int 7))) (eC (.int 7919)))) (eC (.int 2147483629)))) (sRet (e2 gDiv (eV 2) (eC (.int 11)))))
noncomputable def F__law_mixed_k15 : List D → R D := runF 3 G__law_mixed_k15
noncomputable def B__law_pool_k15_1 : Ev → SO := sIf (tAnd (tV (eV 3)) (tV (e2 gGt (eV 2) (eC (.int 0))))) (sSq (sApp 4 (e2 gMod (eV 2) (eC (.int 5040)))) (sSet 2 (e2 gDiv (eV 2) (eC (.int 5040))))) (sApp 4 (eCall 2 F__law_mixed_k15 (aC (eV 0) (aC (eV 5) (aN)))))
noncomputable def G__law_pool_k15 : Ev → SO := sSq (sSet 2 (eA gAbs (aC (eV 0) (aN)))) (sSq (sSet 3 (e2 gGe (eV 2) (e2 gPow (eC (.int 10)) (eC (.int 18))))) (sSq (sOwn 4 (lDisp (aN))) (sSq (sFor (iR1 (eV 1)) (gN 5) (B__law_pool_k15_1)) (sFrz 4 (sRet (eV 4))))))
noncomputable def F__law_pool_k15 : List D → R D := runF 6 G__law_pool_k15
noncomputable def B__law_turned_about_1 : Ev → SO := sApp 2 (eA gTup (aC (eA gTuple (aC (eLc [6] (iSq (eV 4)) (gN 6) (tsY) (e2 gIx (eV 0) (e2 gMod (eA gInt (aC (e2 gAdd (eMtL gIdx (eV 0) (aC (eV 6) (aN))) (eV 3)) (aN))) (eA gLen (aC (eV 0) (aN)))))) (aN))) (aC (eV 5) (aN))))
noncomputable def B__law_turned_about_2 : Ev → SO := sFor (iSq (eV 1)) (gT 2 (gsC (gN 4) (gsC (gN 5) (gsN)))) (B__law_turned_about_1)
noncomputable def G__law_turned_about : Ev → SO := sSq (sOwn 2 (lDisp (aN))) (sSq (sFor (iR1 (eA gLen (aC (eV 0) (aN)))) (gN 3) (B__law_turned_about_2)) (sFrz 2 (sRet (eV 2))))
noncomputable def F__law_turned_about : List D → R D := runF 7 G__law_turned_about
noncomputable def G__law_given : Ev → SO := sSq (sSet 4 (eCall 4 F__law_ballots (aC (eV 2) (aC (eC (.int 0)) (aC (eV 0) (aC (eCall 4 F__law_part (aC (eV 1) (aC (eC (.int 5)) (aC (eC (.int 4)) (aC (eC (.int 13)) (aN)))))) (aN))))))) (sSq (sSet 5 (eCall 4 F__law_part (aC (eV 1) (aC (eC (.int 5)) (aC (eC (.int 52)) (aC (eC (.int 4)) (aN))))))) (sSq (sIf (tAnd (tV (e2 gEq (e2 gMod (eV 5) (eC (.int 2))) (eC (.int 0)))) (tV (e2 gEq (eCall 4 F__law_part (aC (eV 1) (aC (eC (.int 5)) (aC (eC (.int 1456)) (aC (eC (.int 3)) (aN)))))) (eC (.int 1))))) (sRet (eCall 2 F__law_each_ballot (aC (eV 0) (aC (eCall 2 F__law_pool_k15 (aC (eV 3) (aC (eC (.int 34)) (aN)))) (aN))))) (sN)) (sSq (sIf (tV (e2 gEq (eV 5) (eC (.int 1)))) (sRet (eLc [7, 8] (iSq (eV 4)) (gT 2 (gsC (gN 7) (gsC (gN 8) (gsN)))) (tsY) (eA gTup (aC (eV 7) (aC (e2 gMod (eA gInt (aC (eV 8) (aN))) (eC (.int 3))) (aN)))))) (sN)) (sSq (sIf (tV (e2 gEq (eV 5) (eC (.int 2)))) (sSq (sSet 6 (eCall 2 F__law_pool_k15 (aC (eV 3) (aC (eC (.int 36)) (aN))))) (sRet (eLc [9] (iR1 (eA gLen (aC (eV 4) (aN)))) (gN 9) (tsY) (eA gTup (aC (e2 gIx (e2 gIx (eV 4) (eV 9)) (eC (.int 0))) (aC (eCall 4 F__law_big (aC (eV 6) (aC (e2 gMul (eC (.int 3)) (eV 9)) (aC (eC (.int 0)) (aC (e2 gPow (eC (.int 10)) (eC (.int 9))) (aN)))))) (aN))))))) (sN)) (sSq (sIf (tV (e2 gEq (eV 5) (eC (.int 3)))) (sRet (eCall 2 F__law_turned_about (aC (eV 0) (aC (eSl (eV 4) (oN) (oS (eC (.int 3)))) (aN))))) (sN)) (sRet (eV 4)))))))
noncomputable def F__law_given : List D → R D := runF 10 G__law_given
noncomputable def B_top_1 : Ev → SO := sIf (tV (e2 (gInS false) (eV 2) (eV 1))) (sRet (eV 2)) (sN)
noncomputable def G_top : Ev → SO := sSq (sFor (iSq (eV 0)) (gN 2) (B_top_1)) (sRet (eC .non))
noncomputable def F_top : List D → R D := runF 3 G_top
noncomputable def B__law_tops_right_1 : Ev → SO := sIf (tV (e2 (gInS false) (eV 5) (eV 1))) (sSet 4 (eV 5)) (sN)
noncomputable def B__law_tops_right_2 : Ev → SO := sSq (sSet 4 (eC .non)) (sSq (sFor (iSq (e1 gRev (eV 3))) (gN 5) (B__law_tops_right_1)) (sIf (tOr (tNot (tV (eCall 2 F__law_same (aC (eCall 2 F_top (aC (eV 3) (aC (eV 2) (aN)))) (aC (eV 4) (aN)))))) (tNot (tV (eCall 2 F__law_same (aC (eCallK 0 2 2 F_top (gDk [0, 1] []) (aN) (aC (eV 3) (aC (eA gTuple (aC (eV 1) (aN))) (aN)))) (aC (eV 4) (aN))))))) (sRet (eC (.bl false))) (sN)))
noncomputable def G__law_tops_right : Ev → SO := sSq (sSet 2 (eA gList (aC (eV 1) (aN)))) (sSq (sFor (iSq (eCall 1 F__law_all_ballots (aC (eV 0) (aN)))) (gN 3) (B__law_tops_right_2)) (sRet (e2 gEq (eV 2) (eV 1))))
noncomputable def F__law_tops_right : List D → R D := runF 6 G__law_tops_right
noncomputable def G_leaving : Ev → SO := sSq (sSet 2 (eA gMinT (aC (eV 1) (aN)))) (sRet (e2 gIx (eLc [3, 4] (iZp2 (eV 0) (eV 1)) (gT 2 (gsC (gN 3) (gsC (gN 4) (gsN)))) (tV (e2 gEq (eV 4) (eV 2))) (eV 3)) (e1 gNeg (eC (.int 1)))))
noncomputable def F_leaving : List D → R D := runF 5 G_leaving
noncomputable def G_remaining_after : Ev → SO := sRet (eA gTupZ (aC (eLc [2] (iSq (eV 0)) (gN 2) (tV (e2 (gInS true) (eV 2) (eV 1))) (eV 2)) (aN)))
noncomputable def F_remaining_after : List D → R D := runF 3 G_remaining_after
noncomputable def G_Roll___iter__ : Ev → SO := sRet (e1 (gFld [52] 51) (eV 0))
noncomputable def F_Roll___iter__ : List D → R D := runF 1 G_Roll___iter__
noncomputable def G_votes_among : Ev → SO := sSq (sSet 2 (eLc [4, 5] (iDun 52 F_Roll___iter__ (eV 0)) (gT 2 (gsC (gN 4) (gsC (gN 5) (gsN)))) (tsY) (eA gTup (aC (eCall 2 F_top (aC (eV 4) (aC (eV 1) (aN)))) (aC (eV 5) (aN)))))) (sSq (sSet 3 (eLc [6] (iSq (eV 1)) (gN 6) (tsY) (eA gSum (aC (eLc [7, 5] (iSq (eV 2)) (gT 2 (gsC (gN 7) (gsC (gN 5) (gsN)))) (tV (e2 gEq (eV 7) (eV 6))) (eV 5)) (aN))))) (sRet (eA gTup (aC (eA gTuple (aC (eV 3) (aN))) (aC (e2 gSub (e1 (gFld [52] 4) (eV 0)) (eA gSum (aC (eV 3) (aN)))) (aN))))))
noncomputable def F_votes_among : List D → R D := runF 8 G_votes_among
noncomputable def G_Count___init__ : Ev → SO := sSq (sFldO [2] 0 6 (eV 1)) (sSq (sFldO [2] 0 7 (eA gTuple (aC (eLc [2, 3, 4, 5] (iSq (eSl (eV 1) (oN) (oS (e1 gNeg (eC (.int 1)))))) (gT 4 (gsC (gN 2) (gsC (gN 3) (gsC (gN 4) (gsC (gN 5) (gsN)))))) (tsY) (eV 5)) (aN)))) (sFldO [2] 0 8 (e2 gIx (e2 gIx (e2 gIx (eV 1) (e1 gNeg (eC (.int 1)))) (eC (.int 0))) (eC (.int 0)))))
noncomputable def F_Count___init__ : Addr → List D → R (List (Nat × D)) := runI 2 6 G_Count___init__
noncomputable def B_count_1 : Ev → SO := sSq (sSet 4 (eCall 2 F_remaining_after (aC (e1 (gFld [52] 44) (eV 0)) (aC (eV 2) (aN))))) (sSq (sAsg (eCall 2 F_votes_among (aC (eV 0) (aC (eV 4) (aN)))) (gT 2 (gsC (gN 5) (gsC (gN 6) (gsN))))) (sSq (sSet 7 (eCall 2 F_leaving (aC (eV 4) (aC (eV 5) (aN))))) (sSq (sApp 1 (eA gTup (aC (eV 4) (aC (eV 5) (aC (eV 6) (aC (eV 7) (aN))))))) (sSet 2 (e2 gAdd (eV 2) (eA gTup (aC (eV 7) (aN))))))))
noncomputable def G_count : Ev → SO := sSq (sOwn 1 (lDisp (aN))) (sSq (sSet 2 (eA gTup (aN))) (sSq (sFor (iSq (eSl (e1 (gFld [52] 44) (eV 0)) (oS (eC (.int 1))) (oN))) (gN 3) (B_count_1)) (sSq (sSet 4 (eCall 2 F_remaining_after (aC (e1 (gFld [52] 44) (eV 0)) (aC (eV 2) (aN))))) (sSq (sAsg (eCall 2 F_votes_among (aC (eV 0) (aC (eV 4) (aN)))) (gT 2 (gsC (gN 5) (gsC (gN 6) (gsN))))) (sSq (sApp 1 (eA gTup (aC (eV 4) (aC (eV 5) (aC (eV 6) (aC (eC .non) (aN))))))) (sFrz 1 (sRet (eFrz (nMake 2 2 F_Count___init__ (aC (eA gTuple (aC (eV 1) (aN))) (aN)))))))))))
noncomputable def F_count : List D → R D := runF 8 G_count
noncomputable def B_check_ballot_1 : Ev → SO := sSq (sIf (tV (e2 (gInS true) (eV 3) (eV 0))) (sBad) (sN)) (sIf (tV (e2 (gInS false) (eV 3) (eSl (eV 1) (oN) (oS (eV 2))))) (sBad) (sN))
noncomputable def G_check_ballot : Ev → SO := sFor (iEn2 (eV 1)) (gT 2 (gsC (gN 2) (gsC (gN 3) (gsN)))) (B_check_ballot_1)
noncomputable def F_check_ballot : List D → R D := runF 4 G_check_ballot
noncomputable def B_checked_names_1 : Ev → SO := sSq (sIf (tAnd (tNot (tV (eCall 1 F_is_name (aC (eV 4) (aN))))) (tNot (tAnd (tV (eV 2)) (tV (e2 gEq (eV 4) (eC (.str ""))))))) (sBad) (sN)) (sIf (tV (e2 (gInS false) (eV 4) (eSl (eV 0) (oN) (oS (eV 3))))) (sBad) (sN))
noncomputable def G_checked_names : Ev → SO := sSq (sIf (tNot (tV (eChain gLe gLe (eC (.int 1)) (eA gLen (aC (eV 0) (aN))) (eV 1)))) (sBad) (sN)) (sSq (sFor (iEn2 (eV 0)) (gT 2 (gsC (gN 3) (gsC (gN 4) (gsN)))) (B_checked_names_1)) (sRet (eA gTupZ (aC (eV 0) (aN)))))
noncomputable def F_checked_names : List D → R D := runF 5 G_checked_names
noncomputable def G_ordered_rows : Ev → SO := sSq (sSet 2 (eFrz (nDc [5, 6] (iEn2 (eV 0)) (gT 2 (gsC (gN 5) (gsC (gN 6) (gsN)))) (tsY) (eV 6) (eV 5)))) (sSq (sSet 3 (eA gSrtT (aC (eLckT 1 (eLc [7] (iKeyT (eV 1)) (gN 7) (tV (e2 gGt (e2 gIxA (eV 1) (eV 7)) (eC (.int 0)))) (eA gTuple (aC (eLc [6] (iSq (eV 7)) (gN 6) (tsY) (e2 gIxA (eV 2) (eV 6))) (aN))))) (aN)))) (sSq (sSet 4 (eLc [8] (iSq (eV 3)) (gN 8) (tsY) (eA gTuple (aC (eLc [5] (iSq (eV 8)) (gN 5) (tsY) (e2 gIx (eV 0) (eV 5))) (aN))))) (sRet (eA gTuple (aC (eLc [7] (iSq (eV 4)) (gN 7) (tsY) (eA gTup (aC (eV 7) (aC (e2 gIxA (eV 1) (eV 7)) (aN))))) (aN))))))
noncomputable def F_ordered_rows : List D → R D := runF 9 G_ordered_rows
noncomputable def B_Roll___init___1 : Ev → SO := sSq (sDrop (eCall 2 F_check_ballot (aC (eFldO [52] 0 44) (aC (eV 5) (aN))))) (sSq (sIf (tOr (tV (e2 gLt (eV 6) (eC (.int 0)))) (tAnd (tV (e2 gNotN (eV 3) (eC .non))) (tV (e2 gGt (eV 6) (eV 3))))) (sBad) (sN)) (sPutT 4 (eV 5) (eBor (e2 gAdd (eGet2 (eV 4) (eV 5) (eC (.int 0))) (eV 6)))))
noncomputable def G_Roll___init__ : Ev → SO := sSq (sFldO [52] 0 44 (eCallK 2 0 3 F_checked_names (gDk [0, 1, 2] [.bl false]) (aC (eV 1) (aC (eC (.int 4)) (aN))) (aN))) (sSq (sNew 4 nDT) (sSq (sFor (iSq (eV 2)) (gT 2 (gsC (gN 5) (gsC (gN 6) (gsN)))) (B_Roll___init___1)) (sSq (sFrz 4 (sFldO [52] 0 51 (eCall 2 F_ordered_rows (aC (eFldO [52] 0 44) (aC (eV 4) (aN)))))) (sFldO [52] 0 4 (eA gSum (aC (eLc [5, 6] (iSq (eFldO [52] 0 51)) (gT 2 (gsC (gN 5) (gsC (gN 6) (gsN)))) (tsY) (eV 6)) (aN)))))))
noncomputable def F_Roll___init__ : Addr → List D → R (List (Nat × D)) := runI 52 7 G_Roll___init__
noncomputable def G_lead : Ev → SO := sRet (eIf (tV (e2 gGt (eIdxA (eV 0) (aC (eV 1) (aN))) (eIdxA (eV 0) (aC (eV 2) (aN))))) (eC (.int 0)) (eC (.int 1)))
noncomputable def F_lead : List D → R D := runF 3 G_lead
noncomputable def B__law_leads_right_1 : Ev → SO := sIf (tV (e2 gNe (eV 3) (eV 2))) (sSq (sSet 4 (eA gInt (aC (e2 gLt (eV 2) (eV 3)) (aN)))) (sSq (sIf (tNot (tV (eCall 2 F__law_same (aC (eCall 3 F_lead (aC (eV 1) (aC (e2 gIx (eV 0) (eV 2)) (aC (e2 gIx (eV 0) (eV 3)) (aN))))) (aC (eV 4) (aN)))))) (sRet (eC (.bl false))) (sN)) (sIf (tNot (tV (eCall 2 F__law_same (aC (eCallK 0 3 3 F_lead (gDk [0, 1, 2] []) (aN) (aC (eA gTupZ (aC (eV 0) (aN))) (aC (e2 gIx (eV 0) (eV 3)) (aC (e2 gIx (eV 0) (eV 2)) (aN))))) (aC (e2 gSub (eC (.int 1)) (eV 4)) (aN)))))) (sRet (eC (.bl false))) (sN)))) (sN)
noncomputable def B__law_leads_right_2 : Ev → SO := sFor (iR1 (eA gLen (aC (eV 0) (aN)))) (gN 3) (B__law_leads_right_1)
noncomputable def G__law_leads_right : Ev → SO := sSq (sSet 1 (eA gList (aC (eV 0) (aN)))) (sSq (sFor (iR1 (eA gLen (aC (eV 0) (aN)))) (gN 2) (B__law_leads_right_2)) (sRet (e2 gEq (eV 1) (eV 0))))
noncomputable def F__law_leads_right : List D → R D := runF 5 G__law_leads_right
noncomputable def B__law_votes_1 : Ev → SO := sSq (sSet 6 (eLc [7] (iSq (eV 4)) (gN 7) (tV (e2 (gInS false) (eV 7) (eV 2))) (eV 7))) (sIf (tV (e2 gNe (eV 6) (eA gLst (aN)))) (sPutL 3 (eBor (e2 gAdd (e2 gIx (eV 3) (eMtL gIdx (eV 1) (aC (e2 gIx (eV 6) (eC (.int 0))) (aN)))) (eV 5))) (eMtL gIdx (eV 1) (aC (e2 gIx (eV 6) (eC (.int 0))) (aN)))) (sN))
noncomputable def G__law_votes : Ev → SO := sSq (sOwn 3 (lLc [7] (iSq (eV 1)) (gN 7) (tsY) (eC (.int 0)))) (sSq (sFor (iSq (eV 0)) (gT 2 (gsC (gN 4) (gsC (gN 5) (gsN)))) (B__law_votes_1)) (sFrz 3 (sRet (eV 3))))
noncomputable def F__law_votes : List D → R D := runF 8 G__law_votes
noncomputable def B__law_holds_k16_1 : Ev → SO := sIf (tV (e2 gNe (eV 6) (eV 4))) (sSq (sSet 7 (e2 gAdd (e2 gIx (eV 5) (eMtL gIdx (eV 0) (aC (eV 4) (aN)))) (eCall 3 F_lead (aC (eA gList (aC (eV 0) (aN))) (aC (eV 4) (aC (eV 6) (aN))))))) (sIf (tV (e2 gGt (eV 7) (e2 gIx (eV 5) (eMtL gIdx (eV 0) (aC (eV 6) (aN)))))) (sRet (eC (.bl false))) (sN))) (sN)
noncomputable def B__law_holds_k16_2 : Ev → SO := sSq (sSet 5 (eCall 3 F__law_votes (aC (eV 1) (aC (eV 0) (aC (eV 3) (aN)))))) (sSq (sFor (iSq (eV 3)) (gN 6) (B__law_holds_k16_1)) (sSet 3 (eLc [8] (iSq (eV 3)) (gN 8) (tV (e2 gNe (eV 8) (eV 4))) (eV 8))))
noncomputable def G__law_holds_k16 : Ev → SO := sSq (sSet 3 (eA gList (aC (eV 0) (aN)))) (sSq (sFor (iSq (eV 2)) (gN 4) (B__law_holds_k16_2)) (sRet (eC (.bl true))))
noncomputable def F__law_holds_k16 : List D → R D := runF 9 G__law_holds_k16
noncomputable def B__law_order_right_1 : Ev → SO := sIf (tNot (tV (eA gIsi (aC (eV 4) (aC (eC (.ty "str")) (aN)))))) (sRet (eC (.bl false))) (sN)
noncomputable def B__law_order_right_2 : Ev → SO := sIf (tV (e2 gLt (eA gLen (aC (eV 5) (aN))) (eA gLen (aC (eV 1) (aN))))) (sIf (tV (e2 gNe (eCall 3 F__law_holds_k16 (aC (eV 1) (aC (eV 2) (aC (eV 5) (aN))))) (e2 gEq (eSl (eV 3) (oN) (oS (eA gLen (aC (eV 5) (aN))))) (eV 5)))) (sRet (eC (.bl false))) (sN)) (sN)
noncomputable def G__law_order_right : Ev → SO := sSq (sSet 3 (e1 (gFld [2] 7) (eCall 1 F_count (aC (eV 0) (aN))))) (sSq (sIf (tOr (tNot (tV (eA gIsi (aC (eV 3) (aC (eC (.ty "tuple")) (aN)))))) (tV (e2 gNe (eA gLen (aC (eV 3) (aN))) (e2 gSub (eA gLen (aC (eV 1) (aN))) (eC (.int 1)))))) (sRet (eC (.bl false))) (sN)) (sSq (sFor (iSq (eV 3)) (gN 4) (B__law_order_right_1)) (sSq (sFor (iSq (eCall 1 F__law_all_ballots (aC (eV 1) (aN)))) (gN 5) (B__law_order_right_2)) (sRet (eC (.bl true))))))
noncomputable def F__law_order_right : List D → R D := runF 6 G__law_order_right
noncomputable def G_Roll___add__ : Ev → SO := sSq (sIf (tV (e2 gNe (e1 (gFld [52] 44) (eV 0)) (e1 (gFld [52] 44) (eV 1)))) (sBad) (sN)) (sRet (eFrz (nMakeK 52 2 1 4 F_Roll___init__ (gDk [0, 1, 3] [.tp0]) (aC (e1 (gFld [52] 44) (eV 0)) (aC (e2 gAdd (e1 (gFld [52] 51) (eV 0)) (e1 (gFld [52] 51) (eV 1))) (aN))) (aC (eC .non) (aN)))))
noncomputable def F_Roll___add__ : List D → R D := runF 2 G_Roll___add__
end Tk

namespace Tk
open PySem PySem.Spec L2 PyProof.Rows
/-! ### the mirrors' words, worked out -/
def SO.sq (s : SO) (k : Ev → SO) : SO := match s with
  | .nx ρ => k ρ
  | r => r
def SO.lp (s : SO) (k : Ev → SO) : SO := match s with
  | .nx ρ => k ρ
  | .ct ρ => k ρ
  | .bk ρ => .nx ρ
  | r => r
section
variable {ρ : Ev} {k g : Ev → SO} {f fa fb fc : Ev → R D} {t u : Ev → R Bool} {fl : Ev → R (List D)} {d : D} {x : Ex} {i n : Nat} {s : Sl} {xs ds : List D}
@[simp] theorem sq_nx : SO.sq (.nx ρ) k = k ρ := (rfl)
@[simp] theorem sq_rt : SO.sq (.rt d) k = .rt d := (rfl)
@[simp] theorem sq_ro {s : Sl} : SO.sq (.ro s) k = .ro s := (rfl)
@[simp] theorem sq_bk : SO.sq (.bk ρ) k = .bk ρ := (rfl)
@[simp] theorem sq_ct : SO.sq (.ct ρ) k = .ct ρ := (rfl)
@[simp] theorem sq_ex : SO.sq (.ex x ρ) k = .ex x ρ := (rfl)
@[simp] theorem sq_bad : SO.sq .bad k = .bad := (rfl)
@[simp] theorem lp_nx : SO.lp (.nx ρ) k = k ρ := (rfl)
@[simp] theorem lp_ct : SO.lp (.ct ρ) k = k ρ := (rfl)
@[simp] theorem lp_bk : SO.lp (.bk ρ) k = .nx ρ := (rfl)
@[simp] theorem lp_rt : SO.lp (.rt d) k = .rt d := (rfl)
@[simp] theorem lp_ro {s : Sl} : SO.lp (.ro s) k = .ro s := (rfl)
@[simp] theorem lp_ex : SO.lp (.ex x ρ) k = .ex x ρ := (rfl)
@[simp] theorem lp_bad : SO.lp .bad k = .bad := (rfl)
@[simp] theorem sSq_ap : sSq g k ρ = SO.sq (g ρ) k := by unfold sSq SO.sq; cases g ρ <;> rfl
@[simp] theorem sN_ap : sN ρ = .nx ρ := (rfl)
@[simp] theorem sBad_ap : sBad ρ = .bad := (rfl)
@[simp] theorem sRet_ap : sRet f ρ = SO.from ρ (f ρ) .rt := (rfl)
@[simp] theorem sRetN_ap : sRetN ρ = .rt .non := (rfl)
@[simp] theorem sDrop_ap : sDrop f ρ = SO.from ρ (f ρ) fun _ => .nx ρ := (rfl)
@[simp] theorem sIf_ap : sIf t g k ρ = SO.from ρ (t ρ) fun b => if b = true then g ρ else k ρ := (rfl)
@[simp] theorem sSet_ap : sSet i f ρ = SO.from ρ (f ρ) fun d => .nx (ρ.set i (.v d)) := (rfl)
@[simp] theorem sBk_ap : sBk ρ = .bk ρ := (rfl)
@[simp] theorem sCt_ap : sCt ρ = .ct ρ := (rfl)
@[simp] theorem sAsg_ap {h : Tg} : sAsg f h ρ = SO.from ρ (f ρ) fun d => SO.ofO (h d ρ) .nx := (rfl)
@[simp] theorem ofO_none : SO.ofO none k = .bad := (rfl)
@[simp] theorem sFor_ap {h : Tg} : sFor fl h g ρ = SO.from ρ (fl ρ) fun ds => loop h g ds ρ := (rfl)
@[simp] theorem loop_nil {h : Tg} : loop h g [] ρ = .nx ρ := (rfl)
theorem loop_cons {h : Tg} : loop h g (d :: ds) ρ = SO.ofO (h d ρ) fun ρ1 => SO.lp (g ρ1) (loop h g ds) := by
  unfold loop SO.lp SO.ofO
  cases h d ρ with
  | none => rfl
  | some ρ1 =>
    show (match g ρ1 with
      | .nx ρ2 => loop h g ds ρ2
      | .ct ρ2 => loop h g ds ρ2
      | .bk ρ2 => .nx ρ2
      | r => r) = _
    cases e : g ρ1 <;> simp only [e]
theorem wloop_succ : wloop t g (n + 1) ρ = SO.from ρ (t ρ) fun b => if b = true then SO.lp (g ρ) (wloop t g n) else .nx ρ := by
  show SO.from ρ (t ρ) _ = _
  congr 1
@[simp] theorem eV_zero : eV 0 (.v d :: ρ) = .ok d := (rfl)
@[simp] theorem eV_succ : eV (i + 1) (s :: ρ) = eV i ρ := (rfl)
@[simp] theorem eC_ap : eC d ρ = .ok d := (rfl)
@[simp] theorem e1_ap {h : D → R D} : e1 h fa ρ = (fa ρ).bind h := (rfl)
@[simp] theorem e2_ap {h : D → D → R D} : e2 h fa fb ρ = (fa ρ).bind fun a => (fb ρ).bind fun b => h a b := (rfl)
@[simp] theorem eA_ap {h : List D → R D} : eA h fl ρ = (fl ρ).bind h := (rfl)
@[simp] theorem aN_ap : aN ρ = .ok [] := (rfl)
@[simp] theorem aC_ap : aC fa fl ρ = (fa ρ).bind fun a => (fl ρ).bind fun r => .ok (a :: r) := (rfl)
@[simp] theorem Bof_bl {b : Bool} : Bof (.bl b) = .ok b := (rfl)
@[simp] theorem tV_ap : tV fa ρ = (fa ρ).bind Bof := (rfl)
@[simp] theorem tAnd_ap : tAnd t u ρ = (t ρ).bind fun b => if b = true then u ρ else .ok false := (rfl)
@[simp] theorem tOr_ap : tOr t u ρ = (t ρ).bind fun b => if b = true then .ok true else u ρ := (rfl)
@[simp] theorem tNot_ap : tNot t ρ = (t ρ).bind fun b => .ok (!b) := (rfl)
@[simp] theorem eAnd_ap : eAnd fa fb ρ = (fa ρ).bind fun a => (Bof a).bind fun b => if b = true then fb ρ else .ok (.bl false) := (rfl)
@[simp] theorem eOr_ap : eOr fa fb ρ = (fa ρ).bind fun a => (Bof a).bind fun b => if b = true then .ok (.bl true) else fb ρ := (rfl)
@[simp] theorem eNot_ap : eNot fa ρ = (fa ρ).bind fun a => (Bof a).bind fun b => .ok (.bl (!b)) := (rfl)
@[simp] theorem eIf_ap : eIf t fa fb ρ = (t ρ).bind fun b => if b = true then fa ρ else fb ρ := (rfl)
@[simp] theorem eChain_ap {h h' : D → D → R D} : eChain h h' fa fb fc ρ = (fa ρ).bind fun a => (fb ρ).bind fun b => (h a b).bind fun z => (Bof z).bind fun k => if k = true then (fc ρ).bind fun c => h' b c else .ok (.bl false) := (rfl)
@[simp] theorem gN_ap : gN i d ρ = some (ρ.set i (.v d)) := (rfl)
@[simp] theorem gsN_ap : gsN [] ρ = some ρ := (rfl)
@[simp] theorem gsC_ap {h : Tg} {r : Tgs} : gsC h r (d :: ds) ρ = (h d ρ).bind fun ρ' => r ds ρ' := (rfl)
@[simp] theorem gT_ap {h : Tgs} : gT n h (.tup ds) ρ = if ds.length = n then h ds ρ else none := (rfl)
@[simp] theorem frzE_zero : frzE 0 (s :: ρ) = frzS s :: ρ := (rfl)
@[simp] theorem frzE_succ : frzE (i + 1) (s :: ρ) = s :: frzE i ρ := by
  unfold frzE
  rw [List.getElem?_cons_succ]
  cases ρ[i]? <;> rfl
@[simp] theorem frzS_l : frzS (.l xs) = .v (.lst xs) := (rfl)
@[simp] theorem frzS_v : frzS (.v d) = .v d := (rfl)
@[simp] theorem frzS_no : frzS .no = .no := (rfl)
@[simp] theorem frzA_nil : frzA [] = [] := (rfl)
@[simp] theorem frzA_cons : frzA (s :: ρ) = frzS s :: frzA ρ := (rfl)
@[simp] theorem sFrz_ap : sFrz i g ρ = g (frzE i ρ) := (rfl)
@[simp] theorem ownL_zero : ownL (.l xs :: ρ) 0 = .ok xs := (rfl)
@[simp] theorem ownL_succ : ownL (s :: ρ) (i + 1) = ownL ρ i := (rfl)
@[simp] theorem lDisp_ap : lDisp fl ρ = (fl ρ).bind fun ds => if ds.length ≤ sizeLine then .ok ds else .bad := (rfl)
@[simp] theorem lList_ap : lList f ρ = (f ρ).bind fun d => match d with
  | .lst xs => .ok xs
  | .tup xs => .ok xs
  | .scr ns => .ok (ns.map .int)
  | _ => .bad := (rfl)
@[simp] theorem sOwn_ap : sOwn i fl ρ = SO.from ρ (fl ρ) fun ds => .nx (ρ.set i (.l ds)) := (rfl)
@[simp] theorem sApp_ap : sApp i f ρ = SO.from ρ (ownL ρ i) fun xs => SO.from ρ (f ρ) fun d => if xs.length < sizeLine then .nx (ρ.set i (.l (xs ++ [d]))) else .bad := (rfl)
@[simp] theorem sMut_ap {h : List D → List D → Option (List D)} : sMut i h fl ρ = SO.from ρ (ownL ρ i) fun xs => SO.from ρ (fl ρ) fun ds => match h xs ds with
  | some xs' => .nx (ρ.set i (.l xs'))
  | none => .bad := (rfl)
@[simp] theorem sPop_ap : sPop i ρ = SO.from ρ (ownL ρ i) fun xs => if xs.length = 0 then .bad else .nx (ρ.set i (.l xs.dropLast)) := (rfl)
@[simp] theorem eBor_ap : eBor f ρ = (f (frzA ρ)).quiet.bind fun d => if scalD d = true then .ok d else .bad := (rfl)
@[simp] theorem tBor_ap : tBor t ρ = (t (frzA ρ)).quiet := (rfl)
@[simp] theorem wipeE_nil : wipeE ρ [] = ρ := (rfl)
@[simp] theorem wipeE_cons {vs : List Nat} : wipeE ρ (i :: vs) = (wipeE ρ vs).set i .no := (rfl)
@[simp] theorem eLc_ap {zs : List Nat} {h : Tg} : eLc zs fl h t f ρ = (fl ρ).bind fun ds => if ds.length ≤ sizeLine then (lcL h t f (wipeE ρ zs) ds).bind fun rs => .ok (.lst rs) else .bad := (rfl)
@[simp] theorem tsY_ap : tsY ρ = .ok true := (rfl)
@[simp] theorem iSq_ap : iSq fa ρ = (fa ρ).bind gIt := (rfl)
@[simp] theorem gIt_lst : gIt (.lst xs) = .ok xs := (rfl)
@[simp] theorem gIt_tup : gIt (.tup xs) = .ok xs := (rfl)
@[simp] theorem gIt_str {z : Str} : gIt (.str z) = .ok (signs z) := (rfl)
@[simp] theorem iR1_ap : iR1 fa ρ = (fa ρ).bind fun d => match d with
  | .int j => if small62 j then .ok (rgD 0 j.toNat) else .bad
  | _ => .bad := (rfl)
@[simp] theorem iR2_ap : iR2 fa fb ρ = (fa ρ).bind fun a => (fb ρ).bind fun b => match a, b with
  | .int i, .int j => if small62 i ∧ small62 j then .ok (rgD i (j - i).toNat) else .bad
  | _, _ => .bad := (rfl)
@[simp] theorem iEn2_ap : iEn2 fa ρ = (fa ρ).bind fun d => (optR (seqD d)).bind fun x => .ok (enumD 0 x.2) := (rfl)
@[simp] theorem iZp2_ap : iZp2 fa fb ρ = (fa ρ).bind fun a => (fb ρ).bind fun b => (optR (seqD a)).bind fun x => (optR (seqD b)).bind fun y => .ok (zipD x.2 y.2) := (rfl)
@[simp] theorem seqD_lst : seqD (.lst xs) = some (false, xs) := (rfl)
@[simp] theorem seqD_tup : seqD (.tup xs) = some (true, xs) := (rfl)
@[simp] theorem oN_ap : oN ρ = .ok none := (rfl)
@[simp] theorem oS_ap : oS f ρ = (f ρ).bind fun d => match d with
  | .int i => .ok (some i)
  | _ => .bad := (rfl)
@[simp] theorem eSl_ap {ga gb : Ev → R (Option Int)} : eSl fa ga gb ρ = (fa ρ).bind fun a => (ga ρ).bind fun l => (gb ρ).bind fun h => gSl a l h := (rfl)
@[simp] theorem eCall_ap {F : List D → R D} : eCall n F fl ρ = (fl ρ).bind fun ds => if ds.length = n then F ds else .bad := (rfl)
@[simp] theorem eCallK_ap {m p : Nat} {F : List D → R D} {gD : List D → List D → List D} {fk : Ev → R (List D)} : eCallK n m p F gD fl fk ρ = (fl ρ).bind fun ds => (fk ρ).bind fun zs => if ds.length = n ∧ zs.length = m ∧ (gD ds zs).length = p then F (gD ds zs) else .bad := (rfl)
@[simp] theorem out_nx : SO.out (.nx ρ) = .ok .non := (rfl)
@[simp] theorem out_rt : SO.out (.rt d) = .ok d := (rfl)
@[simp] theorem out_ro {s : Sl} : SO.out (.ro s) = frzR s := (rfl)
@[simp] theorem out_ex : SO.out (.ex x ρ) = .exc x := (rfl)
@[simp] theorem nL_ap : nL fl ρ = (fl ρ).bind fun ds => .ok (.l ds) := (rfl)
@[simp] theorem own_lT {xs : List D} : Sl.own (.l xs) = true := (rfl)
@[simp] theorem sNew_ap {f : Ev → R Sl} : sNew i f ρ = SO.from ρ (f ρ) fun s => if s.own = true then .nx (ρ.set i s) else .bad := (rfl)
@[simp] theorem sRetV_ap {i : Nat} : sRetV i ρ = (match ρ[i]? with
  | some s => if s.own = true then .ro s else .bad
  | none => .bad) := (rfl)
@[simp] theorem sRetF_ap {f : Ev → R Sl} : sRetF f ρ = SO.from ρ (f ρ) fun s => if s.own = true then .ro s else .bad := (rfl)
@[simp] theorem runO_ap : runO n g ds = (g (startE n ds)).outO := (rfl)
@[simp] theorem outO_ro {s : Sl} : SO.outO (.ro s) = .ok s := (rfl)
@[simp] theorem oCall_ap {F : List D → R Sl} : oCall n F fl ρ = (fl ρ).bind fun ds => if ds.length = n then F ds else .bad := (rfl)
@[simp] theorem lLc_ap {zs : List Nat} {h : Tg} {t : Ev → R Bool} {fe : Ev → R D} : lLc zs fl h t fe ρ = (fl ρ).bind fun ds => if ds.length ≤ sizeLine then (lcL h t fe (wipeE ρ zs) ds).bind fun rs => .ok rs else .bad := (rfl)
@[simp] theorem sPutL_ap {f fi : Ev → R D} : sPutL i f fi ρ = SO.from ρ (f ρ) fun d => SO.from ρ (ownL ρ i) fun xs => SO.from ρ (fi ρ) fun n => match n with
  | .int k => (match ixN xs.length k with
    | some j => .nx (ρ.set i (.l (xs.set j d)))
    | none => .bad)
  | _ => .bad := (rfl)
@[simp] theorem eOwnIx_ap {fi : Ev → R D} : eOwnIx i fi ρ = (ownL ρ i).bind fun xs => (fi ρ).bind fun n => gIx (.lst xs) n := (rfl)
@[simp] theorem frzR_l {xs : List D} : frzR (.l xs) = .ok (.lst xs) := (rfl)
@[simp] theorem runF_ap : runF n g ds = (g (startE n ds)).out := (rfl)
@[simp] theorem start_nil : startE n [] = List.replicate n .no := (rfl)
theorem start_cons : startE (n + 1) (d :: ds) = .v d :: startE n ds := by
  unfold startE
  rw [List.map_cons, List.cons_append, List.length_cons, Nat.add_sub_add_right]
@[simp] theorem start_cons' : startE n (d :: ds) = if n = 0 then .v d :: ds.map .v else .v d :: startE (n - 1) ds := by
  cases n with
  | zero => simp [startE]
  | succ n => rw [start_cons]; simp
/-! operators at data -/
@[simp] theorem gSub_int {i j : Int} : gSub (.int i) (.int j) = .ok (.int (i - j)) := (rfl)
@[simp] theorem gAdd_int {i j : Int} : gAdd (.int i) (.int j) = .ok (.int (i + j)) := (rfl)
@[simp] theorem gNeg_int {i : Int} : gNeg (.int i) = .ok (.int (-i)) := (rfl)
@[simp] theorem gLt_int {i j : Int} : gLt (.int i) (.int j) = .ok (.bl (decide (i < j))) := (rfl)
@[simp] theorem gLe_int {i j : Int} : gLe (.int i) (.int j) = .ok (.bl (decide (i ≤ j))) := (rfl)
@[simp] theorem gGt_int {i j : Int} : gGt (.int i) (.int j) = .ok (.bl (decide (j < i))) := (rfl)
@[simp] theorem gGe_int {i j : Int} : gGe (.int i) (.int j) = .ok (.bl (decide (j ≤ i))) := (rfl)
@[simp] theorem gEq_int {i j : Int} : gEq (.int i) (.int j) = .ok (.bl (decide (i = j))) := (rfl)
@[simp] theorem gEq_str {i j : Str} : gEq (.str i) (.str j) = .ok (.bl (decide (i = j))) := (rfl)
@[simp] theorem gEq_bl {i j : Bool} : gEq (.bl i) (.bl j) = .ok (.bl (decide (i = j))) := (rfl)
@[simp] theorem gNe_def {a b : D} : gNe a b = rNot (gEq a b) := (rfl)
@[simp] theorem rNot_bl {b : Bool} : rNot (.ok (.bl b)) = .ok (.bl (!b)) := (rfl)
@[simp] theorem gMod_int {i j : Int} (h : 0 < j) : gMod (.int i) (.int j) = .ok (.int (i % j)) := if_pos h
theorem log2_small {n : Nat} (h : n < 2 ^ 64) : n.log2 < 9000 := by
  by_cases z : n = 0
  · subst z; decide
  · exact Nat.lt_of_lt_of_le ((Nat.log2_lt z).mpr h) (by decide)
@[simp] theorem gDiv_int {i j : Int} (h : 0 < j) (h2 : j < 18446744073709551616) : gDiv (.int i) (.int j) = .ok (.int (i / j)) := if_pos ⟨h, log2_small (by omega : j.natAbs < 2 ^ 64)⟩
@[simp] theorem gMul_r {i j : Int} (h : -18446744073709551616 < j) (h2 : j < 18446744073709551616) : gMul (.int i) (.int j) = .ok (.int (i * j)) := if_pos (.inl (.inr ⟨by omega, by omega⟩))
theorem gMul_l {i j : Int} (h : -18446744073709551616 < i) (h2 : i < 18446744073709551616) : gMul (.int i) (.int j) = .ok (.int (i * j)) := if_pos (.inl (.inl ⟨by omega, by omega⟩))
@[simp] theorem gPow_int {i j : Int} (h : 0 ≤ j) (h2 : j ≤ 1000000) (h3 : -18446744073709551616 < i) (h4 : i < 18446744073709551616) : gPow (.int i) (.int j) = .ok (.int (i ^ j.toNat)) := if_pos ⟨h, h2, by omega⟩
@[simp] theorem gInt_int {i : Int} : gInt [.int i] = .ok (.int i) := (rfl)
@[simp] theorem gInt_bl {b : Bool} : gInt [.bl b] = .ok (.int (if b then 1 else 0)) := (rfl)
@[simp] theorem gAbs_int {i : Int} : gAbs [.int i] = .ok (.int (if i < 0 then -i else i)) := (rfl)
@[simp] theorem gLen_lst : gLen [.lst xs] = .ok (.int xs.length) := (rfl)
@[simp] theorem gLen_tup : gLen [.tup xs] = .ok (.int xs.length) := (rfl)
@[simp] theorem gLen_scr {ns : List Int} : gLen [.scr ns] = .ok (.int ns.length) := (rfl)
@[simp] theorem gLen_str {z : Str} (h : z.length ≤ sizeLine) : gLen [.str z] = .ok (.int z.length) := if_pos h
@[simp] theorem gMin_int {i j : Int} : gMin [.int i, .int j] = .ok (.int (if j < i then j else i)) := (rfl)
@[simp] theorem gMax_int {i j : Int} : gMax [.int i, .int j] = .ok (.int (if j > i then j else i)) := (rfl)
@[simp] theorem gList_lst : gList [.lst xs] = .ok (.lst xs) := (rfl)
@[simp] theorem gList_tup : gList [.tup xs] = .ok (.lst xs) := (rfl)
@[simp] theorem gTuple_lst : gTuple [.lst xs] = .ok (.tup xs) := (rfl)
@[simp] theorem gTuple_tup : gTuple [.tup xs] = .ok (.tup xs) := (rfl)
@[simp] theorem gIsN_non : gIsN d .non = .ok (.bl (isNon d)) := (rfl)
@[simp] theorem gNotN_non : gNotN d .non = .ok (.bl (!isNon d)) := (rfl)
@[simp] theorem gRev_lst : gRev (.lst xs) = .ok (.lst xs.reverse) := (rfl)
@[simp] theorem gRev_tup : gRev (.tup xs) = .ok (.tup xs.reverse) := (rfl)
theorem atI_nn {α : Type} {l : List α} {j : Int} (h : 0 ≤ j) (h2 : j < l.length) : L2.atI l j = l[j.toNat]? := by
  unfold L2.atI L2.ixN
  rw [if_pos h, if_pos h2]
  rfl
theorem gIx_lst {j : Int} (h : 0 ≤ j) (h2 : j < xs.length) : gIx (.lst xs) (.int j) = optR xs[j.toNat]? := by
  show optR (L2.atI xs j) = _
  rw [atI_nn h h2]
theorem gIx_tup {j : Int} (h : 0 ≤ j) (h2 : j < xs.length) : gIx (.tup xs) (.int j) = optR xs[j.toNat]? := by
  show optR (L2.atI xs j) = _
  rw [atI_nn h h2]
theorem gIx_map {α : Type} {inj : α → D} {l : List α} {j : Int} {a : α} (h : 0 ≤ j) (e : l[j.toNat]? = some a) : gIx (.lst (l.map inj)) (.int j) = .ok (inj a) := by
  have h2 : j.toNat < l.length := (List.getElem?_eq_some_iff.mp e).1
  rw [gIx_lst h (by rw [List.length_map]; omega), List.getElem?_map, e]
  rfl
theorem gIx_mapT {α : Type} {inj : α → D} {l : List α} {j : Int} {a : α} (h : 0 ≤ j) (e : l[j.toNat]? = some a) : gIx (.tup (l.map inj)) (.int j) = .ok (inj a) := by
  have h2 : j.toNat < l.length := (List.getElem?_eq_some_iff.mp e).1
  rw [gIx_tup h (by rw [List.length_map]; omega), List.getElem?_map, e]
  rfl
theorem gIx_getD {l : List Int} {j : Int} (h : 0 ≤ j) (h2 : j < l.length) : gIx (.lst (l.map .int)) (.int j) = .ok (.int (l.getD j.toNat 0)) := by
  refine gIx_map h ?_
  rw [List.getD_eq_getElem?_getD]
  have : j.toNat < l.length := by omega
  rw [List.getElem?_eq_getElem this]
  rfl
theorem gIx_scr {l : List Int} {j : Int} (h : 0 ≤ j) (h2 : j < l.length) : gIx (.scr l) (.int j) = .ok (.int (l.getD j.toNat 0)) := by
  show (optR (L2.atI l j)).bind _ = _
  rw [atI_nn h h2, List.getD_eq_getElem?_getD, List.getElem?_eq_getElem (by omega : j.toNat < l.length)]
  rfl
end
/-! ### loops, comprehensions -/
/-- the statement goes on, P of the slots -/
def SO.goes (s : SO) (P : Ev → Prop) : Prop := match s with
  | .nx ρ => P ρ
  | .ct ρ => P ρ
  | _ => False
@[simp] theorem goes_nx {ρ : Ev} {P : Ev → Prop} : SO.goes (.nx ρ) P = P ρ := (rfl)
@[simp] theorem goes_ct {ρ : Ev} {P : Ev → Prop} : SO.goes (.ct ρ) P = P ρ := (rfl)
theorem loop_inv {h : Tg} {body : Ev → SO} (I : Nat → Ev → Prop) : ∀ {ds : List D} {ρ : Ev} (m : Nat), I m ρ → (∀ i d ρ, ds[i]? = some d → I (m + i) ρ → ∃ ρ1, h d ρ = some ρ1 ∧ SO.goes (body ρ1) (I (m + i + 1))) → ∃ ρ', loop h body ds ρ = .nx ρ' ∧ I (m + ds.length) ρ'
  | [], ρ, m, h0, _ => ⟨ρ, rfl, h0⟩
  | d :: ds, ρ, m, h0, hs => by
    obtain ⟨ρ1, e1, e2⟩ := hs 0 d ρ rfl h0
    rw [loop_cons, e1, ofO_some]
    have go : ∀ ρ2, I (m + 1) ρ2 → ∃ ρ', loop h body ds ρ2 = .nx ρ' ∧ I (m + (d :: ds).length) ρ' := fun ρ2 h2 => by
      obtain ⟨ρ', e3, e4⟩ := loop_inv I (ds := ds) (ρ := ρ2) (m + 1) h2 fun i d' ρ q hI => by
        have := hs (i + 1) d' ρ (by simpa using q) (by rw [show m + (i + 1) = m + 1 + i by omega]; exact hI)
        rw [show m + (i + 1) + 1 = m + 1 + i + 1 by omega] at this
        exact this
      exact ⟨ρ', e3, by rw [List.length_cons, show m + (ds.length + 1) = m + 1 + ds.length by omega]; exact e4⟩
    cases z : body ρ1 with
    | nx ρ2 => rw [z] at e2; exact go ρ2 e2
    | ct ρ2 => rw [z] at e2; exact go ρ2 e2
    | rt d => rw [z] at e2; exact e2.elim
    | bk d => rw [z] at e2; exact e2.elim
    | ro d => rw [z] at e2; exact e2.elim
    | ex x d => rw [z] at e2; exact e2.elim
    | bad => rw [z] at e2; exact e2.elim
theorem rgD_get {lo : Int} {n i : Nat} {d : D} (h : (rgD lo n)[i]? = some d) : i < n ∧ d = .int (lo + i) := by
  unfold rgD at h
  rw [List.getElem?_map] at h
  obtain ⟨k, h1, rfl⟩ := Option.map_eq_some_iff.mp h
  obtain ⟨h2, h3⟩ := List.getElem?_eq_some_iff.mp h1
  rw [List.length_range] at h2
  rw [List.getElem_range] at h3
  subst h3
  exact ⟨h2, rfl⟩
@[simp] theorem rgD_len {lo : Int} {n : Nat} : (rgD lo n).length = n := by unfold rgD; simp
/-- for k in range(n) -/
theorem loop_rg {h : Tg} {body : Ev → SO} (I : Nat → Ev → Prop) {lo : Int} {n : Nat} {ρ : Ev} (h0 : I 0 ρ) (hs : ∀ i ρ, i < n → I i ρ → ∃ ρ1, h (.int (lo + i)) ρ = some ρ1 ∧ SO.goes (body ρ1) (I (i + 1))) : ∃ ρ', loop h body (rgD lo n) ρ = .nx ρ' ∧ I n ρ' := by
  obtain ⟨ρ', e1, e2⟩ := loop_inv I (ds := rgD lo n) (ρ := ρ) 0 h0 fun i d ρ q hI => by
    obtain ⟨q1, rfl⟩ := rgD_get q
    rw [Nat.zero_add] at hI ⊢
    exact hs i ρ q1 hI
  rw [rgD_len, Nat.zero_add] at e2
  exact ⟨ρ', e1, e2⟩
/-- for x in xs -/
theorem loop_map {α : Type} {inj : α → D} {h : Tg} {body : Ev → SO} (I : Nat → Ev → Prop) {l : List α} {ρ : Ev} (h0 : I 0 ρ) (hs : ∀ i a ρ, l[i]? = some a → I i ρ → ∃ ρ1, h (inj a) ρ = some ρ1 ∧ SO.goes (body ρ1) (I (i + 1))) : ∃ ρ', loop h body (l.map inj) ρ = .nx ρ' ∧ I l.length ρ' := by
  obtain ⟨ρ', e1, e2⟩ := loop_inv I (ds := l.map inj) (ρ := ρ) 0 h0 fun i d ρ q hI => by
    rw [List.getElem?_map] at q
    obtain ⟨a, q1, rfl⟩ := Option.map_eq_some_iff.mp q
    rw [Nat.zero_add] at hI ⊢
    exact hs i a ρ q1 hI
  rw [List.length_map, Nat.zero_add] at e2
  exact ⟨ρ', e1, e2⟩
theorem lc_map {α : Type} {inj : α → D} {h : Tg} {t : Ev → R Bool} {fe : Ev → R D} {ρ : Ev} (p : α → Bool) (f : α → D) : ∀ {l : List α}, (∀ a ∈ l, ∃ ρ1, h (inj a) ρ = some ρ1 ∧ t ρ1 = .ok (p a) ∧ (p a = true → fe ρ1 = .ok (f a))) → lcL h t fe ρ (l.map inj) = .ok ((l.filter p).map f)
  | [], _ => rfl
  | a :: l, H => by
    obtain ⟨ρ1, e1, e2, e3⟩ := H a List.mem_cons_self
    have ih := lc_map p f (l := l) fun b m => H b (List.mem_cons_of_mem _ m)
    show (optR (h (inj a) ρ)).bind _ = _
    rw [e1]
    simp only [optR_some, bind_ok, e2, quiet_ok]
    cases z : p a with
    | true => rw [if_pos rfl, e3 z, quiet_ok, bind_ok, ih, bind_ok, List.filter_cons_of_pos z, List.map_cons]
    | false => rw [if_neg Bool.false_ne_true, ih, List.filter_cons_of_neg (by rw [z]; decide)]
theorem lc_rg {h : Tg} {t : Ev → R Bool} {fe : Ev → R D} {ρ : Ev} {n : Nat} (p : Nat → Bool) (f : Nat → D) (H : ∀ a, a < n → ∃ ρ1, h (.int (a : Int)) ρ = some ρ1 ∧ t ρ1 = .ok (p a) ∧ (p a = true → fe ρ1 = .ok (f a))) : lcL h t fe ρ (rgD 0 n) = .ok (((List.range n).filter p).map f) := by
  unfold rgD
  refine lc_map p f fun a m => ?_
  rw [Int.zero_add]
  exact H a (List.mem_range.mp m)
end Tk

namespace Tk
open PySem PySem.Spec L2 PyProof.Rows
/-! ### the laws' own helpers, in plain words -/
def part (ps : List Int) (spot under size : Int) : Int := ps.getD spot.toNat 0 / under % size
theorem part_ok {ps : List Int} {spot under size : Int} (h0 : 0 ≤ spot) (h1 : spot < ps.length) (hu : 0 < under) (hu2 : under < 18446744073709551616) (hs : 0 < size) : F__law_part [.lst (ps.map .int), .int spot, .int under, .int size] = .ok (.int (part ps spot under size)) := by
  unfold F__law_part G__law_part
  simp [gIx_getD h0 h1, hu, hu2, hs]
  rfl
theorem part_lo {ps : List Int} {spot under size : Int} (hs : 0 < size) : 0 ≤ part ps spot under size := Int.emod_nonneg _ (by omega)
theorem part_hi {ps : List Int} {spot under size : Int} (hs : 0 < size) : part ps spot under size < size := Int.emod_lt_of_pos _ hs
theorem small_rg {j : Int} (h : 0 ≤ j) (h2 : j < 4611686018427387904) : small62 j := by unfold small62; omega
theorem far_ok {ps : List Int} {spot : Int} {number : Int} (h0 : 0 ≤ spot) (hn : 0 ≤ number) (hn2 : number < 4611686018427387904) (h1 : spot + number ≤ ps.length) : ∃ v : Int, 0 ≤ v ∧ F__law_far [.lst (ps.map .int), .int spot, .int number] = .ok (.int v) := by
  unfold F__law_far G__law_far
  obtain ⟨ρ', e, s, v, hv, rfl⟩ := loop_rg (h := gN 4) (body := B__law_far_1) (lo := 0) (n := number.toNat) (ρ := [.v (.lst (ps.map .int)), .v (.int spot), .v (.int number), .v (.int 0), .no])
    (fun _ ρ => ∃ (s : Sl) (v : Int), 0 ≤ v ∧ ρ = [.v (.lst (ps.map .int)), .v (.int spot), .v (.int number), .v (.int v), s]) ⟨_, 0, by omega, rfl⟩ (by
      rintro i ρ hi ⟨s, v, hv, rfl⟩
      refine ⟨_, rfl, ?_⟩
      unfold B__law_far_1
      simp [gIx_getD (l := ps) (j := spot + (i : Int)) (by omega) (by omega)]
      exact ⟨_, _, by omega, rfl, rfl⟩)
  simp [small_rg hn hn2, e, hv]
theorem chosen_ok {ps : List Int} {spot under small crest whole : Int} (h0 : 0 ≤ spot) (h1 : spot < ps.length) (hu : 0 < under) (hu2 : under < 1000000000000000000) (hs : 0 < small) (hc : small ≤ crest + 1) :
    ∃ v : Int, 0 ≤ v ∧ v ≤ crest ∧ F__law_chosen [.lst (ps.map .int), .int spot, .int under, .int small, .int crest, .int whole] = .ok (.int v) := by
  unfold F__law_chosen G__law_chosen
  have a1 := part_lo (ps := ps) (spot := spot) (under := 10 * under) hs
  have a2 := part_hi (ps := ps) (spot := spot) (under := 10 * under) hs
  have b1 := Int.emod_nonneg whole (by omega : crest + 1 ≠ 0)
  have b2 := Int.emod_lt_of_pos whole (by omega : 0 < crest + 1)
  by_cases c1 : part ps spot under 10 = 8
  · refine ⟨crest - part ps spot (10 * under) small, by omega, by omega, ?_⟩
    simp (disch := omega) [part_ok h0 h1, c1, gMul_r]
  · by_cases c2 : part ps spot under 10 = 9
    · refine ⟨whole % (crest + 1), by omega, by omega, ?_⟩
      simp (disch := omega) [part_ok h0 h1, c1, c2, gMul_r]
    · refine ⟨part ps spot (10 * under) small, by omega, by omega, ?_⟩
      simp (disch := omega) [part_ok h0 h1, c1, c2, gMul_r]
theorem cell_step {ns : List Int} {k : Int} (s : Sl) (v : Int) {i : Nat} (hi : i < ns.length) : B__law_cell_1 [.v (.scr ns), .v (.int k), .v (.int v), .v (.int (0 + (i : Int)))] = .nx [.v (.scr ns), .v (.int k), .v (.int ((v + ((i : Int) + 3) * ((if ns.getD i 0 < 0 then -ns.getD i 0 else ns.getD i 0) % 1000003) * 31) % 1000003)), .v (.int (i : Int))] := by
  unfold B__law_cell_1
  have q : ∀ z : Int, gMul (.int ((i : Int) + 3)) (.int (z % 1000003)) = .ok (.int (((i : Int) + 3) * (z % 1000003))) := fun z => gMul_r (by omega) (by omega)
  simp [gIx_scr (l := ns) (j := (i : Int)) (by omega) (by omega), q]
theorem cell_loop {ns : List Int} {k v0 : Int} : ∃ v s, loop (gN 3) B__law_cell_1 (rgD 0 ns.length) [.v (.scr ns), .v (.int k), .v (.int v0), .no] = .nx [.v (.scr ns), .v (.int k), .v (.int v), s] := by
  obtain ⟨ρ', e, s, v, rfl⟩ := loop_rg (h := gN 3) (body := B__law_cell_1) (lo := 0) (n := ns.length) (ρ := [.v (.scr ns), .v (.int k), .v (.int v0), .no])
      (fun _ ρ => ∃ (s : Sl) (v : Int), ρ = [.v (.scr ns), .v (.int k), .v (.int v), s]) ⟨_, _, rfl⟩ (by
        rintro i ρ hi ⟨s, v, rfl⟩
        refine ⟨_, rfl, ?_⟩
        show SO.goes (B__law_cell_1 [.v (.scr ns), .v (.int k), .v (.int v), .v (.int (0 + (i : Int)))]) _
        rw [cell_step s v hi]
        exact ⟨_, _, rfl⟩)
  exact ⟨v, s, e⟩
theorem cell_ok {ns : List Int} {k : Int} (h0 : 0 ≤ k) (hl : ns.length < 4611686018427387904) : ∃ v : Int, F__law_cell [.scr ns, .int k] = .ok (.int v) := by
  unfold F__law_cell G__law_cell
  by_cases c : k < (ns.length : Int)
  · refine ⟨ns.getD k.toNat 0, ?_⟩
    simp [c, gIx_scr h0 c]
  · obtain ⟨v, s, e⟩ := cell_loop (ns := ns) (k := k) (v0 := 7919 * (k + 1))
    refine ⟨v, ?_⟩
    have c2 : small62 (ns.length : Int) := small_rg (by omega) (by omega)
    have c3 : gMul (.int 7919) (.int (k + 1)) = .ok (.int (7919 * (k + 1))) := gMul_l (by decide) (by decide)
    simp [c, c3, c2, e]
def mixA (c k : Int) : Int := ((if c < 0 then -c else c) % 2147483647 * 48271 + (k + 1) * 69621) % 2147483647
def mixB (x k : Int) : Int := (x * (x % 46337 + 16807) + (k + 7) * 7919) % 2147483629
def mixC (x : Int) : Int := x * (x % 32749 + 48271) % 2147483647
theorem mixed_eq {c k : Int} (h0 : 0 ≤ k) (hk : k < 1000000) : F__law_mixed [.int c, .int k] = .ok (.int (mixC (mixB (mixA c k) k) / 11)) := by
  unfold F__law_mixed G__law_mixed
  have q1 : ∀ x : Int, -18446744073709551616 < x % 46337 + 16807 ∧ x % 46337 + 16807 < 18446744073709551616 := fun x => ⟨by omega, by omega⟩
  have q2 : ∀ x : Int, -18446744073709551616 < x % 32749 + 48271 ∧ x % 32749 + 48271 < 18446744073709551616 := fun x => ⟨by omega, by omega⟩
  simp [gMul_r, q1, q2, mixA, mixB, mixC]
theorem mixed_ok {c k : Int} (h0 : 0 ≤ k) (hk : k < 1000000) : ∃ v : Int, 0 ≤ v ∧ v < 2147483648 ∧ F__law_mixed [.int c, .int k] = .ok (.int v) := by
  refine ⟨_, ?_, ?_, mixed_eq h0 hk⟩
  · unfold mixC; omega
  · unfold mixC; omega
theorem pool_ok {c n : Int} (hn : 0 ≤ n) (hn2 : n < 1000000) : ∃ ps : List Int, ps.length = n.toNat ∧ (∀ p ∈ ps, 0 ≤ p ∧ p < 2147483648) ∧ F__law_pool [.int c, .int n] = .ok (.lst (ps.map .int)) := by
  unfold F__law_pool G__law_pool
  generalize hr : (if c < 0 then -c else c) = rest
  have hr0 : 0 ≤ rest := by subst hr; split <;> omega
  obtain ⟨ρ', e, s, r2, ps, _, hl, hp, rfl⟩ := loop_rg (h := gN 5) (body := B__law_pool_1) (lo := 0) (n := n.toNat) (ρ := [.v (.int c), .v (.int n), .v (.int rest), .v (.bl (decide (1000000000000000000 ≤ rest))), .l [], .no])
    (fun i ρ => ∃ (s : Sl) (r : Int) (ps : List Int), 0 ≤ r ∧ ps.length = i ∧ (∀ p ∈ ps, 0 ≤ p ∧ p < 2147483648) ∧ ρ = [.v (.int c), .v (.int n), .v (.int r), .v (.bl (decide (1000000000000000000 ≤ rest))), .l (ps.map .int), s])
    ⟨.no, rest, [], hr0, rfl, (fun p m => nomatch m), rfl⟩ (by
      rintro i ρ hi ⟨s, r, ps, hr1, hl, hp, rfl⟩
      refine ⟨_, rfl, ?_⟩
      have si : i < sizeLine := by unfold sizeLine; omega
      unfold B__law_pool_1
      by_cases q : 1000000000000000000 ≤ rest ∧ 0 < r
      · have st : sIf (tAnd (tV (eV 3)) (tV (e2 gGt (eV 2) (eC (.int 0))))) (sSq (sApp 4 (e2 gMod (eV 2) (eC (.int 5040)))) (sSet 2 (e2 gDiv (eV 2) (eC (.int 5040))))) (sApp 4 (eCall 2 F__law_mixed (aC (eV 0) (aC (eV 5) (aN))))) [.v (.int c), .v (.int n), .v (.int r), .v (.bl (decide (1000000000000000000 ≤ rest))), .l (ps.map .int), .v (.int (0 + (i : Int)))] =
            .nx [.v (.int c), .v (.int n), .v (.int (r / 5040)), .v (.bl (decide (1000000000000000000 ≤ rest))), .l ((ps ++ [r % 5040]).map .int), .v (.int (i : Int))] := by
          simp [q.1, q.2, hl, si]
        show SO.goes (sIf _ _ _ [.v (.int c), .v (.int n), .v (.int r), .v (.bl (decide (1000000000000000000 ≤ rest))), .l (ps.map .int), .v (.int (0 + (i : Int)))]) _
        rw [st]
        refine ⟨_, _, _, by omega, ?_, ?_, rfl⟩
        · rw [List.length_append, hl]; rfl
        · intro p m
          rcases List.mem_append.mp m with m | m
          · exact hp p m
          · rw [List.mem_singleton.mp m]; omega
      · obtain ⟨v, v1, v2, ve⟩ := mixed_ok (c := c) (k := (i : Int)) (by omega) (by omega)
        have st : sIf (tAnd (tV (eV 3)) (tV (e2 gGt (eV 2) (eC (.int 0))))) (sSq (sApp 4 (e2 gMod (eV 2) (eC (.int 5040)))) (sSet 2 (e2 gDiv (eV 2) (eC (.int 5040))))) (sApp 4 (eCall 2 F__law_mixed (aC (eV 0) (aC (eV 5) (aN))))) [.v (.int c), .v (.int n), .v (.int r), .v (.bl (decide (1000000000000000000 ≤ rest))), .l (ps.map .int), .v (.int (0 + (i : Int)))] =
            .nx [.v (.int c), .v (.int n), .v (.int r), .v (.bl (decide (1000000000000000000 ≤ rest))), .l ((ps ++ [v]).map .int), .v (.int (i : Int))] := by
          by_cases q1 : 1000000000000000000 ≤ rest
          · have q2 : ¬ 0 < r := fun z => q ⟨q1, z⟩
            simp [q1, q2, hl, ve, si]
          · simp [q1, hl, ve]
            unfold sizeLine
            omega
        show SO.goes (sIf _ _ _ [.v (.int c), .v (.int n), .v (.int r), .v (.bl (decide (1000000000000000000 ≤ rest))), .l (ps.map .int), .v (.int (0 + (i : Int)))]) _
        rw [st]
        refine ⟨_, _, _, hr1, ?_, ?_, rfl⟩
        · rw [List.length_append, hl]; rfl
        · intro p m
          rcases List.mem_append.mp m with m | m
          · exact hp p m
          · rw [List.mem_singleton.mp m]; omega)
  refine ⟨ps, hl, hp, ?_⟩
  have sm : small62 n := small_rg hn (by omega)
  simp [hr, sm, e]
/-! ### the laws' sameness -/
theorem gIsi_of {d : D} {t n : String} {b : Bool} (h1 : tyD d = some t) (h2 : kitB t n = some b) : gIsi [d, .ty n] = .ok (.bl b) := by
  show (optR ((tyD d).bind fun t => kitB t n)).bind _ = _
  rw [h1, Option.bind_some, h2]
  rfl
theorem kb1 : kitB "int" "int" = some true := by decide +kernel
theorem kb2 : kitB "int" "bool" = some false := by decide +kernel
theorem kb3 : kitB "str" "int" = some false := by decide +kernel
theorem kb4 : kitB "str" "str" = some true := by decide +kernel
theorem kb5 : kitB "list" "int" = some false := by decide +kernel
theorem kb6 : kitB "list" "str" = some false := by decide +kernel
theorem kb7 : kitB "list" "tuple" = some false := by decide +kernel
theorem kb8 : kitB "list" "list" = some true := by decide +kernel
theorem kb9 : kitB "tuple" "int" = some false := by decide +kernel
theorem kb10 : kitB "tuple" "str" = some false := by decide +kernel
theorem kb11 : kitB "tuple" "tuple" = some true := by decide +kernel
theorem kb12 : kitB "tuple" "list" = some false := by decide +kernel
section
variable {i : Int} {z : Str} {xs : List D}
@[simp] theorem is1 : gIsi [.int i, .ty "int"] = .ok (.bl true) := gIsi_of rfl kb1
@[simp] theorem is2 : gIsi [.int i, .ty "bool"] = .ok (.bl false) := gIsi_of rfl kb2
@[simp] theorem is3 : gIsi [.str z, .ty "int"] = .ok (.bl false) := gIsi_of rfl kb3
@[simp] theorem is4 : gIsi [.str z, .ty "str"] = .ok (.bl true) := gIsi_of rfl kb4
@[simp] theorem is5 : gIsi [.lst xs, .ty "int"] = .ok (.bl false) := gIsi_of rfl kb5
@[simp] theorem is6 : gIsi [.lst xs, .ty "str"] = .ok (.bl false) := gIsi_of rfl kb6
@[simp] theorem is7 : gIsi [.lst xs, .ty "tuple"] = .ok (.bl false) := gIsi_of rfl kb7
@[simp] theorem is8 : gIsi [.lst xs, .ty "list"] = .ok (.bl true) := gIsi_of rfl kb8
@[simp] theorem is9 : gIsi [.tup xs, .ty "int"] = .ok (.bl false) := gIsi_of rfl kb9
@[simp] theorem is10 : gIsi [.tup xs, .ty "str"] = .ok (.bl false) := gIsi_of rfl kb10
@[simp] theorem is11 : gIsi [.tup xs, .ty "tuple"] = .ok (.bl true) := gIsi_of rfl kb11
@[simp] theorem is12 : gIsi [.tup xs, .ty "list"] = .ok (.bl false) := gIsi_of rfl kb12
@[simp] theorem ib1 {b : Bool} : gIsB false .non (.bl b) = .ok (.bl false) := (rfl)
@[simp] theorem ib2 {a b : Bool} : gIsB false (.bl a) (.bl b) = .ok (.bl (decide (a = b))) := (rfl)
@[simp] theorem ib3 {b : Bool} : gIsB false (.int i) (.bl b) = .ok (.bl false) := (rfl)
@[simp] theorem ib4 {b : Bool} : gIsB false (.str z) (.bl b) = .ok (.bl false) := (rfl)
@[simp] theorem ib5 {b : Bool} : gIsB false (.lst xs) (.bl b) = .ok (.bl false) := (rfl)
@[simp] theorem ib6 {b : Bool} : gIsB false (.tup xs) (.bl b) = .ok (.bl false) := (rfl)
end
@[simp] theorem isNon_bl {b : Bool} : isNon (.bl b) = false := rfl
@[simp] theorem isNon_int {b : Int} : isNon (.int b) = false := rfl
@[simp] theorem isNon_str {b : Str} : isNon (.str b) = false := rfl
@[simp] theorem isNon_lst {b : List D} : isNon (.lst b) = false := rfl
@[simp] theorem isNon_tup {b : List D} : isNon (.tup b) = false := rfl
@[simp] theorem isNon_non : isNon .non = true := rfl
mutual
/-- plain data, n deep at most, no list too long -/
def plainD : Nat → D → Bool
  | _, .non => true
  | _, .bl _ => true
  | _, .int _ => true
  | _, .str _ => true
  | n + 1, .lst xs => decide (xs.length ≤ 1000000) && plainL n xs
  | n + 1, .tup xs => decide (xs.length ≤ 1000000) && plainL n xs
  | _, _ => false
def plainL : Nat → List D → Bool
  | _, [] => true
  | n, d :: ds => plainD n d && plainL n ds
end
theorem plainL_all {n : Nat} : ∀ {ds : List D}, plainL n ds = true ↔ ∀ d ∈ ds, plainD n d = true
  | [] => by simp [plainL]
  | d :: ds => by simp [plainL, plainL_all (ds := ds)]
theorem integer_ok {i : Int} : F__law_integer [.int i] = .ok (.bl true) := by
  unfold F__law_integer G__law_integer
  simp
theorem same_loop {n : Nat} {xs : List D} {f : List D → D} (hf : f = .lst ∨ f = .tup) (ih : ∀ d ∈ xs, Fr__law_same n [d, d] = .ok (.bl true)) : ∃ s, loop (gN 2) (B__law_same_1 (Fr__law_same n)) (rgD 0 xs.length) [.v (f xs), .v (f xs), .no] = .nx [.v (f xs), .v (f xs), s] := by
  obtain ⟨ρ', e, s, rfl⟩ := loop_rg (h := gN 2) (body := B__law_same_1 (Fr__law_same n)) (lo := 0) (n := xs.length) (ρ := [.v (f xs), .v (f xs), .no]) (fun _ ρ => ∃ s : Sl, ρ = [.v (f xs), .v (f xs), s]) ⟨_, rfl⟩ (by
    rintro i ρ hi ⟨s, rfl⟩
    refine ⟨_, rfl, ?_⟩
    have g : gIx (f xs) (.int (i : Int)) = .ok xs[i] := by
      rcases hf with rfl | rfl
      · rw [gIx_lst (by omega) (by omega), Int.toNat_natCast, List.getElem?_eq_getElem hi]; rfl
      · rw [gIx_tup (by omega) (by omega), Int.toNat_natCast, List.getElem?_eq_getElem hi]; rfl
    have h := ih xs[i] (List.getElem_mem hi)
    unfold B__law_same_1
    simp [g, h])
  exact ⟨s, e⟩
theorem same_n : ∀ (n : Nat) {d : D}, plainD n d = true → Fr__law_same (n + 1) [d, d] = .ok (.bl true)
  | n, .non, _ => by
    show runF 3 (G__law_same (Fr__law_same n)) [.non, .non] = _
    unfold G__law_same
    simp
  | n, .bl b, _ => by
    show runF 3 (G__law_same (Fr__law_same n)) [.bl b, .bl b] = _
    unfold G__law_same
    cases b <;> simp
  | n, .int i, _ => by
    show runF 3 (G__law_same (Fr__law_same n)) [.int i, .int i] = _
    unfold G__law_same
    simp [integer_ok]
  | n, .str i, _ => by
    show runF 3 (G__law_same (Fr__law_same n)) [.str i, .str i] = _
    unfold G__law_same
    simp
  | n + 1, .lst xs, h => by
    have h2 : (decide (xs.length ≤ 1000000) && plainL n xs) = true := h
    rw [Bool.and_eq_true, decide_eq_true_eq, plainL_all] at h2
    obtain ⟨s, e⟩ := same_loop (n := n + 1) (xs := xs) (f := .lst) (.inl rfl) fun d m => same_n n (h2.2 d m)
    have sm : small62 (xs.length : Int) := small_rg (by omega) (by omega)
    show runF 3 (G__law_same (Fr__law_same (n + 1))) [.lst xs, .lst xs] = _
    unfold G__law_same
    simp [sm, e]
  | n + 1, .tup xs, h => by
    have h2 : (decide (xs.length ≤ 1000000) && plainL n xs) = true := h
    rw [Bool.and_eq_true, decide_eq_true_eq, plainL_all] at h2
    obtain ⟨s, e⟩ := same_loop (n := n + 1) (xs := xs) (f := .tup) (.inr rfl) fun d m => same_n n (h2.2 d m)
    have sm : small62 (xs.length : Int) := small_rg (by omega) (by omega)
    show runF 3 (G__law_same (Fr__law_same (n + 1))) [.tup xs, .tup xs] = _
    unfold G__law_same
    simp [sm, e]
theorem same_ok {d : D} (h : plainD 5 d = true) : F__law_same [d, d] = .ok (.bl true) := same_n 5 h
end Tk

namespace Tk
open PySem PySem.Spec L2 PyProof.Rows
/-! ### texts as lists -/
abbrev S (l : List Nat) : Str := ⟨l.toArray⟩
theorem S_add (a b : List Nat) : S a ++ S b = S (a ++ b) := by
  show (⟨a.toArray ++ b.toArray⟩ : Str) = _
  simp
theorem S_len (a : List Nat) : (S a).length = a.length := by
  show (Array.size a.toArray) = _
  simp
theorem S_inj {a b : List Nat} (h : S a = S b) : a = b := by
  have := congrArg (fun z : Str => z.cps.toList) h
  simpa using this
theorem S_eta (z : Str) : S z.cps.toList = z := rfl
theorem S_cut_hi {l : List Nat} {v : Int} (h : 0 ≤ v) : cutS (S l) none (some v) = S (l.take v.toNat) := by
  have e : HT.sIx (S l).length (S l).length (some v) = min v.toNat l.length := by
    show (if v < 0 then (v + ((S l).length : Int)).toNat else min v.toNat (S l).length) = _
    rw [if_neg (by omega), S_len]
  unfold cutS
  rw [e, HT.sIx_none, List.drop_zero, Nat.sub_zero]
  show S (l.take (min v.toNat l.length)) = _
  rw [← List.take_eq_take_min]
theorem S_cut_lo {l : List Nat} {v : Int} (h : 0 ≤ v) : cutS (S l) (some v) none = S (l.drop v.toNat) := by
  have e : HT.sIx (S l).length 0 (some v) = min v.toNat l.length := by
    show (if v < 0 then (v + ((S l).length : Int)).toNat else min v.toNat (S l).length) = _
    rw [if_neg (by omega), S_len]
  unfold cutS
  rw [e, HT.sIx_none, S_len]
  show S ((l.drop (min v.toNat l.length)).take (l.length - min v.toNat l.length)) = _
  by_cases c : v.toNat ≤ l.length
  · rw [Nat.min_eq_left c, List.take_of_length_le (by rw [List.length_drop]; omega)]
  · rw [Nat.min_eq_right (by omega), List.drop_eq_nil_of_le (by omega : l.length ≤ v.toNat), List.drop_length]
    rw [Nat.sub_self]
    rfl
theorem sz24 : sizeLine = 16777216 := rfl
theorem gAdd_S {a b : List Nat} (h : a.length + b.length ≤ 1000000) : gAdd (.str (S a)) (.str (S b)) = .ok (.str (S (a ++ b))) := by
  show (if (S a).length + (S b).length ≤ sizeLine then R.ok (D.str (S a ++ S b)) else .bad) = _
  rw [if_pos (by rw [S_len, S_len, sz24]; omega), S_add]
theorem gSl_hi {l : List Nat} {v : Int} (h : 0 ≤ v) (hl : l.length ≤ 1000000) : gSl (.str (S l)) none (some v) = .ok (.str (S (l.take v.toNat))) := by
  show (if (S l).length ≤ sizeLine then R.ok (D.str (cutS (S l) none (some v))) else .bad) = _
  rw [if_pos (by rw [S_len, sz24]; omega), S_cut_hi h]
theorem gSl_lo {l : List Nat} {v : Int} (h : 0 ≤ v) (hl : l.length ≤ 1000000) : gSl (.str (S l)) (some v) none = .ok (.str (S (l.drop v.toNat))) := by
  show (if (S l).length ≤ sizeLine then R.ok (D.str (cutS (S l) (some v) none)) else .bad) = _
  rw [if_pos (by rw [S_len, sz24]; omega), S_cut_lo h]
theorem gIx_S {l : List Nat} {v : Int} (h : 0 ≤ v) (h2 : v < l.length) (hl : l.length ≤ 1000000) : gIx (.str (S l)) (.int v) = .ok (.str (S [l.getD v.toNat 0])) := by
  show (if (S l).length ≤ sizeLine then (optR (L2.atI l v)).bind fun c => R.ok (D.str ⟨#[c]⟩) else .bad) = _
  rw [if_pos (by rw [S_len, sz24]; omega), atI_nn h h2, List.getD_eq_getElem?_getD, List.getElem?_eq_getElem (by omega : v.toNat < l.length)]
  rfl
/-! ### the alphabet, names -/
def abc : List Nat := (List.range 26).map (· + 97)
theorem abc_eq : (Str.ofString "abcdefghijklmnopqrstuvwxyz") = S abc := by decide +kernel
theorem none_eq : (Str.ofString "") = S [] := by decide +kernel
theorem abc_len : abc.length = 26 := rfl
theorem abc_get {v : Nat} (h : v < 26) : abc.getD v 0 = v + 97 := by
  unfold abc
  rw [List.getD_eq_getElem?_getD, List.getElem?_map, List.getElem?_range h]
  rfl
theorem gIx_abc {v : Int} (h : 0 ≤ v) (h2 : v < 26) : gIx (.str (S abc)) (.int v) = .ok (.str (S [v.toNat + 97])) := by
  rw [gIx_S h (by rw [abc_len]; omega) (by rw [abc_len]; omega), abc_get (by omega)]
/-- small letters -/
def low (l : List Nat) : Prop := ∀ c ∈ l, 97 ≤ c ∧ c ≤ 122
/-- a name: 1 to 8 small letters -/
def okName (w : List Nat) : Prop := 1 ≤ w.length ∧ w.length ≤ 8 ∧ low w
theorem low_app {a b : List Nat} (h : low a) (h' : low b) : low (a ++ b) := fun c m => (List.mem_append.mp m).elim (h c) (h' c)
theorem low_one {c : Nat} (h : 97 ≤ c) (h' : c ≤ 122) : low [c] := fun d m => by rw [List.mem_singleton.mp m]; exact ⟨h, h'⟩
theorem low_take {a : List Nat} (h : low a) (n : Nat) : low (a.take n) := fun c m => h c (List.mem_of_mem_take m)
theorem low_drop {a : List Nat} (h : low a) (n : Nat) : low (a.drop n) := fun c m => h c (List.mem_of_mem_drop m)
/-! names that are drawn -/
theorem names_loop1 {ps : List Int} {spot number : Int} (h0 : 0 ≤ spot) (h1 : spot + 5 ≤ ps.length) : ∃ (l : List Nat) (s : Sl), l.length = 6 ∧ low l ∧ loop (gN 5) B__law_names_1 (rgD 0 3) [.v (.lst (ps.map .int)), .v (.int spot), .v (.int number), .v (.str (S abc)), .v (.str (S [])), .no, .no, .no, .no, .no, .no, .no, .no] =
    .nx [.v (.lst (ps.map .int)), .v (.int spot), .v (.int number), .v (.str (S abc)), .v (.str (S l)), s, .no, .no, .no, .no, .no, .no, .no] := by
  obtain ⟨ρ', e, s, l, hl, lw, rfl⟩ := loop_rg (h := gN 5) (body := B__law_names_1) (lo := 0) (n := 3) (ρ := [.v (.lst (ps.map .int)), .v (.int spot), .v (.int number), .v (.str (S abc)), .v (.str (S [])), .no, .no, .no, .no, .no, .no, .no, .no])
    (fun i ρ => ∃ (s : Sl) (l : List Nat), l.length = 2 * i ∧ low l ∧ ρ = [.v (.lst (ps.map .int)), .v (.int spot), .v (.int number), .v (.str (S abc)), .v (.str (S l)), s, .no, .no, .no, .no, .no, .no, .no])
    ⟨_, [], rfl, (fun _ m => nomatch m), rfl⟩ (by
      rintro i ρ hi ⟨s, l, hl, lw, rfl⟩
      refine ⟨_, rfl, ?_⟩
      have p1 := part_ok (ps := ps) (spot := spot + (i : Int)) (under := 1) (size := 26) (by omega) (by omega) (by decide) (by decide) (by decide)
      have p2 := part_ok (ps := ps) (spot := spot + (i : Int)) (under := 26) (size := 26) (by omega) (by omega) (by decide) (by decide) (by decide)
      have a1 := part_lo (ps := ps) (spot := spot + (i : Int)) (under := 1) (size := 26) (by decide)
      have a2 := part_hi (ps := ps) (spot := spot + (i : Int)) (under := 1) (size := 26) (by decide)
      have b1 := part_lo (ps := ps) (spot := spot + (i : Int)) (under := 26) (size := 26) (by decide)
      have b2 := part_hi (ps := ps) (spot := spot + (i : Int)) (under := 26) (size := 26) (by decide)
      generalize part ps (spot + (i : Int)) 1 26 = u at *
      generalize part ps (spot + (i : Int)) 26 26 = v at *
      have g1 := gIx_abc a1 a2
      have g2 := gIx_abc b1 b2
      have s1 := gAdd_S (a := l) (b := [u.toNat + 97]) (by simp; omega)
      have s2 := gAdd_S (a := l ++ [u.toNat + 97]) (b := [v.toNat + 97]) (by simp; omega)
      have st : B__law_names_1 [.v (.lst (ps.map .int)), .v (.int spot), .v (.int number), .v (.str (S abc)), .v (.str (S l)), .v (.int (0 + (i : Int))), .no, .no, .no, .no, .no, .no, .no] =
          .nx [.v (.lst (ps.map .int)), .v (.int spot), .v (.int number), .v (.str (S abc)), .v (.str (S (l ++ [u.toNat + 97] ++ [v.toNat + 97]))), .v (.int (i : Int)), .no, .no, .no, .no, .no, .no, .no] := by
        unfold B__law_names_1
        simp only [sSet_ap, e2_ap, eV_succ, eV_zero, bind_ok, eCall_ap, aC_ap, aN_ap, gAdd_int, eC_ap, List.length_cons, List.length_nil, Int.zero_add, Nat.zero_add, Nat.reduceAdd, if_true, p1, p2, g1, g2, s1, s2, from_ok, List.set_cons_succ, List.set_cons_zero]
      show SO.goes (B__law_names_1 [.v (.lst (ps.map .int)), .v (.int spot), .v (.int number), .v (.str (S abc)), .v (.str (S l)), .v (.int (0 + (i : Int))), .no, .no, .no, .no, .no, .no, .no]) _
      rw [st]
      refine ⟨_, _, ?_, ?_, rfl⟩
      · simp; omega
      · exact low_app (low_app lw (low_one (by omega) (by omega))) (low_one (by omega) (by omega)))
  exact ⟨l, s, hl, lw, e⟩
def nmA (sh tl : List Nat) (cut first m : Int) : List Nat := sh.take cut.toNat ++ [((first + 7 * m) % 26).toNat + 97] ++ sh.drop cut.toNat ++ tl
def nmK (c : Int) (stem sh tl : List Nat) (cut first turn : Int) (k : Nat) : List Nat := if c = 0 then nmA sh tl cut first (((k : Int) + turn) % 6) else stem.take ((((k : Int) + turn) % 6) + 1).toNat
theorem names_loop2 {ps : List Int} {spot number turn cut first : Int} {stem sh tl : List Nat} (h0 : 0 ≤ spot) (h1 : spot + 5 ≤ ps.length) (hn : 0 ≤ number) (hn2 : number ≤ 6) (ls : stem.length = 6) (lsh : sh.length ≤ 6) (ltl : tl.length ≤ 1) (c0 : 0 ≤ cut) (s0 : Sl) :
    ∃ (s t : Sl), loop (gN 5) B__law_names_2 (rgD 0 number.toNat) [.v (.lst (ps.map .int)), .v (.int spot), .v (.int number), .v (.str (S abc)), .v (.str (S stem)), s0, .v (.int turn), .v (.int cut), .v (.int first), .v (.str (S sh)), .v (.str (S tl)), .l [], .no] =
    .nx [.v (.lst (ps.map .int)), .v (.int spot), .v (.int number), .v (.str (S abc)), .v (.str (S stem)), s, .v (.int turn), .v (.int cut), .v (.int first), .v (.str (S sh)), .v (.str (S tl)), .l ((List.range number.toNat).map fun k => .str (S (nmK (part ps (spot + 4) 1 2) stem sh tl cut first turn k))), t] := by
  have pc := part_ok (ps := ps) (spot := spot + 4) (under := 1) (size := 2) (by omega) (by omega) (by decide) (by decide) (by decide)
  generalize part ps (spot + 4) 1 2 = c at *
  obtain ⟨ρ', e, s, t, rfl⟩ := loop_rg (h := gN 5) (body := B__law_names_2) (lo := 0) (n := number.toNat) (ρ := [.v (.lst (ps.map .int)), .v (.int spot), .v (.int number), .v (.str (S abc)), .v (.str (S stem)), s0, .v (.int turn), .v (.int cut), .v (.int first), .v (.str (S sh)), .v (.str (S tl)), .l [], .no])
    (fun i ρ => ∃ (s t : Sl), ρ = [.v (.lst (ps.map .int)), .v (.int spot), .v (.int number), .v (.str (S abc)), .v (.str (S stem)), s, .v (.int turn), .v (.int cut), .v (.int first), .v (.str (S sh)), .v (.str (S tl)), .l ((List.range i).map fun k => .str (S (nmK c stem sh tl cut first turn k))), t])
    ⟨_, _, rfl⟩ (by
      rintro i ρ hi ⟨s, t, rfl⟩
      refine ⟨_, rfl, ?_⟩
      have m0 : 0 ≤ ((i : Int) + turn) % 6 := by omega
      have m6 : ((i : Int) + turn) % 6 < 6 := by omega
      have f1 : 0 ≤ (first + 7 * (((i : Int) + turn) % 6)) % 26 := by omega
      have f2 : (first + 7 * (((i : Int) + turn) % 6)) % 26 < 26 := by omega
      have g1 := gIx_abc f1 f2
      have t1 := gSl_hi (l := sh) c0 (by omega)
      have t2 := gSl_lo (l := sh) c0 (by omega)
      have t3 := gSl_hi (l := stem) (v := ((i : Int) + turn) % 6 + 1) (by omega) (by omega)
      have q1 := gAdd_S (a := sh.take cut.toNat) (b := [((first + 7 * (((i : Int) + turn) % 6)) % 26).toNat + 97]) (by simp; omega)
      have q2 := gAdd_S (a := sh.take cut.toNat ++ [((first + 7 * (((i : Int) + turn) % 6)) % 26).toNat + 97]) (b := sh.drop cut.toNat) (by simp; omega)
      have q3 := gAdd_S (a := sh.take cut.toNat ++ [((first + 7 * (((i : Int) + turn) % 6)) % 26).toNat + 97] ++ sh.drop cut.toNat) (b := tl) (by simp; omega)
      have q4 := gMul_l (i := 7) (j := ((i : Int) + turn) % 6) (by decide) (by decide)
      have sl : ((List.range i).map fun k => D.str (S (nmK c stem sh tl cut first turn k))).length < sizeLine := by rw [List.length_map, List.length_range, sz24]; omega
      have d6 : gMod (.int ((i : Int) + turn)) (.int 6) = .ok (.int (((i : Int) + turn) % 6)) := gMod_int (by decide)
      have d26 : gMod (.int (first + 7 * (((i : Int) + turn) % 6))) (.int 26) = .ok (.int ((first + 7 * (((i : Int) + turn) % 6)) % 26)) := gMod_int (by decide)
      have st : B__law_names_2 [.v (.lst (ps.map .int)), .v (.int spot), .v (.int number), .v (.str (S abc)), .v (.str (S stem)), .v (.int (0 + (i : Int))), .v (.int turn), .v (.int cut), .v (.int first), .v (.str (S sh)), .v (.str (S tl)), .l ((List.range i).map fun k => .str (S (nmK c stem sh tl cut first turn k))), t] =
          .nx [.v (.lst (ps.map .int)), .v (.int spot), .v (.int number), .v (.str (S abc)), .v (.str (S stem)), .v (.int (i : Int)), .v (.int turn), .v (.int cut), .v (.int first), .v (.str (S sh)), .v (.str (S tl)), .l ((List.range (i + 1)).map fun k => .str (S (nmK c stem sh tl cut first turn k))), .v (.int (((i : Int) + turn) % 6))] := by
        rw [List.range_succ, List.map_append]
        show _ = SO.nx [_, _, _, _, _, _, _, _, _, _, _, .l (_ ++ [D.str (S (nmK c stem sh tl cut first turn i))]), _]
        unfold B__law_names_2
        by_cases z : c = 0
        · have en : nmK c stem sh tl cut first turn i = sh.take cut.toNat ++ [((first + 7 * (((i : Int) + turn) % 6)) % 26).toNat + 97] ++ sh.drop cut.toNat ++ tl := if_pos z
          rw [en]
          have ze : decide (c = 0) = true := decide_eq_true z
          simp only [sSq_ap, sSet_ap, sIf_ap, sApp_ap, tV_ap, e2_ap, eA_ap, eSl_ap, oN_ap, oS_ap, eV_succ, eV_zero, bind_ok, eCall_ap, aC_ap, aN_ap, gAdd_int, gInt_int, gEq_int, Bof_bl, eC_ap, List.length_cons, List.length_nil, Int.zero_add, Nat.zero_add, Nat.reduceAdd, if_true, pc, d6, d26, g1, t1, t2, t3, q1, q2, q3, q4, ze, sl, from_ok, sq_nx, ownL_succ, ownL_zero, List.set_cons_succ, List.set_cons_zero]
        · have en : nmK c stem sh tl cut first turn i = stem.take ((((i : Int) + turn) % 6) + 1).toNat := if_neg z
          rw [en]
          have ze : decide (c = 0) = false := decide_eq_false z
          simp only [sSq_ap, sSet_ap, sIf_ap, sApp_ap, tV_ap, e2_ap, eA_ap, eSl_ap, oN_ap, oS_ap, eV_succ, eV_zero, bind_ok, eCall_ap, aC_ap, aN_ap, gAdd_int, gInt_int, gEq_int, Bof_bl, eC_ap, List.length_cons, List.length_nil, Int.zero_add, Nat.zero_add, Nat.reduceAdd, if_true, pc, d6, d26, g1, t1, t2, t3, q1, q2, q3, q4, ze, sl, from_ok, sq_nx, ownL_succ, ownL_zero, List.set_cons_succ, List.set_cons_zero, Bool.false_eq_true, if_false]
      show SO.goes (B__law_names_2 [.v (.lst (ps.map .int)), .v (.int spot), .v (.int number), .v (.str (S abc)), .v (.str (S stem)), .v (.int (0 + (i : Int))), .v (.int turn), .v (.int cut), .v (.int first), .v (.str (S sh)), .v (.str (S tl)), .l ((List.range i).map fun k => .str (S (nmK c stem sh tl cut first turn k))), t]) _
      rw [st]
      exact ⟨_, _, rfl⟩)
  exact ⟨s, t, e⟩
theorem nmA_len (sh tl : List Nat) (cut first m : Int) : (nmA sh tl cut first m).length = sh.length + 1 + tl.length := by
  unfold nmA
  simp only [List.length_append, List.length_take, List.length_drop, List.length_cons, List.length_nil]
  omega
theorem nmA_inj {sh tl : List Nat} {cut first m m' : Int} (c0 : 0 ≤ m) (c1 : m < 6) (d0 : 0 ≤ m') (d1 : m' < 6) (h : nmA sh tl cut first m = nmA sh tl cut first m') : m = m' := by
  unfold nmA at h
  rw [List.append_assoc, List.append_assoc, List.append_assoc, List.append_assoc] at h
  have h2 := List.append_cancel_left h
  have h3 := (List.cons.inj h2).1
  omega
theorem nmK_ok {c turn cut first : Int} {stem sh tl : List Nat} (ls : stem.length = 6) (lsh : sh.length ≤ 6) (ltl : tl.length ≤ 1) (w1 : low stem) (w2 : low sh) (w3 : low tl) (k : Nat) : okName (nmK c stem sh tl cut first turn k) := by
  unfold nmK
  split
  · refine ⟨by rw [nmA_len]; omega, by rw [nmA_len]; omega, ?_⟩
    exact low_app (low_app (low_app (low_take w2 _) (low_one (by omega) (by omega))) (low_drop w2 _)) w3
  · exact ⟨by rw [List.length_take]; omega, by rw [List.length_take]; omega, low_take w1 _⟩
theorem nmK_inj {c turn cut first : Int} {stem sh tl : List Nat} (ls : stem.length = 6) {k k' : Nat} (hk : k < 6) (hk' : k' < 6) (h : nmK c stem sh tl cut first turn k = nmK c stem sh tl cut first turn k') : k = k' := by
  unfold nmK at h
  split at h
  · have := nmA_inj (by omega) (by omega) (by omega) (by omega) h
    omega
  · have := congrArg List.length h
    rw [List.length_take, List.length_take, ls] at this
    omega
theorem names_ok {ps : List Int} {spot number : Int} (h0 : 0 ≤ spot) (h1 : spot + 5 ≤ ps.length) (hn : 0 ≤ number) (hn2 : number ≤ 6) :
    ∃ ws : List (List Nat), ws.length = number.toNat ∧ (∀ w ∈ ws, okName w) ∧ ws.Nodup ∧ F__law_names [.lst (ps.map .int), .int spot, .int number] = .ok (.lst (ws.map fun w => .str (S w))) := by
  have p1 := part_ok (ps := ps) (spot := spot + 3) (under := 1) (size := 6) (by omega) (by omega) (by decide) (by decide) (by decide)
  have p2 := part_ok (ps := ps) (spot := spot + 3) (under := 6) (size := 7) (by omega) (by omega) (by decide) (by decide) (by decide)
  have p3 := part_ok (ps := ps) (spot := spot + 3) (under := 42) (size := 26) (by omega) (by omega) (by decide) (by decide) (by decide)
  have p4 := part_ok (ps := ps) (spot := spot + 4) (under := 4) (size := 7) (by omega) (by omega) (by decide) (by decide) (by decide)
  have p5 := part_ok (ps := ps) (spot := spot + 4) (under := 2) (size := 2) (by omega) (by omega) (by decide) (by decide) (by decide)
  have a2 := part_lo (ps := ps) (spot := spot + 3) (under := 6) (size := 7) (by decide)
  have a4 := part_lo (ps := ps) (spot := spot + 4) (under := 4) (size := 7) (by decide)
  have a5 := part_lo (ps := ps) (spot := spot + 4) (under := 2) (size := 2) (by decide)
  have b4 := part_hi (ps := ps) (spot := spot + 4) (under := 4) (size := 7) (by decide)
  have b5 := part_hi (ps := ps) (spot := spot + 4) (under := 2) (size := 2) (by decide)
  obtain ⟨stem, s0, ls, lw, e1⟩ := names_loop1 (ps := ps) (spot := spot) (number := number) h0 h1
  have t1 := gSl_hi (l := stem) a4 (by omega)
  have t2 := gSl_hi (l := stem) a5 (by omega)
  generalize part ps (spot + 3) 1 6 = turn at *
  generalize part ps (spot + 3) 6 7 = cut at *
  generalize part ps (spot + 3) 42 26 = first at *
  generalize part ps (spot + 4) 4 7 = x4 at *
  generalize part ps (spot + 4) 2 2 = x5 at *
  have k1 : (stem.take x4.toNat).length ≤ 6 := by rw [List.length_take]; omega
  have k2 : (stem.take x5.toNat).length ≤ 1 := by rw [List.length_take]; omega
  obtain ⟨s, t, e2⟩ := names_loop2 (ps := ps) (spot := spot) (number := number) (turn := turn) (cut := cut) (first := first) (stem := stem) (sh := stem.take x4.toNat) (tl := stem.take x5.toNat) h0 h1 hn hn2 ls k1 k2 a2 s0
  refine ⟨(List.range number.toNat).map (nmK (part ps (spot + 4) 1 2) stem (stem.take x4.toNat) (stem.take x5.toNat) cut first turn), by rw [List.length_map, List.length_range], ?_, ?_, ?_⟩
  · intro w m
    obtain ⟨k, _, rfl⟩ := List.mem_map.mp m
    exact nmK_ok ls k1 k2 lw (low_take lw _) (low_take lw _) k
  · refine List.pairwise_map.mpr (List.Pairwise.imp_of_mem (fun {k k'} hk hk' ne h => ne ?_) List.nodup_range)
    have := List.mem_range.mp hk
    have := List.mem_range.mp hk'
    exact nmK_inj ls (by omega) (by omega) h
  · unfold F__law_names G__law_names
    have sm3 : small62 3 := by decide
    have smn : small62 number := small_rg hn (by omega)
    have st : startE 13 [.lst (ps.map .int), .int spot, .int number] = [.v (.lst (ps.map .int)), .v (.int spot), .v (.int number), .no, .no, .no, .no, .no, .no, .no, .no, .no, .no] := rfl
    have r3 : (3 : Int).toNat = 3 := rfl
    have z0 : (0 : Nat) ≤ sizeLine := Nat.zero_le _
    simp only [runF_ap, st, abc_eq, none_eq, sSq_ap, sSet_ap, sFor_ap, iR1_ap, sOwn_ap, lDisp_ap, sFrz_ap, sRet_ap, eSl_ap, oN_ap, oS_ap, e2_ap, eV_succ, eV_zero, bind_ok, eCall_ap, aC_ap, aN_ap, gAdd_int, eC_ap, List.length_cons, List.length_nil, Nat.zero_add, Nat.reduceAdd, if_true, p1, p2, p3, p4, p5, sm3, smn, r3, e1, t1, t2, from_ok, sq_nx, List.set_cons_succ, List.set_cons_zero, z0, e2, frzE_succ, frzE_zero, frzS_l, out_rt, List.map_map]
    rfl
end Tk

namespace Tk
open PySem PySem.Spec L2 PyProof.Rows
/-! ### == of plain data without truth values -/
mutual
def cleanD : Nat → D → Bool
  | _, .non => true
  | _, .int _ => true
  | _, .str s => PyData.strOk s
  | n + 1, .lst xs => cleanL n xs
  | n + 1, .tup xs => cleanL n xs
  | _, _ => false
def cleanL : Nat → List D → Bool
  | _, [] => true
  | n, d :: ds => cleanD n d && cleanL n ds
end
theorem cleanL_all {n : Nat} : ∀ {ds : List D}, cleanL n ds = true ↔ ∀ d ∈ ds, cleanD n d = true
  | [] => by simp [cleanL]
  | d :: ds => by simp [cleanL, cleanL_all (ds := ds)]
mutual
theorem clean_toP : ∀ {n : Nat} {d : D}, cleanD n d = true → ∃ p, toP d = some p ∧ p.canLay0 = true ∧ p.depth ≤ n
  | _, .non, _ => ⟨.none, by simp [toP], by simp [PyData.canLay0], by simp [PyData.depth]⟩
  | _, .int i, _ => ⟨.int i, by simp [toP], by simp [PyData.canLay0], by simp [PyData.depth]⟩
  | _, .str s, h => ⟨.str s, by simp [toP], by simp only [PyData.canLay0]; simpa [cleanD] using h, by simp [PyData.depth]⟩
  | 0, .lst _, h => by simp [cleanD] at h
  | 0, .tup _, h => by simp [cleanD] at h
  | n + 1, .lst xs, h => by
    obtain ⟨ps, e1, e2, e3⟩ := cleanL_toP (n := n) (ds := xs) (by simpa [cleanD] using h)
    exact ⟨.list ps, by simp [toP, e1], by simpa [PyData.canLay0] using e2, by simp only [PyData.depth]; omega⟩
  | n + 1, .tup xs, h => by
    obtain ⟨ps, e1, e2, e3⟩ := cleanL_toP (n := n) (ds := xs) (by simpa [cleanD] using h)
    exact ⟨.tuple ps, by simp [toP, e1], by simpa [PyData.canLay0] using e2, by simp only [PyData.depth]; omega⟩
  | _, .bl _, h => by simp [cleanD] at h
  | _, .ty _, h => by simp [cleanD] at h
  | _, .cl _, h => by simp [cleanD] at h
  | _, .scr _, h => by simp [cleanD] at h
  | _, .dK _, h => by simp [cleanD] at h
  | _, .dT _, h => by simp [cleanD] at h
  | _, .ins _ _, h => by simp [cleanD] at h
theorem cleanL_toP : ∀ {n : Nat} {ds : List D}, cleanL n ds = true → ∃ ps, toPs ds = some ps ∧ PyData.canLayAll0 ps = true ∧ PyData.depthAll ps ≤ n
  | n, [], _ => ⟨[], by simp [toPs], by simp [PyData.canLayAll0], by simp [PyData.depthAll]⟩
  | n, d :: ds, h => by
    have h2 : cleanD n d = true ∧ cleanL n ds = true := by simpa [cleanL] using h
    obtain ⟨p, a1, a2, a3⟩ := clean_toP h2.1
    obtain ⟨ps, b1, b2, b3⟩ := cleanL_toP h2.2
    exact ⟨p :: ps, by simp [toPs, a1, b1], by simp [PyData.canLayAll0, a2, b2], by simp only [PyData.depthAll]; omega⟩
end
mutual
theorem eqv_iff : ∀ {n m : Nat} {a b : D} {p q : PyData}, cleanD n a = true → cleanD m b = true → toP a = some p → toP b = some q → (PyData.eqv p q = true ↔ a = b)
  | n, m, a, b, p, q, ha, hb, ea, eb => by
    cases a with
    | non =>
      cases (by simpa [toP] using ea : PyData.none = p)
      cases b with
      | non => cases (by simpa [toP] using eb : PyData.none = q); simp [PyData.eqv]
      | int j => cases (by simpa [toP] using eb : PyData.int j = q); simp [PyData.eqv]
      | str j => cases (by simpa [toP] using eb : PyData.str j = q); simp [PyData.eqv]
      | lst ys =>
        obtain ⟨qs, e2, rfl⟩ : ∃ ps, toPs ys = some ps ∧ PyData.list ps = q := by simpa [toP] using eb
        simp [PyData.eqv]
      | tup ys =>
        obtain ⟨qs, e2, rfl⟩ : ∃ ps, toPs ys = some ps ∧ PyData.tuple ps = q := by simpa [toP] using eb
        simp [PyData.eqv]
      | _ => simp [cleanD] at hb
    | int i =>
      cases (by simpa [toP] using ea : PyData.int i = p)
      cases b with
      | non => cases (by simpa [toP] using eb : PyData.none = q); simp [PyData.eqv]
      | int j => cases (by simpa [toP] using eb : PyData.int j = q); simp [PyData.eqv]
      | str j => cases (by simpa [toP] using eb : PyData.str j = q); simp [PyData.eqv]
      | lst ys =>
        obtain ⟨qs, e2, rfl⟩ : ∃ ps, toPs ys = some ps ∧ PyData.list ps = q := by simpa [toP] using eb
        simp [PyData.eqv]
      | tup ys =>
        obtain ⟨qs, e2, rfl⟩ : ∃ ps, toPs ys = some ps ∧ PyData.tuple ps = q := by simpa [toP] using eb
        simp [PyData.eqv]
      | _ => simp [cleanD] at hb
    | str i =>
      cases (by simpa [toP] using ea : PyData.str i = p)
      cases b with
      | non => cases (by simpa [toP] using eb : PyData.none = q); simp [PyData.eqv]
      | int j => cases (by simpa [toP] using eb : PyData.int j = q); simp [PyData.eqv]
      | str j => cases (by simpa [toP] using eb : PyData.str j = q); simp [PyData.eqv]
      | lst ys =>
        obtain ⟨qs, e2, rfl⟩ : ∃ ps, toPs ys = some ps ∧ PyData.list ps = q := by simpa [toP] using eb
        simp [PyData.eqv]
      | tup ys =>
        obtain ⟨qs, e2, rfl⟩ : ∃ ps, toPs ys = some ps ∧ PyData.tuple ps = q := by simpa [toP] using eb
        simp [PyData.eqv]
      | _ => simp [cleanD] at hb
    | lst xs =>
      cases n with
      | zero => simp [cleanD] at ha
      | succ n =>
        have ha2 : cleanL n xs = true := by simpa [cleanD] using ha
        obtain ⟨ps, e1, rfl⟩ : ∃ ps, toPs xs = some ps ∧ PyData.list ps = p := by simpa [toP] using ea
        cases b with
        | lst ys =>
          cases m with
          | zero => simp [cleanD] at hb
          | succ m =>
            have hb2 : cleanL m ys = true := by simpa [cleanD] using hb
            obtain ⟨qs, e2, rfl⟩ : ∃ ps, toPs ys = some ps ∧ PyData.list ps = q := by simpa [toP] using eb
            have := eqvL_iff ha2 hb2 e1 e2
            simp only [PyData.eqv]
            rw [this]
            simp
        | tup ys =>
          obtain ⟨qs, e2, rfl⟩ : ∃ ps, toPs ys = some ps ∧ PyData.tuple ps = q := by simpa [toP] using eb
          simp [PyData.eqv]
        | non => cases (by simpa [toP] using eb : PyData.none = q); simp [PyData.eqv]
        | int i => cases (by simpa [toP] using eb : PyData.int i = q); simp [PyData.eqv]
        | str i => cases (by simpa [toP] using eb : PyData.str i = q); simp [PyData.eqv]
        | _ => simp [cleanD] at hb
    | tup xs =>
      cases n with
      | zero => simp [cleanD] at ha
      | succ n =>
        have ha2 : cleanL n xs = true := by simpa [cleanD] using ha
        obtain ⟨ps, e1, rfl⟩ : ∃ ps, toPs xs = some ps ∧ PyData.tuple ps = p := by simpa [toP] using ea
        cases b with
        | tup ys =>
          cases m with
          | zero => simp [cleanD] at hb
          | succ m =>
            have hb2 : cleanL m ys = true := by simpa [cleanD] using hb
            obtain ⟨qs, e2, rfl⟩ : ∃ ps, toPs ys = some ps ∧ PyData.tuple ps = q := by simpa [toP] using eb
            have := eqvL_iff ha2 hb2 e1 e2
            simp only [PyData.eqv]
            rw [this]
            simp
        | lst ys =>
          obtain ⟨qs, e2, rfl⟩ : ∃ ps, toPs ys = some ps ∧ PyData.list ps = q := by simpa [toP] using eb
          simp [PyData.eqv]
        | non => cases (by simpa [toP] using eb : PyData.none = q); simp [PyData.eqv]
        | int i => cases (by simpa [toP] using eb : PyData.int i = q); simp [PyData.eqv]
        | str i => cases (by simpa [toP] using eb : PyData.str i = q); simp [PyData.eqv]
        | _ => simp [cleanD] at hb
    | _ => simp [cleanD] at ha
theorem eqvL_iff : ∀ {n m : Nat} {as bs : List D} {ps qs : List PyData}, cleanL n as = true → cleanL m bs = true → toPs as = some ps → toPs bs = some qs → (PyData.eqvAll ps qs = true ↔ as = bs)
  | n, m, [], [], ps, qs, _, _, e1, e2 => by
    cases (by simpa [toPs] using e1 : ps = [])
    cases (by simpa [toPs] using e2 : qs = [])
    simp [PyData.eqvAll]
  | n, m, [], b :: bs, ps, qs, _, hb, e1, e2 => by
    cases (by simpa [toPs] using e1 : ps = [])
    have hb2 : cleanD m b = true ∧ cleanL m bs = true := by simpa [cleanL] using hb
    obtain ⟨q, a1, _⟩ := clean_toP hb2.1
    obtain ⟨qs', b1, _⟩ := cleanL_toP hb2.2
    cases (by simpa [toPs, a1, b1] using e2 : q :: qs' = qs)
    simp [PyData.eqvAll]
  | n, m, a :: as, [], ps, qs, ha, _, e1, e2 => by
    cases (by simpa [toPs] using e2 : qs = [])
    have ha2 : cleanD n a = true ∧ cleanL n as = true := by simpa [cleanL] using ha
    obtain ⟨q, a1, _⟩ := clean_toP ha2.1
    obtain ⟨qs', b1, _⟩ := cleanL_toP ha2.2
    cases (by simpa [toPs, a1, b1] using e1 : q :: qs' = ps)
    simp [PyData.eqvAll]
  | n, m, a :: as, b :: bs, ps, qs, ha, hb, e1, e2 => by
    have ha2 : cleanD n a = true ∧ cleanL n as = true := by simpa [cleanL] using ha
    have hb2 : cleanD m b = true ∧ cleanL m bs = true := by simpa [cleanL] using hb
    obtain ⟨p, a1, _⟩ := clean_toP ha2.1
    obtain ⟨ps', c1, _⟩ := cleanL_toP ha2.2
    obtain ⟨q, d1, _⟩ := clean_toP hb2.1
    obtain ⟨qs', f1, _⟩ := cleanL_toP hb2.2
    cases (by simpa [toPs, a1, c1] using e1 : p :: ps' = ps)
    cases (by simpa [toPs, d1, f1] using e2 : q :: qs' = qs)
    have h1 := eqv_iff ha2.1 hb2.1 a1 d1
    have h2 := eqvL_iff ha2.2 hb2.2 c1 f1
    simp only [PyData.eqvAll, Bool.and_eq_true, h1, h2, List.cons.injEq]
end
theorem gEqP_clean {n m : Nat} {a b : D} (hn : n ≤ 64) (hm : m ≤ 64) (ha : cleanD n a = true) (hb : cleanD m b = true) : (a = b → gEqP a b = .ok (.bl true)) ∧ (a ≠ b → gEqP a b = .ok (.bl false)) := by
  obtain ⟨p, a1, a2, a3⟩ := clean_toP ha
  obtain ⟨q, b1, b2, b3⟩ := clean_toP hb
  have i := eqv_iff ha hb a1 b1
  have s1 : SeqAt.shaped p = true := by unfold SeqAt.shaped; rw [a2, decide_eq_true (by omega : p.depth ≤ 64)]; rfl
  have s2 : SeqAt.shaped q = true := by unfold SeqAt.shaped; rw [b2, decide_eq_true (by omega : q.depth ≤ 64)]; rfl
  have e : gEqP a b = .ok (.bl (PyData.eqv p q)) := by
    unfold gEqP
    rw [a1, b1]
    show (if (SeqAt.shaped p && SeqAt.shaped q) = true then _ else _) = _
    rw [s1, s2]
    rfl
  refine ⟨fun h => ?_, fun h => ?_⟩
  · rw [e, i.mpr h]
  · rw [e]
    cases z : PyData.eqv p q with
    | true => exact absurd (i.mp z) h
    | false => rfl
theorem gEq_clean {n m : Nat} {a b : D} (hn : n ≤ 64) (hm : m ≤ 64) (ha : cleanD n a = true) (hb : cleanD m b = true) : (a = b → gEq a b = .ok (.bl true)) ∧ (a ≠ b → gEq a b = .ok (.bl false)) := by
  unfold gEq
  split
  · refine ⟨fun h => ?_, fun h => ?_⟩
    · cases h; simp
    · rw [decide_eq_false]; intro z; exact h (by rw [z])
  · refine ⟨fun h => ?_, fun h => ?_⟩
    · cases h; simp
    · rw [decide_eq_false]; intro z; exact h (by rw [z])
  · refine ⟨fun h => ?_, fun h => ?_⟩
    · cases h; simp
    · rw [decide_eq_false]; intro z; exact h (by rw [z])
  · exact gEqP_clean hn hm ha hb
theorem S_ok {w : List Nat} (h : ∀ c ∈ w, c < 1114112) : PyData.strOk (S w) = true := by
  unfold PyData.strOk
  simpa using h
end Tk

namespace Tk
open PySem PySem.Spec L2 PyProof.Rows
end Tk
local macro_rules
  | `(tactic| simp_arith [$xs,*]) => `(tactic| simp only [Tk.sq_nx, Tk.sq_rt, Tk.sq_ro, Tk.sq_bk, Tk.sq_ct, Tk.sq_ex, Tk.sq_bad, Tk.lp_nx, Tk.lp_ct, Tk.lp_bk, Tk.lp_rt, Tk.lp_ro, Tk.lp_ex, Tk.lp_bad, Tk.sSq_ap, Tk.sN_ap, Tk.sBad_ap, Tk.sRet_ap, Tk.sRetN_ap, Tk.sDrop_ap, Tk.sIf_ap, Tk.sSet_ap, Tk.sBk_ap, Tk.sCt_ap, Tk.sAsg_ap, Tk.ofO_none, Tk.ofO_some, Tk.sFor_ap, Tk.loop_nil, Tk.eV_zero, Tk.eV_succ, Tk.eC_ap, Tk.e1_ap, Tk.e2_ap, Tk.eA_ap, Tk.aN_ap, Tk.aC_ap, Tk.Bof_bl, Tk.tV_ap, Tk.tAnd_ap, Tk.tOr_ap, Tk.tNot_ap, Tk.eAnd_ap, Tk.eOr_ap, Tk.eNot_ap, Tk.eIf_ap, Tk.eChain_ap, Tk.gN_ap, Tk.gsN_ap, Tk.gsC_ap, Tk.gT_ap, Tk.frzE_zero, Tk.frzE_succ, Tk.frzS_l, Tk.frzS_v, Tk.frzS_no, Tk.frzA_nil, Tk.frzA_cons, Tk.sFrz_ap, Tk.ownL_zero, Tk.ownL_succ, Tk.lDisp_ap, Tk.lList_ap, Tk.sOwn_ap, Tk.sApp_ap, Tk.sMut_ap, Tk.sPop_ap, Tk.eBor_ap, Tk.tBor_ap, Tk.wipeE_nil, Tk.wipeE_cons, Tk.eLc_ap, Tk.tsY_ap, Tk.iSq_ap, Tk.gIt_lst, Tk.gIt_tup, Tk.gIt_str, Tk.iR1_ap, Tk.iR2_ap, Tk.iEn2_ap, Tk.iZp2_ap, Tk.seqD_lst, Tk.seqD_tup, Tk.oN_ap, Tk.oS_ap, Tk.eSl_ap, Tk.eCall_ap, Tk.eCallK_ap, Tk.out_nx, Tk.out_rt, Tk.out_ro, Tk.out_ex, Tk.nL_ap, Tk.own_lT, Tk.sNew_ap, Tk.sRetV_ap, Tk.sRetF_ap, Tk.runO_ap, Tk.outO_ro, Tk.oCall_ap, Tk.lLc_ap, Tk.sPutL_ap, Tk.eOwnIx_ap, Tk.frzR_l, Tk.runF_ap, Tk.start_nil, Tk.start_cons', Tk.gSub_int, Tk.gAdd_int, Tk.gNeg_int, Tk.gLt_int, Tk.gLe_int, Tk.gGt_int, Tk.gGe_int, Tk.gEq_int, Tk.gEq_str, Tk.gEq_bl, Tk.gNe_def, Tk.rNot_bl, Tk.gInt_int, Tk.gInt_bl, Tk.gAbs_int, Tk.gLen_lst, Tk.gLen_tup, Tk.gLen_scr, Tk.gMin_int, Tk.gMax_int, Tk.gList_lst, Tk.gList_tup, Tk.gTuple_lst, Tk.gTuple_tup, Tk.gIsN_non, Tk.gNotN_non, Tk.gRev_lst, Tk.gRev_tup, Tk.goes_nx, Tk.goes_ct, Tk.quiet_ok, Tk.from_ok, Tk.from_exc, Tk.from_bad, Tk.bind_ok, Tk.bind_exc, Tk.bind_bad, List.set_cons_succ, List.set_cons_zero, List.map_nil, List.map_cons, List.length_cons, List.length_nil, Nat.zero_add, Nat.reduceAdd, Nat.reduceSub, Nat.reduceEqDiff, Nat.add_one_sub_one, and_self, if_true, if_false, Bool.not_true, Bool.not_false, Bool.false_eq_true, eq_self_iff_true, List.reduceReplicate, Nat.succ_ne_zero, List.cons_append, List.nil_append, Option.bind_some, decide_true, decide_false, $xs,*])
namespace Tk
open PySem PySem.Spec L2 PyProof.Rows
theorem tst : startE 5 [.non, .bl true] = [.v .non, .v (.bl true), .no, .no, .no] := by
  simp_arith []
theorem sz0 : (0 : Nat) ≤ sizeLine := Nat.zero_le _
theorem szle {n : Nat} (h : n ≤ 1000) : n ≤ sizeLine := by rw [sz24]; omega
theorem szlt {n : Nat} (h : n ≤ 1000) : n < sizeLine := by rw [sz24]; omega
end Tk

namespace Tk
open PySem PySem.Spec L2 PyProof.Rows
/-! ### names in lists and tuples -/
abbrev nD (w : List Nat) : D := .str (S w)
theorem inV_names {w : List Nat} {ws : List (List Nat)} : inV (toV (nD w)) ((ws.map nD).map toV) = decide (w ∈ ws) := by
  unfold inV
  rw [List.map_map, List.any_map, Bool.eq_iff_iff, List.any_eq_true, decide_eq_true_eq]
  constructor
  · rintro ⟨u, m, e⟩
    have e2 : (S u == S w) = true := e
    rw [← S_inj (eq_of_beq e2)]
    exact m
  · intro m
    exact ⟨w, m, by show (S w == S w) = true; exact beq_self_eq_true _⟩
theorem flat_names {ws : List (List Nat)} : (ws.map nD).all flatD = true := by rw [List.all_map]; exact List.all_eq_true.mpr fun _ _ => rfl
theorem in_lst {w : List Nat} {ws : List (List Nat)} : gInS false (nD w) (.lst (ws.map nD)) = .ok (.bl (decide (w ∈ ws))) := by
  show (if flatD (nD w) = true ∧ (ws.map nD).all flatD = true then R.ok (D.bl (if false = true then !inV (toV (nD w)) ((ws.map nD).map toV) else inV (toV (nD w)) ((ws.map nD).map toV))) else gInP false (nD w) (ws.map nD)) = _
  rw [if_pos ⟨rfl, flat_names⟩, if_neg Bool.false_ne_true, inV_names]
theorem nin_lst {w : List Nat} {ws : List (List Nat)} : gInS true (nD w) (.lst (ws.map nD)) = .ok (.bl (!decide (w ∈ ws))) := by
  show (if flatD (nD w) = true ∧ (ws.map nD).all flatD = true then R.ok (D.bl (if true = true then !inV (toV (nD w)) ((ws.map nD).map toV) else inV (toV (nD w)) ((ws.map nD).map toV))) else gInP true (nD w) (ws.map nD)) = _
  rw [if_pos ⟨rfl, flat_names⟩, if_pos rfl, inV_names]
theorem in_tup {w : List Nat} {ws : List (List Nat)} : gInS false (nD w) (.tup (ws.map nD)) = .ok (.bl (decide (w ∈ ws))) := by
  show (if flatD (nD w) = true ∧ (ws.map nD).all flatD = true then R.ok (D.bl (if false = true then !inV (toV (nD w)) ((ws.map nD).map toV) else inV (toV (nD w)) ((ws.map nD).map toV))) else .bad) = _
  rw [if_pos ⟨rfl, flat_names⟩, if_neg Bool.false_ne_true, inV_names]
theorem nin_tup {w : List Nat} {ws : List (List Nat)} : gInS true (nD w) (.tup (ws.map nD)) = .ok (.bl (!decide (w ∈ ws))) := by
  show (if flatD (nD w) = true ∧ (ws.map nD).all flatD = true then R.ok (D.bl (if true = true then !inV (toV (nD w)) ((ws.map nD).map toV) else inV (toV (nD w)) ((ws.map nD).map toV))) else .bad) = _
  rw [if_pos ⟨rfl, flat_names⟩, if_pos rfl, inV_names]
theorem eq_names {a b : List Nat} : gEq (nD a) (nD b) = .ok (.bl (decide (a = b))) := by
  show R.ok (D.bl (decide (S a = S b))) = _
  congr 2
  rw [decide_eq_decide]
  exact ⟨S_inj, fun h => by rw [h]⟩
theorem ne_names {a b : List Nat} : gNe (nD a) (nD b) = .ok (.bl (!decide (a = b))) := by rw [gNe_def, eq_names]; rfl
/-! ### who is passed over -/
def overL (cs ts : List (List Nat)) (kp : List Nat) : List (List Nat) := cs.filter fun m => (!decide (m ∈ ts)) && !decide (m = kp)
theorem passed_ok {cs ts : List (List Nat)} {kp : List Nat} (hl : cs.length ≤ 1000) : F_passed_over [.tup (cs.map nD), .tup (ts.map nD), nD kp] = .ok (.tup ((overL cs ts kp).map nD)) := by
  have e := lc_map (inj := nD) (h := gN 3) (t := tAnd (tV (e2 (gInS true) (eV 3) (eV 1))) (tV (e2 gNe (eV 3) (eV 2)))) (fe := eV 3) (ρ := [.v (.tup (cs.map nD)), .v (.tup (ts.map nD)), .v (nD kp), .no]) (fun m => (!decide (m ∈ ts)) && !decide (m = kp)) nD (l := cs) fun m _ =>
    ⟨[.v (.tup (cs.map nD)), .v (.tup (ts.map nD)), .v (nD kp), .v (nD m)], rfl, by
      simp only [tAnd_ap, tV_ap, e2_ap, eV_succ, eV_zero, bind_ok, nin_tup, ne_names, Bof_bl]
      cases (!decide (m ∈ ts)) <;> simp, fun _ => rfl⟩
  have sz : (cs.map nD).length ≤ sizeLine := by rw [List.length_map, sz24]; omega
  unfold F_passed_over G_passed_over
  simp only [runF_ap, show startE 4 [.tup (cs.map nD), .tup (ts.map nD), nD kp] = [.v (.tup (cs.map nD)), .v (.tup (ts.map nD)), .v (nD kp), .no] from rfl, sRet_ap, eA_ap, aC_ap, aN_ap, eLc_ap, iSq_ap, eV_zero, eV_succ, bind_ok, gIt_tup, sz, if_true, wipeE_cons, wipeE_nil, List.set_cons_succ, List.set_cons_zero, e, gTuple_lst, from_ok, out_rt]
  rfl
/-! ### the passes behind a round -/
def npass (cs ts : List (List Nat)) (kp : List Nat) (most : Int) (p : List Nat × Int) : Int := if p.1 ∈ ts ∨ p.1 = kp then 0 else if p.1 ∈ overL cs ts kp then (if most < p.2 + 1 then most else p.2 + 1) else p.2
theorem zip_map {α β : Type} (f : α → D) (g : β → D) : ∀ (l : List α) (l' : List β), zipD (l.map f) (l'.map g) = (l.zip l').map fun p => .tup [f p.1, g p.2]
  | [], _ => by cases ‹List β› <;> rfl
  | _ :: _, [] => rfl
  | a :: l, b :: l' => by
    show D.tup [f a, g b] :: zipD (l.map f) (l'.map g) = _
    rw [zip_map f g l l']
    rfl
def npE (ms cs ts : List (List Nat)) (ps : List Int) (kp : List Nat) (most : Int) (acc : List Int) (a b : Sl) : Ev := [.v (.tup (ms.map nD)), .v (.tup (ps.map .int)), .v (.tup (cs.map nD)), .v (.tup (ts.map nD)), .v (nD kp), .v (.int most), .v (.tup ((overL cs ts kp).map nD)), .l (acc.map .int), a, b]
theorem next_ok {ms cs ts : List (List Nat)} {ps : List Int} {kp : List Nat} {most : Int} (hm : ms.length ≤ 1000) (hl : cs.length ≤ 1000) :
    F_next_passes [.tup (ms.map nD), .tup (ps.map .int), .tup (cs.map nD), .tup (ts.map nD), nD kp, .int most] = .ok (.tup (((ms.zip ps).map (npass cs ts kp most)).map .int)) := by
  obtain ⟨ρ', e, a, b, rfl⟩ := loop_map (inj := fun p : List Nat × Int => D.tup [nD p.1, .int p.2]) (h := gT 2 (gsC (gN 8) (gsC (gN 9) (gsN)))) (body := B_next_passes_1) (l := ms.zip ps) (ρ := npE ms cs ts ps kp most [] .no .no)
    (fun i ρ => ∃ a b : Sl, ρ = npE ms cs ts ps kp most (((ms.zip ps).take i).map (npass cs ts kp most)) a b) ⟨_, _, rfl⟩ (by
      rintro i p ρ q ⟨a, b, rfl⟩
      refine ⟨npE ms cs ts ps kp most (((ms.zip ps).take i).map (npass cs ts kp most)) (.v (nD p.1)) (.v (.int p.2)), rfl, ?_⟩
      have sz : ((((ms.zip ps).take i).map (npass cs ts kp most)).map D.int).length < sizeLine := by rw [List.length_map, List.length_map, List.length_take, List.length_zip, sz24]; omega
      have st : B_next_passes_1 (npE ms cs ts ps kp most (((ms.zip ps).take i).map (npass cs ts kp most)) (.v (nD p.1)) (.v (.int p.2))) = .nx (npE ms cs ts ps kp most (((ms.zip ps).take (i + 1)).map (npass cs ts kp most)) (.v (nD p.1)) (.v (.int p.2))) := by
        rw [List.take_succ, q, List.map_append]
        unfold npE B_next_passes_1
        rw [List.map_append]
        have t1 : (if decide (p.1 ∈ ts) = true then R.ok true else R.ok (decide (p.1 = kp))) = R.ok (decide (p.1 ∈ ts ∨ p.1 = kp)) := by
          by_cases c1 : p.1 ∈ ts
          · simp [c1]
          · simp [c1]
        simp only [sIf_ap, sApp_ap, tOr_ap, tV_ap, e2_ap, eA_ap, aC_ap, aN_ap, eC_ap, eV_succ, eV_zero, bind_ok, in_tup, eq_names, Bof_bl, t1, from_ok, gAdd_int, gMin_int, ownL_succ, ownL_zero, sz, if_true, List.set_cons_succ, List.set_cons_zero]
        by_cases c1 : p.1 ∈ ts ∨ p.1 = kp
        · have e1 : npass cs ts kp most p = 0 := if_pos c1
          simp [c1, e1]
        · by_cases c2 : p.1 ∈ overL cs ts kp
          · have e1 : npass cs ts kp most p = (if most < p.2 + 1 then most else p.2 + 1) := by unfold npass; rw [if_neg c1, if_pos c2]
            simp [c1, c2, e1]
          · have e1 : npass cs ts kp most p = p.2 := by unfold npass; rw [if_neg c1, if_neg c2]
            simp [c1, c2, e1]
      rw [st]
      exact ⟨_, _, rfl⟩)
  rw [List.take_length] at e
  unfold npE at e
  have po := passed_ok (cs := cs) (ts := ts) (kp := kp) hl
  have zm := zip_map nD D.int ms ps
  have z0 : (0 : Nat) ≤ sizeLine := Nat.zero_le _
  rw [List.map_nil] at e
  unfold F_next_passes G_next_passes
  simp only [runF_ap, show startE 10 [.tup (ms.map nD), .tup (ps.map .int), .tup (cs.map nD), .tup (ts.map nD), nD kp, .int most] = [.v (.tup (ms.map nD)), .v (.tup (ps.map .int)), .v (.tup (cs.map nD)), .v (.tup (ts.map nD)), .v (nD kp), .v (.int most), .no, .no, .no, .no] from rfl,
    sSq_ap, sSet_ap, sOwn_ap, lDisp_ap, sFor_ap, iZp2_ap, sFrz_ap, sRet_ap, eA_ap, aC_ap, aN_ap, eCall_ap, eV_zero, eV_succ, bind_ok, List.length_cons, List.length_nil, Nat.zero_add, Nat.reduceAdd, if_true, po, from_ok, sq_nx, List.set_cons_succ, List.set_cons_zero, z0, seqD_tup, optR_some, zm, e, frzE_succ, frzE_zero, frzS_l, gTuple_lst, out_rt]
end Tk

namespace Tk
open PySem PySem.Spec L2 PyProof.Rows
/-! ### a list or a tuple -/
def sqD (b : Bool) (xs : List D) : D := match b with
  | true => .tup xs
  | false => .lst xs
section
variable {b : Bool} {xs : List D} {j : Int}
@[simp] theorem gIt_sq : gIt (sqD b xs) = .ok xs := by cases b <;> rfl
@[simp] theorem gLen_sq : gLen [sqD b xs] = .ok (.int xs.length) := by cases b <;> rfl
@[simp] theorem seqD_sq : seqD (sqD b xs) = some (b, xs) := by cases b <;> rfl
theorem gIx_sq {α : Type} {inj : α → D} {l : List α} {a : α} (h : 0 ≤ j) (e : l[j.toNat]? = some a) : gIx (sqD b (l.map inj)) (.int j) = .ok (inj a) := by
  cases b
  · exact gIx_map h e
  · exact gIx_mapT h e
theorem cut_hi {α : Type} {l : List α} (h : 0 ≤ j) : cutD l none (some j) = l.take j.toNat := by
  have e : HT.sIx l.length l.length (some j) = min j.toNat l.length := by
    show (if j < 0 then (j + (l.length : Int)).toNat else min j.toNat l.length) = _
    rw [if_neg (by omega)]
  unfold cutD
  rw [e, HT.sIx_none, List.drop_zero, Nat.sub_zero, ← List.take_eq_take_min]
theorem gSl_sq (h : 0 ≤ j) : gSl (sqD b xs) none (some j) = .ok (sqD b (xs.take j.toNat)) := by
  cases b
  · show R.ok (D.lst (cutD xs none (some j))) = _
    rw [cut_hi h] <;> rfl
  · show R.ok (D.tup (cutD xs none (some j))) = _
    rw [cut_hi h] <;> rfl
theorem gSl_lst (h : 0 ≤ j) : gSl (.lst xs) none (some j) = .ok (.lst (xs.take j.toNat)) := gSl_sq (b := false) h
end
/-! ### more loops -/
theorem enum_get {xs : List D} : ∀ {k i : Nat}, (enumD k xs)[i]? = xs[i]?.map fun d => .tup [.int ((k + i : Nat) : Int), d] := by
  induction xs with
  | nil => intro k i; rfl
  | cons d r ih =>
    intro k i
    cases i with
    | zero => rfl
    | succ i =>
      show (enumD (k + 1) r)[i]? = _
      rw [ih, List.getElem?_cons_succ, show k + 1 + i = k + (i + 1) by omega]
theorem enum_len {xs : List D} : ∀ {k : Nat}, (enumD k xs).length = xs.length := by
  induction xs with
  | nil => intro k; rfl
  | cons d r ih => intro k; show (enumD (k + 1) r).length + 1 = _; rw [ih]; rfl
theorem enum_map {α : Type} {inj : α → D} {l : List α} : enumD 0 (l.map inj) = l.zipIdx.map fun p => .tup [.int (p.2 : Int), inj p.1] := by
  apply List.ext_getElem?
  intro i
  rw [enum_get, List.getElem?_map, List.getElem?_map, List.getElem?_zipIdx, Option.map_map, Option.map_map]
  cases l[i]? with
  | none => rfl
  | some a => simp
theorem loop_en {α : Type} {inj : α → D} {h : Tg} {body : Ev → SO} (I : Nat → Ev → Prop) {l : List α} {ρ : Ev} (h0 : I 0 ρ) (hs : ∀ i a ρ, l[i]? = some a → I i ρ → ∃ ρ1, h (.tup [.int (i : Int), inj a]) ρ = some ρ1 ∧ SO.goes (body ρ1) (I (i + 1))) : ∃ ρ', loop h body (enumD 0 (l.map inj)) ρ = .nx ρ' ∧ I l.length ρ' := by
  obtain ⟨ρ', e1, e2⟩ := loop_inv I (ds := enumD 0 (l.map inj)) (ρ := ρ) 0 h0 fun i d ρ q hI => by
    rw [enum_get, List.getElem?_map] at q
    obtain ⟨d', q1, rfl⟩ := Option.map_eq_some_iff.mp q
    obtain ⟨a, q2, rfl⟩ := Option.map_eq_some_iff.mp q1
    rw [Nat.zero_add] at hI ⊢
    exact hs i a ρ q2 hI
  rw [enum_len, List.length_map, Nat.zero_add] at e2
  exact ⟨ρ', e1, e2⟩
theorem lc_all {α : Type} {inj : α → D} {h : Tg} {t : Ev → R Bool} {fe : Ev → R D} {ρ : Ev} (f : α → D) {l : List α} (H : ∀ a ∈ l, ∃ ρ1, h (inj a) ρ = some ρ1 ∧ t ρ1 = .ok true ∧ fe ρ1 = .ok (f a)) : lcL h t fe ρ (l.map inj) = .ok (l.map f) := by
  rw [lc_map (fun _ => true) f fun a m => by
    obtain ⟨ρ1, e1, e2, e3⟩ := H a m
    exact ⟨ρ1, e1, e2, fun _ => e3⟩, List.filter_eq_self.mpr fun _ _ => rfl]
theorem ints_map : ∀ ns : List Int, intsOf (ns.map .int) = some ns
  | [] => rfl
  | n :: ns => by
    show (intsOf (ns.map .int)).map (n :: ·) = _
    rw [ints_map ns]
    rfl
theorem bols_map : ∀ ns : List Bool, bolsOf (ns.map .bl) = some ns
  | [] => rfl
  | n :: ns => by
    show (bolsOf (ns.map .bl)).map (n :: ·) = _
    rw [bols_map ns]
    rfl
@[simp] theorem gAll_map {ns : List Bool} : gAll [.lst (ns.map .bl)] = .ok (.bl (ns.all id)) := by
  show (optR (bolsOf (ns.map .bl))).bind _ = _
  rw [bols_map]
  rfl
@[simp] theorem gSum_map {ns : List Int} : gSum [.lst (ns.map .int)] = .ok (.int ns.sum) := by
  show (optR (intsOf (ns.map .int))).bind _ = _
  rw [ints_map]
  rfl
theorem in_strs {w : List Nat} {ws : List (List Nat)} : gInS false (.str (S w)) (.lst (ws.map fun w => .str (S w))) = .ok (.bl (decide (w ∈ ws))) := by
  show (if flatD (.str (S w)) = true ∧ (ws.map fun w => D.str (S w)).all flatD = true then R.ok (D.bl (if false = true then !inV (toV (.str (S w))) ((ws.map fun w => D.str (S w)).map toV) else inV (toV (.str (S w))) ((ws.map fun w => D.str (S w)).map toV))) else gInP false (.str (S w)) (ws.map fun w => D.str (S w))) = _
  rw [if_pos ⟨rfl, by rw [List.all_map]; exact List.all_eq_true.mpr fun _ _ => rfl⟩, if_neg Bool.false_ne_true]
  congr 2
  unfold inV
  rw [List.map_map, List.any_map, Bool.eq_iff_iff, List.any_eq_true, decide_eq_true_eq]
  constructor
  · rintro ⟨u, m, e⟩
    have e2 : (S u == S w) = true := e
    rw [← S_inj (eq_of_beq e2)]
    exact m
  · intro m
    exact ⟨w, m, by show (S w == S w) = true; exact beq_self_eq_true _⟩
/-! ### names of small letters -/
theorem occ_abc : ∀ c : Nat, c < 26 → (!(Builtin.Str.occurrences (S abc) (S [c + 97]) 0 (S abc).length 1).isEmpty) = true := by decide +kernel
theorem in_abc {c : Nat} (h : 97 ≤ c ∧ c ≤ 122) : gInS false (.str (S [c])) (.str (S abc)) = .ok (.bl true) := by
  show R.ok (D.bl (!(Builtin.Str.occurrences (S abc) (S [c]) 0 (S abc).length 1).isEmpty)) = _
  have := occ_abc (c - 97) (by omega)
  rw [show c - 97 + 97 = c by omega] at this
  rw [this]
theorem is_name_ok {w : List Nat} (h : okName w) : F_is_name [.str (S w)] = .ok (.bl true) := by
  obtain ⟨h1, h2, h3⟩ := h
  have l : gLen [.str (S w)] = .ok (.int (w.length : Int)) := by rw [gLen_str (by rw [S_len, sz24]; omega), S_len]
  have c1 : decide ((1 : Int) ≤ (w.length : Int)) = true := decide_eq_true (by omega)
  have c2 : decide ((w.length : Int) ≤ 8) = true := decide_eq_true (by omega)
  have e := lc_all (inj := fun c => D.str (S [c])) (h := gN 1) (t := tsY) (fe := e2 (gInS false) (eV 1) (eC (.str (S abc)))) (ρ := [.v (.str (S w)), .no]) (fun _ => D.bl true) (l := w) fun c m =>
    ⟨[.v (.str (S w)), .v (.str (S [c]))], rfl, rfl, by simp only [e2_ap, eV_succ, eV_zero, eC_ap, bind_ok, in_abc (h3 c m)]⟩
  have sg : signs (S w) = w.map fun c => D.str (S [c]) := rfl
  have sz : (w.map fun c => D.str (S [c])).length ≤ sizeLine := by rw [List.length_map, sz24]; omega
  have all : w.map (fun _ => D.bl true) = (w.map fun _ => true).map D.bl := by rw [List.map_map]; rfl
  have all2 : (w.map fun _ => true).all id = true := by simp
  unfold F_is_name G_is_name
  simp only [abc_eq, runF_ap, show startE 2 [.str (S w)] = [.v (.str (S w)), .no] from rfl, sSq_ap, sIf_ap, tNot_ap, tV_ap, eChain_ap, eC_ap, eA_ap, aC_ap, aN_ap, eV_zero, bind_ok, l, gLe_int, Bof_bl, c1, c2, if_true, Bool.not_true, from_ok, if_false, Bool.false_eq_true, sN_ap, sq_nx, sRet_ap, eLc_ap, iSq_ap, gIt_str, sg, sz, wipeE_cons, wipeE_nil, List.set_cons_succ, List.set_cons_zero, e, all, gAll_map, all2, out_rt]
/-! ### bidders -/
abbrev Bd := List Nat × Int × Int
def dB (b : Bd) : D := .tup [.str (S b.1), .int b.2.1, .int b.2.2]
def load (b : Bd) : Int := b.2.1 * b.2.2
def okBd (b : Bd) : Prop := okName b.1 ∧ 1 ≤ b.2.1 ∧ b.2.1 ≤ 1000 ∧ 0 ≤ b.2.2 ∧ b.2.2 ≤ 1000000000
structure okCrew (bs : List Bd) : Prop where
  len : bs.length ≤ 6
  each : ∀ b ∈ bs, okBd b
  nd : (bs.map (·.1)).Nodup
theorem okCrew.rev {bs : List Bd} (h : okCrew bs) : okCrew bs.reverse := ⟨by rw [List.length_reverse]; exact h.len, fun b m => h.each b (List.mem_reverse.mp m), by rw [List.map_reverse]; exact List.pairwise_reverse.mpr (h.nd.imp Ne.symm)⟩
theorem mul_load {w b : Int} (h0 : 0 ≤ b) (h1 : b ≤ 1000000000) : gMul (.int w) (.int b) = .ok (.int (w * b)) := gMul_r (by omega) (by omega)
theorem names_of_ok {b : Bool} {bs : List Bd} (hl : bs.length ≤ 1000) : F_names_of [sqD b (bs.map dB)] = .ok (.lst ((bs.map (·.1)).map fun w => .str (S w))) := by
  have e := lc_all (inj := dB) (h := gT 3 (gsC (gN 1) (gsC (gN 2) (gsC (gN 3) (gsN))))) (t := tsY) (fe := eV 1) (ρ := [.v (sqD b (bs.map dB)), .no, .no, .no]) (fun x => .str (S x.1)) (l := bs) fun x m =>
    ⟨[.v (sqD b (bs.map dB)), .v (.str (S x.1)), .v (.int x.2.1), .v (.int x.2.2)], rfl, rfl, rfl⟩
  have sz : (bs.map dB).length ≤ sizeLine := by rw [List.length_map, sz24]; omega
  unfold F_names_of G_names_of
  simp only [runF_ap, show startE 4 [sqD b (bs.map dB)] = [.v (sqD b (bs.map dB)), .no, .no, .no] from rfl, sRet_ap, eLc_ap, iSq_ap, eV_zero, bind_ok, gIt_sq, sz, if_true, wipeE_cons, wipeE_nil, List.set_cons_succ, List.set_cons_zero, e, from_ok, out_rt, List.map_map]
  rfl
theorem strengths_ok {b : Bool} {bs : List Bd} (h : okCrew bs) : F_strengths_of [sqD b (bs.map dB)] = .ok (.lst ((bs.map load).map .int)) := by
  have e := lc_all (inj := dB) (h := gT 3 (gsC (gN 1) (gsC (gN 2) (gsC (gN 3) (gsN))))) (t := tsY) (fe := e2 gMul (eV 2) (eV 3)) (ρ := [.v (sqD b (bs.map dB)), .no, .no, .no]) (fun x => .int (load x)) (l := bs) fun x m =>
    ⟨[.v (sqD b (bs.map dB)), .v (.str (S x.1)), .v (.int x.2.1), .v (.int x.2.2)], rfl, rfl, by
      obtain ⟨_, _, _, h0, h1⟩ := h.each x m
      simp only [e2_ap, eV_succ, eV_zero, bind_ok, mul_load h0 h1]
      rfl⟩
  have sz : (bs.map dB).length ≤ sizeLine := by rw [List.length_map, sz24]; have := h.len; omega
  unfold F_strengths_of G_strengths_of
  simp only [runF_ap, show startE 4 [sqD b (bs.map dB)] = [.v (sqD b (bs.map dB)), .no, .no, .no] from rfl, sRet_ap, eLc_ap, iSq_ap, eV_zero, bind_ok, gIt_sq, sz, if_true, wipeE_cons, wipeE_nil, List.set_cons_succ, List.set_cons_zero, e, from_ok, out_rt, List.map_map]
  rfl
theorem take_map {α β : Type} (f : α → β) (l : List α) (n : Nat) : (l.map f).take n = (l.take n).map f := List.map_take.symm
theorem check_loop {b : Bool} {bs : List Bd} (h : okCrew bs) : ∃ ρ, loop (gT 2 (gsC (gN 1) (gsC (gT 3 (gsC (gN 2) (gsC (gN 3) (gsC (gN 4) (gsN))))) (gsN)))) B_check_bidders_1 (enumD 0 (bs.map dB)) [.v (sqD b (bs.map dB)), .no, .no, .no, .no] = .nx ρ := by
  obtain ⟨ρ', e, _⟩ := loop_en (inj := dB) (h := gT 2 (gsC (gN 1) (gsC (gT 3 (gsC (gN 2) (gsC (gN 3) (gsC (gN 4) (gsN))))) (gsN)))) (body := B_check_bidders_1) (l := bs) (ρ := [.v (sqD b (bs.map dB)), .no, .no, .no, .no])
    (fun _ ρ => ∃ s1 s2 s3 s4 : Sl, ρ = [.v (sqD b (bs.map dB)), s1, s2, s3, s4]) ⟨_, _, _, _, rfl⟩ (by
      rintro i x ρ q ⟨s1, s2, s3, s4, rfl⟩
      obtain ⟨hn, w0, w1, b0, b1⟩ := h.each x (List.mem_of_getElem? q)
      refine ⟨[.v (sqD b (bs.map dB)), .v (.int (i : Int)), .v (.str (S x.1)), .v (.int x.2.1), .v (.int x.2.2)], rfl, ?_⟩
      have n1 := is_name_ok hn
      have sl := gSl_sq (b := b) (xs := bs.map dB) (j := (i : Int)) (by omega)
      rw [Int.toNat_natCast, take_map] at sl
      have n2 := names_of_ok (b := b) (bs := bs.take i) (by rw [List.length_take]; have := h.len; omega)
      have n3 := in_strs (w := x.1) (ws := (bs.take i).map (·.1))
      have nin : decide (x.1 ∈ (bs.take i).map (·.1)) = false := decide_eq_false fun m => by
        obtain ⟨y, m1, m2⟩ := List.mem_map.mp m
        obtain ⟨j, hj⟩ := List.mem_iff_getElem?.mp m1
        rw [List.getElem?_take] at hj
        split at hj
        · rename_i ji
          obtain ⟨l1, g1⟩ := List.getElem?_eq_some_iff.mp hj
          obtain ⟨l2, g2⟩ := List.getElem?_eq_some_iff.mp q
          refine List.pairwise_iff_getElem.mp h.nd j i (by rw [List.length_map]; exact l1) (by rw [List.length_map]; exact l2) ji ?_
          rw [List.getElem_map, List.getElem_map, g1, g2, m2]
        · cases hj
      have d1 : decide ((1 : Int) ≤ x.2.1) = true := decide_eq_true w0
      have d2 : decide (x.2.1 ≤ (1000 : Int)) = true := decide_eq_true w1
      have d3 : decide ((0 : Int) ≤ x.2.2) = true := decide_eq_true b0
      have d4 : decide (x.2.2 ≤ (1000000000 : Int)) = true := decide_eq_true b1
      unfold B_check_bidders_1
      simp only [sSq_ap, sIf_ap, tNot_ap, tV_ap, eChain_ap, eC_ap, eCall_ap, aC_ap, aN_ap, eV_zero, eV_succ, bind_ok, List.length_cons, List.length_nil, Nat.zero_add, if_true, n1, Bof_bl, Bool.not_true, Bool.false_eq_true, if_false, from_ok, sN_ap, sq_nx, e2_ap, eSl_ap, oN_ap, oS_ap, sl, n2, n3, nin, gLe_int, d1, d2, d3, d4, goes_nx]
      exact ⟨_, _, _, _, rfl⟩)
  exact ⟨ρ', e⟩
theorem check_ok {b : Bool} {bs : List Bd} (h : okCrew bs) : F_check_bidders [sqD b (bs.map dB)] = .ok .non := by
  obtain ⟨ρ, e⟩ := check_loop (b := b) h
  have d : decide ((6 : Int) < ((bs.map dB).length : Int)) = false := decide_eq_false (by rw [List.length_map]; have := h.len; omega)
  unfold F_check_bidders G_check_bidders
  simp only [runF_ap, show startE 5 [sqD b (bs.map dB)] = [.v (sqD b (bs.map dB)), .no, .no, .no, .no] from rfl, sSq_ap, sIf_ap, tV_ap, e2_ap, eA_ap, aC_ap, aN_ap, eC_ap, eV_zero, bind_ok, gLen_sq, gGt_int, d, Bof_bl, from_ok, Bool.false_eq_true, if_false, sN_ap, sq_nx, sFor_ap, iEn2_ap, seqD_sq, optR_some, e, out_nx]
end Tk

namespace Tk
open PySem PySem.Spec L2 PyProof.Rows
section
variable {ρ : Ev} {d : D} {s : Sl} {i : Nat}
theorem eFrz_ap {f : Ev → R Sl} : eFrz f ρ = (f ρ).bind frzR := (rfl)
theorem frzR_k {xs : List (Key × D)} : frzR (.k xs) = .ok (.dK xs) := (rfl)
theorem frzR_t {xs : List (List Key × D)} : frzR (.t xs) = .ok (.dT xs) := (rfl)
theorem frzR_o {g : Option Addr} {c : Nat} {fs : List (Nat × D)} : frzR (.o g c fs) = .ok (.ins c fs) := (rfl)
theorem nMake_ap {c n : Nat} {F : Addr → List D → R (List (Nat × D))} {fa : Ev → R (List D)} : nMake c n F fa ρ = (fa ρ).bind fun ds => if ds.length + 1 = n then (unA fun a => F a ds).bind fun fs => .ok (.o none c fs) else .bad := (rfl)
theorem nMakeK_ap {c n m p : Nat} {F : Addr → List D → R (List (Nat × D))} {gD : List D → List D → List D} {fa fk : Ev → R (List D)} : nMakeK c n m p F gD fa fk ρ = (fa ρ).bind fun ds => (fk ρ).bind fun zs => if ds.length = n ∧ zs.length = m ∧ (gD ds zs).length + 1 = p then (unA fun a => F a (gD ds zs)).bind fun fs => .ok (.o none c fs) else .bad := (rfl)
theorem ownO_zero {g : Option Addr} {c : Nat} {fs : List (Nat × D)} : ownO (.o g c fs :: ρ) 0 = .ok (g, c, fs) := (rfl)
theorem sFldO_ap {cs : List Nat} {f : Nat} {fe : Ev → R D} : sFldO cs i f fe ρ = SO.from ρ (fe ρ) fun d => SO.from ρ (ownO ρ i) fun q => if q.2.1 ∈ cs ∧ q.2.2.length < 1000 then .nx (ρ.set i (.o q.1 q.2.1 (putN f d q.2.2))) else .bad := (rfl)
theorem eFldO_ap {cs : List Nat} {f : Nat} : eFldO cs i f ρ = (ownO ρ i).bind fun q => if q.2.1 ∈ cs then optR (q.2.2.lookup f) else .bad := (rfl)
theorem runI_ap {c n : Nat} {g : Ev → SO} {a : Addr} {ds : List D} : runI c n g a ds = (g (startI a c n ds)).outI a c := (rfl)
theorem outI_nx {a : Addr} {c : Nat} {fs : List (Nat × D)} : SO.outI a c (.nx (.o (some a) c fs :: ρ)) = .ok fs := by
  show (if some a = some a ∧ c = c then R.ok fs else .bad) = _
  rw [if_pos ⟨rfl, rfl⟩]
theorem putN_nil {f : Nat} : putN f d [] = [(f, d)] := (rfl)
theorem putN_cons {f g : Nat} {x : D} {r : List (Nat × D)} : putN f d ((g, x) :: r) = if g = f then (g, d) :: r else (g, x) :: putN f d r := (rfl)
theorem nDc_ap {zs : List Nat} {fi : Ev → R (List D)} {h : Tg} {t : Ev → R Bool} {fk fv : Ev → R D} : nDc zs fi h t fk fv ρ = (fi ρ).bind fun ds => if ds.length ≤ sizeLine then (dcL h t fk fv (wipeE ρ zs) [] ds).bind fun kvs => .ok (.k kvs) else .bad := (rfl)
theorem eGet2_ap {fo fa fb : Ev → R D} : eGet2 fo fa fb ρ = (fo ρ).bind fun o => if isDict o = true then (fa ρ).bind fun a => (fb ρ).bind fun b => gGet2 o a b else .bad := (rfl)
theorem isDict_k {xs : List (Key × D)} : isDict (.dK xs) = true := (rfl)
theorem eIsi_ap {tab : List (Kd × Bool)} {f : Ev → R D} : eIsi tab f ρ = (f ρ).bind fun d => (optR (isiTab tab d)).bind fun b => .ok (.bl b) := (rfl)
theorem gFld_ins {cs : List Nat} {f c : Nat} {fs : List (Nat × D)} : gFld cs f (.ins c fs) = if c ∈ cs ∧ (fs.map (·.1)).all (fun k => k ≤ 1000) = true then optR (fs.lookup f) else .bad := (rfl)
theorem eMeth_ap {c nf n : Nat} {F : List D → R D} {fo : Ev → R D} {fa : Ev → R (List D)} : eMeth c nf n F fo fa ρ = (fo ρ).bind fun d => if insB c nf d = true then (fa ρ).bind fun ds => if ds.length + 1 = n then F (d :: ds) else .bad else .bad := (rfl)
theorem eMethK_ap {c nf n m p : Nat} {F : List D → R D} {gD : List D → List D → List D} {fo : Ev → R D} {fa fk : Ev → R (List D)} : eMethK c nf n m p F gD fo fa fk ρ = (fo ρ).bind fun d => if insB c nf d = true then (fa ρ).bind fun ds => (fk ρ).bind fun zs => if ds.length = n ∧ zs.length = m ∧ (gD ds zs).length + 1 = p then F (d :: gD ds zs) else .bad else .bad := (rfl)
theorem sPar_ap {i j : Nat} {fa : Ev → R (List D)} : sPar i j fa ρ = SO.from ρ (fa ρ) fun ds => match ds with
  | [a, b] => .nx ((ρ.set i (.v a)).set j (.v b))
  | _ => .bad := (rfl)
theorem sOwnZ_ap {fl : Ev → R (List D)} : sOwnZ i fl ρ = SO.from ρ (fl ρ) fun ds => .nx (ρ.set i (.v (.lst ds))) := (rfl)
end
theorem cut_lo {α : Type} {l : List α} {j : Int} (h : 0 ≤ j) : cutD l (some j) none = l.drop j.toNat := by
  have e : HT.sIx l.length 0 (some j) = min j.toNat l.length := by
    show (if j < 0 then (j + (l.length : Int)).toNat else min j.toNat l.length) = _
    rw [if_neg (by omega)]
  unfold cutD
  rw [e, HT.sIx_none]
  by_cases z : j.toNat ≤ l.length
  · rw [Nat.min_eq_left z, List.take_of_length_le (by rw [List.length_drop]; exact Nat.le_refl _)]
  · rw [Nat.min_eq_right (by omega), List.drop_eq_nil_of_le (Nat.le_refl _), List.drop_eq_nil_of_le (by omega), List.take_nil]
theorem gSl_lo' {b : Bool} {xs : List D} {j : Int} (h : 0 ≤ j) : gSl (sqD b xs) (some j) none = .ok (sqD b (xs.drop j.toNat)) := by
  cases b
  · show R.ok (D.lst (cutD xs (some j) none)) = _
    rw [cut_lo h] <;> rfl
  · show R.ok (D.tup (cutD xs (some j) none)) = _
    rw [cut_lo h] <;> rfl
end Tk

namespace Tk
open PySem PySem.Spec L2 PyProof.Rows
/-! ### dicts of distinct keys -/
theorem putG_new {α : Type} {kvs : List (Key × α)} {k : Key} {v : α} (h : k ∉ kvs.map (·.1)) : putG kvs k v = kvs ++ [(k, v)] := by
  unfold putG
  rw [if_neg]
  rw [List.any_eq_true]
  rintro ⟨x, m, e⟩
  exact h (List.mem_map.mpr ⟨x, m, of_decide_eq_true e⟩)
theorem mergeG_new {α : Type} : ∀ {more kvs : List (Key × α)}, (more.map (·.1)).Nodup → (∀ x ∈ more.map (·.1), x ∉ kvs.map (·.1)) → mergeG kvs more = kvs ++ more
  | [], kvs, _, _ => by simp [mergeG]
  | (k, v) :: more, kvs, nd, dj => by
    rw [List.map_cons, List.nodup_cons] at nd
    show mergeG (putG kvs k v) more = _
    rw [putG_new (dj k (by simp)), mergeG_new nd.2]
    · simp
    · intro x m
      rw [List.map_append]
      intro z
      rcases List.mem_append.mp z with z | z
      · exact dj x (by rw [List.map_cons]; exact List.mem_cons_of_mem _ m) z
      · have : x = k := by simpa using z
        exact nd.1 (this ▸ m)
theorem getG_zip {α : Type} : ∀ {ks : List Key} {vs : List α} {i : Nat} {k : Key} {v : α}, ks.Nodup → ks[i]? = some k → vs[i]? = some v → getG (ks.zip vs) k = some v
  | [], _, _, _, _, _, e, _ => by simp at e
  | _ :: _, [], _, _, _, _, _, e => by simp at e
  | k' :: ks, v' :: vs, i, k, v, nd, e1, e2 => by
    rw [List.nodup_cons] at nd
    unfold getG
    rw [List.zip_cons_cons, List.find?_cons]
    cases i with
    | zero =>
      have h1 : k' = k := by simpa using e1
      have h2 : v' = v := by simpa using e2
      simp [h1, h2]
    | succ i =>
      rw [List.getElem?_cons_succ] at e1 e2
      have ne : k' ≠ k := fun z => nd.1 (z ▸ List.mem_of_getElem? e1)
      rw [decide_eq_false ne]
      exact getG_zip nd.2 e1 e2
theorem keys_names : ∀ ws : List (List Nat), keysD (ws.map nD) = some (ws.map fun w => (.inr (S w) : Key))
  | [] => rfl
  | w :: ws => by
    show (match keyD (nD w), keysD (ws.map nD) with
      | some k, some ks => some (k :: ks)
      | _, _ => none) = _
    rw [keys_names ws]
    rfl
theorem nd_keys {ws : List (List Nat)} (h : ws.Nodup) : (ws.map fun w => (.inr (S w) : Key)).Nodup :=
  List.pairwise_map.mpr (h.imp fun {a b} ne e => ne (S_inj (Sum.inr.inj e)))
/-! ### the one with the most passes -/
/-- name ms[i] has the number ps[i] -/
def numOf (ms : List (List Nat)) (ps : List Int) (w : List Nat) : Int := (ps.getD (ms.idxOf w) 0)
theorem idx_name {ms : List (List Nat)} (nd : ms.Nodup) {i : Nat} {w : List Nat} (h : ms[i]? = some w) : ms.idxOf w = i := by
  obtain ⟨hi, e⟩ := List.getElem?_eq_some_iff.mp h
  have m : w ∈ ms := List.mem_of_getElem? h
  have h2 : ms.idxOf w < ms.length := List.idxOf_lt_length_iff.mpr m
  have h3 : ms[ms.idxOf w] = w := List.getElem_idxOf h2
  exact (List.getElem_inj nd).mp (h3.trans e.symm)
theorem dz_names {ms : List (List Nat)} {ps : List Int} (nd : ms.Nodup) (hl : ps.length = ms.length) {w : List Nat} (hw : w ∈ ms) :
    gIxA (.dK (mergeG [] ((ms.map fun w => (.inr (S w) : Key)).zip (ps.map D.int)))) (nD w) = .ok (.int (numOf ms ps w)) := by
  obtain ⟨i, hi⟩ := List.mem_iff_getElem?.mp hw
  have li : i < ms.length := (List.getElem?_eq_some_iff.mp hi).1
  have hp : ps[i]? = some (ps[i]'(by omega)) := List.getElem?_eq_getElem _
  have e1 : mergeG [] ((ms.map fun w => (.inr (S w) : Key)).zip (ps.map D.int)) = (ms.map fun w => (.inr (S w) : Key)).zip (ps.map D.int) := by
    rw [mergeG_new]
    · simp
    · rw [List.map_fst_zip (by simp; omega)]
      exact nd_keys nd
    · intro x _
      simp
  have e2 : getG ((ms.map fun w => (.inr (S w) : Key)).zip (ps.map D.int)) (.inr (S w)) = some (.int (numOf ms ps w)) := by
    refine getG_zip (i := i) (nd_keys nd) (by rw [List.getElem?_map, hi]; rfl) ?_
    rw [List.getElem?_map, hp]
    unfold numOf
    rw [idx_name nd hi, List.getD_eq_getElem?_getD, hp]
    rfl
  show (optR (some (.inr (S w) : Key))).bind (fun k => optR (getG (mergeG [] ((ms.map fun w => (.inr (S w) : Key)).zip (ps.map D.int))) k)) = _
  show optR (getG (mergeG [] ((ms.map fun w => (.inr (S w) : Key)).zip (ps.map D.int))) (.inr (S w))) = _
  rw [e1, e2]
  rfl
/-- the choice, candidate by candidate -/
def lonStep (f : List Nat → Int) (c m : List Nat) : List Nat := if c = [] ∨ f c < f m then m else c
def lonL (f : List Nat → Int) (cs : List (List Nat)) : List Nat := cs.foldl (lonStep f) []
theorem lon_run (f : List Nat → Int) (c : List Nat) (cs : List (List Nat)) (h0 : c ≠ []) (hn : ∀ m ∈ cs, m ≠ []) : (cs.foldl (lonStep f) c = c ∨ cs.foldl (lonStep f) c ∈ cs) ∧ f c ≤ f (cs.foldl (lonStep f) c) ∧ (∀ m ∈ cs, f m ≤ f (cs.foldl (lonStep f) c)) ∧ cs.foldl (lonStep f) c ≠ [] := by
  induction cs generalizing c with
  | nil => exact ⟨.inl rfl, Int.le_refl _, (fun m h => nomatch h), h0⟩
  | cons m cs ih =>
    have hm : m ≠ [] := hn m (by simp)
    have hcs : ∀ m ∈ cs, m ≠ [] := fun x hx => hn x (List.mem_cons_of_mem _ hx)
    show ((cs.foldl (lonStep f) (lonStep f c m) = c ∨ cs.foldl (lonStep f) (lonStep f c m) ∈ m :: cs)) ∧ f c ≤ f (cs.foldl (lonStep f) (lonStep f c m)) ∧ (∀ x ∈ m :: cs, f x ≤ f (cs.foldl (lonStep f) (lonStep f c m))) ∧ cs.foldl (lonStep f) (lonStep f c m) ≠ []
    unfold lonStep
    by_cases q : c = [] ∨ f c < f m
    · simp only [if_pos q]
      obtain ⟨a1, a2, a3, a4⟩ := ih m hm hcs
      have q2 : f c < f m := q.resolve_left h0
      refine ⟨.inr ?_, by unfold lonStep at a2; omega, ?_, a4⟩
      · rcases a1 with a1 | a1
        · have a1' := a1
          unfold lonStep at a1'
          rw [a1']
          simp
        · exact List.mem_cons_of_mem _ a1
      · intro x hx
        rcases List.mem_cons.mp hx with rfl | hx
        · exact a2
        · exact a3 x hx
    · simp only [if_neg q]
      obtain ⟨a1, a2, a3, a4⟩ := ih c h0 hcs
      have q2 : ¬ f c < f m := fun z => q (.inr z)
      refine ⟨a1.imp id (List.mem_cons_of_mem _), a2, ?_, a4⟩
      intro x hx
      rcases List.mem_cons.mp hx with rfl | hx
      · unfold lonStep at a2; omega
      · exact a3 x hx
theorem lon_ok {f : List Nat → Int} {cs : List (List Nat)} (hn : ∀ m ∈ cs, m ≠ []) : (cs = [] ∧ lonL f cs = []) ∨ (lonL f cs ∈ cs ∧ ∀ m ∈ cs, f m ≤ f (lonL f cs)) := by
  cases cs with
  | nil => exact .inl ⟨rfl, rfl⟩
  | cons m cs =>
    right
    have hm : m ≠ [] := hn m (by simp)
    have e : lonL f (m :: cs) = cs.foldl (lonStep f) m := by
      show cs.foldl (lonStep f) (lonStep f [] m) = _
      unfold lonStep
      rw [if_pos (.inl rfl)]
    obtain ⟨a1, a2, a3, _⟩ := lon_run f m cs hm fun x hx => hn x (List.mem_cons_of_mem _ hx)
    rw [e]
    refine ⟨?_, fun x hx => ?_⟩
    · rcases a1 with a1 | a1
      · rw [a1]; simp
      · exact List.mem_cons_of_mem _ a1
    · rcases List.mem_cons.mp hx with rfl | hx
      · exact a2
      · exact a3 x hx
theorem longest_ok {ms cs : List (List Nat)} {ps : List Int} (nd : ms.Nodup) (hl : ps.length = ms.length) (hc : ∀ m ∈ cs, m ∈ ms) : F_longest [.tup (ms.map nD), .tup (ps.map .int), .tup (cs.map nD)] = .ok (nD (lonL (numOf ms ps) cs)) := by
  let dd : D := .dK (mergeG [] ((ms.map fun w => (.inr (S w) : Key)).zip (ps.map D.int)))
  obtain ⟨ρ', e, s, hk, rfl⟩ := loop_map (inj := nD) (h := gN 5) (body := B_longest_1) (l := cs) (ρ := [.v (.tup (ms.map nD)), .v (.tup (ps.map .int)), .v (.tup (cs.map nD)), .v dd, .v (nD []), .no])
    (fun i ρ => ∃ s : Sl, ((cs.take i).foldl (lonStep (numOf ms ps)) [] = [] ∨ (cs.take i).foldl (lonStep (numOf ms ps)) [] ∈ ms) ∧ ρ = [.v (.tup (ms.map nD)), .v (.tup (ps.map .int)), .v (.tup (cs.map nD)), .v dd, .v (nD ((cs.take i).foldl (lonStep (numOf ms ps)) [])), s]) ⟨_, .inl rfl, rfl⟩ (by
      rintro i m ρ q ⟨s, hk, rfl⟩
      refine ⟨_, rfl, ?_⟩
      have mm : m ∈ ms := hc m (List.mem_of_getElem? q)
      have e1 : (cs.take (i + 1)).foldl (lonStep (numOf ms ps)) [] = lonStep (numOf ms ps) ((cs.take i).foldl (lonStep (numOf ms ps)) []) m := by rw [List.take_succ, q, List.foldl_append]; rfl
      generalize (cs.take i).foldl (lonStep (numOf ms ps)) [] = c at *
      have g1 : gIxA dd (nD m) = .ok (.int (numOf ms ps m)) := dz_names nd hl mm
      show SO.goes (B_longest_1 [.v (.tup (ms.map nD)), .v (.tup (ps.map .int)), .v (.tup (cs.map nD)), .v dd, .v (nD c), .v (nD m)]) _
      have st : B_longest_1 [.v (.tup (ms.map nD)), .v (.tup (ps.map .int)), .v (.tup (cs.map nD)), .v dd, .v (nD c), .v (nD m)] = .nx [.v (.tup (ms.map nD)), .v (.tup (ps.map .int)), .v (.tup (cs.map nD)), .v dd, .v (nD (lonStep (numOf ms ps) c m)), .v (nD m)] := by
        unfold B_longest_1
        by_cases z : c = []
        · have e2 : lonStep (numOf ms ps) c m = m := if_pos (.inl z)
          rw [e2]
          simp only [none_eq, sIf_ap, tOr_ap, tV_ap, e2_ap, eC_ap, eV_succ, eV_zero, bind_ok, eq_names, decide_eq_true z, Bof_bl, if_true, from_ok, sSet_ap, List.set_cons_succ, List.set_cons_zero]
        · have cm : c ∈ ms := hk.resolve_left z
          have g2 : gIxA dd (nD c) = .ok (.int (numOf ms ps c)) := dz_names nd hl cm
          by_cases y : numOf ms ps c < numOf ms ps m
          · have e2 : lonStep (numOf ms ps) c m = m := if_pos (.inr y)
            rw [e2]
            simp only [none_eq, sIf_ap, tOr_ap, tV_ap, e2_ap, eC_ap, eV_succ, eV_zero, bind_ok, eq_names, decide_eq_false z, Bof_bl, Bool.false_eq_true, if_false, g1, g2, gGt_int, decide_eq_true y, if_true, from_ok, sSet_ap, List.set_cons_succ, List.set_cons_zero]
          · have e2 : lonStep (numOf ms ps) c m = c := if_neg (fun h => h.elim z y)
            rw [e2]
            simp only [none_eq, sIf_ap, tOr_ap, tV_ap, e2_ap, eC_ap, eV_succ, eV_zero, bind_ok, eq_names, decide_eq_false z, Bof_bl, Bool.false_eq_true, if_false, g1, g2, gGt_int, decide_eq_false y, from_ok, sN_ap]
      rw [st]
      refine ⟨_, ?_, by rw [e1]⟩
      rw [e1]
      unfold lonStep
      split
      · exact .inr mm
      · exact hk)
  rw [List.take_length] at e
  have kn := keys_names ms
  unfold F_longest G_longest
  have dz : eDz (eV 0) (eV 1) [.v (.tup (ms.map nD)), .v (.tup (ps.map .int)), .v (.tup (cs.map nD)), .no, .no, .no] = .ok dd := by
    unfold eDz
    simp only [eV_succ, eV_zero, bind_ok, seqD_tup, optR_some, kn]
    rfl
  simp only [none_eq, runF_ap, show startE 6 [.tup (ms.map nD), .tup (ps.map .int), .tup (cs.map nD)] = [.v (.tup (ms.map nD)), .v (.tup (ps.map .int)), .v (.tup (cs.map nD)), .no, .no, .no] from rfl, sSq_ap, sSet_ap, sFor_ap, iSq_ap, sRet_ap, eC_ap, dz, eV_succ, eV_zero, bind_ok, from_ok, sq_nx, gIt_tup, List.set_cons_succ, List.set_cons_zero, e, out_rt]
  rfl
end Tk

namespace Tk
open PySem PySem.Spec L2 PyProof.Rows
/-! ### ballots, rows, rolls -/
abbrev Bal := List (List Nat)
abbrev Row := Bal × Int
def bD (b : Bal) : D := .tup (b.map nD)
def zD (b : Bal) : D := .tpz (b.map nD)
def rowD (r : Row) : D := .tup [bD r.1, .int r.2]
def keyW (w : List Nat) : Key := .inr (S w)
def keyB (b : Bal) : List Key := b.map keyW
theorem keyW_inj {a b : List Nat} (h : keyW a = keyW b) : a = b := S_inj (Sum.inr.inj h)
theorem keyB_inj : ∀ {a b : Bal}, keyB a = keyB b → a = b
  | [], [], _ => rfl
  | [], _ :: _, h => by cases h
  | _ :: _, [], h => by cases h
  | x :: a, y :: b, h => by
    injection h with h1 h2
    rw [keyW_inj h1, keyB_inj h2]
theorem keysD_names : ∀ b : Bal, keysD (b.map nD) = some (keyB b)
  | [] => rfl
  | w :: b => by
    show (match keyD (nD w), keysD (b.map nD) with
      | some k, some ks => some (k :: ks)
      | _, _ => none) = _
    rw [keysD_names b]
    rfl
theorem keyT_bD {b : Bal} : keyT (bD b) = some (keyB b) := keysD_names b
theorem dKey_keyB {b : Bal} : (keyB b).map dKey = b.map nD := by unfold keyB; rw [List.map_map]; rfl
structure okOpts (os : Bal) : Prop where
  pos : 1 ≤ os.length
  few : os.length ≤ 4
  each : ∀ w ∈ os, okName w
  nd : os.Nodup
structure okBal (os b : Bal) : Prop where
  nd : b.Nodup
  sub : ∀ w ∈ b, w ∈ os
theorem sub_len {α : Type} [DecidableEq α] : ∀ {b os : List α}, b.Nodup → (∀ w ∈ b, w ∈ os) → b.length ≤ os.length
  | [], _, _, _ => Nat.zero_le _
  | w :: b, os, h, s => by
    have hw := s w List.mem_cons_self
    have hn := List.nodup_cons.mp h
    have := sub_len (b := b) (os := os.erase w) hn.2 fun x m => (List.mem_erase_of_ne (fun e => hn.1 (by rw [← e]; exact m))).mpr (s x (List.mem_cons_of_mem _ m))
    rw [List.length_erase_of_mem hw] at this
    have : 0 < os.length := List.length_pos_of_mem hw
    rw [List.length_cons]
    omega
theorem nd_get {α : Type} {l : List α} (h : l.Nodup) {i j : Nat} {a : α} (h1 : l[i]? = some a) (h2 : l[j]? = some a) : i = j := by
  obtain ⟨i1, e1⟩ := List.getElem?_eq_some_iff.mp h1
  obtain ⟨j1, e2⟩ := List.getElem?_eq_some_iff.mp h2
  have p := List.pairwise_iff_getElem.mp h
  rcases Nat.lt_trichotomy i j with z | z | z
  · exact absurd (e1.trans e2.symm) (p i j i1 j1 z)
  · exact z
  · exact absurd (e2.trans e1.symm) (p j i j1 i1 z)
theorem nd_take {α : Type} {l : List α} (h : l.Nodup) {i : Nat} {a : α} (q : l[i]? = some a) : a ∉ l.take i := fun m => by
  obtain ⟨k, k1, k2⟩ := List.getElem_of_mem m
  rw [List.length_take] at k1
  rw [List.getElem_take] at k2
  have := nd_get h q (j := k) (List.getElem?_eq_some_iff.mpr ⟨by omega, k2⟩)
  omega
theorem okBal.len {os b : Bal} (h : okBal os b) : b.length ≤ os.length := sub_len h.nd h.sub
theorem okBal.nil {os : Bal} : okBal os [] := ⟨.nil, fun _ m => nomatch m⟩
/-! the mirrors' words for tuples without a dict -/
section
variable {xs : List D} {b : Bal} {w : List Nat}
@[simp] theorem gIt_tpz : gIt (.tpz xs) = .ok xs := (rfl)
@[simp] theorem gIt_tp0 : gIt .tp0 = .ok [] := (rfl)
@[simp] theorem gLen_tpz : gLen [.tpz xs] = .ok (.int xs.length) := (rfl)
@[simp] theorem gList_tpz : gList [.tpz xs] = .ok (.lst xs) := (rfl)
@[simp] theorem gTuple_tpz : gTuple [.tpz xs] = .ok (.tpz xs) := (rfl)
@[simp] theorem gTupZ_lst : gTupZ [.lst xs] = .ok (.tpz xs) := (rfl)
@[simp] theorem gTupZ_tpz : gTupZ [.tpz xs] = .ok (.tpz xs) := (rfl)
@[simp] theorem seqD_tpz : seqD (.tpz xs) = some (true, xs) := (rfl)
theorem in_tpz {ws : Bal} : gInS false (nD w) (.tpz (ws.map nD)) = .ok (.bl (decide (w ∈ ws))) := by
  show (if flatD (nD w) = true ∧ (ws.map nD).all flatD = true then R.ok (D.bl (if false = true then !inV (toV (nD w)) ((ws.map nD).map toV) else inV (toV (nD w)) ((ws.map nD).map toV))) else .bad) = _
  rw [if_pos ⟨rfl, flat_names⟩, if_neg Bool.false_ne_true, inV_names]
theorem nin_tpz {ws : Bal} : gInS true (nD w) (.tpz (ws.map nD)) = .ok (.bl (!decide (w ∈ ws))) := by
  show (if flatD (nD w) = true ∧ (ws.map nD).all flatD = true then R.ok (D.bl (if true = true then !inV (toV (nD w)) ((ws.map nD).map toV) else inV (toV (nD w)) ((ws.map nD).map toV))) else .bad) = _
  rw [if_pos ⟨rfl, flat_names⟩, if_pos rfl, inV_names]
theorem gIx_tpz {j : Int} (h : 0 ≤ j) (h2 : j < xs.length) : gIx (.tpz xs) (.int j) = optR xs[j.toNat]? := by
  show optR (L2.atI xs j) = _
  rw [atI_nn h h2]
theorem gIx_mapZ {α : Type} {inj : α → D} {l : List α} {j : Int} {a : α} (h : 0 ≤ j) (e : l[j.toNat]? = some a) : gIx (.tpz (l.map inj)) (.int j) = .ok (inj a) := by
  have h2 : j.toNat < l.length := (List.getElem?_eq_some_iff.mp e).1
  rw [gIx_tpz h (by rw [List.length_map]; omega), List.getElem?_map, e]
  rfl
theorem sPutT_ap {ρ : Ev} {i : Nat} {f fi : Ev → R D} : sPutT i fi f ρ = SO.from ρ (f ρ) fun d => SO.from ρ (ownT ρ i) fun kvs => SO.from ρ (fi ρ) fun y => match keyT y with
  | some k => if kvs.length < sizeLine then .nx (ρ.set i (.t (putG kvs k d))) else .bad
  | none => .bad := (rfl)
theorem nDT_ap {ρ : Ev} : nDT ρ = .ok (.t []) := (rfl)
theorem ownT_zero {ρ : Ev} {kvs : List (List Key × D)} : ownT (.t kvs :: ρ) 0 = .ok kvs := (rfl)
theorem ownT_succ {ρ : Ev} {s : Sl} {i : Nat} : ownT (s :: ρ) (i + 1) = ownT ρ i := (rfl)
theorem frzS_t {kvs : List (List Key × D)} : frzS (.t kvs) = .v (.dT kvs) := (rfl)
theorem frzS_o {g : Option Addr} {c : Nat} {fs : List (Nat × D)} : frzS (.o g c fs) = .v (.ins c fs) := (rfl)
theorem own_t {kvs : List (List Key × D)} : Sl.own (.t kvs) = true := (rfl)
theorem iDun_ap {ρ : Ev} {c : Nat} {F : List D → R D} {fo : Ev → R D} : iDun c F fo ρ = (fo ρ).bind fun d => if isIns c d = true then R.tup (F [d]) else .bad := (rfl)
theorem iKeyT_zT {ρ : Ev} {fo : Ev → R D} : iKeyT fo ρ = (fo ρ).bind fun d => match d with
  | .zT kvs => .ok (kvs.map fun kv => .tup (kv.1.map dKey))
  | _ => .bad := (rfl)
end
/-! ### a ballot is looked at -/
theorem checkB_ok {os b : Bal} (h4 : os.length ≤ 4) (h : okBal os b) : F_check_ballot [zD os, bD b] = .ok .non := by
  have hl := h.len
  obtain ⟨ρ', e, s1, s2, rfl⟩ := loop_en (inj := nD) (h := gT 2 (gsC (gN 2) (gsC (gN 3) (gsN)))) (body := B_check_ballot_1) (l := b) (ρ := [.v (zD os), .v (bD b), .no, .no])
    (fun _ ρ => ∃ s1 s2 : Sl, ρ = [.v (zD os), .v (bD b), s1, s2]) ⟨_, _, rfl⟩ (by
      rintro i w ρ q ⟨s1, s2, rfl⟩
      refine ⟨[.v (zD os), .v (bD b), .v (.int (i : Int)), .v (nD w)], rfl, ?_⟩
      have m : w ∈ os := h.sub w (List.mem_of_getElem? q)
      have n1 : gInS true (nD w) (zD os) = .ok (.bl false) := by unfold zD; rw [nin_tpz, decide_eq_true m]; rfl
      have sl : gSl (bD b) none (some (i : Int)) = .ok (bD (b.take i)) := by
        have := gSl_sq (b := true) (xs := b.map nD) (j := (i : Int)) (by omega)
        rw [Int.toNat_natCast, ← List.map_take] at this
        exact this
      have n2 : gInS false (nD w) (bD (b.take i)) = .ok (.bl false) := by
        unfold bD
        rw [in_tup, decide_eq_false]
        exact nd_take h.nd q
      unfold B_check_ballot_1
      simp_arith [n1, sl, n2]
      exact ⟨_, _, rfl⟩)
  unfold F_check_ballot G_check_ballot
  have sq : seqD (bD b) = some (true, b.map nD) := rfl
  simp_arith [sq, optR_some, e]
/-! ### names are looked at -/
def nmsD : Bool → Bal → D
  | false, os => .lst (os.map nD)
  | true, os => zD os
theorem checkN_ok {z : Bool} {os : Bal} (h : okOpts os) : F_checked_names [nmsD z os, .int 4, .bl false] = .ok (zD os) := by
  have sl : ∀ i : Nat, ∃ d, gSl (nmsD z os) none (some (i : Int)) = .ok d ∧ ∀ w, gInS false (nD w) d = .ok (.bl (decide (w ∈ os.take i))) := fun i => by
    cases z with
    | false =>
      refine ⟨_, gSl_lst (xs := os.map nD) (j := (i : Int)) (by omega), fun w => ?_⟩
      rw [Int.toNat_natCast, ← List.map_take, in_lst]
    | true =>
      by_cases c : HT.sIx (os.map nD).length 0 none = 0 ∧ HT.sIx (os.map nD).length (os.map nD).length (some (i : Int)) = (os.map nD).length
      · refine ⟨zD os, if_pos c, fun w => ?_⟩
        have e : cutD (os.map nD) none (some (i : Int)) = os.map nD := by
          unfold cutD
          rw [c.1, c.2, List.drop_zero, Nat.sub_zero, List.take_length]
        rw [cut_hi (by omega), Int.toNat_natCast] at e
        have l : (os.map nD).length ≤ i := by
          have := congrArg List.length e
          rw [List.length_take] at this
          omega
        rw [List.length_map] at l
        rw [List.take_of_length_le l]
        exact in_tpz
      · refine ⟨.tup (cutD (os.map nD) none (some (i : Int))), if_neg c, fun w => ?_⟩
        rw [cut_hi (by omega), Int.toNat_natCast, ← List.map_take, in_tup]
  obtain ⟨ρ', e, s1, s2, rfl⟩ := loop_en (inj := nD) (h := gT 2 (gsC (gN 3) (gsC (gN 4) (gsN)))) (body := B_checked_names_1) (l := os) (ρ := [.v (nmsD z os), .v (.int 4), .v (.bl false), .no, .no])
    (fun _ ρ => ∃ s1 s2 : Sl, ρ = [.v (nmsD z os), .v (.int 4), .v (.bl false), s1, s2]) ⟨_, _, rfl⟩ (by
      rintro i w ρ q ⟨s1, s2, rfl⟩
      refine ⟨[.v (nmsD z os), .v (.int 4), .v (.bl false), .v (.int (i : Int)), .v (nD w)], rfl, ?_⟩
      have nm := is_name_ok (h.each w (List.mem_of_getElem? q))
      obtain ⟨d, sd, hd⟩ := sl i
      have n2 : gInS false (nD w) d = .ok (.bl false) := by
        rw [hd, decide_eq_false]
        exact nd_take h.nd q
      unfold B_checked_names_1
      simp_arith [nm, sd, n2]
      exact ⟨_, _, rfl⟩)
  have c1 : decide ((1 : Int) ≤ (os.length : Int)) = true := decide_eq_true (by have := h.pos; omega)
  have c2 : decide ((os.length : Int) ≤ 4) = true := decide_eq_true (by have := h.few; omega)
  have sq : ∃ b, seqD (nmsD z os) = some (b, os.map nD) := by cases z <;> exact ⟨_, rfl⟩
  obtain ⟨bb, sq⟩ := sq
  have ln : gLen [nmsD z os] = .ok (.int os.length) := by
    cases z with
    | false => show gLen [.lst (os.map nD)] = _; rw [gLen_lst, List.length_map]
    | true => show gLen [.tpz (os.map nD)] = _; rw [gLen_tpz, List.length_map]
  have tz : gTupZ [nmsD z os] = .ok (zD os) := by cases z <;> rfl
  unfold F_checked_names G_checked_names
  simp_arith [ln, c1, c2, sq, optR_some, e, tz]
end Tk

namespace Tk
open PySem PySem.Spec L2 PyProof.Rows
/-! ### rows tallied in a dict -/
section
variable {κ κ' α β : Type} [DecidableEq κ] [DecidableEq κ']
theorem getG_map {f : κ → κ'} {g : α → β} (hf : ∀ a b, f a = f b → a = b) (k : κ) : ∀ cs : List (κ × α), getG (cs.map fun r => (f r.1, g r.2)) (f k) = (getG cs k).map g
  | [] => rfl
  | c :: cs => by
    have ih := getG_map (g := g) hf k cs
    unfold getG at ih ⊢
    rw [List.map_cons]
    by_cases z : c.1 = k
    · rw [List.find?_cons_of_pos (by simp [z]), List.find?_cons_of_pos (by simp [z])]
      rfl
    · have z2 : ¬ f c.1 = f k := fun e => z (hf _ _ e)
      rw [List.find?_cons_of_neg (by simp [z2]), List.find?_cons_of_neg (by simp [z])]
      exact ih
theorem putG_map {f : κ → κ'} {g : α → β} (hf : ∀ a b, f a = f b → a = b) (k : κ) (v : α) (cs : List (κ × α)) : putG (cs.map fun r => (f r.1, g r.2)) (f k) (g v) = (putG cs k v).map fun r => (f r.1, g r.2) := by
  have e : ((cs.map fun r => (f r.1, g r.2)).any fun kv => decide (kv.1 = f k)) = cs.any fun kv => decide (kv.1 = k) := by
    rw [List.any_map]
    congr 1
    funext r
    show decide (f r.1 = f k) = _
    rw [decide_eq_decide]
    exact ⟨hf _ _, fun h => by rw [h]⟩
  unfold putG
  rw [e]
  split
  · rw [List.map_map, List.map_map]
    refine List.map_congr_left fun r _ => ?_
    show (if f r.1 = f k then (f r.1, g v) else (f r.1, g r.2)) = _
    by_cases z : r.1 = k
    · rw [if_pos (by rw [z])]
      show _ = (fun r : κ × α => (f r.1, g r.2)) (if r.1 = k then (r.1, v) else r)
      rw [if_pos z]
    · rw [if_neg fun e => z (hf _ _ e)]
      show _ = (fun r : κ × α => (f r.1, g r.2)) (if r.1 = k then (r.1, v) else r)
      rw [if_neg z]
  · rw [List.map_append]; rfl
theorem getG_some {cs : List (κ × α)} {k : κ} {v : α} (nd : (cs.map (·.1)).Nodup) (m : (k, v) ∈ cs) : getG cs k = some v := by
  induction cs with
  | nil => cases m
  | cons c cs ih =>
    rw [List.map_cons, List.nodup_cons] at nd
    unfold getG
    rcases List.mem_cons.mp m with rfl | m
    · rw [List.find?_cons_of_pos (by simp)]; rfl
    · have : ¬ c.1 = k := fun e => nd.1 (by rw [e]; exact List.mem_map.mpr ⟨_, m, rfl⟩)
      rw [List.find?_cons_of_neg (by simp [this])]
      exact ih nd.2 m
theorem getG_none {cs : List (κ × α)} {k : κ} (h : k ∉ cs.map (·.1)) : getG cs k = none := by
  unfold getG
  rw [List.find?_eq_none.mpr fun c m => by
    simp only [decide_eq_true_eq]
    intro e
    exact h (by rw [← e]; exact List.mem_map.mpr ⟨_, m, rfl⟩)]
  rfl
theorem any_key {cs : List (κ × α)} {k : κ} : (cs.any fun kv => decide (kv.1 = k)) = true ↔ k ∈ cs.map (·.1) := by
  rw [List.any_eq_true, List.mem_map]
  constructor
  · rintro ⟨c, m, e⟩; exact ⟨c, m, of_decide_eq_true e⟩
  · rintro ⟨c, m, e⟩; exact ⟨c, m, decide_eq_true e⟩
theorem putG_in {cs : List (κ × α)} {k : κ} {v : α} (h : k ∈ cs.map (·.1)) : putG cs k v = cs.map fun kv => if kv.1 = k then (kv.1, v) else kv := by
  unfold putG; rw [if_pos (any_key.mpr h)]
theorem putG_out {cs : List (κ × α)} {k : κ} {v : α} (h : k ∉ cs.map (·.1)) : putG cs k v = cs ++ [(k, v)] := by
  unfold putG; rw [if_neg fun z => h (any_key.mp z)]
theorem putG_keys {cs : List (κ × α)} {k : κ} {v : α} : (putG cs k v).map (·.1) = if k ∈ cs.map (·.1) then cs.map (·.1) else cs.map (·.1) ++ [k] := by
  by_cases h : k ∈ cs.map (·.1)
  · rw [if_pos h, putG_in h, List.map_map]
    refine List.map_congr_left fun r _ => ?_
    show (if r.1 = k then (r.1, v) else r).1 = r.1
    split <;> rfl
  · rw [if_neg h, putG_out h, List.map_append]; rfl
theorem putG_nd {cs : List (κ × α)} {k : κ} {v : α} (nd : (cs.map (·.1)).Nodup) : ((putG cs k v).map (·.1)).Nodup := by
  rw [putG_keys]
  split
  · exact nd
  · rename_i h
    exact List.nodup_append.mpr ⟨nd, by simp, fun a m b n e => h (by rw [List.mem_singleton.mp n] at e; rw [← e]; exact m)⟩
theorem putG_mem {cs : List (κ × α)} {k : κ} {v : α} {c : κ × α} (m : c ∈ putG cs k v) : c = (k, v) ∨ c ∈ cs := by
  by_cases h : k ∈ cs.map (·.1)
  · rw [putG_in h] at m
    obtain ⟨d, d1, d2⟩ := List.mem_map.mp m
    by_cases z : d.1 = k
    · rw [if_pos z] at d2; exact .inl (by rw [← d2, z])
    · rw [if_neg z] at d2; exact .inr (by rw [← d2]; exact d1)
  · rw [putG_out h] at m
    rcases List.mem_append.mp m with m | m
    · exact .inr m
    · exact .inl (List.mem_singleton.mp m)
end
def cD (cs : List Row) : List (List Key × D) := cs.map fun r => (keyB r.1, .int r.2)
theorem getG_cD (cs : List Row) (b : Bal) : getG (cD cs) (keyB b) = (getG cs b).map .int := getG_map (f := keyB) (g := D.int) (fun _ _ => keyB_inj) b cs
theorem putG_cD (cs : List Row) (b : Bal) (n : Int) : putG (cD cs) (keyB b) (.int n) = cD (putG cs b n) := putG_map (f := keyB) (g := D.int) (fun _ _ => keyB_inj) b n cs
/-! the sum of the rows whose ballot has p -/
def sumP (p : Bal → Bool) (rs : List Row) : Int := ((rs.filter fun r => p r.1).map (·.2)).sum
theorem sumP_nil {p : Bal → Bool} : sumP p [] = 0 := rfl
theorem sumP_cons {p : Bal → Bool} {r : Row} {rs : List Row} : sumP p (r :: rs) = (if p r.1 then r.2 else 0) + sumP p rs := by
  unfold sumP
  cases h : p r.1 with
  | true => rw [List.filter_cons_of_pos (p := fun r : Row => p r.1) h, List.map_cons, List.sum_cons, if_pos rfl]
  | false => rw [List.filter_cons_of_neg (p := fun r : Row => p r.1) (by rw [h]; decide), if_neg Bool.false_ne_true, Int.zero_add]
theorem sumP_append {p : Bal → Bool} : ∀ {rs qs : List Row}, sumP p (rs ++ qs) = sumP p rs + sumP p qs
  | [], qs => by rw [List.nil_append, sumP_nil, Int.zero_add]
  | r :: rs, qs => by rw [List.cons_append, sumP_cons, sumP_cons, sumP_append, Int.add_assoc]
theorem sumP_perm {p : Bal → Bool} {rs qs : List Row} (h : rs.Perm qs) : sumP p rs = sumP p qs := by
  induction h with
  | nil => rfl
  | cons x _ ih => rw [sumP_cons, sumP_cons, ih]
  | swap x y l => rw [sumP_cons, sumP_cons, sumP_cons, sumP_cons]; omega
  | trans _ _ a b => exact a.trans b
theorem sumP_pos {p : Bal → Bool} : ∀ {rs : List Row}, (∀ r ∈ rs, 0 ≤ r.2) → sumP p (rs.filter fun r => decide (0 < r.2)) = sumP p rs
  | [], _ => rfl
  | r :: rs, h => by
    have ih := sumP_pos (p := p) (rs := rs) fun x m => h x (List.mem_cons_of_mem _ m)
    have h0 := h r List.mem_cons_self
    by_cases z : 0 < r.2
    · rw [List.filter_cons_of_pos (by simpa using z), sumP_cons, sumP_cons, ih]
    · have : r.2 = 0 := by omega
      rw [List.filter_cons_of_neg (by simpa using z), ih, sumP_cons, this]
      split <;> omega
theorem sumP_nn {p : Bal → Bool} : ∀ {rs : List Row}, (∀ r ∈ rs, 0 ≤ r.2) → 0 ≤ sumP p rs
  | [], _ => Int.le_refl _
  | r :: rs, h => by
    have ih := sumP_nn (p := p) (rs := rs) fun x m => h x (List.mem_cons_of_mem _ m)
    have h0 := h r List.mem_cons_self
    rw [sumP_cons]
    split <;> omega
theorem sumP_congr {p q : Bal → Bool} {rs : List Row} (h : ∀ r ∈ rs, p r.1 = q r.1) : sumP p rs = sumP q rs := by
  unfold sumP
  rw [List.filter_congr h]
/-- b's count grows by n -/
def addR (cs : List Row) (r : Row) : List Row := putG cs r.1 ((getG cs r.1).getD 0 + r.2)
theorem sumP_map_upd {p : Bal → Bool} {b : Bal} {v : Int} : ∀ {cs : List Row}, (cs.map (·.1)).Nodup → ∀ {v0 : Int}, (b, v0) ∈ cs → sumP p (cs.map fun kv => if kv.1 = b then (kv.1, v) else kv) = sumP p cs + (if p b then v - v0 else 0)
  | [], _, _, m => by cases m
  | c :: cs, nd, v0, m => by
    rw [List.map_cons, List.nodup_cons] at nd
    rw [List.map_cons, sumP_cons, sumP_cons]
    by_cases z : c.1 = b
    · have hout : ∀ d ∈ cs, ¬ d.1 = b := fun d md e => nd.1 (by rw [z, ← e]; exact List.mem_map.mpr ⟨_, md, rfl⟩)
      have e1 : cs.map (fun kv => if kv.1 = b then (kv.1, v) else kv) = cs := by
        conv => rhs; rw [← List.map_id cs]
        exact List.map_congr_left fun d md => if_neg (hout d md)
      have ec : c = (b, v0) := by
        rcases List.mem_cons.mp m with e | m
        · exact e.symm
        · exact absurd rfl (hout _ m)
      rw [e1, if_pos z, ec]
      show (if p b = true then v else 0) + sumP p cs = (if p b = true then v0 else 0) + sumP p cs + _
      split <;> omega
    · have m2 : (b, v0) ∈ cs := by
        rcases List.mem_cons.mp m with e | m
        · exact absurd (by rw [← e]) z
        · exact m
      rw [if_neg z, sumP_map_upd nd.2 m2]
      omega
theorem sumP_addR {p : Bal → Bool} {cs : List Row} {r : Row} (nd : (cs.map (·.1)).Nodup) : sumP p (addR cs r) = sumP p cs + (if p r.1 then r.2 else 0) := by
  unfold addR
  by_cases h : r.1 ∈ cs.map (·.1)
  · obtain ⟨c, m, e⟩ := List.mem_map.mp h
    have m2 : (r.1, c.2) ∈ cs := by rw [← e]; exact m
    rw [getG_some nd m2, putG_in h, sumP_map_upd nd m2]
    show _ + (if p r.1 = true then c.2 + r.2 - c.2 else 0) = _
    split <;> omega
  · rw [getG_none h, putG_out h, sumP_append, sumP_cons, sumP_nil]
    show _ + ((if p r.1 = true then 0 + r.2 else 0) + 0) = _
    split <;> omega
def tally (rs : List Row) : List Row := rs.foldl addR []
structure okRows (os : Bal) (rs : List Row) : Prop where
  bal : ∀ r ∈ rs, okBal os r.1
  nn : ∀ r ∈ rs, 0 ≤ r.2
theorem okRows.app {os : Bal} {rs qs : List Row} (h : okRows os rs) (g : okRows os qs) : okRows os (rs ++ qs) := ⟨fun r m => (List.mem_append.mp m).elim (h.bal r) (g.bal r), fun r m => (List.mem_append.mp m).elim (h.nn r) (g.nn r)⟩
theorem okRows.nil {os : Bal} : okRows os [] := ⟨fun _ m => (nomatch m), fun _ m => (nomatch m)⟩
theorem okRows.take {os : Bal} {rs : List Row} (h : okRows os rs) (n : Nat) : okRows os (rs.take n) := ⟨fun r m => h.bal r (List.mem_of_mem_take m), fun r m => h.nn r (List.mem_of_mem_take m)⟩
theorem tally_all {os : Bal} : ∀ {rs : List Row}, okRows os rs → ((tally rs).map (·.1)).Nodup ∧ (okRows os (tally rs)) ∧ (tally rs).length ≤ rs.length ∧ ∀ p, sumP p (tally rs) = sumP p rs := by
  intro rs
  suffices go : ∀ (rs cs : List Row), okRows os rs → okRows os cs → (cs.map (·.1)).Nodup → ((rs.foldl addR cs).map (·.1)).Nodup ∧ okRows os (rs.foldl addR cs) ∧ (rs.foldl addR cs).length ≤ cs.length + rs.length ∧ ∀ p, sumP p (rs.foldl addR cs) = sumP p cs + sumP p rs by
    intro h
    obtain ⟨h1, h2, h3, h4⟩ := go rs [] h .nil .nil
    refine ⟨h1, h2, (by rw [List.length_nil, Nat.zero_add] at h3; exact h3), fun p => ?_⟩
    have := h4 p
    rw [sumP_nil, Int.zero_add] at this
    exact this
  intro rs
  induction rs with
  | nil => intro cs h g nd; exact ⟨nd, g, by simp, fun p => by rw [sumP_nil]; simp⟩
  | cons r rs ih =>
    intro cs h g nd
    have hr : okRows os rs := ⟨fun x m => h.bal x (List.mem_cons_of_mem _ m), fun x m => h.nn x (List.mem_cons_of_mem _ m)⟩
    have g0 : 0 ≤ (getG cs r.1).getD 0 := by
      by_cases z : r.1 ∈ cs.map (·.1)
      · obtain ⟨c, m, e⟩ := List.mem_map.mp z
        rw [getG_some nd (by rw [← e]; exact m : (r.1, c.2) ∈ cs)]
        exact g.nn c m
      · rw [getG_none z]; exact Int.le_refl _
    have h0 := h.nn r List.mem_cons_self
    have g2 : okRows os (addR cs r) := ⟨fun x m => (putG_mem m).elim (fun e => (by rw [e]; exact h.bal r List.mem_cons_self)) (g.bal x), fun x m => (putG_mem m).elim (fun e => (by rw [e]; show 0 ≤ (getG cs r.1).getD 0 + r.2; omega)) (g.nn x)⟩
    obtain ⟨h1, h2, h3, h4⟩ := ih (addR cs r) hr g2 (putG_nd nd)
    rw [List.foldl_cons]
    refine ⟨h1, h2, ?_, fun p => ?_⟩
    · have := putG_len cs r.1 ((getG cs r.1).getD 0 + r.2)
      have l : (addR cs r).length ≤ cs.length + 1 := this
      rw [List.length_cons]
      omega
    · rw [h4, sumP_addR nd, sumP_cons]
      omega
end Tk

namespace Tk
open PySem PySem.Spec L2 PyProof.Rows
/-! ### ordered rows -/
def idx (os : Bal) (w : List Nat) : Int := ((os.idxOf w : Nat) : Int)
def plD (os : Bal) : List (Key × D) := os.zipIdx.map fun p => (keyW p.1, .int (p.2 : Int))
theorem pl_get {os : Bal} {w : List Nat} (nd : os.Nodup) (m : w ∈ os) : getG (plD os) (keyW w) = some (.int (idx os w)) := by
  refine getG_some ?_ ?_
  · unfold plD
    rw [List.map_map]
    have e : (List.map ((fun x : Key × D => x.1) ∘ fun p : List Nat × Nat => (keyW p.1, D.int (p.2 : Int))) os.zipIdx) = os.map keyW := by
      apply List.ext_getElem?
      intro i
      rw [List.getElem?_map, List.getElem?_map, List.getElem?_zipIdx, Option.map_map]
      rfl
    rw [e]
    exact List.pairwise_map.mpr (nd.imp fun h e => h (keyW_inj e))
  · refine List.mem_map.mpr ⟨(w, os.idxOf w), ?_, rfl⟩
    refine List.mem_iff_getElem?.mpr ⟨os.idxOf w, ?_⟩
    have hl := List.idxOf_lt_length_iff.mpr m
    rw [List.getElem?_zipIdx, List.getElem?_eq_getElem hl, List.getElem_idxOf hl]
    simp
theorem pl_dc {os : Bal} {ρ : Ev} {d : D} {x y : Sl} {u2 u3 u4 u7 u8 : Sl} {v0 v1 : D} (nd : os.Nodup) :
    dcL (gT 2 (gsC (gN 5) (gsC (gN 6) (gsN)))) (tsY) (eV 6) (eV 5) [.v v0, .v v1, u2, u3, u4, .no, .no, u7, u8] [] (enumD 0 (os.map nD)) = .ok (plD os) := by
  have go : ∀ (l : Bal) (k : Nat) (acc : List (Key × D)), (∀ w ∈ l, keyW w ∉ acc.map (·.1)) → l.Nodup → dcL (gT 2 (gsC (gN 5) (gsC (gN 6) (gsN)))) (tsY) (eV 6) (eV 5) [.v v0, .v v1, u2, u3, u4, .no, .no, u7, u8] acc (enumD k (l.map nD)) = .ok (acc ++ (l.zipIdx k).map fun p => (keyW p.1, D.int (p.2 : Int))) := by
    intro l
    induction l with
    | nil => intro k acc _ _; show R.ok acc = _; rw [List.zipIdx_nil, List.map_nil, List.append_nil]
    | cons w l ih =>
      intro k acc h n
      obtain ⟨n1, n2⟩ := List.nodup_cons.mp n
      have e : putG acc (keyW w) (D.int (k : Int)) = acc ++ [(keyW w, .int (k : Int))] := putG_out (h w List.mem_cons_self)
      show dcL _ _ _ _ _ (putG acc (keyW w) (D.int (k : Int))) (enumD (k + 1) (l.map nD)) = _
      rw [e, ih (k + 1) _ (fun u m => ?_) n2, List.zipIdx_cons, List.map_cons, List.append_assoc]
      · rfl
      · rw [List.map_append, List.mem_append, not_or]
        refine ⟨h u (List.mem_cons_of_mem _ m), fun z => n1 ?_⟩
        rw [← keyW_inj (List.mem_singleton.mp z)]
        exact m
  rw [go os 0 [] (fun _ _ m => nomatch m) nd, List.nil_append]
  rfl
def places (os : Bal) (b : Bal) : List Int := b.map (idx os)
def back (os : Bal) (r : List Int) : Bal := r.map fun i => os.getD i.toNat []
theorem back_places {os b : Bal} (h : ∀ w ∈ b, w ∈ os) : back os (places os b) = b := by
  unfold back places
  rw [List.map_map]
  conv => rhs; rw [← List.map_id b]
  refine List.map_congr_left fun w m => ?_
  show os.getD ((os.idxOf w : Nat) : Int).toNat [] = w
  have hl := List.idxOf_lt_length_iff.mpr (h w m)
  rw [Int.toNat_natCast, List.getD_eq_getElem?_getD, List.getElem?_eq_getElem hl, List.getElem_idxOf hl]
  rfl
def posR (cs : List Row) : List Row := cs.filter fun r => decide (0 < r.2)
def ordR (os : Bal) (cs : List Row) : List Row := (srtL ((posR cs).map fun r => places os r.1)).map fun row => (back os row, (getG cs (back os row)).getD 0)
theorem ordR_perm {os : Bal} {cs : List Row} (nd : (cs.map (·.1)).Nodup) (h : okRows os cs) : (ordR os cs).Perm (posR cs) := by
  have p : (srtL ((posR cs).map fun r => places os r.1)).Perm ((posR cs).map fun r => places os r.1) := List.mergeSort_perm _ _
  have q := p.map fun row => (back os row, (getG cs (back os row)).getD 0)
  have e : ((posR cs).map fun r => places os r.1).map (fun row => (back os row, (getG cs (back os row)).getD 0)) = posR cs := by
    rw [List.map_map]
    conv => rhs; rw [← List.map_id (posR cs)]
    refine List.map_congr_left fun r m => ?_
    have mc := (List.mem_filter.mp m).1
    show (back os (places os r.1), (getG cs (back os (places os r.1))).getD 0) = r
    rw [back_places (h.bal r mc).sub, getG_some nd mc]
    rfl
  rw [e] at q
  exact q
theorem tints_map : ∀ ps : List (List Int), tintsOf (ps.map dTI) = some ps
  | [] => rfl
  | p :: ps => by
    show (tintOf (dTI p)).bind (fun q => (tintsOf (ps.map dTI)).map (q :: ·)) = _
    rw [tints_map ps]
    show ((intsOf (p.map .int)).bind fun q => _) = _
    rw [ints_map]
    rfl
theorem tupL_tints : ∀ ps : List (List Int), tupL (ps.map dTI) = true
  | [] => by rw [List.map_nil, tupL]
  | p :: ps => by
    have h : ∀ l : List Int, tupL (l.map D.int) = true := fun l => by
      induction l with
      | nil => rw [List.map_nil, tupL]
      | cons i l ih => rw [List.map_cons, tupL, tupD, ih]; rfl
    rw [List.map_cons, tupL, tupL_tints ps, Bool.and_true]
    show tupD (.tup (p.map .int)) = true
    rw [tupD, h]
theorem gSrtT_map {ps : List (List Int)} : gSrtT [.lst (ps.map dTI)] = .ok (.lst ((srtL ps).map dTI)) := by
  show (optR (tintsOf (ps.map dTI))).bind _ = _
  rw [tints_map]
  rfl
theorem ordered_ok {os : Bal} {cs : List Row} (ho : okOpts os) (nd : (cs.map (·.1)).Nodup) (h : okRows os cs) (hl : cs.length ≤ 1000) : F_ordered_rows [zD os, .dT (cD cs)] = .ok (.tup ((ordR os cs).map rowD)) := by
  have few := ho.few
  have e1 : ∀ u2 u3 u4 u7 u8 : Sl, dcL (gT 2 (gsC (gN 5) (gsC (gN 6) (gsN)))) (tsY) (eV 6) (eV 5) [.v (zD os), .v (.dT (cD cs)), u2, u3, u4, .no, .no, u7, u8] [] (enumD 0 (os.map nD)) = .ok (plD os) := fun u2 u3 u4 u7 u8 => pl_dc (ρ := []) (d := .non) (x := .no) (y := .no) ho.nd
  have s1 : (enumD 0 (os.map nD)).length ≤ sizeLine := by rw [enum_len, List.length_map]; exact szle (by omega)
  -- one row's places
  have hp : ∀ (r : Row) (u3 u4 u5 u8 : Sl) (v1 : D), r ∈ cs → lcL (gN 6) tsY (e2 gIxA (eV 2) (eV 6)) [.v (zD os), .v v1, .v (.dK (plD os)), u3, u4, u5, .no, .v (bD r.1), u8] (r.1.map nD) = .ok ((places os r.1).map .int) := fun r u3 u4 u5 u8 v1 m => by
    rw [lc_all (inj := nD) (fun w => D.int (idx os w)) fun w mw => ⟨[.v (zD os), .v v1, .v (.dK (plD os)), u3, u4, u5, .v (nD w), .v (bD r.1), u8], rfl, rfl, by
      have g : gIxA (.dK (plD os)) (nD w) = .ok (.int (idx os w)) := by
        show (optR (keyD (nD w))).bind (fun k => optR (getG (plD os) k)) = _
        show optR (getG (plD os) (keyW w)) = _
        rw [pl_get ho.nd ((h.bal r m).sub w mw)]
        rfl
      simp_arith [g]⟩]
    unfold places
    rw [List.map_map]
    rfl
  have g3 : ∀ r ∈ cs, gIxA (.zT (cD cs)) (bD r.1) = .ok (.int r.2) := fun r m => by
    show (optR (keyT (bD r.1))).bind (fun k => optR (getG (cD cs) k)) = _
    rw [keyT_bD]
    show optR (getG (cD cs) (keyB r.1)) = _
    rw [getG_cD, getG_some nd m]
    rfl
  have bl : ∀ r ∈ cs, (r.1.map nD).length ≤ sizeLine := fun r m => by
    have := (h.bal r m).len
    rw [List.length_map]
    exact szle (by omega)
  have e3 : ∀ u3 u4 : Sl, lcL (gN 7) (tV (e2 gGt (e2 gIxA (eV 1) (eV 7)) (eC (.int 0)))) (eA gTuple (aC (eLc [6] (iSq (eV 7)) (gN 6) (tsY) (e2 gIxA (eV 2) (eV 6))) (aN))) [.v (zD os), .v (.zT (cD cs)), .v (.dK (plD os)), u3, u4, .no, .no, .no, .no] ((cD cs).map fun kv => .tup (kv.1.map dKey)) = .ok (((posR cs).map fun r => places os r.1).map dTI) := fun u3 u4 => by
    have em : ((cD cs).map fun kv => D.tup (kv.1.map dKey)) = cs.map fun r : Row => bD r.1 := by
      unfold cD
      rw [List.map_map]
      refine List.map_congr_left fun r _ => ?_
      show D.tup ((keyB r.1).map dKey) = _
      rw [dKey_keyB]
      rfl
    rw [em, lc_map (inj := fun r : Row => bD r.1) (fun r => decide (0 < r.2)) (fun r => dTI (places os r.1)) fun r m => ⟨[.v (zD os), .v (.zT (cD cs)), .v (.dK (plD os)), u3, u4, .no, .no, .v (bD r.1), .no], rfl, by
      have g := g3 r m
      simp_arith [g], fun _ => by
      have e := hp r u3 u4 .no .no (.zT (cD cs)) m
      have bz := bl r m
      have gi : gIt (bD r.1) = .ok (r.1.map nD) := rfl
      simp_arith [gi, bz, e]
      rfl⟩]
    unfold posR
    rw [List.map_map]
    rfl
  have lk : ∀ u3 u4 : Sl, eLckT 1 (eLc [7] (iKeyT (eV 1)) (gN 7) (tV (e2 gGt (e2 gIxA (eV 1) (eV 7)) (eC (.int 0)))) (eA gTuple (aC (eLc [6] (iSq (eV 7)) (gN 6) (tsY) (e2 gIxA (eV 2) (eV 6))) (aN)))) [.v (zD os), .v (.dT (cD cs)), .v (.dK (plD os)), u3, u4, .no, .no, .no, .no] = .ok (.lst (((posR cs).map fun r => places os r.1).map dTI)) := fun u3 u4 => by
    have sz : ((cD cs).map fun kv => D.tup (kv.1.map dKey)).length ≤ sizeLine := by unfold cD; rw [List.length_map, List.length_map]; exact szle hl
    have e := e3 u3 u4
    show (R.quiet (eLc [7] (iKeyT (eV 1)) (gN 7) (tV (e2 gGt (e2 gIxA (eV 1) (eV 7)) (eC (.int 0)))) (eA gTuple (aC (eLc [6] (iSq (eV 7)) (gN 6) (tsY) (e2 gIxA (eV 2) (eV 6))) (aN))) [.v (zD os), .v (.zT (cD cs)), .v (.dK (plD os)), u3, u4, .no, .no, .no, .no])).bind _ = _
    simp_arith [iKeyT_zT, sz, e, tupL_tints]
  have e4 : ∀ u3 u4 u6 u7 : Sl, lcL (gN 8) tsY (eA gTuple (aC (eLc [5] (iSq (eV 8)) (gN 5) (tsY) (e2 gIx (eV 0) (eV 5))) (aN))) [.v (zD os), .v (.dT (cD cs)), .v (.dK (plD os)), u3, u4, .no, u6, u7, .no] ((srtL ((posR cs).map fun r => places os r.1)).map dTI) = .ok ((srtL ((posR cs).map fun r => places os r.1)).map fun row => bD (back os row)) := fun u3 u4 u6 u7 => by
    refine lc_all (inj := dTI) (fun row => bD (back os row)) fun row m => ⟨[.v (zD os), .v (.dT (cD cs)), .v (.dK (plD os)), u3, u4, .no, u6, u7, .v (dTI row)], rfl, rfl, ?_⟩
    have p : (srtL ((posR cs).map fun r => places os r.1)).Perm ((posR cs).map fun r => places os r.1) := List.mergeSort_perm _ _
    obtain ⟨r, m1, rfl⟩ := List.mem_map.mp (p.mem_iff.mp m)
    have mc := (List.mem_filter.mp m1).1
    have rl : ((places os r.1).map D.int).length ≤ sizeLine := by
      have := (h.bal r mc).len
      unfold places
      rw [List.length_map, List.length_map]
      exact szle (by omega)
    have e5 : lcL (gN 5) tsY (e2 gIx (eV 0) (eV 5)) [.v (zD os), .v (.dT (cD cs)), .v (.dK (plD os)), u3, u4, .no, u6, u7, .v (dTI (places os r.1))] ((places os r.1).map .int) = .ok ((places os r.1).map fun i => nD (os.getD i.toNat [])) :=
      lc_all (inj := D.int) (fun i => nD (os.getD i.toNat [])) fun i mi => ⟨[.v (zD os), .v (.dT (cD cs)), .v (.dK (plD os)), u3, u4, .v (.int i), u6, u7, .v (dTI (places os r.1))], rfl, rfl, by
        obtain ⟨w, mw, rfl⟩ := List.mem_map.mp mi
        have hw := List.idxOf_lt_length_iff.mpr ((h.bal r mc).sub w mw)
        have g : gIx (zD os) (.int (idx os w)) = .ok (nD (os.getD (idx os w).toNat [])) := gIx_mapZ (inj := nD) (by unfold idx; omega) (by
          unfold idx
          rw [Int.toNat_natCast, List.getD_eq_getElem?_getD, List.getElem?_eq_getElem hw]
          rfl)
        simp_arith [g]⟩
    have gi : gIt (dTI (places os r.1)) = .ok ((places os r.1).map .int) := rfl
    simp_arith [gi, rl, e5]
    unfold bD back
    rw [List.map_map]
    rfl
  have e6 : ∀ u3 u4 u5 u6 u8 : Sl, lcL (gN 7) tsY (eA gTup (aC (eV 7) (aC (e2 gIxA (eV 1) (eV 7)) (aN)))) [.v (zD os), .v (.dT (cD cs)), .v (.dK (plD os)), u3, u4, u5, u6, .no, u8] ((srtL ((posR cs).map fun r => places os r.1)).map fun row => bD (back os row)) = .ok ((ordR os cs).map rowD) := fun u3 u4 u5 u6 u8 => by
    rw [lc_all (inj := fun row => bD (back os row)) (fun row => rowD (back os row, (getG cs (back os row)).getD 0)) fun row m => ⟨[.v (zD os), .v (.dT (cD cs)), .v (.dK (plD os)), u3, u4, u5, u6, .v (bD (back os row)), u8], rfl, rfl, by
      have p : (srtL ((posR cs).map fun r => places os r.1)).Perm ((posR cs).map fun r => places os r.1) := List.mergeSort_perm _ _
      obtain ⟨r, m1, rfl⟩ := List.mem_map.mp (p.mem_iff.mp m)
      have mc := (List.mem_filter.mp m1).1
      have bp := back_places (h.bal r mc).sub
      have g : gIxA (.dT (cD cs)) (bD r.1) = .ok (.int r.2) := g3 r mc
      have gs := getG_some nd mc
      have gt : gTup [bD r.1, .int r.2] = .ok (rowD r) := if_pos (szle (by simp))
      rw [bp, gs]
      simp_arith [g, gt]
      rfl⟩]
    unfold ordR
    rw [List.map_map]
    rfl
  have ls : (srtL ((posR cs).map fun r => places os r.1)).length ≤ 1000 := by
    have p : (srtL ((posR cs).map fun r => places os r.1)).Perm ((posR cs).map fun r => places os r.1) := List.mergeSort_perm _ _
    rw [p.length_eq, List.length_map]
    exact Nat.le_trans (List.length_filter_le _ _) hl
  have l1 : ((srtL ((posR cs).map fun r => places os r.1)).map dTI).length ≤ sizeLine := by rw [List.length_map]; exact szle ls
  have l2 : ((srtL ((posR cs).map fun r => places os r.1)).map fun row => bD (back os row)).length ≤ sizeLine := by rw [List.length_map]; exact szle ls
  have sq : seqD (zD os) = some (true, os.map nD) := rfl
  unfold F_ordered_rows G_ordered_rows
  simp_arith [eFrz_ap, nDc_ap, sq, optR_some, s1, e1, frzR_k, lk, gSrtT_map, l1, e4, l2, e6]
end Tk

namespace Tk
open PySem PySem.Spec L2 PyProof.Rows
/-! ### a roll is made -/
def optD : Option Int → D
  | none => .non
  | some i => .int i
def normR (os : Bal) (rs : List Row) : List Row := ordR os (tally rs)
def totR (ns : List Row) : Int := (ns.map (·.2)).sum
def rollD (os : Bal) (ns : List Row) : D := .ins 52 [(44, zD os), (51, .tup (ns.map rowD)), (4, .int (totR ns))]
structure okNorm (os : Bal) (ns : List Row) : Prop where
  nd : (ns.map (·.1)).Nodup
  bal : ∀ r ∈ ns, okBal os r.1
  pos : ∀ r ∈ ns, 0 < r.2
theorem okNorm.rows {os : Bal} {ns : List Row} (h : okNorm os ns) : okRows os ns := ⟨h.bal, fun r m => Int.le_of_lt (h.pos r m)⟩
theorem norm_ok {os : Bal} {rs : List Row} (h : okRows os rs) : okNorm os (normR os rs) ∧ (normR os rs).length ≤ rs.length ∧ ∀ p, sumP p (normR os rs) = sumP p rs := by
  obtain ⟨h1, h2, h3, h4⟩ := tally_all h
  have p : (normR os rs).Perm (posR (tally rs)) := ordR_perm h1 h2
  have sub : ∀ r ∈ normR os rs, r ∈ tally rs ∧ 0 < r.2 := fun r m => by
    have := List.mem_filter.mp (p.mem_iff.mp m)
    exact ⟨this.1, of_decide_eq_true this.2⟩
  refine ⟨⟨?_, fun r m => h2.bal r (sub r m).1, fun r m => (sub r m).2⟩, ?_, fun q => ?_⟩
  · refine (p.map (·.1)).nodup_iff.mpr ?_
    exact h1.sublist (List.Sublist.map _ List.filter_sublist)
  · rw [p.length_eq]
    exact Nat.le_trans (List.length_filter_le _ _) h3
  · rw [sumP_perm p]
    exact (sumP_pos h2.nn).trans (h4 q)
theorem sumP_tot {ns : List Row} : sumP (fun _ => true) ns = totR ns := by
  unfold sumP totR
  rw [List.filter_eq_self.mpr fun _ _ => rfl]
theorem tot_norm {os : Bal} {rs : List Row} (h : okRows os rs) : totR (normR os rs) = totR rs := by
  rw [← sumP_tot, ← sumP_tot, (norm_ok h).2.2]
def rinE (a : Addr) (z : Bool) (os : Bal) (rv : D) (lg : Option Int) (cs : List Row) (s5 s6 : Sl) : Ev := [.o (some a) 52 [(44, zD os)], .v (nmsD z os), .v rv, .v (optD lg), .t (cD cs), s5, s6]
theorem tally_snoc {rs : List Row} {r : Row} : tally (rs ++ [r]) = addR (tally rs) r := by unfold tally; rw [List.foldl_append]; rfl
theorem rin_loop {a : Addr} {z : Bool} {os : Bal} {rv : D} {lg : Option Int} {rs : List Row} (ho : okOpts os) (h : okRows os rs) (hg : ∀ l, lg = some l → ∀ r ∈ rs, r.2 ≤ l) (hl : rs.length ≤ 1000) : ∃ s5 s6 : Sl, loop (gT 2 (gsC (gN 5) (gsC (gN 6) (gsN)))) B_Roll___init___1 (rs.map rowD) (rinE a z os rv lg [] .no .no) = .nx (rinE a z os rv lg (tally rs) s5 s6) := by
  obtain ⟨ρ', e, s5, s6, rfl⟩ := loop_map (inj := rowD) (h := gT 2 (gsC (gN 5) (gsC (gN 6) (gsN)))) (body := B_Roll___init___1) (l := rs) (ρ := rinE a z os rv lg [] .no .no)
    (fun i ρ => ∃ s5 s6 : Sl, ρ = rinE a z os rv lg (tally (rs.take i)) s5 s6) ⟨_, _, rfl⟩ (by
      rintro i r ρ q ⟨s5, s6, rfl⟩
      refine ⟨rinE a z os rv lg (tally (rs.take i)) (.v (bD r.1)) (.v (.int r.2)), rfl, ?_⟩
      have mr := List.mem_of_getElem? q
      have cb := checkB_ok ho.few (h.bal r mr)
      have h0 : decide (r.2 < 0) = false := decide_eq_false (by have := h.nn r mr; omega)
      have tk : tally (rs.take (i + 1)) = addR (tally (rs.take i)) r := by rw [List.take_succ, q]; exact tally_snoc
      have ta := tally_all (h.take i)
      have tl : (cD (tally (rs.take i))).length < sizeLine := by
        unfold cD
        rw [List.length_map]
        have := ta.2.2.1
        rw [List.length_take] at this
        exact szlt (by omega)
      have gg : gGet2 (.dT (cD (tally (rs.take i)))) (bD r.1) (.int 0) = .ok (.int ((getG (tally (rs.take i)) r.1).getD 0)) := by
        show (optR (keyT (bD r.1))).bind (fun k => R.ok ((getG (cD (tally (rs.take i))) k).getD (.int 0))) = _
        rw [keyT_bD]
        show R.ok ((getG (cD (tally (rs.take i))) (keyB r.1)).getD (.int 0)) = _
        rw [getG_cD]
        cases getG (tally (rs.take i)) r.1 <;> rfl
      have lt : ∀ b : Bool, (if b = true then R.ok true else R.ok (b && true)) = R.ok (b && true) := fun b => by cases b <;> rfl
      have st : B_Roll___init___1 (rinE a z os rv lg (tally (rs.take i)) (.v (bD r.1)) (.v (.int r.2))) = .nx (rinE a z os rv lg (tally (rs.take (i + 1))) (.v (bD r.1)) (.v (.int r.2))) := by
        rw [tk]
        unfold rinE B_Roll___init___1
        have fo : optR (List.lookup 44 [(44, zD os)]) = .ok (zD os) := rfl
        have pk : ∀ n : Int, putG (cD (tally (rs.take i))) (keyB r.1) (.int n) = cD (putG (tally (rs.take i)) r.1 n) := putG_cD _ _
        cases lg with
        | none =>
          simp_arith [eFldO_ap, ownO_zero, List.mem_singleton, fo, cb, h0, optD, isNon_non, isNon_int, show gNotN .non .non = R.ok (.bl false) from rfl, sPutT_ap, ownT_succ, ownT_zero, frzS_o, frzS_t, eGet2_ap, show isDict (.dT (cD (tally (rs.take i)))) = true from rfl, gg, scalD, keyT_bD, tl, pk]
          rfl
        | some l =>
          have h2 : decide (l < r.2) = false := decide_eq_false (by have := hg l rfl r mr; omega)
          simp_arith [eFldO_ap, ownO_zero, List.mem_singleton, fo, cb, h0, optD, isNon_non, isNon_int, show gNotN (.int l) .non = R.ok (.bl true) from rfl, h2, sPutT_ap, ownT_succ, ownT_zero, frzS_o, frzS_t, eGet2_ap, show isDict (.dT (cD (tally (rs.take i)))) = true from rfl, gg, scalD, keyT_bD, tl, pk]
          rfl
      rw [st]
      exact ⟨_, _, rfl⟩)
  rw [List.take_length] at e
  exact ⟨s5, s6, e⟩
theorem roll_ok {a : Addr} {z : Bool} {os : Bal} {rv : D} {lg : Option Int} {rs : List Row} (ho : okOpts os) (h : okRows os rs) (hg : ∀ l, lg = some l → ∀ r ∈ rs, r.2 ≤ l) (hl : rs.length ≤ 1000) (hr : gIt rv = .ok (rs.map rowD)) :
    F_Roll___init__ a [nmsD z os, rv, optD lg] = .ok [(44, zD os), (51, .tup ((normR os rs).map rowD)), (4, .int (totR (normR os rs)))] := by
  obtain ⟨s5, s6, e⟩ := rin_loop (a := a) (z := z) (rv := rv) ho h hg hl
  have ta := tally_all h
  have od := ordered_ok ho ta.1 ta.2.1 (by have := ta.2.2.1; omega)
  have cn := checkN_ok (z := z) ho
  have nl : ((normR os rs).map rowD).length ≤ sizeLine := by
    rw [List.length_map]
    have := (norm_ok h).2.1
    exact szle (by omega)
  have e7 : ∀ s0 s1 s2 s3 s4 : Sl, lcL (gT 2 (gsC (gN 5) (gsC (gN 6) (gsN)))) tsY (eV 6) [s0, s1, s2, s3, s4, .no, .no] ((normR os rs).map rowD) = .ok (((normR os rs).map (·.2)).map .int) := fun s0 s1 s2 s3 s4 => by
    rw [lc_all (inj := rowD) (fun r => D.int r.2) fun r m => ⟨[s0, s1, s2, s3, s4, .v (bD r.1), .v (.int r.2)], rfl, rfl, rfl⟩, List.map_map]
    rfl
  unfold rinE at e
  have e : loop (gT 2 (gsC (gN 5) (gsC (gN 6) (gsN)))) B_Roll___init___1 (rs.map rowD) [.o (some a) 52 [(44, zD os)], .v (nmsD z os), .v rv, .v (optD lg), .t [], .no, .no] = _ := e
  have st : startI a 52 7 [nmsD z os, rv, optD lg] = [.o (some a) 52 [], .v (nmsD z os), .v rv, .v (optD lg), .no, .no, .no] := rfl
  have gk : gDk [0, 1, 2] [.bl false] [nmsD z os, .int 4] [] = [nmsD z os, .int 4, .bl false] := rfl
  have l44 : optR (List.lookup 44 [(44, zD os)]) = .ok (zD os) := rfl
  have l44' : optR (List.lookup 44 [(44, zD os), (51, .tup ((normR os rs).map rowD))]) = .ok (zD os) := rfl
  have l51 : optR (List.lookup 51 [(44, zD os), (51, .tup ((normR os rs).map rowD))]) = .ok (.tup ((normR os rs).map rowD)) := rfl
  have p1 : putN 44 (zD os) [] = [(44, zD os)] := rfl
  have p2 : putN 51 (.tup ((normR os rs).map rowD)) [(44, zD os)] = [(44, zD os), (51, .tup ((normR os rs).map rowD))] := rfl
  have p3 : ∀ d : D, putN 4 d [(44, zD os), (51, .tup ((normR os rs).map rowD))] = [(44, zD os), (51, .tup ((normR os rs).map rowD)), (4, d)] := fun _ => rfl
  have od : F_ordered_rows [zD os, .dT (cD (tally rs))] = .ok (.tup ((normR os rs).map rowD)) := od
  unfold F_Roll___init__ G_Roll___init__
  simp_arith [runI_ap, st, sFldO_ap, Nat.reduceLT, gk, cn, ownO_zero, List.mem_singleton, p1, p2, p3, nDT_ap, own_t, hr, e, frzS_t, eFldO_ap, l44, od, l51, nl, e7, gSum_map, outI_nx]
  rfl
end Tk

namespace Tk
open PySem PySem.Spec L2 PyProof.Rows
/-! ### what the laws about ballots draw -/
def mixB5 (x k : Int) : Int := (x * 16807 + x / 127773 + (k + 7) * 7919) % 2147483629
theorem mixed15_eq {c k : Int} (h0 : 0 ≤ k) (hk : k < 1000000) : F__law_mixed_k15 [.int c, .int k] = .ok (.int (mixB5 (mixA c k) k / 11)) := by
  unfold F__law_mixed_k15 G__law_mixed_k15
  simp [gMul_r, mixA, mixB5]
theorem mixed15_ok {c k : Int} (h0 : 0 ≤ k) (hk : k < 1000000) : ∃ v : Int, 0 ≤ v ∧ v < 2147483648 ∧ F__law_mixed_k15 [.int c, .int k] = .ok (.int v) := by
  refine ⟨_, ?_, ?_, mixed15_eq h0 hk⟩
  · unfold mixB5; omega
  · unfold mixB5; omega
theorem pool15_ok {c n : Int} (hn : 0 ≤ n) (hn2 : n < 1000000) : ∃ ps : List Int, ps.length = n.toNat ∧ (∀ p ∈ ps, 0 ≤ p ∧ p < 2147483648) ∧ F__law_pool_k15 [.int c, .int n] = .ok (.lst (ps.map .int)) := by
  unfold F__law_pool_k15 G__law_pool_k15
  generalize hr : (if c < 0 then -c else c) = rest
  have hr0 : 0 ≤ rest := by subst hr; split <;> omega
  obtain ⟨ρ', e, s, r2, ps, _, hl, hp, rfl⟩ := loop_rg (h := gN 5) (body := B__law_pool_k15_1) (lo := 0) (n := n.toNat) (ρ := [.v (.int c), .v (.int n), .v (.int rest), .v (.bl (decide (1000000000000000000 ≤ rest))), .l [], .no])
    (fun i ρ => ∃ (s : Sl) (r : Int) (ps : List Int), 0 ≤ r ∧ ps.length = i ∧ (∀ p ∈ ps, 0 ≤ p ∧ p < 2147483648) ∧ ρ = [.v (.int c), .v (.int n), .v (.int r), .v (.bl (decide (1000000000000000000 ≤ rest))), .l (ps.map .int), s])
    ⟨.no, rest, [], hr0, rfl, (fun p m => nomatch m), rfl⟩ (by
      rintro i ρ hi ⟨s, r, ps, hr1, hl, hp, rfl⟩
      refine ⟨_, rfl, ?_⟩
      have si : i < sizeLine := by unfold sizeLine; omega
      unfold B__law_pool_k15_1
      by_cases q : 1000000000000000000 ≤ rest ∧ 0 < r
      · have st : sIf (tAnd (tV (eV 3)) (tV (e2 gGt (eV 2) (eC (.int 0))))) (sSq (sApp 4 (e2 gMod (eV 2) (eC (.int 5040)))) (sSet 2 (e2 gDiv (eV 2) (eC (.int 5040))))) (sApp 4 (eCall 2 F__law_mixed_k15 (aC (eV 0) (aC (eV 5) (aN))))) [.v (.int c), .v (.int n), .v (.int r), .v (.bl (decide (1000000000000000000 ≤ rest))), .l (ps.map .int), .v (.int (0 + (i : Int)))] =
            .nx [.v (.int c), .v (.int n), .v (.int (r / 5040)), .v (.bl (decide (1000000000000000000 ≤ rest))), .l ((ps ++ [r % 5040]).map .int), .v (.int (i : Int))] := by
          simp [q.1, q.2, hl, si]
        show SO.goes (sIf _ _ _ [.v (.int c), .v (.int n), .v (.int r), .v (.bl (decide (1000000000000000000 ≤ rest))), .l (ps.map .int), .v (.int (0 + (i : Int)))]) _
        rw [st]
        refine ⟨_, _, _, by omega, ?_, ?_, rfl⟩
        · rw [List.length_append, hl]; rfl
        · intro p m
          rcases List.mem_append.mp m with m | m
          · exact hp p m
          · rw [List.mem_singleton.mp m]; omega
      · obtain ⟨v, v1, v2, ve⟩ := mixed15_ok (c := c) (k := (i : Int)) (by omega) (by omega)
        have st : sIf (tAnd (tV (eV 3)) (tV (e2 gGt (eV 2) (eC (.int 0))))) (sSq (sApp 4 (e2 gMod (eV 2) (eC (.int 5040)))) (sSet 2 (e2 gDiv (eV 2) (eC (.int 5040))))) (sApp 4 (eCall 2 F__law_mixed_k15 (aC (eV 0) (aC (eV 5) (aN))))) [.v (.int c), .v (.int n), .v (.int r), .v (.bl (decide (1000000000000000000 ≤ rest))), .l (ps.map .int), .v (.int (0 + (i : Int)))] =
            .nx [.v (.int c), .v (.int n), .v (.int r), .v (.bl (decide (1000000000000000000 ≤ rest))), .l ((ps ++ [v]).map .int), .v (.int (i : Int))] := by
          by_cases q1 : 1000000000000000000 ≤ rest
          · have q2 : ¬ 0 < r := fun z => q ⟨q1, z⟩
            simp [q1, q2, hl, ve, si]
          · simp [q1, hl, ve]
            unfold sizeLine
            omega
        show SO.goes (sIf _ _ _ [.v (.int c), .v (.int n), .v (.int r), .v (.bl (decide (1000000000000000000 ≤ rest))), .l (ps.map .int), .v (.int (0 + (i : Int)))]) _
        rw [st]
        refine ⟨_, _, _, hr1, ?_, ?_, rfl⟩
        · rw [List.length_append, hl]; rfl
        · intro p m
          rcases List.mem_append.mp m with m | m
          · exact hp p m
          · rw [List.mem_singleton.mp m]; omega)
  refine ⟨ps, hl, hp, ?_⟩
  have sm : small62 n := small_rg hn (by omega)
  simp [hr, sm, e]

theorem gIx_nat {l : List Int} {j : Int} (h : 0 ≤ j) (h2 : j < l.length) : gIx (.lst (l.map .int)) (.int j) = .ok (.int (l.getD j.toNat 0)) := gIx_getD h h2
theorem big_ok {ps : List Int} {spot least crest : Int} (h0 : 0 ≤ spot) (h1 : spot + 2 < ps.length) (hc : least ≤ crest) : ∃ v : Int, least ≤ v ∧ v ≤ crest ∧ F__law_big [.lst (ps.map .int), .int spot, .int least, .int crest] = .ok (.int v) := by
  generalize hf : (ps.getD spot.toNat 0 % 5040 * 25401600 + ps.getD (spot + 1).toNat 0 % 5040 * 5040 + ps.getD (spot + 2).toNat 0 % 5040) = far
  have m1 := Int.emod_nonneg far (by omega : crest - least + 1 ≠ 0)
  have m2 := Int.emod_lt_of_pos far (by omega : 0 < crest - least + 1)
  refine ⟨least + far % (crest - least + 1), by omega, by omega, ?_⟩
  have g1 := gIx_getD (l := ps) (j := spot) h0 (by omega)
  have g2 := gIx_getD (l := ps) (j := spot + 1) (by omega) (by omega)
  have g3 := gIx_getD (l := ps) (j := spot + 2) (by omega) (by omega)
  have d1 : ∀ z : Int, gMod (.int z) (.int 5040) = .ok (.int (z % 5040)) := fun z => gMod_int (by decide)
  have d2 : ∀ z : Int, gMod (.int z) (.int (crest - least + 1)) = .ok (.int (z % (crest - least + 1))) := fun z => gMod_int (by omega)
  have q1 : ∀ z : Int, gMul (.int z) (.int 25401600) = .ok (.int (z * 25401600)) := fun z => gMul_r (by decide) (by decide)
  have q2 : ∀ z : Int, gMul (.int z) (.int 5040) = .ok (.int (z * 5040)) := fun z => gMul_r (by decide) (by decide)
  unfold F__law_big G__law_big
  simp_arith [g1, g2, g3, d1, q1, q2, hf, d2]
end Tk

namespace Tk
open PySem PySem.Spec L2 PyProof.Rows
/-! ### ballots that are drawn -/
theorem sAppPop_ap {i j : Nat} {f : Ev → R D} {ρ : Ev} : sAppPop i j f ρ = SO.from ρ (ownL ρ i) fun xs => SO.from ρ (ownL ρ j) fun ys => SO.from ρ (f ρ) fun d => match d with
  | .int n => if 0 ≤ n ∧ n < 9223372036854775808 ∧ xs.length < sizeLine then (match ys[n.toNat]? with
    | some y => .nx ((ρ.set j (.l (ys.eraseIdx n.toNat))).set i (.l (xs ++ [y])))
    | none => .bad) else .bad
  | _ => .bad := (rfl)
theorem cons_erase {α : Type} {l : List α} {i : Nat} (h : i < l.length) : (l[i] :: l.eraseIdx i).Perm l := by
  rw [List.eraseIdx_eq_take_drop_succ]
  refine (List.perm_middle (l₁ := l.take i) (l₂ := l.drop (i + 1)) (a := l[i])).symm.trans ?_
  rw [List.getElem_cons_drop, List.take_append_drop]
def w4 (l : List Int) (j : Nat) : Int := l.getD j 0
theorem gLst4 {a b c d : D} : gLst [a, b, c, d] = .ok (.lst [a, b, c, d]) := if_pos (szle (by simp))
theorem ix4 {l : List Int} {j : Nat} (h : j < l.length) : gIx (.lst (l.map .int)) (.int (j : Int)) = .ok (.int (w4 l j)) := by
  have := gIx_getD (l := l) (j := (j : Int)) (by omega) (by omega)
  rw [Int.toNat_natCast] at this
  exact this
theorem ix1_4 {j : Nat} (h : j < 4) : gIx (.lst [.int 1, .int 4, .int 12, .int 24]) (.int (j : Int)) = .ok (.int (w4 [1, 4, 12, 24] j)) := ix4 (l := [1, 4, 12, 24]) h
theorem ix4_1 {j : Nat} (h : j < 4) : gIx (.lst [.int 4, .int 3, .int 2, .int 1]) (.int (j : Int)) = .ok (.int (w4 [4, 3, 2, 1] j)) := ix4 (l := [4, 3, 2, 1]) h
theorem w4_1 : ∀ j < 4, 1 ≤ w4 [1, 4, 12, 24] j ∧ w4 [1, 4, 12, 24] j ≤ 24 := by decide
theorem w4_2 : ∀ j < 4, 1 ≤ w4 [4, 3, 2, 1] j ∧ w4 [4, 3, 2, 1] j ≤ 4 := by decide
def blE (ps : List Int) (spot number : Int) (os : Bal) (rs : List Row) (k : Nat) (left slip : Bal) (s8 s9 : Sl) : Ev := [.v (.lst (ps.map .int)), .v (.int spot), .v (.lst (os.map nD)), .v (.int number), .l (rs.map rowD), .v (.int (k : Int)), .l (left.map nD), .l (slip.map nD), s8, s9]
theorem bal_in {ps : List Int} {spot number : Int} {os : Bal} {rs : List Row} {k : Nat} {s8' s9 : Sl} {m : Nat} (ho : okOpts os) (h0 : 0 ≤ spot) (h1 : spot + 2 * k + 1 < ps.length) (hm : m ≤ os.length) :
    ∃ left slip s8, (slip ++ left).Perm os ∧ loop (gN 8) B__law_ballots_1 (rgD 0 m) (blE ps spot number os rs k os [] s8' s9) = .nx (blE ps spot number os rs k left slip s8 s9) := by
  have few := ho.few
  obtain ⟨ρ', e, left, slip, s8, pm, ls, rfl⟩ := loop_rg (h := gN 8) (body := B__law_ballots_1) (lo := 0) (n := m) (ρ := blE ps spot number os rs k os [] s8' s9)
    (fun j ρ => ∃ (left slip : Bal) (s8 : Sl), (slip ++ left).Perm os ∧ slip.length = j ∧ ρ = blE ps spot number os rs k left slip s8 s9) ⟨os, [], s8', .refl _, rfl, rfl⟩ (by
      rintro j ρ hj ⟨left, slip, s8, pm, ls, rfl⟩
      refine ⟨blE ps spot number os rs k left slip (.v (.int (j : Int))) s9, by rw [Int.zero_add]; rfl, ?_⟩
      have j4 : j < 4 := by omega
      have pl := pm.length_eq
      rw [List.length_append] at pl
      have a := w4_1 j j4
      have b := w4_2 j j4
      have pt := part_ok (ps := ps) (spot := spot + 2 * (k : Int) + 1) (under := w4 [1, 4, 12, 24] j) (size := w4 [4, 3, 2, 1] j) (by omega) (by omega) (by omega) (by omega) (by omega)
      have p0 := part_lo (ps := ps) (spot := spot + 2 * (k : Int) + 1) (under := w4 [1, 4, 12, 24] j) (size := w4 [4, 3, 2, 1] j) (by omega)
      generalize part ps (spot + 2 * (k : Int) + 1) (w4 [1, 4, 12, 24] j) (w4 [4, 3, 2, 1] j) = x at *
      have ll : (0 : Int) < (left.length : Int) := by omega
      have m1 := Int.emod_nonneg x (by omega : (left.length : Int) ≠ 0)
      have m2 := Int.emod_lt_of_pos x ll
      have md : gMod (.int x) (.int (left.length : Int)) = .ok (.int (x % (left.length : Int))) := gMod_int ll
      have mk : gMul (.int 2) (.int (k : Int)) = .ok (.int (2 * (k : Int))) := gMul_l (by decide) (by decide)
      obtain ⟨i, hi⟩ : ∃ i : Nat, x % (left.length : Int) = (i : Int) := ⟨(x % (left.length : Int)).toNat, by omega⟩
      have il : i < left.length := by omega
      have gt : (left.map nD)[i]? = some (nD left[i]) := by rw [List.getElem?_map, List.getElem?_eq_getElem il]; rfl
      have sz : (slip.map nD).length < sizeLine := by rw [List.length_map]; exact szlt (by omega)
      have cnd : 0 ≤ (i : Int) ∧ (i : Int) < 9223372036854775808 ∧ (slip.map nD).length < sizeLine := ⟨by omega, by omega, sz⟩
      have mp1 : (left.map nD).eraseIdx i = (left.eraseIdx i).map nD := by
        rw [List.eraseIdx_eq_take_drop_succ, List.eraseIdx_eq_take_drop_succ, List.map_append, List.map_take, List.map_drop]
      have mp2 : slip.map nD ++ [nD left[i]] = (slip ++ [left[i]]).map nD := by rw [List.map_append]; rfl
      have st : B__law_ballots_1 (blE ps spot number os rs k left slip (.v (.int (j : Int))) s9) = .nx (blE ps spot number os rs k (left.eraseIdx i) (slip ++ [left[i]]) (.v (.int (j : Int))) s9) := by
        unfold blE B__law_ballots_1
        rw [← mp1, ← mp2]
        simp_arith [sAppPop_ap, mk, gLst4, ix1_4 j4, ix4_1 j4, pt, List.length_map, md, hi, scalD, cnd, Int.toNat_natCast, gt]
        rw [List.length_map] at sz
        rw [if_pos ⟨trivial, trivial, sz⟩]
      rw [st]
      refine ⟨_, _, _, ?_, ?_, rfl⟩
      · refine List.Perm.trans ?_ pm
        rw [List.append_assoc]
        refine List.Perm.append_left _ ?_
        exact cons_erase il
      · rw [List.length_append, ls]; rfl)
  exact ⟨left, slip, s8, pm, e⟩
structure okGiv (os : Bal) (rs : List Row) : Prop extends okRows os rs where
  few : rs.length ≤ 400
  big : ∀ r ∈ rs, r.2 ≤ 1000000000
theorem okGiv.few1 {os : Bal} {rs : List Row} (h : okGiv os rs) : rs.length ≤ 1000 := by have := h.few; omega
theorem gTup2 (x y : D) : gTup [x, y] = .ok (.tup [x, y]) := if_pos (szle (by simp))
theorem ballots_ok {ps : List Int} {spot number : Int} {os : Bal} (ho : okOpts os) (h0 : 0 ≤ spot) (hn : 0 ≤ number) (hn2 : number ≤ 400) (h1 : spot + 2 * number ≤ ps.length) :
    ∃ rs, okGiv os rs ∧ rs.length = number.toNat ∧ F__law_ballots [.lst (ps.map .int), .int spot, .lst (os.map nD), .int number] = .ok (.lst (rs.map rowD)) := by
  have few := ho.few
  have ol : ((os.map nD).length : Int) = os.length := by rw [List.length_map]
  obtain ⟨ρ', e, rs, u6, u7, u8, u9, u5, lr, okr, bg, rfl⟩ := loop_rg (h := gN 5) (body := B__law_ballots_2) (lo := 0) (n := number.toNat) (ρ := [.v (.lst (ps.map .int)), .v (.int spot), .v (.lst (os.map nD)), .v (.int number), .l [], .no, .no, .no, .no, .no])
    (fun i ρ => ∃ (rs : List Row) (u6 u7 u8 u9 u5 : Sl), rs.length = i ∧ okRows os rs ∧ (∀ r ∈ rs, r.2 ≤ 1000000000) ∧ ρ = [.v (.lst (ps.map .int)), .v (.int spot), .v (.lst (os.map nD)), .v (.int number), .l (rs.map rowD), u5, u6, u7, u8, u9])
    ⟨[], .no, .no, .no, .no, .no, rfl, .nil, fun _ m => (nomatch m), rfl⟩ (by
      rintro k ρ hk ⟨rs, u6, u7, u8, u9, u5, lr, okr, bg, rfl⟩
      refine ⟨[.v (.lst (ps.map .int)), .v (.int spot), .v (.lst (os.map nD)), .v (.int number), .l (rs.map rowD), .v (.int (k : Int)), u6, u7, u8, u9], by rw [Int.zero_add]; rfl, ?_⟩
      have mk : gMul (.int 2) (.int (k : Int)) = .ok (.int (2 * (k : Int))) := gMul_l (by decide) (by decide)
      have p1 := part_ok (ps := ps) (spot := spot + 2 * (k : Int)) (under := 1) (size := 60) (by omega) (by omega) (by decide) (by decide) (by decide)
      have p2 := part_ok (ps := ps) (spot := spot + 2 * (k : Int)) (under := 60) (size := 7) (by omega) (by omega) (by decide) (by decide) (by decide)
      have p3 := part_ok (ps := ps) (spot := spot + 2 * (k : Int)) (under := 420) (size := 12) (by omega) (by omega) (by decide) (by decide) (by decide)
      have a2 := part_lo (ps := ps) (spot := spot + 2 * (k : Int)) (under := 60) (size := 7) (by decide)
      have b2 := part_hi (ps := ps) (spot := spot + 2 * (k : Int)) (under := 60) (size := 7) (by decide)
      generalize part ps (spot + 2 * (k : Int)) 1 60 = x1 at *
      generalize part ps (spot + 2 * (k : Int)) 60 7 = x2 at *
      generalize part ps (spot + 2 * (k : Int)) 420 12 = x3 at *
      have md : gMod (.int x1) (.int ((os.length : Int) + 1)) = .ok (.int (x1 % ((os.length : Int) + 1))) := gMod_int (by omega)
      have m1 := Int.emod_nonneg x1 (by omega : (os.length : Int) + 1 ≠ 0)
      have m2 := Int.emod_lt_of_pos x1 (by omega : (0 : Int) < (os.length : Int) + 1)
      have sm : small62 (x1 % ((os.length : Int) + 1)) := small_rg m1 (by omega)
      obtain ⟨left, slip, s8, pm, lp⟩ := bal_in (ps := ps) (spot := spot) (number := number) (os := os) (rs := rs) (k := k) (s8' := u8) (s9 := u9) (m := (x1 % ((os.length : Int) + 1)).toNat) ho h0 (by omega) (by omega)
      have osz : (os.map nD).length ≤ sizeLine := by rw [List.length_map]; exact szle (by omega)
      have pw : gPow (.int 10) (.int 9) = .ok (.int 1000000000) := gPow_int (by decide) (by decide) (by decide) (by decide)
      have rz : rs.length < sizeLine := szlt (by omega)
      have ob : okBal os slip := by
        have nd := pm.nodup_iff.mpr ho.nd
        exact ⟨(List.nodup_append.mp nd).1, fun w m => pm.mem_iff.mp (List.mem_append_left _ m)⟩
      have st : ∃ t : Int, 0 ≤ t ∧ t ≤ 1000000000 ∧ B__law_ballots_2 [.v (.lst (ps.map .int)), .v (.int spot), .v (.lst (os.map nD)), .v (.int number), .l (rs.map rowD), .v (.int (k : Int)), u6, u7, u8, u9] =
          .nx [.v (.lst (ps.map .int)), .v (.int spot), .v (.lst (os.map nD)), .v (.int number), .l ((rs ++ [(slip, t)]).map rowD), .v (.int (k : Int)), .l (left.map nD), .v (.lst (slip.map nD)), s8, .v (.int t)] := by
        have mp : ∀ t : Int, (rs ++ [(slip, t)]).map rowD = rs.map rowD ++ [.tup [bD slip, .int t]] := fun t => by rw [List.map_append]; rfl
        unfold blE at lp
        have lp : loop (gN 8) B__law_ballots_1 (rgD 0 (x1 % ((os.length : Int) + 1)).toNat) [.v (.lst (ps.map .int)), .v (.int spot), .v (.lst (os.map nD)), .v (.int number), .l (rs.map rowD), .v (.int (k : Int)), .l (os.map nD), .l [], u8, u9] = _ := lp
        by_cases z : x3 = 11
        · refine ⟨1000000000 - x2, by omega, by omega, ?_⟩
          rw [mp]
          unfold B__law_ballots_2
          simp_arith [mk, sz0, p1, List.length_map, md, sm, lp, p2, p3, decide_eq_true z, pw, gTup2, rz]
          rfl
        · refine ⟨x2, by omega, by omega, ?_⟩
          rw [mp]
          unfold B__law_ballots_2
          simp_arith [mk, sz0, p1, List.length_map, md, sm, lp, p2, p3, decide_eq_false z, pw, gTup2, rz]
          rfl
      obtain ⟨t, t0, t1, st⟩ := st
      rw [st]
      refine ⟨_, _, _, _, _, _, by rw [List.length_append, lr]; rfl, okr.app ⟨fun r m => by rw [List.mem_singleton.mp m]; exact ob, fun r m => by rw [List.mem_singleton.mp m]; exact t0⟩, fun r m => ?_, rfl⟩
      rcases List.mem_append.mp m with m | m
      · exact bg r m
      · rw [List.mem_singleton.mp m]; exact t1)
  have sm : small62 number := small_rg hn (by omega)
  refine ⟨rs, ⟨okr, by omega, bg⟩, lr, ?_⟩
  have z0 := sz0
  unfold F__law_ballots G__law_ballots
  simp_arith [sz0, sm, e]
end Tk

namespace Tk
open PySem PySem.Spec L2 PyProof.Rows
/-! ### all ballots -/
section
variable {α β : Type} [DecidableEq α] [DecidableEq β]
def extB (os : List α) (size : Nat) (b : List α) : List (List α) := b :: (if b.length = size then (os.filter fun c => !decide (c ∈ b)).map fun c => b ++ [c] else [])
def stepB (os : List α) (bs : List (List α)) (size : Nat) : List (List α) := bs.flatMap (extB os size)
def allB (os : List α) : List (List α) := (List.range os.length).foldl (stepB os) [[]]
theorem mem_map_inj {f : α → β} (hf : ∀ a b, f a = f b → a = b) {a : α} {l : List α} : f a ∈ l.map f ↔ a ∈ l := by
  rw [List.mem_map]
  exact ⟨fun ⟨b, m, e⟩ => by rw [← hf _ _ e]; exact m, fun m => ⟨a, m, rfl⟩⟩
theorem extB_map {f : α → β} (hf : ∀ a b, f a = f b → a = b) (os : List α) (n : Nat) (b : List α) : extB (os.map f) n (b.map f) = (extB os n b).map (·.map f) := by
  unfold extB
  rw [List.map_cons, List.length_map]
  congr 1
  split
  · rw [List.filter_map, List.map_map, List.map_map]
    have e : ((fun c => !decide (c ∈ b.map f)) ∘ f) = fun c => !decide (c ∈ b) := by
      funext c
      show (!decide (f c ∈ b.map f)) = _
      congr 1
      rw [decide_eq_decide]
      exact mem_map_inj hf
    rw [e]
    refine List.map_congr_left fun c _ => ?_
    show b.map f ++ [f c] = (b ++ [c]).map f
    rw [List.map_append]; rfl
  · rfl
theorem stepB_map {f : α → β} (hf : ∀ a b, f a = f b → a = b) (os : List α) (n : Nat) (bs : List (List α)) : stepB (os.map f) (bs.map (·.map f)) n = (stepB os bs n).map (·.map f) := by
  unfold stepB
  rw [List.flatMap_map, List.map_flatMap]
  congr 1
  funext b
  exact extB_map hf os n b
theorem allB_map {f : α → β} (hf : ∀ a b, f a = f b → a = b) (os : List α) : allB (os.map f) = (allB os).map (·.map f) := by
  unfold allB
  rw [List.length_map]
  have go : ∀ (ns : List Nat) (bs : List (List α)), ns.foldl (stepB (os.map f)) (bs.map (·.map f)) = (ns.foldl (stepB os) bs).map (·.map f) := by
    intro ns
    induction ns with
    | nil => intro bs; rfl
    | cons n ns ih =>
      intro bs
      rw [List.foldl_cons, List.foldl_cons, stepB_map hf]
      exact ih _
  exact go _ [[]]
theorem extB_len {os : List α} {n : Nat} {b : List α} : (extB os n b).length ≤ os.length + 1 := by
  unfold extB
  rw [List.length_cons]
  split
  · rw [List.length_map]
    have := List.length_filter_le (fun c => !decide (c ∈ b)) os
    omega
  · simp
theorem flat_len {γ δ : Type} {f : γ → List δ} {k : Nat} : ∀ {l : List γ}, (∀ a ∈ l, (f a).length ≤ k) → (l.flatMap f).length ≤ l.length * k
  | [], _ => by simp
  | a :: l, h => by
    have := flat_len (l := l) fun b m => h b (List.mem_cons_of_mem _ m)
    have h0 := h a List.mem_cons_self
    rw [List.flatMap_cons, List.length_append, List.length_cons, Nat.succ_mul]
    omega
theorem okB_ext {os : List α} (nd : os.Nodup) {n : Nat} {b c : List α} (hb : b.Nodup ∧ ∀ w ∈ b, w ∈ os) (m : c ∈ extB os n b) : c.Nodup ∧ ∀ w ∈ c, w ∈ os := by
  unfold extB at m
  rcases List.mem_cons.mp m with rfl | m
  · exact hb
  · split at m
    · obtain ⟨w, m1, rfl⟩ := List.mem_map.mp m
      obtain ⟨w1, w2⟩ := List.mem_filter.mp m1
      have w3 : w ∉ b := by simpa using w2
      refine ⟨List.nodup_append.mpr ⟨hb.1, by simp, fun x mx y my e => ?_⟩, fun x mx => ?_⟩
      · rw [List.mem_singleton.mp my] at e
        exact w3 (by rw [← e]; exact mx)
      · rcases List.mem_append.mp mx with mx | mx
        · exact hb.2 x mx
        · rw [List.mem_singleton.mp mx]; exact w1
    · cases m
theorem allB_sub {os : List α} (nd : os.Nodup) {b : List α} (m : b ∈ allB os) : b.Nodup ∧ ∀ w ∈ b, w ∈ os := by
  have go : ∀ (ns : List Nat) (bs : List (List α)), (∀ b ∈ bs, b.Nodup ∧ ∀ w ∈ b, w ∈ os) → ∀ b ∈ ns.foldl (stepB os) bs, b.Nodup ∧ ∀ w ∈ b, w ∈ os := by
    intro ns
    induction ns with
    | nil => intro bs h; exact h
    | cons n ns ih =>
      intro bs h
      refine ih _ fun b mb => ?_
      obtain ⟨a, ma, mb⟩ := List.mem_flatMap.mp mb
      exact okB_ext nd (h a ma) mb
  exact go _ _ (fun b mb => by rw [List.mem_singleton.mp mb]; exact ⟨.nil, fun _ m => nomatch m⟩) b m
end
theorem fin_all : ∀ n : Fin 5, (allB (List.finRange n.val)).length ≤ 65 ∧ [] ∈ allB (List.finRange n.val) ∧ (0 < n.val → ∃ b ∈ allB (List.finRange n.val), b.length + 1 = n.val) := by decide +kernel
theorem os_fin (os : Bal) : os = (List.finRange os.length).map os.get := by
  apply List.ext_getElem
  · rw [List.length_map, List.length_finRange]
  · intro i h1 h2
    rw [List.getElem_map, List.getElem_finRange]
    rfl
theorem get_inj {os : Bal} (nd : os.Nodup) (a b : Fin os.length) (h : os.get a = os.get b) : a = b := Fin.ext (nd_get nd (a := os.get b) (by rw [← h]; exact List.getElem?_eq_getElem a.2) (List.getElem?_eq_getElem b.2))
theorem allB_fin {os : Bal} (nd : os.Nodup) : allB os = (allB (List.finRange os.length)).map (·.map os.get) := by
  conv => lhs; rw [os_fin os]
  exact allB_map (get_inj nd) _
theorem allB_few {os : Bal} (ho : okOpts os) : (allB os).length ≤ 65 ∧ [] ∈ allB os := by
  have := fin_all ⟨os.length, by have := ho.few; omega⟩
  rw [allB_fin ho.nd, List.length_map]
  exact ⟨this.1, List.mem_map.mpr ⟨[], this.2.1, rfl⟩⟩
theorem allB_ok {os b : Bal} (ho : okOpts os) (m : b ∈ allB os) : okBal os b := let ⟨h1, h2⟩ := allB_sub ho.nd m; ⟨h1, h2⟩
/-! its mirror -/
theorem tupL_bals : ∀ bs : List Bal, tupL (bs.map bD) = true
  | [] => by rw [List.map_nil, tupL]
  | b :: bs => by
    have h : ∀ l : Bal, tupL (l.map nD) = true := fun l => by
      induction l with
      | nil => rw [List.map_nil, tupL]
      | cons i l ih => rw [List.map_cons, tupL, tupD, ih]; rfl
    rw [List.map_cons, tupL, tupL_bals bs, Bool.and_true]
    show tupD (.tup (b.map nD)) = true
    rw [tupD, h]
theorem oBor_ap {f : Ev → R Sl} {ρ : Ev} : oBor f ρ = (f (frzA ρ)).quiet.bind fun s => match s with
  | .l xs => if tupL xs = true then .ok (.l xs) else .bad
  | _ => .bad := (rfl)
theorem lCat_ap {f g : Ev → R D} {ρ : Ev} : lCat f g ρ = (f ρ).bind fun a => (g ρ).bind fun b => match a, b with
  | .lst xs, .lst ys => if xs.length + ys.length ≤ sizeLine then .ok (xs ++ ys) else .bad
  | _, _ => .bad := (rfl)
theorem extB_bal {os b : Bal} {n : Nat} : extB os n b = b :: (if b.length = n then (os.filter fun c => !decide (c ∈ b)).map fun c => b ++ [c] else []) := by
  unfold extB
  congr 3
  refine List.filter_congr fun c _ => ?_
  congr 1
  exact decide_eq_decide.mpr Iff.rfl
def abE (os : Bal) (bs : List Bal) (n : Nat) (lg : List Bal) (s4 : Sl) : Ev := [.v (.lst (os.map nD)), .v (.lst (bs.map bD)), .v (.int (n : Int)), .l (lg.map bD), s4, .no]
theorem all_in {os : Bal} {bs : List Bal} {n : Nat} {s4 : Sl} (few : os.length ≤ 4) (hb : ∀ b ∈ bs, b.length ≤ 1000) (hl : bs.length ≤ 1000) : ∃ s4', loop (gN 4) B__law_all_ballots_1 (bs.map bD) (abE os bs n [] s4) = .nx (abE os bs n (stepB os bs n) s4') := by
  obtain ⟨ρ', e, s, rfl⟩ := loop_map (inj := bD) (h := gN 4) (body := B__law_all_ballots_1) (l := bs) (ρ := abE os bs n [] s4)
    (fun i ρ => ∃ s : Sl, ρ = abE os bs n ((bs.take i).flatMap (extB os n)) s) ⟨_, rfl⟩ (by
      rintro i b ρ q ⟨s, rfl⟩
      refine ⟨abE os bs n ((bs.take i).flatMap (extB os n)) (.v (bD b)), rfl, ?_⟩
      have mb := hb b (List.mem_of_getElem? q)
      have fl : ((bs.take i).flatMap (extB os n)).length ≤ 5000 := by
        have := flat_len (f := extB os n) (k := 5) (l := bs.take i) fun a _ => Nat.le_trans extB_len (by omega)
        rw [List.length_take] at this
        omega
      have sz : (((bs.take i).flatMap (extB os n)).map bD).length < sizeLine := by rw [List.length_map, sz24]; omega
      have osz : (os.map nD).length ≤ sizeLine := by rw [List.length_map]; exact szle (by omega)
      have fe : os.filter (fun c => !decide (c ∈ b)) = os.filter (fun c => !decide (c ∈ b)) := rfl
      have lc : lcL (gN 5) (tV (e2 (gInS true) (eV 5) (eV 4))) (e2 gAdd (eV 4) (eA gTup (aC (eV 5) (aN)))) [.v (.lst (os.map nD)), .v (.lst (bs.map bD)), .v (.int (n : Int)), .v (.lst (((bs.take i).flatMap (extB os n)).map bD ++ [bD b])), .v (bD b), .no] (os.map nD) = .ok ((os.filter fun c => !decide (c ∈ b)).map fun c => bD (b ++ [c])) :=
        lc_map (inj := nD) (fun c => !decide (c ∈ b)) (fun c => bD (b ++ [c])) fun c _ => ⟨[.v (.lst (os.map nD)), .v (.lst (bs.map bD)), .v (.int (n : Int)), .v (.lst (((bs.take i).flatMap (extB os n)).map bD ++ [bD b])), .v (bD b), .v (nD c)], rfl, by
          have g : gInS true (nD c) (bD b) = .ok (.bl (!decide (c ∈ b))) := nin_tup
          simp_arith [g], fun _ => by
          have g1 : gTup [nD c] = .ok (.tup [nD c]) := if_pos (szle (by simp))
          have g2 : gAdd (bD b) (.tup [nD c]) = .ok (bD (b ++ [c])) := by
            show (if (b.map nD).length + [nD c].length ≤ sizeLine then R.ok (D.tup (b.map nD ++ [nD c])) else .bad) = _
            rw [if_pos (by rw [List.length_map, sz24]; simp; omega)]
            unfold bD
            rw [List.map_append]
            rfl
          simp_arith [g1, g2]⟩
      have sz2 : (((bs.take i).flatMap (extB os n)).map bD ++ [bD b]).length + ((os.filter fun c => !decide (c ∈ b)).map fun c => bD (b ++ [c])).length ≤ sizeLine := by
        have := List.length_filter_le (fun c => !decide (c ∈ b)) os
        simp only [List.length_append, List.length_map, List.length_cons, List.length_nil]
        rw [sz24]
        omega
      have nx : (bs.take (i + 1)).flatMap (extB os n) = (bs.take i).flatMap (extB os n) ++ extB os n b := by
        rw [List.take_succ, q, List.flatMap_append]
        simp
      have lb : gLen [bD b] = .ok (.int (b.length : Int)) := by show gLen [.tup (b.map nD)] = _; rw [gLen_tup, List.length_map]
      have st : B__law_all_ballots_1 (abE os bs n ((bs.take i).flatMap (extB os n)) (.v (bD b))) = .nx (abE os bs n ((bs.take (i + 1)).flatMap (extB os n)) (.v (bD b))) := by
        rw [nx]
        by_cases c : b.length = n
        · have ex : (((bs.take i).flatMap (extB os n) ++ extB os n b).map bD) = ((bs.take i).flatMap (extB os n)).map bD ++ [bD b] ++ ((os.filter fun c => !decide (c ∈ b)).map fun c => bD (b ++ [c])) := by
            rw [extB_bal, if_pos c, List.map_append, List.append_assoc, List.map_cons, List.map_map, List.singleton_append]
            rfl
          have tl : tupL (((bs.take i).flatMap (extB os n)).map bD ++ [bD b] ++ ((os.filter fun c => !decide (c ∈ b)).map fun c => bD (b ++ [c]))) = true := by rw [← ex]; exact tupL_bals _
          unfold abE
          rw [ex]
          unfold B__law_all_ballots_1
          simp_arith [sz, lb, decide_eq_true (show (b.length : Int) = (n : Int) by omega), oBor_ap, lCat_ap, osz, lc, sz2, tl]
        · have ex : (((bs.take i).flatMap (extB os n) ++ extB os n b).map bD) = ((bs.take i).flatMap (extB os n)).map bD ++ [bD b] := by
            unfold extB
            rw [if_neg c, List.map_append]
            rfl
          unfold abE
          rw [ex]
          unfold B__law_all_ballots_1
          simp_arith [sz, lb, decide_eq_false (show ¬ (b.length : Int) = (n : Int) by omega)]
      rw [st]
      exact ⟨_, rfl⟩)
  rw [List.take_length] at e
  exact ⟨s, e⟩
theorem all_ok {os : Bal} (ho : okOpts os) : F__law_all_ballots [.lst (os.map nD)] = .ok (.lst ((allB os).map bD)) := by
  have few := ho.few
  have sub : ∀ n, n ≤ os.length → ((List.range n).foldl (stepB os) [[]]).length ≤ 5 ^ n ∧ ∀ b ∈ (List.range n).foldl (stepB os) [[]], okBal os b := by
    intro n
    induction n with
    | zero => intro _; exact ⟨by simp, fun b m => by rw [List.mem_singleton.mp m]; exact .nil⟩
    | succ n ih =>
      intro hn
      obtain ⟨i1, i2⟩ := ih (by omega)
      rw [List.range_succ, List.foldl_append]
      refine ⟨?_, fun b m => ?_⟩
      · have := flat_len (f := extB os n) (k := 5) (l := (List.range n).foldl (stepB os) [[]]) fun a _ => Nat.le_trans extB_len (by omega)
        show (((List.range n).foldl (stepB os) [[]]).flatMap (extB os n)).length ≤ _
        rw [Nat.pow_succ]
        omega
      · obtain ⟨a, ma, mb⟩ := List.mem_flatMap.mp (show b ∈ stepB os _ n from m)
        have := okB_ext ho.nd (let z := i2 a ma; ⟨z.nd, z.sub⟩) mb
        exact ⟨this.1, this.2⟩
  obtain ⟨ρ', e, u2, u3, u4, rfl⟩ := loop_rg (h := gN 2) (body := B__law_all_ballots_2) (lo := 0) (n := os.length) (ρ := [.v (.lst (os.map nD)), .v (.lst (([[]] : List Bal).map bD)), .no, .no, .no, .no])
    (fun i ρ => ∃ u2 u3 u4 : Sl, ρ = [.v (.lst (os.map nD)), .v (.lst (((List.range i).foldl (stepB os) [[]]).map bD)), u2, u3, u4, .no]) ⟨_, _, _, rfl⟩ (by
      rintro n ρ hn ⟨u2, u3, u4, rfl⟩
      refine ⟨[.v (.lst (os.map nD)), .v (.lst (((List.range n).foldl (stepB os) [[]]).map bD)), .v (.int (n : Int)), u3, u4, .no], by rw [Int.zero_add]; rfl, ?_⟩
      obtain ⟨l1, l2⟩ := sub n (by omega)
      have l3 : ((List.range n).foldl (stepB os) [[]]).length ≤ 1000 := by
        have : 5 ^ n ≤ 5 ^ 4 := Nat.pow_le_pow_right (by decide) (by omega)
        omega
      obtain ⟨s4, lp⟩ := all_in (os := os) (bs := (List.range n).foldl (stepB os) [[]]) (n := n) (s4 := u4) few (fun b m => by have := (l2 b m).len; omega) l3
      unfold abE at lp
      have lp : loop (gN 4) B__law_all_ballots_1 (((List.range n).foldl (stepB os) [[]]).map bD) [.v (.lst (os.map nD)), .v (.lst (((List.range n).foldl (stepB os) [[]]).map bD)), .v (.int (n : Int)), .l [], u4, .no] = _ := lp
      have nx : (List.range (n + 1)).foldl (stepB os) [[]] = stepB os ((List.range n).foldl (stepB os) [[]]) n := by rw [List.range_succ, List.foldl_append]; rfl
      have st : B__law_all_ballots_2 [.v (.lst (os.map nD)), .v (.lst (((List.range n).foldl (stepB os) [[]]).map bD)), .v (.int (n : Int)), u3, u4, .no] = .nx [.v (.lst (os.map nD)), .v (.lst (((List.range (n + 1)).foldl (stepB os) [[]]).map bD)), .v (.int (n : Int)), .v (.lst ((stepB os ((List.range n).foldl (stepB os) [[]]) n).map bD)), s4, .no] := by
        rw [nx]
        unfold B__law_all_ballots_2
        simp_arith [sz0, lp]
      rw [st]
      exact ⟨_, _, _, rfl⟩)
  have e : loop (gN 2) B__law_all_ballots_2 (rgD 0 os.length) [.v (.lst (os.map nD)), .v (.lst [.tup []]), .no, .no, .no, .no] = _ := e
  have g0 : gTup [] = .ok (.tup []) := if_pos (szle (by simp))
  have g1 : gLst [.tup []] = .ok (.lst [.tup []]) := if_pos (szle (by simp))
  have sm : small62 (os.length : Int) := small_rg (by omega) (by omega)
  unfold F__law_all_ballots G__law_all_ballots
  simp_arith [g0, g1, List.length_map, sm, Int.toNat_natCast, e]
  rfl
end Tk

namespace Tk
open PySem PySem.Spec L2 PyProof.Rows
/-! ### rows that are given -/
theorem ix_lit {l : List Int} {x : Int} (h0 : 0 ≤ x) (h : x < l.length) : gIx (.lst (l.map .int)) (.int x) = .ok (.int (l.getD x.toNat 0)) := gIx_getD h0 h
theorem c3_all : ∀ j < 3, 1 ≤ ([2, 4, 70] : List Int).getD j 0 ∧ ([2, 4, 70] : List Int).getD j 0 ≤ 70 := by decide
theorem u2_all : ∀ j < 2, 1 ≤ ([1, 70] : List Int).getD j 0 ∧ ([1, 70] : List Int).getD j 0 ≤ 70 := by decide
theorem each_ok {ps : List Int} {os : Bal} (ho : okOpts os) (hp : ps.length = 34) : ∃ rs, okGiv os rs ∧ F__law_each_ballot [.lst (os.map nD), .lst (ps.map .int)] = .ok (.lst (rs.map rowD)) := by
  obtain ⟨few, _⟩ := allB_few ho
  have p0 := part_ok (ps := ps) (spot := 33) (under := 1) (size := 3) (by decide) (by omega) (by decide) (by decide) (by decide)
  have a0 := part_lo (ps := ps) (spot := 33) (under := 1) (size := 3) (by decide)
  have b0 := part_hi (ps := ps) (spot := 33) (under := 1) (size := 3) (by decide)
  generalize part ps 33 1 3 = x at *
  have cr := c3_all x.toNat (by omega)
  have gx : gIx (.lst [.int 2, .int 4, .int 70]) (.int x) = .ok (.int (([2, 4, 70] : List Int).getD x.toNat 0)) := ix_lit (l := [2, 4, 70]) a0 (by show x < ((3 : Nat) : Int); omega)
  generalize ([2, 4, 70] : List Int).getD x.toNat 0 = cc at *
  have g3 : ∀ a b c : D, gLst [a, b, c] = .ok (.lst [a, b, c]) := fun _ _ _ => if_pos (szle (by simp))
  have g2 : ∀ a b : D, gLst [a, b] = .ok (.lst [a, b]) := fun _ _ => if_pos (szle (by simp))
  have sz : ((allB os).map bD).length ≤ sizeLine := by rw [List.length_map]; exact szle (by omega)
  have sm : small62 ((allB os).length : Int) := small_rg (by omega) (by omega)
  have rz : (rgD 0 (allB os).length).length ≤ sizeLine := by rw [rgD_len]; exact szle (by omega)
  let val : Nat → Int := fun k => part ps ((k : Int) / 2) (([1, 70] : List Int).getD (k % 2) 0) 70 % cc
  have lc : ∀ u2 u3 : Sl, u2 = .v (.int cc) → u3 = .v (.lst ((allB os).map bD)) → lcL (gN 4) tsY (eA gTup (aC (e2 gIx (eV 3) (eV 4)) (aC (e2 gMod (eCall 4 F__law_part (aC (eV 1) (aC (e2 gDiv (eV 4) (eC (.int 2))) (aC (e2 gIx (eA gLst (aC (eC (.int 1)) (aC (eC (.int 70)) (aN)))) (e2 gMod (eV 4) (eC (.int 2)))) (aC (eC (.int 70)) (aN)))))) (eV 2)) (aN)))) [.v (.lst (os.map nD)), .v (.lst (ps.map .int)), u2, u3, .no] (rgD 0 (allB os).length) = .ok (((List.range (allB os).length).filter fun _ => true).map fun k => rowD ((allB os).getD k [], val k)) := fun u2 u3 e2' e3' => by
    subst e2' e3'
    refine lc_rg (fun _ => true) (fun k => rowD ((allB os).getD k [], val k)) fun k hk => ⟨[.v (.lst (os.map nD)), .v (.lst (ps.map .int)), .v (.int cc), .v (.lst ((allB os).map bD)), .v (.int (k : Int))], rfl, rfl, fun _ => ?_⟩
    have gi : gIx (.lst ((allB os).map bD)) (.int (k : Int)) = .ok (bD ((allB os).getD k [])) := gIx_map (inj := bD) (by omega) (by rw [Int.toNat_natCast, List.getD_eq_getElem?_getD, List.getElem?_eq_getElem hk]; rfl)
    have d2 : gDiv (.int (k : Int)) (.int 2) = .ok (.int ((k : Int) / 2)) := gDiv_int (by decide) (by decide)
    have m2 : gMod (.int (k : Int)) (.int 2) = .ok (.int ((k : Int) % 2)) := gMod_int (by decide)
    have u := u2_all (k % 2) (by omega)
    have gu : gIx (.lst [.int 1, .int 70]) (.int ((k : Int) % 2)) = .ok (.int (([1, 70] : List Int).getD (k % 2) 0)) := by
      have e := ix_lit (l := [1, 70]) (x := (k : Int) % 2) (by omega) (by show (k : Int) % 2 < ((2 : Nat) : Int); omega)
      rw [show ((k : Int) % 2).toNat = k % 2 by omega] at e
      exact e
    have pt := part_ok (ps := ps) (spot := (k : Int) / 2) (under := ([1, 70] : List Int).getD (k % 2) 0) (size := 70) (by omega) (by omega) (by omega) (by omega) (by decide)
    have mc : ∀ z : Int, gMod (.int z) (.int cc) = .ok (.int (z % cc)) := fun z => gMod_int (by omega)
    simp_arith [gi, d2, m2, g2, gu, pt, mc, gTup2]
    rfl
  have lc := lc _ _ rfl rfl
  refine ⟨(List.range (allB os).length).map fun k => ((allB os).getD k [], val k), ⟨⟨fun r m => ?_, fun r m => ?_⟩, by rw [List.length_map, List.length_range]; omega, fun r m => ?_⟩, ?_⟩
  · obtain ⟨k, mk, rfl⟩ := List.mem_map.mp m
    have hk := List.mem_range.mp mk
    rw [List.getD_eq_getElem?_getD, List.getElem?_eq_getElem hk]
    exact allB_ok ho (List.getElem_mem hk)
  · obtain ⟨k, mk, rfl⟩ := List.mem_map.mp m
    exact Int.emod_nonneg _ (by omega)
  · obtain ⟨k, mk, rfl⟩ := List.mem_map.mp m
    have := Int.emod_lt_of_pos (part ps ((k : Int) / 2) (([1, 70] : List Int).getD (k % 2) 0) 70) (by omega : 0 < cc)
    show part ps ((k : Int) / 2) (([1, 70] : List Int).getD (k % 2) 0) 70 % cc ≤ 1000000000
    omega
  · rw [List.filter_eq_self.mpr fun _ _ => rfl] at lc
    have ab := all_ok ho
    unfold F__law_each_ballot G__law_each_ballot
    simp_arith [g3, p0, gx, ab, List.length_map, sm, Int.toNat_natCast, rz, lc]
    rw [List.map_map]
    rfl
/-! turned about -/
theorem mod_inj {a b step n : Nat} (ha : a < n) (hb : b < n) (e : (a + step) % n = (b + step) % n) : a = b := by
  have d1 := Nat.div_add_mod (a + step) n
  have d2 := Nat.div_add_mod (b + step) n
  rw [e] at d1
  rcases Nat.lt_trichotomy ((a + step) / n) ((b + step) / n) with z | z | z
  · have : n * ((a + step) / n) + n ≤ n * ((b + step) / n) := by
      have := Nat.mul_le_mul_left n z
      rw [Nat.mul_succ] at this
      exact this
    omega
  · rw [z] at d1; omega
  · have : n * ((b + step) / n) + n ≤ n * ((a + step) / n) := by
      have := Nat.mul_le_mul_left n z
      rw [Nat.mul_succ] at this
      exact this
    omega
def turnW (os : Bal) (step : Nat) (w : List Nat) : List Nat := os.getD ((os.idxOf w + step) % os.length) []
theorem turn_inj {os : Bal} (nd : os.Nodup) (pos : 0 < os.length) {step : Nat} {w u : List Nat} (hw : w ∈ os) (hu : u ∈ os) (h : turnW os step w = turnW os step u) : w = u := by
  unfold turnW at h
  have l1 := Nat.mod_lt (os.idxOf w + step) pos
  have l2 := Nat.mod_lt (os.idxOf u + step) pos
  rw [List.getD_eq_getElem?_getD, List.getD_eq_getElem?_getD, List.getElem?_eq_getElem l1, List.getElem?_eq_getElem l2] at h
  have h2 : os[(os.idxOf w + step) % os.length] = os[(os.idxOf u + step) % os.length] := h
  have e := nd_get nd (List.getElem?_eq_getElem l1) (j := (os.idxOf u + step) % os.length) (by rw [h2]; exact List.getElem?_eq_getElem l2)
  have k1 := List.idxOf_lt_length_iff.mpr hw
  have k2 := List.idxOf_lt_length_iff.mpr hu
  have e2 : os.idxOf w = os.idxOf u := mod_inj k1 k2 e
  have g1 := List.getElem_idxOf k1
  have g2 := List.getElem_idxOf k2
  rw [← g1, ← g2]
  simp only [e2]
theorem turn_mem {os : Bal} (pos : 0 < os.length) {step : Nat} {w : List Nat} : turnW os step w ∈ os := by
  unfold turnW
  have l1 := Nat.mod_lt (os.idxOf w + step) pos
  rw [List.getD_eq_getElem?_getD, List.getElem?_eq_getElem l1]
  exact List.getElem_mem l1
theorem turn_bal {os b : Bal} (ho : okOpts os) (h : okBal os b) {step : Nat} : okBal os (b.map (turnW os step)) := by
  refine ⟨List.pairwise_map.mpr (List.Pairwise.imp_of_mem (fun {x y} mx my ne e => ne (turn_inj ho.nd ho.pos (h.sub x mx) (h.sub y my) e)) h.nd), fun w m => ?_⟩
  obtain ⟨u, mu, rfl⟩ := List.mem_map.mp m
  exact turn_mem ho.pos
theorem idxD_w {ws : Bal} {w : List Nat} (h : w ∈ ws) : ∀ j : Nat, idxD (nD w) (ws.map nD) j = some (j + ws.idxOf w) := by
  induction ws with
  | nil => cases h
  | cons v ws ih =>
    intro j
    show (if eqV (toV (nD v)) (toV (nD w)) = true then some j else idxD (nD w) (ws.map nD) (j + 1)) = _
    by_cases z : v = w
    · have e : eqV (toV (nD v)) (toV (nD w)) = true := by rw [z]; exact beq_self_eq_true _
      rw [if_pos e, List.idxOf_cons, z]
      simp
    · have e : ¬ eqV (toV (nD v)) (toV (nD w)) = true := fun q => z (S_inj (eq_of_beq (show (S v == S w) = true from q)))
      have h2 : w ∈ ws := (List.mem_cons.mp h).resolve_left (Ne.symm z)
      rw [if_neg e, ih h2, List.idxOf_cons, beq_eq_false_iff_ne.mpr z]
      simp
      omega
theorem gIdx_w {ws : Bal} {w : List Nat} (h : w ∈ ws) : gIdx (ws.map nD) [nD w] = .ok (.int ((ws.idxOf w : Nat) : Int)) := by
  show (if flatD (nD w) = true ∧ (ws.map nD).all flatD = true then (optR (idxD (nD w) (ws.map nD) 0)).bind fun j => R.ok (D.int (j : Int)) else .bad) = _
  rw [if_pos ⟨rfl, flat_names⟩, idxD_w h, Nat.zero_add]
  rfl
theorem eMtL_lst {g : List D → List D → R D} {fo : Ev → R D} {fl : Ev → R (List D)} {ρ : Ev} {xs : List D} (h : fo ρ = .ok (.lst xs)) : eMtL g fo fl ρ = (fl ρ).bind fun ds => g xs ds := by
  unfold eMtL
  rw [h]
  rfl
def taE (os : Bal) (gs rs : List Row) (s3 s4 s5 : Sl) : Ev := [.v (.lst (os.map nD)), .v (.lst (gs.map rowD)), .l (rs.map rowD), s3, s4, s5, .no]
def turnR (os : Bal) (step : Nat) (r : Row) : Row := (r.1.map (turnW os step), r.2)
theorem ta_in {os : Bal} {gs rs : List Row} {step : Nat} {s4 s5 : Sl} (ho : okOpts os) (hg : okRows os gs) (hl : gs.length ≤ 3) (hr : rs.length ≤ 100) : ∃ s4' s5', loop (gT 2 (gsC (gN 4) (gsC (gN 5) (gsN)))) B__law_turned_about_1 (gs.map rowD) (taE os gs rs (.v (.int (step : Int))) s4 s5) = .nx (taE os gs (rs ++ gs.map (turnR os step)) (.v (.int (step : Int))) s4' s5') := by
  have pos := ho.pos
  obtain ⟨ρ', e, s4', s5', rfl⟩ := loop_map (inj := rowD) (h := gT 2 (gsC (gN 4) (gsC (gN 5) (gsN)))) (body := B__law_turned_about_1) (l := gs) (ρ := taE os gs rs (.v (.int (step : Int))) s4 s5)
    (fun i ρ => ∃ s4 s5 : Sl, ρ = taE os gs (rs ++ (gs.take i).map (turnR os step)) (.v (.int (step : Int))) s4 s5) ⟨s4, s5, by rw [List.take_zero, List.map_nil, List.append_nil]⟩ (by
      rintro i r ρ q ⟨s4, s5, rfl⟩
      refine ⟨taE os gs (rs ++ (gs.take i).map (turnR os step)) (.v (.int (step : Int))) (.v (bD r.1)) (.v (.int r.2)), rfl, ?_⟩
      have ob := hg.bal r (List.mem_of_getElem? q)
      have bl := ob.len
      have bz : (r.1.map nD).length ≤ sizeLine := by have := ho.few; rw [List.length_map]; exact szle (by omega)
      have sz : ((rs ++ (gs.take i).map (turnR os step)).map rowD).length < sizeLine := by
        rw [List.length_map, List.length_append, List.length_map, List.length_take]
        exact szlt (by omega)
      have gb : gIt (bD r.1) = .ok (r.1.map nD) := rfl
      have lc : ∀ s2 : Sl, lcL (gN 6) tsY (e2 gIx (eV 0) (e2 gMod (eA gInt (aC (e2 gAdd (eMtL gIdx (eV 0) (aC (eV 6) (aN))) (eV 3)) (aN))) (eA gLen (aC (eV 0) (aN))))) [.v (.lst (os.map nD)), .v (.lst (gs.map rowD)), s2, .v (.int (step : Int)), .v (bD r.1), .v (.int r.2), .no] (r.1.map nD) = .ok ((r.1.map (turnW os step)).map nD) := fun s2 => by
        rw [lc_all (inj := nD) (fun w => nD (turnW os step w)) fun w mw => ⟨[.v (.lst (os.map nD)), .v (.lst (gs.map rowD)), s2, .v (.int (step : Int)), .v (bD r.1), .v (.int r.2), .v (nD w)], rfl, rfl, by
          have ix := gIdx_w (ob.sub w mw)
          have em : eMtL gIdx (eV 0) (aC (eV 6) aN) [.v (.lst (os.map nD)), .v (.lst (gs.map rowD)), s2, .v (.int (step : Int)), .v (bD r.1), .v (.int r.2), .v (nD w)] = .ok (.int ((os.idxOf w : Nat) : Int)) := by
            rw [eMtL_lst (xs := os.map nD) rfl]
            simp_arith [ix]
          have md : ∀ z : Int, gMod (.int z) (.int (os.length : Int)) = .ok (.int (z % (os.length : Int))) := fun z => gMod_int (by omega)
          have gi : gIx (.lst (os.map nD)) (.int ((((os.idxOf w : Nat) : Int) + (step : Int)) % (os.length : Int))) = .ok (nD (turnW os step w)) := by
            have en : (((os.idxOf w : Nat) : Int) + (step : Int)) % (os.length : Int) = (((os.idxOf w + step) % os.length : Nat) : Int) := by
              rw [Int.natCast_emod, Int.natCast_add]
            rw [en]
            refine gIx_map (inj := nD) (by omega) ?_
            rw [Int.toNat_natCast]
            unfold turnW
            rw [List.getD_eq_getElem?_getD, List.getElem?_eq_getElem (Nat.mod_lt _ pos)]
            rfl
          simp_arith [em, List.length_map, md, gi]⟩, List.map_map]
        rfl
      have nx : rs ++ (gs.take (i + 1)).map (turnR os step) = rs ++ (gs.take i).map (turnR os step) ++ [turnR os step r] := by
        rw [List.take_succ, q, List.map_append, List.append_assoc]
        rfl
      have st : B__law_turned_about_1 (taE os gs (rs ++ (gs.take i).map (turnR os step)) (.v (.int (step : Int))) (.v (bD r.1)) (.v (.int r.2))) = .nx (taE os gs (rs ++ (gs.take (i + 1)).map (turnR os step)) (.v (.int (step : Int))) (.v (bD r.1)) (.v (.int r.2))) := by
        rw [nx]
        generalize rs ++ (gs.take i).map (turnR os step) = acc at *
        have lc := lc (.l (acc.map rowD))
        have mp : (acc ++ [turnR os step r]).map rowD = acc.map rowD ++ [.tup [.tup ((r.1.map (turnW os step)).map nD), .int r.2]] := by rw [List.map_append]; rfl
        unfold taE
        rw [mp]
        unfold B__law_turned_about_1
        simp_arith [gb, bz, lc, gTup2, sz]
      rw [st]
      exact ⟨_, _, rfl⟩)
  rw [List.take_length] at e
  exact ⟨s4', s5', e⟩
theorem turned_ok {os : Bal} {gs : List Row} (ho : okOpts os) (hg : okRows os gs) (hb : ∀ r ∈ gs, r.2 ≤ 1000000000) (hl : gs.length ≤ 3) : ∃ rs, okGiv os rs ∧ F__law_turned_about [.lst (os.map nD), .lst (gs.map rowD)] = .ok (.lst (rs.map rowD)) := by
  have few := ho.few
  obtain ⟨ρ', e, rs, s3, s4, s5, lr, okr, bg, rfl⟩ := loop_rg (h := gN 3) (body := B__law_turned_about_2) (lo := 0) (n := os.length) (ρ := taE os gs [] .no .no .no)
    (fun i ρ => ∃ (rs : List Row) (s3 s4 s5 : Sl), rs.length = i * gs.length ∧ okRows os rs ∧ (∀ r ∈ rs, r.2 ≤ 1000000000) ∧ ρ = taE os gs rs s3 s4 s5) ⟨[], .no, .no, .no, by simp, .nil, fun _ m => (nomatch m), rfl⟩ (by
      rintro i ρ hi ⟨rs, s3, s4, s5, lr, okr, bg, rfl⟩
      refine ⟨taE os gs rs (.v (.int (i : Int))) s4 s5, by rw [Int.zero_add]; rfl, ?_⟩
      have l12 : rs.length ≤ 100 := by
        rw [lr]
        have := Nat.mul_le_mul (show i ≤ 4 by omega) hl
        omega
      obtain ⟨s4', s5', lp⟩ := ta_in (s4 := s4) (s5 := s5) (step := i) ho hg hl l12
      have st : B__law_turned_about_2 (taE os gs rs (.v (.int (i : Int))) s4 s5) = .nx (taE os gs (rs ++ gs.map (turnR os i)) (.v (.int (i : Int))) s4' s5') := by
        rw [← lp]
        unfold taE B__law_turned_about_2
        simp_arith []
      rw [st]
      refine ⟨_, _, _, _, ?_, okr.app ⟨fun r m => ?_, fun r m => ?_⟩, fun r m => ?_, rfl⟩
      · rw [List.length_append, List.length_map, lr, Nat.succ_mul]
      · obtain ⟨g, mg, rfl⟩ := List.mem_map.mp m
        exact turn_bal ho (hg.bal g mg)
      · obtain ⟨g, mg, rfl⟩ := List.mem_map.mp m
        exact hg.nn g mg
      · rcases List.mem_append.mp m with m | m
        · exact bg r m
        · obtain ⟨g, mg, rfl⟩ := List.mem_map.mp m
          exact hb g mg)
  refine ⟨rs, ⟨okr, ?_, bg⟩, ?_⟩
  · rw [lr]
    have := Nat.mul_le_mul few hl
    omega
  · have sm : small62 (os.length : Int) := small_rg (by omega) (by omega)
    unfold taE at e
    have e : loop (gN 3) B__law_turned_about_2 (rgD 0 os.length) [.v (.lst (os.map nD)), .v (.lst (gs.map rowD)), .l [], .no, .no, .no, .no] = _ := e
    unfold F__law_turned_about G__law_turned_about
    simp_arith [sz0, List.length_map, sm, Int.toNat_natCast, e]
end Tk

namespace Tk
open PySem PySem.Spec L2 PyProof.Rows
theorem okGiv.take {os : Bal} {rs : List Row} (h : okGiv os rs) (n : Nat) : okGiv os (rs.take n) := ⟨h.tookRows.take n, by rw [List.length_take]; have := h.few; omega, fun r m => h.big r (List.mem_of_mem_take m)⟩
theorem given_ok {hs ps : List Int} {os : Bal} {cell : Int} (ho : okOpts os) (hh : 6 ≤ hs.length) (hp : 24 ≤ ps.length) : ∃ rs, okGiv os rs ∧ F__law_given [.lst (os.map nD), .lst (hs.map .int), .lst (ps.map .int), .int cell] = .ok (.lst (rs.map rowD)) := by
  have p1 := part_ok (ps := hs) (spot := 5) (under := 4) (size := 13) (by decide) (by omega) (by decide) (by decide) (by decide)
  have p2 := part_ok (ps := hs) (spot := 5) (under := 52) (size := 4) (by decide) (by omega) (by decide) (by decide) (by decide)
  have p3 := part_ok (ps := hs) (spot := 5) (under := 1456) (size := 3) (by decide) (by omega) (by decide) (by decide) (by decide)
  have a1 := part_lo (ps := hs) (spot := 5) (under := 4) (size := 13) (by decide)
  have b1 := part_hi (ps := hs) (spot := 5) (under := 4) (size := 13) (by decide)
  generalize part hs 5 4 13 = n at *
  generalize part hs 5 52 4 = way at *
  generalize part hs 5 1456 3 = x3 at *
  obtain ⟨gs, og, lg, bl⟩ := ballots_ok (ps := ps) (spot := 0) (number := n) ho (by decide) a1 (by omega) (by omega)
  have gl : gs.length ≤ 12 := by omega
  have md2 : gMod (.int way) (.int 2) = .ok (.int (way % 2)) := gMod_int (by decide)
  obtain ⟨qs, lq, _, eq⟩ := pool15_ok (c := cell) (n := 34) (by decide) (by decide)
  obtain ⟨fs, lf, _, ef⟩ := pool15_ok (c := cell) (n := 36) (by decide) (by decide)
  have gz : (gs.map rowD).length ≤ sizeLine := by rw [List.length_map]; exact szle (by omega)
  by_cases c1 : way % 2 = 0 ∧ x3 = 1
  · obtain ⟨rs, or, er⟩ := each_ok (ps := qs) ho (by rw [lq]; rfl)
    refine ⟨rs, or, ?_⟩
    unfold F__law_given G__law_given
    simp_arith [p1, bl, p2, md2, decide_eq_true c1.1, p3, decide_eq_true c1.2, eq, er]
  · have hc : (if decide (way % 2 = 0) = true then (R.ok (decide (x3 = 1)) : R Bool) else .ok false) = .ok false := by
      by_cases z : way % 2 = 0
      · rw [if_pos (decide_eq_true z), decide_eq_false fun q => c1 ⟨z, q⟩]
      · rw [if_neg (by simpa using z)]
    by_cases c2 : way = 1
    · have lc : ∀ s0 s1 s2 s3 s4 s5 s6 s9 : Sl, lcL (gT 2 (gsC (gN 7) (gsC (gN 8) (gsN)))) tsY (eA gTup (aC (eV 7) (aC (e2 gMod (eA gInt (aC (eV 8) (aN))) (eC (.int 3))) (aN)))) [s0, s1, s2, s3, s4, s5, s6, .no, .no, s9] (gs.map rowD) = .ok ((gs.map fun r => (r.1, r.2 % 3)).map rowD) := fun s0 s1 s2 s3 s4 s5 s6 s9 => by
        rw [lc_all (inj := rowD) (fun r => rowD (r.1, r.2 % 3)) fun r m => ⟨[s0, s1, s2, s3, s4, s5, s6, .v (bD r.1), .v (.int r.2), s9], rfl, rfl, by
          have m3 : gMod (.int r.2) (.int 3) = .ok (.int (r.2 % 3)) := gMod_int (by decide)
          simp_arith [m3, gTup2]
          rfl⟩, List.map_map]
        rfl
      refine ⟨gs.map fun r => (r.1, r.2 % 3), ⟨⟨fun r m => ?_, fun r m => ?_⟩, by rw [List.length_map]; omega, fun r m => ?_⟩, ?_⟩
      · obtain ⟨g, mg, rfl⟩ := List.mem_map.mp m; exact og.bal g mg
      · obtain ⟨g, mg, rfl⟩ := List.mem_map.mp m; exact Int.emod_nonneg _ (by decide)
      · obtain ⟨g, mg, rfl⟩ := List.mem_map.mp m
        have := Int.emod_lt_of_pos g.2 (by decide : (0 : Int) < 3)
        show g.2 % 3 ≤ 1000000000
        omega
      · unfold F__law_given G__law_given
        simp_arith [p1, bl, p2, md2, p3, hc, decide_eq_true c2, gz, lc]
    · by_cases c3 : way = 2
      · have sm : small62 (gs.length : Int) := small_rg (by omega) (by omega)
        have rz : (rgD 0 gs.length).length ≤ sizeLine := by rw [rgD_len]; exact szle (by omega)
        have pw : gPow (.int 10) (.int 9) = .ok (.int 1000000000) := gPow_int (by decide) (by decide) (by decide) (by decide)
        have hv : ∀ k : Nat, k < gs.length → ∃ v : Int, 0 ≤ v ∧ v ≤ 1000000000 ∧ F__law_big [.lst (fs.map .int), .int (3 * (k : Int)), .int 0, .int 1000000000] = .ok (.int v) := fun k hk => big_ok (by omega) (by rw [lf]; show 3 * (k : Int) + 2 < ((36 : Nat) : Int); omega) (by decide)
        let val : Nat → Int := fun k => if h : k < gs.length then (hv k h).choose else 0
        have vk : ∀ k, k < gs.length → 0 ≤ val k ∧ val k ≤ 1000000000 ∧ F__law_big [.lst (fs.map .int), .int (3 * (k : Int)), .int 0, .int 1000000000] = .ok (.int (val k)) := fun k hk => by
          have e : val k = (hv k hk).choose := dif_pos hk
          rw [e]
          exact (hv k hk).choose_spec
        have lc : ∀ s0 s1 s2 s3 s5 s7 s8 : Sl, lcL (gN 9) tsY (eA gTup (aC (e2 gIx (e2 gIx (eV 4) (eV 9)) (eC (.int 0))) (aC (eCall 4 F__law_big (aC (eV 6) (aC (e2 gMul (eC (.int 3)) (eV 9)) (aC (eC (.int 0)) (aC (e2 gPow (eC (.int 10)) (eC (.int 9))) (aN)))))) (aN)))) [s0, s1, s2, s3, .v (.lst (gs.map rowD)), s5, .v (.lst (fs.map .int)), s7, s8, .no] (rgD 0 gs.length) = .ok (((List.range gs.length).filter fun _ => true).map fun k => rowD ((gs.getD k ([], 0)).1, val k)) := fun s0 s1 s2 s3 s5 s7 s8 => by
          refine lc_rg (fun _ => true) (fun k => rowD ((gs.getD k ([], 0)).1, val k)) fun k hk => ⟨[s0, s1, s2, s3, .v (.lst (gs.map rowD)), s5, .v (.lst (fs.map .int)), s7, s8, .v (.int (k : Int))], rfl, rfl, fun _ => ?_⟩
          have gi : gIx (.lst (gs.map rowD)) (.int (k : Int)) = .ok (rowD (gs.getD k ([], 0))) := gIx_map (inj := rowD) (by omega) (by rw [Int.toNat_natCast, List.getD_eq_getElem?_getD, List.getElem?_eq_getElem hk]; rfl)
          have g0 : ∀ r : Row, gIx (rowD r) (.int 0) = .ok (bD r.1) := fun r => gIx_tup (by decide) (by show (0 : Int) < ((2 : Nat) : Int); decide)
          have mk : gMul (.int 3) (.int (k : Int)) = .ok (.int (3 * (k : Int))) := gMul_l (by decide) (by decide)
          have bv := (vk k hk).2.2
          simp_arith [gi, g0, mk, pw, bv, gTup2]
          rfl
        have gm : ∀ k, k < gs.length → gs.getD k ([], 0) ∈ gs := fun k hk => by
          rw [List.getD_eq_getElem?_getD, List.getElem?_eq_getElem hk]
          exact List.getElem_mem hk
        refine ⟨(List.range gs.length).map fun k => ((gs.getD k ([], 0)).1, val k), ⟨⟨fun r m => ?_, fun r m => ?_⟩, by rw [List.length_map, List.length_range]; omega, fun r m => ?_⟩, ?_⟩
        · obtain ⟨k, mk, rfl⟩ := List.mem_map.mp m; exact og.bal (gs.getD k ([], 0)) (gm k (List.mem_range.mp mk))
        · obtain ⟨k, mk, rfl⟩ := List.mem_map.mp m; exact (vk k (List.mem_range.mp mk)).1
        · obtain ⟨k, mk, rfl⟩ := List.mem_map.mp m; exact (vk k (List.mem_range.mp mk)).2.1
        · rw [show (List.range gs.length).filter (fun _ => true) = List.range gs.length from List.filter_eq_self.mpr fun _ _ => rfl] at lc
          unfold F__law_given G__law_given
          simp_arith [p1, bl, p2, md2, p3, hc, decide_eq_false c2, decide_eq_true c3, ef, List.length_map, sm, Int.toNat_natCast, rz, lc]
          rw [List.map_map]
          rfl
      · by_cases c4 : way = 3
        · obtain ⟨rs, or, er⟩ := turned_ok (os := os) (gs := gs.take 3) ho (og.tookRows.take 3) (og.take 3).big (by rw [List.length_take]; omega)
          have sl : gSl (.lst (gs.map rowD)) none (some 3) = .ok (.lst ((gs.take 3).map rowD)) := by
            rw [gSl_lst (by decide), List.map_take]
            rfl
          refine ⟨rs, or, ?_⟩
          unfold F__law_given G__law_given
          simp_arith [p1, bl, p2, md2, p3, hc, decide_eq_false c2, decide_eq_false c3, decide_eq_true c4, sl, er]
        · refine ⟨gs, og, ?_⟩
          unfold F__law_given G__law_given
          simp_arith [p1, bl, p2, md2, p3, hc, decide_eq_false c2, decide_eq_false c3, decide_eq_false c4]
end Tk

namespace Tk
open PySem PySem.Spec L2 PyProof.Rows
/-! ### the top of a ballot, the votes, who leaves -/
def nmO : Option (List Nat) → D
  | none => .non
  | some w => nD w
def topB (b rem : Bal) : Option (List Nat) := b.find? fun w => decide (w ∈ rem)
/-- a list, a tuple, a tuple without a dict -/
inductive Sh where | l | t | z
def Sh.D : Sh → Bal → D
  | .l, b => .lst (b.map nD)
  | .t, b => bD b
  | .z, b => zD b
theorem in_sh {sh : Sh} {w : List Nat} {b : Bal} : gInS false (nD w) (sh.D b) = .ok (.bl (decide (w ∈ b))) := by
  cases sh
  · exact in_lst
  · exact in_tup
  · exact in_tpz
theorem nin_sh {sh : Sh} {w : List Nat} {b : Bal} : gInS true (nD w) (sh.D b) = .ok (.bl (!decide (w ∈ b))) := by
  cases sh
  · exact nin_lst
  · exact nin_tup
  · exact nin_tpz
theorem it_sh {sh : Sh} {b : Bal} : gIt (sh.D b) = .ok (b.map nD) := by cases sh <;> rfl
theorem len_sh {sh : Sh} {b : Bal} : gLen [sh.D b] = .ok (.int (b.length : Int)) := by
  cases sh
  · show gLen [.lst (b.map nD)] = _; rw [gLen_lst, List.length_map]
  · show gLen [.tup (b.map nD)] = _; rw [gLen_tup, List.length_map]
  · show gLen [.tpz (b.map nD)] = _; rw [gLen_tpz, List.length_map]
theorem top_loop {sh sh' : Sh} {b0 rem : Bal} : ∀ {b : Bal} {s : Sl}, (∃ s', loop (gN 2) B_top_1 (b.map nD) [.v (sh.D b0), .v (sh'.D rem), s] = .nx [.v (sh.D b0), .v (sh'.D rem), s'] ∧ topB b rem = none) ∨ ∃ w, topB b rem = some w ∧ loop (gN 2) B_top_1 (b.map nD) [.v (sh.D b0), .v (sh'.D rem), s] = .rt (nD w)
  | [], s => .inl ⟨s, rfl, rfl⟩
  | w :: b, s => by
    rw [List.map_cons, loop_cons]
    have st : B_top_1 [.v (sh.D b0), .v (sh'.D rem), .v (nD w)] = if w ∈ rem then .rt (nD w) else .nx [.v (sh.D b0), .v (sh'.D rem), .v (nD w)] := by
      unfold B_top_1
      simp_arith [in_sh]
      by_cases c : w ∈ rem
      · rw [if_pos (decide_eq_true c), if_pos c]
      · rw [if_neg (by simpa using c), if_neg c]
    have g : gN 2 (nD w) [.v (sh.D b0), .v (sh'.D rem), s] = some [.v (sh.D b0), .v (sh'.D rem), .v (nD w)] := rfl
    rw [g, ofO_some, st]
    by_cases c : w ∈ rem
    · refine .inr ⟨w, ?_, ?_⟩
      · unfold topB; rw [List.find?_cons_of_pos (by simpa using c)]
      · rw [if_pos c]; rfl
    · rw [if_neg c, lp_nx]
      have e : topB (w :: b) rem = topB b rem := by unfold topB; rw [List.find?_cons_of_neg (by simpa using c)]
      rw [e]
      exact top_loop
theorem top_ok {sh sh' : Sh} {b rem : Bal} : F_top [sh.D b, sh'.D rem] = .ok (nmO (topB b rem)) := by
  unfold F_top G_top
  rcases top_loop (sh := sh) (sh' := sh') (b0 := b) (b := b) (rem := rem) (s := .no) with ⟨s', e, e2⟩ | ⟨w, e2, e⟩
  · rw [e2]
    simp_arith [it_sh, e]
    rfl
  · rw [e2]
    simp_arith [it_sh, e]
    rfl
def remB (os gone : Bal) : Bal := os.filter fun w => !decide (w ∈ gone)
theorem rem_ok {os gone : Bal} {sh : Sh} (h : os.length ≤ 1000) : F_remaining_after [zD os, sh.D gone] = .ok (zD (remB os gone)) := by
  have lc : lcL (gN 2) (tV (e2 (gInS true) (eV 2) (eV 1))) (eV 2) [.v (zD os), .v (sh.D gone), .no] (os.map nD) = .ok ((remB os gone).map nD) :=
    lc_map (inj := nD) (fun w => !decide (w ∈ gone)) nD fun w _ => ⟨[.v (zD os), .v (sh.D gone), .v (nD w)], rfl, by simp_arith [nin_sh], fun _ => rfl⟩
  have sz : (os.map nD).length ≤ sizeLine := by rw [List.length_map]; exact szle h
  have gi : gIt (zD os) = .ok (os.map nD) := rfl
  unfold F_remaining_after G_remaining_after
  simp_arith [gi, sz, lc, gTupZ_lst]
  rfl
/-! votes -/
def isTop (rem : Bal) (w : List Nat) (b : Bal) : Bool := decide (topB b rem = some w)
def noTop (rem : Bal) (b : Bal) : Bool := decide (topB b rem = none)
theorem top_mem {b rem : Bal} {w : List Nat} (h : topB b rem = some w) : w ∈ rem := by
  have := List.find?_some h
  exact of_decide_eq_true this
theorem sum_ind {r : Int} {o : Option (List Nat)} : ∀ {rem : Bal}, rem.Nodup → (∀ w, o = some w → w ∈ rem) → (rem.map fun w => if decide (o = some w) = true then r else 0).sum + (if decide (o = none) = true then r else 0) = r
  | rem, nd, h => by
    cases o with
    | none =>
      have e : (rem.map fun w => if decide ((none : Option (List Nat)) = some w) = true then r else 0) = rem.map fun _ => 0 := List.map_congr_left fun w _ => by simp
      rw [e]
      have z : ∀ l : Bal, (l.map fun _ => (0 : Int)).sum = 0 := fun l => by induction l with
        | nil => rfl
        | cons _ _ ih => rw [List.map_cons, List.sum_cons, ih]; rfl
      rw [z]
      simp
    | some u =>
      have m := h u rfl
      clear h
      have e0 : (if decide (some u = (none : Option (List Nat))) = true then r else 0) = 0 := by simp
      rw [e0, Int.add_zero]
      induction rem with
      | nil => cases m
      | cons w rem ih =>
        obtain ⟨n1, n2⟩ := List.nodup_cons.mp nd
        rw [List.map_cons, List.sum_cons]
        by_cases z : u = w
        · subst z
          have e : (rem.map fun w => if decide (some u = some w) = true then r else 0) = rem.map fun _ => 0 := List.map_congr_left fun w mw => by
            have : ¬ u = w := fun q => n1 (by rw [q]; exact mw)
            simp [this]
          have zz : ∀ l : Bal, (l.map fun _ => (0 : Int)).sum = 0 := fun l => by induction l with
            | nil => rfl
            | cons _ _ ih => rw [List.map_cons, List.sum_cons, ih]; rfl
          rw [e, zz]
          simp
        · have m2 : u ∈ rem := (List.mem_cons.mp m).resolve_left z
          have : (if decide (some u = some w) = true then r else 0) = 0 := by simp [z]
          rw [this, ih n2 m2, Int.zero_add]
theorem sum_add {α : Type} (f g : α → Int) : ∀ l : List α, (l.map fun x => f x + g x).sum = (l.map f).sum + (l.map g).sum
  | [] => rfl
  | x :: l => by
    rw [List.map_cons, List.map_cons, List.map_cons, List.sum_cons, List.sum_cons, List.sum_cons, sum_add f g l]
    omega
theorem votes_sum {rem : Bal} (nd : rem.Nodup) : ∀ rs : List Row, (rem.map fun w => sumP (isTop rem w) rs).sum + sumP (noTop rem) rs = totR rs
  | [] => by
    have z : ∀ l : Bal, (l.map fun w => sumP (isTop rem w) []).sum = 0 := fun l => by induction l with
      | nil => rfl
      | cons _ _ ih => rw [List.map_cons, List.sum_cons, ih]; rfl
    rw [z]
    rfl
  | r :: rs => by
    have ih := votes_sum nd rs
    have e : (rem.map fun w => sumP (isTop rem w) (r :: rs)) = rem.map fun w => (if isTop rem w r.1 = true then r.2 else 0) + sumP (isTop rem w) rs := List.map_congr_left fun w _ => sumP_cons
    have s := sum_ind (r := r.2) (o := topB r.1 rem) nd fun w h => top_mem h
    have t : totR (r :: rs) = r.2 + totR rs := by unfold totR; rw [List.map_cons, List.sum_cons]
    rw [e, sum_add, sumP_cons, t, ← ih]
    show ((rem.map fun w => if decide (topB r.1 rem = some w) = true then r.2 else 0).sum + _) + ((if decide (topB r.1 rem = none) = true then r.2 else 0) + _) = _
    omega
def vtR (rem : Bal) (rs : List Row) : List Int := rem.map fun w => sumP (isTop rem w) rs
theorem clean_w {w : List Nat} (h : okName w) : cleanD 0 (nD w) = true := by
  have : PyData.strOk (S w) = true := S_ok fun c m => by have := (h.2.2 c m).2; omega
  simpa [cleanD] using this
theorem clean_nmO {o : Option (List Nat)} (h : ∀ w, o = some w → okName w) : cleanD 0 (nmO o) = true := by
  cases o with
  | none => rfl
  | some w => exact clean_w (h w rfl)
theorem nD_inj {a b : List Nat} (h : nD a = nD b) : a = b := S_inj (D.str.inj h)
theorem eq_nmO {o : Option (List Nat)} {w : List Nat} (h : ∀ w, o = some w → okName w) (hw : okName w) : gEq (nmO o) (nD w) = .ok (.bl (decide (o = some w))) := by
  obtain ⟨h1, h2⟩ := gEq_clean (a := nmO o) (b := nD w) (by decide) (by decide) (clean_nmO h) (clean_w hw)
  by_cases z : o = some w
  · rw [h1 (by rw [z]; rfl), decide_eq_true z]
  · rw [h2 (fun e => z ?_), decide_eq_false z]
    cases o with
    | none => cases e
    | some u => rw [nD_inj e]
theorem roll_it {os : Bal} {ns : List Row} : F_Roll___iter__ [rollD os ns] = .ok (.tup (ns.map rowD)) := by
  have gf : gFld [52] 51 (rollD os ns) = .ok (.tup (ns.map rowD)) := by
    unfold rollD
    rw [gFld_ins, if_pos (by simp)]
    rfl
  unfold F_Roll___iter__ G_Roll___iter__
  simp_arith [gf]
theorem votes_ok {os rem : Bal} {ns : List Row} (hn : ns.length ≤ 1000) (hr : rem.length ≤ 1000) (ok : ∀ w ∈ rem, okName w) : F_votes_among [rollD os ns, zD rem] = .ok (.tup [.tup ((vtR rem ns).map .int), .int (totR ns - (vtR rem ns).sum)]) := by
  have ri := roll_it (os := os) (ns := ns)
  have isr : isIns 52 (rollD os ns) = true := decide_eq_true (p := (52 : Nat) = 52) rfl
  have rt : R.tup (.ok (.tup (ns.map rowD))) = .ok (ns.map rowD) := rfl
  have sz : (ns.map rowD).length ≤ sizeLine := by rw [List.length_map]; exact szle hn
  have sz2 : (rem.map nD).length ≤ sizeLine := by rw [List.length_map]; exact szle hr
  let tD : Row → D := fun r => .tup [nmO (topB r.1 rem), .int r.2]
  have sz3 : (ns.map tD).length ≤ sizeLine := by rw [List.length_map]; exact szle hn
  have lc1 : ∀ s3 s6 s7 : Sl, lcL (gT 2 (gsC (gN 4) (gsC (gN 5) (gsN)))) tsY (eA gTup (aC (eCall 2 F_top (aC (eV 4) (aC (eV 1) (aN)))) (aC (eV 5) (aN)))) [.v (rollD os ns), .v (zD rem), .no, s3, .no, .no, s6, s7] (ns.map rowD) = .ok (ns.map tD) := fun s3 s6 s7 =>
    lc_all (inj := rowD) tD fun r m => ⟨[.v (rollD os ns), .v (zD rem), .no, s3, .v (bD r.1), .v (.int r.2), s6, s7], rfl, rfl, by
      have tp : F_top [bD r.1, zD rem] = _ := top_ok (sh := .t) (sh' := .z)
      simp_arith [tp, gTup2]
      rfl⟩
  have lc2 : ∀ (w : List Nat) (s3 s4 : Sl), w ∈ rem → lcL (gT 2 (gsC (gN 7) (gsC (gN 5) (gsN)))) (tV (e2 gEq (eV 7) (eV 6))) (eV 5) [.v (rollD os ns), .v (zD rem), .v (.lst (ns.map tD)), s3, s4, .no, .v (nD w), .no] (ns.map tD) = .ok ((((ns.filter fun r => isTop rem w r.1).map (·.2))).map .int) := fun w s3 s4 mw => by
    rw [lc_map (inj := tD) (fun r => isTop rem w r.1) (fun r => D.int r.2) fun r m => ⟨[.v (rollD os ns), .v (zD rem), .v (.lst (ns.map tD)), s3, s4, .v (.int r.2), .v (nD w), .v (nmO (topB r.1 rem))], rfl, by
      have e := eq_nmO (o := topB r.1 rem) (w := w) (fun u hu => ok u (top_mem hu)) (ok w mw)
      simp_arith [e]
      rfl, fun _ => rfl⟩, List.map_map]
    rfl
  have lc3 : ∀ (s3 s4 : Sl), lcL (gN 6) tsY (eA gSum (aC (eLc [7, 5] (iSq (eV 2)) (gT 2 (gsC (gN 7) (gsC (gN 5) (gsN)))) (tV (e2 gEq (eV 7) (eV 6))) (eV 5)) (aN))) [.v (rollD os ns), .v (zD rem), .v (.lst (ns.map tD)), s3, s4, .no, .no, .no] (rem.map nD) = .ok ((vtR rem ns).map .int) := fun s3 s4 => by
    rw [lc_all (inj := nD) (fun w => D.int (sumP (isTop rem w) ns)) fun w mw => ⟨[.v (rollD os ns), .v (zD rem), .v (.lst (ns.map tD)), s3, s4, .no, .v (nD w), .no], rfl, rfl, by
      have e := lc2 w s3 s4 mw
      simp_arith [sz3, e, gSum_map]
      rfl⟩]
    unfold vtR
    rw [List.map_map]
    rfl
  have gf : gFld [52] 4 (rollD os ns) = .ok (.int (totR ns)) := by
    unfold rollD
    rw [gFld_ins, if_pos (by simp)]
    rfl
  have gz : gIt (zD rem) = .ok (rem.map nD) := rfl
  unfold F_votes_among G_votes_among
  simp_arith [iDun_ap, isr, ri, rt, sz, lc1, gz, sz2, lc3, gSum_map, gf, gTup2]
/-! who leaves: the last of the fewest -/
def lvI (vs : List Int) : Nat := (List.range vs.length).foldl (fun j k => if vs.getD k 0 ≤ vs.getD j 0 then k else j) 0
structure LastMin (vs : List Int) (j : Nat) : Prop where
  lt : j < vs.length
  le : ∀ k, k < vs.length → vs.getD j 0 ≤ vs.getD k 0
  last : ∀ k, j < k → k < vs.length → vs.getD j 0 < vs.getD k 0
theorem lvI_ok {vs : List Int} (h : vs ≠ []) : LastMin vs (lvI vs) := by
  have go : ∀ m, m ≤ vs.length → ∀ j, j = (List.range m).foldl (fun j k => if vs.getD k 0 ≤ vs.getD j 0 then k else j) 0 → (m = 0 ∧ j = 0) ∨ (j < m ∧ (∀ k, k < m → vs.getD j 0 ≤ vs.getD k 0) ∧ ∀ k, j < k → k < m → vs.getD j 0 < vs.getD k 0) := by
    intro m
    induction m with
    | zero => intro _ j e; exact .inl ⟨rfl, e⟩
    | succ m ih =>
      intro hm j e
      rw [List.range_succ, List.foldl_append] at e
      refine .inr ?_
      have ih := ih (by omega) _ rfl
      generalize (List.range m).foldl (fun j k => if vs.getD k 0 ≤ vs.getD j 0 then k else j) 0 = i at *
      have e : j = if vs.getD m 0 ≤ vs.getD i 0 then m else i := e
      rcases ih with ⟨rfl, rfl⟩ | ⟨h1, h2, h3⟩
      · have : j = 0 := by rw [e]; split <;> rfl
        rw [this]
        exact ⟨by omega, fun k hk => by rw [show k = 0 by omega]; exact Int.le_refl _, fun k a b => by omega⟩
      · by_cases c : vs.getD m 0 ≤ vs.getD i 0
        · rw [e, if_pos c]
          refine ⟨by omega, fun k hk => ?_, fun k a b => by omega⟩
          by_cases z : k = m
          · rw [z]; exact Int.le_refl _
          · have := h2 k (by omega); omega
        · rw [e, if_neg c]
          refine ⟨by omega, fun k hk => ?_, fun k a b => ?_⟩
          · by_cases z : k = m
            · rw [z]; omega
            · exact h2 k (by omega)
          · by_cases z : k = m
            · rw [z]; omega
            · exact h3 k a (by omega)
  have l0 : 0 < vs.length := List.length_pos_iff.mpr h
  rcases go vs.length (Nat.le_refl _) (lvI vs) rfl with ⟨a, _⟩ | ⟨h1, h2, h3⟩
  · omega
  · exact ⟨h1, h2, h3⟩
def lvB (rem : Bal) (vs : List Int) : List Nat := rem.getD (lvI vs) []
theorem minI_at {vs : List Int} {j : Nat} (h : LastMin vs j) : minI vs = some (vs.getD j 0) := by
  cases vs with
  | nil => exact absurd h.lt (by simp)
  | cons m ns =>
    show some (ns.foldl min m) = _
    obtain ⟨f1, f2, f3⟩ := foldl_min ns m
    have mem : ns.foldl min m ∈ m :: ns := by
      rcases f1 with f1 | f1
      · rw [f1]; exact List.mem_cons_self
      · exact List.mem_cons_of_mem _ f1
    obtain ⟨k, k1, k2⟩ := List.getElem_of_mem mem
    have a := h.le k k1
    rw [List.getD_eq_getElem?_getD (l := m :: ns) (i := k), List.getElem?_eq_getElem k1, k2] at a
    have b : ns.foldl min m ≤ (m :: ns).getD j 0 := by
      have : (m :: ns).getD j 0 ∈ m :: ns := by
        rw [List.getD_eq_getElem?_getD, List.getElem?_eq_getElem h.lt]
        exact List.getElem_mem _
      rcases List.mem_cons.mp this with e | e
      · rw [e]; exact f2
      · exact f3 _ e
    have a2 : (m :: ns).getD j 0 ≤ ns.foldl min m := a
    rw [Int.le_antisymm b a2]
theorem last_ix {xs : List D} {x : D} : gIx (.lst (xs ++ [x])) (.int (-1)) = .ok x := by
  show optR (L2.atI (xs ++ [x]) (-1)) = _
  unfold L2.atI L2.ixN
  rw [List.length_append]
  have e : ((-1 : Int) + ((xs.length + [x].length : Nat) : Int)).toNat = xs.length := by
    show ((-1 : Int) + ((xs.length + 1 : Nat) : Int)).toNat = xs.length
    omega
  have c : -((xs.length + [x].length : Nat) : Int) ≤ (-1 : Int) := by
    show -((xs.length + 1 : Nat) : Int) ≤ (-1 : Int)
    omega
  rw [if_neg (by decide), if_pos c, e]
  show optR ((xs ++ [x])[xs.length]?) = _
  simp
theorem leaving_ok {rem : Bal} {vs : List Int} (hl : vs.length = rem.length) (h0 : vs ≠ []) (h1 : rem.length ≤ 1000) : F_leaving [zD rem, .tup (vs.map .int)] = .ok (nD (lvB rem vs)) := by
  have lm := lvI_ok h0
  have mn := minI_at lm
  have gm : gMinT [.tup (vs.map .int)] = .ok (.int (vs.getD (lvI vs) 0)) := by
    show (optR ((intsOf (vs.map .int)).bind minI)).bind _ = _
    rw [ints_map]
    show (optR (minI vs)).bind _ = _
    rw [mn]
    rfl
  generalize hj : lvI vs = j at *
  have jl := lm.lt
  have lc : lcL (gT 2 (gsC (gN 3) (gsC (gN 4) (gsN)))) (tV (e2 gEq (eV 4) (eV 2))) (eV 3) [.v (zD rem), .v (.tup (vs.map .int)), .v (.int (vs.getD j 0)), .no, .no] ((rem.zip vs).map fun p => .tup [nD p.1, .int p.2]) = .ok (((rem.zip vs).filter fun p => decide (p.2 = vs.getD j 0)).map fun p => nD p.1) :=
    lc_map (inj := fun p : List Nat × Int => D.tup [nD p.1, .int p.2]) (fun p => decide (p.2 = vs.getD j 0)) (fun p => nD p.1) fun p m => ⟨[.v (zD rem), .v (.tup (vs.map .int)), .v (.int (vs.getD j 0)), .v (nD p.1), .v (.int p.2)], rfl, by simp_arith [], fun _ => rfl⟩
  have zl : (rem.zip vs).length = rem.length := by rw [List.length_zip]; omega
  have zj : j < (rem.zip vs).length := by omega
  have spl : rem.zip vs = (rem.zip vs).take j ++ (rem.zip vs)[j] :: (rem.zip vs).drop (j + 1) := by rw [List.getElem_cons_drop, List.take_append_drop]
  have ej : (rem.zip vs)[j] = (rem.getD j [], vs.getD j 0) := by
    rw [List.getElem_zip, List.getD_eq_getElem?_getD, List.getD_eq_getElem?_getD, List.getElem?_eq_getElem jl, List.getElem?_eq_getElem (by omega : j < rem.length)]
    rfl
  have fd : ((rem.zip vs).drop (j + 1)).filter (fun p => decide (p.2 = vs.getD j 0)) = [] := by
    rw [List.filter_eq_nil_iff]
    intro p m
    obtain ⟨i, i1, i2⟩ := List.getElem_of_mem m
    rw [List.length_drop] at i1
    rw [List.getElem_drop, List.getElem_zip] at i2
    have := lm.last (j + 1 + i) (by omega) (by omega)
    rw [List.getD_eq_getElem?_getD (i := j + 1 + i), List.getElem?_eq_getElem (by omega : j + 1 + i < vs.length)] at this
    have t2 : vs.getD j 0 < vs[j + 1 + i] := this
    rw [← i2]
    simp only [decide_eq_true_eq]
    omega
  have fe : ((rem.zip vs).filter fun p => decide (p.2 = vs.getD j 0)) = (((rem.zip vs).take j).filter fun p => decide (p.2 = vs.getD j 0)) ++ [(rem.getD j [], vs.getD j 0)] := by
    conv => lhs; rw [spl]
    rw [List.filter_append, ej, List.filter_cons_of_pos (by simp), fd]
  rw [fe, List.map_append] at lc
  have lx := last_ix (xs := (((rem.zip vs).take j).filter fun p => decide (p.2 = vs.getD j 0)).map fun p => nD p.1) (x := nD (rem.getD j []))
  have zm := zip_map nD D.int rem vs
  have sz : ((rem.zip vs).map fun p : List Nat × Int => D.tup [nD p.1, .int p.2]).length ≤ sizeLine := by rw [List.length_map]; exact szle (by omega)
  have sq : seqD (zD rem) = some (true, rem.map nD) := rfl
  have lc : lcL (gT 2 (gsC (gN 3) (gsC (gN 4) (gsN)))) (tV (e2 gEq (eV 4) (eV 2))) (eV 3) [.v (zD rem), .v (.tup (vs.map .int)), .v (.int (vs.getD j 0)), .no, .no] ((rem.zip vs).map fun p => .tup [nD p.1, .int p.2]) = .ok ((((rem.zip vs).take j).filter fun p => decide (p.2 = vs.getD j 0)).map (fun p => nD p.1) ++ [nD (rem.getD j [])]) := lc
  have lv : lvB rem vs = rem.getD j [] := by unfold lvB; rw [hj]
  rw [lv]
  unfold F_leaving G_leaving
  simp_arith [gm, sq, optR_some, zm, sz, lc, lx]
end Tk

namespace Tk
open PySem PySem.Spec L2 PyProof.Rows
/-! ### a count, round by round -/
abbrev TRow := Bal × List Int × Int × Option (List Nat)
def vtS (S : (Bal → Bool) → Int) (left : Bal) : List Int := left.map fun w => S (isTop left w)
def outB (left : Bal) (lv : List Nat) : Bal := left.filter fun w => !decide (w = lv)
def lvS (S : (Bal → Bool) → Int) (left : Bal) : List Nat := lvB left (vtS S left)
def tabL (S : (Bal → Bool) → Int) : Nat → Bal → List TRow
  | 0, left => [(left, vtS S left, S (noTop left), none)]
  | n + 1, left => (left, vtS S left, S (noTop left), some (lvS S left)) :: tabL S n (outB left (lvS S left))
theorem lvB_mem {left : Bal} {vs : List Int} (hl : vs.length = left.length) (h0 : vs ≠ []) : lvB left vs ∈ left := by
  have := (lvI_ok h0).lt
  unfold lvB
  rw [List.getD_eq_getElem?_getD, List.getElem?_eq_getElem (by omega : lvI vs < left.length)]
  exact List.getElem_mem _
theorem vtS_len {S : (Bal → Bool) → Int} {left : Bal} : (vtS S left).length = left.length := List.length_map ..
theorem vtS_ne {S : (Bal → Bool) → Int} {left : Bal} (h : 0 < left.length) : vtS S left ≠ [] := fun e => by
  have := congrArg List.length e
  rw [vtS_len, List.length_nil] at this
  omega
theorem lvS_mem {S : (Bal → Bool) → Int} {left : Bal} (h : 0 < left.length) : lvS S left ∈ left := lvB_mem vtS_len (vtS_ne h)
theorem outB_len {left : Bal} {lv : List Nat} (nd : left.Nodup) (m : lv ∈ left) : (outB left lv).length + 1 = left.length := by
  unfold outB
  induction left with
  | nil => cases m
  | cons w left ih =>
    obtain ⟨n1, n2⟩ := List.nodup_cons.mp nd
    by_cases z : w = lv
    · subst z
      rw [List.filter_cons_of_neg (by simp), List.length_cons, List.filter_eq_self.mpr fun u mu => by
        have : ¬ u = w := fun e => n1 (by rw [← e]; exact mu)
        simp [this]]
    · rw [List.filter_cons_of_pos (by simpa using z), List.length_cons, List.length_cons, ih n2 ((List.mem_cons.mp m).resolve_left (Ne.symm z))]
theorem outB_nd {left : Bal} {lv : List Nat} (nd : left.Nodup) : (outB left lv).Nodup := nd.sublist List.filter_sublist
theorem outB_sub {left : Bal} {lv w : List Nat} (m : w ∈ outB left lv) : w ∈ left := (List.mem_filter.mp m).1
theorem remB_out {os gone : Bal} {lv : List Nat} : remB os (gone ++ [lv]) = outB (remB os gone) lv := by
  unfold remB outB
  rw [List.filter_filter]
  refine List.filter_congr fun w _ => ?_
  rw [Bool.eq_iff_iff]
  simp only [Bool.not_eq_true', decide_eq_false_iff_not, Bool.and_eq_true, List.mem_append, List.mem_singleton, not_or]
  exact ⟨fun h => ⟨h.2, h.1⟩, fun h => ⟨h.2, h.1⟩⟩
def trW (sh : Sh) (r : TRow) : D := .tup [sh.D r.1, .tup (r.2.1.map .int), .int r.2.2.1, nmO r.2.2.2]
theorem gTup4 (a b c d : D) : gTup [a, b, c, d] = .ok (.tup [a, b, c, d]) := if_pos (szle (by simp))
section
variable {os : Bal} {ns : List Row}
abbrev SS (ns : List Row) : (Bal → Bool) → Int := fun p => sumP p ns
theorem gF44 : gFld [52] 44 (rollD os ns) = .ok (zD os) := by
  unfold rollD
  rw [gFld_ins, if_pos (by simp)]
  rfl
theorem round_ok {rem : Bal} (hn : ns.length ≤ 1000) (hr : rem.length ≤ 1000) (nd : rem.Nodup) (ok : ∀ w ∈ rem, okName w) : F_votes_among [rollD os ns, zD rem] = .ok (.tup [.tup ((vtS (SS ns) rem).map .int), .int (SS ns (noTop rem))]) := by
  rw [votes_ok hn hr ok]
  have := votes_sum nd ns
  have e : totR ns - (vtR rem ns).sum = SS ns (noTop rem) := by
    show totR ns - (rem.map fun w => sumP (isTop rem w) ns).sum = sumP (noTop rem) ns
    omega
  rw [e]
  rfl
theorem count_loop (hn : ns.length ≤ 1000) (ho : okOpts os) : ∀ (l gone : Bal) (acc : List TRow) (u3 u4 u5 u6 u7 : Sl), (remB os gone).length = l.length + 1 → acc.length + l.length ≤ 1000 → gone.length + l.length ≤ 1000 →
    ∃ rows gone' u3' u4' u5' u6' u7', loop (gN 3) B_count_1 (l.map nD) [.v (rollD os ns), .l (acc.map (trW .z)), .v (bD gone), u3, u4, u5, u6, u7] = .nx [.v (rollD os ns), .l ((acc ++ rows).map (trW .z)), .v (bD gone'), u3', u4', u5', u6', u7'] ∧
      tabL (SS ns) l.length (remB os gone) = rows ++ [(remB os gone', vtS (SS ns) (remB os gone'), SS ns (noTop (remB os gone')), none)] ∧ (remB os gone').length = 1 ∧ rows.length = l.length := by
  intro l
  induction l with
  | nil => intro gone acc u3 u4 u5 u6 u7 h _ _; exact ⟨[], gone, u3, u4, u5, u6, u7, by rw [List.append_nil]; rfl, rfl, h, rfl⟩
  | cons x l ih =>
    intro gone acc u3 u4 u5 u6 u7 h ha hg
    rw [List.length_cons] at h ha hg
    have few := ho.few
    have rl : (remB os gone).length ≤ os.length := List.length_filter_le _ _
    have nd : (remB os gone).Nodup := ho.nd.sublist List.filter_sublist
    have ok : ∀ w ∈ remB os gone, okName w := fun w m => ho.each w (List.mem_filter.mp m).1
    have rm : F_remaining_after [zD os, bD gone] = _ := rem_ok (sh := .t) (os := os) (gone := gone) (by omega)
    have vt := round_ok (os := os) hn (rem := remB os gone) (by omega) nd ok
    have lv := leaving_ok (rem := remB os gone) (vs := vtS (SS ns) (remB os gone)) vtS_len (vtS_ne (by omega)) (by omega)
    have mem := lvS_mem (S := SS ns) (left := remB os gone) (by omega)
    have ol := outB_len nd mem
    have e1 : remB os (gone ++ [lvS (SS ns) (remB os gone)]) = outB (remB os gone) (lvS (SS ns) (remB os gone)) := remB_out
    have sz : (acc.map (trW .z)).length < sizeLine := by rw [List.length_map]; exact szlt (by omega)
    have g1 : gTup [nD (lvS (SS ns) (remB os gone))] = .ok (.tup [nD (lvS (SS ns) (remB os gone))]) := if_pos (szle (by simp))
    have ga : gAdd (bD gone) (.tup [nD (lvS (SS ns) (remB os gone))]) = .ok (bD (gone ++ [lvS (SS ns) (remB os gone)])) := by
      show (if (gone.map nD).length + [nD (lvS (SS ns) (remB os gone))].length ≤ sizeLine then R.ok (D.tup (gone.map nD ++ [nD (lvS (SS ns) (remB os gone))])) else .bad) = _
      rw [if_pos (by rw [List.length_map, sz24]; simp; omega)]
      unfold bD
      rw [List.map_append]
      rfl
    have lv : F_leaving [zD (remB os gone), .tup ((vtS (SS ns) (remB os gone)).map .int)] = .ok (nD (lvS (SS ns) (remB os gone))) := lv
    have st : B_count_1 [.v (rollD os ns), .l (acc.map (trW .z)), .v (bD gone), .v (nD x), u4, u5, u6, u7] = .nx [.v (rollD os ns), .l ((acc ++ [(remB os gone, vtS (SS ns) (remB os gone), SS ns (noTop (remB os gone)), some (lvS (SS ns) (remB os gone)))]).map (trW .z)), .v (bD (gone ++ [lvS (SS ns) (remB os gone)])), .v (nD x), .v (zD (remB os gone)), .v (.tup ((vtS (SS ns) (remB os gone)).map .int)), .v (.int (SS ns (noTop (remB os gone)))), .v (nD (lvS (SS ns) (remB os gone)))] := by
      have mp : (acc ++ [(remB os gone, vtS (SS ns) (remB os gone), SS ns (noTop (remB os gone)), some (lvS (SS ns) (remB os gone)))]).map (trW .z) = acc.map (trW .z) ++ [.tup [zD (remB os gone), .tup ((vtS (SS ns) (remB os gone)).map .int), .int (SS ns (noTop (remB os gone))), nD (lvS (SS ns) (remB os gone))]] := by rw [List.map_append]; rfl
      rw [mp]
      unfold B_count_1
      simp_arith [gF44, rm, vt, lv, gTup4, sz, g1, ga]
    obtain ⟨rows, gone', w3, w4, w5, w6, w7, e2, e3, e4, e5⟩ := ih (gone ++ [lvS (SS ns) (remB os gone)]) (acc ++ [(remB os gone, vtS (SS ns) (remB os gone), SS ns (noTop (remB os gone)), some (lvS (SS ns) (remB os gone)))]) (.v (nD x)) (.v (zD (remB os gone))) (.v (.tup ((vtS (SS ns) (remB os gone)).map .int))) (.v (.int (SS ns (noTop (remB os gone))))) (.v (nD (lvS (SS ns) (remB os gone)))) (by rw [e1]; omega) (by rw [List.length_append]; simp; omega) (by rw [List.length_append]; simp; omega)
    refine ⟨(remB os gone, vtS (SS ns) (remB os gone), SS ns (noTop (remB os gone)), some (lvS (SS ns) (remB os gone))) :: rows, gone', w3, w4, w5, w6, w7, ?_, ?_, e4, by rw [List.length_cons, List.length_cons, e5]⟩
    · rw [List.map_cons, loop_cons]
      have g : gN 3 (nD x) [.v (rollD os ns), .l (acc.map (trW .z)), .v (bD gone), u3, u4, u5, u6, u7] = some [.v (rollD os ns), .l (acc.map (trW .z)), .v (bD gone), .v (nD x), u4, u5, u6, u7] := rfl
      rw [g, ofO_some, st, lp_nx, e2, List.append_assoc]
      rfl
    · rw [List.length_cons]
      show (remB os gone, vtS (SS ns) (remB os gone), SS ns (noTop (remB os gone)), some (lvS (SS ns) (remB os gone))) :: tabL (SS ns) l.length (outB (remB os gone) (lvS (SS ns) (remB os gone))) = _
      rw [← e1, e3]
      rfl
/-! the told count -/
def winB (tab : List TRow) : List Nat := match tab.getLast? with
  | some r => r.1.headD []
  | none => []
def cntD (tab : List TRow) : D := .ins 2 [(6, .tup (tab.map (trW .z))), (7, .tup (tab.dropLast.map fun r => nmO r.2.2.2)), (8, nD (winB tab))]
theorem cut_m1 {α : Type} {l : List α} : cutD l none (some (-1)) = l.dropLast := by
  have e : HT.sIx l.length l.length (some (-1)) = l.length - 1 := by
    show (if (-1 : Int) < 0 then ((-1 : Int) + (l.length : Int)).toNat else min (-1 : Int).toNat l.length) = _
    rw [if_pos (by decide)]
    omega
  unfold cutD
  rw [e, HT.sIx_none, List.drop_zero, Nat.sub_zero, List.dropLast_eq_take]
theorem gSl_m1 {xs : List D} : gSl (.tup xs) none (some (-1)) = .ok (.tup xs.dropLast) := by
  show R.ok (D.tup (cutD xs none (some (-1)))) = _
  rw [cut_m1] <;> rfl
theorem gSl_m1l {xs : List D} : gSl (.lst xs) none (some (-1)) = .ok (.lst xs.dropLast) := by
  show R.ok (D.lst (cutD xs none (some (-1)))) = _
  rw [cut_m1] <;> rfl
theorem last_ixT {xs : List D} {x : D} : gIx (.tup (xs ++ [x])) (.int (-1)) = .ok x := last_ix (xs := xs) (x := x)
theorem cinit_ok {a : Addr} {rows : List TRow} {r : TRow} (h1 : r.1.length = 1) (hl : rows.length ≤ 1000) : F_Count___init__ a [.tup ((rows ++ [r]).map (trW .z))] = .ok [(6, .tup ((rows ++ [r]).map (trW .z))), (7, .tup ((rows ++ [r]).dropLast.map fun r => nmO r.2.2.2)), (8, nD (winB (rows ++ [r])))] := by
  have mp : (rows ++ [r]).map (trW .z) = rows.map (trW .z) ++ [trW .z r] := by rw [List.map_append]; rfl
  have dl : (rows ++ [r]).dropLast = rows := List.dropLast_concat
  have dl2 : (rows.map (trW .z) ++ [trW .z r]).dropLast = rows.map (trW .z) := List.dropLast_concat
  have wb : winB (rows ++ [r]) = r.1.headD [] := by unfold winB; rw [List.getLast?_concat]
  obtain ⟨w, ew⟩ : ∃ w, r.1 = [w] := List.length_eq_one_iff.mp h1
  have g0 : gIx (trW .z r) (.int 0) = .ok (zD r.1) := gIx_tup (by decide) (by show (0 : Int) < ((4 : Nat) : Int); decide)
  have g1 : gIx (zD r.1) (.int 0) = .ok (nD (r.1.headD [])) := by
    rw [ew]
    exact gIx_mapZ (inj := nD) (l := [w]) (by decide) rfl
  have sl := gSl_m1 (xs := rows.map (trW .z) ++ [trW .z r])
  have lx := last_ixT (xs := rows.map (trW .z)) (x := trW .z r)
  have sz : (rows.map (trW .z)).length ≤ sizeLine := by rw [List.length_map]; exact szle hl
  have lc : ∀ s0 s1 : Sl, lcL (gT 4 (gsC (gN 2) (gsC (gN 3) (gsC (gN 4) (gsC (gN 5) (gsN)))))) tsY (eV 5) [s0, s1, .no, .no, .no, .no] (rows.map (trW .z)) = .ok (rows.map fun r => nmO r.2.2.2) := fun s0 s1 =>
    lc_all (inj := trW .z) (fun r => nmO r.2.2.2) fun r _ => ⟨[s0, s1, .v (zD r.1), .v (.tup (r.2.1.map .int)), .v (.int r.2.2.1), .v (nmO r.2.2.2)], rfl, rfl, rfl⟩
  rw [dl, wb, mp]
  rw [dl2] at sl
  have st : startI a 2 6 [.tup (rows.map (trW .z) ++ [trW .z r])] = [.o (some a) 2 [], .v (.tup (rows.map (trW .z) ++ [trW .z r])), .no, .no, .no, .no] := rfl
  unfold F_Count___init__ G_Count___init__
  simp_arith [runI_ap, st, sFldO_ap, Nat.reduceLT, ownO_zero, List.mem_singleton, putN_nil, putN_cons, sl, sz, lc, lx, g0, g1, outI_nx]
theorem count_ok (ho : okOpts os) (hn : ns.length ≤ 1000) : F_count [rollD os ns] = .ok (cntD (tabL (SS ns) (os.length - 1) os)) := by
  have few := ho.few
  have pos := ho.pos
  have r0 : remB os [] = os := by unfold remB; exact List.filter_eq_self.mpr fun w _ => by simp
  obtain ⟨rows, gone', u3, u4, u5, u6, u7, e, et, e1, el⟩ := count_loop hn ho (os.drop 1) [] [] .no .no .no .no .no (by rw [r0, List.length_drop]; omega) (by rw [List.length_drop]; simp; omega) (by rw [List.length_drop]; simp; omega)
  rw [List.length_drop] at et el
  rw [r0] at et
  have sl : gSl (zD os) (some 1) none = .ok (.tup ((os.drop 1).map nD)) := by
    have ne : ¬ (HT.sIx (os.map nD).length 0 (some 1) = 0 ∧ HT.sIx (os.map nD).length (os.map nD).length none = (os.map nD).length) := by
      rw [HT.sIx_none]
      intro z
      have z1 : min ((1 : Int).toNat) (os.map nD).length = 0 := z.1
      rw [List.length_map] at z1
      omega
    show (if HT.sIx (os.map nD).length 0 (some 1) = 0 ∧ HT.sIx (os.map nD).length (os.map nD).length none = (os.map nD).length then R.ok (D.tpz (os.map nD)) else R.ok (D.tup (cutD (os.map nD) (some 1) none))) = _
    rw [if_neg ne, cut_lo (by decide), List.map_drop]
    rfl
  have g0 : gTup [] = .ok (bD []) := if_pos (szle (by simp))
  have rm : F_remaining_after [zD os, bD gone'] = _ := rem_ok (sh := .t) (os := os) (gone := gone') (by omega)
  have ok : ∀ w ∈ remB os gone', okName w := fun w m => ho.each w (List.mem_filter.mp m).1
  have vt := round_ok (os := os) hn (rem := remB os gone') (by omega) (ho.nd.sublist List.filter_sublist) ok
  have sz : (rows.map (trW .z)).length < sizeLine := by rw [List.length_map]; exact szlt (by omega)
  have ci : ∀ a, F_Count___init__ a [.tup (rows.map (trW .z) ++ [.tup [zD (remB os gone'), .tup ((vtS (SS ns) (remB os gone')).map .int), .int (SS ns (noTop (remB os gone'))), .non]])] = .ok _ := fun a => by
    have := cinit_ok (a := a) (rows := rows) (r := (remB os gone', vtS (SS ns) (remB os gone'), SS ns (noTop (remB os gone')), none)) e1 (by omega)
    have mp : (rows ++ [(remB os gone', vtS (SS ns) (remB os gone'), SS ns (noTop (remB os gone')), (none : Option (List Nat)))]).map (trW .z) = rows.map (trW .z) ++ [.tup [zD (remB os gone'), .tup ((vtS (SS ns) (remB os gone')).map .int), .int (SS ns (noTop (remB os gone'))), .non]] := by rw [List.map_append]; rfl
    rw [← mp]
    exact this
  have un := unA_eq ci
  have e : loop (gN 3) B_count_1 ((os.drop 1).map nD) [.v (rollD os ns), .l [], .v (bD []), .no, .no, .no, .no, .no] = .nx [.v (rollD os ns), .l (rows.map (trW .z)), .v (bD gone'), u3, u4, u5, u6, u7] := e
  rw [et]
  unfold F_count G_count
  simp_arith [sz0, g0, gF44, sl, e, rm, vt, gTup4, sz, eFrz_ap, nMake_ap, un, frzR_o]
  rfl
end
end Tk

namespace Tk
open PySem PySem.Spec L2 PyProof.Rows
/-! ### the laws' sameness, of tuples with and without a dict -/
section
variable {xs : List D}
@[simp] theorem is9z : gIsi [.tpz xs, .ty "int"] = .ok (.bl false) := gIsi_of rfl kb9
@[simp] theorem is10z : gIsi [.tpz xs, .ty "str"] = .ok (.bl false) := gIsi_of rfl kb10
@[simp] theorem is11z : gIsi [.tpz xs, .ty "tuple"] = .ok (.bl true) := gIsi_of rfl kb11
@[simp] theorem is12z : gIsi [.tpz xs, .ty "list"] = .ok (.bl false) := gIsi_of rfl kb12
@[simp] theorem ib6z {b : Bool} : gIsB false (.tpz xs) (.bl b) = .ok (.bl false) := (rfl)
@[simp] theorem isNon_tpz : isNon (.tpz xs) = false := rfl
end
/-- the same, n deep -/
def SamZ : Nat → D → D → Prop
  | 0, a, b => a = b ∧ scalD a = true
  | n + 1, a, b => (a = b ∧ scalD a = true) ∨ ∃ xs ys, ((a = .lst xs ∧ b = .lst ys) ∨ ((a = .tup xs ∨ a = .tpz xs) ∧ (b = .tup ys ∨ b = .tpz ys))) ∧ xs.length = ys.length ∧ ys.length ≤ 1000000 ∧ ∀ (i : Nat) (x y : D), xs[i]? = some x → ys[i]? = some y → SamZ n x y
theorem same_scal {n : Nat} {a : D} (h : scalD a = true) : Fr__law_same (n + 1) [a, a] = .ok (.bl true) := by
  refine same_n n ?_
  cases a <;> first | rfl | cases h
theorem samez_loop {n : Nat} {a b : D} {xs ys : List D} (hl : xs.length = ys.length) (ga : ∀ i, (h : i < xs.length) → gIx a (.int (i : Int)) = .ok xs[i]) (gb : ∀ i, (h : i < ys.length) → gIx b (.int (i : Int)) = .ok ys[i])
    (ih : ∀ (i : Nat) (x y : D), xs[i]? = some x → ys[i]? = some y → Fr__law_same n [x, y] = .ok (.bl true)) : ∃ s, loop (gN 2) (B__law_same_1 (Fr__law_same n)) (rgD 0 ys.length) [.v a, .v b, .no] = .nx [.v a, .v b, s] := by
  obtain ⟨ρ', e, s, rfl⟩ := loop_rg (h := gN 2) (body := B__law_same_1 (Fr__law_same n)) (lo := 0) (n := ys.length) (ρ := [.v a, .v b, .no]) (fun _ ρ => ∃ s : Sl, ρ = [.v a, .v b, s]) ⟨_, rfl⟩ (by
    rintro i ρ hi ⟨s, rfl⟩
    refine ⟨_, rfl, ?_⟩
    have g1 := ga i (by omega)
    have g2 := gb i hi
    have h := ih i _ _ (List.getElem?_eq_getElem (by omega : i < xs.length)) (List.getElem?_eq_getElem hi)
    unfold B__law_same_1
    simp [g1, g2, h])
  exact ⟨s, e⟩
theorem samez_n : ∀ (n : Nat) {a b : D}, SamZ n a b → Fr__law_same (n + 1) [a, b] = .ok (.bl true)
  | 0, a, b, ⟨e, h⟩ => by subst e; exact same_scal h
  | n + 1, a, b, h => by
    rcases h with ⟨e, h⟩ | ⟨xs, ys, k, hl, l6, ih⟩
    · subst e; exact same_scal h
    · have ih : ∀ (i : Nat) (x y : D), xs[i]? = some x → ys[i]? = some y → Fr__law_same (n + 1) [x, y] = .ok (.bl true) := fun i x y h1 h2 => samez_n n (ih i x y h1 h2)
      have sm : small62 (ys.length : Int) := small_rg (by omega) (by omega)
      have g1 : ∀ {zs : List D} (i : Nat) (h : i < zs.length), gIx (.lst zs) (.int (i : Int)) = .ok zs[i] := fun i h => by rw [gIx_lst (by omega) (by omega), Int.toNat_natCast, List.getElem?_eq_getElem h]; rfl
      have g2 : ∀ {zs : List D} (i : Nat) (h : i < zs.length), gIx (.tup zs) (.int (i : Int)) = .ok zs[i] := fun i h => by rw [gIx_tup (by omega) (by omega), Int.toNat_natCast, List.getElem?_eq_getElem h]; rfl
      have g3 : ∀ {zs : List D} (i : Nat) (h : i < zs.length), gIx (.tpz zs) (.int (i : Int)) = .ok zs[i] := fun i h => by rw [gIx_tpz (by omega) (by omega), Int.toNat_natCast, List.getElem?_eq_getElem h]; rfl
      rcases k with ⟨rfl, rfl⟩ | ⟨rfl | rfl, rfl | rfl⟩
      · obtain ⟨s, e⟩ := samez_loop (n := n + 1) hl g1 g1 ih
        show runF 3 (G__law_same (Fr__law_same (n + 1))) [.lst xs, .lst ys] = _
        unfold G__law_same
        simp [sm, e, hl]
      · obtain ⟨s, e⟩ := samez_loop (n := n + 1) hl g2 g2 ih
        show runF 3 (G__law_same (Fr__law_same (n + 1))) [.tup xs, .tup ys] = _
        unfold G__law_same
        simp [sm, e, hl]
      · obtain ⟨s, e⟩ := samez_loop (n := n + 1) hl g2 g3 ih
        show runF 3 (G__law_same (Fr__law_same (n + 1))) [.tup xs, .tpz ys] = _
        unfold G__law_same
        simp [sm, e, hl]
      · obtain ⟨s, e⟩ := samez_loop (n := n + 1) hl g3 g2 ih
        show runF 3 (G__law_same (Fr__law_same (n + 1))) [.tpz xs, .tup ys] = _
        unfold G__law_same
        simp [sm, e, hl]
      · obtain ⟨s, e⟩ := samez_loop (n := n + 1) hl g3 g3 ih
        show runF 3 (G__law_same (Fr__law_same (n + 1))) [.tpz xs, .tpz ys] = _
        unfold G__law_same
        simp [sm, e, hl]
theorem samez_ok {a b : D} (h : SamZ 5 a b) : F__law_same [a, b] = .ok (.bl true) := samez_n 5 h
theorem samz_scal {n : Nat} {a : D} (h : scalD a = true) : SamZ n a a := by
  cases n with
  | zero => exact ⟨rfl, h⟩
  | succ n => exact .inl ⟨rfl, h⟩
theorem samz_nmO {n : Nat} (o : Option (List Nat)) : SamZ n (nmO o) (nmO o) := samz_scal (by cases o <;> rfl)
theorem samz_map {α : Type} {f g : α → D} {l : List α} {n : Nat} (hl : l.length ≤ 1000000) (h : ∀ a ∈ l, SamZ n (f a) (g a)) : ∀ (i : Nat) (x y : D), (l.map f)[i]? = some x → (l.map g)[i]? = some y → SamZ n x y := fun i x y h1 h2 => by
  rw [List.getElem?_map] at h1 h2
  obtain ⟨a, a1, rfl⟩ := Option.map_eq_some_iff.mp h1
  rw [a1] at h2
  cases h2
  exact h a (List.mem_of_getElem? a1)
theorem samz_sh {n : Nat} {b : Bal} (hl : b.length ≤ 1000) {sh sh' : Sh} (hs : (sh = .l ∧ sh' = .l) ∨ (sh ≠ .l ∧ sh' ≠ .l)) : SamZ (n + 1) (sh.D b) (sh'.D b) := by
  refine .inr ⟨b.map nD, b.map nD, ?_, rfl, by rw [List.length_map]; omega, samz_map (by omega) fun w _ => samz_scal rfl⟩
  rcases hs with ⟨rfl, rfl⟩ | ⟨h1, h2⟩
  · exact .inl ⟨rfl, rfl⟩
  · cases sh with
    | l => exact absurd rfl h1
    | t => cases sh' with
      | l => exact absurd rfl h2
      | t => exact .inr ⟨.inl rfl, .inl rfl⟩
      | z => exact .inr ⟨.inl rfl, .inr rfl⟩
    | z => cases sh' with
      | l => exact absurd rfl h2
      | t => exact .inr ⟨.inr rfl, .inl rfl⟩
      | z => exact .inr ⟨.inr rfl, .inr rfl⟩
theorem samz_ints {n : Nat} {vs : List Int} (hl : vs.length ≤ 1000) : SamZ (n + 1) (.tup (vs.map .int)) (.tup (vs.map .int)) :=
  .inr ⟨_, _, .inr ⟨.inl rfl, .inl rfl⟩, rfl, by rw [List.length_map]; omega, samz_map (by omega) fun w _ => samz_scal rfl⟩
theorem samz_tup {n : Nat} {xs ys : List D} (hl : xs.length = ys.length) (h6 : ys.length ≤ 1000000) (h : ∀ (i : Nat) (x y : D), xs[i]? = some x → ys[i]? = some y → SamZ n x y) : SamZ (n + 1) (.tup xs) (.tup ys) := .inr ⟨xs, ys, .inr ⟨.inl rfl, .inl rfl⟩, hl, h6, h⟩
theorem samz_tr {n : Nat} {r : TRow} (h1 : r.1.length ≤ 1000) (h2 : r.2.1.length ≤ 1000) : SamZ (n + 2) (trW .z r) (trW .t r) := by
  refine samz_tup rfl (by simp) fun i x y hx hy => ?_
  match i, hx, hy with
  | 0, hx, hy => cases hx; cases hy; exact samz_sh h1 (.inr ⟨by simp, by simp⟩)
  | 1, hx, hy => cases hx; cases hy; exact samz_ints h2
  | 2, hx, hy => cases hx; cases hy; exact samz_scal rfl
  | 3, hx, hy => cases hx; cases hy; exact samz_nmO _
  | i + 4, hx, hy => simp at hx
end Tk

namespace Tk
open PySem PySem.Spec L2 PyProof.Rows
/-! ### the law counts -/
theorem filter_head {b left : Bal} : (b.filter fun w => decide (w ∈ left)).head? = topB b left := List.head?_filter ..
theorem sumP_snoc {p : Bal → Bool} {rs : List Row} {r : Row} : sumP p (rs ++ [r]) = sumP p rs + (if p r.1 then r.2 else 0) := by rw [sumP_append, sumP_cons, sumP_nil, Int.add_zero]
theorem clean_ints (ns : List Int) : cleanD 1 (.lst (ns.map .int)) = true := by
  show cleanL 0 (ns.map .int) = true
  rw [cleanL_all]
  intro d m
  obtain ⟨k, _, rfl⟩ := List.mem_map.mp m
  rfl
theorem eq_nil_ints {ns : List Int} : gEq (.lst (ns.map .int)) (.lst []) = .ok (.bl (decide (ns = []))) := by
  obtain ⟨h1, h2⟩ := gEq_clean (a := .lst (ns.map .int)) (b := .lst []) (by decide) (by decide) (clean_ints ns) (clean_ints [])
  by_cases z : ns = []
  · rw [h1 (by rw [z]; rfl), decide_eq_true z]
  · rw [h2 (fun e => z (List.map_eq_nil_iff.mp (D.lst.inj e))), decide_eq_false z]
section
variable {os left : Bal} {rs : List Row}
def cvE (os : Bal) (rs : List Row) (left : Bal) (tab : List TRow) (s4 : Sl) (vs : List Int) (sp : Int) (s7 s8 s9 s10 s11 : Sl) : Ev := [.v (.lst (os.map nD)), .v (.lst (rs.map rowD)), .v (.lst (left.map nD)), .l (tab.map (trW .t)), s4, .l (vs.map .int), .v (.int sp), s7, s8, s9, s10, s11, .no]
theorem vt_step {w : List Nat} {qs : List Row} {r : Row} (nd : left.Nodup) (ht : topB r.1 left = some w) : (vtS (SS qs) left).set (left.idxOf w) ((vtS (SS qs) left).getD (left.idxOf w) 0 + r.2) = vtS (SS (qs ++ [r])) left := by
  have mw := top_mem ht
  have hl := List.idxOf_lt_length_iff.mpr mw
  apply List.ext_getElem
  · rw [List.length_set, vtS_len, vtS_len]
  · intro k h1 h2
    rw [vtS_len] at h2
    rw [List.getElem_set]
    have e2 : (vtS (SS (qs ++ [r])) left)[k]'(by rw [vtS_len]; exact h2) = sumP (isTop left left[k]) qs + (if isTop left left[k] r.1 = true then r.2 else 0) := by
      unfold vtS
      rw [List.getElem_map]
      exact sumP_snoc
    rw [e2]
    by_cases z : left.idxOf w = k
    · rw [if_pos z]
      subst z
      have ew : left[left.idxOf w] = w := List.getElem_idxOf hl
      have e1 : (vtS (SS qs) left).getD (left.idxOf w) 0 = sumP (isTop left w) qs := by
        rw [List.getD_eq_getElem?_getD, List.getElem?_eq_getElem (by rw [vtS_len]; exact hl)]
        unfold vtS
        rw [List.getElem_map, ew]
        rfl
      rw [e1, ew, if_pos (show isTop left w r.1 = true from decide_eq_true ht)]
    · rw [if_neg z]
      have ne : ¬ w = left[k] := fun e => z (by
        have := nd_get nd (i := left.idxOf w) (j := k) (a := w) (by rw [List.getElem?_eq_getElem hl, List.getElem_idxOf hl]) (by rw [List.getElem?_eq_getElem h2, e])
        exact this)
      have : ¬ isTop left left[k] r.1 = true := fun e => by
        have := of_decide_eq_true e
        rw [ht] at this
        exact ne (Option.some.inj this)
      rw [if_neg this, Int.add_zero]
      unfold vtS
      rw [List.getElem_map]
theorem vt_none {qs : List Row} {r : Row} (ht : topB r.1 left = none) : vtS (SS (qs ++ [r])) left = vtS (SS qs) left := by
  unfold vtS
  refine List.map_congr_left fun w _ => ?_
  show sumP (isTop left w) (qs ++ [r]) = _
  have : ¬ isTop left w r.1 = true := fun e => by
    have := of_decide_eq_true e
    rw [ht] at this
    cases this
  rw [sumP_snoc, if_neg this, Int.add_zero]
theorem counted_rows (ho : okOpts os) (okr : okRows os rs) (nd : left.Nodup) (hl : left.length ≤ 4) (tab : List TRow) (s4 s7 s8 s9 s10 s11 : Sl) : ∃ s7' s8' s9', loop (gT 2 (gsC (gN 7) (gsC (gN 8) (gsN)))) B__law_counted_1 (rs.map rowD) (cvE os rs left tab s4 (left.map fun _ => 0) 0 s7 s8 s9 s10 s11) = .nx (cvE os rs left tab s4 (vtS (SS rs) left) (SS rs (noTop left)) s7' s8' s9' s10 s11) := by
  obtain ⟨ρ', e, s7', s8', s9', rfl⟩ := loop_map (inj := rowD) (h := gT 2 (gsC (gN 7) (gsC (gN 8) (gsN)))) (body := B__law_counted_1) (l := rs) (ρ := cvE os rs left tab s4 (left.map fun _ => 0) 0 s7 s8 s9 s10 s11)
    (fun i ρ => ∃ s7 s8 s9 : Sl, ρ = cvE os rs left tab s4 (vtS (SS (rs.take i)) left) (SS (rs.take i) (noTop left)) s7 s8 s9 s10 s11) ⟨s7, s8, s9, rfl⟩ (by
      rintro i r ρ q ⟨s7, s8, s9, rfl⟩
      refine ⟨cvE os rs left tab s4 (vtS (SS (rs.take i)) left) (SS (rs.take i) (noTop left)) (.v (bD r.1)) (.v (.int r.2)) s9 s10 s11, rfl, ?_⟩
      have tk : rs.take (i + 1) = rs.take i ++ [r] := by rw [List.take_succ, q]; rfl
      have bl := (okr.bal r (List.mem_of_getElem? q)).len
      have few := ho.few
      have bz : (r.1.map nD).length ≤ sizeLine := by rw [List.length_map]; exact szle (by omega)
      let pls : List Int := (r.1.filter fun w => decide (w ∈ left)).map fun w => ((left.idxOf w : Nat) : Int)
      have lc : ∀ s5 s6 : Sl, lcL (gN 12) (tV (e2 (gInS false) (eV 12) (eV 2))) (eMtL gIdx (eV 2) (aC (eV 12) (aN))) [.v (.lst (os.map nD)), .v (.lst (rs.map rowD)), .v (.lst (left.map nD)), .l (tab.map (trW .t)), s4, s5, s6, .v (bD r.1), .v (.int r.2), s9, s10, s11, .no] (r.1.map nD) = .ok (pls.map .int) := fun s5 s6 => by
        rw [lc_map (inj := nD) (fun w => decide (w ∈ left)) (fun w => D.int ((left.idxOf w : Nat) : Int)) fun w mw => ⟨[.v (.lst (os.map nD)), .v (.lst (rs.map rowD)), .v (.lst (left.map nD)), .l (tab.map (trW .t)), s4, s5, s6, .v (bD r.1), .v (.int r.2), s9, s10, s11, .v (nD w)], rfl, by simp_arith [in_lst], fun hw => by
          have ix := gIdx_w (of_decide_eq_true hw)
          rw [eMtL_lst (xs := left.map nD) rfl]
          simp_arith [ix]⟩]
        show _ = R.ok (List.map D.int (List.map _ _))
        rw [List.map_map]
        rfl
      have gi : gIt (bD r.1) = .ok (r.1.map nD) := rfl
      have en := eq_nil_ints (ns := pls)
      have gn : gLst [] = .ok (.lst []) := if_pos (szle (by simp))
      have hd := filter_head (b := r.1) (left := left)
      have st : ∃ s9', B__law_counted_1 (cvE os rs left tab s4 (vtS (SS (rs.take i)) left) (SS (rs.take i) (noTop left)) (.v (bD r.1)) (.v (.int r.2)) s9 s10 s11) = .nx (cvE os rs left tab s4 (vtS (SS (rs.take (i + 1))) left) (SS (rs.take (i + 1)) (noTop left)) (.v (bD r.1)) (.v (.int r.2)) s9' s10 s11) := by
        rw [tk]
        refine ⟨.v (.lst (pls.map .int)), ?_⟩
        cases ht : topB r.1 left with
        | none =>
          have z : pls = [] := by
            rw [ht] at hd
            show List.map _ _ = []
            rw [List.head?_eq_none_iff.mp hd]
            rfl
          have sn : SS (rs.take i ++ [r]) (noTop left) = SS (rs.take i) (noTop left) + r.2 := by
            show sumP _ _ = sumP _ _ + _
            rw [sumP_snoc, if_pos (show noTop left r.1 = true from decide_eq_true ht)]
          rw [vt_none ht, sn]
          unfold cvE B__law_counted_1
          simp_arith [gi, bz, lc, gn, en, decide_eq_true z]
        | some w =>
          obtain ⟨tl, et⟩ : ∃ tl, (r.1.filter fun w => decide (w ∈ left)) = w :: tl := by
            rw [ht] at hd
            cases q : r.1.filter fun w => decide (w ∈ left) with
            | nil => rw [q] at hd; cases hd
            | cons a tl => rw [q] at hd; cases hd; exact ⟨tl, rfl⟩
          have ep : pls = ((left.idxOf w : Nat) : Int) :: tl.map fun w => ((left.idxOf w : Nat) : Int) := by show List.map _ _ = _; rw [et]; rfl
          have z : ¬ pls = [] := by rw [ep]; simp
          have hw := List.idxOf_lt_length_iff.mpr (top_mem ht)
          have g0 : gIx (.lst (pls.map .int)) (.int 0) = .ok (.int ((left.idxOf w : Nat) : Int)) := by rw [ep]; exact gIx_map (inj := D.int) (by decide) rfl
          have vl : (vtS (SS (rs.take i)) left).length = left.length := vtS_len
          have gv : gIx (.lst ((vtS (SS (rs.take i)) left).map .int)) (.int ((left.idxOf w : Nat) : Int)) = .ok (.int ((vtS (SS (rs.take i)) left).getD (left.idxOf w) 0)) := by
            have := gIx_getD (l := vtS (SS (rs.take i)) left) (j := ((left.idxOf w : Nat) : Int)) (by omega) (by omega)
            rw [Int.toNat_natCast] at this
            exact this
          have ixn : ixN ((vtS (SS (rs.take i)) left).map D.int).length ((left.idxOf w : Nat) : Int) = some (left.idxOf w) := by
            unfold ixN
            rw [List.length_map, if_pos (by omega), if_pos (by omega), Int.toNat_natCast]
          have sn : SS (rs.take i ++ [r]) (noTop left) = SS (rs.take i) (noTop left) := by
            have : ¬ noTop left r.1 = true := fun e => by
              have := of_decide_eq_true e
              rw [ht] at this
              cases this
            show sumP _ _ = sumP _ _
            rw [sumP_snoc, if_neg this, Int.add_zero]
          have ms : ∀ v : Int, ((vtS (SS (rs.take i)) left).map D.int).set (left.idxOf w) (.int v) = ((vtS (SS (rs.take i)) left).set (left.idxOf w) v).map .int := fun v => by rw [List.map_set]
          rw [← vt_step nd ht, sn]
          unfold cvE B__law_counted_1
          rw [← ms]
          simp_arith [gi, bz, lc, gn, en, decide_eq_false z, g0, gv, scalD, ixn]
      obtain ⟨s9', st⟩ := st
      rw [st]
      exact ⟨_, _, _, rfl⟩)
  rw [List.take_length] at e
  exact ⟨s7', s8', s9', e⟩
theorem counted_min (hl : left.length ≤ 4) (h0 : 0 < left.length) (nd : left.Nodup) (tab : List TRow) (vs : List Int) (hv : vs.length = left.length) (s4 s6 s7 s8 s9 s11 : Sl) :
    ∃ s5' s11', frzS s5' = .v (.lst (vs.map .int)) ∧ loop (gN 11) B__law_counted_2 (rgD 0 left.length) [.v (.lst (os.map nD)), .v (.lst (rs.map rowD)), .v (.lst (left.map nD)), .l (tab.map (trW .t)), s4, .l (vs.map .int), s6, s7, s8, s9, .v (nD (left.getD 0 [])), s11, .no] = .nx [.v (.lst (os.map nD)), .v (.lst (rs.map rowD)), .v (.lst (left.map nD)), .l (tab.map (trW .t)), s4, s5', s6, s7, s8, s9, .v (nD (lvB left vs)), s11', .no] := by
  let fd : Nat → Nat := fun m => (List.range m).foldl (fun j k => if vs.getD k 0 ≤ vs.getD j 0 then k else j) 0
  have fd1 : ∀ m, fd (m + 1) = if vs.getD m 0 ≤ vs.getD (fd m) 0 then m else fd m := fun m => by
    show (List.range (m + 1)).foldl _ 0 = _
    rw [List.range_succ, List.foldl_append]
    rfl
  have fl : ∀ m, m ≤ left.length → fd m < left.length := fun m => by
    induction m with
    | zero => intro _; exact h0
    | succ m ih => intro hm; rw [fd1]; split; exact hm; exact ih (by omega)
  obtain ⟨ρ', e, s5', s11', hz, rfl⟩ := loop_rg (h := gN 11) (body := B__law_counted_2) (lo := 0) (n := left.length) (ρ := [.v (.lst (os.map nD)), .v (.lst (rs.map rowD)), .v (.lst (left.map nD)), .l (tab.map (trW .t)), s4, .l (vs.map .int), s6, s7, s8, s9, .v (nD (left.getD 0 [])), s11, .no])
    (fun i ρ => ∃ s5 s11 : Sl, frzS s5 = .v (.lst (vs.map .int)) ∧ ρ = [.v (.lst (os.map nD)), .v (.lst (rs.map rowD)), .v (.lst (left.map nD)), .l (tab.map (trW .t)), s4, s5, s6, s7, s8, s9, .v (nD (left.getD (fd i) [])), s11, .no]) ⟨_, _, rfl, rfl⟩ (by
      rintro i ρ hi ⟨s5, s11, hz, rfl⟩
      refine ⟨[.v (.lst (os.map nD)), .v (.lst (rs.map rowD)), .v (.lst (left.map nD)), .l (tab.map (trW .t)), s4, s5, s6, s7, s8, s9, .v (nD (left.getD (fd i) [])), .v (.int (i : Int)), .no], by rw [Int.zero_add]; rfl, ?_⟩
      have fi := fl i (by omega)
      have gd : left.getD (fd i) [] = left[fd i] := by rw [List.getD_eq_getElem?_getD, List.getElem?_eq_getElem fi]; rfl
      have ix : gIdx (left.map nD) [nD (left.getD (fd i) [])] = .ok (.int (fd i : Int)) := by
        have m : left.getD (fd i) [] ∈ left := by rw [gd]; exact List.getElem_mem _
        rw [gIdx_w m]
        have hk := List.idxOf_lt_length_iff.mpr m
        have := nd_get nd (i := left.idxOf (left.getD (fd i) [])) (j := fd i) (a := left.getD (fd i) []) (by rw [List.getElem?_eq_getElem hk, List.getElem_idxOf hk]) (by rw [List.getElem?_eq_getElem fi, gd])
        rw [this]
      have em : eMtL gIdx (eV 2) (aC (eV 10) (aN)) [.v (.lst (os.map nD)), .v (.lst (rs.map rowD)), .v (.lst (left.map nD)), .l (tab.map (trW .t)), s4, .v (.lst (vs.map .int)), s6, s7, s8, s9, .v (nD (left.getD (fd i) [])), .v (.int (i : Int)), .no] = .ok (.int (fd i : Int)) := by
        rw [eMtL_lst (xs := left.map nD) rfl]
        simp_arith [ix]
      have g1 : ∀ k : Nat, k < left.length → gIx (.lst (vs.map .int)) (.int (k : Int)) = .ok (.int (vs.getD k 0)) := fun k hk => by
        have := gIx_getD (l := vs) (j := (k : Int)) (by omega) (by omega)
        rw [Int.toNat_natCast] at this
        exact this
      have gk := g1 i hi
      have gf := g1 (fd i) fi
      have gl : gIx (.lst (left.map nD)) (.int (i : Int)) = .ok (nD (left.getD i [])) := gIx_map (inj := nD) (by omega) (by rw [Int.toNat_natCast, List.getD_eq_getElem?_getD, List.getElem?_eq_getElem hi]; rfl)
      have st : B__law_counted_2 [.v (.lst (os.map nD)), .v (.lst (rs.map rowD)), .v (.lst (left.map nD)), .l (tab.map (trW .t)), s4, s5, s6, s7, s8, s9, .v (nD (left.getD (fd i) [])), .v (.int (i : Int)), .no] = .nx [.v (.lst (os.map nD)), .v (.lst (rs.map rowD)), .v (.lst (left.map nD)), .l (tab.map (trW .t)), s4, .v (.lst (vs.map .int)), s6, s7, s8, s9, .v (nD (left.getD (fd (i + 1)) [])), .v (.int (i : Int)), .no] := by
        rw [fd1]
        unfold B__law_counted_2
        by_cases c : vs.getD i 0 ≤ vs.getD (fd i) 0
        · rw [if_pos c]
          simp_arith [hz, gk, em, gf, decide_eq_true c, gl]
        · rw [if_neg c]
          simp_arith [hz, gk, em, gf, decide_eq_false c]
      rw [st]
      exact ⟨_, _, rfl, rfl⟩)
  have el : fd left.length = lvI vs := by unfold lvI; rw [hv]
  rw [el] at e
  exact ⟨s5', s11', hz, e⟩
theorem outB_lc {lv : List Nat} {s0 s1 s3 s4 s5 s6 s7 s8 s9 s11 : Sl} : lcL (gN 12) (tV (e2 gNe (eV 12) (eV 10))) (eV 12) [s0, s1, .v (.lst (left.map nD)), s3, s4, s5, s6, s7, s8, s9, .v (nD lv), s11, .no] (left.map nD) = .ok ((outB left lv).map nD) :=
  lc_map (inj := nD) (fun w => !decide (w = lv)) nD fun w _ => ⟨[s0, s1, .v (.lst (left.map nD)), s3, s4, s5, s6, s7, s8, s9, .v (nD lv), s11, .v (nD w)], rfl, by
    show (gNe (nD w) (nD lv)).bind Bof = _
    rw [ne_names]
    rfl, fun _ => rfl⟩
theorem counted_loop (ho : okOpts os) (okr : okRows os rs) (few : rs.length ≤ 1000) : ∀ (ds : List D) (left : Bal) (tab : List TRow) (s4 s5 s6 s7 s8 s9 s10 s11 : Sl), left.Nodup → left.length = ds.length → ds.length ≤ 4 → tab.length + ds.length ≤ 1000 →
    ∃ left' s4' s5' s6' s7' s8' s9' s10' s11', loop (gN 4) B__law_counted_3 ds [.v (.lst (os.map nD)), .v (.lst (rs.map rowD)), .v (.lst (left.map nD)), .l (tab.map (trW .t)), s4, s5, s6, s7, s8, s9, s10, s11, .no] =
      .nx [.v (.lst (os.map nD)), .v (.lst (rs.map rowD)), .v (.lst ((left' : Bal).map nD)), .l ((tab ++ (if ds = [] then [] else tabL (SS rs) (ds.length - 1) left)).map (trW .t)), s4', s5', s6', s7', s8', s9', s10', s11', .no] := by
  intro ds
  induction ds with
  | nil => intro left tab s4 s5 s6 s7 s8 s9 s10 s11 _ _ _ _; exact ⟨left, s4, s5, s6, s7, s8, s9, s10, s11, by rw [if_pos rfl, List.append_nil]; rfl⟩
  | cons d ds ih =>
    intro left tab s4 s5 s6 s7 s8 s9 s10 s11 nd hl h4 ht
    rw [List.length_cons] at hl h4 ht
    have lz : left.length ≤ sizeLine := szle (by omega)
    have zc : lcL (gN 12) tsY (eC (.int 0)) [.v (.lst (os.map nD)), .v (.lst (rs.map rowD)), .v (.lst (left.map nD)), .l (tab.map (trW .t)), .v d, s5, s6, s7, s8, s9, s10, s11, .no] (left.map nD) = .ok ((left.map fun _ => (0 : Int)).map .int) := by
      rw [lc_all (inj := nD) (fun _ => D.int 0) fun w _ => ⟨[.v (.lst (os.map nD)), .v (.lst (rs.map rowD)), .v (.lst (left.map nD)), .l (tab.map (trW .t)), .v d, s5, s6, s7, s8, s9, s10, s11, .v (nD w)], rfl, rfl, rfl⟩, List.map_map]
      rfl
    obtain ⟨s7', s8', s9', e1⟩ := counted_rows (left := left) ho okr nd (by omega) tab (.v d) s7 s8 s9 s10 s11
    unfold cvE at e1
    obtain ⟨s5', s11', hz, e2⟩ := counted_min (os := os) (rs := rs) (by omega) (by omega) nd tab (vtS (SS rs) left) vtS_len (.v d) (.v (.int (SS rs (noTop left)))) s7' s8' s9' s11
    have g0 : gIx (.lst (left.map nD)) (.int 0) = .ok (nD (left.getD 0 [])) := gIx_map (inj := nD) (by decide) (by
      show left[0]? = _
      rw [List.getD_eq_getElem?_getD, List.getElem?_eq_getElem (by omega : 0 < left.length)]
      rfl)
    have sm : small62 (left.length : Int) := small_rg (by omega) (by omega)
    have tz : tab.length < sizeLine := szlt (by omega)
    rw [loop_cons]
    have g4 : gN 4 d [.v (.lst (os.map nD)), .v (.lst (rs.map rowD)), .v (.lst (left.map nD)), .l (tab.map (trW .t)), s4, s5, s6, s7, s8, s9, s10, s11, .no] = some [.v (.lst (os.map nD)), .v (.lst (rs.map rowD)), .v (.lst (left.map nD)), .l (tab.map (trW .t)), .v d, s5, s6, s7, s8, s9, s10, s11, .no] := rfl
    rw [g4, ofO_some]
    by_cases c : ds = []
    · subst c
      have l1 : left.length = 1 := by rw [hl]; rfl
      have mp : (tab ++ tabL (SS rs) 0 left).map (trW .t) = tab.map (trW .t) ++ [.tup [.tup (left.map nD), .tup ((vtS (SS rs) left).map .int), .int (SS rs (noTop left)), .non]] := by rw [List.map_append]; rfl
      have st : B__law_counted_3 [.v (.lst (os.map nD)), .v (.lst (rs.map rowD)), .v (.lst (left.map nD)), .l (tab.map (trW .t)), .v d, s5, s6, s7, s8, s9, s10, s11, .no] = .nx [.v (.lst (os.map nD)), .v (.lst (rs.map rowD)), .v (.lst (left.map nD)), .l ((tab ++ tabL (SS rs) 0 left).map (trW .t)), .v d, .v (.lst ((vtS (SS rs) left).map .int)), .v (.int (SS rs (noTop left))), s7', s8', s9', .v (nD (lvB left (vtS (SS rs) left))), s11', .no] := by
        rw [mp]
        unfold B__law_counted_3
        simp_arith [lz, zc, e1, g0, List.length_map, sm, Int.toNat_natCast, e2, decide_eq_true (show (left.length : Int) = 1 by omega), hz, gTup4, tz]
      rw [st, lp_nx, loop_nil]
      exact ⟨left, _, _, _, _, _, _, _, _, rfl⟩
    · obtain ⟨m, hm⟩ : ∃ m, ds.length = m + 1 := ⟨ds.length - 1, by have := List.length_pos_iff.mpr c; omega⟩
      have mem := lvS_mem (S := SS rs) (left := left) (by omega)
      have ol := outB_len nd mem
      have mp : (tab ++ [(left, vtS (SS rs) left, SS rs (noTop left), some (lvS (SS rs) left))]).map (trW .t) = tab.map (trW .t) ++ [.tup [.tup (left.map nD), .tup ((vtS (SS rs) left).map .int), .int (SS rs (noTop left)), nD (lvB left (vtS (SS rs) left))]] := by rw [List.map_append]; rfl
      have oc := fun s0 s1 s3 s4 s5 s6 s7 s8 s9 s11 => outB_lc (left := left) (lv := lvB left (vtS (SS rs) left)) (s0 := s0) (s1 := s1) (s3 := s3) (s4 := s4) (s5 := s5) (s6 := s6) (s7 := s7) (s8 := s8) (s9 := s9) (s11 := s11)
      have st : B__law_counted_3 [.v (.lst (os.map nD)), .v (.lst (rs.map rowD)), .v (.lst (left.map nD)), .l (tab.map (trW .t)), .v d, s5, s6, s7, s8, s9, s10, s11, .no] = .nx [.v (.lst (os.map nD)), .v (.lst (rs.map rowD)), .v (.lst ((outB left (lvS (SS rs) left)).map nD)), .l ((tab ++ [(left, vtS (SS rs) left, SS rs (noTop left), some (lvS (SS rs) left))]).map (trW .t)), .v d, .v (.lst ((vtS (SS rs) left).map .int)), .v (.int (SS rs (noTop left))), s7', s8', s9', .v (nD (lvB left (vtS (SS rs) left))), s11', .no] := by
        rw [mp]
        unfold B__law_counted_3
        simp_arith [lz, zc, e1, g0, List.length_map, sm, Int.toNat_natCast, e2, decide_eq_false (show ¬ (left.length : Int) = 1 by omega), hz, gTup4, tz, oc]
        rfl
      rw [st, lp_nx]
      obtain ⟨left', w4, w5, w6, w7, w8, w9, w10, w11, e⟩ := ih (outB left (lvS (SS rs) left)) (tab ++ [(left, vtS (SS rs) left, SS rs (noTop left), some (lvS (SS rs) left))]) (.v d) (.v (.lst ((vtS (SS rs) left).map .int))) (.v (.int (SS rs (noTop left)))) s7' s8' s9' (.v (nD (lvB left (vtS (SS rs) left)))) s11' (outB_nd nd) (by omega) (by omega) (by rw [List.length_append]; simp; omega)
      rw [e, if_neg c, if_neg (by simp)]
      refine ⟨left', w4, w5, w6, w7, w8, w9, w10, w11, ?_⟩
      rw [List.length_cons, hm, List.append_assoc]
      rfl
theorem counted_ok (ho : okOpts os) (okr : okRows os rs) (few : rs.length ≤ 1000) : F__law_counted [.lst (os.map nD), .lst (rs.map rowD)] = .ok (.lst ((tabL (SS rs) (os.length - 1) os).map (trW .t))) := by
  have f4 := ho.few
  have pos := ho.pos
  obtain ⟨left', s4, s5, s6, s7, s8, s9, s10, s11, e⟩ := counted_loop ho okr few (rgD 0 os.length) os [] .no .no .no .no .no .no .no .no ho.nd (by rw [rgD_len]) (by rw [rgD_len]; exact f4) (by rw [rgD_len]; simp; omega)
  have ne : rgD 0 os.length ≠ [] := fun z => by
    have := congrArg List.length z
    rw [rgD_len, List.length_nil] at this
    omega
  rw [if_neg ne, rgD_len, List.nil_append] at e
  have e : loop (gN 4) B__law_counted_3 (rgD 0 os.length) [.v (.lst (os.map nD)), .v (.lst (rs.map rowD)), .v (.lst (os.map nD)), .l [], .no, .no, .no, .no, .no, .no, .no, .no, .no] = _ := e
  have sm : small62 (os.length : Int) := small_rg (by omega) (by omega)
  unfold F__law_counted G__law_counted
  simp_arith [sz0, List.length_map, sm, Int.toNat_natCast, e]
end
end Tk

namespace Tk
open PySem PySem.Spec L2 PyProof.Rows
/-! ### the tops, asked of all ballots -/
def trE (os rest b : Bal) (o : Option (List Nat)) (s5 : Sl) : Ev := [.v (.lst (os.map nD)), .v (.lst (rest.map nD)), .v (.lst (rest.map nD)), .v (bD b), .v (nmO o), s5]
theorem want_loop {os rest b : Bal} {s5 : Sl} : ∃ s5', loop (gN 5) B__law_tops_right_1 (b.reverse.map nD) (trE os rest b none s5) = .nx (trE os rest b (topB b rest) s5') := by
  obtain ⟨ρ', e, s5', rfl⟩ := loop_map (inj := nD) (h := gN 5) (body := B__law_tops_right_1) (l := b.reverse) (ρ := trE os rest b none s5)
    (fun i ρ => ∃ s5 : Sl, ρ = trE os rest b (topB (b.reverse.take i).reverse rest) s5) ⟨s5, rfl⟩ (by
      rintro i w ρ q ⟨s5, rfl⟩
      refine ⟨trE os rest b (topB (b.reverse.take i).reverse rest) (.v (nD w)), rfl, ?_⟩
      have tk : (b.reverse.take (i + 1)).reverse = w :: (b.reverse.take i).reverse := by rw [List.take_succ, q, List.reverse_append]; rfl
      have tp : topB (w :: (b.reverse.take i).reverse) rest = if w ∈ rest then some w else topB (b.reverse.take i).reverse rest := by
        unfold topB
        by_cases c : w ∈ rest
        · rw [if_pos c, List.find?_cons_of_pos (by simpa using c)]
        · rw [if_neg c, List.find?_cons_of_neg (by simpa using c)]
      have st : B__law_tops_right_1 (trE os rest b (topB (b.reverse.take i).reverse rest) (.v (nD w))) = .nx (trE os rest b (topB (b.reverse.take (i + 1)).reverse rest) (.v (nD w))) := by
        rw [tk, tp]
        generalize topB (b.reverse.take i).reverse rest = o
        unfold trE B__law_tops_right_1
        by_cases c : w ∈ rest
        · rw [if_pos c]
          simp_arith [in_lst, decide_eq_true c]
          rfl
        · rw [if_neg c]
          simp_arith [in_lst, decide_eq_false c]
      rw [st]
      exact ⟨_, rfl⟩)
  rw [List.take_length, List.reverse_reverse] at e
  exact ⟨s5', e⟩
theorem tops_ok {os rest : Bal} (ho : okOpts os) (hr : ∀ w ∈ rest, okName w) (hl : rest.length ≤ 1000) : F__law_tops_right [.lst (os.map nD), .lst (rest.map nD)] = .ok (.bl true) := by
  have ab := all_ok ho
  obtain ⟨ρ', e, s3, s4, s5, rfl⟩ := loop_map (inj := bD) (h := gN 3) (body := B__law_tops_right_2) (l := allB os) (ρ := [.v (.lst (os.map nD)), .v (.lst (rest.map nD)), .v (.lst (rest.map nD)), .no, .no, .no])
    (fun _ ρ => ∃ s3 s4 s5 : Sl, ρ = [.v (.lst (os.map nD)), .v (.lst (rest.map nD)), .v (.lst (rest.map nD)), s3, s4, s5]) ⟨_, _, _, rfl⟩ (by
      rintro i b ρ q ⟨s3, s4, s5, rfl⟩
      refine ⟨[.v (.lst (os.map nD)), .v (.lst (rest.map nD)), .v (.lst (rest.map nD)), .v (bD b), s4, s5], rfl, ?_⟩
      obtain ⟨s5', lp⟩ := want_loop (os := os) (rest := rest) (b := b) (s5 := s5)
      unfold trE at lp
      have lp : loop (gN 5) B__law_tops_right_1 (b.reverse.map nD) [.v (.lst (os.map nD)), .v (.lst (rest.map nD)), .v (.lst (rest.map nD)), .v (bD b), .v .non, s5] = _ := lp
      have rv : gRev (bD b) = .ok (.tup (b.reverse.map nD)) := by
        unfold bD
        rw [gRev_tup, List.map_reverse]
      have t1 : F_top [bD b, .lst (rest.map nD)] = _ := top_ok (sh := .t) (sh' := .l)
      have t2 : F_top [bD b, .tup (rest.map nD)] = _ := top_ok (sh := .t) (sh' := .t)
      have sm := samez_ok (samz_nmO (n := 5) (topB b rest))
      have gk : gDk [0, 1] [] [] [bD b, .tup (rest.map nD)] = [bD b, .tup (rest.map nD)] := rfl
      unfold B__law_tops_right_2
      simp_arith [rv, lp, t1, sm, gk, t2]
      exact ⟨_, _, _, rfl⟩)
  have eq := (gEq_clean (n := 1) (m := 1) (a := .lst (rest.map nD)) (b := .lst (rest.map nD)) (by decide) (by decide) (by
    show cleanL 0 (rest.map nD) = true
    rw [cleanL_all]
    intro d m
    obtain ⟨w, mw, rfl⟩ := List.mem_map.mp m
    exact clean_w (hr w mw)) (by
    show cleanL 0 (rest.map nD) = true
    rw [cleanL_all]
    intro d m
    obtain ⟨w, mw, rfl⟩ := List.mem_map.mp m
    exact clean_w (hr w mw))).1 rfl
  unfold F__law_tops_right G__law_tops_right
  simp_arith [ab, e, eq]
/-! the table's rows -/
theorem tab_rows {S : (Bal → Bool) → Int} : ∀ {n : Nat} {left : Bal}, left.Nodup → left.length = n + 1 → (tabL S n left).length = n + 1 ∧ (∀ r ∈ tabL S n left, (∀ w ∈ r.1, w ∈ left) ∧ r.1.length ≤ n + 1 ∧ r.2.1.length ≤ n + 1) ∧ ∃ rows r, tabL S n left = rows ++ [r] ∧ r.1.length = 1 ∧ rows.length = n ∧ r.2.2.2 = none
  | 0, left, nd, hl => by
    refine ⟨rfl, fun r m => ?_, [], _, rfl, hl, rfl, rfl⟩
    rw [List.mem_singleton.mp m]
    exact ⟨fun w m => m, by show left.length ≤ 1; omega, by show (vtS S left).length ≤ 1; rw [vtS_len]; omega⟩
  | n + 1, left, nd, hl => by
    have mem := lvS_mem (S := S) (left := left) (by omega)
    have ol := outB_len nd mem
    obtain ⟨h1, h2, rows, r, e, e1, e2, e3⟩ := tab_rows (S := S) (n := n) (left := outB left (lvS S left)) (outB_nd nd) (by omega)
    refine ⟨by show (tabL S n _).length + 1 = _; rw [h1], fun r m => ?_, (left, vtS S left, S (noTop left), some (lvS S left)) :: rows, r, ?_, e1, by rw [List.length_cons, e2], e3⟩
    · rcases List.mem_cons.mp m with rfl | m
      · exact ⟨fun w m => m, by show left.length ≤ _; omega, by show (vtS S left).length ≤ _; rw [vtS_len]; omega⟩
      · obtain ⟨a, b, c⟩ := h2 r m
        exact ⟨fun w mw => outB_sub (a w mw), by omega, by omega⟩
    · show _ :: tabL S n _ = _
      rw [e]
      rfl
end Tk

namespace Tk
open PySem PySem.Spec L2 PyProof.Rows
/-! ### the place of a name in a list or a tuple without a dict -/
theorem strs_w (ws : Bal) : strsOf (ws.map nD) = some (ws.map fun w => (S w : Str)) := by
  induction ws with
  | nil => rfl
  | cons v ws ih =>
    show (strsOf (ws.map nD)).map _ = _
    rw [ih]
    rfl
theorem findIdx_w {w : List Nat} (ws : Bal) : (ws.map fun w => (S w : Str)).findIdx (fun y => decide (y = S w)) = ws.idxOf w := by
  induction ws with
  | nil => rfl
  | cons v ws ih =>
    rw [List.map_cons, List.findIdx_cons, List.idxOf_cons]
    by_cases z : v = w
    · rw [z]; simp
    · have z2 : ¬ (S v : Str) = S w := fun q => z (S_inj q)
      rw [decide_eq_false z2, beq_eq_false_iff_ne.mpr z, ih]
theorem gIdxZ_w {ws : Bal} {w : List Nat} (h : w ∈ ws) : gIdxZ (zD ws) [nD w] = .ok (.int ((ws.idxOf w : Nat) : Int)) := by
  show (optR (strsOf (ws.map nD))).bind (fun ys => if ys.findIdx (fun y => decide (y = S w)) < ys.length then R.ok (D.int ((ys.findIdx (fun y => decide (y = S w)) : Nat) : Int)) else .bad) = _
  rw [strs_w, optR_some, bind_ok, findIdx_w, List.length_map, if_pos (List.idxOf_lt_length_of_mem h)]
theorem idxL {fo : Ev → R D} {fl : Ev → R (List D)} {ρ : Ev} {os : Bal} {w : List Nat} (h1 : fo ρ = .ok (.lst (os.map nD))) (h2 : fl ρ = .ok [nD w]) (m : w ∈ os) : eMtL gIdx fo fl ρ = .ok (.int ((os.idxOf w : Nat) : Int)) := by
  rw [eMtL_lst h1, h2, bind_ok, gIdx_w m]
theorem idxZ {fo : Ev → R D} {fl : Ev → R (List D)} {ρ : Ev} {os : Bal} {w : List Nat} (h1 : fo ρ = .ok (zD os)) (h2 : fl ρ = .ok [nD w]) (m : w ∈ os) : eIdxZ fo fl ρ = .ok (.int ((os.idxOf w : Nat) : Int)) := by
  show (fo ρ).bind _ = _
  rw [h1, bind_ok, if_pos (show isZ (zD os) = true from rfl), h2, bind_ok, gIdxZ_w m]
theorem idxA {fo : Ev → R D} {fl : Ev → R (List D)} {ρ : Ev} {z : Bool} {os : Bal} {w : List Nat} (h1 : fo ρ = .ok (nmsD z os)) (h2 : fl ρ = .ok [nD w]) (m : w ∈ os) : eIdxA fo fl ρ = .ok (.int ((os.idxOf w : Nat) : Int)) := by
  unfold eIdxA eOr2
  cases z with
  | false =>
    have c : zB fo ρ = false := by unfold zB; rw [h1]; rfl
    rw [c, if_neg Bool.false_ne_true]
    exact idxL h1 h2 m
  | true =>
    have c : zB fo ρ = true := by unfold zB; rw [h1]; rfl
    rw [c, if_pos rfl]
    exact idxZ h1 h2 m
/-! the lead -/
def leadN (os : Bal) (a b : List Nat) : Int := if os.idxOf b < os.idxOf a then 0 else 1
theorem lead_ok {z : Bool} {os : Bal} {a b : List Nat} (ha : a ∈ os) (hb : b ∈ os) : F_lead [nmsD z os, nD a, nD b] = .ok (.int (leadN os a b)) := by
  have i1 := idxA (fo := eV 0) (fl := aC (eV 1) aN) (ρ := [.v (nmsD z os), .v (nD a), .v (nD b)]) (z := z) rfl rfl ha
  have i2 := idxA (fo := eV 0) (fl := aC (eV 2) aN) (ρ := [.v (nmsD z os), .v (nD a), .v (nD b)]) (z := z) rfl rfl hb
  unfold F_lead G_lead leadN
  by_cases c : os.idxOf b < os.idxOf a
  · rw [if_pos c]
    simp_arith [i1, i2, decide_eq_true (show ((os.idxOf b : Nat) : Int) < ((os.idxOf a : Nat) : Int) by omega)]
  · rw [if_neg c]
    simp_arith [i1, i2, decide_eq_false (show ¬ ((os.idxOf b : Nat) : Int) < ((os.idxOf a : Nat) : Int) by omega)]
/-! ### the law's votes, over the whole slate -/
def vtO (os left : Bal) (rs : List Row) : List Int := os.map fun w => SS rs (isTop left w)
theorem vtO_len {os left : Bal} {rs : List Row} : (vtO os left rs).length = os.length := List.length_map ..
theorem vtO_at {os left : Bal} {rs : List Row} {w : List Nat} (m : w ∈ os) : (vtO os left rs).getD (os.idxOf w) 0 = SS rs (isTop left w) := by
  have hl := List.idxOf_lt_length_iff.mpr m
  rw [List.getD_eq_getElem?_getD, List.getElem?_eq_getElem (by rw [vtO_len]; exact hl)]
  unfold vtO
  rw [List.getElem_map, List.getElem_idxOf hl]
  rfl
theorem vtO_step {os left : Bal} {w : List Nat} {qs : List Row} {r : Row} (nd : os.Nodup) (mw : w ∈ os) (ht : topB r.1 left = some w) : (vtO os left qs).set (os.idxOf w) ((vtO os left qs).getD (os.idxOf w) 0 + r.2) = vtO os left (qs ++ [r]) := by
  have hl := List.idxOf_lt_length_iff.mpr mw
  apply List.ext_getElem
  · rw [List.length_set, vtO_len, vtO_len]
  · intro k h1 h2
    rw [vtO_len] at h2
    rw [List.getElem_set]
    have e2 : (vtO os left (qs ++ [r]))[k]'(by rw [vtO_len]; exact h2) = sumP (isTop left os[k]) qs + (if isTop left os[k] r.1 = true then r.2 else 0) := by
      unfold vtO
      rw [List.getElem_map]
      exact sumP_snoc
    rw [e2]
    by_cases z : os.idxOf w = k
    · rw [if_pos z, vtO_at mw]
      subst z
      have ew : os[os.idxOf w] = w := List.getElem_idxOf hl
      rw [ew, if_pos (show isTop left w r.1 = true from decide_eq_true ht)]
    · rw [if_neg z]
      have ne : ¬ w = os[k] := fun e => z (nd_get nd (i := os.idxOf w) (j := k) (a := w) (by rw [List.getElem?_eq_getElem hl, List.getElem_idxOf hl]) (by rw [List.getElem?_eq_getElem h2, e]))
      have : ¬ isTop left os[k] r.1 = true := fun e => by
        have := of_decide_eq_true e
        rw [ht] at this
        exact ne (Option.some.inj this)
      rw [if_neg this, Int.add_zero]
      unfold vtO
      rw [List.getElem_map]
theorem vtO_none {os left : Bal} {qs : List Row} {r : Row} (ht : topB r.1 left = none) : vtO os left (qs ++ [r]) = vtO os left qs := by
  unfold vtO
  refine List.map_congr_left fun w _ => ?_
  show sumP (isTop left w) (qs ++ [r]) = _
  have : ¬ isTop left w r.1 = true := fun e => by
    have := of_decide_eq_true e
    rw [ht] at this
    cases this
  rw [sumP_snoc, if_neg this, Int.add_zero]
theorem ne_nil_names {ws : Bal} (h : ∀ w ∈ ws, okName w) : gNe (.lst (ws.map nD)) (.lst []) = .ok (.bl (!decide (ws = []))) := by
  have c : cleanD 1 (.lst (ws.map nD)) = true := by
    show cleanL 0 (ws.map nD) = true
    rw [cleanL_all]
    intro d m
    obtain ⟨w, mw, rfl⟩ := List.mem_map.mp m
    exact clean_w (h w mw)
  obtain ⟨h1, h2⟩ := gEq_clean (n := 1) (m := 1) (a := .lst (ws.map nD)) (b := .lst []) (by decide) (by decide) c rfl
  rw [gNe_def]
  by_cases z : ws = []
  · rw [h1 (by rw [z]; rfl), decide_eq_true z]; rfl
  · rw [h2 (fun e => z (List.map_eq_nil_iff.mp (D.lst.inj e))), decide_eq_false z]; rfl
def lvE (rs : List Row) (os left : Bal) (vs : List Int) (s4 s5 s6 : Sl) : Ev := [.v (.lst (rs.map rowD)), .v (.lst (os.map nD)), .v (.lst (left.map nD)), .l (vs.map .int), s4, s5, s6, .no]
theorem lawvotes_ok {os left : Bal} {rs : List Row} (ho : okOpts os) (okr : okRows os rs) (hs : ∀ w ∈ left, w ∈ os) : F__law_votes [.lst (rs.map rowD), .lst (os.map nD), .lst (left.map nD)] = .ok (.lst ((vtO os left rs).map .int)) := by
  have few := ho.few
  obtain ⟨ρ', e, s4, s5, s6, rfl⟩ := loop_map (inj := rowD) (h := gT 2 (gsC (gN 4) (gsC (gN 5) (gsN)))) (body := B__law_votes_1) (l := rs) (ρ := lvE rs os left (os.map fun _ => 0) .no .no .no)
    (fun i ρ => ∃ s4 s5 s6 : Sl, ρ = lvE rs os left (vtO os left (rs.take i)) s4 s5 s6) ⟨.no, .no, .no, rfl⟩ (by
      rintro i r ρ q ⟨s4, s5, s6, rfl⟩
      refine ⟨lvE rs os left (vtO os left (rs.take i)) (.v (bD r.1)) (.v (.int r.2)) s6, rfl, ?_⟩
      have tk : rs.take (i + 1) = rs.take i ++ [r] := by rw [List.take_succ, q]; rfl
      have ob := okr.bal r (List.mem_of_getElem? q)
      have bl := ob.len
      have bz : (r.1.map nD).length ≤ sizeLine := by rw [List.length_map]; exact szle (by omega)
      have lc : ∀ s3 : Sl, lcL (gN 7) (tV (e2 (gInS false) (eV 7) (eV 2))) (eV 7) [.v (.lst (rs.map rowD)), .v (.lst (os.map nD)), .v (.lst (left.map nD)), s3, .v (bD r.1), .v (.int r.2), s6, .no] (r.1.map nD) = .ok ((r.1.filter fun w => decide (w ∈ left)).map nD) := fun s3 =>
        lc_map (inj := nD) (fun w => decide (w ∈ left)) nD fun w mw => ⟨[.v (.lst (rs.map rowD)), .v (.lst (os.map nD)), .v (.lst (left.map nD)), s3, .v (bD r.1), .v (.int r.2), s6, .v (nD w)], rfl, by simp_arith [in_lst], fun _ => rfl⟩
      have gi : gIt (bD r.1) = .ok (r.1.map nD) := rfl
      have gn : gLst [] = .ok (.lst []) := if_pos (szle (by simp))
      have hd := filter_head (b := r.1) (left := left)
      have en := ne_nil_names (ws := r.1.filter fun w => decide (w ∈ left)) fun w m => ho.each w (ob.sub w (List.mem_filter.mp m).1)
      have en2 : rNot (gEq (.lst ((r.1.filter fun w => decide (w ∈ left)).map nD)) (.lst [])) = .ok (.bl (!decide ((r.1.filter fun w => decide (w ∈ left)) = []))) := en
      have st : ∃ s6', B__law_votes_1 (lvE rs os left (vtO os left (rs.take i)) (.v (bD r.1)) (.v (.int r.2)) s6) = .nx (lvE rs os left (vtO os left (rs.take (i + 1))) (.v (bD r.1)) (.v (.int r.2)) s6') := by
        rw [tk]
        refine ⟨.v (.lst ((r.1.filter fun w => decide (w ∈ left)).map nD)), ?_⟩
        cases ht : topB r.1 left with
        | none =>
          rw [ht] at hd
          have z : (r.1.filter fun w => decide (w ∈ left)) = [] := List.head?_eq_none_iff.mp hd
          rw [vtO_none ht]
          unfold lvE B__law_votes_1
          simp_arith [gi, bz, lc, gn, en2, decide_eq_true z]
        | some w =>
          obtain ⟨tl, et⟩ : ∃ tl, (r.1.filter fun w => decide (w ∈ left)) = w :: tl := by
            rw [ht] at hd
            cases q : r.1.filter fun w => decide (w ∈ left) with
            | nil => rw [q] at hd; cases hd
            | cons a tl => rw [q] at hd; cases hd; exact ⟨tl, rfl⟩
          have z : ¬ (r.1.filter fun w => decide (w ∈ left)) = [] := by rw [et]; simp
          have mw : w ∈ os := hs w (top_mem ht)
          have g0 : gIx (.lst ((r.1.filter fun w => decide (w ∈ left)).map nD)) (.int 0) = .ok (nD w) := by rw [et]; exact gIx_map (inj := nD) (by decide) rfl
          have hw := List.idxOf_lt_length_iff.mpr mw
          have vl : (vtO os left (rs.take i)).length = os.length := vtO_len
          have gv : gIx (.lst ((vtO os left (rs.take i)).map .int)) (.int ((os.idxOf w : Nat) : Int)) = .ok (.int ((vtO os left (rs.take i)).getD (os.idxOf w) 0)) := by
            have := gIx_getD (l := vtO os left (rs.take i)) (j := ((os.idxOf w : Nat) : Int)) (by omega) (by omega)
            rw [Int.toNat_natCast] at this
            exact this
          have ixn : ixN ((vtO os left (rs.take i)).map D.int).length ((os.idxOf w : Nat) : Int) = some (os.idxOf w) := by
            unfold ixN
            rw [List.length_map, if_pos (by omega), if_pos (by omega), Int.toNat_natCast]
          have em : ∀ s3 : Sl, eMtL gIdx (eV 1) (aC (e2 gIx (eV 6) (eC (.int 0))) aN) [.v (.lst (rs.map rowD)), .v (.lst (os.map nD)), .v (.lst (left.map nD)), s3, .v (bD r.1), .v (.int r.2), .v (.lst ((r.1.filter fun w => decide (w ∈ left)).map nD)), .no] = .ok (.int ((os.idxOf w : Nat) : Int)) := fun s3 => idxL rfl (by simp_arith [g0]) mw
          have ms : ∀ v : Int, ((vtO os left (rs.take i)).map D.int).set (os.idxOf w) (.int v) = ((vtO os left (rs.take i)).set (os.idxOf w) v).map .int := fun v => by rw [List.map_set]
          rw [← vtO_step ho.nd mw ht]
          unfold lvE B__law_votes_1
          rw [← ms]
          simp_arith [gi, bz, lc, gn, en2, decide_eq_false z, em, gv, scalD, ixn]
      obtain ⟨s6', st⟩ := st
      rw [st]
      exact ⟨_, _, _, rfl⟩)
  rw [List.take_length] at e
  unfold lvE at e
  have oz : (os.map nD).length ≤ sizeLine := by rw [List.length_map]; exact szle (by omega)
  have zc : lcL (gN 7) tsY (eC (.int 0)) [.v (.lst (rs.map rowD)), .v (.lst (os.map nD)), .v (.lst (left.map nD)), .no, .no, .no, .no, .no] (os.map nD) = .ok ((os.map fun _ => (0 : Int)).map .int) := by
    rw [lc_all (inj := nD) (fun _ => D.int 0) fun w _ => ⟨[.v (.lst (rs.map rowD)), .v (.lst (os.map nD)), .v (.lst (left.map nD)), .no, .no, .no, .no, .v (nD w)], rfl, rfl, rfl⟩, List.map_map]
    rfl
  unfold F__law_votes G__law_votes
  simp_arith [oz, zc, e]
end Tk

namespace Tk
open PySem PySem.Spec L2 PyProof.Rows
/-! ### the order of the leavers -/
def lvs (S : (Bal → Bool) → Int) : Nat → Bal → Bal
  | 0, _ => []
  | n + 1, left => lvS S left :: lvs S n (outB left (lvS S left))
theorem lvs_len {S : (Bal → Bool) → Int} : ∀ {n : Nat} {left : Bal}, (lvs S n left).length = n
  | 0, _ => rfl
  | n + 1, left => by show (lvs S n _).length + 1 = _; rw [lvs_len]
theorem tabL_ne {S : (Bal → Bool) → Int} : ∀ {n : Nat} {left : Bal}, tabL S n left ≠ []
  | 0, _ => by simp [tabL]
  | n + 1, _ => by simp [tabL]
theorem tab_lvs {S : (Bal → Bool) → Int} : ∀ {n : Nat} {left : Bal}, (tabL S n left).dropLast.map (fun r => nmO r.2.2.2) = (lvs S n left).map nD
  | 0, left => rfl
  | n + 1, left => by
    show (List.dropLast (_ :: tabL S n _)).map _ = nD (lvS S left) :: (lvs S n _).map nD
    rw [List.dropLast_cons_of_ne_nil tabL_ne, List.map_cons, tab_lvs]
    rfl
theorem lvs_mem {S : (Bal → Bool) → Int} : ∀ {n : Nat} {left : Bal}, left.Nodup → n < left.length → ∀ w ∈ lvs S n left, w ∈ left
  | 0, _, _, _, _, m => by cases m
  | n + 1, left, nd, hl, w, m => by
    have mem := lvS_mem (S := S) (left := left) (by omega)
    have ol := outB_len nd mem
    rcases List.mem_cons.mp m with rfl | m
    · exact mem
    · exact outB_sub (lvs_mem (outB_nd nd) (by omega) w m)
/-- left's names stand as in os -/
def Ord (os left : Bal) : Prop := left.Pairwise fun a b => os.idxOf a < os.idxOf b
theorem Ord.self {os : Bal} (nd : os.Nodup) : Ord os os := by
  refine List.pairwise_iff_getElem.mpr fun i j hi hj hij => ?_
  have e : ∀ k (hk : k < os.length), os.idxOf os[k] = k := fun k hk => by
    have hl := List.idxOf_lt_length_iff.mpr (List.getElem_mem hk)
    exact nd_get nd (i := os.idxOf os[k]) (j := k) (a := os[k]) (by rw [List.getElem?_eq_getElem hl, List.getElem_idxOf hl]) (List.getElem?_eq_getElem hk)
  rw [e i hi, e j hj]
  exact hij
theorem Ord.out {os left : Bal} {lv : List Nat} (h : Ord os left) : Ord os (outB left lv) := h.sublist List.filter_sublist
def may (S : (Bal → Bool) → Int) (os left : Bal) (g : List Nat) : Prop := ∀ rv ∈ left, rv ≠ g → S (isTop left g) + leadN os g rv ≤ S (isTop left rv)
theorem vtS_at {S : (Bal → Bool) → Int} {left : Bal} {k : Nat} (hk : k < left.length) : (vtS S left).getD k 0 = S (isTop left left[k]) := by
  rw [List.getD_eq_getElem?_getD, List.getElem?_eq_getElem (by rw [vtS_len]; exact hk)]
  unfold vtS
  rw [List.getElem_map]
  rfl
theorem may_iff {S : (Bal → Bool) → Int} {os left : Bal} (o : Ord os left) {g : List Nat} (m : g ∈ left) : may S os left g ↔ g = lvS S left := by
  have h0 : 0 < left.length := List.length_pos_of_mem m
  have lm := lvI_ok (vtS_ne (S := S) h0)
  have pw := List.pairwise_iff_getElem.mp o
  have ll := lm.lt
  rw [vtS_len] at ll
  have ev : lvS S left = left[lvI (vtS S left)] := by
    show left.getD (lvI (vtS S left)) [] = _
    rw [List.getD_eq_getElem?_getD, List.getElem?_eq_getElem ll]
    rfl
  constructor
  · intro h
    obtain ⟨i, hi, rfl⟩ := List.getElem_of_mem m
    rw [ev]
    -- both are last of the fewest
    have a := lm.le i (by rw [vtS_len]; exact hi)
    rw [vtS_at hi, vtS_at ll] at a
    rcases Nat.lt_trichotomy i (lvI (vtS S left)) with z | z | z
    · have p := pw i (lvI (vtS S left)) hi ll z
      have ne : left[lvI (vtS S left)] ≠ left[i] := fun e => by rw [e] at p; omega
      have := h _ (List.getElem_mem ll) ne
      unfold leadN at this
      rw [if_neg (by omega)] at this
      omega
    · simp only [z]
    · have b := lm.last i z (by rw [vtS_len]; exact hi)
      rw [vtS_at hi, vtS_at ll] at b
      have p := pw (lvI (vtS S left)) i ll hi z
      have ne : left[lvI (vtS S left)] ≠ left[i] := fun e => by rw [e] at p; omega
      have := h _ (List.getElem_mem ll) ne
      unfold leadN at this
      rw [if_pos p] at this
      omega
  · rintro rfl rv mr ne
    rw [ev] at ne ⊢
    obtain ⟨i, hi, rfl⟩ := List.getElem_of_mem mr
    have a := lm.le i (by rw [vtS_len]; exact hi)
    rw [vtS_at hi, vtS_at ll] at a
    unfold leadN
    rcases Nat.lt_trichotomy i (lvI (vtS S left)) with z | z | z
    · have p := pw i (lvI (vtS S left)) hi ll z
      rw [if_pos p]
      omega
    · exact absurd (by simp only [z]) ne
    · have b := lm.last i z (by rw [vtS_len]; exact hi)
      rw [vtS_at hi, vtS_at ll] at b
      have p := pw (lvI (vtS S left)) i ll hi z
      rw [if_neg (by omega)]
      omega
def holdsP (S : (Bal → Bool) → Int) (os : Bal) : Bal → Bal → Prop
  | _, [] => True
  | left, g :: r => may S os left g ∧ holdsP S os (outB left g) r
theorem holds_iff {S : (Bal → Bool) → Int} {os : Bal} : ∀ {order left : Bal} {n : Nat}, Ord os left → left.Nodup → left.length = n + 1 → order.Nodup → (∀ w ∈ order, w ∈ left) → order.length ≤ n → (holdsP S os left order ↔ (lvs S n left).take order.length = order)
  | [], left, n, _, _, _, _, _, _ => by simp [holdsP]
  | g :: r, left, n, o, nd, hl, od, os_, on => by
    obtain ⟨n, rfl⟩ : ∃ k, n = k + 1 := ⟨n - 1, by rw [List.length_cons] at on; omega⟩
    have mg := os_ g List.mem_cons_self
    have hm := may_iff (S := S) o mg
    obtain ⟨o1, o2⟩ := List.nodup_cons.mp od
    have ol := outB_len nd mg
    have sub : ∀ w ∈ r, w ∈ outB left g := fun w mw => List.mem_filter.mpr ⟨os_ w (List.mem_cons_of_mem _ mw), by
      have : ¬ w = g := fun e => o1 (by rw [← e]; exact mw)
      simpa using this⟩
    have ih := holds_iff (S := S) (order := r) (left := outB left g) (n := n) o.out (outB_nd nd) (by omega) o2 sub (by rw [List.length_cons] at on; omega)
    show (may S os left g ∧ holdsP S os (outB left g) r) ↔ (lvS S left :: lvs S n (outB left (lvS S left))).take (r.length + 1) = g :: r
    rw [List.take_succ_cons, hm, ih]
    constructor
    · rintro ⟨rfl, h⟩
      rw [h]
    · intro h
      injection h with h1 h2
      subst h1
      exact ⟨rfl, h2⟩
instance mayD {S : (Bal → Bool) → Int} {os left : Bal} {g : List Nat} : Decidable (may S os left g) := by unfold may; infer_instance
def holdsB (S : (Bal → Bool) → Int) (os : Bal) : Bal → Bal → Bool
  | _, [] => true
  | left, g :: r => decide (may S os left g) && holdsB S os (outB left g) r
theorem holdsB_iff {S : (Bal → Bool) → Int} {os : Bal} : ∀ {order left : Bal}, holdsB S os left order = true ↔ holdsP S os left order
  | [], _ => by simp [holdsB, holdsP]
  | g :: r, left => by
    show (decide (may S os left g) && holdsB S os (outB left g) r) = true ↔ (may S os left g ∧ holdsP S os (outB left g) r)
    rw [Bool.and_eq_true, decide_eq_true_eq, holdsB_iff]
/-! the law's word for it -/
section
variable {os : Bal} {rs : List Row}
def hoE (os : Bal) (rs : List Row) (order left : Bal) (g : List Nat) (vs : List Int) (s6 s7 : Sl) : Ev := [.v (.lst (os.map nD)), .v (.lst (rs.map rowD)), .v (bD order), .v (.lst (left.map nD)), .v (nD g), .v (.lst (vs.map .int)), s6, s7, .no]
theorem holds_in (ho : okOpts os) {order left : Bal} {g : List Nat} (hs : ∀ w ∈ left, w ∈ os) (hg : g ∈ os) : ∀ (l : Bal) (s6 s7 : Sl), (∀ w ∈ l, w ∈ left) →
    (∃ s6' s7', loop (gN 6) B__law_holds_k16_1 (l.map nD) (hoE os rs order left g (vtO os left rs) s6 s7) = .nx (hoE os rs order left g (vtO os left rs) s6' s7') ∧ ∀ rv ∈ l, rv ≠ g → SS rs (isTop left g) + leadN os g rv ≤ SS rs (isTop left rv)) ∨
    (loop (gN 6) B__law_holds_k16_1 (l.map nD) (hoE os rs order left g (vtO os left rs) s6 s7) = .rt (.bl false) ∧ ¬ ∀ rv ∈ l, rv ≠ g → SS rs (isTop left g) + leadN os g rv ≤ SS rs (isTop left rv)) := by
  intro l
  induction l with
  | nil => intro s6 s7 _; exact .inl ⟨s6, s7, rfl, fun _ m => nomatch m⟩
  | cons w l ih =>
    intro s6 s7 hl
    have mw : w ∈ os := hs w (hl w List.mem_cons_self)
    rw [List.map_cons, loop_cons]
    have gg : gN 6 (nD w) (hoE os rs order left g (vtO os left rs) s6 s7) = some (hoE os rs order left g (vtO os left rs) (.v (nD w)) s7) := rfl
    rw [gg, ofO_some]
    have ne := ne_names (a := w) (b := g)
    have ne : rNot (gEq (nD w) (nD g)) = .ok (.bl (!decide (w = g))) := ne
    have i1 : eMtL gIdx (eV 0) (aC (eV 4) aN) (hoE os rs order left g (vtO os left rs) (.v (nD w)) s7) = .ok (.int ((os.idxOf g : Nat) : Int)) := idxL rfl rfl hg
    have i2 : ∀ s7 : Sl, eMtL gIdx (eV 0) (aC (eV 6) aN) (hoE os rs order left g (vtO os left rs) (.v (nD w)) s7) = .ok (.int ((os.idxOf w : Nat) : Int)) := fun s7 => idxL rfl rfl mw
    have gv : ∀ u ∈ os, gIx (.lst ((vtO os left rs).map .int)) (.int ((os.idxOf u : Nat) : Int)) = .ok (.int (SS rs (isTop left u))) := fun u mu => by
      have hu := List.idxOf_lt_length_iff.mpr mu
      have vl : (vtO os left rs).length = os.length := vtO_len
      have := gIx_getD (l := vtO os left rs) (j := ((os.idxOf u : Nat) : Int)) (by omega) (by omega)
      rw [Int.toNat_natCast, vtO_at mu] at this
      exact this
    have ld : F_lead [.lst (os.map nD), nD g, nD w] = .ok (.int (leadN os g w)) := lead_ok (z := false) hg mw
    have g1 := gv g hg
    have g2 := gv w mw
    by_cases z : w = g
    · have st : B__law_holds_k16_1 (hoE os rs order left g (vtO os left rs) (.v (nD w)) s7) = .nx (hoE os rs order left g (vtO os left rs) (.v (nD w)) s7) := by
        unfold hoE B__law_holds_k16_1
        have q : S w = S g := by rw [z]
        simp_arith [decide_eq_true q]
      rw [st, lp_nx]
      rcases ih (.v (nD w)) s7 (fun u m => hl u (List.mem_cons_of_mem _ m)) with ⟨a, b, e, h⟩ | ⟨e, h⟩
      · refine .inl ⟨a, b, e, fun rv mr nr => ?_⟩
        rcases List.mem_cons.mp mr with rfl | mr
        · exact absurd z nr
        · exact h rv mr nr
      · exact .inr ⟨e, fun q => h fun rv mr nr => q rv (List.mem_cons_of_mem _ mr) nr⟩
    · have nz : ¬ S w = S g := fun q => z (S_inj q)
      by_cases c : SS rs (isTop left w) < SS rs (isTop left g) + leadN os g w
      · have st : B__law_holds_k16_1 (hoE os rs order left g (vtO os left rs) (.v (nD w)) s7) = .rt (.bl false) := by
          have i2 := i2 (.v (.int (SS rs (isTop left g) + leadN os g w)))
          unfold hoE at *
          unfold B__law_holds_k16_1
          simp_arith [decide_eq_false nz, i1, g1, ld, i2, g2, decide_eq_true c]
        rw [st]
        exact .inr ⟨rfl, fun q => by have := q w List.mem_cons_self z; omega⟩
      · have st : B__law_holds_k16_1 (hoE os rs order left g (vtO os left rs) (.v (nD w)) s7) = .nx (hoE os rs order left g (vtO os left rs) (.v (nD w)) (.v (.int (SS rs (isTop left g) + leadN os g w)))) := by
          have i2 := i2 (.v (.int (SS rs (isTop left g) + leadN os g w)))
          unfold hoE at *
          unfold B__law_holds_k16_1
          simp_arith [decide_eq_false nz, i1, g1, ld, i2, g2, decide_eq_false c]
        rw [st, lp_nx]
        rcases ih (.v (nD w)) (.v (.int (SS rs (isTop left g) + leadN os g w))) (fun u m => hl u (List.mem_cons_of_mem _ m)) with ⟨a, b, e, h⟩ | ⟨e, h⟩
        · refine .inl ⟨a, b, e, fun rv mr nr => ?_⟩
          rcases List.mem_cons.mp mr with rfl | mr
          · omega
          · exact h rv mr nr
        · exact .inr ⟨e, fun q => h fun rv mr nr => q rv (List.mem_cons_of_mem _ mr) nr⟩
theorem holds_loop (ho : okOpts os) (okr : okRows os rs) {order : Bal} : ∀ (l left : Bal) (s4 s5 s6 s7 : Sl), (∀ w ∈ left, w ∈ os) → (∀ w ∈ l, w ∈ os) → left.length ≤ 4 →
    (∃ left' s4' s5' s6' s7', loop (gN 4) B__law_holds_k16_2 (l.map nD) [.v (.lst (os.map nD)), .v (.lst (rs.map rowD)), .v (bD order), .v (.lst (left.map nD)), s4, s5, s6, s7, .no] = .nx [.v (.lst (os.map nD)), .v (.lst (rs.map rowD)), .v (bD order), .v (.lst ((left' : Bal).map nD)), s4', s5', s6', s7', .no] ∧ holdsB (SS rs) os left l = true) ∨
    (loop (gN 4) B__law_holds_k16_2 (l.map nD) [.v (.lst (os.map nD)), .v (.lst (rs.map rowD)), .v (bD order), .v (.lst (left.map nD)), s4, s5, s6, s7, .no] = .rt (.bl false) ∧ holdsB (SS rs) os left l = false) := by
  intro l
  induction l with
  | nil => intro left s4 s5 s6 s7 _ _ _; exact .inl ⟨left, s4, s5, s6, s7, rfl, rfl⟩
  | cons g l ih =>
    intro left s4 s5 s6 s7 hs hl h4
    have mg := hl g List.mem_cons_self
    rw [List.map_cons, loop_cons]
    have gg : gN 4 (nD g) [.v (.lst (os.map nD)), .v (.lst (rs.map rowD)), .v (bD order), .v (.lst (left.map nD)), s4, s5, s6, s7, .no] = some [.v (.lst (os.map nD)), .v (.lst (rs.map rowD)), .v (bD order), .v (.lst (left.map nD)), .v (nD g), s5, s6, s7, .no] := rfl
    rw [gg, ofO_some]
    have vt := lawvotes_ok (left := left) ho okr hs
    have lz : (left.map nD).length ≤ sizeLine := by rw [List.length_map]; exact szle (by omega)
    have oc : ∀ s5 s6 s7 : Sl, lcL (gN 8) (tV (e2 gNe (eV 8) (eV 4))) (eV 8) [.v (.lst (os.map nD)), .v (.lst (rs.map rowD)), .v (bD order), .v (.lst (left.map nD)), .v (nD g), s5, s6, s7, .no] (left.map nD) = .ok ((outB left g).map nD) := fun s5 s6 s7 =>
      lc_map (inj := nD) (fun w => !decide (w = g)) nD fun w _ => ⟨[.v (.lst (os.map nD)), .v (.lst (rs.map rowD)), .v (bD order), .v (.lst (left.map nD)), .v (nD g), s5, s6, s7, .v (nD w)], rfl, by
        show (gNe (nD w) (nD g)).bind Bof = _
        rw [ne_names]
        rfl, fun _ => rfl⟩
    rcases holds_in (rs := rs) ho (order := order) (left := left) hs mg left s6 s7 (fun _ m => m) with ⟨a, b, e, h⟩ | ⟨e, h⟩
    · unfold hoE at e
      have st : B__law_holds_k16_2 [.v (.lst (os.map nD)), .v (.lst (rs.map rowD)), .v (bD order), .v (.lst (left.map nD)), .v (nD g), s5, s6, s7, .no] = .nx [.v (.lst (os.map nD)), .v (.lst (rs.map rowD)), .v (bD order), .v (.lst ((outB left g).map nD)), .v (nD g), .v (.lst ((vtO os left rs).map .int)), a, b, .no] := by
        unfold B__law_holds_k16_2
        simp_arith [vt, e, lz, oc]
      rw [st, lp_nx]
      have hm : may (SS rs) os left g := h
      have e1 : holdsB (SS rs) os left (g :: l) = holdsB (SS rs) os (outB left g) l := by
        show (decide (may (SS rs) os left g) && _) = _
        rw [decide_eq_true hm, Bool.true_and]
      rw [e1]
      exact ih (outB left g) _ _ _ _ (fun w m => hs w (outB_sub m)) (fun w m => hl w (List.mem_cons_of_mem _ m)) (Nat.le_trans (List.length_filter_le _ _) h4)
    · unfold hoE at e
      have st : B__law_holds_k16_2 [.v (.lst (os.map nD)), .v (.lst (rs.map rowD)), .v (bD order), .v (.lst (left.map nD)), .v (nD g), s5, s6, s7, .no] = .rt (.bl false) := by
        unfold B__law_holds_k16_2
        simp_arith [vt, e]
      have hm : ¬ may (SS rs) os left g := h
      rw [st]
      refine .inr ⟨rfl, ?_⟩
      show (decide (may (SS rs) os left g) && _) = _
      rw [decide_eq_false hm, Bool.false_and]
theorem holds_ok (ho : okOpts os) (okr : okRows os rs) {order : Bal} (h : okBal os order) : F__law_holds_k16 [.lst (os.map nD), .lst (rs.map rowD), bD order] = .ok (.bl (holdsB (SS rs) os os order)) := by
  have gi : gIt (bD order) = .ok (order.map nD) := rfl
  unfold F__law_holds_k16 G__law_holds_k16
  rcases holds_loop ho okr (order := order) order os .no .no .no .no (fun _ m => m) h.sub ho.few with ⟨left', a, b, c, d, e, e2⟩ | ⟨e, e2⟩
  · rw [e2]
    simp_arith [gi, e]
  · rw [e2]
    simp_arith [gi, e]
/-! the order is right -/
theorem eq_bals {a b : Bal} (ha : ∀ w ∈ a, okName w) (hb : ∀ w ∈ b, okName w) : gEq (bD a) (bD b) = .ok (.bl (decide (a = b))) := by
  have c : ∀ {x : Bal}, (∀ w ∈ x, okName w) → cleanD 1 (bD x) = true := fun {x} h => by
    show cleanL 0 (x.map nD) = true
    rw [cleanL_all]
    intro d m
    obtain ⟨w, mw, rfl⟩ := List.mem_map.mp m
    exact clean_w (h w mw)
  obtain ⟨h1, h2⟩ := gEq_clean (n := 1) (m := 1) (by decide) (by decide) (c ha) (c hb)
  by_cases z : a = b
  · rw [h1 (by rw [z]), decide_eq_true z]
  · rw [h2 (fun e => z ?_), decide_eq_false z]
    have e2 : a.map nD = b.map nD := D.tup.inj e
    exact List.map_inj_right (fun _ _ => nD_inj) |>.mp e2
theorem order_ok {ns : List Row} (ho : okOpts os) (okr : okRows os rs) (hn : ns.length ≤ 1000) (hS : SS ns = SS rs) : F__law_order_right [rollD os ns, .lst (os.map nD), .lst (rs.map rowD)] = .ok (.bl true) := by
  have pos := ho.pos
  have few := ho.few
  have ct := count_ok ho hn
  rw [hS] at ct
  have f7 : gFld [2] 7 (cntD (tabL (SS rs) (os.length - 1) os)) = .ok (bD (lvs (SS rs) (os.length - 1) os)) := by
    unfold cntD
    rw [gFld_ins, if_pos (by simp)]
    show R.ok (D.tup _) = _
    rw [tab_lvs]
    rfl
  have ll : (lvs (SS rs) (os.length - 1) os).length = os.length - 1 := lvs_len
  have lm := lvs_mem (S := SS rs) (n := os.length - 1) (left := os) ho.nd (by omega)
  have tok : ∀ w ∈ lvs (SS rs) (os.length - 1) os, okName w := fun w m => ho.each w (lm w m)
  generalize hT : lvs (SS rs) (os.length - 1) os = told at *
  have it : gIsi [bD told, .ty "tuple"] = .ok (.bl true) := is11
  have lt : gLen [bD told] = .ok (.int (told.length : Int)) := len_sh (sh := .t)
  obtain ⟨ρ1, e1, s4, rfl⟩ := loop_map (inj := nD) (h := gN 4) (body := B__law_order_right_1) (l := told) (ρ := [.v (rollD os ns), .v (.lst (os.map nD)), .v (.lst (rs.map rowD)), .v (bD told), .no, .no])
    (fun _ ρ => ∃ s4 : Sl, ρ = [.v (rollD os ns), .v (.lst (os.map nD)), .v (.lst (rs.map rowD)), .v (bD told), s4, .no]) ⟨_, rfl⟩ (by
      rintro i w ρ q ⟨s4, rfl⟩
      refine ⟨[.v (rollD os ns), .v (.lst (os.map nD)), .v (.lst (rs.map rowD)), .v (bD told), .v (nD w), .no], rfl, ?_⟩
      unfold B__law_order_right_1
      simp_arith [is4]
      exact ⟨_, rfl⟩)
  obtain ⟨ρ2, e2, s5, rfl⟩ := loop_map (inj := bD) (h := gN 5) (body := B__law_order_right_2) (l := allB os) (ρ := [.v (rollD os ns), .v (.lst (os.map nD)), .v (.lst (rs.map rowD)), .v (bD told), s4, .no])
    (fun _ ρ => ∃ s5 : Sl, ρ = [.v (rollD os ns), .v (.lst (os.map nD)), .v (.lst (rs.map rowD)), .v (bD told), s4, s5]) ⟨_, rfl⟩ (by
      rintro i b ρ q ⟨s5, rfl⟩
      refine ⟨[.v (rollD os ns), .v (.lst (os.map nD)), .v (.lst (rs.map rowD)), .v (bD told), s4, .v (bD b)], rfl, ?_⟩
      have ob := allB_ok ho (List.mem_of_getElem? q)
      have lb : gLen [bD b] = .ok (.int (b.length : Int)) := len_sh (sh := .t)
      unfold B__law_order_right_2
      by_cases c : b.length < os.length
      · have hk := holds_ok ho okr ob
        have sl : gSl (bD told) none (some (b.length : Int)) = .ok (bD (told.take b.length)) := by
          have := gSl_sq (b := true) (xs := told.map nD) (j := (b.length : Int)) (by omega)
          rw [Int.toNat_natCast, ← List.map_take] at this
          exact this
        have eq := eq_bals (a := told.take b.length) (b := b) (fun w m => tok w (List.mem_of_mem_take m)) fun w m => ho.each w (ob.sub w m)
        have hi := holds_iff (S := SS rs) (os := os) (order := b) (left := os) (n := os.length - 1) (Ord.self ho.nd) ho.nd (by omega) ob.nd ob.sub (by omega)
        rw [hT] at hi
        have hb : holdsB (SS rs) os os b = decide (told.take b.length = b) := by
          rw [Bool.eq_iff_iff, holdsB_iff, hi, decide_eq_true_eq]
        simp_arith [lb, List.length_map, decide_eq_true (show (b.length : Int) < (os.length : Int) by omega), hk, sl, eq, hb]
        exact ⟨_, rfl⟩
      · simp_arith [lb, List.length_map, decide_eq_false (show ¬ (b.length : Int) < (os.length : Int) by omega)]
        exact ⟨_, rfl⟩)
  have ab := all_ok ho
  have gi : gIt (bD told) = .ok (told.map nD) := rfl
  unfold F__law_order_right G__law_order_right
  simp_arith [ct, f7, it, lt, List.length_map, decide_eq_true (show (told.length : Int) = (os.length : Int) - 1 by omega), gi, e1, ab, e2]
end
end Tk

namespace Tk
open PySem PySem.Spec L2 PyProof.Rows
/-! ### two rolls are put together -/
theorem gEq_tpz {xs ys : List D} : gEq (.tpz xs) (.tpz ys) = gEq (.tup xs) (.tup ys) := by
  have a : ∀ zs : List D, toP (.tpz zs) = toP (.tup zs) := fun zs => by simp only [toP]
  show gEqP (.tpz xs) (.tpz ys) = gEqP (.tup xs) (.tup ys)
  unfold gEqP
  rw [a, a]
theorem gF51 {os : Bal} {ns : List Row} : gFld [52] 51 (rollD os ns) = .ok (.tup (ns.map rowD)) := by
  unfold rollD
  rw [gFld_ins, if_pos (by simp)]
  rfl
theorem radd_ok {os : Bal} {ns ms : List Row} (ho : okOpts os) (hn : okRows os ns) (hm : okRows os ms) (hl : ns.length + ms.length ≤ 1000) : F_Roll___add__ [rollD os ns, rollD os ms] = .ok (rollD os (normR os (ns ++ ms))) := by
  have e0 : gEq (zD os) (zD os) = .ok (.bl true) := by
    unfold zD
    rw [gEq_tpz]
    exact (eq_bals (a := os) (b := os) ho.each ho.each).trans (by rw [decide_eq_true rfl])
  have ga : gAdd (.tup (ns.map rowD)) (.tup (ms.map rowD)) = .ok (.tup ((ns ++ ms).map rowD)) := by
    show (if (ns.map rowD).length + (ms.map rowD).length ≤ sizeLine then R.ok (D.tup (ns.map rowD ++ ms.map rowD)) else .bad) = _
    rw [if_pos (by rw [List.length_map, List.length_map, sz24]; omega), List.map_append]
  have r1 := unA_eq fun a => roll_ok (a := a) (z := true) (rv := .tup ((ns ++ ms).map rowD)) (lg := none) ho (hn.app hm) (fun l e => nomatch e) (by rw [List.length_append]; exact hl) rfl
  have r1 : (unA fun a => F_Roll___init__ a [zD os, .tup ((ns ++ ms).map rowD), .non]) = _ := r1
  have rd : ∀ ns : List Row, D.ins 52 [(44, zD os), (51, .tup (ns.map rowD)), (4, .int (totR ns))] = rollD os ns := fun _ => rfl
  have gk : ∀ a b : D, gDk [0, 1, 3] [.tp0] [a, b] [.non] = [a, b, .non] := fun _ _ => rfl
  unfold F_Roll___add__ G_Roll___add__
  simp_arith [gF44, e0, gF51, ga, eFrz_ap, nMakeK_ap, gk, r1, frzR_o, rd]
/-! the leads of all pairs -/
theorem leads_one {os : Bal} (ho : okOpts os) {k j : Nat} (hk : k < os.length) (hj : j < os.length) (s4 : Sl) : ∃ s4', B__law_leads_right_1 [.v (.lst (os.map nD)), .v (.lst (os.map nD)), .v (.int (k : Int)), .v (.int (j : Int)), s4] = .nx [.v (.lst (os.map nD)), .v (.lst (os.map nD)), .v (.int (k : Int)), .v (.int (j : Int)), s4'] := by
  have at_ : ∀ k : Nat, k < os.length → gIx (.lst (os.map nD)) (.int (k : Int)) = .ok (nD (os.getD k [])) := fun k hk => gIx_map (inj := nD) (by omega) (by rw [Int.toNat_natCast, List.getD_eq_getElem?_getD, List.getElem?_eq_getElem hk]; rfl)
  have mem : ∀ k : Nat, k < os.length → os.getD k [] ∈ os := fun k hk => by
    rw [List.getD_eq_getElem?_getD, List.getElem?_eq_getElem hk]
    exact List.getElem_mem hk
  have ix : ∀ k : Nat, k < os.length → os.idxOf (os.getD k []) = k := fun k hk => by
    have m := mem k hk
    have hl := List.idxOf_lt_length_iff.mpr m
    exact nd_get ho.nd (i := os.idxOf (os.getD k [])) (j := k) (a := os.getD k []) (by rw [List.getElem?_eq_getElem hl, List.getElem_idxOf hl]) (by rw [List.getD_eq_getElem?_getD, List.getElem?_eq_getElem hk]; rfl)
  unfold B__law_leads_right_1
  by_cases z : j = k
  · subst z
    refine ⟨s4, ?_⟩
    simp_arith []
  · have gk := at_ k hk
    have gj := at_ j hj
    have l1 : F_lead [.lst (os.map nD), nD (os.getD k []), nD (os.getD j [])] = _ := lead_ok (z := false) (mem k hk) (mem j hj)
    have l2 : F_lead [.tpz (os.map nD), nD (os.getD j []), nD (os.getD k [])] = _ := lead_ok (z := true) (mem j hj) (mem k hk)
    unfold leadN at l1 l2
    rw [ix k hk, ix j hj] at l1 l2
    have gd : ∀ a b c : D, gDk [0, 1, 2] [] [] [a, b, c] = [a, b, c] := fun _ _ _ => rfl
    have same : ∀ i : Int, F__law_same [.int i, .int i] = .ok (.bl true) := fun i => samez_ok (samz_scal rfl)
    by_cases c : k < j
    · rw [if_neg (by omega)] at l1
      rw [if_pos c] at l2
      refine ⟨.v (.int 1), ?_⟩
      simp_arith [decide_eq_false (show ¬ (j : Int) = (k : Int) by omega), decide_eq_true (show (k : Int) < (j : Int) by omega), gk, gj, l1, same, gTupZ_lst, gd, l2, Int.sub_self]
    · rw [if_pos (by omega)] at l1
      rw [if_neg (by omega)] at l2
      refine ⟨.v (.int 0), ?_⟩
      simp_arith [decide_eq_false (show ¬ (j : Int) = (k : Int) by omega), decide_eq_false (show ¬ (k : Int) < (j : Int) by omega), gk, gj, l1, same, gTupZ_lst, gd, l2, Int.sub_zero]
def ldE (os : Bal) (k : Nat) (s3 s4 : Sl) : Ev := [.v (.lst (os.map nD)), .v (.lst (os.map nD)), .v (.int (k : Int)), s3, s4]
theorem leads_in {os : Bal} (ho : okOpts os) {k : Nat} (hk : k < os.length) (s3 s4 : Sl) : ∃ s3' s4', loop (gN 3) B__law_leads_right_1 (rgD 0 os.length) (ldE os k s3 s4) = .nx (ldE os k s3' s4') := by
  obtain ⟨ρ', e, s3', s4', rfl⟩ := loop_rg (h := gN 3) (body := B__law_leads_right_1) (lo := 0) (n := os.length) (ρ := ldE os k s3 s4)
    (fun _ ρ => ∃ s3 s4 : Sl, ρ = ldE os k s3 s4) ⟨s3, s4, rfl⟩ (by
      rintro j ρ hj ⟨s3, s4, rfl⟩
      refine ⟨ldE os k (.v (.int (j : Int))) s4, by rw [Int.zero_add]; rfl, ?_⟩
      obtain ⟨s4', st⟩ := leads_one ho hk hj s4
      have st : B__law_leads_right_1 (ldE os k (.v (.int (j : Int))) s4) = .nx (ldE os k (.v (.int (j : Int))) s4') := st
      rw [st]
      exact ⟨_, _, rfl⟩)
  exact ⟨s3', s4', e⟩
theorem leads_two {os : Bal} (ho : okOpts os) {k : Nat} (hk : k < os.length) (s3 s4 : Sl) : ∃ s3' s4', B__law_leads_right_2 [.v (.lst (os.map nD)), .v (.lst (os.map nD)), .v (.int (k : Int)), s3, s4] = .nx [.v (.lst (os.map nD)), .v (.lst (os.map nD)), .v (.int (k : Int)), s3', s4'] := by
  have few := ho.few
  have sm : small62 (os.length : Int) := small_rg (by omega) (by omega)
  obtain ⟨t3, t4, e⟩ := leads_in ho hk s3 s4
  refine ⟨t3, t4, ?_⟩
  unfold ldE at e
  unfold B__law_leads_right_2
  simp_arith [List.length_map, sm, Int.toNat_natCast, e]
theorem leads_ok {os : Bal} (ho : okOpts os) : F__law_leads_right [.lst (os.map nD)] = .ok (.bl true) := by
  have few := ho.few
  have sm : small62 (os.length : Int) := small_rg (by omega) (by omega)
  obtain ⟨ρ', e, s2, s3, s4, rfl⟩ := loop_rg (h := gN 2) (body := B__law_leads_right_2) (lo := 0) (n := os.length) (ρ := [.v (.lst (os.map nD)), .v (.lst (os.map nD)), .no, .no, .no])
    (fun _ ρ => ∃ s2 s3 s4 : Sl, ρ = [.v (.lst (os.map nD)), .v (.lst (os.map nD)), s2, s3, s4]) ⟨.no, .no, .no, rfl⟩ (by
      rintro k ρ hk ⟨s2, s3, s4, rfl⟩
      refine ⟨[.v (.lst (os.map nD)), .v (.lst (os.map nD)), .v (.int (k : Int)), s3, s4], by rw [Int.zero_add]; rfl, ?_⟩
      have st := leads_two ho hk s3 s4
      rw [st.choose_spec.choose_spec]
      exact ⟨_, _, _, rfl⟩)
  have eq := (gEq_clean (n := 1) (m := 1) (a := .lst (os.map nD)) (b := .lst (os.map nD)) (by decide) (by decide) (by
    show cleanL 0 (os.map nD) = true
    rw [cleanL_all]
    intro d m
    obtain ⟨w, mw, rfl⟩ := List.mem_map.mp m
    exact clean_w (ho.each w mw)) (by
    show cleanL 0 (os.map nD) = true
    rw [cleanL_all]
    intro d m
    obtain ⟨w, mw, rfl⟩ := List.mem_map.mp m
    exact clean_w (ho.each w mw))).1 rfl
  unfold F__law_leads_right G__law_leads_right
  simp_arith [List.length_map, sm, Int.toNat_natCast, e, eq]
end Tk

namespace Tk
open PySem PySem.Spec L2 PyProof.Rows
noncomputable section
def G_law : Ev → SO := sSq (sSet 1 (eCall 2 F__law_pool_k15 (aC (eCall 2 F__law_cell (aC (eV 0) (aC (eC (.int 0)) (aN)))) (aC (eC (.int 6)) (aN))))) (sSq (sSet 2 (eCall 3 F__law_names (aC (eV 1) (aC (eC (.int 0)) (aC (e2 gAdd (eC (.int 1)) (eCall 4 F__law_part (aC (eV 1) (aC (eC (.int 5)) (aC (eC (.int 1)) (aC (eC (.int 4)) (aN))))))) (aN)))))) (sSq (sSet 3 (eCall 2 F__law_pool_k15 (aC (eCall 2 F__law_cell (aC (eV 0) (aC (eC (.int 1)) (aN)))) (aC (eC (.int 36)) (aN))))) (sSq (sSet 4 (eCall 4 F__law_given (aC (eV 2) (aC (eV 1) (aC (eV 3) (aC (eCall 2 F__law_cell (aC (eV 0) (aC (eC (.int 2)) (aN)))) (aN))))))) (sSq (sSet 5 (eCall 4 F__law_ballots (aC (eV 3) (aC (eC (.int 24)) (aC (eV 2) (aC (eCall 4 F__law_part (aC (eV 1) (aC (eC (.int 5)) (aC (eC (.int 208)) (aC (eC (.int 7)) (aN)))))) (aN))))))) (sSq (sIf (tNot (tV (eCall 1 F__law_leads_right (aC (eV 2) (aN))))) (sRet (eC (.bl false))) (sN)) (sSq (sSet 6 (eFrz (nMakeK 52 2 0 4 F_Roll___init__ (gDk [0, 1, 3] [.tp0, .int 1000000000]) (aC (eA gList (aC (eV 2) (aN))) (aC (eA gList (aC (eV 4) (aN))) (aN))) (aN)))) (sSq (sSet 7 (eFrz (nMakeK 52 2 0 4 F_Roll___init__ (gDk [0, 1, 3] [.tp0, .int 1000000000]) (aC (eA gList (aC (eV 2) (aN))) (aC (eA gList (aC (eV 5) (aN))) (aN))) (aN)))) (sSq (sIf (tOr (tNot (tV (eCall 3 F__law_order_right (aC (eV 6) (aC (eV 2) (aC (eV 4) (aN))))))) (tNot (tV (eCall 3 F__law_order_right (aC (eV 7) (aC (eV 2) (aC (eV 5) (aN)))))))) (sRet (eC (.bl false))) (sN)) (sRet (eCall 3 F__law_order_right (aC (e2 (gDun2 52 F_Roll___add__) (eV 6) (eV 7)) (aC (eV 2) (aC (e2 gAdd (eV 4) (eV 5)) (aN))))))))))))))
def F_law : List D → R D := runF 8 G_law
end
end Tk

namespace Tk
open PySem PySem.Spec L2 PyProof.Rows
def top (i : Nat) : Stmt := PySem.Challenge.pw_turnsandkeys_k16_whole_order_by_leads.main.body.getD i (.Pass ⟨0, 0, 0, 0⟩)
abbrev s__law_part : Stmt := top 32
abbrev s__law_ballots : Stmt := top 35
abbrev s__law_cell : Stmt := top 29
abbrev s__law_big : Stmt := top 34
abbrev s__law_all_ballots : Stmt := top 39
abbrev s__law_each_ballot : Stmt := top 41
abbrev s__law_mixed : Stmt := top 30
abbrev s__law_pool : Stmt := top 31
abbrev s__law_turned_about : Stmt := top 40
abbrev s__law_given : Stmt := top 42
abbrev s__law_integer : Stmt := top 36
abbrev s__law_same : Stmt := top 37
abbrev s_lead : Stmt := top 27
abbrev s__law_leads_right : Stmt := top 43
abbrev s__law_names : Stmt := top 33
abbrev s__law_votes : Stmt := top 38
abbrev s__law_holds : Stmt := top 44
abbrev s_leaving : Stmt := top 4
abbrev s_remaining_after : Stmt := top 2
abbrev s_top : Stmt := top 1
abbrev s_Roll___iter__ : Stmt := clMeth (top 25) 3
abbrev s_votes_among : Stmt := top 3
abbrev s_Count___init__ : Stmt := clMeth (top 5) 0
abbrev s_count : Stmt := top 6
abbrev s__law_order_right : Stmt := top 45
abbrev s_check_ballot : Stmt := top 23
abbrev s_is_name : Stmt := top 18
abbrev s_checked_names : Stmt := top 19
abbrev s_ordered_rows : Stmt := top 24
abbrev s_Roll___init__ : Stmt := clMeth (top 25) 0
abbrev s_Roll___add__ : Stmt := clMeth (top 25) 6
abbrev s_law : Stmt := top 46
def df__law_part : He.DefD := dfD ("_law_part", none) "_law_part" "_law_part" s__law_part [] []
def df__law_ballots : He.DefD := dfD ("_law_ballots", none) "_law_ballots" "_law_ballots" s__law_ballots [] []
def df__law_cell : He.DefD := dfD ("_law_cell", none) "_law_cell" "_law_cell" s__law_cell [] []
def df__law_big : He.DefD := dfD ("_law_big", none) "_law_big" "_law_big" s__law_big [] []
def df__law_all_ballots : He.DefD := dfD ("_law_all_ballots", none) "_law_all_ballots" "_law_all_ballots" s__law_all_ballots [] []
def df__law_each_ballot : He.DefD := dfD ("_law_each_ballot", none) "_law_each_ballot" "_law_each_ballot" s__law_each_ballot [] []
def df__law_mixed : He.DefD := dfD ("_law_mixed", none) "_law_mixed" "_law_mixed" s__law_mixed [] []
def df__law_pool : He.DefD := dfD ("_law_pool", none) "_law_pool" "_law_pool" s__law_pool [] []
def df__law_turned_about : He.DefD := dfD ("_law_turned_about", none) "_law_turned_about" "_law_turned_about" s__law_turned_about [] []
def df__law_given : He.DefD := dfD ("_law_given", none) "_law_given" "_law_given" s__law_given [] []
def df__law_integer : He.DefD := dfD ("_law_integer", none) "_law_integer" "_law_integer" s__law_integer [] []
def df__law_same : He.DefD := dfD ("_law_same", none) "_law_same" "_law_same" s__law_same [] []
def df_lead : He.DefD := dfD ("lead", none) "lead" "lead" s_lead [] []
def df__law_leads_right : He.DefD := dfD ("_law_leads_right", none) "_law_leads_right" "_law_leads_right" s__law_leads_right [] []
def df__law_names : He.DefD := dfD ("_law_names", none) "_law_names" "_law_names" s__law_names [] []
def df__law_votes : He.DefD := dfD ("_law_votes", none) "_law_votes" "_law_votes" s__law_votes [] []
def df__law_holds : He.DefD := dfD ("_law_holds", none) "_law_holds" "_law_holds" s__law_holds [] []
def df_leaving : He.DefD := dfD ("leaving", none) "leaving" "leaving" s_leaving [] []
def df_remaining_after : He.DefD := dfD ("remaining_after", none) "remaining_after" "remaining_after" s_remaining_after [] []
def df_top : He.DefD := dfD ("top", none) "top" "top" s_top [] []
def df_Roll___iter__ : He.DefD := dfD ("Roll", some "__iter__") "__iter__" "Roll.__iter__" s_Roll___iter__ [] []
def df_votes_among : He.DefD := dfD ("votes_among", none) "votes_among" "votes_among" s_votes_among [] []
def df_Count___init__ : He.DefD := dfD ("Count", some "__init__") "__init__" "Count.__init__" s_Count___init__ [] []
def df_count : He.DefD := dfD ("count", none) "count" "count" s_count [] []
def df__law_order_right : He.DefD := dfD ("_law_order_right", none) "_law_order_right" "_law_order_right" s__law_order_right [] []
def df_check_ballot : He.DefD := dfD ("check_ballot", none) "check_ballot" "check_ballot" s_check_ballot [] []
def df_is_name : He.DefD := dfD ("is_name", none) "is_name" "is_name" s_is_name [] []
def df_checked_names : He.DefD := dfD ("checked_names", none) "checked_names" "checked_names" s_checked_names [] [("hook", .bl false)]
def df_ordered_rows : He.DefD := dfD ("ordered_rows", none) "ordered_rows" "ordered_rows" s_ordered_rows [] []
def df_Roll___init__ : He.DefD := dfDI "Roll" "Roll.__init__" s_Roll___init__ [.tp0] [("largest", .int 1000000000)]
def df_Roll___add__ : He.DefD := dfD ("Roll", some "__add__") "__add__" "Roll.__add__" s_Roll___add__ [] []
def df_law : He.DefD := dfD ("law", none) "law" "law" s_law [] []
def fa : List He.Fa := faB ++ [.int "MOST_LETTERS" (8), .str "LETTERS" "abcdefghijklmnopqrstuvwxyz", .int "MOST_OPTIONS" (4), .glo "_law_part", .glo "_law_ballots", .glo "_law_cell", .glo "_law_big", .glo "_law_all_ballots", .glo "_law_each_ballot", .glo "_law_mixed", .glo "_law_pool", .glo "_law_turned_about", .glo "_law_given", .glo "_law_integer", .glo "_law_same", .glo "lead", .glo "_law_leads_right", .glo "_law_names", .glo "_law_votes", .glo "_law_holds", .glo "leaving", .glo "remaining_after", .glo "top", .glo "votes_among", .glo "count", .glo "_law_order_right", .glo "check_ballot", .glo "is_name", .glo "checked_names", .glo "ordered_rows", .glo "law", .glo "Roll", .cls "Roll", .mkr "Roll", .glo "Count", .cls "Count", .mkr "Count", .free "iter", .meth "Roll" "__iter__", .meth "Roll" "__add__", .noat "Roll" "_rows", .noat "Roll" "total", .noat "Roll" "options", .noat "Count" "table", .noat "Count" "order", .noat "Count" "winner"]
def fn : List He.DefD := [df__law_part, df__law_ballots, df__law_cell, df__law_big, df__law_all_ballots, df__law_each_ballot, df__law_mixed, df__law_pool, df__law_turned_about, df__law_given, df__law_integer, df__law_same, df_lead, df__law_leads_right, df__law_names, df__law_votes, df__law_holds, df_leaving, df_remaining_after, df_top, df_Roll___iter__, df_votes_among, df_Count___init__, df_count, df__law_order_right, df_check_ballot, df_is_name, df_checked_names, df_ordered_rows, df_Roll___init__, df_Roll___add__, df_law]
def exL (K : PySem.W.Frag) : Bool := [PySem.W.selfFirst K (He.ga K "Roll"), tp0B K (He.dflAt ("Roll", some "__init__") 0 K)].all fun b => b
section
variable {P : Program} {w : World} {K : PySem.W.Frag} {mg : Str → Option Value} {base : Heap}
theorem fn__rows : ∀ k, (cnL K).n k = (cnL K).n 51 → k = 51 := nm_inj (f := 51) fld_nd (by decide +kernel) fld_ne
theorem ff_Roll__rows (T : SaysU fa fn exL K mg) : ∀ c ∈ [52], ∀ C, (cnL K).a c = some C → Cls K C ∧ NoAttr K C "_rows" := fun c m C e => by
  cases List.mem_singleton.mp m
  exact T.fld 50 58 (Option.some.inj e)
theorem fa__rows (T : SaysU fa fn exL K mg) : ∀ c ∈ [52], ∀ C, (cnL K).a c = some C → Cls K C ∧ NoAttr K C "_rows" := fun c m C e => by
  simp only [List.mem_cons, List.not_mem_nil, or_false] at m
  rcases m with rfl
  · exact ff_Roll__rows T _ (by decide) C e
theorem fn_total : ∀ k, (cnL K).n k = (cnL K).n 4 → k = 4 := nm_inj (f := 4) fld_nd (by decide +kernel) fld_ne
theorem ff_Roll_total (T : SaysU fa fn exL K mg) : ∀ c ∈ [52], ∀ C, (cnL K).a c = some C → Cls K C ∧ NoAttr K C "total" := fun c m C e => by
  cases List.mem_singleton.mp m
  exact T.fld 50 59 (Option.some.inj e)
theorem fa_total (T : SaysU fa fn exL K mg) : ∀ c ∈ [52], ∀ C, (cnL K).a c = some C → Cls K C ∧ NoAttr K C "total" := fun c m C e => by
  simp only [List.mem_cons, List.not_mem_nil, or_false] at m
  rcases m with rfl
  · exact ff_Roll_total T _ (by decide) C e
theorem fn_options : ∀ k, (cnL K).n k = (cnL K).n 44 → k = 44 := nm_inj (f := 44) fld_nd (by decide +kernel) fld_ne
theorem ff_Roll_options (T : SaysU fa fn exL K mg) : ∀ c ∈ [52], ∀ C, (cnL K).a c = some C → Cls K C ∧ NoAttr K C "options" := fun c m C e => by
  cases List.mem_singleton.mp m
  exact T.fld 50 60 (Option.some.inj e)
theorem fa_options (T : SaysU fa fn exL K mg) : ∀ c ∈ [52], ∀ C, (cnL K).a c = some C → Cls K C ∧ NoAttr K C "options" := fun c m C e => by
  simp only [List.mem_cons, List.not_mem_nil, or_false] at m
  rcases m with rfl
  · exact ff_Roll_options T _ (by decide) C e
theorem fn_table : ∀ k, (cnL K).n k = (cnL K).n 6 → k = 6 := nm_inj (f := 6) fld_nd (by decide +kernel) fld_ne
theorem ff_Count_table (T : SaysU fa fn exL K mg) : ∀ c ∈ [2], ∀ C, (cnL K).a c = some C → Cls K C ∧ NoAttr K C "table" := fun c m C e => by
  cases List.mem_singleton.mp m
  exact T.fld 53 61 (Option.some.inj e)
theorem fa_table (T : SaysU fa fn exL K mg) : ∀ c ∈ [2], ∀ C, (cnL K).a c = some C → Cls K C ∧ NoAttr K C "table" := fun c m C e => by
  simp only [List.mem_cons, List.not_mem_nil, or_false] at m
  rcases m with rfl
  · exact ff_Count_table T _ (by decide) C e
theorem fn_order : ∀ k, (cnL K).n k = (cnL K).n 7 → k = 7 := nm_inj (f := 7) fld_nd (by decide +kernel) fld_ne
theorem ff_Count_order (T : SaysU fa fn exL K mg) : ∀ c ∈ [2], ∀ C, (cnL K).a c = some C → Cls K C ∧ NoAttr K C "order" := fun c m C e => by
  cases List.mem_singleton.mp m
  exact T.fld 53 62 (Option.some.inj e)
theorem fa_order (T : SaysU fa fn exL K mg) : ∀ c ∈ [2], ∀ C, (cnL K).a c = some C → Cls K C ∧ NoAttr K C "order" := fun c m C e => by
  simp only [List.mem_cons, List.not_mem_nil, or_false] at m
  rcases m with rfl
  · exact ff_Count_order T _ (by decide) C e
theorem fn_winner : ∀ k, (cnL K).n k = (cnL K).n 8 → k = 8 := nm_inj (f := 8) fld_nd (by decide +kernel) fld_ne
theorem ff_Count_winner (T : SaysU fa fn exL K mg) : ∀ c ∈ [2], ∀ C, (cnL K).a c = some C → Cls K C ∧ NoAttr K C "winner" := fun c m C e => by
  cases List.mem_singleton.mp m
  exact T.fld 53 63 (Option.some.inj e)
theorem fa_winner (T : SaysU fa fn exL K mg) : ∀ c ∈ [2], ∀ C, (cnL K).a c = some C → Cls K C ∧ NoAttr K C "winner" := fun c m C e => by
  simp only [List.mem_cons, List.not_mem_nil, or_false] at m
  rcases m with rfl
  · exact ff_Count_winner T _ (by decide) C e
theorem mn___add__ : ∀ k, k < nF → nmOf fldL k ≠ "__add__" := fun k _ => nm_ne (by decide +kernel) (by decide +kernel) k
theorem sf_Roll (T : SaysU fa fn exL K mg) : ∀ C, (cnL K).a 52 = some C → PySem.W.selfFirst K C = true := fun C e => by
  cases e
  exact List.all_eq_true.mp T.u _ (by simp)
abbrev N__law_part : List Str := ["pool", "spot", "under", "size"]
theorem sc__law_part : FnScope N__law_part ["pool", "spot", "under", "size"] (defScope s__law_part) := ⟨rfl, rfl, rfl, by decide +kernel, rfl, by decide +kernel, by decide +kernel⟩
theorem b__law_part {K : PySem.W.Frag} {f : Addr} {fd : FuncData} (F : FD K "_law_part" "_law_part" s__law_part [] [] f fd) : Binds K fd ["pool", "spot", "under", "size"] [] := FunD.bindsN (ps := ["pool", "spot", "under", "size"]) F fun _ _ _ _ _ _ us hl => match us, hl with | [_a0, _a1, _a2, _a3], _ => rfl
abbrev N__law_ballots : List Str := ["pool", "spot", "slate", "number", "rows", "k", "left", "ballot", "j", "times"]
theorem sc__law_ballots : FnScope N__law_ballots ["pool", "spot", "slate", "number"] (defScope s__law_ballots) := ⟨rfl, rfl, rfl, by decide +kernel, rfl, by decide +kernel, by decide +kernel⟩
theorem b__law_ballots {K : PySem.W.Frag} {f : Addr} {fd : FuncData} (F : FD K "_law_ballots" "_law_ballots" s__law_ballots [] [] f fd) : Binds K fd ["pool", "spot", "slate", "number"] [] := FunD.bindsN (ps := ["pool", "spot", "slate", "number"]) F fun _ _ _ _ _ _ us hl => match us, hl with | [_a0, _a1, _a2, _a3], _ => rfl
abbrev N__law_cell : List Str := ["script", "k", "far", "j"]
theorem sc__law_cell : FnScope N__law_cell ["script", "k"] (defScope s__law_cell) := ⟨rfl, rfl, rfl, by decide +kernel, rfl, by decide +kernel, by decide +kernel⟩
theorem b__law_cell {K : PySem.W.Frag} {f : Addr} {fd : FuncData} (F : FD K "_law_cell" "_law_cell" s__law_cell [] [] f fd) : Binds K fd ["script", "k"] [] := FunD.bindsN (ps := ["script", "k"]) F fun _ _ _ _ _ _ us hl => match us, hl with | [_a0, _a1], _ => rfl
abbrev N__law_big : List Str := ["pool", "spot", "least", "crest", "far"]
theorem sc__law_big : FnScope N__law_big ["pool", "spot", "least", "crest"] (defScope s__law_big) := ⟨rfl, rfl, rfl, by decide +kernel, rfl, by decide +kernel, by decide +kernel⟩
theorem b__law_big {K : PySem.W.Frag} {f : Addr} {fd : FuncData} (F : FD K "_law_big" "_law_big" s__law_big [] [] f fd) : Binds K fd ["pool", "spot", "least", "crest"] [] := FunD.bindsN (ps := ["pool", "spot", "least", "crest"]) F fun _ _ _ _ _ _ us hl => match us, hl with | [_a0, _a1, _a2, _a3], _ => rfl
abbrev N__law_all_ballots : List Str := ["choices", "ballots", "size", "longer", "ballot", "choice"]
theorem sc__law_all_ballots : FnScope N__law_all_ballots ["choices"] (defScope s__law_all_ballots) := ⟨rfl, rfl, rfl, by decide +kernel, rfl, by decide +kernel, by decide +kernel⟩
theorem b__law_all_ballots {K : PySem.W.Frag} {f : Addr} {fd : FuncData} (F : FD K "_law_all_ballots" "_law_all_ballots" s__law_all_ballots [] [] f fd) : Binds K fd ["choices"] [] := FunD.bindsN (ps := ["choices"]) F fun _ _ _ _ _ _ us hl => match us, hl with | [_a0], _ => rfl
abbrev N__law_each_ballot : List Str := ["choices", "draws", "crest", "ballots", "k"]
theorem sc__law_each_ballot : FnScope N__law_each_ballot ["choices", "draws"] (defScope s__law_each_ballot) := ⟨rfl, rfl, rfl, by decide +kernel, rfl, by decide +kernel, by decide +kernel⟩
theorem b__law_each_ballot {K : PySem.W.Frag} {f : Addr} {fd : FuncData} (F : FD K "_law_each_ballot" "_law_each_ballot" s__law_each_ballot [] [] f fd) : Binds K fd ["choices", "draws"] [] := FunD.bindsN (ps := ["choices", "draws"]) F fun _ _ _ _ _ _ us hl => match us, hl with | [_a0, _a1], _ => rfl
abbrev N__law_mixed : List Str := ["cell", "k", "x"]
theorem sc__law_mixed : FnScope N__law_mixed ["cell", "k"] (defScope s__law_mixed) := ⟨rfl, rfl, rfl, by decide +kernel, rfl, by decide +kernel, by decide +kernel⟩
theorem b__law_mixed {K : PySem.W.Frag} {f : Addr} {fd : FuncData} (F : FD K "_law_mixed" "_law_mixed" s__law_mixed [] [] f fd) : Binds K fd ["cell", "k"] [] := FunD.bindsN (ps := ["cell", "k"]) F fun _ _ _ _ _ _ us hl => match us, hl with | [_a0, _a1], _ => rfl
abbrev N__law_pool : List Str := ["cell", "number", "rest", "deep", "pool", "k"]
theorem sc__law_pool : FnScope N__law_pool ["cell", "number"] (defScope s__law_pool) := ⟨rfl, rfl, rfl, by decide +kernel, rfl, by decide +kernel, by decide +kernel⟩
theorem b__law_pool {K : PySem.W.Frag} {f : Addr} {fd : FuncData} (F : FD K "_law_pool" "_law_pool" s__law_pool [] [] f fd) : Binds K fd ["cell", "number"] [] := FunD.bindsN (ps := ["cell", "number"]) F fun _ _ _ _ _ _ us hl => match us, hl with | [_a0, _a1], _ => rfl
abbrev N__law_turned_about : List Str := ["choices", "given", "rows", "step", "ballot", "times", "choice"]
theorem sc__law_turned_about : FnScope N__law_turned_about ["choices", "given"] (defScope s__law_turned_about) := ⟨rfl, rfl, rfl, by decide +kernel, rfl, by decide +kernel, by decide +kernel⟩
theorem b__law_turned_about {K : PySem.W.Frag} {f : Addr} {fd : FuncData} (F : FD K "_law_turned_about" "_law_turned_about" s__law_turned_about [] [] f fd) : Binds K fd ["choices", "given"] [] := FunD.bindsN (ps := ["choices", "given"]) F fun _ _ _ _ _ _ us hl => match us, hl with | [_a0, _a1], _ => rfl
abbrev N__law_given : List Str := ["choices", "head", "pool", "cell", "given", "way", "far", "ballot", "times", "k"]
theorem sc__law_given : FnScope N__law_given ["choices", "head", "pool", "cell"] (defScope s__law_given) := ⟨rfl, rfl, rfl, by decide +kernel, rfl, by decide +kernel, by decide +kernel⟩
theorem b__law_given {K : PySem.W.Frag} {f : Addr} {fd : FuncData} (F : FD K "_law_given" "_law_given" s__law_given [] [] f fd) : Binds K fd ["choices", "head", "pool", "cell"] [] := FunD.bindsN (ps := ["choices", "head", "pool", "cell"]) F fun _ _ _ _ _ _ us hl => match us, hl with | [_a0, _a1, _a2, _a3], _ => rfl
abbrev N__law_integer : List Str := ["got"]
theorem sc__law_integer : FnScope N__law_integer ["got"] (defScope s__law_integer) := ⟨rfl, rfl, rfl, by decide +kernel, rfl, by decide +kernel, by decide +kernel⟩
theorem b__law_integer {K : PySem.W.Frag} {f : Addr} {fd : FuncData} (F : FD K "_law_integer" "_law_integer" s__law_integer [] [] f fd) : Binds K fd ["got"] [] := FunD.bindsN (ps := ["got"]) F fun _ _ _ _ _ _ us hl => match us, hl with | [_a0], _ => rfl
abbrev N__law_same : List Str := ["got", "wanted", "k"]
theorem sc__law_same : FnScope N__law_same ["got", "wanted"] (defScope s__law_same) := ⟨rfl, rfl, rfl, by decide +kernel, rfl, by decide +kernel, by decide +kernel⟩
theorem b__law_same {K : PySem.W.Frag} {f : Addr} {fd : FuncData} (F : FD K "_law_same" "_law_same" s__law_same [] [] f fd) : Binds K fd ["got", "wanted"] [] := FunD.bindsN (ps := ["got", "wanted"]) F fun _ _ _ _ _ _ us hl => match us, hl with | [_a0, _a1], _ => rfl
abbrev N_lead : List Str := ["options", "leaver", "other"]
theorem sc_lead : FnScope N_lead ["options", "leaver", "other"] (defScope s_lead) := ⟨rfl, rfl, rfl, by decide +kernel, rfl, by decide +kernel, by decide +kernel⟩
theorem kb_lead_0_options_leaver_other {K : PySem.W.Frag} {ca : Cn} {f : Addr} {fd : FuncData} (F : FD K "lead" "lead" s_lead [] [] f fd) : KB K ca fd ["options", "leaver", "other"] 0 ["options", "leaver", "other"] (gDk [0, 1, 2] []) := kb_n (kd := []) F 0 ["options", "leaver", "other"] [0, 1, 2] fun _ _ _ _ _ _ us ws l1 l2 => match us, l1, ws, l2 with | [], _, [_w0, _w1, _w2], _ => rfl
theorem b_lead {K : PySem.W.Frag} {f : Addr} {fd : FuncData} (F : FD K "lead" "lead" s_lead [] [] f fd) : Binds K fd ["options", "leaver", "other"] [] := FunD.bindsN (ps := ["options", "leaver", "other"]) F fun _ _ _ _ _ _ us hl => match us, hl with | [_a0, _a1, _a2], _ => rfl
abbrev N__law_leads_right : List Str := ["choices", "passed", "k", "j", "wanted"]
theorem sc__law_leads_right : FnScope N__law_leads_right ["choices"] (defScope s__law_leads_right) := ⟨rfl, rfl, rfl, by decide +kernel, rfl, by decide +kernel, by decide +kernel⟩
theorem b__law_leads_right {K : PySem.W.Frag} {f : Addr} {fd : FuncData} (F : FD K "_law_leads_right" "_law_leads_right" s__law_leads_right [] [] f fd) : Binds K fd ["choices"] [] := FunD.bindsN (ps := ["choices"]) F fun _ _ _ _ _ _ us hl => match us, hl with | [_a0], _ => rfl
abbrev N__law_names : List Str := ["pool", "spot", "number", "letters", "stem", "k", "turn", "cut", "first", "short", "tail", "names", "mark"]
theorem sc__law_names : FnScope N__law_names ["pool", "spot", "number"] (defScope s__law_names) := ⟨rfl, rfl, rfl, by decide +kernel, rfl, by decide +kernel, by decide +kernel⟩
theorem b__law_names {K : PySem.W.Frag} {f : Addr} {fd : FuncData} (F : FD K "_law_names" "_law_names" s__law_names [] [] f fd) : Binds K fd ["pool", "spot", "number"] [] := FunD.bindsN (ps := ["pool", "spot", "number"]) F fun _ _ _ _ _ _ us hl => match us, hl with | [_a0, _a1, _a2], _ => rfl
abbrev N__law_votes : List Str := ["rows", "slate", "left", "votes", "ballot", "times", "tops", "option"]
theorem sc__law_votes : FnScope N__law_votes ["rows", "slate", "left"] (defScope s__law_votes) := ⟨rfl, rfl, rfl, by decide +kernel, rfl, by decide +kernel, by decide +kernel⟩
theorem b__law_votes {K : PySem.W.Frag} {f : Addr} {fd : FuncData} (F : FD K "_law_votes" "_law_votes" s__law_votes [] [] f fd) : Binds K fd ["rows", "slate", "left"] [] := FunD.bindsN (ps := ["rows", "slate", "left"]) F fun _ _ _ _ _ _ us hl => match us, hl with | [_a0, _a1, _a2], _ => rfl
abbrev N__law_holds : List Str := ["choices", "given", "order", "left", "goer", "votes", "rival", "need", "choice"]
theorem sc__law_holds : FnScope N__law_holds ["choices", "given", "order"] (defScope s__law_holds) := ⟨rfl, rfl, rfl, by decide +kernel, rfl, by decide +kernel, by decide +kernel⟩
theorem b__law_holds {K : PySem.W.Frag} {f : Addr} {fd : FuncData} (F : FD K "_law_holds" "_law_holds" s__law_holds [] [] f fd) : Binds K fd ["choices", "given", "order"] [] := FunD.bindsN (ps := ["choices", "given", "order"]) F fun _ _ _ _ _ _ us hl => match us, hl with | [_a0, _a1, _a2], _ => rfl
abbrev N_leaving : List Str := ["remaining", "votes", "fewest", "option", "own"]
theorem sc_leaving : FnScope N_leaving ["remaining", "votes"] (defScope s_leaving) := ⟨rfl, rfl, rfl, by decide +kernel, rfl, by decide +kernel, by decide +kernel⟩
theorem b_leaving {K : PySem.W.Frag} {f : Addr} {fd : FuncData} (F : FD K "leaving" "leaving" s_leaving [] [] f fd) : Binds K fd ["remaining", "votes"] [] := FunD.bindsN (ps := ["remaining", "votes"]) F fun _ _ _ _ _ _ us hl => match us, hl with | [_a0, _a1], _ => rfl
abbrev N_remaining_after : List Str := ["options", "gone", "option"]
theorem sc_remaining_after : FnScope N_remaining_after ["options", "gone"] (defScope s_remaining_after) := ⟨rfl, rfl, rfl, by decide +kernel, rfl, by decide +kernel, by decide +kernel⟩
theorem b_remaining_after {K : PySem.W.Frag} {f : Addr} {fd : FuncData} (F : FD K "remaining_after" "remaining_after" s_remaining_after [] [] f fd) : Binds K fd ["options", "gone"] [] := FunD.bindsN (ps := ["options", "gone"]) F fun _ _ _ _ _ _ us hl => match us, hl with | [_a0, _a1], _ => rfl
abbrev N_top : List Str := ["ballot", "remaining", "option"]
theorem sc_top : FnScope N_top ["ballot", "remaining"] (defScope s_top) := ⟨rfl, rfl, rfl, by decide +kernel, rfl, by decide +kernel, by decide +kernel⟩
theorem b_top {K : PySem.W.Frag} {f : Addr} {fd : FuncData} (F : FD K "top" "top" s_top [] [] f fd) : Binds K fd ["ballot", "remaining"] [] := FunD.bindsN (ps := ["ballot", "remaining"]) F fun _ _ _ _ _ _ us hl => match us, hl with | [_a0, _a1], _ => rfl
abbrev N_Roll___iter__ : List Str := ["self"]
theorem sc_Roll___iter__ : FnScope N_Roll___iter__ ["self"] (defScope s_Roll___iter__) := ⟨rfl, rfl, rfl, by decide +kernel, rfl, by decide +kernel, by decide +kernel⟩
theorem b_Roll___iter__ {K : PySem.W.Frag} {f : Addr} {fd : FuncData} (F : FD K "__iter__" "Roll.__iter__" s_Roll___iter__ [] [] f fd) : Binds K fd ["self"] [] := FunD.bindsN (ps := ["self"]) F fun _ _ _ _ _ _ us hl => match us, hl with | [_a0], _ => rfl
abbrev N_votes_among : List Str := ["roll", "remaining", "tops", "votes", "ballot", "many", "option", "own"]
theorem sc_votes_among : FnScope N_votes_among ["roll", "remaining"] (defScope s_votes_among) := ⟨rfl, rfl, rfl, by decide +kernel, rfl, by decide +kernel, by decide +kernel⟩
theorem b_votes_among {K : PySem.W.Frag} {f : Addr} {fd : FuncData} (F : FD K "votes_among" "votes_among" s_votes_among [] [] f fd) : Binds K fd ["roll", "remaining"] [] := FunD.bindsN (ps := ["roll", "remaining"]) F fun _ _ _ _ _ _ us hl => match us, hl with | [_a0, _a1], _ => rfl
abbrev N_Count___init__ : List Str := ["self", "table", "remaining", "votes", "spent", "leaver"]
theorem sc_Count___init__ : FnScope N_Count___init__ ["self", "table"] (defScope s_Count___init__) := ⟨rfl, rfl, rfl, by decide +kernel, rfl, by decide +kernel, by decide +kernel⟩
theorem b_Count___init__ {K : PySem.W.Frag} {f : Addr} {fd : FuncData} (F : FDI K "Count.__init__" s_Count___init__ [] [] f fd) : Binds K fd ["self", "table"] [] := FunD.bindsN (ps := ["self", "table"]) F.fd fun _ _ _ _ _ _ us hl => match us, hl with | [_a0, _a1], _ => rfl
abbrev N_count : List Str := ["roll", "table", "gone", "_", "remaining", "votes", "spent", "leaver"]
theorem sc_count : FnScope N_count ["roll"] (defScope s_count) := ⟨rfl, rfl, rfl, by decide +kernel, rfl, by decide +kernel, by decide +kernel⟩
theorem b_count {K : PySem.W.Frag} {f : Addr} {fd : FuncData} (F : FD K "count" "count" s_count [] [] f fd) : Binds K fd ["roll"] [] := FunD.bindsN (ps := ["roll"]) F fun _ _ _ _ _ _ us hl => match us, hl with | [_a0], _ => rfl
abbrev N__law_order_right : List Str := ["roll", "choices", "given", "told", "choice", "order"]
theorem sc__law_order_right : FnScope N__law_order_right ["roll", "choices", "given"] (defScope s__law_order_right) := ⟨rfl, rfl, rfl, by decide +kernel, rfl, by decide +kernel, by decide +kernel⟩
theorem b__law_order_right {K : PySem.W.Frag} {f : Addr} {fd : FuncData} (F : FD K "_law_order_right" "_law_order_right" s__law_order_right [] [] f fd) : Binds K fd ["roll", "choices", "given"] [] := FunD.bindsN (ps := ["roll", "choices", "given"]) F fun _ _ _ _ _ _ us hl => match us, hl with | [_a0, _a1, _a2], _ => rfl
abbrev N_check_ballot : List Str := ["options", "ballot", "at", "item"]
theorem sc_check_ballot : FnScope N_check_ballot ["options", "ballot"] (defScope s_check_ballot) := ⟨rfl, rfl, rfl, by decide +kernel, rfl, by decide +kernel, by decide +kernel⟩
theorem b_check_ballot {K : PySem.W.Frag} {f : Addr} {fd : FuncData} (F : FD K "check_ballot" "check_ballot" s_check_ballot [] [] f fd) : Binds K fd ["options", "ballot"] [] := FunD.bindsN (ps := ["options", "ballot"]) F fun _ _ _ _ _ _ us hl => match us, hl with | [_a0, _a1], _ => rfl
abbrev N_is_name : List Str := ["word", "letter"]
theorem sc_is_name : FnScope N_is_name ["word"] (defScope s_is_name) := ⟨rfl, rfl, rfl, by decide +kernel, rfl, by decide +kernel, by decide +kernel⟩
theorem b_is_name {K : PySem.W.Frag} {f : Addr} {fd : FuncData} (F : FD K "is_name" "is_name" s_is_name [] [] f fd) : Binds K fd ["word"] [] := FunD.bindsN (ps := ["word"]) F fun _ _ _ _ _ _ us hl => match us, hl with | [_a0], _ => rfl
abbrev N_checked_names : List Str := ["names", "most", "hook", "at", "name"]
theorem sc_checked_names : FnScope N_checked_names ["names", "most", "hook"] (defScope s_checked_names) := ⟨rfl, rfl, rfl, by decide +kernel, rfl, by decide +kernel, by decide +kernel⟩
theorem kb_checked_names_2 {K : PySem.W.Frag} {ca : Cn} {f : Addr} {fd : FuncData} (F : FD K "checked_names" "checked_names" s_checked_names [] [("hook", .bl false)] f fd) : KB K ca fd ["names", "most", "hook"] 2 [] (gDk [0, 1, 2] [.bl false]) := kb_k (kd := [("hook", .bl false)]) F 2 [] [0, 1, 2] [("hook", .bl false)] (by simp) (by decide +kernel) rfl fun _ _ _ _ _ _ us mv ws l1 l2 l3 => match us, l1, mv, l2, ws, l3 with | [_a0, _a1], _, [_m0], _, [], _ => ⟨_, _, _, _, _, _, rfl, rfl, rfl⟩
abbrev N_ordered_rows : List Str := ["options", "counts", "places", "rows", "ballots", "place", "option", "ballot", "row"]
theorem sc_ordered_rows : FnScope N_ordered_rows ["options", "counts"] (defScope s_ordered_rows) := ⟨rfl, rfl, rfl, by decide +kernel, rfl, by decide +kernel, by decide +kernel⟩
theorem b_ordered_rows {K : PySem.W.Frag} {f : Addr} {fd : FuncData} (F : FD K "ordered_rows" "ordered_rows" s_ordered_rows [] [] f fd) : Binds K fd ["options", "counts"] [] := FunD.bindsN (ps := ["options", "counts"]) F fun _ _ _ _ _ _ us hl => match us, hl with | [_a0, _a1], _ => rfl
abbrev N_Roll___init__ : List Str := ["self", "options", "rows", "largest", "counts", "ballot", "many"]
theorem sc_Roll___init__ : FnScope N_Roll___init__ ["self", "options", "rows", "largest"] (defScope s_Roll___init__) := ⟨rfl, rfl, rfl, by decide +kernel, rfl, by decide +kernel, by decide +kernel⟩
theorem kb_Roll___init___2 {K : PySem.W.Frag} {ca : Cn} {f : Addr} {fd : FuncData} (F : FDI K "Roll.__init__" s_Roll___init__ [.tp0] [("largest", .int 1000000000)] f fd) : KBI K ca fd ["self", "options", "rows", "largest"] 2 [] (gDk [0, 1, 3] [.tp0, .int 1000000000]) := kbi_dkD (dd := [.tp0]) (kd := [("largest", .int 1000000000)]) F 2 [] [1, 2, 4] [("largest", .int 1000000000)] (by decide) (by simp) (by simp) (by decide +kernel) rfl fun _ _ _ _ _ _ _ us its mv ws l1 l2 l3 l4 => match us, l1, its, l2, mv, l3, ws, l4 with | [_a0, _a1, _a2], _, [_i0], _, [_m0], _, [], _ => ⟨_, rfl, ⟨_, _, _, _, _, _, rfl, rfl, rfl⟩⟩
theorem kb_Roll___init___2_largest {K : PySem.W.Frag} {ca : Cn} {f : Addr} {fd : FuncData} (F : FDI K "Roll.__init__" s_Roll___init__ [.tp0] [("largest", .int 1000000000)] f fd) : KBI K ca fd ["self", "options", "rows", "largest"] 2 ["largest"] (gDk [0, 1, 3] [.tp0]) := kbi_dD (dd := [.tp0]) (kd := [("largest", .int 1000000000)]) F 2 ["largest"] [1, 2, 4] (by decide) (by simp) fun _ _ _ _ _ _ _ us its ws l1 l2 l3 => match us, l1, its, l2, ws, l3 with | [_a0, _a1, _a2], _, [_i0], _, [_w0], _ => ⟨_, rfl, rfl⟩
abbrev N_Roll___add__ : List Str := ["self", "other"]
theorem sc_Roll___add__ : FnScope N_Roll___add__ ["self", "other"] (defScope s_Roll___add__) := ⟨rfl, rfl, rfl, by decide +kernel, rfl, by decide +kernel, by decide +kernel⟩
theorem b_Roll___add__ {K : PySem.W.Frag} {f : Addr} {fd : FuncData} (F : FD K "__add__" "Roll.__add__" s_Roll___add__ [] [] f fd) : Binds K fd ["self", "other"] [] := FunD.bindsN (ps := ["self", "other"]) F fun _ _ _ _ _ _ us hl => match us, hl with | [_a0, _a1], _ => rfl
abbrev N_law : List Str := ["script", "head", "choices", "pool", "given", "others", "roll", "rival"]
theorem sc_law : FnScope N_law ["script"] (defScope s_law) := ⟨rfl, rfl, rfl, by decide +kernel, rfl, by decide +kernel, by decide +kernel⟩
theorem d__law_part (T : SaysU fa fn exL K mg) : DefA P w K mg base (cnL K) 1 "_law_part" s__law_part [] [] ["pool", "spot", "under", "size"] F__law_part :=
  DefA.of (N := N__law_part) (g := G__law_part) (T.dfn (dd := []) (kd := []) 21 0) sc__law_part fun f cdv A outer s H E hr => fss_one (fs_ret (fe_op op_mod v2_mod (fe_op op_fdivW v2_div (fe_intc T.bt (fa_cons (fe_ix (fun _ _ => rfl) (fe_v 0) (fe_v 1)) (fa_nil))) (fe_v 2)) (fe_v 3)))
theorem d__law_ballots (T : SaysU fa fn exL K mg) : DefA P w K mg base (cnL K) 2 "_law_ballots" s__law_ballots [] [] ["pool", "spot", "slate", "number"] F__law_ballots :=
  DefA.of (N := N__law_ballots) (g := G__law_ballots) (T.dfn (dd := []) (kd := []) 22 1) sc__law_ballots fun f cdv A outer s H E hr => fss_cons (fs_own (i := 4) sc__law_ballots.nd rfl (fl_lst (fa_nil))) (fss_cons (fs_for (zs := [5]) (passes_of rfl) rfl (fi_r1 rfl T.bt.range (fe_v 3)) (fg_n (i := 5) sc__law_ballots.nd rfl) (fss_cons (fs_own (i := 6) sc__law_ballots.nd rfl (fl_list rfl T.bt.list bb_list (fe_v 2))) (fss_cons (fs_own (i := 7) sc__law_ballots.nd rfl (fl_lst (fa_nil))) (fss_cons (fs_for (zs := [8]) (passes_of rfl) rfl (fi_r1 rfl T.bt.range (fe_op op_mod v2_mod (fe_a (d__law_part T) b__law_part hr (takes_of rfl rfl rfl rfl) (fa_cons (fe_v 0) (fa_cons (fe_op op_addA v2_add (fe_v 1) (fe_op op_mul2 v2_mul (fe_int) (fe_v 5))) (fa_cons (fe_int) (fa_cons (fe_int) (fa_nil)))))) (fe_op op_addA v2_add (fe_len T.bt (fa_cons (fe_v 2) (fa_nil))) (fe_int)))) (fg_n (i := 8) sc__law_ballots.nd rfl) (fss_one (fs_appPop (i := 7) (j := 6) rfl rfl (fe_bor (fe_op op_mod v2_mod (fe_a (d__law_part T) b__law_part hr (takes_of rfl rfl rfl rfl) (fa_cons (fe_v 0) (fa_cons (fe_op op_addA v2_add (fe_op op_addA v2_add (fe_v 1) (fe_op op_mul2 v2_mul (fe_int) (fe_v 5))) (fe_int)) (fa_cons (fe_ix (fun _ _ => rfl) (fe_lst (fa_cons (fe_int) (fa_cons (fe_int) (fa_cons (fe_int) (fa_cons (fe_int) (fa_nil)))))) (fe_v 8)) (fa_cons (fe_ix (fun _ _ => rfl) (fe_lst (fa_cons (fe_int) (fa_cons (fe_int) (fa_cons (fe_int) (fa_cons (fe_int) (fa_nil)))))) (fe_v 8)) (fa_nil)))))) (fe_len T.bt (fa_cons (fe_v 6) (fa_nil)))))))) (fss_cons (fs_set (i := 9) sc__law_ballots.nd rfl (fe_a (d__law_part T) b__law_part hr (takes_of rfl rfl rfl rfl) (fa_cons (fe_v 0) (fa_cons (fe_op op_addA v2_add (fe_v 1) (fe_op op_mul2 v2_mul (fe_int) (fe_v 5))) (fa_cons (fe_int) (fa_cons (fe_int) (fa_nil))))))) (fss_cons (fs_if (ft_cmp (op_eqA (hu64 hr)) v2_eq (by first | exact nomark _ | rfl) (fe_a (d__law_part T) b__law_part hr (takes_of rfl rfl rfl rfl) (fa_cons (fe_v 0) (fa_cons (fe_op op_addA v2_add (fe_v 1) (fe_op op_mul2 v2_mul (fe_int) (fe_v 5))) (fa_cons (fe_int) (fa_cons (fe_int) (fa_nil)))))) (fe_int)) (fss_one (fs_set (i := 9) sc__law_ballots.nd rfl (fe_op op_sub v2_sub (fe_op op_pow v2_pow (fe_int) (fe_int)) (fe_v 9)))) (fss_nil)) (fss_one (fs_frz 7 (fs_app (i := 4) rfl (fe_tup (fa_cons (fe_tuplec T.bt (fa_cons (fe_v 7) (fa_nil))) (fa_cons (fe_v 9) (fa_nil))))))))))))) (fss_one (fs_frz 4 (fs_ret (fe_v 4)))))
theorem d__law_cell (T : SaysU fa fn exL K mg) : DefA P w K mg base (cnL K) 1 "_law_cell" s__law_cell [] [] ["script", "k"] F__law_cell :=
  DefA.of (N := N__law_cell) (g := G__law_cell) (T.dfn (dd := []) (kd := []) 23 2) sc__law_cell fun f cdv A outer s H E hr => fss_cons (fs_if (ft_cmp op_lt v2_lt (by first | exact nomark _ | rfl) (fe_v 1) (fe_len T.bt (fa_cons (fe_v 0) (fa_nil)))) (fss_one (fs_ret (fe_ix (fun _ _ => rfl) (fe_v 0) (fe_v 1)))) (fss_nil)) (fss_cons (fs_set (i := 2) sc__law_cell.nd rfl (fe_op op_mul2 v2_mul (fe_int) (fe_op op_addA v2_add (fe_v 1) (fe_int)))) (fss_cons (fs_for (zs := [3]) (passes_of rfl) rfl (fi_r1 rfl T.bt.range (fe_len T.bt (fa_cons (fe_v 0) (fa_nil)))) (fg_n (i := 3) sc__law_cell.nd rfl) (fss_one (fs_set (i := 2) sc__law_cell.nd rfl (fe_op op_mod v2_mod (fe_op op_addA v2_add (fe_v 2) (fe_op op_mul2 v2_mul (fe_op op_mul2 v2_mul (fe_op op_addA v2_add (fe_v 3) (fe_int)) (fe_op op_mod v2_mod (fe_abs T.bt (fa_cons (fe_ix (fun _ _ => rfl) (fe_v 0) (fe_v 3)) (fa_nil))) (fe_int))) (fe_int))) (fe_int))))) (fss_one (fs_ret (fe_v 2)))))
theorem d__law_big (T : SaysU fa fn exL K mg) : DefA P w K mg base (cnL K) 1 "_law_big" s__law_big [] [] ["pool", "spot", "least", "crest"] F__law_big :=
  DefA.of (N := N__law_big) (g := G__law_big) (T.dfn (dd := []) (kd := []) 24 3) sc__law_big fun f cdv A outer s H E hr => fss_cons (fs_set (i := 4) sc__law_big.nd rfl (fe_op op_addA v2_add (fe_op op_addA v2_add (fe_op op_mul2 v2_mul (fe_op op_mod v2_mod (fe_intc T.bt (fa_cons (fe_ix (fun _ _ => rfl) (fe_v 0) (fe_v 1)) (fa_nil))) (fe_int)) (fe_int)) (fe_op op_mul2 v2_mul (fe_op op_mod v2_mod (fe_intc T.bt (fa_cons (fe_ix (fun _ _ => rfl) (fe_v 0) (fe_op op_addA v2_add (fe_v 1) (fe_int))) (fa_nil))) (fe_int)) (fe_int))) (fe_op op_mod v2_mod (fe_intc T.bt (fa_cons (fe_ix (fun _ _ => rfl) (fe_v 0) (fe_op op_addA v2_add (fe_v 1) (fe_int))) (fa_nil))) (fe_int)))) (fss_one (fs_ret (fe_op op_addA v2_add (fe_v 2) (fe_op op_mod v2_mod (fe_intc T.bt (fa_cons (fe_v 4) (fa_nil))) (fe_op op_addA v2_add (fe_op op_sub v2_sub (fe_v 3) (fe_v 2)) (fe_int))))))
theorem d__law_all_ballots (T : SaysU fa fn exL K mg) : DefA P w K mg base (cnL K) 1 "_law_all_ballots" s__law_all_ballots [] [] ["choices"] F__law_all_ballots :=
  DefA.of (N := N__law_all_ballots) (g := G__law_all_ballots) (T.dfn (dd := []) (kd := []) 25 4) sc__law_all_ballots fun f cdv A outer s H E hr => fss_cons (fs_set (i := 1) sc__law_all_ballots.nd rfl (fe_lst (fa_cons (fe_tup (fa_nil)) (fa_nil)))) (fss_cons (fs_for (zs := [2]) (passes_of rfl) rfl (fi_r1 rfl T.bt.range (fe_len T.bt (fa_cons (fe_v 0) (fa_nil)))) (fg_n (i := 2) sc__law_all_ballots.nd rfl) (fss_cons (fs_own (i := 3) sc__law_all_ballots.nd rfl (fl_lst (fa_nil))) (fss_cons (fs_for (zs := [4]) (passes_of rfl) rfl (fi_sq (fe_listc T.bt (fa_cons (fe_v 1) (fa_nil)))) (fg_n (i := 4) sc__law_all_ballots.nd rfl) (fss_cons (fs_app (i := 3) rfl (fe_v 4)) (fss_one (fs_if (ft_cmp (op_eqA (hu64 hr)) v2_eq (by first | exact nomark _ | rfl) (fe_len T.bt (fa_cons (fe_v 4) (fa_nil))) (fe_v 2)) (fss_one (fs_frz 3 (fs_new (i := 3) sc__law_all_ballots.nd rfl (fn_bor (fn_l (fl_cat (fe_v 3) (fe_lc (own := [("choice", 5)]) rfl sc__law_all_ballots.nd (fi_sq (fe_v 0)) (blkOk_by (own := [("choice", 5)]) (N := N__law_all_ballots) (sc := defScope s__law_all_ballots) (by decide +kernel)) (fun _ _ _ _ _ => fg_n (i := 5) sc__law_all_ballots.nd rfl) (fun _ _ _ _ _ => fts_one (ft_cmp (op_ninA (hu65 hr)) v2_nin (by first | exact nomark _ | rfl) (fe_v 5) (fe_v 4))) (fun _ _ _ _ _ => fe_op op_addA v2_add (fe_v 4) (fe_tup (fa_cons (fe_v 5) (fa_nil))))))))))) (fss_nil))))) (fss_one (fs_frz 3 (fs_set (i := 1) sc__law_all_ballots.nd rfl (fe_v 3))))))) (fss_one (fs_ret (fe_v 1))))
theorem d__law_each_ballot (T : SaysU fa fn exL K mg) : DefA P w K mg base (cnL K) 2 "_law_each_ballot" s__law_each_ballot [] [] ["choices", "draws"] F__law_each_ballot :=
  DefA.of (N := N__law_each_ballot) (g := G__law_each_ballot) (T.dfn (dd := []) (kd := []) 26 5) sc__law_each_ballot fun f cdv A outer s H E hr => fss_cons (fs_set (i := 2) sc__law_each_ballot.nd rfl (fe_ix (fun _ _ => rfl) (fe_lst (fa_cons (fe_int) (fa_cons (fe_int) (fa_cons (fe_int) (fa_nil))))) (fe_a (d__law_part T) b__law_part hr (takes_of rfl rfl rfl rfl) (fa_cons (fe_v 1) (fa_cons (fe_int) (fa_cons (fe_int) (fa_cons (fe_int) (fa_nil)))))))) (fss_cons (fs_set (i := 3) sc__law_each_ballot.nd rfl (fe_a (d__law_all_ballots T) b__law_all_ballots hr (takes_of rfl rfl rfl rfl) (fa_cons (fe_v 0) (fa_nil)))) (fss_one (fs_ret (fe_lc (own := [("k", 4)]) rfl sc__law_each_ballot.nd (fi_r1 rfl T.bt.range (fe_len T.bt (fa_cons (fe_v 3) (fa_nil)))) (blkOk_by (own := [("k", 4)]) (N := N__law_each_ballot) (sc := defScope s__law_each_ballot) (by decide +kernel)) (fun _ _ _ _ _ => fg_n (i := 4) sc__law_each_ballot.nd rfl) (fun _ _ _ _ _ => fts_nil) (fun _ _ _ _ _ => fe_tup (fa_cons (fe_ix (fun _ _ => rfl) (fe_v 3) (fe_v 4)) (fa_cons (fe_op op_mod v2_mod (fe_a (d__law_part T) b__law_part hr takes0 (fa_cons (fe_v 1) (fa_cons (fe_op op_fdivW v2_div (fe_v 4) (fe_int)) (fa_cons (fe_ix (fun _ _ => rfl) (fe_lst (fa_cons (fe_int) (fa_cons (fe_int) (fa_nil)))) (fe_op op_mod v2_mod (fe_v 4) (fe_int))) (fa_cons (fe_int) (fa_nil)))))) (fe_v 2)) (fa_nil))))))))
theorem d__law_mixed (T : SaysU fa fn exL K mg) : DefA P w K mg base (cnL K) 1 "_law_mixed" s__law_mixed [] [] ["cell", "k"] F__law_mixed_k15 :=
  DefA.of (N := N__law_mixed) (g := G__law_mixed_k15) (T.dfn (dd := []) (kd := []) 27 6) sc__law_mixed fun f cdv A outer s H E hr => fss_cons (fs_set (i := 2) sc__law_mixed.nd rfl (fe_op op_mod v2_mod (fe_op op_addA v2_add (fe_op op_mul2 v2_mul (fe_op op_mod v2_mod (fe_abs T.bt (fa_cons (fe_v 0) (fa_nil))) (fe_int)) (fe_int)) (fe_op op_mul2 v2_mul (fe_op op_addA v2_add (fe_v 1) (fe_int)) (fe_int))) (fe_int))) (fss_cons (fs_set (i := 2) sc__law_mixed.nd rfl (fe_op op_mod v2_mod (fe_op op_addA v2_add (fe_op op_addA v2_add (fe_op op_mul2 v2_mul (fe_v 2) (fe_int)) (fe_op op_fdivW v2_div (fe_v 2) (fe_int))) (fe_op op_mul2 v2_mul (fe_op op_addA v2_add (fe_v 1) (fe_int)) (fe_int))) (fe_int))) (fss_one (fs_ret (fe_op op_fdivW v2_div (fe_v 2) (fe_int)))))
theorem d__law_pool (T : SaysU fa fn exL K mg) : DefA P w K mg base (cnL K) 2 "_law_pool" s__law_pool [] [] ["cell", "number"] F__law_pool_k15 :=
  DefA.of (N := N__law_pool) (g := G__law_pool_k15) (T.dfn (dd := []) (kd := []) 28 7) sc__law_pool fun f cdv A outer s H E hr => fss_cons (fs_set (i := 2) sc__law_pool.nd rfl (fe_abs T.bt (fa_cons (fe_v 0) (fa_nil)))) (fss_cons (fs_set (i := 3) sc__law_pool.nd rfl (fe_cmp op_ge v2_ge (by first | exact nomark _ | rfl) (fe_v 2) (fe_op op_pow v2_pow (fe_int) (fe_int)))) (fss_cons (fs_own (i := 4) sc__law_pool.nd rfl (fl_lst (fa_nil))) (fss_cons (fs_for (zs := [5]) (passes_of rfl) rfl (fi_r1 rfl T.bt.range (fe_v 1)) (fg_n (i := 5) sc__law_pool.nd rfl) (fss_one (fs_if (ft_w (fw_and (ft_val (fe_v 3)) (fw_and1 (ft_cmp op_gt v2_gt (by first | exact nomark _ | rfl) (fe_v 2) (fe_int))))) (fss_cons (fs_app (i := 4) rfl (fe_op op_mod v2_mod (fe_v 2) (fe_int))) (fss_one (fs_set (i := 2) sc__law_pool.nd rfl (fe_op op_fdivW v2_div (fe_v 2) (fe_int))))) (fss_one (fs_app (i := 4) rfl (fe_a (d__law_mixed T) b__law_mixed hr (takes_of rfl rfl rfl rfl) (fa_cons (fe_v 0) (fa_cons (fe_v 5) (fa_nil))))))))) (fss_one (fs_frz 4 (fs_ret (fe_v 4)))))))
theorem d__law_turned_about (T : SaysU fa fn exL K mg) : DefA P w K mg base (cnL K) 1 "_law_turned_about" s__law_turned_about [] [] ["choices", "given"] F__law_turned_about :=
  DefA.of (N := N__law_turned_about) (g := G__law_turned_about) (T.dfn (dd := []) (kd := []) 29 8) sc__law_turned_about fun f cdv A outer s H E hr => fss_cons (fs_own (i := 2) sc__law_turned_about.nd rfl (fl_lst (fa_nil))) (fss_cons (fs_for (zs := [3]) (passes_of rfl) rfl (fi_r1 rfl T.bt.range (fe_len T.bt (fa_cons (fe_v 0) (fa_nil)))) (fg_n (i := 3) sc__law_turned_about.nd rfl) (fss_one (fs_for (zs := [4, 5]) (passes_of rfl) rfl (fi_sq (fe_v 1)) (fg_t rfl (fgs_c (fg_n (i := 4) sc__law_turned_about.nd rfl) (fgs_c (fg_n (i := 5) sc__law_turned_about.nd rfl) (fgs_n)))) (fss_one (fs_app (i := 2) rfl (fe_tup (fa_cons (fe_tuplec T.bt (fa_cons (fe_lc (own := [("choice", 6)]) rfl sc__law_turned_about.nd (fi_sq (fe_v 4)) (blkOk_by (own := [("choice", 6)]) (N := N__law_turned_about) (sc := defScope s__law_turned_about) (by decide +kernel)) (fun _ _ _ _ _ => fg_n (i := 6) sc__law_turned_about.nd rfl) (fun _ _ _ _ _ => fts_nil) (fun _ _ _ _ _ => fe_ix (fun _ _ => rfl) (fe_v 0) (fe_op op_mod v2_mod (fe_intc T.bt (fa_cons (fe_op op_addA v2_add (fe_index (fe_v 0) (fa_cons (fe_v 6) (fa_nil))) (fe_v 3)) (fa_nil))) (fe_len T.bt (fa_cons (fe_v 0) (fa_nil)))))) (fa_nil))) (fa_cons (fe_v 5) (fa_nil))))))))) (fss_one (fs_frz 2 (fs_ret (fe_v 2)))))
theorem d__law_given (T : SaysU fa fn exL K mg) : DefA P w K mg base (cnL K) 3 "_law_given" s__law_given [] [] ["choices", "head", "pool", "cell"] F__law_given :=
  DefA.of (N := N__law_given) (g := G__law_given) (T.dfn (dd := []) (kd := []) 30 9) sc__law_given fun f cdv A outer s H E hr => fss_cons (fs_set (i := 4) sc__law_given.nd rfl (fe_a (d__law_ballots T) b__law_ballots hr (takes_of rfl rfl rfl rfl) (fa_cons (fe_v 2) (fa_cons (fe_int) (fa_cons (fe_v 0) (fa_cons (fe_a (d__law_part T) b__law_part hr (takes_of rfl rfl rfl rfl) (fa_cons (fe_v 1) (fa_cons (fe_int) (fa_cons (fe_int) (fa_cons (fe_int) (fa_nil)))))) (fa_nil))))))) (fss_cons (fs_set (i := 5) sc__law_given.nd rfl (fe_a (d__law_part T) b__law_part hr (takes_of rfl rfl rfl rfl) (fa_cons (fe_v 1) (fa_cons (fe_int) (fa_cons (fe_int) (fa_cons (fe_int) (fa_nil))))))) (fss_cons (fs_if (ft_w (fw_and (ft_cmp (op_eqA (hu64 hr)) v2_eq (by first | exact nomark _ | rfl) (fe_op op_mod v2_mod (fe_v 5) (fe_int)) (fe_int)) (fw_and1 (ft_cmp (op_eqA (hu64 hr)) v2_eq (by first | exact nomark _ | rfl) (fe_a (d__law_part T) b__law_part hr (takes_of rfl rfl rfl rfl) (fa_cons (fe_v 1) (fa_cons (fe_int) (fa_cons (fe_int) (fa_cons (fe_int) (fa_nil)))))) (fe_int))))) (fss_one (fs_ret (fe_a (d__law_each_ballot T) b__law_each_ballot hr (takes_of rfl rfl rfl rfl) (fa_cons (fe_v 0) (fa_cons (fe_a (d__law_pool T) b__law_pool hr (takes_of rfl rfl rfl rfl) (fa_cons (fe_v 3) (fa_cons (fe_int) (fa_nil)))) (fa_nil)))))) (fss_nil)) (fss_cons (fs_if (ft_cmp (op_eqA (hu64 hr)) v2_eq (by first | exact nomark _ | rfl) (fe_v 5) (fe_int)) (fss_one (fs_ret (fe_lc (own := [("ballot", 7), ("times", 8)]) rfl sc__law_given.nd (fi_sq (fe_v 4)) (blkOk_by (own := [("ballot", 7), ("times", 8)]) (N := N__law_given) (sc := defScope s__law_given) (by decide +kernel)) (fun _ _ _ _ _ => fg_t rfl (fgs_c (fg_n (i := 7) sc__law_given.nd rfl) (fgs_c (fg_n (i := 8) sc__law_given.nd rfl) (fgs_n)))) (fun _ _ _ _ _ => fts_nil) (fun _ _ _ _ _ => fe_tup (fa_cons (fe_v 7) (fa_cons (fe_op op_mod v2_mod (fe_intc T.bt (fa_cons (fe_v 8) (fa_nil))) (fe_int)) (fa_nil))))))) (fss_nil)) (fss_cons (fs_if (ft_cmp (op_eqA (hu64 hr)) v2_eq (by first | exact nomark _ | rfl) (fe_v 5) (fe_int)) (fss_cons (fs_set (i := 6) sc__law_given.nd rfl (fe_a (d__law_pool T) b__law_pool hr (takes_of rfl rfl rfl rfl) (fa_cons (fe_v 3) (fa_cons (fe_int) (fa_nil))))) (fss_one (fs_ret (fe_lc (own := [("k", 9)]) rfl sc__law_given.nd (fi_r1 rfl T.bt.range (fe_len T.bt (fa_cons (fe_v 4) (fa_nil)))) (blkOk_by (own := [("k", 9)]) (N := N__law_given) (sc := defScope s__law_given) (by decide +kernel)) (fun _ _ _ _ _ => fg_n (i := 9) sc__law_given.nd rfl) (fun _ _ _ _ _ => fts_nil) (fun _ _ _ _ _ => fe_tup (fa_cons (fe_ix (fun _ _ => rfl) (fe_ix (fun _ _ => rfl) (fe_v 4) (fe_v 9)) (fe_int)) (fa_cons (fe_a (d__law_big T) b__law_big hr takes0 (fa_cons (fe_v 6) (fa_cons (fe_op op_mul2 v2_mul (fe_int) (fe_v 9)) (fa_cons (fe_int) (fa_cons (fe_op op_pow v2_pow (fe_int) (fe_int)) (fa_nil)))))) (fa_nil)))))))) (fss_nil)) (fss_cons (fs_if (ft_cmp (op_eqA (hu64 hr)) v2_eq (by first | exact nomark _ | rfl) (fe_v 5) (fe_int)) (fss_one (fs_ret (fe_a (d__law_turned_about T) b__law_turned_about hr (takes_of rfl rfl rfl rfl) (fa_cons (fe_v 0) (fa_cons (fe_sl (fe_v 4) (fo_n) (fo_s (fe_int))) (fa_nil)))))) (fss_nil)) (fss_one (fs_ret (fe_v 4))))))))
theorem d__law_integer (T : SaysU fa fn exL K mg) : DefA P w K mg base (cnL K) 1 "_law_integer" s__law_integer [] [] ["got"] F__law_integer :=
  DefA.of (N := N__law_integer) (g := G__law_integer) (T.dfn (dd := []) (kd := []) 31 10) sc__law_integer fun f cdv A outer s H E hr => fss_one (fs_ret (fe_and (fe_isi T.bt (fa_cons (fe_v 0) (fa_cons (fe_ty_int T.bt) (fa_nil)))) (fe_one (fe_not (fe_isi T.bt (fa_cons (fe_v 0) (fa_cons (fe_ty_bool T.bt) (fa_nil))))))))
theorem dr__law_same (T : SaysU fa fn exL K mg) : ∀ n : Nat, DefA P w K mg base (cnL K) (2 + n) "_law_same" s__law_same [] [] ["got", "wanted"] (Fr__law_same n)
  | 0 => DefA.of (N := N__law_same) (g := sBad) (k := 1) (T.dfn (dd := []) (kd := []) 32 11) sc__law_same fun f cdv A outer s H E hr => fss_never
  | n + 1 => have ih : DefA P w K mg base (cnL K) (2 + n) "_law_same" s__law_same [] [] ["got", "wanted"] (Fr__law_same n) := dr__law_same T n
    DefA.of (N := N__law_same) (g := G__law_same (Fr__law_same n)) (k := 2 + n) (T.dfn (dd := []) (kd := []) 32 11) sc__law_same fun f cdv A outer s H E hr => fss_cons (fs_if (ft_cmp op_isN v2_isN (by first | exact nomark _ | rfl) (fe_v 1) (fe_non)) (fss_one (fs_ret (fe_cmp op_isN v2_isN (by first | exact nomark _ | rfl) (fe_v 0) (fe_non)))) (fss_nil)) (fss_cons (fs_if (ft_cmp op_isB v2_isB (by first | exact nomark _ | rfl) (fe_v 1) (fe_bl)) (fss_one (fs_ret (fe_cmp op_isB v2_isB (by first | exact nomark _ | rfl) (fe_v 0) (fe_bl)))) (fss_nil)) (fss_cons (fs_if (ft_cmp op_isB v2_isB (by first | exact nomark _ | rfl) (fe_v 1) (fe_bl)) (fss_one (fs_ret (fe_cmp op_isB v2_isB (by first | exact nomark _ | rfl) (fe_v 0) (fe_bl)))) (fss_nil)) (fss_cons (fs_if (ft_val (fe_isi T.bt (fa_cons (fe_v 1) (fa_cons (fe_ty_int T.bt) (fa_nil))))) (fss_one (fs_ret (fe_and (fe_a (hk := by omega) (d__law_integer T) b__law_integer hr (takes_of rfl rfl rfl rfl) (fa_cons (fe_v 0) (fa_nil))) (fe_one (fe_cmp (op_eqA (hu64 hr)) v2_eq (by first | exact nomark _ | rfl) (fe_v 0) (fe_v 1)))))) (fss_nil)) (fss_cons (fs_if (ft_val (fe_isi T.bt (fa_cons (fe_v 1) (fa_cons (fe_ty_str T.bt) (fa_nil))))) (fss_one (fs_ret (fe_and (fe_isi T.bt (fa_cons (fe_v 0) (fa_cons (fe_ty_str T.bt) (fa_nil)))) (fe_one (fe_cmp (op_eqA (hu64 hr)) v2_eq (by first | exact nomark _ | rfl) (fe_v 0) (fe_v 1)))))) (fss_nil)) (fss_cons (fs_if (ft_w (fw_and (ft_val (fe_isi T.bt (fa_cons (fe_v 1) (fa_cons (fe_ty_tuple T.bt) (fa_nil))))) (fw_and1 (ft_not (ft_val (fe_isi T.bt (fa_cons (fe_v 0) (fa_cons (fe_ty_tuple T.bt) (fa_nil))))))))) (fss_one (fs_ret (fe_bl))) (fss_nil)) (fss_cons (fs_if (ft_w (fw_and (ft_val (fe_isi T.bt (fa_cons (fe_v 1) (fa_cons (fe_ty_list T.bt) (fa_nil))))) (fw_and1 (ft_not (ft_val (fe_isi T.bt (fa_cons (fe_v 0) (fa_cons (fe_ty_list T.bt) (fa_nil))))))))) (fss_one (fs_ret (fe_bl))) (fss_nil)) (fss_cons (fs_if (ft_cmp (op_neA (hu64 hr)) v2_ne (by first | exact nomark _ | rfl) (fe_len T.bt (fa_cons (fe_v 0) (fa_nil))) (fe_len T.bt (fa_cons (fe_v 1) (fa_nil)))) (fss_one (fs_ret (fe_bl))) (fss_nil)) (fss_cons (fs_for (zs := [2]) (passes_of rfl) rfl (fi_r1 rfl T.bt.range (fe_len T.bt (fa_cons (fe_v 1) (fa_nil)))) (fg_n (i := 2) sc__law_same.nd rfl) (fss_one (fs_if (ft_not (ft_val (fe_a (hk := Nat.le_refl _) ih b__law_same hr (takes_of rfl rfl rfl rfl) (fa_cons (fe_ix (fun _ _ => rfl) (fe_v 0) (fe_v 2)) (fa_cons (fe_ix (fun _ _ => rfl) (fe_v 1) (fe_v 2)) (fa_nil)))))) (fss_one (fs_ret (fe_bl))) (fss_nil)))) (fss_one (fs_ret (fe_bl)))))))))))
theorem d__law_same (T : SaysU fa fn exL K mg) : DefA P w K mg base (cnL K) 8 "_law_same" s__law_same [] [] ["got", "wanted"] F__law_same := dr__law_same T 6
theorem d_lead (T : SaysU fa fn exL K mg) : DefA P w K mg base (cnL K) 1 "lead" s_lead [] [] ["options", "leaver", "other"] F_lead :=
  DefA.of (N := N_lead) (g := G_lead) (T.dfn (dd := []) (kd := []) 33 12) sc_lead fun f cdv A outer s H E hr => fss_one (fs_ret (fe_if (ft_cmp op_gt v2_gt (by first | exact nomark _ | rfl) (fe_or2 _ (fe_indexZ (fe_v 0) (fa_cons (fe_v 1) (fa_nil))) (fe_index (fe_v 0) (fa_cons (fe_v 1) (fa_nil)))) (fe_or2 _ (fe_indexZ (fe_v 0) (fa_cons (fe_v 2) (fa_nil))) (fe_index (fe_v 0) (fa_cons (fe_v 2) (fa_nil))))) (fe_int) (fe_int)))
theorem d__law_leads_right (T : SaysU fa fn exL K mg) : DefA P w K mg base (cnL K) 9 "_law_leads_right" s__law_leads_right [] [] ["choices"] F__law_leads_right :=
  DefA.of (N := N__law_leads_right) (g := G__law_leads_right) (T.dfn (dd := []) (kd := []) 34 13) sc__law_leads_right fun f cdv A outer s H E hr => fss_cons (fs_set (i := 1) sc__law_leads_right.nd rfl (fe_listc T.bt (fa_cons (fe_v 0) (fa_nil)))) (fss_cons (fs_for (zs := [2]) (passes_of rfl) rfl (fi_r1 rfl T.bt.range (fe_len T.bt (fa_cons (fe_v 0) (fa_nil)))) (fg_n (i := 2) sc__law_leads_right.nd rfl) (fss_one (fs_for (zs := [3]) (passes_of rfl) rfl (fi_r1 rfl T.bt.range (fe_len T.bt (fa_cons (fe_v 0) (fa_nil)))) (fg_n (i := 3) sc__law_leads_right.nd rfl) (fss_one (fs_if (ft_cmp (op_neA (hu64 hr)) v2_ne (by first | exact nomark _ | rfl) (fe_v 3) (fe_v 2)) (fss_cons (fs_set (i := 4) sc__law_leads_right.nd rfl (fe_intc T.bt (fa_cons (fe_cmp op_lt v2_lt (by first | exact nomark _ | rfl) (fe_v 2) (fe_v 3)) (fa_nil)))) (fss_cons (fs_if (ft_not (ft_val (fe_a (d__law_same T) b__law_same hr (takes_of rfl rfl rfl rfl) (fa_cons (fe_a (d_lead T) b_lead hr (takes_of rfl rfl rfl rfl) (fa_cons (fe_v 1) (fa_cons (fe_ix (fun _ _ => rfl) (fe_v 0) (fe_v 2)) (fa_cons (fe_ix (fun _ _ => rfl) (fe_v 0) (fe_v 3)) (fa_nil))))) (fa_cons (fe_v 4) (fa_nil)))))) (fss_one (fs_ret (fe_bl))) (fss_nil)) (fss_one (fs_if (ft_not (ft_val (fe_a (d__law_same T) b__law_same hr (takes_of rfl rfl rfl rfl) (fa_cons (fe_ak0 (d_lead T) (fun F => kb_lead_0_options_leaver_other F) hr (takes_of rfl rfl rfl rfl) (fk_cons (fe_tupz T.bt (fa_cons (fe_v 0) (fa_nil))) (fk_cons (fe_ix (fun _ _ => rfl) (fe_v 0) (fe_v 3)) (fk_cons (fe_ix (fun _ _ => rfl) (fe_v 0) (fe_v 2)) (fk_nil))))) (fa_cons (fe_op op_sub v2_sub (fe_int) (fe_v 4)) (fa_nil)))))) (fss_one (fs_ret (fe_bl))) (fss_nil))))) (fss_nil)))))) (fss_one (fs_ret (fe_cmp (op_eqA (hu64 hr)) v2_eq (by first | exact nomark _ | rfl) (fe_v 1) (fe_v 0)))))
theorem d__law_names (T : SaysU fa fn exL K mg) : DefA P w K mg base (cnL K) 2 "_law_names" s__law_names [] [] ["pool", "spot", "number"] F__law_names :=
  DefA.of (N := N__law_names) (g := G__law_names) (T.dfn (dd := []) (kd := []) 35 14) sc__law_names fun f cdv A outer s H E hr => fss_cons (fs_set (i := 3) sc__law_names.nd rfl (fe_str)) (fss_cons (fs_set (i := 4) sc__law_names.nd rfl (fe_str)) (fss_cons (fs_for (zs := [5]) (passes_of rfl) rfl (fi_r1 rfl T.bt.range (fe_int)) (fg_n (i := 5) sc__law_names.nd rfl) (fss_one (fs_set (i := 4) sc__law_names.nd rfl (fe_op op_addA v2_add (fe_op op_addA v2_add (fe_v 4) (fe_ix (fun _ _ => rfl) (fe_v 3) (fe_a (d__law_part T) b__law_part hr (takes_of rfl rfl rfl rfl) (fa_cons (fe_v 0) (fa_cons (fe_op op_addA v2_add (fe_v 1) (fe_v 5)) (fa_cons (fe_int) (fa_cons (fe_int) (fa_nil)))))))) (fe_ix (fun _ _ => rfl) (fe_v 3) (fe_a (d__law_part T) b__law_part hr (takes_of rfl rfl rfl rfl) (fa_cons (fe_v 0) (fa_cons (fe_op op_addA v2_add (fe_v 1) (fe_v 5)) (fa_cons (fe_int) (fa_cons (fe_int) (fa_nil))))))))))) (fss_cons (fs_set (i := 6) sc__law_names.nd rfl (fe_a (d__law_part T) b__law_part hr (takes_of rfl rfl rfl rfl) (fa_cons (fe_v 0) (fa_cons (fe_op op_addA v2_add (fe_v 1) (fe_int)) (fa_cons (fe_int) (fa_cons (fe_int) (fa_nil))))))) (fss_cons (fs_set (i := 7) sc__law_names.nd rfl (fe_a (d__law_part T) b__law_part hr (takes_of rfl rfl rfl rfl) (fa_cons (fe_v 0) (fa_cons (fe_op op_addA v2_add (fe_v 1) (fe_int)) (fa_cons (fe_int) (fa_cons (fe_int) (fa_nil))))))) (fss_cons (fs_set (i := 8) sc__law_names.nd rfl (fe_a (d__law_part T) b__law_part hr (takes_of rfl rfl rfl rfl) (fa_cons (fe_v 0) (fa_cons (fe_op op_addA v2_add (fe_v 1) (fe_int)) (fa_cons (fe_int) (fa_cons (fe_int) (fa_nil))))))) (fss_cons (fs_set (i := 9) sc__law_names.nd rfl (fe_sl (fe_v 4) (fo_n) (fo_s (fe_a (d__law_part T) b__law_part hr (takes_of rfl rfl rfl rfl) (fa_cons (fe_v 0) (fa_cons (fe_op op_addA v2_add (fe_v 1) (fe_int)) (fa_cons (fe_int) (fa_cons (fe_int) (fa_nil))))))))) (fss_cons (fs_set (i := 10) sc__law_names.nd rfl (fe_sl (fe_v 4) (fo_n) (fo_s (fe_a (d__law_part T) b__law_part hr (takes_of rfl rfl rfl rfl) (fa_cons (fe_v 0) (fa_cons (fe_op op_addA v2_add (fe_v 1) (fe_int)) (fa_cons (fe_int) (fa_cons (fe_int) (fa_nil))))))))) (fss_cons (fs_own (i := 11) sc__law_names.nd rfl (fl_lst (fa_nil))) (fss_cons (fs_for (zs := [5]) (passes_of rfl) rfl (fi_r1 rfl T.bt.range (fe_v 2)) (fg_n (i := 5) sc__law_names.nd rfl) (fss_cons (fs_set (i := 12) sc__law_names.nd rfl (fe_op op_mod v2_mod (fe_intc T.bt (fa_cons (fe_op op_addA v2_add (fe_v 5) (fe_v 6)) (fa_nil))) (fe_int))) (fss_one (fs_if (ft_cmp (op_eqA (hu64 hr)) v2_eq (by first | exact nomark _ | rfl) (fe_a (d__law_part T) b__law_part hr (takes_of rfl rfl rfl rfl) (fa_cons (fe_v 0) (fa_cons (fe_op op_addA v2_add (fe_v 1) (fe_int)) (fa_cons (fe_int) (fa_cons (fe_int) (fa_nil)))))) (fe_int)) (fss_one (fs_app (i := 11) rfl (fe_op op_addA v2_add (fe_op op_addA v2_add (fe_op op_addA v2_add (fe_sl (fe_v 9) (fo_n) (fo_s (fe_v 7))) (fe_ix (fun _ _ => rfl) (fe_v 3) (fe_op op_mod v2_mod (fe_intc T.bt (fa_cons (fe_op op_addA v2_add (fe_v 8) (fe_op op_mul2 v2_mul (fe_int) (fe_v 12))) (fa_nil))) (fe_int)))) (fe_sl (fe_v 9) (fo_s (fe_v 7)) (fo_n))) (fe_v 10)))) (fss_one (fs_app (i := 11) rfl (fe_sl (fe_v 4) (fo_n) (fo_s (fe_op op_addA v2_add (fe_v 12) (fe_int)))))))))) (fss_one (fs_frz 11 (fs_ret (fe_v 11)))))))))))))
theorem d__law_votes (T : SaysU fa fn exL K mg) : DefA P w K mg base (cnL K) 1 "_law_votes" s__law_votes [] [] ["rows", "slate", "left"] F__law_votes :=
  DefA.of (N := N__law_votes) (g := G__law_votes) (T.dfn (dd := []) (kd := []) 36 15) sc__law_votes fun f cdv A outer s H E hr => fss_cons (fs_ownLc (own := [("option", 7)]) (i := 3) rfl sc__law_votes.nd rfl rfl (sw_true rfl rfl rfl (by decide +kernel)) (fi_sq (fe_v 1)) (blkOk_by (own := [("option", 7)]) (N := N__law_votes) (sc := defScope s__law_votes) (by decide +kernel)) (fun _ _ _ _ _ => fg_n (i := 7) sc__law_votes.nd rfl) (fun _ _ _ _ _ => fts_nil) (fun _ _ _ _ _ => fe_int)) (fss_cons (fs_for (zs := [4, 5]) (passes_of rfl) rfl (fi_sq (fe_v 0)) (fg_t rfl (fgs_c (fg_n (i := 4) sc__law_votes.nd rfl) (fgs_c (fg_n (i := 5) sc__law_votes.nd rfl) (fgs_n)))) (fss_cons (fs_setLc (own := [("option", 7)]) (i := 6) rfl sc__law_votes.nd rfl rfl (sw_true rfl rfl rfl (by decide +kernel)) (fi_sq (fe_v 4)) (blkOk_by (own := [("option", 7)]) (N := N__law_votes) (sc := defScope s__law_votes) (by decide +kernel)) (fun _ _ _ _ _ => fg_n (i := 7) sc__law_votes.nd rfl) (fun _ _ _ _ _ => fts_one (ft_cmp (op_inA (hu65 hr)) v2_in (by first | exact nomark _ | rfl) (fe_v 7) (fe_v 2))) (fun _ _ _ _ _ => fe_v 7)) (fss_one (fs_if (ft_cmp (op_neA (hu64 hr)) v2_ne (by first | exact nomark _ | rfl) (fe_v 6) (fe_lst (fa_nil))) (fss_one (fs_putL (i := 3) rfl (fe_bor (fe_op op_addA v2_add (fe_ix (fun _ _ => rfl) (fe_v 3) (fe_index (fe_v 1) (fa_cons (fe_ix (fun _ _ => rfl) (fe_v 6) (fe_int)) (fa_nil)))) (fe_v 5))) (fe_index (fe_v 1) (fa_cons (fe_ix (fun _ _ => rfl) (fe_v 6) (fe_int)) (fa_nil))))) (fss_nil))))) (fss_one (fs_frz 3 (fs_ret (fe_v 3)))))
theorem d__law_holds (T : SaysU fa fn exL K mg) : DefA P w K mg base (cnL K) 2 "_law_holds" s__law_holds [] [] ["choices", "given", "order"] F__law_holds_k16 :=
  DefA.of (N := N__law_holds) (g := G__law_holds_k16) (T.dfn (dd := []) (kd := []) 37 16) sc__law_holds fun f cdv A outer s H E hr => fss_cons (fs_set (i := 3) sc__law_holds.nd rfl (fe_listc T.bt (fa_cons (fe_v 0) (fa_nil)))) (fss_cons (fs_for (zs := [4]) (passes_of rfl) rfl (fi_sq (fe_v 2)) (fg_n (i := 4) sc__law_holds.nd rfl) (fss_cons (fs_set (i := 5) sc__law_holds.nd rfl (fe_a (d__law_votes T) b__law_votes hr (takes_of rfl rfl rfl rfl) (fa_cons (fe_v 1) (fa_cons (fe_v 0) (fa_cons (fe_v 3) (fa_nil)))))) (fss_cons (fs_for (zs := [6]) (passes_of rfl) rfl (fi_sq (fe_v 3)) (fg_n (i := 6) sc__law_holds.nd rfl) (fss_one (fs_if (ft_cmp (op_neA (hu64 hr)) v2_ne (by first | exact nomark _ | rfl) (fe_v 6) (fe_v 4)) (fss_cons (fs_set (i := 7) sc__law_holds.nd rfl (fe_op op_addA v2_add (fe_ix (fun _ _ => rfl) (fe_v 5) (fe_index (fe_v 0) (fa_cons (fe_v 4) (fa_nil)))) (fe_a (d_lead T) b_lead hr (takes_of rfl rfl rfl rfl) (fa_cons (fe_listc T.bt (fa_cons (fe_v 0) (fa_nil))) (fa_cons (fe_v 4) (fa_cons (fe_v 6) (fa_nil))))))) (fss_one (fs_if (ft_cmp op_gt v2_gt (by first | exact nomark _ | rfl) (fe_v 7) (fe_ix (fun _ _ => rfl) (fe_v 5) (fe_index (fe_v 0) (fa_cons (fe_v 6) (fa_nil))))) (fss_one (fs_ret (fe_bl))) (fss_nil)))) (fss_nil)))) (fss_one (fs_setLc (own := [("choice", 8)]) (i := 3) rfl sc__law_holds.nd rfl rfl (sw_true rfl rfl rfl (by decide +kernel)) (fi_sq (fe_v 3)) (blkOk_by (own := [("choice", 8)]) (N := N__law_holds) (sc := defScope s__law_holds) (by decide +kernel)) (fun _ _ _ _ _ => fg_n (i := 8) sc__law_holds.nd rfl) (fun _ _ _ _ _ => fts_one (ft_cmp (op_neA (hu64 hr)) v2_ne (by first | exact nomark _ | rfl) (fe_v 8) (fe_v 4))) (fun _ _ _ _ _ => fe_v 8)))))) (fss_one (fs_ret (fe_bl))))
theorem d_leaving (T : SaysU fa fn exL K mg) : DefA P w K mg base (cnL K) 1 "leaving" s_leaving [] [] ["remaining", "votes"] F_leaving :=
  DefA.of (N := N_leaving) (g := G_leaving) (T.dfn (dd := []) (kd := []) 38 17) sc_leaving fun f cdv A outer s H E hr => fss_cons (fs_set (i := 2) sc_leaving.nd rfl (fe_minT T.bt (fa_cons (fe_v 1) (fa_nil)))) (fss_one (fs_ret (fe_ix (fun _ _ => rfl) (fe_lc (own := [("option", 3), ("own", 4)]) rfl sc_leaving.nd (fi_zp2 rfl T.bt.zip (fe_v 0) (fe_v 1)) (blkOk_by (own := [("option", 3), ("own", 4)]) (N := N_leaving) (sc := defScope s_leaving) (by decide +kernel)) (fun _ _ _ _ _ => fg_t rfl (fgs_c (fg_n (i := 3) sc_leaving.nd rfl) (fgs_c (fg_n (i := 4) sc_leaving.nd rfl) (fgs_n)))) (fun _ _ _ _ _ => fts_one (ft_cmp (op_eqA (hu64 hr)) v2_eq (by first | exact nomark _ | rfl) (fe_v 4) (fe_v 2))) (fun _ _ _ _ _ => fe_v 3)) (fe_un un_neg v1_neg (fe_int)))))
theorem d_remaining_after (T : SaysU fa fn exL K mg) : DefA P w K mg base (cnL K) 1 "remaining_after" s_remaining_after [] [] ["options", "gone"] F_remaining_after :=
  DefA.of (N := N_remaining_after) (g := G_remaining_after) (T.dfn (dd := []) (kd := []) 39 18) sc_remaining_after fun f cdv A outer s H E hr => fss_one (fs_ret (fe_tupz T.bt (fa_cons (fe_lc (own := [("option", 2)]) rfl sc_remaining_after.nd (fi_sq (fe_v 0)) (blkOk_by (own := [("option", 2)]) (N := N_remaining_after) (sc := defScope s_remaining_after) (by decide +kernel)) (fun _ _ _ _ _ => fg_n (i := 2) sc_remaining_after.nd rfl) (fun _ _ _ _ _ => fts_one (ft_cmp (op_ninA (hu65 hr)) v2_nin (by first | exact nomark _ | rfl) (fe_v 2) (fe_v 1))) (fun _ _ _ _ _ => fe_v 2)) (fa_nil))))
theorem d_top (T : SaysU fa fn exL K mg) : DefA P w K mg base (cnL K) 1 "top" s_top [] [] ["ballot", "remaining"] F_top :=
  DefA.of (N := N_top) (g := G_top) (T.dfn (dd := []) (kd := []) 40 19) sc_top fun f cdv A outer s H E hr => fss_cons (fs_for (zs := [2]) (passes_of rfl) rfl (fi_sq (fe_v 0)) (fg_n (i := 2) sc_top.nd rfl) (fss_one (fs_if (ft_cmp (op_inA (hu65 hr)) v2_in (by first | exact nomark _ | rfl) (fe_v 2) (fe_v 1)) (fss_one (fs_ret (fe_v 2))) (fss_nil)))) (fss_one (fs_ret (fe_non)))
theorem d_Roll___iter__ (T : SaysU fa fn exL K mg) : DefT P w K mg base (cnL K) 1 52 "Roll.__iter__" s_Roll___iter__ F_Roll___iter__ :=
  DefT.of (N := N_Roll___iter__) (fa := e1 (gFld [52] 51) (eV 0)) (T.met (x := "Roll") (dd := []) (kd := []) 50 56 20 rfl) sc_Roll___iter__ rfl b_Roll___iter__ (fun _ _ _ _ _ _ _ => ⟨rfl, rfl⟩) (T.free 55) (by decide +kernel) fun f cdv A outer s H E hr => fe_fld (cs := [52]) (f := 51) rfl fn__rows (fa__rows T) (fe_v 0)
theorem d_votes_among (T : SaysU fa fn exL K mg) : DefA P w K mg base (cnL K) 2 "votes_among" s_votes_among [] [] ["roll", "remaining"] F_votes_among :=
  DefA.of (N := N_votes_among) (g := G_votes_among) (T.dfn (dd := []) (kd := []) 41 21) sc_votes_among fun f cdv A outer s H E hr => fss_cons (fs_set (i := 2) sc_votes_among.nd rfl (fe_lc (own := [("ballot", 4), ("many", 5)]) rfl sc_votes_among.nd (fi_own (d_Roll___iter__ T) hr (fe_v 0)) (blkOk_by (own := [("ballot", 4), ("many", 5)]) (N := N_votes_among) (sc := defScope s_votes_among) (by decide +kernel)) (fun _ _ _ _ _ => fg_t rfl (fgs_c (fg_n (i := 4) sc_votes_among.nd rfl) (fgs_c (fg_n (i := 5) sc_votes_among.nd rfl) (fgs_n)))) (fun _ _ _ _ _ => fts_nil) (fun _ _ _ _ _ => fe_tup (fa_cons (fe_a (d_top T) b_top hr takes0 (fa_cons (fe_v 4) (fa_cons (fe_v 1) (fa_nil)))) (fa_cons (fe_v 5) (fa_nil)))))) (fss_cons (fs_setLc (own := [("option", 6)]) (i := 3) rfl sc_votes_among.nd rfl rfl (sw_true rfl rfl rfl (by decide +kernel)) (fi_sq (fe_v 1)) (blkOk_by (own := [("option", 6)]) (N := N_votes_among) (sc := defScope s_votes_among) (by decide +kernel)) (fun _ _ _ _ _ => fg_n (i := 6) sc_votes_among.nd rfl) (fun _ _ _ _ _ => fts_nil) (fun _ _ _ _ _ => fe_sum T.bt (fa_cons (fe_lc (own := [("own", 7), ("many", 5)]) rfl sc_votes_among.nd (fi_sq (fe_v 2)) (blkOk_by (own := [("own", 7), ("many", 5)]) (by kernel_rfl)) (fun _ _ _ _ _ => fg_t rfl (fgs_c (fg_n (i := 7) sc_votes_among.nd rfl) (fgs_c (fg_n (i := 5) sc_votes_among.nd rfl) (fgs_n)))) (fun _ _ _ _ _ => fts_one (ft_cmp (op_eqA (hu64 hr)) v2_eq (by first | exact nomark _ | rfl) (fe_v 7) (fe_v 6))) (fun _ _ _ _ _ => fe_v 5)) (fa_nil)))) (fss_one (fs_ret (fe_tup (fa_cons (fe_tuplec T.bt (fa_cons (fe_v 3) (fa_nil))) (fa_cons (fe_op op_sub v2_sub (fe_fld (cs := [52]) (f := 4) rfl fn_total (fa_total T) (fe_v 0)) (fe_sum T.bt (fa_cons (fe_v 3) (fa_nil)))) (fa_nil)))))))
theorem d_Count___init__ (T : SaysU fa fn exL K mg) : DefI P w K mg base (cnL K) 1 2 "Count" "Count.__init__" s_Count___init__ [] [] ["self", "table"] F_Count___init__ :=
  DefI.of (N := N_Count___init__) (g := G_Count___init__) (T.clt (dd := []) (kd := []) 54 52 22 rfl ) sc_Count___init__ (by decide) fun f cdv A outer s H E hr => fss_cons (fs_fldO (i := 0) (f := 6) rfl rfl fn_table (ff_Count_table T) (fe_v 1)) (fss_cons (fs_fldO (i := 0) (f := 7) rfl rfl fn_order (ff_Count_order T) (fe_tuplec T.bt (fa_cons (fe_lc (own := [("remaining", 2), ("votes", 3), ("spent", 4), ("leaver", 5)]) rfl sc_Count___init__.nd (fi_sq (fe_sl (fe_v 1) (fo_n) (fo_s (fe_un un_neg v1_neg (fe_int))))) (blkOk_by (own := [("remaining", 2), ("votes", 3), ("spent", 4), ("leaver", 5)]) (N := N_Count___init__) (sc := defScope s_Count___init__) (by decide +kernel)) (fun _ _ _ _ _ => fg_t rfl (fgs_c (fg_n (i := 2) sc_Count___init__.nd rfl) (fgs_c (fg_n (i := 3) sc_Count___init__.nd rfl) (fgs_c (fg_n (i := 4) sc_Count___init__.nd rfl) (fgs_c (fg_n (i := 5) sc_Count___init__.nd rfl) (fgs_n)))))) (fun _ _ _ _ _ => fts_nil) (fun _ _ _ _ _ => fe_v 5)) (fa_nil)))) (fss_one (fs_fldO (i := 0) (f := 8) rfl rfl fn_winner (ff_Count_winner T) (fe_ix (fun _ _ => rfl) (fe_ix (fun _ _ => rfl) (fe_ix (fun _ _ => rfl) (fe_v 1) (fe_un un_neg v1_neg (fe_int))) (fe_int)) (fe_int)))))
theorem d_count (T : SaysU fa fn exL K mg) : DefA P w K mg base (cnL K) 3 "count" s_count [] [] ["roll"] F_count :=
  DefA.of (N := N_count) (g := G_count) (T.dfn (dd := []) (kd := []) 42 23) sc_count fun f cdv A outer s H E hr => fss_cons (fs_own (i := 1) sc_count.nd rfl (fl_lst (fa_nil))) (fss_cons (fs_set (i := 2) sc_count.nd rfl (fe_tup (fa_nil))) (fss_cons (fs_for (zs := [3]) (passes_of rfl) rfl (fi_sq (fe_sl (fe_fld (cs := [52]) (f := 44) rfl fn_options (fa_options T) (fe_v 0)) (fo_s (fe_int)) (fo_n))) (fg_n (i := 3) sc_count.nd rfl) (fss_cons (fs_set (i := 4) sc_count.nd rfl (fe_a (d_remaining_after T) b_remaining_after hr (takes_of rfl rfl rfl rfl) (fa_cons (fe_fld (cs := [52]) (f := 44) rfl fn_options (fa_options T) (fe_v 0)) (fa_cons (fe_v 2) (fa_nil))))) (fss_cons (fs_asg (zs := [5, 6]) (fe_a (d_votes_among T) b_votes_among hr (takes_of rfl rfl rfl rfl) (fa_cons (fe_v 0) (fa_cons (fe_v 4) (fa_nil)))) (fg_t rfl (fgs_c (fg_n (i := 5) sc_count.nd rfl) (fgs_c (fg_n (i := 6) sc_count.nd rfl) (fgs_n))))) (fss_cons (fs_set (i := 7) sc_count.nd rfl (fe_a (d_leaving T) b_leaving hr (takes_of rfl rfl rfl rfl) (fa_cons (fe_v 4) (fa_cons (fe_v 5) (fa_nil))))) (fss_cons (fs_app (i := 1) rfl (fe_tup (fa_cons (fe_v 4) (fa_cons (fe_v 5) (fa_cons (fe_v 6) (fa_cons (fe_v 7) (fa_nil))))))) (fss_one (fs_set (i := 2) sc_count.nd rfl (fe_op op_addA v2_add (fe_v 2) (fe_tup (fa_cons (fe_v 7) (fa_nil))))))))))) (fss_cons (fs_set (i := 4) sc_count.nd rfl (fe_a (d_remaining_after T) b_remaining_after hr (takes_of rfl rfl rfl rfl) (fa_cons (fe_fld (cs := [52]) (f := 44) rfl fn_options (fa_options T) (fe_v 0)) (fa_cons (fe_v 2) (fa_nil))))) (fss_cons (fs_asg (zs := [5, 6]) (fe_a (d_votes_among T) b_votes_among hr (takes_of rfl rfl rfl rfl) (fa_cons (fe_v 0) (fa_cons (fe_v 4) (fa_nil)))) (fg_t rfl (fgs_c (fg_n (i := 5) sc_count.nd rfl) (fgs_c (fg_n (i := 6) sc_count.nd rfl) (fgs_n))))) (fss_cons (fs_app (i := 1) rfl (fe_tup (fa_cons (fe_v 4) (fa_cons (fe_v 5) (fa_cons (fe_v 6) (fa_cons (fe_non) (fa_nil))))))) (fss_one (fs_frz 1 (fs_ret (fe_new (fn_make (d_Count___init__ T) b_Count___init__ hr (takes_of rfl rfl rfl rfl) (fa_cons (fe_tuplec T.bt (fa_cons (fe_v 1) (fa_nil))) (fa_nil))))))))))))
theorem d__law_order_right (T : SaysU fa fn exL K mg) : DefA P w K mg base (cnL K) 4 "_law_order_right" s__law_order_right [] [] ["roll", "choices", "given"] F__law_order_right :=
  DefA.of (N := N__law_order_right) (g := G__law_order_right) (T.dfn (dd := []) (kd := []) 43 24) sc__law_order_right fun f cdv A outer s H E hr => fss_cons (fs_set (i := 3) sc__law_order_right.nd rfl (fe_fld (cs := [2]) (f := 7) rfl fn_order (fa_order T) (fe_a (d_count T) b_count hr (takes_of rfl rfl rfl rfl) (fa_cons (fe_v 0) (fa_nil))))) (fss_cons (fs_if (ft_w (fw_or (ft_not (ft_val (fe_isi T.bt (fa_cons (fe_v 3) (fa_cons (fe_ty_tuple T.bt) (fa_nil)))))) (fw_or1 (ft_cmp (op_neA (hu64 hr)) v2_ne (by first | exact nomark _ | rfl) (fe_len T.bt (fa_cons (fe_v 3) (fa_nil))) (fe_op op_sub v2_sub (fe_len T.bt (fa_cons (fe_v 1) (fa_nil))) (fe_int)))))) (fss_one (fs_ret (fe_bl))) (fss_nil)) (fss_cons (fs_for (zs := [4]) (passes_of rfl) rfl (fi_sq (fe_v 3)) (fg_n (i := 4) sc__law_order_right.nd rfl) (fss_one (fs_if (ft_not (ft_val (fe_isi T.bt (fa_cons (fe_v 4) (fa_cons (fe_ty_str T.bt) (fa_nil)))))) (fss_one (fs_ret (fe_bl))) (fss_nil)))) (fss_cons (fs_for (zs := [5]) (passes_of rfl) rfl (fi_sq (fe_a (d__law_all_ballots T) b__law_all_ballots hr (takes_of rfl rfl rfl rfl) (fa_cons (fe_v 1) (fa_nil)))) (fg_n (i := 5) sc__law_order_right.nd rfl) (fss_one (fs_if (ft_cmp op_lt v2_lt (by first | exact nomark _ | rfl) (fe_len T.bt (fa_cons (fe_v 5) (fa_nil))) (fe_len T.bt (fa_cons (fe_v 1) (fa_nil)))) (fss_one (fs_if (ft_cmp (op_neA (hu64 hr)) v2_ne (by first | exact nomark _ | rfl) (fe_a (d__law_holds T) b__law_holds hr (takes_of rfl rfl rfl rfl) (fa_cons (fe_v 1) (fa_cons (fe_v 2) (fa_cons (fe_v 5) (fa_nil))))) (fe_cmp (op_eqA (hu64 hr)) v2_eq (by first | exact nomark _ | rfl) (fe_sl (fe_v 3) (fo_n) (fo_s (fe_len T.bt (fa_cons (fe_v 5) (fa_nil))))) (fe_v 5))) (fss_one (fs_ret (fe_bl))) (fss_nil))) (fss_nil)))) (fss_one (fs_ret (fe_bl))))))
theorem d_check_ballot (T : SaysU fa fn exL K mg) : DefA P w K mg base (cnL K) 1 "check_ballot" s_check_ballot [] [] ["options", "ballot"] F_check_ballot :=
  DefA.of (N := N_check_ballot) (g := G_check_ballot) (T.dfn (dd := []) (kd := []) 44 25) sc_check_ballot fun f cdv A outer s H E hr => fss_one (fs_for (zs := [2, 3]) (passes_of rfl) rfl (fi_en2 rfl T.bt.enumerate (fe_v 1)) (fg_t rfl (fgs_c (fg_n (i := 2) sc_check_ballot.nd rfl) (fgs_c (fg_n (i := 3) sc_check_ballot.nd rfl) (fgs_n)))) (fss_cons (fs_if (ft_cmp (op_ninA (hu65 hr)) v2_nin (by first | exact nomark _ | rfl) (fe_v 3) (fe_v 0)) (fss_never) (fss_nil)) (fss_one (fs_if (ft_cmp (op_inA (hu65 hr)) v2_in (by first | exact nomark _ | rfl) (fe_v 3) (fe_sl (fe_v 1) (fo_n) (fo_s (fe_v 2)))) (fss_never) (fss_nil)))))
theorem d_is_name (T : SaysU fa fn exL K mg) : DefA P w K mg base (cnL K) 1 "is_name" s_is_name [] [] ["word"] F_is_name :=
  DefA.of (N := N_is_name) (g := G_is_name) (T.dfn (dd := []) (kd := []) 45 26) sc_is_name fun f cdv A outer s H E hr => fss_cons (fs_if (ft_not (ft_chain op_le v2_le op_le v2_le (fe_int) (fe_len T.bt (fa_cons (fe_v 0) (fa_nil))) (fe_glb (T.int 18)))) (fss_one (fs_ret (fe_bl))) (fss_nil)) (fss_one (fs_ret (fe_all T.bt (fa_cons (fe_lc (own := [("letter", 1)]) rfl sc_is_name.nd (fi_sq (fe_v 0)) (blkOk_by (own := [("letter", 1)]) (N := N_is_name) (sc := defScope s_is_name) (by decide +kernel)) (fun _ _ _ _ _ => fg_n (i := 1) sc_is_name.nd rfl) (fun _ _ _ _ _ => fts_nil) (fun _ _ _ _ _ => fe_cmp (op_inA (hu65 hr)) v2_in (by first | exact nomark _ | rfl) (fe_v 1) (fe_glb (T.str 19)))) (fa_nil)))))
theorem d_checked_names (T : SaysU fa fn exL K mg) : DefA P w K mg base (cnL K) 2 "checked_names" s_checked_names [] [("hook", .bl false)] ["names", "most", "hook"] F_checked_names :=
  DefA.of (N := N_checked_names) (g := G_checked_names) (T.dfn (dd := []) (kd := [("hook", .bl false)]) 46 27) sc_checked_names fun f cdv A outer s H E hr => fss_cons (fs_if (ft_not (ft_chain op_le v2_le op_le v2_le (fe_int) (fe_len T.bt (fa_cons (fe_v 0) (fa_nil))) (fe_v 1))) (fss_never) (fss_nil)) (fss_cons (fs_for (zs := [3, 4]) (passes_of rfl) rfl (fi_en2 rfl T.bt.enumerate (fe_v 0)) (fg_t rfl (fgs_c (fg_n (i := 3) sc_checked_names.nd rfl) (fgs_c (fg_n (i := 4) sc_checked_names.nd rfl) (fgs_n)))) (fss_cons (fs_if (ft_w (fw_and (ft_not (ft_val (fe_a (d_is_name T) b_is_name hr (takes_of rfl rfl rfl rfl) (fa_cons (fe_v 4) (fa_nil))))) (fw_and1 (ft_not (ft_w (fw_and (ft_val (fe_v 2)) (fw_and1 (ft_cmp (op_eqA (hu64 hr)) v2_eq (by first | exact nomark _ | rfl) (fe_v 4) (fe_str))))))))) (fss_never) (fss_nil)) (fss_one (fs_if (ft_cmp (op_inA (hu65 hr)) v2_in (by first | exact nomark _ | rfl) (fe_v 4) (fe_sl (fe_v 0) (fo_n) (fo_s (fe_v 3)))) (fss_never) (fss_nil))))) (fss_one (fs_ret (fe_tupz T.bt (fa_cons (fe_v 0) (fa_nil))))))
theorem d_ordered_rows (T : SaysU fa fn exL K mg) : DefA P w K mg base (cnL K) 1 "ordered_rows" s_ordered_rows [] [] ["options", "counts"] F_ordered_rows :=
  DefA.of (N := N_ordered_rows) (g := G_ordered_rows) (T.dfn (dd := []) (kd := []) 47 28) sc_ordered_rows fun f cdv A outer s H E hr => fss_cons (fs_set (i := 2) sc_ordered_rows.nd rfl (fe_new (fn_dc (own := [("place", 5), ("option", 6)]) rfl sc_ordered_rows.nd (fi_en2 rfl T.bt.enumerate (fe_v 0)) (blkOk_by (own := [("place", 5), ("option", 6)]) (N := N_ordered_rows) (sc := defScope s_ordered_rows) (by decide +kernel)) (fun _ _ _ _ _ => fg_t rfl (fgs_c (fg_n (i := 5) sc_ordered_rows.nd rfl) (fgs_c (fg_n (i := 6) sc_ordered_rows.nd rfl) (fgs_n)))) (fun _ _ _ _ _ => fts_nil) (fun _ _ _ _ _ => fe_v 6) (fun _ _ _ _ _ => fe_v 5)))) (fss_cons (fs_set (i := 3) sc_ordered_rows.nd rfl (fe_sortedT (hu65 hr) T.bt (fa_cons (fe_lckT 1 (fe_lc (own := [("ballot", 7)]) rfl sc_ordered_rows.nd (fi_keyT (fe_v 1)) (blkOk_by (own := [("ballot", 7)]) (N := N_ordered_rows) (sc := defScope s_ordered_rows) (by decide +kernel)) (fun _ _ _ _ _ => fg_n (i := 7) sc_ordered_rows.nd rfl) (fun _ _ _ _ _ => fts_one (ft_cmp op_gt v2_gt (by first | exact nomark _ | rfl) (fe_ixA (hu65 hr) (fun _ _ => rfl) (fe_v 1) (fe_v 7)) (fe_int))) (fun _ _ _ _ _ => fe_tuplec T.bt (fa_cons (fe_lc (own := [("option", 6)]) rfl sc_ordered_rows.nd (fi_sq (fe_v 7)) (blkOk_by (own := [("option", 6)]) (by kernel_rfl)) (fun _ _ _ _ _ => fg_n (i := 6) sc_ordered_rows.nd rfl) (fun _ _ _ _ _ => fts_nil) (fun _ _ _ _ _ => fe_ixA (hu65 hr) (fun _ _ => rfl) (fe_v 2) (fe_v 6))) (fa_nil))))) (fa_nil)))) (fss_cons (fs_setLc (own := [("row", 8)]) (i := 4) rfl sc_ordered_rows.nd rfl rfl (sw_true rfl rfl rfl (by decide +kernel)) (fi_sq (fe_v 3)) (blkOk_by (own := [("row", 8)]) (N := N_ordered_rows) (sc := defScope s_ordered_rows) (by decide +kernel)) (fun _ _ _ _ _ => fg_n (i := 8) sc_ordered_rows.nd rfl) (fun _ _ _ _ _ => fts_nil) (fun _ _ _ _ _ => fe_tuplec T.bt (fa_cons (fe_lc (own := [("place", 5)]) rfl sc_ordered_rows.nd (fi_sq (fe_v 8)) (blkOk_by (own := [("place", 5)]) (by kernel_rfl)) (fun _ _ _ _ _ => fg_n (i := 5) sc_ordered_rows.nd rfl) (fun _ _ _ _ _ => fts_nil) (fun _ _ _ _ _ => fe_ix (fun _ _ => rfl) (fe_v 0) (fe_v 5))) (fa_nil)))) (fss_one (fs_ret (fe_tuplec T.bt (fa_cons (fe_lc (own := [("ballot", 7)]) rfl sc_ordered_rows.nd (fi_sq (fe_v 4)) (blkOk_by (own := [("ballot", 7)]) (N := N_ordered_rows) (sc := defScope s_ordered_rows) (by decide +kernel)) (fun _ _ _ _ _ => fg_n (i := 7) sc_ordered_rows.nd rfl) (fun _ _ _ _ _ => fts_nil) (fun _ _ _ _ _ => fe_tup (fa_cons (fe_v 7) (fa_cons (fe_ixA (hu65 hr) (fun _ _ => rfl) (fe_v 1) (fe_v 7)) (fa_nil))))) (fa_nil)))))))
theorem d_Roll___init__ (T : SaysU fa fn exL K mg) : DefI P w K mg base (cnL K) 3 52 "Roll" "Roll.__init__" s_Roll___init__ [.tp0] [("largest", .int 1000000000)] ["self", "options", "rows", "largest"] F_Roll___init__ :=
  DefI.of (N := N_Roll___init__) (g := G_Roll___init__) (T.cltD (dd := [.tp0]) (kd := [("largest", .int 1000000000)]) 51 49 29 rfl (fun p m e => by
    simp only [List.zipIdx_cons, List.zipIdx_nil, List.mem_cons, List.not_mem_nil, or_false] at m
    subst m
    · exact List.all_eq_true.mp T.u _ (by simp)) ) sc_Roll___init__ (by decide) fun f cdv A outer s H E hr => fss_cons (fs_fldO (i := 0) (f := 44) rfl rfl fn_options (ff_Roll_options T) (fe_ak (d_checked_names T) (fun F => kb_checked_names_2 F) hr (takes_of rfl rfl rfl rfl) (fa_cons (fe_v 1) (fa_cons (fe_glb (T.int 20)) (fa_nil))) (fk_nil))) (fss_cons (fs_new (i := 4) sc_Roll___init__.nd rfl fn_dT) (fss_cons (fs_for (zs := [5, 6]) (passes_of rfl) rfl (fi_sq (fe_v 2)) (fg_t rfl (fgs_c (fg_n (i := 5) sc_Roll___init__.nd rfl) (fgs_c (fg_n (i := 6) sc_Roll___init__.nd rfl) (fgs_n)))) (fss_cons (fs_expr (fe_a (d_check_ballot T) b_check_ballot hr (takes_of rfl rfl rfl rfl) (fa_cons (fe_fldO (i := 0) (f := 44) rfl rfl fn_options (ff_Roll_options T)) (fa_cons (fe_v 5) (fa_nil))))) (fss_cons (fs_if (ft_w (fw_or (ft_cmp op_lt v2_lt (by first | exact nomark _ | rfl) (fe_v 6) (fe_int)) (fw_or1 (ft_w (fw_and (ft_cmp op_notN v2_notN (by first | exact nomark _ | rfl) (fe_v 3) (fe_non)) (fw_and1 (ft_cmp op_gt v2_gt (by first | exact nomark _ | rfl) (fe_v 6) (fe_v 3)))))))) (fss_never) (fss_nil)) (fss_one (fs_putT (i := 4) (hu65 hr) rfl (fe_bor (fe_op op_addA v2_add (fe_get2 (hu65 hr) (fe_v 4) (fe_v 5) (fe_int)) (fe_v 6))) (fe_v 5)))))) (fss_cons (fs_frz 4 (fs_fldO (i := 0) (f := 51) rfl rfl fn__rows (ff_Roll__rows T) (fe_a (d_ordered_rows T) b_ordered_rows hr (takes_of rfl rfl rfl rfl) (fa_cons (fe_fldO (i := 0) (f := 44) rfl rfl fn_options (ff_Roll_options T)) (fa_cons (fe_v 4) (fa_nil)))))) (fss_one (fs_fldO (i := 0) (f := 4) rfl rfl fn_total (ff_Roll_total T) (fe_sum T.bt (fa_cons (fe_lc (own := [("ballot", 5), ("many", 6)]) rfl sc_Roll___init__.nd (fi_sq (fe_fldO (i := 0) (f := 51) rfl rfl fn__rows (ff_Roll__rows T))) (blkOk_by (own := [("ballot", 5), ("many", 6)]) (N := N_Roll___init__) (sc := defScope s_Roll___init__) (by decide +kernel)) (fun _ _ _ _ _ => fg_t rfl (fgs_c (fg_n (i := 5) sc_Roll___init__.nd rfl) (fgs_c (fg_n (i := 6) sc_Roll___init__.nd rfl) (fgs_n)))) (fun _ _ _ _ _ => fts_nil) (fun _ _ _ _ _ => fe_v 6)) (fa_nil))))))))
theorem d_Roll___add__ (T : SaysU fa fn exL K mg) : DefM P w K mg base (cnL K) 5 52 "__add__" "Roll.__add__" s_Roll___add__ [] [] ["self", "other"] F_Roll___add__ :=
  DefM.of (N := N_Roll___add__) (g := G_Roll___add__) (T.met (x := "Roll") (dd := []) (kd := []) 50 57 30 rfl) sc_Roll___add__ fun f cdv A outer s H E hr => fss_cons (fs_if (ft_cmp (op_neA (hu64 hr)) v2_ne (by first | exact nomark _ | rfl) (fe_fld (cs := [52]) (f := 44) rfl fn_options (fa_options T) (fe_v 0)) (fe_fld (cs := [52]) (f := 44) rfl fn_options (fa_options T) (fe_v 1))) (fss_never) (fss_nil)) (fss_one (fs_ret (fe_new (fn_makeK (d_Roll___init__ T) (fun F => kb_Roll___init___2_largest F) hr (takes_of rfl rfl rfl rfl) (fa_cons (fe_fld (cs := [52]) (f := 44) rfl fn_options (fa_options T) (fe_v 0)) (fa_cons (fe_op op_addA v2_add (fe_fld (cs := [52]) (f := 51) rfl fn__rows (fa__rows T) (fe_v 0)) (fe_fld (cs := [52]) (f := 51) rfl fn__rows (fa__rows T) (fe_v 1))) (fa_nil))) (fk_cons (fe_non) (fk_nil))))))
theorem d_law (T : SaysU fa fn exL K mg) : DefA P w K mg base (cnL K) 10 "law" s_law [] [] ["script"] F_law :=
  DefA.of (N := N_law) (g := G_law) (T.dfn (dd := []) (kd := []) 48 31) sc_law fun f cdv A outer s H E hr => fss_cons (fs_set (i := 1) sc_law.nd rfl (fe_a (d__law_pool T) b__law_pool hr (takes_of rfl rfl rfl rfl) (fa_cons (fe_a (d__law_cell T) b__law_cell hr (takes_of rfl rfl rfl rfl) (fa_cons (fe_v 0) (fa_cons (fe_int) (fa_nil)))) (fa_cons (fe_int) (fa_nil))))) (fss_cons (fs_set (i := 2) sc_law.nd rfl (fe_a (d__law_names T) b__law_names hr (takes_of rfl rfl rfl rfl) (fa_cons (fe_v 1) (fa_cons (fe_int) (fa_cons (fe_op op_addA v2_add (fe_int) (fe_a (d__law_part T) b__law_part hr (takes_of rfl rfl rfl rfl) (fa_cons (fe_v 1) (fa_cons (fe_int) (fa_cons (fe_int) (fa_cons (fe_int) (fa_nil))))))) (fa_nil)))))) (fss_cons (fs_set (i := 3) sc_law.nd rfl (fe_a (d__law_pool T) b__law_pool hr (takes_of rfl rfl rfl rfl) (fa_cons (fe_a (d__law_cell T) b__law_cell hr (takes_of rfl rfl rfl rfl) (fa_cons (fe_v 0) (fa_cons (fe_int) (fa_nil)))) (fa_cons (fe_int) (fa_nil))))) (fss_cons (fs_set (i := 4) sc_law.nd rfl (fe_a (d__law_given T) b__law_given hr (takes_of rfl rfl rfl rfl) (fa_cons (fe_v 2) (fa_cons (fe_v 1) (fa_cons (fe_v 3) (fa_cons (fe_a (d__law_cell T) b__law_cell hr (takes_of rfl rfl rfl rfl) (fa_cons (fe_v 0) (fa_cons (fe_int) (fa_nil)))) (fa_nil))))))) (fss_cons (fs_set (i := 5) sc_law.nd rfl (fe_a (d__law_ballots T) b__law_ballots hr (takes_of rfl rfl rfl rfl) (fa_cons (fe_v 3) (fa_cons (fe_int) (fa_cons (fe_v 2) (fa_cons (fe_a (d__law_part T) b__law_part hr (takes_of rfl rfl rfl rfl) (fa_cons (fe_v 1) (fa_cons (fe_int) (fa_cons (fe_int) (fa_cons (fe_int) (fa_nil)))))) (fa_nil))))))) (fss_cons (fs_if (ft_not (ft_val (fe_a (d__law_leads_right T) b__law_leads_right hr (takes_of rfl rfl rfl rfl) (fa_cons (fe_v 2) (fa_nil))))) (fss_one (fs_ret (fe_bl))) (fss_nil)) (fss_cons (fs_set (i := 6) sc_law.nd rfl (fe_new (fn_makeK (d_Roll___init__ T) (fun F => kb_Roll___init___2 F) hr (takes_of rfl rfl rfl rfl) (fa_cons (fe_listc T.bt (fa_cons (fe_v 2) (fa_nil))) (fa_cons (fe_listc T.bt (fa_cons (fe_v 4) (fa_nil))) (fa_nil))) (fk_nil)))) (fss_cons (fs_set (i := 7) sc_law.nd rfl (fe_new (fn_makeK (d_Roll___init__ T) (fun F => kb_Roll___init___2 F) hr (takes_of rfl rfl rfl rfl) (fa_cons (fe_listc T.bt (fa_cons (fe_v 2) (fa_nil))) (fa_cons (fe_listc T.bt (fa_cons (fe_v 5) (fa_nil))) (fa_nil))) (fk_nil)))) (fss_cons (fs_if (ft_w (fw_or (ft_not (ft_val (fe_a (d__law_order_right T) b__law_order_right hr (takes_of rfl rfl rfl rfl) (fa_cons (fe_v 6) (fa_cons (fe_v 2) (fa_cons (fe_v 4) (fa_nil))))))) (fw_or1 (ft_not (ft_val (fe_a (d__law_order_right T) b__law_order_right hr (takes_of rfl rfl rfl rfl) (fa_cons (fe_v 7) (fa_cons (fe_v 2) (fa_cons (fe_v 5) (fa_nil)))))))))) (fss_one (fs_ret (fe_bl))) (fss_nil)) (fss_one (fs_ret (fe_a (d__law_order_right T) b__law_order_right hr (takes_of rfl rfl rfl rfl) (fa_cons (fe_opO (op := .Add) (d_Roll___add__ T) (sf_Roll T) b_Roll___add__ hr (takes_of rfl rfl rfl rfl) (fe_v 6) (fe_v 7)) (fa_cons (fe_v 2) (fa_cons (fe_op op_addA v2_add (fe_v 4) (fe_v 5)) (fa_nil)))))))))))))))
end
end Tk

namespace Tk
open PySem PySem.Spec L2 PyProof.Rows
theorem law_true : forall ns : List Int, ns.length <= 63 -> F_law [.scr ns] = .ok (.bl true) := by
  intro ns hns
  obtain ⟨v0, c0⟩ := cell_ok (ns := ns) (k := 0) (by decide) (by omega)
  obtain ⟨v1, c1⟩ := cell_ok (ns := ns) (k := 1) (by decide) (by omega)
  obtain ⟨v2, c2⟩ := cell_ok (ns := ns) (k := 2) (by decide) (by omega)
  obtain ⟨hs, hl, _, p6⟩ := pool15_ok (c := v0) (n := 6) (by decide) (by decide)
  obtain ⟨ps, pl, _, p36⟩ := pool15_ok (c := v1) (n := 36) (by decide) (by decide)
  have hl : hs.length = 6 := hl
  have pl : ps.length = 36 := pl
  have q1 := part_ok (ps := hs) (spot := 5) (under := 1) (size := 4) (by decide) (by omega) (by decide) (by decide) (by decide)
  have a1 := part_lo (ps := hs) (spot := 5) (under := 1) (size := 4) (by decide)
  have b1 := part_hi (ps := hs) (spot := 5) (under := 1) (size := 4) (by decide)
  have q2 := part_ok (ps := hs) (spot := 5) (under := 208) (size := 7) (by decide) (by omega) (by decide) (by decide) (by decide)
  have a2 := part_lo (ps := hs) (spot := 5) (under := 208) (size := 7) (by decide)
  have b2 := part_hi (ps := hs) (spot := 5) (under := 208) (size := 7) (by decide)
  generalize part hs 5 1 4 = x at *
  generalize part hs 5 208 7 = y at *
  obtain ⟨os, lo, oo, on, nm⟩ := names_ok (ps := hs) (spot := 0) (number := 1 + x) (by decide) (by omega) (by omega) (by omega)
  have ho : okOpts os := ⟨by omega, by omega, oo, on⟩
  obtain ⟨gs, og, gv⟩ := given_ok (hs := hs) (ps := ps) (cell := v2) ho (by omega) (by omega)
  obtain ⟨ts, ot, _, bl⟩ := ballots_ok (ps := ps) (spot := 24) (number := y) ho (by decide) a2 (by omega) (by omega)
  have r1 := unA_eq fun a => roll_ok (a := a) (z := false) (rv := .lst (gs.map rowD)) (lg := some 1000000000) ho og.tookRows (fun l e r m => by cases e; exact og.big r m) og.few1 rfl
  have r2 := unA_eq fun a => roll_ok (a := a) (z := false) (rv := .lst (ts.map rowD)) (lg := some 1000000000) ho ot.tookRows (fun l e r m => by cases e; exact ot.big r m) ot.few1 rfl
  have r1 : (unA fun a => F_Roll___init__ a [.lst (os.map nD), .lst (gs.map rowD), .int 1000000000]) = _ := r1
  have r2 : (unA fun a => F_Roll___init__ a [.lst (os.map nD), .lst (ts.map rowD), .int 1000000000]) = _ := r2
  obtain ⟨n1, n2, n3⟩ := norm_ok og.tookRows
  obtain ⟨m1, m2, m3⟩ := norm_ok ot.tookRows
  have gf := og.few
  have tf := ot.few
  have S1 : SS (normR os gs) = SS gs := funext fun p => n3 p
  have S2 : SS (normR os ts) = SS ts := funext fun p => m3 p
  have o1 := order_ok ho og.tookRows (by omega) S1
  have o2 := order_ok ho ot.tookRows (by omega) S2
  have ra := radd_ok ho n1.rows m1.rows (by omega)
  obtain ⟨k1, k2, k3⟩ := norm_ok (n1.rows.app m1.rows)
  rw [List.length_append] at k2
  have S3 : SS (normR os (normR os gs ++ normR os ts)) = SS (gs ++ ts) := funext fun p => by
    show sumP p (normR os (normR os gs ++ normR os ts)) = sumP p (gs ++ ts)
    rw [k3, sumP_append, sumP_append, n3, m3]
  have o3 := order_ok ho (og.tookRows.app ot.tookRows) (by omega) S3
  have ga : gAdd (.lst (gs.map rowD)) (.lst (ts.map rowD)) = .ok (.lst ((gs ++ ts).map rowD)) := by
    show (if (gs.map rowD).length + (ts.map rowD).length ≤ sizeLine then R.ok (D.lst (gs.map rowD ++ ts.map rowD)) else .bad) = _
    rw [if_pos (by rw [List.length_map, List.length_map, sz24]; omega), List.map_append]
  have lr := leads_ok ho
  have gd : ∀ d : D, gDk [0, 1, 3] [.tp0, .int 1000000000] [.lst (os.map nD), d] [] = [.lst (os.map nD), d, .int 1000000000] := fun _ => rfl
  have nmE : F__law_names [.lst (hs.map .int), .int 0, .int (1 + x)] = .ok (.lst (os.map nD)) := nm
  have rd : ∀ ns : List Row, D.ins 52 [(44, zD os), (51, .tup (ns.map rowD)), (4, .int (totR ns))] = rollD os ns := fun _ => rfl
  have g2 : gDun2 52 F_Roll___add__ (rollD os (normR os gs)) (rollD os (normR os ts)) = .ok (rollD os (normR os (normR os gs ++ normR os ts))) := by
    show (if (isIns 52 (rollD os (normR os gs)) && isIns 52 (rollD os (normR os ts))) = true then R.ins 52 (F_Roll___add__ [rollD os (normR os gs), rollD os (normR os ts)]) else .bad) = _
    rw [ra]
    rfl
  unfold F_law G_law
  simp_arith [c0, p6, q1, nmE, c1, p36, c2, gv, q2, bl, lr, eFrz_ap, nMakeK_ap, gd, r1, r2, frzR_o, rd, o1, o2, g2, ga, o3]
end Tk

set_option maxHeartbeats 0
namespace Tk
open PySem PySem.Spec L2 PyProof.Rows
abbrev Rw : PySem.W.OpenRow := PySem.W.OpenLaw.row PySem.Challenge.rw_turnsandkeys_k16_whole_order_by_leads
abbrev hookL : PySem.W.Hook := hookM 5 fa fn exL
def obL (s : PySem.W.SharedT) : AlM := obsM 5 fa fn exL (HandSHeadRun.getT s)
theorem obL_eq (s : PySem.W.SharedT) : obL s = hookL.obs s.abs := obsM_eq (HandSHeadRun.getT_eq s)
def loose : List PySem.Str := (["top", "remaining_after", "votes_among", "leaving", "Count", "count", "HouseError", "BadName", "DoubledName", "UnknownName", "BadNumber", "BadCount", "OtherNames", "LETTERS", "MOST_LETTERS", "is_name", "checked_names", "MOST_OPTIONS", "LARGEST_COUNT", "check_ballot", "ordered_rows", "Roll", "lead", "_law_cell", "_law_mixed", "_law_pool", "_law_part", "_law_names", "_law_big", "_law_ballots"] : List PySem.Str) ++ (["_law_integer", "_law_same", "_law_votes", "_law_all_ballots", "_law_turned_about", "_law_each_ballot", "_law_given", "_law_leads_right", "_law_holds", "_law_order_right"] : List PySem.Str)
theorem runL (w : World) : HandSHeadRun.RunEq Rw (PySem.W.view Rw.prog [46]) hookL obL 4000 loose w := by
  intro os
  kernel_rfl
theorem head_ok {w : World} {K : PySem.W.Frag} {h : Heap} {mg : Str → Option Value} {f : Addr} (X : K.In h) (G : h.Ns mainGlobals mg) (hfa : mg ("law" : Str) = some (.ref f)) (c : He.SaysD fa fn K ∧ exL K = true) : LawOk PySem.Challenge.rw_turnsandkeys_k16_whole_order_by_leads F_law 10 w mg f h := by
  have T : SaysU fa fn exL K mg := ⟨⟨⟨h, X, G⟩, c.1⟩, c.2⟩
  obtain ⟨fd, F⟩ := T.fd (dd := []) (kd := []) 31 rfl rfl rfl
  have e := hfa.symm.trans (He.glo_ok X G (T.c.fact 48 (f := .glo "law") rfl))
  cases e
  refine ⟨K, fd, cnL K, X, fun s u => FunD.bindsA (ps := ["script"]) F (fun _ _ _ _ _ _ us hl => match us, hl with | [_], _ => rfl) s [u] rfl, fun b KB NB => ?_⟩
  have T2 : SaysU fa fn exL K mg := ⟨⟨⟨b, KB, NB⟩, c.1⟩, c.2⟩
  obtain ⟨f2, fd2, F2, h2, h3⟩ := (d_law (P := (PySem.Challenge.rw_turnsandkeys_k16_whole_order_by_leads).prog) (w := w) (base := b) T2).ex
  have e2 := (He.glo_ok X G (T.c.fact 48 (f := .glo "law") rfl)).symm.trans h2
  cases e2
  have e3 : fd2 = fd := FunD.same h3 F
  rw [← e3]
  exact F2
end Tk
open PySem PySem.W PySem.Calls PyProof.Rows
theorem PySem.Challenge.cw_turnsandkeys_k16_whole_order_by_leads_holds : PySem.Challenge.rw_turnsandkeys_k16_whole_order_by_leads.Holds := by
  w_on; o_law
  refine HandSHeadRun.head_any (r := OpenLaw.row PySem.Challenge.rw_turnsandkeys_k16_whole_order_by_leads) (q := view (OpenLaw.row PySem.Challenge.rw_turnsandkeys_k16_whole_order_by_leads).prog [46]) (H := Tk.hookL) (ob := Tk.obL) (M := 4000) (loose := Tk.loose) (d := HandSHeadRun.topDef (OpenLaw.row PySem.Challenge.rw_turnsandkeys_k16_whole_order_by_leads).prog 46) (kwd := []) Tk.obL_eq
    (by kernel_rfl) (fun s => by kernel_rfl) Tk.runL (by kernel_rfl) (by kernel_rfl) (by kernel_rfl) (by rfl) (by first | assumption | decide +kernel) (by decide +kernel) ⟨rfl, rfl, rfl, rfl, rfl, by decide +kernel⟩ ?hw ?hc
  case hw => w_witness2
  case hc =>
    refine Tk.law_walk (l := PySem.Challenge.rw_turnsandkeys_k16_whole_order_by_leads) (k := 10) (F := Tk.F_law) rfl (by kernel_rfl) ⟨rfl, by decide, by decide⟩ ?F Tk.law_true
    intro w mg fa h Y G hmg0
    obtain ⟨K, KX, c⟩ := Y
    refine Tk.head_ok KX G ?_ c
    have e : (HandSHeadRun.topDef (OpenLaw.row PySem.Challenge.rw_turnsandkeys_k16_whole_order_by_leads).prog 46).name = ("law" : PySem.Str) := by kernel_rfl
    rw [← e]
    exact hmg0
