import PyProof.Rows.All
import Wide.All
import OpenK.AllK
import Wide.FinOn
import HandS.ForMost
import HandS.WordsExc
import HandS.Exc
import HandS.ExcOwn
import HandS.TryOnly
import HandS.IsInst
import HandS.Flow
import HandS.Zip
import HandS.DictTup
import HandS.Wide
import HandS.TupAny
import HandS.Style
import HandS.Deep
import HandS.TupLe
import HandS.Defaults
import HandS.Rev
import HandS.IterVal
import HandS.More
import KE.GoesNew
import HandS.SortRule
import HandS.SortInts
import HandS.HeadHook2
import HandS.MakeKw
import HandS.MakeKwOnly
import HandS.Dict
import HandS.ForDict
import KE.KDictZip
import HandS.Property
import HandS.MethStar
import HandS.SortKw
import HandS.DictComp
import HandS.Strs
import KE.LtSeq
import KE.KSortAsk
import KE.KTupSum
import KE.KStateDown
import HandS.Ends
import HandS.Head0
import HandS.Head1
import HandS.Head2
import HandS.Head3
import HandS.HeadEnd
import HandS.Gcd
import HandS.OwnEq
import HandS.Conv
import PyProof.ListNew
import KE.KSortTupAny
import HandS.ClsMeth
import HandS.Star
import HandS.HeadNt
import HandS.Text
import PyProof.Rows.StrMeet
import KE.DatumOrd
import KE.KCallOwn
import KE.DataCmp
import PyProof.EnumStmt
import PyProof.StrBlock2
import HandS.ExcInit
import KE.KSuper
import KE.KExcSuper
import HandS.ExcField
import HandS.ExcIs
import HandS.TryMany
import KE.KExcIs
import HandS.Nested
import PySem.Challenge.RW_turnsandkeys_k45_turn_lets
set_option Elab.async false
set_option linter.all false
set_option maxRecDepth 100000
namespace Tk
open PySem PySem.Spec L2
inductive D where
  | non | bl (b : Bool) | int (i : Int) | str (s : Str) | ty (n : String) | cl (c : Nat)
  | scr (ns : List Int)
  | lst (xs : List D) | tup (xs : List D) | tpz (xs : List D) | tp0
  | dK (kvs : List (Key × D)) | dT (kvs : List (List Key × D)) | zK (kvs : List (Key × D)) | zT (kvs : List (List Key × D))
  | ins (c : Nat) (fs : List (Nat × D))
structure Cn where
  a : Nat → Option Addr
  n : Nat → Str
  /-- the exception that a suite handles: its place, its class, its dict -/
  φ : Addr → Value → Option Addr → Prop := fun _ _ _ => False
def TupAt (K : PySem.W.Frag) (G : Hp) (a : Addr) (vs : List V) : Prop := G a = some (.tup vs)
section
variable (K : PySem.W.Frag) (ca : Cn) (G : Hp)
mutual
def At : D → V → Prop
  | .non, v => v = .non
  | .bl b, v => v = .bl b
  | .int i, v => v = .int i
  | .str s, v => v = .str s
  | .ty n, v => v = .ty n
  | .cl c, v => ∃ C, ca.a c = some C ∧ v = .ref C
  | .scr ns, v => ∃ a, v = .ref a ∧ SqL K G a (ns.map V.int)
  | .lst xs, v => ∃ a vs, v = .ref a ∧ G a = some (.lst vs) ∧ AtL xs vs
  | .tup xs, v => ∃ a vs, v = .ref a ∧ TupAt K G a vs ∧ AtL xs vs
  | .tpz xs, v => ∃ a o vs, v = .ref a ∧ (o.cls = .type "tuple" ∧ o.dict = none) ∧ G a = some (.frz o (.tup vs)) ∧ AtL xs vs
  | .tp0, v => ∃ a, v = .ref a ∧ SqT K G a []
  | .dK kvs, v => ∃ a vs, v = .ref a ∧ Rd G a (.dK vs) ∧ AtK kvs vs
  | .dT kvs, v => ∃ a vs, v = .ref a ∧ Rd G a (.dT vs) ∧ AtT kvs vs
  | .zK kvs, v => ∃ a o vs, v = .ref a ∧ G a = some (.frz o (.dK vs)) ∧ AtK kvs vs
  | .zT kvs, v => ∃ a o vs, v = .ref a ∧ G a = some (.frz o (.dT vs)) ∧ AtT kvs vs
  | .ins c fs, v => ∃ a C dx vs, v = .ref a ∧ ca.a c = some C ∧ G a = some (.ins C dx vs) ∧ AtF fs vs
def AtL : List D → List V → Prop
  | [], vs => vs = []
  | d :: ds, vs => ∃ v r, vs = v :: r ∧ At d v ∧ AtL ds r
def AtK : List (Key × D) → List (Key × V) → Prop
  | [], vs => vs = []
  | (k, d) :: ds, vs => ∃ v r, vs = (k, v) :: r ∧ At d v ∧ AtK ds r
def AtT : List (List Key × D) → List (List Key × V) → Prop
  | [], vs => vs = []
  | (k, d) :: ds, vs => ∃ v r, vs = (k, v) :: r ∧ At d v ∧ AtT ds r
def AtF : List (Nat × D) → List (Str × V) → Prop
  | [], vs => vs = []
  | (k, d) :: ds, vs => ∃ v r, vs = (ca.n k, v) :: r ∧ At d v ∧ AtF ds r
end
end
theorem Rd.mono {G G' : Hp} {a : Addr} {u : HO} (s : Same G G') (h : Rd G a u) : Rd G' a u := by
  rcases h with h | ⟨o, h⟩
  · exact .inl (s _ _ h)
  · exact .inr ⟨o, s _ _ h⟩
theorem SqL_mono {K : PySem.W.Frag} {G G' : Hp} {a : Addr} {xs : List V} (s : Same G G') (h : SqL K G a xs) : SqL K G' a xs := s.seq h
theorem SqT_mono {K : PySem.W.Frag} {G G' : Hp} {a : Addr} {xs : List V} (s : Same G G') (h : SqT K G a xs) : SqT K G' a xs := by
  rcases h with h | h
  · exact .inl (Rd.mono s h)
  · exact .inr h
theorem TupAt.mono {K : PySem.W.Frag} {G G' : Hp} {a : Addr} {vs : List V} (s : Same G G') (h : TupAt K G a vs) : TupAt K G' a vs := s a (.tup vs) h
theorem tq {K : PySem.W.Frag} {G G' : Hp} {a : Addr} {vs : List V} (s : Same G G') (h : TupAt K G a vs) : SqT K G' a vs := .of (s a (.tup vs) h)
section
variable {K : PySem.W.Frag} {ca : Cn} {G G' : Hp}
mutual
theorem At.mono (s : Same G G') : ∀ {d : D} {v : V}, At K ca G d v → At K ca G' d v
  | .non, v, h => h
  | .bl _, v, h => h
  | .int _, v, h => h
  | .str _, v, h => h
  | .ty _, v, h => h
  | .cl _, v, h => h
  | .scr ns, v, ⟨a, e, h⟩ => ⟨a, e, SqL_mono s h⟩
  | .lst xs, v, ⟨a, vs, e, h, r⟩ => ⟨a, vs, e, s _ _ h, AtL.mono s r⟩
  | .tup xs, v, ⟨a, vs, e, h, r⟩ => ⟨a, vs, e, TupAt.mono s h, AtL.mono s r⟩
  | .tpz xs, v, ⟨a, o, vs, e, q, h, r⟩ => ⟨a, o, vs, e, q, s _ _ h, AtL.mono s r⟩
  | .tp0, v, ⟨a, e, h⟩ => ⟨a, e, SqT_mono s h⟩
  | .dK xs, v, ⟨a, vs, e, h, r⟩ => ⟨a, vs, e, Rd.mono s h, AtK.mono s r⟩
  | .dT xs, v, ⟨a, vs, e, h, r⟩ => ⟨a, vs, e, Rd.mono s h, AtT.mono s r⟩
  | .zK xs, v, ⟨a, o, vs, e, h, r⟩ => ⟨a, o, vs, e, s _ _ h, AtK.mono s r⟩
  | .zT xs, v, ⟨a, o, vs, e, h, r⟩ => ⟨a, o, vs, e, s _ _ h, AtT.mono s r⟩
  | .ins c xs, v, ⟨a, C, dx, vs, e, q, h, r⟩ => ⟨a, C, dx, vs, e, q, s _ _ h, AtF.mono s r⟩
theorem AtL.mono (s : Same G G') : ∀ {ds : List D} {vs : List V}, AtL K ca G ds vs → AtL K ca G' ds vs
  | [], _, h => h
  | _ :: _, _, ⟨v, r, e, h, t⟩ => ⟨v, r, e, At.mono s h, AtL.mono s t⟩
theorem AtK.mono (s : Same G G') : ∀ {ds : List (Key × D)} {vs : List (Key × V)}, AtK K ca G ds vs → AtK K ca G' ds vs
  | [], _, h => h
  | (_, _) :: _, _, ⟨v, r, e, h, t⟩ => ⟨v, r, e, At.mono s h, AtK.mono s t⟩
theorem AtT.mono (s : Same G G') : ∀ {ds : List (List Key × D)} {vs : List (List Key × V)}, AtT K ca G ds vs → AtT K ca G' ds vs
  | [], _, h => h
  | (_, _) :: _, _, ⟨v, r, e, h, t⟩ => ⟨v, r, e, At.mono s h, AtT.mono s t⟩
theorem AtF.mono (s : Same G G') : ∀ {ds : List (Nat × D)} {vs : List (Str × V)}, AtF K ca G ds vs → AtF K ca G' ds vs
  | [], _, h => h
  | (_, _) :: _, _, ⟨v, r, e, h, t⟩ => ⟨v, r, e, At.mono s h, AtF.mono s t⟩
end
theorem AtL.length : ∀ {ds : List D} {vs : List V}, AtL K ca G ds vs → ds.length = vs.length
  | [], _, h => by cases h; rfl
  | _ :: _, _, ⟨_, _, e, _, t⟩ => by subst e; simp [AtL.length t]
theorem AtL.get : ∀ {ds : List D} {vs : List V} {i : Nat} {d : D}, AtL K ca G ds vs → ds[i]? = some d → ∃ v, vs[i]? = some v ∧ At K ca G d v
  | [], _, _, _, _, e => by simp at e
  | d :: ds, _, 0, _, ⟨v, r, e, h, t⟩, q => by subst e; simp at q; subst q; exact ⟨v, rfl, h⟩
  | d :: ds, _, i + 1, _, ⟨v, r, e, h, t⟩, q => by
    subst e
    obtain ⟨w, h1, h2⟩ := AtL.get (i := i) t (by simpa using q)
    exact ⟨w, by simpa using h1, h2⟩
theorem AtL.append : ∀ {ds es : List D} {vs ws : List V}, AtL K ca G ds vs → AtL K ca G es ws → AtL K ca G (ds ++ es) (vs ++ ws)
  | [], _, _, _, h, h' => by cases h; exact h'
  | _ :: _, _, _, _, ⟨v, r, e, h, t⟩, h' => by subst e; exact ⟨v, _, rfl, h, AtL.append t h'⟩
theorem AtL.one {d : D} {v : V} (h : At K ca G d v) : AtL K ca G [d] [v] := ⟨v, [], rfl, h, rfl⟩
theorem AtL.drop : ∀ {ds : List D} {vs : List V} (n : Nat), AtL K ca G ds vs → AtL K ca G (ds.drop n) (vs.drop n)
  | _, _, 0, h => h
  | [], _, _ + 1, h => by cases h; rfl
  | _ :: _, _, n + 1, ⟨_, _, e, _, t⟩ => by subst e; exact AtL.drop n t
theorem AtL.take : ∀ {ds : List D} {vs : List V} (n : Nat), AtL K ca G ds vs → AtL K ca G (ds.take n) (vs.take n)
  | _, _, 0, _ => rfl
  | [], _, _ + 1, h => by cases h; rfl
  | _ :: _, _, n + 1, ⟨_, _, e, h, t⟩ => by subst e; exact ⟨_, _, rfl, h, AtL.take n t⟩
theorem AtL.reverse : ∀ {ds : List D} {vs : List V}, AtL K ca G ds vs → AtL K ca G ds.reverse vs.reverse
  | [], _, h => by cases h; rfl
  | _ :: _, _, ⟨_, _, e, h, t⟩ => by subst e; rw [List.reverse_cons, List.reverse_cons]; exact AtL.append (AtL.reverse t) (AtL.one h)
theorem AtL.set : ∀ {ds : List D} {vs : List V} (n : Nat) {d : D} {v : V}, AtL K ca G ds vs → At K ca G d v → AtL K ca G (ds.set n d) (vs.set n v)
  | [], _, _, _, _, h, _ => by cases h; rfl
  | _ :: _, _, 0, _, _, ⟨_, _, e, h, t⟩, q => by subst e; exact ⟨_, _, rfl, q, t⟩
  | _ :: _, _, n + 1, _, _, ⟨_, _, e, h, t⟩, q => by subst e; exact ⟨_, _, rfl, h, AtL.set n t q⟩
theorem AtL.ints : ∀ {ns : List Int} {vs : List V}, AtL K ca G (ns.map D.int) vs → vs = ns.map V.int
  | [], _, h => h
  | _ :: _, _, ⟨_, _, e, h, t⟩ => by subst e; cases h; rw [AtL.ints t]; rfl
theorem AtL.of_ints : ∀ (ns : List Int), AtL K ca G (ns.map D.int) (ns.map V.int)
  | [] => rfl
  | _ :: ns => ⟨_, _, rfl, rfl, AtL.of_ints ns⟩
theorem AtL.eraseIdx : ∀ {ds : List D} {vs : List V} (n : Nat), AtL K ca G ds vs → AtL K ca G (ds.eraseIdx n) (vs.eraseIdx n)
  | [], _, _, h => by cases h; rfl
  | _ :: _, _, 0, ⟨_, _, e, h, t⟩ => by subst e; exact t
  | _ :: _, _, n + 1, ⟨_, _, e, h, t⟩ => by subst e; exact ⟨_, _, rfl, h, AtL.eraseIdx n t⟩
theorem AtF.lookup : ∀ {fs : List (Nat × D)} {vs : List (Str × V)} {n : Nat} {d : D}, (∀ p ∈ fs, ca.n p.1 = ca.n n → p.1 = n) → AtF K ca G fs vs → fs.lookup n = some d → ∃ v, vs.lookup (ca.n n) = some v ∧ At K ca G d v
  | [], _, _, _, _, _, e => by simp at e
  | (k, d) :: ds, _, n, _, i, ⟨v, r, e, h, t⟩, q => by
    subst e
    rw [List.lookup_cons] at q ⊢
    by_cases z : n = k
    · subst z
      rw [beq_self_eq_true] at q ⊢
      cases q
      exact ⟨v, rfl, h⟩
    · have z' : (ca.n n == ca.n k) = false := beq_eq_false_iff_ne.mpr fun y => z (i (k, d) List.mem_cons_self y.symm).symm
      rw [beq_eq_false_iff_ne.mpr z] at q
      rw [z']
      exact AtF.lookup (fun p m => i p (List.mem_cons_of_mem _ m)) t q
theorem AtF.lookup_none : ∀ {fs : List (Nat × D)} {vs : List (Str × V)} {n : Str}, (∀ p ∈ fs, ca.n p.1 ≠ n) → AtF K ca G fs vs → vs.lookup n = none
  | [], _, _, _, h => by cases h; rfl
  | (k, d) :: ds, _, n, i, ⟨v, r, e, h, t⟩ => by
    subst e
    rw [List.lookup_cons, beq_eq_false_iff_ne.mpr (Ne.symm (i (k, d) List.mem_cons_self))]
    exact AtF.lookup_none (fun p m => i p (List.mem_cons_of_mem _ m)) t
end
def Fre (H : Hp) (a : Addr) : Prop := H a = none ∨ ∃ vs, H a = some (.tup vs)
theorem Fre.up {H H' : Hp} {a : Addr} (s : Same H H') (h : Fre H' a) : Fre H a := by
  cases e : H a with
  | none => exact .inl e
  | some o =>
    rcases h with h | ⟨vs, h⟩
    · rw [s a o e] at h; cases h
    · rw [s a o e] at h; cases h; exact .inr ⟨vs, e⟩
theorem Fre.no {H : Hp} {a : Addr} {o : HO} (h : Fre H a) (e : H a = some o) (n : ∀ vs, o ≠ .tup vs) : False := by
  rcases h with h | ⟨vs, h⟩
  · rw [h] at e; cases e
  · rw [h] at e; cases e; exact n vs rfl
structure Ext (G H G' H' : Hp) : Prop where
  hh : Same H H'
  gg : Same G G'
  gh : Same G' H'
  nw : ∀ a, G' a ≠ none → G a ≠ none ∨ Fre H a
theorem Ext.refl {G H : Hp} (s : Same G H) : Ext G H G H := ⟨.refl _, .refl _, s, fun _ h => .inl h⟩
theorem same_none {H H' : Hp} (s : Same H H') {a : Addr} (h : H' a = none) : H a = none := by
  cases e : H a with
  | none => rfl
  | some o => rw [s a o e] at h; cases h
theorem Ext.trans {G H G1 H1 G2 H2 : Hp} (e : Ext G H G1 H1) (f : Ext G1 H1 G2 H2) : Ext G H G2 H2 :=
  ⟨e.hh.trans f.hh, e.gg.trans f.gg, f.gh, fun a h => (f.nw a h).elim (e.nw a) fun z => .inr (z.up e.hh)⟩
theorem same_upd {H : Hp} {p : Addr} {o : HO} (n : H p = none) : Same H (upd H p o) := fun b u e => by
  rw [upd_ne (ne_of_none e n)]; exact e
theorem same_upd2 {G H : Hp} {p : Addr} {o : HO} (s : Same G H) : Same (upd G p o) (upd H p o) := fun b u e => by
  by_cases h : b = p
  · subst h; rw [upd_same] at e ⊢; exact e
  · rw [upd_ne h] at e ⊢; exact s _ _ e
theorem Ext.new {G H : Hp} {p : Addr} {o : HO} (s : Same G H) (n : H p = none) : Ext G H (upd G p o) (upd H p o) := by
  refine ⟨same_upd n, same_upd (same_none s n), same_upd2 s, fun a h => ?_⟩
  by_cases e : a = p
  · subst e; exact .inr (.inl n)
  · rw [upd_ne e] at h; exact .inl h
structure Ex where
  c : Nat
  fs : List (Nat × D)
inductive R (α : Type) where
  | ok (a : α) | exc (x : Ex) | bad
def R.bind {α β : Type} (r : R α) (k : α → R β) : R β := match r with
  | .ok a => k a
  | .exc x => .exc x
  | .bad => .bad
instance : Monad R where
  pure := .ok
  bind := R.bind
@[simp] theorem bind_ok {α β : Type} (a : α) (k : α → R β) : R.bind (.ok a) k = k a := (rfl)
@[simp] theorem bind_exc {α β : Type} (x : Ex) (k : α → R β) : R.bind (.exc x) k = .exc x := (rfl)
@[simp] theorem bind_bad {α β : Type} (k : α → R β) : R.bind .bad k = .bad := (rfl)
def ExAt (K : PySem.W.Frag) (ca : Cn) (G : Hp) (x : Ex) (c : Value) (dx : Option Addr) : Prop :=
  ∃ C, ca.a x.c = some C ∧ c = .ref C ∧ ((x.fs = [] ∧ dx = none) ∨ ∃ d vs, dx = some d ∧ G d = some (.xd vs) ∧ AtF K ca G x.fs vs)
theorem ExAt.mono {K : PySem.W.Frag} {ca : Cn} {G G' : Hp} {x : Ex} {c : Value} {dx : Option Addr} (s : Same G G') : ExAt K ca G x c dx → ExAt K ca G' x c dx
  | ⟨C, h1, h2, h3⟩ => ⟨C, h1, h2, h3.elim .inl fun ⟨d, vs, e1, e2, e3⟩ => .inr ⟨d, vs, e1, s _ _ e2, AtF.mono s e3⟩⟩
section
variable (K : PySem.W.Frag) (ca : Cn)
def Wish {α : Type} (S : Hp → α → Hp → Prop) (G H : Hp) (r : R α) (W1 : XK) : Prop := match r with
  | .ok d => ∀ G' H', Ext G H G' H' → S G' d H'
  | .exc x => ∀ G' H' c dx, Ext G H G' H' → ExAt K ca G' x c dx → W1 c dx H'
  | .bad => False
abbrev SV (Q : VK) : Hp → D → Hp → Prop := fun G' d H' => ∀ v, At K ca G' d v → Q v H'
abbrev SB (Q : Bool → Hp → Prop) : Hp → Bool → Hp → Prop := fun _ b H' => Q b H'
abbrev SL (Q : List V → Hp → Prop) : Hp → List D → Hp → Prop := fun G' ds H' => ∀ vs, AtL K ca G' ds vs → Q vs H'
end
section
variable {K : PySem.W.Frag} {ca : Cn} {α β : Type} {S : Hp → α → Hp → Prop} {G H G' H' : Hp} {W1 : XK}
theorem Wish.mono {r : R α} (h : Wish K ca S G H r W1) (e : Ext G H G' H') : Wish K ca S G' H' r W1 := by
  cases r with
  | ok d => exact fun G2 H2 f => h G2 H2 (e.trans f)
  | exc x => exact fun G2 H2 c dx f => h G2 H2 c dx (e.trans f)
  | bad => exact h
theorem Wish.bind {r : R β} {k : β → R α} {S1 : Hp → β → Hp → Prop} (h : Wish K ca S G H (r.bind k) W1) (hk : ∀ d G1 H1, r = .ok d → Ext G H G1 H1 → Wish K ca S G1 H1 (k d) W1 → S1 G1 d H1) : Wish K ca S1 G H r W1 := by
  cases r with
  | ok d => exact fun G1 H1 e => hk d G1 H1 rfl e (Wish.mono (r := k d) h e)
  | exc x => exact h
  | bad => exact h
theorem Wish.here {d : α} (h : Wish K ca S G H (.ok d) W1) (s : Same G H) : S G d H := h G H (.refl s)
end
end Tk
namespace Tk
open PySem PySem.Spec L2
inductive OT where
  | d (d : D) | l (ts : List OT) | k (kvs : List (Key × OT)) | t (kvs : List (List Key × OT)) | o (g : Option Addr) (c : Nat) (fs : List (Nat × OT))
section
variable (K : PySem.W.Frag) (ca : Cn) (G H : Hp)
mutual
def NAt : OT → V → List Addr → Prop
  | .d d, v, fp => At K ca G d v ∧ fp = []
  | .l ts, v, fp => ∃ a vs fq, v = .ref a ∧ H a = some (.lst vs) ∧ NAtL ts vs fq ∧ fp = a :: fq
  | .k kvs, v, fp => ∃ a vs fq, v = .ref a ∧ H a = some (.dK vs) ∧ NAtK kvs vs fq ∧ fp = a :: fq
  | .t kvs, v, fp => ∃ a vs fq, v = .ref a ∧ H a = some (.dT vs) ∧ NAtT kvs vs fq ∧ fp = a :: fq
  | .o g c fs, v, fp => ∃ a C dx vs fq, v = .ref a ∧ (∀ b, g = some b → a = b) ∧ ca.a c = some C ∧ H a = some (.ins C dx vs) ∧ NAtF fs vs fq ∧ fp = a :: fq
def NAtL : List OT → List V → List Addr → Prop
  | [], vs, fp => vs = [] ∧ fp = []
  | t :: ts, vs, fp => ∃ v r f1 f2, vs = v :: r ∧ NAt t v f1 ∧ NAtL ts r f2 ∧ fp = f1 ++ f2
def NAtK : List (Key × OT) → List (Key × V) → List Addr → Prop
  | [], vs, fp => vs = [] ∧ fp = []
  | (k, t) :: ts, vs, fp => ∃ v r f1 f2, vs = (k, v) :: r ∧ NAt t v f1 ∧ NAtK ts r f2 ∧ fp = f1 ++ f2
def NAtT : List (List Key × OT) → List (List Key × V) → List Addr → Prop
  | [], vs, fp => vs = [] ∧ fp = []
  | (k, t) :: ts, vs, fp => ∃ v r f1 f2, vs = (k, v) :: r ∧ NAt t v f1 ∧ NAtT ts r f2 ∧ fp = f1 ++ f2
def NAtF : List (Nat × OT) → List (Str × V) → List Addr → Prop
  | [], vs, fp => vs = [] ∧ fp = []
  | (k, t) :: ts, vs, fp => ∃ v r f1 f2, vs = (ca.n k, v) :: r ∧ NAt t v f1 ∧ NAtF ts r f2 ∧ fp = f1 ++ f2
end
end
section
variable {K : PySem.W.Frag} {ca cb : Cn} {G H G' H' : Hp}
mutual
theorem NAt.tr_ (ea : ca.a = cb.a) (en : ca.n = cb.n) (hA : ∀ d v, At K ca G d v → At K cb G' d v) : ∀ {t : OT} {v : V} {fp : List Addr}, NAt K ca G H t v fp → (∀ b ∈ fp, H' b = H b) → NAt K cb G' H' t v fp
  | .d d, v, fp, ⟨h, e⟩, _ => ⟨hA d v h, e⟩
  | .l ts, v, fp, ⟨a, vs, fq, e, h, r, z⟩, i => ⟨a, vs, fq, e, (i a (by rw [z]; exact List.mem_cons_self)).trans h, NAtL.tr_ ea en hA r fun b m => i b (by rw [z]; exact List.mem_cons_of_mem _ m), z⟩
  | .k ts, v, fp, ⟨a, vs, fq, e, h, r, z⟩, i => ⟨a, vs, fq, e, (i a (by rw [z]; exact List.mem_cons_self)).trans h, NAtK.tr_ ea en hA r fun b m => i b (by rw [z]; exact List.mem_cons_of_mem _ m), z⟩
  | .t ts, v, fp, ⟨a, vs, fq, e, h, r, z⟩, i => ⟨a, vs, fq, e, (i a (by rw [z]; exact List.mem_cons_self)).trans h, NAtT.tr_ ea en hA r fun b m => i b (by rw [z]; exact List.mem_cons_of_mem _ m), z⟩
  | .o g c fs, v, fp, ⟨a, C, dx, vs, fq, e, h0, h1, h, r, z⟩, i => ⟨a, C, dx, vs, fq, e, h0, by rw [← ea]; exact h1, (i a (by rw [z]; exact List.mem_cons_self)).trans h, NAtF.tr_ ea en hA r fun b m => i b (by rw [z]; exact List.mem_cons_of_mem _ m), z⟩
theorem NAtL.tr_ (ea : ca.a = cb.a) (en : ca.n = cb.n) (hA : ∀ d v, At K ca G d v → At K cb G' d v) : ∀ {ts : List OT} {vs : List V} {fp : List Addr}, NAtL K ca G H ts vs fp → (∀ b ∈ fp, H' b = H b) → NAtL K cb G' H' ts vs fp
  | [], _, _, h, _ => h
  | _ :: _, _, _, ⟨v, r, f1, f2, e, h, t, z⟩, i => ⟨v, r, f1, f2, e, NAt.tr_ ea en hA h fun b m => i b (by rw [z]; exact List.mem_append_left _ m), NAtL.tr_ ea en hA t fun b m => i b (by rw [z]; exact List.mem_append_right _ m), z⟩
theorem NAtK.tr_ (ea : ca.a = cb.a) (en : ca.n = cb.n) (hA : ∀ d v, At K ca G d v → At K cb G' d v) : ∀ {ts : List (Key × OT)} {vs : List (Key × V)} {fp : List Addr}, NAtK K ca G H ts vs fp → (∀ b ∈ fp, H' b = H b) → NAtK K cb G' H' ts vs fp
  | [], _, _, h, _ => h
  | (_, _) :: _, _, _, ⟨v, r, f1, f2, e, h, t, z⟩, i => ⟨v, r, f1, f2, e, NAt.tr_ ea en hA h fun b m => i b (by rw [z]; exact List.mem_append_left _ m), NAtK.tr_ ea en hA t fun b m => i b (by rw [z]; exact List.mem_append_right _ m), z⟩
theorem NAtT.tr_ (ea : ca.a = cb.a) (en : ca.n = cb.n) (hA : ∀ d v, At K ca G d v → At K cb G' d v) : ∀ {ts : List (List Key × OT)} {vs : List (List Key × V)} {fp : List Addr}, NAtT K ca G H ts vs fp → (∀ b ∈ fp, H' b = H b) → NAtT K cb G' H' ts vs fp
  | [], _, _, h, _ => h
  | (_, _) :: _, _, _, ⟨v, r, f1, f2, e, h, t, z⟩, i => ⟨v, r, f1, f2, e, NAt.tr_ ea en hA h fun b m => i b (by rw [z]; exact List.mem_append_left _ m), NAtT.tr_ ea en hA t fun b m => i b (by rw [z]; exact List.mem_append_right _ m), z⟩
theorem NAtF.tr_ (ea : ca.a = cb.a) (en : ca.n = cb.n) (hA : ∀ d v, At K ca G d v → At K cb G' d v) : ∀ {ts : List (Nat × OT)} {vs : List (Str × V)} {fp : List Addr}, NAtF K ca G H ts vs fp → (∀ b ∈ fp, H' b = H b) → NAtF K cb G' H' ts vs fp
  | [], _, _, h, _ => h
  | (_, _) :: _, _, _, ⟨v, r, f1, f2, e, h, t, z⟩, i => ⟨v, r, f1, f2, by rw [← en]; exact e, NAt.tr_ ea en hA h fun b m => i b (by rw [z]; exact List.mem_append_left _ m), NAtF.tr_ ea en hA t fun b m => i b (by rw [z]; exact List.mem_append_right _ m), z⟩
end
theorem NAt.ext (sg : Same G G') {t : OT} {v : V} {fp : List Addr} (h : NAt K ca G H t v fp) (i : ∀ b ∈ fp, H' b = H b) : NAt K ca G' H' t v fp := h.tr_ rfl rfl (fun _ _ => At.mono sg) i
mutual
def frzT : OT → D
  | .d d => d
  | .l ts => .lst (frzTL ts)
  | .k kvs => .dK (frzTK kvs)
  | .t kvs => .dT (frzTT kvs)
  | .o _ c fs => .ins c (frzTF fs)
def frzTL : List OT → List D
  | [] => []
  | t :: ts => frzT t :: frzTL ts
def frzTK : List (Key × OT) → List (Key × D)
  | [] => []
  | (k, t) :: ts => (k, frzT t) :: frzTK ts
def frzTT : List (List Key × OT) → List (List Key × D)
  | [] => []
  | (k, t) :: ts => (k, frzT t) :: frzTT ts
def frzTF : List (Nat × OT) → List (Nat × D)
  | [] => []
  | (k, t) :: ts => (k, frzT t) :: frzTF ts
end
mutual
theorem NAt.frz (sg : Same G G') : ∀ {t : OT} {v : V} {fp : List Addr}, NAt K ca G H t v fp → (∀ b ∈ fp, G' b = H b) → At K ca G' (frzT t) v
  | .d d, v, fp, ⟨h, e⟩, _ => At.mono sg h
  | .l ts, v, fp, ⟨a, vs, fq, e, h, r, z⟩, i => ⟨a, vs, e, (i a (by rw [z]; exact List.mem_cons_self)).trans h, NAtL.frz sg r fun b m => i b (by rw [z]; exact List.mem_cons_of_mem _ m)⟩
  | .k ts, v, fp, ⟨a, vs, fq, e, h, r, z⟩, i => ⟨a, vs, e, .inl ((i a (by rw [z]; exact List.mem_cons_self)).trans h), NAtK.frz sg r fun b m => i b (by rw [z]; exact List.mem_cons_of_mem _ m)⟩
  | .t ts, v, fp, ⟨a, vs, fq, e, h, r, z⟩, i => ⟨a, vs, e, .inl ((i a (by rw [z]; exact List.mem_cons_self)).trans h), NAtT.frz sg r fun b m => i b (by rw [z]; exact List.mem_cons_of_mem _ m)⟩
  | .o g c fs, v, fp, ⟨a, C, dx, vs, fq, e, h0, h1, h, r, z⟩, i => ⟨a, C, dx, vs, e, h1, (i a (by rw [z]; exact List.mem_cons_self)).trans h, NAtF.frz sg r fun b m => i b (by rw [z]; exact List.mem_cons_of_mem _ m)⟩
theorem NAtL.frz (sg : Same G G') : ∀ {ts : List OT} {vs : List V} {fp : List Addr}, NAtL K ca G H ts vs fp → (∀ b ∈ fp, G' b = H b) → AtL K ca G' (frzTL ts) vs
  | [], _, _, h, _ => h.1
  | _ :: _, _, _, ⟨v, r, f1, f2, e, h, t, z⟩, i => ⟨v, r, e, NAt.frz sg h fun b m => i b (by rw [z]; exact List.mem_append_left _ m), NAtL.frz sg t fun b m => i b (by rw [z]; exact List.mem_append_right _ m)⟩
theorem NAtK.frz (sg : Same G G') : ∀ {ts : List (Key × OT)} {vs : List (Key × V)} {fp : List Addr}, NAtK K ca G H ts vs fp → (∀ b ∈ fp, G' b = H b) → AtK K ca G' (frzTK ts) vs
  | [], _, _, h, _ => h.1
  | (_, _) :: _, _, _, ⟨v, r, f1, f2, e, h, t, z⟩, i => ⟨v, r, e, NAt.frz sg h fun b m => i b (by rw [z]; exact List.mem_append_left _ m), NAtK.frz sg t fun b m => i b (by rw [z]; exact List.mem_append_right _ m)⟩
theorem NAtT.frz (sg : Same G G') : ∀ {ts : List (List Key × OT)} {vs : List (List Key × V)} {fp : List Addr}, NAtT K ca G H ts vs fp → (∀ b ∈ fp, G' b = H b) → AtT K ca G' (frzTT ts) vs
  | [], _, _, h, _ => h.1
  | (_, _) :: _, _, _, ⟨v, r, f1, f2, e, h, t, z⟩, i => ⟨v, r, e, NAt.frz sg h fun b m => i b (by rw [z]; exact List.mem_append_left _ m), NAtT.frz sg t fun b m => i b (by rw [z]; exact List.mem_append_right _ m)⟩
theorem NAtF.frz (sg : Same G G') : ∀ {ts : List (Nat × OT)} {vs : List (Str × V)} {fp : List Addr}, NAtF K ca G H ts vs fp → (∀ b ∈ fp, G' b = H b) → AtF K ca G' (frzTF ts) vs
  | [], _, _, h, _ => h.1
  | (_, _) :: _, _, _, ⟨v, r, f1, f2, e, h, t, z⟩, i => ⟨v, r, e, NAt.frz sg h fun b m => i b (by rw [z]; exact List.mem_append_left _ m), NAtF.frz sg t fun b m => i b (by rw [z]; exact List.mem_append_right _ m)⟩
end
def isOwnH : HO → Prop
  | .lst _ => True
  | .dK _ => True
  | .dT _ => True
  | .ins _ _ _ => True
  | _ => False
theorem isOwnH.nt {o : HO} (h : isOwnH o) : ∀ vs, o ≠ .tup vs := fun vs e => by rw [e] at h; exact h
def OwnO (H : Hp) (b : Addr) : Prop := ∃ o, H b = some o ∧ isOwnH o
mutual
theorem NAt.some : ∀ {t : OT} {v : V} {fp : List Addr}, NAt K ca G H t v fp → ∀ b ∈ fp, OwnO H b
  | .d d, v, fp, ⟨h, e⟩, b, m => by rw [e] at m; cases m
  | .l ts, v, fp, ⟨a, vs, fq, e, h, r, z⟩, b, m => by
    rw [z] at m
    rcases List.mem_cons.mp m with y | y
    · rw [y]; exact ⟨_, h, trivial⟩
    · exact NAtL.some r b y
  | .k ts, v, fp, ⟨a, vs, fq, e, h, r, z⟩, b, m => by
    rw [z] at m
    rcases List.mem_cons.mp m with y | y
    · rw [y]; exact ⟨_, h, trivial⟩
    · exact NAtK.some r b y
  | .t ts, v, fp, ⟨a, vs, fq, e, h, r, z⟩, b, m => by
    rw [z] at m
    rcases List.mem_cons.mp m with y | y
    · rw [y]; exact ⟨_, h, trivial⟩
    · exact NAtT.some r b y
  | .o g c fs, v, fp, ⟨a, C, dx, vs, fq, e, h0, h1, h, r, z⟩, b, m => by
    rw [z] at m
    rcases List.mem_cons.mp m with y | y
    · rw [y]; exact ⟨_, h, trivial⟩
    · exact NAtF.some r b y
theorem NAtL.some : ∀ {ts : List OT} {vs : List V} {fp : List Addr}, NAtL K ca G H ts vs fp → ∀ b ∈ fp, OwnO H b
  | [], _, _, h, b, m => by rw [h.2] at m; cases m
  | _ :: _, _, _, ⟨v, r, f1, f2, e, h, t, z⟩, b, m => by
    rw [z] at m
    rcases List.mem_append.mp m with y | y
    · exact NAt.some h b y
    · exact NAtL.some t b y
theorem NAtK.some : ∀ {ts : List (Key × OT)} {vs : List (Key × V)} {fp : List Addr}, NAtK K ca G H ts vs fp → ∀ b ∈ fp, OwnO H b
  | [], _, _, h, b, m => by rw [h.2] at m; cases m
  | (_, _) :: _, _, _, ⟨v, r, f1, f2, e, h, t, z⟩, b, m => by
    rw [z] at m
    rcases List.mem_append.mp m with y | y
    · exact NAt.some h b y
    · exact NAtK.some t b y
theorem NAtT.some : ∀ {ts : List (List Key × OT)} {vs : List (List Key × V)} {fp : List Addr}, NAtT K ca G H ts vs fp → ∀ b ∈ fp, OwnO H b
  | [], _, _, h, b, m => by rw [h.2] at m; cases m
  | (_, _) :: _, _, _, ⟨v, r, f1, f2, e, h, t, z⟩, b, m => by
    rw [z] at m
    rcases List.mem_append.mp m with y | y
    · exact NAt.some h b y
    · exact NAtT.some t b y
theorem NAtF.some : ∀ {ts : List (Nat × OT)} {vs : List (Str × V)} {fp : List Addr}, NAtF K ca G H ts vs fp → ∀ b ∈ fp, OwnO H b
  | [], _, _, h, b, m => by rw [h.2] at m; cases m
  | (_, _) :: _, _, _, ⟨v, r, f1, f2, e, h, t, z⟩, b, m => by
    rw [z] at m
    rcases List.mem_append.mp m with y | y
    · exact NAt.some h b y
    · exact NAtF.some t b y
end
end
inductive Sl where
  | no | v (d : D) | l (xs : List D) | k (kvs : List (Key × D)) | t (kvs : List (List Key × D)) | o (g : Option Addr) (c : Nat) (fs : List (Nat × D)) | x (x : Ex) | tr (t : OT)
abbrev Ev := List Sl
def Sl.own : Sl → Bool
  | .no => false
  | .v _ => false
  | .x _ => false
  | .tr _ => false
  | _ => true
section
variable (K : PySem.W.Frag) (ca : Cn)
def Own (G H : Hp) (a : Addr) : Sl → Prop
  | .no => False
  | .v _ => False
  | .x _ => False
  | .tr _ => False
  | .l xs => ∃ vs, H a = some (.lst vs) ∧ AtL K ca G xs vs
  | .k xs => ∃ vs, H a = some (.dK vs) ∧ AtK K ca G xs vs
  | .t xs => ∃ vs, H a = some (.dT vs) ∧ AtT K ca G xs vs
  | .o g c fs => ∃ C dx vs, (∀ b, g = some b → a = b) ∧ ca.a c = some C ∧ H a = some (.ins C dx vs) ∧ AtF K ca G fs vs
structure NstAll (B G H : Hp) (σ : L2.St) (ρ : Ev) (FP : Nat → List Addr) : Prop where
  at_ : ∀ (i : Nat) (t : OT), ρ[i]? = some (.tr t) → ∃ v, σ[i]? = some (some v) ∧ NAt K ca G H t v (FP i)
  nd : ∀ (i : Nat) (t : OT), ρ[i]? = some (.tr t) → (FP i).Nodup
  fr : ∀ (i : Nat) (t : OT), ρ[i]? = some (.tr t) → ∀ b ∈ FP i, G b = none ∧ B b = none
  ow : ∀ (i : Nat) (t : OT), ρ[i]? = some (.tr t) → ∀ b ∈ FP i, ∀ (j : Nat) (s : Sl), ρ[j]? = some s → s.own = true → σ[j]? ≠ some (some (.ref b))
  sp : ∀ (i j : Nat) (t u : OT), i ≠ j → ρ[i]? = some (.tr t) → ρ[j]? = some (.tr u) → ∀ b ∈ FP i, b ∉ FP j
structure Rel (B G H : Hp) (σ : L2.St) (ρ : Ev) : Prop where
  len : σ.length = ρ.length
  val : ∀ (i : Nat) (d : D), ρ[i]? = some (.v d) → ∃ v, σ[i]? = some (some v) ∧ At K ca G d v
  own : ∀ (i : Nat) (s : Sl), ρ[i]? = some s → s.own = true → ∃ a, σ[i]? = some (some (.ref a)) ∧ Own K ca G H a s ∧ G a = none ∧ B a = none
  sep : ∀ (i j : Nat) (s t : Sl) (a : Addr), ρ[i]? = some s → s.own = true → ρ[j]? = some t → t.own = true → σ[i]? = some (some (.ref a)) → σ[j]? = some (some (.ref a)) → i = j
  exc : ∀ (i : Nat) (x : Ex), ρ[i]? = some (.x x) → ∃ a c dx, σ[i]? = some (some (.ref a)) ∧ ca.φ a c dx ∧ ExAt K ca G x c dx
  nst : ∃ FP, NstAll K ca B G H σ ρ FP
end
theorem NstAll.step0 {K : PySem.W.Frag} {ca cb : Cn} {B G H G' H' : Hp} {σ σ' : L2.St} {ρ ρ' : Ev} {FP : Nat → List Addr} (h : NstAll K ca B G H σ ρ FP) (e1 : ∀ (i : Nat) (t : OT), ρ'[i]? = some (.tr t) → ρ[i]? = some (.tr t) ∧ σ'[i]? = σ[i]?) (ea : ca.a = cb.a) (en : ca.n = cb.n) (hA : ∀ d v, At K ca G d v → At K cb G' d v)
    (e2 : ∀ (b : Addr) (o : HO), H b = some o → (∀ vs, o ≠ .tup vs) → G b = none → B b = none → (∀ (j : Nat) (s : Sl), ρ[j]? = some s → s.own = true → σ[j]? ≠ some (some (.ref b))) → H' b = H b ∧ G' b = none ∧ ∀ (j : Nat) (s : Sl), ρ'[j]? = some s → s.own = true → σ'[j]? ≠ some (some (.ref b))) :
    NstAll K cb B G' H' σ' ρ' FP := by
  have key : ∀ (i : Nat) (t : OT), ρ'[i]? = some (.tr t) → ∀ b ∈ FP i, H' b = H b ∧ G' b = none ∧ ∀ (j : Nat) (s : Sl), ρ'[j]? = some s → s.own = true → σ'[j]? ≠ some (some (.ref b)) := fun i t e b m => by
    obtain ⟨q, _⟩ := e1 i t e
    obtain ⟨v, _, n⟩ := h.at_ i t q
    obtain ⟨o, ho, nt⟩ := n.some b m
    exact e2 b o ho nt.nt (h.fr i t q b m).1 (h.fr i t q b m).2 (h.ow i t q b m)
  refine ⟨fun i t e => ?_, fun i t e => h.nd i t (e1 i t e).1, fun i t e b m => ⟨(key i t e b m).2.1, (h.fr i t (e1 i t e).1 b m).2⟩, fun i t e b m => (key i t e b m).2.2, fun i j t u ne e e' => h.sp i j t u ne (e1 i t e).1 (e1 j u e').1⟩
  obtain ⟨q, qs⟩ := e1 i t e
  obtain ⟨v, hv, n⟩ := h.at_ i t q
  exact ⟨v, by rw [qs]; exact hv, n.tr_ ea en hA fun b m => (key i t e b m).1⟩
theorem NstAll.step {K : PySem.W.Frag} {ca : Cn} {B G H G' H' : Hp} {σ σ' : L2.St} {ρ ρ' : Ev} {FP : Nat → List Addr} (h : NstAll K ca B G H σ ρ FP) (e1 : ∀ (i : Nat) (t : OT), ρ'[i]? = some (.tr t) → ρ[i]? = some (.tr t) ∧ σ'[i]? = σ[i]?) (sg : Same G G')
    (e2 : ∀ (b : Addr) (o : HO), H b = some o → (∀ vs, o ≠ .tup vs) → G b = none → B b = none → (∀ (j : Nat) (s : Sl), ρ[j]? = some s → s.own = true → σ[j]? ≠ some (some (.ref b))) → H' b = H b ∧ G' b = none ∧ ∀ (j : Nat) (s : Sl), ρ'[j]? = some s → s.own = true → σ'[j]? ≠ some (some (.ref b))) :
    NstAll K ca B G' H' σ' ρ' FP := h.step0 e1 rfl rfl (fun _ _ => At.mono sg) e2
theorem NstAll.none {K : PySem.W.Frag} {ca : Cn} {B G H : Hp} {σ : L2.St} {ρ : Ev} (h : ∀ (i : Nat) (t : OT), ρ[i]? ≠ some (.tr t)) : NstAll K ca B G H σ ρ fun _ => [] :=
  ⟨fun i t e => (h i t e).elim, fun i t e => (h i t e).elim, fun i t e => (h i t e).elim, fun i t e => (h i t e).elim, fun i j t u _ e => (h i t e).elim⟩
section
variable {K : PySem.W.Frag} {ca : Cn} {B G H G' H' : Hp} {σ : L2.St} {ρ : Ev}
theorem Own.ext {a : Addr} {s : Sl} (h : Own K ca G H a s) (sg : Same G G') (e : H' a = H a) : Own K ca G' H' a s := by
  cases s with
  | no => exact h
  | x _ => exact h
  | tr _ => exact h
  | v d => exact h
  | l xs => obtain ⟨vs, h1, h2⟩ := h; exact ⟨vs, e.trans h1, AtL.mono sg h2⟩
  | k xs => obtain ⟨vs, h1, h2⟩ := h; exact ⟨vs, e.trans h1, AtK.mono sg h2⟩
  | t xs => obtain ⟨vs, h1, h2⟩ := h; exact ⟨vs, e.trans h1, AtT.mono sg h2⟩
  | o g c fs => obtain ⟨C, dx, vs, hg, h0, h1, h2⟩ := h; exact ⟨C, dx, vs, hg, h0, e.trans h1, AtF.mono sg h2⟩
theorem Own.some {a : Addr} {s : Sl} (h : Own K ca G H a s) : ∃ o, H a = some o := by
  cases s with
  | no => exact h.elim
  | x _ => exact h.elim
  | tr _ => exact h.elim
  | v d => exact h.elim
  | l xs => obtain ⟨vs, h1, h2⟩ := h; exact ⟨_, h1⟩
  | k xs => obtain ⟨vs, h1, h2⟩ := h; exact ⟨_, h1⟩
  | t xs => obtain ⟨vs, h1, h2⟩ := h; exact ⟨_, h1⟩
  | o g c fs => obtain ⟨C, dx, vs, hg, h0, h1, h2⟩ := h; exact ⟨_, h1⟩
theorem Own.notT {a : Addr} {s : Sl} {vs : List V} (h : Own K ca G H a s) : H a ≠ Option.some (.tup vs) := fun e => by
  cases s with
  | no => exact h.elim
  | x _ => exact h.elim
  | tr _ => exact h.elim
  | v d => exact h.elim
  | l xs => obtain ⟨vs, h1, h2⟩ := h; rw [h1] at e; cases e
  | k xs => obtain ⟨vs, h1, h2⟩ := h; rw [h1] at e; cases e
  | t xs => obtain ⟨vs, h1, h2⟩ := h; rw [h1] at e; cases e
  | o g c fs => obtain ⟨C, dx, vs, hg, h0, h1, h2⟩ := h; rw [h1] at e; cases e
theorem Rel.ext (r : Rel K ca B G H σ ρ) (e : Ext G H G' H') : Rel K ca B G' H' σ ρ where
  len := r.len
  val := fun i d h => let ⟨v, h1, h2⟩ := r.val i d h; ⟨v, h1, At.mono e.gg h2⟩
  own := fun i s h ho => by
    obtain ⟨a, h1, h2, h3, h4⟩ := r.own i s h ho
    obtain ⟨o, h5⟩ := h2.some
    refine ⟨a, h1, h2.ext e.gg ((e.hh _ _ h5).trans h5.symm), ?_, h4⟩
    cases q : G' a with
    | none => rfl
    | some u =>
      rcases e.nw a (by rw [q]; simp) with z | z
      · exact (z h3).elim
      · rcases z with z | ⟨vs, z⟩
        · rw [h5] at z; cases z
        · exact (h2.notT z).elim
  sep := r.sep
  exc := fun i x h => let ⟨a, c, dx, h1, h2, h3⟩ := r.exc i x h; ⟨a, c, dx, h1, h2, h3.mono e.gg⟩
  nst := by
    obtain ⟨FP, n⟩ := r.nst
    refine ⟨FP, n.step (fun i t e => ⟨e, rfl⟩) e.gg fun b o ho nt gb bb ow => ⟨(e.hh _ _ ho).trans ho.symm, ?_, ow⟩⟩
    cases q : G' b with
    | none => rfl
    | some u =>
      rcases e.nw b (by rw [q]; simp) with z | z
      · exact (z gb).elim
      · exact (z.no ho nt).elim
theorem getElem?_set' {α : Type} {l : List α} {i j : Nat} {x y : α} (h : (l.set i x)[j]? = some y) : (j = i ∧ y = x) ∨ (j ≠ i ∧ l[j]? = some y) := by
  by_cases e : i = j
  · subst e
    rw [List.getElem?_set_self'] at h
    cases q : l[i]? with
    | none => rw [q] at h; cases h
    | some z => rw [q] at h; cases h; exact .inl ⟨rfl, rfl⟩
  · rw [List.getElem?_set_ne e] at h; exact .inr ⟨fun z => e z.symm, h⟩
theorem Rel.set (r : Rel K ca B G H σ ρ) (i : Nat) {d : D} {v : V} (h : At K ca G d v) : Rel K ca B G H (σ.set i (some v)) (ρ.set i (.v d)) where
  len := by rw [List.length_set, List.length_set]; exact r.len
  val := fun j e q => by
    rcases getElem?_set' q with ⟨rfl, z⟩ | ⟨ne, q⟩
    · cases z
      refine ⟨v, ?_, h⟩
      have : j < σ.length := by
        rw [r.len]
        have := (List.getElem?_eq_some_iff.mp q).1
        rwa [List.length_set] at this
      rw [List.getElem?_set_self this]
    · obtain ⟨w, h1, h2⟩ := r.val j e q
      exact ⟨w, by rw [List.getElem?_set_ne (Ne.symm ne)]; exact h1, h2⟩
  own := fun j s q ho => by
    rcases getElem?_set' q with ⟨rfl, z⟩ | ⟨ne, q⟩
    · cases z; cases ho
    · obtain ⟨a, h1, h2⟩ := r.own j s q ho
      exact ⟨a, by rw [List.getElem?_set_ne (Ne.symm ne)]; exact h1, h2⟩
  sep := fun j k s t a qj oj qk ok hj hk => by
    rcases getElem?_set' qj with ⟨rfl, z⟩ | ⟨nj, qj⟩
    · cases z; cases oj
    · rcases getElem?_set' qk with ⟨rfl, z⟩ | ⟨nk, qk⟩
      · cases z; cases ok
      · rw [List.getElem?_set_ne (Ne.symm nj)] at hj
        rw [List.getElem?_set_ne (Ne.symm nk)] at hk
        exact r.sep j k s t a qj oj qk ok hj hk
  exc := fun j x q => by
    rcases getElem?_set' q with ⟨rfl, z⟩ | ⟨ne, q⟩
    · cases z
    · obtain ⟨a, c, dx, h1, h2⟩ := r.exc j x q
      exact ⟨a, c, dx, by rw [List.getElem?_set_ne (Ne.symm ne)]; exact h1, h2⟩
  nst := by
    obtain ⟨FP, n⟩ := r.nst
    refine ⟨FP, n.step (fun j t q => ?_) (.refl _) fun b o ho nt gb bb ow => ⟨rfl, gb, fun j s q os => ?_⟩⟩
    · rcases getElem?_set' q with ⟨rfl, z⟩ | ⟨ne, q⟩
      · cases z
      · exact ⟨q, List.getElem?_set_ne (Ne.symm ne)⟩
    · rcases getElem?_set' q with ⟨rfl, z⟩ | ⟨ne, q⟩
      · rw [z] at os; cases os
      · rw [List.getElem?_set_ne (Ne.symm ne)]; exact ow j s q os
theorem Rel.setOwn {G0 H0 : Hp} (r0 : Rel K ca B G0 H0 σ ρ) (x : Ext G0 H0 G H) (i : Nat) {s : Sl} {a : Addr} (n0 : H0 a = none) (ho : s.own = true) (h : Own K ca G H a s) (hg : G a = none) (hb : B a = none) : Rel K ca B G H (σ.set i (some (.ref a))) (ρ.set i s) := by
  have r := r0.ext x
  have hn : ∀ (j : Nat) (t : Sl), j ≠ i → ρ[j]? = some t → t.own = true → σ[j]? ≠ some (some (.ref a)) := fun j t _ q o z => by
    obtain ⟨a', h1, h2, _⟩ := r0.own j t q o
    rw [z] at h1
    cases h1
    obtain ⟨ob, h5⟩ := h2.some
    rw [n0] at h5
    cases h5
  exact {
  len := by rw [List.length_set, List.length_set]; exact r.len
  val := fun j e q => by
    rcases getElem?_set' q with ⟨rfl, z⟩ | ⟨ne, q⟩
    · rw [← z] at ho; cases ho
    · obtain ⟨w, h1, h2⟩ := r.val j e q
      exact ⟨w, by rw [List.getElem?_set_ne (Ne.symm ne)]; exact h1, h2⟩
  own := fun j s' q ho' => by
    rcases getElem?_set' q with ⟨rfl, z⟩ | ⟨ne, q⟩
    · subst z
      refine ⟨a, ?_, h, hg, hb⟩
      have : j < σ.length := by
        rw [r.len]
        have := (List.getElem?_eq_some_iff.mp q).1
        rwa [List.length_set] at this
      rw [List.getElem?_set_self this]
    · obtain ⟨a', h1, h2⟩ := r.own j s' q ho'
      exact ⟨a', by rw [List.getElem?_set_ne (Ne.symm ne)]; exact h1, h2⟩
  sep := fun j k s' t b qj oj qk ok hj hk => by
    have lt : ∀ {j : Nat} {s' : Sl}, (ρ.set i s)[j]? = some s' → j < σ.length := fun {j s'} q => by
      rw [r.len]
      have := (List.getElem?_eq_some_iff.mp q).1
      rwa [List.length_set] at this
    have lj := lt qj
    have lk := lt qk
    by_cases ej : j = i
    · subst ej
      rw [List.getElem?_set_self lj] at hj
      cases hj
      by_cases ek : k = j
      · exact ek.symm
      · rw [List.getElem?_set_ne (Ne.symm ek)] at hk qk
        exact (hn k t ek qk ok hk).elim
    · rw [List.getElem?_set_ne (Ne.symm ej)] at hj qj
      by_cases ek : k = i
      · subst ek
        rw [List.getElem?_set_self lk] at hk
        cases hk
        exact (hn j s' ej qj oj hj).elim
      · rw [List.getElem?_set_ne (Ne.symm ek)] at hk qk
        exact r.sep j k s' t b qj oj qk ok hj hk
  exc := fun j x q => by
    rcases getElem?_set' q with ⟨rfl, z⟩ | ⟨ne, q⟩
    · rw [← z] at ho; cases ho
    · obtain ⟨a, c, dx, h1, h2⟩ := r.exc j x q
      exact ⟨a, c, dx, by rw [List.getElem?_set_ne (Ne.symm ne)]; exact h1, h2⟩
  nst := by
    obtain ⟨FP, n⟩ := r0.nst
    refine ⟨FP, n.step (fun j t q => ?_) x.gg fun b o hb nt gb bb ow => ⟨(x.hh _ _ hb).trans hb.symm, ?_, fun j s' q os => ?_⟩⟩
    · rcases getElem?_set' q with ⟨rfl, z⟩ | ⟨ne, q⟩
      · rw [← z] at ho; cases ho
      · exact ⟨q, List.getElem?_set_ne (Ne.symm ne)⟩
    · cases q : G b with
      | none => rfl
      | some u =>
        rcases x.nw b (by rw [q]; simp) with z | z
        · exact (z gb).elim
        · exact (z.no hb nt).elim
    · rcases getElem?_set' q with ⟨rfl, z⟩ | ⟨ne, q⟩
      · have lj : j < σ.length := by
          rw [r.len]
          have := (List.getElem?_eq_some_iff.mp q).1
          rwa [List.length_set] at this
        rw [List.getElem?_set_self lj]
        intro y
        cases y
        rw [n0] at hb; cases hb
      · rw [List.getElem?_set_ne (Ne.symm ne)]; exact ow j s' q os }
end
structure FE (X : Cx) (ca : Cn) (W : WX) (e : Expr) (f : Ev → R D) : Prop where
  ex : ∃ t, PE X e t ∧ ∀ B G H σ ρ Q, Same G H → Same B H → Rel X.K ca B G H σ ρ → Wish X.K ca (SV X.K ca Q) G H (f ρ) (WE W σ) → t σ H Q
structure FT (X : Cx) (ca : Cn) (W : WX) (e : Expr) (f : Ev → R Bool) : Prop where
  ex : ∃ t, PT X e t ∧ ∀ B G H σ ρ Q, Same G H → Same B H → Rel X.K ca B G H σ ρ → Wish X.K ca (SB Q) G H (f ρ) (WE W σ) → t σ H Q
structure FW (X : Cx) (ca : Cn) (W : WX) (e : Expr) (f : Ev → R Bool) : Prop where
  ex : ∃ t, PW X e t ∧ ∀ B G H σ ρ Q, Same G H → Same B H → Rel X.K ca B G H σ ρ → Wish X.K ca (SB Q) G H (f ρ) (WE W σ) → t σ H Q
structure FA (X : Cx) (ca : Cn) (W : WX) (es : List Expr) (f : Ev → R (List D)) : Prop where
  ex : ∃ t, PA X es t ∧ ∀ B G H σ ρ Q, Same G H → Same B H → Rel X.K ca B G H σ ρ → Wish X.K ca (SL X.K ca Q) G H (f ρ) (WE W σ) → t σ H Q
structure FK (X : Cx) (ca : Cn) (W : WX) (es : List Keyword) (f : Ev → R (List D)) : Prop where
  ex : ∃ t, PK X es t ∧ ∀ B G H σ ρ Q, Same G H → Same B H → Rel X.K ca B G H σ ρ → Wish X.K ca (SL X.K ca Q) G H (f ρ) (WE W σ) → t σ H Q
inductive SO where
  | nx (ρ : Ev) | rt (d : D) | ro (s : Sl) | bk (ρ : Ev) | ct (ρ : Ev) | ex (x : Ex) (ρ : Ev) | bad
structure Adv (B G G' H' : Hp) : Prop where
  gg : Same G G'
  gh : Same G' H'
  bh : Same B H'
  nw : ∀ a, G' a ≠ none → G a ≠ none ∨ Fre B a
theorem Adv.refl {B G H : Hp} (s : Same G H) (b : Same B H) : Adv B G G H := ⟨.refl _, s, b, fun _ h => .inl h⟩
theorem Adv.trans {B G G1 H1 G2 H2 : Hp} (e : Adv B G G1 H1) (f : Adv B G1 G2 H2) : Adv B G G2 H2 :=
  ⟨e.gg.trans f.gg, f.gh, f.bh, fun a h => (f.nw a h).elim (e.nw a) .inr⟩
theorem Ext.adv {B G H G' H' : Hp} (e : Ext G H G' H') (b : Same B H) : Adv B G G' H' :=
  ⟨e.gg, e.gh, b.trans e.hh, fun a h => (e.nw a h).elim .inl fun z => .inr (z.up b)⟩
section
variable (K : PySem.W.Frag) (ca : Cn)
def WishS (B G : Hp) (r : SO) (D : Ends) (W : WX) : Prop := match r with
  | .nx ρ => ∀ σ' G' H', Adv B G G' H' → Rel K ca B G' H' σ' ρ → D.nx σ' H'
  | .bk ρ => ∀ σ' G' H', Adv B G G' H' → Rel K ca B G' H' σ' ρ → D.bk σ' H'
  | .ct ρ => ∀ σ' G' H', Adv B G G' H' → Rel K ca B G' H' σ' ρ → D.ct σ' H'
  | .rt d => ∀ v G' H', Adv B G G' H' → At K ca G' d v → D.rt v H'
  | .ro s => s.own = true ∧ ∀ a G' H', Adv B G G' H' → Own K ca G' H' a s → G' a = none → B a = none → D.rt (.ref a) H'
  | .ex x ρ => ∀ σ' G' H' c dx, Adv B G G' H' → Rel K ca B G' H' σ' ρ → ExAt K ca G' x c dx → W c dx σ' H'
  | .bad => False
end
theorem WishS.mono {K : PySem.W.Frag} {ca : Cn} {B G G' H' : Hp} {r : SO} {D : Ends} {W : WX} (h : WishS K ca B G r D W) (e : Adv B G G' H') : WishS K ca B G' r D W := by
  cases r with
  | nx ρ => exact fun σ' G2 H2 f => h σ' G2 H2 (e.trans f)
  | bk ρ => exact fun σ' G2 H2 f => h σ' G2 H2 (e.trans f)
  | ct ρ => exact fun σ' G2 H2 f => h σ' G2 H2 (e.trans f)
  | rt d => exact fun v G2 H2 f => h v G2 H2 (e.trans f)
  | ro s => exact ⟨h.1, fun a G2 H2 f => h.2 a G2 H2 (e.trans f)⟩
  | ex x ρ => exact fun σ' G2 H2 c dx f => h σ' G2 H2 c dx (e.trans f)
  | bad => exact h
structure FS (X : Cx) (ca : Cn) (W : WX) (st : Stmt) (g : Ev → SO) : Prop where
  ex : ∃ t, PS X st t ∧ ∀ B G H σ ρ D, Same G H → Same B H → Rel X.K ca B G H σ ρ → WishS X.K ca B G (g ρ) D W → t D σ H
structure FSs (X : Cx) (ca : Cn) (W : WX) (sts : List Stmt) (g : Ev → SO) : Prop where
  ex : ∃ t, PSs X sts t ∧ ∀ B G H σ ρ D, Same G H → Same B H → Rel X.K ca B G H σ ρ → WishS X.K ca B G (g ρ) D W → t D σ H
def SO.from {α : Type} (ρ : Ev) (r : R α) (k : α → SO) : SO := match r with
  | .ok a => k a
  | .exc x => .ex x ρ
  | .bad => .bad
@[simp] theorem from_ok {α : Type} (ρ : Ev) (a : α) (k : α → SO) : SO.from ρ (.ok a) k = k a := (rfl)
@[simp] theorem from_exc {α : Type} (ρ : Ev) (x : Ex) (k : α → SO) : SO.from ρ (.exc x) k = .ex x ρ := (rfl)
@[simp] theorem from_bad {α : Type} (ρ : Ev) (k : α → SO) : SO.from ρ .bad k = .bad := (rfl)
theorem WishS.from {K : PySem.W.Frag} {ca : Cn} {α : Type} {B G H : Hp} {σ : L2.St} {ρ : Ev} {r : R α} {k : α → SO} {D : Ends} {W : WX} {S : Hp → α → Hp → Prop} (h : WishS K ca B G (SO.from ρ r k) D W) (b : Same B H) (rl : Rel K ca B G H σ ρ)
    (hk : ∀ a G1 H1, r = .ok a → Ext G H G1 H1 → WishS K ca B G1 (k a) D W → Rel K ca B G1 H1 σ ρ → Same B H1 → S G1 a H1) : Wish K ca S G H r (WE W σ) := by
  cases r with
  | ok a => exact fun G1 H1 e => hk a G1 H1 rfl e (WishS.mono (r := k a) h (e.adv b)) (rl.ext e) (b.trans e.hh)
  | exc x => exact fun G1 H1 c dx e z => h σ G1 H1 c dx (e.adv b) (rl.ext e) z
  | bad => exact h
end Tk
namespace Tk
open PySem PySem.Spec L2
def eV (i : Nat) : Ev → R D := fun ρ => match ρ[i]? with
  | some (.v d) => .ok d
  | _ => .bad
def eC (d : D) : Ev → R D := fun _ => .ok d
def e1 (g : D → R D) (fa : Ev → R D) : Ev → R D := fun ρ => (fa ρ).bind g
def e2 (g : D → D → R D) (fa fb : Ev → R D) : Ev → R D := fun ρ => (fa ρ).bind fun a => (fb ρ).bind fun b => g a b
def eA (g : List D → R D) (fa : Ev → R (List D)) : Ev → R D := fun ρ => (fa ρ).bind g
def aN : Ev → R (List D) := fun _ => .ok []
def aC (fa : Ev → R D) (fr : Ev → R (List D)) : Ev → R (List D) := fun ρ => (fa ρ).bind fun a => (fr ρ).bind fun r => .ok (a :: r)
def Bof : D → R Bool
  | .bl b => .ok b
  | _ => .bad
def tV (fa : Ev → R D) : Ev → R Bool := fun ρ => (fa ρ).bind Bof
def tAnd (f g : Ev → R Bool) : Ev → R Bool := fun ρ => (f ρ).bind fun b => if b = true then g ρ else .ok false
def tOr (f g : Ev → R Bool) : Ev → R Bool := fun ρ => (f ρ).bind fun b => if b = true then .ok true else g ρ
def tNot (f : Ev → R Bool) : Ev → R Bool := fun ρ => (f ρ).bind fun b => .ok (!b)
def eAnd (fa fb : Ev → R D) : Ev → R D := fun ρ => (fa ρ).bind fun a => (Bof a).bind fun b => if b = true then fb ρ else .ok (.bl false)
def eOr (fa fb : Ev → R D) : Ev → R D := fun ρ => (fa ρ).bind fun a => (Bof a).bind fun b => if b = true then .ok (.bl true) else fb ρ
def eNot (fa : Ev → R D) : Ev → R D := fun ρ => (fa ρ).bind fun a => (Bof a).bind fun b => .ok (.bl (!b))
def eIf (t : Ev → R Bool) (fa fb : Ev → R D) : Ev → R D := fun ρ => (t ρ).bind fun b => if b = true then fa ρ else fb ρ
def eChain (g h : D → D → R D) (fa fb fc : Ev → R D) : Ev → R D := fun ρ => (fa ρ).bind fun a => (fb ρ).bind fun b => (g a b).bind fun z => (Bof z).bind fun k => if k = true then (fc ρ).bind fun c => h b c else .ok (.bl false)
section
variable {X : Cx} {ca : Cn} {W : WX} {a b c e : Expr} {es : List Expr} {fa fb fc : Ev → R D} {fl : Ev → R (List D)} {ft fu : Ev → R Bool} {pos : Pos}
theorem fe_v (i : Nat) {x : Str} {pos : Pos} (hN : X.N[i]? = some x := by rfl) (hv : Vis X.env.scope x := by first | exact Or.inl rfl | exact Or.inr (Or.inl rfl) | exact Or.inr (Or.inr rfl)) (hd : (x == ("__debug__" : Str)) = false := by decide)
    (hcd : (x == ("__classdict__" : Str)) = false := by decide) : FE X ca W (.Name x pos) (eV i) := by
  refine ⟨_, pe_var hN hv hd hcd, fun B G H σ ρ Q s b r h => ?_⟩
  unfold eV at h
  split at h
  · rename_i d e
    obtain ⟨v, h1, h2⟩ := r.val i d e
    exact ⟨v, h1, h.here s v h2⟩
  · exact h.elim
theorem fe_int {i : Int} {j : Nat} {pos : Pos} : FE X ca W (.Constant (.int i) j pos) (eC (.int i)) := ⟨_, pe_int, fun B G H σ ρ Q s b r h => h.here s _ rfl⟩
theorem fe_bl {i : Bool} {j : Nat} {pos : Pos} : FE X ca W (.Constant (.bool i) j pos) (eC (.bl i)) := ⟨_, pe_bl, fun B G H σ ρ Q s b r h => h.here s _ rfl⟩
theorem fe_non {j : Nat} {pos : Pos} : FE X ca W (.Constant .none j pos) (eC .non) := ⟨_, pe_non, fun B G H σ ρ Q s b r h => h.here s _ rfl⟩
theorem fe_str {x : Str} {j : Nat} {pos : Pos} : FE X ca W (.Constant (.str x) j pos) (eC (.str x)) := ⟨_, pe_str, fun B G H σ ρ Q s b r h => h.here s _ rfl⟩
theorem fe_glob {x : Str} {v : V} {u : Value} {d : D} {pos : Pos} (hg : Gl X x) (hm : X.mg x = some u) (r : RelV v u) (ha : ∀ G, At X.K ca G d v) (hd : (x == ("__debug__" : Str)) = false := by decide) : FE X ca W (.Name x pos) (eC d) :=
  ⟨_, pe_glob hg hm r hd, fun B G H σ ρ Q s b r h => h.here s _ (ha G)⟩
def V2 (X : Cx) (ca : Cn) (r : R2) (g : D → D → R D) : Prop := ∀ G H W1 x y a b Q, Same G H → At X.K ca G a x → At X.K ca G b y → Wish X.K ca (SV X.K ca Q) G H (g a b) W1 → r x y H Q
def VN (X : Cx) (ca : Cn) (r : List V → Hp → VK → Prop) (g : List D → R D) : Prop := ∀ G H W1 xs ds Q, Same G H → AtL X.K ca G ds xs → Wish X.K ca (SV X.K ca Q) G H (g ds) W1 → r xs H Q
theorem fe_op {op : Operator} {r : R2} {g : D → D → R D} (ho : OpR X (binaryOp op) r) (hv : V2 X ca r g) (ha : FE X ca W a fa) (hb : FE X ca W b fb) : FE X ca W (.BinOp a op b pos) (e2 g fa fb) := by
  obtain ⟨ta, pa, ka⟩ := ha.ex
  obtain ⟨tb, pb, kb⟩ := hb.ex
  refine ⟨_, pe_op ho pa pb, fun B G H σ ρ Q s b r h => ?_⟩
  refine ka B G H σ ρ _ s b r (Wish.bind h fun d G1 H1 _ x1 w1 v a1 => ?_)
  refine kb B G1 H1 σ ρ _ x1.gh (b.trans x1.hh) (r.ext x1) (Wish.bind w1 fun d2 G2 H2 _ x2 w2 v2 a2 => ?_)
  exact hv G2 H2 _ v v2 d d2 Q x2.gh (At.mono x2.gg a1) a2 w2
theorem fe_cmp {op : CmpOp} {r : R2} {g : D → D → R D} (ho : OpR X (compareOp op) r) (hv : V2 X ca r g) (hm : behindInMarks op b = false) (ha : FE X ca W a fa) (hb : FE X ca W b fb) : FE X ca W (.Compare a [op] [b] pos) (e2 g fa fb) := by
  obtain ⟨ta, pa, ka⟩ := ha.ex
  obtain ⟨tb, pb, kb⟩ := hb.ex
  refine ⟨_, pe_cmpR ho pa pb hm, fun B G H σ ρ Q s b r h => ?_⟩
  refine ka B G H σ ρ _ s b r (Wish.bind h fun d G1 H1 _ x1 w1 v a1 => ?_)
  refine kb B G1 H1 σ ρ _ x1.gh (b.trans x1.hh) (r.ext x1) (Wish.bind w1 fun d2 G2 H2 _ x2 w2 v2 a2 => ?_)
  exact hv G2 H2 _ v v2 d d2 Q x2.gh (At.mono x2.gg a1) a2 w2
theorem wish_tst {K : PySem.W.Frag} {G H : Hp} {r : R D} {Q : Bool → Hp → Prop} {W1 : XK} (h : Wish K ca (SB Q) G H (r.bind Bof) W1) : Wish K ca (SV K ca fun x H' => ∃ k, x = .bl k ∧ Q k H') G H r W1 := by
  refine Wish.bind h fun d G1 H1 _ x1 w1 v a1 => ?_
  cases d with
  | bl k => exact ⟨k, a1, w1.here x1.gh⟩
  | _ => exact w1.elim
theorem ft_cmp {op : CmpOp} {r : R2} {g : D → D → R D} (ho : OpR X (compareOp op) r) (hv : V2 X ca r g) (hm : behindInMarks op b = false) (ha : FE X ca W a fa) (hb : FE X ca W b fb) : FT X ca W (.Compare a [op] [b] pos) (tV (e2 g fa fb)) := by
  obtain ⟨ta, pa, ka⟩ := ha.ex
  obtain ⟨tb, pb, kb⟩ := hb.ex
  refine ⟨_, pt_cmpR ho pa pb hm, fun B G H σ ρ Q s b r h => ?_⟩
  refine ka B G H σ ρ _ s b r (Wish.bind (wish_tst h) fun d G1 H1 _ x1 w1 v a1 => ?_)
  refine kb B G1 H1 σ ρ _ x1.gh (b.trans x1.hh) (r.ext x1) (Wish.bind w1 fun d2 G2 H2 _ x2 w2 v2 a2 => ?_)
  exact hv G2 H2 _ v v2 d d2 _ x2.gh (At.mono x2.gg a1) a2 w2
theorem ft_val (h : FE X ca W e fa) (he : ∀ whole, isTrue e X.env whole = (do let v ← whole; standAt e.pos; holding [v] (truthy v)) := by intro _; rfl) : FT X ca W e (tV fa) := by
  obtain ⟨ta, pa, ka⟩ := h.ex
  exact ⟨_, pt_val pa he, fun B G H σ ρ Q s b r h => ka B G H σ ρ _ s b r (wish_tst h)⟩
theorem ft_w (h : FW X ca W e ft) : FT X ca W e ft := let ⟨t, p, k⟩ := h.ex; ⟨t, p.pt, k⟩
theorem fw_and1 (h : FT X ca W a ft) : FW X ca W (.BoolOp .And [a] pos) ft := let ⟨t, p, k⟩ := h.ex; ⟨t, pw_and1 p, k⟩
theorem fw_or1 (h : FT X ca W a ft) : FW X ca W (.BoolOp .Or [a] pos) ft := let ⟨t, p, k⟩ := h.ex; ⟨t, pw_or1 p, k⟩
theorem fw_and {rest : List Expr} (ha : FT X ca W a ft) (hb : FW X ca W (.BoolOp .And (b :: rest) pos) fu) : FW X ca W (.BoolOp .And (a :: b :: rest) pos) (tAnd ft fu) := by
  obtain ⟨t, p, k⟩ := ha.ex
  obtain ⟨u, q, l⟩ := hb.ex
  refine ⟨_, pw_and p q, fun B G H σ ρ Q s b r h => ?_⟩
  refine k B G H σ ρ _ s b r (Wish.bind h fun d G1 H1 _ x1 w1 => ?_)
  cases d with
  | true => exact l B G1 H1 σ ρ _ x1.gh (b.trans x1.hh) (r.ext x1) w1
  | false => exact w1.here x1.gh
theorem fw_or {rest : List Expr} (ha : FT X ca W a ft) (hb : FW X ca W (.BoolOp .Or (b :: rest) pos) fu) : FW X ca W (.BoolOp .Or (a :: b :: rest) pos) (tOr ft fu) := by
  obtain ⟨t, p, k⟩ := ha.ex
  obtain ⟨u, q, l⟩ := hb.ex
  refine ⟨_, pw_or p q, fun B G H σ ρ Q s b r h => ?_⟩
  refine k B G H σ ρ _ s b r (Wish.bind h fun d G1 H1 _ x1 w1 => ?_)
  cases d with
  | false => exact l B G1 H1 σ ρ _ x1.gh (b.trans x1.hh) (r.ext x1) w1
  | true => exact w1.here x1.gh
theorem ft_not (ha : FT X ca W a ft) : FT X ca W (.UnaryOp .Not a pos) (tNot ft) := by
  obtain ⟨t, p, k⟩ := ha.ex
  refine ⟨_, pt_not p, fun B G H σ ρ Q s b r h => ?_⟩
  exact k B G H σ ρ _ s b r (Wish.bind h fun d G1 H1 _ x1 w1 => w1.here x1.gh)
theorem fe_one {op : BoolOp} (ha : FE X ca W a fa) : FE X ca W (.BoolOp op [a] pos) fa := let ⟨t, p, k⟩ := ha.ex; ⟨t, pe_one p, k⟩
theorem fe_and {rest : List Expr} (ha : FE X ca W a fa) (hb : FE X ca W (.BoolOp .And (b :: rest) pos) fb) : FE X ca W (.BoolOp .And (a :: b :: rest) pos) (eAnd fa fb) := by
  obtain ⟨t, p, k⟩ := ha.ex
  obtain ⟨u, q, l⟩ := hb.ex
  refine ⟨_, pe_and p q, fun B G H σ ρ Q s b r h => ?_⟩
  refine k B G H σ ρ _ s b r (Wish.bind h fun d G1 H1 _ x1 w1 v a1 => ?_)
  cases d with
  | bl z =>
    refine ⟨z, a1, ?_⟩
    cases z with
    | true => exact l B G1 H1 σ ρ _ x1.gh (b.trans x1.hh) (r.ext x1) w1
    | false => exact w1.here x1.gh _ rfl
  | _ => exact w1.elim
theorem fe_not (ha : FE X ca W a fa) : FE X ca W (.UnaryOp .Not a pos) (eNot fa) := by
  obtain ⟨t, p, k⟩ := ha.ex
  refine ⟨_, pe_not p, fun B G H σ ρ Q s b r h => ?_⟩
  refine k B G H σ ρ _ s b r (Wish.bind h fun d G1 H1 _ x1 w1 v a1 => ?_)
  cases d with
  | bl z => exact ⟨z, a1, w1.here x1.gh _ rfl⟩
  | _ => exact w1.elim
theorem fe_if (hc : FT X ca W c ft) (ha : FE X ca W a fa) (hb : FE X ca W b fb) : FE X ca W (.IfExp c a b pos) (eIf ft fa fb) := by
  obtain ⟨t, p, k⟩ := hc.ex
  obtain ⟨ta, pa, ka⟩ := ha.ex
  obtain ⟨tb, pb, kb⟩ := hb.ex
  refine ⟨_, pe_ifExp p pa pb, fun B G H σ ρ Q s b r h => ?_⟩
  refine k B G H σ ρ _ s b r (Wish.bind h fun d G1 H1 _ x1 w1 => ?_)
  cases d with
  | true => exact ka B G1 H1 σ ρ _ x1.gh (b.trans x1.hh) (r.ext x1) w1
  | false => exact kb B G1 H1 σ ρ _ x1.gh (b.trans x1.hh) (r.ext x1) w1
theorem chain_core {r r' : R2} {g h' : D → D → R D} (hv : V2 X ca r g) (hv' : V2 X ca r' h') {ta tb tc : TE}
    (ka : ∀ B G H σ ρ Q, Same G H → Same B H → Rel X.K ca B G H σ ρ → Wish X.K ca (SV X.K ca Q) G H (fa ρ) (WE W σ) → ta σ H Q)
    (kb : ∀ B G H σ ρ Q, Same G H → Same B H → Rel X.K ca B G H σ ρ → Wish X.K ca (SV X.K ca Q) G H (fb ρ) (WE W σ) → tb σ H Q)
    (kc : ∀ B G H σ ρ Q, Same G H → Same B H → Rel X.K ca B G H σ ρ → Wish X.K ca (SV X.K ca Q) G H (fc ρ) (WE W σ) → tc σ H Q)
    (B G H σ ρ Q) (s : Same G H) (b : Same B H) (rl : Rel X.K ca B G H σ ρ) (h : Wish X.K ca (SV X.K ca Q) G H (eChain g h' fa fb fc ρ) (WE W σ)) : tChain r r' ta tb tc σ H Q := by
  refine ka B G H σ ρ _ s b rl (Wish.bind h fun d G1 H1 _ x1 w1 v a1 => ?_)
  refine kb B G1 H1 σ ρ _ x1.gh (b.trans x1.hh) (rl.ext x1) (Wish.bind w1 fun d2 G2 H2 _ x2 w2 v2 a2 => ?_)
  refine hv G2 H2 (WE W σ) v v2 d d2 _ x2.gh (At.mono x2.gg a1) a2 (Wish.bind w2 fun d3 G3 H3 _ x3 w3 v3 a3 => ?_)
  cases d3 with
  | bl z =>
    refine ⟨z, a3, ?_⟩
    cases z with
    | true =>
      refine kc B G3 H3 σ ρ _ x3.gh (b.trans (x1.hh.trans (x2.hh.trans x3.hh))) (((rl.ext x1).ext x2).ext x3) (Wish.bind w3 fun d4 G4 H4 _ x4 w4 v4 a4 => ?_)
      exact hv' G4 H4 _ v2 v4 d2 d4 Q x4.gh (At.mono (x3.gg.trans x4.gg) a2) a4 w4
    | false => exact w3.here x3.gh _ rfl
  | _ => exact w3.elim
theorem ft_chain {op op' : CmpOp} {r r' : R2} {g h' : D → D → R D} (ho : OpR X (compareOp op) r) (hv : V2 X ca r g) (ho' : OpR X (compareOp op') r') (hv' : V2 X ca r' h') (ha : FE X ca W a fa) (hb : FE X ca W b fb) (hc : FE X ca W c fc) (hm : lastMarks [op, op'] [b, c] = false := by with_unfolding_all rfl) :
    FT X ca W (.Compare a [op, op'] [b, c] pos) (tV (eChain g h' fa fb fc)) := by
  obtain ⟨ta, pa, ka⟩ := ha.ex
  obtain ⟨tb, pb, kb⟩ := hb.ex
  obtain ⟨tc, pc, kc⟩ := hc.ex
  exact ⟨_, pt_chain ho ho' pa pb pc hm, fun B G H σ ρ Q s b r h => chain_core hv hv' ka kb kc B G H σ ρ _ s b r (wish_tst h)⟩
theorem fa_nil : FA X ca W [] aN := ⟨_, pa_nil, fun B G H σ ρ Q s b r h => h.here s _ rfl⟩
theorem fa_cons (ha : FE X ca W e fa) (hr : FA X ca W es fl) (hs : starEach (e :: es) X.env = (false, eval e X.env) :: starEach es X.env := by rfl) : FA X ca W (e :: es) (aC fa fl) := by
  obtain ⟨ta, pa, ka⟩ := ha.ex
  obtain ⟨tb, pb, kb⟩ := hr.ex
  refine ⟨_, pa_cons pa pb hs, fun B G H σ ρ Q s b r h => ?_⟩
  refine ka B G H σ ρ _ s b r (Wish.bind h fun d G1 H1 _ x1 w1 v a1 => ?_)
  refine kb B G1 H1 σ ρ _ x1.gh (b.trans x1.hh) (r.ext x1) (Wish.bind w1 fun d2 G2 H2 _ x2 w2 v2 a2 => ?_)
  exact w2.here x2.gh _ ⟨v, v2, rfl, At.mono x2.gg a1, a2⟩
theorem fk_nil : FK X ca W [] aN := ⟨_, pk_nil, fun B G H σ ρ Q s b r h => h.here s _ rfl⟩
theorem fk_cons {nm : Option Str} {kpos : Pos} {kws : List Keyword} (ha : FE X ca W e fa) (hr : FK X ca W kws fl) : FK X ca W (⟨nm, e, kpos⟩ :: kws) (aC fa fl) := by
  obtain ⟨ta, pa, ka⟩ := ha.ex
  obtain ⟨tb, pb, kb⟩ := hr.ex
  refine ⟨_, pk_cons pa pb, fun B G H σ ρ Q s b r h => ?_⟩
  refine ka B G H σ ρ _ s b r (Wish.bind h fun d G1 H1 _ x1 w1 v a1 => ?_)
  refine kb B G1 H1 σ ρ _ x1.gh (b.trans x1.hh) (r.ext x1) (Wish.bind w1 fun d2 G2 H2 _ x2 w2 v2 a2 => ?_)
  exact w2.here x2.gh _ ⟨v, v2, rfl, At.mono x2.gg a1, a2⟩
def gLst (ds : List D) : R D := if ds.length ≤ sizeLine then .ok (.lst ds) else .bad
def gTup (ds : List D) : R D := if ds.length ≤ sizeLine then .ok (.tup ds) else .bad
theorem new_lst {G H : Hp} {p : Addr} {ds : List D} {vs : List V} {Q : VK} {W1 : XK} (s : Same G H) (h : Wish X.K ca (SV X.K ca Q) G H (.ok (.lst ds)) W1) (a : AtL X.K ca G ds vs) (n : H p = none) : Q (.ref p) (upd H p (.lst vs)) :=
  h _ _ (Ext.new s n) (.ref p) ⟨p, vs, rfl, upd_same, AtL.mono (same_upd (same_none s n)) a⟩
theorem new_tup {G H : Hp} {p : Addr} {ds : List D} {vs : List V} {Q : VK} {W1 : XK} (s : Same G H) (h : Wish X.K ca (SV X.K ca Q) G H (.ok (.tup ds)) W1) (a : AtL X.K ca G ds vs) (n : H p = none) : Q (.ref p) (upd H p (.tup vs)) :=
  h _ _ (Ext.new s n) (.ref p) ⟨p, vs, rfl, upd_same, AtL.mono (same_upd (same_none s n)) a⟩
theorem fe_lst (h : FA X ca W es fl) : FE X ca W (.List es pos) (eA gLst fl) := by
  obtain ⟨t, p, k⟩ := h.ex
  refine ⟨_, pe_lst p, fun B G H σ ρ Q s b r h => ?_⟩
  refine k B G H σ ρ _ s b r (Wish.bind h fun ds G1 H1 _ x1 w1 vs a1 => ?_)
  unfold gLst at w1
  split at w1
  · rename_i z
    exact ⟨by rw [← a1.length]; exact z, fun p n => new_lst x1.gh w1 a1 n⟩
  · exact w1.elim
theorem fe_tup {x1 : Nat} (h : FA X ca W es fl) : FE X ca W (.Tuple es x1 pos) (eA gTup fl) := by
  obtain ⟨t, p, k⟩ := h.ex
  refine ⟨_, pe_tup p, fun B G H σ ρ Q s b r h => ?_⟩
  refine k B G H σ ρ _ s b r (Wish.bind h fun ds G1 H1 _ x1 w1 vs a1 => ?_)
  unfold gTup at w1
  split at w1
  · rename_i z
    exact ⟨by rw [← a1.length]; exact z, fun p n => new_tup x1.gh w1 a1 n⟩
  · exact w1.elim
end
end Tk
namespace Tk
open PySem PySem.Spec L2
def sN : Ev → SO := fun ρ => .nx ρ
def sSq (g k : Ev → SO) : Ev → SO := fun ρ => match g ρ with
  | .nx ρ' => k ρ'
  | r => r
def sBad : Ev → SO := fun _ => .bad
def sRet (f : Ev → R D) : Ev → SO := fun ρ => SO.from ρ (f ρ) .rt
def sRetN : Ev → SO := fun _ => .rt .non
def sDrop (f : Ev → R D) : Ev → SO := fun ρ => SO.from ρ (f ρ) fun _ => .nx ρ
def sIf (t : Ev → R Bool) (g k : Ev → SO) : Ev → SO := fun ρ => SO.from ρ (t ρ) fun b => if b = true then g ρ else k ρ
def sSet (i : Nat) (f : Ev → R D) : Ev → SO := fun ρ => SO.from ρ (f ρ) fun d => .nx (ρ.set i (.v d))
def sBk : Ev → SO := fun ρ => .bk ρ
def sCt : Ev → SO := fun ρ => .ct ρ
abbrev Tg := D → Ev → Option Ev
abbrev Tgs := List D → Ev → Option Ev
def gN (i : Nat) : Tg := fun d ρ => some (ρ.set i (.v d))
def gsN : Tgs
  | [], ρ => some ρ
  | _ :: _, _ => none
def gsC (g : Tg) (r : Tgs) : Tgs
  | [], _ => none
  | d :: ds, ρ => (g d ρ).bind fun ρ' => r ds ρ'
def gT (n : Nat) (g : Tgs) : Tg
  | .tup ds, ρ => if ds.length = n then g ds ρ else none
  | _, _ => none
def SO.ofO (o : Option Ev) (k : Ev → SO) : SO := match o with
  | some ρ => k ρ
  | none => .bad
@[simp] theorem ofO_some (ρ : Ev) (k : Ev → SO) : SO.ofO (some ρ) k = k ρ := (rfl)
def sAsg (f : Ev → R D) (g : Tg) : Ev → SO := fun ρ => SO.from ρ (f ρ) fun d => SO.ofO (g d ρ) .nx
def loop (g : Tg) (body : Ev → SO) : List D → Ev → SO
  | [], ρ => .nx ρ
  | d :: ds, ρ => SO.ofO (g d ρ) fun ρ1 => match body ρ1 with
    | .nx ρ2 => loop g body ds ρ2
    | .ct ρ2 => loop g body ds ρ2
    | .bk ρ2 => .nx ρ2
    | r => r
def sFor (fi : Ev → R (List D)) (g : Tg) (body : Ev → SO) : Ev → SO := fun ρ => SO.from ρ (fi ρ) fun ds => loop g body ds ρ
def wloop (t : Ev → R Bool) (body : Ev → SO) : Nat → Ev → SO
  | 0, ρ => .bad
  | n + 1, ρ => SO.from ρ (t ρ) fun b => if b = true then (match body ρ with
    | .nx ρ2 => wloop t body n ρ2
    | .ct ρ2 => wloop t body n ρ2
    | .bk ρ2 => .nx ρ2
    | r => r) else .nx ρ
structure FG (X : Cx) (ca : Cn) (zs : List Nat) (tg : Expr) (h : Tg) : Prop where
  ex : ∃ t, PG X tg t ∧ ∀ B G H σ ρ d v (Q : L2.St → Hp → Prop), Same G H → Same B H → Rel X.K ca B G H σ ρ → At X.K ca G d v → (∃ ρ', h d ρ = some ρ' ∧ ∀ σ', Rel X.K ca B G H σ' ρ' → wipe σ' zs = wipe σ zs → Q σ' H) → t v σ H Q
structure FGs (X : Cx) (ca : Cn) (zs : List Nat) (tgs : List Expr) (h : Tgs) : Prop where
  ex : ∃ t, PGs X tgs t ∧ ∀ B G H σ ρ ds vs (Q : L2.St → Hp → Prop), Same G H → Same B H → Rel X.K ca B G H σ ρ → AtL X.K ca G ds vs → (∃ ρ', h ds ρ = some ρ' ∧ ∀ σ', Rel X.K ca B G H σ' ρ' → wipe σ' zs = wipe σ zs → Q σ' H) → t vs σ H Q
theorem wipe_set {σ : L2.St} {i : Nat} {x : Option V} : ∀ {zs : List Nat}, i ∈ zs → wipe (σ.set i x) zs = wipe σ zs
  | [], h => by cases h
  | z :: zs, h => by
    unfold wipe
    by_cases e : i ∈ zs
    · rw [wipe_set e]
    · rcases List.mem_cons.mp h with rfl | h
      · have : ∀ zs : List Nat, i ∉ zs → wipe (σ.set i x) zs = (wipe σ zs).set i x := by
          intro zs
          induction zs with
          | nil => intro _; rfl
          | cons y ys ih =>
            intro hn
            rw [List.mem_cons, not_or] at hn
            unfold wipe
            rw [ih hn.2, List.set_comm _ _ hn.1]
        rw [this zs e, List.set_set]
      · exact absurd h e
def JOk (K : PySem.W.Frag) (ca : Cn) (G0 : Hp) (J : It) (ds : List D) : Prop := ∀ G H, Same G0 G → Same G H → ∀ i,
  (∀ d, ds[i]? = some d → J.go i H ∧ ∀ x H', J.yld i H x H' → ∃ G', Ext G H G' H' ∧ At K ca G' d x) ∧ (ds.length = i → J.stop i H)
structure FI (X : Cx) (ca : Cn) (W : WX) (tg iter : Expr) (fi : Ev → R (List D)) : Prop where
  ex : ∃ t, PI X tg iter t ∧ ∀ B G H σ ρ (Q : It → Hp → Prop), Same G H → Same B H → Rel X.K ca B G H σ ρ → Wish X.K ca (fun G' ds H' => ∀ J, JOk X.K ca G' J ds → Q J H') G H (fi ρ) (WE W σ) → t σ H Q
section
variable {X : Cx} {ca : Cn} {W : WX} {e c : Expr} {st : Stmt} {rest body orelse : List Stmt} {fa : Ev → R D} {ft : Ev → R Bool} {g k : Ev → SO} {pos : Pos} {zs : List Nat}
theorem fss_nil : FSs X ca W [] sN := ⟨_, pss_nil, fun B G H σ ρ D s b r h => h σ G H (.refl s b) r⟩
theorem fss_cons (h1 : FS X ca W st g) (h2 : FSs X ca W rest k) : FSs X ca W (st :: rest) (sSq g k) := by
  obtain ⟨t, p, kt⟩ := h1.ex
  obtain ⟨u, q, ku⟩ := h2.ex
  refine ⟨_, pss_cons p q, fun B G H σ ρ D s b r h => ?_⟩
  refine kt B G H σ ρ _ s b r ?_
  unfold sSq at h
  cases z : g ρ with
  | nx ρ1 =>
    rw [z] at h
    exact fun σ' G' H' a r' => ku B G' H' σ' ρ1 D a.gh a.bh r' (WishS.mono (r := k ρ1) h a)
  | _ => rw [z] at h; exact h
theorem fss_one (h1 : FS X ca W st g) : FSs X ca W [st] g := let ⟨t, p, kt⟩ := h1.ex; ⟨t, pss_one p, kt⟩
theorem fss_never : FSs X ca W rest sBad := ⟨_, pss_never, fun B G H σ ρ D s b r h => h.elim⟩
theorem fs_ret (h : FE X ca W e fa) : FS X ca W (.Return (some e) pos) (sRet fa) := by
  obtain ⟨t, p, kt⟩ := h.ex
  refine ⟨_, ps_ret p, fun B G H σ ρ D s b r h => kt B G H σ ρ _ s b r ?_⟩
  exact WishS.from h b r fun a G1 H1 _ x w r1 b1 v av => w v G1 H1 (.refl x.gh b1) av
theorem fs_expr (h : FE X ca W e fa) (hs : swapsWith e none pos.line X.env = pure false := by rfl) : FS X ca W (.Expr e pos) (sDrop fa) := by
  obtain ⟨t, p, kt⟩ := h.ex
  refine ⟨_, ps_expr p hs, fun B G H σ ρ D s b r h => kt B G H σ ρ _ s b r ?_⟩
  exact WishS.from h b r fun a G1 H1 _ x w r1 b1 v av => w σ G1 H1 (.refl x.gh b1) r1
theorem fs_if (hc : FT X ca W c ft) (ha : FSs X ca W body g) (hb : FSs X ca W orelse k) : FS X ca W (.If c body orelse pos) (sIf ft g k) := by
  obtain ⟨t, p, kt⟩ := hc.ex
  obtain ⟨ta, pa, ka⟩ := ha.ex
  obtain ⟨tb, pb, kb⟩ := hb.ex
  refine ⟨_, ps_if p pa pb, fun B G H σ ρ D s b r h => kt B G H σ ρ _ s b r ?_⟩
  refine WishS.from h b r fun a G1 H1 _ x w r1 b1 => ?_
  cases a with
  | true => exact ka B G1 H1 σ ρ D x.gh b1 r1 w
  | false => exact kb B G1 H1 σ ρ D x.gh b1 r1 w
theorem fs_set {i : Nat} {y : Str} {pos' : Pos} (hN : X.N.Nodup) (hi : X.N[i]? = some y) (h : FE X ca W e fa) (hx : Loc X.env.scope y := by first | exact .inl rfl | exact .inr rfl) (hs : swapsWith e (some (.Name y pos')) pos.line X.env = pure false := by rfl)
    (hf : X.fn y = true ∨ X.env.scope.names.lookup y = some .local := by first | exact .inl rfl | exact .inr rfl | assumption) : FS X ca W (.Assign [.Name y pos'] e pos) (sSet i fa) := by
  obtain ⟨t, p, kt⟩ := h.ex
  refine ⟨_, ps_set hN hi hx p hs hf, fun B G H σ ρ D s b r h => kt B G H σ ρ _ s b r ?_⟩
  exact WishS.from h b r fun a G1 H1 _ x w r1 b1 v av => w _ G1 H1 (.refl x.gh b1) (r1.set i av)
theorem fg_n {i : Nat} {y : Str} (hN : X.N.Nodup) (hi : X.N[i]? = some y) (hz : i ∈ zs := by decide) (hx : Loc X.env.scope y := by first | exact .inl rfl | exact .inr rfl) (hf : X.fn y = true ∨ X.env.scope.names.lookup y = some .local := by first | exact .inl rfl | exact .inr rfl | assumption) : FG X ca zs (.Name y pos) (gN i) :=
  ⟨_, pg_name hN hi hx hf, fun B G H σ ρ d v Q s b r a ⟨ρ', e, q⟩ => by cases e; exact q _ (r.set i a) (wipe_set hz)⟩
theorem fgs_n : FGs X ca zs [] gsN := ⟨_, pgs_nil, fun B G H σ ρ ds vs Q s b r a ⟨ρ', e, q⟩ => by
  cases ds with
  | nil => cases e; exact ⟨a, q _ r rfl⟩
  | cons _ _ => cases e⟩
theorem fgs_c {es : List Expr} {h1 : Tg} {h2 : Tgs} (a : FG X ca zs e h1) (b : FGs X ca zs es h2) (hs : (assignEach (e :: es) X.env).map (·.2) = assign e X.env :: (assignEach es X.env).map (·.2) := by rfl) : FGs X ca zs (e :: es) (gsC h1 h2) := by
  obtain ⟨t, p, kt⟩ := a.ex
  obtain ⟨u, q, ku⟩ := b.ex
  refine ⟨_, pgs_cons p q hs, fun B G H σ ρ ds vs Q s b r a ⟨ρ', e, q⟩ => ?_⟩
  cases ds with
  | nil => cases e
  | cons d ds =>
    obtain ⟨v, vr, rfl, a1, a2⟩ := a
    obtain ⟨ρ1, z, e⟩ := Option.bind_eq_some_iff.mp (show (h1 d ρ).bind (fun ρ' => h2 ds ρ') = some ρ' from e)
    exact ⟨v, vr, rfl, kt B G H σ ρ d v _ s b r a1 ⟨ρ1, z, fun σ' r' w' => ku B G H σ' ρ1 ds vr Q s b r' a2 ⟨ρ', e, fun σ2 r2 w2 => q σ2 r2 (w2.trans w')⟩⟩⟩
theorem fg_t {es : List Expr} {kk n : Nat} {h1 : Tgs} (hc : X.calm = true) (a : FGs X ca zs es h1) (hn : (assignEach es X.env).length = n := by rfl) (hst : (assignEach es X.env).findIdx? (·.1) = none := by rfl) : FG X ca zs (.Tuple es kk pos) (gT n h1) := by
  obtain ⟨t, p, kt⟩ := a.ex
  refine ⟨_, pg_tup hc p hn hst, fun B G H σ ρ d v Q s b r a z => ?_⟩
  obtain ⟨ρ', e, q⟩ := z
  cases d with
  | tup ds =>
    have e : (if ds.length = n then h1 ds ρ else none) = some ρ' := e
    split at e
    · rename_i hl
      obtain ⟨p', vs, rfl, a1, a2⟩ := a
      exact ⟨p', vs, rfl, tq s a1, by rw [← a2.length]; exact hl, kt B G H σ ρ ds vs Q s b r a2 ⟨ρ', e, q⟩⟩
    · cases e
  | _ => cases e
theorem turn_end {B G : Hp} {r : SO} {D' : Ends} {K : PySem.W.Frag} (kk : Ev → SO) (N : L2.St → Hp → Prop) (h : WishS K ca B G (match r with
    | .nx ρ2 => kk ρ2
    | .ct ρ2 => kk ρ2
    | .bk ρ2 => .nx ρ2
    | r => r) D' W) (hn : ∀ ρ2 σ' G' H', WishS K ca B G' (kk ρ2) D' W → Adv B G G' H' → Rel K ca B G' H' σ' ρ2 → N σ' H') : WishS K ca B G r { D' with nx := N, ct := N, bk := D'.nx } W := by
  cases r with
  | nx ρ2 => exact fun σ' G' H' a r' => hn ρ2 σ' G' H' (WishS.mono (r := kk ρ2) h a) a r'
  | ct ρ2 => exact fun σ' G' H' a r' => hn ρ2 σ' G' H' (WishS.mono (r := kk ρ2) h a) a r'
  | bk ρ2 => exact h
  | rt d => exact h
  | ro s => exact h
  | ex x ρ => exact h
  | bad => exact h
theorem fs_for {tg iter : Expr} {fi : Ev → R (List D)} {h1 : Tg} (hp : PassesOwn (model X.prog X.w) X.A X.env X.xe) (hc : X.calm = true) (hi : FI X ca W tg iter fi) (hg : FG X ca zs tg h1) (hb : FSs X ca W body g)
    (hs : ∀ x, foldedSetIterable iter X.env x = pure x := by intro _; rfl) : FS X ca W (.For tg iter body [] pos) (sFor fi h1 g) := by
  obtain ⟨ti, pi, ki⟩ := hi.ex
  obtain ⟨tg', pg, kg⟩ := hg.ex
  obtain ⟨tb, pb, kb⟩ := hb.ex
  refine ⟨_, ps_for hp hc pi pg pb hs, fun B G H σ ρ D s b r h => ki B G H σ ρ _ s b r ?_⟩
  refine WishS.from h b r fun ds G1 H1 _ x w r1 b1 J hj => ?_
  refine ⟨fun i m σ2 H2 => m = ds.length - i ∧ i ≤ ds.length ∧ ∃ G2 ρ2, Adv B G1 G2 H2 ∧ Rel X.K ca B G2 H2 σ2 ρ2 ∧ WishS X.K ca B G2 (loop h1 g (ds.drop i) ρ2) D W, ⟨_, rfl, Nat.zero_le _, G1, ρ, .refl x.gh b1, r1, by rw [List.drop_zero]; exact w⟩, ?_⟩
  rintro i m σ2 H2 ⟨rfl, hi, G2, ρ2, a2, r2, w2⟩
  obtain ⟨j1, j2⟩ := hj G2 H2 a2.gg a2.gh i
  by_cases hlt : i < ds.length
  · rw [List.drop_eq_getElem_cons hlt] at w2
    obtain ⟨go, yl⟩ := j1 ds[i] (by simp [hlt])
    refine .inr ⟨go, fun σ3 H3 => ∃ G3 ρ3, Adv B G1 G3 H3 ∧ Rel X.K ca B G3 H3 σ3 ρ3 ∧ WishS X.K ca B G3 (loop h1 g (ds.drop (i + 1)) ρ3) D W, fun σ3 H3 q => ⟨ds.length - (i + 1), by omega, rfl, hlt, q⟩, fun y H3 yy => ?_⟩
    obtain ⟨G3, x3, a3⟩ := yl y H3 yy
    have r3 := r2.ext x3
    have b3 := a2.bh.trans x3.hh
    have w3 := WishS.mono w2 (x3.adv a2.bh)
    show tg' y σ2 H3 _
    unfold loop at w3
    cases z : h1 ds[i] ρ2 with
    | none => rw [z] at w3; exact w3.elim
    | some ρ4 =>
      rw [z] at w3
      refine kg B G3 H3 σ2 ρ2 ds[i] y _ x3.gh b3 r3 a3 ⟨ρ4, z, fun σ4 r4 _ => ?_⟩
      refine kb B G3 H3 σ4 ρ4 _ x3.gh b3 r4 (turn_end (fun ρ5 => loop h1 g (ds.drop (i + 1)) ρ5) _ w3 fun ρ5 σ5 G5 H5 w5 a5 r5 => ?_)
      exact ⟨G5, ρ5, a2.trans ((x3.adv a2.bh).trans a5), r5, w5⟩
  · have e : i = ds.length := by omega
    subst e
    rw [List.drop_length] at w2
    exact .inl ⟨j2 rfl, w2 σ2 G2 H2 (.refl a2.gh a2.bh) r2⟩
theorem fs_while {n : Nat} (hp : PassesOwn (model X.prog X.w) X.A X.env X.xe) (hc : FT X ca W c ft) (hb : FSs X ca W body g) : FS X ca W (.While c body [] pos) (wloop ft g n) := by
  obtain ⟨tc, pc, kc⟩ := hc.ex
  obtain ⟨tb, pb, kb⟩ := hb.ex
  refine ⟨_, ps_while hp pc pb, fun B G H σ ρ D s b r h => ?_⟩
  refine ⟨fun m σ2 H2 => ∃ G2 ρ2, Same G2 H2 ∧ Same B H2 ∧ Rel X.K ca B G2 H2 σ2 ρ2 ∧ WishS X.K ca B G2 (wloop ft g m ρ2) D W, ⟨n, G, ρ, s, b, r, h⟩, ?_⟩
  rintro m σ2 H2 ⟨G2, ρ2, s2, b2, r2, w2⟩
  cases m with
  | zero => exact w2.elim
  | succ m =>
    unfold wloop at w2
    refine kc B G2 H2 σ2 ρ2 _ s2 b2 r2 (WishS.from w2 b2 r2 fun a G3 H3 _ x3 w3 r3 b3 => ?_)
    show if a = true then _ else _
    cases a with
    | true =>
      rw [if_pos rfl] at w3 ⊢
      refine ⟨fun σ4 H4 => ∃ G4 ρ4, Same G4 H4 ∧ Same B H4 ∧ Rel X.K ca B G4 H4 σ4 ρ4 ∧ WishS X.K ca B G4 (wloop ft g m ρ4) D W, fun σ' H' q => ⟨m, Nat.lt_succ_self m, q⟩, ?_⟩
      refine kb B G3 H3 σ2 ρ2 _ x3.gh b3 r3 (turn_end (fun ρ5 => wloop ft g m ρ5) _ w3 fun ρ5 σ5 G5 H5 w5 a5 r5 => ?_)
      exact ⟨G5, ρ5, a5.gh, a5.bh, r5, w5⟩
    | false =>
      rw [if_neg Bool.false_ne_true] at w3 ⊢
      exact w3 σ2 G3 H3 (.refl x3.gh b3) r3
end
end Tk
namespace Tk
open PySem PySem.Spec L2 PyProof.Rows
def spF (K : PySem.W.Frag) (ca : Cn) (n : Nat) (F : List D → R D) : Sp := fun vs H Q E => vs.length = n ∧ ∃ G ds, Same G H ∧ AtL K ca G ds vs ∧ Wish K ca (SV K ca Q) G H (F ds) E
def startE (n : Nat) (ds : List D) : Ev := ds.map Sl.v ++ List.replicate (n - ds.length) .no
def frzS : Sl → Sl
  | .l xs => .v (.lst xs)
  | .k xs => .v (.dK xs)
  | .t xs => .v (.dT xs)
  | .o _ c fs => .v (.ins c fs)
  | .tr t => .v (frzT t)
  | s => s
section
variable {K : PySem.W.Frag} {ca : Cn} {G H G' H' : Hp}
theorem Own.at_ {a : Addr} {s : Sl} (h : Own K ca G H a s) (sg : Same G G') (e : G' a = H a) : ∃ d, frzS s = .v d ∧ At K ca G' d (.ref a) := by
  cases s with
  | no => exact h.elim
  | x _ => exact h.elim
  | tr _ => exact h.elim
  | v d => exact h.elim
  | l xs => obtain ⟨vs, h1, h2⟩ := h; exact ⟨_, rfl, a, vs, rfl, e.trans h1, AtL.mono sg h2⟩
  | k xs => obtain ⟨vs, h1, h2⟩ := h; exact ⟨_, rfl, a, vs, rfl, .inl (e.trans h1), AtK.mono sg h2⟩
  | t xs => obtain ⟨vs, h1, h2⟩ := h; exact ⟨_, rfl, a, vs, rfl, .inl (e.trans h1), AtT.mono sg h2⟩
  | o g c fs => obtain ⟨C, dx, vs, hg, h0, h1, h2⟩ := h; exact ⟨_, rfl, a, C, dx, vs, rfl, h0, e.trans h1, AtF.mono sg h2⟩
end
def frzR : Sl → R D
  | .l xs => .ok (.lst xs)
  | .k xs => .ok (.dK xs)
  | .t xs => .ok (.dT xs)
  | .o _ c fs => .ok (.ins c fs)
  | _ => .bad
theorem frzR_of {s : Sl} {d : D} (h : frzS s = .v d) (o : s.own = true) : frzR s = .ok d := by
  cases s with
  | no => cases o
  | x _ => cases o
  | tr _ => cases o
  | v _ => cases o
  | l _ => cases h; rfl
  | k _ => cases h; rfl
  | t _ => cases h; rfl
  | o _ _ _ => cases h; rfl
def SO.out : SO → R D
  | .nx _ => .ok .non
  | .rt d => .ok d
  | .ro s => frzR s
  | .ex x _ => .exc x
  | _ => .bad
def SO.outO : SO → R Sl
  | .ro s => .ok s
  | .ex x _ => .exc x
  | _ => .bad
def runF (n : Nat) (g : Ev → SO) : List D → R D := fun ds => (g (startE n ds)).out
theorem vals_start {K : PySem.W.Frag} {ca : Cn} {G : Hp} : ∀ {ds : List D} {vs : List V} {i : Nat} {d : D} {n : Nat}, AtL K ca G ds vs → (ds.map Sl.v ++ List.replicate n Sl.no)[i]? = some (.v d) → ∃ v, (vs.map some ++ List.replicate n none)[i]? = some (some v) ∧ At K ca G d v
  | [], vs, i, d, n, h, e => by
    cases h
    simp only [List.map_nil, List.nil_append, List.getElem?_replicate] at e
    split at e <;> cases e
  | x :: ds, vs, i, d, n, ⟨v, r, q, h, t⟩, e => by
    subst q
    cases i with
    | zero => simp at e; subst e; exact ⟨v, rfl, h⟩
    | succ i =>
      obtain ⟨w, h1, h2⟩ := vals_start (i := i) (n := n) t (by simpa using e)
      exact ⟨w, by simpa using h1, h2⟩
theorem own_start : ∀ {ds : List D} {i : Nat} {s : Sl} {n : Nat}, (ds.map Sl.v ++ List.replicate n Sl.no)[i]? = some s → s.own = true → False
  | [], i, s, n, e, o => by
    simp only [List.map_nil, List.nil_append, List.getElem?_replicate] at e
    split at e
    · cases e; cases o
    · cases e
  | x :: ds, i, s, n, e, o => by
    cases i with
    | zero => simp at e; subst e; cases o
    | succ i => exact own_start (ds := ds) (i := i) (n := n) (by simpa using e) o
theorem ex_start : ∀ {ds : List D} {i : Nat} {x : Ex} {n : Nat}, (ds.map Sl.v ++ List.replicate n Sl.no)[i]? = some (.x x) → False
  | [], i, x, n, e => by
    simp only [List.map_nil, List.nil_append, List.getElem?_replicate] at e
    split at e <;> cases e
  | y :: ds, i, x, n, e => by
    cases i with
    | zero => simp at e
    | succ i => exact ex_start (ds := ds) (i := i) (n := n) (by simpa using e)
theorem tr_start : ∀ {ds : List D} {i : Nat} {t : OT} {n : Nat}, (ds.map Sl.v ++ List.replicate n Sl.no)[i]? = some (.tr t) → False
  | [], i, x, n, e => by
    simp only [List.map_nil, List.nil_append, List.getElem?_replicate] at e
    split at e <;> cases e
  | y :: ds, i, x, n, e => by
    cases i with
    | zero => simp at e
    | succ i => exact tr_start (ds := ds) (i := i) (n := n) (by simpa using e)
theorem rel_start {K : PySem.W.Frag} {ca : Cn} {B G H : Hp} {N : List Str} {ds : List D} {vs : List V} (a : AtL K ca G ds vs) : Rel K ca B G H (L2.start N vs) (startE N.length ds) := by
  have l := a.length
  refine ⟨?_, fun i d e => ?_, fun i s e o => (own_start (show (ds.map Sl.v ++ List.replicate (N.length - ds.length) Sl.no)[i]? = some s from e) o).elim, fun i j s t x e o => (own_start (show (ds.map Sl.v ++ List.replicate (N.length - ds.length) Sl.no)[i]? = some s from e) o).elim,
    fun i x e => (ex_start (show (ds.map Sl.v ++ List.replicate (N.length - ds.length) Sl.no)[i]? = some (.x x) from e)).elim,
    ⟨_, .none fun i t e => tr_start (show (ds.map Sl.v ++ List.replicate (N.length - ds.length) Sl.no)[i]? = some (.tr t) from e)⟩⟩
  · unfold L2.start startE
    simp [l]
  · have e' : (ds.map Sl.v ++ List.replicate (N.length - ds.length) Sl.no)[i]? = some (.v d) := e
    rw [l] at e'
    exact vals_start a e'
section
variable {P : Program} {w : World} {K : PySem.W.Frag} {mg : Str → Option Value} {base : Heap} {ca : Cn}
theorem body_ok {X : Cx} {W : WX} {body : List Stmt} {g : Ev → SO} {H : Hp} {vs : List V} {ds : List D} {G : Hp} {Q : VK} {E : XK} {N : List Str} (hK : X.K = K) (h : FSs X ca W body g) (hW : ∀ c d σ H', E c d H' → W c d σ H')
    (s : Same G H) (a : AtL K ca G ds vs) (q : Wish K ca (SV K ca Q) G H (runF N.length g ds) E) : ∃ t, PSs X body t ∧ t { nx := fun _ H' => Q .non H', rt := Q } (L2.start N vs) H := by
  subst hK
  obtain ⟨t, p, k⟩ := h.ex
  refine ⟨t, p, k H G H _ (startE N.length ds) _ s (.refl H) (rel_start a) ?_⟩
  unfold runF at q
  have up : ∀ {G' H' : Hp}, Adv H G G' H' → Ext G H G' H' := fun x => ⟨x.bh, x.gg, x.gh, x.nw⟩
  cases z : g (startE N.length ds) with
  | nx ρ => rw [z] at q; exact fun σ' G' H' x r => q G' H' (up x) .non rfl
  | rt d => rw [z] at q; exact fun v G' H' x r => q G' H' (up x) v r
  | ro sl =>
    rw [z] at q
    have q1 : Wish X.K ca (SV X.K ca Q) G H (frzR sl) E := q
    have own : sl.own = true := by cases sl <;> first | rfl | exact q1.elim
    refine ⟨own, fun a G' H' x oa ga ba => ?_⟩
    obtain ⟨o, ho⟩ := oa.some
    have gg : Same G' (upd G' a o) := same_upd ga
    have gh : Same (upd G' a o) H' := fun c u e => by
      by_cases w : c = a
      · subst w; rw [upd_same] at e; rw [ho]; exact e
      · rw [upd_ne w] at e; exact x.gh c u e
    obtain ⟨d, e1, e2⟩ := oa.at_ gg (show upd G' a o a = H' a by rw [upd_same, ho])
    have q2 : Wish X.K ca (SV X.K ca Q) G H (.ok d) E := by
      rw [frzR_of e1 own] at q1
      exact q1
    refine q2 (upd G' a o) H' ⟨x.bh, x.gg.trans gg, gh, fun c n => ?_⟩ (.ref a) e2
    by_cases w : c = a
    · subst w; exact .inr (.inl ba)
    · rw [upd_ne w] at n; exact x.nw c n
  | ex x ρ => rw [z] at q; exact fun σ' G' H' c dx y r e => hW _ _ _ _ (q G' H' c dx (up y) e)
  | bk ρ => rw [z] at q; exact q.elim
  | ct ρ => rw [z] at q; exact q.elim
  | bad => rw [z] at q; exact q.elim
theorem fn_okD {x qual : Str} {params : Arguments} {body : List Stmt} {scope : Scope} {dvs : List V} {kws : List (Str × V)} {f : Addr} {fd : FuncData} {N ps : List Str} {k : Nat} {g : Ev → SO} (F : FunD K x qual params body scope dvs kws f fd) (S : FnScope N ps scope)
    (hb : ∀ (cdv : Value) (A : Around) (outer : List Env) (s : Shared) (H : Hp) (E : XK), Room k (A.deeper (envOfC qual scope s.heap.objs.size f cdv)) →
      FSs (cxOf (L2.CX P w) P w K mg base N qual scope f cdv A outer s H E) ca (fun c d _ H' => E c d H') body g) : FnOk P w K mg base (L2.CX P w) (k + 1) f fd ps (spF K ca ps.length (runF N.length g)) :=
  F.ok S (fun vs H Q E h => h.1) fun cdv A outer s H vs Q E hr h => by
    obtain ⟨l, G, ds, sm, a, q⟩ := h
    exact body_ok rfl (hb cdv A outer s H E hr) (fun _ _ _ _ z => z) sm a q
end
def eCall (n : Nat) (F : List D → R D) (fa : Ev → R (List D)) : Ev → R D := fun ρ => (fa ρ).bind fun ds => if ds.length = n then F ds else .bad
structure KB (K : PySem.W.Frag) (ca : Cn) (fd : FuncData) (ps : List Str) (n : Nat) (ks : List Str) (gD : List D → List D → List D) : Prop where
  ex : ∃ g gV, KBn K fd ps n ks g gV ∧ ∀ G ds vs zs ws, AtL K ca G ds vs → AtL K ca G zs ws → AtL K ca G (gD ds zs) (gV vs ws)
def eCallK (n m p : Nat) (F : List D → R D) (gD : List D → List D → List D) (fa fk : Ev → R (List D)) : Ev → R D := fun ρ => (fa ρ).bind fun ds => (fk ρ).bind fun zs => if ds.length = n ∧ zs.length = m ∧ (gD ds zs).length = p then F (gD ds zs) else .bad
section
variable {X : Cx} {ca : Cn} {W : WX} {k : Nat} {f : Addr} {fd : FuncData} {ps ks : List Str} {Fn : List D → R D} {x : Str} {p pos : Pos} {e : Expr} {es : List Expr} {fa fk : Ev → R (List D)}
theorem fe_call (F : FnOk X.prog X.w X.K X.mg X.base (L2.CX X.prog X.w) k f fd ps (spF X.K ca ps.length Fn)) (hr : Room k X.A) (tk : Takes X W) (hg : Gl X x) (hm : X.mg x = some (.ref f)) (hk : PySem.W.keepIn X.K (.ref f) = true) (hb : Binds X.K fd ps [])
    (ha : FA X ca W (e :: es) fa) (hdb : (x == ("__debug__" : Str)) = false := by decide) (he : starEach (e :: es) X.env = (false, eval e X.env) :: starEach es X.env := by rfl) (hpl : (backTo pos (starEach es X.env)).any (·.1) = false := by rfl) :
    FE X ca W (.Call (.Name x p) (e :: es) [] pos) (eCall ps.length Fn fa) := by
  obtain ⟨t, pa, kt⟩ := ha.ex
  refine ⟨_, pe_callS (E := WE W) F hr hg hm hk hb (fun σ => passAt tk σ) pa hdb he hpl, fun B G H σ ρ Q s b r h => ?_⟩
  refine kt B G H σ ρ _ s b r (Wish.bind h fun ds G1 H1 _ x1 w1 vs a1 => ?_)
  split at w1
  · rename_i hl
    exact ⟨by rw [← a1.length]; exact hl, G1, ds, x1.gh, a1, w1⟩
  · exact w1.elim
theorem run_kb {gV : List V → List V → List V} {g : List Value → List Value → List Value} {n : Nat} {E : XK} {sp : Sp} {pins : List (Addr × Obj)} {σ : L2.St} {H : Hp} {s : Shared} {Q : VK} {us ws : List Value} {vs zs : List V} (F : FnOk X.prog X.w X.K X.mg X.base (L2.CX X.prog X.w) k f fd ps sp)
    (hr : Room k X.A) (hb : KBn X.K fd ps n ks g gV) (hx : PassesAt (L2.CX X.prog X.w) X σ E) (I : Inv X pins σ H s) (ru : Vals vs us) (rw' : Vals zs ws) (lu : vs.length = n) (lw : zs.length = ks.length) (h : sp (gV vs zs) H Q E) :
    wpAny (model X.prog X.w) X.A (call (.ref f) us (ks.zip ws)) (EP X pins σ Q) X.xe s := by
  have bt := hb.to s us ws I.kIn (ru.length.symm.trans lu) (rw'.length.symm.trans lw)
  have go := F.run X.A X.stack s H ⟨us, ks.zip ws⟩ _ _ Q E hr I.env0 bt (hb.rel ru rw') h
  refine wpAny_call (codeAny_mono go fun r s' hq => ?_)
  rcases r with e | fl
  · exact hx pins H s e s' I hq
  · cases fl with
    | ret u => exact I.after hq
    | _ => exact hq.elim
theorem fe_callK {kws : List Keyword} {n : Nat} {gD : List D → List D → List D} (F : FnOk X.prog X.w X.K X.mg X.base (L2.CX X.prog X.w) k f fd ps (spF X.K ca ps.length Fn)) (hr : Room k X.A) (tk : Takes X W) (hg : Gl X x) (hm : X.mg x = some (.ref f)) (hk : PySem.W.keepIn X.K (.ref f) = true) (hb : KB X.K ca fd ps n ks gD)
    (ha : FA X ca W (e :: es) fa) (hkw : FK X ca W kws fk) (hall : (backToKw pos (keywordEach kws X.env)).all (·.1.isSome) = true := by rfl) (hks : (backToKw pos (keywordEach kws X.env)).filterMap (·.1) = ks := by rfl) (hdb : (x == ("__debug__" : Str)) = false := by decide)
    (he : starEach (e :: es) X.env = (false, eval e X.env) :: starEach es X.env := by rfl) (hpl : ((backTo pos (starEach (e :: es) X.env)).any (·.1) || (backToKw pos (keywordEach kws X.env)).any (·.1.isNone)) = false := by rfl) :
    FE X ca W (.Call (.Name x p) (e :: es) kws pos) (eCallK n ks.length ps.length Fn gD fa fk) := by
  obtain ⟨t, pa, kt⟩ := ha.ex
  obtain ⟨u, pk, ku⟩ := hkw.ex
  obtain ⟨g, gV, hbn, hgd⟩ := hb.ex
  refine ⟨fun σ H Q => t σ H fun vs H1 => u σ H1 fun zs H2 => vs.length = n ∧ zs.length = ks.length ∧ spF X.K ca ps.length Fn (gV vs zs) H2 Q (WE W σ), ⟨fun pins s σ H Q I h => ?_⟩, fun B G H σ ρ Q s b r h => ?_⟩
  · refine wpAny_Call_Name_kw (ld_glob I hg hm ?_ hdb)
    refine PySem.W.callWith_KW (h₀ := X.base) I.ok.mod.kin hk hall (thn (pa.run pos pins s σ H _ I h) fun us s1 ⟨vs, H1, I1, r1, q1⟩ => ?_) hpl he
    refine thn (pk.run pos pins s1 σ H1 _ I1 q1) fun ws s2 ⟨zs, H2, I2, r2, l1, l2, q2⟩ => ⟨I2.kIn, ?_⟩
    rw [hks]
    exact run_kb F hr hbn (passAt tk σ) I2 r1 r2 l1 l2 q2
  · refine kt B G H σ ρ _ s b r (Wish.bind h fun ds G1 H1 _ x1 w1 vs a1 => ?_)
    refine ku B G1 H1 σ ρ _ x1.gh (b.trans x1.hh) (r.ext x1) (Wish.bind w1 fun zs G2 H2 _ x2 w2 ws a2 => ?_)
    split at w2
    · rename_i hl
      have a3 := hgd G2 ds vs zs ws (AtL.mono x2.gg a1) a2
      exact ⟨by rw [← a1.length]; exact hl.1, by rw [← a2.length]; exact hl.2.1, by rw [← a3.length]; exact hl.2.2, G2, _, x2.gh, a3, w2⟩
    · exact w2.elim
theorem fe_blt {id : String} {r : List V → Hp → VK → Prop} {g : List D → R D} (hc : CallR X (.builtin id) r) (hv : VN X ca r g) (hg : Gl X x) (hm : X.mg x = none) (hv' : bootBuiltins x = some (.builtin id)) (ha : FA X ca W (e :: es) fa) (hn : x ≠ "__name__" := by decide) (hd : (x == ("__debug__" : Str)) = false := by decide)
    (he : starEach (e :: es) X.env = (false, eval e X.env) :: starEach es X.env := by rfl) (hpl : (backTo pos (starEach es X.env)).any (·.1) = false := by rfl) : FE X ca W (.Call (.Name x p) (e :: es) [] pos) (eA g fa) := by
  obtain ⟨t, pa, kt⟩ := ha.ex
  refine ⟨_, pe_callB hc hg hm hv' pa hn hd he hpl, fun B G H σ ρ Q s b r h => ?_⟩
  exact kt B G H σ ρ _ s b r (Wish.bind h fun ds G1 H1 _ x1 w1 vs a1 => hv G1 H1 _ vs ds Q x1.gh a1 w1)
theorem fe_bty {T : String} {r : List V → Hp → VK → Prop} {g : List D → R D} (hc : CallR X (.type T) r) (hv : VN X ca r g) (hg : Gl X x) (hm : X.mg x = none) (hv' : bootBuiltins x = some (.type T)) (ha : FA X ca W (e :: es) fa) (hn : x ≠ "__name__" := by decide) (hd : (x == ("__debug__" : Str)) = false := by decide)
    (he : starEach (e :: es) X.env = (false, eval e X.env) :: starEach es X.env := by rfl) (hpl : (backTo pos (starEach es X.env)).any (·.1) = false := by rfl) : FE X ca W (.Call (.Name x p) (e :: es) [] pos) (eA g fa) := by
  obtain ⟨t, pa, kt⟩ := ha.ex
  refine ⟨_, pe_callTy hc hg hm hv' pa hn hd he hpl, fun B G H σ ρ Q s b r h => ?_⟩
  exact kt B G H σ ρ _ s b r (Wish.bind h fun ds G1 H1 _ x1 w1 vs a1 => hv G1 H1 _ vs ds Q x1.gh a1 w1)
end
end Tk
namespace Tk
open PySem PySem.Spec L2 PyProof.Rows
def gAdd : D → D → R D
  | .int i, .int j => .ok (.int (i + j))
  | .str a, .str b => if a.length + b.length ≤ sizeLine then .ok (.str (a ++ b)) else .bad
  | .lst xs, .lst ys => if xs.length + ys.length ≤ sizeLine then .ok (.lst (xs ++ ys)) else .bad
  | .tup xs, .tup ys => if xs.length + ys.length ≤ sizeLine then .ok (.tup (xs ++ ys)) else .bad
  | _, _ => .bad
def gSub : D → D → R D
  | .int i, .int j => .ok (.int (i - j))
  | _, _ => .bad
instance (i j : Int) : Decidable (CMul i j) := by unfold CMul; infer_instance
instance (i j : Int) : Decidable (CMulW i j) := by unfold CMulW; infer_instance
instance (i j : Int) : Decidable (CDivW i j) := by unfold CDivW; infer_instance
instance (i j : Int) : Decidable (CPow i j) := by unfold CPow; infer_instance
def gMul : D → D → R D
  | .int i, .int j => if CMul i j ∨ CMulW i j then .ok (.int (i * j)) else .bad
  | _, _ => .bad
def gDiv : D → D → R D
  | .int i, .int j => if CDivW i j then .ok (.int (i / j)) else .bad
  | _, _ => .bad
def gMod : D → D → R D
  | .int i, .int j => if 0 < j then .ok (.int (i % j)) else .bad
  | _, _ => .bad
def gPow : D → D → R D
  | .int i, .int j => if CPow i j then .ok (.int (i ^ j.toNat)) else .bad
  | _, _ => .bad
def gNeg : D → R D
  | .int i => .ok (.int (-i))
  | _ => .bad
def gLt : D → D → R D
  | .int i, .int j => .ok (.bl (decide (i < j)))
  | _, _ => .bad
def gLe : D → D → R D
  | .int i, .int j => .ok (.bl (decide (i ≤ j)))
  | _, _ => .bad
def gGt : D → D → R D
  | .int i, .int j => .ok (.bl (decide (j < i)))
  | _, _ => .bad
def gGe : D → D → R D
  | .int i, .int j => .ok (.bl (decide (j ≤ i)))
  | _, _ => .bad
mutual
def toP : D → Option PyData
  | .non => some .none
  | .bl b => some (.bool b)
  | .int i => some (.int i)
  | .str s => some (.str s)
  | .lst xs => (toPs xs).map .list
  | .tup xs => (toPs xs).map .tuple
  | .tpz xs => (toPs xs).map .tuple
  | _ => none
def toPs : List D → Option (List PyData)
  | [] => some []
  | d :: ds => match toP d, toPs ds with
    | some p, some ps => some (p :: ps)
    | _, _ => none
end
def gEqP (a b : D) : R D := match toP a, toP b with
  | some p, some q => if (SeqAt.shaped p && SeqAt.shaped q) = true then .ok (.bl (PyData.eqv p q)) else .bad
  | _, _ => .bad
def gEq : D → D → R D
  | .int i, .int j => .ok (.bl (decide (i = j)))
  | .str i, .str j => .ok (.bl (decide (i = j)))
  | .bl i, .bl j => .ok (.bl (decide (i = j)))
  | a, b => gEqP a b
def rNot (r : R D) : R D := r.bind fun d => match d with
  | .bl b => .ok (.bl (!b))
  | _ => .bad
def gNe (a b : D) : R D := rNot (gEq a b)
def isNon : D → Bool
  | .non => true
  | _ => false
def gIsN (a : D) (b : D) : R D := match b with
  | .non => .ok (.bl (isNon a))
  | _ => .bad
def gNotN (a : D) (b : D) : R D := rNot (gIsN a b)
def gInP (neg : Bool) (a : D) (ys : List D) : R D := match toP a, toPs ys with
  | some p, some qs => if (SeqAt.shaped p && SeqAt.shaped (.list qs)) = true then .ok (.bl (if neg then !(qs.any fun z => PyData.eqv z p) else qs.any fun z => PyData.eqv z p)) else .bad
  | _, _ => .bad
def flatD : D → Bool
  | .non => true
  | .bl _ => true
  | .int _ => true
  | .str _ => true
  | _ => false
def toV : D → V
  | .non => .non
  | .bl b => .bl b
  | .int i => .int i
  | .str s => .str s
  | _ => .non
def gInS (neg : Bool) : D → D → R D
  | .str a, .str b => .ok (.bl (if neg then !(!(Builtin.Str.occurrences b a 0 b.length 1).isEmpty) else !(Builtin.Str.occurrences b a 0 b.length 1).isEmpty))
  | a, .lst ys => if flatD a = true ∧ ys.all flatD = true then .ok (.bl (if neg then !inV (toV a) (ys.map toV) else inV (toV a) (ys.map toV))) else gInP neg a ys
  | a, .tup ys => if flatD a = true ∧ ys.all flatD = true then .ok (.bl (if neg then !inV (toV a) (ys.map toV) else inV (toV a) (ys.map toV))) else .bad
  | a, .tpz ys => if flatD a = true ∧ ys.all flatD = true then .ok (.bl (if neg then !inV (toV a) (ys.map toV) else inV (toV a) (ys.map toV))) else .bad
  | _, _ => .bad
section
variable {X : Cx} {ca : Cn}
theorem v2_int {g : D → D → R D} {h : Int → Int → V} {z : Int → Int → D} (hg : ∀ i j, g (.int i) (.int j) = .ok (z i j)) (hz : ∀ i j G, At X.K ca G (z i j) (h i j)) (hb : ∀ a b, (∀ i j, ¬ (a = .int i ∧ b = .int j)) → g a b = .bad) : V2 X ca (rI0 h) g := by
  intro G H W1 x y a b Q s ax ay w
  by_cases e : ∃ i j, a = .int i ∧ b = .int j
  · obtain ⟨i, j, rfl, rfl⟩ := e
    rw [hg] at w
    exact ⟨i, j, ax, ay, w.here s _ (hz i j _)⟩
  · rw [hb a b fun i j q => e ⟨i, j, q⟩] at w
    exact w.elim
theorem v2_intC {C : Int → Int → Prop} {g : D → D → R D} {h : Int → Int → V} {z : Int → Int → D} (hg : ∀ i j, g (.int i) (.int j) = .ok (z i j) ∧ C i j ∨ g (.int i) (.int j) = .bad) (hz : ∀ i j G, At X.K ca G (z i j) (h i j)) (hb : ∀ a b, (∀ i j, ¬ (a = .int i ∧ b = .int j)) → g a b = .bad) : V2 X ca (rI C h) g := by
  intro G H W1 x y a b Q s ax ay w
  by_cases e : ∃ i j, a = .int i ∧ b = .int j
  · obtain ⟨i, j, rfl, rfl⟩ := e
    rcases hg i j with ⟨e, c⟩ | e
    · rw [e] at w
      exact ⟨i, j, ax, ay, c, w.here s _ (hz i j _)⟩
    · rw [e] at w; exact w.elim
  · rw [hb a b fun i j q => e ⟨i, j, q⟩] at w
    exact w.elim
theorem v2_sub : V2 X ca (rI0 fun i j => .int (i - j)) gSub := v2_int (z := fun i j => .int (i - j)) (fun _ _ => rfl) (fun _ _ _ => rfl) fun a b h => by cases a <;> first | rfl | (cases b <;> first | rfl | exact (h _ _ ⟨rfl, rfl⟩).elim)
theorem v2_lt : V2 X ca (rI0 fun i j => .bl (decide (i < j))) gLt := v2_int (z := fun i j => .bl (decide (i < j))) (fun _ _ => rfl) (fun _ _ _ => rfl) fun a b h => by cases a <;> first | rfl | (cases b <;> first | rfl | exact (h _ _ ⟨rfl, rfl⟩).elim)
theorem v2_le : V2 X ca (rI0 fun i j => .bl (decide (i ≤ j))) gLe := v2_int (z := fun i j => .bl (decide (i ≤ j))) (fun _ _ => rfl) (fun _ _ _ => rfl) fun a b h => by cases a <;> first | rfl | (cases b <;> first | rfl | exact (h _ _ ⟨rfl, rfl⟩).elim)
theorem v2_gt : V2 X ca (rI0 fun i j => .bl (decide (j < i))) gGt := v2_int (z := fun i j => .bl (decide (j < i))) (fun _ _ => rfl) (fun _ _ _ => rfl) fun a b h => by cases a <;> first | rfl | (cases b <;> first | rfl | exact (h _ _ ⟨rfl, rfl⟩).elim)
theorem v2_ge : V2 X ca (rI0 fun i j => .bl (decide (j ≤ i))) gGe := v2_int (z := fun i j => .bl (decide (j ≤ i))) (fun _ _ => rfl) (fun _ _ _ => rfl) fun a b h => by cases a <;> first | rfl | (cases b <;> first | rfl | exact (h _ _ ⟨rfl, rfl⟩).elim)
theorem op_mul2 : OpR X (binaryOp .Mult) (rI (fun i j => CMul i j ∨ CMulW i j) fun i j => .int (i * j)) := opI fun i j _ _ _ _ _ hc q => by
  rcases hc with hc | hc
  · exact mul_int q hc.ok
  · exact mul_int q hc.ok
theorem v2_mul : V2 X ca (rI (fun i j => CMul i j ∨ CMulW i j) fun i j => .int (i * j)) gMul := v2_intC (z := fun i j => .int (i * j)) (fun i j => by unfold gMul; by_cases h : CMul i j ∨ CMulW i j <;> simp [h]) (fun _ _ _ => rfl) fun a b h => by cases a <;> first | rfl | (cases b <;> first | rfl | exact (h _ _ ⟨rfl, rfl⟩).elim)
theorem v2_div : V2 X ca (rI CDivW fun i j => .int (i / j)) gDiv := v2_intC (z := fun i j => .int (i / j)) (fun i j => by unfold gDiv; by_cases h : CDivW i j <;> simp [h]) (fun _ _ _ => rfl) fun a b h => by cases a <;> first | rfl | (cases b <;> first | rfl | exact (h _ _ ⟨rfl, rfl⟩).elim)
theorem v2_mod : V2 X ca (rI (fun _ j => 0 < j) fun i j => .int (i % j)) gMod := v2_intC (z := fun i j => .int (i % j)) (fun i j => by unfold gMod; by_cases h : 0 < j <;> simp [h]) (fun _ _ _ => rfl) fun a b h => by cases a <;> first | rfl | (cases b <;> first | rfl | exact (h _ _ ⟨rfl, rfl⟩).elim)
theorem v2_pow : V2 X ca (rI CPow fun i j => .int (i ^ j.toNat)) gPow := v2_intC (z := fun i j => .int (i ^ j.toNat)) (fun i j => by unfold gPow; by_cases h : CPow i j <;> simp [h]) (fun _ _ _ => rfl) fun a b h => by cases a <;> first | rfl | (cases b <;> first | rfl | exact (h _ _ ⟨rfl, rfl⟩).elim)
theorem op_addA : OpR X (binaryOp .Add) (fun x y H Q => (rI0 fun i j => .int (i + j)) x y H Q ∨ ((∃ i j, x = .str i ∧ y = .str j ∧ i.length + j.length ≤ sizeLine ∧ Q (.str (i ++ j)) H) ∨ (rCat x y H Q ∨ rCatA X.K x y H Q))) := op_add.or (op_add_str.or (op_cat.or op_catA))
theorem v2_add : V2 X ca (fun x y H Q => (rI0 fun i j => .int (i + j)) x y H Q ∨ ((∃ i j, x = .str i ∧ y = .str j ∧ i.length + j.length ≤ sizeLine ∧ Q (.str (i ++ j)) H) ∨ (rCat x y H Q ∨ rCatA X.K x y H Q))) gAdd := by
  intro G H W1 x y a b Q s ax ay w
  cases a with
  | int i =>
    cases b with
    | int j => exact .inl ⟨i, j, ax, ay, w.here s _ rfl⟩
    | _ => exact w.elim
  | str i =>
    cases b with
    | str j =>
      have w' : Wish X.K ca (SV X.K ca Q) G H (if i.length + j.length ≤ sizeLine then .ok (.str (i ++ j)) else .bad) W1 := w
      split at w'
      · rename_i z; exact .inr (.inl ⟨i, j, ax, ay, z, w'.here s _ rfl⟩)
      · exact w'.elim
    | _ => exact w.elim
  | lst i =>
    cases b with
    | lst j =>
      have w' : Wish X.K ca (SV X.K ca Q) G H (if i.length + j.length ≤ sizeLine then .ok (.lst (i ++ j)) else .bad) W1 := w
      split at w'
      · rename_i z
        obtain ⟨p, vs, rfl, h1, h2⟩ := ax
        obtain ⟨q, ws, rfl, h3, h4⟩ := ay
        exact .inr (.inr (.inl ⟨p, q, vs, ws, rfl, rfl, s _ _ h1, s _ _ h3, by rw [← h2.length, ← h4.length]; exact z, fun l n => new_lst s w' (h2.append h4) n⟩))
      · exact w'.elim
    | _ => exact w.elim
  | tup i =>
    cases b with
    | tup j =>
      have w' : Wish X.K ca (SV X.K ca Q) G H (if i.length + j.length ≤ sizeLine then .ok (.tup (i ++ j)) else .bad) W1 := w
      split at w'
      · rename_i z
        obtain ⟨p, vs, rfl, h1, h2⟩ := ax
        obtain ⟨q, ws, rfl, h3, h4⟩ := ay
        have l1 := h2.length
        have l2 := h4.length
        refine .inr (.inr (.inr ⟨p, q, vs, ws, rfl, rfl, tq s h1, tq s h3, by rw [← l1, ← l2]; exact z, fun e => ?_, fun e1 e2 => ?_, fun _ _ l n => new_tup s w' (h2.append h4) n⟩))
        · have : i = [] := by rw [e] at l1; exact List.length_eq_zero_iff.mp l1
          subst this
          exact w'.here s _ ⟨q, ws, rfl, h3, h4⟩
        · have : j = [] := by rw [e2] at l2; exact List.length_eq_zero_iff.mp l2
          subst this
          rw [List.append_nil] at w'
          exact w'.here s _ ⟨p, vs, rfl, h1, h2⟩
      · exact w'.elim
    | _ => exact w.elim
  | _ => exact w.elim
mutual
theorem dp_of {G H : Hp} (s : Same G H) : ∀ (d : D) (v : V) (p : PyData), At X.K ca G d v → toP d = some p → Dp X.K H v p
  | .non, v, p, a, e => by cases e; cases a; exact .non
  | .bl b, v, p, a, e => by cases e; cases a; exact .bl b
  | .int i, v, p, a, e => by cases e; cases a; exact .int i
  | .str x, v, p, a, e => by cases e; cases a; exact .str x
  | .lst xs, v, p, ⟨q, vs, e1, h, r⟩, e => by
    obtain ⟨ps, e2, e3⟩ := Option.map_eq_some_iff.mp (show (toPs xs).map PyData.list = some p from e)
    subst e1 e3
    exact .lst (.of (s _ _ h)) (dps_of s xs vs ps r e2)
  | .tup xs, v, p, ⟨q, vs, e1, h, r⟩, e => by
    obtain ⟨ps, e2, e3⟩ := Option.map_eq_some_iff.mp (show (toPs xs).map PyData.tuple = some p from e)
    subst e1 e3
    exact .tup (tq s h) (dps_of s xs vs ps r e2)
  | .ty _, v, p, a, e => by cases e
  | .cl _, v, p, a, e => by cases e
  | .scr _, v, p, a, e => by cases e
  | .tpz xs, v, p, ⟨q, o, vs, e1, oo, h, r⟩, e => by
    obtain ⟨ps, e2, e3⟩ := Option.map_eq_some_iff.mp (show (toPs xs).map PyData.tuple = some p from e)
    subst e1 e3
    exact .tup (.inl (.inr ⟨o, s _ _ h⟩)) (dps_of s xs vs ps r e2)
  | .tp0, v, p, a, e => by cases e
  | .zK _, v, p, a, e => by cases e
  | .zT _, v, p, a, e => by cases e
  | .dK _, v, p, a, e => by cases e
  | .dT _, v, p, a, e => by cases e
  | .ins _ _, v, p, a, e => by cases e
theorem dps_of {G H : Hp} (s : Same G H) : ∀ (ds : List D) (vs : List V) (ps : List PyData), AtL X.K ca G ds vs → toPs ds = some ps → DpAll X.K H vs ps
  | [], vs, ps, a, e => by cases e; cases a; exact .nil
  | d :: ds, vs, ps, ⟨v, r, e1, a1, a2⟩, e => by
    have e' : (match toP d, toPs ds with | some p, some ps => some (p :: ps) | _, _ => none) = some ps := e
    split at e'
    · rename_i p ps' h1 h2
      cases e'
      subst e1
      exact .cons (dp_of s d v p a1 h1) (dps_of s ds r ps' a2 h2)
    · cases e'
end
theorem op_eqA (hu : X.A.units + 64 < cLine) : OpR X (compareOp .Eq) (fun x y H Q => rEq x y H Q ∨ rEqD X.K x y H Q) := op_eq.or (op_eqD hu)
theorem op_neA (hu : X.A.units + 64 < cLine) : OpR X (compareOp .NotEq) (fun x y H Q => rNe x y H Q ∨ rNeD X.K x y H Q) := op_ne.or (op_neD hu)
theorem gEqP_some {a b : D} {G H : Hp} {W1 : XK} {S : Hp → D → Hp → Prop} (h : Wish X.K ca S G H (gEqP a b) W1) : ∃ p q, toP a = some p ∧ toP b = some q ∧ SeqAt.shaped p = true ∧ SeqAt.shaped q = true ∧ gEqP a b = .ok (.bl (PyData.eqv p q)) := by
  unfold gEqP at h ⊢
  split at h
  · rename_i p q e1 e2
    split at h
    · rename_i z
      rw [Bool.and_eq_true] at z
      exact ⟨p, q, e1, e2, z.1, z.2, by simp only [e1, e2, z.1, z.2]; rfl⟩
    · exact h.elim
  · exact h.elim
theorem v2_eqP {a b : D} {x y : V} {G H : Hp} {W1 : XK} {Q : VK} (s : Same G H) (ax : At X.K ca G a x) (ay : At X.K ca G b y) (w : Wish X.K ca (SV X.K ca Q) G H (gEqP a b) W1) : rEqD X.K x y H Q := by
  obtain ⟨p, q, e1, e2, z1, z2, e3⟩ := gEqP_some w
  rw [e3] at w
  exact ⟨p, q, dp_of s a x p ax e1, dp_of s b y q ay e2, z1, z2, w.here s _ rfl⟩
theorem dec_V {i j : Int} : decide (V.int i = V.int j) = decide (i = j) := by by_cases h : i = j <;> simp [h]
theorem dec_VS {i j : Str} : decide (V.str i = V.str j) = decide (i = j) := by by_cases h : i = j <;> simp [h]
theorem dec_VB {i j : Bool} : decide (V.bl i = V.bl j) = decide (i = j) := by by_cases h : i = j <;> simp [h]
theorem v2_eq : V2 X ca (fun x y H Q => rEq x y H Q ∨ rEqD X.K x y H Q) gEq := by
  intro G H W1 x y a b Q s ax ay w
  unfold gEq at w
  split at w
  · cases ax; cases ay; exact .inl ⟨rfl, by rw [dec_V]; exact w.here s _ rfl⟩
  · cases ax; cases ay; exact .inl ⟨rfl, by rw [dec_VS]; exact w.here s _ rfl⟩
  · cases ax; cases ay; exact .inl ⟨rfl, by rw [dec_VB]; exact w.here s _ rfl⟩
  · exact .inr (v2_eqP s ax ay w)
theorem v2_ne : V2 X ca (fun x y H Q => rNe x y H Q ∨ rNeD X.K x y H Q) gNe := by
  intro G H W1 x y a b Q s ax ay w
  unfold gNe gEq rNot at w
  split at w
  · cases ax; cases ay; exact .inl ⟨rfl, by rw [dec_V]; exact w.here s _ rfl⟩
  · cases ax; cases ay; exact .inl ⟨rfl, by rw [dec_VS]; exact w.here s _ rfl⟩
  · cases ax; cases ay; exact .inl ⟨rfl, by rw [dec_VB]; exact w.here s _ rfl⟩
  · have w1 : Wish X.K ca (fun _ _ _ => True) G H (gEqP a b) W1 := Wish.bind w fun _ _ _ _ _ _ => trivial
    obtain ⟨p, q, e1, e2, z1, z2, e3⟩ := gEqP_some w1
    rw [e3] at w
    exact .inr ⟨p, q, dp_of s a x p ax e1, dp_of s b y q ay e2, z1, z2, w.here s _ rfl⟩
theorem at_non {a : D} {x : V} {G : Hp} (h : At X.K ca G a x) : decide (x = .non) = isNon a := by
  cases a with
  | non => cases h; rfl
  | bl _ => cases h; rfl
  | int _ => cases h; rfl
  | str _ => cases h; rfl
  | ty _ => cases h; rfl
  | cl _ => obtain ⟨_, _, rfl⟩ := h; rfl
  | scr _ => obtain ⟨_, rfl, _⟩ := h; rfl
  | lst _ => obtain ⟨_, _, rfl, _⟩ := h; rfl
  | tup _ => obtain ⟨_, _, rfl, _⟩ := h; rfl
  | tpz _ => obtain ⟨_, _, _, rfl, _⟩ := h; rfl
  | tp0 => obtain ⟨_, rfl, _⟩ := h; rfl
  | zK _ => obtain ⟨_, _, _, rfl, _⟩ := h; rfl
  | zT _ => obtain ⟨_, _, _, rfl, _⟩ := h; rfl
  | dK _ => obtain ⟨_, _, rfl, _⟩ := h; rfl
  | dT _ => obtain ⟨_, _, rfl, _⟩ := h; rfl
  | ins _ _ => obtain ⟨_, _, _, _, rfl, _⟩ := h; rfl
theorem v2_isN : V2 X ca (fun x y H Q => y = .non ∧ Q (.bl (decide (x = .non))) H) gIsN := by
  intro G H W1 x y a b Q s ax ay w
  cases b with
  | non => exact ⟨ay, by rw [at_non ax]; exact w.here s _ rfl⟩
  | _ => exact w.elim
theorem v2_notN : V2 X ca (fun x y H Q => y = .non ∧ Q (.bl (!decide (x = .non))) H) gNotN := by
  intro G H W1 x y a b Q s ax ay w
  cases b with
  | non => exact ⟨ay, by rw [at_non ax]; exact w.here s _ rfl⟩
  | _ => exact w.elim
theorem toV_at {a : D} {x : V} {G : Hp} (f : flatD a = true) (h : At X.K ca G a x) : x = toV a ∧ flatV x = true := by
  cases a with
  | non => cases h; exact ⟨rfl, rfl⟩
  | bl _ => cases h; exact ⟨rfl, rfl⟩
  | int _ => cases h; exact ⟨rfl, rfl⟩
  | str _ => cases h; exact ⟨rfl, rfl⟩
  | _ => cases f
theorem toV_all {G : Hp} : ∀ {ds : List D} {vs : List V}, ds.all flatD = true → AtL X.K ca G ds vs → vs = ds.map toV ∧ vs.all flatV = true
  | [], _, _, h => by cases h; exact ⟨rfl, rfl⟩
  | d :: ds, _, f, ⟨v, r, e, h, t⟩ => by
    rw [List.all_cons, Bool.and_eq_true] at f
    obtain ⟨e1, f1⟩ := toV_at f.1 h
    obtain ⟨e2, f2⟩ := toV_all f.2 t
    subst e
    exact ⟨by rw [e1, e2]; rfl, by rw [List.all_cons, f1, f2]; rfl⟩
theorem op_inA (hu : X.A.units + 65 < cLine) : OpR X (compareOp .In) (fun x y H Q => (∃ i j, x = .str i ∧ y = .str j ∧ Q (.bl (!(Builtin.Str.occurrences j i 0 j.length 1).isEmpty)) H) ∨ (rIn X.K false x y H Q ∨ rInD X.K x y H Q)) := op_in_str.or (op_in_seq.or (op_inD hu))
theorem op_ninA (hu : X.A.units + 65 < cLine) : OpR X (compareOp .NotIn) (fun x y H Q => (∃ i j, x = .str i ∧ y = .str j ∧ Q (.bl (!(!(Builtin.Str.occurrences j i 0 j.length 1).isEmpty))) H) ∨ (rIn X.K true x y H Q ∨ rNotInD X.K x y H Q)) := op_notin_str.or (op_notIn_seq.or (op_notInD hu))
theorem gInP_some {neg : Bool} {a : D} {ys : List D} {G H : Hp} {W1 : XK} {S : Hp → D → Hp → Prop} (h : Wish X.K ca S G H (gInP neg a ys) W1) : ∃ p qs, toP a = some p ∧ toPs ys = some qs ∧ SeqAt.shaped p = true ∧ SeqAt.shaped (.list qs) = true ∧
    gInP neg a ys = .ok (.bl (if neg then !(qs.any fun z => PyData.eqv z p) else qs.any fun z => PyData.eqv z p)) := by
  unfold gInP at h ⊢
  split at h
  · rename_i p q e1 e2
    split at h
    · rename_i z
      rw [Bool.and_eq_true] at z
      exact ⟨p, q, e1, e2, z.1, z.2, by simp only [e1, e2, z.1, z.2]; rfl⟩
    · exact h.elim
  · exact h.elim
theorem v2_in : V2 X ca (fun x y H Q => (∃ i j, x = .str i ∧ y = .str j ∧ Q (.bl (!(Builtin.Str.occurrences j i 0 j.length 1).isEmpty)) H) ∨ (rIn X.K false x y H Q ∨ rInD X.K x y H Q)) (gInS false) := by
  intro G H W1 x y a b Q s ax ay w
  unfold gInS at w
  split at w
  · exact .inl ⟨_, _, ax, ay, w.here s _ rfl⟩
  · obtain ⟨p, vs, rfl, h1, h2⟩ := ay
    split at w
    · rename_i z
      obtain ⟨e1, f1⟩ := toV_at z.1 ax
      obtain ⟨e2, f2⟩ := toV_all z.2 h2
      refine .inr (.inl ⟨p, vs, rfl, .inl (.of (s _ _ h1)), f1, f2, ?_⟩)
      rw [e1, e2]
      exact w.here s _ rfl
    · obtain ⟨q, qs, e1, e2, z1, z2, e3⟩ := gInP_some w
      rw [e3] at w
      exact .inr (.inr ⟨q, qs, dp_of s a x q ax e1, .lst (.of (s _ _ h1)) (dps_of s _ vs qs h2 e2), z1, z2, w.here s _ rfl⟩)
  · obtain ⟨p, vs, rfl, h1, h2⟩ := ay
    split at w
    · rename_i z
      obtain ⟨e1, f1⟩ := toV_at z.1 ax
      obtain ⟨e2, f2⟩ := toV_all z.2 h2
      refine .inr (.inl ⟨p, vs, rfl, .inr (tq s h1), f1, f2, ?_⟩)
      rw [e1, e2]
      exact w.here s _ rfl
    · exact w.elim
  · obtain ⟨p, o, vs, rfl, oo, h1, h2⟩ := ay
    split at w
    · rename_i z
      obtain ⟨e1, f1⟩ := toV_at z.1 ax
      obtain ⟨e2, f2⟩ := toV_all z.2 h2
      refine .inr (.inl ⟨p, vs, rfl, .inr (.inl (.inr ⟨o, s _ _ h1⟩)), f1, f2, ?_⟩)
      rw [e1, e2]
      exact w.here s _ rfl
    · exact w.elim
  · exact w.elim
theorem v2_nin : V2 X ca (fun x y H Q => (∃ i j, x = .str i ∧ y = .str j ∧ Q (.bl (!(!(Builtin.Str.occurrences j i 0 j.length 1).isEmpty))) H) ∨ (rIn X.K true x y H Q ∨ rNotInD X.K x y H Q)) (gInS true) := by
  intro G H W1 x y a b Q s ax ay w
  unfold gInS at w
  split at w
  · exact .inl ⟨_, _, ax, ay, w.here s _ rfl⟩
  · obtain ⟨p, vs, rfl, h1, h2⟩ := ay
    split at w
    · rename_i z
      obtain ⟨e1, f1⟩ := toV_at z.1 ax
      obtain ⟨e2, f2⟩ := toV_all z.2 h2
      refine .inr (.inl ⟨p, vs, rfl, .inl (.of (s _ _ h1)), f1, f2, ?_⟩)
      rw [e1, e2]
      exact w.here s _ rfl
    · obtain ⟨q, qs, e1, e2, z1, z2, e3⟩ := gInP_some w
      rw [e3] at w
      exact .inr (.inr ⟨q, qs, dp_of s a x q ax e1, .lst (.of (s _ _ h1)) (dps_of s _ vs qs h2 e2), z1, z2, w.here s _ rfl⟩)
  · obtain ⟨p, vs, rfl, h1, h2⟩ := ay
    split at w
    · rename_i z
      obtain ⟨e1, f1⟩ := toV_at z.1 ax
      obtain ⟨e2, f2⟩ := toV_all z.2 h2
      refine .inr (.inl ⟨p, vs, rfl, .inr (tq s h1), f1, f2, ?_⟩)
      rw [e1, e2]
      exact w.here s _ rfl
    · exact w.elim
  · obtain ⟨p, o, vs, rfl, oo, h1, h2⟩ := ay
    split at w
    · rename_i z
      obtain ⟨e1, f1⟩ := toV_at z.1 ax
      obtain ⟨e2, f2⟩ := toV_all z.2 h2
      refine .inr (.inl ⟨p, vs, rfl, .inr (.inl (.inr ⟨o, s _ _ h1⟩)), f1, f2, ?_⟩)
      rw [e1, e2]
      exact w.here s _ rfl
    · exact w.elim
  · exact w.elim
end
end Tk
namespace Tk
open PySem PySem.Spec L2 PyProof.Rows
def optR {α : Type} (o : Option α) : R α := match o with
  | some a => .ok a
  | none => .bad
@[simp] theorem optR_some {α : Type} (a : α) : optR (some a) = .ok a := (rfl)
def gIx : D → D → R D
  | .lst xs, .int i => optR (atI xs i)
  | .tup xs, .int i => optR (atI xs i)
  | .tpz xs, .int i => optR (atI xs i)
  | .str z, .int i => if z.length ≤ sizeLine then (optR (atI z.cps.toList i)).bind fun c => .ok (.str ⟨#[c]⟩) else .bad
  | .scr ns, .int i => (optR (atI ns i)).bind fun n => .ok (.int n)
  | _, _ => .bad
def cutD {α : Type} (xs : List α) (lo hi : Option Int) : List α := (xs.drop (HT.sIx xs.length 0 lo)).take (HT.sIx xs.length xs.length hi - HT.sIx xs.length 0 lo)
def gSl : D → Option Int → Option Int → R D
  | .lst xs, lo, hi => .ok (.lst (cutD xs lo hi))
  | .scr ns, lo, hi => .ok (.lst ((cutD ns lo hi).map .int))
  | .tup xs, lo, hi => .ok (.tup (cutD xs lo hi))
  | .tpz xs, lo, hi => if HT.sIx xs.length 0 lo = 0 ∧ HT.sIx xs.length xs.length hi = xs.length then .ok (.tpz xs) else .ok (.tup (cutD xs lo hi))
  | .str z, lo, hi => if z.length ≤ sizeLine then .ok (.str (cutS z lo hi)) else .bad
  | _, _, _ => .bad
def oN : Ev → R (Option Int) := fun _ => .ok none
def oS (f : Ev → R D) : Ev → R (Option Int) := fun ρ => (f ρ).bind fun d => match d with
  | .int i => .ok (some i)
  | _ => .bad
def eSl (fa : Ev → R D) (fl fh : Ev → R (Option Int)) : Ev → R D := fun ρ => (fa ρ).bind fun a => (fl ρ).bind fun l => (fh ρ).bind fun h => gSl a l h
structure FO (X : Cx) (ca : Cn) (W : WX) (e : Option Expr) (f : Ev → R (Option Int)) : Prop where
  ex : ∃ t, PO X e t ∧ ∀ B G H σ ρ (Q : Option Int → Hp → Prop), Same G H → Same B H → Rel X.K ca B G H σ ρ → Wish X.K ca (fun _ o H' => Q o H') G H (f ρ) (WE W σ) → t σ H Q
section
variable {X : Cx} {ca : Cn} {W : WX} {a b e : Expr} {lo hi : Option Expr} {fa fb : Ev → R D} {fl fh : Ev → R (Option Int)} {pos p2 : Pos}
theorem AtL.atI {K : PySem.W.Frag} {G : Hp} {ds : List D} {vs : List V} {i : Int} {d : D} (h : AtL K ca G ds vs) (e : atI ds i = some d) : ∃ v, L2.atI vs i = some v ∧ At K ca G d v := by
  unfold L2.atI at e ⊢
  rw [← h.length]
  cases z : ixN ds.length i with
  | none => rw [z] at e; cases e
  | some j =>
    rw [z] at e
    obtain ⟨v, h1, h2⟩ := h.get (i := j) (d := d) e
    exact ⟨v, h1, h2⟩
theorem atI_map {α β : Type} {f : α → β} {xs : List α} {i : Int} {x : α} (e : atI xs i = some x) : atI (xs.map f) i = some (f x) := by
  unfold L2.atI at e ⊢
  rw [List.length_map]
  cases z : ixN xs.length i with
  | none => rw [z] at e; cases e
  | some j =>
    rw [z] at e
    have e' : xs[j]? = some x := e
    show (xs.map f)[j]? = some (f x)
    rw [List.getElem?_map, e']
    rfl
theorem wish_opt {α β : Type} {K : PySem.W.Frag} {S : Hp → β → Hp → Prop} {G H : Hp} {o : Option α} {k : α → R β} {W1 : XK} (h : Wish K ca S G H ((optR o).bind k) W1) : ∃ x, o = some x ∧ Wish K ca S G H (k x) W1 := by
  cases o with
  | none => exact h.elim
  | some x => exact ⟨x, rfl, h⟩
theorem wish_opt' {β : Type} {K : PySem.W.Frag} {S : Hp → β → Hp → Prop} {G H : Hp} {o : Option β} {W1 : XK} (h : Wish K ca S G H (optR o) W1) : ∃ x, o = some x ∧ Wish K ca S G H (.ok x) W1 := by
  cases o with
  | none => exact h.elim
  | some x => exact ⟨x, rfl, h⟩
theorem v2_ix : V2 X ca (rIx X.K) gIx := by
  intro G H W1 x y a b Q s ax ay w
  unfold gIx at w
  split at w
  · obtain ⟨d, e, w⟩ := wish_opt' w
    obtain ⟨p, vs, rfl, h1, h2⟩ := ax
    obtain ⟨v, e2, a2⟩ := h2.atI e
    exact .inl ⟨p, vs, _, v, rfl, ay, .of (s _ _ h1), e2, w.here s _ a2⟩
  · obtain ⟨d, e, w⟩ := wish_opt' w
    obtain ⟨p, vs, rfl, h1, h2⟩ := ax
    obtain ⟨v, e2, a2⟩ := h2.atI e
    exact .inr (.inl ⟨p, vs, _, v, rfl, ay, tq s h1, e2, w.here s _ a2⟩)
  · obtain ⟨d, e, w⟩ := wish_opt' w
    obtain ⟨p, o, vs, rfl, oo, h1, h2⟩ := ax
    obtain ⟨v, e2, a2⟩ := h2.atI e
    exact .inr (.inl ⟨p, vs, _, v, rfl, ay, .inl (.inr ⟨o, s _ _ h1⟩), e2, w.here s _ a2⟩)
  · split at w
    · rename_i z
      obtain ⟨c, e, w⟩ := wish_opt w
      exact .inr (.inr ⟨_, _, c, ax, ay, z, e, w.here s _ rfl⟩)
    · exact w.elim
  · obtain ⟨n, e, w⟩ := wish_opt w
    obtain ⟨p, rfl, h1⟩ := ax
    exact .inl ⟨p, _, _, _, rfl, ay, SqL_mono s h1, atI_map e, w.here s _ rfl⟩
  · exact w.elim
theorem fe_ix (hs : PlainIx b) (ha : FE X ca W a fa) (hb : FE X ca W b fb) : FE X ca W (.Subscript a b pos) (e2 gIx fa fb) := by
  obtain ⟨ta, pa, ka⟩ := ha.ex
  obtain ⟨tb, pb, kb⟩ := hb.ex
  refine ⟨_, pe_ix ix_seq pa pb hs, fun B G H σ ρ Q s b r h => ?_⟩
  refine ka B G H σ ρ _ s b r (Wish.bind h fun d G1 H1 _ x1 w1 v a1 => ?_)
  refine kb B G1 H1 σ ρ _ x1.gh (b.trans x1.hh) (r.ext x1) (Wish.bind w1 fun d2 G2 H2 _ x2 w2 v2 a2 => ?_)
  exact v2_ix G2 H2 _ v v2 d d2 Q x2.gh (At.mono x2.gg a1) a2 w2
theorem fo_n : FO X ca W none oN := ⟨_, po_none, fun B G H σ ρ Q s b r h => h.here s⟩
theorem fo_s (h : FE X ca W e fa) : FO X ca W (some e) (oS fa) := by
  obtain ⟨t, p, k⟩ := h.ex
  refine ⟨_, po_some p, fun B G H σ ρ Q s b r h => ?_⟩
  refine k B G H σ ρ _ s b r (Wish.bind h fun d G1 H1 _ x1 w1 v a1 => ?_)
  cases d with
  | int i => exact ⟨i, a1, w1.here x1.gh⟩
  | _ => exact w1.elim
theorem AtL.cut {K : PySem.W.Frag} {G : Hp} {ds : List D} {vs : List V} (lo hi : Option Int) (h : AtL K ca G ds vs) : AtL K ca G (cutD ds lo hi) (cutV vs lo hi) := by
  unfold cutD cutV
  rw [← h.length]
  exact AtL.take _ (AtL.drop _ h)
theorem sl_all : SlR X (fun x lo hi H Q => rSlL X.K x lo hi H Q ∨ (rSlA X.K x lo hi H Q ∨ rSlS x lo hi H Q)) := sl_list.or (sl_tupA.or sl_str)
theorem fe_sl (ha : FE X ca W a fa) (hl : FO X ca W lo fl) (hh : FO X ca W hi fh) : FE X ca W (.Subscript a (.Slice lo hi none p2) pos) (eSl fa fl fh) := by
  obtain ⟨ta, pa, ka⟩ := ha.ex
  obtain ⟨tl, pl, kl⟩ := hl.ex
  obtain ⟨th, ph, kh⟩ := hh.ex
  refine ⟨_, pe_slice sl_all pa pl ph, fun B G H σ ρ Q s b r h => ?_⟩
  refine ka B G H σ ρ _ s b r (Wish.bind h fun d G1 H1 _ x1 w1 v a1 => ?_)
  refine kl B G1 H1 σ ρ _ x1.gh (b.trans x1.hh) (r.ext x1) (Wish.bind w1 fun l G2 H2 _ x2 w2 => ?_)
  refine kh B G2 H2 σ ρ _ x2.gh ((b.trans x1.hh).trans x2.hh) ((r.ext x1).ext x2) (Wish.bind w2 fun u G3 H3 _ x3 w3 => ?_)
  have a3 := At.mono (x2.gg.trans x3.gg) a1
  cases d with
  | lst xs =>
    obtain ⟨p, vs, rfl, h1, h2⟩ := a3
    exact .inl ⟨p, vs, rfl, .of (x3.gh _ _ h1), fun q n => new_lst x3.gh w3 (h2.cut l u) n⟩
  | scr ns =>
    obtain ⟨p, rfl, h1⟩ := a3
    refine .inl ⟨p, _, rfl, SqL_mono x3.gh h1, fun q n => ?_⟩
    have e : cutV (ns.map V.int) l u = (cutD ns l u).map V.int := by
      unfold cutV cutD
      rw [List.length_map, List.map_take, List.map_drop]
    rw [e]
    exact new_lst x3.gh w3 (AtL.of_ints _) n
  | tup xs =>
    obtain ⟨p, vs, rfl, h1, h2⟩ := a3
    refine .inr (.inl ⟨p, vs, rfl, tq x3.gh h1, fun e => ?_, fun e q n => new_tup x3.gh w3 (h2.cut l u) n⟩)
    have e3 : cutD xs l u = xs := by
      unfold cutD
      rw [h2.length, e.1, e.2, List.drop_zero, Nat.sub_zero, ← h2.length, List.take_length]
    have w4 : Wish X.K ca (SV X.K ca Q) G3 H3 (.ok (.tup (cutD xs l u))) (WE W σ) := w3
    rw [e3] at w4
    exact w4.here x3.gh _ ⟨p, vs, rfl, h1, h2⟩
  | tpz xs =>
    obtain ⟨p, o, vs, rfl, oo, h1, h2⟩ := a3
    have w4 : Wish X.K ca (SV X.K ca Q) G3 H3 (if HT.sIx xs.length 0 l = 0 ∧ HT.sIx xs.length xs.length u = xs.length then .ok (.tpz xs) else .ok (.tup (cutD xs l u))) (WE W σ) := w3
    refine .inr (.inl ⟨p, vs, rfl, .inl (.inr ⟨o, x3.gh _ _ h1⟩), fun e => ?_, fun e q n => ?_⟩)
    · rw [if_pos (by rw [h2.length]; exact e)] at w4
      exact w4.here x3.gh _ ⟨p, o, vs, rfl, oo, h1, h2⟩
    · rw [if_neg (by rw [h2.length]; exact e)] at w4
      exact new_tup x3.gh w4 (h2.cut l u) n
  | str z =>
    have w4 : Wish X.K ca (SV X.K ca Q) G3 H3 (if z.length ≤ sizeLine then .ok (.str (cutS z l u)) else .bad) (WE W σ) := w3
    split at w4
    · rename_i hz
      exact .inr (.inr ⟨z, a3, hz, w4.here x3.gh _ rfl⟩)
    · exact w4.elim
  | _ => exact w3.elim
def gFld (cs : List Nat) (f : Nat) : D → R D
  | .ins c fs => if c ∈ cs ∧ (fs.map (·.1)).all (fun k => k ≤ 1000) = true then optR (fs.lookup f) else .bad
  | _ => .bad
theorem fe_fld {cs : List Nat} {f : Nat} {nm : Str} (hf : ca.n f = nm) (hi : ∀ k, ca.n k = ca.n f → k = f) (hc : ∀ c ∈ cs, ∀ C, ca.a c = some C → Cls X.K C ∧ NoAttr X.K C nm) (h : FE X ca W e fa) (hb : attributeBase e nm X.env (eval e X.env) = eval e X.env := by rfl) :
    FE X ca W (.Attribute e nm pos) (e1 (gFld cs f) fa) := by
  obtain ⟨t, p, k⟩ := h.ex
  refine ⟨_, pe_fld p hb, fun B G H σ ρ Q s b r h => ?_⟩
  refine k B G H σ ρ _ s b r (Wish.bind h fun d G1 H1 _ x1 w1 v a1 => ?_)
  cases d with
  | ins c fs =>
    obtain ⟨a', C, dx, vs, rfl, h1, h2, h3⟩ := a1
    have w2 : Wish X.K ca (SV X.K ca Q) G1 H1 (if c ∈ cs ∧ (fs.map (·.1)).all (fun k => k ≤ 1000) = true then optR (fs.lookup f) else .bad) (WE W σ) := w1
    split at w2
    · rename_i hm
      obtain ⟨z, e, w3⟩ := wish_opt' w2
      obtain ⟨v, l1, l2⟩ := h3.lookup (fun p _ q => hi _ q) e
      rw [hf] at l1
      exact ⟨a', C, dx, vs, v, rfl, x1.gh _ _ h2, (hc c hm.1 C h1).1, (hc c hm.1 C h1).2, l1, w3.here x1.gh _ l2⟩
    · exact w2.elim
  | _ => exact w1.elim
end
def gLen : List D → R D
  | [.str z] => if z.length ≤ sizeLine then .ok (.int z.length) else .bad
  | [.lst xs] => .ok (.int xs.length)
  | [.tup xs] => .ok (.int xs.length)
  | [.tpz xs] => .ok (.int xs.length)
  | [.scr ns] => .ok (.int ns.length)
  | _ => .bad
def gAbs : List D → R D
  | [.int i] => .ok (.int (if i < 0 then -i else i))
  | _ => .bad
def gInt : List D → R D
  | [.int i] => .ok (.int i)
  | [.bl k] => .ok (.int (if k then 1 else 0))
  | _ => .bad
def gList : List D → R D
  | [.lst xs] => .ok (.lst xs)
  | [.tup xs] => .ok (.lst xs)
  | [.tpz xs] => .ok (.lst xs)
  | [.scr ns] => .ok (.lst (ns.map .int))
  | _ => .bad
def gTuple : List D → R D
  | [.lst xs] => .ok (.tup xs)
  | [.tup xs] => .ok (.tup xs)
  | [.tpz xs] => .ok (.tpz xs)
  | _ => .bad
def intsOf : List D → Option (List Int)
  | [] => some []
  | .int i :: r => (intsOf r).map (i :: ·)
  | _ :: _ => none
def bolsOf : List D → Option (List Bool)
  | [] => some []
  | .bl i :: r => (bolsOf r).map (i :: ·)
  | _ :: _ => none
def gAll : List D → R D
  | [.lst xs] => (optR (bolsOf xs)).bind fun ns => .ok (.bl (ns.all id))
  | _ => .bad
def maxI : List Int → Option Int
  | [] => none
  | n :: ns => some (ns.foldl max n)
def minI : List Int → Option Int
  | [] => none
  | n :: ns => some (ns.foldl min n)
def gMax : List D → R D
  | [.lst xs] => (optR ((intsOf xs).bind maxI)).bind fun n => .ok (.int n)
  | [.int i, .int j] => .ok (.int (if j > i then j else i))
  | _ => .bad
def gMin : List D → R D
  | [.lst xs] => (optR ((intsOf xs).bind minI)).bind fun n => .ok (.int n)
  | [.int i, .int j] => .ok (.int (if j < i then j else i))
  | _ => .bad
section
variable {X : Cx} {ca : Cn}
theorem atl1 {K : PySem.W.Frag} {G : Hp} {d : D} {vs : List V} (h : AtL K ca G [d] vs) : ∃ v, vs = [v] ∧ At K ca G d v := by
  obtain ⟨v, r, e, h, t⟩ := h
  cases t
  exact ⟨v, e, h⟩
theorem atl2 {K : PySem.W.Frag} {G : Hp} {d d' : D} {vs : List V} (h : AtL K ca G [d, d'] vs) : ∃ v v', vs = [v, v'] ∧ At K ca G d v ∧ At K ca G d' v' := by
  obtain ⟨v, r, e, h, t⟩ := h
  obtain ⟨v', e', h'⟩ := atl1 t
  subst e'
  exact ⟨v, v', e, h, h'⟩
theorem intsOf_at {K : PySem.W.Frag} {G : Hp} : ∀ {ds : List D} {ns : List Int} {vs : List V}, intsOf ds = some ns → AtL K ca G ds vs → vs = ns.map V.int
  | [], _, _, e, h => by cases e; exact h
  | .int i :: r, ns, vs, e, ⟨v, r', e', h, t⟩ => by
    obtain ⟨ms, e1, e2⟩ := Option.map_eq_some_iff.mp (show (intsOf r).map (i :: ·) = some ns from e)
    subst e2 e'
    cases h
    rw [intsOf_at e1 t]
    rfl
  | .non :: _, _, _, e, _ => by cases e
  | .bl _ :: _, _, _, e, _ => by cases e
  | .str _ :: _, _, _, e, _ => by cases e
  | .ty _ :: _, _, _, e, _ => by cases e
  | .cl _ :: _, _, _, e, _ => by cases e
  | .scr _ :: _, _, _, e, _ => by cases e
  | .lst _ :: _, _, _, e, _ => by cases e
  | .tup _ :: _, _, _, e, _ => by cases e
  | .dK _ :: _, _, _, e, _ => by cases e
  | .dT _ :: _, _, _, e, _ => by cases e
  | .ins _ _ :: _, _, _, e, _ => by cases e
theorem bolsOf_at {K : PySem.W.Frag} {G : Hp} : ∀ {ds : List D} {ns : List Bool} {vs : List V}, bolsOf ds = some ns → AtL K ca G ds vs → vs = ns.map V.bl
  | [], _, _, e, h => by cases e; exact h
  | .bl i :: r, ns, vs, e, ⟨v, r', e', h, t⟩ => by
    obtain ⟨ms, e1, e2⟩ := Option.map_eq_some_iff.mp (show (bolsOf r).map (i :: ·) = some ns from e)
    subst e2 e'
    cases h
    rw [bolsOf_at e1 t]
    rfl
  | .non :: _, _, _, e, _ => by cases e
  | .int _ :: _, _, _, e, _ => by cases e
  | .str _ :: _, _, _, e, _ => by cases e
  | .ty _ :: _, _, _, e, _ => by cases e
  | .cl _ :: _, _, _, e, _ => by cases e
  | .scr _ :: _, _, _, e, _ => by cases e
  | .lst _ :: _, _, _, e, _ => by cases e
  | .tup _ :: _, _, _, e, _ => by cases e
  | .dK _ :: _, _, _, e, _ => by cases e
  | .dT _ :: _, _, _, e, _ => by cases e
  | .ins _ _ :: _, _, _, e, _ => by cases e
theorem vn_len : VN X ca (fun xs H Q => ∃ x n, xs = [x] ∧ LenV X.K x H n ∧ Q (.int n) H) gLen := by
  intro G H W1 xs ds Q s a w
  unfold gLen at w
  split at w
  · obtain ⟨v, rfl, a1⟩ := atl1 a
    cases a1
    split at w
    · rename_i z; exact ⟨.str _, _, rfl, ⟨z, rfl⟩, w.here s _ rfl⟩
    · exact w.elim
  · obtain ⟨v, rfl, p, vs, rfl, h1, h2⟩ := atl1 a
    exact ⟨.ref p, _, rfl, .inl ⟨vs, .of (s _ _ h1), h2.length⟩, w.here s _ rfl⟩
  · obtain ⟨v, rfl, p, vs, rfl, h1, h2⟩ := atl1 a
    exact ⟨.ref p, _, rfl, .inr ⟨vs, tq s h1, h2.length⟩, w.here s _ rfl⟩
  · obtain ⟨v, rfl, p, o, vs, rfl, oo, h1, h2⟩ := atl1 a
    exact ⟨.ref p, _, rfl, .inr ⟨vs, .inl (.inr ⟨o, s _ _ h1⟩), h2.length⟩, w.here s _ rfl⟩
  · obtain ⟨v, rfl, p, rfl, h1⟩ := atl1 a
    exact ⟨.ref p, _, rfl, .inl ⟨_, SqL_mono s h1, (List.length_map ..).symm⟩, w.here s _ rfl⟩
  · exact w.elim
theorem vn_abs : VN X ca (fun xs H Q => ∃ i, xs = [.int i] ∧ Q (.int (if i < 0 then -i else i)) H) gAbs := by
  intro G H W1 xs ds Q s a w
  unfold gAbs at w
  split at w
  · obtain ⟨v, rfl, a1⟩ := atl1 a
    cases a1
    exact ⟨_, rfl, w.here s _ rfl⟩
  · exact w.elim
theorem vn_int : VN X ca (fun xs H Q => (∃ i, xs = [.int i] ∧ Q (.int i) H) ∨ ∃ k, xs = [.bl k] ∧ Q (.int (if k then 1 else 0)) H) gInt := by
  intro G H W1 xs ds Q s a w
  unfold gInt at w
  split at w
  · obtain ⟨v, rfl, a1⟩ := atl1 a
    cases a1
    exact .inl ⟨_, rfl, w.here s _ rfl⟩
  · obtain ⟨v, rfl, a1⟩ := atl1 a
    cases a1
    exact .inr ⟨_, rfl, w.here s _ rfl⟩
  · exact w.elim
theorem vn_list : VN X ca (fun xs H Q => ∃ p ys, xs = [.ref p] ∧ (SqL X.K H p ys ∨ SqT X.K H p ys) ∧ ∀ l, H l = none → Q (.ref l) (upd H l (.lst ys))) gList := by
  intro G H W1 xs ds Q s a w
  unfold gList at w
  split at w
  · obtain ⟨v, rfl, p, vs, rfl, h1, h2⟩ := atl1 a
    exact ⟨p, vs, rfl, .inl (.of (s _ _ h1)), fun l n => new_lst s w h2 n⟩
  · obtain ⟨v, rfl, p, vs, rfl, h1, h2⟩ := atl1 a
    exact ⟨p, vs, rfl, .inr (tq s h1), fun l n => new_lst s w h2 n⟩
  · obtain ⟨v, rfl, p, o, vs, rfl, oo, h1, h2⟩ := atl1 a
    exact ⟨p, vs, rfl, .inr (.inl (.inr ⟨o, s _ _ h1⟩)), fun l n => new_lst s w h2 n⟩
  · obtain ⟨v, rfl, p, rfl, h1⟩ := atl1 a
    exact ⟨p, _, rfl, .inl (SqL_mono s h1), fun l n => new_lst s w (AtL.of_ints _) n⟩
  · exact w.elim
theorem vn_tuple : VN X ca (fun xs H Q => ∃ p ys, xs = [.ref p] ∧ ((SqL X.K H p ys ∧ ∀ l, H l = none → Q (.ref l) (upd H l (.tup ys))) ∨ (SqT X.K H p ys ∧ Q (.ref p) H))) gTuple := by
  intro G H W1 xs ds Q s a w
  unfold gTuple at w
  split at w
  · obtain ⟨v, rfl, p, vs, rfl, h1, h2⟩ := atl1 a
    exact ⟨p, vs, rfl, .inl ⟨.of (s _ _ h1), fun l n => new_tup s w h2 n⟩⟩
  · obtain ⟨v, rfl, p, vs, rfl, h1, h2⟩ := atl1 a
    exact ⟨p, vs, rfl, .inr ⟨tq s h1, w.here s _ ⟨p, vs, rfl, h1, h2⟩⟩⟩
  · obtain ⟨v, rfl, p, o, vs, rfl, oo, h1, h2⟩ := atl1 a
    exact ⟨p, vs, rfl, .inr ⟨.inl (.inr ⟨o, s _ _ h1⟩), w.here s _ ⟨p, o, vs, rfl, oo, h1, h2⟩⟩⟩
  · exact w.elim
theorem vn_all : VN X ca (rAll X.K) gAll := by
  intro G H W1 xs ds Q s a w
  unfold gAll at w
  split at w
  · obtain ⟨ns, e, w⟩ := wish_opt w
    obtain ⟨v, rfl, p, vs, rfl, h1, h2⟩ := atl1 a
    rw [bolsOf_at e h2] at h1
    exact ⟨p, ns, rfl, .of (s _ _ h1), w.here s _ rfl⟩
  · exact w.elim
theorem foldl_min (ns : List Int) : ∀ n : Int, (ns.foldl min n = n ∨ ns.foldl min n ∈ ns) ∧ ns.foldl min n ≤ n ∧ ∀ y ∈ ns, ns.foldl min n ≤ y := by
  induction ns with
  | nil => intro n; exact ⟨.inl rfl, Int.le_refl _, fun y h => by cases h⟩
  | cons m ns ih =>
    intro n
    obtain ⟨h1, h2, h3⟩ := ih (min n m)
    rw [List.foldl_cons]
    refine ⟨?_, by omega, fun y h => ?_⟩
    · rcases h1 with h1 | h1
      · rw [h1]
        by_cases z : n ≤ m
        · exact .inl (by omega)
        · exact .inr (by rw [Int.min_eq_right (by omega)]; exact List.mem_cons_self)
      · exact .inr (List.mem_cons_of_mem _ h1)
    · rcases List.mem_cons.mp h with rfl | h
      · omega
      · exact h3 y h
end
end Tk
namespace Tk
open PySem PySem.Spec L2 PyProof.Rows
def signs (z : Str) : List D := z.cps.toList.map fun c => .str ⟨#[c]⟩
def gIt : D → R (List D)
  | .lst xs => .ok xs
  | .tup xs => .ok xs
  | .tpz xs => .ok xs
  | .tp0 => .ok []
  | .str z => .ok (signs z)
  | .scr ns => .ok (ns.map .int)
  | _ => .bad
def iSq (fa : Ev → R D) : Ev → R (List D) := fun ρ => (fa ρ).bind gIt
def small62 (i : Int) : Prop := -(2 ^ 62) ≤ i ∧ i < 2 ^ 62
instance (i : Int) : Decidable (small62 i) := by unfold small62; infer_instance
def rgD (lo : Int) (n : Nat) : List D := (List.range n).map fun (k : Nat) => .int (lo + (k : Int))
def iR1 (fa : Ev → R D) : Ev → R (List D) := fun ρ => (fa ρ).bind fun d => match d with
  | .int j => if small62 j then .ok (rgD 0 j.toNat) else .bad
  | _ => .bad
def iR2 (fa fb : Ev → R D) : Ev → R (List D) := fun ρ => (fa ρ).bind fun a => (fb ρ).bind fun b => match a, b with
  | .int i, .int j => if small62 i ∧ small62 j then .ok (rgD i (j - i).toNat) else .bad
  | _, _ => .bad
def enumD (k : Nat) : List D → List D
  | [] => []
  | d :: r => .tup [.int (k : Int), d] :: enumD (k + 1) r
def zipD : List D → List D → List D
  | d :: r, e :: s => .tup [d, e] :: zipD r s
  | _, _ => []
section
variable {K : PySem.W.Frag} {ca : Cn} {G0 : Hp}
theorem jok_list {a : Addr} {ds : List D} {vs : List V} (h : SqL K G0 a vs) (r : AtL K ca G0 ds vs) : JOk K ca G0 (Itl K a) ds := by
  intro G H s1 s2 i
  have q : SqL K H a vs := SqL_mono s2 (SqL_mono s1 h)
  refine ⟨fun d e => ?_, fun l => ⟨vs, q, by rw [← r.length]; omega⟩⟩
  obtain ⟨v, e1, a1⟩ := r.get e
  refine ⟨⟨vs, v, q, e1⟩, fun x H' y => ⟨G, by rw [y.1]; exact .refl s2, ?_⟩⟩
  have := y.2 vs q
  rw [e1] at this
  cases this
  exact At.mono s1 a1
theorem jok_tup {a : Addr} {ds : List D} {vs : List V} (h : SqT K G0 a vs) (r : AtL K ca G0 ds vs) : JOk K ca G0 (Itt K a) ds := by
  intro G H s1 s2 i
  have q : SqT K H a vs := SqT_mono s2 (SqT_mono s1 h)
  refine ⟨fun d e => ?_, fun l => ⟨vs, q, by rw [← r.length]; omega⟩⟩
  obtain ⟨v, e1, a1⟩ := r.get e
  refine ⟨⟨vs, v, q, e1⟩, fun x H' y => ⟨G, by rw [y.1]; exact .refl s2, ?_⟩⟩
  have := y.2 vs q
  rw [e1] at this
  cases this
  exact At.mono s1 a1
theorem jok_str {z : Str} : JOk K ca G0 (Its z) (signs z) := by
  intro G H s1 s2 i
  have hl : (signs z).length = z.cps.size := by unfold signs; rw [List.length_map, Array.length_toList]
  refine ⟨fun d e => ?_, fun l => Nat.le_of_eq (hl.symm.trans l)⟩
  have hi : i < z.cps.size := by rw [← hl]; exact (List.getElem?_eq_some_iff.mp e).1
  refine ⟨hi, fun x H' y => ⟨G, by rw [y.1]; exact .refl s2, ?_⟩⟩
  obtain ⟨c, e1, e2⟩ := y.2
  unfold signs at e
  rw [List.getElem?_map, Array.getElem?_toList, e1] at e
  cases e
  exact e2
theorem jok_rg {lo : Int} {n : Nat} : JOk K ca G0 (Itr lo n) (rgD lo n) := by
  intro G H s1 s2 i
  have hl : (rgD lo n).length = n := by unfold rgD; rw [List.length_map, List.length_range]
  refine ⟨fun d e => ?_, fun l => Nat.le_of_eq (hl.symm.trans l)⟩
  have hi : i < n := by rw [← hl]; exact (List.getElem?_eq_some_iff.mp e).1
  refine ⟨hi, fun x H' y => ⟨G, by rw [y.1]; exact .refl s2, ?_⟩⟩
  unfold rgD at e
  rw [List.getElem?_map, List.getElem?_range hi] at e
  cases e
  exact y.2
theorem enumD_get : ∀ (ds : List D) (k i : Nat), (enumD k ds)[i]? = ds[i]?.map fun d => .tup [.int ((k + i : Nat) : Int), d]
  | [], k, i => by simp [enumD]
  | d :: r, k, 0 => by simp [enumD]
  | d :: r, k, i + 1 => by
    show (enumD (k + 1) r)[i]? = r[i]?.map _
    rw [enumD_get r (k + 1) i]
    rw [show k + 1 + i = k + (i + 1) by omega]
theorem enumD_len : ∀ (ds : List D) (k : Nat), (enumD k ds).length = ds.length
  | [], k => rfl
  | d :: r, k => congrArg Nat.succ (enumD_len r (k + 1))
theorem zipD_get : ∀ (ds es : List D) (i : Nat), (zipD ds es)[i]? = (match ds[i]?, es[i]? with | some d, some e => some (.tup [d, e]) | _, _ => none)
  | [], es, i => by simp [zipD]
  | d :: r, [], i => by cases h : (d :: r)[i]? <;> simp [zipD]
  | d :: r, e :: s, 0 => by simp [zipD]
  | d :: r, e :: s, i + 1 => by
    show (zipD r s)[i]? = _
    rw [zipD_get r s i]
    rfl
theorem zipD_len : ∀ (ds es : List D), (zipD ds es).length = min ds.length es.length
  | [], es => by simp [zipD]
  | d :: r, [] => by simp [zipD]
  | d :: r, e :: s => by
    show (zipD r s).length + 1 = _
    rw [zipD_len r s, List.length_cons, List.length_cons]
    omega
theorem pair_at {G H : Hp} {T : Addr} {x y : V} {d e : D} (s : Same G H) (n : H T = none) (a : At K ca G d x) (b : At K ca G e y) : ∃ G', Ext G H G' (upd H T (.tup [x, y])) ∧ At K ca G' (.tup [d, e]) (.ref T) := by
  refine ⟨upd G T (.tup [x, y]), Ext.new s n, T, [x, y], rfl, upd_same, ?_⟩
  have m := same_upd (o := .tup [x, y]) (same_none s n)
  exact ⟨x, [y], rfl, At.mono m a, y, [], rfl, At.mono m b, rfl⟩
end
theorem pi_or {X : Cx} {tg it : Expr} {w1 w2 : TI} (h1 : PI X tg it w1) (h2 : PI X tg it w2) : PI X tg it (fun σ H R => w1 σ H R ∨ w2 σ H R) :=
  ⟨fun pins s σ H R I h => h.elim (h1.run pins s σ H R I) (h2.run pins s σ H R I)⟩
section
variable {X : Cx} {ca : Cn} {W : WX} {tg e e' : Expr} {es : List Expr} {fa fb : Ev → R D} {fl : Ev → R (List D)} {p pos : Pos}
theorem fi_sq (h : FE X ca W e fa) : FI X ca W tg e (iSq fa) := by
  obtain ⟨t, p, k⟩ := h.ex
  refine ⟨_, pi_or (pi_or (pi_list p) (pi_tup p)) (pi_str p), fun B G H σ ρ Q s b r h => ?_⟩
  unfold iSq at h
  -- which of the three is known ahead: the mirror's value
  cases z : fa ρ with
  | bad => rw [z] at h; exact h.elim
  | exc x =>
    refine .inl (.inl (k B G H σ ρ _ s b r ?_))
    rw [z] at h ⊢
    exact h
  | ok d =>
    have hw : ∀ ds, gIt d = .ok ds → ∀ Q1 : VK, (∀ v G1 H1, Ext G H G1 H1 → Wish X.K ca (fun G' ds H' => ∀ J, JOk X.K ca G' J ds → Q J H') G1 H1 (.ok ds) (WE W σ) → At X.K ca G1 d v → Q1 v H1) → Wish X.K ca (SV X.K ca Q1) G H (fa ρ) (WE W σ) := fun ds e Q1 hq => by
      refine Wish.bind (k := gIt) h fun d' G1 H1 e1 x1 w1 v a1 => ?_
      rw [z] at e1
      cases e1
      rw [e] at w1
      exact hq v G1 H1 x1 w1 a1
    cases d with
    | lst xs =>
      refine .inl (.inl (k B G H σ ρ _ s b r (hw xs rfl _ fun v G1 H1 x1 w1 a1 => ?_)))
      obtain ⟨q, vs, rfl, h1, h2⟩ := a1
      exact ⟨q, rfl, ⟨vs, .of (x1.gh _ _ h1)⟩, w1.here x1.gh _ (jok_list (.of h1) h2)⟩
    | scr ns =>
      refine .inl (.inl (k B G H σ ρ _ s b r (hw _ rfl _ fun v G1 H1 x1 w1 a1 => ?_)))
      obtain ⟨q, rfl, h1⟩ := a1
      exact ⟨q, rfl, ⟨_, SqL_mono x1.gh h1⟩, w1.here x1.gh _ (jok_list h1 (AtL.of_ints _))⟩
    | tup xs =>
      refine .inl (.inr (k B G H σ ρ _ s b r (hw xs rfl _ fun v G1 H1 x1 w1 a1 => ?_)))
      obtain ⟨q, vs, rfl, h1, h2⟩ := a1
      exact ⟨q, rfl, ⟨vs, tq x1.gh h1⟩, w1.here x1.gh _ (jok_tup (tq (.refl _) h1) h2)⟩
    | tp0 =>
      refine .inl (.inr (k B G H σ ρ _ s b r (hw [] rfl _ fun v G1 H1 x1 w1 a1 => ?_)))
      obtain ⟨q, rfl, h1⟩ := a1
      exact ⟨q, rfl, ⟨[], SqT_mono x1.gh h1⟩, w1.here x1.gh _ (jok_tup h1 rfl)⟩
    | tpz xs =>
      refine .inl (.inr (k B G H σ ρ _ s b r (hw xs rfl _ fun v G1 H1 x1 w1 a1 => ?_)))
      obtain ⟨q, o, vs, rfl, oo, h1, h2⟩ := a1
      exact ⟨q, rfl, ⟨vs, .inl (.inr ⟨o, x1.gh _ _ h1⟩)⟩, w1.here x1.gh _ (jok_tup (.inl (.inr ⟨o, h1⟩)) h2)⟩
    | str x =>
      refine .inr (k B G H σ ρ _ s b r (hw _ rfl _ fun v G1 H1 x1 w1 a1 => ?_))
      cases a1
      exact ⟨x, rfl, w1.here x1.gh _ jok_str⟩
    | _ => rw [z] at h; exact h.elim
theorem fi_r1 (hg : Gl X "range") (hm : X.mg "range" = none) (h : FE X ca W e fa) (hs : starEach [e] X.env = [(false, eval e X.env)] := by rfl) : FI X ca W tg (.Call (.Name "range" p) [e] [] pos) (iR1 fa) := by
  obtain ⟨t, p, k⟩ := h.ex
  refine ⟨_, pi_range1 hg hm (pa_cons p pa_nil hs) hs, fun B G H σ ρ Q s b r h => ?_⟩
  refine k B G H σ ρ _ s b r (Wish.bind h fun d G1 H1 e1 x1 w1 v a1 => ?_)
  cases d with
  | int j =>
    cases a1
    have w2 : Wish X.K ca (fun G' ds H' => ∀ J, JOk X.K ca G' J ds → Q J H') G1 H1 (if small62 j then .ok (rgD 0 j.toNat) else .bad) (WE W σ) := w1
    split at w2
    · rename_i z; exact ⟨_, rfl, z.1, z.2, w2.here x1.gh _ jok_rg⟩
    · exact w2.elim
  | _ => exact w1.elim
end
end Tk
namespace Tk
open PySem PySem.Spec L2 PyProof.Rows
abbrev W0 : WX := fun _ _ _ _ => False
def tE (K : PySem.W.Frag) (ca : Cn) (W : WX) (f : Ev → R D) : TE := fun σ H Q => ∃ B G ρ, Same G H ∧ Same B H ∧ Rel K ca B G H σ ρ ∧ Wish K ca (SV K ca Q) G H (f ρ) (WE W σ)
def tT (K : PySem.W.Frag) (ca : Cn) (W : WX) (f : Ev → R Bool) : TT := fun σ H Q => ∃ B G ρ, Same G H ∧ Same B H ∧ Rel K ca B G H σ ρ ∧ Wish K ca (SB Q) G H (f ρ) (WE W σ)
def tGc (K : PySem.W.Frag) (ca : Cn) (zs : List Nat) (h : Tg) : TG := fun v σ H Q => ∃ B G ρ d, Same G H ∧ Same B H ∧ Rel K ca B G H σ ρ ∧ At K ca G d v ∧ ∃ ρ', h d ρ = some ρ' ∧ ∀ σ', Rel K ca B G H σ' ρ' → wipe σ' zs = wipe σ zs → Q σ' H
section
variable {X : Cx} {ca : Cn} {W : WX} {zs : List Nat} {e tg : Expr} {f : Ev → R D} {ft : Ev → R Bool} {h : Tg}
theorem FE.can (a : FE X ca W e f) : PE X e (tE X.K ca W f) := by
  obtain ⟨t, p, k⟩ := a.ex
  exact ⟨fun pins s σ H Q I ⟨B, G, ρ, h1, h2, h3, h4⟩ => p.run pins s σ H Q I (k B G H σ ρ Q h1 h2 h3 h4)⟩
theorem FT.can (a : FT X ca W e ft) : PT X e (tT X.K ca W ft) := by
  obtain ⟨t, p, k⟩ := a.ex
  exact ⟨fun pins s σ H Q I ⟨B, G, ρ, h1, h2, h3, h4⟩ => p.run pins s σ H Q I (k B G H σ ρ Q h1 h2 h3 h4)⟩
theorem FG.can (a : FG X ca zs tg h) : PG X tg (tGc X.K ca zs h) := by
  obtain ⟨t, p, k⟩ := a.ex
  exact ⟨fun pins s σ H v u Q I r ⟨B, G, ρ, d, h1, h2, h3, h4, h5⟩ => p.run pins s σ H v u Q I r (k B G H σ ρ d v Q h1 h2 h3 h4 h5)⟩
structure FTs (X : Cx) (ca : Cn) (W : WX) (es : List Expr) (f : Ev → R Bool) : Prop where
  ex : PTs X es (tT X.K ca W f)
def tsY : Ev → R Bool := fun _ => .ok true
theorem fts_nil : FTs X ca W [] tsY := ⟨⟨fun pins s σ H Q I ⟨B, G, ρ, h1, h2, h3, h4⟩ => pts_nil.run pins s σ H Q I (h4.here h1)⟩⟩
theorem fts_one (a : FT X ca W e ft) : FTs X ca W [e] ft := ⟨pts_one a.can⟩
end
def wipeE (ρ : Ev) : List Nat → Ev
  | [] => ρ
  | v :: vs => (wipeE ρ vs).set v .no
def R.quiet {α : Type} (r : R α) : R α := match r with
  | .ok a => .ok a
  | _ => .bad
@[simp] theorem quiet_ok {α : Type} (a : α) : R.quiet (.ok a) = .ok a := (rfl)
@[simp] theorem quiet_bad {α : Type} : R.quiet (.bad : R α) = .bad := (rfl)
def lcL (h : Tg) (t : Ev → R Bool) (fe : Ev → R D) (ρ : Ev) : List D → R (List D)
  | [] => .ok []
  | d :: ds => (optR (h d ρ)).bind fun ρ1 => (t ρ1).quiet.bind fun b => if b = true then (fe ρ1).quiet.bind fun y => (lcL h t fe ρ ds).bind fun r => .ok (y :: r) else lcL h t fe ρ ds
def eLc (zs : List Nat) (fi : Ev → R (List D)) (h : Tg) (t : Ev → R Bool) (fe : Ev → R D) : Ev → R D := fun ρ => (fi ρ).bind fun ds => if ds.length ≤ sizeLine then (lcL h t fe (wipeE ρ zs) ds).bind fun rs => .ok (.lst rs) else .bad
section
variable {K : PySem.W.Frag} {ca : Cn} {B G H : Hp} {σ : L2.St} {ρ : Ev}
theorem Rel.unset (r : Rel K ca B G H σ ρ) (i : Nat) : Rel K ca B G H (σ.set i none) (ρ.set i .no) where
  len := by rw [List.length_set, List.length_set]; exact r.len
  val := fun j d q => by
    rcases getElem?_set' q with ⟨rfl, z⟩ | ⟨ne, q⟩
    · cases z
    · obtain ⟨v, h1, h2⟩ := r.val j d q
      exact ⟨v, by rw [List.getElem?_set_ne (Ne.symm ne)]; exact h1, h2⟩
  own := fun j s q ho => by
    rcases getElem?_set' q with ⟨rfl, z⟩ | ⟨ne, q⟩
    · rw [z] at ho; cases ho
    · obtain ⟨a, h1, h2⟩ := r.own j s q ho
      exact ⟨a, by rw [List.getElem?_set_ne (Ne.symm ne)]; exact h1, h2⟩
  sep := fun j k s t a qj oj qk ok hj hk => by
    rcases getElem?_set' qj with ⟨rfl, z⟩ | ⟨nj, qj⟩
    · rw [z] at oj; cases oj
    · rcases getElem?_set' qk with ⟨rfl, z⟩ | ⟨nk, qk⟩
      · rw [z] at ok; cases ok
      · rw [List.getElem?_set_ne (Ne.symm nj)] at hj
        rw [List.getElem?_set_ne (Ne.symm nk)] at hk
        exact r.sep j k s t a qj oj qk ok hj hk
  exc := fun j x q => by
    rcases getElem?_set' q with ⟨rfl, z⟩ | ⟨ne, q⟩
    · cases z
    · obtain ⟨a, c, dx, h1, h2⟩ := r.exc j x q
      exact ⟨a, c, dx, by rw [List.getElem?_set_ne (Ne.symm ne)]; exact h1, h2⟩
  nst := by
    obtain ⟨FP, n⟩ := r.nst
    refine ⟨FP, n.step (fun j t q => ?_) (.refl _) fun b o hb nt gb bb ow => ⟨rfl, gb, fun j s' q os => ?_⟩⟩
    · rcases getElem?_set' q with ⟨rfl, z⟩ | ⟨ne, q⟩
      · cases z
      · exact ⟨q, List.getElem?_set_ne (Ne.symm ne)⟩
    · rcases getElem?_set' q with ⟨rfl, z⟩ | ⟨ne, q⟩
      · rw [z] at os; cases os
      · rw [List.getElem?_set_ne (Ne.symm ne)]; exact ow j s' q os
theorem Rel.wipe (r : Rel K ca B G H σ ρ) : ∀ zs : List Nat, Rel K ca B G H (L2.wipe σ zs) (wipeE ρ zs)
  | [] => r
  | z :: zs => (Rel.wipe r zs).unset z
end
theorem wipe_sub {σ : L2.St} {zs : List Nat} : ∀ ys : List Nat, (∀ i ∈ ys, i ∈ zs) → L2.wipe (L2.wipe σ ys) zs = L2.wipe σ zs
  | [], _ => rfl
  | y :: ys, h => by
    show L2.wipe ((L2.wipe σ ys).set y none) zs = _
    rw [wipe_set (h y List.mem_cons_self), wipe_sub ys fun i m => h i (List.mem_cons_of_mem _ m)]
theorem wipe_idem (σ : L2.St) (zs : List Nat) : L2.wipe (L2.wipe σ zs) zs = L2.wipe σ zs := wipe_sub zs fun _ h => h
theorem wish_quiet {ca : Cn} {α β : Type} {K : PySem.W.Frag} {S : Hp → β → Hp → Prop} {G H : Hp} {r : R α} {k : α → R β} {W1 : XK} (h : Wish K ca S G H (r.quiet.bind k) W1) : ∃ x, r = .ok x ∧ Wish K ca S G H (k x) W1 := by
  cases r with
  | ok x => exact ⟨x, rfl, h⟩
  | exc x => exact h.elim
  | bad => exact h.elim
def LcW (K : PySem.W.Frag) (ca : Cn) (h : Tg) (t : Ev → R Bool) (fe : Ev → R D) (ρw : Ev) (D : Addr) (ds : List Tk.D) (B G1 H1 : Hp) (σw : L2.St) (W1 : XK) (Q : VK) (i : Nat) (H : Hp) : Prop :=
  ∃ G acc vs, Ext G1 H1 G H ∧ G D = none ∧ H D = some (.lst vs) ∧ AtL K ca G acc vs ∧ acc.length ≤ i ∧ Same B H ∧ Rel K ca B G H σw ρw ∧
    Wish K ca (SV K ca Q) G1 H1 ((lcL h t fe ρw (ds.drop i)).bind fun rs => .ok (.lst (acc ++ rs))) W1
section
variable {X : Cx} {ca : Cn} {W : WX} {zs : List Nat} {elt tg iter : Expr} {ifs : List Expr} {scope : Scope} {own : List (Str × Nat)} {pos : Pos} {fi : Ev → R (List D)} {h : Tg} {ft : Ev → R Bool} {fe : Ev → R D}
theorem lc_tail {tl : TI} (ki : ∀ B G H σ ρ (Q : It → Hp → Prop), Same G H → Same B H → Rel X.K ca B G H σ ρ → Wish X.K ca (fun G' ds H' => ∀ J, JOk X.K ca G' J ds → Q J H') G H (fi ρ) (WE W σ) → tl σ H Q)
    (B G H : Hp) (σ : L2.St) (ρ : Ev) (Q : VK) (s : Same G H) (b : Same B H) (r : Rel X.K ca B G H σ ρ) (w : Wish X.K ca (SV X.K ca Q) G H (eLc zs fi h ft fe ρ) (WE W σ)) :
    tLc tl (tGc X.K ca zs h) (tT X.K ca W0 ft) (tE X.K ca W0 fe) zs σ H Q := by
  refine ki B G H σ ρ _ s b r (Wish.bind w fun ds G1 H1 _ x1 w1 J hj => ?_)
  intro D hD
  split at w1
  rename_i hlen
  have gD : G1 D = none := same_none x1.gh hD
  have b1 := b.trans x1.hh
  have r1 := (r.ext x1).wipe zs
  have e0 : Ext G1 H1 G1 (upd H1 D (.lst [])) := ⟨same_upd hD, .refl _, x1.gh.trans (same_upd hD), fun a z => .inl z⟩
  refine ⟨fun i m H => m = ds.length - i ∧ i ≤ ds.length ∧ LcW X.K ca h ft fe (wipeE ρ zs) D ds B G1 H1 (L2.wipe σ zs) (WE W σ) Q i H, ⟨_, rfl, Nat.zero_le _, G1, [], [], e0, gD, upd_same, rfl, Nat.le_refl _, b1.trans e0.hh, r1.ext e0, by rw [List.drop_zero]; exact w1⟩, ?_⟩
  rintro i m H2 ⟨rfl, hi, G2, acc, vs, e2, g2, d2, a2, l2, b2, r2, w2⟩
  obtain ⟨j1, j2⟩ := hj G2 H2 e2.gg e2.gh i
  by_cases hlt : i < ds.length
  · rw [List.drop_eq_getElem_cons hlt] at w2
    obtain ⟨go, yl⟩ := j1 ds[i] (by simp [hlt])
    refine .inr ⟨go, fun H' => LcW X.K ca h ft fe (wipeE ρ zs) D ds B G1 H1 (L2.wipe σ zs) (WE W σ) Q (i + 1) H', fun H' q => ⟨ds.length - (i + 1), by omega, rfl, hlt, q⟩, fun x H3 yy => ?_⟩
    obtain ⟨G3, x3, a3⟩ := yl x H3 yy
    have r3 := r2.ext x3
    have b3 := b2.trans x3.hh
    -- what stays of the new list, wherever the block's own expressions lay things
    have stay : ∀ {G4 H4 : Hp}, Ext G3 H3 G4 H4 → G4 D = none ∧ H4 D = some (.lst vs) ∧ AtL X.K ca G4 acc vs ∧ Ext G1 H1 G4 H4 ∧ Same B H4 ∧ Rel X.K ca B G4 H4 (L2.wipe σ zs) (wipeE ρ zs) := fun {G4 H4} x4 => by
      have x5 := x3.trans x4
      refine ⟨?_, x5.hh _ _ d2, AtL.mono x5.gg a2, e2.trans x5, b2.trans x5.hh, r2.ext x5⟩
      cases q : G4 D with
      | none => rfl
      | some u =>
        rcases x5.nw D (by rw [q]; simp) with z | z
        · exact absurd g2 z
        · exact (z.no d2 fun _ y => nomatch y).elim
    have w3 : Wish X.K ca (SV X.K ca Q) G1 H1 (((optR (h ds[i] (wipeE ρ zs))).bind fun ρ1 => (ft ρ1).quiet.bind fun b => if b = true then (fe ρ1).quiet.bind fun y => (lcL h ft fe (wipeE ρ zs) (ds.drop (i + 1))).bind fun r => .ok (y :: r) else lcL h ft fe (wipeE ρ zs) (ds.drop (i + 1))).bind fun rs => .ok (.lst (acc ++ rs))) (WE W σ) := w2
    cases z1 : h ds[i] (wipeE ρ zs) with
    | none => rw [z1] at w3; exact w3.elim
    | some ρ1 =>
      rw [z1] at w3
      refine ⟨B, G3, wipeE ρ zs, ds[i], x3.gh, b3, r3, a3, ρ1, z1, fun σ4 r4 e4 => ⟨e4.trans (wipe_idem σ zs), B, G3, ρ1, x3.gh, b3, r4, ?_⟩⟩
      cases z2 : ft ρ1 with
      | exc x => simp only [optR_some, bind_ok, z2] at w3; exact w3.elim
      | bad => simp only [optR_some, bind_ok, z2] at w3; exact w3.elim
      | ok bb =>
        simp only [optR_some, bind_ok, z2, quiet_ok] at w3
        intro G5 H5 x5
        show if bb = true then _ else _
        cases bb with
        | false =>
          rw [if_neg Bool.false_ne_true] at w3 ⊢
          obtain ⟨s1, s2, s3, s4, s5, s6⟩ := stay x5
          exact ⟨G5, acc, vs, s4, s1, s2, s3, by omega, s5, s6, w3⟩
        | true =>
          rw [if_pos rfl] at w3 ⊢
          refine ⟨B, G5, ρ1, x5.gh, b3.trans x5.hh, r4.ext x5, ?_⟩
          cases z3 : fe ρ1 with
          | exc x => simp only [z3] at w3; exact w3.elim
          | bad => simp only [z3] at w3; exact w3.elim
          | ok y =>
            simp only [z3, quiet_ok, bind_ok] at w3
            intro G6 H6 x6 v av
            obtain ⟨s1, s2, s3, s4, s5, s6⟩ := stay (x5.trans x6)
            have hl := s3.length
            refine ⟨vs, s2, by omega, G6, acc ++ [y], vs ++ [v], ?_, s1, upd_same, s3.append (.one av), by rw [List.length_append]; exact Nat.succ_le_succ l2, ?_, ?_, ?_⟩
            · -- the list's own place is the only one that turned
              have nD : ∀ c o, H1 c = some o → c ≠ D := fun c o q z => by rw [z, hD] at q; cases q
              have nG : ∀ c o, G6 c = some o → c ≠ D := fun c o q z => by rw [z, s1] at q; cases q
              exact ⟨fun c o q => by rw [upd_ne (nD c o q)]; exact s4.hh c o q, s4.gg, fun c o q => by rw [upd_ne (nG c o q)]; exact s4.gh c o q, s4.nw⟩
            · have nB : ∀ c o, B c = some o → c ≠ D := fun c o q z => by
                have := b1 c o q
                rw [z, hD] at this
                cases this
              exact fun c o q => by rw [upd_ne (nB c o q)]; exact s5 c o q
            · refine ⟨s6.len, s6.val, fun k s' q ho => ?_, s6.sep, s6.exc, ?_⟩
              rotate_left 1
              · obtain ⟨FP, n⟩ := r1.nst
                refine ⟨FP, n.step (fun j t q => ⟨q, rfl⟩) s4.gg fun b o hb nt gb bb ow => ⟨?_, ?_, ow⟩⟩
                · rw [upd_ne fun z => by rw [z, hD] at hb; cases hb]
                  exact (s4.hh _ _ hb).trans hb.symm
                · cases q : G6 b with
                  | none => rfl
                  | some u =>
                    rcases s4.nw b (by rw [q]; simp) with z | z
                    · exact (z gb).elim
                    · exact (z.no hb nt).elim
              obtain ⟨a', t1, t2, t3, t4⟩ := s6.own k s' q ho
              refine ⟨a', t1, t2.ext (.refl _) ?_, t3, t4⟩
              -- an own object of the frame stood ahead of the new list
              obtain ⟨a0, u1, u2, u3, u4⟩ := r1.own k s' q ho
              rw [t1] at u1
              cases u1
              obtain ⟨o, u5⟩ := u2.some
              rw [upd_ne (fun z => by rw [z, hD] at u5; cases u5)]
            · cases z4 : lcL h ft fe (wipeE ρ zs) (ds.drop (i + 1)) with
              | ok rs =>
                rw [z4] at w3
                rw [bind_ok, List.append_assoc]
                exact w3
              | exc x => rw [z4] at w3; exact w3
              | bad => rw [z4] at w3; exact w3
  · have e : i = ds.length := by omega
    subst e
    rw [List.drop_length] at w2
    have w3 : Wish X.K ca (SV X.K ca Q) G1 H1 (.ok (.lst (acc ++ []))) (WE W σ) := w2
    rw [List.append_nil] at w3
    refine .inl ⟨j2 rfl, w3 (upd G2 D (.lst vs)) H2 ⟨e2.hh, e2.gg.trans (same_upd g2), fun c o q => ?_, fun c q => ?_⟩ (.ref D) ⟨D, vs, rfl, upd_same, AtL.mono (same_upd g2) a2⟩⟩
    · by_cases z : c = D
      · subst z; rw [upd_same] at q; cases q; exact d2
      · rw [upd_ne z] at q; exact e2.gh c o q
    · by_cases z : c = D
      · subst z; exact .inr (.inl hD)
      · rw [upd_ne z] at q; exact e2.nw c q
  · exact w1.elim
theorem fe_lc (hc : X.calm = true) (hN : X.N.Nodup) (hi : FI X ca W tg iter fi) (ok : BlkOk X.N X.env.scope scope own)
    (hg : ∀ (s : Shared) (H : Hp) (C : Addr) (cl : List (Str × Addr)) (fp : List Addr), FG (X.blk s H scope (compEnvC scope cl C X.env) fp) ca (own.map (·.2)) tg h) (ht : ∀ (s : Shared) (H : Hp) (C : Addr) (cl : List (Str × Addr)) (fp : List Addr), FTs (X.blk s H scope (compEnvC scope cl C X.env) fp) ca W0 ifs ft)
    (he : ∀ (s : Shared) (H : Hp) (C : Addr) (cl : List (Str × Addr)) (fp : List Addr), FE (X.blk s H scope (compEnvC scope cl C X.env) fp) ca W0 elt fe) (hs : ∀ x, foldedSetIterable iter X.env x = pure x := by intro _; rfl) :
    FE X ca W (.ListComp elt [⟨tg, iter, ifs, 0⟩] scope pos) (eLc (own.map (·.2)) fi h ft fe) := by
  obtain ⟨tl, pl, ki⟩ := hi.ex
  refine ⟨_, pe_lc (g := tGc X.K ca (own.map (·.2)) h) (tt := tT X.K ca W0 ft) (te := tE X.K ca W0 fe) hc hN pl ok (fun s H C cl fp => (hg s H C cl fp).can) (fun s H C cl fp => (ht s H C cl fp).ex) (fun s H C cl fp => (he s H C cl fp).can) hs, fun B G H σ ρ Q s b r w => ?_⟩
  exact lc_tail ki B G H σ ρ Q s b r w
theorem fs_setLc {i : Nat} {y : Str} {py spos : Pos} (hc : X.calm = true) (hN : X.N.Nodup) (hy : X.N[i]? = some y) (hyl : X.env.scope.names.lookup y = some .local) (hsw : swapsWith (.ListComp elt [⟨tg, iter, ifs, 0⟩] scope pos) (some (.Name y py)) spos.line X.env = pure true)
    (hi : FI X ca W tg iter fi) (ok : BlkOk X.N X.env.scope scope own)
    (hg : ∀ (s : Shared) (H : Hp) (C : Addr) (cl : List (Str × Addr)) (fp : List Addr), FG (X.blk s H scope (compEnvC scope cl C X.env) fp) ca (own.map (·.2)) tg h) (ht : ∀ (s : Shared) (H : Hp) (C : Addr) (cl : List (Str × Addr)) (fp : List Addr), FTs (X.blk s H scope (compEnvC scope cl C X.env) fp) ca W0 ifs ft)
    (he : ∀ (s : Shared) (H : Hp) (C : Addr) (cl : List (Str × Addr)) (fp : List Addr), FE (X.blk s H scope (compEnvC scope cl C X.env) fp) ca W0 elt fe) (hs : ∀ x, foldedSetIterable iter X.env x = pure x := by intro _; rfl) :
    FS X ca W (.Assign [.Name y py] (.ListComp elt [⟨tg, iter, ifs, 0⟩] scope pos) spos) (sSet i (eLc (own.map (·.2)) fi h ft fe)) := by
  obtain ⟨tl, pl, ki⟩ := hi.ex
  refine ⟨_, ps_setLc (g := tGc X.K ca (own.map (·.2)) h) (tt := tT X.K ca W0 ft) (te := tE X.K ca W0 fe) hc hN hy hyl hsw pl ok (fun s H C cl fp => (hg s H C cl fp).can) (fun s H C cl fp => (ht s H C cl fp).ex) (fun s H C cl fp => (he s H C cl fp).can) hs, fun B G H σ ρ D s b r w => ?_⟩
  refine lc_tail ki B G H σ ρ _ s b r ?_
  exact WishS.from w b r fun a G1 H1 _ x w1 r1 b1 v av => w1 _ G1 H1 (.refl x.gh b1) (r1.set i av)
end
end Tk
namespace Tk
open PySem PySem.Spec L2 PyProof.Rows
def frzA (ρ : Ev) : Ev := ρ.map frzS
def frzE (i : Nat) (ρ : Ev) : Ev := match ρ[i]? with
  | some s => ρ.set i (frzS s)
  | none => ρ
def sFrz (i : Nat) (g : Ev → SO) : Ev → SO := fun ρ => g (frzE i ρ)
def scalD : D → Bool
  | .non => true
  | .bl _ => true
  | .int _ => true
  | .str _ => true
  | _ => false
def eBor (f : Ev → R D) : Ev → R D := fun ρ => (f (frzA ρ)).quiet.bind fun d => if scalD d = true then .ok d else .bad
def tBor (f : Ev → R Bool) : Ev → R Bool := fun ρ => (f (frzA ρ)).quiet
section
variable {K : PySem.W.Frag} {ca : Cn} {B G H G' H' : Hp} {σ : L2.St} {ρ : Ev}
theorem frz_not_own (s : Sl) : (frzS s).own = false := by cases s <;> rfl
theorem frz_v {s : Sl} (h : s.own = false) (n : ∀ t, s ≠ .tr t) : frzS s = s := by cases s <;> first | rfl | exact (n _ rfl).elim | cases h
theorem same_fp {FP : List Addr} (s : Same G H) (hf : ∀ b ∈ FP, G b = none) : ∃ G' : Hp, Same G G' ∧ Same G' H ∧ (∀ b ∈ FP, G' b = H b) ∧ ∀ b, b ∉ FP → G' b = G b := by
  refine ⟨fun b => if b ∈ FP then H b else G b, fun b o e => ?_, fun b o e => ?_, fun b m => if_pos m, fun b m => if_neg m⟩
  · show (if b ∈ FP then H b else G b) = _
    by_cases m : b ∈ FP
    · rw [hf b m] at e; cases e
    · rw [if_neg m]; exact e
  · have e : (if b ∈ FP then H b else G b) = some o := e
    by_cases m : b ∈ FP
    · rw [if_pos m] at e; exact e
    · rw [if_neg m] at e; exact s b o e
theorem frzA_x {i : Nat} {x : Ex} (h : (Tk.frzA ρ)[i]? = some (.x x)) : ρ[i]? = some (.x x) := by
  unfold Tk.frzA at h
  rw [List.getElem?_map] at h
  obtain ⟨u, q1, q2⟩ := Option.map_eq_some_iff.mp h
  cases u <;> first | (cases q2; exact q1) | cases q2
theorem exc_mono {i : Nat} {x : Ex} (r : Rel K ca B G H σ ρ) (s : Same G G') (h : ρ[i]? = some (.x x)) : ∃ a c dx, σ[i]? = some (some (.ref a)) ∧ ca.φ a c dx ∧ ExAt K ca G' x c dx :=
  let ⟨a, c, dx, h1, h2, h3⟩ := r.exc i x h; ⟨a, c, dx, h1, h2, h3.mono s⟩
theorem Rel.frzA (r : Rel K ca B G H σ ρ) (s : Same G H) : Rel K ca B H H σ (frzA ρ) := by
  have no : ∀ (i : Nat) (t : Sl), (Tk.frzA ρ)[i]? = some t → t.own = true → False := fun i t q o => by
    unfold Tk.frzA at q
    rw [List.getElem?_map] at q
    obtain ⟨u, _, q2⟩ := Option.map_eq_some_iff.mp q
    rw [← q2, frz_not_own] at o
    cases o
  refine ⟨by unfold Tk.frzA; rw [List.length_map]; exact r.len, fun i d q => ?_, fun i t q o => (no i t q o).elim, fun i j t u a q o => (no i t q o).elim, fun i x q => exc_mono r s (frzA_x q), _, .none fun i t q => ?_⟩
  rotate_left 1
  · unfold Tk.frzA at q
    rw [List.getElem?_map] at q
    obtain ⟨u, q1, q2⟩ := Option.map_eq_some_iff.mp q
    cases u <;> cases q2
  unfold Tk.frzA at q
  rw [List.getElem?_map] at q
  obtain ⟨u, q1, q2⟩ := Option.map_eq_some_iff.mp q
  cases o : u.own with
  | false =>
    by_cases tr : ∃ t, u = .tr t
    · obtain ⟨t, rfl⟩ := tr
      cases q2
      obtain ⟨FP, n⟩ := r.nst
      obtain ⟨v, hv, nt⟩ := n.at_ i t q1
      exact ⟨v, hv, nt.frz s fun b _ => rfl⟩
    rw [frz_v o fun t e => tr ⟨t, e⟩] at q2
    subst q2
    obtain ⟨v, h1, h2⟩ := r.val i d q1
    exact ⟨v, h1, At.mono s h2⟩
  | true =>
    obtain ⟨a, h1, h2, h3, h4⟩ := r.own i u q1 o
    obtain ⟨d', e1, e2⟩ := h2.at_ s rfl
    rw [e1] at q2
    cases q2
    exact ⟨_, h1, e2⟩
theorem scal_at {d : D} {v : V} (h : scalD d = true) (a : At K ca G d v) : At K ca G' d v := by
  cases d with
  | non => exact a
  | bl _ => exact a
  | int _ => exact a
  | str _ => exact a
  | _ => cases h
theorem set_same {i : Nat} {s : Sl} (h : ρ[i]? = some s) : ρ.set i s = ρ := by
  apply List.ext_getElem?
  intro j
  by_cases e : i = j
  · subst e
    rw [List.getElem?_set_self (List.getElem?_eq_some_iff.mp h).1, h]
  · rw [List.getElem?_set_ne e]
theorem Rel.frz (r : Rel K ca B G H σ ρ) (s : Same G H) (b : Same B H) (i : Nat) : ∃ G', Adv B G G' H ∧ Rel K ca B G' H σ (frzE i ρ) := by
  unfold frzE
  split
  · rename_i t q
    cases o : t.own with
    | false =>
      by_cases tr : ∃ u, t = .tr u
      · obtain ⟨u, rfl⟩ := tr
        obtain ⟨FP, n⟩ := r.nst
        obtain ⟨v, hv, nt⟩ := n.at_ i u q
        obtain ⟨G', g1, g2, g3, g4⟩ := same_fp s fun c m => (n.fr i u q c m).1
        refine ⟨G', ⟨g1, g2, b, fun c hc => ?_⟩, ?_⟩
        · by_cases m : c ∈ FP i
          · exact .inr (.inl (n.fr i u q c m).2)
          · rw [g4 c m] at hc; exact .inl hc
        · refine ⟨by rw [List.length_set]; exact r.len, fun j d w => ?_, fun j u' w o' => ?_, fun j k u' u'' c w o' w' o'' x y => ?_, fun j x w => ?_, FP, ?_⟩
          · rcases getElem?_set' w with ⟨rfl, z⟩ | ⟨ne, w⟩
            · cases z; exact ⟨v, hv, nt.frz g1 g3⟩
            · obtain ⟨v', t1, t2⟩ := r.val j d w
              exact ⟨v', t1, At.mono g1 t2⟩
          · rcases getElem?_set' w with ⟨rfl, z⟩ | ⟨ne, w⟩
            · rw [z] at o'; cases o'
            · obtain ⟨c, t1, t2, t3, t4⟩ := r.own j u' w o'
              refine ⟨c, t1, t2.ext g1 rfl, ?_, t4⟩
              rw [g4 c fun m => n.ow i u q c m j u' w o' t1]
              exact t3
          · rcases getElem?_set' w with ⟨rfl, z⟩ | ⟨nj, w⟩
            · rw [z] at o'; cases o'
            · rcases getElem?_set' w' with ⟨rfl, z⟩ | ⟨nk, w'⟩
              · rw [z] at o''; cases o''
              · exact r.sep j k u' u'' c w o' w' o'' x y
          · rcases getElem?_set' w with ⟨rfl, z⟩ | ⟨ne, w⟩
            · cases z
            · exact exc_mono r g1 w
          · have tr' : ∀ {j : Nat} {t : OT}, (ρ.set i (frzS (.tr u)))[j]? = some (.tr t) → j ≠ i ∧ ρ[j]? = some (.tr t) := fun {j t} w => by
              rcases getElem?_set' w with ⟨rfl, z⟩ | ⟨ne, w⟩
              · cases z
              · exact ⟨ne, w⟩
            refine ⟨fun j t w => ?_, fun j t w => n.nd j t (tr' w).2, fun j t w c m => ⟨?_, (n.fr j t (tr' w).2 c m).2⟩, fun j t w c m k s' ws os => ?_, fun j k t t' ne w w' => n.sp j k t t' ne (tr' w).2 (tr' w').2⟩
            · obtain ⟨v', t1, t2⟩ := n.at_ j t (tr' w).2
              exact ⟨v', t1, t2.ext g1 fun _ _ => rfl⟩
            · rw [g4 c (n.sp j i t u (tr' w).1 (tr' w).2 q c m)]
              exact (n.fr j t (tr' w).2 c m).1
            · rcases getElem?_set' ws with ⟨rfl, z⟩ | ⟨ne, ws⟩
              · rw [z] at os; cases os
              · exact n.ow j t (tr' w).2 c m k s' ws os
      rw [frz_v o fun u e => tr ⟨u, e⟩, set_same q]
      exact ⟨G, .refl s b, r⟩
    | true =>
      obtain ⟨a, h1, h2, h3, h4⟩ := r.own i t q o
      obtain ⟨ob, h5⟩ := h2.some
      have gg : Same G (upd G a ob) := same_upd h3
      have gh : Same (upd G a ob) H := fun c u e => by
        by_cases z : c = a
        · subst z; rw [upd_same] at e; rw [h5]; exact e
        · rw [upd_ne z] at e; exact s c u e
      obtain ⟨d', e1, e2⟩ := h2.at_ gg (show upd G a ob a = H a by rw [upd_same, h5])
      refine ⟨upd G a ob, ⟨gg, gh, b, fun c n => ?_⟩, ?_⟩
      · by_cases z : c = a
        · subst z; exact .inr (.inl h4)
        · rw [upd_ne z] at n; exact .inl n
      · rw [e1]
        refine ⟨by rw [List.length_set]; exact r.len, fun j d w => ?_, fun j u w o' => ?_, fun j k u u' c w o' w' o'' x y => ?_, fun j x w => ?_, ?_⟩
        rotate_left 4
        · obtain ⟨FP, n⟩ := r.nst
          refine ⟨FP, n.step (fun j t' w => ?_) gg fun c o' hc nt gc bc ow => ⟨rfl, ?_, fun j s' w os => ?_⟩⟩
          · rcases getElem?_set' w with ⟨rfl, z⟩ | ⟨ne, w⟩
            · cases z
            · exact ⟨w, rfl⟩
          · rw [upd_ne fun z => ow i t q o (by rw [z]; exact h1)]; exact gc
          · rcases getElem?_set' w with ⟨rfl, z⟩ | ⟨ne, w⟩
            · rw [z] at os; cases os
            · exact ow j s' w os
        rotate_left 3
        · rcases getElem?_set' w with ⟨rfl, z⟩ | ⟨ne, w⟩
          · cases z
          · exact exc_mono r gg w
        · rcases getElem?_set' w with ⟨rfl, z⟩ | ⟨ne, w⟩
          · cases z; exact ⟨_, h1, e2⟩
          · obtain ⟨v, t1, t2⟩ := r.val j d w
            exact ⟨v, t1, At.mono gg t2⟩
        · rcases getElem?_set' w with ⟨rfl, z⟩ | ⟨ne, w⟩
          · rw [z] at o'; cases o'
          · obtain ⟨c, t1, t2, t3, t4⟩ := r.own j u w o'
            refine ⟨c, t1, t2.ext gg rfl, ?_, t4⟩
            rw [upd_ne fun z => ne (r.sep j i u t a w o' q o (by rw [← z]; exact t1) h1)]
            exact t3
        · rcases getElem?_set' w with ⟨rfl, z⟩ | ⟨nj, w⟩
          · rw [z] at o'; cases o'
          · rcases getElem?_set' w' with ⟨rfl, z⟩ | ⟨nk, w'⟩
            · rw [z] at o''; cases o''
            · exact r.sep j k u u' c w o' w' o'' x y
  · exact ⟨G, .refl s b, r⟩
theorem Rel.turn (r : Rel K ca B G H σ ρ) (s : Same G H) (b : Same B H) {i : Nat} {t t' : Sl} {a : Addr} {o : HO} (q : ρ[i]? = some t) (ot : t.own = true) (ot' : t'.own = true) (ha : σ[i]? = some (some (.ref a))) (h : Own K ca G (upd H a o) a t') :
    Rel K ca B G (upd H a o) σ (ρ.set i t') ∧ Same G (upd H a o) ∧ Same B (upd H a o) := by
  obtain ⟨a', h1, h2, h3, h4⟩ := r.own i t q ot
  rw [ha] at h1
  cases h1
  refine ⟨⟨by rw [List.length_set]; exact r.len, fun j d w => ?_, fun j u w o' => ?_, fun j k u u' c w o' w' o'' x y => ?_, fun j x w => ?_, ?_⟩, fun c u e => ?_, fun c u e => ?_⟩
  rotate_left 4
  · obtain ⟨FP, n⟩ := r.nst
    refine ⟨FP, n.step (fun j t0 w => ?_) (.refl _) fun c o' hc nt gc bc ow => ⟨upd_ne fun z => ow i t q ot (by rw [z]; exact ha), gc, fun j s' w os => ?_⟩⟩
    · rcases getElem?_set' w with ⟨rfl, z⟩ | ⟨ne, w⟩
      · rw [← z] at ot'; cases ot'
      · exact ⟨w, rfl⟩
    · rcases getElem?_set' w with ⟨rfl, z⟩ | ⟨ne, w⟩
      · exact ow j t q ot
      · exact ow j s' w os
  rotate_left 2
  rotate_left 3
  · rcases getElem?_set' w with ⟨rfl, z⟩ | ⟨ne, w⟩
    · rw [← z] at ot'; cases ot'
    · exact r.exc j x w
  rotate_left 2
  · rcases getElem?_set' w with ⟨rfl, z⟩ | ⟨ne, w⟩
    · rw [← z] at ot'; cases ot'
    · exact r.val j d w
  · rcases getElem?_set' w with ⟨rfl, z⟩ | ⟨ne, w⟩
    · subst z; exact ⟨a, ha, h, h3, h4⟩
    · obtain ⟨c, t1, t2, t3, t4⟩ := r.own j u w o'
      refine ⟨c, t1, t2.ext (.refl _) ?_, t3, t4⟩
      rw [upd_ne fun z => ne (r.sep j i u t a w o' q ot (by rw [← z]; exact t1) ha)]
  · have up : ∀ {j : Nat} {u : Sl}, (ρ.set i t')[j]? = some u → u.own = true → ∃ u0, ρ[j]? = some u0 ∧ u0.own = true := fun {j u} w o' => by
      rcases getElem?_set' w with ⟨rfl, z⟩ | ⟨ne, w⟩
      · exact ⟨t, q, ot⟩
      · exact ⟨u, w, o'⟩
    obtain ⟨u0, z1, z2⟩ := up w o'
    obtain ⟨u1, z3, z4⟩ := up w' o''
    exact r.sep j k u0 u1 c z1 z2 z3 z4 x y
  · rw [upd_ne fun z => by rw [z, h3] at e; cases e]; exact s c u e
  · rw [upd_ne fun z => by rw [z, h4] at e; cases e]; exact b c u e
end
section
variable {X : Cx} {ca : Cn} {W : WX} {e : Expr} {st : Stmt} {sts : List Stmt} {f : Ev → R D} {ft : Ev → R Bool} {g : Ev → SO} {pos : Pos}
theorem fs_frz (i : Nat) (h : FS X ca W st g) : FS X ca W st (sFrz i g) := by
  obtain ⟨t, p, k⟩ := h.ex
  refine ⟨t, p, fun B G H σ ρ D s b r w => ?_⟩
  obtain ⟨G', a, r'⟩ := r.frz s b i
  exact k B G' H σ _ D a.gh b r' (WishS.mono w a)
theorem fe_bor (h : FE X ca W e f) : FE X ca W e (eBor f) := by
  obtain ⟨t, p, k⟩ := h.ex
  refine ⟨t, p, fun B G H σ ρ Q s b r w => k B H H σ _ Q (.refl H) b (r.frzA s) ?_⟩
  obtain ⟨d, e1, w⟩ := wish_quiet w
  rw [e1]
  split at w
  · rename_i hs
    intro G' H' x v a
    exact w G H' ⟨x.hh, .refl _, s.trans x.hh, fun c z => .inl z⟩ v (scal_at hs a)
  · exact w.elim
theorem ft_bor (h : FT X ca W e ft) : FT X ca W e (tBor ft) := by
  obtain ⟨t, p, k⟩ := h.ex
  refine ⟨t, p, fun B G H σ ρ Q s b r w => k B H H σ _ Q (.refl H) b (r.frzA s) ?_⟩
  unfold tBor at w
  cases z : ft (frzA ρ) with
  | ok d =>
    rw [z] at w
    intro G' H' x
    exact w G H' ⟨x.hh, .refl _, s.trans x.hh, fun c z => .inl z⟩
  | exc x => rw [z] at w; exact w.elim
  | bad => rw [z] at w; exact w.elim
end
def WishF (K : PySem.W.Frag) (ca : Cn) (G H : Hp) (r : R (List D)) (Q : VK) (W1 : XK) : Prop := Wish K ca (fun G' ds H' => ∀ p vs, H p = none → G' p = none → H' p = some (.lst vs) → AtL K ca G' ds vs → Q (.ref p) H') G H r W1
structure FL (X : Cx) (ca : Cn) (W : WX) (e : Expr) (f : Ev → R (List D)) : Prop where
  ex : ∃ t, PE X e t ∧ ∀ B G H σ ρ Q, Same G H → Same B H → Rel X.K ca B G H σ ρ → WishF X.K ca G H (f ρ) Q (WE W σ) → t σ H Q
def lDisp (fl : Ev → R (List D)) : Ev → R (List D) := fun ρ => (fl ρ).bind fun ds => if ds.length ≤ sizeLine then .ok ds else .bad
def lList (f : Ev → R D) : Ev → R (List D) := fun ρ => (f ρ).bind fun d => match d with
  | .lst xs => .ok xs
  | .tup xs => .ok xs
  | .scr ns => .ok (ns.map .int)
  | _ => .bad
def sOwn (i : Nat) (f : Ev → R (List D)) : Ev → SO := fun ρ => SO.from ρ (f ρ) fun ds => .nx (ρ.set i (.l ds))
def ownL (ρ : Ev) (i : Nat) : R (List D) := match ρ[i]? with
  | some (.l xs) => .ok xs
  | _ => .bad
def sApp (i : Nat) (f : Ev → R D) : Ev → SO := fun ρ => SO.from ρ (ownL ρ i) fun xs => SO.from ρ (f ρ) fun d => if xs.length < sizeLine then .nx (ρ.set i (.l (xs ++ [d]))) else .bad
section
variable {X : Cx} {ca : Cn} {W : WX} {e o : Expr} {es : List Expr} {f : Ev → R D} {fl : Ev → R (List D)} {pos apos cpos p : Pos}
theorem own_l {K : PySem.W.Frag} {B G H : Hp} {σ : L2.St} {ρ : Ev} {i : Nat} {xs : List D} (h : ownL ρ i = .ok xs) (r : Rel K ca B G H σ ρ) : ρ[i]? = some (.l xs) ∧ ∃ a vs, σ[i]? = some (some (.ref a)) ∧ H a = some (.lst vs) ∧ AtL K ca G xs vs ∧ G a = none ∧ B a = none := by
  unfold ownL at h
  split at h
  · rename_i ys q
    cases h
    obtain ⟨a, h1, ⟨vs, h2, h3⟩, h4, h5⟩ := r.own i _ q rfl
    exact ⟨q, a, vs, h1, h2, h3, h4, h5⟩
  · cases h
theorem fl_lst (h : FA X ca W es fl) : FL X ca W (.List es pos) (lDisp fl) := by
  obtain ⟨t, p, k⟩ := h.ex
  refine ⟨_, pe_lst p, fun B G H σ ρ Q s b r h => ?_⟩
  refine k B G H σ ρ _ s b r (Wish.bind (S := fun G' ds H' => ∀ p vs, H p = none → G' p = none → H' p = some (.lst vs) → AtL X.K ca G' ds vs → Q (.ref p) H') h fun ds G1 H1 _ x1 w1 vs a1 => ?_)
  split at w1
  · rename_i z
    refine ⟨by rw [← a1.length]; exact z, fun q n => w1 G1 (upd H1 q (.lst vs)) ⟨same_upd n, .refl _, x1.gh.trans (same_upd n), fun c z => .inl z⟩ q vs (same_none x1.hh n) (same_none x1.gh n) upd_same a1⟩
  · exact w1.elim
theorem fl_list {x : Str} (hg : Gl X x) (hm : X.mg x = none) (hv : bootBuiltins x = some (.type "list")) (h : FE X ca W e f) (hn : x ≠ "__name__" := by decide) (hd : (x == ("__debug__" : Str)) = false := by decide)
    (he : starEach [e] X.env = (false, eval e X.env) :: starEach [] X.env := by rfl) (hpl : (backTo pos (starEach [] X.env)).any (·.1) = false := by rfl) : FL X ca W (.Call (.Name x p) [e] [] pos) (lList f) := by
  obtain ⟨t, pp, k⟩ := h.ex
  refine ⟨_, pe_callTy call_list_of hg hm hv (pa_cons pp pa_nil he) hn hd he hpl, fun B G H σ ρ Q s b r h => ?_⟩
  refine k B G H σ ρ _ s b r (Wish.bind (S := fun G' ds H' => ∀ p vs, H p = none → G' p = none → H' p = some (.lst vs) → AtL X.K ca G' ds vs → Q (.ref p) H') h fun d G1 H1 _ x1 w1 v a1 => ?_)
  have fin : ∀ {xs : List D} {vs : List V}, Wish X.K ca (fun G' ds H' => ∀ p vs, H p = none → G' p = none → H' p = some (.lst vs) → AtL X.K ca G' ds vs → Q (.ref p) H') G1 H1 (.ok xs) (WE W σ) → AtL X.K ca G1 xs vs → ∀ l, H1 l = none → Q (.ref l) (upd H1 l (.lst vs)) :=
    fun w a l n => w G1 _ ⟨same_upd n, .refl _, x1.gh.trans (same_upd n), fun c z => .inl z⟩ l _ (same_none x1.hh n) (same_none x1.gh n) upd_same a
  cases d with
  | lst xs =>
    obtain ⟨q, vs, rfl, h1, h2⟩ := a1
    exact ⟨q, vs, rfl, .inl (.of (x1.gh _ _ h1)), fin w1 h2⟩
  | tup xs =>
    obtain ⟨q, vs, rfl, h1, h2⟩ := a1
    exact ⟨q, vs, rfl, .inr (tq x1.gh h1), fin w1 h2⟩
  | scr ns =>
    obtain ⟨q, rfl, h1⟩ := a1
    exact ⟨q, _, rfl, .inl (SqL_mono x1.gh h1), fin w1 (AtL.of_ints _)⟩
  | _ => exact w1.elim
theorem fs_own {i : Nat} {y : Str} {pos' : Pos} (hN : X.N.Nodup) (hi : X.N[i]? = some y) (h : FL X ca W e fl) (hx : Loc X.env.scope y := by first | exact .inl rfl | exact .inr rfl) (hs : swapsWith e (some (.Name y pos')) pos.line X.env = pure false := by rfl)
    (hf : X.fn y = true ∨ X.env.scope.names.lookup y = some .local := by first | exact .inl rfl | exact .inr rfl | assumption) : FS X ca W (.Assign [.Name y pos'] e pos) (sOwn i fl) := by
  obtain ⟨t, p, kt⟩ := h.ex
  refine ⟨_, ps_set hN hi hx p hs hf, fun B G H σ ρ D s b r h => kt B G H σ ρ _ s b r ?_⟩
  refine WishS.from h b r fun ds G1 H1 _ x w r1 b1 q vs n g hq av => w _ G1 H1 (.refl x.gh b1) ?_
  exact r.setOwn x i n rfl ⟨vs, hq, av⟩ g (same_none b n)
theorem fs_app {i : Nat} {y : Str} {py : Pos} (hi : X.N[i]? = some y) (h : FE X ca W e f) (hv : Vis X.env.scope y := by first | exact Or.inl rfl | exact Or.inr (Or.inl rfl) | exact Or.inr (Or.inr rfl)) (hd : (y == ("__debug__" : Str)) = false := by decide) (hcd : (y == ("__classdict__" : Str)) = false := by decide)
    (he : starEach [e] X.env = (false, eval e X.env) :: starEach [] X.env := by rfl) (hb : attributeBase (.Name y py) "append" X.env (eval (.Name y py) X.env) = eval (.Name y py) X.env := by rfl) (hw : ((backTo cpos (starEach [e] X.env)).all (fun x => !x.1) && (backToKw cpos (keywordEach [] X.env)).all (fun x => x.1.isSome) && decide ([e].length + ([] : List Keyword).length + (if ([] : List Keyword).isEmpty then 0 else 1) < 30)) = true := by rfl)
    (hl : (apos.endLine == cpos.line) = true := by rfl) (hpl : (backTo cpos (starEach [] X.env)).any (·.1) = false := by rfl)
    (hs : swapsWith (.Call (.Attribute (.Name y py) "append" apos) [e] [] cpos) none pos.line X.env = pure false := by rfl) : FS X ca W (.Expr (.Call (.Attribute (.Name y py) "append" apos) [e] [] cpos) pos) (sApp i f) := by
  obtain ⟨t, p, k⟩ := h.ex
  refine ⟨_, ps_expr (pe_bm PySem.F.plainAttrs_list PySem.F.slot_list_append PySem.F.type_list_append mt_append (pe_var hi hv hd hcd) (pa_cons p pa_nil he) hb hw hl he hpl) hs, fun B G H σ ρ D s b r h => ?_⟩
  unfold sApp at h
  cases z : ownL ρ i with
  | ok xs =>
    rw [z] at h
    obtain ⟨q, a, vs, h1, h2, h3, h4, h5⟩ := own_l z r
    refine ⟨_, h1, .inl ⟨rfl, vs, .of h2⟩, k B G H σ ρ _ s b r (WishS.from h b r fun d G1 H1 _ x w r1 b1 v av => ?_)⟩
    split at w
    · rename_i hl
      have l := h3.length
      refine ⟨a, vs, v, rfl, rfl, x.hh _ _ h2, by omega, ?_⟩
      obtain ⟨t1, t2, t3⟩ := r1.turn x.gh b1 (t' := .l (xs ++ [d])) (o := .lst (vs ++ [v])) q rfl rfl h1 ⟨_, upd_same, (AtL.mono x.gg h3).append (.one av)⟩
      exact w _ G1 _ ⟨.refl _, t2, t3, fun c z => .inl z⟩ t1
    · exact w.elim
  | exc x => rw [z] at h; unfold ownL at z; split at z <;> cases z
  | bad => rw [z] at h; exact h.elim
end
end Tk
namespace Tk
open PySem PySem.Spec L2 PyProof.Rows HT
section
variable {prog : Program} {w : World} {A : Around} {E : Value → Shared → Prop} {s : Shared}
theorem places_rev (n : Nat) : Builtin.Slice.slicePlaces ((n : Int) - 1) (-1) (-1) = n := by
  unfold Builtin.Slice.slicePlaces
  have h1 : ¬ ((-1 : Int) > 0) := by omega
  simp only [h1, if_false]
  have e : -(-1 : Int) = 1 := rfl
  rw [e]
  split
  · rw [Int.ediv_one]; omega
  · omega
theorem pick_rev (xs : Array Value) : ((List.range xs.size).filterMap fun (m : Nat) => xs[(((xs.size : Int) - 1) + (m : Int) * (-1)).toNat]?).toArray = xs.toList.reverse.toArray := by
  have e : (List.range xs.size).filterMap (fun (m : Nat) => xs[(((xs.size : Int) - 1) + (m : Int) * (-1)).toNat]?) = ((List.range xs.size).map fun k => xs.size - 1 - k).filterMap (xs[·]?) := by
    rw [List.filterMap_map]
    have e : ∀ m : Nat, (((xs.size : Int) - 1) + (m : Int) * (-1)).toNat = xs.size - 1 - m := fun m => by omega
    simp only [e]
    rfl
  rw [e, PySem.W.krv_range, List.filterMap_reverse, PySem.W.krv_all]
theorem getItem_tuple_rev {t sl : Addr} {items : Array Value} {vs : Value} {Q : Value → Shared → Prop} (ht : IsTup s.heap t items) (hs : s.heap.IsSliceOf sl .none .none vs) (ps : IsPart vs (some (-1)))
    (h : Q (.ref s.heap.objs.size) { s with heap := s.heap.push { cls := .type "tuple", data := .seq items.toList.reverse.toArray } })
    (hsz : items.size ≤ sizeLine) : wpAny (model prog w) A (getItem (.ref t) (.ref sl)) Q E s := by
  have htake : sizeOk (.seq items.toList.reverse.toArray) := by
    show items.toList.reverse.toArray.size ≤ sizeLine
    rw [List.size_toArray, List.length_reverse, Array.length_toList]
    omega
  obtain ⟨os, hos, hcs, hds⟩ := id hs
  have hTs : s.TypeIs (.ref sl) "slice" := ⟨os, hos, hcs⟩
  unfold getItem
  try with_reducible refine wpAny_holding ?_
  first | refine wpAny_bind (wpAny_pure ?_) | skip
  refine wpAny_bind (wpAny_sequenceKey ht.typeIs (by decide) ?_)
  refine wpAny_bind (wpAny_callSpecial?_slot (name := Str.ofString "__getitem__") ht.typeIs PyProof.Rows.slot_tuple_getitem
    (wpAny_call_entry PyProof.Rows.slot_tuple_getitem ht.typeIs entry_tuple_getitem ?_ (args_tuple_getitem _ _)))
  show wpAny _ _ (Builtin.Tuple.tupleItemsOf (.ref t) >>= _) _ _ s
  refine wpAny_bind (tupleItemsOf_ ht ?_)
  refine wpAny_bind (wpAny_typeOf hTs ?_)
  rw [if_pos (by decide)]
  refine wpAny_bind ?_
  unfold Builtin.Slice.sliceApplied Builtin.Slice.sliceFields
  refine wpAny_bind (wpAny_bind (wpAny_field hos hds (x := .none) rfl (wpAny_bind (wpAny_field hos hds (x := .none) rfl (wpAny_bind (wpAny_field hos hds (x := vs) rfl (wpAny_pure ?_)))))))
  refine wpAny_bind (slicePart_ ps ?_)
  show wpAny _ _ (if ((-1 : Int) == 0) = true then _ else _) _ _ s
  rw [if_neg (by decide)]
  refine wpAny_bind (slicePart_none (wpAny_bind (slicePart_none (wpAny_bind (wpAny_pure ?_)))))
  show wpAny _ _ (pure (((items.size : Int) - 1), (-1 : Int), Builtin.Slice.slicePlaces ((items.size : Int) - 1) (-1) (-1))) _ _ s
  rw [places_rev]
  refine wpAny_pure ?_
  have hno : ¬ (((((items.size : Int) - 1) == 0 && (-1 : Int) == 1) && items.size == items.size) = true) := by
    rw [show ((-1 : Int) == 1) = false by decide]
    simp
  show wpAny _ _ (if (((((items.size : Int) - 1) == 0 && (-1 : Int) == 1) && items.size == items.size) = true) then _ else _) _ _ s
  rw [if_neg hno, pick_rev]
  first
    | exact wpAny_bind (m := Builtin.Tuple.tupleExact _) (wpAny_newObj_type (wpAny_pure ⟨_, rfl, wpAny_pure h⟩) htake)
    | exact wpAny_bind (m := Builtin.Tuple.tupleExact _) (wpAny_newObj_type (wpAny_bind (wpAny_pure (wpAny_pure ⟨_, rfl, wpAny_pure h⟩))) htake)
end
section
variable {X : Cx}
def tRevA (K : PySem.W.Frag) (te : TE) : TE := fun σ H Q => te σ H fun x H1 => (∃ a xs, x = .ref a ∧ SqL K H1 a xs ∧ ∀ p, H1 p = none → Q (.ref p) (upd H1 p (.lst xs.reverse))) ∨ (∃ a xs, x = .ref a ∧ SqT K H1 a xs ∧ ∀ p, H1 p = none → Q (.ref p) (upd H1 p (.tup xs.reverse)))
theorem pe_revA {e : Expr} {te : TE} {k : Nat} {p1 p2 p3 pos : Pos} (he : PE X e te) : PE X (.Subscript e (.Slice none none (some (.UnaryOp .USub (.Constant (.int 1) k p1) p2)) p3) pos) (tRevA X.K te) := by
  refine ⟨fun pins s σ H Q I h => ?_⟩
  refine Subscript_ (thn (he.run pins s σ H _ I h) fun v s1 ⟨x, H1, I1, r1, q1⟩ => ?_)
  have hst : PO X (some (.UnaryOp .USub (.Constant (.int 1) k p1) p2)) (tPart (tUn (rU fun i => .int (-i)) (tC (.int 1)))) := po_some (pe_un un_neg pe_int)
  rcases q1 with ⟨a, xs, ex, hx, q⟩ | ⟨a, xs, ex, hx, q⟩
  · subst ex
    cases r1
    refine wpAny_Slice (thn (po_none.run pins s1 σ H1 (fun o H2 => o = none ∧ H2 = H1) I1 ⟨rfl, rfl⟩) fun vl s2 ⟨l, H2, I2, pl, el, e2⟩ => ?_)
    subst el e2
    refine thn (po_none.run pins s2 σ H2 (fun o H3 => o = none ∧ H3 = H2) I2 ⟨rfl, rfl⟩) fun vu s3 ⟨u, H3, I3, pu, eu, e3⟩ => ?_
    subst eu e3
    refine thn (hst.run pins s3 σ H3 (fun o H4 => o = some (-1) ∧ H4 = H3) I3 ⟨1, rfl, -1, rfl, rfl, rfl⟩) fun vs s4 ⟨o, H4, I4, ps, eo, e4⟩ => ?_
    subst eo e4
    have I5 : Inv X pins σ H4 { s4 with heap := s4.heap.push { cls := .type "slice", data := .fields #[vl, vu, vs] } } := I4.kept (t' := s4.toks) fun b ob q => Heap.get?_push_of_some _ q
    obtain ⟨its, r, ht, hz⟩ := I5.list hx
    have hlen := r.length
    show wpAny (model X.prog X.w) X.A (subscriptTail e (.Slice none none (some (.UnaryOp .USub (.Constant (.int 1) k p1) p2)) p3) (.ref a) (.ref s4.heap.objs.size)) (EP X pins σ Q) X.xe { s4 with heap := s4.heap.push { cls := .type "slice", data := .fields #[vl, vu, vs] } }
    refine tail_any (ops := [.ref a, .ref s4.heap.objs.size]) ht.isList.typeIs (PySem.slot_list_getitem.lookup) ?_ (by with_unfolding_all rfl)
    refine wpAny_getItem_list_slice ht.isList (Heap.IsSliceOf.new _ vl vu vs) pl pu ps (by decide) ?_ (by rw [List.size_toArray]; omega)
    rw [PySem.W.krv_pick]
    refine ⟨.ref _, _, I5.laid (t' := s4.toks) (o := .lst xs.reverse) (fun b ob q => Heap.get?_push_of_some _ q) (Nat.le_refl _) ?_, rfl, q _ (I5.hok.fresh (Nat.le_refl _))⟩
    exact ⟨by rw [List.length_reverse]; exact hz, _, 0, r.reverse, Heap.get?_push_size _ rfl⟩
  · subst ex
    cases r1
    refine wpAny_Slice (thn (po_none.run pins s1 σ H1 (fun o H2 => o = none ∧ H2 = H1) I1 ⟨rfl, rfl⟩) fun vl s2 ⟨l, H2, I2, pl, el, e2⟩ => ?_)
    subst el e2
    refine thn (po_none.run pins s2 σ H2 (fun o H3 => o = none ∧ H3 = H2) I2 ⟨rfl, rfl⟩) fun vu s3 ⟨u, H3, I3, pu, eu, e3⟩ => ?_
    subst eu e3
    refine thn (hst.run pins s3 σ H3 (fun o H4 => o = some (-1) ∧ H4 = H3) I3 ⟨1, rfl, -1, rfl, rfl, rfl⟩) fun vs s4 ⟨o, H4, I4, ps, eo, e4⟩ => ?_
    subst eo e4
    have I5 : Inv X pins σ H4 { s4 with heap := s4.heap.push { cls := .type "slice", data := .fields #[vl, vu, vs] } } := I4.kept (t' := s4.toks) fun b ob q => Heap.get?_push_of_some _ q
    cases pl
    cases pu
    obtain ⟨its, r, ht, hz⟩ := I5.tuple hx
    have hlen := r.length
    show wpAny (model X.prog X.w) X.A (subscriptTail e (.Slice none none (some (.UnaryOp .USub (.Constant (.int 1) k p1) p2)) p3) (.ref a) (.ref s4.heap.objs.size)) (EP X pins σ Q) X.xe { s4 with heap := s4.heap.push { cls := .type "slice", data := .fields #[.none, .none, vs] } }
    refine tail_any (ops := [.ref a, .ref s4.heap.objs.size]) ht.typeIs (PyProof.Rows.slot_tuple_getitem.lookup) ?_ (by with_unfolding_all rfl)
    refine getItem_tuple_rev ht (Heap.IsSliceOf.new _ .none .none vs) ps ?_ (by rw [List.size_toArray]; omega)
    refine ⟨.ref _, _, I5.laid (t' := s4.toks) (o := .tup xs.reverse) (fun b ob q => Heap.get?_push_of_some _ q) (Nat.le_refl _) ?_, rfl, q _ (I5.hok.fresh (Nat.le_refl _))⟩
    exact ⟨by rw [List.length_reverse]; exact hz, _, r.reverse, IsTup.new _ _⟩
end
def gRev : D → R D
  | .lst xs => .ok (.lst xs.reverse)
  | .tup xs => .ok (.tup xs.reverse)
  | _ => .bad
theorem fe_rev {X : Cx} {ca : Cn} {W : WX} {e : Expr} {fa : Ev → R D} {k : Nat} {p1 p2 p3 pos : Pos} (h : FE X ca W e fa) : FE X ca W (.Subscript e (.Slice none none (some (.UnaryOp .USub (.Constant (.int 1) k p1) p2)) p3) pos) (e1 gRev fa) := by
  obtain ⟨t, p, kt⟩ := h.ex
  refine ⟨_, pe_revA p, fun B G H σ ρ Q s b r h => ?_⟩
  refine kt B G H σ ρ _ s b r (Wish.bind h fun d G1 H1 _ x1 w1 v a1 => ?_)
  cases d with
  | lst xs =>
    obtain ⟨q, vs, rfl, h1, h2⟩ := a1
    exact .inl ⟨q, vs, rfl, .of (x1.gh _ _ h1), fun l n => new_lst x1.gh w1 h2.reverse n⟩
  | tup xs =>
    obtain ⟨q, vs, rfl, h1, h2⟩ := a1
    exact .inr ⟨q, vs, rfl, tq x1.gh h1, fun l n => new_tup x1.gh w1 h2.reverse n⟩
  | _ => exact w1.elim
end Tk
namespace Tk
open PySem PySem.Spec L2 PyProof.Rows
def SqB (b : Bool) (K : PySem.W.Frag) (H : Hp) (a : Addr) (xs : List V) : Prop := match b with
  | false => SqL K H a xs
  | true => SqT K H a xs
def ItB (b : Bool) (h : Heap) (it a : Addr) (i : Nat) : Prop := match b with
  | false => h.IsListIter it a i
  | true => h.IsTupleIter it a i
def IsB (b : Bool) (h : Heap) (a : Addr) (items : Array Value) : Prop := match b with
  | false => h.IsList a items
  | true => h.IsTuple a items
def obB (b : Bool) (a : Addr) : Obj := match b with
  | false => { cls := .type "list_iterator", data := .fields #[.ref a, .int 0 0] }
  | true => { cls := .type "tuple_iterator", data := .fields #[.ref a, .int 0 0] }
theorem beginsB (b : Bool) (a : Addr) (items : Array Value) : Begins (.ref a) (obB b a) (fun h => IsB b h a items) := by
  cases b with
  | false => exact begins_list a items
  | true => exact begins_tuple a items
theorem itB0 {b : Bool} {h : Heap} {it a : Addr} (e : h.get? it = some (obB b a)) : ItB b h it a 0 := by
  cases b with
  | false => exact ⟨_, e, rfl, rfl⟩
  | true => exact ⟨_, e, rfl, rfl⟩
theorem ItB.there {b : Bool} {h : Heap} {it a : Addr} {i : Nat} (x : ItB b h it a i) : ∃ o, h.get? it = some o ∧ ∀ v, o.data ≠ .cell v := by
  cases b with
  | false => obtain ⟨o, e, _, d⟩ := x; exact ⟨o, e, fun v q => by rw [d] at q; cases q⟩
  | true => obtain ⟨o, e, _, d⟩ := x; exact ⟨o, e, fun v q => by rw [d] at q; cases q⟩
theorem ItB.move {b : Bool} {h h' : Heap} {it a : Addr} {i : Nat} (x : ItB b h it a i) (k : ∀ o, h.get? it = some o → h'.get? it = some o) : ItB b h' it a i := by
  cases b with
  | false => exact x.at fun o e => k o e
  | true => exact x.at fun o e => k o e
theorem drawsB {P : Program} {w : World} {A : Around} (hh : A.handled = none) (b : Bool) (it a : Addr) (ne : a ≠ it) (items : Array Value) : Draws P w A it [it, a] items.size (fun i v => items[i]? = some v) (fun i h => ItB b h it a i ∧ IsB b h a items) := by
  cases b with
  | false => exact Draws.list hh it a ne items
  | true => exact Draws.tuple hh it a ne items
section
variable {X : Cx} {pins : List (Addr × Obj)} {σ : L2.St} {H : Hp} {s : Shared} {b : Bool} {a : Addr} {xs ys : List V}
theorem inv_sq (I : Inv X pins σ H s) (q : SqB b X.K H a xs) : ∃ its : List Value, Vals xs its ∧ IsB b s.heap a its.toArray := by
  cases b with
  | false => obtain ⟨its, r, p, _⟩ := I.list q; exact ⟨its, r, p.isList⟩
  | true => obtain ⟨its, r, p, _⟩ := I.tuple q; exact ⟨its, r, p⟩
theorem inv_inj (I : Inv X pins σ H s) (q : SqB b X.K H a xs) (q' : SqB b X.K H a ys) : xs = ys := by
  cases b with
  | false => exact I.list_inj q q'
  | true => exact I.tuple_inj q q'
theorem IsB.lt {h : Heap} {items : Array Value} (x : IsB b h a items) : a < h.objs.size := by
  cases b with
  | false => obtain ⟨o, e, _⟩ := x; exact Heap.lt_size e
  | true => obtain ⟨o, e, _⟩ := x; exact Heap.lt_size e
theorem IsB.move {h h' : Heap} {items : Array Value} (x : IsB b h a items) (k : ∀ o, h.get? a = some o → h'.get? a = some o) : IsB b h' a items := by
  cases b with
  | false => exact x.at fun o e => k o e
  | true => exact x.at fun o e => k o e
theorem sq_apart (I : Inv X pins σ H s) (q : SqB b X.K H a xs) {c : Addr} (f : FpOk X pins H c) (hc : ∃ o, s.heap.get? c = some o ∧ o.cls ≠ .type "list" ∧ o.cls ≠ .type "tuple") : a ≠ c := by
  intro e
  subst e
  obtain ⟨its, _, ib⟩ := inv_sq I q
  obtain ⟨o, e, n1, n2⟩ := hc
  cases b with
  | false => obtain ⟨o', e', c', _⟩ := ib; rw [e] at e'; cases e'; exact n1 c'
  | true => obtain ⟨o', e', c', _⟩ := ib; rw [e] at e'; cases e'; exact n2 c'
end
theorem pair_new {P : Program} {w : World} {H : Hp} {h : Heap} {T : Addr} {x y : V} {u v : Value} (ru : RelV x u) (rv : RelV y v) (t : h.IsTuple T #[u, v]) : ObjOk P w (upd H T (.tup [x, y])) h T (.tup [x, y]) := by
  obtain ⟨o, e, c, n, d⟩ := t
  exact ⟨by show 2 ≤ sizeLine; decide, [u, v], .cons ru (.cons rv .nil), o, e, c, n, d⟩
def IteB (b : Bool) (K : PySem.W.Frag) (a : Addr) : It where
  go i H := ∃ xs x, SqB b K H a xs ∧ xs[i]? = some x
  yld i H v H' := ∃ T x, v = .ref T ∧ H T = none ∧ H' = upd H T (.tup [.int (i : Int), x]) ∧ ∀ xs, SqB b K H a xs → xs[i]? = some x
  stop i H := ∃ xs, SqB b K H a xs ∧ xs.length = i
theorem itB_not {b : Bool} {h : Heap} {it a : Addr} {i : Nat} (x : ItB b h it a i) : ∃ o, h.get? it = some o ∧ o.cls ≠ .type "list" ∧ o.cls ≠ .type "tuple" := by
  cases b with
  | false => obtain ⟨o, q, c, _⟩ := x; exact ⟨o, q, by rw [c]; decide +kernel, by rw [c]; decide +kernel⟩
  | true => obtain ⟨o, q, c, _⟩ := x; exact ⟨o, q, by rw [c]; decide +kernel, by rw [c]; decide +kernel⟩
theorem cls_not {h : Heap} {e : Addr} {T : String} {d : Data} {o : Option Addr} {sl : Array (Option Value)} (q : h.get? e = some { cls := .type T, dict := o, data := d, slots := sl }) (h1 : T ≠ "list") (h2 : T ≠ "tuple") : ∃ o, h.get? e = some o ∧ o.cls ≠ .type "list" ∧ o.cls ≠ .type "tuple" :=
  ⟨_, q, ⟨fun z => h1 (Value.type.inj z), fun z => h2 (Value.type.inj z)⟩⟩
theorem turn_enB {P : Program} {w : World} {K : PySem.W.Frag} {elts : List Expr} {kk : Nat} {tpos : Pos} (b : Bool) (a e it : Addr) (hei : e ≠ it) :
    Turn P w K (.Tuple elts kk tpos) (IteB b K a) [e, it] e (fun i h => (∃ old, IsEnum h e it (0 + (i : Int)) old) ∧ ItB b h it a i) where
  mem := List.mem_cons_self
  obj i h st c hc := by
    obtain ⟨⟨old, he⟩, hi⟩ := st
    rcases List.mem_cons.mp hc with z | hc
    · exact ⟨_, z ▸ he, fun v q => Data.noConfusion q⟩
    · rw [List.mem_singleton.mp hc]; exact hi.there
  keep i h h' st k := ⟨let ⟨old, he⟩ := st.1; ⟨old, k e List.mem_cons_self _ he⟩, st.2.move fun o q => k it (List.mem_cons_of_mem _ List.mem_cons_self) o q⟩
  item := by
    intro X hP hw hK hc i pins s σ H E I hf st hg
    subst hP hw hK
    obtain ⟨xs, x, hq, hx⟩ := hg
    obtain ⟨its, rv, ib⟩ := inv_sq I hq
    obtain ⟨u, hu, ru⟩ := rv.get hx
    obtain ⟨⟨old, he⟩, hi⟩ := id st
    have ane : a ≠ e := sq_apart I hq (hf e List.mem_cons_self) (cls_not he (by decide +kernel) (by decide +kernel))
    have ani : a ≠ it := sq_apart I hq (hf it (List.mem_cons_of_mem _ List.mem_cons_self)) (itB_not hi)
    have G := GoesN.enumFrom (prog := X.prog) (w := X.w) (A := X.A) (elts := elts) (x1 := kk) (pos := tpos) 0 (drawsB (P := X.prog) (w := X.w) (A := X.A.in1) (I.ok.hd hc) b it a ani its.toArray) e hei (by simp [hei, Ne.symm ane]) List.mem_cons_self
    have hlen : i < its.toArray.size := by
      have := (List.getElem?_eq_some_iff.mp hu).1
      simpa using this
    have lt : ∀ c ∈ [e, it], c < s.heap.objs.size := fun c hc => by
      rcases List.mem_cons.mp hc with q | q
      · rw [q]; exact Heap.lt_size he
      · rw [List.mem_singleton.mp q]; obtain ⟨o, q, _⟩ := hi.there; exact Heap.lt_size q
    refine wpAny_mono (G.goes i s (fun u' s2 => ∃ x H', Inv X pins σ H' s2 ∧ RelV x u' ∧ (IteB b X.K a).yld i H x H' ∧ ((∃ old, IsEnum s2.heap e it (0 + ((i + 1 : Nat) : Int)) old) ∧ ItB b s2.heap it a (i + 1)) ∧ ∀ b ∈ [e, it], H' b = none) E hlen ⟨⟨old, he⟩, hi, ib⟩ fun v h' tk hY st' kp ht => ?_) (fun _ _ z => z) fun _ _ z => z
    obtain ⟨T, t, u2, ev, hT, hu2, tT⟩ := hY
    have : u2 = u := by simpa [hu] using hu2.symm
    subst this ev
    have new : ObjOk X.prog X.w (upd H T (.tup [.int (i : Int), x])) h' T (.tup [.int (i : Int), x]) := pair_new ⟨t, by rw [Int.zero_add]⟩ ru tT
    refine ⟨.ref T, _, I.turnedNew (t' := tk) (ch := [e, it]) (fun c o hb q => kp c o hb q) hf hT new, rfl, ⟨T, x, rfl, I.hok.fresh hT, rfl, fun zs hz => by rw [inv_inj I hz hq]; exact hx⟩, ⟨st'.1, st'.2.1⟩, fun c hc => ?_⟩
    rw [upd_ne (fun z => by have l := lt c hc; rw [z] at l; exact absurd (Nat.lt_of_lt_of_le l hT) (Nat.lt_irrefl _))]
    exact (hf c hc).1
  done := by
    intro X hP hw hK hc i pins s σ H E I hf st hg
    subst hP hw hK
    obtain ⟨xs, hq, hl⟩ := hg
    obtain ⟨its, rv, ib⟩ := inv_sq I hq
    obtain ⟨⟨old, he⟩, hi⟩ := id st
    have ane : a ≠ e := sq_apart I hq (hf e List.mem_cons_self) (cls_not he (by decide +kernel) (by decide +kernel))
    have ani : a ≠ it := sq_apart I hq (hf it (List.mem_cons_of_mem _ List.mem_cons_self)) (itB_not hi)
    have G := GoesN.enumFrom (prog := X.prog) (w := X.w) (A := X.A) (elts := elts) (x1 := kk) (pos := tpos) 0 (drawsB (P := X.prog) (w := X.w) (A := X.A.in1) (I.ok.hd hc) b it a ani its.toArray) e hei (by simp [hei, Ne.symm ane]) List.mem_cons_self
    have ei : its.toArray.size = i := by rw [List.size_toArray, ← rv.length]; exact hl
    rw [ei] at G
    exact G.stops s _ E ⟨⟨old, he⟩, hi, ib⟩ fun h' tk kp _ => I.turnedL (t' := tk) (ch := [e, it]) kp hf
  self A i s Q E st h := let ⟨⟨_, he⟩, _⟩ := st; wpAny_pyIter_enum he h
set_option maxHeartbeats 1000000 in
theorem enum_newB {v : Value} {o : Obj} {H : Heap → Prop} (B : Begins v o H) :
    Meets (Builtin.«enumerate.__new__» ⟨[.type "enumerate", v], []⟩) (fun _ R s => H s.heap ∧
      R (.ok (.ret (.ref (s.heap.push o).objs.size))) { s with heap := (s.heap.push o).push { cls := .type "enumerate", data := .fields #[.none, .bool false, .ref s.heap.objs.size, rawInt 0, .none, .none] } }) := by
  refine .of_wp fun prog w A R s h => ?_
  obtain ⟨hp, g, d, tk, os⟩ := s
  obtain ⟨h1, h⟩ := h
  have hs := sub_enumerate
  have q : ∀ {A' : Around} {E : Value → Shared → Prop} {Q : Value → Shared → Prop}, Q (.ref hp.objs.size) ⟨hp.push o, g, d, tk, os⟩ → wpAny (model prog w) A' (pyIter v) Q E ⟨hp, g, d, tk, os⟩ := fun z => B.iter prog w _ _ ⟨hp, g, d, tk, os⟩ _ h1 z
  wp_walk using q
  refine wpAny_stack_any fun st => wpAny_pure ?_
  split
  · rename_i c _ _ _ _ _
    cases (c == Value.type "enumerate") <;> (wp_walk using q; exact ⟨_, rfl, h⟩)
  · wp_walk using q
    exact ⟨_, rfl, h⟩
theorem enum_begins1 {prog : Program} {w : World} {A : Around} {E : Value → Shared → Prop} {s : Shared} {v : Value} {o : Obj} {H : Heap → Prop} {Q : Value → Shared → Prop} (B : Begins v o H) (h1 : H s.heap)
    (h : ∀ h', IsEnum h' (s.heap.objs.size + 1) s.heap.objs.size 0 .none → h'.get? s.heap.objs.size = some o → (∀ b o, s.heap.get? b = some o → h'.get? b = some o) → Q (.ref (s.heap.objs.size + 1)) { s with heap := h' }) :
    wpAny (model prog w) A (call (.type "enumerate") [v]) Q E s := by
  refine callType_new F.called_enumerate (by decide) (F.typeCall_enumerate_1 _) (F.newCall_enumerate_1 _) (fun obj => F.args_object_init_2 obj _) F.entry_enumerate_new (enum_newB B) ⟨h1, ?_⟩
  have hz : (s.heap.push o).objs.size = s.heap.objs.size + 1 := Heap.size_push ..
  have he : IsEnum ((s.heap.push o).push { cls := .type "enumerate", data := .fields #[.none, .bool false, .ref s.heap.objs.size, rawInt 0, .none, .none] }) (s.heap.objs.size + 1) s.heap.objs.size 0 .none := by
    have q := Heap.get?_push_size (s.heap.push o) (o := { cls := .type "enumerate", data := .fields #[.none, .bool false, .ref s.heap.objs.size, rawInt 0, .none, .none] }) rfl
    rw [hz] at q
    exact q
  show _ ∧ _
  rw [hz]
  exact ⟨⟨_, he, rfl⟩, h _ he (Heap.get?_push_of_some _ (Heap.get?_push_size _ B.free)) fun b o x => Heap.get?_push_of_some _ (Heap.get?_push_of_some _ x)⟩
def wEnB (b : Bool) (K : PySem.W.Frag) (ta : TA) : TI := fun σ H R => ta σ H fun vs H1 => ∃ a xs, vs = [.ref a] ∧ SqB b K H1 a xs ∧ R (IteB b K a) H1
theorem pi_enB {X : Cx} (b : Bool) {e : Expr} {ta : TA} {p pos tpos : Pos} {elts : List Expr} {kk : Nat} (hg : Gl X "enumerate") (hm : X.mg "enumerate" = none) (ha : PA X [e] ta) (hs : starEach [e] X.env = [(false, eval e X.env)] := by rfl) :
    PI X (.Tuple elts kk tpos) (.Call (.Name "enumerate" p) [e] [] pos) (wEnB b X.K ta) := by
  refine ⟨fun pins s σ H R I h => ?_⟩
  refine Call_ (ld_blt I hg hm boot_enumerate (PyProof.Rows.callWith_type1 (thn (ha.run pos pins s σ H _ I h) fun us s1 ⟨vs, H1, I1, r1, a, xs, ex, hq, q⟩ => ?_) hs rfl))
  subst ex
  obtain ⟨u, rfl, ru⟩ := vals1 r1
  obtain rfl : u = Value.ref a := ru
  obtain ⟨its, rv, ib⟩ := inv_sq I1 hq
  refine enum_begins1 (beginsB b a its.toArray) ib fun h' he hi kp => wpAny_pyIter_enum he ?_
  refine ⟨s1.heap.objs.size + 1, [s1.heap.objs.size + 1, s1.heap.objs.size], _, _, H1, rfl, I1.kept (t' := s1.toks) kp, turn_enB b a (s1.heap.objs.size + 1) s1.heap.objs.size (Nat.succ_ne_self _), ⟨⟨.none, he⟩, itB0 hi⟩, fun c hc => ?_, q⟩
  have le : s1.heap.objs.size ≤ c := by
    rcases List.mem_cons.mp hc with z | z
    · rw [z]; exact Nat.le_succ _
    · rw [List.mem_singleton.mp z]; exact Nat.le_refl _
  exact I1.fpOk le (I1.hok.fresh le)
def ItzB (b c : Bool) (K : PySem.W.Frag) (a1 a2 : Addr) : It where
  go i H := ∃ xs ys x y, SqB b K H a1 xs ∧ SqB c K H a2 ys ∧ xs[i]? = some x ∧ ys[i]? = some y
  yld i H v H' := ∃ T x y, v = .ref T ∧ H T = none ∧ H' = upd H T (.tup [x, y]) ∧ (∀ xs, SqB b K H a1 xs → xs[i]? = some x) ∧ ∀ ys, SqB c K H a2 ys → ys[i]? = some y
  stop i H := ∃ xs ys, SqB b K H a1 xs ∧ SqB c K H a2 ys ∧ min xs.length ys.length = i
structure ZCells (z t o i1 i2 : Addr) : Prop where
  tz : t ≠ z
  oz : o ≠ z
  to : t ≠ o
  t1 : t ≠ i1
  t2 : t ≠ i2
  z1 : z ≠ i1
  z2 : z ≠ i2
  o1 : o ≠ i1
  o2 : o ≠ i2
  i12 : i1 ≠ i2
def ZSt (b c : Bool) (z t o i1 i2 a1 a2 : Addr) (i : Nat) (h : Heap) : Prop := IsZip h z t o .none ∧ IsTupOf2 h t (.ref i1) (.ref i2) ∧ (∃ u v, IsTupOf2 h o u v) ∧ ItB b h i1 a1 i ∧ ItB c h i2 a2 i
theorem zst_there {b c : Bool} {z t o i1 i2 a1 a2 : Addr} {i : Nat} {h : Heap} (x : ZSt b c z t o i1 i2 a1 a2 i h) : ∀ d ∈ [z, t, o, i1, i2], ∃ ob, h.get? d = some ob ∧ ∀ v, ob.data ≠ .cell v := fun d hd => by
  obtain ⟨hz, ht, ⟨u, v, ho⟩, h1, h2⟩ := x
  simp only [List.mem_cons, List.not_mem_nil, or_false] at hd
  rcases hd with q | q | q | q | q
  · exact ⟨_, q ▸ hz, fun v w => Data.noConfusion w⟩
  · exact ⟨_, q ▸ ht, fun v w => Data.noConfusion w⟩
  · exact ⟨_, q ▸ ho, fun v w => Data.noConfusion w⟩
  · exact q ▸ h1.there
  · exact q ▸ h2.there
section
variable {P : Program} {w : World} {b c : Bool} {z t o i1 i2 a1 a2 : Addr} {elts : List Expr} {kk : Nat} {tpos : Pos}
theorem zip_goes {X : Cx} {pins : List (Addr × Obj)} {σ : L2.St} {H : Hp} {s : Shared} {xs ys : List V} {i : Nat} (Z : ZCells z t o i1 i2) (I : Inv X pins σ H s) (hc : X.calm = true) (hf : ∀ d ∈ [z, t, o, i1, i2], FpOk X pins H d) (st : ZSt b c z t o i1 i2 a1 a2 i s.heap) (q1 : SqB b X.K H a1 xs) (q2 : SqB c X.K H a2 ys) :
    ∃ us vs : List Value, Vals xs us ∧ Vals ys vs ∧ IsB b s.heap a1 us.toArray ∧ IsB c s.heap a2 vs.toArray ∧
      GoesN X.prog X.w X.A (.Tuple elts kk tpos) z (z :: t :: o :: ([i1, a1] ++ [i2, a2])) [z, o, i1, i2] (min us.toArray.size vs.toArray.size) (fun i h₀ v h => ∃ T x y, v = .ref T ∧ h₀.objs.size ≤ T ∧ us.toArray[i]? = some x ∧ vs.toArray[i]? = some y ∧ h.IsTuple T #[x, y])
        (fun i h => IsZip h z t o .none ∧ IsTupOf2 h t (.ref i1) (.ref i2) ∧ (∃ u v, IsTupOf2 h o u v) ∧ (ItB b h i1 a1 i ∧ IsB b h a1 us.toArray) ∧ (ItB c h i2 a2 i ∧ IsB c h a2 vs.toArray)) := by
  obtain ⟨us, r1, ib1⟩ := inv_sq I q1
  obtain ⟨vs, r2, ib2⟩ := inv_sq I q2
  obtain ⟨hz, ht, ⟨u, v, ho⟩, h1, h2⟩ := st
  have fz : ∀ {d : Addr}, d ∈ [z, t, o, i1, i2] → FpOk X pins H d := fun {d} m => hf d m
  -- the tuple that zip gives out lies among its cells, and is told apart by what the layer tracks
  have trk : ∀ {b : Bool} {a : Addr} {xs : List V} {d : Addr}, SqB b X.K H a xs → d ∈ [z, o, i1, i2] → a ≠ d := fun {b a xs d} q m e => by
    subst e
    have f := hf a (by simp only [List.mem_cons, List.not_mem_nil, or_false] at m ⊢; rcases m with m | m | m | m <;> simp [m])
    obtain ⟨f0, f1, f2, f3, f4, f5⟩ := f
    cases b with
    | false =>
      rcases q with (q | ⟨_, q⟩) | ⟨ob, its, n, k, _⟩
      · rw [f0] at q; cases q
      · rw [f0] at q; cases q
      · have base := I.ok.mod.kin a ob k
        rcases f3 with x | x
        · exact I.ok.noex a ob base x
        · exact absurd (Nat.lt_of_lt_of_le (Heap.lt_size (I.ok.bs a ob base).1) x) (Nat.lt_irrefl _)
    | true =>
      rcases q with (q | ⟨_, q⟩) | ⟨ob, its, n, k, _⟩
      · rw [f0] at q; cases q
      · rw [f0] at q; cases q
      · have base := I.ok.mod.kin a ob k
        rcases f3 with x | x
        · exact I.ok.noex a ob base x
        · exact absurd (Nat.lt_of_lt_of_le (Heap.lt_size (I.ok.bs a ob base).1) x) (Nat.lt_irrefl _)
  have S : ZipSep2 z t o i1 i2 [i1, a1] [i2, a2] :=
    { TIz := Z.tz, TOz := Z.oz, TITO := Z.to, TIi1 := Z.t1, mem1 := List.mem_cons_self, zf1 := by simp [Z.z1, Ne.symm (trk q1 (d := z) (by simp))], Tf1 := by simp [Z.o1, Ne.symm (trk q1 (d := o) (by simp))],
      TIi2 := Z.t2, mem2 := List.mem_cons_self, zf2 := by simp [Z.z2, Ne.symm (trk q2 (d := z) (by simp))], Tf2 := by simp [Z.o2, Ne.symm (trk q2 (d := o) (by simp))],
      sep1_2 := by simp [Z.i12, Ne.symm (trk q2 (d := i1) (by simp))], sep2_1 := by simp [Ne.symm Z.i12, Ne.symm (trk q1 (d := i2) (by simp))] }
  exact ⟨us, vs, r1, r2, ib1, ib2, GoesN.zip2 S (drawsB (A := X.A.in1) (I.ok.hd hc) b i1 a1 (trk q1 (by simp)) us.toArray) (drawsB (A := X.A.in1) (I.ok.hd hc) c i2 a2 (trk q2 (by simp)) vs.toArray)⟩
theorem turn_zpB {K : PySem.W.Frag} (Z : ZCells z t o i1 i2) : Turn P w K (.Tuple elts kk tpos) (ItzB b c K a1 a2) [z, t, o, i1, i2] z (ZSt b c z t o i1 i2 a1 a2) where
  mem := List.mem_cons_self
  obj i h st := zst_there st
  keep i h h' st k := by
    obtain ⟨hz, ht, ⟨u, v, ho⟩, h1, h2⟩ := st
    exact ⟨k z (by simp) _ hz, k t (by simp) _ ht, ⟨u, v, k o (by simp) _ ho⟩, h1.move fun ob q => k i1 (by simp) ob q, h2.move fun ob q => k i2 (by simp) ob q⟩
  item := by
    intro X hP hw hK hc i pins s σ H E I hf st hg
    subst hP hw hK
    obtain ⟨xs, ys, x, y, q1, q2, hx, hy⟩ := hg
    obtain ⟨us, vs, r1, r2, ib1, ib2, G⟩ := zip_goes (elts := elts) (kk := kk) (tpos := tpos) Z I hc hf st q1 q2
    obtain ⟨u, hu, ru⟩ := r1.get hx
    obtain ⟨v, hv, rv⟩ := r2.get hy
    have hlen : i < min us.toArray.size vs.toArray.size := by
      have l1 := (List.getElem?_eq_some_iff.mp hu).1
      have l2 := (List.getElem?_eq_some_iff.mp hv).1
      simp only [List.size_toArray]
      omega
    obtain ⟨hz, ht, ho, h1, h2⟩ := id st
    refine wpAny_mono (G.goes i s (fun u' s2 => ∃ x H', Inv X pins σ H' s2 ∧ RelV x u' ∧ (ItzB b c X.K a1 a2).yld i H x H' ∧ ZSt b c z t o i1 i2 a1 a2 (i + 1) s2.heap ∧ ∀ d ∈ [z, t, o, i1, i2], H' d = none) E hlen ⟨hz, ht, ho, ⟨h1, ib1⟩, h2, ib2⟩ fun v' h' tk hY st' kp _ => ?_) (fun _ _ q => q) fun _ _ q => q
    obtain ⟨T, u2, v2, ev, hT, hu2, hv2, tT⟩ := hY
    have e1 : u2 = u := by simpa [hu] using hu2.symm
    have e2 : v2 = v := by simpa [hv] using hv2.symm
    subst e1 e2 ev
    refine ⟨.ref T, _, I.turnedNew (t' := tk) (ch := [z, t, o, i1, i2]) (fun d ob hb q => kp d ob (fun m => hb ?_) q) hf hT (pair_new ru rv tT), rfl, ⟨T, x, y, rfl, I.hok.fresh hT, rfl, fun zs hz => by rw [inv_inj I hz q1]; exact hx, fun zs hz => by rw [inv_inj I hz q2]; exact hy⟩, ⟨st'.1, st'.2.1, st'.2.2.1, st'.2.2.2.1.1, st'.2.2.2.2.1⟩, fun d hd => ?_⟩
    · simp only [List.mem_cons, List.not_mem_nil, or_false] at m ⊢
      rcases m with m | m | m | m <;> simp [m]
    · obtain ⟨ob, eo, _⟩ := zst_there st d hd
      rw [upd_ne (fun e => by have l := Heap.lt_size eo; rw [e] at l; exact absurd (Nat.lt_of_lt_of_le l hT) (Nat.lt_irrefl _))]
      exact (hf d hd).1
  done := by
    intro X hP hw hK hc i pins s σ H E I hf st hg
    subst hP hw hK
    obtain ⟨xs, ys, q1, q2, hl⟩ := hg
    obtain ⟨us, vs, r1, r2, ib1, ib2, G⟩ := zip_goes (elts := elts) (kk := kk) (tpos := tpos) Z I hc hf st q1 q2
    obtain ⟨hz, ht, ho, h1, h2⟩ := id st
    have ei : min us.toArray.size vs.toArray.size = i := by rw [List.size_toArray, List.size_toArray, ← r1.length, ← r2.length]; exact hl
    rw [ei] at G
    refine G.stops s _ E ⟨hz, ht, ho, ⟨h1, ib1⟩, h2, ib2⟩ fun h' tk kp _ => I.turnedL (t' := tk) (ch := [z, t, o, i1, i2]) (fun d ob hb q => kp d ob (fun m => hb ?_) q) hf
    simp only [List.mem_cons, List.not_mem_nil, or_false] at m ⊢
    rcases m with m | m | m | m <;> simp [m]
  self A i s Q E st h := wpAny_pyIter_zip st.1 h
end
def wZpB (b c : Bool) (K : PySem.W.Frag) (ta : TA) : TI := fun σ H R => ta σ H fun vs H1 => ∃ a1 a2 xs ys, vs = [.ref a1, .ref a2] ∧ SqB b K H1 a1 xs ∧ SqB c K H1 a2 ys ∧ R (ItzB b c K a1 a2) H1
theorem pi_zpB {X : Cx} (b c : Bool) {e e' : Expr} {ta : TA} {p pos tpos : Pos} {elts : List Expr} {kk : Nat} (hg : Gl X "zip") (hm : X.mg "zip" = none) (ha : PA X [e, e'] ta) (hs : starEach [e, e'] X.env = (false, eval e X.env) :: starEach [e'] X.env := by rfl) (hpl : (backTo pos (starEach [e'] X.env)).any (·.1) = false := by rfl) :
    PI X (.Tuple elts kk tpos) (.Call (.Name "zip" p) [e, e'] [] pos) (wZpB b c X.K ta) := by
  refine ⟨fun pins s σ H R I h => ?_⟩
  refine Call_ (ld_blt I hg hm boot_zip (PyProof.Rows.callWith_type1 (thn (ha.run pos pins s σ H _ I h) fun us s1 ⟨vs, H1, I1, r1, a1, a2, xs, ys, ex, q1, q2, q⟩ => ?_) hs hpl))
  subst ex
  obtain ⟨u, v, rfl, ru, rv⟩ := vals2 r1
  obtain rfl : u = Value.ref a1 := ru
  obtain rfl : v = Value.ref a2 := rv
  obtain ⟨its, _, ib1⟩ := inv_sq I1 q1
  obtain ⟨its2, _, ib2⟩ := inv_sq I1 q2
  refine zip_begins2 (beginsB b a1 its.toArray) (beginsB c a2 its2.toArray) ib1 ib2 fun h' hz ht ho g1 g2 hsz kp => wpAny_pyIter_zip hz ?_
  have Z : ZCells (s1.heap.objs.size + 4) (s1.heap.objs.size + 2) (s1.heap.objs.size + 3) s1.heap.objs.size (s1.heap.objs.size + 1) := by
    constructor <;> (intro q; have q' : (_ : Nat) = _ := q; omega)
  refine ⟨_, _, _, _, H1, rfl, I1.kept (t' := s1.toks) kp, turn_zpB (a1 := a1) (a2 := a2) Z, ⟨hz, ht, ⟨_, _, ho⟩, itB0 g1, itB0 g2⟩, fun d hd => ?_, q⟩
  have le : s1.heap.objs.size ≤ d := by
    simp only [List.mem_cons, List.not_mem_nil, or_false] at hd
    rcases hd with z | z | z | z | z <;> (rw [z]; first | exact Nat.le_add_right _ _ | exact Nat.le_refl _)
  exact I1.fpOk le (I1.hok.fresh le)
def seqD : D → Option (Bool × List D)
  | .lst xs => some (false, xs)
  | .scr ns => some (false, ns.map .int)
  | .tup xs => some (true, xs)
  | .tpz xs => some (true, xs)
  | _ => none
def iEn2 (fa : Ev → R D) : Ev → R (List D) := fun ρ => (fa ρ).bind fun d => (optR (seqD d)).bind fun x => .ok (enumD 0 x.2)
def iZp2 (fa fb : Ev → R D) : Ev → R (List D) := fun ρ => (fa ρ).bind fun a => (fb ρ).bind fun b => (optR (seqD a)).bind fun x => (optR (seqD b)).bind fun y => .ok (zipD x.2 y.2)
section
variable {K : PySem.W.Frag} {ca : Cn} {G0 : Hp}
theorem seqD_at {d : D} {v : V} {x : Bool × List D} (h : At K ca G0 d v) (e : seqD d = some x) : ∃ a vs, v = .ref a ∧ SqB x.1 K G0 a vs ∧ AtL K ca G0 x.2 vs := by
  cases d with
  | lst xs => cases e; obtain ⟨a, vs, e1, h1, h2⟩ := h; exact ⟨a, vs, e1, SqL.of h1, h2⟩
  | scr ns => cases e; obtain ⟨a, e1, h1⟩ := h; exact ⟨a, _, e1, h1, AtL.of_ints ns⟩
  | tup xs => cases e; obtain ⟨a, vs, e1, h1, h2⟩ := h; exact ⟨a, vs, e1, tq (.refl _) h1, h2⟩
  | tpz xs => cases e; obtain ⟨a, o, vs, e1, oo, h1, h2⟩ := h; exact ⟨a, vs, e1, .inl (.inr ⟨o, h1⟩), h2⟩
  | _ => cases e
theorem sqB_mono {b : Bool} {H H' : Hp} {a : Addr} {xs : List V} (s : Same H H') (h : SqB b K H a xs) : SqB b K H' a xs := by
  cases b with
  | false => exact SqL_mono s h
  | true => exact SqT_mono s h
theorem jok_enB {b : Bool} {a : Addr} {ds : List D} {vs : List V} (h : SqB b K G0 a vs) (r : AtL K ca G0 ds vs) : JOk K ca G0 (IteB b K a) (enumD 0 ds) := by
  intro G H s1 s2 i
  have q : SqB b K H a vs := sqB_mono s2 (sqB_mono s1 h)
  refine ⟨fun d e => ?_, fun l => ⟨vs, q, by rw [enumD_len] at l; rw [← r.length]; exact l⟩⟩
  rw [enumD_get] at e
  obtain ⟨d0, e0, e1⟩ := Option.map_eq_some_iff.mp e
  obtain ⟨v, e2, a1⟩ := r.get e0
  refine ⟨⟨vs, v, q, e2⟩, fun x H' y => ?_⟩
  obtain ⟨T, x0, rfl, n, rfl, hx⟩ := y
  have := hx vs q
  rw [e2] at this
  cases this
  subst e1
  refine pair_at s2 n ?_ (At.mono s1 a1)
  rw [Nat.zero_add]
  rfl
theorem jok_zpB {b c : Bool} {a1 a2 : Addr} {ds es : List D} {vs ws : List V} (h : SqB b K G0 a1 vs) (h' : SqB c K G0 a2 ws) (r : AtL K ca G0 ds vs) (r' : AtL K ca G0 es ws) : JOk K ca G0 (ItzB b c K a1 a2) (zipD ds es) := by
  intro G H s1 s2 i
  have q : SqB b K H a1 vs := sqB_mono s2 (sqB_mono s1 h)
  have q' : SqB c K H a2 ws := sqB_mono s2 (sqB_mono s1 h')
  refine ⟨fun d e => ?_, fun l => ⟨vs, ws, q, q', by rw [zipD_len, r.length, r'.length] at l; exact l⟩⟩
  rw [zipD_get] at e
  cases e0 : ds[i]? with
  | none => rw [e0] at e; cases e
  | some d0 =>
    cases e1 : es[i]? with
    | none => rw [e0, e1] at e; cases e
    | some d1 =>
      rw [e0, e1] at e
      cases e
      obtain ⟨v, e2, b1⟩ := r.get e0
      obtain ⟨w, e3, b2⟩ := r'.get e1
      refine ⟨⟨vs, ws, v, w, q, q', e2, e3⟩, fun x H' y => ?_⟩
      obtain ⟨T, x0, y0, rfl, n, rfl, hx, hy⟩ := y
      have z1 := hx vs q
      have z2 := hy ws q'
      rw [e2] at z1
      rw [e3] at z2
      cases z1; cases z2
      exact pair_at s2 n (At.mono s1 b1) (At.mono s1 b2)
end
section
variable {X : Cx} {ca : Cn} {W : WX} {e e' : Expr} {fa fb : Ev → R D} {p pos tpos : Pos} {elts : List Expr} {kk : Nat}
theorem fi_en2 (hg : Gl X "enumerate") (hm : X.mg "enumerate" = none) (h : FE X ca W e fa) (hs : starEach [e] X.env = [(false, eval e X.env)] := by rfl) : FI X ca W (.Tuple elts kk tpos) (.Call (.Name "enumerate" p) [e] [] pos) (iEn2 fa) := by
  obtain ⟨t, p, k⟩ := h.ex
  refine ⟨_, pi_or (pi_enB false hg hm (pa_cons p pa_nil hs) hs) (pi_enB true hg hm (pa_cons p pa_nil hs) hs), fun B G H σ ρ Q s b r h => ?_⟩
  have go : ∀ bb, (∀ d, fa ρ = .ok d → ∀ x, seqD d = some x → x.1 = bb) → wEnB bb X.K (tCons t tNil) σ H Q := fun bb hb => by
    refine k B G H σ ρ _ s b r (Wish.bind h fun d G1 H1 e1 x1 w1 v a1 => ?_)
    obtain ⟨x, ex, w2⟩ := wish_opt w1
    obtain ⟨a, vs, rfl, h1, h2⟩ := seqD_at a1 ex
    have := hb d e1 x ex
    subst this
    exact ⟨a, vs, rfl, sqB_mono x1.gh h1, w2.here x1.gh _ (jok_enB h1 h2)⟩
  cases z : fa ρ with
  | ok d =>
    cases q : seqD d with
    | none => exact .inl (go false fun d' e x ex => by rw [z] at e; cases e; rw [q] at ex; cases ex)
    | some x =>
      obtain ⟨bb, ds⟩ := x
      cases bb with
      | false => exact .inl (go false fun d' e x ex => by rw [z] at e; cases e; rw [q] at ex; cases ex; rfl)
      | true => exact .inr (go true fun d' e x ex => by rw [z] at e; cases e; rw [q] at ex; cases ex; rfl)
  | exc x => exact .inl (go false fun d' e => by rw [z] at e; cases e)
  | bad => exact .inl (go false fun d' e => by rw [z] at e; cases e)
theorem fi_zp2 (hg : Gl X "zip") (hm : X.mg "zip" = none) (h : FE X ca W e fa) (h' : FE X ca W e' fb) (hs : starEach [e, e'] X.env = (false, eval e X.env) :: starEach [e'] X.env := by rfl) (hs' : starEach [e'] X.env = (false, eval e' X.env) :: starEach [] X.env := by rfl)
    (hpl : (backTo pos (starEach [e'] X.env)).any (·.1) = false := by rfl) : FI X ca W (.Tuple elts kk tpos) (.Call (.Name "zip" p) [e, e'] [] pos) (iZp2 fa fb) := by
  obtain ⟨t, pp, k⟩ := h.ex
  obtain ⟨u, q, l⟩ := h'.ex
  have pz := fun b c => pi_zpB (X := X) (p := p) (pos := pos) (elts := elts) (kk := kk) (tpos := tpos) b c hg hm (pa_cons pp (pa_cons q pa_nil hs') hs) hs hpl
  refine ⟨_, pi_or (pi_or (pz false false) (pz false true)) (pi_or (pz true false) (pz true true)), fun B G H σ ρ Q s b r h => ?_⟩
  have go : ∀ bb cc, (∀ d, fa ρ = .ok d → ∀ x, seqD d = some x → x.1 = bb) → (∀ d, fb ρ = .ok d → ∀ x, seqD d = some x → x.1 = cc) → wZpB bb cc X.K (tCons t (tCons u tNil)) σ H Q := fun bb cc hb hb' => by
    refine k B G H σ ρ _ s b r (Wish.bind h fun d G1 H1 e1 x1 w1 v a1 => ?_)
    refine l B G1 H1 σ ρ _ x1.gh (b.trans x1.hh) (r.ext x1) (Wish.bind w1 fun d2 G2 H2 e2 x2 w2 v2 a2 => ?_)
    obtain ⟨x, ex, w2⟩ := wish_opt w2
    obtain ⟨y, ey, w2⟩ := wish_opt w2
    obtain ⟨a, vs, rfl, h1, h2⟩ := seqD_at (At.mono x2.gg a1) ex
    obtain ⟨a', ws, rfl, h3, h4⟩ := seqD_at a2 ey
    have := hb d e1 x ex
    have := hb' d2 e2 y ey
    subst bb cc
    exact ⟨a, a', vs, ws, rfl, sqB_mono x2.gh h1, sqB_mono x2.gh h3, w2.here x2.gh _ (jok_zpB h1 h3 h2 h4)⟩
  have kind : ∀ f : Ev → R D, ∃ bb : Bool, ∀ d, f ρ = .ok d → ∀ x, seqD d = some x → x.1 = bb := fun f => by
    cases z : f ρ with
    | ok d =>
      cases q : seqD d with
      | none => exact ⟨false, fun d' e x ex => by cases e; rw [q] at ex; cases ex⟩
      | some x => exact ⟨x.1, fun d' e y ey => by cases e; rw [q] at ey; cases ey; rfl⟩
    | exc x => exact ⟨false, fun d' e => by cases e⟩
    | bad => exact ⟨false, fun d' e => by cases e⟩
  obtain ⟨bb, hb⟩ := kind fa
  obtain ⟨cc, hc⟩ := kind fb
  cases bb <;> cases cc
  · exact .inl (.inl (go _ _ hb hc))
  · exact .inl (.inr (go _ _ hb hc))
  · exact .inr (.inl (go _ _ hb hc))
  · exact .inr (.inr (go _ _ hb hc))
end
end Tk
namespace Tk
open PySem PySem.Spec L2 PyProof.Rows
def tyD : D → Option String
  | .non => some "NoneType"
  | .bl _ => some "bool"
  | .int _ => some "int"
  | .str _ => some "str"
  | .scr _ => some "list"
  | .lst _ => some "list"
  | .tup _ => some "tuple"
  | .tpz _ => some "tuple"
  | .dK _ => some "dict"
  | _ => none
def gIsi : List D → R D
  | [d, .ty n] => (optR ((tyD d).bind fun t => kitB t n)).bind fun b => .ok (.bl b)
  | _ => .bad
def gIsB (neg : Bool) : D → D → R D
  | .bl a, .bl b => .ok (.bl (if neg then !decide (a = b) else decide (a = b)))
  | _, .bl _ => .ok (.bl neg)
  | _, _ => .bad
section
variable {X : Cx} {ca : Cn}
theorem tyX_of {G H : Hp} (s : Same G H) {d : D} {v : V} {t : String} (a : At X.K ca G d v) (e : tyD d = some t) : TyX X.K H v (.type t) := by
  cases d with
  | non => cases e; cases a; exact .base .non
  | bl b => cases e; cases a; exact .base (.bl b)
  | int b => cases e; cases a; exact .base (.int b)
  | str b => cases e; cases a; exact .base (.str b)
  | scr ns =>
    cases e
    obtain ⟨p, rfl, h⟩ := a
    rcases h with (h | ⟨o, h⟩) | ⟨o, its, n, k, c, _⟩
    · exact .base (.lst (s _ _ h))
    · exact .base (.frz (s _ _ h))
    · exact .kList k c
  | lst xs => cases e; obtain ⟨p, vs, rfl, h, _⟩ := a; exact .base (.lst (s _ _ h))
  | tup xs =>
    cases e
    obtain ⟨p, vs, rfl, h, _⟩ := a
    exact .base (.tup (s p _ h))
  | tpz xs =>
    cases e
    obtain ⟨p, o, vs, rfl, oo, h, _⟩ := a
    exact .fTuple (s _ _ h)
  | dK xs =>
    cases e
    obtain ⟨p, vs, rfl, h, _⟩ := a
    rcases h with h | ⟨o, h⟩
    · exact .base (.dK (s _ _ h))
    · exact .fDict (s _ _ h)
  | _ => cases e
theorem vn_isi : VN X ca (rIsi X.K) gIsi := by
  intro G H W1 xs ds Q s a w
  unfold gIsi at w
  split at w
  · obtain ⟨b, e, w⟩ := wish_opt w
    obtain ⟨t, e1, e2⟩ := Option.bind_eq_some_iff.mp e
    obtain ⟨v, v', rfl, a1, a2⟩ := atl2 a
    cases a2
    exact ⟨v, _, .type t, .type _, b, rfl, .ty _, tyX_of s a1 e1, kit_ty e2, w.here s _ rfl⟩
  · exact w.elim
theorem op_isB : OpR X (compareOp .Is) (fun x y H Q => ∃ b, y = .bl b ∧ Q (.bl (decide (x = .bl b))) H) := by
  intro pins s σ H x y v u Q I rx ry h
  obtain ⟨b, rfl, q⟩ := h
  cases (show u = Value.bool b from ry)
  cases x with
  | bl a =>
    cases (show v = Value.bool a from rx)
    exact wpAny_is_plain rfl (fin_bl I q (by cases a <;> cases b <;> rfl))
  | non => cases (show v = Value.none from rx); exact wpAny_is_plain rfl (fin_bl I q rfl)
  | int i => obtain ⟨t, rfl⟩ := rx; exact wpAny_is_plain rfl (fin_bl I q rfl)
  | str i => obtain ⟨t, rfl⟩ := rx; exact wpAny_is_plain rfl (fin_bl I q rfl)
  | byt i => obtain ⟨t, rfl⟩ := rx; exact wpAny_is_plain rfl (fin_bl I q rfl)
  | flt i => obtain ⟨t, rfl⟩ := rx; exact wpAny_is_plain rfl (fin_bl I q rfl)
  | ref i => cases (show v = Value.ref i from rx); exact wpAny_is_plain rfl (fin_bl I q rfl)
  | ty i => cases (show v = Value.type i from rx); exact wpAny_is_plain rfl (fin_bl I q rfl)
theorem at_bl {a : D} {x : V} {G : Hp} {b : Bool} (h : At X.K ca G a x) (n : ∀ c, a ≠ .bl c) : decide (x = .bl b) = false := by
  cases a with
  | bl c => exact (n c rfl).elim
  | non => cases h; rfl
  | int _ => cases h; rfl
  | str _ => cases h; rfl
  | ty _ => cases h; rfl
  | cl _ => obtain ⟨_, _, rfl⟩ := h; rfl
  | scr _ => obtain ⟨_, rfl, _⟩ := h; rfl
  | lst _ => obtain ⟨_, _, rfl, _⟩ := h; rfl
  | tup _ => obtain ⟨_, _, rfl, _⟩ := h; rfl
  | tpz _ => obtain ⟨_, _, _, rfl, _⟩ := h; rfl
  | tp0 => obtain ⟨_, rfl, _⟩ := h; rfl
  | zK _ => obtain ⟨_, _, _, rfl, _⟩ := h; rfl
  | zT _ => obtain ⟨_, _, _, rfl, _⟩ := h; rfl
  | dK _ => obtain ⟨_, _, rfl, _⟩ := h; rfl
  | dT _ => obtain ⟨_, _, rfl, _⟩ := h; rfl
  | ins _ _ => obtain ⟨_, _, _, _, rfl, _⟩ := h; rfl
theorem v2_isB : V2 X ca (fun x y H Q => ∃ b, y = .bl b ∧ Q (.bl (decide (x = .bl b))) H) (gIsB false) := by
  intro G H W1 x y a b Q s ax ay w
  unfold gIsB at w
  split at w
  · cases ax; cases ay; exact ⟨_, rfl, by rw [dec_VB]; exact w.here s _ rfl⟩
  · rename_i n; cases ay; exact ⟨_, rfl, by rw [at_bl ax fun c e => n c e]; exact w.here s _ rfl⟩
  · exact w.elim
theorem fe_bltn {W : WX} {x : Str} {n : String} {pos : Pos} (hg : Gl X x) (hm : X.mg x = none) (hv : bootBuiltins x = some (.type n)) (hn : x ≠ "__name__" := by decide) (hd : (x == ("__debug__" : Str)) = false := by decide) : FE X ca W (.Name x pos) (eC (.ty n)) :=
  ⟨_, pe_bltn (v := .ty n) hg hm hv rfl hn hd, fun B G H σ ρ Q s b r h => h.here s _ rfl⟩
end
section
variable {X : Cx} {ca : Cn}
end
end Tk
namespace Tk
open PySem PySem.Spec L2 PyProof.Rows
structure BT (mg : Str → Option Value) : Prop where
  len : mg "len" = none
  abs : mg "abs" = none
  int : mg "int" = none
  list : mg "list" = none
  tuple : mg "tuple" = none
  min : mg "min" = none
  max : mg "max" = none
  sum : mg "sum" = none
  all : mg "all" = none
  any : mg "any" = none
  sorted : mg "sorted" = none
  isinstance : mg "isinstance" = none
  range : mg "range" = none
  enumerate : mg "enumerate" = none
  zip : mg "zip" = none
  bool : mg "bool" = none
  str : mg "str" = none
  dict : mg "dict" = none
theorem bb_len : bootBuiltins "len" = some (.builtin "len") := by decide +kernel
theorem bb_abs : bootBuiltins "abs" = some (.builtin "abs") := by decide +kernel
theorem bb_int : bootBuiltins "int" = some (.type "int") := by decide +kernel
theorem bb_bool : bootBuiltins "bool" = some (.type "bool") := by decide +kernel
theorem bb_str : bootBuiltins "str" = some (.type "str") := by decide +kernel
theorem bb_dict : bootBuiltins "dict" = some (.type "dict") := by decide +kernel
theorem bb_list : bootBuiltins "list" = some (.type "list") := by decide +kernel
theorem bb_tuple : bootBuiltins "tuple" = some (.type "tuple") := by decide +kernel
theorem bb_min : bootBuiltins "min" = some (.builtin "min") := by decide +kernel
theorem bb_all : bootBuiltins "all" = some (.builtin "all") := by decide +kernel
theorem bb_isinstance : bootBuiltins "isinstance" = some (.builtin "isinstance") := by decide +kernel
section
variable {X : Cx} {ca : Cn} {W : WX} {e e' : Expr} {es : List Expr} {fl : Ev → R (List D)} {p pos : Pos}
structure Nm (X : Cx) (x : Str) (e : Expr) (es : List Expr) (pos : Pos) : Prop where
  g : Gl X x
  h : starEach (e :: es) X.env = (false, eval e X.env) :: starEach es X.env
  p : (backTo pos (starEach es X.env)).any (·.1) = false
theorem fe_len (T : BT X.mg) (ha : FA X ca W (e :: es) fl) (n : Nm X "len" e es pos := by exact ⟨rfl, rfl, rfl⟩) : FE X ca W (.Call (.Name "len" p) (e :: es) [] pos) (eA gLen fl) := fe_blt call_len vn_len n.g T.len bb_len ha (by decide) (by decide) n.h n.p
theorem fe_abs (T : BT X.mg) (ha : FA X ca W (e :: es) fl) (n : Nm X "abs" e es pos := by exact ⟨rfl, rfl, rfl⟩) : FE X ca W (.Call (.Name "abs" p) (e :: es) [] pos) (eA gAbs fl) := fe_blt call_abs vn_abs n.g T.abs bb_abs ha (by decide) (by decide) n.h n.p
theorem fe_intc (T : BT X.mg) (ha : FA X ca W (e :: es) fl) (n : Nm X "int" e es pos := by exact ⟨rfl, rfl, rfl⟩) : FE X ca W (.Call (.Name "int" p) (e :: es) [] pos) (eA gInt fl) := fe_bty call_int1 vn_int n.g T.int bb_int ha (by decide) (by decide) n.h n.p
theorem fe_listc (T : BT X.mg) (ha : FA X ca W (e :: es) fl) (n : Nm X "list" e es pos := by exact ⟨rfl, rfl, rfl⟩) : FE X ca W (.Call (.Name "list" p) (e :: es) [] pos) (eA gList fl) := fe_bty call_list_of vn_list n.g T.list bb_list ha (by decide) (by decide) n.h n.p
theorem fe_tuplec (T : BT X.mg) (ha : FA X ca W (e :: es) fl) (n : Nm X "tuple" e es pos := by exact ⟨rfl, rfl, rfl⟩) : FE X ca W (.Call (.Name "tuple" p) (e :: es) [] pos) (eA gTuple fl) := fe_bty call_tuple_of vn_tuple n.g T.tuple bb_tuple ha (by decide) (by decide) n.h n.p
theorem fe_all (T : BT X.mg) (ha : FA X ca W (e :: es) fl) (hc : X.calm = true := by rfl) (n : Nm X "all" e es pos := by exact ⟨rfl, rfl, rfl⟩) : FE X ca W (.Call (.Name "all" p) (e :: es) [] pos) (eA gAll fl) := fe_blt (cr_all hc) vn_all n.g T.all bb_all ha (by decide) (by decide) n.h n.p
theorem fe_isi (T : BT X.mg) (ha : FA X ca W (e :: es) fl) (n : Nm X "isinstance" e es pos := by exact ⟨rfl, rfl, rfl⟩) : FE X ca W (.Call (.Name "isinstance" p) (e :: es) [] pos) (eA gIsi fl) := fe_blt call_isi vn_isi n.g T.isinstance bb_isinstance ha (by decide) (by decide) n.h n.p
theorem fe_ty_int (T : BT X.mg) (hg : Gl X "int" := by rfl) : FE X ca W (.Name "int" pos) (eC (.ty "int")) := fe_bltn hg T.int bb_int (by decide) (by decide)
theorem fe_ty_bool (T : BT X.mg) (hg : Gl X "bool" := by rfl) : FE X ca W (.Name "bool" pos) (eC (.ty "bool")) := fe_bltn hg T.bool bb_bool (by decide) (by decide)
theorem fe_ty_str (T : BT X.mg) (hg : Gl X "str" := by rfl) : FE X ca W (.Name "str" pos) (eC (.ty "str")) := fe_bltn hg T.str bb_str (by decide) (by decide)
theorem fe_ty_list (T : BT X.mg) (hg : Gl X "list" := by rfl) : FE X ca W (.Name "list" pos) (eC (.ty "list")) := fe_bltn hg T.list bb_list (by decide) (by decide)
theorem fe_ty_tuple (T : BT X.mg) (hg : Gl X "tuple" := by rfl) : FE X ca W (.Name "tuple" pos) (eC (.ty "tuple")) := fe_bltn hg T.tuple bb_tuple (by decide) (by decide)
end
def Glb (mg : Str → Option Value) (x : Str) (d : D) : Prop := ∃ u, mg x = some u ∧ RelV (toV d) u ∧ flatD d = true
theorem fe_glb {X : Cx} {ca : Cn} {W : WX} {x : Str} {d : D} {pos : Pos} (h : Glb X.mg x d) (hg : Gl X x := by rfl) (hd : (x == ("__debug__" : Str)) = false := by decide) : FE X ca W (.Name x pos) (eC d) := by
  obtain ⟨u, h1, h2, h3⟩ := h
  exact fe_glob hg h1 h2 (fun G => by cases d <;> first | rfl | cases h3) hd
end Tk
namespace Tk
open PySem PySem.Spec L2 PyProof.Rows
def pickI {α : Type} : List Nat → List α → List α
  | [], _ => []
  | i :: is, l => match l[i]? with
    | some a => a :: pickI is l
    | none => pickI is l
theorem pick_vals {vs : List V} {us : List Value} (h : Vals vs us) : ∀ is : List Nat, Vals (pickI is vs) (pickI is us)
  | [] => .nil
  | i :: is => by
    unfold pickI
    cases e : vs[i]? with
    | none => rw [h.none_of e]; exact pick_vals h is
    | some x =>
      obtain ⟨u, e2, r⟩ := h.get e
      rw [e2]
      exact .cons r (pick_vals h is)
theorem pick_at {K : PySem.W.Frag} {ca : Cn} {G : Hp} {ds : List D} {vs : List V} (h : AtL K ca G ds vs) : ∀ is : List Nat, AtL K ca G (pickI is ds) (pickI is vs)
  | [] => rfl
  | i :: is => by
    unfold pickI
    cases e : ds[i]? with
    | none =>
      have e2 : vs[i]? = none := by rw [List.getElem?_eq_none_iff] at e ⊢; rw [← h.length]; exact e
      rw [e2]
      exact pick_at h is
    | some d =>
      obtain ⟨v, e2, a⟩ := h.get e
      rw [e2]
      exact ⟨v, _, rfl, a, pick_at h is⟩
def gDk (is : List Nat) (mid : List D) : List D → List D → List D := fun ds zs => pickI is (ds ++ (mid ++ zs))
theorem flat_at {K : PySem.W.Frag} {ca : Cn} {G : Hp} {d : D} (h : flatD d = true) : At K ca G d (toV d) := by
  cases d <;> first | rfl | cases h
theorem flats_at {K : PySem.W.Frag} {ca : Cn} {G : Hp} : ∀ {ds : List D}, ds.all flatD = true → AtL K ca G ds (ds.map toV)
  | [], _ => rfl
  | d :: ds, h => by
    rw [List.all_cons, Bool.and_eq_true] at h
    exact ⟨_, _, rfl, flat_at h.1, flats_at h.2⟩
abbrev kwV (kd : List (Str × D)) : List (Str × V) := kd.map fun q => (q.1, toV q.2)
section
variable {K : PySem.W.Frag} {ca : Cn} {x qual : Str} {params : Arguments} {body : List Stmt} {scope : Scope} {dd : List D} {kd : List (Str × D)} {f : Addr} {fd : FuncData} {ps : List Str}
theorem kb_of {n : Nat} {ks : List Str} {is : List Nat} {mid : List D} {its : List Value} (hm : mid.all flatD = true) (hv : Vals (mid.map toV) its)
    (to : ∀ (s : Shared) (us ws : List Value), K.In s.heap → us.length = n → ws.length = ks.length → BindsTo s fd ⟨us, ks.zip ws⟩ (ps.zip (pickI is (us ++ (its ++ ws))))) : KB K ca fd ps n ks (gDk is mid) :=
  ⟨fun us ws => pickI is (us ++ (its ++ ws)), fun vs zs => pickI is (vs ++ (mid.map toV ++ zs)), ⟨to, fun r1 r2 => pick_vals (r1.append (hv.append r2)) is⟩, fun G ds vs zs ws a b => pick_at (a.append ((flats_at hm).append b)) is⟩
theorem kb_n (F : FunD K x qual params body scope [] (kwV kd) f fd) (n : Nat) (ks : List Str) (is : List Nat)
    (h : ∀ (kV doc pm : Value) (an : Option Addr) (cdv ct : Value) (us ws : List Value), us.length = n → ws.length = ks.length → bindArgs (PySem.W.fnOf x qual params body scope .none kV doc pm an cdv ct) ⟨us, ks.zip ws⟩ = pure (ps.zip (pickI is (us ++ ws)))) : KB K ca fd ps n ks (gDk is []) := by
  obtain ⟨oc, od, dV, kV, doc, pm, an, cdv, ct, osl, rfl, lk, hcd, hD, hK⟩ := F.ex
  rcases hD with ⟨_, rfl⟩ | ⟨e, _⟩
  · exact kb_of rfl .nil fun s us ws _ l1 l2 => BindsTo.of_eq (h kV doc pm an cdv ct us ws l1 l2)
  · exact absurd rfl e
theorem kb_k (F : FunD K x qual params body scope [] (kwV kd) f fd) (n : Nat) (ks : List Str) (is : List Nat) (ms : List (Str × D)) (hk : kd ≠ []) (hms : ∀ q ∈ kwV ms, q ∈ kwV kd) (hf : (ms.map (·.2)).all flatD = true)
    (h : ∀ (D : Addr) (doc pm : Value) (an : Option Addr) (cdv ct : Value) (us mv ws : List Value), us.length = n → mv.length = ms.length → ws.length = ks.length →
      KwChain D ((ms.map (·.1)).zip mv) (bindArgs (PySem.W.fnOf x qual params body scope .none (.ref D) doc pm an cdv ct) ⟨us, ks.zip ws⟩) (ps.zip (pickI is (us ++ (mv ++ ws))))) : KB K ca fd ps n ks (gDk is (ms.map (·.2))) := by
  obtain ⟨oc, od, dV, kV, doc, pm, an, cdv, ct, osl, rfl, lk, hcd, hD, hK⟩ := F.ex
  rcases hD with ⟨_, rfl⟩ | ⟨e, _⟩
  · rcases hK with e | ⟨D, rfl, hq⟩
    · exact absurd (List.map_eq_nil_iff.mp e) hk
    · obtain ⟨mv, hl, rk, hks⟩ := kwd_vals (ms := kwV ms) fun q hm => hq q (hms q hm)
      rw [List.length_map] at hl
      have e1 : (kwV ms).map (·.1) = ms.map (·.1) := by rw [List.map_map]; rfl
      have e2 : (kwV ms).map (·.2) = (ms.map (·.2)).map toV := by rw [List.map_map, List.map_map]; rfl
      rw [e1] at hks
      rw [e2] at rk
      exact kb_of hf rk fun s us ws X l1 l2 => BindsTo.of_looks fun M => KwChain.looks X hks (h D doc pm an cdv ct us mv ws l1 hl l2)
  · exact absurd rfl e
end
theorem FunD.same {K : PySem.W.Frag} {x x' q q' : Str} {pa pa' : Arguments} {bd bd' : List Stmt} {sc sc' : Scope} {dv dv' : List V} {kw kw' : List (Str × V)} {f : Addr} {fd fd' : FuncData} (F : FunD K x q pa bd sc dv kw f fd) (F' : FunD K x' q' pa' bd' sc' dv' kw' f fd') : fd = fd' := by
  obtain ⟨oc, od, dV, kV, doc, pm, an, cdv, ct, osl, e1, lk, _⟩ := F.ex
  obtain ⟨oc', od', dV', kV', doc', pm', an', cdv', ct', osl', e1', lk', _⟩ := F'.ex
  rw [lk] at lk'
  injection lk' with h
  injection h with h1 h2 h3 h4
  injection h3
abbrev FD (K : PySem.W.Frag) (x qual : Str) (st : Stmt) (dd : List D) (kd : List (Str × D)) (f : Addr) (fd : FuncData) : Prop := FunD K x qual (defArgs st) (defBody st) (defScope st) (dd.map toV) (kwV kd) f fd
structure FnAt (K : PySem.W.Frag) (mg : Str → Option Value) (x : Str) (st : Stmt) (dd : List D) (kd : List (Str × D)) : Prop where
  ex : ∃ f fd, FD K x x st dd kd f fd ∧ mg x = some (.ref f)
structure DefA (P : Program) (w : World) (K : PySem.W.Frag) (mg : Str → Option Value) (base : Heap) (ca : Cn) (k : Nat) (x : Str) (st : Stmt) (dd : List D) (kd : List (Str × D)) (ps : List Str) (F : List D → R D) : Prop where
  ex : ∃ f fd, FnOk P w K mg base (L2.CX P w) k f fd ps (spF K ca ps.length F) ∧ mg x = some (.ref f) ∧ FD K x x st dd kd f fd
section
variable {P : Program} {w : World} {K : PySem.W.Frag} {mg : Str → Option Value} {base : Heap} {ca : Cn} {x : Str} {st : Stmt} {dd : List D} {kd : List (Str × D)} {ps N : List Str} {k : Nat} {g : Ev → SO}
theorem DefA.of (h : FnAt K mg x st dd kd) (S : FnScope N ps (defScope st)) (hb : ∀ (f : Addr) (cdv : Value) (A : Around) (outer : List Env) (s : Shared) (H : Hp) (E : XK), Room k (A.deeper (envOfC x (defScope st) s.heap.objs.size f cdv)) →
      FSs (cxOf (L2.CX P w) P w K mg base N x (defScope st) f cdv A outer s H E) ca (fun c d _ H' => E c d H') (defBody st) g) : DefA P w K mg base ca (k + 1) x st dd kd ps (runF N.length g) := by
  obtain ⟨f, fd, F, hm⟩ := h.ex
  exact ⟨f, fd, fn_okD F S (hb f), hm, F⟩
end
section
variable {X : Cx} {ca : Cn} {W : WX} {k j n : Nat} {x : Str} {st : Stmt} {dd : List D} {kd : List (Str × D)} {ps ks : List Str} {Fn : List D → R D} {p pos : Pos} {e : Expr} {es : List Expr} {kws : List Keyword} {fa fk : Ev → R (List D)} {gD : List D → List D → List D}
theorem fe_a (d : DefA X.prog X.w X.K X.mg X.base ca k x st dd kd ps Fn) (hb : ∀ {f fd}, FD X.K x x st dd kd f fd → Binds X.K fd ps []) (hr : Room j X.A) (tk : Takes X W) (ha : FA X ca W (e :: es) fa) (hk : k ≤ j := by decide) (hg : Gl X x := by rfl) (hdb : (x == ("__debug__" : Str)) = false := by decide)
    (he : starEach (e :: es) X.env = (false, eval e X.env) :: starEach es X.env := by rfl) (hpl : (backTo pos (starEach es X.env)).any (·.1) = false := by rfl) : FE X ca W (.Call (.Name x p) (e :: es) [] pos) (eCall ps.length Fn fa) := by
  obtain ⟨f, fd, F, h1, h2⟩ := d.ex
  exact fe_call F (hr.mono hk) tk hg h1 h2.kp (hb h2) ha hdb he hpl
theorem fe_ak (d : DefA X.prog X.w X.K X.mg X.base ca k x st dd kd ps Fn) (hb : ∀ {f fd}, FD X.K x x st dd kd f fd → KB X.K ca fd ps n ks gD) (hr : Room j X.A) (tk : Takes X W) (ha : FA X ca W (e :: es) fa) (hkw : FK X ca W kws fk) (hk : k ≤ j := by decide) (hg : Gl X x := by rfl)
    (hall : (backToKw pos (keywordEach kws X.env)).all (·.1.isSome) = true := by rfl) (hks : (backToKw pos (keywordEach kws X.env)).filterMap (·.1) = ks := by rfl) (hdb : (x == ("__debug__" : Str)) = false := by decide)
    (he : starEach (e :: es) X.env = (false, eval e X.env) :: starEach es X.env := by rfl) (hpl : ((backTo pos (starEach (e :: es) X.env)).any (·.1) || (backToKw pos (keywordEach kws X.env)).any (·.1.isNone)) = false := by rfl) :
    FE X ca W (.Call (.Name x p) (e :: es) kws pos) (eCallK n ks.length ps.length Fn gD fa fk) := by
  obtain ⟨f, fd, F, h1, h2⟩ := d.ex
  exact fe_callK F (hr.mono hk) tk hg h1 h2.kp (hb h2) ha hkw hall hks hdb he hpl
end
structure Says (fa : List He.Fa) (fn : List He.DefD) (K : PySem.W.Frag) (mg : Str → Option Value) : Prop where
  h : ∃ hp : Heap, K.In hp ∧ hp.Ns mainGlobals mg
  c : He.SaysD fa fn K
def dvD : D → He.Dv
  | .non => .non
  | .bl b => .bl b
  | .int i => .int i
  | .str s => .str s
  | _ => .non
def dfD (p : Str × Option Str) (x qual : Str) (st : Stmt) (dd : List D) (kd : List (Str × D)) : He.DefD := ⟨p, x, qual, defArgs st, defBody st, defScope st, dd.map dvD, kd.map fun q => (q.1, dvD q.2)⟩
theorem dv_eq {K : PySem.W.Frag} {d : D} (h : flatD d = true) : (dvD d).v K = toV d := by
  cases d <;> first | rfl | cases h
section
variable {fa : List He.Fa} {fn : List He.DefD} {K : PySem.W.Frag} {mg : Str → Option Value} {x : Str} {st : Stmt} {dd : List D} {kd : List (Str × D)}
theorem Says.fd (T : Says fa fn K mg) (i : Nat) {p : Str × Option Str} {q : Str} (hi : fn[i]? = some (dfD p x q st dd kd)) (h1 : dd.all flatD = true) (h2 : (kd.map (·.2)).all flatD = true) : ∃ fd, FD K x q st dd kd (He.fAd K p) fd := by
  obtain ⟨fd, F⟩ := T.c.def_ i hi
  have e1 : He.DefD.dvs K (dfD p x q st dd kd) = dd.map toV := by
    show (dd.map dvD).map (He.Dv.v K) = _
    rw [List.map_map]
    exact List.map_congr_left fun d m => dv_eq (List.all_eq_true.mp h1 d m)
  have e2 : He.DefD.kws K (dfD p x q st dd kd) = kwV kd := by
    show (kd.map fun q => (q.1, dvD q.2)).map (fun q => (q.1, q.2.v K)) = _
    rw [List.map_map]
    refine List.map_congr_left fun d m => ?_
    show (d.1, (dvD d.2).v K) = (d.1, toV d.2)
    rw [dv_eq (List.all_eq_true.mp h2 d.2 (List.mem_map.mpr ⟨d, m, rfl⟩))]
  rw [e1, e2] at F
  exact ⟨fd, F⟩
theorem Says.dfn (T : Says fa fn K mg) (j i : Nat) (hj : fa[j]? = some (.glo x) := by rfl) (hi : fn[i]? = some (dfD (x, none) x x st dd kd) := by rfl) (h1 : dd.all flatD = true := by rfl) (h2 : (kd.map (·.2)).all flatD = true := by rfl) : FnAt K mg x st dd kd := by
  obtain ⟨hp, X, G⟩ := T.h
  obtain ⟨fd, F⟩ := T.fd i hi h1 h2
  exact ⟨He.fAd K (x, none), fd, F, He.glo_ok X G (T.c.fact j hj)⟩
theorem Says.free (T : Says fa fn K mg) (j : Nat) (hj : fa[j]? = some (.free x) := by rfl) : mg x = none := by
  obtain ⟨hp, X, G⟩ := T.h
  exact He.free_ok X G (T.c.fact j hj)
theorem Says.int (T : Says fa fn K mg) (j : Nat) {i : Int} (hj : fa[j]? = some (.int x i) := by rfl) : Glb mg x (.int i) := by
  obtain ⟨hp, X, G⟩ := T.h
  obtain ⟨t, h⟩ := He.int_ok X G (T.c.fact j hj)
  exact ⟨_, h, ⟨t, rfl⟩, rfl⟩
theorem Says.str (T : Says fa fn K mg) (j : Nat) {z : Str} (hj : fa[j]? = some (.str x z) := by rfl) : Glb mg x (.str z) := by
  obtain ⟨hp, X, G⟩ := T.h
  obtain ⟨t, h⟩ := He.str_ok X G (T.c.fact j hj)
  exact ⟨_, h, ⟨t, rfl⟩, rfl⟩
end
def faB : List He.Fa := [.free "len", .free "abs", .free "int", .free "list", .free "tuple", .free "min", .free "max", .free "sum", .free "all", .free "any", .free "sorted", .free "isinstance", .free "range", .free "enumerate", .free "zip", .free "bool", .free "str", .free "dict"]
theorem Says.bt {fa : List He.Fa} {fn : List He.DefD} {K : PySem.W.Frag} {mg : Str → Option Value} (T : Says (faB ++ fa) fn K mg) : BT mg :=
  ⟨T.free 0, T.free 1, T.free 2, T.free 3, T.free 4, T.free 5, T.free 6, T.free 7, T.free 8, T.free 9, T.free 10, T.free 11, T.free 12, T.free 13, T.free 14, T.free 15, T.free 16, T.free 17⟩
end Tk
namespace Tk
open PySem PySem.Spec L2 PyProof.Rows
def MutR (K : PySem.W.Frag) (ca : Cn) (r : V → List V → Hp → VK → Prop) (g : List D → List D → Option (List D)) : Prop :=
  ∀ (G H : Hp) (l : Addr) (xs ds xs' : List D) (vs ys : List V) (Q : VK), Same G H → H l = some (.lst vs) → AtL K ca G xs vs → AtL K ca G ds ys → g xs ds = some xs' → (∀ vs', AtL K ca G xs' vs' → Q .non (upd H l (.lst vs'))) → r (.ref l) ys H Q
def sMut (i : Nat) (g : List D → List D → Option (List D)) (fl : Ev → R (List D)) : Ev → SO := fun ρ => SO.from ρ (ownL ρ i) fun xs => SO.from ρ (fl ρ) fun ds => match g xs ds with
  | some xs' => .nx (ρ.set i (.l xs'))
  | none => .bad
def mRev (xs : List D) (ds : List D) : Option (List D) := match ds with
  | [] => some xs.reverse
  | _ => none
theorem mut_rev {K : PySem.W.Frag} {ca : Cn} : MutR K ca rReverse mRev := fun G H l xs ds xs' vs ys Q s h a b e q => by
  unfold mRev at e
  split at e
  · cases e; cases b; exact ⟨l, vs, rfl, rfl, h, q _ a.reverse⟩
  · cases e
section
variable {X : Cx} {ca : Cn} {W : WX} {e : Expr} {es : List Expr} {fl : Ev → R (List D)} {pos apos cpos py : Pos} {i : Nat} {y m : Str} {id : String} {r : V → List V → Hp → VK → Prop} {g : List D → List D → Option (List D)}
theorem fs_mut0 (slot : Slot "list" m id) (hty : typeOf (.builtin id) = pure (.type "method_descriptor")) (hm : MtR X id r) (hg : MutR X.K ca r g) (hi : X.N[i]? = some y)
    (hv : Vis X.env.scope y := by first | exact Or.inl rfl | exact Or.inr (Or.inl rfl) | exact Or.inr (Or.inr rfl)) (hd : (y == ("__debug__" : Str)) = false := by decide) (hcd : (y == ("__classdict__" : Str)) = false := by decide)
    (hb : attributeBase (.Name y py) m X.env (eval (.Name y py) X.env) = eval (.Name y py) X.env := by rfl) (hl : (apos.endLine == cpos.line) = true := by rfl)
    (hs : swapsWith (.Call (.Attribute (.Name y py) m apos) [] [] cpos) none pos.line X.env = pure false := by rfl) : FS X ca W (.Expr (.Call (.Attribute (.Name y py) m apos) [] [] cpos) pos) (sMut i g aN) := by
  refine ⟨_, ps_expr (pe_bm0 PySem.F.plainAttrs_list slot hty hm (pe_var hi hv hd hcd) hb hl) hs, fun B G H σ ρ D s b r h => ?_⟩
  unfold sMut at h
  cases z : ownL ρ i with
  | ok xs =>
    rw [z] at h
    obtain ⟨q, a, vs, h1, h2, h3, h4, h5⟩ := own_l z r
    refine ⟨_, h1, .inl ⟨rfl, vs, .of h2⟩, ?_⟩
    have w : WishS X.K ca B G (match g xs [] with | some xs' => .nx (ρ.set i (.l xs')) | none => .bad) D W := h
    split at w
    · rename_i xs' hx
      refine hg G H a xs [] xs' vs [] _ s h2 h3 rfl hx fun vs' a' => ?_
      obtain ⟨t1, t2, t3⟩ := r.turn s b (t' := .l xs') (o := .lst vs') q rfl rfl h1 ⟨_, upd_same, a'⟩
      exact w _ G _ ⟨.refl _, t2, t3, fun c z => .inl z⟩ t1
    · exact w.elim
  | exc x => unfold ownL at z; split at z <;> cases z
  | bad => rw [z] at h; exact h.elim
end
def sPop (i : Nat) : Ev → SO := fun ρ => SO.from ρ (ownL ρ i) fun xs => if xs.length = 0 then .bad else .nx (ρ.set i (.l xs.dropLast))
theorem AtL.dropLast {K : PySem.W.Frag} {ca : Cn} {G : Hp} : ∀ {ds : List D} {vs : List V}, AtL K ca G ds vs → AtL K ca G ds.dropLast vs.dropLast
  | ds, vs, h => by rw [List.dropLast_eq_take, List.dropLast_eq_take, ← h.length]; exact h.take _
end Tk
namespace Tk
open PySem PySem.Spec L2 PyProof.Rows
theorem hu64 {A : Around} {k : Nat} (hr : Room k A) : A.units + 64 < cLine := by have := hr.un; omega
theorem hu65 {A : Around} {k : Nat} (hr : Room k A) : A.units + 65 < cLine := by have := hr.un; omega
end Tk
namespace Tk
open PySem PySem.Spec L2 PyProof.Rows
def keyD : D → Option Key
  | .int i => some (.inl i)
  | .str z => some (.inr z)
  | _ => none
def keysD : List D → Option (List Key)
  | [] => some []
  | d :: r => match keyD d, keysD r with
    | some k, some ks => some (k :: ks)
    | _, _ => none
def keyT : D → Option (List Key)
  | .tup r => keysD r
  | _ => none
def getG {κ α : Type} [DecidableEq κ] (kvs : List (κ × α)) (k : κ) : Option α := (kvs.find? fun kv => decide (kv.1 = k)).map (·.2)
def putG {κ α : Type} [DecidableEq κ] (kvs : List (κ × α)) (k : κ) (v : α) : List (κ × α) :=
  if (kvs.any fun kv => decide (kv.1 = k)) = true then kvs.map (fun kv => if kv.1 = k then (kv.1, v) else kv) else kvs ++ [(k, v)]
def gIxA : D → D → R D
  | .dK kvs, d => (optR (keyD d)).bind fun k => optR (getG kvs k)
  | .dT kvs, d => (optR (keyT d)).bind fun k => optR (getG kvs k)
  | .zK kvs, d => (optR (keyD d)).bind fun k => optR (getG kvs k)
  | .zT kvs, d => (optR (keyT d)).bind fun k => optR (getG kvs k)
  | a, b => gIx a b
section
variable {K : PySem.W.Frag} {ca : Cn} {G : Hp}
theorem key_at {d : D} {v : V} {k : Key} (a : At K ca G d v) (e : keyD d = some k) : v = kV k := by
  cases d with
  | int i => cases e; cases a; rfl
  | str i => cases e; cases a; rfl
  | _ => cases e
theorem keys_at : ∀ {ds : List D} {vs : List V} {ks : List Key}, AtL K ca G ds vs → keysD ds = some ks → vs = ks.map kV
  | [], _, _, a, e => by cases a; cases e; rfl
  | d :: r, _, ks, a, e => by
    obtain ⟨v, vs, rfl, a1, a2⟩ := a
    unfold keysD at e
    cases z1 : keyD d with
    | none => rw [z1] at e; cases e
    | some k =>
      cases z2 : keysD r with
      | none => rw [z1, z2] at e; cases e
      | some ks' =>
        rw [z1, z2] at e
        cases e
        rw [key_at a1 z1, keys_at a2 z2]
        rfl
theorem AtK.get : ∀ {kvs : List (Key × D)} {vs : List (Key × V)} (k : Key), AtK K ca G kvs vs → match getG kvs k with
    | some d => ∃ v, valV vs k = some v ∧ At K ca G d v
    | none => valV vs k = none
  | [], _, k, h => by cases h; rfl
  | (k', d) :: kvs, _, k, ⟨v, r, e, h, t⟩ => by
    subst e
    unfold getG valV
    rw [List.find?_cons, List.find?_cons]
    by_cases z : k' = k
    · simp only [z, decide_true]
      exact ⟨v, rfl, h⟩
    · simp only [z, decide_false]
      exact AtK.get k t
theorem AtT.get : ∀ {kvs : List (List Key × D)} {vs : List (List Key × V)} (k : List Key), AtT K ca G kvs vs → match getG kvs k with
    | some d => ∃ v, valV vs k = some v ∧ At K ca G d v
    | none => valV vs k = none
  | [], _, k, h => by cases h; rfl
  | (k', d) :: kvs, _, k, ⟨v, r, e, h, t⟩ => by
    subst e
    unfold getG valV
    rw [List.find?_cons, List.find?_cons]
    by_cases z : k' = k
    · simp only [z, decide_true]
      exact ⟨v, rfl, h⟩
    · simp only [z, decide_false]
      exact AtT.get k t
theorem AtK.any : ∀ {kvs : List (Key × D)} {vs : List (Key × V)} (k : Key), AtK K ca G kvs vs → (kvs.any fun kv => decide (kv.1 = k)) = (vs.any fun kv => decide (kv.1 = k))
  | [], _, k, h => by cases h; rfl
  | (k', d) :: kvs, _, k, ⟨v, r, e, h, t⟩ => by subst e; rw [List.any_cons, List.any_cons, AtK.any k t]
theorem AtK.app : ∀ {kvs kws : List (Key × D)} {vs ws : List (Key × V)}, AtK K ca G kvs vs → AtK K ca G kws ws → AtK K ca G (kvs ++ kws) (vs ++ ws)
  | [], _, _, _, h, h' => by cases h; exact h'
  | (_, _) :: _, _, _, _, ⟨v, r, e, h, t⟩, h' => by subst e; exact ⟨v, _, rfl, h, AtK.app t h'⟩
theorem AtK.upd1 : ∀ {kvs : List (Key × D)} {vs : List (Key × V)} {k : Key} {d : D} {v : V}, AtK K ca G kvs vs → At K ca G d v → AtK K ca G (kvs.map fun kv => if kv.1 = k then (kv.1, d) else kv) (vs.map fun kv => if kv.1 = k then (kv.1, v) else kv)
  | [], _, k, d, v, h, a => by cases h; rfl
  | (k', d') :: kvs, _, k, d, v, ⟨v', r, e, h, t⟩, a => by
    subst e
    rw [List.map_cons, List.map_cons]
    have ih := AtK.upd1 (k := k) t a
    by_cases z : k' = k
    · rw [if_pos z, if_pos z]; exact ⟨v, _, rfl, a, ih⟩
    · rw [if_neg z, if_neg z]; exact ⟨v', _, rfl, h, ih⟩
theorem AtK.put {kvs : List (Key × D)} {vs : List (Key × V)} {k : Key} {d : D} {v : V} (h : AtK K ca G kvs vs) (a : At K ca G d v) : AtK K ca G (putG kvs k d) (putK vs k v) := by
  unfold putG putK
  rw [h.any k]
  split
  · exact h.upd1 a
  · exact h.app ⟨v, [], rfl, a, rfl⟩
theorem AtK.length : ∀ {kvs : List (Key × D)} {vs : List (Key × V)}, AtK K ca G kvs vs → kvs.length = vs.length
  | [], _, h => by cases h; rfl
  | (_, _) :: _, _, ⟨v, r, e, h, t⟩ => by subst e; rw [List.length_cons, List.length_cons, AtK.length t]
end
def rDG : R2 := fun x y H Q => ∃ a v, x = .ref a ∧ DGet H a y (some v) ∧ Q v H
theorem ix_dget {X : Cx} (hu : X.A.units + 1 < cLine) : IxR X rDG := by
  intro value slice pins s σ H x y v u Q I rx ry h hs
  obtain ⟨a, z, rfl, g, q⟩ := h
  cases rx
  have hT := dict_typeIs I g
  unfold subscriptTail
  refine wpAny_bind ?_
  rw [getitemInPython_of_ne hT.not_modules]
  refine wpAny_bind (wpAny_specialOf hT PySem.F.slot_dict_getitem.lookup ?_)
  have fin : wpAny (model X.prog X.w) X.A (subscripted slice false (.ref a) u) (fun r s₃ => wpAny (model X.prog X.w) X.A (letTemporaryGo value (.ref a) r >>= fun _ => pure r) (EP X pins σ Q) X.xe s₃) X.xe s := by
    rw [hs]
    exact wpAny_operating (wpAny_mono (d_getItem (E := X.xe) (Q := EP X pins σ Q) hu I g ry fun w' s3 I3 rw' => ⟨z, H, I3, rw', q⟩) (fun r s₃ h₃ => wpAny_bind (wpAny_letTemporaryGo (wpAny_pure h₃))) fun _ _ x => x)
  first
    | exact wpAny_pure (wpAny_bind fin)
    | exact wpAny_bind (wpAny_pure (wpAny_bind fin))
    | exact wpAny_bind fin
section
variable {X : Cx} {ca : Cn} {W : WX} {a b e : Expr} {fa fb : Ev → R D} {pos : Pos}
theorem ix_k {G H : Hp} {W1 : XK} {Q : VK} {kvs : List (Key × D)} {k : D} {x y : V} (s : Same G H) (ax : At X.K ca G (.dK kvs) x) (ay : At X.K ca G k y) (w : Wish X.K ca (SV X.K ca Q) G H ((optR (keyD k)).bind fun k => optR (getG kvs k)) W1) : rDG x y H Q := by
  obtain ⟨kk, e1, w⟩ := wish_opt w
  obtain ⟨p, vs, rfl, h1, h2⟩ := ax
  obtain ⟨z, e2, w⟩ := wish_opt' w
  have g := h2.get kk
  rw [e2] at g
  obtain ⟨v, g1, g2⟩ := g
  rw [key_at ay e1]
  refine ⟨p, v, rfl, ?_, w.here s _ g2⟩
  rw [← g1]
  exact .inl ⟨vs, kk, Rd.mono s h1, rfl, rfl⟩
theorem ix_t {G H : Hp} {W1 : XK} {Q : VK} {kvs : List (List Key × D)} {k : D} {x y : V} (s : Same G H) (ax : At X.K ca G (.dT kvs) x) (ay : At X.K ca G k y) (w : Wish X.K ca (SV X.K ca Q) G H ((optR (keyT k)).bind fun k => optR (getG kvs k)) W1) : rDG x y H Q := by
  obtain ⟨kk, e1, w3⟩ := wish_opt w
  obtain ⟨p, vs, rfl, h1, h2⟩ := ax
  obtain ⟨z, e2, w4⟩ := wish_opt' w3
  have g := h2.get kk
  rw [e2] at g
  obtain ⟨v, g1, g2⟩ := g
  have fin : Q v H := w4.here s _ g2
  unfold keyT at e1
  split at e1
  · obtain ⟨q, ws, rfl, t1, t2⟩ := ay
    have e3 := keys_at t2 e1
    subst e3
    refine ⟨p, v, rfl, ?_, fin⟩
    rw [← g1]
    exact .inr ⟨vs, kk, q, Rd.mono s h1, rfl, s q _ t1, rfl⟩
  · cases e1
theorem at_zk {K : PySem.W.Frag} {ca : Cn} {G : Hp} {kvs : List (Key × D)} {v : V} (a : At K ca G (.zK kvs) v) : At K ca G (.dK kvs) v := let ⟨p, o, vs, e, h, r⟩ := a; ⟨p, vs, e, .inr ⟨o, h⟩, r⟩
theorem at_zt {K : PySem.W.Frag} {ca : Cn} {G : Hp} {kvs : List (List Key × D)} {v : V} (a : At K ca G (.zT kvs) v) : At K ca G (.dT kvs) v := let ⟨p, o, vs, e, h, r⟩ := a; ⟨p, vs, e, .inr ⟨o, h⟩, r⟩
theorem v2_ixA : V2 X ca (fun x y H Q => rIx X.K x y H Q ∨ rDG x y H Q) gIxA := by
  intro G H W1 x y d k Q s ax ay w
  unfold gIxA at w
  split at w
  · exact .inr (ix_k s ax ay w)
  · exact .inr (ix_t s ax ay w)
  · exact .inr (ix_k s (at_zk ax) ay w)
  · exact .inr (ix_t s (at_zt ax) ay w)
  · exact .inl (v2_ix G H W1 x y d k Q s ax ay w)
theorem fe_ixA (hu : X.A.units + 65 < cLine) (hs : PlainIx b) (ha : FE X ca W a fa) (hb : FE X ca W b fb) : FE X ca W (.Subscript a b pos) (e2 gIxA fa fb) := by
  obtain ⟨ta, pa, ka⟩ := ha.ex
  obtain ⟨tb, pb, kb⟩ := hb.ex
  refine ⟨_, pe_ix (ix_seq.or (ix_dget (by omega))) pa pb hs, fun B G H σ ρ Q s b r h => ?_⟩
  refine ka B G H σ ρ _ s b r (Wish.bind h fun d G1 H1 _ x1 w1 v a1 => ?_)
  refine kb B G1 H1 σ ρ _ x1.gh (b.trans x1.hh) (r.ext x1) (Wish.bind w1 fun d2 G2 H2 _ x2 w2 v2 a2 => ?_)
  exact v2_ixA G2 H2 _ v v2 d d2 Q x2.gh (At.mono x2.gg a1) a2 w2
end
section
variable {X : Cx} {ca : Cn} {W : WX} {o e : Expr} {es : List Expr} {fo : Ev → R D} {fl : Ev → R (List D)} {apos cpos : Pos}
end
end Tk
namespace Tk
open PySem PySem.Spec L2 PyProof.Rows
section
variable {prog : Program} {w : World} {A : Around} {E : Value → Shared → Prop} {s : Shared} {z TI TO T i1 i2 : Addr} {f : Bool} {oT : Obj} {fp1 fp2 : List Addr} {n1 n2 i : Nat} {P1 P2 : Nat → Value → Prop} {St1 St2 : Nat → Heap → Prop}
end
def mergeG {α : Type} (kvs more : List (Key × α)) : List (Key × α) := more.foldl (fun acc kv => putG acc kv.1 kv.2) kvs
theorem AtK.merge {K : PySem.W.Frag} {ca : Cn} {G : Hp} : ∀ {more kvs : List (Key × D)} {more' kvs' : List (Key × V)}, AtK K ca G more more' → AtK K ca G kvs kvs' → AtK K ca G (mergeG kvs more) (mergeK kvs' more')
  | [], _, _, _, h, h' => by cases h; exact h'
  | (k, d) :: more, kvs, _, kvs', ⟨v, r, e, h, t⟩, h' => by
    subst e
    show AtK K ca G (mergeG (putG kvs k d) more) (mergeK (putK kvs' k v) r)
    exact AtK.merge t (h'.put h)
theorem AtK.zip {K : PySem.W.Frag} {ca : Cn} {G : Hp} : ∀ {ks : List Key} {ds : List D} {vs : List V}, AtL K ca G ds vs → AtK K ca G (ks.zip ds) (ks.zip vs)
  | [], _, _, _ => rfl
  | k :: ks, [], _, h => by cases h; rfl
  | k :: ks, d :: ds, _, ⟨v, r, e, h, t⟩ => by subst e; exact ⟨v, _, rfl, h, AtK.zip t⟩
section
variable {X : Cx} {ca : Cn} {W : WX} {e e' : Expr} {fa fb : Ev → R D} {p p2 pos pos2 : Pos}
end
end Tk
namespace Tk
open PySem PySem.Spec L2 PyProof.Rows
def sAppPop (i j : Nat) (f : Ev → R D) : Ev → SO := fun ρ => SO.from ρ (ownL ρ i) fun xs => SO.from ρ (ownL ρ j) fun ys => SO.from ρ (f ρ) fun d => match d with
  | .int n => if 0 ≤ n ∧ n < 9223372036854775808 ∧ xs.length < sizeLine then (match ys[n.toNat]? with
    | some y => .nx ((ρ.set j (.l (ys.eraseIdx n.toNat))).set i (.l (xs ++ [y])))
    | none => .bad) else .bad
  | _ => .bad
section
variable {X : Cx} {ca : Cn} {W : WX} {e : Expr} {f : Ev → R D} {pos apos cpos py apos2 cpos2 pz : Pos} {i j : Nat} {y z : Str}
theorem fs_appPop (hi : X.N[i]? = some y) (hj : X.N[j]? = some z) (h : FE X ca W e f) (ne : i ≠ j := by decide)
    (hv : Vis X.env.scope y := by first | exact Or.inl rfl | exact Or.inr (Or.inl rfl) | exact Or.inr (Or.inr rfl)) (hd : (y == ("__debug__" : Str)) = false := by decide) (hcd : (y == ("__classdict__" : Str)) = false := by decide)
    (hv2 : Vis X.env.scope z := by first | exact Or.inl rfl | exact Or.inr (Or.inl rfl) | exact Or.inr (Or.inr rfl)) (hd2 : (z == ("__debug__" : Str)) = false := by decide) (hcd2 : (z == ("__classdict__" : Str)) = false := by decide)
    (he : starEach [e] X.env = (false, eval e X.env) :: starEach [] X.env := by rfl) (hb2 : attributeBase (.Name z pz) "pop" X.env (eval (.Name z pz) X.env) = eval (.Name z pz) X.env := by rfl)
    (hw2 : ((backTo cpos2 (starEach [e] X.env)).all (fun x => !x.1) && (backToKw cpos2 (keywordEach [] X.env)).all (fun x => x.1.isSome) && decide ([e].length + ([] : List Keyword).length + (if ([] : List Keyword).isEmpty then 0 else 1) < 30)) = true := by rfl) (hl2 : (apos2.endLine == cpos2.line) = true := by rfl) (hpl2 : (backTo cpos2 (starEach [] X.env)).any (·.1) = false := by rfl)
    (he1 : starEach [.Call (.Attribute (.Name z pz) "pop" apos2) [e] [] cpos2] X.env = (false, eval (.Call (.Attribute (.Name z pz) "pop" apos2) [e] [] cpos2) X.env) :: starEach [] X.env := by rfl) (hb : attributeBase (.Name y py) "append" X.env (eval (.Name y py) X.env) = eval (.Name y py) X.env := by rfl)
    (hw : ((backTo cpos (starEach [.Call (.Attribute (.Name z pz) "pop" apos2) [e] [] cpos2] X.env)).all (fun x => !x.1) && (backToKw cpos (keywordEach [] X.env)).all (fun x => x.1.isSome) && decide ([(.Call (.Attribute (.Name z pz) "pop" apos2) [e] [] cpos2 : Expr)].length + ([] : List Keyword).length + (if ([] : List Keyword).isEmpty then 0 else 1) < 30)) = true := by rfl)
    (hl : (apos.endLine == cpos.line) = true := by rfl) (hpl : (backTo cpos (starEach [] X.env)).any (·.1) = false := by rfl)
    (hs : swapsWith (.Call (.Attribute (.Name y py) "append" apos) [.Call (.Attribute (.Name z pz) "pop" apos2) [e] [] cpos2] [] cpos) none pos.line X.env = pure false := by rfl) :
    FS X ca W (.Expr (.Call (.Attribute (.Name y py) "append" apos) [.Call (.Attribute (.Name z pz) "pop" apos2) [e] [] cpos2] [] cpos) pos) (sAppPop i j f) := by
  obtain ⟨t, p, k⟩ := h.ex
  refine ⟨_, ps_expr (pe_bm PySem.F.plainAttrs_list PySem.F.slot_list_append PySem.F.type_list_append mt_append (pe_var hi hv hd hcd) (pa_cons (pe_bm PySem.F.plainAttrs_list PySem.F.slot_list_pop PySem.F.type_list_pop mt_popAt (pe_var hj hv2 hd2 hcd2) (pa_cons p pa_nil he) hb2 hw2 hl2 he hpl2) pa_nil he1) hb hw hl he1 hpl) hs, fun B G H σ ρ D s b r h => ?_⟩
  unfold sAppPop at h
  cases q1 : ownL ρ i with
  | exc x => unfold ownL at q1; split at q1 <;> cases q1
  | bad => rw [q1] at h; exact h.elim
  | ok xs =>
    rw [q1] at h
    cases q2 : ownL ρ j with
    | exc x => unfold ownL at q2; split at q2 <;> cases q2
    | bad => rw [q2] at h; exact h.elim
    | ok ys =>
      rw [q2] at h
      obtain ⟨r1, a, vs, a1, a2, a3, a4, a5⟩ := own_l q1 r
      obtain ⟨r2, c, ws, c1, c2, c3, c4, c5⟩ := own_l q2 r
      have nac : a ≠ c := fun z => ne (r.sep i j _ _ a r1 rfl r2 rfl a1 (by rw [z]; exact c1))
      refine ⟨_, a1, .inl ⟨rfl, vs, .of a2⟩, _, c1, .inl ⟨rfl, ws, .of c2⟩, k B G H σ ρ _ s b r (WishS.from h b r fun d G1 H1 _ x w r3 b1 v av => ?_)⟩
      cases d with
      | int n =>
        cases av
        have w2 : WishS X.K ca B G1 (if 0 ≤ n ∧ n < 9223372036854775808 ∧ xs.length < sizeLine then (match ys[n.toNat]? with
          | some y => .nx ((ρ.set j (.l (ys.eraseIdx n.toNat))).set i (.l (xs ++ [y])))
          | none => .bad) else .bad) D W := w
        split at w2
        · rename_i hn
          split at w2
          · rename_i yy hy
            obtain ⟨u, hu, au⟩ := c3.get hy
            have lw : n.toNat < ws.length := (List.getElem?_eq_some_iff.mp hu).1
            have lc := c3.length
            have la := a3.length
            refine ⟨c, ws, n, n.toNat, u, rfl, rfl, x.hh _ _ c2, by omega, by omega, ?_, hu, ?_⟩
            · exact seqIndex_of hn.1 (by omega)
            · obtain ⟨t1, t2, t3⟩ := r3.turn x.gh b1 (t' := .l (ys.eraseIdx n.toNat)) (o := .lst (ws.eraseIdx n.toNat)) r2 rfl rfl c1 ⟨_, upd_same, (AtL.mono x.gg c3).eraseIdx _⟩
              have e1 : (ρ.set j (.l (ys.eraseIdx n.toNat)))[i]? = some (.l xs) := by rw [List.getElem?_set_ne (Ne.symm ne)]; exact r1
              have e2 : upd H1 c (.lst (ws.eraseIdx n.toNat)) a = some (.lst vs) := by rw [upd_ne nac]; exact x.hh _ _ a2
              refine ⟨a, vs, u, rfl, rfl, e2, by omega, ?_⟩
              obtain ⟨u1, u2, u3⟩ := t1.turn t2 t3 (t' := .l (xs ++ [yy])) (o := .lst (vs ++ [u])) e1 rfl rfl a1 ⟨_, upd_same, (AtL.mono x.gg a3).append (.one (At.mono x.gg au))⟩
              exact w2 _ G1 _ ⟨.refl _, u2, u3, fun c z => .inl z⟩ u1
          · exact w2.elim
        · exact w2.elim
      | _ => exact w.elim
end
end Tk
namespace Tk
open PySem PySem.Spec L2 PyProof.Rows
def SN (K : PySem.W.Frag) (ca : Cn) (H0 : Hp) (Q : VK) : Hp → Sl → Hp → Prop := fun G' s H' => s.own = true ∧ ∀ a, Own K ca G' H' a s → G' a = none → H0 a = none → Q (.ref a) H'
theorem Wish.imp {α : Type} {K : PySem.W.Frag} {ca : Cn} {G H : Hp} {r : R α} {S S' : Hp → α → Hp → Prop} {W1 : XK} (h : Wish K ca S G H r W1) (q : ∀ G' d H', S G' d H' → S' G' d H') : Wish K ca S' G H r W1 := by
  cases r with
  | ok a => exact fun G' H' x => q _ _ _ (h G' H' x)
  | exc x => exact h
  | bad => exact h
structure FN (X : Cx) (ca : Cn) (W : WX) (e : Expr) (f : Ev → R Sl) : Prop where
  ex : ∃ t, PE X e t ∧ ∀ B G H σ ρ Q, Same G H → Same B H → Rel X.K ca B G H σ ρ → Wish X.K ca (SN X.K ca H Q) G H (f ρ) (WE W σ) → t σ H Q
def nL (f : Ev → R (List D)) : Ev → R Sl := fun ρ => (f ρ).bind fun ds => .ok (.l ds)
def sNew (i : Nat) (f : Ev → R Sl) : Ev → SO := fun ρ => SO.from ρ (f ρ) fun s => if s.own = true then .nx (ρ.set i s) else .bad
def sRetV (i : Nat) : Ev → SO := fun ρ => match ρ[i]? with
  | some s => if s.own = true then .ro s else .bad
  | none => .bad
def sRetF (f : Ev → R Sl) : Ev → SO := fun ρ => SO.from ρ (f ρ) fun s => if s.own = true then .ro s else .bad
def runO (n : Nat) (g : Ev → SO) : List D → R Sl := fun ds => (g (startE n ds)).outO
def oCall (n : Nat) (F : List D → R Sl) (fa : Ev → R (List D)) : Ev → R Sl := fun ρ => (fa ρ).bind fun ds => if ds.length = n then F ds else .bad
def spO (K : PySem.W.Frag) (ca : Cn) (n : Nat) (F : List D → R Sl) : Sp := fun vs H Q E => vs.length = n ∧ ∃ G ds, Same G H ∧ AtL K ca G ds vs ∧ Wish K ca (SN K ca H Q) G H (F ds) E
section
variable {X : Cx} {ca : Cn} {W : WX} {e : Expr} {es : List Expr} {f : Ev → R Sl} {fl fa : Ev → R (List D)} {pos p : Pos}
theorem fn_l (h : FL X ca W e fl) : FN X ca W e (nL fl) := by
  obtain ⟨t, pp, k⟩ := h.ex
  refine ⟨t, pp, fun B G H σ ρ Q s b r w => k B G H σ ρ Q s b r ?_⟩
  unfold nL at w
  cases z : fl ρ with
  | ok ds =>
    rw [z] at w
    exact fun G' H' x q vs n g hq av => (w G' H' x).2 q ⟨vs, hq, av⟩ g n
  | exc x => rw [z] at w; exact w
  | bad => rw [z] at w; exact w
theorem fs_new {i : Nat} {y : Str} {pos' : Pos} (hN : X.N.Nodup) (hi : X.N[i]? = some y) (h : FN X ca W e f) (hx : Loc X.env.scope y := by first | exact .inl rfl | exact .inr rfl) (hs : swapsWith e (some (.Name y pos')) pos.line X.env = pure false := by rfl)
    (hf : X.fn y = true ∨ X.env.scope.names.lookup y = some .local := by first | exact .inl rfl | exact .inr rfl | assumption) : FS X ca W (.Assign [.Name y pos'] e pos) (sNew i f) := by
  obtain ⟨t, p, kt⟩ := h.ex
  refine ⟨_, ps_set hN hi hx p hs hf, fun B G H σ ρ D s b r h => kt B G H σ ρ _ s b r ?_⟩
  refine WishS.from h b r fun sl G1 H1 e1 x w r1 b1 => ?_
  split at w
  · rename_i o
    refine ⟨o, fun a oa ga na => ?_⟩
    refine w _ G1 H1 (.refl x.gh b1) ?_
    exact r.setOwn x i na o oa ga (same_none b na)
  · exact w.elim
theorem fs_retF (h : FN X ca W e f) : FS X ca W (.Return (some e) pos) (sRetF f) := by
  obtain ⟨t, p, k⟩ := h.ex
  refine ⟨_, ps_ret p, fun B G H σ ρ D s b r h => k B G H σ ρ _ s b r ?_⟩
  refine WishS.from h b r fun sl G1 H1 e1 x w r1 b1 => ?_
  split at w
  · rename_i o
    exact ⟨o, fun a oa ga na => w.2 a G1 H1 (.refl x.gh b1) oa ga (same_none b na)⟩
  · exact w.elim
end
section
variable {P : Program} {w : World} {K : PySem.W.Frag} {mg : Str → Option Value} {base : Heap} {ca : Cn}
theorem body_okO {X : Cx} {W : WX} {body : List Stmt} {g : Ev → SO} {H : Hp} {vs : List V} {ds : List D} {G : Hp} {Q : VK} {E : XK} {N : List Str} (hK : X.K = K) (h : FSs X ca W body g) (hW : ∀ c d σ H', E c d H' → W c d σ H')
    (s : Same G H) (a : AtL K ca G ds vs) (q : Wish K ca (SN K ca H Q) G H (runO N.length g ds) E) : ∃ t, PSs X body t ∧ t { nx := fun _ H' => Q .non H', rt := Q } (L2.start N vs) H := by
  subst hK
  obtain ⟨t, p, k⟩ := h.ex
  refine ⟨t, p, k H G H _ (startE N.length ds) _ s (.refl H) (rel_start a) ?_⟩
  unfold runO at q
  have up : ∀ {G' H' : Hp}, Adv H G G' H' → Ext G H G' H' := fun x => ⟨x.bh, x.gg, x.gh, x.nw⟩
  cases z : g (startE N.length ds) with
  | ro sl =>
    rw [z] at q
    have own : sl.own = true := (q G H ⟨.refl _, .refl _, s, fun _ h => .inl h⟩).1
    exact ⟨own, fun a G' H' x oa ga ba => (q G' H' (up x)).2 a oa ga ba⟩
  | ex x ρ => rw [z] at q; exact fun σ' G' H' c dx y r e => hW _ _ _ _ (q G' H' c dx (up y) e)
  | nx ρ => rw [z] at q; exact q.elim
  | rt d => rw [z] at q; exact q.elim
  | bk ρ => rw [z] at q; exact q.elim
  | ct ρ => rw [z] at q; exact q.elim
  | bad => rw [z] at q; exact q.elim
theorem fn_okO {x qual : Str} {params : Arguments} {body : List Stmt} {scope : Scope} {dvs : List V} {kws : List (Str × V)} {f : Addr} {fd : FuncData} {N ps : List Str} {k : Nat} {g : Ev → SO} (F : FunD K x qual params body scope dvs kws f fd) (S : FnScope N ps scope)
    (hb : ∀ (cdv : Value) (A : Around) (outer : List Env) (s : Shared) (H : Hp) (E : XK), Room k (A.deeper (envOfC qual scope s.heap.objs.size f cdv)) →
      FSs (cxOf (L2.CX P w) P w K mg base N qual scope f cdv A outer s H E) ca (fun c d _ H' => E c d H') body g) : FnOk P w K mg base (L2.CX P w) (k + 1) f fd ps (spO K ca ps.length (runO N.length g)) :=
  F.ok S (fun vs H Q E h => h.1) fun cdv A outer s H vs Q E hr h => by
    obtain ⟨l, G, ds, sm, a, q⟩ := h
    exact body_okO rfl (hb cdv A outer s H E hr) (fun _ _ _ _ z => z) sm a q
structure DefO (P : Program) (w : World) (K : PySem.W.Frag) (mg : Str → Option Value) (base : Heap) (ca : Cn) (k : Nat) (x : Str) (st : Stmt) (dd : List D) (kd : List (Str × D)) (ps : List Str) (F : List D → R Sl) : Prop where
  ex : ∃ f fd, FnOk P w K mg base (L2.CX P w) k f fd ps (spO K ca ps.length F) ∧ mg x = some (.ref f) ∧ FD K x x st dd kd f fd
variable {x : Str} {st : Stmt} {dd : List D} {kd : List (Str × D)} {ps N : List Str} {k : Nat} {g : Ev → SO}
theorem DefO.of (h : FnAt K mg x st dd kd) (S : FnScope N ps (defScope st)) (hb : ∀ (f : Addr) (cdv : Value) (A : Around) (outer : List Env) (s : Shared) (H : Hp) (E : XK), Room k (A.deeper (envOfC x (defScope st) s.heap.objs.size f cdv)) →
      FSs (cxOf (L2.CX P w) P w K mg base N x (defScope st) f cdv A outer s H E) ca (fun c d _ H' => E c d H') (defBody st) g) : DefO P w K mg base ca (k + 1) x st dd kd ps (runO N.length g) := by
  obtain ⟨f, fd, F, hm⟩ := h.ex
  exact ⟨f, fd, fn_okO F S (hb f), hm, F⟩
end
section
variable {X : Cx} {ca : Cn} {W : WX} {k j n : Nat} {x : Str} {st : Stmt} {dd : List D} {kd : List (Str × D)} {ps ks : List Str} {Fn : List D → R Sl} {p pos : Pos} {e : Expr} {es : List Expr} {kws : List Keyword} {fa fk : Ev → R (List D)} {gD : List D → List D → List D}
end
def SF (K : PySem.W.Frag) (ca : Cn) (H0 : Hp) (Q : VK) : Hp → List D → Hp → Prop := fun G' ds H' => ∀ p vs, H0 p = none → G' p = none → H' p = some (.lst vs) → AtL K ca G' ds vs → Q (.ref p) H'
def lLc (zs : List Nat) (fi : Ev → R (List D)) (h : Tg) (t : Ev → R Bool) (fe : Ev → R D) : Ev → R (List D) := fun ρ => (fi ρ).bind fun ds => if ds.length ≤ sizeLine then (lcL h t fe (wipeE ρ zs) ds).bind fun rs => .ok rs else .bad
section
variable {X : Cx} {ca : Cn} {W : WX} {zs : List Nat} {elt tg iter : Expr} {ifs : List Expr} {scope : Scope} {own : List (Str × Nat)} {pos : Pos} {fi : Ev → R (List D)} {h : Tg} {ft : Ev → R Bool} {fe : Ev → R D}
end
def sPutL (i : Nat) (f fi : Ev → R D) : Ev → SO := fun ρ => SO.from ρ (f ρ) fun d => SO.from ρ (ownL ρ i) fun xs => SO.from ρ (fi ρ) fun n => match n with
  | .int k => (match ixN xs.length k with
    | some j => .nx (ρ.set i (.l (xs.set j d)))
    | none => .bad)
  | _ => .bad
def eOwnIx (i : Nat) (fi : Ev → R D) : Ev → R D := fun ρ => (ownL ρ i).bind fun xs => (fi ρ).bind fun n => gIx (.lst xs) n
section
variable {X : Cx} {ca : Cn} {W : WX} {e ei : Expr} {f fi : Ev → R D} {pos p py : Pos} {i : Nat} {y : Str}
end
end Tk
namespace Tk
open PySem PySem.Spec L2 PyProof.Rows
def nmOf (l : List Str) (k : Nat) : Str := l.getD k Str.empty
theorem nm_inj {l : List Str} {f : Nat} (nd : l.Nodup) (h : f < l.length) (ne : Str.empty ∉ l) : ∀ k, nmOf l k = nmOf l f → k = f := fun k e => by
  unfold nmOf at e
  rw [List.getD_eq_getElem?_getD, List.getD_eq_getElem?_getD, List.getElem?_eq_getElem h] at e
  by_cases hk : k < l.length
  · rw [List.getElem?_eq_getElem hk] at e
    have e2 : l[k] = l[f] := e
    rcases Nat.lt_trichotomy k f with z | z | z
    · exact absurd e2 (List.pairwise_iff_getElem.mp nd k f hk h z)
    · exact z
    · exact absurd e2.symm (List.pairwise_iff_getElem.mp nd f k h hk z)
  · rw [List.getElem?_eq_none (by omega)] at e
    have e2 : Str.empty = l[f] := e
    exact absurd (e2 ▸ List.getElem_mem h) ne
def putN (f : Nat) (d : D) : List (Nat × D) → List (Nat × D)
  | [] => [(f, d)]
  | (g, x) :: r => if g = f then (g, d) :: r else (g, x) :: putN f d r
section
variable {K : PySem.W.Frag} {ca : Cn} {G : Hp}
theorem AtF.put {f : Nat} {d : D} {v : V} (hi : ∀ k, ca.n k = ca.n f → k = f) (h : At K ca G d v) : ∀ {fs : List (Nat × D)} {vs : List (Str × V)}, AtF K ca G fs vs → AtF K ca G (putN f d fs) (putF (ca.n f) v vs)
  | [], vs, a => by cases a; exact ⟨v, [], rfl, h, rfl⟩
  | (g, x) :: r, vs, ⟨u, us, e, b, t⟩ => by
    subst e
    unfold putN putF
    by_cases z : g = f
    · subst z
      rw [if_pos rfl, if_pos rfl]
      exact ⟨v, us, rfl, h, t⟩
    · rw [if_neg z, if_neg fun y => z (hi g y)]
      exact ⟨u, _, rfl, b, AtF.put hi h t⟩
theorem AtF.length : ∀ {fs : List (Nat × D)} {vs : List (Str × V)}, AtF K ca G fs vs → fs.length = vs.length
  | [], _, h => by cases h; rfl
  | (_, _) :: _, _, ⟨_, _, e, _, t⟩ => by subst e; simp [AtF.length t]
end
def ownO (ρ : Ev) (i : Nat) : R (Option Addr × Nat × List (Nat × D)) := match ρ[i]? with
  | some (.o g c fs) => .ok (g, c, fs)
  | _ => .bad
def sFldO (cs : List Nat) (i f : Nat) (fe : Ev → R D) : Ev → SO := fun ρ => SO.from ρ (fe ρ) fun d => SO.from ρ (ownO ρ i) fun q => if q.2.1 ∈ cs ∧ q.2.2.length < 1000 then .nx (ρ.set i (.o q.1 q.2.1 (putN f d q.2.2))) else .bad
def eFldO (cs : List Nat) (i f : Nat) : Ev → R D := fun ρ => (ownO ρ i).bind fun q => if q.2.1 ∈ cs then optR (q.2.2.lookup f) else .bad
section
variable {X : Cx} {ca : Cn} {W : WX} {e : Expr} {fe : Ev → R D} {pos p py pos' : Pos} {i f : Nat} {y nm : Str} {cs : List Nat}
theorem own_o {K : PySem.W.Frag} {B G H : Hp} {σ : L2.St} {ρ : Ev} {i : Nat} {q : Option Addr × Nat × List (Nat × D)} (h : ownO ρ i = .ok q) (r : Rel K ca B G H σ ρ) :
    ρ[i]? = some (.o q.1 q.2.1 q.2.2) ∧ ∃ a C dx vs, σ[i]? = some (some (.ref a)) ∧ (∀ b, q.1 = some b → a = b) ∧ ca.a q.2.1 = some C ∧ H a = some (.ins C dx vs) ∧ AtF K ca G q.2.2 vs ∧ G a = none ∧ B a = none := by
  unfold ownO at h
  split at h
  · rename_i g c fs z
    cases h
    obtain ⟨a, h1, ⟨C, dx, vs, hg, h2, h3, h4⟩, h5, h6⟩ := r.own i _ z rfl
    exact ⟨z, a, C, dx, vs, h1, hg, h2, h3, h4, h5, h6⟩
  · cases h
theorem fs_fldO (hi : X.N[i]? = some y) (hf : ca.n f = nm) (hn : ∀ k, ca.n k = ca.n f → k = f) (hc : ∀ c ∈ cs, ∀ C, ca.a c = some C → Cls X.K C ∧ NoAttr X.K C nm) (h : FE X ca W e fe)
    (hv : Vis X.env.scope y := by first | exact Or.inl rfl | exact Or.inr (Or.inl rfl) | exact Or.inr (Or.inr rfl)) (hd : (y == ("__debug__" : Str)) = false := by decide) (hcd : (y == ("__classdict__" : Str)) = false := by decide)
    (hs : swapsWith e (some (.Attribute (.Name y py) nm pos')) pos.line X.env = pure false := by rfl) : FS X ca W (.Assign [.Attribute (.Name y py) nm pos'] e pos) (sFldO cs i f fe) := by
  obtain ⟨t, pp, k⟩ := h.ex
  refine ⟨_, ps_fld (pe_var hi hv hd hcd) pp hs, fun B G H σ ρ D s b r w => k B G H σ ρ _ s b r ?_⟩
  refine WishS.from w b r fun d G1 H1 _ x w1 r1 b1 v av => ?_
  cases z : ownO ρ i with
  | exc x => unfold ownO at z; split at z <;> cases z
  | bad => rw [z] at w1; exact w1.elim
  | ok q =>
    rw [z] at w1
    obtain ⟨q0, a, C, dx, vs, h1, hg, h2, h3, h4, h5, h6⟩ := own_o z r1
    have w2 : WishS X.K ca B G1 (if q.2.1 ∈ cs ∧ q.2.2.length < 1000 then .nx (ρ.set i (.o q.1 q.2.1 (putN f d q.2.2))) else .bad) D W := w1
    split at w2
    · rename_i hm
      have l := h4.length
      obtain ⟨t1, t2, t3⟩ := r1.turn x.gh b1 (t' := .o q.1 q.2.1 (putN f d q.2.2)) (o := .ins C dx (putF nm v vs)) q0 rfl rfl h1 ⟨C, dx, _, hg, h2, upd_same, hf ▸ h4.put hn av⟩
      exact ⟨_, h1, a, C, dx, vs, rfl, h3, (hc _ hm.1 C h2).1, (hc _ hm.1 C h2).2, by rw [← l]; exact hm.2, w2 _ G1 _ ⟨.refl _, t2, t3, fun c z => .inl z⟩ t1⟩
    · exact w2.elim
theorem fe_fldO (hi : X.N[i]? = some y) (hf : ca.n f = nm) (hn : ∀ k, ca.n k = ca.n f → k = f) (hc : ∀ c ∈ cs, ∀ C, ca.a c = some C → Cls X.K C ∧ NoAttr X.K C nm)
    (hv : Vis X.env.scope y := by first | exact Or.inl rfl | exact Or.inr (Or.inl rfl) | exact Or.inr (Or.inr rfl)) (hd : (y == ("__debug__" : Str)) = false := by decide) (hcd : (y == ("__classdict__" : Str)) = false := by decide)
    (hb : attributeBase (.Name y py) nm X.env (eval (.Name y py) X.env) = eval (.Name y py) X.env := by rfl) : FE X ca W (.Attribute (.Name y py) nm pos) (eFldO cs i f) := by
  refine ⟨_, pe_fld (pe_var hi hv hd hcd) hb, fun B G H σ ρ Q s b r w => ?_⟩
  unfold eFldO at w
  cases z : ownO ρ i with
  | exc x => unfold ownO at z; split at z <;> cases z
  | bad => rw [z] at w; exact w.elim
  | ok q =>
    rw [z] at w
    obtain ⟨q0, a, C, dx, vs, h1, hg, h2, h3, h4, h5, h6⟩ := own_o z r
    have w2 : Wish X.K ca (SV X.K ca Q) G H (if q.2.1 ∈ cs then optR (q.2.2.lookup f) else .bad) (WE W σ) := w
    split at w2
    · rename_i hm
      obtain ⟨d, e, w3⟩ := wish_opt' w2
      obtain ⟨v, l1, l2⟩ := h4.lookup (fun p _ q => hn _ q) e
      rw [hf] at l1
      exact ⟨_, h1, a, C, dx, vs, v, rfl, h3, (hc _ hm C h2).1, (hc _ hm C h2).2, l1, w3.here s _ l2⟩
    · exact w2.elim
end
def eFrz (f : Ev → R Sl) : Ev → R D := fun ρ => (f ρ).bind frzR
theorem own_frzR {s : Sl} {d : D} (h : frzR s = .ok d) : s.own = true ∧ frzS s = .v d := by
  cases s with
  | no => cases h
  | x _ => cases h
  | tr _ => cases h
  | v _ => cases h
  | l _ => cases h; exact ⟨rfl, rfl⟩
  | k _ => cases h; exact ⟨rfl, rfl⟩
  | t _ => cases h; exact ⟨rfl, rfl⟩
  | o _ _ _ => cases h; exact ⟨rfl, rfl⟩
theorem frzR_ne {s : Sl} {x : Ex} : frzR s ≠ .exc x := by cases s <;> exact fun h => by cases h
section
variable {K : PySem.W.Frag} {ca : Cn} {G H : Hp}
theorem wish_frz {r : R Sl} {Q : VK} {W1 : XK} (h : Wish K ca (SV K ca Q) G H (r.bind frzR) W1) : Wish K ca (SN K ca H Q) G H r W1 := by
  cases r with
  | ok s =>
    have h1 : Wish K ca (SV K ca Q) G H (frzR s) W1 := h
    cases e : frzR s with
    | bad => rw [e] at h1; exact h1.elim
    | exc x => exact (frzR_ne e).elim
    | ok d =>
      rw [e] at h1
      obtain ⟨o1, o2⟩ := own_frzR e
      refine fun G' H' x => ⟨o1, fun a oa ga ha => ?_⟩
      obtain ⟨o, ho⟩ := oa.some
      have gg : Same G' (upd G' a o) := same_upd ga
      have gh : Same (upd G' a o) H' := fun c u e => by
        by_cases w : c = a
        · subst w; rw [upd_same] at e; rw [ho]; exact e
        · rw [upd_ne w] at e; exact x.gh c u e
      obtain ⟨d2, e1, e2⟩ := oa.at_ gg (show upd G' a o a = H' a by rw [upd_same, ho])
      rw [o2] at e1
      cases e1
      refine h1 (upd G' a o) H' ⟨x.hh, x.gg.trans gg, gh, fun c n => ?_⟩ (.ref a) e2
      by_cases w : c = a
      · subst w; exact .inr (.inl ha)
      · rw [upd_ne w] at n; exact x.nw c n
  | exc x => exact h
  | bad => exact h
end
theorem fe_new {X : Cx} {ca : Cn} {W : WX} {e : Expr} {f : Ev → R Sl} (h : FN X ca W e f) : FE X ca W e (eFrz f) := by
  obtain ⟨t, p, k⟩ := h.ex
  exact ⟨t, p, fun B G H σ ρ Q s b r w => k B G H σ ρ Q s b r (wish_frz w)⟩
def SI (K : PySem.W.Frag) (ca : Cn) (c : Nat) (a : Addr) (Q : VK) : Hp → List (Nat × D) → Hp → Prop := fun G' fs H' => Own K ca G' H' a (.o (some a) c fs) → G' a = none → Q .non H'
def spI (K : PySem.W.Frag) (ca : Cn) (c n : Nat) (F : Addr → List D → R (List (Nat × D))) : Sp := fun vs H Q E => vs.length = n ∧ ∃ B G ds a C dx us, vs = .ref a :: us ∧ ca.a c = some C ∧ H a = some (.ins C dx []) ∧ B a = none ∧ Same B H ∧ Same G B ∧ AtL K ca G ds us ∧ Wish K ca (SI K ca c a Q) G B (F a ds) E
def SO.outI (a : Addr) (c : Nat) : SO → R (List (Nat × D))
  | .nx ρ => (match ρ with
    | .o g c' fs :: _ => if g = some a ∧ c' = c then .ok fs else .bad
    | _ => .bad)
  | .ex x _ => .exc x
  | _ => .bad
def startI (a : Addr) (c n : Nat) (ds : List D) : Ev := .o (some a) c [] :: (ds.map Sl.v ++ List.replicate (n - ds.length - 1) .no)
def runI (c n : Nat) (g : Ev → SO) : Addr → List D → R (List (Nat × D)) := fun a ds => (g (startI a c n ds)).outI a c
theorem rel_startI {K : PySem.W.Frag} {ca : Cn} {B G H : Hp} {N : List Str} {ds : List D} {us : List V} {c : Nat} {a C : Addr} {dx : Addr} (hN : ds.length < N.length) (at_ : AtL K ca G ds us) (hc : ca.a c = some C) (ha : H a = some (.ins C dx [])) (ga : G a = none) (ba : B a = none) :
    Rel K ca B G H (L2.start N (.ref a :: us)) (startI a c N.length ds) := by
  have l := at_.length
  have own : ∀ {i : Nat} {s : Sl}, (startI a c N.length ds)[i]? = some s → s.own = true → i = 0 ∧ s = .o (some a) c [] := fun {i s} e o => by
    cases i with
    | zero => exact ⟨rfl, (Option.some.inj e).symm⟩
    | succ i => exact (own_start (ds := ds) (i := i) (n := N.length - ds.length - 1) (by simpa [startI] using e) o).elim
  refine ⟨?_, fun i d e => ?_, fun i s e o => ?_, fun i j s t x e o e2 o2 _ _ => ?_, fun i x e => ?_, _, .none fun i t e => ?_⟩
  rotate_left 5
  · cases i with
    | zero => cases e
    | succ i => exact (tr_start (ds := ds) (i := i) (n := N.length - ds.length - 1) (by simpa [startI] using e)).elim
  rotate_left 4
  · cases i with
    | zero => cases e
    | succ i => exact (ex_start (ds := ds) (i := i) (n := N.length - ds.length - 1) (by simpa [startI] using e)).elim
  · unfold L2.start startI
    simp only [List.length_cons, List.length_append, List.length_map, List.length_replicate]
    omega
  · cases i with
    | zero => cases e
    | succ i =>
      have e' : (ds.map Sl.v ++ List.replicate (N.length - ds.length - 1) Sl.no)[i]? = some (.v d) := by simpa [startI] using e
      obtain ⟨v, h1, h2⟩ := vals_start at_ e'
      refine ⟨v, ?_, h2⟩
      show ((V.ref a :: us).map some ++ List.replicate (N.length - (V.ref a :: us).length) none)[i + 1]? = _
      rw [List.map_cons, List.cons_append, List.getElem?_cons_succ, List.length_cons, ← l, show N.length - (ds.length + 1) = N.length - ds.length - 1 by omega]
      exact h1
  · obtain ⟨rfl, rfl⟩ := own e o
    exact ⟨a, rfl, ⟨C, dx, [], fun b e => Option.some.inj e, hc, ha, rfl⟩, ga, ba⟩
  · rw [(own e o).1, (own e2 o2).1]
section
variable {P : Program} {w : World} {K : PySem.W.Frag} {mg : Str → Option Value} {base : Heap} {ca : Cn}
theorem body_okI {X : Cx} {W : WX} {body : List Stmt} {g : Ev → SO} {H B : Hp} {us : List V} {ds : List D} {G : Hp} {Q : VK} {E : XK} {N : List Str} {c : Nat} {a C dx : Addr} (hK : X.K = K) (h : FSs X ca W body g) (hW : ∀ c d σ H', E c d H' → W c d σ H')
    (hN : ds.length < N.length) (hc : ca.a c = some C) (ha : H a = some (.ins C dx [])) (hb : B a = none) (s1 : Same B H) (s2 : Same G B) (at_ : AtL K ca G ds us) (q : Wish K ca (SI K ca c a Q) G B (runI c N.length g a ds) E) :
    ∃ t, PSs X body t ∧ t { nx := fun _ H' => Q .non H', rt := Q } (L2.start N (.ref a :: us)) H := by
  subst hK
  obtain ⟨t, p, k⟩ := h.ex
  have ga := same_none s2 hb
  refine ⟨t, p, k B G H _ (startI a c N.length ds) _ (s2.trans s1) s1 (rel_startI hN at_ hc ha ga hb) ?_⟩
  unfold runI at q
  have up : ∀ {G' H' : Hp}, Adv B G G' H' → Ext G B G' H' := fun x => ⟨x.bh, x.gg, x.gh, x.nw⟩
  have z0 : (L2.start N (.ref a :: us))[0]? = some (some (.ref a)) := rfl
  cases z : g (startI a c N.length ds) with
  | nx ρ =>
    rw [z] at q
    intro σ' G' H' x r
    cases ρ with
    | nil => exact q.elim
    | cons s0 ρ =>
      cases s0 with
      | o g0 c' fs =>
        have q2 : Wish X.K ca (SI X.K ca c a Q) G B (if g0 = some a ∧ c' = c then .ok fs else .bad) E := q
        split at q2
        · rename_i ec
          obtain ⟨rfl, rfl⟩ := ec
          obtain ⟨a', h1, h2, h3, h4⟩ := r.own 0 _ rfl rfl
          obtain ⟨C', dx', vs', hg, h5⟩ := id h2
          have ea := hg a rfl
          subst ea
          exact q2 G' H' (up x) h2 h3
        · exact q2.elim
      | _ => exact q.elim
  | ex x ρ => rw [z] at q; exact fun σ' G' H' c dx y r e => hW _ _ _ _ (q G' H' c dx (up y) e)
  | ro sl => rw [z] at q; exact q.elim
  | rt d => rw [z] at q; exact q.elim
  | bk ρ => rw [z] at q; exact q.elim
  | ct ρ => rw [z] at q; exact q.elim
  | bad => rw [z] at q; exact q.elim
theorem fn_okI {x qual : Str} {params : Arguments} {body : List Stmt} {scope : Scope} {dvs : List V} {kws : List (Str × V)} {f : Addr} {fd : FuncData} {N ps : List Str} {k c : Nat} {g : Ev → SO} (F : FunD K x qual params body scope dvs kws f fd) (S : FnScope N ps scope) (hN : ps.length ≤ N.length)
    (hb : ∀ (cdv : Value) (A : Around) (outer : List Env) (s : Shared) (H : Hp) (E : XK), Room k (A.deeper (envOfC qual scope s.heap.objs.size f cdv)) →
      FSs (cxOf (L2.CX P w) P w K mg base N qual scope f cdv A outer s H E) ca (fun c d _ H' => E c d H') body g) : FnOk P w K mg base (L2.CX P w) (k + 1) f fd ps (spI K ca c ps.length (runI c N.length g)) :=
  F.ok S (fun vs H Q E h => h.1) fun cdv A outer s H vs Q E hr h => by
    obtain ⟨l, B, G, ds, a, C, dx, us, rfl, hc, ha, hb', s1, s2, at_, q⟩ := h
    have l2 := at_.length
    have l3 : us.length + 1 = ps.length := l
    exact body_okI rfl (hb cdv A outer s H E hr) (fun _ _ _ _ z => z) (by omega) hc ha hb' s1 s2 at_ q
structure FDI (K : PySem.W.Frag) (qual : Str) (st : Stmt) (dd : List D) (kd : List (Str × D)) (f : Addr) (fd : FuncData) : Prop where
  ex : ∃ dvs, FunD K "__init__" qual (defArgs st) (defBody st) (defScope st) dvs (kwV kd) f fd ∧ ∀ ca G, AtL K ca G dd dvs
theorem FDI.of_flat {K : PySem.W.Frag} {qual : Str} {st : Stmt} {dd : List D} {kd : List (Str × D)} {f : Addr} {fd : FuncData} (F : FD K "__init__" qual st dd kd f fd) (h : dd.all flatD = true) : FDI K qual st dd kd f fd := ⟨_, F, fun ca G => flats_at h⟩
theorem FDI.fd {K : PySem.W.Frag} {qual : Str} {st : Stmt} {kd : List (Str × D)} {f : Addr} {fd : FuncData} (F : FDI K qual st [] kd f fd) : FD K "__init__" qual st [] kd f fd := by
  obtain ⟨dvs, h, a⟩ := F.ex
  have := a ⟨fun _ => none, fun _ => Str.empty, fun _ _ _ => False⟩ (fun _ => none)
  cases this
  exact h
structure DefI (P : Program) (w : World) (K : PySem.W.Frag) (mg : Str → Option Value) (base : Heap) (ca : Cn) (k c : Nat) (x qual : Str) (st : Stmt) (dd : List D) (kd : List (Str × D)) (ps : List Str) (F : Addr → List D → R (List (Nat × D))) : Prop where
  ex : ∃ f fd C, FnOk P w K mg base (L2.CX P w) k f fd ps (spI K ca c ps.length F) ∧ Mk K C f ∧ ca.a c = some C ∧ mg x = some (.ref C) ∧ FDI K qual st dd kd f fd
structure ClAt (K : PySem.W.Frag) (mg : Str → Option Value) (ca : Cn) (c : Nat) (x qual : Str) (st : Stmt) (dd : List D) (kd : List (Str × D)) : Prop where
  ex : ∃ f fd C, FDI K qual st dd kd f fd ∧ Mk K C f ∧ ca.a c = some C ∧ mg x = some (.ref C)
variable {x qual : Str} {st : Stmt} {dd : List D} {kd : List (Str × D)} {ps N : List Str} {k c : Nat} {g : Ev → SO}
theorem DefI.of (h : ClAt K mg ca c x qual st dd kd) (S : FnScope N ps (defScope st)) (hN : ps.length ≤ N.length) (hb : ∀ (f : Addr) (cdv : Value) (A : Around) (outer : List Env) (s : Shared) (H : Hp) (E : XK), Room k (A.deeper (envOfC qual (defScope st) s.heap.objs.size f cdv)) →
      FSs (cxOf (L2.CX P w) P w K mg base N qual (defScope st) f cdv A outer s H E) ca (fun c d _ H' => E c d H') (defBody st) g) : DefI P w K mg base ca (k + 1) c x qual st dd kd ps (runI c N.length g) := by
  obtain ⟨f, fd, C, F, h1, h2, h3⟩ := h.ex
  obtain ⟨dvs, F1, _⟩ := F.ex
  exact ⟨f, fd, C, fn_okI F1 S hN (hb f), h1, h2, h3, F⟩
end
noncomputable def unA {α : Type} (F : Addr → R α) : R α := by
  classical exact if ∀ a, F a = F 0 then F 0 else .bad
theorem unA_eq {α : Type} {F : Addr → R α} {r : R α} (h : ∀ a, F a = r) : unA F = r := by
  classical
  unfold unA
  rw [if_pos (fun a => (h a).trans (h 0).symm), h 0]
theorem unA_at {α : Type} {F : Addr → R α} (a : Addr) : F a = unA F ∨ unA F = .bad := by
  classical
  unfold unA
  by_cases h : ∀ a, F a = F 0
  · rw [if_pos h]; exact .inl (h a)
  · rw [if_neg h]; exact .inr rfl
noncomputable def nMake (c n : Nat) (F : Addr → List D → R (List (Nat × D))) (fa : Ev → R (List D)) : Ev → R Sl := fun ρ => (fa ρ).bind fun ds => if ds.length + 1 = n then (unA fun a => F a ds).bind fun fs => .ok (.o none c fs) else .bad
structure KBI (K : PySem.W.Frag) (ca : Cn) (fd : FuncData) (ps : List Str) (n : Nat) (ks : List Str) (gD : List D → List D → List D) : Prop where
  ex : ∃ g gV, KBn K fd ps (n + 1) ks g gV ∧ ∀ x vs zs, ∃ us, gV (x :: vs) zs = x :: us ∧ ∀ G ds ws, AtL K ca G ds vs → AtL K ca G ws zs → AtL K ca G (gD ds ws) us
noncomputable def nMakeK (c n m p : Nat) (F : Addr → List D → R (List (Nat × D))) (gD : List D → List D → List D) (fa fk : Ev → R (List D)) : Ev → R Sl := fun ρ => (fa ρ).bind fun ds => (fk ρ).bind fun zs => if ds.length = n ∧ zs.length = m ∧ (gD ds zs).length + 1 = p then (unA fun a => F a (gD ds zs)).bind fun fs => .ok (.o none c fs) else .bad
section
variable {X : Cx} {ca : Cn} {W : WX} {k j c n : Nat} {x qual : Str} {st : Stmt} {dd : List D} {kd : List (Str × D)} {ps ks : List Str} {Fn : Addr → List D → R (List (Nat × D))} {p pos : Pos} {e : Expr} {es : List Expr} {kws : List Keyword} {fa fk : Ev → R (List D)} {gD : List D → List D → List D}
theorem make_wish {K : PySem.W.Frag} {ca : Cn} {c np : Nat} {Fn : Addr → List D → R (List (Nat × D))} {G1 H1 H0 : Hp} {ds : List D} {vs : List V} {Q : VK} {E : XK} {C : Addr} (hc : ca.a c = some C) (h0 : Same H0 H1) (sg : Same G1 H1) (a1 : AtL K ca G1 ds vs) (hl : ds.length + 1 = np)
    (w1 : Wish K ca (SN K ca H0 Q) G1 H1 ((unA fun a => Fn a ds).bind fun fs => .ok (.o none c fs)) E) {a dx : Addr} (n1 : H1 a = none) (n2 : H1 dx = none) (ne : dx ≠ a) :
    spI K ca c np Fn (.ref a :: vs) (upd (upd H1 dx (.own a)) a (.ins C dx [])) (fun v H2 => v = .non ∧ Q (.ref a) H2) E := by
  refine ⟨by rw [List.length_cons, ← a1.length]; exact hl, H1, G1, ds, a, C, dx, vs, rfl, hc, upd_same, n1, (same_upd n2).trans (same_upd (by rw [upd_ne (Ne.symm ne)]; exact n1)), sg, a1, ?_⟩
  rcases unA_at (F := fun a => Fn a ds) a with q | q
  · have q : Fn a ds = unA fun a => Fn a ds := q
    rw [q]
    cases z : unA fun a => Fn a ds with
    | ok fs =>
      rw [z] at w1
      refine fun G' H' y oa ga => ⟨rfl, ?_⟩
      obtain ⟨C', dx', vs', hg, h5⟩ := id oa
      exact (w1 G' H' y).2 a ⟨C', dx', vs', (fun b e => by cases e), h5⟩ ga (same_none h0 n1)
    | exc x => rw [z] at w1; exact w1
    | bad => rw [z] at w1; exact w1.elim
  · have q : (unA fun a => Fn a ds) = .bad := q
    rw [q] at w1; exact w1.elim
theorem run_makeS {pins : List (Addr × Obj)} {σ : L2.St} {H : Hp} {s : Shared} {Q : VK} {us : List Value} {vs : List V} {f C : Addr} {fd : FuncData} {sp : Sp} {E : XK} (M : Mk X.K C f) (F : FnOk X.prog X.w X.K X.mg X.base (L2.CX X.prog X.w) k f fd ps sp) (hr : Room (k + 1) X.A) (hb : Binds X.K fd ps [])
    (hx : PassesAt (L2.CX X.prog X.w) X σ E) (I : Inv X pins σ H s) (r : Vals vs us)
    (h : ∀ x dx, H x = none → H dx = none → dx ≠ x → sp (.ref x :: vs) (upd (upd H dx (.own x)) x (.ins C dx [])) (fun v H2 => v = .non ∧ Q (.ref x) H2) E) :
    wpAny (model X.prog X.w) X.A (call (.ref C) us) (EP X pins σ Q) X.xe s := by
  have hq := h (s.heap.objs.size + 1) s.heap.objs.size (I.hok.fresh (Nat.le_succ _)) (I.hok.fresh (Nat.le_refl _)) (Nat.ne_of_lt (Nat.lt_succ_self _))
  have I2 := Inv.made (C := C) I
  have r2 : Vals (V.ref (s.heap.objs.size + 1) :: vs) (Value.ref (s.heap.objs.size + 1) :: us) := .cons rfl r
  have hl : (Value.ref (s.heap.objs.size + 1) :: us).length = ps.length := by
    have e := r2.length
    rw [F.len _ _ _ _ hq] at e
    exact e.symm
  have bt := hb _ (Value.ref (s.heap.objs.size + 1) :: us) I2.kIn (by rw [List.append_nil]; exact hl)
  rw [List.append_nil] at bt
  refine wpAny_call (make_map (f := f) I.kIn M.makes M.init (beq_iff_eq.mp M.fn) (codeAny_mono (F.run _ X.stack _ _ ⟨Value.ref (s.heap.objs.size + 1) :: us, []⟩ (Value.ref (s.heap.objs.size + 1) :: us) _ _ E (hr.make C us [])
    (I2.env0.make C us []) bt r2 hq) fun r s' hq' => ?_))
  cases r with
  | error e => exact hx pins _ _ e s' I2 hq'
  | ok fl =>
    cases fl with
    | ret u =>
      obtain ⟨v, H', I3, rv, ev, q3⟩ := I2.after hq'
      subst ev
      exact ⟨rv, ⟨V.ref (s.heap.objs.size + 1), H', I3, rfl, q3⟩⟩
    | next => exact False.elim hq'
    | brk => exact False.elim hq'
    | cont => exact False.elim hq'
theorem run_makeKS {pins : List (Addr × Obj)} {σ : L2.St} {H : Hp} {s : Shared} {Q : VK} {us ws : List Value} {vs zs : List V} {f C : Addr} {fd : FuncData} {sp : Sp} {E : XK} {g : List Value → List Value → List Value} {gV : List V → List V → List V} (M : Mk X.K C f) (F : FnOk X.prog X.w X.K X.mg X.base (L2.CX X.prog X.w) k f fd ps sp) (hr : Room (k + 1) X.A) (hb : KBn X.K fd ps (n + 1) ks g gV)
    (hx : PassesAt (L2.CX X.prog X.w) X σ E) (I : Inv X pins σ H s) (r : Vals vs us) (rz : Vals zs ws) (l1 : vs.length = n) (l2 : zs.length = ks.length)
    (h : ∀ x dx, H x = none → H dx = none → dx ≠ x → sp (gV (.ref x :: vs) zs) (upd (upd H dx (.own x)) x (.ins C dx [])) (fun v H2 => v = .non ∧ Q (.ref x) H2) E) :
    wpAny (model X.prog X.w) X.A (call (.ref C) us (ks.zip ws)) (EP X pins σ Q) X.xe s := by
  have hq := h (s.heap.objs.size + 1) s.heap.objs.size (I.hok.fresh (Nat.le_succ _)) (I.hok.fresh (Nat.le_refl _)) (Nat.ne_of_lt (Nat.lt_succ_self _))
  have I2 := Inv.made (C := C) I
  have r1 : Vals (V.ref (s.heap.objs.size + 1) :: vs) (Value.ref (s.heap.objs.size + 1) :: us) := .cons rfl r
  have r2 := hb.rel r1 rz
  have e1 : (Value.ref (s.heap.objs.size + 1) :: us).length = n + 1 := r1.length.symm.trans (congrArg Nat.succ l1)
  have e2 : ws.length = ks.length := rz.length.symm.trans l2
  refine wpAny_call (make_map (f := f) I.kIn M.makes M.init (beq_iff_eq.mp M.fn) (codeAny_mono (F.run _ X.stack _ _ ⟨Value.ref (s.heap.objs.size + 1) :: us, ks.zip ws⟩ (g (Value.ref (s.heap.objs.size + 1) :: us) ws) _ _ E (hr.make C us (ks.zip ws))
    (I2.env0.make C us (ks.zip ws)) (hb.to _ (Value.ref (s.heap.objs.size + 1) :: us) ws I2.kIn e1 e2) r2 hq) fun r s' hq' => ?_))
  cases r with
  | error e => exact hx pins _ _ e s' I2 hq'
  | ok fl =>
    cases fl with
    | ret u =>
      obtain ⟨v, H', I3, rv, ev, q3⟩ := I2.after hq'
      subst ev
      exact ⟨rv, ⟨V.ref (s.heap.objs.size + 1), H', I3, rfl, q3⟩⟩
    | next => exact False.elim hq'
    | brk => exact False.elim hq'
    | cont => exact False.elim hq'
theorem fn_make (d : DefI X.prog X.w X.K X.mg X.base ca k c x qual st dd kd ps Fn) (hb : ∀ {f fd}, FDI X.K qual st dd kd f fd → Binds X.K fd ps []) (hr : Room j X.A) (tk : Takes X W) (ha : FA X ca W (e :: es) fa) (hk : k + 1 ≤ j := by decide) (hg : Gl X x := by rfl) (hdb : (x == ("__debug__" : Str)) = false := by decide)
    (he : starEach (e :: es) X.env = (false, eval e X.env) :: starEach es X.env := by rfl) (hpl : (backTo pos (starEach es X.env)).any (·.1) = false := by rfl) : FN X ca W (.Call (.Name x p) (e :: es) [] pos) (nMake c ps.length Fn fa) := by
  obtain ⟨f, fd, C, F, M, hc, hm, h2⟩ := d.ex
  obtain ⟨t, pa, kt⟩ := ha.ex
  refine ⟨fun σ H Q => t σ H fun vs H1 => ∀ a dx, H1 a = none → H1 dx = none → dx ≠ a → spI X.K ca c ps.length Fn (.ref a :: vs) (upd (upd H1 dx (.own a)) a (.ins C dx [])) (fun v H2 => v = .non ∧ Q (.ref a) H2) (WE W σ), ⟨fun pins s σ H Q I h => ?_⟩, fun B G H σ ρ Q s b r h => ?_⟩
  · refine wpAny_Call_Name_kw (ld_glob I hg hm ?_ hdb)
    refine PySem.W.callWith_K (h₀ := X.base) I.ok.mod.kin M.kp (thn (pa.run pos pins s σ H _ I h) fun us s1 ⟨vs, H1, I1, r, q⟩ => ⟨I1.kIn, ?_⟩) he hpl
    exact run_makeS M F (hr.mono hk) (hb h2) (passAt tk σ) I1 r q
  · refine kt B G H σ ρ _ s b r (Wish.bind h fun ds G1 H1 _ x1 w1 vs a1 => ?_)
    intro a dx n1 n2 ne
    split at w1
    · rename_i hl
      exact make_wish hc x1.hh x1.gh a1 hl w1 n1 n2 ne
    · exact w1.elim
theorem fn_makeK (d : DefI X.prog X.w X.K X.mg X.base ca k c x qual st dd kd ps Fn) (hb : ∀ {f fd}, FDI X.K qual st dd kd f fd → KBI X.K ca fd ps n ks gD) (hr : Room j X.A) (tk : Takes X W) (ha : FA X ca W (e :: es) fa) (hkw : FK X ca W kws fk) (hk : k + 1 ≤ j := by decide) (hg : Gl X x := by rfl)
    (hall : (backToKw pos (keywordEach kws X.env)).all (·.1.isSome) = true := by rfl) (hks : (backToKw pos (keywordEach kws X.env)).filterMap (·.1) = ks := by rfl) (hdb : (x == ("__debug__" : Str)) = false := by decide)
    (he : starEach (e :: es) X.env = (false, eval e X.env) :: starEach es X.env := by rfl) (hpl : ((backTo pos (starEach (e :: es) X.env)).any (·.1) || (backToKw pos (keywordEach kws X.env)).any (·.1.isNone)) = false := by rfl) :
    FN X ca W (.Call (.Name x p) (e :: es) kws pos) (nMakeK c n ks.length ps.length Fn gD fa fk) := by
  obtain ⟨f, fd, C, F, M, hc, hm, h2⟩ := d.ex
  obtain ⟨t, pa, kt⟩ := ha.ex
  obtain ⟨u, pk, ku⟩ := hkw.ex
  obtain ⟨g, gV, hbn, hgd⟩ := (hb h2).ex
  refine ⟨fun σ H Q => t σ H fun vs H1 => u σ H1 fun zs H2 => vs.length = n ∧ zs.length = ks.length ∧ ∀ a dx, H2 a = none → H2 dx = none → dx ≠ a → spI X.K ca c ps.length Fn (gV (.ref a :: vs) zs) (upd (upd H2 dx (.own a)) a (.ins C dx [])) (fun v H3 => v = .non ∧ Q (.ref a) H3) (WE W σ), ⟨fun pins s σ H Q I h => ?_⟩, fun B G H σ ρ Q s b r h => ?_⟩
  · refine wpAny_Call_Name_kw (ld_glob I hg hm ?_ hdb)
    refine PySem.W.callWith_KW (h₀ := X.base) I.ok.mod.kin M.kp hall (thn (pa.run pos pins s σ H _ I h) fun us s1 ⟨vs, H1, I1, r1, q1⟩ => ?_) hpl he
    refine thn (pk.run pos pins s1 σ H1 _ I1 q1) fun ws s2 ⟨zs, H2, I2, r2, l1, l2, q2⟩ => ⟨I2.kIn, ?_⟩
    rw [hks]
    exact run_makeKS M F (hr.mono hk) hbn (passAt tk σ) I2 r1 r2 l1 l2 q2
  · refine kt B G H σ ρ _ s b r (Wish.bind h fun ds G1 H1 _ x1 w1 vs a1 => ?_)
    refine ku B G1 H1 σ ρ _ x1.gh (b.trans x1.hh) (r.ext x1) (Wish.bind w1 fun zs G2 H2 _ x2 w2 ws a2 => ?_)
    split at w2
    · rename_i hl
      refine ⟨by rw [← a1.length]; exact hl.1, by rw [← a2.length]; exact hl.2.1, fun a dx n1 n2 ne => ?_⟩
      obtain ⟨us, e, au⟩ := hgd (.ref a) vs ws
      rw [e]
      exact make_wish hc (x1.hh.trans x2.hh) x2.gh (au G2 ds zs (AtL.mono x2.gg a1) a2) hl.2.2 w2 n1 n2 ne
    · exact w2.elim
end
theorem pick_shift {α : Type} (x : α) (l : List α) : ∀ is : List Nat, (∀ i ∈ is, 1 ≤ i) → pickI is (x :: l) = pickI (is.map (· - 1)) l
  | [], _ => rfl
  | i :: is, h => by
    have h1 := h i List.mem_cons_self
    obtain ⟨j, rfl⟩ : ∃ j, i = j + 1 := ⟨i - 1, by omega⟩
    have ih := pick_shift x l is fun k m => h k (List.mem_cons_of_mem _ m)
    show (match (x :: l)[j + 1]? with | some a => a :: pickI is (x :: l) | none => pickI is (x :: l)) = (match l[j + 1 - 1]? with | some a => a :: pickI (is.map (· - 1)) l | none => pickI (is.map (· - 1)) l)
    rw [List.getElem?_cons_succ, Nat.add_sub_cancel, ih]
theorem kbi_of {K : PySem.W.Frag} {ca : Cn} {fd : FuncData} {ps ks : List Str} {n : Nat} {is : List Nat} {mid : List D} {its : List Value} (hm : mid.all flatD = true) (hv : Vals (mid.map toV) its) (hp : ∀ i ∈ is, 1 ≤ i)
    (to : ∀ (s : Shared) (us ws : List Value), K.In s.heap → us.length = n + 1 → ws.length = ks.length → BindsTo s fd ⟨us, ks.zip ws⟩ (ps.zip (pickI (0 :: is) (us ++ (its ++ ws))))) : KBI K ca fd ps n ks (gDk (is.map (· - 1)) mid) := by
  refine ⟨fun us ws => pickI (0 :: is) (us ++ (its ++ ws)), fun vs zs => pickI (0 :: is) (vs ++ (mid.map toV ++ zs)), ⟨to, fun r1 r2 => pick_vals (r1.append (hv.append r2)) (0 :: is)⟩, fun x vs zs => ⟨pickI (is.map (· - 1)) (vs ++ (mid.map toV ++ zs)), ?_, fun G ds ws a b => pick_at (a.append ((flats_at hm).append b)) _⟩⟩
  show (match (x :: (vs ++ (mid.map toV ++ zs)))[0]? with | some a => a :: pickI is (x :: (vs ++ (mid.map toV ++ zs))) | none => pickI is (x :: (vs ++ (mid.map toV ++ zs)))) = _
  rw [List.getElem?_cons_zero, pick_shift x _ is hp]
theorem KB.init {K : PySem.W.Frag} {fd : FuncData} {ps ks : List Str} {n : Nat} {is : List Nat} {mid : List D} (hm : mid.all flatD = true) (hp : ∀ i ∈ is, 1 ≤ i)
    (h : ∃ its : List Value, Vals (mid.map toV) its ∧ ∀ (s : Shared) (us ws : List Value), K.In s.heap → us.length = n + 1 → ws.length = ks.length → BindsTo s fd ⟨us, ks.zip ws⟩ (ps.zip (pickI (0 :: is) (us ++ (its ++ ws))))) {ca : Cn} : KBI K ca fd ps n ks (gDk (is.map (· - 1)) mid) := by
  obtain ⟨its, hv, to⟩ := h
  exact kbi_of hm hv hp to
structure MeAt (K : PySem.W.Frag) (ca : Cn) (c : Nat) (m qual : Str) (st : Stmt) (dd : List D) (kd : List (Str × D)) : Prop where
  ex : ∃ f fd C, FD K m qual st dd kd f fd ∧ ca.a c = some C ∧ Cls K C ∧ Meth K C m f
structure DefM (P : Program) (w : World) (K : PySem.W.Frag) (mg : Str → Option Value) (base : Heap) (ca : Cn) (k c : Nat) (m qual : Str) (st : Stmt) (dd : List D) (kd : List (Str × D)) (ps : List Str) (F : List D → R D) : Prop where
  ex : ∃ f fd C, FnOk P w K mg base (L2.CX P w) k f fd ps (spF K ca ps.length F) ∧ ca.a c = some C ∧ Cls K C ∧ Meth K C m f ∧ FD K m qual st dd kd f fd
section
variable {P : Program} {w : World} {K : PySem.W.Frag} {mg : Str → Option Value} {base : Heap} {ca : Cn} {m qual : Str} {st : Stmt} {dd : List D} {kd : List (Str × D)} {ps N : List Str} {k c : Nat} {g : Ev → SO}
theorem DefM.of (h : MeAt K ca c m qual st dd kd) (S : FnScope N ps (defScope st)) (hb : ∀ (f : Addr) (cdv : Value) (A : Around) (outer : List Env) (s : Shared) (H : Hp) (E : XK), Room k (A.deeper (envOfC qual (defScope st) s.heap.objs.size f cdv)) →
      FSs (cxOf (L2.CX P w) P w K mg base N qual (defScope st) f cdv A outer s H E) ca (fun c d _ H' => E c d H') (defBody st) g) : DefM P w K mg base ca (k + 1) c m qual st dd kd ps (runF N.length g) := by
  obtain ⟨f, fd, C, F, h1, h2, h3⟩ := h.ex
  exact ⟨f, fd, C, fn_okD F S (hb f), h1, h2, h3, F⟩
end
def insB (c nf : Nat) : D → Bool
  | .ins c' fs => decide (c' = c) && fs.all fun p => decide (p.1 < nf)
  | _ => false
def eMeth (c nf n : Nat) (F : List D → R D) (fo : Ev → R D) (fa : Ev → R (List D)) : Ev → R D := fun ρ => (fo ρ).bind fun d => if insB c nf d = true then (fa ρ).bind fun ds => if ds.length + 1 = n then F (d :: ds) else .bad else .bad
def eMethK (c nf n m p : Nat) (F : List D → R D) (gD : List D → List D → List D) (fo : Ev → R D) (fa fk : Ev → R (List D)) : Ev → R D := fun ρ => (fo ρ).bind fun d => if insB c nf d = true then (fa ρ).bind fun ds => (fk ρ).bind fun zs => if ds.length = n ∧ zs.length = m ∧ (gD ds zs).length + 1 = p then F (d :: gD ds zs) else .bad else .bad
section
variable {X : Cx} {ca : Cn} {W : WX} {k j c nf n : Nat} {m qual : Str} {st : Stmt} {dd : List D} {kd : List (Str × D)} {ps ks : List Str} {Fn : List D → R D} {apos pos : Pos} {o e : Expr} {es : List Expr} {kws : List Keyword} {fo : Ev → R D} {fa fk : Ev → R (List D)} {gD : List D → List D → List D}
theorem ins_at {K : PySem.W.Frag} {ca : Cn} {G : Hp} {c nf : Nat} {d : D} {v : V} {m : Str} {C : Addr} (hc : ca.a c = some C) (hm : ∀ k, k < nf → ca.n k ≠ m) (h : insB c nf d = true) (a : At K ca G d v) : ∃ p dx vs, v = .ref p ∧ G p = some (.ins C dx vs) ∧ vs.lookup m = none := by
  cases d with
  | ins c' fs =>
    obtain ⟨h1, h2⟩ := Bool.and_eq_true_iff.mp (show (decide (c' = c) && fs.all fun p => decide (p.1 < nf)) = true from h)
    have e : c' = c := of_decide_eq_true h1
    subst e
    obtain ⟨p, C', dx, vs, rfl, q1, q2, q3⟩ := a
    rw [hc] at q1
    cases q1
    exact ⟨p, dx, vs, rfl, q2, q3.lookup_none fun p mp => hm _ (of_decide_eq_true (List.all_eq_true.mp h2 p mp))⟩
  | _ => cases h
theorem fe_meth {pl : Sem Bool} (d : DefM X.prog X.w X.K X.mg X.base ca k c m qual st dd kd ps Fn) (hmn : ∀ k, k < nf → ca.n k ≠ m) (hb : ∀ {f fd}, FD X.K m qual st dd kd f fd → Binds X.K fd ps []) (hr : Room j X.A) (tk : Takes X W) (ho : FE X ca W o fo) (ha : FA X ca W (e :: es) fa) (hk : k ≤ j := by decide)
    (he : starEach (e :: es) X.env = (false, eval e X.env) :: starEach es X.env := by rfl) (hpl : (backTo pos (starEach es X.env)).any (·.1) = false := by rfl)
    (ht : eval (.Call (.Attribute o m apos) (e :: es) [] pos) X.env = (do
      let ov ← eval o X.env
      standAt apos.atName
      let (f, first) ← holding [ov] (getMethod ov m pl)
      callWith pos f first (backTo pos (starEach (e :: es) X.env)) (backToKw pos (keywordEach [] X.env))) := by rfl) :
    FE X ca W (.Call (.Attribute o m apos) (e :: es) [] pos) (eMeth c nf ps.length Fn fo fa) := by
  obtain ⟨f, fd, C, F, hc, cl, hm, h2⟩ := d.ex
  obtain ⟨to, po, ko⟩ := ho.ex
  obtain ⟨t, pa, kt⟩ := ha.ex
  refine ⟨fun σ H Q => to σ H fun x H1 => ∃ a dx fs, x = .ref a ∧ H1 a = some (.ins C dx fs) ∧ fs.lookup m = none ∧ t σ H1 fun vs H2 => spF X.K ca ps.length Fn (x :: vs) H2 Q (WE W σ), ⟨fun pins s σ H Q I h => ?_⟩, fun B G H σ ρ Q s b r h => ?_⟩
  · refine PySem.W.methodCall_KW (pl := pl) (thn (po.run pins s σ H _ I h) fun u s1 ⟨x, H1, I1, rx, a, dx, fs, ex, ea, l, q⟩ => ?_) ht
    subst ex
    obtain rfl : u = Value.ref a := rx
    refine getmeth_ok I1 ea cl hm l ?_
    refine PySem.W.callWith_K (first := [.ref a]) (h₀ := X.base) I.ok.mod.kin hm.kp (thn (pa.run pos pins s1 σ H1 _ I1 q) fun us s2 ⟨vs, H2, I2, r, q2⟩ => ⟨I2.kIn, ?_⟩) he hpl
    exact run_fnS (us := .ref a :: us) (vs := .ref a :: vs) (E := WE W) F (hr.mono hk) (hb h2) (passAt tk σ) I2 (.cons rfl r) q2
  · refine ko B G H σ ρ _ s b r (Wish.bind h fun d G1 H1 _ x1 w1 v av => ?_)
    split at w1
    · rename_i hi
      obtain ⟨p, dx, vs, rfl, g1, l1⟩ := ins_at hc hmn hi av
      refine ⟨p, dx, vs, rfl, x1.gh _ _ g1, l1, ?_⟩
      refine kt B G1 H1 σ ρ _ x1.gh (b.trans x1.hh) (r.ext x1) (Wish.bind w1 fun ds G2 H2 _ x2 w2 ws a2 => ?_)
      split at w2
      · rename_i hl
        exact ⟨by rw [List.length_cons, ← a2.length]; exact hl, G2, d :: ds, x2.gh, ⟨_, _, rfl, At.mono x2.gg av, a2⟩, w2⟩
      · exact w2.elim
    · exact w1.elim
theorem fe_meth0 {pl : Sem Bool} (d : DefM X.prog X.w X.K X.mg X.base ca k c m qual st dd kd ps Fn) (hmn : ∀ k, k < nf → ca.n k ≠ m) (hb : ∀ {f fd}, FD X.K m qual st dd kd f fd → Binds X.K fd ps []) (hr : Room j X.A) (tk : Takes X W) (ho : FE X ca W o fo) (hk : k ≤ j := by decide)
    (ht : eval (.Call (.Attribute o m apos) [] [] pos) X.env = (do
      let ov ← eval o X.env
      standAt apos.atName
      let (f, first) ← holding [ov] (getMethod ov m pl)
      callWith pos f first (backTo pos (starEach [] X.env)) (backToKw pos (keywordEach [] X.env))) := by rfl) :
    FE X ca W (.Call (.Attribute o m apos) [] [] pos) (eMeth c nf ps.length Fn fo aN) := by
  obtain ⟨f, fd, C, F, hc, cl, hm, h2⟩ := d.ex
  obtain ⟨to, po, ko⟩ := ho.ex
  refine ⟨fun σ H Q => to σ H fun x H1 => ∃ a dx fs, x = .ref a ∧ H1 a = some (.ins C dx fs) ∧ fs.lookup m = none ∧ spF X.K ca ps.length Fn [x] H1 Q (WE W σ), ⟨fun pins s σ H Q I h => ?_⟩, fun B G H σ ρ Q s b r h => ?_⟩
  · refine PySem.W.methodCall_KW (pl := pl) (thn (po.run pins s σ H _ I h) fun u s1 ⟨x, H1, I1, rx, a, dx, fs, ex, ea, l, q⟩ => ?_) ht
    subst ex
    obtain rfl : u = Value.ref a := rx
    refine getmeth_ok I1 ea cl hm l ?_
    exact PySem.W.callWith_K0 (first := [.ref a]) I1.kIn hm.kp (run_fnS (us := [.ref a]) (vs := [.ref a]) (E := WE W) F (hr.mono hk) (hb h2) (passAt tk σ) I1 (.cons rfl .nil) q)
  · refine ko B G H σ ρ _ s b r (Wish.bind h fun d G1 H1 _ x1 w1 v av => ?_)
    split at w1
    · rename_i hi
      obtain ⟨p, dx, vs, rfl, g1, l1⟩ := ins_at hc hmn hi av
      refine ⟨p, dx, vs, rfl, x1.gh _ _ g1, l1, ?_⟩
      have w2 : Wish X.K ca (SV X.K ca Q) G1 H1 (if ([] : List D).length + 1 = ps.length then Fn [d] else .bad) (WE W σ) := w1
      split at w2
      · rename_i hl
        exact ⟨hl, G1, [d], x1.gh, ⟨_, _, rfl, av, rfl⟩, w2⟩
      · exact w2.elim
    · exact w1.elim
theorem fe_methK0 {pl : Sem Bool} (d : DefM X.prog X.w X.K X.mg X.base ca k c m qual st dd kd ps Fn) (hmn : ∀ k, k < nf → ca.n k ≠ m) (hb : ∀ {f fd}, FD X.K m qual st dd kd f fd → KBI X.K ca fd ps 0 ks gD) (hr : Room j X.A) (tk : Takes X W) (ho : FE X ca W o fo) (hkw : FK X ca W kws fk) (hk : k ≤ j := by decide)
    (hall : (backToKw pos (keywordEach kws X.env)).all (·.1.isSome) = true := by rfl) (hks : (backToKw pos (keywordEach kws X.env)).filterMap (·.1) = ks := by rfl)
    (hpl : ((backTo pos (starEach [] X.env)).any (·.1) || (backToKw pos (keywordEach kws X.env)).any (·.1.isNone)) = false := by rfl)
    (ht : eval (.Call (.Attribute o m apos) [] kws pos) X.env = (do
      let ov ← eval o X.env
      standAt apos.atName
      let (f, first) ← holding [ov] (getMethod ov m pl)
      callWith pos f first (backTo pos (starEach [] X.env)) (backToKw pos (keywordEach kws X.env))) := by rfl) :
    FE X ca W (.Call (.Attribute o m apos) [] kws pos) (eMethK c nf 0 ks.length ps.length Fn gD fo aN fk) := by
  obtain ⟨f, fd, C, F, hc, cl, hm, h2⟩ := d.ex
  obtain ⟨to, po, ko⟩ := ho.ex
  obtain ⟨u, pk, ku⟩ := hkw.ex
  obtain ⟨g, gV, hbn, hgd⟩ := (hb h2).ex
  refine ⟨fun σ H Q => to σ H fun x H1 => ∃ a dx fs, x = .ref a ∧ H1 a = some (.ins C dx fs) ∧ fs.lookup m = none ∧ u σ H1 fun zs H3 => zs.length = ks.length ∧ spF X.K ca ps.length Fn (gV [x] zs) H3 Q (WE W σ), ⟨fun pins s σ H Q I h => ?_⟩, fun B G H σ ρ Q s b r h => ?_⟩
  · refine PySem.W.methodCall_KW (pl := pl) (thn (po.run pins s σ H _ I h) fun u s1 ⟨x, H1, I1, rx, a, dx, fs, ex, ea, l, q⟩ => ?_) ht
    subst ex
    obtain rfl : u = Value.ref a := rx
    refine getmeth_ok I1 ea cl hm l ?_
    refine PySem.W.callWith_KW0 (first := [.ref a]) (h₀ := X.base) I.ok.mod.kin hm.kp hall (thn (pk.run pos pins s1 σ H1 _ I1 q) fun ws s3 ⟨zs, H3, I3, r3, l2, q3⟩ => ⟨I3.kIn, ?_⟩) hpl
    rw [hks]
    exact run_kb (us := [.ref a]) (vs := [.ref a]) F (hr.mono hk) hbn (passAt tk σ) I3 (.cons rfl .nil) r3 rfl l2 q3
  · refine ko B G H σ ρ _ s b r (Wish.bind h fun d G1 H1 _ x1 w1 v av => ?_)
    split at w1
    · rename_i hi
      obtain ⟨p, dx, vs, rfl, g1, l1⟩ := ins_at hc hmn hi av
      refine ⟨p, dx, vs, rfl, x1.gh _ _ g1, l1, ?_⟩
      refine ku B G1 H1 σ ρ _ x1.gh (b.trans x1.hh) (r.ext x1) (Wish.bind (show Wish X.K ca (SV X.K ca Q) G1 H1 ((fk ρ).bind fun zs => if ([] : List D).length = 0 ∧ zs.length = ks.length ∧ (gD [] zs).length + 1 = ps.length then Fn (d :: gD [] zs) else .bad) (WE W σ) from w1) fun zs G3 H3 _ x3 w3 us a3 => ?_)
      split at w3
      · rename_i hl
        obtain ⟨ys, e, au⟩ := hgd (.ref p) [] us
        have a4 := au G3 [] zs rfl a3
        exact ⟨by rw [← a3.length]; exact hl.2.1, by rw [e, List.length_cons, ← a4.length]; exact hl.2.2, G3, d :: gD [] zs, x3.gh, by rw [e]; exact ⟨_, _, rfl, At.mono x3.gg av, a4⟩, w3⟩
      · exact w3.elim
    · exact w1.elim
end
inductive Kd where
  | ty (n : String) | cl (c : Nat)
deriving DecidableEq
end Tk
namespace Tk
open PySem PySem.Spec L2 PyProof.Rows
def lCat (f g : Ev → R D) : Ev → R (List D) := fun ρ => (f ρ).bind fun a => (g ρ).bind fun b => match a, b with
  | .lst xs, .lst ys => if xs.length + ys.length ≤ sizeLine then .ok (xs ++ ys) else .bad
  | _, _ => .bad
theorem fl_cat {X : Cx} {ca : Cn} {W : WX} {a b : Expr} {fa fb : Ev → R D} {pos : Pos} (ha : FE X ca W a fa) (hb : FE X ca W b fb) : FL X ca W (.BinOp a .Add b pos) (lCat fa fb) := by
  obtain ⟨ta, pa, ka⟩ := ha.ex
  obtain ⟨tb, pb, kb⟩ := hb.ex
  refine ⟨_, pe_op op_cat pa pb, fun B G H σ ρ Q s b r h => ?_⟩
  refine ka B G H σ ρ _ s b r (Wish.bind (S := fun G' ds H' => ∀ p vs, H p = none → G' p = none → H' p = some (.lst vs) → AtL X.K ca G' ds vs → Q (.ref p) H') h fun d G1 H1 _ x1 w1 v a1 => ?_)
  refine kb B G1 H1 σ ρ _ x1.gh (b.trans x1.hh) (r.ext x1) (Wish.bind w1 fun d2 G2 H2 _ x2 w2 v2 a2 => ?_)
  split at w2
  · split at w2
    · rename_i xs ys hz
      obtain ⟨p, vs, rfl, h1, h2⟩ := a1
      obtain ⟨q, ws, rfl, h3, h4⟩ := a2
      have h2' := AtL.mono x2.gg h2
      refine ⟨p, q, vs, ws, rfl, rfl, x2.gh _ _ (x2.gg _ _ h1), x2.gh _ _ h3, by rw [← h2.length, ← h4.length]; exact hz, fun l n => ?_⟩
      exact w2 G2 (upd H2 l (.lst (vs ++ ws))) ⟨same_upd n, .refl _, x2.gh.trans (same_upd n), fun c z => .inl z⟩ l _ (same_none (x1.hh.trans x2.hh) n) (same_none x2.gh n) upd_same (h2'.append h4)
    · exact w2.elim
  · exact w2.elim
def noOwn : Ev → Bool
  | [] => true
  | .v _ :: ρ => noOwn ρ
  | .no :: ρ => noOwn ρ
  | _ :: _ => false
theorem noOwn_mem : ∀ {ρ : Ev}, noOwn ρ = true → ∀ s ∈ ρ, s.own = false
  | [], _, _, m => by cases m
  | .v d :: ρ, h, s, m => by
    rcases List.mem_cons.mp m with rfl | m
    · rfl
    · exact noOwn_mem (show noOwn ρ = true from h) s m
  | .no :: ρ, h, s, m => by
    rcases List.mem_cons.mp m with rfl | m
    · rfl
    · exact noOwn_mem (show noOwn ρ = true from h) s m
  | .l _ :: _, h, _, _ => by cases h
  | .k _ :: _, h, _, _ => by cases h
  | .t _ :: _, h, _, _ => by cases h
  | .o _ _ _ :: _, h, _, _ => by cases h
theorem noOwn_tr : ∀ {ρ : Ev} {i : Nat} {t : OT}, noOwn ρ = true → ρ[i]? = some (.tr t) → False
  | s :: ρ, 0, t, h, e => by
    cases e
    cases h
  | s :: ρ, i + 1, t, h, e => by
    have h2 : noOwn ρ = true := by
      cases s <;> first | exact h | cases h
    exact noOwn_tr h2 (by simpa using e)
theorem noOwn_set : ∀ {ρ : Ev} (i : Nat), noOwn ρ = true → noOwn (ρ.set i .no) = true
  | [], _, _ => rfl
  | .v _ :: ρ, 0, h => h
  | .no :: ρ, 0, h => h
  | .v _ :: ρ, i + 1, h => noOwn_set (ρ := ρ) i h
  | .no :: ρ, i + 1, h => noOwn_set (ρ := ρ) i h
  | .l _ :: _, _, h => by cases h
  | .k _ :: _, _, h => by cases h
  | .t _ :: _, _, h => by cases h
  | .o _ _ _ :: _, _, h => by cases h
theorem noOwn_wipe {ρ : Ev} (h : noOwn ρ = true) : ∀ zs : List Nat, noOwn (wipeE ρ zs) = true
  | [] => h
  | z :: zs => noOwn_set z (noOwn_wipe h zs)
theorem Rel.moved {K : PySem.W.Frag} {ca : Cn} {B G H H' : Hp} {σ : L2.St} {ρ : Ev} (n : noOwn ρ = true) (r : Rel K ca B G H σ ρ) : Rel K ca B G H' σ ρ :=
  ⟨r.len, r.val, fun i s e o => (by have := noOwn_mem n s (List.mem_of_getElem? e); rw [o] at this; cases this), fun i j s t a e o _ _ _ _ => (by have := noOwn_mem n s (List.mem_of_getElem? e); rw [o] at this; cases this), r.exc, _, .none fun i t e => noOwn_tr n e⟩
def lc2L (h : Tg) (t : Ev → R Bool) (fi : Ev → R (List D)) (zs1 : List Nat) (h1 : Tg) (t1 : Ev → R Bool) (fe : Ev → R D) (ρ : Ev) : List D → R (List D)
  | [] => .ok []
  | d :: ds => (optR (h d ρ)).bind fun ρ1 => if noOwn ρ1 = true then (t ρ1).quiet.bind fun b => if b = true then (fi ρ1).quiet.bind fun es => (lcL h1 t1 fe (wipeE ρ1 zs1) es).quiet.bind fun ys => (lc2L h t fi zs1 h1 t1 fe ρ ds).quiet.bind fun rs => .ok (ys ++ rs) else lc2L h t fi zs1 h1 t1 fe ρ ds else .bad
def finL (xs : List D) : R (List D) := if xs.length ≤ sizeLine then .ok xs else .bad
def lLc2 (zs : List Nat) (fi0 : Ev → R (List D)) (h : Tg) (t : Ev → R Bool) (fi : Ev → R (List D)) (zs1 : List Nat) (h1 : Tg) (t1 : Ev → R Bool) (fe : Ev → R D) : Ev → R (List D) := fun ρ => (fi0 ρ).bind fun ds => (lc2L h t fi zs1 h1 t1 fe (wipeE ρ zs) ds).quiet.bind finL
def tIc (K : PySem.W.Frag) (ca : Cn) (W : WX) (fi : Ev → R (List D)) : TI := fun σ H Q => ∃ B G ρ, Same G H ∧ Same B H ∧ Rel K ca B G H σ ρ ∧ Wish K ca (fun G' ds H' => ∀ J, JOk K ca G' J ds → Q J H') G H (fi ρ) (WE W σ)
theorem FI.can {X : Cx} {ca : Cn} {W : WX} {tg iter : Expr} {fi : Ev → R (List D)} (a : FI X ca W tg iter fi) : PI X tg iter (tIc X.K ca W fi) := by
  obtain ⟨t, p, k⟩ := a.ex
  exact ⟨fun pins s σ H Q I ⟨B, G, ρ, h1, h2, h3, h4⟩ => p.run pins s σ H Q I (k B G H σ ρ Q h1 h2 h3 h4)⟩
structure LcI (K : PySem.W.Frag) (ca : Cn) (B G1 H1 : Hp) (D : Addr) (σw : L2.St) (ρw : Ev) (G : Hp) (acc : List Tk.D) (vs : List V) (H : Hp) : Prop where
  ext : Ext G1 H1 G H
  gD : G D = none
  hD : H D = some (.lst vs)
  at_ : AtL K ca G acc vs
  b : Same B H
  r : Rel K ca B G H σw ρw
section
variable {K : PySem.W.Frag} {ca : Cn} {B G1 H1 G H G' H' : Hp} {D : Addr} {σw : L2.St} {ρw : Ev} {acc : List Tk.D} {vs : List V}
theorem LcI.go (i : LcI K ca B G1 H1 D σw ρw G acc vs H) (x : Ext G H G' H') : LcI K ca B G1 H1 D σw ρw G' acc vs H' := by
  refine ⟨i.ext.trans x, ?_, x.hh _ _ i.hD, AtL.mono x.gg i.at_, i.b.trans x.hh, i.r.ext x⟩
  cases q : G' D with
  | none => rfl
  | some u =>
    rcases x.nw D (by rw [q]; simp) with z | z
    · exact absurd i.gD z
    · exact (z.no i.hD fun _ y => nomatch y).elim
theorem LcI.push (i : LcI K ca B G1 H1 D σw ρw G acc vs H) (n1 : H1 D = none) (nb : B D = none) (no : noOwn ρw = true) {y : Tk.D} {v : V} (a : At K ca G y v) : LcI K ca B G1 H1 D σw ρw G (acc ++ [y]) (vs ++ [v]) (upd H D (.lst (vs ++ [v]))) := by
  have nD : ∀ c o, H1 c = some o → c ≠ D := fun c o q z => by rw [z, n1] at q; cases q
  have nG : ∀ c o, G c = some o → c ≠ D := fun c o q z => by rw [z, i.gD] at q; cases q
  have nB : ∀ c o, B c = some o → c ≠ D := fun c o q z => by rw [z, nb] at q; cases q
  exact ⟨⟨fun c o q => by rw [upd_ne (nD c o q)]; exact i.ext.hh c o q, i.ext.gg, fun c o q => by rw [upd_ne (nG c o q)]; exact i.ext.gh c o q, i.ext.nw⟩, i.gD, upd_same, i.at_.append (.one a), fun c o q => by rw [upd_ne (nB c o q)]; exact i.b c o q, i.r.moved no⟩
end
section
variable {X : Cx} {ca : Cn} {W : WX} {zs zs1 : List Nat} {elt tg iter tg1 iter1 : Expr} {ifs ifs1 : List Expr} {scope : Scope} {own : List (Str × Nat)} {pos : Pos} {fi0 fi : Ev → R (List D)} {h h1 : Tg} {ft ft1 : Ev → R Bool} {fe : Ev → R D}
theorem lc2_tail {tl : TI} (ki : ∀ B G H σ ρ (Q : It → Hp → Prop), Same G H → Same B H → Rel X.K ca B G H σ ρ → Wish X.K ca (fun G' ds H' => ∀ J, JOk X.K ca G' J ds → Q J H') G H (fi0 ρ) (WE W σ) → tl σ H Q) (hv : ∀ i ∈ zs1, i ∈ zs)
    (B G H : Hp) (σ : L2.St) (ρ : Ev) (Hx : Hp) (Q : VK) (s : Same G H) (b : Same B H) (r : Rel X.K ca B G H σ ρ) (hx : Same Hx H) (hn : noOwn (wipeE ρ zs) = true) (w : Wish X.K ca (SF X.K ca Hx Q) G H (lLc2 zs fi0 h ft fi zs1 h1 ft1 fe ρ) (WE W σ)) :
    tLc2 tl (tGc X.K ca zs h) (tT X.K ca W0 ft) (tIc X.K ca W0 fi) (tGc X.K ca zs1 h1) (tT X.K ca W0 ft1) (tE X.K ca W0 fe) zs zs1 σ H Q := by
  refine ki B G H σ ρ _ s b r (Wish.bind w fun ds G1 H1 _ x1 w1 J hj => ?_)
  intro D hD
  have gD : G1 D = none := same_none x1.gh hD
  have b1 := b.trans x1.hh
  have bD : B D = none := same_none b1 hD
  have r1 := (r.ext x1).wipe zs
  have e0 : Ext G1 H1 G1 (upd H1 D (.lst [])) := ⟨same_upd hD, .refl _, x1.gh.trans (same_upd hD), fun a z => .inl z⟩
  refine ⟨fun i m H => m = ds.length - i ∧ i ≤ ds.length ∧ ∃ G acc vs, LcI X.K ca B G1 H1 D (L2.wipe σ zs) (wipeE ρ zs) G acc vs H ∧ Wish X.K ca (SF X.K ca Hx Q) G1 H1 ((lc2L h ft fi zs1 h1 ft1 fe (wipeE ρ zs) (ds.drop i)).quiet.bind fun rs => finL (acc ++ rs)) (WE W σ),
    ⟨_, rfl, Nat.zero_le _, G1, [], [], ⟨e0, gD, upd_same, rfl, b1.trans e0.hh, r1.ext e0⟩, by rw [List.drop_zero]; exact w1⟩, ?_⟩
  rintro i m H2 ⟨rfl, hi, G2, acc, vs, I2, w2⟩
  obtain ⟨j1, j2⟩ := hj G2 H2 I2.ext.gg I2.ext.gh i
  by_cases hlt : i < ds.length
  · rw [List.drop_eq_getElem_cons hlt] at w2
    obtain ⟨go, yl⟩ := j1 ds[i] (by simp [hlt])
    refine .inr ⟨go, fun H' => ∃ G acc vs, LcI X.K ca B G1 H1 D (L2.wipe σ zs) (wipeE ρ zs) G acc vs H' ∧ Wish X.K ca (SF X.K ca Hx Q) G1 H1 ((lc2L h ft fi zs1 h1 ft1 fe (wipeE ρ zs) (ds.drop (i + 1))).quiet.bind fun rs => finL (acc ++ rs)) (WE W σ), fun H' q => ⟨ds.length - (i + 1), by omega, rfl, hlt, q⟩, fun x H3 yy => ?_⟩
    obtain ⟨G3, x3, a3⟩ := yl x H3 yy
    have I3 := I2.go x3
    have w3 : Wish X.K ca (SF X.K ca Hx Q) G1 H1 (((optR (h ds[i] (wipeE ρ zs))).bind fun ρ1 => if noOwn ρ1 = true then (ft ρ1).quiet.bind fun b => if b = true then (fi ρ1).quiet.bind fun es => (lcL h1 ft1 fe (wipeE ρ1 zs1) es).quiet.bind fun ys => (lc2L h ft fi zs1 h1 ft1 fe (wipeE ρ zs) (ds.drop (i + 1))).quiet.bind fun rs => .ok (ys ++ rs) else lc2L h ft fi zs1 h1 ft1 fe (wipeE ρ zs) (ds.drop (i + 1)) else .bad).quiet.bind fun rs => finL (acc ++ rs)) (WE W σ) := w2
    cases z1 : h ds[i] (wipeE ρ zs) with
    | none => rw [z1] at w3; exact w3.elim
    | some ρ1 =>
      rw [z1] at w3
      simp only [optR_some, bind_ok] at w3
      split at w3
      · rename_i no1
        refine ⟨B, G3, wipeE ρ zs, ds[i], I3.ext.gh, I3.b, I3.r, a3, ρ1, z1, fun σ4 r4 e4 => ⟨e4.trans (wipe_idem σ zs), B, G3, ρ1, I3.ext.gh, I3.b, r4, ?_⟩⟩
        cases z2 : ft ρ1 with
        | exc x => simp only [z2] at w3; exact w3.elim
        | bad => simp only [z2] at w3; exact w3.elim
        | ok bb =>
          simp only [z2, quiet_ok, bind_ok] at w3
          intro G5 H5 x5
          show if bb = true then _ else _
          have I5 := I3.go x5
          cases bb with
          | false =>
            rw [if_neg Bool.false_ne_true] at w3 ⊢
            exact ⟨G5, acc, vs, I5, w3⟩
          | true =>
            rw [if_pos rfl] at w3 ⊢
            have r5 := r4.ext x5
            refine ⟨B, G5, ρ1, x5.gh, I5.b, r5, ?_⟩
            cases z3 : fi ρ1 with
            | exc x => simp only [z3] at w3; exact w3.elim
            | bad => simp only [z3] at w3; exact w3.elim
            | ok es =>
              simp only [z3, quiet_ok, bind_ok] at w3
              intro G6 H6 x6 J1 hj1
              have I6 := I5.go x6
              have r6 := r5.ext x6
              have now : noOwn (wipeE ρ1 zs1) = true := by
                exact noOwn_wipe no1 zs1
              refine ⟨fun j k H => k = es.length - j ∧ j ≤ es.length ∧ ∃ G acc vs, LcI X.K ca B G1 H1 D (L2.wipe σ zs) (wipeE ρ zs) G acc vs H ∧ Same G6 G ∧ Rel X.K ca B G H (L2.wipe σ4 zs1) (wipeE ρ1 zs1) ∧ Wish X.K ca (SF X.K ca Hx Q) G1 H1 ((lcL h1 ft1 fe (wipeE ρ1 zs1) (es.drop j)).quiet.bind fun ys => (lc2L h ft fi zs1 h1 ft1 fe (wipeE ρ zs) (ds.drop (i + 1))).quiet.bind fun rs => finL (acc ++ (ys ++ rs))) (WE W σ),
                ⟨_, rfl, Nat.zero_le _, G6, acc, vs, I6, .refl _, r6.wipe zs1, by
                  rw [List.drop_zero]
                  cases q1 : lcL h1 ft1 fe (wipeE ρ1 zs1) es with
                  | ok ys =>
                    rw [q1] at w3
                    simp only [bind_ok, quiet_ok] at w3 ⊢
                    cases q2 : lc2L h ft fi zs1 h1 ft1 fe (wipeE ρ zs) (ds.drop (i + 1)) with
                    | ok rs => rw [q2] at w3; simp only [bind_ok, quiet_ok] at w3 ⊢; exact w3
                    | exc x => rw [q2] at w3; exact w3
                    | bad => rw [q2] at w3; exact w3
                  | exc x => rw [q1] at w3; exact w3
                  | bad => rw [q1] at w3; exact w3⟩, ?_⟩
              rintro j k H7 ⟨rfl, hj7, G7, acc7, vs7, I7, g7, r7, w7⟩
              have jj := hj1 G7 H7 g7 I7.ext.gh j
              obtain ⟨k1, k2⟩ := jj
              by_cases hlt2 : j < es.length
              · rw [List.drop_eq_getElem_cons hlt2] at w7
                obtain ⟨go2, yl2⟩ := k1 es[j] (by simp [hlt2])
                refine .inr ⟨go2, fun H' => ∃ G acc vs, LcI X.K ca B G1 H1 D (L2.wipe σ zs) (wipeE ρ zs) G acc vs H' ∧ Same G6 G ∧ Rel X.K ca B G H' (L2.wipe σ4 zs1) (wipeE ρ1 zs1) ∧ Wish X.K ca (SF X.K ca Hx Q) G1 H1 ((lcL h1 ft1 fe (wipeE ρ1 zs1) (es.drop (j + 1))).quiet.bind fun ys => (lc2L h ft fi zs1 h1 ft1 fe (wipeE ρ zs) (ds.drop (i + 1))).quiet.bind fun rs => finL (acc ++ (ys ++ rs))) (WE W σ), fun H' q => ⟨es.length - (j + 1), by omega, rfl, hlt2, q⟩, fun x8 H8 y8 => ?_⟩
                obtain ⟨G8, x8', a8⟩ := yl2 x8 H8 y8
                have I8 := I7.go x8'
                have r8 := r7.ext x8'
                have w8 : Wish X.K ca (SF X.K ca Hx Q) G1 H1 (((optR (h1 es[j] (wipeE ρ1 zs1))).bind fun ρ2 => (ft1 ρ2).quiet.bind fun b => if b = true then (fe ρ2).quiet.bind fun y => (lcL h1 ft1 fe (wipeE ρ1 zs1) (es.drop (j + 1))).bind fun r => .ok (y :: r) else lcL h1 ft1 fe (wipeE ρ1 zs1) (es.drop (j + 1))).quiet.bind fun ys => (lc2L h ft fi zs1 h1 ft1 fe (wipeE ρ zs) (ds.drop (i + 1))).quiet.bind fun rs => finL (acc7 ++ (ys ++ rs))) (WE W σ) := w7
                cases y1 : h1 es[j] (wipeE ρ1 zs1) with
                | none => rw [y1] at w8; exact w8.elim
                | some ρ2 =>
                  rw [y1] at w8
                  simp only [optR_some, bind_ok] at w8
                  refine ⟨B, G8, wipeE ρ1 zs1, es[j], I8.ext.gh, I8.b, r8, a8, ρ2, y1, fun σ9 r9 e9 => ⟨e9.trans (wipe_idem σ4 zs1), B, G8, ρ2, I8.ext.gh, I8.b, r9, ?_⟩⟩
                  cases y2 : ft1 ρ2 with
                  | exc x => simp only [y2] at w8; exact w8.elim
                  | bad => simp only [y2] at w8; exact w8.elim
                  | ok bb2 =>
                    simp only [y2, quiet_ok, bind_ok] at w8
                    intro G10 H10 x10
                    show if bb2 = true then _ else _
                    have I10 := I8.go x10
                    have gg10 : Same G6 G10 := (g7.trans x8'.gg).trans x10.gg
                    cases bb2 with
                    | false =>
                      rw [if_neg Bool.false_ne_true] at w8 ⊢
                      exact ⟨G10, acc7, vs7, I10, gg10, r8.ext x10, w8⟩
                    | true =>
                      rw [if_pos rfl] at w8 ⊢
                      refine ⟨B, G10, ρ2, x10.gh, I10.b, r9.ext x10, ?_⟩
                      cases y3 : fe ρ2 with
                      | exc x => simp only [y3] at w8; exact w8.elim
                      | bad => simp only [y3] at w8; exact w8.elim
                      | ok y =>
                        simp only [y3, quiet_ok, bind_ok] at w8
                        intro G11 H11 x11 v av
                        have I11 := I10.go x11
                        have hl := I11.at_.length
                        have w9 : Wish X.K ca (SF X.K ca Hx Q) G1 H1 ((lcL h1 ft1 fe (wipeE ρ1 zs1) (es.drop (j + 1))).quiet.bind fun ys => (lc2L h ft fi zs1 h1 ft1 fe (wipeE ρ zs) (ds.drop (i + 1))).quiet.bind fun rs => finL ((acc7 ++ [y]) ++ (ys ++ rs))) (WE W σ) := by
                          cases q1 : lcL h1 ft1 fe (wipeE ρ1 zs1) (es.drop (j + 1)) with
                          | ok ys =>
                            rw [q1] at w8
                            simp only [bind_ok, quiet_ok] at w8 ⊢
                            cases q2 : lc2L h ft fi zs1 h1 ft1 fe (wipeE ρ zs) (ds.drop (i + 1)) with
                            | ok rs => rw [q2] at w8; simp only [bind_ok, quiet_ok] at w8 ⊢; rw [List.append_assoc]; exact w8
                            | exc x => rw [q2] at w8; exact w8
                            | bad => rw [q2] at w8; exact w8
                          | exc x => rw [q1] at w8; exact w8
                          | bad => rw [q1] at w8; exact w8
                        have hsz : acc7.length < sizeLine := by
                          obtain ⟨ys, q1, w10⟩ := wish_quiet w9
                          obtain ⟨rs, q2, w11⟩ := wish_quiet w10
                          unfold finL at w11
                          split at w11
                          · rename_i hz
                            simp only [List.length_append, List.length_cons, List.length_nil] at hz
                            omega
                          · exact w11.elim
                        exact ⟨vs7, I11.hD, by omega, G11, acc7 ++ [y], vs7 ++ [v], I11.push hD bD hn av, gg10.trans x11.gg, (((r8.ext x10).ext x11).moved now), w9⟩
              · have ej : j = es.length := by omega
                subst ej
                rw [List.drop_length] at w7
                exact .inl ⟨k2 rfl, G7, acc7, vs7, I7, w7⟩
      · exact w3.elim
  · have e : i = ds.length := by omega
    subst e
    rw [List.drop_length] at w2
    have w3 : Wish X.K ca (SF X.K ca Hx Q) G1 H1 (finL (acc ++ [])) (WE W σ) := w2
    rw [List.append_nil] at w3
    unfold finL at w3
    split at w3
    · exact .inl ⟨j2 rfl, w3 G2 H2 I2.ext D vs (same_none (hx.trans x1.hh) hD) I2.gD I2.hD I2.at_⟩
    · exact w3.elim
end
def lLc2' (zs : List Nat) (fi0 : Ev → R (List D)) (h : Tg) (t : Ev → R Bool) (fi : Ev → R (List D)) (zs1 : List Nat) (h1 : Tg) (t1 : Ev → R Bool) (fe : Ev → R D) : Ev → R (List D) := fun ρ => if noOwn (wipeE ρ zs) = true then lLc2 zs fi0 h t fi zs1 h1 t1 fe ρ else .bad
def sOwnZ (i : Nat) (fl : Ev → R (List D)) : Ev → SO := fun ρ => SO.from ρ (fl ρ) fun ds => .nx (ρ.set i (.v (.lst ds)))
section
variable {X : Cx} {ca : Cn} {W : WX} {zs1 : List Nat} {elt tg iter tg1 iter1 : Expr} {ifs ifs1 : List Expr} {scope : Scope} {own : List (Str × Nat)} {pos : Pos} {fi0 fi : Ev → R (List D)} {h h1 : Tg} {ft ft1 : Ev → R Bool} {fe : Ev → R D}
theorem fs_setLc2 {i : Nat} {y : Str} {py spos : Pos} (hy : X.N[i]? = some y) (hyl : X.env.scope.names.lookup y = some .local) (hsw : swapsWith (.ListComp elt [⟨tg, iter, ifs, 0⟩, ⟨tg1, iter1, ifs1, 0⟩] scope pos) (some (.Name y py)) spos.line X.env = pure true) (hc : X.calm = true) (hN : X.N.Nodup) (hi : FI X ca W tg iter fi0) (ok : BlkOk X.N X.env.scope scope own) (hv : ∀ i ∈ zs1, i ∈ own.map (·.2))
    (hg : ∀ (s : Shared) (H : Hp) (C : Addr) (cl : List (Str × Addr)) (fp : List Addr), FG (X.blk s H scope (compEnvC scope cl C X.env) fp) ca (own.map (·.2)) tg h) (ht : ∀ (s : Shared) (H : Hp) (C : Addr) (cl : List (Str × Addr)) (fp : List Addr), FTs (X.blk s H scope (compEnvC scope cl C X.env) fp) ca W0 ifs ft)
    (hi1 : ∀ (s : Shared) (H : Hp) (C : Addr) (cl : List (Str × Addr)) (fp : List Addr), FI (X.blk s H scope (compEnvC scope cl C X.env) fp) ca W0 tg1 iter1 fi)
    (hg1 : ∀ (s : Shared) (H : Hp) (C : Addr) (cl : List (Str × Addr)) (fp : List Addr), FG (X.blk s H scope (compEnvC scope cl C X.env) fp) ca zs1 tg1 h1) (ht1 : ∀ (s : Shared) (H : Hp) (C : Addr) (cl : List (Str × Addr)) (fp : List Addr), FTs (X.blk s H scope (compEnvC scope cl C X.env) fp) ca W0 ifs1 ft1)
    (he : ∀ (s : Shared) (H : Hp) (C : Addr) (cl : List (Str × Addr)) (fp : List Addr), FE (X.blk s H scope (compEnvC scope cl C X.env) fp) ca W0 elt fe) (hs : ∀ x, foldedSetIterable iter X.env x = pure x := by intro _; rfl) (hs1 : ∀ env x, foldedSetIterable iter1 env x = pure x := by intro _ _; rfl) :
    FS X ca W (.Assign [.Name y py] (.ListComp elt [⟨tg, iter, ifs, 0⟩, ⟨tg1, iter1, ifs1, 0⟩] scope pos) spos) (sOwnZ i (lLc2' (own.map (·.2)) fi0 h ft fi zs1 h1 ft1 fe)) := by
  obtain ⟨tl, pl, ki⟩ := hi.ex
  refine ⟨_, ps_setLc2 (g := tGc X.K ca (own.map (·.2)) h) (tt := tT X.K ca W0 ft) (wi1 := tIc X.K ca W0 fi) (g1 := tGc X.K ca zs1 h1) (tt1 := tT X.K ca W0 ft1) (te := tE X.K ca W0 fe) hc hN hy hyl hsw pl ok hv (fun s H C cl fp => (hg s H C cl fp).can) (fun s H C cl fp => (ht s H C cl fp).ex) (fun s H C cl fp => (hi1 s H C cl fp).can) (fun s H C cl fp => (hg1 s H C cl fp).can) (fun s H C cl fp => (ht1 s H C cl fp).ex) (fun s H C cl fp => (he s H C cl fp).can) hs hs1, fun B G H σ ρ D s b r w => ?_⟩
  by_cases no : noOwn (wipeE ρ (own.map (·.2))) = true
  · have e : lLc2' (own.map (·.2)) fi0 h ft fi zs1 h1 ft1 fe ρ = lLc2 (own.map (·.2)) fi0 h ft fi zs1 h1 ft1 fe ρ := if_pos no
    refine lc2_tail ki hv B G H σ ρ H _ s b r (.refl H) no ?_
    have w' : WishS X.K ca B G (SO.from ρ (lLc2' (own.map (·.2)) fi0 h ft fi zs1 h1 ft1 fe ρ) fun ds => .nx (ρ.set i (.v (.lst ds)))) D W := w
    rw [e] at w'
    refine WishS.from w' b r fun ds G1 H1 _ x w1 r1 b1 q vs n g hq av => ?_
    have gh : Same (upd G1 q (.lst vs)) H1 := fun c u e => by
      by_cases z : c = q
      · subst z; rw [upd_same] at e; rw [hq]; exact e
      · rw [upd_ne z] at e; exact x.gh c u e
    have x2 : Ext G H (upd G1 q (.lst vs)) H1 := ⟨x.hh, x.gg.trans (same_upd g), gh, fun c m => by
      by_cases z : c = q
      · subst z; exact .inr (.inl n)
      · rw [upd_ne z] at m; exact x.nw c m⟩
    refine w1 _ (upd G1 q (.lst vs)) H1 ⟨same_upd g, gh, b1, fun c m => ?_⟩ ((r.ext x2).set i ⟨q, vs, rfl, upd_same, AtL.mono (same_upd g) av⟩)
    by_cases z : c = q
    · subst z; exact .inr (.inl (same_none b n))
    · rw [upd_ne z] at m; exact .inl m
  · have e : lLc2' (own.map (·.2)) fi0 h ft fi zs1 h1 ft1 fe ρ = .bad := if_neg no
    have w' : WishS X.K ca B G (SO.from ρ (lLc2' (own.map (·.2)) fi0 h ft fi zs1 h1 ft1 fe ρ) fun ds => .nx (ρ.set i (.v (.lst ds)))) D W := w
    rw [e] at w'
    exact w'.elim
end
end Tk
namespace Tk
open PySem PySem.Spec L2 PyProof.Rows
section
variable {X : Cx} {ca : Cn} {W : WX} {k j n : Nat} {x : Str} {st : Stmt} {dd : List D} {kd : List (Str × D)} {ps ks : List Str} {Fn : List D → R Sl} {p pos : Pos} {e : Expr} {es : List Expr} {kws : List Keyword} {fa fk : Ev → R (List D)} {gD : List D → List D → List D}
end
structure DcI (K : PySem.W.Frag) (ca : Cn) (B G1 H1 : Hp) (D : Addr) (σw : L2.St) (ρw : Ev) (G : Hp) (acc : List (Key × Tk.D)) (vs : List (Key × V)) (H : Hp) : Prop where
  ext : Ext G1 H1 G H
  gD : G D = none
  hD : H D = some (.dK vs)
  at_ : AtK K ca G acc vs
  b : Same B H
  r : Rel K ca B G H σw ρw
section
variable {K : PySem.W.Frag} {ca : Cn} {B G1 H1 G H G' H' : Hp} {D : Addr} {σw : L2.St} {ρw : Ev} {acc : List (Key × Tk.D)} {vs : List (Key × V)}
theorem DcI.go (i : DcI K ca B G1 H1 D σw ρw G acc vs H) (x : Ext G H G' H') : DcI K ca B G1 H1 D σw ρw G' acc vs H' := by
  refine ⟨i.ext.trans x, ?_, x.hh _ _ i.hD, AtK.mono x.gg i.at_, i.b.trans x.hh, i.r.ext x⟩
  cases q : G' D with
  | none => rfl
  | some u =>
    rcases x.nw D (by rw [q]; simp) with z | z
    · exact absurd i.gD z
    · exact (z.no i.hD fun _ y => nomatch y).elim
theorem DcI.push (i : DcI K ca B G1 H1 D σw ρw G acc vs H) (n1 : H1 D = none) (nb : B D = none) (r1 : Rel K ca B G1 H1 σw ρw) {k : Key} {y : Tk.D} {v : V} (a : At K ca G y v) : DcI K ca B G1 H1 D σw ρw G (putG acc k y) (putK vs k v) (upd H D (.dK (putK vs k v))) := by
  have nD : ∀ c o, H1 c = some o → c ≠ D := fun c o q z => by rw [z, n1] at q; cases q
  have nG : ∀ c o, G c = some o → c ≠ D := fun c o q z => by rw [z, i.gD] at q; cases q
  have nB : ∀ c o, B c = some o → c ≠ D := fun c o q z => by rw [z, nb] at q; cases q
  refine ⟨⟨fun c o q => by rw [upd_ne (nD c o q)]; exact i.ext.hh c o q, i.ext.gg, fun c o q => by rw [upd_ne (nG c o q)]; exact i.ext.gh c o q, i.ext.nw⟩, i.gD, upd_same, i.at_.put a, fun c o q => by rw [upd_ne (nB c o q)]; exact i.b c o q, ⟨i.r.len, i.r.val, fun k s' q ho => ?_, i.r.sep, i.r.exc, ?_⟩⟩
  rotate_left 1
  · obtain ⟨FP, n⟩ := r1.nst
    refine ⟨FP, n.step (fun j t q => ⟨q, rfl⟩) i.ext.gg fun b o hb nt gb bb ow => ⟨?_, ?_, ow⟩⟩
    · rw [upd_ne fun z => by rw [z, n1] at hb; cases hb]
      exact (i.ext.hh _ _ hb).trans hb.symm
    · cases q : G b with
      | none => rfl
      | some u =>
        rcases i.ext.nw b (by rw [q]; simp) with z | z
        · exact (z gb).elim
        · exact (z.no hb nt).elim
  obtain ⟨a', t1, t2, t3, t4⟩ := i.r.own k s' q ho
  refine ⟨a', t1, t2.ext (.refl _) ?_, t3, t4⟩
  obtain ⟨a0, u1, u2, u3, u4⟩ := r1.own k s' q ho
  rw [t1] at u1
  cases u1
  obtain ⟨o, u5⟩ := u2.some
  rw [upd_ne (fun z => by rw [z, n1] at u5; cases u5)]
end
section
variable {X : Cx} {ca : Cn} {W : WX} {zs : List Nat} {kx vx tg iter : Expr} {ifs : List Expr} {scope : Scope} {own : List (Str × Nat)} {pos : Pos} {fi : Ev → R (List D)} {h : Tg} {ft : Ev → R Bool} {fk fv : Ev → R D}
end
def gGet2 : D → D → D → R D
  | .dK kvs, d, x => (optR (keyD d)).bind fun k => .ok ((getG kvs k).getD x)
  | .dT kvs, d, x => (optR (keyT d)).bind fun k => .ok ((getG kvs k).getD x)
  | _, _, _ => .bad
def isDict : D → Bool
  | .dK _ => true
  | .dT _ => true
  | _ => false
def eGet1 (fo fa : Ev → R D) : Ev → R D := fun ρ => (fo ρ).bind fun o => if isDict o = true then (fa ρ).bind fun a => gGet2 o a .non else .bad
section
variable {X : Cx} {ca : Cn} {W : WX} {o e f : Expr} {fo fa fb : Ev → R D} {apos cpos : Pos}
theorem isDict_at {K : PySem.W.Frag} {G H : Hp} {d : D} {v : V} (s : Same G H) (h : isDict d = true) (a : At K ca G d v) : ∃ p, v = .ref p ∧ IsD H p := by
  cases d with
  | dK kvs => obtain ⟨p, vs, rfl, h1, _⟩ := a; exact ⟨p, rfl, .inl ⟨vs, Rd.mono s h1⟩⟩
  | dT kvs => obtain ⟨p, vs, rfl, h1, _⟩ := a; exact ⟨p, rfl, .inr ⟨vs, Rd.mono s h1⟩⟩
  | _ => cases h
theorem get_at {K : PySem.W.Frag} {G H : Hp} {d y x : D} {v yv xv : V} {Q : VK} {E : XK} (s : Same G H) (ad : At K ca G d v) (ay : At K ca G y yv) (ax : At K ca G x xv) (w : Wish K ca (SV K ca Q) G H (gGet2 d y x) E) : ∃ p o, v = .ref p ∧ DGet H p yv o ∧ Q (o.getD xv) H := by
  unfold gGet2 at w
  split at w
  · rename_i kvs
    obtain ⟨kk, e1, w⟩ := wish_opt w
    obtain ⟨p, vs, rfl, h1, h2⟩ := ad
    have g := h2.get kk
    rw [key_at ay e1]
    refine ⟨p, valV vs kk, rfl, .inl ⟨vs, kk, Rd.mono s h1, rfl, rfl⟩, ?_⟩
    cases z : getG kvs kk with
    | none =>
      rw [z] at g w
      have g2 : valV vs kk = none := g
      rw [g2]
      exact w.here s _ ax
    | some d =>
      rw [z] at g w
      obtain ⟨u, g1, g2⟩ := g
      have g3 : valV vs kk = some u := g1
      rw [g3]
      exact w.here s _ g2
  · rename_i kvs
    obtain ⟨kk, e1, w3⟩ := wish_opt w
    obtain ⟨p, vs, rfl, h1, h2⟩ := ad
    have g := h2.get kk
    have fin : Q ((valV vs kk).getD xv) H := by
      cases z : getG kvs kk with
      | none =>
        rw [z] at g w3
        have g2 : valV vs kk = none := g
        rw [g2]
        exact w3.here s _ ax
      | some d =>
        rw [z] at g w3
        obtain ⟨u, g1, g2⟩ := g
        have g3 : valV vs kk = some u := g1
        rw [g3]
        exact w3.here s _ g2
    unfold keyT at e1
    split at e1
    · obtain ⟨q, ws, rfl, t1, t2⟩ := ay
      have e3 := keys_at t2 e1
      subst e3
      exact ⟨p, _, rfl, .inr ⟨vs, kk, q, Rd.mono s h1, rfl, s q _ t1, rfl⟩, fin⟩
    · cases e1
  · exact w.elim
theorem fe_get1 (hu : X.A.units + 65 < cLine) (ho : FE X ca W o fo) (ha : FE X ca W e fa) (m : M1 X o "get" apos e cpos := by exact ⟨rfl, rfl, rfl, rfl⟩) : FE X ca W (.Call (.Attribute o "get" apos) [e] [] cpos) (eGet1 fo fa) := by
  obtain ⟨to, po, ko⟩ := ho.ex
  obtain ⟨ta, pa, ka⟩ := ha.ex
  refine ⟨_, pe_dget1 (by omega) po pa m, fun B G H σ ρ Q s b r h => ?_⟩
  refine ko B G H σ ρ _ s b r (Wish.bind h fun d G1 H1 _ x1 w1 v a1 => ?_)
  split at w1
  · rename_i hd
    obtain ⟨p, rfl, isd⟩ := isDict_at x1.gh hd a1
    refine ⟨p, rfl, isd, ka B G1 H1 σ ρ _ x1.gh (b.trans x1.hh) (r.ext x1) (Wish.bind w1 fun y G2 H2 _ x2 w2 yv ay => ?_)⟩
    obtain ⟨p', oo, ep, dg, q⟩ := get_at (x := .non) (xv := .non) x2.gh (At.mono x2.gg a1) ay rfl w2
    cases ep
    exact ⟨oo, dg, q⟩
  · exact w1.elim
end
end Tk
namespace Tk
open PySem PySem.Spec L2 PyProof.Rows
theorem call_tuple_z {X : Cx} : CallR X (.type "tuple") (fun xs H Q => ∃ p ys, xs = [.ref p] ∧ SqL X.K H p ys ∧ ∀ l o, o.cls = .type "tuple" ∧ o.dict = none → H l = none → Q (.ref l) (upd H l (.frz o (.tup ys)))) := by
  intro pins s σ H xs us Q I r h
  obtain ⟨p, ys, rfl, hq, q⟩ := h
  obtain ⟨u, rfl, rx⟩ := vals1 r
  cases rx
  obtain ⟨its, r', pl, hz⟩ := I.list hq
  have hlen := r'.length
  refine call_tuple_list pl.isList (fun h' kp => ?_) (by simp only [List.size_toArray] <;> omega)
  have I1 : Inv X pins σ H { s with heap := h' } := I.kept (t' := s.toks) kp
  have I2 : Inv X pins σ (upd H h'.objs.size (.frz { cls := .type "tuple", data := .seq its.toArray } (.tup ys))) { s with heap := h'.push { cls := .type "tuple", data := .seq its.toArray } } :=
    I1.laid (t' := s.toks) (fun b o e => Heap.get?_push_of_some _ e) (Nat.le_refl _) (show ObjOk X.prog X.w _ _ _ (.frz _ (.tup ys)) from ⟨Heap.get?_push_size _ rfl, hz, its, r', IsTup.new _ _⟩)
  exact ⟨.ref h'.objs.size, _, I2, rfl, q _ _ ⟨rfl, rfl⟩ (I1.hok.fresh (Nat.le_refl _))⟩
def gTupZ : List D → R D
  | [.lst xs] => .ok (.tpz xs)
  | [.tpz xs] => .ok (.tpz xs)
  | _ => .bad
def rTupZ (K : PySem.W.Frag) : List V → Hp → VK → Prop := fun xs H Q => (∃ p ys, xs = [.ref p] ∧ SqL K H p ys ∧ ∀ l o, o.cls = .type "tuple" ∧ o.dict = none → H l = none → Q (.ref l) (upd H l (.frz o (.tup ys)))) ∨ ∃ p ys, xs = [.ref p] ∧ ((SqL K H p ys ∧ ∀ l, H l = none → Q (.ref l) (upd H l (.tup ys))) ∨ (SqT K H p ys ∧ Q (.ref p) H))
theorem call_tupZ {X : Cx} : CallR X (.type "tuple") (rTupZ X.K) := call_tuple_z.or call_tuple_of
section
variable {X : Cx} {ca : Cn} {W : WX} {e o : Expr} {es : List Expr} {fl : Ev → R (List D)} {fa fb fo : Ev → R D} {pos p apos cpos : Pos}
theorem vn_tupz : VN X ca (rTupZ X.K) gTupZ := by
  intro G H W1 xs ds Q s a w
  unfold gTupZ at w
  split at w
  · obtain ⟨v, rfl, q, vs, rfl, h1, h2⟩ := atl1 a
    refine .inl ⟨q, vs, rfl, .of (s _ _ h1), fun l o ho n => ?_⟩
    exact w _ _ (Ext.new s n) (.ref l) ⟨l, o, vs, rfl, ho, upd_same, AtL.mono (same_upd (same_none s n)) h2⟩
  · obtain ⟨v, rfl, p, o, vs, rfl, oo, h1, h2⟩ := atl1 a
    exact .inr ⟨p, vs, rfl, .inr ⟨.inl (.inr ⟨o, s _ _ h1⟩), w.here s _ ⟨p, o, vs, rfl, oo, h1, h2⟩⟩⟩
  · exact w.elim
theorem fe_tupz (T : BT X.mg) (ha : FA X ca W (e :: es) fl) (n : Nm X "tuple" e es pos := by exact ⟨rfl, rfl, rfl⟩) : FE X ca W (.Call (.Name "tuple" p) (e :: es) [] pos) (eA gTupZ fl) := fe_bty call_tupZ vn_tupz n.g T.tuple bb_tuple ha (by decide) (by decide) n.h n.p
theorem tz {K : PySem.W.Frag} {G H : Hp} {a : Addr} {o : Obj} {vs : List V} (s : Same G H) (h : G a = some (.frz o (.tup vs))) : SqT K H a vs := .inl (.inr ⟨o, s _ _ h⟩)
end
end Tk
namespace Tk
open PySem PySem.Spec L2 PyProof.Rows
section
variable {prog : Program} {w : World} {A : Around} {s : Shared}
end
section
variable {X : Cx} {ca : Cn} {W : WX} {e : Expr} {es : List Expr} {fl : Ev → R (List D)} {p pos : Pos}
end
end Tk
namespace Tk
open PySem PySem.Spec L2 PyProof.Rows
section
variable {K : PySem.W.Frag} {ca : Cn} {B G H G' G2 H' : Hp} {σ : L2.St} {ρ : Ev} {FP : Nat → List Addr}
end
end Tk
set_option maxHeartbeats 2000000
namespace Tk
open PySem PySem.Spec L2 PyProof.Rows
def LawOk (l : PySem.W.OpenLaw) (F : List D → R D) (k : Nat) (w : World) (mg : Str → Option Value) (fa : Addr) (h : Heap) : Prop :=
  ∃ (K : PySem.W.Frag) (fd : FuncData) (ca : Cn), K.In h ∧ (∀ (s : Shared) (u : Value), BindsTo s fd ⟨[u], []⟩ [("script", u)]) ∧ ∀ b : Heap, K.In b → b.Ns mainGlobals mg → FnOk l.prog w K mg b (L2.CX l.prog w) k fa fd ["script"] (spF K ca 1 F)
theorem law_walk {l : PySem.W.OpenLaw} {k : Nat} {q : Program} {loose : List Str} {XP : (Str → Option Value) → Heap → Prop} {YP : World → Heap → Prop} {d : DefRec} {F : List D → R D} (hn : l.most = some 63) (hdf : d.params.defaults = []) (hr : Room k callerA)
    (hF : ∀ (w : World) (mg : Str → Option Value) (fa : Addr) (h : Heap), YP w h → h.Ns mainGlobals mg → mg d.name = some (.ref fa) → LawOk l F k w mg fa h) (hl : ∀ ns : List Int, ns.length ≤ 63 → F [.scr ns] = .ok (.bl true)) :
    PySem.W.WalkO q loose XP YP l.row.toRowW d [] (fun f vs => PySem.call f vs) := by
  refine Att.attach_call hn hdf fun w s0 s1 mg mb fa o pm cd doc a vs ns G Y ho hd hcd hmg hobj hints hlen hg => ?_
  obtain ⟨K, fd, ca, KX, hb, go⟩ := hF w mg fa _ Y G.T.g hmg
  refine law_call KX G.T.g G.T.b G.T.builtins G.T.nolimit hg hobj hints (Nat.le_trans hlen (by decide)) hr go hb (fun H hO hS => ?_) fun H e s' z => let ⟨_, _, _, _, _, _, _, _, _, _, _, _, y⟩ := z; y
  refine ⟨rfl, H, [.scr ns], .refl H, ⟨_, [], rfl, ⟨a, rfl, hS⟩, rfl⟩, ?_⟩
  rw [hl ns hlen]
  exact fun G' H' _ v av => av
end Tk
set_option maxHeartbeats 2000000
namespace Tk
open PySem PySem.Spec L2 PyProof.Rows
structure SaysU (fa : List He.Fa) (fn : List He.DefD) (ex : PySem.W.Frag → Bool) (K : PySem.W.Frag) (mg : Str → Option Value) : Prop extends Says fa fn K mg where
  u : ex K = true
def clBody (s : Stmt) : List Stmt := match s with
  | .ClassDef _ _ _ b _ _ _ _ _ _ _ => b
  | _ => []
def clMeth (s : Stmt) (i : Nat) : Stmt := (clBody s).getD i (.Pass ⟨0, 0, 0, 0⟩)
section
variable {fa : List He.Fa} {fn : List He.DefD} {K : PySem.W.Frag} {mg : Str → Option Value} {ca : Cn} {c : Nat} {x m qual : Str} {st : Stmt} {dd : List D} {kd : List (Str × D)}
theorem Says.glo (T : Says fa fn K mg) (j : Nat) (hj : fa[j]? = some (.glo x) := by rfl) : mg x = some (.ref (He.ga K x)) := by
  obtain ⟨hp, X, G⟩ := T.h
  exact He.glo_ok X G (T.c.fact j hj)
theorem Says.clt (T : Says fa fn K mg) (jm jg i : Nat) (hc : ca.a c = some (He.ga K x)) (hm : fa[jm]? = some (.mkr x) := by rfl) (hg : fa[jg]? = some (.glo x) := by rfl) (hi : fn[i]? = some (dfD (x, some "__init__") "__init__" qual st dd kd) := by rfl) (h1 : dd.all flatD = true := by rfl) (h2 : (kd.map (·.2)).all flatD = true := by rfl) : ClAt K mg ca c x qual st dd kd := by
  obtain ⟨fd, F⟩ := T.fd i hi h1 h2
  exact ⟨_, fd, _, .of_flat F h1, He.mkr_ok (T.c.fact jm hm), hc, T.glo jg hg⟩
theorem Says.met (T : Says fa fn K mg) (jc jm i : Nat) (hc : ca.a c = some (He.ga K x)) (h0 : fa[jc]? = some (.cls x) := by rfl) (hm : fa[jm]? = some (.meth x m) := by rfl) (hi : fn[i]? = some (dfD (x, some m) m qual st dd kd) := by rfl) (h1 : dd.all flatD = true := by rfl) (h2 : (kd.map (·.2)).all flatD = true := by rfl) : MeAt K ca c m qual st dd kd := by
  obtain ⟨fd, F⟩ := T.fd i hi h1 h2
  exact ⟨_, fd, _, F, hc, He.cls_ok (T.c.fact jc h0), He.meth_ok (T.c.fact jm hm)⟩
theorem Says.fld (T : Says fa fn K mg) {C : Addr} (jc jn : Nat) {nm : Str} (e : He.ga K x = C) (h0 : fa[jc]? = some (.cls x) := by rfl) (hn : fa[jn]? = some (.noat x nm) := by rfl) : Cls K C ∧ NoAttr K C nm := by
  subst e
  exact ⟨He.cls_ok (T.c.fact jc h0), He.noat_ok (T.c.fact jn hn)⟩
end
section
variable {K : PySem.W.Frag} {ca : Cn} {x qual : Str} {params : Arguments} {body : List Stmt} {scope : Scope} {dd : List D} {kd : List (Str × D)} {f : Addr} {fd : FuncData} {ps : List Str}
theorem kbi_n (F : FunD K x qual params body scope [] (kwV kd) f fd) (n : Nat) (ks : List Str) (is : List Nat) (hp : ∀ i ∈ is, 1 ≤ i)
    (h : ∀ (kV doc pm : Value) (an : Option Addr) (cdv ct : Value) (us ws : List Value), us.length = n + 1 → ws.length = ks.length → bindArgs (PySem.W.fnOf x qual params body scope .none kV doc pm an cdv ct) ⟨us, ks.zip ws⟩ = pure (ps.zip (pickI (0 :: is) (us ++ ws)))) : KBI K ca fd ps n ks (gDk (is.map (· - 1)) []) := by
  obtain ⟨oc, od, dV, kV, doc, pm, an, cdv, ct, osl, rfl, lk, hcd, hD, hK⟩ := F.ex
  rcases hD with ⟨_, rfl⟩ | ⟨e, _⟩
  · exact kbi_of rfl .nil hp fun s us ws _ l1 l2 => BindsTo.of_eq (h kV doc pm an cdv ct us ws l1 l2)
  · exact absurd rfl e
end
section
variable {K : PySem.W.Frag} {x qual : Str} {dd : List D} {kd : List (Str × D)} {f : Addr} {fd : FuncData} {ps : List Str}
theorem kbi_ofD {ca : Cn} {ks : List Str} {n : Nat} {is : List Nat} {mid : List D} {mv : List V} {its : List Value} (hm : ∀ G, AtL K ca G mid mv) (hv : Vals mv its) (hp : ∀ i ∈ is, 1 ≤ i)
    (to : ∀ (s : Shared) (us ws : List Value), K.In s.heap → us.length = n + 1 → ws.length = ks.length → BindsTo s fd ⟨us, ks.zip ws⟩ (ps.zip (pickI (0 :: is) (us ++ (its ++ ws))))) : KBI K ca fd ps n ks (gDk (is.map (· - 1)) mid) := by
  refine ⟨fun us ws => pickI (0 :: is) (us ++ (its ++ ws)), fun vs zs => pickI (0 :: is) (vs ++ (mv ++ zs)), ⟨to, fun r1 r2 => pick_vals (r1.append (hv.append r2)) (0 :: is)⟩, fun x vs zs => ⟨pickI (is.map (· - 1)) (vs ++ (mv ++ zs)), ?_, fun G ds ws a b => pick_at (a.append ((hm G).append b)) _⟩⟩
  show (match (x :: (vs ++ (mv ++ zs)))[0]? with | some a => a :: pickI is (x :: (vs ++ (mv ++ zs))) | none => pickI is (x :: (vs ++ (mv ++ zs)))) = _
  rw [List.getElem?_cons_zero, pick_shift x _ is hp]
theorem kbi_dD {ca : Cn} {st : Stmt} (F : FDI K qual st dd kd f fd) (n : Nat) (ks : List Str) (is : List Nat) (hp : ∀ i ∈ is, 1 ≤ i) (hd : dd ≠ [])
    (h : ∀ (T : Addr) (kV doc pm : Value) (an : Option Addr) (cdv ct : Value) (us its ws : List Value), us.length = n + 1 → its.length = dd.length → ws.length = ks.length →
      ∃ k, bindArgs (PySem.W.fnOf "__init__" qual (defArgs st) (defBody st) (defScope st) (.ref T) kV doc pm an cdv ct) ⟨us, ks.zip ws⟩ = seqItems? (.ref T) >>= k ∧ k (some its.toArray) = pure (ps.zip (pickI (0 :: is) (us ++ (its ++ ws))))) : KBI K ca fd ps n ks (gDk (is.map (· - 1)) dd) := by
  obtain ⟨dvs, F1, ad⟩ := F.ex
  have ld := (ad ca fun _ => none).length
  obtain ⟨oc, od, dV, kV, doc, pm, an, cdv, ct, osl, rfl, lk, hcd, hD, hK⟩ := F1.ex
  rcases hD with ⟨e, _⟩ | ⟨_, T, o, its, m, rfl, lT, oT, rT⟩
  · rw [e] at ld
    exact absurd (List.length_eq_zero_iff.mp ld) hd
  · refine kbi_ofD (ad ca) rT hp fun s us ws X l1 l2 => ?_
    obtain ⟨k, e1, e2⟩ := h T kV doc pm an cdv ct us its ws l1 (by rw [← rT.length, ld]) l2
    refine BindsTo.of_looks fun M => ?_
    rw [e1]
    exact looks_items X lT oT (.of_pure e2)
def tp0B (K : PySem.W.Frag) (a : Addr) : Bool := match K.lookup a with
  | some ⟨c, _, .seq its _, _⟩ => c == .type "tuple" && its.isEmpty
  | _ => false
theorem tp0_at {K : PySem.W.Frag} {ca : Cn} {G : Hp} {a : Addr} (h : tp0B K a = true) : At K ca G .tp0 (.ref a) := by
  unfold tp0B at h
  split at h
  · rename_i c d its n sl q
    obtain ⟨h1, h2⟩ := Bool.and_eq_true_iff.mp h
    have hi : its = #[] := Array.isEmpty_iff.mp h2
    subst hi
    refine ⟨a, rfl, .inr ⟨_, #[], n, q, eq_of_beq h1, rfl, by simp, .nil⟩⟩
  · cases h
def dvI (x : Str) (i : Nat) : D → He.Dv
  | .tp0 => .adr (He.dflAt (x, some "__init__") i)
  | d => dvD d
def dvL (x : Str) (dd : List D) : List He.Dv := dd.zipIdx.map fun p => dvI x p.2 p.1
def dfDI (x qual : Str) (st : Stmt) (dd : List D) (kd : List (Str × D)) : He.DefD := ⟨(x, some "__init__"), "__init__", qual, defArgs st, defBody st, defScope st, dvL x dd, kd.map fun q => (q.1, dvD q.2)⟩
def okD : D → Bool
  | .tp0 => true
  | d => flatD d
theorem Says.cltD {fa : List He.Fa} {fn : List He.DefD} {mg : Str → Option Value} {ca : Cn} {c : Nat} {st : Stmt} (T : Says fa fn K mg) (jm jg i : Nat) (hc : ca.a c = some (He.ga K x)) (ht : ∀ p ∈ dd.zipIdx, p.1 = .tp0 → tp0B K (He.dflAt (x, some "__init__") p.2 K) = true) (hm : fa[jm]? = some (.mkr x) := by rfl) (hg : fa[jg]? = some (.glo x) := by rfl) (hi : fn[i]? = some (dfDI x qual st dd kd) := by rfl) (h1 : dd.all okD = true := by rfl) (h2 : (kd.map (·.2)).all flatD = true := by rfl) : ClAt K mg ca c x qual st dd kd := by
  obtain ⟨fd, F⟩ := T.c.def_ i hi
  have e2 : He.DefD.kws K (dfDI x qual st dd kd) = kwV kd := by
    show (kd.map fun q => (q.1, dvD q.2)).map (fun q => (q.1, q.2.v K)) = _
    rw [List.map_map]
    refine List.map_congr_left fun d m => ?_
    show (d.1, (dvD d.2).v K) = (d.1, toV d.2)
    rw [dv_eq (List.all_eq_true.mp h2 d.2 (List.mem_map.mpr ⟨d, m, rfl⟩))]
  rw [e2] at F
  refine ⟨_, fd, _, ⟨_, F, fun ca G => ?_⟩, He.mkr_ok (T.c.fact jm hm), hc, T.glo jg hg⟩
  show AtL K ca G dd ((dvL x dd).map (He.Dv.v K))
  have go : ∀ (l : List D) (k : Nat), (∀ p ∈ l.zipIdx k, p.1 = .tp0 → tp0B K (He.dflAt (x, some "__init__") p.2 K) = true) → l.all okD = true → AtL K ca G l (((l.zipIdx k).map fun p => dvI x p.2 p.1).map (He.Dv.v K)) := by
    intro l
    induction l with
    | nil => intro k _ _; rfl
    | cons d r ih =>
      intro k a b
      rw [List.all_cons, Bool.and_eq_true] at b
      rw [List.zipIdx_cons] at a ⊢
      refine ⟨_, _, rfl, ?_, ih (k + 1) (fun p m => a p (List.mem_cons_of_mem _ m)) b.2⟩
      by_cases z : d = .tp0
      · subst z
        exact tp0_at (a (.tp0, k) List.mem_cons_self rfl)
      · have hf : flatD d = true := by
          have := b.1
          cases d <;> first | exact this | exact (z rfl).elim
        have e : dvI x k d = dvD d := by cases d <;> first | rfl | exact (z rfl).elim
        show At K ca G d ((dvI x k d).v K)
        rw [e, dv_eq hf]
        exact flat_at hf
  exact go dd 0 ht h1
end
end Tk
namespace Tk
open PySem PySem.Spec L2 PyProof.Rows
def clsL : List Str := (["BrokenRow", "Calls", "Count", "Trial", "Desk", "HouseError", "Refused", "BadName", "DoubledName", "UnknownName", "UnknownPage", "BadNumber", "BadCount", "OtherNames", "NoLink", "BadLot", "BadBook", "BadText", "BadStanding", "NoMove", "NoDeed", "TooLarge", "BadTable", "BadPlan", "NotFull", "BadStep", "BadRow", "BadHolding", "BadCommand", "DeskOver"] : List Str) ++ (["MoveWaits", "NoMoveWaits", "PagesFollow", "NothingToUndo", "NothingToRedo", "Game", "Guests", "Habit", "House", "Least", "Links", "Moment", "Net", "Page", "Book", "Paper", "Table", "Plan", "Raising", "RuleDraft", "Draft", "Allotment", "Roll", "Rule", "TurnRule", "BidRule", "Step", "Longest", "Dearest", "Safest"] : List Str) ++ (["Over", "Wait", "Without", "ToldRound", "Tolls"] : List Str)
def fldL : List Str := (["price", "rounds", "fault", "calls", "total", "prices", "table", "order", "winner", "_desk", "_now", "_past", "_ahead", "_most", "name", "number", "size", "lot", "part", "place", "line", "standing", "move", "deed", "why", "_first", "_net", "offers", "aside", "steps"] : List Str) ++ (["members", "rules", "names", "book", "roll", "most", "_votes", "plans", "links", "house", "game", "paid", "places", "standings", "options", "bids", "wishers", "followers", "home", "starts", "_pages", "_rows", "_standings", "_by_standing", "first", "raises", "ways", "kind", "parts", "pages"] : List Str) ++ (["page_lines", "ballots", "takers", "rents", "limit", "barred", "deposit", "fee", "start", "_hands", "_barred_tolls", "weights", "hours", "guests", "_least", "_house", "_page", "_rule", "_candidates", "_takers", "_prices"] : List Str)
abbrev nF : Nat := 200
def cnL (K : PySem.W.Frag) : Cn := ⟨fun c => clsL[c]?.map (He.ga K), nmOf fldL, fun _ _ _ => False⟩
theorem fld_nd : fldL.Nodup := by decide +kernel
theorem fld_ne : Str.empty ∉ fldL := by decide +kernel
theorem nm_ne {l : List Str} {m : Str} (h : m ∉ l) (e : m ≠ Str.empty) (k : Nat) : nmOf l k ≠ m := fun z => by
  unfold nmOf at z
  rw [List.getD_eq_getElem?_getD] at z
  cases q : l[k]? with
  | none => rw [q] at z; exact e z.symm
  | some x => rw [q] at z; exact h (z ▸ List.mem_of_getElem? q)
end Tk
namespace Tk
open PySem PySem.Spec L2 PyProof.Rows
def bltB (K : PySem.W.Frag) (x : Str) (id : String) : Bool := He.eqO (PySem.W.nsIn K mainGlobals x) (some (some (.builtin id)))
theorem Says.blt {fa : List He.Fa} {fn : List He.DefD} {K : PySem.W.Frag} {mg : Str → Option Value} {x : Str} {id : String} (T : Says fa fn K mg) (c : bltB K x id = true) : mg x = some (.builtin id) := by
  obtain ⟨hp, X, G⟩ := T.h
  exact PySem.W.mg_of X G (He.eqO_ok c)
section
variable {X : Cx} {ca : Cn} {W : WX} {e : Expr} {es : List Expr} {fl : Ev → R (List D)} {p pos : Pos}
end
end Tk
namespace Tk
open PySem PySem.Spec L2 PyProof.Rows
section
variable {X : Cx} {ca : Cn} {W : WX} {k j c nf : Nat} {qual : Str} {st : Stmt} {dd : List D} {kd : List (Str × D)} {ps : List Str} {Fn : List D → R D}
def isIns (c : Nat) : D → Bool
  | .ins c' _ => decide (c' = c)
  | _ => false
end
end Tk
namespace Tk
open PySem PySem.Spec L2 PyProof.Rows
section
variable {K : PySem.W.Frag} {ca : Cn} {B G H G' G2 H' : Hp} {σ : L2.St} {ρ : Ev}
end
end Tk
namespace Tk
open PySem PySem.Spec L2 PyProof.Rows
section
variable {X : Cx} {ca : Cn} {W : WX} {k j c : Nat} {qual m : Str} {st : Stmt} {dd : List D} {kd : List (Str × D)} {ps : List Str} {Fn : List D → R D}
theorem run_at {A1 : Around} {f : Addr} {fd : FuncData} {sp : Sp} {E : XK} {pins : List (Addr × Obj)} {σ : L2.St} {H : Hp} {s : Shared} {Q : VK} {us : List Value} {vs : List V} (F : FnOk X.prog X.w X.K X.mg X.base (L2.CX X.prog X.w) k f fd ps sp)
    (hr : Room k A1) (hf : A1.frames = X.A.frames) (hb : Binds X.K fd ps []) (hx : PassesAt (L2.CX X.prog X.w) X σ E) (I : Inv X pins σ H s) (rv : Vals vs us) (h : sp vs H Q E) : wpAny (model X.prog X.w) A1 (call (.ref f) us) (EP X pins σ Q) X.xe s := by
  have e0 := I.env0
  have e1 : Env0 X.prog X.w X.K X.mg X.base A1 X.stack s H := { frames := hf.trans e0.frames, mod := e0.mod, bs := e0.bs, bsz := e0.bsz, funs := e0.funs, frf := e0.frf, hok := e0.hok, bare := e0.bare }
  have hn : (us ++ []).length = ps.length := by rw [List.append_nil, ← rv.length]; exact F.len vs H Q E h
  have bt := hb s us I.kIn hn
  rw [List.append_nil] at bt
  have go := F.run A1 X.stack s H ⟨us, []⟩ us vs Q E hr e1 bt rv h
  refine wpAny_call (codeAny_mono go fun r s1 hq => ?_)
  rcases r with e | fl
  · exact hx pins H s e s1 I hq
  · cases fl with
    | ret u => exact I.after hq
    | _ => exact hq.elim
def R.ins (c : Nat) : R D → R D
  | .ok d => if isIns c d = true then .ok d else .bad
  | .exc x => .exc x
  | .bad => .bad
def gDun2 (c : Nat) (Fn : List D → R D) (a b : D) : R D := if (isIns c a && isIns c b) = true then R.ins c (Fn [a, b]) else .bad
def R.b (neg : Bool) : R D → R D
  | .ok (.bl z) => .ok (.bl (xor neg z))
  | .exc x => .exc x
  | _ => .bad
def R.len : R D → R D
  | .ok (.int n) => if 0 ≤ n ∧ n < 2 ^ 63 then .ok (.int n) else .bad
  | _ => .bad
theorem isIns_at {K : PySem.W.Frag} {G : Hp} {a : D} {x : V} {C : Addr} (hc : ca.a c = some C) (h : isIns c a = true) (ax : At K ca G a x) : ∃ p dx vs, x = .ref p ∧ G p = some (.ins C dx vs) := by
  cases a with
  | ins c' fs =>
    have e : c' = c := of_decide_eq_true h
    subst e
    obtain ⟨p, C', dx, vs, rfl, q1, q2, q3⟩ := ax
    rw [hc] at q1
    cases q1
    exact ⟨p, dx, vs, rfl, q2⟩
  | _ => cases h
theorem FunD.fnIn {K : PySem.W.Frag} {x qual : Str} {params : Arguments} {body : List Stmt} {scope : Scope} {dvs : List V} {kws : List (Str × V)} {f : Addr} {fd : FuncData} (F : FunD K x qual params body scope dvs kws f fd) : PySem.W.fnIn K f = true := by
  obtain ⟨oc, od, dV, kV, doc, pm, an, cdv, ct, osl, rfl, lk, _⟩ := F.ex
  unfold PySem.W.fnIn
  rw [lk]
theorem fe_opO {a b : Expr} {fa fb : Ev → R D} {pos : Pos} {op : Operator} (d : DefM X.prog X.w X.K X.mg X.base ca k c (PySem.dunder op.info.2) qual st dd kd ps Fn) (hself : ∀ C, ca.a c = some C → PySem.W.selfFirst X.K C = true) (hb : ∀ {f fd}, FD X.K (PySem.dunder op.info.2) qual st dd kd f fd → Binds X.K fd ps []) (hr : Room j X.A) (tk : Takes X W)
    (ha : FE X ca W a fa) (hbb : FE X ca W b fb) (hk : k ≤ j := by decide) (hn : ps.length = 2 := by rfl) : FE X ca W (.BinOp a op b pos) (e2 (gDun2 c Fn) fa fb) := by
  obtain ⟨f, fd, C, F, hc, cl, hm, h2⟩ := d.ex
  obtain ⟨ta, pa, ka⟩ := ha.ex
  obtain ⟨tb, pb, kb⟩ := hbb.ex
  refine ⟨fun σ H Q => ta σ H fun x H1 => tb σ H1 fun y H2 => ∃ p dx vs q dy us, x = .ref p ∧ H2 p = some (.ins C dx vs) ∧ y = .ref q ∧ H2 q = some (.ins C dy us) ∧ spF X.K ca ps.length Fn [x, y] H2 (fun v H' => (∃ z, v = .ref z) ∧ Q v H') (WE W σ), ⟨fun pins s σ H Q I h => ?_⟩, fun B G H σ ρ Q s b r h => ?_⟩
  · refine wpAny_BinOp (binT pa pb I h fun v u s2 x y H2 I2 rx ry q => ?_)
    obtain ⟨p, dx, vs, q, dy, us, rfl, e, rfl, e', sp⟩ := q
    cases rx
    cases ry
    obtain ⟨mA, J, _⟩ := ins_get I2.hok e
    obtain ⟨od, J, _⟩ := J.look
    obtain ⟨mB, J', _⟩ := ins_get I2.hok e'
    obtain ⟨od', J', _⟩ := J'.look
    obtain ⟨mm, hF⟩ := I2.fr
    refine PySem.W.binop_K hF I2.ok.mod.kin J J'.type (hself C hc) hm.at_ hm.fn ?_
    refine wpAny_mono (run_at (us := [.ref p, .ref q]) (vs := [.ref p, .ref q]) F (hr.mono hk) rfl (hb h2) (passAt tk σ) I2 (.cons rfl (.cons rfl .nil)) sp) (fun w s' hq => ?_) fun _ _ e => e
    obtain ⟨z, H', I', rz, ⟨a', rfl⟩, q⟩ := hq
    cases rz
    exact ⟨.ref a', H', I', rfl, q⟩
  · refine ka B G H σ ρ _ s b r (Wish.bind h fun d1 G1 H1 _ x1 w1 v av => ?_)
    refine kb B G1 H1 σ ρ _ x1.gh (b.trans x1.hh) (r.ext x1) (Wish.bind w1 fun d2 G2 H2 _ x2 w2 v2 a2 => ?_)
    unfold gDun2 at w2
    split at w2
    · rename_i hi
      obtain ⟨hi1, hi2⟩ := Bool.and_eq_true_iff.mp hi
      obtain ⟨p, dx, vs, rfl, g1⟩ := isIns_at hc hi1 (At.mono x2.gg av)
      obtain ⟨q, dy, us, rfl, g2⟩ := isIns_at hc hi2 a2
      refine ⟨p, dx, vs, q, dy, us, rfl, x2.gh _ _ g1, rfl, x2.gh _ _ g2, hn.symm, G2, [d1, d2], x2.gh, ⟨_, _, rfl, At.mono x2.gg av, _, _, rfl, a2, rfl⟩, ?_⟩
      cases e : Fn [d1, d2] with
      | ok d =>
        rw [e] at w2
        have w3 : Wish X.K ca (SV X.K ca Q) G2 H2 (if isIns c d = true then .ok d else .bad) (WE W σ) := w2
        split at w3
        · rename_i hi
          intro G' H' x' v av'
          refine ⟨?_, w3 G' H' x' v av'⟩
          obtain ⟨z, _, _, rfl, _⟩ := isIns_at hc hi av'
          exact ⟨z, rfl⟩
        · exact w3.elim
      | exc x => rw [e] at w2; exact w2
      | bad => rw [e] at w2; exact w2
    · exact w2.elim
theorem passNone {X : Cx} (σ : L2.St) : PassesAt (L2.CX X.prog X.w) X σ (fun _ _ _ => False) := fun pins H s e s' I c => by
  obtain ⟨_, _, _, _, _, _, _, _, _, _, _, _, hE⟩ := c
  exact hE.elim
end
end Tk
namespace Tk
open PySem PySem.Spec L2 PyProof.Rows
def ItT (l it : Addr) : HO := .ext fun h => h.IsTupleIter it l 0
theorem tup_iter_call {prog : Program} {w : World} {A : Around} {E : Value → Shared → Prop} {s : Shared} {l : Addr} {items : Array Value} {Q : Value → Shared → Prop} (hl : s.heap.IsTuple l items)
    (h : Q (.ref s.heap.objs.size) { s with heap := s.heap.push { cls := .type "tuple_iterator", data := .fields #[.ref l, .int 0 0] } }) : wpAny (model prog w) A (call (.builtin "iter") [.ref l]) Q E s := by
  refine Calls.call_function_entry (by decide +kernel) (by decide +kernel) PySem.W.kdk_entry_iter (PySem.W.kdk_args_iter _) ?_
  unfold Builtin.«iter»
  refine wpAny_bind (m := someArgs "iter" 1 2 _) (wpAny_of_eq (a := [Value.ref l]) (by first | rfl | kernel_rfl!) (wpAny_bind (wpAny_pyIter_tuple hl ?_)))
  exact wpAny_pure ⟨_, rfl, h⟩
theorem itT_ok {P : Program} {w : World} {H : Hp} {h : Heap} {l it : Addr} (e : h.IsTupleIter it l 0) : ObjOk P w H h it (ItT l it) :=
  ⟨e, let ⟨o, ho, _⟩ := e; ⟨o, ho⟩, fun h1 h2 q k => let ⟨o, ho, r⟩ := q; ⟨o, k _ ho, r⟩⟩
def rIterT (K : PySem.W.Frag) (n : Nat) : List V → Hp → VK → Prop := fun xs H Q => ∃ (l : Addr) (ys : List V), xs = [.ref l] ∧ SqT K H l ys ∧ ∀ it, H it = none → n ≤ it → Q (.ref it) (upd H it (ItT l it))
theorem call_iterT {X : Cx} : CallR X (.builtin "iter") (rIterT X.K X.s_0.heap.objs.size) := by
  intro pins s σ H xs us Q I r h
  obtain ⟨l, ys, rfl, hq, q⟩ := h
  obtain ⟨u, rfl, ru⟩ := r.one
  cases ru
  obtain ⟨its, rv, pl, hz⟩ := I.tuple hq
  refine tup_iter_call (show s.heap.IsTuple l its.toArray from pl) ?_
  refine ⟨.ref s.heap.objs.size, _, I.laid (t' := s.toks) (fun b u e => Heap.get?_push_of_some _ e) (Nat.le_refl _) (itT_ok ⟨_, Heap.get?_push_size _ rfl, rfl, rfl⟩), rfl, q _ (I.hok.fresh (Nat.le_refl _)) I.sz⟩
def LeftT (n : Nat) (Q : Addr → Hp → Prop) : VK := fun v H1 => ∃ it l H0, v = .ref it ∧ n ≤ it ∧ H0 it = none ∧ H1 = upd H0 it (ItT l it) ∧ Q l H0
structure DefT (P : Program) (w : World) (K : PySem.W.Frag) (mg : Str → Option Value) (base : Heap) (ca : Cn) (k c : Nat) (qual : Str) (st : Stmt) (F : List D → R D) : Prop where
  ex : ∃ f C, ca.a c = some C ∧ Meth K C "__iter__" f ∧ ∀ (A : Around) (outer : List Env) (s : Shared) (H G : Hp) (a : Addr) (d : D) (Q : Addr → Hp → Prop), Room k A → Env0 P w K mg base A outer s H → Same G H → At K ca G d (.ref a) →
    Wish K ca (fun G1 r H1 => ∀ v, At K ca G1 r v → ∃ l ys, v = .ref l ∧ SqT K H1 l ys ∧ Q l H1) G H (F [d]) (fun _ _ _ => False) →
    codeAny (model P w) A (.call (.ref f) ⟨[.ref a], []⟩) (CR (L2.CX P w) outer P w H s (LeftT s.heap.objs.size Q) fun _ _ _ => False) s
section
variable {P : Program} {w : World} {K : PySem.W.Frag} {mg : Str → Option Value} {base : Heap} {ca : Cn} {qual : Str} {st : Stmt} {N : List Str} {k c : Nat} {e : Expr} {fa : Ev → R D} {px pc pr : Pos} {y : Str}
theorem DefT.of (h : MeAt K ca c "__iter__" qual st [] []) (S : FnScope N [y] (defScope st)) (hbs : defBody st = [.Return (some (.Call (.Name "iter" px) [e] [] pc)) pr])
    (hbd : ∀ {f fd}, FD K "__iter__" qual st [] [] f fd → Binds K fd [y] [])
    (hg : ∀ (f : Addr) (cdv : Value) (A : Around) (outer : List Env) (s : Shared) (H : Hp) (E : XK), let X := cxOf (L2.CX P w) P w K mg base N qual (defScope st) f cdv A outer s H E; Gl X "iter" ∧ starEach [e] X.env = (false, eval e X.env) :: starEach [] X.env)
    (hm : mg "iter" = none) (hbb : bootBuiltins "iter" = some (.builtin "iter"))
    (hb : ∀ (f : Addr) (cdv : Value) (A : Around) (outer : List Env) (s : Shared) (H : Hp) (E : XK), Room k (A.deeper (envOfC qual (defScope st) s.heap.objs.size f cdv)) → FE (cxOf (L2.CX P w) P w K mg base N qual (defScope st) f cdv A outer s H E) ca (fun c d _ H' => E c d H') e fa) :
    DefT P w K mg base ca (k + 1) c qual st (runF N.length (sRet fa)) := by
  obtain ⟨f, fd, C, F, hc, cl, me⟩ := h.ex
  refine ⟨f, C, hc, me, fun A outer s H G a d Q hr e0 sm av q => ?_⟩
  have bt := hbd F
  obtain ⟨oc, od, dV, kV, doc, pm, an, cdv, ct, osl, efd, lk, hcd, _⟩ := F.ex
  have there := fun b o e => (e0.bs b o e).1
  have KX : K.In s.heap := e0.mod.kin.keeps there
  have pars : ∀ z ∈ [y].zip [Value.ref a], (defScope st).names.lookup z.1 = some .local ∨ ((defScope st).names.lookup z.1 = some .cell ∧ ((cellsFrom (s.heap.objs.size + 1) (defScope st).names []).lookup z.1).isSome = true) := by
    rintro ⟨n, v⟩ hz
    have inN := (List.of_mem_zip hz).1
    exact (S.par n inN).imp id fun t => ⟨t, PySem.W.cellsFrom_some _ _ _ (.inl t)⟩
  have to := bt s [.ref a] KX rfl
  subst efd
  refine codeAny_call_function hr.depth (KX _ _ lk) rfl S.co S.gen rfl (PySem.W.codeRec_of KX hcd) (to _ _ _ _ (wpAny_newFunctionEnv_cells S.kind pars fun env he s1 x => ?_))
  subst he
  refine ⟨(e0.mod.nolimit.keeps there).keeps x.toInCall.keep, codeAny_func ?_⟩
  have fe := hb f cdv A outer s H (fun _ _ _ => False) (hr.deeper _)
  obtain ⟨gl, se⟩ := hg f cdv A outer s H (fun _ _ _ => False)
  obtain ⟨t, pt, kt⟩ := (fa_cons fe fa_nil se).ex
  have body := pss_one (ps_ret (pos := pr) (pe_callB (p := px) (pos := pc) (he := se) call_iterT gl hm hbb pt))
  have I := inv_start (CX := L2.CX P w) (E := fun _ _ _ => False) (qual := qual) (f := f) (cd := cdv) (vs := [V.ref a]) S hr.hd e0 rfl (.cons rfl .nil) x
  have at1 : AtL K ca G [d] [V.ref a] := ⟨_, _, rfl, av, rfl⟩
  rw [hbs]
  have up : ∀ {G1 H1 : Hp}, Adv H G G1 H1 → Ext G H G1 H1 := fun x => ⟨x.bh, x.gg, x.gh, x.nw⟩
  have z0 : Rel K ca H G H (L2.start N [V.ref a]) (startE N.length [d]) := rel_start at1
  refine wpAny_mono (body.run [] s1 (L2.start N [V.ref a]) H { nx := fun _ _ => False, rt := LeftT s.heap.objs.size Q } I ?_) (fun fl s2 hs => ?_) fun e s2 hs => hs
  · refine kt H G H _ (startE N.length [d]) _ sm (.refl H) z0 ?_
    unfold runF sRet at q
    show Wish K ca _ G H ((fa (startE N.length [d])).bind fun a => R.bind (.ok []) fun r => .ok (a :: r)) _
    cases z : fa (startE N.length [d]) with
    | ok r =>
      rw [z] at q
      have q2 : Wish K ca (fun G1 r H1 => ∀ v, At K ca G1 r v → ∃ l ys, v = .ref l ∧ SqT K H1 l ys ∧ Q l H1) G H (.ok r) (fun _ _ _ => False) := q
      intro G1 H1 x1 vs al
      obtain ⟨v, rfl, a1⟩ := atl1 al
      obtain ⟨l, ys, rfl, h1, h2⟩ := q2 G1 H1 x1 v a1
      exact ⟨l, ys, rfl, h1, fun it hn hz => ⟨it, l, H1, rfl, hz, hn, rfl, h2⟩⟩
    | exc x => rw [z] at q; exact fun G1 H1 c dx x1 ea => q G1 H1 c dx x1 ea
    | bad => rw [z] at q; exact q
  · cases fl with
    | ret u =>
      obtain ⟨v, σ1, H1, J, rv, q1⟩ := hs
      exact ⟨v, H1, J.os, J.bare, J.base, J.hok, rv, q1⟩
    | next => obtain ⟨_, _, _, q1⟩ := hs; exact q1.elim
    | brk => obtain ⟨_, _, _, q1⟩ := hs; exact q1.elim
    | cont => obtain ⟨_, _, _, q1⟩ := hs; exact q1.elim
end
def R.tup : R D → R (List D)
  | .ok (.tup ys) => .ok ys
  | _ => .bad
def iDun (c : Nat) (F : List D → R D) (fo : Ev → R D) : Ev → R (List D) := fun ρ => (fo ρ).bind fun d => if isIns c d = true then R.tup (F [d]) else .bad
theorem fi_own {X : Cx} {ca : Cn} {W : WX} {k j c : Nat} {qual : Str} {st : Stmt} {F : List D → R D} {tg e : Expr} {fo : Ev → R D} (d : DefT X.prog X.w X.K X.mg X.base ca k c qual st F) (hr : Room j X.A) (ho : FE X ca W e fo) (hk : k ≤ j := by decide) : FI X ca W tg e (iDun c F fo) := by
  obtain ⟨f, C, hc, me, run⟩ := d.ex
  obtain ⟨to, po, ko⟩ := ho.ex
  refine ⟨fun σ H R => to σ H fun x H1 => ∃ a dx fs d ys G1, x = .ref a ∧ H1 a = some (.ins C dx fs) ∧ Same G1 H1 ∧ At X.K ca G1 d (.ref a) ∧ F [d] = .ok (.tup ys) ∧ ∀ G2 H2 J, Ext G1 H1 G2 H2 → JOk X.K ca G2 J ys → R J H2, ⟨fun pins s σ H R I h => ?_⟩, fun B G H σ ρ Q s b r w => ?_⟩
  · refine thn (po.run pins s σ H _ I h) fun u s1 ⟨x, H1, I1, r1, q1⟩ => ?_
    obtain ⟨a, dx, fs, d, ys, G1, rfl, e1, sm, av, eF, q⟩ := q1
    cases r1
    obtain ⟨mA, J, _⟩ := ins_get I1.hok e1
    obtain ⟨od, J, _⟩ := J.look
    obtain ⟨mm, hF⟩ := I1.fr
    refine PySem.W.owit_iter hF I1.ok.mod.kin J me.at_ me.fn (wpAny_call (codeAny_mono (run X.A X.stack s1 H1 G1 a d (fun l H2 => ∃ vs G2, SqT X.K G2 l vs ∧ AtL X.K ca G2 ys vs ∧ Ext G1 H1 G2 H2) (hr.mono hk) I1.env0 sm av ?_) fun r s2 hq => ?_))
    · rw [eF]
      intro G2 H2 x v ⟨l, vs, ev, h1, h2⟩
      exact ⟨l, vs, ev, tq x.gh h1, vs, G2, tq (.refl _) h1, h2, x⟩
    · rcases r with er | fl
      · exact (passNone σ pins H1 s1 er s2 I1 hq)
      · cases fl with
        | ret u =>
          obtain ⟨v, H2, I2, rv, it, l, H0, rfl, hn, h0, rfl, vs, G2, qs, ql, x⟩ := I1.after hq
          cases rv
          have e2 : upd H0 it (ItT l it) it = some (ItT l it) := upd_same
          have ti : s2.heap.IsTupleIter it l 0 := (I2.hok it _ e2).1
          unfold PySem.W.OwitIt
          refine wpAny_specialOf (name := "__next__") ti.typeIs PySem.F.slot_tuple_iterator_next.lookup ?_
          have z2 := e2
          unfold ItT at z2
          have z3 := ItX.inv_drop I2 z2
          have ed : ItX.dropH (upd H0 it (ItT l it)) it = H0 := ItX.dropH_upd h0
          have fp := ItX.inv_fp I2 z2 (Nat.le_trans I1.sz hn)
          rw [ed] at z3 fp
          show PIE X pins σ tg R (Value.ref it) s2
          refine ⟨it, [it], _, _, H0, rfl, z3, turn_tuple l it, ti, fun b hb => ?_, q G2 H0 _ x (jok_tup qs ql)⟩
          rcases List.mem_cons.mp hb with rfl | hb
          · exact fp
          · cases hb
        | _ => exact hq.elim
  · refine ko B G H σ ρ _ s b r (Wish.bind w fun d G1 H1 _ x1 w1 v av => ?_)
    split at w1
    · rename_i hi
      obtain ⟨p, dx, vs, rfl, g1⟩ := isIns_at hc hi av
      cases z : F [d] with
      | ok t =>
        rw [z] at w1
        cases t with
        | tup ys => exact ⟨p, dx, vs, d, ys, G1, rfl, x1.gh _ _ g1, x1.gh, av, z, fun G2 H2 J x2 hj => w1 G2 H2 x2 J hj⟩
        | _ => exact w1.elim
      | exc x => rw [z] at w1; exact w1.elim
      | bad => rw [z] at w1; exact w1.elim
    · exact w1.elim
end Tk
set_option maxHeartbeats 2000000
namespace Tk
open PySem PySem.Spec L2 PyProof.Rows
section
variable {X : Cx} {pins : List (Addr × Obj)} {σ : L2.St} {A1 : Around}
end
end Tk
namespace Tk
open PySem PySem.Spec L2 PyProof.Rows
section
variable {K : PySem.W.Frag} {ca : Cn} {G : Hp}
theorem AtT.any : ∀ {kvs : List (List Key × D)} {vs : List (List Key × V)} (k : List Key), AtT K ca G kvs vs → (kvs.any fun kv => decide (kv.1 = k)) = (vs.any fun kv => decide (kv.1 = k))
  | [], _, _, h => by cases h; rfl
  | (_, _) :: _, _, k, ⟨_, _, e, _, t⟩ => by subst e; simp only [List.any_cons, AtT.any k t]
theorem AtT.app : ∀ {kvs kws : List (List Key × D)} {vs ws : List (List Key × V)}, AtT K ca G kvs vs → AtT K ca G kws ws → AtT K ca G (kvs ++ kws) (vs ++ ws)
  | [], _, _, _, h, h' => by cases h; exact h'
  | (_, _) :: _, _, _, _, ⟨_, _, e, a, t⟩, h' => by subst e; exact ⟨_, _, rfl, a, AtT.app t h'⟩
theorem AtT.upd1 : ∀ {kvs : List (List Key × D)} {vs : List (List Key × V)} {k : List Key} {d : D} {v : V}, AtT K ca G kvs vs → At K ca G d v → AtT K ca G (kvs.map fun kv => if kv.1 = k then (kv.1, d) else kv) (vs.map fun kv => if kv.1 = k then (kv.1, v) else kv)
  | [], _, _, _, _, h, _ => by cases h; rfl
  | (j, _) :: _, _, k, d, v, ⟨_, _, e, a, t⟩, q => by
    subst e
    simp only [List.map_cons]
    by_cases z : j = k
    · simp only [z, if_true]; exact ⟨_, _, rfl, q, AtT.upd1 t q⟩
    · simp only [z, if_false]; exact ⟨_, _, rfl, a, AtT.upd1 t q⟩
theorem AtT.put {kvs : List (List Key × D)} {vs : List (List Key × V)} {k : List Key} {d : D} {v : V} (h : AtT K ca G kvs vs) (a : At K ca G d v) : AtT K ca G (putG kvs k d) (putK vs k v) := by
  unfold putG putK
  rw [h.any k]
  split
  · exact h.upd1 a
  · exact h.app ⟨_, _, rfl, a, rfl⟩
theorem AtT.length : ∀ {kvs : List (List Key × D)} {vs : List (List Key × V)}, AtT K ca G kvs vs → kvs.length = vs.length
  | [], _, h => by cases h; rfl
  | (_, _) :: _, _, ⟨_, _, e, _, t⟩ => by subst e; simp [AtT.length t]
end
def nDT : Ev → R Sl := fun _ => .ok (.t [])
def nDK : Ev → R Sl := fun _ => .ok (.k [])
section
variable {X : Cx} {ca : Cn} {W : WX} {pos : Pos}
theorem fn_dT : FN X ca W (.Dict [] [] pos) nDT := ⟨_, pe_dnewT, fun B G H σ ρ Q s b r w p n => (w G (upd H p (.dT [])) ⟨same_upd n, .refl _, s.trans (same_upd n), fun c z => .inl z⟩).2 p ⟨[], upd_same, rfl⟩ (same_none s n) n⟩
theorem fn_dK : FN X ca W (.Dict [] [] pos) nDK := ⟨_, pe_dnewK, fun B G H σ ρ Q s b r w p n => (w G (upd H p (.dK [])) ⟨same_upd n, .refl _, s.trans (same_upd n), fun c z => .inl z⟩).2 p ⟨[], upd_same, rfl⟩ (same_none s n) n⟩
end
def ownT (ρ : Ev) (i : Nat) : R (List (List Key × D)) := match ρ[i]? with
  | some (.t xs) => .ok xs
  | _ => .bad
def sPutT (i : Nat) (fk fv : Ev → R D) : Ev → SO := fun ρ => SO.from ρ (fv ρ) fun d => SO.from ρ (ownT ρ i) fun kvs => SO.from ρ (fk ρ) fun y => match keyT y with
  | some k => if kvs.length < sizeLine then .nx (ρ.set i (.t (putG kvs k d))) else .bad
  | none => .bad
section
variable {X : Cx} {ca : Cn} {W : WX} {e ei : Expr} {f fi : Ev → R D} {pos p py : Pos} {i : Nat} {y : Str}
theorem own_at {K : PySem.W.Frag} {B G H : Hp} {σ : L2.St} {ρ : Ev} {i : Nat} {s : Sl} (r : Rel K ca B G H σ ρ) (h : ρ[i]? = some s) (o : s.own = true) : ∃ a, σ[i]? = some (some (.ref a)) ∧ Own K ca G H a s := let ⟨a, h1, h2, _⟩ := r.own i s h o; ⟨a, h1, h2⟩
theorem fs_putT (hu : X.A.units + 65 < cLine) (hi : X.N[i]? = some y) (h : FE X ca W e f) (hx : FE X ca W ei fi) (hv : Vis X.env.scope y := by first | exact Or.inl rfl | exact Or.inr (Or.inl rfl) | exact Or.inr (Or.inr rfl)) (hd : (y == ("__debug__" : Str)) = false := by decide) (hcd : (y == ("__classdict__" : Str)) = false := by decide)
    (hs : swapsWith e (some (.Subscript (.Name y py) ei p)) pos.line X.env = pure false := by rfl) : FS X ca W (.Assign [.Subscript (.Name y py) ei p] e pos) (sPutT i fi f) := by
  obtain ⟨t, pp, k⟩ := h.ex
  obtain ⟨u, pu, ku⟩ := hx.ex
  refine ⟨_, ps_dput (by omega) (pe_var hi hv hd hcd) pu pp hs, fun B G H σ ρ D s b r w => k B G H σ ρ _ s b r ?_⟩
  refine WishS.from w b r fun d G1 H1 _ x w1 r1 b1 v av => ?_
  cases z : ownT ρ i with
  | exc x => unfold ownT at z; split at z <;> cases z
  | bad => rw [z] at w1; exact w1.elim
  | ok kvs =>
    rw [z] at w1
    have hk : ρ[i]? = some (.t kvs) := by
      unfold ownT at z
      split at z
      · rename_i q; cases z; exact q
      · cases z
    obtain ⟨a, h1, ⟨vs, h2, h3⟩⟩ := own_at r1 hk rfl
    refine ⟨_, h1, ku B G1 H1 σ ρ _ x.gh b1 r1 ?_⟩
    refine WishS.from w1 b1 r1 fun n G2 H2 _ x2 w2 r2 b2 nv an => ?_
    have w3 : WishS X.K ca B G2 (match keyT n with | some k => if kvs.length < sizeLine then .nx (ρ.set i (.t (putG kvs k d))) else .bad | none => .bad) D W := w2
    cases hkk : keyT n with
    | none => rw [hkk] at w3; exact w3.elim
    | some kk =>
      rw [hkk] at w3
      have w4 : WishS X.K ca B G2 (if kvs.length < sizeLine then .nx (ρ.set i (.t (putG kvs kk d))) else .bad) D W := w3
      split at w4
      · rename_i hl
        have h3' : AtT X.K ca G2 kvs vs := AtT.mono x2.gg h3
        obtain ⟨t1, t2, t3⟩ := r2.turn x2.gh b2 (t' := .t (putG kvs kk d)) (o := .dT (putK vs kk v)) hk rfl rfl h1 ⟨_, upd_same, h3'.put (At.mono x2.gg av)⟩
        unfold keyT at hkk
        split at hkk
        · obtain ⟨q, ws, rfl, u1, u2⟩ := an
          have e3 := keys_at u2 hkk
          subst e3
          exact ⟨a, _, rfl, DPut.t (x2.hh _ _ h2) (x2.gh q _ u1) (by rw [← h3'.length]; exact hl), w4 _ G2 _ ⟨.refl _, t2, t3, fun c z => .inl z⟩ t1⟩
        · cases hkk
      · exact w4.elim
end
def dictH : HO → Prop
  | .dK _ => True
  | .dT _ => True
  | _ => False
def Lck (G G' : Hp) : Prop := ∀ b u, G b = some u → G' b = some u ∨ (dictH u ∧ ∃ o, G' b = some (.frz o u))
theorem Lck.no {G G' : Hp} (l : Lck G G') {b : Addr} {u : HO} (h : G b = some u) (n : ¬ dictH u) : G' b = some u := (l b u h).elim id fun z => (n z.1).elim
theorem Lck.rd {G G' : Hp} (l : Lck G G') {b : Addr} {u : HO} (n : ¬ dictH u) (h : Rd G b u) : Rd G' b u := by
  rcases h with h | ⟨o, h⟩
  · exact .inl (l.no h n)
  · exact .inr ⟨o, l.no h id⟩
section
variable {K : PySem.W.Frag} {ca : Cn} {G G' : Hp}
end
end Tk
namespace Tk
open PySem PySem.Spec L2 PyProof.Rows
section
variable {prog : Program} {w : World} {A : Around} {s : Shared}
end
section
variable {X : Cx} {ca : Cn} {W : WX} {e : Expr} {es : List Expr} {fl : Ev → R (List D)} {p pos : Pos}
end
end Tk
namespace Tk
open PySem PySem.Spec L2 PyProof.Rows
section
variable {prog : Program} {w : World} {A : Around} {E : Value → Shared → Prop} {s : Shared} {l : Addr} {xs : Array (Int × Tok)}
end
section
variable {X : Cx} {ca : Cn} {W : WX} {e : Expr} {es : List Expr} {fl : Ev → R (List D)} {p pos : Pos}
end
end Tk
namespace Tk
open PySem PySem.Spec L2 PyProof.Rows
section
variable {X : Cx} {ca : Cn} {W : WX} {e tg : Expr}
end
end Tk
set_option maxHeartbeats 2000000
namespace Tk
open PySem PySem.Spec L2 PyProof.Rows
section
variable {K : PySem.W.Frag} {ca : Cn} {x qual : Str} {params : Arguments} {body : List Stmt} {scope : Scope} {kd : List (Str × D)} {f : Addr} {fd : FuncData} {ps : List Str} {pv : Str}
end
structure FnS (P : Program) (w : World) (K : PySem.W.Frag) (mg : Str → Option Value) (base : Heap) (k : Nat) (f : Addr) (fd : FuncData) (ps : List Str) (pv : Str) (sp : Sp) : Prop where
  run : ∀ (A : Around) (outer : List Env) (s : Shared) (H : Hp) (args : Args) (us rs : List Value) (vs rest : List V) (Q : VK) (E : XK), Room k A → Env0 P w K mg base A outer s H →
    (∀ (M : Model) (A : Around) (Q : List (Str × Value) → Shared → Prop) (E : Value → Shared → Prop), wpAny M A (newTuple rs >>= fun t => pure (ps.zip us ++ [(pv, t)])) Q E s → wpAny M A (bindArgs fd args) Q E s) →
    Vals vs us → Vals rest rs → vs.length = ps.length → rest.length ≤ sizeLine → (∀ p, H p = none → sp (vs ++ [.ref p]) (upd H p (.tup rest)) Q E) →
    codeAny (model P w) A (.call (.ref f) args) (CR (L2.CX P w) outer P w H s Q E) s
section
variable {P : Program} {w : World} {K : PySem.W.Frag} {mg : Str → Option Value} {base : Heap} {ca : Cn} {name qual : Str} {params : Arguments} {body : List Stmt} {scope : Scope} {dvs : List V} {kws : List (Str × V)} {f : Addr} {fd : FuncData} {N ps : List Str} {pv : Str} {k : Nat} {g : Ev → SO}
theorem fnS_ok {sp : Sp} (F : FunD K name qual params body scope dvs kws f fd) (S : FnScope N (ps ++ [pv]) scope)
    (hbody : ∀ (cdv : Value) (A : Around) (outer : List Env) (s : Shared) (H : Hp) (vs : List V) (Q : VK) (E : XK), Room k (A.deeper (envOfC qual scope s.heap.objs.size f cdv)) → sp vs H Q E →
      ∃ t, PSs (cxOf (L2.CX P w) P w K mg base N qual scope f cdv A outer s H E) body t ∧ t { nx := fun _ H' => Q .non H', rt := Q } (L2.start N vs) H) : FnS P w K mg base (k + 1) f fd ps pv sp := by
  obtain ⟨oc, od, dV, kV, doc, pm, an, cdv, ct, osl, rfl, lk, hcd, _, _⟩ := F.ex
  refine ⟨fun A outer s H args us rs vs rest Q E hr e0 hb r1 r2 hl hz hq => ?_⟩
  have hn : H s.heap.objs.size = Option.none := e0.hok.fresh (Nat.le_refl _)
  have hl1 : us.length = ps.length := by rw [← r1.length]; exact hl
  have hl2 : rs.length ≤ sizeLine := by rw [← r2.length]; exact hz
  refine StX.run_bnd lk hcd S hr e0 (G := fun xs H2 => ∃ p, H p = Option.none ∧ xs = vs ++ [V.ref p] ∧ H2 = upd H p (.tup rest)) (fun A' Ex Q' h => ?_) fun s2 H2 xs ⟨p, hp, ex, eH⟩ hr' => ?_
  · refine hb _ _ _ _ (wpAny_bind (wpAny_newTuple (wpAny_pure ?_) hl2))
    have new : ObjOk P w (upd H s.heap.objs.size (.tup rest)) (s.heap.push ({ cls := .type "tuple", data := .seq rs.toArray } : Obj)) s.heap.objs.size (.tup rest) := ⟨hz, rs, r2, ⟨_, Heap.get?_push_size _ rfl, rfl, _, rfl⟩⟩
    have un := StX.un_laid (fs := frs outer) (s := s) (o := ({ cls := .type "tuple", data := .seq rs.toArray } : Obj)) (u := .tup rest) hn
    have z := h _ _ (vs ++ [V.ref s.heap.objs.size]) (us ++ [Value.ref s.heap.objs.size]) (StX.env0_laid e0 new) un rfl (fun e s' => StX.cxUp outer s H _ _ E e s' un (fun b o q => Heap.get?_push_of_some _ q) rfl) (r1.append (.cons rfl .nil))
      (by rw [List.length_append, List.length_append, hl] <;> rfl) ⟨_, hn, rfl, rfl⟩
    rw [List.zip_append hl1.symm] at z
    exact z
  · subst ex eH
    exact hbody cdv A outer s2 _ _ Q E hr' (hq p hp)
theorem fnS_okO (F : FunD K name qual params body scope dvs kws f fd) (S : FnScope N (ps ++ [pv]) scope)
    (hb : ∀ (cdv : Value) (A : Around) (outer : List Env) (s : Shared) (H : Hp) (E : XK), Room k (A.deeper (envOfC qual scope s.heap.objs.size f cdv)) →
      FSs (cxOf (L2.CX P w) P w K mg base N qual scope f cdv A outer s H E) ca (fun c d _ H' => E c d H') body g) : FnS P w K mg base (k + 1) f fd ps pv (spO K ca (ps.length + 1) (runO N.length g)) :=
  fnS_ok F S fun cdv A outer s H vs Q E hr h => by
    obtain ⟨l, G, ds, sm, a, q⟩ := h
    exact body_okO rfl (hb cdv A outer s H E hr) (fun _ _ _ _ z => z) sm a q
end
structure CmAt (K : PySem.W.Frag) (mg : Str → Option Value) (ca : Cn) (c : Nat) (x m qual : Str) (st : Stmt) (dd : List D) (kd : List (Str × D)) : Prop where
  ex : ∃ f fd C p, FD K m qual st dd kd f fd ∧ ca.a c = some C ∧ mg x = some (.ref C) ∧ ClX.CRead K C (.type "type") ∧ ClX.CMet K C (.type "type") m p f
structure DefCm (P : Program) (w : World) (K : PySem.W.Frag) (mg : Str → Option Value) (base : Heap) (ca : Cn) (k c : Nat) (x m qual : Str) (st : Stmt) (dd : List D) (kd : List (Str × D)) (ps : List Str) (pv : Str) (F : List D → R Sl) : Prop where
  ex : ∃ f fd C p, FnS P w K mg base k f fd ps pv (spO K ca (ps.length + 1) F) ∧ FD K m qual st dd kd f fd ∧ ca.a c = some C ∧ mg x = some (.ref C) ∧ ClX.CRead K C (.type "type") ∧ ClX.CMet K C (.type "type") m p f
theorem DefCm.of {P : Program} {w : World} {K : PySem.W.Frag} {mg : Str → Option Value} {base : Heap} {ca : Cn} {x m qual : Str} {st : Stmt} {dd : List D} {kd : List (Str × D)} {ps N : List Str} {pv : Str} {k c : Nat} {g : Ev → SO} (h : CmAt K mg ca c x m qual st dd kd) (S : FnScope N (ps ++ [pv]) (defScope st))
    (hb : ∀ (f : Addr) (cdv : Value) (A : Around) (outer : List Env) (s : Shared) (H : Hp) (E : XK), Room k (A.deeper (envOfC qual (defScope st) s.heap.objs.size f cdv)) →
      FSs (cxOf (L2.CX P w) P w K mg base N qual (defScope st) f cdv A outer s H E) ca (fun c d _ H' => E c d H') (defBody st) g) : DefCm P w K mg base ca (k + 1) c x m qual st dd kd ps pv (runO N.length g) := by
  obtain ⟨f, fd, C, p, F, h1, h2, h3, h4⟩ := h.ex
  exact ⟨f, fd, C, p, fnS_okO F S (hb f), F, h1, h2, h3, h4⟩
section
variable {X : Cx} {ca : Cn} {W : WX} {k j c n : Nat} {x m qual : Str} {st : Stmt} {dd : List D} {kd : List (Str × D)} {ps ks : List Str} {pv : Str} {Fn : List D → R Sl} {p apos pos : Pos} {e : Expr} {es : List Expr} {kws : List Keyword} {fa fk : Ev → R (List D)} {gD : List D → List D → List D}
end
abbrev AlC : Type := (He.AlD × Bool) × List He.FnW
structure SaysC (fa : List He.Fa) (fn : List He.DefD) (ex : PySem.W.Frag → Bool) (fw : List He5.DefA) (K : PySem.W.Frag) (mg : Str → Option Value) : Prop extends SaysU fa fn ex K mg where
  fw : fw.map (fun d => He5.fnA K (d.at_ K)) = fw.map He5.DefA.val
end Tk
namespace Tk
open PySem PySem.Spec L2 PyProof.Rows
section
variable {X : Cx} {ca : Cn} {W : WX} {o e : Expr} {fo fa : Ev → R D} {apos pos : Pos}
end
end Tk
namespace Tk
open PySem PySem.Spec L2 PyProof.Rows
section
variable {X : Cx} {ca : Cn} {W : WX} {e : Expr} {es : List Expr} {fl : Ev → R (List D)} {p pos : Pos}
end
end Tk
namespace Tk
open PySem PySem.Spec L2 PyProof.Rows
def dropG {κ α : Type} [DecidableEq κ] (kvs : List (κ × α)) (k : κ) : List (κ × α) := kvs.filter fun kv => decide (kv.1 ≠ k)
theorem AtK.drop {K : PySem.W.Frag} {ca : Cn} {G : Hp} {k : Key} : ∀ {kvs : List (Key × D)} {vs : List (Key × V)}, AtK K ca G kvs vs → AtK K ca G (dropG kvs k) (dropK vs k)
  | [], _, h => by cases h; rfl
  | (k', d) :: kvs, _, ⟨v, r, e, h, t⟩ => by
    subst e
    unfold dropG dropK
    by_cases c : k' = k
    · rw [List.filter_cons_of_neg (by simpa using c), List.filter_cons_of_neg (by simpa using c)]
      exact t.drop
    · rw [List.filter_cons_of_pos (by simpa using c), List.filter_cons_of_pos (by simpa using c)]
      exact ⟨v, _, rfl, h, t.drop⟩
section
variable {X : Cx} {ca : Cn} {W : WX} {e1 e : Expr} {f1 f : Ev → R D} {pos pos' pos2 apos cpos pz : Pos} {i j : Nat} {y z : Str}
end
end Tk
namespace Tk
open PySem PySem.Spec L2 PyProof.Rows
section
variable {X : Cx} {ca : Cn} {W : WX} {e f : Expr} {fa fb : Ev → R D} {apos cpos py : Pos} {i : Nat} {y : Str}
end
section
variable {K : PySem.W.Frag} {ca : Cn} {G G' : Hp}
end
end Tk
set_option maxHeartbeats 2000000
namespace Tk
open PySem PySem.Spec L2 PyProof.Rows
structure SMet (K : PySem.W.Frag) (C : Addr) (mc : Value) (m : Str) (p g : Addr) : Prop where
  at_ : PySem.W.findCls K (.ref C) mc m = some (.get (.builtin "staticmethod.__get__") (.ref p) .none (.ref C))
  rc : ∃ rest, PySem.W.recIn K p "staticmethod" = some (.ref g :: rest)
section
variable {X : Cx} {pins : List (Addr × Obj)} {σ : L2.St} {H : Hp} {s : Shared} {C p g : Addr} {mc : Value} {m : Str} {A : Around} {E : Value → Shared → Prop}
theorem getmethsm_ok {pl : Sem Bool} {Q : Value × List Value → Shared → Prop} (I : Inv X pins σ H s) (r : ClX.CRead X.K C mc) (k : SMet X.K C mc m p g) (h : ∀ s', Inv X pins σ H s' → Q (.ref g, []) s') :
    wpAny (model X.prog X.w) A (getMethod (.ref C) m pl) Q E s := by
  obtain ⟨rest, hp⟩ := k.rc
  refine PySem.W.method_cls I.kIn r.ga (PySem.W.cls_bind I.kIn r.rd k.at_ ?_)
  exact wpAny_call (PySem.W.sm_get (s := { s with toks := s.toks + 1 }) I.kIn hp (PySem.W.handed_on rfl (h _ (I.tok _))))
end
structure SmAt (K : PySem.W.Frag) (mg : Str → Option Value) (x m qual : Str) (st : Stmt) (dd : List D) (kd : List (Str × D)) : Prop where
  ex : ∃ f fd C p, FD K m qual st dd kd f fd ∧ mg x = some (.ref C) ∧ ClX.CRead K C (.type "type") ∧ SMet K C (.type "type") m p f
structure DefSm (P : Program) (w : World) (K : PySem.W.Frag) (mg : Str → Option Value) (base : Heap) (ca : Cn) (k : Nat) (x m qual : Str) (st : Stmt) (dd : List D) (kd : List (Str × D)) (ps : List Str) (F : List D → R D) : Prop where
  ex : ∃ f fd C p, FnOk P w K mg base (L2.CX P w) k f fd ps (spF K ca ps.length F) ∧ FD K m qual st dd kd f fd ∧ mg x = some (.ref C) ∧ ClX.CRead K C (.type "type") ∧ SMet K C (.type "type") m p f
theorem DefSm.of {P : Program} {w : World} {K : PySem.W.Frag} {mg : Str → Option Value} {base : Heap} {ca : Cn} {x m qual : Str} {st : Stmt} {dd : List D} {kd : List (Str × D)} {ps N : List Str} {k : Nat} {g : Ev → SO} (h : SmAt K mg x m qual st dd kd) (S : FnScope N ps (defScope st))
    (hb : ∀ (f : Addr) (cdv : Value) (A : Around) (outer : List Env) (s : Shared) (H : Hp) (E : XK), Room k (A.deeper (envOfC qual (defScope st) s.heap.objs.size f cdv)) →
      FSs (cxOf (L2.CX P w) P w K mg base N qual (defScope st) f cdv A outer s H E) ca (fun c d _ H' => E c d H') (defBody st) g) : DefSm P w K mg base ca (k + 1) x m qual st dd kd ps (runF N.length g) := by
  obtain ⟨f, fd, C, p, F, h1⟩ := h.ex
  exact ⟨f, fd, C, p, fn_okD F S (hb f), F, h1⟩
section
variable {X : Cx} {ca : Cn} {W : WX} {k j n : Nat} {x m qual : Str} {st : Stmt} {dd : List D} {kd : List (Str × D)} {ps ks : List Str} {Fn : List D → R D} {p apos pos : Pos} {e : Expr} {es : List Expr} {kws : List Keyword} {fa fk : Ev → R (List D)} {gD : List D → List D → List D}
theorem fe_sm {pl : Sem Bool} (d : DefSm X.prog X.w X.K X.mg X.base ca k x m qual st dd kd ps Fn) (hb : ∀ {f fd}, FD X.K m qual st dd kd f fd → KB X.K ca fd ps n ks gD) (hr : Room j X.A) (tk : Takes X W) (ha : FA X ca W (e :: es) fa) (hkw : FK X ca W kws fk) (hk : k ≤ j := by decide) (hg : Gl X x := by rfl)
    (hall : (backToKw pos (keywordEach kws X.env)).all (·.1.isSome) = true := by rfl) (hks : (backToKw pos (keywordEach kws X.env)).filterMap (·.1) = ks := by rfl) (hdb : (x == ("__debug__" : Str)) = false := by decide)
    (he : starEach (e :: es) X.env = (false, eval e X.env) :: starEach es X.env := by rfl) (hpl : ((backTo pos (starEach (e :: es) X.env)).any (·.1) || (backToKw pos (keywordEach kws X.env)).any (·.1.isNone)) = false := by rfl)
    (ht : eval (.Call (.Attribute (.Name x p) m apos) (e :: es) kws pos) X.env = (do
      let ov ← eval (.Name x p) X.env
      standAt apos.atName
      let (f, first) ← holding [ov] (getMethod ov m pl)
      callWith pos f first (backTo pos (starEach (e :: es) X.env)) (backToKw pos (keywordEach kws X.env))) := by rfl) :
    FE X ca W (.Call (.Attribute (.Name x p) m apos) (e :: es) kws pos) (eCallK n ks.length ps.length Fn gD fa fk) := by
  obtain ⟨f, fd, C, q, F, h2, hm, rd, sm⟩ := d.ex
  obtain ⟨t, pa, kt⟩ := ha.ex
  obtain ⟨u, pk, ku⟩ := hkw.ex
  obtain ⟨g, gV, hbn, hgd⟩ := (hb h2).ex
  refine ⟨fun σ H Q => t σ H fun vs H1 => u σ H1 fun zs H2 => vs.length = n ∧ zs.length = ks.length ∧ spF X.K ca ps.length Fn (gV vs zs) H2 Q (WE W σ), ⟨fun pins s σ H Q I h => ?_⟩, fun B G H σ ρ Q s b r h => ?_⟩
  · refine PySem.W.methodCall_KW (pl := pl) (ld_glob I hg hm ?_ hdb) ht
    refine getmethsm_ok I rd sm fun s1 I1 => ?_
    refine PySem.W.callWith_KW (h₀ := X.base) I.ok.mod.kin h2.kp hall (thn (pa.run pos pins s1 σ H _ I1 h) fun us s2 ⟨vs, H1, I2, r1, q1⟩ => ?_) hpl he
    refine thn (pk.run pos pins s2 σ H1 _ I2 q1) fun ws s3 ⟨zs, H2, I3, r2, l1, l2, q2⟩ => ⟨I3.kIn, ?_⟩
    rw [hks]
    exact run_kb F (hr.mono hk) hbn (passAt tk σ) I3 r1 r2 l1 l2 q2
  · refine kt B G H σ ρ _ s b r (Wish.bind h fun ds G1 H1 _ x1 w1 vs a1 => ?_)
    refine ku B G1 H1 σ ρ _ x1.gh (b.trans x1.hh) (r.ext x1) (Wish.bind w1 fun zs G2 H2 _ x2 w2 ws a2 => ?_)
    split at w2
    · rename_i hl
      have a3 := hgd G2 ds vs zs ws (AtL.mono x2.gg a1) a2
      exact ⟨by rw [← a1.length]; exact hl.1, by rw [← a2.length]; exact hl.2.1, by rw [← a3.length]; exact hl.2.2, G2, _, x2.gh, a3, w2⟩
    · exact w2.elim
end
def dfS (x m qual : Str) (st : Stmt) (dd : List D) (kd : List (Str × D)) : He5.DefA := ⟨fun K => He5.wf K (He.ga K x) "staticmethod" m, m, qual, defArgs st, defBody st, defScope st, dd.map dvD, kd.map fun q => (q.1, dvD q.2)⟩
def smB (K : PySem.W.Frag) (x m : Str) : Bool := [PySem.W.readsIn K (He.ga K x) (.type "type"), He.eqO (PySem.W.specialIn K (.ref (He.ga K x)) "__getattribute__") (some (some (.builtin "type.__getattribute__"))), He5.wrapB K (He.ga K x) "staticmethod" "staticmethod.__get__" m].all fun b => b
theorem SaysC.sm {fa : List He.Fa} {fn : List He.DefD} {ex : PySem.W.Frag → Bool} {fw : List He5.DefA} {K : PySem.W.Frag} {mg : Str → Option Value} {x m qual : Str} {st : Stmt} {dd : List D} {kd : List (Str × D)} (T : SaysC fa fn ex fw K mg) (jg i : Nat) (hu : smB K x m = true) (hk : (dfS x m qual st dd kd).ok K = true)
    (hg : fa[jg]? = some (.glo x) := by rfl) (hi : fw[i]? = some (dfS x m qual st dd kd) := by rfl) (h1 : dd.all flatD = true := by rfl) (h2 : (kd.map (·.2)).all flatD = true := by rfl) : SmAt K mg x m qual st dd kd := by
  have u := List.all_eq_true.mp hu
  have u1 := u _ (List.mem_cons_self ..)
  have u2 := u _ (List.mem_cons_of_mem _ (List.mem_cons_self ..))
  have u3 := u _ (List.mem_cons_of_mem _ (List.mem_cons_of_mem _ (List.mem_cons_self ..)))
  have e2 : (fw.map fun d => He5.fnA K (d.at_ K))[i]? = (fw.map He5.DefA.val)[i]? := by rw [T.fw]
  rw [List.getElem?_map, List.getElem?_map, hi] at e2
  obtain ⟨fd, F⟩ := He5.DefA.funD (Option.some.inj e2) hk
  have d1 : He5.DefA.dvs K (dfS x m qual st dd kd) = dd.map toV := by
    show (dd.map dvD).map (He.Dv.v K) = _
    rw [List.map_map]
    exact List.map_congr_left fun d hd => dv_eq (List.all_eq_true.mp h1 d hd)
  have d2 : He5.DefA.kws K (dfS x m qual st dd kd) = kwV kd := by
    show (kd.map fun q => (q.1, dvD q.2)).map (fun q => (q.1, q.2.v K)) = kd.map fun q => (q.1, toV q.2)
    rw [List.map_map]
    exact List.map_congr_left fun q hq => congrArg (Prod.mk q.1) (dv_eq (List.all_eq_true.mp h2 q.2 (List.mem_map_of_mem hq)))
  rw [d1, d2] at F
  obtain ⟨w1, w2⟩ := He5.wrapB_ok u3
  exact ⟨_, fd, _, _, F, T.toSays.glo jg hg, ⟨u1, He.eqO_ok u2⟩, ⟨w1, w2⟩⟩
end Tk
set_option maxHeartbeats 2000000
namespace Tk
open PySem PySem.Spec L2 PyProof.Rows
theorem ints_hold {h : Heap} : ∀ {its : List Value} {ns : List Int}, IntsAre its ns → PySem.W.HoldAll h its ns
  | _, _, .nil => ⟨[], .nil⟩
  | _, _, .cons n t r => by
    obtain ⟨as, q⟩ := ints_hold (h := h) r
    exact ⟨[] ++ as, .cons (.int n t) q⟩
theorem minOf_int (x : Int) (xs : List Int) : PySem.W.minOf x xs = xs.foldl min x := by
  have e : (fun a y : Int => if PySem.W.DatumOrd.lt y a = true then y else a) = (min : Int → Int → Int) := by
    funext a y
    show (if decide (y < a) = true then y else a) = min a y
    by_cases h : y < a
    · rw [decide_eq_true h, if_pos rfl]; omega
    · rw [decide_eq_false h, if_neg Bool.false_ne_true]; omega
  unfold PySem.W.minOf
  rw [e]
def rMinD (K : PySem.W.Frag) : List V → List V → Hp → VK → Prop := fun vs zs H Q => ∃ (a : Addr) (ns : List Int) (z : V), vs = [V.ref a] ∧ zs = [z] ∧ SqL K H a (ns.map V.int) ∧ (ns = [] → Q z H) ∧ ∀ m, m ∈ ns → (∀ y, y ∈ ns → m ≤ y) → Q (.int m) H
theorem cr_minD {X : Cx} (hc : X.calm = true) (hu : X.A.units + 64 < cLine) : CallRK X (.builtin "min") [Str.ofString "default"] (rMinD X.K) := by
  intro pins s σ H vs zs us ws Q I r rz h
  obtain ⟨a, ns, z, rfl, rfl, hs, q0, q⟩ := h
  obtain ⟨its, rv, hl, _⟩ := I.list hs
  obtain rfl := Vals.ref1 r
  obtain ⟨w1, rfl, e1⟩ := vals1 rz
  refine PySem.W.min_list_datum_default (α := Int) (vs := its.toArray) (xs := ns) (I.ok.hd hc) hl.isList (ints_hold rv.ints) (by show X.A.units + 1 + 0 < cLine; omega) (fun e h' tk hk => ⟨z, H, I.kept hk, e1, q0 e⟩) fun y ys i v h' tk e hv hh hk => ?_
  subst e
  rw [minOf_int] at hh
  obtain ⟨f1, f2, f3⟩ := foldl_min ys y
  obtain ⟨as, hr⟩ := hh
  have hr : Reads h' v (.int (ys.foldl min y)) as := hr
  cases hr with
  | int i t =>
    refine ⟨.int _, H, I.kept hk, ⟨_, rfl⟩, q _ ?_ fun k m => ?_⟩
    · rcases f1 with f1 | f1
      · rw [f1]; exact List.mem_cons_self
      · exact List.mem_cons_of_mem _ f1
    · rcases List.mem_cons.mp m with rfl | m
      · exact f2
      · exact f3 k m
def gMinD : List D → D → R D
  | [.lst xs], z => match intsOf xs with
    | some [] => .ok z
    | some (n :: ns) => .ok (.int (ns.foldl min n))
    | none => .bad
  | _, _ => .bad
def eMinD (fl fk : Ev → R (List D)) : Ev → R D := fun ρ => (fl ρ).bind fun ds => (fk ρ).bind fun zs => match zs with
  | [z] => gMinD ds z
  | _ => .bad
theorem fe_minD {X : Cx} {ca : Cn} {W : WX} {j : Nat} {e : Expr} {es : List Expr} {kws : List Keyword} {fl fk : Ev → R (List D)} {pos p : Pos} (T : BT X.mg) (hr : Room j X.A) (ha : FA X ca W (e :: es) fl) (hkw : FK X ca W kws fk) (hc : X.calm = true := by rfl) (hg : Gl X "min" := by rfl)
    (he : backTo pos (starEach (e :: es) X.env) = (false, eval e X.env) :: backTo pos (starEach es X.env) := by rfl) (hpl : (backTo pos (starEach (e :: es) X.env)).any (·.1) = false := by rfl)
    (hall : (backToKw pos (keywordEach kws X.env)).all (·.1.isSome) = true := by rfl) (hnone : (backToKw pos (keywordEach kws X.env)).any (·.1.isNone) = false := by rfl) (hks : (backToKw pos (keywordEach kws X.env)).filterMap (·.1) = [Str.ofString "default"] := by rfl) :
    FE X ca W (.Call (.Name "min" p) (e :: es) kws pos) (eMinD fl fk) := by
  obtain ⟨t, pa, kt⟩ := ha.ex
  obtain ⟨u, pk, ku⟩ := hkw.ex
  refine ⟨_, pe_callBK (cr_minD hc hr.units) hg T.min bb_min pa pk (by decide) (by decide) he hpl hall hnone hks, fun B G H σ ρ Q s b r h => ?_⟩
  refine kt B G H σ ρ _ s b r (Wish.bind h fun ds G1 H1 _ x1 w1 vs a1 => ?_)
  refine ku B G1 H1 σ ρ _ x1.gh (b.trans x1.hh) (r.ext x1) (Wish.bind w1 fun zs G2 H2 _ x2 w2 ws a2 => ?_)
  split at w2
  · rename_i z
    unfold gMinD at w2
    split at w2
    · rename_i xs z'
      obtain ⟨v, rfl, p, us, rfl, h1, h2⟩ := atl1 a1
      obtain ⟨v2, rfl, q2⟩ := atl1 a2
      split at w2
      · rename_i e1
        rw [intsOf_at e1 h2] at h1
        exact ⟨p, [], v2, rfl, rfl, .of (x2.gh _ _ (x2.gg _ _ h1)), fun _ => w2.here x2.gh _ q2, fun m hm => nomatch hm⟩
      · rename_i n ns e1
        rw [intsOf_at e1 h2] at h1
        obtain ⟨f1, f2, f3⟩ := foldl_min ns n
        refine ⟨p, n :: ns, v2, rfl, rfl, .of (x2.gh _ _ (x2.gg _ _ h1)), (fun e => nomatch e), fun k hk hmin => ?_⟩
        have g1 : ns.foldl min n ∈ n :: ns := by
          rcases f1 with f1 | f1
          · rw [f1]; exact List.mem_cons_self
          · exact List.mem_cons_of_mem _ f1
        have g2 := hmin _ g1
        have g3 : ns.foldl min n ≤ k := by
          rcases List.mem_cons.mp hk with rfl | hk
          · exact f2
          · exact f3 k hk
        have : k = ns.foldl min n := by omega
        rw [this]
        exact w2.here x2.gh _ rfl
      · exact w2.elim
    · exact w2.elim
  · exact w2.elim
end Tk
set_option maxHeartbeats 2000000
namespace Tk
open PySem PySem.Spec L2 PyProof.Rows
end Tk
set_option maxHeartbeats 2000000
namespace Tk
open PySem PySem.Spec L2 PyProof.Rows
structure DefMO (P : Program) (w : World) (K : PySem.W.Frag) (mg : Str → Option Value) (base : Heap) (ca : Cn) (k c : Nat) (m qual : Str) (st : Stmt) (dd : List D) (kd : List (Str × D)) (ps : List Str) (F : List D → R Sl) : Prop where
  ex : ∃ f fd C, FnOk P w K mg base (L2.CX P w) k f fd ps (spO K ca ps.length F) ∧ ca.a c = some C ∧ Cls K C ∧ Meth K C m f ∧ FD K m qual st dd kd f fd
theorem DefMO.of {P : Program} {w : World} {K : PySem.W.Frag} {mg : Str → Option Value} {base : Heap} {ca : Cn} {m qual : Str} {st : Stmt} {dd : List D} {kd : List (Str × D)} {ps N : List Str} {k c : Nat} {g : Ev → SO} (h : MeAt K ca c m qual st dd kd) (S : FnScope N ps (defScope st))
    (hb : ∀ (f : Addr) (cdv : Value) (A : Around) (outer : List Env) (s : Shared) (H : Hp) (E : XK), Room k (A.deeper (envOfC qual (defScope st) s.heap.objs.size f cdv)) →
      FSs (cxOf (L2.CX P w) P w K mg base N qual (defScope st) f cdv A outer s H E) ca (fun c d _ H' => E c d H') (defBody st) g) : DefMO P w K mg base ca (k + 1) c m qual st dd kd ps (runO N.length g) := by
  obtain ⟨f, fd, C, F, h1, h2, h3⟩ := h.ex
  exact ⟨f, fd, C, fn_okO F S (hb f), h1, h2, h3, F⟩
def oMeth (c nf n : Nat) (F : List D → R Sl) (fo : Ev → R D) (fa : Ev → R (List D)) : Ev → R Sl := fun ρ => (fo ρ).bind fun d => if insB c nf d = true then (fa ρ).bind fun ds => if ds.length + 1 = n then F (d :: ds) else .bad else .bad
section
variable {X : Cx} {ca : Cn} {W : WX} {k j c nf : Nat} {m qual : Str} {st : Stmt} {dd : List D} {kd : List (Str × D)} {ps : List Str} {Fn : List D → R Sl} {apos pos : Pos} {o e a : Expr} {es : List Expr} {fo fa : Ev → R D} {fl : Ev → R (List D)}
theorem fn_meth {pl : Sem Bool} (d : DefMO X.prog X.w X.K X.mg X.base ca k c m qual st dd kd ps Fn) (hmn : ∀ k, k < nf → ca.n k ≠ m) (hb : ∀ {f fd}, FD X.K m qual st dd kd f fd → Binds X.K fd ps []) (hr : Room j X.A) (tk : Takes X W) (ho : FE X ca W o fo) (ha : FA X ca W (e :: es) fl) (hk : k ≤ j := by decide)
    (he : starEach (e :: es) X.env = (false, eval e X.env) :: starEach es X.env := by rfl) (hpl : (backTo pos (starEach es X.env)).any (·.1) = false := by rfl)
    (ht : eval (.Call (.Attribute o m apos) (e :: es) [] pos) X.env = (do
      let ov ← eval o X.env
      standAt apos.atName
      let (f, first) ← holding [ov] (getMethod ov m pl)
      callWith pos f first (backTo pos (starEach (e :: es) X.env)) (backToKw pos (keywordEach [] X.env))) := by rfl) :
    FN X ca W (.Call (.Attribute o m apos) (e :: es) [] pos) (oMeth c nf ps.length Fn fo fl) := by
  obtain ⟨f, fd, C, F, hc, cl, hm, h2⟩ := d.ex
  obtain ⟨to, po, ko⟩ := ho.ex
  obtain ⟨t, pa, kt⟩ := ha.ex
  refine ⟨fun σ H Q => to σ H fun x H1 => ∃ a dx fs, x = .ref a ∧ H1 a = some (.ins C dx fs) ∧ fs.lookup m = none ∧ t σ H1 fun vs H2 => spO X.K ca ps.length Fn (x :: vs) H2 Q (WE W σ), ⟨fun pins s σ H Q I h => ?_⟩, fun B G H σ ρ Q s b r h => ?_⟩
  · refine PySem.W.methodCall_KW (pl := pl) (thn (po.run pins s σ H _ I h) fun u s1 ⟨x, H1, I1, rx, a, dx, fs, ex, ea, l, q⟩ => ?_) ht
    subst ex
    obtain rfl : u = Value.ref a := rx
    refine getmeth_ok I1 ea cl hm l ?_
    refine PySem.W.callWith_K (first := [.ref a]) (h₀ := X.base) I.ok.mod.kin hm.kp (thn (pa.run pos pins s1 σ H1 _ I1 q) fun us s2 ⟨vs, H2, I2, r, q2⟩ => ⟨I2.kIn, ?_⟩) he hpl
    exact run_fnS (us := .ref a :: us) (vs := .ref a :: vs) (E := WE W) F (hr.mono hk) (hb h2) (passAt tk σ) I2 (.cons rfl r) q2
  · refine ko B G H σ ρ _ s b r (Wish.bind h fun d G1 H1 _ x1 w1 v av => ?_)
    split at w1
    · rename_i hi
      obtain ⟨p, dx, vs, rfl, g1, l1⟩ := ins_at hc hmn hi av
      refine ⟨p, dx, vs, rfl, x1.gh _ _ g1, l1, ?_⟩
      refine kt B G1 H1 σ ρ _ x1.gh (b.trans x1.hh) (r.ext x1) (Wish.bind w1 fun ds G2 H2 _ x2 w2 ws a2 => ?_)
      split at w2
      · rename_i hl
        exact ⟨by rw [List.length_cons, ← a2.length]; exact hl, G2, d :: ds, x2.gh, ⟨_, _, rfl, At.mono x2.gg av, a2⟩, Wish.imp w2 fun G' sl H' q => ⟨q.1, fun a oa ga na => q.2 a oa ga (same_none (x1.hh.trans x2.hh) na)⟩⟩
      · exact w2.elim
    · exact w1.elim
end
end Tk
set_option maxHeartbeats 2000000
namespace Tk
open PySem PySem.Spec L2 PyProof.Rows
def rInDi (neg : Bool) : V → V → Hp → VK → Prop := fun x y H Q => ∃ a o, y = .ref a ∧ DGet H a x o ∧ Q (.bl (if neg = true then !o.isSome else o.isSome)) H
theorem op_inDi {X : Cx} (hu : X.A.units + 65 < cLine) : OpR X (compareOp .In) (rInDi false) := by
  intro pins s σ H x y v u Q I rx ry h
  obtain ⟨a, o, rfl, g, q⟩ := h
  cases ry
  exact d_in (by omega) I g rx fun s' I' => ⟨.bl o.isSome, H, I', rfl, q⟩
def gInDi (neg : Bool) : D → D → R D
  | k, .dK kvs => (optR (keyD k)).bind fun k => .ok (.bl (if neg = true then !(getG kvs k).isSome else (getG kvs k).isSome))
  | k, .zK kvs => (optR (keyD k)).bind fun k => .ok (.bl (if neg = true then !(getG kvs k).isSome else (getG kvs k).isSome))
  | k, .dT kvs => (optR (keyT k)).bind fun k => .ok (.bl (if neg = true then !(getG kvs k).isSome else (getG kvs k).isSome))
  | k, .zT kvs => (optR (keyT k)).bind fun k => .ok (.bl (if neg = true then !(getG kvs k).isSome else (getG kvs k).isSome))
  | _, _ => .bad
section
variable {X : Cx} {ca : Cn} {neg : Bool}
theorem in_k {G H : Hp} {W1 : XK} {Q : VK} {kvs : List (Key × D)} {k : D} {x y : V} (s : Same G H) (ax : At X.K ca G (.dK kvs) x) (ay : At X.K ca G k y) (w : Wish X.K ca (SV X.K ca Q) G H ((optR (keyD k)).bind fun k => .ok (.bl (if neg = true then !(getG kvs k).isSome else (getG kvs k).isSome))) W1) : rInDi neg y x H Q := by
  obtain ⟨kk, e1, w⟩ := wish_opt w
  obtain ⟨p, vs, rfl, h1, h2⟩ := ax
  have g := h2.get kk
  rw [key_at ay e1]
  refine ⟨p, valV vs kk, rfl, .inl ⟨vs, kk, Rd.mono s h1, rfl, rfl⟩, ?_⟩
  have e : (valV vs kk).isSome = (getG kvs kk).isSome := by
    cases e2 : getG kvs kk with
    | none => rw [e2] at g; have g : valV vs kk = none := g; rw [g]; rfl
    | some z => rw [e2] at g; obtain ⟨v, g1, _⟩ := g; rw [g1]; rfl
  rw [e]
  exact w.here s _ rfl
theorem in_t {G H : Hp} {W1 : XK} {Q : VK} {kvs : List (List Key × D)} {k : D} {x y : V} (s : Same G H) (ax : At X.K ca G (.dT kvs) x) (ay : At X.K ca G k y) (w : Wish X.K ca (SV X.K ca Q) G H ((optR (keyT k)).bind fun k => .ok (.bl (if neg = true then !(getG kvs k).isSome else (getG kvs k).isSome))) W1) : rInDi neg y x H Q := by
  obtain ⟨kk, e1, w3⟩ := wish_opt w
  obtain ⟨p, vs, rfl, h1, h2⟩ := ax
  have g := h2.get kk
  have e : (valV vs kk).isSome = (getG kvs kk).isSome := by
    cases e2 : getG kvs kk with
    | none => rw [e2] at g; have g : valV vs kk = none := g; rw [g]; rfl
    | some z => rw [e2] at g; obtain ⟨v, g1, _⟩ := g; rw [g1]; rfl
  unfold keyT at e1
  split at e1
  · obtain ⟨q, ws, rfl, t1, t2⟩ := ay
    have e3 := keys_at t2 e1
    subst e3
    refine ⟨p, valV vs kk, rfl, .inr ⟨vs, kk, q, Rd.mono s h1, rfl, s q _ t1, rfl⟩, ?_⟩
    rw [e]
    exact w3.here s _ rfl
  · cases e1
theorem v2_inDi : V2 X ca (rInDi neg) (gInDi neg) := by
  intro G H W1 x y k d Q s ax ay w
  unfold gInDi at w
  split at w
  · exact in_k s ay ax w
  · exact in_k s (at_zk ay) ax w
  · exact in_t s ay ax w
  · exact in_t s (at_zt ay) ax w
  · exact w.elim
end
end Tk
namespace Tk
open PySem PySem.Spec L2 PyProof.Rows
end Tk
namespace L2
open PySem PySem.Spec PyProof.Rows
section
variable {X : Cx}
end
end L2
namespace Tk
open PySem PySem.Spec L2 PyProof.Rows
section
variable {X : Cx} {ca : Cn} {W : WX} {zs : List Nat} {kx vx tg iter : Expr} {ifs : List Expr} {scope : Scope} {own : List (Str × Nat)} {pos : Pos} {fi : Ev → R (List D)} {h : Tg} {ft : Ev → R Bool} {fk fv : Ev → R D}
end
end Tk
namespace Tk
open PySem PySem.Spec L2 PyProof.Rows
section
variable {X : Cx} {ca : Cn}
end
end Tk
namespace Tk
open PySem PySem.Spec L2 PyProof.Rows
end Tk
set_option maxHeartbeats 4000000
namespace Tk
open PySem PySem.Spec L2 PyProof.Rows
def lfK (kvs : List (Key × D)) : List (Key × OT) := kvs.map fun p => (p.1, .d p.2)
def lfT (kvs : List (List Key × D)) : List (List Key × OT) := kvs.map fun p => (p.1, .d p.2)
def lfL (xs : List D) : List OT := xs.map .d
def lfF (fs : List (Nat × D)) : List (Nat × OT) := fs.map fun p => (p.1, .d p.2)
section
variable {K : PySem.W.Frag} {ca : Cn} {G H G' H' B : Hp} {σ : L2.St} {ρ : Ev}
theorem NAtL.lf : ∀ {xs : List D} {vs : List V} {fp : List Addr}, NAtL K ca G H (lfL xs) vs fp ↔ AtL K ca G xs vs ∧ fp = []
  | [], vs, fp => Iff.rfl
  | x :: xs, vs, fp => by
    constructor
    · rintro ⟨v, r, f1, f2, e, ⟨h, z1⟩, t, z⟩
      obtain ⟨t1, z2⟩ := NAtL.lf.mp t
      exact ⟨⟨v, r, e, h, t1⟩, by rw [z, z1, z2]; rfl⟩
    · rintro ⟨⟨v, r, e, h, t⟩, z⟩
      exact ⟨v, r, [], [], e, ⟨h, rfl⟩, NAtL.lf.mpr ⟨t, rfl⟩, z⟩
theorem NAtK.lf : ∀ {xs : List (Key × D)} {vs : List (Key × V)} {fp : List Addr}, NAtK K ca G H (lfK xs) vs fp ↔ AtK K ca G xs vs ∧ fp = []
  | [], vs, fp => Iff.rfl
  | (k, x) :: xs, vs, fp => by
    constructor
    · rintro ⟨v, r, f1, f2, e, ⟨h, z1⟩, t, z⟩
      obtain ⟨t1, z2⟩ := NAtK.lf.mp t
      exact ⟨⟨v, r, e, h, t1⟩, by rw [z, z1, z2]; rfl⟩
    · rintro ⟨⟨v, r, e, h, t⟩, z⟩
      exact ⟨v, r, [], [], e, ⟨h, rfl⟩, NAtK.lf.mpr ⟨t, rfl⟩, z⟩
theorem NAtT.lf : ∀ {xs : List (List Key × D)} {vs : List (List Key × V)} {fp : List Addr}, NAtT K ca G H (lfT xs) vs fp ↔ AtT K ca G xs vs ∧ fp = []
  | [], vs, fp => Iff.rfl
  | (k, x) :: xs, vs, fp => by
    constructor
    · rintro ⟨v, r, f1, f2, e, ⟨h, z1⟩, t, z⟩
      obtain ⟨t1, z2⟩ := NAtT.lf.mp t
      exact ⟨⟨v, r, e, h, t1⟩, by rw [z, z1, z2]; rfl⟩
    · rintro ⟨⟨v, r, e, h, t⟩, z⟩
      exact ⟨v, r, [], [], e, ⟨h, rfl⟩, NAtT.lf.mpr ⟨t, rfl⟩, z⟩
theorem NAtF.lf : ∀ {xs : List (Nat × D)} {vs : List (Str × V)} {fp : List Addr}, NAtF K ca G H (lfF xs) vs fp ↔ AtF K ca G xs vs ∧ fp = []
  | [], vs, fp => Iff.rfl
  | (k, x) :: xs, vs, fp => by
    constructor
    · rintro ⟨v, r, f1, f2, e, ⟨h, z1⟩, t, z⟩
      obtain ⟨t1, z2⟩ := NAtF.lf.mp t
      exact ⟨⟨v, r, e, h, t1⟩, by rw [z, z1, z2]; rfl⟩
    · rintro ⟨⟨v, r, e, h, t⟩, z⟩
      exact ⟨v, r, [], [], e, ⟨h, rfl⟩, NAtF.lf.mpr ⟨t, rfl⟩, z⟩
theorem NAtF.snoc {f : Nat} {t : OT} {v : V} {f2 : List Addr} (h : NAt K ca G H t v f2) : ∀ {fs : List (Nat × OT)} {vs : List (Str × V)} {fp : List Addr}, NAtF K ca G H fs vs fp → NAtF K ca G H (fs ++ [(f, t)]) (vs ++ [(ca.n f, v)]) (fp ++ f2)
  | [], vs, fp, ⟨e, z⟩ => by subst e z; exact ⟨v, [], f2, [], rfl, h, ⟨rfl, rfl⟩, by simp⟩
  | (k, x) :: xs, vs, fp, ⟨w, r, g1, g2, e, h1, t1, z⟩ => by
    subst e z
    exact ⟨w, _, g1, g2 ++ f2, rfl, h1, NAtF.snoc h t1, by rw [List.append_assoc]⟩
theorem putF_none {f : Str} {v : V} : ∀ {vs : List (Str × V)}, vs.lookup f = none → putF f v vs = vs ++ [(f, v)]
  | [], _ => rfl
  | (g, x) :: r, h => by
    rw [List.lookup_cons] at h
    by_cases z : f = g
    · subst z; rw [beq_self_eq_true] at h; cases h
    · rw [beq_eq_false_iff_ne.mpr z] at h
      unfold putF
      rw [if_neg (Ne.symm z), putF_none h]
      rfl
theorem NAtF.length : ∀ {fs : List (Nat × OT)} {vs : List (Str × V)} {fp : List Addr}, NAtF K ca G H fs vs fp → fs.length = vs.length
  | [], _, _, h => by rw [h.1]; rfl
  | (_, _) :: _, _, _, ⟨_, _, _, _, e, _, t, _⟩ => by subst e; simp [NAtF.length t]
theorem NAtF.nofld : ∀ {fs : List (Nat × OT)} {vs : List (Str × V)} {fp : List Addr} {n : Nat}, (∀ k, ca.n k = ca.n n → k = n) → NAtF K ca G H fs vs fp → fs.lookup n = Option.none → vs.lookup (ca.n n) = Option.none
  | [], _, _, _, _, h, _ => by rw [h.1]; rfl
  | (k, d) :: ds, _, _, n, i, ⟨v, r, f1, f2, e, h, t, z⟩, q => by
    subst e
    rw [List.lookup_cons] at q ⊢
    by_cases y : n = k
    · subst y; rw [beq_self_eq_true] at q; cases q
    · rw [beq_eq_false_iff_ne.mpr y] at q
      rw [beq_eq_false_iff_ne.mpr fun x => y (i k x.symm).symm]
      exact NAtF.nofld i t q
theorem NAtF.data : ∀ {fs : List (Nat × OT)} {vs : List (Str × V)} {fp : List Addr} {n : Nat} {d : D}, (∀ k, ca.n k = ca.n n → k = n) → NAtF K ca G H fs vs fp → fs.lookup n = Option.some (.d d) → ∃ v, vs.lookup (ca.n n) = Option.some v ∧ At K ca G d v
  | [], _, _, _, _, _, _, e => by simp at e
  | (k, d0) :: ds, _, _, n, d, i, ⟨v, r, f1, f2, e, h, t, z⟩, q => by
    subst e
    rw [List.lookup_cons] at q ⊢
    by_cases y : n = k
    · subst y; rw [beq_self_eq_true] at q ⊢; cases q; exact ⟨v, rfl, h.1⟩
    · rw [beq_eq_false_iff_ne.mpr y] at q
      rw [beq_eq_false_iff_ne.mpr fun x => y (i k x.symm).symm]
      exact NAtF.data i t q
def putT (f : Nat) (d : OT) : List (Nat × OT) → List (Nat × OT)
  | [] => [(f, d)]
  | (g, x) :: r => if g = f then (g, d) :: r else (g, x) :: putT f d r
theorem NAtF.turnK : ∀ {fs : List (Nat × OT)} {vs : List (Str × V)} {fp : List Addr} {n : Nat} {kvs : List (Key × D)}, (∀ k, ca.n k = ca.n n → k = n) → fp.Nodup → NAtF K ca G H fs vs fp → fs.lookup n = Option.some (.k (lfK kvs)) →
    ∃ d ws, vs.lookup (ca.n n) = Option.some (.ref d) ∧ d ∈ fp ∧ H d = Option.some (.dK ws) ∧ AtK K ca G kvs ws ∧ ∀ kvs2 ws2 H', AtK K ca G kvs2 ws2 → H' d = Option.some (.dK ws2) → (∀ b ∈ fp, b ≠ d → H' b = H b) → NAtF K ca G H' (putT n (.k (lfK kvs2)) fs) vs fp
  | [], _, _, _, _, _, _, _, e => by simp at e
  | (k, d0) :: ds, _, _, n, kvs, i, nd, ⟨v, r, f1, f2, e, h, t, z⟩, q => by
    subst e z
    rw [List.lookup_cons] at q
    rw [List.nodup_append] at nd
    by_cases y : n = k
    · subst y
      rw [beq_self_eq_true] at q
      cases q
      obtain ⟨a, ws, fq, rfl, ha, hk, rfl⟩ := h
      obtain ⟨hk2, rfl⟩ := NAtK.lf.mp hk
      refine ⟨a, ws, by rw [List.lookup_cons, beq_self_eq_true], by simp, ha, hk2, fun kvs2 ws2 H' a2 h2 hb => ?_⟩
      unfold putT
      rw [if_pos rfl]
      refine ⟨.ref a, r, [a], f2, rfl, ⟨a, ws2, [], rfl, h2, NAtK.lf.mpr ⟨a2, rfl⟩, rfl⟩, t.tr_ rfl rfl (fun _ _ x => x) fun b m => hb b (List.mem_append_right _ m) fun z => nd.2.2 a (by simp) b m z.symm, rfl⟩
    · rw [beq_eq_false_iff_ne.mpr y] at q
      obtain ⟨a, ws, e1, e2, e3, e4, e5⟩ := NAtF.turnK i nd.2.1 t q
      refine ⟨a, ws, ?_, List.mem_append_right _ e2, e3, e4, fun kvs2 ws2 H' a2 h2 hb => ?_⟩
      · rw [List.lookup_cons, beq_eq_false_iff_ne.mpr fun x => y (i k x.symm).symm]; exact e1
      · unfold putT
        rw [if_neg (Ne.symm y)]
        refine ⟨v, r, f1, f2, rfl, h.tr_ rfl rfl (fun _ _ x => x) fun b m => hb b (List.mem_append_left _ m) fun z => nd.2.2 b m a e2 z, e5 kvs2 ws2 H' a2 h2 fun b m ne => hb b (List.mem_append_right _ m) ne, rfl⟩
theorem NAtF.put {n : Nat} {d : D} {w : V} (i : ∀ k, ca.n k = ca.n n → k = n) (hw : At K ca G d w) : ∀ {fs : List (Nat × OT)} {vs : List (Str × V)} {fp : List Addr}, NAtF K ca G H fs vs fp → ∃ fp', (∀ b ∈ fp', b ∈ fp) ∧ (fp.Nodup → fp'.Nodup) ∧ NAtF K ca G H (putT n (.d d) fs) (putF (ca.n n) w vs) fp'
  | [], vs, fp, ⟨e, z⟩ => by subst e z; exact ⟨[], fun b m => m, id, w, [], [], [], rfl, ⟨hw, rfl⟩, ⟨rfl, rfl⟩, rfl⟩
  | (k, x) :: xs, vs, fp, ⟨v, r, g1, g2, e, h1, t1, z⟩ => by
    subst e z
    unfold putT putF
    by_cases y : k = n
    · subst y
      rw [if_pos rfl, if_pos rfl]
      exact ⟨g2, fun b m => List.mem_append_right _ m, fun nd => (List.nodup_append.mp nd).2.1, w, r, [], g2, rfl, ⟨hw, rfl⟩, t1, rfl⟩
    · rw [if_neg y, if_neg fun z => y (i k z)]
      obtain ⟨fp', e1, e2, e3⟩ := NAtF.put i hw t1
      refine ⟨g1 ++ fp', fun b m => ?_, fun nd => ?_, v, _, g1, fp', rfl, h1, e3, rfl⟩
      · rcases List.mem_append.mp m with m | m
        · exact List.mem_append_left _ m
        · exact List.mem_append_right _ (e1 b m)
      · rw [List.nodup_append] at nd ⊢
        exact ⟨nd.1, e2 nd.2.1, fun b m c m' => nd.2.2 b m c (e1 c m')⟩
theorem Rel.retree (r : Rel K ca B G H σ ρ) {FP : Nat → List Addr} (n : NstAll K ca B G H σ ρ FP) (i : Nat) {t' : OT} {fp' : List Addr} {v : V} (hv : σ[i]? = some (some v)) (ht : NAt K ca G H' t' v fp') (nd : fp'.Nodup)
    (hb : ∀ b ∈ fp', G b = none ∧ B b = none ∧ (∀ (j : Nat) (s : Sl), j ≠ i → ρ[j]? = some s → s.own = true → σ[j]? ≠ some (some (.ref b))) ∧ ∀ (j : Nat) (t : OT), j ≠ i → ρ[j]? = some (.tr t) → b ∉ FP j)
    (h1 : ∀ (j : Nat) (s : Sl) (b : Addr), j ≠ i → ρ[j]? = some s → s.own = true → σ[j]? = some (some (.ref b)) → H' b = H b) (h2 : ∀ (j : Nat) (t : OT) (b : Addr), j ≠ i → ρ[j]? = some (.tr t) → b ∈ FP j → H' b = H b) : Rel K ca B G H' σ (ρ.set i (.tr t')) := by
  have old : ∀ {j : Nat} {s : Sl}, (ρ.set i (.tr t'))[j]? = some s → (j = i ∧ s = .tr t') ∨ (j ≠ i ∧ ρ[j]? = some s) := fun {j s} q => getElem?_set' q
  refine ⟨by rw [List.length_set]; exact r.len, fun j d q => ?_, fun j s q o => ?_, fun j k s t b q o q' o' x y => ?_, fun j x q => ?_, fun j => if j = i then fp' else FP j, ?_⟩
  · rcases old q with ⟨_, z⟩ | ⟨_, q⟩
    · cases z
    · exact r.val j d q
  · rcases old q with ⟨_, z⟩ | ⟨ne, q⟩
    · rw [z] at o; cases o
    · obtain ⟨b, e1, e2, e3⟩ := r.own j s q o
      exact ⟨b, e1, e2.ext (.refl _) (h1 j s b ne q o e1), e3⟩
  · rcases old q with ⟨_, z⟩ | ⟨_, q⟩
    · rw [z] at o; cases o
    · rcases old q' with ⟨_, z⟩ | ⟨_, q'⟩
      · rw [z] at o'; cases o'
      · exact r.sep j k s t b q o q' o' x y
  · rcases old q with ⟨_, z⟩ | ⟨_, q⟩
    · cases z
    · exact r.exc j x q
  · have fpe : ∀ {j : Nat}, j ≠ i → (if j = i then fp' else FP j) = FP j := fun h => if_neg h
    refine ⟨fun j t q => ?_, fun j t q => ?_, fun j t q b m => ?_, fun j t q b m k s q' o' => ?_, fun j k t u ne q q' b m => ?_⟩
    · rcases old q with ⟨rfl, z⟩ | ⟨ne, q⟩
      · cases z; exact ⟨v, hv, by rw [if_pos rfl]; exact ht⟩
      · obtain ⟨w, e1, e2⟩ := n.at_ j t q
        exact ⟨w, e1, by rw [fpe ne]; exact e2.ext (.refl _) fun b m => h2 j t b ne q m⟩
    · rcases old q with ⟨rfl, z⟩ | ⟨ne, q⟩
      · rw [if_pos rfl]; exact nd
      · rw [fpe ne]; exact n.nd j t q
    · rcases old q with ⟨rfl, z⟩ | ⟨ne, q⟩
      · rw [if_pos rfl] at m; exact ⟨(hb b m).1, (hb b m).2.1⟩
      · rw [fpe ne] at m; exact n.fr j t q b m
    · rcases old q' with ⟨_, z⟩ | ⟨ne', q2⟩
      · rw [z] at o'; cases o'
      · rcases old q with ⟨e, z⟩ | ⟨ne, q3⟩
        · rw [if_pos e] at m
          exact (hb b m).2.2.1 k s ne' q2 o'
        · rw [fpe ne] at m; exact n.ow j t q3 b m k s q2 o'
    · rcases old q with ⟨e, z⟩ | ⟨nj, q2⟩
      · rw [if_pos e] at m
        rcases old q' with ⟨e', z'⟩ | ⟨nk, q3⟩
        · exact (ne (e.trans e'.symm)).elim
        · rw [fpe nk]; exact (hb b m).2.2.2 k u nk q3
      · rw [fpe nj] at m
        rcases old q' with ⟨e', z'⟩ | ⟨nk, q3⟩
        · rw [if_pos e']; exact fun m' => (hb b m').2.2.2 j t nj q2 m
        · rw [fpe nk]; exact n.sp j k t u ne q2 q3 b m
def slotT (ρ : Ev) (i : Nat) : R (Option Addr × Nat × List (Nat × OT)) := match ρ[i]? with
  | some (.o g c fs) => .ok (g, c, lfF fs)
  | some (.tr (.o g c fs)) => .ok (g, c, fs)
  | _ => .bad
theorem slotT_ne {x : Ex} {i : Nat} : slotT ρ i ≠ .exc x := by
  unfold slotT
  split <;> exact fun h => by cases h
theorem slotT_at {i : Nat} {q : Option Addr × Nat × List (Nat × OT)} (h : slotT ρ i = .ok q) (r : Rel K ca B G H σ ρ) {FP : Nat → List Addr} (n : NstAll K ca B G H σ ρ FP) :
    ∃ a C dx vs fq, σ[i]? = some (some (.ref a)) ∧ (∀ b, q.1 = some b → a = b) ∧ ca.a q.2.1 = some C ∧ H a = some (.ins C dx vs) ∧ NAtF K ca G H q.2.2 vs fq ∧ (a :: fq).Nodup ∧
      (∀ b ∈ a :: fq, G b = none ∧ B b = none ∧ (∀ (j : Nat) (s : Sl), j ≠ i → ρ[j]? = some s → s.own = true → σ[j]? ≠ some (some (.ref b))) ∧ ∀ (j : Nat) (t : OT), j ≠ i → ρ[j]? = some (.tr t) → b ∉ FP j) := by
  unfold slotT at h
  split at h
  · rename_i g c fs z
    cases h
    obtain ⟨a, h1, ⟨C, dx, vs, hg, h2, h3, h4⟩, h5, h6⟩ := r.own i _ z rfl
    refine ⟨a, C, dx, vs, [], h1, hg, h2, h3, NAtF.lf.mpr ⟨h4, rfl⟩, by simp, fun b m => ?_⟩
    obtain rfl : b = a := by simpa using m
    exact ⟨h5, h6, fun j s ne q o y => ne (r.sep j i s _ b q o z rfl y h1), fun j t ne q m => n.ow j t q b m i _ z rfl h1⟩
  · rename_i g c fs z
    cases h
    obtain ⟨v, hv, a, C, dx, vs, fq, rfl, hg, h2, h3, h4, h5⟩ := n.at_ i _ z
    refine ⟨a, C, dx, vs, fq, hv, hg, h2, h3, h4, by rw [← h5]; exact n.nd i _ z, fun b m => ?_⟩
    rw [← h5] at m
    exact ⟨(n.fr i _ z b m).1, (n.fr i _ z b m).2, fun j s ne q o => n.ow i _ z b m j s q o, fun j t ne q => n.sp i j _ t (Ne.symm ne) z q b m⟩
  · cases h
end
end Tk
set_option maxHeartbeats 4000000
namespace Tk
open PySem PySem.Spec L2 PyProof.Rows
def toT : Sl → Option OT
  | .l xs => some (.l (lfL xs))
  | .k xs => some (.k (lfK xs))
  | .t xs => some (.t (lfT xs))
  | .o g c fs => some (.o g c (lfF fs))
  | _ => none
theorem toT_at {K : PySem.W.Frag} {ca : Cn} {G H : Hp} {a : Addr} {s : Sl} {t : OT} (h : Own K ca G H a s) (e : toT s = some t) : NAt K ca G H t (.ref a) [a] := by
  cases s with
  | no => exact h.elim
  | x _ => exact h.elim
  | tr _ => exact h.elim
  | v d => exact h.elim
  | l xs => cases e; obtain ⟨vs, h1, h2⟩ := h; exact ⟨a, vs, [], rfl, h1, NAtL.lf.mpr ⟨h2, rfl⟩, rfl⟩
  | k xs => cases e; obtain ⟨vs, h1, h2⟩ := h; exact ⟨a, vs, [], rfl, h1, NAtK.lf.mpr ⟨h2, rfl⟩, rfl⟩
  | t xs => cases e; obtain ⟨vs, h1, h2⟩ := h; exact ⟨a, vs, [], rfl, h1, NAtT.lf.mpr ⟨h2, rfl⟩, rfl⟩
  | o g c fs => cases e; obtain ⟨C, dx, vs, hg, h0, h1, h2⟩ := h; exact ⟨a, C, dx, vs, [], rfl, hg, h0, h1, NAtF.lf.mpr ⟨h2, rfl⟩, rfl⟩
def sFldN (cs : List Nat) (i f : Nat) (fe : Ev → R Sl) : Ev → SO := fun ρ => SO.from ρ (fe ρ) fun s => match toT s with
  | some t => SO.from ρ (slotT ρ i) fun q => if q.2.1 ∈ cs ∧ q.2.2.length < 1000 ∧ (q.2.2.lookup f).isNone = true then .nx (ρ.set i (.tr (.o q.1 q.2.1 (q.2.2 ++ [(f, t)])))) else .bad
  | none => .bad
def dataT : Option OT → R D
  | some (.d d) => .ok d
  | _ => .bad
def eFldT (cs : List Nat) (i f : Nat) : Ev → R D := fun ρ => (slotT ρ i).bind fun q => if q.2.1 ∈ cs then dataT (q.2.2.lookup f) else .bad
def unK : List (Key × OT) → Option (List (Key × D))
  | [] => some []
  | (k, .d d) :: r => (unK r).map fun l => (k, d) :: l
  | _ => none
theorem unK_eq : ∀ {kvs : List (Key × OT)} {l : List (Key × D)}, unK kvs = some l → kvs = lfK l
  | [], l, e => by cases e; rfl
  | (k, .d d) :: r, l, e => by
    have e : (unK r).map (fun l => (k, d) :: l) = some l := e
    obtain ⟨l', h1, h2⟩ := Option.map_eq_some_iff.mp e
    subst h2
    rw [unK_eq h1]
    rfl
  | (k, .l _) :: r, l, e => by cases e
  | (k, .k _) :: r, l, e => by cases e
  | (k, .t _) :: r, l, e => by cases e
  | (k, .o _ _ _) :: r, l, e => by cases e
@[simp] theorem unK_lf : ∀ l : List (Key × D), unK (lfK l) = some l
  | [] => rfl
  | (k, d) :: r => by
    show (unK (lfK r)).map _ = _
    rw [unK_lf r]
    rfl
def dictT : Option OT → R (List (Key × D))
  | some (.k kvs) => optR (unK kvs)
  | _ => .bad
def sPutFK (cs : List Nat) (i f : Nat) (fi fe : Ev → R D) : Ev → SO := fun ρ => SO.from ρ (fe ρ) fun d => SO.from ρ (slotT ρ i) fun q => if q.2.1 ∈ cs then SO.from ρ (dictT (q.2.2.lookup f)) fun kvs => SO.from ρ (fi ρ) fun kd => match keyD kd with
  | some k => if kvs.length < sizeLine then .nx (ρ.set i (.tr (.o q.1 q.2.1 (putT f (.k (lfK (putG kvs k d))) q.2.2)))) else .bad
  | none => .bad
  else .bad
def sealE (i : Nat) (ρ : Ev) : Ev := match ρ[i]? with
  | some (.tr (.o g c fs)) => ρ.set i (.o g c (frzTF fs))
  | _ => ρ
def sSealA (i : Nat) (g : Ev → SO) : Ev → SO := fun ρ => match g ρ with
  | .nx ρ1 => .nx (sealE i ρ1)
  | r => r
theorem Rel.seal {K : PySem.W.Frag} {ca : Cn} {B G H : Hp} {σ : L2.St} {ρ : Ev} (r : Rel K ca B G H σ ρ) (s : Same G H) (b : Same B H) (i : Nat) : ∃ G', Adv B G G' H ∧ Rel K ca B G' H σ (sealE i ρ) := by
  unfold sealE
  split
  · rename_i g c fs q
    obtain ⟨FP, n⟩ := r.nst
    obtain ⟨v, hv, a, C, dx, vs, fq, rfl, hg, hc, ha, hf, hfp⟩ := n.at_ i _ q
    have nd := n.nd i _ q
    rw [hfp] at nd
    obtain ⟨na, nq⟩ := List.nodup_cons.mp nd
    have mf : ∀ {b : Addr}, b ∈ fq → b ∈ FP i := fun m => by rw [hfp]; exact List.mem_cons_of_mem _ m
    have ma : a ∈ FP i := by rw [hfp]; exact List.mem_cons_self
    obtain ⟨G', g1, g2, g3, g4⟩ := same_fp s fun c m => (n.fr i _ q c (mf m)).1
    have old : ∀ {j : Nat} {u : Sl}, (ρ.set i (.o g c (frzTF fs)))[j]? = some u → (j = i ∧ u = .o g c (frzTF fs)) ∨ (j ≠ i ∧ ρ[j]? = some u) := fun w => getElem?_set' w
    refine ⟨G', ⟨g1, g2, b, fun c hc => ?_⟩, ?_⟩
    · by_cases m : c ∈ fq
      · exact .inr (.inl (n.fr i _ q c (mf m)).2)
      · rw [g4 c m] at hc; exact .inl hc
    · refine ⟨by rw [List.length_set]; exact r.len, fun j d w => ?_, fun j u w o => ?_, fun j k u u' p w o w' o' x y => ?_, fun j x w => ?_, FP, ?_⟩
      · rcases old w with ⟨_, z⟩ | ⟨_, w⟩
        · cases z
        · obtain ⟨v', t1, t2⟩ := r.val j d w
          exact ⟨v', t1, At.mono g1 t2⟩
      · rcases old w with ⟨e, z⟩ | ⟨ne, w⟩
        · subst z
          rw [e]
          exact ⟨a, hv, ⟨C, dx, vs, hg, hc, ha, hf.frz g1 g3⟩, by rw [g4 a na]; exact (n.fr i _ q a ma).1, (n.fr i _ q a ma).2⟩
        · obtain ⟨p, t1, t2, t3, t4⟩ := r.own j u w o
          refine ⟨p, t1, t2.ext g1 rfl, ?_, t4⟩
          rw [g4 p fun m => n.ow i _ q p (mf m) j u w o t1]
          exact t3
      · rcases old w with ⟨e, z⟩ | ⟨nj, w⟩
        · rw [e] at x
          rw [hv] at x
          cases x
          rcases old w' with ⟨e', z'⟩ | ⟨nk, w'⟩
          · exact e.trans e'.symm
          · exact (n.ow i _ q _ ma k u' w' o' y).elim
        · rcases old w' with ⟨e', z'⟩ | ⟨nk, w'⟩
          · rw [e'] at y
            rw [hv] at y
            cases y
            exact (n.ow i _ q _ ma j u w o x).elim
          · exact r.sep j k u u' p w o w' o' x y
      · rcases old w with ⟨_, z⟩ | ⟨_, w⟩
        · cases z
        · exact exc_mono r g1 w
      · have tr' : ∀ {j : Nat} {t : OT}, (ρ.set i (.o g c (frzTF fs)))[j]? = some (.tr t) → j ≠ i ∧ ρ[j]? = some (.tr t) := fun {j t} w => by
          rcases old w with ⟨_, z⟩ | ⟨ne, w⟩
          · cases z
          · exact ⟨ne, w⟩
        refine ⟨fun j t w => ?_, fun j t w => n.nd j t (tr' w).2, fun j t w p m => ⟨?_, (n.fr j t (tr' w).2 p m).2⟩, fun j t w p m k s' ws os => ?_, fun j k t t' ne w w' => n.sp j k t t' ne (tr' w).2 (tr' w').2⟩
        · obtain ⟨v', t1, t2⟩ := n.at_ j t (tr' w).2
          exact ⟨v', t1, t2.ext g1 fun _ _ => rfl⟩
        · rw [g4 p fun m' => n.sp j i t _ (tr' w).1 (tr' w).2 q p m (mf m')]
          exact (n.fr j t (tr' w).2 p m).1
        · rcases old ws with ⟨e, z⟩ | ⟨ne, ws⟩
          · rw [e, hv]
            intro y
            cases y
            exact n.sp j i t _ (tr' w).1 (tr' w).2 q _ m ma
          · exact n.ow j t (tr' w).2 p m k s' ws os
  · exact ⟨G, .refl s b, r⟩
section
variable {X : Cx} {ca : Cn} {W : WX} {e ei : Expr} {fe fi : Ev → R D} {fn : Ev → R Sl} {st : Stmt} {g : Ev → SO} {pos p pa py pos' : Pos} {i f : Nat} {y nm : Str} {cs : List Nat}
theorem fs_seal (i : Nat) (h : FS X ca W st g) : FS X ca W st (sSealA i g) := by
  obtain ⟨t, p, k⟩ := h.ex
  refine ⟨t, p, fun B G H σ ρ D s b r w => k B G H σ ρ D s b r ?_⟩
  unfold sSealA at w
  cases z : g ρ with
  | nx ρ1 =>
    rw [z] at w
    intro σ' G' H' a r'
    obtain ⟨G2, a2, r2⟩ := r'.seal a.gh a.bh i
    exact w σ' G2 H' (a.trans a2) r2
  | _ => rw [z] at w; exact w
theorem fe_fldT (hi : X.N[i]? = some y) (hf : ca.n f = nm) (hn : ∀ k, ca.n k = ca.n f → k = f) (hc : ∀ c ∈ cs, ∀ C, ca.a c = some C → Cls X.K C ∧ NoAttr X.K C nm)
    (hv : Vis X.env.scope y := by first | exact Or.inl rfl | exact Or.inr (Or.inl rfl) | exact Or.inr (Or.inr rfl)) (hd : (y == ("__debug__" : Str)) = false := by decide) (hcd : (y == ("__classdict__" : Str)) = false := by decide)
    (hb : attributeBase (.Name y py) nm X.env (eval (.Name y py) X.env) = eval (.Name y py) X.env := by rfl) : FE X ca W (.Attribute (.Name y py) nm pos) (eFldT cs i f) := by
  refine ⟨_, pe_fld (pe_var hi hv hd hcd) hb, fun B G H σ ρ Q s b r w => ?_⟩
  unfold eFldT at w
  cases z : slotT ρ i with
  | exc x => exact (slotT_ne z).elim
  | bad => rw [z] at w; exact w.elim
  | ok q =>
    rw [z] at w
    obtain ⟨FP, n⟩ := r.nst
    obtain ⟨a, C, dx, vs, fq, h1, hg, h2, h3, h4, h5, h6⟩ := slotT_at z r n
    have w2 : Wish X.K ca (SV X.K ca Q) G H (if q.2.1 ∈ cs then dataT (q.2.2.lookup f) else .bad) (WE W σ) := w
    split at w2
    · rename_i hm
      cases l : q.2.2.lookup f with
      | none => rw [l] at w2; exact w2.elim
      | some t =>
        rw [l] at w2
        cases t with
        | d d =>
          obtain ⟨v, l1, l2⟩ := NAtF.data hn h4 l
          rw [hf] at l1
          have w3 : Wish X.K ca (SV X.K ca Q) G H (.ok d) (WE W σ) := w2
          exact ⟨_, h1, a, C, dx, vs, v, rfl, h3, (hc _ hm C h2).1, (hc _ hm C h2).2, l1, w3.here s _ l2⟩
        | _ => exact w2.elim
    · exact w2.elim
theorem fs_fldN (hi : X.N[i]? = some y) (hf : ca.n f = nm) (hn : ∀ k, ca.n k = ca.n f → k = f) (hc : ∀ c ∈ cs, ∀ C, ca.a c = some C → Cls X.K C ∧ NoAttr X.K C nm) (h : FN X ca W e fn)
    (hv : Vis X.env.scope y := by first | exact Or.inl rfl | exact Or.inr (Or.inl rfl) | exact Or.inr (Or.inr rfl)) (hd : (y == ("__debug__" : Str)) = false := by decide) (hcd : (y == ("__classdict__" : Str)) = false := by decide)
    (hs : swapsWith e (some (.Attribute (.Name y py) nm pos')) pos.line X.env = pure false := by rfl) : FS X ca W (.Assign [.Attribute (.Name y py) nm pos'] e pos) (sFldN cs i f fn) := by
  obtain ⟨t, pp, k⟩ := h.ex
  refine ⟨_, ps_fld (pe_var hi hv hd hcd) pp hs, fun B G H σ ρ D s b_ r w => k B G H σ ρ _ s b_ r ?_⟩
  refine WishS.from w b_ r fun sl G1 H1 _ x w1 r1 b1 => ?_
  cases et : toT sl with
  | none => rw [et] at w1; exact w1.elim
  | some tt =>
    rw [et] at w1
    cases z : slotT ρ i with
    | exc x => exact (slotT_ne z).elim
    | bad => rw [z] at w1; exact w1.elim
    | ok q =>
      rw [z] at w1
      have w2 : WishS X.K ca B G1 (if q.2.1 ∈ cs ∧ q.2.2.length < 1000 ∧ (q.2.2.lookup f).isNone = true then .nx (ρ.set i (.tr (.o q.1 q.2.1 (q.2.2 ++ [(f, tt)])))) else .bad) D W := w1
      split at w2
      · rename_i hm
        refine ⟨(by cases sl <;> first | rfl | cases et), fun p oa gp hp => ?_⟩
        obtain ⟨FP, n⟩ := r.nst
        have gno : ∀ (b : Addr) (o : HO), H b = some o → (∀ vs, o ≠ .tup vs) → G b = none → G1 b = none := fun b o ho nt gb => by
          cases q : G1 b with
          | none => rfl
          | some u =>
            rcases x.nw b (by rw [q]; simp) with z | z
            · exact (z gb).elim
            · exact (z.no ho nt).elim
        have n1 : NstAll X.K ca B G1 H1 σ ρ FP := n.step (fun i t e => ⟨e, rfl⟩) x.gg fun b o ho nt gb bb ow => ⟨(x.hh _ _ ho).trans ho.symm, gno b o ho nt gb, ow⟩
        obtain ⟨a, C, dx, vs, fq, h1, hg, h2, h3, h4, h5, h6⟩ := slotT_at z r n
        have own : ∀ b ∈ a :: fq, OwnO H b := fun b m => by
          rcases List.mem_cons.mp m with e | m
          · rw [e]; exact ⟨_, h3, trivial⟩
          · exact h4.some b m
        have fresh : ∀ b, OwnO H b → b ≠ p := fun b ⟨o, ho, _⟩ e => by rw [e, hp] at ho; cases ho
        obtain ⟨na, nq⟩ := List.nodup_cons.mp h5
        have l := h4.length
        have nf := NAtF.nofld hn h4 (Option.isNone_iff_eq_none.mp hm.2.2)
        rw [hf] at nf
        have h4' : NAtF X.K ca G1 (upd H1 a (.ins C dx (putF nm (.ref p) vs))) (q.2.2 ++ [(f, tt)]) (putF nm (.ref p) vs) (fq ++ [p]) := by
          rw [putF_none nf, ← hf]
          refine NAtF.snoc ((toT_at oa et).ext (.refl _) fun b m => ?_) (h4.tr_ rfl rfl (fun _ _ => At.mono x.gg) fun b m => ?_)
          · obtain rfl : b = p := by simpa using m
            exact upd_ne (Ne.symm (fresh a (own a List.mem_cons_self)))
          · obtain ⟨o, ho, _⟩ := own b (List.mem_cons_of_mem _ m)
            rw [upd_ne fun e => na (by rw [← e]; exact m)]
            exact (x.hh _ _ ho).trans ho.symm
        have gB : ∀ b ∈ a :: fq, G1 b = none ∧ B b = none := fun b m => by
          obtain ⟨o, ho, io⟩ := own b m
          exact ⟨gno b o ho io.nt (h6 b m).1, (h6 b m).2.1⟩
        have t1 : Rel X.K ca B G1 (upd H1 a (.ins C dx (putF nm (.ref p) vs))) σ (ρ.set i (.tr (.o q.1 q.2.1 (q.2.2 ++ [(f, tt)])))) := by
          refine r1.retree n1 i (fp' := a :: (fq ++ [p])) h1 ⟨a, C, dx, _, _, rfl, hg, h2, upd_same, h4', rfl⟩ ?_ (fun b m => ?_) (fun j s' b ne q' o' y => ?_) fun j t b ne q' m => ?_
          · rw [List.nodup_cons, List.mem_append, List.nodup_append]
            refine ⟨fun m => m.elim na fun m => fresh a (own a List.mem_cons_self) (by simpa using m), nq, by simp, fun b m c m' e => ?_⟩
            obtain rfl : c = p := by simpa using m'
            exact fresh b (own b (List.mem_cons_of_mem _ m)) e
          · have m : b ∈ a :: fq ∨ b = p := by
              simp only [List.mem_cons, List.mem_append, List.not_mem_nil, or_false] at m ⊢
              rcases m with m | m | m
              · exact .inl (.inl m)
              · exact .inl (.inr m)
              · exact .inr m
            rcases m with m | e
            · exact ⟨(gB b m).1, (gB b m).2, (h6 b m).2.2.1, (h6 b m).2.2.2⟩
            · subst e
              refine ⟨gp, same_none b_ hp, fun j s' ne q' o' y => ?_, fun j t ne q' m => ?_⟩
              · obtain ⟨a', e1, e2, _⟩ := r.own j s' q' o'
                rw [y] at e1
                cases e1
                obtain ⟨ob, e5⟩ := e2.some
                rw [hp] at e5
                cases e5
              · obtain ⟨v, _, nt⟩ := n.at_ j t q'
                obtain ⟨ob, e5, _⟩ := nt.some _ m
                rw [hp] at e5
                cases e5
          · exact upd_ne fun e => (h6 a List.mem_cons_self).2.2.1 j s' ne q' o' (by rw [← e]; exact y)
          · exact upd_ne fun e => (h6 a List.mem_cons_self).2.2.2 j t ne q' (by rw [← e]; exact m)
        have nG : Same G1 (upd H1 a (.ins C dx (putF nm (.ref p) vs))) := fun c o e => by
          rw [upd_ne fun z => by rw [z, (gB a List.mem_cons_self).1] at e; cases e]; exact x.gh c o e
        have nB : Same B (upd H1 a (.ins C dx (putF nm (.ref p) vs))) := fun c o e => by
          rw [upd_ne fun z => by rw [z, (gB a List.mem_cons_self).2] at e; cases e]; exact b1 c o e
        exact ⟨_, h1, a, C, dx, vs, rfl, x.hh _ _ h3, (hc _ hm.1 C h2).1, (hc _ hm.1 C h2).2, by rw [← l]; exact hm.2.1, w2 _ G1 _ ⟨.refl _, nG, nB, fun c z => .inl z⟩ t1⟩
      · exact w2.elim
theorem fs_putFK (hu : X.A.units + 65 < cLine) (hi : X.N[i]? = some y) (hf : ca.n f = nm) (hn : ∀ k, ca.n k = ca.n f → k = f) (hc : ∀ c ∈ cs, ∀ C, ca.a c = some C → Cls X.K C ∧ NoAttr X.K C nm) (h : FE X ca W e fe) (hx : FE X ca W ei fi)
    (hv : Vis X.env.scope y := by first | exact Or.inl rfl | exact Or.inr (Or.inl rfl) | exact Or.inr (Or.inr rfl)) (hd : (y == ("__debug__" : Str)) = false := by decide) (hcd : (y == ("__classdict__" : Str)) = false := by decide)
    (hb : attributeBase (.Name y py) nm X.env (eval (.Name y py) X.env) = eval (.Name y py) X.env := by rfl) (hs : swapsWith e (some (.Subscript (.Attribute (.Name y py) nm pa) ei p)) pos.line X.env = pure false := by rfl) : FS X ca W (.Assign [.Subscript (.Attribute (.Name y py) nm pa) ei p] e pos) (sPutFK cs i f fi fe) := by
  obtain ⟨t, pp, k⟩ := h.ex
  obtain ⟨u, pu, ku⟩ := hx.ex
  refine ⟨_, ps_dput (by omega) (pe_fld (pe_var hi hv hd hcd) hb) pu pp hs, fun B G H σ ρ D s b r w => k B G H σ ρ _ s b r ?_⟩
  refine WishS.from w b r fun d G1 H1 _ x w1 r1 b1 v av => ?_
  cases z : slotT ρ i with
  | exc x => exact (slotT_ne z).elim
  | bad => rw [z] at w1; exact w1.elim
  | ok q =>
    rw [z, from_ok] at w1
    split at w1
    rotate_left 1
    · exact w1.elim
    rename_i hm
    cases zd : dictT (q.2.2.lookup f) with
    | exc x =>
      exfalso
      unfold dictT at zd
      split at zd
      · rename_i kv0 _
        cases zu : unK kv0 <;> rw [zu] at zd <;> cases zd
      · cases zd
    | bad => rw [zd] at w1; exact w1.elim
    | ok kvs =>
      rw [zd, from_ok] at w1
      have lk : q.2.2.lookup f = some (.k (lfK kvs)) := by
        unfold dictT at zd
        split at zd
        · rename_i kv0 e0
          cases zu : unK kv0 with
          | none => rw [zu] at zd; cases zd
          | some l => rw [zu] at zd; cases zd; rw [e0, unK_eq zu]
        · cases zd
      obtain ⟨FP, n⟩ := r1.nst
      obtain ⟨a, C, dx, vs, fq, h1, hg, h2, h3, h4, h5, h6⟩ := slotT_at z r1 n
      obtain ⟨na, nq⟩ := List.nodup_cons.mp h5
      obtain ⟨dd, ws, d1, d2, d3, d4, d5⟩ := NAtF.turnK hn nq h4 lk
      rw [hf] at d1
      refine ⟨_, h1, a, C, dx, vs, _, rfl, h3, (hc _ hm C h2).1, (hc _ hm C h2).2, d1, ku B G1 H1 σ ρ _ x.gh b1 r1 ?_⟩
      refine WishS.from w1 b1 r1 fun kd G2 H2 _ x2 w2 r2 b2 nv an => ?_
      have w3 : WishS X.K ca B G2 (match keyD kd with | some k => if kvs.length < sizeLine then .nx (ρ.set i (.tr (.o q.1 q.2.1 (putT f (.k (lfK (putG kvs k d))) q.2.2)))) else .bad | none => .bad) D W := w2
      cases hkk : keyD kd with
      | none => rw [hkk] at w3; exact w3.elim
      | some kk =>
        rw [hkk] at w3
        have w4 : WishS X.K ca B G2 (if kvs.length < sizeLine then .nx (ρ.set i (.tr (.o q.1 q.2.1 (putT f (.k (lfK (putG kvs kk d))) q.2.2)))) else .bad) D W := w3
        split at w4
        · rename_i hl
          have e4 : AtK X.K ca G2 kvs ws := AtK.mono x2.gg d4
          have hdd : H2 dd = some (.dK ws) := x2.hh _ _ d3
          have own : ∀ b ∈ a :: fq, OwnO H1 b := fun b m => by
            rcases List.mem_cons.mp m with e | m
            · rw [e]; exact ⟨_, h3, trivial⟩
            · exact h4.some b m
          have gno : ∀ b ∈ a :: fq, G2 b = none := fun b m => by
            obtain ⟨o, ho, io⟩ := own b m
            cases q : G2 b with
            | none => rfl
            | some u =>
              rcases x2.nw b (by rw [q]; simp) with z | z
              · exact (z (h6 b m).1).elim
              · exact (z.no ho io.nt).elim
          have n2 : NstAll X.K ca B G2 H2 σ ρ FP := n.step (fun i t e => ⟨e, rfl⟩) x2.gg fun b o ho nt gb bb ow => ⟨(x2.hh _ _ ho).trans ho.symm, (by
            cases q : G2 b with
            | none => rfl
            | some u =>
              rcases x2.nw b (by rw [q]; simp) with z | z
              · exact (z gb).elim
              · exact (z.no ho nt).elim), ow⟩
          have ad : a ≠ dd := fun e => na (by rw [e]; exact d2)
          have t1 : Rel X.K ca B G2 (upd H2 dd (.dK (putK ws kk v))) σ (ρ.set i (.tr (.o q.1 q.2.1 (putT f (.k (lfK (putG kvs kk d))) q.2.2)))) := by
            refine r2.retree n2 i (fp' := a :: fq) h1 ⟨a, C, dx, vs, fq, rfl, hg, h2, by rw [upd_ne ad]; exact x2.hh _ _ h3, ?_, rfl⟩ h5 (fun b m => ⟨gno b m, (h6 b m).2⟩) (fun j s' b ne q' o' y => ?_) fun j t b ne q' m => ?_
            · -- the dict has turned
              have k1 := d5 kvs ws H1 d4 d3 fun b m ne => rfl
              obtain ⟨d', ws', u1, u2, u3, u4, u5⟩ := NAtF.turnK hn nq (h4.tr_ (H' := H2) (G' := G2) rfl rfl (fun _ _ => At.mono x2.gg) fun b m => by
                obtain ⟨o, ho, _⟩ := own b (List.mem_cons_of_mem _ m)
                exact (x2.hh _ _ ho).trans ho.symm) lk
              rw [hf, d1] at u1
              cases u1
              rw [hdd] at u3
              cases u3
              exact u5 _ _ _ (e4.put (At.mono x2.gg av)) upd_same fun b m ne => upd_ne ne
            · exact upd_ne fun e => (h6 dd (List.mem_cons_of_mem _ d2)).2.2.1 j s' ne q' o' (by rw [← e]; exact y)
            · exact upd_ne fun e => (h6 dd (List.mem_cons_of_mem _ d2)).2.2.2 j t ne q' (by rw [← e]; exact m)
          have nG : Same G2 (upd H2 dd (.dK (putK ws kk v))) := fun c o e => by
            rw [upd_ne fun z => by rw [z, gno dd (List.mem_cons_of_mem _ d2)] at e; cases e]; exact x2.gh c o e
          have nB : Same B (upd H2 dd (.dK (putK ws kk v))) := fun c o e => by
            rw [upd_ne fun z => by rw [z, (h6 dd (List.mem_cons_of_mem _ d2)).2.1] at e; cases e]; exact b2 c o e
          rw [key_at an hkk]
          exact ⟨dd, _, rfl, DPut.k hdd (by rw [← e4.length]; exact hl), w4 _ G2 _ ⟨.refl _, nG, nB, fun c z => .inl z⟩ t1⟩
        · exact w4.elim
end
end Tk
namespace Tk
open PySem PySem.Spec L2 PyProof.Rows
variable {X : Cx} {ca : Cn}
end Tk
namespace Tk
open PySem PySem.Spec L2 PyProof.Rows
def pairKV : D → Option (Key × D)
  | .tup [a, b] => match keyD a with
    | some k => some (k, b)
    | none => none
  | _ => none
def pairsKV : List D → Option (List (Key × D))
  | [] => some []
  | d :: r => match pairKV d, pairsKV r with
    | some k, some ks => some (k :: ks)
    | _, _ => none
def gDict : List D → R D
  | [.lst xs] => (optR (pairsKV xs)).bind fun kvs => .ok (.dK (mergeG [] kvs))
  | _ => .bad
theorem pairKV_some {d : D} {q : Key × D} (h : pairKV d = some q) : ∃ a, d = .tup [a, q.2] ∧ keyD a = some q.1 := by
  unfold pairKV at h
  split at h
  · rename_i a b
    cases k : keyD a with
    | none => rw [k] at h; cases h
    | some k' => rw [k] at h; cases h; exact ⟨a, rfl, k⟩
  · cases h
section
variable {X : Cx} {ca : Cn} {W : WX} {e : Expr} {es : List Expr} {f : Ev → R Sl} {fl fa : Ev → R (List D)} {pos p : Pos}
theorem pairsD_at {K : PySem.W.Frag} {ca : Cn} {G H : Hp} (s : Same G H) : ∀ {xs : List D} {vs : List V} {kvs : List (Key × D)}, AtL K ca G xs vs → pairsKV xs = some kvs →
    ∃ (ps : List Addr) (ws : List (Key × V)), vs = ps.map V.ref ∧ AtK K ca G kvs ws ∧ Paired (fun p kv => SqT K H p [kV kv.1, kv.2]) ps ws
  | [], _, _, h, e => by cases e; cases h; exact ⟨[], [], rfl, rfl, .nil⟩
  | d :: ds, _, kvs, ⟨v, r, e1, a, t⟩, e => by
    subst e1
    unfold pairsKV at e
    cases h1 : pairKV d with
    | none => rw [h1] at e; cases e
    | some q =>
      cases h2 : pairsKV ds with
      | none => rw [h1, h2] at e; cases e
      | some ks =>
        rw [h1, h2] at e
        cases e
        obtain ⟨x, rfl, hk⟩ := pairKV_some h1
        obtain ⟨b, us, rfl, hb, ⟨u1, r1, e3, a1, u2, r2, e4, a2, e5⟩⟩ := a
        subst e3
        subst e4
        subst e5
        have hu : u1 = kV q.1 := by
          have := keys_at (K := K) (ca := ca) (G := G) (ds := [x]) (vs := [u1]) (ks := [q.1]) ⟨u1, [], rfl, a1, rfl⟩ (by simp [keysD, hk])
          simpa using this
        subst hu
        obtain ⟨ps, ws, rfl, hw, hp⟩ := pairsD_at s t h2
        exact ⟨b :: ps, (q.1, u2) :: ws, rfl, ⟨u2, ws, rfl, a2, hw⟩, .cons (tq s hb) hp⟩
theorem vn_dict : VN X ca (fun xs H Q => ∃ (a : Addr) (ps : List Addr) (kvs : List (Key × V)), xs = [.ref a] ∧ SqL X.K H a (ps.map V.ref) ∧ Paired (fun p kv => SqT X.K H p [kV kv.1, kv.2]) ps kvs ∧
    ∀ p, H p = none → Q (.ref p) (upd H p (.dK (mergeK [] kvs)))) gDict := by
  intro G H W1 xs ds Q s a w
  unfold gDict at w
  split at w
  · obtain ⟨v, rfl, p, vs, rfl, h1, h2⟩ := atl1 a
    obtain ⟨kvs, e, w⟩ := wish_opt w
    obtain ⟨ps, ws, rfl, hw, hp⟩ := pairsD_at s h2 e
    refine ⟨p, ps, ws, rfl, .of (s _ _ h1), hp, fun q nq => ?_⟩
    have ge : Ext G H (upd G q (.dK (mergeK [] ws))) (upd H q (.dK (mergeK [] ws))) := Ext.new s nq
    exact w _ _ ge (.ref q) ⟨q, _, rfl, .inl upd_same, AtK.mono ge.gg (AtK.merge hw rfl)⟩
  · exact w.elim
theorem fe_dictc (T : BT X.mg) (ha : FA X ca W (e :: es) fl) (hc : X.calm = true := by rfl) (n : Nm X "dict" e es pos := by exact ⟨rfl, rfl, rfl⟩) : FE X ca W (.Call (.Name "dict" p) (e :: es) [] pos) (eA gDict fl) := fe_bty (call_dictP hc) vn_dict n.g T.dict bb_dict ha (by decide) (by decide) n.h n.p
def eIfN (ft : Ev → R Bool) (fa fb : Ev → R Sl) : Ev → R Sl := fun ρ => (ft ρ).bind fun b => if b = true then fa ρ else fb ρ
theorem fn_if {c a b : Expr} {ft : Ev → R Bool} {fa fb : Ev → R Sl} (hc : FT X ca W c ft) (ha : FN X ca W a fa) (hb : FN X ca W b fb) : FN X ca W (.IfExp c a b pos) (eIfN ft fa fb) := by
  obtain ⟨t, p, k⟩ := hc.ex
  obtain ⟨ta, pa, ka⟩ := ha.ex
  obtain ⟨tb, pb, kb⟩ := hb.ex
  refine ⟨_, pe_ifExp p pa pb, fun B G H σ ρ Q s b r h => ?_⟩
  have cut : ∀ {G1 H1 : Hp} {f : Ev → R Sl}, Ext G H G1 H1 → Wish X.K ca (SN X.K ca H Q) G1 H1 (f ρ) (WE W σ) → Wish X.K ca (SN X.K ca H1 Q) G1 H1 (f ρ) (WE W σ) := fun x w => w.imp fun G' s' H' ⟨o, z⟩ => ⟨o, fun a h1 h2 h3 => z a h1 h2 (same_none x.hh h3)⟩
  refine k B G H σ ρ _ s b r (Wish.bind h fun d G1 H1 _ x1 w1 => ?_)
  cases d with
  | true => exact ka B G1 H1 σ ρ _ x1.gh (b.trans x1.hh) (r.ext x1) (cut x1 w1)
  | false => exact kb B G1 H1 σ ρ _ x1.gh (b.trans x1.hh) (r.ext x1) (cut x1 w1)
end
end Tk
set_option maxHeartbeats 4000000
namespace Tk
open PySem PySem.W PySem.Calls PyProof.Rows
abbrev VEi : String := "ValueError.__init__"
section
variable {prog : Program} {w : World} {A : Around} {E : Value → Shared → Prop} {hh : Heap} {g : Array GenState} {d : Drawn} {t : Nat} {os : OsState}
theorem es_node {body : List Stmt} {q : Str} {scope : Scope} {p0 p1 : Pos} {attr : Str} {whole : Sem Value} {fd : FuncData} {ar : Arg} {vs : Array Value} {file : Str} {tf : Tok} {of oc oD ox : Obj} {cdD : ClassData} {L f cda cc x C D : Addr} {m mg mb : Str → Option Value} {Q : Value → Shared → Prop}
    (hf : hh.get? f = some of) (hfd : of.data = .func fd) (hp : (fd.params.posonlyargs ++ fd.params.args).head? = some ar) (hL : hh.Ns L m) (hv : m ar.arg = some (.ref x)) (hx : hh.get? x = some ox) (hxc : ox.cls = .ref C) (hnc : ∀ c, ox.data ≠ .cls c)
    (hcode : hh.get? cda = some oc) (hoc : oc.data = .fields vs) (hvs : vs[2]? = some (.str file tf)) (hfile : ((prog.main.file : Str) == file) = true) (hcell : hh.IsCell cc (some (.ref D))) (hD : hh.get? D = some oD) (hDd : oD.data = .cls cdD) (hsub : Looks (model prog w) hh (isSubtype (.ref C) (.ref D)) true)
    (hG : hh.Ns mainGlobals mg) (hmg : mg "super" = none) (hB : hh.Ns builtinsNs mb) (hmb : mb "super" = some (.type "super"))
    (hat : (attr == ("__class__" : Str)) = false) (hks : scope.names.lookup ("super" : Str) = some .globalImplicit) (hkc : scope.names.lookup ("__class__" : Str) = some .free) (hka : scope.names.lookup ar.arg = some .local) (hk : scope.kind = .function)
    (htop : (prog.main.scope.names.lookup ("super" : Str)).isSome = false)
    (h : ∀ h', h'.get? hh.objs.size = some (ks_superObj D x C) → (∀ y o, hh.get? y = some o → h'.get? y = some o) → Q (.ref hh.objs.size) ⟨h', g, d, t, os⟩) :
    _root_.PySem.wpAt (model prog w) A (.func body (ksEnv q scope L f (.ref cda) cc)) (attributeBase (.Call (.Name "super" p0) [] [] p1) attr (ksEnv q scope L f (.ref cda) cc) whole) Q E ⟨hh, g, d, t, os⟩ := by
  refine ks_wpAt_super_base (env := ksEnv q scope L f (.ref cda) cc) hks hkc hat rfl hf hfd hp rfl hcode hoc hvs hfile htop ?_
  refine ks_loadName_global hk hks (loadGlobal_builtin (env := ksEnv q scope L f (.ref cda) cc) hG hmg hB hmb ⟨rfl, ?_⟩)
  refine wpAny_loadName_free hk hkc rfl hcell ?_
  refine wpAny_loadName_local hk hka hL hv ?_
  refine ks_wpAny_isType_cls hD hDd ⟨rfl, ?_⟩
  exact ks_wpAny_call_super hD hDd hx hxc hnc hsub h
theorem es_call {u e t0 C : Addr} {rest : List Value} {nm q : Str} {N : Addr} {bs bm : List Value} {hdct : Bool} {sn : List Str} {sub : List Value} {ab : Bool} {col : Option Bool} {dd : Option Addr} {k0 k1 k2 k3 k5 : Option Value} {Q : Value → Shared → Prop}
    (hC : hh.get? C = some (excClassObj nm q C N bs bm hdct sn sub ab col dd k0 k1 k2 k3 k5 "ValueError.__new__")) (he : hh.get? e = some (HandSPX.excO C t0)) (hu : hh.get? u = some (kxs_mw VEi e)) (hrest : rest.length ≤ sizeLine)
    (hq : ∀ h' t1, (∀ b o, b ≠ e → hh.get? b = some o → h'.get? b = some o) → h'.get? e = some (HandSPX.excO C t1) → Q .none ⟨h', g, d, t, os⟩) :
    wpAny (model prog w) A (call (.ref u) rest) Q E ⟨hh, g, d, t, os⟩ := by
  refine wpAny_call (codeAny_of_tree ?_)
  show wpAny _ A.in1 (callAny (.ref u) ⟨rest, []⟩) _ _ _
  simp only [callAny]
  refine wpAny_bind (wpAny_load hu ?_)
  simp only [kxs_mw, show (Value.type "method-wrapper" == Value.type "method" || Value.type "method-wrapper" == Value.type "builtin_function_or_method" || Value.type "method-wrapper" == Value.type "method-wrapper") = true by decide, if_true]
  refine KFB.if_so (by decide) ?_
  refine wpAny_bind (check_bound_init F.excBase_ValueError.toExcCallFacts hC he rfl ?_)
  refine wpAny_bind (wpAny_pure (wpAny_pure ?_))
  refine ⟨plainId_quiet F.excBase_ValueError.init.plain _, codeAny_builtin F.excBase_ValueError.initEntry ?_⟩
  exact exc_init_tree (cls := .ref C) (t0 := t0) (dv := none) (c2 := .none) (c3 := .none) (b4 := .bool false) he hrest fun h' k e' t' => hq h' _ k e'
end
open PySem.Spec L2
structure EsF (P : Program) (K : Frag) (C fI : Addr) (fd : FuncData) (qual : Str) (params : Arguments) (body : List Stmt) (scope : Scope) : Prop where
  T : OexC K C
  fn : ∃ (oc : Value) (od : Option Addr) (dV kV doc pm : Value) (an : Option Addr) (cda : Addr) (ct : Value) (cc : Addr) (osl : Array (Option Value)) (vs : Array Value) (file : Str) (tf : Tok) (ccl : Value) (cdd : Option Addr) (ccs : Array (Option Value)) (cl : Value) (cld : Option Addr) (csl : Array (Option Value)),
    fd = ksFn "__init__" qual params body scope dV kV doc pm an (.ref cda) ct cc ∧ K.lookup fI = some ⟨oc, od, .func fd, osl⟩ ∧ codeIn K (.ref cda) qual = true ∧ K.lookup cda = some ⟨ccl, cdd, .fields vs, ccs⟩ ∧ vs[2]? = some (.str file tf) ∧ ((P.main.file : Str) == file) = true ∧ K.lookup cc = some ⟨cl, cld, .cell (some (.ref C)), csl⟩
  sup : ks_superIn K C C "__init__" = some (some (.builtin VEi))
  opq : nsIn K cStatics "thirdparty.any" = some none
  sVE : subIn K (.ref C) (.type "ValueError") = some true
  sC : mroIn K C (.ref C) = some true
  top : (P.main.scope.names.lookup ("super" : Str)).isSome = false
section
variable {P : Program} {w : World} {K : Frag} {mg : Str → Option Value} {base : Heap} {C fI : Addr} {fd : FuncData} {qual : Str} {params : Arguments} {body rest : List Stmt} {scope : Scope} {A : Around}
theorem es_head {e t1 : Addr} {args : Args} {binds : List (Str × Value)} {R : Result → Shared → Prop} {s : Shared} {p0 p1 p2 p4 p5 : Pos} {arg : Expr} {ar : Arg}
    (S : EsF P K C fI fd qual params (.Expr (.Call (.Attribute (.Call (.Name "super" p0) [] [] p1) "__init__" p2) [arg] [] p4) p5 :: rest) scope) (M0 : Mod K mg base) (hb0 : ∀ b o, base.get? b = some o → s.heap.get? b = some o) (hmg : mg "super" = none) (hr : A.depth < recursionLimit)
    (he : s.heap.get? e = some (HandSPX.excO C t1)) (hbind : BindsTo s fd args binds) (hp : (params.posonlyargs ++ params.args).head? = some ar) (hv : binds.reverse.lookup ar.arg = some (.ref e)) (hcell : ∀ x ∈ scope.names, x.2 ≠ .cell) (hloc : ∀ x ∈ binds, scope.names.lookup x.1 = some .local)
    (hks : scope.names.lookup ("super" : Str) = some .globalImplicit) (hkc : scope.names.lookup ("__class__" : Str) = some .free) (hka : scope.names.lookup ar.arg = some .local) (hk : scope.kind = .function) (hco : scope.isCoroutine = false) (hgen : scope.isGenerator = false)
    (harg : ∀ (f cda cc : Addr) (A : Around) (s1 : Shared) (E : Value → Shared → Prop) (Q : Value → Shared → Prop), s1.heap.Ns s.heap.objs.size (fun x => binds.reverse.lookup x) → (∀ v tk, Q v { s1 with toks := tk }) → wpAny (model P w) A (eval arg (ksEnv qual scope s.heap.objs.size f (.ref cda) cc)) Q E s1)
    (hse : ∀ (f cda cc : Addr), starEach [arg] (ksEnv qual scope s.heap.objs.size f (.ref cda) cc) = [(false, eval arg (ksEnv qual scope s.heap.objs.size f (.ref cda) cc))])
    (hce : ∀ (f cda cc : Addr), ∃ pl : Sem Bool, eval (.Call (.Attribute (.Call (.Name "super" p0) [] [] p1) "__init__" p2) [arg] [] p4) (ksEnv qual scope s.heap.objs.size f (.ref cda) cc) = (do
      let ov ← attributeBase (.Call (.Name "super" p0) [] [] p1) "__init__" (ksEnv qual scope s.heap.objs.size f (.ref cda) cc) (eval (.Call (.Name "super" p0) [] [] p1) (ksEnv qual scope s.heap.objs.size f (.ref cda) cc))
      standAt p2.atName
      let (fn, first) ← holding [ov] (getMethod ov "__init__" pl)
      callWith p4 fn first (backTo p4 (starEach [arg] (ksEnv qual scope s.heap.objs.size f (.ref cda) cc))) []))
    (h : ∀ (f cda cc : Addr) (E : Value → Shared → Prop) (h' : Heap) (tk : Nat) (t1 : Addr), (∀ b o, b ≠ e → s.heap.get? b = some o → h'.get? b = some o) → h'.get? e = some (HandSPX.excO C t1) → h'.Ns s.heap.objs.size (fun x => binds.reverse.lookup x) →
      wpAny (model P w) (A.deeper (ksEnv qual scope s.heap.objs.size f (.ref cda) cc)) (execs rest (ksEnv qual scope s.heap.objs.size f (.ref cda) cc)) (fun f s' => R (.ok (.ret (match f with | .ret v => v | _ => .none))) s') E { s with heap := h', toks := tk }) :
    codeAny (model P w) A (.call (.ref fI) args) R s := by
  obtain ⟨oc, od, dV, kV, doc, pm, an, cda, ct, cc, osl, vs, file, tf, ccl, cdd, ccs, cl, cld, csl, rfl, lk, hcd, lc, hvs, hfile, lcc⟩ := S.fn
  obtain ⟨nm, q, N, bs, bm, sn, sub, ab, col, dd, k0, k1, k2, k3, k5, hC, hbm⟩ := S.T.cls
  have X0 : K.In s.heap := M0.kin.keeps hb0
  have hcl : clsIn K C = some { name := nm, bases := bs, mro := .ref C :: bm, ns := N, qualname := q, hasDict := true, slotNames := sn, subclasses := sub, abstract := ab, collection := col, hasDel := false } := by unfold clsIn; rw [hC] <;> rfl
  obtain ⟨mb, hB, hmb⟩ := M0.blt
  have ne : ∀ {h : Heap} {C' : Addr} {o : Obj}, h.get? e = some (HandSPX.excO C t1) → h.get? C' = some o → (∃ cd, o.data = .cls cd) → e ≠ C' := fun {h C' o} h1 h2 h3 z => by
    obtain ⟨cd, h3⟩ := h3
    subst z
    rw [h1] at h2
    cases h2
    cases h3
  refine ks_codeAny_call_defAt (fd := ksFn "__init__" qual params _ scope dV kV doc pm an (.ref cda) ct cc) (body := _) (binds := binds) hr (X0 _ _ lk) rfl (M0.nolimit.keeps hb0) (codeRec_of X0 hcd) rfl hbind hcell hloc (fun h₁ hns hk₁ => ?_) hco hgen hk
  show _root_.PySem.wpAt (model P w) (A.deeper (ksEnv qual scope s.heap.objs.size fI (.ref cda) cc)) (.func _ (ksEnv qual scope s.heap.objs.size fI (.ref cda) cc)) (execs _ (ksEnv qual scope s.heap.objs.size fI (.ref cda) cc)) _ _ _
  obtain ⟨pl, hce⟩ := hce fI cda cc
  refine ks_wpAt_execs_cons (ks_wpAt_Expr_any (ks_wpAt_MethodCall (pl := pl) ?_ hce) (by show (scope.kind == .module && _) = false; rw [hk]; rfl) rfl)
  have X1 : K.In h₁ := X0.keeps hk₁
  have kb1 : ∀ b o, base.get? b = some o → h₁.get? b = some o := fun b o z => hk₁ b o (hb0 b o z)
  have eX := hk₁ _ _ he
  refine es_node (of := _) (X1 _ _ lk) rfl hp hns hv eX rfl (fun c z => nomatch z) (X1 _ _ lc) rfl hvs hfile ⟨_, X1 _ _ lcc, rfl⟩ (X1 _ _ hC) rfl (looks_mroIn X1 S.sC) (M0.glob.keeps kb1) hmg (hB.keeps kb1) ((hmb _ (by decide)).trans PyProof.Rows.Boot.«super») (by decide) hks hkc hka hk S.top fun h₂ hso hk₂ => ?_
  have X2 : K.In h₂ := X1.keeps hk₂
  have eX2 := hk₂ _ _ eX
  have hm : alongIn K "__init__" (((Value.ref C :: bm).dropWhile (· != .ref C)).drop 1) = some (some (.builtin VEi)) := by
    have := S.sup
    unfold ks_superIn at this
    rw [hcl] at this
    exact this
  have hI : Looks (model P w) h₂ (isInstance (.ref e) (.type "ValueError")) true := Looks.andThen (InstAt.type (M := model P w) (x := e) (ox := HandSPX.excO C t1) (C := C) (od := none) ⟨eX2, rfl, rfl, trivial⟩) (looks_subIn X2 S.sVE)
  refine kxs_getMethod kxs_ValueError hso (looks_opaque X2 S.opq) (l₀ := .ref C :: bm) (fun A Q E s k q => wpAny_bind ((looks_clsIn X2 hcl) A _ E s k (wpAny_pure q))) rfl X2 hm hI (ne eX2 (X2 _ _ hC) ⟨_, rfl⟩) (by decide) ?_
  have mw : (h₂.push (kxs_mw VEi e)).get? h₂.objs.size = some (kxs_mw VEi e) := Heap.get?_push_at rfl rfl
  have k3 : ∀ b o, h₂.get? b = some o → (h₂.push (kxs_mw VEi e)).get? b = some o := fun b o z => Heap.get?_push_of_some _ z
  show wpAny _ _ (callWith p4 (.ref h₂.objs.size) [] (backTo p4 (starEach [arg] _)) []) _ _ _
  rw [hse]
  refine kxs_callWith (i := VEi) (x := e) rfl (evalArgs_plain (Calls.spliced_cons ?_))
  have k2 : ∀ b o, s.heap.get? b = some o → (h₂.push (kxs_mw VEi e)).get? b = some o := fun b o z => k3 b o (hk₂ b o (hk₁ b o z))
  have ns2 : (h₂.push (kxs_mw VEi e)).Ns s.heap.objs.size (fun x => binds.reverse.lookup x) := (hns.keeps hk₂).keeps k3
  refine harg fI cda cc _ _ _ _ ns2 fun v tk => ?_
  refine Calls.spliced_nil ⟨mw, ?_⟩
  refine es_call (k2 _ _ (X0 _ _ hC)) (k2 _ _ he) mw (by rw [sizeLine_eq]; simp) fun h' t2 kk ee => ?_
  refine wpAt_of_wpAny ?_
  refine h fI cda cc _ h' _ t2 (fun b o nb z => kk b o nb (k2 b o z)) ee ?_
  obtain ⟨oL, es, ep, hL, r⟩ := ns2
  have eL : s.heap.objs.size ≠ e := Nat.ne_of_gt (Heap.lt_size he)
  exact ⟨oL, es, ep, kk _ _ eL hL, r⟩
end
end Tk
set_option maxHeartbeats 4000000
namespace Tk
open PySem PySem.W PySem.Calls PyProof.Rows PySem.Spec L2
section
variable {P : Program} {w : World} {K : Frag} {mg : Str → Option Value} {base : Heap} {C fI : Addr} {fd : FuncData} {qual : Str} {params : Arguments} {body rest : List Stmt} {scope : Scope} {A : Around}
theorem es_fin {outer : List Env} {H : Hp} {s : Shared} {Q : VK} {E : XK} {e dx : Addr} {fs : List (Str × V)} {h' : Heap} {tk : Nat} {t1 : Addr} {mA : Str → Option Value} (hok : HOk P w H s.heap) (bare : AllBare s.gens) (He : H e = some (exo e C none)) (k : ∀ b o, b ≠ e → s.heap.get? b = some o → h'.get? b = some o) (dn : s.heap.objs.size ≤ dx) (dne : dx ≠ e)
    (hx : h'.get? e = some ({ cls := .ref C, dict := some dx, data := .fields #[.ref t1, .none, .none, .none, .bool false, .none] } : Obj)) (hn : h'.Ns1 dx mA) (rr : ∀ f, RelO (fs.lookup f) (mA f)) (q : H dx = none → Q .non (upd (upd H dx (exd dx fs)) e (exo e C (some dx)))) :
    CR (L2.CX P w) outer P w H s Q E (.ok (.ret .none)) { s with heap := h', toks := tk } := by
  have hnd : H dx = none := hok.fresh dn
  have nd : ∀ {b : Addr} {o : Obj}, s.heap.get? b = some o → b ≠ dx := fun {b o} q => Nat.ne_of_lt (Nat.lt_of_lt_of_le (Heap.lt_size q) dn)
  have na : ∀ {b : Addr}, H b = none → b ≠ e := fun {b} n z => by
    rw [z, He] at n
    cases n
  have Un1 : Un (frs outer) [] H (upd (upd H dx (exd dx fs)) e (exo e C (some dx))) s.heap h' := {
    keep := fun b o q n _ _ => k b o (na n) q
    slot := fun b o q n _ _ => ⟨o.slots, k b o (na n) q⟩
    free := fun b o q n _ => by rw [upd_ne (na n), upd_ne (nd q)]; exact n
    there := fun b o q _ => by
      by_cases hb : b = e
      · exact ⟨_, by rw [hb]; exact hx⟩
      · exact ⟨o, k b o hb q⟩
    tups := fun b xs q => by rw [upd_ne (at_ne He q exo_tup), upd_ne (ne_of_none q hnd)]; exact q
    frzs := fun b o v q => by rw [upd_ne (at_ne He q exo_frz), upd_ne (ne_of_none q hnd)]; exact q
    tbls := fun b ps q => ⟨#[], by rw [upd_ne (at_ne He q exo_tbl), upd_ne (ne_of_none q hnd), q]; simp⟩ }
  refine ⟨.non, _, rfl, bare, Un1, fun b o q => ?_, rfl, q hnd⟩
  by_cases hb : b = e
  · subst hb
    rw [upd_same] at q
    cases q
    exact exo_ok hx
  · rw [upd_ne hb] at q
    by_cases hd : b = dx
    · subst hd
      rw [upd_same] at q
      cases q
      exact exd_ok hn rr
    · rw [upd_ne hd] at q
      exact (hok b o q).stay (fun c v hc z => k c v (by
          rcases hc with hc | hc
          · rw [hc]
            exact hb
          · exact at_ne He hc exo_own) z)
        (fun c hc => by rw [upd_ne (at_ne He hc exo_own), upd_ne (ne_of_none hc hnd)]; exact hc) (fun c xs hc => by rw [upd_ne (at_ne He hc exo_tup), upd_ne (ne_of_none hc hnd)]; exact hc)
def spE1 (C : Addr) (f1 : Str) : Sp := fun vs H Q E => ∃ (e : Addr) (y : V), vs = [.ref e, y] ∧ H e = some (exo e C none) ∧ ∀ dx, H dx = none → dx ≠ e → Q .non (upd (upd H dx (exd dx [(f1, y)])) e (exo e C (some dx)))
def spE2 (C : Addr) (f1 f2 : Str) : Sp := fun vs H Q E => ∃ (e : Addr) (y z : V), vs = [.ref e, y, z] ∧ H e = some (exo e C none) ∧ ∀ dx, H dx = none → dx ≠ e → Q .non (upd (upd H dx (exd dx [(f2, z), (f1, y)])) e (exo e C (some dx)))
structure EsS (scope : Scope) (ps : List Str) : Prop where
  cell : ∀ x ∈ scope.names, x.2 ≠ .cell
  loc : ∀ x ∈ ps, scope.names.lookup x = some .local
  ks : scope.names.lookup ("super" : Str) = some .globalImplicit
  kc : scope.names.lookup ("__class__" : Str) = some .free
  k : scope.kind = .function
  co : scope.isCoroutine = false
  gen : scope.isGenerator = false
theorem es_fn1 {self par f1 text : Str} {p0 p1 p2 p3 p4 p5 p6 p7 p8 p9 : Pos} {j k : Nat} {ar : Arg}
    (S : EsF P K C fI fd qual params [.Expr (.Call (.Attribute (.Call (.Name "super" p0) [] [] p1) "__init__" p2) [.Constant (.str text) j p3] [] p4) p5, .Assign [.Attribute (.Name self p6) f1 p7] (.Name par p8) p9] scope) (hmg : mg "super" = none) (Z : EsS scope [self, par])
    (hno : findIn K (.ref C) f1 = some none) (hp : (params.posonlyargs ++ params.args).head? = some ar) (har : ar.arg = self) (hsp : self ≠ par)
    (d1 : (self == ("__debug__" : Str)) = false) (d2 : (par == ("__debug__" : Str)) = false)
    (hce : ∀ (L f cda cc : Addr), ∃ pl : Sem Bool, eval (.Call (.Attribute (.Call (.Name "super" p0) [] [] p1) "__init__" p2) [.Constant (.str text) j p3] [] p4) (ksEnv qual scope L f (.ref cda) cc) = (do
      let ov ← attributeBase (.Call (.Name "super" p0) [] [] p1) "__init__" (ksEnv qual scope L f (.ref cda) cc) (eval (.Call (.Name "super" p0) [] [] p1) (ksEnv qual scope L f (.ref cda) cc))
      standAt p2.atName
      let (fn, first) ← holding [ov] (getMethod ov "__init__" pl)
      callWith p4 fn first (backTo p4 (starEach [.Constant (.str text) j p3] (ksEnv qual scope L f (.ref cda) cc))) [])) : FnOk P w K mg base (L2.CX P w) (k + 1) fI fd [self, par] (spE1 C f1) := by
  refine ⟨fun vs H Q E h => ?_, fun A outer s H args us vs Q E hr e0 hbind rv hs => ?_⟩
  · obtain ⟨e, y, rfl, _⟩ := h
    rfl
  obtain ⟨e, y, rfl, He, q⟩ := hs
  obtain ⟨u0, u, rfl, re, ry⟩ : ∃ u0 u, us = [u0, u] ∧ RelV (.ref e) u0 ∧ RelV y u := by
    cases rv with
    | cons a b => cases b with
      | cons b c => cases c; exact ⟨_, _, rfl, a, b⟩
  obtain rfl : u0 = .ref e := re
  obtain ⟨t1, he⟩ := exo_at e0.hok He
  have hlk1 : (([self, par].zip [Value.ref e, u]).reverse).lookup self = some (.ref e) := by
    show ([(par, u), (self, Value.ref e)] : List (Str × Value)).lookup self = _
    rw [List.lookup_cons, beq_eq_false_iff_ne.mpr hsp, List.lookup_cons, beq_self_eq_true]
  have hlk2 : (([self, par].zip [Value.ref e, u]).reverse).lookup par = some u := by
    show ([(par, u), (self, Value.ref e)] : List (Str × Value)).lookup par = _
    rw [List.lookup_cons, beq_self_eq_true]
  refine es_head S e0.mod (fun b o z => (e0.bs b o z).1) hmg hr.depth he hbind hp (by rw [har]; exact hlk1) Z.cell (fun x m => ?_) Z.ks Z.kc (by rw [har]; exact Z.loc _ (by simp)) Z.k Z.co Z.gen (fun f cda cc A' s1 E' Q' _ hq => ?_) (fun _ _ _ => rfl) (hce _) fun f cda cc E' h1 tk t2 k1 ee ns => ?_
  · obtain ⟨a, b⟩ := x
    exact Z.loc a (List.of_mem_zip m).1
  · exact wpAny_Constant_str (hq _ _)
  · refine wpAny_execs_cons (plainObj_wpAny_Assign_Attribute (wpAny_Name (wpAny_loadName_local Z.k (Z.loc _ (by simp)) ns hlk2 ?_) d2) rfl)
    refine wpAny_Name (wpAny_loadName_local Z.k (Z.loc _ (by simp)) ns hlk1 ?_) d1
    obtain ⟨nm, qn, N, bs, bm, sn, sub, ab, col, dd, k0, k1', k2, k3, k5, hC, hbm⟩ := S.T.cls
    have hcl : clsIn K C = some { name := nm, bases := bs, mro := .ref C :: bm, ns := N, qualname := qn, hasDict := true, slotNames := sn, subclasses := sub, abstract := ab, collection := col, hasDel := false } := by unfold clsIn; rw [hC] <;> rfl
    have neB : ∀ b o, base.get? b = some o → b ≠ e := fun b o z y => by
      have := (e0.bs b o z).2
      rw [y, He] at this
      cases this
    have X1 : K.In h1 := e0.mod.kin.keeps fun b o z => k1 b o (neB b o z) (e0.bs b o z).1
    refine set_plain X1 (ox := HandSPX.excO C t2) (od := none) ⟨ee, rfl, rfl, trivial⟩ S.T.sa ?_
    refine HandSPX.exc_osa X1 ee hcl (show HandSPX.refsVE (.ref C :: bm) = true from hbm) rfl hno (fun h2 tk' dx k2 dn dne hx hn => ?_)
    refine wpAny_execs_nil ?_
    have sz : s.heap.objs.size ≤ h1.objs.size := by
      obtain ⟨oL, es, ep, hL, r⟩ := ns
      exact Nat.le_of_lt (Heap.lt_size hL)
    exact es_fin (fs := [(f1, y)]) e0.hok e0.bare He (fun b o nb z => k2 b o nb (k1 b o nb z)) (Nat.le_trans sz dn) dne hx hn (relO_put (fs := []) ry fun g => True.intro) fun hd => q dx hd dne
theorem es_fn2 {self par par2 f1 f2 text : Str} {p0 p1 p2 p3 p4 p5 p6 p7 p8 p9 p10 p11 p12 p13 : Pos} {j k : Nat} {ar : Arg}
    (S : EsF P K C fI fd qual params [.Expr (.Call (.Attribute (.Call (.Name "super" p0) [] [] p1) "__init__" p2) [.Constant (.str text) j p3] [] p4) p5, .Assign [.Attribute (.Name self p6) f1 p7] (.Name par p8) p9, .Assign [.Attribute (.Name self p10) f2 p11] (.Name par2 p12) p13] scope) (hmg : mg "super" = none) (Z : EsS scope [self, par, par2])
    (hno : findIn K (.ref C) f1 = some none) (hno2 : findIn K (.ref C) f2 = some none) (hp : (params.posonlyargs ++ params.args).head? = some ar) (har : ar.arg = self) (hsp : self ≠ par) (hsp2 : self ≠ par2) (hsp3 : par ≠ par2)
    (d1 : (self == ("__debug__" : Str)) = false) (d2 : (par == ("__debug__" : Str)) = false) (d3 : (par2 == ("__debug__" : Str)) = false)
    (hce : ∀ (L f cda cc : Addr), ∃ pl : Sem Bool, eval (.Call (.Attribute (.Call (.Name "super" p0) [] [] p1) "__init__" p2) [.Constant (.str text) j p3] [] p4) (ksEnv qual scope L f (.ref cda) cc) = (do
      let ov ← attributeBase (.Call (.Name "super" p0) [] [] p1) "__init__" (ksEnv qual scope L f (.ref cda) cc) (eval (.Call (.Name "super" p0) [] [] p1) (ksEnv qual scope L f (.ref cda) cc))
      standAt p2.atName
      let (fn, first) ← holding [ov] (getMethod ov "__init__" pl)
      callWith p4 fn first (backTo p4 (starEach [.Constant (.str text) j p3] (ksEnv qual scope L f (.ref cda) cc))) [])) : FnOk P w K mg base (L2.CX P w) (k + 1) fI fd [self, par, par2] (spE2 C f1 f2) := by
  refine ⟨fun vs H Q E h => ?_, fun A outer s H args us vs Q E hr e0 hbind rv hs => ?_⟩
  · obtain ⟨e, y, z, rfl, _⟩ := h
    rfl
  obtain ⟨e, y, z, rfl, He, q⟩ := hs
  obtain ⟨u0, u, u2, rfl, re, ry, rz⟩ : ∃ u0 u u2, us = [u0, u, u2] ∧ RelV (.ref e) u0 ∧ RelV y u ∧ RelV z u2 := by
    cases rv with
    | cons a b => cases b with
      | cons b c => cases c with
        | cons c d => cases d; exact ⟨_, _, _, rfl, a, b, c⟩
  obtain rfl : u0 = .ref e := re
  obtain ⟨t1, he⟩ := exo_at e0.hok He
  have hlk1 : (([self, par, par2].zip [Value.ref e, u, u2]).reverse).lookup self = some (.ref e) := by
    show ([(par2, u2), (par, u), (self, Value.ref e)] : List (Str × Value)).lookup self = _
    rw [List.lookup_cons, beq_eq_false_iff_ne.mpr hsp2, List.lookup_cons, beq_eq_false_iff_ne.mpr hsp, List.lookup_cons, beq_self_eq_true]
  have hlk2 : (([self, par, par2].zip [Value.ref e, u, u2]).reverse).lookup par = some u := by
    show ([(par2, u2), (par, u), (self, Value.ref e)] : List (Str × Value)).lookup par = _
    rw [List.lookup_cons, beq_eq_false_iff_ne.mpr hsp3, List.lookup_cons, beq_self_eq_true]
  have hlk3 : (([self, par, par2].zip [Value.ref e, u, u2]).reverse).lookup par2 = some u2 := by
    show ([(par2, u2), (par, u), (self, Value.ref e)] : List (Str × Value)).lookup par2 = _
    rw [List.lookup_cons, beq_self_eq_true]
  refine es_head S e0.mod (fun b o z => (e0.bs b o z).1) hmg hr.depth he hbind hp (by rw [har]; exact hlk1) Z.cell (fun x m => ?_) Z.ks Z.kc (by rw [har]; exact Z.loc _ (by simp)) Z.k Z.co Z.gen (fun f cda cc A' s1 E' Q' _ hq => ?_) (fun _ _ _ => rfl) (hce _) fun f cda cc E' h1 tk t2 k1 ee ns => ?_
  · obtain ⟨a, b⟩ := x
    exact Z.loc a (List.of_mem_zip m).1
  · exact wpAny_Constant_str (hq _ _)
  · refine wpAny_execs_cons (plainObj_wpAny_Assign_Attribute (wpAny_Name (wpAny_loadName_local Z.k (Z.loc _ (by simp)) ns hlk2 ?_) d2) rfl)
    refine wpAny_Name (wpAny_loadName_local Z.k (Z.loc _ (by simp)) ns hlk1 ?_) d1
    obtain ⟨nm, qn, N, bs, bm, sn, sub, ab, col, dd, k0, k1', k2, k3, k5, hC, hbm⟩ := S.T.cls
    have hcl : clsIn K C = some { name := nm, bases := bs, mro := .ref C :: bm, ns := N, qualname := qn, hasDict := true, slotNames := sn, subclasses := sub, abstract := ab, collection := col, hasDel := false } := by unfold clsIn; rw [hC] <;> rfl
    have neB : ∀ b o, base.get? b = some o → b ≠ e := fun b o z y => by
      have := (e0.bs b o z).2
      rw [y, He] at this
      cases this
    have X1 : K.In h1 := e0.mod.kin.keeps fun b o z => k1 b o (neB b o z) (e0.bs b o z).1
    refine set_plain X1 (ox := HandSPX.excO C t2) (od := none) ⟨ee, rfl, rfl, trivial⟩ S.T.sa ?_
    refine HandSPX.exc_osa X1 ee hcl (show HandSPX.refsVE (.ref C :: bm) = true from hbm) rfl hno (fun h2 tk' dx k2 dn dne hx hn => ?_)
    have sz : s.heap.objs.size ≤ h1.objs.size := by
      obtain ⟨oL, es, ep, hL, r⟩ := ns
      exact Nat.le_of_lt (Heap.lt_size hL)
    have ns2 : h2.Ns s.heap.objs.size (fun x => (([self, par, par2].zip [Value.ref e, u, u2]).reverse).lookup x) := by
      obtain ⟨oL, es, ep, hL, r⟩ := ns
      have eL : s.heap.objs.size ≠ e := Nat.ne_of_gt (Heap.lt_size he)
      exact ⟨oL, es, ep, k2 _ _ eL hL, r⟩
    have rr : ∀ g, RelO (([(f1, y)] : List (Str × V)).lookup g) ((fun y => if y = f1 then some u else none) g) := relO_put (fs := []) ry fun g => True.intro
    have hw := within_of rr
    refine wpAny_execs_cons (plainObj_wpAny_Assign_Attribute (wpAny_Name (wpAny_loadName_local Z.k (Z.loc _ (by simp)) ns2 hlk3 ?_) d3) rfl)
    refine wpAny_Name (wpAny_loadName_local Z.k (Z.loc _ (by simp)) ns2 hlk1 ?_) d1
    have X2 : K.In h2 := e0.mod.kin.keeps fun b o z => k2 b o (neB b o z) (k1 b o (neB b o z) (e0.bs b o z).1)
    obtain ⟨oD, _, _, hoD, _, _⟩ := hn.count hw
    refine set_plain X2 (ox := { cls := .ref C, dict := some dx, data := .fields #[.ref t2, .none, .none, .none, .bool false, .none] }) (od := some oD) ⟨hx, rfl, rfl, hoD⟩ S.T.sa ?_
    refine PySem.OEX.osa_old X2 hx hn hw (by simp) hcl (show HandSPX.refsVE (.ref C :: bm) = true from hbm) rfl hno2 (fun h3 tk3 k3 hn3 => ?_)
    refine wpAny_execs_nil ?_
    have dxn : ∀ {b : Addr} {o : Obj}, s.heap.get? b = some o → b ≠ dx := fun {b o} q => Nat.ne_of_lt (Nat.lt_of_lt_of_le (Heap.lt_size q) (Nat.le_trans sz dn))
    exact es_fin (fs := [(f2, z), (f1, y)]) e0.hok e0.bare He (fun b o nb z => k3 b o (dxn z) (k2 b o nb (k1 b o nb z))) (Nat.le_trans sz dn) dne (k3 _ _ (Ne.symm dne) hx) hn3 (relO_put rz rr) fun hd => q dx hd dne
end
end Tk
set_option maxHeartbeats 4000000
namespace Tk
open PySem PySem.Spec L2 PyProof.Rows
structure ErC (P : Program) (w : World) (K : PySem.W.Frag) (mg : Str → Option Value) (base : Heap) (ca : Cn) (x : Str) (c : Nat) (sp : Addr → Sp) (n : Nat) : Prop where
  ex : ∃ (C fI : Addr) (fd : FuncData) (ps : List Str), OexC K C ∧ PySem.W.findIn K (.ref C) "__init__" = some (some (.ref fI)) ∧ PySem.W.typeIn K (.ref fI) = some (.type "function") ∧ FnOk P w K mg base (L2.CX P w) 1 fI fd ps (sp C) ∧ Binds K fd ps [] ∧ mg x = some (.ref C) ∧ ca.a c = some C ∧ ps.length = n + 1
abbrev Er1 (P : Program) (w : World) (K : PySem.W.Frag) (mg : Str → Option Value) (base : Heap) (ca : Cn) (x : Str) (c f1 : Nat) : Prop := ErC P w K mg base ca x c (fun C => spE1 C (ca.n f1)) 1
abbrev Er2 (P : Program) (w : World) (K : PySem.W.Frag) (mg : Str → Option Value) (base : Heap) (ca : Cn) (x : Str) (c f1 f2 : Nat) : Prop := ErC P w K mg base ca x c (fun C => spE2 C (ca.n f1) (ca.n f2)) 2
section
variable {X : Cx} {ca : Cn} {W : WX} {j c f1 f2 : Nat} {x : Str} {p pos pos' : Pos} {e e2 : Expr} {fa fb : Ev → R D}
end
end Tk
set_option maxHeartbeats 4000000
namespace Tk
open PySem PySem.Spec L2 PyProof.Rows
section
variable {K : PySem.W.Frag} {ca cb : Cn} {G H : Hp}
mutual
theorem At.cn (ea : ca.a = cb.a) (en : ca.n = cb.n) : ∀ {d : D} {v : V}, At K ca G d v → At K cb G d v
  | .non, v, h => h
  | .bl _, v, h => h
  | .int _, v, h => h
  | .str _, v, h => h
  | .ty _, v, h => h
  | .cl _, v, ⟨C, h, e⟩ => ⟨C, by rw [← ea]; exact h, e⟩
  | .scr ns, v, h => h
  | .lst xs, v, ⟨a, vs, e, h, r⟩ => ⟨a, vs, e, h, AtL.cn ea en r⟩
  | .tup xs, v, ⟨a, vs, e, h, r⟩ => ⟨a, vs, e, h, AtL.cn ea en r⟩
  | .tpz xs, v, ⟨a, o, vs, e, q, h, r⟩ => ⟨a, o, vs, e, q, h, AtL.cn ea en r⟩
  | .tp0, v, h => h
  | .dK xs, v, ⟨a, vs, e, h, r⟩ => ⟨a, vs, e, h, AtK.cn ea en r⟩
  | .dT xs, v, ⟨a, vs, e, h, r⟩ => ⟨a, vs, e, h, AtT.cn ea en r⟩
  | .zK xs, v, ⟨a, o, vs, e, h, r⟩ => ⟨a, o, vs, e, h, AtK.cn ea en r⟩
  | .zT xs, v, ⟨a, o, vs, e, h, r⟩ => ⟨a, o, vs, e, h, AtT.cn ea en r⟩
  | .ins c xs, v, ⟨a, C, dx, vs, e, q, h, r⟩ => ⟨a, C, dx, vs, e, by rw [← ea]; exact q, h, AtF.cn ea en r⟩
theorem AtL.cn (ea : ca.a = cb.a) (en : ca.n = cb.n) : ∀ {ds : List D} {vs : List V}, AtL K ca G ds vs → AtL K cb G ds vs
  | [], _, h => h
  | _ :: _, _, ⟨v, r, e, h, t⟩ => ⟨v, r, e, At.cn ea en h, AtL.cn ea en t⟩
theorem AtK.cn (ea : ca.a = cb.a) (en : ca.n = cb.n) : ∀ {ds : List (Key × D)} {vs : List (Key × V)}, AtK K ca G ds vs → AtK K cb G ds vs
  | [], _, h => h
  | (_, _) :: _, _, ⟨v, r, e, h, t⟩ => ⟨v, r, e, At.cn ea en h, AtK.cn ea en t⟩
theorem AtT.cn (ea : ca.a = cb.a) (en : ca.n = cb.n) : ∀ {ds : List (List Key × D)} {vs : List (List Key × V)}, AtT K ca G ds vs → AtT K cb G ds vs
  | [], _, h => h
  | (_, _) :: _, _, ⟨v, r, e, h, t⟩ => ⟨v, r, e, At.cn ea en h, AtT.cn ea en t⟩
theorem AtF.cn (ea : ca.a = cb.a) (en : ca.n = cb.n) : ∀ {ds : List (Nat × D)} {vs : List (Str × V)}, AtF K ca G ds vs → AtF K cb G ds vs
  | [], _, h => h
  | (k, _) :: _, _, ⟨v, r, e, h, t⟩ => ⟨v, r, by rw [← en]; exact e, At.cn ea en h, AtF.cn ea en t⟩
end
theorem ExAt.cn (ea : ca.a = cb.a) (en : ca.n = cb.n) {x : Ex} {c : Value} {dx : Option Addr} : ExAt K ca G x c dx → ExAt K cb G x c dx
  | ⟨C, h1, h2, h3⟩ => ⟨C, by rw [← ea]; exact h1, h2, h3.elim .inl fun ⟨d, vs, e1, e2, e3⟩ => .inr ⟨d, vs, e1, e2, AtF.cn ea en e3⟩⟩
theorem Own.cn (ea : ca.a = cb.a) (en : ca.n = cb.n) {a : Addr} {s : Sl} (h : Own K ca G H a s) : Own K cb G H a s := by
  cases s with
  | no => exact h
  | x _ => exact h
  | tr _ => exact h
  | v d => exact h
  | l xs => obtain ⟨vs, h1, h2⟩ := h; exact ⟨vs, h1, AtL.cn ea en h2⟩
  | k xs => obtain ⟨vs, h1, h2⟩ := h; exact ⟨vs, h1, AtK.cn ea en h2⟩
  | t xs => obtain ⟨vs, h1, h2⟩ := h; exact ⟨vs, h1, AtT.cn ea en h2⟩
  | o g c fs => obtain ⟨C, dx, vs, hg, h0, h1, h2⟩ := h; exact ⟨C, dx, vs, hg, by rw [← ea]; exact h0, h1, AtF.cn ea en h2⟩
end
section
variable {K : PySem.W.Frag} {ca : Cn} {B G H : Hp} {σ : L2.St} {ρ : Ev} {a : Addr} {cls : Value} {d : Option Addr}
end
abbrev Hnd := Value × Option Nat × (Addr → Value → Option Addr → TS)
section
variable {X : Cx} {body : List Stmt} {h₀ : ExceptHandler} {hds : List ExceptHandler} {l : List Hnd} {pos : Pos} {tb : WX → TS} {Wout : WX}
end
end Tk
set_option maxHeartbeats 4000000
namespace Tk
open PySem PySem.Spec L2 PyProof.Rows
abbrev Hn := List (Nat × Bool) × Option Nat × (Ev → SO)
section
variable {K : PySem.W.Frag} {ca : Cn} {B G : Hp} {a : Addr} {cls : Value} {d : Option Addr}
end
section
variable {X : Cx} {ca : Cn} {W : WX}
end
section
variable {X : Cx} {ca : Cn} {W : WX} {a : Addr} {oe : Obj} {cls : Value} {d : Option Addr} {pn : List (Addr × Obj)} {i f : Nat} {cs : List Nat} {y nm z : Str} {p1 p2 p pos : Pos} {c : Expr} {fb : Ev → R D} {tab : List (Nat × List (Kd × Bool))}
end
end Tk
set_option maxHeartbeats 4000000
namespace Tk
open PySem PySem.Spec L2 PyProof.Rows
def funEB (P : Program) (K : PySem.W.Frag) (C f : Addr) : Bool := match K.lookup f with
  | some ⟨_, _, .func fd, _⟩ => (match fd.code, fd.closure with
    | .ref cda, [(_, cc)] => PySem.W.codeIn K (.ref cda) fd.qualname && ((match K.lookup cda with
      | some ⟨_, _, .fields vs, _⟩ => (match (vs[2]? : Option Value) with
        | some (Value.str file _) => (P.main.file : Str) == file
        | _ => false)
      | _ => false) && (match K.lookup cc with
      | some ⟨_, _, .cell (some (.ref D)), _⟩ => D == C
      | _ => false))
    | _, _ => false)
  | _ => false
abbrev FnE : Type := Option (Str × Str × Arguments × FuncBody × Scope × Addr × List Str × Addr)
def fnE (K : PySem.W.Frag) (x : Str) : FnE := match K.lookup (He.fAd K (x, some "__init__")) with
  | some ⟨_, _, .func fd, _⟩ => some (fd.name, fd.qualname, fd.params, fd.body, fd.scope, fd.globals, fd.closure.map (·.1), fd.builtins)
  | _ => none
structure ErD where
  x : Str
  qual : Str
  st : Stmt
def ErD.val (d : ErD) : FnE := some ("__init__", d.qual, defArgs d.st, .stmts (defBody d.st), defScope d.st, mainGlobals, ["__class__"], builtinsNs)
structure ErrF (P : Program) (K : PySem.W.Frag) (x qual : Str) (st : Stmt) (fd : FuncData) : Prop where
  ef : EsF P K (He.ga K x) (He.fAd K (x, some "__init__")) fd qual (defArgs st) (defBody st) (defScope st)
  iC : PySem.W.findIn K (.ref (He.ga K x)) "__init__" = some (some (.ref (He.fAd K (x, some "__init__"))))
  tI : PySem.W.typeIn K (.ref (He.fAd K (x, some "__init__"))) = some (.type "function")
  xf : XfC K (He.ga K x)
  ec : ExcC K (He.ga K x)
abbrev AlX : Type := AlC × List FnE
structure SaysX (fa : List He.Fa) (fn : List He.DefD) (ex : PySem.W.Frag → Bool) (fw : List He5.DefA) (er : List ErD) (K : PySem.W.Frag) (mg : Str → Option Value) : Prop extends SaysC fa fn ex fw K mg where
  e : er.map (fun d => fnE K d.x) = er.map ErD.val
section
variable {fa : List He.Fa} {fn : List He.DefD} {ex : PySem.W.Frag → Bool} {fw : List He5.DefA} {er : List ErD} {K : PySem.W.Frag} {mg : Str → Option Value}
end
def esB (scope : Scope) (ps : List Str) : Bool := scope.names.all (fun y => !decide (y.2 = .cell)) && (ps.all (fun x => decide (scope.names.lookup x = some .local)) && (decide (scope.names.lookup ("super" : Str) = some .globalImplicit) && (decide (scope.names.lookup ("__class__" : Str) = some .free) && (decide (scope.kind = .function) && (!scope.isCoroutine && !scope.isGenerator)))))
theorem esB_ok {scope : Scope} {ps : List Str} (h : esB scope ps = true) : EsS scope ps := by
  unfold esB at h
  simp only [Bool.and_eq_true, Bool.not_eq_true', decide_eq_true_eq, List.all_eq_true, decide_eq_false_iff_not] at h
  obtain ⟨h1, h2, h3, h4, h5, h6, h7⟩ := h
  exact ⟨h1, h2, h3, h4, h5, h6, h7⟩
def CeOk (qual : Str) (scope : Scope) (p0 p1 p2 p4 : Pos) (arg : Expr) : Prop := ∀ (L f cda cc : Addr), ∃ pl : Sem Bool, eval (.Call (.Attribute (.Call (.Name "super" p0) [] [] p1) "__init__" p2) [arg] [] p4) (PySem.W.ksEnv qual scope L f (.ref cda) cc) = (do
      let ov ← attributeBase (.Call (.Name "super" p0) [] [] p1) "__init__" (PySem.W.ksEnv qual scope L f (.ref cda) cc) (eval (.Call (.Name "super" p0) [] [] p1) (PySem.W.ksEnv qual scope L f (.ref cda) cc))
      standAt p2.atName
      let (fn, first) ← holding [ov] (getMethod ov "__init__" pl)
      callWith p4 fn first (backTo p4 (starEach [arg] (PySem.W.ksEnv qual scope L f (.ref cda) cc))) [])
def dfl0B (K : PySem.W.Frag) (x : Str) : Bool := match K.lookup (He.fAd K (x, some "__init__")) with
  | some ⟨_, _, .func fd, _⟩ => fd.defaults == .none
  | _ => false
section
variable {P : Program} {w : World} {K : PySem.W.Frag} {mg : Str → Option Value} {base : Heap} {ca : Cn} {x qual self par par2 n1 n2 text : Str} {st : Stmt} {fd : FuncData} {c f1 f2 : Nat} {p0 p1 p2 p3 p4 p5 p6 p7 p8 p9 p10 p11 p12 p13 : Pos} {j : Nat} {ar : Arg}
theorem ErrF.er1 (F : ErrF P K x qual st fd) (hmg : mg "super" = none) (hm : mg x = some (.ref (He.ga K x))) (hc : ca.a c = some (He.ga K x)) (hn : ca.n f1 = n1) (hno : He.eqO (PySem.W.findIn K (.ref (He.ga K x)) n1) (some none) = true)
    (hce : CeOk qual (defScope st) p0 p1 p2 p4 (.Constant (.str text) j p3))
    (hd0 : dfl0B K x = true) (hbi : ∀ (kV doc pm : Value) (an : Option Addr) (cdv ct : Value) (cc : Addr) (us : List Value), us.length = 2 → bindArgs (PySem.W.ksFn "__init__" qual (defArgs st) (defBody st) (defScope st) .none kV doc pm an cdv ct cc) ⟨us, []⟩ = pure ([self, par].zip us))
    (hb : defBody st = [.Expr (.Call (.Attribute (.Call (.Name "super" p0) [] [] p1) "__init__" p2) [.Constant (.str text) j p3] [] p4) p5, .Assign [.Attribute (.Name self p6) n1 p7] (.Name par p8) p9] := by rfl)
    (hs : esB (defScope st) [self, par] = true := by rfl) (hp : ((defArgs st).posonlyargs ++ (defArgs st).args).head? = some ar := by rfl) (har : ar.arg = self := by rfl) (d0 : self ≠ par := by decide) (d1 : (self == ("__debug__" : Str)) = false := by decide) (d2 : (par == ("__debug__" : Str)) = false := by decide) : Er1 P w K mg base ca x c f1 := by
  have S := F.ef
  obtain ⟨oc, od, dV, kV, doc, pm, an, cda, ct, cc, osl, vs, file, tf, ccl, cdd, ccs, cl, cld, csl, hfd, lk, _⟩ := S.fn
  unfold dfl0B at hd0
  rw [lk, hfd] at hd0
  have hd0 : (dV == .none) = true := hd0
  have hd0 := eq_of_beq hd0
  subst hd0
  have hbi' := hbi kV doc pm an (.ref cda) ct cc
  rw [← hfd] at hbi'
  rw [hb] at S
  refine ⟨_, _, fd, [self, par], S.T, F.iC, F.tI, ?_, Binds.all hbi', hm, hc, rfl⟩
  rw [hn]
  exact es_fn1 S hmg (esB_ok hs) (He.eqO_ok hno) hp har d0 d1 d2 hce
theorem ErrF.er2 (F : ErrF P K x qual st fd) (hmg : mg "super" = none) (hm : mg x = some (.ref (He.ga K x))) (hc : ca.a c = some (He.ga K x)) (hn : ca.n f1 = n1) (hn2 : ca.n f2 = n2) (hno : He.eqO (PySem.W.findIn K (.ref (He.ga K x)) n1) (some none) = true) (hno2 : He.eqO (PySem.W.findIn K (.ref (He.ga K x)) n2) (some none) = true)
    (hce : CeOk qual (defScope st) p0 p1 p2 p4 (.Constant (.str text) j p3))
    (hd0 : dfl0B K x = true) (hbi : ∀ (kV doc pm : Value) (an : Option Addr) (cdv ct : Value) (cc : Addr) (us : List Value), us.length = 3 → bindArgs (PySem.W.ksFn "__init__" qual (defArgs st) (defBody st) (defScope st) .none kV doc pm an cdv ct cc) ⟨us, []⟩ = pure ([self, par, par2].zip us))
    (hb : defBody st = [.Expr (.Call (.Attribute (.Call (.Name "super" p0) [] [] p1) "__init__" p2) [.Constant (.str text) j p3] [] p4) p5, .Assign [.Attribute (.Name self p6) n1 p7] (.Name par p8) p9, .Assign [.Attribute (.Name self p10) n2 p11] (.Name par2 p12) p13] := by rfl)
    (hs : esB (defScope st) [self, par, par2] = true := by rfl) (hp : ((defArgs st).posonlyargs ++ (defArgs st).args).head? = some ar := by rfl) (har : ar.arg = self := by rfl) (d0 : self ≠ par := by decide) (d01 : self ≠ par2 := by decide) (d02 : par ≠ par2 := by decide) (d1 : (self == ("__debug__" : Str)) = false := by decide) (d2 : (par == ("__debug__" : Str)) = false := by decide) (d3 : (par2 == ("__debug__" : Str)) = false := by decide) : Er2 P w K mg base ca x c f1 f2 := by
  have S := F.ef
  obtain ⟨oc, od, dV, kV, doc, pm, an, cda, ct, cc, osl, vs, file, tf, ccl, cdd, ccs, cl, cld, csl, hfd, lk, _⟩ := S.fn
  unfold dfl0B at hd0
  rw [lk, hfd] at hd0
  have hd0 : (dV == .none) = true := hd0
  have hd0 := eq_of_beq hd0
  subst hd0
  have hbi' := hbi kV doc pm an (.ref cda) ct cc
  rw [← hfd] at hbi'
  rw [hb] at S
  refine ⟨_, _, fd, [self, par, par2], S.T, F.iC, F.tI, ?_, Binds.all hbi', hm, hc, rfl⟩
  rw [hn, hn2]
  exact es_fn2 S hmg (esB_ok hs) (He.eqO_ok hno) (He.eqO_ok hno2) hp har d0 d01 d02 d1 d2 d3 hce
end
end Tk
set_option maxHeartbeats 4000000
namespace Tk
open PySem PySem.Spec L2 PyProof.Rows
def isxB (K : PySem.W.Frag) (cls : List Str) (tab : List (Nat × List (Kd × Bool))) : Bool := tab.all fun q => match cls[q.1]? with
  | some x => q.2.all fun p => (match p.1 with
    | .ty n => decide (PySem.W.kitOne K (.ref (He.ga K x)) (.type n) = some p.2)
    | .cl c => (match cls[c]? with
      | some y => decide (PySem.W.kitOne K (.ref (He.ga K x)) (.ref (He.ga K y)) = some p.2)
      | none => false))
  | none => false
end Tk
set_option maxHeartbeats 4000000
namespace Tk
open PySem PySem.W PySem.Calls PyProof.Rows PySem.Spec L2 NdefX
structure SuF (P : Program) (K : Frag) (D fI : Addr) (F : NF) (fd : FuncData) (cc : Addr) : Prop where
  fd_ : ∃ (dV kV doc pm : Value) (an : Option Addr) (ct : Value), fd = ksFn F.name F.qual F.params F.body F.scope dV kV doc pm an (.ref F.c) ct cc
  lk : ∃ (oc : Value) (od : Option Addr) (osl : Array (Option Value)), K.lookup fI = some ⟨oc, od, .func fd, osl⟩
  hcd : codeIn K (.ref F.c) F.qual = true
  lc : ∃ (vs : Array Value) (file : Str) (tf : Tok) (ccl : Value) (cdd : Option Addr) (ccs : Array (Option Value)), K.lookup F.c = some ⟨ccl, cdd, .fields vs, ccs⟩ ∧ vs[2]? = some (.str file tf) ∧ ((P.main.file : Str) == file) = true
  cl : F.cl = [(("__class__" : Str), cc)]
  cell : ∃ (a : Value) (b : Option Addr) (c : Array (Option Value)), K.lookup cc = some ⟨a, b, .cell (some (.ref D)), c⟩
  clD : ∃ (oD : Obj) (cdD : ClassData), K.lookup D = some oD ∧ oD.data = .cls cdD
  opq : nsIn K cStatics "thirdparty.any" = some none
  top : (P.main.scope.names.lookup ("super" : Str)).isSome = false
structure SuS (sc : Scope) (slf : Str) : Prop where
  ks : sc.names.lookup ("super" : Str) = some .globalImplicit
  kc : sc.names.lookup ("__class__" : Str) = some .free
  ka : sc.names.lookup slf = some .local
  k : sc.kind = .function
theorem su_methodCallK {M : Model} {A : Around} {c : Code} {E : Value → Shared → Prop} {s : Shared} {env : Env} {o : Expr} {name : Str} {apos pos : Pos} {args : List Expr} {kws : List Keyword} {pl : Sem Bool} {Q : Value → Shared → Prop}
    (h : _root_.PySem.wpAt M A c (attributeBase o name env (eval o env)) (fun ov s1 => wpAny M A (getMethod ov name pl) (fun fx s2 => wpAny M A (callWith pos fx.1 fx.2 (backTo pos (starEach args env)) (backToKw pos (keywordEach kws env))) Q E s2) E s1) E s)
    (he : eval (.Call (.Attribute o name apos) args kws pos) env = (do
      let ov ← attributeBase o name env (eval o env)
      standAt apos.atName
      let (f, first) ← holding [ov] (getMethod ov name pl)
      callWith pos f first (backTo pos (starEach args env)) (backToKw pos (keywordEach kws env)))) :
    _root_.PySem.wpAt M A c (eval (.Call (.Attribute o name apos) args kws pos) env) Q E s := by
  rw [he]
  apply _root_.PySem.wpAt_bind
  refine ks_wpAt_mono h (fun ov s1 h1 => ?_) fun _ _ z => z
  apply _root_.PySem.wpAt_of_wpAny
  exact wpAny_bind (wpAny_standAt (wpAny_bind (wpAny_holding (wpAny_mono h1 (fun fx s2 h2 => h2) fun _ _ z => z))))
section
variable {P : Program} {w : World} {K : Frag} {mg : Str → Option Value} {base : Heap} {D fI cc : Addr} {F : NF} {fd : FuncData} {N : List Str} {A : Around} {outer : List Env} {s0 : Shared} {H0 : Hp} {E0 : XK}
theorem pin_one {X : Cx} {σ : L2.St} {H : Hp} {s : Shared} {b : Addr} {o : Obj} (I : Inv X [] σ H s) (hf : FpOk X [] H b) (e : s.heap.get? b = some o) (n : ∀ v, o.data ≠ .cell v) : Inv X [(b, o)] σ H s := by
  have I2 := I.pinned (fp := [b]) (fun c m => by rw [List.mem_singleton.mp m]; exact hf) (fun c m => by rw [List.mem_singleton.mp m]; exact ⟨o, e, n⟩)
  have q : pinsAt [b] s.heap = [(b, o)] := by
    unfold pinsAt
    simp [e]
  rw [q] at I2
  exact I2
theorem su_ask {σ : L2.St} {H : Hp} {s : Shared} {self m : Str} {x C dx fB : Addr} {fs : List (Str × V)} {ar : Arg} {p0 p1 p2 p4 : Pos} {es : List Expr} {kws : List Keyword} {pl : Sem Bool} {Q : Value → Shared → Prop} {E : Value → Shared → Prop}
    (S : SuF P K D fI F fd cc) (Z : SuS F.scope self) (hmg : mg "super" = none) (hp : (F.params.posonlyargs ++ F.params.args).head? = some ar) (har : ar.arg = self)
    (I : Inv (ncx (L2.CX P w) P w K mg base N F fI A outer s0 H0 E0) [] σ H s) (hN : N[0]? = some self) (hσ : σ[0]? = some (some (.ref x))) (hx : H x = some (.ins C dx fs))
    (sub : mroIn K C (.ref D) = some true) (sup : ks_superIn K C D m = some (some (.ref fB))) (tB : typeIn K (.ref fB) = some (.type "function")) (hm1 : (m == ("__class__" : Str)) = false)
    (he : eval (.Call (.Attribute (.Call (.Name "super" p0) [] [] p1) m p2) es kws p4) (envF F fI s0.heap.objs.size) = (do
      let ov ← attributeBase (.Call (.Name "super" p0) [] [] p1) m (envF F fI s0.heap.objs.size) (eval (.Call (.Name "super" p0) [] [] p1) (envF F fI s0.heap.objs.size))
      standAt p2.atName
      let (fn, first) ← holding [ov] (getMethod ov m pl)
      callWith p4 fn first (backTo p4 (starEach es (envF F fI s0.heap.objs.size))) (backToKw p4 (keywordEach kws (envF F fI s0.heap.objs.size)))))
    (h : ∀ mA s', Inv (ncx (L2.CX P w) P w K mg base N F fI A outer s0 H0 E0) [(mA, methodObj (.ref fB) (.ref x))] σ H s' → wpAny (model P w) (A.deeper (envF F fI s0.heap.objs.size)) (callWith p4 (.ref mA) [] (backTo p4 (starEach es (envF F fI s0.heap.objs.size))) (backToKw p4 (keywordEach kws (envF F fI s0.heap.objs.size)))) Q E s') :
    _root_.PySem.wpAt (model P w) (A.deeper (envF F fI s0.heap.objs.size)) (.func F.body (envF F fI s0.heap.objs.size)) (eval (.Call (.Attribute (.Call (.Name "super" p0) [] [] p1) m p2) es kws p4) (envF F fI s0.heap.objs.size)) Q E s := by
  have ee : envF F fI s0.heap.objs.size = ksEnv F.qual F.scope s0.heap.objs.size fI (.ref F.c) cc := by
    show PySem.W.envX F.qual F.scope s0.heap.objs.size fI (.ref F.c) F.cl = _
    rw [S.cl]
  have kb : ∀ b o, base.get? b = some o → s.heap.get? b = some o := I.bk
  have X1 : K.In s.heap := I.kIn
  obtain ⟨dV, kV, doc, pm, an, ct, rfl⟩ := S.fd_
  obtain ⟨oc, od, osl, lk⟩ := S.lk
  obtain ⟨vs, file, tf, ccl, cdd, ccs, lc, hvs, hfile⟩ := S.lc
  obtain ⟨c1, c2, c3, lcc⟩ := S.cell
  obtain ⟨oD, cdD, lD, hDd⟩ := S.clD
  obtain ⟨mA, Jm, _⟩ := ins_get I.hok hx
  obtain ⟨oI, J, hJ⟩ := Jm.look
  obtain ⟨ox, hox, hoc, hnc⟩ : ∃ ox, s.heap.get? x = some ox ∧ ox.cls = .ref C ∧ ∀ c, ox.data ≠ .cls c := by
    obtain ⟨e1, e2, e3, e4⟩ := J
    exact ⟨_, e1, e2, fun c z => nomatch z⟩
  obtain ⟨ml, hns, hloc⟩ := I.loc
  have hv : ml self = some (.ref x) := by
    obtain ⟨u, ru, lk⟩ := hloc 0 self (.ref x) hN hσ (.inl Z.ka)
    cases ru
    rcases lk with ⟨_, q⟩ | ⟨q, _⟩
    · exact q
    · exfalso
      have q : F.scope.names.lookup self = some .cell ∨ F.scope.names.lookup self = some .free := q
      rw [Z.ka] at q
      rcases q with q | q <;> cases q
  obtain ⟨mb, hB, hmb⟩ := I.mod.blt
  have cell0 : s.heap.IsCell cc (some (.ref D)) := ⟨_, X1 _ _ lcc, rfl⟩
  refine su_methodCallK (pl := pl) ?_ he
  rw [ee]
  obtain ⟨hh, g, d, t, os⟩ := s
  refine es_node (X1 _ _ lk) rfl hp hns (by rw [har]; exact hv) hox hoc hnc (X1 _ _ lc) rfl hvs hfile cell0 (X1 _ _ lD) hDd (looks_mroIn X1 sub) (I.mod.glob.keeps kb) hmg (hB.keeps kb) ((hmb _ (by decide)).trans PyProof.Rows.Boot.«super») hm1 Z.ks Z.kc (by rw [har]; exact Z.ka) Z.k S.top fun h2 hso k2 => ?_
  have X2 : K.In h2 := X1.keeps k2
  cases hcl : clsIn K C with
  | none => unfold ks_superIn at sup; rw [hcl] at sup; cases sup
  | some cdC =>
    unfold ks_superIn at sup
    rw [hcl] at sup
    obtain ⟨of, hof, hofc⟩ : ∃ of, K.lookup fB = some of ∧ of.cls = .type "function" := by
      have ht' : (K.lookup fB).map (·.cls) = some (.type "function") := tB
      cases z : K.lookup fB with
      | none => rw [z] at ht'; cases ht'
      | some of => rw [z] at ht'; exact ⟨of, rfl, Option.some.inj ht'⟩
    refine ks_wpAny_getMethod_super hso (looks_opaque X2 S.opq) (l₀ := cdC.mro) (fun A Q E s k q => wpAny_bind ((looks_clsIn X2 hcl) A _ E s k (wpAny_pure q))) rfl X2 sup (X2 _ _ hof) hofc (ks_ne X1 J hcl) hm1 ?_
    rw [← ee]
    have kp : ∀ b o, hh.get? b = some o → (h2.push (methodObj (.ref fB) (.ref x))).get? b = some o := fun b o e => Heap.get?_push_of_some _ (k2 b o e)
    have I2 := I.kept (t' := t + 1) kp
    have lay : (h2.push (methodObj (.ref fB) (.ref x))).get? h2.objs.size = some (methodObj (.ref fB) (.ref x)) := Heap.get?_push_at rfl rfl
    have big : hh.objs.size ≤ h2.objs.size := Nat.le_of_lt (Nat.lt_of_le_of_lt (Nat.le_refl _) (Heap.lt_size hso))
    exact h h2.objs.size _ (pin_one I2 (I.fpOk (H' := H) big (I.hok.fresh big)) lay fun v z => nomatch z)
end
end Tk
set_option maxHeartbeats 4000000
namespace Tk
open PySem PySem.W PySem.Calls PyProof.Rows PySem.Spec L2 NdefX
section
variable {P : Program} {w : World} {K : Frag} {mg : Str → Option Value} {base : Heap} {D fI cc : Addr} {F : NF} {fd : FuncData} {N : List Str} {A : Around} {outer : List Env} {s0 : Shared} {H0 : Hp} {E0 : XK}
theorem su_call {W : WX} {σ : L2.St} {H : Hp} {s : Shared} {self m : Str} {x C dx fB : Addr} {fs : List (Str × V)} {ar : Arg} {p0 p1 p2 p4 : Pos} {e : Expr} {es : List Expr} {kws : List Keyword} {pl : Sem Bool} {Q : VK} {t u : TA} {k n : Nat} {fdB : FuncData} {psB ks : List Str} {sp : Sp} {g : List Value → List Value → List Value} {gV : List V → List V → List V}
    (S : SuF P K D fI F fd cc) (Z : SuS F.scope self) (hmg : mg "super" = none) (hp : (F.params.posonlyargs ++ F.params.args).head? = some ar) (har : ar.arg = self)
    (I : Inv (ncx (L2.CX P w) P w K mg base N F fI A outer s0 H0 E0) [] σ H s) (hN : N[0]? = some self) (hσ : σ[0]? = some (some (.ref x))) (hx : H x = some (.ins C dx fs))
    (sub : mroIn K C (.ref D) = some true) (sup : ks_superIn K C D m = some (some (.ref fB))) (tB : typeIn K (.ref fB) = some (.type "function")) (hm1 : (m == ("__class__" : Str)) = false) (hf : fnIn K fB = true)
    (hev : eval (.Call (.Attribute (.Call (.Name "super" p0) [] [] p1) m p2) (e :: es) kws p4) (envF F fI s0.heap.objs.size) = (do
      let ov ← attributeBase (.Call (.Name "super" p0) [] [] p1) m (envF F fI s0.heap.objs.size) (eval (.Call (.Name "super" p0) [] [] p1) (envF F fI s0.heap.objs.size))
      standAt p2.atName
      let (fn, first) ← holding [ov] (getMethod ov m pl)
      callWith p4 fn first (backTo p4 (starEach (e :: es) (envF F fI s0.heap.objs.size))) (backToKw p4 (keywordEach kws (envF F fI s0.heap.objs.size)))))
    (FB : FnOk P w K mg base (L2.CX P w) k fB fdB psB sp) (hr : Room k (A.deeper (envF F fI s0.heap.objs.size))) (hb : KBn K fdB psB (n + 1) ks g gV) (tk : Takes (ncx (L2.CX P w) P w K mg base N F fI A outer s0 H0 E0) W)
    (pa : PA (ncx (L2.CX P w) P w K mg base N F fI A outer s0 H0 E0) (e :: es) t) (pk : PK (ncx (L2.CX P w) P w K mg base N F fI A outer s0 H0 E0) kws u)
    (hall : (backToKw p4 (keywordEach kws (envF F fI s0.heap.objs.size))).all (·.1.isSome) = true) (hks : (backToKw p4 (keywordEach kws (envF F fI s0.heap.objs.size))).filterMap (·.1) = ks)
    (he : starEach (e :: es) (envF F fI s0.heap.objs.size) = (false, eval e (envF F fI s0.heap.objs.size)) :: starEach es (envF F fI s0.heap.objs.size))
    (hpl : ((backTo p4 (starEach (e :: es) (envF F fI s0.heap.objs.size))).any (·.1) || (backToKw p4 (keywordEach kws (envF F fI s0.heap.objs.size))).any (·.1.isNone)) = false)
    (q : t σ H fun vs H1 => u σ H1 fun zs H2 => vs.length = n ∧ zs.length = ks.length ∧ sp (gV (.ref x :: vs) zs) H2 Q (WE W σ)) :
    _root_.PySem.wpAt (model P w) (A.deeper (envF F fI s0.heap.objs.size)) (.func F.body (envF F fI s0.heap.objs.size)) (eval (.Call (.Attribute (.Call (.Name "super" p0) [] [] p1) m p2) (e :: es) kws p4) (envF F fI s0.heap.objs.size)) (EP (ncx (L2.CX P w) P w K mg base N F fI A outer s0 H0 E0) [] σ Q) (ncx (L2.CX P w) P w K mg base N F fI A outer s0 H0 E0).xe s := by
  refine su_ask S Z hmg hp har I hN hσ hx sub sup tB hm1 hev fun mA s' J => ?_
  refine callWith_of (P := MethP K mA fB (.ref x)) hpl (keeps_M hf) (evalArgs_kw2 hall (thn (pa.run p4 _ s' σ H _ J q) fun us s1 ⟨vs, H1, I1, r1, q1⟩ => ?_) he)
  refine thn (pk.run p4 _ s1 σ H1 _ I1 q1) fun ws s2 ⟨zs, H2, I2, r2, l1, l2, q2⟩ => ?_
  have pm := (I2.pin (mA, methodObj (.ref fB) (.ref x)) (List.mem_append_right _ (List.mem_singleton.mpr rfl))).1
  have I3 : Inv (ncx (L2.CX P w) P w K mg base N F fI A outer s0 H0 E0) [] σ H2 s2 := Inv.unpinned (pins := []) (pl := [(mA, methodObj (.ref fB) (.ref x))]) I2
  refine ⟨⟨pm, I2.kIn⟩, ?_⟩
  rw [hks]
  have r3 := hb.rel (.cons (show RelV (.ref x) (.ref x) from rfl) r1) r2
  have e1 : (Value.ref x :: us).length = n + 1 := (congrArg Nat.succ (r1.length.symm.trans l1))
  have e2 : ws.length = ks.length := r2.length.symm.trans l2
  refine wpAny_call (ks_codeAny_call_bound pm (codeAny_mono (FB.run _ _ _ _ ⟨Value.ref x :: us, ks.zip ws⟩ (g (Value.ref x :: us) ws) _ Q (WE W σ) hr I3.env0 (hb.to _ (Value.ref x :: us) ws I3.kIn e1 e2) r3 q2) fun r s3 hq => ?_))
  cases r with
  | error e => exact passAt tk σ [] _ _ e s3 I3 hq
  | ok fl =>
    cases fl with
    | ret u => exact I3.after hq
    | next => exact False.elim hq
    | brk => exact False.elim hq
    | cont => exact False.elim hq
end
end Tk
set_option maxHeartbeats 4000000
namespace Tk
open PySem PySem.W PySem.Calls PyProof.Rows PySem.Spec L2 NdefX
def supK (c n m p : Nat) (F : Addr → List D → R (List (Nat × D))) (gD : List D → List D → List D) (ρ : Ev) (ds zs : List D) : SO :=
  match (ρ[(0 : Nat)]? : Option Sl) with
  | some (.o (some a) c' []) => if c' = c ∧ ds.length = n ∧ zs.length = m ∧ (gD ds zs).length + 1 = p then (match F a (gD ds zs) with | .ok fs => .nx (ρ.set 0 (.o (some a) c fs)) | .exc x => .ex x (ρ.set 0 .no) | .bad => .bad) else .bad
  | _ => .bad
def sSup (c n m p : Nat) (F : Addr → List D → R (List (Nat × D))) (gD : List D → List D → List D) (fa fk : Ev → R (List D)) : Ev → SO := fun ρ => SO.from ρ (fa ρ) fun ds => SO.from ρ (fk ρ) fun zs => supK c n m p F gD ρ ds zs
def runS (c cD n : Nat) (g0 g : Ev → SO) : Addr → List D → R (List (Nat × D)) := fun a ds => (sSq g0 g (startI a c n (ds ++ [.cl cD]))).outI a c
def woH (H : Hp) (a : Addr) : Hp := fun b => if b = a then none else H b
theorem woH_at (H : Hp) (a : Addr) : woH H a a = none := if_pos rfl
theorem woH_ne {H : Hp} {a b : Addr} (h : b ≠ a) : woH H a b = H b := if_neg h
section
variable {K : PySem.W.Frag} {ca : Cn} {B G H : Hp} {σ : L2.St} {ρ : Ev}
theorem Rel.gone (r : Rel K ca B G H σ ρ) (i : Nat) : Rel K ca B G H σ (ρ.set i .no) where
  len := by rw [List.length_set]; exact r.len
  val := fun j d e => by
    rcases getElem?_set' e with ⟨rfl, z⟩ | ⟨ne, q⟩
    · cases z
    · exact r.val j d q
  own := fun j s e o => by
    rcases getElem?_set' e with ⟨rfl, z⟩ | ⟨ne, q⟩
    · rw [z] at o; cases o
    · exact r.own j s q o
  sep := fun j k s t a e o e2 o2 => by
    rcases getElem?_set' e with ⟨rfl, z⟩ | ⟨ne, q⟩
    · rw [z] at o; cases o
    · rcases getElem?_set' e2 with ⟨rfl, z⟩ | ⟨ne2, q2⟩
      · rw [z] at o2; cases o2
      · exact r.sep j k s t a q o q2 o2
  exc := fun j x e => by
    rcases getElem?_set' e with ⟨rfl, z⟩ | ⟨ne, q⟩
    · cases z
    · exact r.exc j x q
  nst := by
    obtain ⟨FP, n⟩ := r.nst
    refine ⟨FP, n.step (fun j t q => ?_) (.refl _) fun b o hb nt gb bb ow => ⟨rfl, gb, fun j s' q os => ?_⟩⟩
    · rcases getElem?_set' q with ⟨rfl, z⟩ | ⟨ne, q⟩
      · cases z
      · exact ⟨q, rfl⟩
    · rcases getElem?_set' q with ⟨rfl, z⟩ | ⟨ne, q⟩
      · rw [z] at os; cases os
      · exact ow j s' q os
theorem Rel.goneW (r : Rel K ca B G H σ ρ) (i : Nat) {s : Sl} {a : Addr} (q : ρ[i]? = some s) (o : s.own = true) (ha : σ[i]? = some (some (.ref a))) : Rel K ca B G (Tk.woH H a) σ (ρ.set i .no) := by
  have r1 := r.gone i
  have hn : ∀ (j : Nat) (t : Sl), (ρ.set i .no)[j]? = some t → t.own = true → σ[j]? ≠ some (some (.ref a)) := fun j t w o' y => by
    rcases getElem?_set' w with ⟨rfl, z⟩ | ⟨ne, w⟩
    · rw [z] at o'; cases o'
    · exact ne (r.sep j i t s a w o' q o y ha)
  refine ⟨r1.len, r1.val, fun j t h ho => ?_, r1.sep, r1.exc, ?_⟩
  · obtain ⟨b, h1, h2, h3, h4⟩ := r1.own j t h ho
    exact ⟨b, h1, h2.ext (.refl _) (woH_ne fun z => hn j t h ho (by rw [← z]; exact h1)), h3, h4⟩
  · obtain ⟨FP, n⟩ := r.nst
    refine ⟨FP, n.step (fun j t w => ?_) (.refl _) fun b o' hb nt gb bb ow => ⟨woH_ne fun z => ow i s q o (by rw [z]; exact ha), gb, fun j t w os => ?_⟩⟩
    · rcases getElem?_set' w with ⟨rfl, z⟩ | ⟨ne, w⟩
      · cases z
      · exact ⟨w, rfl⟩
    · rcases getElem?_set' w with ⟨rfl, z⟩ | ⟨ne, w⟩
      · rw [z] at os; cases os
      · exact ow j t w os
end
section
variable {X : Cx} {ca : Cn} {W : WX} {c n m p : Nat} {F : Addr → List D → R (List (Nat × D))} {gD : List D → List D → List D} {fa fk : Ev → R (List D)}
theorem sup_wish {t u : TA} {gV : List V → List V → List V} {x : Addr} {D0 : Ends} {B G H : Hp} {σ : L2.St} {ρ : Ev}
    (kt : ∀ B G H σ ρ Q, Same G H → Same B H → Rel X.K ca B G H σ ρ → Wish X.K ca (SL X.K ca Q) G H (fa ρ) (WE W σ) → t σ H Q) (ku : ∀ B G H σ ρ Q, Same G H → Same B H → Rel X.K ca B G H σ ρ → Wish X.K ca (SL X.K ca Q) G H (fk ρ) (WE W σ) → u σ H Q)
    (hg : ∀ x vs zs, ∃ us, gV (x :: vs) zs = x :: us ∧ ∀ G ds ws, AtL X.K ca G ds vs → AtL X.K ca G ws zs → AtL X.K ca G (gD ds ws) us) (s : Same G H) (b : Same B H) (r : Rel X.K ca B G H σ ρ) (hx : σ[0]? = some (some (.ref x)))
    (h : WishS X.K ca B G (sSup c n m p F gD fa fk ρ) D0 W) : t σ H fun vs H1 => u σ H1 fun zs H2 => vs.length = n ∧ zs.length = m ∧ spI X.K ca c p F (gV (.ref x :: vs) zs) H2 (fun _ H3 => D0.nx σ H3) (WE W σ) := by
  refine kt B G H σ ρ _ s b r (WishS.from h b r fun ds G1 H1 _ x1 w1 r1 b1 vs a1 => ?_)
  refine ku B G1 H1 σ ρ _ x1.gh b1 r1 (WishS.from w1 b1 r1 fun zs G2 H2 _ x2 w2 r2 b2 ws a2 => ?_)
  have a1 := AtL.mono x2.gg a1
  unfold supK at w2
  split at w2
  · rename_i a c' z
    have w2 : WishS X.K ca B G2 (if c' = c ∧ ds.length = n ∧ zs.length = m ∧ (gD ds zs).length + 1 = p then (match F a (gD ds zs) with | .ok fs => .nx (ρ.set 0 (.o (some a) c fs)) | .exc x => .ex x (ρ.set 0 .no) | .bad => .bad) else .bad) D0 W := w2
    split at w2
    · rename_i hl
      obtain ⟨rfl, l1, l2, l3⟩ := hl
      obtain ⟨a', h1, ⟨C, dx, vs0, hga, hc, ha, hv⟩, ga, ba⟩ := r2.own 0 _ z rfl
      obtain rfl := hga a rfl
      obtain rfl : vs0 = [] := hv
      rw [hx] at h1
      obtain rfl : x = a' := by cases h1; rfl
      obtain ⟨us, e, au⟩ := hg (.ref x) vs ws
      have at_ := au G2 ds zs a1 a2
      have l4 := at_.length
      have rB : Rel X.K ca B G2 (Tk.woH H2 x) σ (ρ.set 0 .no) := r2.goneW 0 z rfl hx
      have sb : Same B (Tk.woH H2 x) := fun b' o q => by
        by_cases y : b' = x
        · rw [y, ba] at q; cases q
        · rw [woH_ne y]; exact b2 _ _ q
      have sg : Same G2 (Tk.woH H2 x) := fun b' o q => by
        by_cases y : b' = x
        · rw [y, ga] at q; cases q
        · rw [woH_ne y]; exact x2.gh _ _ q
      have sh : Same (Tk.woH H2 x) H2 := fun b' o q => by
        by_cases y : b' = x
        · rw [y, woH_at] at q; cases q
        · rwa [woH_ne y] at q
      have adv : ∀ {G' H' : Hp}, Ext G2 (Tk.woH H2 x) G' H' → Adv B G2 G' H' := fun y => ⟨y.gg, y.gh, sb.trans y.hh, fun a n => (y.nw a n).elim .inl fun z => .inr (z.up sb)⟩
      refine ⟨by rw [← a1.length]; exact l1, by rw [← a2.length]; exact l2, ?_⟩
      rw [e]
      refine ⟨by rw [List.length_cons, ← l4]; exact l3, Tk.woH H2 x, G2, gD ds zs, x, C, dx, us, rfl, hc, ha, woH_at _ _, sh, sg, at_, ?_⟩
      cases q : F x (gD ds zs) with
      | bad => rw [q] at w2; exact w2.elim
      | exc y =>
        rw [q] at w2
        exact fun G' H' c0 dx0 e0 ee => w2 σ G' H' c0 dx0 (adv e0) (rB.ext e0) ee
      | ok fs =>
        rw [q] at w2
        intro G' H' e0 oa ga'
        refine w2 σ G' H' (adv e0) ?_
        have r3 := rB.setOwn e0 0 (s := .o (some x) c' fs) (woH_at _ _) rfl oa ga' ba
        rw [List.set_set] at r3
        have es : σ.set 0 (some (.ref x)) = σ := by
          cases σ with
          | nil => rfl
          | cons y σ => cases hx; rfl
        rw [es] at r3
        exact r3
    · exact w2.elim
  · exact False.elim w2
end
end Tk
set_option maxHeartbeats 4000000
namespace Tk
open PySem PySem.W PySem.Calls PyProof.Rows PySem.Spec L2 NdefX
theorem wish_outI {K : Frag} {ca : Cn} {B G : Hp} {c : Nat} {a : Addr} {Q : VK} {E : XK} {so : SO} (q : Wish K ca (SI K ca c a Q) G B (so.outI a c) E) : WishS K ca B G so { nx := fun _ H' => Q .non H', rt := Q } (fun c d _ H' => E c d H') := by
  have up : ∀ {G' H' : Hp}, Adv B G G' H' → Ext G B G' H' := fun x => ⟨x.bh, x.gg, x.gh, x.nw⟩
  cases so with
  | nx ρ =>
    intro σ' G' H' x r
    cases ρ with
    | nil => exact q.elim
    | cons s0 ρ =>
      cases s0 with
      | o g0 c' fs =>
        have q2 : Wish K ca (SI K ca c a Q) G B (if g0 = some a ∧ c' = c then .ok fs else .bad) E := q
        split at q2
        · rename_i ec
          obtain ⟨rfl, rfl⟩ := ec
          obtain ⟨a', h1, h2, h3, h4⟩ := r.own 0 _ rfl rfl
          obtain ⟨C', dx', vs', hg, h5⟩ := id h2
          have ea := hg a rfl
          subst ea
          exact q2 G' H' (up x) h2 h3
        · exact q2.elim
      | _ => exact q.elim
  | ex x ρ => exact fun σ' G' H' c dx y r e => q G' H' c dx (up y) e
  | ro sl => exact q.elim
  | rt d => exact q.elim
  | bk ρ => exact q.elim
  | ct ρ => exact q.elim
  | bad => exact q.elim
abbrev suE (m : Str) (p0 p1 p2 p4 : Pos) (es : List Expr) (kws : List Keyword) : Expr := .Call (.Attribute (.Call (.Name "super" p0) [] [] p1) m p2) es kws p4
def SuOk (m : Str) (p0 p1 p2 p4 : Pos) (es : List Expr) (kws : List Keyword) (env : Env) : Prop := ∃ pl : Sem Bool, eval (suE m p0 p1 p2 p4 es kws) env = (do
      let ov ← attributeBase (.Call (.Name "super" p0) [] [] p1) m env (eval (.Call (.Name "super" p0) [] [] p1) env)
      standAt p2.atName
      let (fn, first) ← holding [ov] (getMethod ov m pl)
      callWith p4 fn first (backTo p4 (starEach es env)) (backToKw p4 (keywordEach kws env)))
def SuNew (k : Nat) (A : Around) (env : Env) : Prop := Room k (A.deeper env)
section
variable {P : Program} {w : World} {K : Frag} {mg : Str → Option Value} {base : Heap} {ca : Cn} {D fI cc fB : Addr} {F : NF} {fd fdB : FuncData} {N ps psB ks : List Str} {self m : Str} {ar : Arg} {c cD n k j : Nat} {p0 p1 p2 p4 p5 : Pos} {e : Expr} {es : List Expr} {kws : List Keyword} {rest : List Stmt}
  {FBm : Addr → List Tk.D → R (List (Nat × Tk.D))} {gD : List Tk.D → List Tk.D → List Tk.D} {fa fk : Ev → R (List Tk.D)} {g : Ev → SO}
theorem fn_okS (S : SuF P K D fI F fd cc) (NS : NScope N ps ["__class__"] F.scope) (Z : SuS F.scope self) (hmg : mg "super" = none) (hp : (F.params.posonlyargs ++ F.params.args).head? = some ar) (har : ar.arg = self) (hN : N[0]? = some self)
    (hD : ca.a cD = some D) (hbody : F.body = .Expr (suE m p0 p1 p2 p4 (e :: es) kws) p5 :: rest)
    (sub : ∀ C, ca.a c = some C → mroIn K C (.ref D) = some true ∧ ks_superIn K C D m = some (some (.ref fB))) (tB : typeIn K (.ref fB) = some (.type "function")) (hf : fnIn K fB = true) (hm1 : (m == ("__class__" : Str)) = false)
    (hev : ∀ L, SuOk m p0 p1 p2 p4 (e :: es) kws (envF F fI L))
    (FB : FnOk P w K mg base (L2.CX P w) j fB fdB psB (spI K ca c psB.length FBm)) (hj : j ≤ k) (hb : KBI K ca fdB psB n ks gD)
    (hall : ∀ L, (backToKw p4 (keywordEach kws (envF F fI L))).all (·.1.isSome) = true) (hks : ∀ L, (backToKw p4 (keywordEach kws (envF F fI L))).filterMap (·.1) = ks)
    (he : ∀ L, starEach (e :: es) (envF F fI L) = (false, eval e (envF F fI L)) :: starEach es (envF F fI L))
    (hpl : ∀ L, ((backTo p4 (starEach (e :: es) (envF F fI L))).any (·.1) || (backToKw p4 (keywordEach kws (envF F fI L))).any (·.1.isNone)) = false)
    (hin : ∀ L, interactive (envF F fI L) = false) (hs : ∀ L, swapsWith (suE m p0 p1 p2 p4 (e :: es) kws) none p5.line (envF F fI L) = pure false)
    (hfs : ∀ (A : Around) (outer : List Env) (s : Shared) (H : Hp) (E : XK), SuNew k A (envF F fI s.heap.objs.size) →
      FA (ncx (L2.CX P w) P w K mg base N F fI A outer s H E) ca (fun c d _ H' => E c d H') (e :: es) fa ∧ FK (ncx (L2.CX P w) P w K mg base N F fI A outer s H E) ca (fun c d _ H' => E c d H') kws fk ∧ FSs (ncx (L2.CX P w) P w K mg base N F fI A outer s H E) ca (fun c d _ H' => E c d H') rest g) :
    FnOk P w K mg base (L2.CX P w) (k + 1) fI fd ps (spI K ca c ps.length (runS c cD N.length (sSup c n ks.length psB.length FBm gD fa fk) g)) := by
  refine ⟨fun vs H Q E h => h.1, fun A outer s H args us vs Q E hr e0 hbind rv hsp => ?_⟩
  obtain ⟨l, B, G, ds, a, C, dx, us0, rfl, hc, ha, hb', s1, s2, at_, q⟩ := hsp
  have l2 := at_.length
  have l3 : us0.length + 1 = ps.length := l
  have hNl : ps.length + 1 ≤ N.length := by
    have q := congrArg List.length NS.pre
    rw [List.length_take, List.length_append] at q
    simp only [List.length_cons, List.length_nil] at q
    omega
  have X1 : K.In s.heap := e0.mod.kin.keeps fun b o z => (e0.bs b o z).1
  have lim : s.heap.NoLimit := e0.mod.nolimit.keeps fun b o e => (e0.bs b o e).1
  have S' := S
  obtain ⟨dV, kV, doc, pm, an, ct, rfl⟩ := S'.fd_
  obtain ⟨oc, od, osl, lk⟩ := S'.lk
  obtain ⟨c1, c2, c3, lcc⟩ := S'.cell
  refine ks_codeAny_call_defAt hr.depth (X1 _ _ lk) rfl lim (codeRec_of X1 S'.hcd) rfl hbind NS.nocell (fun x hx => NS.par x.1 (List.of_mem_zip (show (x.1, x.2) ∈ ps.zip us from hx)).1) (fun h₀ hns kp => ?_) NS.co NS.gen NS.kind
  have ee : callEnv (ksFn F.name F.qual F.params F.body F.scope dV kV doc pm an (.ref F.c) ct cc) s.heap.objs.size fI = envF F fI s.heap.objs.size := by
    show PySem.W.envX F.qual F.scope s.heap.objs.size fI (.ref F.c) [("__class__", cc)] = _
    rw [← S.cl]
  rw [ee]
  -- the cell
  have hcc : H cc = none := by
    have hbk := e0.mod.kin
    exact (e0.bs cc _ (hbk _ _ lcc)).2
  have Cl : CellsAt F.cl ["__class__"] [some (V.ref D)] s.heap H := by
    rw [S.cl]
    refine ⟨rfl, fun y c0 q => ?_, fun y z c0 q q' => ?_, fun i y q => ?_⟩
    · rw [List.lookup_cons] at q
      split at q
      · cases q; exact ⟨hcc, _, ⟨_, X1 _ _ lcc, rfl⟩⟩
      · cases q
    · rw [List.lookup_cons] at q q'
      split at q
      · rename_i z1
        split at q'
        · rename_i z2
          exact (eq_of_beq z1).trans (eq_of_beq z2).symm
        · cases q'
      · cases q
    · cases i with
      | zero =>
        cases q
        refine ⟨cc, by rw [List.lookup_cons, beq_self_eq_true], fun v z => ?_⟩
        cases z
        exact ⟨.ref D, rfl, ⟨_, X1 _ _ lcc, rfl⟩⟩
      | succ i => simp at q
  have I : Inv (ncx (L2.CX P w) P w K mg base N F fI A outer s H E) [] (startF N (.ref a :: us0) [some (V.ref D)]) H { s with heap := h₀, toks := s.toks + (ps.zip us).length } := inv_startN NS hr.hd e0 l rv Cl hns kp
  have es0 : startF N (.ref a :: us0) [some (V.ref D)] = L2.start N (.ref a :: (us0 ++ [V.ref D])) := by
    unfold startF L2.start
    simp only [List.map_cons, List.map_append, List.cons_append, List.append_assoc, List.nil_append, List.map_nil, List.length_cons, List.length_append, List.length_nil]
    have ez : N.length - (us0.length + 1) - (0 + 1) = N.length - (us0.length + (0 + 1) + 1) := by omega
    rw [ez]
  rw [es0] at I
  have ga := same_none s2 hb'
  have at2 : AtL K ca G (ds ++ [.cl cD]) (us0 ++ [V.ref D]) := at_.append (AtL.one ⟨D, hD, rfl⟩)
  have rel := rel_startI (B := B) (H := H) (N := N) (by rw [List.length_append]; simp only [List.length_cons, List.length_nil]; omega) at2 hc ha ga hb'
  obtain ⟨⟨t, pa, kt⟩, ⟨u, pk, ku⟩, ⟨t', pr, kr⟩⟩ := hfs A outer s H E (hr.deeper _)
  obtain ⟨gf, gV, hbn, hgd⟩ := hb.ex
  have ws := wish_outI q
  unfold sSq at ws
  have w0 : WishS K ca B G (sSup c n ks.length psB.length FBm gD fa fk (startI a c N.length (ds ++ [.cl cD]))) { nx := fun σ' H' => t' { nx := fun _ H' => Q .non H', rt := Q } σ' H', rt := fun _ _ => False } (fun c d _ H' => E c d H') := by
    cases z : sSup c n ks.length psB.length FBm gD fa fk (startI a c N.length (ds ++ [.cl cD])) with
    | nx ρ1 =>
      rw [z] at ws
      exact fun σ' G' H' adv r' => kr B G' H' σ' ρ1 _ adv.gh adv.bh r' (WishS.mono (r := g ρ1) ws adv)
    | ex x ρ1 => rw [z] at ws; exact ws
    | bad => rw [z] at ws; exact ws
    | _ =>
      exfalso
      unfold sSup at z
      cases z1 : fa (startI a c N.length (ds ++ [.cl cD])) with
      | exc x => rw [z1] at z; cases z
      | bad => rw [z1] at z; cases z
      | ok ds1 =>
        rw [z1, from_ok] at z
        cases z2 : fk (startI a c N.length (ds ++ [.cl cD])) with
        | exc x => rw [z2] at z; cases z
        | bad => rw [z2] at z; cases z
        | ok zs1 =>
          rw [z2, from_ok] at z
          unfold supK at z
          split at z
          · split at z
            · split at z <;> cases z
            · cases z
          · cases z
  have hq := sup_wish (X := ncx (L2.CX P w) P w K mg base N F fI A outer s H E) kt ku hgd (s2.trans s1) s1 rel rfl w0
  obtain ⟨pl, hpl'⟩ := hev s.heap.objs.size
  have hbx : ∀ env : Env, execs F.body env = execs (.Expr (suE m p0 p1 p2 p4 (e :: es) kws) p5 :: rest) env := fun env => by rw [hbody]
  rw [hbx]
  have sc := su_call (W := fun c d _ H' => E c d H') (Q := fun _ H3 => t' { nx := fun _ H' => Q .non H', rt := Q } (L2.start N (.ref a :: (us0 ++ [V.ref D]))) H3) S Z hmg hp har I hN rfl ha (sub C hc).1 (sub C hc).2 tB hm1 hf hpl' FB ((hr.deeper _).mono hj) hbn (takes_of rfl rfl rfl rfl) pa pk (hall _) (hks _) (he _) (hpl _) hq
  refine ks_wpAt_execs_cons (ks_wpAt_Expr_any (ks_wpAt_mono sc (fun v s' hv => ?_) fun _ _ z => z) (hin _) (hs _))
  obtain ⟨v', H', I', rv', q'⟩ := hv
  refine _root_.PySem.wpAt_of_wpAny (wpAny_mono (pr.run [] _ _ H' _ I' q') (fun fl s'' hs' => ?_) fun e s'' hs' => hs')
  have fin : ∀ {σ' : L2.St} {H' : Hp} {v : V} {u : Value}, Inv (ncx (L2.CX P w) P w K mg base N F fI A outer s H E) [] σ' H' s'' → L2.RelV v u → Q v H' → CE outer P w H s Q u s'' :=
    fun {σ' H' v u} J rv q => ⟨v, H', J.os, J.bare, J.base, J.hok, rv, q⟩
  cases fl with
  | ret u =>
    obtain ⟨v, σ', H', J, rv, q⟩ := hs'
    exact fin J rv q
  | next =>
    obtain ⟨σ', H', J, q⟩ := hs'
    exact fin (v := V.non) (u := Value.none) J rfl q
  | brk =>
    obtain ⟨_, _, _, q⟩ := hs'
    exact False.elim q
  | cont =>
    obtain ⟨_, _, _, q⟩ := hs'
    exact False.elim q
end
end Tk
set_option maxHeartbeats 4000000
namespace Tk
open PySem PySem.Calls PyProof.Rows PySem.Spec L2 NdefX
structure FDS (K : PySem.W.Frag) (qual : Str) (st : Stmt) (kd : List (Str × D)) (fd : FuncData) : Prop where
  ex : ∃ (kV doc pm : Value) (an : Option Addr) (cdv ct : Value) (cc : Addr), fd = PySem.W.ksFn "__init__" qual (defArgs st) (defBody st) (defScope st) .none kV doc pm an cdv ct cc ∧
    (kd = [] ∨ ∃ D, kV = .ref D ∧ ∀ q ∈ kd, ∃ u v, PySem.W.nsIn K D q.1 = some (some u) ∧ RelV v u ∧ ∀ ca G, At K ca G q.2 v)
section
variable {K : PySem.W.Frag} {ca : Cn} {qual : Str} {st : Stmt} {kd : List (Str × D)} {fd : FuncData} {ps : List Str}
theorem kds_vals {Dk : Addr} {ca : Cn} : ∀ {ms : List (Str × D)}, (∀ q ∈ ms, ∃ u v, PySem.W.nsIn K Dk q.1 = some (some u) ∧ RelV v u ∧ ∀ ca G, At K ca G q.2 v) →
    ∃ (us : List Value) (vs : List V), us.length = ms.length ∧ Vals vs us ∧ (∀ G, AtL K ca G (ms.map (·.2)) vs) ∧ ∀ q ∈ (ms.map (·.1)).zip us, PySem.W.nsIn K Dk q.1 = some (some q.2)
  | [], _ => ⟨[], [], rfl, .nil, fun G => rfl, fun q hq => by cases hq⟩
  | m :: ms, h => by
    obtain ⟨u, v, e1, e2, e3⟩ := h m List.mem_cons_self
    obtain ⟨us, vs, l, r, a, b⟩ := kds_vals (ca := ca) (ms := ms) fun q hq => h q (List.mem_cons_of_mem _ hq)
    refine ⟨u :: us, v :: vs, congrArg Nat.succ l, .cons e2 r, fun G => ⟨v, vs, rfl, e3 ca G, a G⟩, fun q hq => ?_⟩
    rcases List.mem_cons.mp (show q ∈ (m.1, u) :: (ms.map (·.1)).zip us from hq) with e | hq
    · rw [e]; exact e1
    · exact b q hq
theorem kbi_s (F : FDS K qual st kd fd) (n : Nat) (ks : List Str) (is : List Nat) (ms : List (Str × D)) (hp : ∀ i ∈ is, 1 ≤ i) (hk : kd ≠ []) (hms : ∀ q ∈ ms, q ∈ kd)
    (h : ∀ (D : Addr) (doc pm : Value) (an : Option Addr) (cdv ct : Value) (cc : Addr) (us mv ws : List Value), us.length = n + 1 → mv.length = ms.length → ws.length = ks.length →
      KwChain D ((ms.map (·.1)).zip mv) (bindArgs (PySem.W.ksFn "__init__" qual (defArgs st) (defBody st) (defScope st) .none (.ref D) doc pm an cdv ct cc) ⟨us, ks.zip ws⟩) (ps.zip (pickI (0 :: is) (us ++ (mv ++ ws))))) : KBI K ca fd ps n ks (gDk (is.map (· - 1)) (ms.map (·.2))) := by
  obtain ⟨kV, doc, pm, an, cdv, ct, cc, rfl, hK⟩ := F.ex
  rcases hK with e | ⟨D, rfl, hq⟩
  · exact absurd e hk
  · obtain ⟨us0, vs0, hl, rk, ra, hks⟩ := kds_vals (ca := ca) (ms := ms) fun q hm => hq q (hms q hm)
    exact kbi_ofD ra rk hp fun s us ws X l1 l2 => BindsTo.of_looks fun M => KwChain.looks X hks (h D doc pm an cdv ct cc us us0 ws l1 hl l2)
end
structure DefIS (P : Program) (w : World) (K : PySem.W.Frag) (mg : Str → Option Value) (base : Heap) (ca : Cn) (k c : Nat) (x qual : Str) (st : Stmt) (kd : List (Str × D)) (ps : List Str) (F : Addr → List D → R (List (Nat × D))) : Prop where
  ex : ∃ f fd C, FnOk P w K mg base (L2.CX P w) k f fd ps (spI K ca c ps.length F) ∧ Mk K C f ∧ ca.a c = some C ∧ mg x = some (.ref C) ∧ FDS K qual st kd fd
section
variable {X : Cx} {ca : Cn} {W : WX} {k j c n : Nat} {x qual : Str} {st : Stmt} {kd : List (Str × D)} {ps ks : List Str} {Fn : Addr → List D → R (List (Nat × D))} {p pos : Pos} {e : Expr} {es : List Expr} {kws : List Keyword} {fa fk : Ev → R (List D)} {gD : List D → List D → List D}
theorem fn_makeKs (d : DefIS X.prog X.w X.K X.mg X.base ca k c x qual st kd ps Fn) (hb : ∀ {fd}, FDS X.K qual st kd fd → KBI X.K ca fd ps n ks gD) (hr : Room j X.A) (tk : Takes X W) (ha : FA X ca W (e :: es) fa) (hkw : FK X ca W kws fk) (hk : k + 1 ≤ j := by decide) (hg : Gl X x := by rfl)
    (hall : (backToKw pos (keywordEach kws X.env)).all (·.1.isSome) = true := by rfl) (hks : (backToKw pos (keywordEach kws X.env)).filterMap (·.1) = ks := by rfl) (hdb : (x == ("__debug__" : Str)) = false := by decide)
    (he : starEach (e :: es) X.env = (false, eval e X.env) :: starEach es X.env := by rfl) (hpl : ((backTo pos (starEach (e :: es) X.env)).any (·.1) || (backToKw pos (keywordEach kws X.env)).any (·.1.isNone)) = false := by rfl) :
    FN X ca W (.Call (.Name x p) (e :: es) kws pos) (nMakeK c n ks.length ps.length Fn gD fa fk) := by
  obtain ⟨f, fd, C, F, M, hc, hm, h2⟩ := d.ex
  obtain ⟨t, pa, kt⟩ := ha.ex
  obtain ⟨u, pk, ku⟩ := hkw.ex
  obtain ⟨g, gV, hbn, hgd⟩ := (hb h2).ex
  refine ⟨fun σ H Q => t σ H fun vs H1 => u σ H1 fun zs H2 => vs.length = n ∧ zs.length = ks.length ∧ ∀ a dx, H2 a = none → H2 dx = none → dx ≠ a → spI X.K ca c ps.length Fn (gV (.ref a :: vs) zs) (upd (upd H2 dx (.own a)) a (.ins C dx [])) (fun v H3 => v = .non ∧ Q (.ref a) H3) (WE W σ), ⟨fun pins s σ H Q I h => ?_⟩, fun B G H σ ρ Q s b r h => ?_⟩
  · refine wpAny_Call_Name_kw (ld_glob I hg hm ?_ hdb)
    refine PySem.W.callWith_KW (h₀ := X.base) I.ok.mod.kin M.kp hall (thn (pa.run pos pins s σ H _ I h) fun us s1 ⟨vs, H1, I1, r1, q1⟩ => ?_) hpl he
    refine thn (pk.run pos pins s1 σ H1 _ I1 q1) fun ws s2 ⟨zs, H2, I2, r2, l1, l2, q2⟩ => ⟨I2.kIn, ?_⟩
    rw [hks]
    exact run_makeKS M F (hr.mono hk) hbn (passAt tk σ) I2 r1 r2 l1 l2 q2
  · refine kt B G H σ ρ _ s b r (Wish.bind h fun ds G1 H1 _ x1 w1 vs a1 => ?_)
    refine ku B G1 H1 σ ρ _ x1.gh (b.trans x1.hh) (r.ext x1) (Wish.bind w1 fun zs G2 H2 _ x2 w2 ws a2 => ?_)
    split at w2
    · rename_i hl
      refine ⟨by rw [← a1.length]; exact hl.1, by rw [← a2.length]; exact hl.2.1, fun a dx n1 n2 ne => ?_⟩
      obtain ⟨us, e, au⟩ := hgd (.ref a) vs ws
      rw [e]
      exact make_wish hc (x1.hh.trans x2.hh) x2.gh (au G2 ds zs (AtL.mono x2.gg a1) a2) hl.2.2 w2 n1 n2 ne
    · exact w2.elim
end
structure DefB (P : Program) (w : World) (K : PySem.W.Frag) (mg : Str → Option Value) (base : Heap) (ca : Cn) (k c : Nat) (x qual : Str) (st : Stmt) (dd : List D) (kd : List (Str × D)) (ps : List Str) (F : Addr → List D → R (List (Nat × D))) : Prop where
  ex : ∃ fd, FnOk P w K mg base (L2.CX P w) k (He.fAd K (x, some "__init__")) fd ps (spI K ca c ps.length F) ∧ FDI K qual st dd kd (He.fAd K (x, some "__init__")) fd
section
variable {P : Program} {w : World} {K : PySem.W.Frag} {mg : Str → Option Value} {base : Heap} {ca : Cn} {fa : List He.Fa} {fn : List He.DefD} {x qual : Str} {st : Stmt} {dd : List D} {kd : List (Str × D)} {ps N : List Str} {k c : Nat} {g : Ev → SO}
theorem DefB.of (T : Says fa fn K mg) (i : Nat) (S : FnScope N ps (defScope st)) (hN : ps.length ≤ N.length) (hb : ∀ (f : Addr) (cdv : Value) (A : Around) (outer : List Env) (s : Shared) (H : Hp) (E : XK), Room k (A.deeper (envOfC qual (defScope st) s.heap.objs.size f cdv)) →
      FSs (cxOf (L2.CX P w) P w K mg base N qual (defScope st) f cdv A outer s H E) ca (fun c d _ H' => E c d H') (defBody st) g) (hi : fn[i]? = some (dfD (x, some "__init__") "__init__" qual st dd kd) := by rfl) (h1 : dd.all flatD = true := by rfl) (h2 : (kd.map (·.2)).all flatD = true := by rfl) : DefB P w K mg base ca (k + 1) c x qual st dd kd ps (runI c N.length g) := by
  obtain ⟨fd, F⟩ := T.fd i hi h1 h2
  exact ⟨fd, fn_okI F S hN (hb _), .of_flat F h1⟩
end
def dvalB (K : PySem.W.Frag) (d : D) (u : Value) : Bool := match d, u with
  | .non, .none => true
  | .bl b, .bool b' => b == b'
  | .int i, .int i' _ => i == i'
  | .str s, .str s' _ => decide (s = s')
  | .tp0, .ref a => tp0B K a
  | _, _ => false
theorem dvalB_ok {K : PySem.W.Frag} {d : D} {u : Value} (h : dvalB K d u = true) : ∃ v, RelV v u ∧ ∀ ca G, At K ca G d v := by
  unfold dvalB at h
  split at h
  · exact ⟨.non, rfl, fun _ _ => rfl⟩
  · rename_i b b'; exact ⟨.bl b, by rw [eq_of_beq h]; rfl, fun _ _ => rfl⟩
  · rename_i i i' t; exact ⟨.int i, ⟨t, by rw [eq_of_beq h]⟩, fun _ _ => rfl⟩
  · rename_i s s' t; exact ⟨.str s, ⟨t, by rw [of_decide_eq_true h]⟩, fun _ _ => rfl⟩
  · rename_i a; exact ⟨.ref a, rfl, fun _ _ => tp0_at h⟩
  · cases h
def kdB (K : PySem.W.Frag) (f : Addr) (kd : List (Str × D)) : Bool := match K.lookup f with
  | some ⟨_, _, .func fd, _⟩ => (fd.defaults == .none) && (kd.isEmpty || (match fd.kwdefaults with
    | .ref Dk => kd.all fun q => (match PySem.W.nsIn K Dk q.1 with
      | some (some u) => dvalB K q.2 u
      | _ => false)
    | _ => false))
  | _ => false
def supB (P : Program) (K : PySem.W.Frag) (x xb : Str) (kd : List (Str × D)) : Bool := funEB P K (He.ga K x) (He.fAd K (x, some "__init__")) && (He.eqO (PySem.W.ks_superIn K (He.ga K x) (He.ga K x) "__init__") (some (some (.ref (He.fAd K (xb, some "__init__"))))) &&
  (He.eqO (PySem.W.nsIn K cStatics "thirdparty.any") (some none) && (decide (PySem.W.mroIn K (He.ga K x) (.ref (He.ga K x)) = some true) && ((P.main.scope.names.lookup ("super" : Str)).isSome == false &&
  (decide (PySem.W.typeIn K (.ref (He.fAd K (xb, some "__init__"))) = some (.type "function")) && (PySem.W.fnIn K (He.fAd K (xb, some "__init__")) && ((PySem.W.clsIn K (He.ga K x)).isSome && kdB K (He.fAd K (x, some "__init__")) kd)))))))
abbrev NF.init (qual : Str) (st : Stmt) (cc cdA : Addr) : NF := ⟨"__init__", qual, defArgs st, defBody st, defScope st, [("__class__", cc)], cdA⟩
structure SuH (P : Program) (K : PySem.W.Frag) (x xb qual : Str) (st : Stmt) (kd : List (Str × D)) : Prop where
  ex : ∃ cc cdA fd, SuF P K (He.ga K x) (He.fAd K (x, some "__init__")) (NF.init qual st cc cdA) fd cc ∧ FDS K qual st kd fd
  sub : PySem.W.mroIn K (He.ga K x) (.ref (He.ga K x)) = some true
  sup : PySem.W.ks_superIn K (He.ga K x) (He.ga K x) "__init__" = some (some (.ref (He.fAd K (xb, some "__init__"))))
  tB : PySem.W.typeIn K (.ref (He.fAd K (xb, some "__init__"))) = some (.type "function")
  fB : PySem.W.fnIn K (He.fAd K (xb, some "__init__")) = true
theorem supB_ok {P : Program} {K : PySem.W.Frag} {x xb qual : Str} {st : Stmt} {kd : List (Str × D)} (e : fnE K x = (ErD.mk x qual st).val) (h : supB P K x xb kd = true) : SuH P K x xb qual st kd := by
  obtain ⟨h1, h⟩ := He.ba h
  obtain ⟨h2, h⟩ := He.ba h
  obtain ⟨h3, h⟩ := He.ba h
  obtain ⟨h4, h⟩ := He.ba h
  obtain ⟨h5, h⟩ := He.ba h
  obtain ⟨h6, h⟩ := He.ba h
  obtain ⟨h7, h⟩ := He.ba h
  obtain ⟨h8, h9⟩ := He.ba h
  refine ⟨?_, of_decide_eq_true h4, He.eqO_ok h2, of_decide_eq_true h6, h7⟩
  obtain ⟨oD, cdD, lD, dD⟩ : ∃ oD cdD, K.lookup (He.ga K x) = some oD ∧ oD.data = .cls cdD := by
    unfold PySem.W.clsIn at h8
    split at h8
    · rename_i ho; exact ⟨_, _, ho, rfl⟩
    · cases h8
  unfold fnE at e
  unfold funEB at h1
  unfold kdB at h9
  cases q : K.lookup (He.fAd K (x, some "__init__")) with
  | none => rw [q] at h1; cases h1
  | some o =>
    obtain ⟨oc, od, dt, osl⟩ := o
    rw [q] at h1 e h9
    cases dt with
    | func fd =>
      obtain ⟨n1, n2, n3, n4, n5, n6, n7, n8, n9, n10, n11, n12, n13, n14, n15⟩ := fd
      have e2 : (some (n1, n2, n3, n4, n5, n6, n7.map (·.1), n15) : FnE) = (some (("__init__" : Str), qual, defArgs st, FuncBody.stmts (defBody st), defScope st, mainGlobals, [("__class__" : Str)], builtinsNs) : FnE) := e
      simp only [Option.some.injEq, Prod.mk.injEq] at e2
      obtain ⟨g1, g2, g3, g4, g5, g6, g7, g8⟩ := e2
      subst g1 g2 g3 g4 g5 g6 g8
      dsimp only at h1 h9
      cases n13 with
      | ref cda =>
        cases n7 with
        | nil => cases g7
        | cons p r =>
          cases r with
          | cons _ _ => exact absurd (congrArg List.length g7) (by simp)
          | nil =>
            obtain ⟨pn, cc⟩ := p
            have g7 : pn = "__class__" := by simpa using g7
            subst g7
            obtain ⟨k1, k⟩ := He.ba h1
            obtain ⟨k2, k3⟩ := He.ba k
            obtain ⟨ccl, cdd, vs, ccs, file, tf, lc, hv, hf⟩ : ∃ ccl cdd vs ccs file tf, K.lookup cda = some ⟨ccl, cdd, .fields vs, ccs⟩ ∧ vs[2]? = some (.str file tf) ∧ ((P.main.file : Str) == file) = true := by
              split at k2
              · rename_i ccl cdd vs ccs lc
                split at k2
                · rename_i file tf hv
                  exact ⟨_, _, _, _, _, _, lc, hv, k2⟩
                · cases k2
              · cases k2
            obtain ⟨cl, cld, csl, lcc⟩ : ∃ cl cld csl, K.lookup cc = some ⟨cl, cld, .cell (some (.ref (He.ga K x))), csl⟩ := by
              split at k3
              · rename_i cl cld D csl lcc
                have := beq_iff_eq.mp k3
                subst this
                exact ⟨_, _, _, lcc⟩
              · cases k3
            obtain ⟨z1, z2⟩ := He.ba h9
            have z1 := eq_of_beq z1
            subst z1
            refine ⟨cc, cda, _, ⟨⟨_, _, _, _, _, _, rfl⟩, ⟨_, _, _, q⟩, k1, ⟨_, _, _, _, _, _, lc, hv, hf⟩, rfl, ⟨_, _, _, lcc⟩, ⟨_, _, lD, dD⟩, He.eqO_ok h3, ?_⟩, ⟨n9, n10, n11, n12, .ref cda, n14, cc, rfl, ?_⟩⟩
            · exact eq_of_beq h5
            · rw [Bool.or_eq_true] at z2
              rcases z2 with z2 | z2
              · exact .inl (List.isEmpty_iff.mp z2)
              · split at z2
                · rename_i Dk
                  refine .inr ⟨Dk, rfl, fun q0 m => ?_⟩
                  have := List.all_eq_true.mp z2 q0 m
                  split at this
                  · rename_i u hu
                    obtain ⟨v, rv, av⟩ := dvalB_ok this
                    exact ⟨u, v, hu, rv, av⟩
                  · cases this
                · cases z2
      | _ => cases h1
    | _ => cases h1
end Tk
set_option maxHeartbeats 4000000
namespace Tk
open PySem PySem.Calls PyProof.Rows PySem.Spec L2 NdefX
def suSB (sc : Scope) (slf : Str) : Bool := decide (sc.names.lookup ("super" : Str) = some .globalImplicit) && (decide (sc.names.lookup ("__class__" : Str) = some .free) && (decide (sc.names.lookup slf = some .local) && decide (sc.kind = .function)))
theorem suSB_ok {sc : Scope} {slf : Str} (h : suSB sc slf = true) : SuS sc slf := by
  unfold suSB at h
  simp only [Bool.and_eq_true, decide_eq_true_eq] at h
  obtain ⟨h1, h2, h3, h4⟩ := h
  exact ⟨h1, h2, h3, h4⟩
section
variable {P : Program} {w : World} {K : PySem.W.Frag} {mg : Str → Option Value} {base : Heap} {ca : Cn} {x xb qual qualb self : Str} {st stb : Stmt} {kd kdb : List (Str × D)} {ddb : List D} {N ps psB ks : List Str} {ar : Arg} {c n k j : Nat} {p0 p1 p2 p4 p5 : Pos} {e : Expr} {es : List Expr} {kws : List Keyword} {rest : List Stmt}
  {FBm : Addr → List D → R (List (Nat × D))} {gD : List D → List D → List D} {fa fk : Ev → R (List D)} {g : Ev → SO}
abbrev cxS (P : Program) (w : World) (K : PySem.W.Frag) (mg : Str → Option Value) (base : Heap) (N : List Str) (x qual : Str) (st : Stmt) (cc cdA : Addr) (A : Around) (outer : List Env) (s : Shared) (H : Hp) (E : XK) : Cx := ncx (L2.CX P w) P w K mg base N (NF.init qual st cc cdA) (He.fAd K (x, some "__init__")) A outer s H E
theorem DefIS.of (U : SuH P K x xb qual st kd) (hmk : Mk K (He.ga K x) (He.fAd K (x, some "__init__"))) (hc : ca.a c = some (He.ga K x)) (hm : mg x = some (.ref (He.ga K x))) (hsup : mg "super" = none)
    (BD : DefB P w K mg base ca j c xb qualb stb ddb kdb psB FBm) (hbk : ∀ {f fd}, FDI K qualb stb ddb kdb f fd → KBI K ca fd psB n ks gD)
    (hbody : defBody st = .Expr (suE "__init__" p0 p1 p2 p4 (e :: es) kws) p5 :: rest)
    (hfs : ∀ (cc cdA : Addr) (A : Around) (outer : List Env) (s : Shared) (H : Hp) (E : XK), Room k (A.deeper (envF (NF.init qual st cc cdA) (He.fAd K (x, some "__init__")) s.heap.objs.size)) →
      FA (cxS P w K mg base N x qual st cc cdA A outer s H E) ca (fun c d _ H' => E c d H') (e :: es) fa ∧ FK (cxS P w K mg base N x qual st cc cdA A outer s H E) ca (fun c d _ H' => E c d H') kws fk ∧ FSs (cxS P w K mg base N x qual st cc cdA A outer s H E) ca (fun c d _ H' => E c d H') rest g)
    (hj : j ≤ k := by decide) (hNS : nscB N ps ["__class__"] (defScope st) = true := by decide +kernel) (hZ : suSB (defScope st) self = true := by decide +kernel) (hp : ((defArgs st).posonlyargs ++ (defArgs st).args).head? = some ar := by rfl) (har : ar.arg = self := by rfl) (hN : N[0]? = some self := by rfl)
    (hev : ∀ (f L cc cdA : Addr), SuOk "__init__" p0 p1 p2 p4 (e :: es) kws (envF (NF.init qual st cc cdA) f L) := by exact fun _ _ _ _ => ⟨_, rfl⟩)
    (hall : ∀ (f L cc cdA : Addr), (backToKw p4 (keywordEach kws (envF (NF.init qual st cc cdA) f L))).all (·.1.isSome) = true := by exact fun _ _ _ _ => rfl) (hks : ∀ (f L cc cdA : Addr), (backToKw p4 (keywordEach kws (envF (NF.init qual st cc cdA) f L))).filterMap (·.1) = ks := by exact fun _ _ _ _ => rfl)
    (he : ∀ (f L cc cdA : Addr), starEach (e :: es) (envF (NF.init qual st cc cdA) f L) = (false, eval e (envF (NF.init qual st cc cdA) f L)) :: starEach es (envF (NF.init qual st cc cdA) f L) := by exact fun _ _ _ _ => rfl)
    (hpl : ∀ (f L cc cdA : Addr), ((backTo p4 (starEach (e :: es) (envF (NF.init qual st cc cdA) f L))).any (·.1) || (backToKw p4 (keywordEach kws (envF (NF.init qual st cc cdA) f L))).any (·.1.isNone)) = false := by exact fun _ _ _ _ => rfl)
    (hin : ∀ (f L cc cdA : Addr), interactive (envF (NF.init qual st cc cdA) f L) = false := by exact fun _ _ _ _ => rfl) (hs : ∀ (f L cc cdA : Addr), swapsWith (suE "__init__" p0 p1 p2 p4 (e :: es) kws) none p5.line (envF (NF.init qual st cc cdA) f L) = pure false := by exact fun _ _ _ _ => rfl) :
    DefIS P w K mg base ca (k + 1) c x qual st kd ps (runS c c N.length (sSup c n ks.length psB.length FBm gD fa fk) g) := by
  obtain ⟨cc, cdA, fd, S, F⟩ := U.ex
  obtain ⟨fdB, FB, FI⟩ := BD.ex
  refine ⟨_, fd, _, ?_, hmk, hc, hm, F⟩
  exact fn_okS S (nscope_by hNS) (suSB_ok hZ) hsup hp har hN hc hbody (fun C e0 => by rw [hc] at e0; cases e0; exact ⟨U.sub, U.sup⟩) U.tB U.fB (by decide) (fun L => hev _ L cc cdA) FB hj (hbk FI) (fun L => hall _ L cc cdA) (fun L => hks _ L cc cdA) (fun L => he _ L cc cdA) (fun L => hpl _ L cc cdA) (fun L => hin _ L cc cdA) (fun L => hs _ L cc cdA) (fun A outer s H E hr => hfs cc cdA A outer s H E hr)
theorem SaysX.su {fa : List He.Fa} {fn : List He.DefD} {ex : PySem.W.Frag → Bool} {fw : List He5.DefA} {er : List ErD} (T : SaysX fa fn ex fw er K mg) {P : Program} (i : Nat) {x xb qual : Str} {st : Stmt} {kd : List (Str × D)} (hu : supB P K x xb kd = true) (hi : er[i]? = some ⟨x, qual, st⟩ := by rfl) : SuH P K x xb qual st kd := by
  have e2 : (er.map (fun d => fnE K d.x))[i]? = (er.map ErD.val)[i]? := by rw [T.e]
  rw [List.getElem?_map, List.getElem?_map, hi] at e2
  exact supB_ok (Option.some.inj e2) hu
theorem Says.mk_ {fa : List He.Fa} {fn : List He.DefD} (T : Says fa fn K mg) (jm : Nat) (hm : fa[jm]? = some (.mkr x) := by rfl) : Mk K (He.ga K x) (He.fAd K (x, some "__init__")) := He.mkr_ok (T.c.fact jm hm)
end
end Tk
namespace Tk
open PySem PySem.Spec L2 PyProof.Rows
def B__law_cell_1 : Ev → SO := sSet 2 (e2 gMod (e2 gAdd (eV 2) (e2 gMul (e2 gMul (e2 gAdd (eV 3) (eC (.int 3))) (e2 gMod (eA gAbs (aC (e2 gIx (eV 0) (eV 3)) (aN))) (eC (.int 1000003)))) (eC (.int 31)))) (eC (.int 1000003)))
def G__law_cell : Ev → SO := sSq (sIf (tV (e2 gLt (eV 1) (eA gLen (aC (eV 0) (aN))))) (sRet (e2 gIx (eV 0) (eV 1))) (sN)) (sSq (sSet 2 (e2 gMul (eC (.int 7919)) (e2 gAdd (eV 1) (eC (.int 1))))) (sSq (sFor (iR1 (eA gLen (aC (eV 0) (aN)))) (gN 3) (B__law_cell_1)) (sRet (eV 2))))
def F__law_cell : List D → R D := runF 4 G__law_cell
def G__law_mixed : Ev → SO := sSq (sSet 2 (e2 gMod (e2 gAdd (e2 gMul (e2 gMod (eA gAbs (aC (eV 0) (aN))) (eC (.int 2147483647))) (eC (.int 48271))) (e2 gMul (e2 gAdd (eV 1) (eC (.int 1))) (eC (.int 69621)))) (eC (.int 2147483647)))) (sSq (sSet 2 (e2 gMod (e2 gAdd (e2 gMul (eV 2) (e2 gAdd (e2 gMod (eV 2) (eC (.int 46337))) (eC (.int 16807)))) (e2 gMul (e2 gAdd (eV 1) (eC (.int 7))) (eC (.int 7919)))) (eC (.int 2147483629)))) (sSq (sSet 2 (e2 gMod (e2 gMul (eV 2) (e2 gAdd (e2 gMod (eV 2) (eC (.int 32749))) (eC (.int 48271)))) (eC (.int 2147483647)))) (sRet (e2 gDiv (eV 2) (eC (.int 11))))))
def F__law_mixed : List D → R D := runF 3 G__law_mixed
def B__law_pool_1 : Ev → SO := sIf (tAnd (tV (eV 3)) (tV (e2 gGt (eV 2) (eC (.int 0))))) (sSq (sApp 4 (e2 gMod (eV 2) (eC (.int 5040)))) (sSet 2 (e2 gDiv (eV 2) (eC (.int 5040))))) (sApp 4 (eCall 2 F__law_mixed (aC (eV 0) (aC (eV 5) (aN)))))
def G__law_pool : Ev → SO := sSq (sSet 2 (eA gAbs (aC (eV 0) (aN)))) (sSq (sSet 3 (e2 gGe (eV 2) (e2 gPow (eC (.int 10)) (eC (.int 18))))) (sSq (sOwn 4 (lDisp (aN))) (sSq (sFor (iR1 (eV 1)) (gN 5) (B__law_pool_1)) (sFrz 4 (sRet (eV 4))))))
def F__law_pool : List D → R D := runF 6 G__law_pool
def G__law_part : Ev → SO := sRet (e2 gMod (e2 gDiv (eA gInt (aC (e2 gIx (eV 0) (eV 1)) (aN))) (eV 2)) (eV 3))
def F__law_part : List D → R D := runF 4 G__law_part
def B__law_names_1 : Ev → SO := sSet 4 (e2 gAdd (e2 gAdd (eV 4) (e2 gIx (eV 3) (eCall 4 F__law_part (aC (eV 0) (aC (e2 gAdd (eV 1) (eV 5)) (aC (eC (.int 1)) (aC (eC (.int 26)) (aN)))))))) (e2 gIx (eV 3) (eCall 4 F__law_part (aC (eV 0) (aC (e2 gAdd (eV 1) (eV 5)) (aC (eC (.int 26)) (aC (eC (.int 26)) (aN))))))))
def B__law_names_2 : Ev → SO := sSq (sSet 12 (e2 gMod (eA gInt (aC (e2 gAdd (eV 5) (eV 6)) (aN))) (eC (.int 6)))) (sIf (tV (e2 gEq (eCall 4 F__law_part (aC (eV 0) (aC (e2 gAdd (eV 1) (eC (.int 4))) (aC (eC (.int 1)) (aC (eC (.int 2)) (aN)))))) (eC (.int 0)))) (sApp 11 (e2 gAdd (e2 gAdd (e2 gAdd (eSl (eV 9) (oN) (oS (eV 7))) (e2 gIx (eV 3) (e2 gMod (eA gInt (aC (e2 gAdd (eV 8) (e2 gMul (eC (.int 7)) (eV 12))) (aN))) (eC (.int 26))))) (eSl (eV 9) (oS (eV 7)) (oN))) (eV 10))) (sApp 11 (eSl (eV 4) (oN) (oS (e2 gAdd (eV 12) (eC (.int 1)))))))
def G__law_names : Ev → SO := sSq (sSet 3 (eC (.str "abcdefghijklmnopqrstuvwxyz"))) (sSq (sSet 4 (eC (.str ""))) (sSq (sFor (iR1 (eC (.int 3))) (gN 5) (B__law_names_1)) (sSq (sSet 6 (eCall 4 F__law_part (aC (eV 0) (aC (e2 gAdd (eV 1) (eC (.int 3))) (aC (eC (.int 1)) (aC (eC (.int 6)) (aN))))))) (sSq (sSet 7 (eCall 4 F__law_part (aC (eV 0) (aC (e2 gAdd (eV 1) (eC (.int 3))) (aC (eC (.int 6)) (aC (eC (.int 7)) (aN))))))) (sSq (sSet 8 (eCall 4 F__law_part (aC (eV 0) (aC (e2 gAdd (eV 1) (eC (.int 3))) (aC (eC (.int 42)) (aC (eC (.int 26)) (aN))))))) (sSq (sSet 9 (eSl (eV 4) (oN) (oS (eCall 4 F__law_part (aC (eV 0) (aC (e2 gAdd (eV 1) (eC (.int 4))) (aC (eC (.int 4)) (aC (eC (.int 7)) (aN))))))))) (sSq (sSet 10 (eSl (eV 4) (oN) (oS (eCall 4 F__law_part (aC (eV 0) (aC (e2 gAdd (eV 1) (eC (.int 4))) (aC (eC (.int 2)) (aC (eC (.int 2)) (aN))))))))) (sSq (sOwn 11 (lDisp (aN))) (sSq (sFor (iR1 (eV 2)) (gN 5) (B__law_names_2)) (sFrz 11 (sRet (eV 11))))))))))))
def F__law_names : List D → R D := runF 13 G__law_names
def G__law_integer : Ev → SO := sRet (eAnd (eA gIsi (aC (eV 0) (aC (eC (.ty "int")) (aN)))) (eNot (eA gIsi (aC (eV 0) (aC (eC (.ty "bool")) (aN))))))
def F__law_integer : List D → R D := runF 1 G__law_integer
def B__law_same_1 (Fr : List D → R D) : Ev → SO := sIf (tNot (tV (eCall 2 Fr (aC (e2 gIx (eV 0) (eV 2)) (aC (e2 gIx (eV 1) (eV 2)) (aN)))))) (sRet (eC (.bl false))) (sN)
def G__law_same (Fr : List D → R D) : Ev → SO := sSq (sIf (tV (e2 gIsN (eV 1) (eC .non))) (sRet (e2 gIsN (eV 0) (eC .non))) (sN)) (sSq (sIf (tV (e2 (gIsB false) (eV 1) (eC (.bl true)))) (sRet (e2 (gIsB false) (eV 0) (eC (.bl true)))) (sN)) (sSq (sIf (tV (e2 (gIsB false) (eV 1) (eC (.bl false)))) (sRet (e2 (gIsB false) (eV 0) (eC (.bl false)))) (sN)) (sSq (sIf (tV (eA gIsi (aC (eV 1) (aC (eC (.ty "int")) (aN))))) (sRet (eAnd (eCall 1 F__law_integer (aC (eV 0) (aN))) (e2 gEq (eV 0) (eV 1)))) (sN)) (sSq (sIf (tV (eA gIsi (aC (eV 1) (aC (eC (.ty "str")) (aN))))) (sRet (eAnd (eA gIsi (aC (eV 0) (aC (eC (.ty "str")) (aN)))) (e2 gEq (eV 0) (eV 1)))) (sN)) (sSq (sIf (tAnd (tV (eA gIsi (aC (eV 1) (aC (eC (.ty "tuple")) (aN))))) (tNot (tV (eA gIsi (aC (eV 0) (aC (eC (.ty "tuple")) (aN))))))) (sRet (eC (.bl false))) (sN)) (sSq (sIf (tAnd (tV (eA gIsi (aC (eV 1) (aC (eC (.ty "list")) (aN))))) (tNot (tV (eA gIsi (aC (eV 0) (aC (eC (.ty "list")) (aN))))))) (sRet (eC (.bl false))) (sN)) (sSq (sIf (tV (e2 gNe (eA gLen (aC (eV 0) (aN))) (eA gLen (aC (eV 1) (aN))))) (sRet (eC (.bl false))) (sN)) (sSq (sFor (iR1 (eA gLen (aC (eV 1) (aN)))) (gN 2) (B__law_same_1 Fr)) (sRet (eC (.bl true)))))))))))
def Fr__law_same : Nat → List D → R D
  | 0 => runF 3 sBad
  | n + 1 => runF 3 (G__law_same (Fr__law_same n))
def F__law_same : List D → R D := Fr__law_same 6
def G_is_name : Ev → SO := sSq (sIf (tNot (tV (eChain gLe gLe (eC (.int 1)) (eA gLen (aC (eV 0) (aN))) (eC (.int 8))))) (sRet (eC (.bl false))) (sN)) (sRet (eA gAll (aC (eLc [1] (iSq (eV 0)) (gN 1) (tsY) (e2 (gInS false) (eV 1) (eC (.str "abcdefghijklmnopqrstuvwxyz")))) (aN))))
def F_is_name : List D → R D := runF 2 G_is_name
def B__law_some_1 : Ev → SO := sIf (tV (e2 gEq (eCall 4 F__law_part (aC (eV 0) (aC (eV 1) (aC (e2 gIx (eA gLst (aC (eC (.int 1)) (aC (eC (.int 2)) (aC (eC (.int 4)) (aC (eC (.int 8)) (aN)))))) (eV 4)) (aC (eC (.int 2)) (aN)))))) (eC (.int 1)))) (sApp 3 (e2 gIx (eV 2) (eV 4))) (sN)
def G__law_some : Ev → SO := sSq (sOwn 3 (lDisp (aN))) (sSq (sFor (iR1 (eA gLen (aC (eV 2) (aN)))) (gN 4) (B__law_some_1)) (sFrz 3 (sRet (eV 3))))
def F__law_some : List D → R D := runF 5 G__law_some
def B_check_known_1 : Ev → SO := sIf (tV (e2 (gInS true) (eV 2) (eV 0))) (sBad) (sN)
def G_check_known : Ev → SO := sFor (iSq (eV 1)) (gN 2) (B_check_known_1)
def F_check_known : List D → R D := runF 3 G_check_known
noncomputable def B_check_ballot_1 : Ev → SO := sSq (sIf (tV (e2 (gInS true) (eV 3) (eV 0))) (sBad) (sN)) (sIf (tV (e2 (gInS false) (eV 3) (eSl (eV 1) (oN) (oS (eV 2))))) (sBad) (sN))
noncomputable def G_check_ballot : Ev → SO := sFor (iEn2 (eV 1)) (gT 2 (gsC (gN 2) (gsC (gN 3) (gsN)))) (B_check_ballot_1)
noncomputable def F_check_ballot : List D → R D := runF 4 G_check_ballot
noncomputable def B_checked_names_1 : Ev → SO := sSq (sIf (tAnd (tNot (tV (eCall 1 F_is_name (aC (eV 4) (aN))))) (tNot (tAnd (tV (eV 2)) (tV (e2 gEq (eV 4) (eC (.str ""))))))) (sBad) (sN)) (sIf (tV (e2 (gInS false) (eV 4) (eSl (eV 0) (oN) (oS (eV 3))))) (sBad) (sN))
noncomputable def G_checked_names : Ev → SO := sSq (sIf (tNot (tV (eChain gLe gLe (eC (.int 1)) (eA gLen (aC (eV 0) (aN))) (eV 1)))) (sBad) (sN)) (sSq (sFor (iEn2 (eV 0)) (gT 2 (gsC (gN 3) (gsC (gN 4) (gsN)))) (B_checked_names_1)) (sRet (eA gTupZ (aC (eV 0) (aN)))))
noncomputable def F_checked_names : List D → R D := runF 5 G_checked_names
noncomputable def B__law_links_1 : Ev → SO := sSq (sSet 6 (e2 gMod (eCall 4 F__law_part (aC (eV 0) (aC (e2 gAdd (eV 1) (eV 5)) (aC (eC (.int 1)) (aC (eC (.int 12)) (aN)))))) (eA gLen (aC (eV 2) (aN))))) (sSq (sSet 7 (e2 gMod (e2 gAdd (e2 gAdd (eV 6) (eC (.int 1))) (e2 gMod (eCall 4 F__law_part (aC (eV 0) (aC (e2 gAdd (eV 1) (eV 5)) (aC (eC (.int 12)) (aC (eC (.int 6)) (aN)))))) (e2 gSub (eA gLen (aC (eV 2) (aN))) (eC (.int 1))))) (eA gLen (aC (eV 2) (aN))))) (sSq (sSet 8 (eCall 4 F__law_part (aC (eV 0) (aC (e2 gAdd (eV 1) (eV 5)) (aC (eC (.int 72)) (aC (eC (.int 7)) (aN))))))) (sSq (sIf (tV (e2 gEq (eCall 4 F__law_part (aC (eV 0) (aC (e2 gAdd (eV 1) (eV 5)) (aC (eC (.int 504)) (aC (eC (.int 10)) (aN)))))) (eC (.int 9)))) (sSet 8 (e2 gSub (e2 gPow (eC (.int 10)) (eC (.int 9))) (eV 8))) (sN)) (sApp 4 (eA gTup (aC (e2 gIx (eV 2) (eV 6)) (aC (e2 gIx (eV 2) (eV 7)) (aC (eV 8) (aN)))))))))
noncomputable def G__law_links : Ev → SO := sSq (sOwn 4 (lDisp (aN))) (sSq (sIf (tV (e2 gLt (eA gLen (aC (eV 2) (aN))) (eC (.int 2)))) (sFrz 4 (sRet (eV 4))) (sN)) (sSq (sFor (iR1 (eV 3)) (gN 5) (B__law_links_1)) (sFrz 4 (sRet (eV 4)))))
noncomputable def F__law_links : List D → R D := runF 9 G__law_links
noncomputable def B_Links___init___1 : Ev → SO := sSq (sDrop (eCall 2 F_check_known (aC (eFldO [40] 0 32) (aC (eA gLst (aC (eV 3) (aC (eV 4) (aN)))) (aN))))) (sSq (sIf (tV (e2 gEq (eV 3) (eV 4))) (sBad) (sN)) (sIf (tNot (tV (eChain gLe gLe (eC (.int 0)) (eV 5) (eC (.int 1000000000))))) (sBad) (sN)))
noncomputable def G_Links___init__ : Ev → SO := sSq (sFldO [40] 0 32 (eCallK 2 0 3 F_checked_names (gDk [0, 1, 2] [.bl false]) (aC (eV 1) (aC (eC (.int 6)) (aN))) (aN))) (sSq (sIf (tV (e2 gGt (eA gLen (aC (eV 2) (aN))) (eC (.int 12)))) (sBad) (sN)) (sSq (sFor (iSq (eV 2)) (gT 3 (gsC (gN 3) (gsC (gN 4) (gsC (gN 5) (gsN))))) (B_Links___init___1)) (sFldO [40] 0 38 (eA gTuple (aC (eLc [3, 4, 5] (iSq (eV 2)) (gT 3 (gsC (gN 3) (gsC (gN 4) (gsC (gN 5) (gsN))))) (tsY) (eA gTup (aC (eV 3) (aC (eV 4) (aC (eV 5) (aN)))))) (aN))))))
noncomputable def F_Links___init__ : Addr → List D → R (List (Nat × D)) := runI 40 6 G_Links___init__
noncomputable def G_least : Ev → SO := sRet (eMinD (aC (eLc [1] (iSq (eV 0)) (gN 1) (tV (e2 gNotN (eV 1) (eC .non))) (eV 1)) (aN)) (aC (eC .non) (aN)))
noncomputable def F_least : List D → R D := runF 2 G_least
noncomputable def G_together : Ev → SO := sSq (sIf (tOr (tV (e2 gIsN (eV 0) (eC .non))) (tV (e2 gIsN (eV 1) (eC .non)))) (sRet (eC .non)) (sN)) (sRet (e2 gAdd (eV 0) (eV 1)))
noncomputable def F_together : List D → R D := runF 2 G_together
noncomputable def G_check_same_names : Ev → SO := sIf (tV (e2 gNe (e1 (gFld [64, 40] 32) (eV 0)) (e1 (gFld [64, 40] 32) (eV 1)))) (sBad) (sN)
noncomputable def F_check_same_names : List D → R D := runF 2 G_check_same_names
noncomputable def B_Tolls___init___1 : Ev → SO := sSq (sDrop (eCall 2 F_check_known (aC (eFldO [64] 0 32) (aC (eA gLst (aC (eV 4) (aC (eV 5) (aN)))) (aN))))) (sSq (sIf (tV (e2 gLt (eV 6) (eC (.int 0)))) (sBad) (sN)) (sPutT 3 (eA gTup (aC (eV 4) (aC (eV 5) (aN)))) (eBor (eCall 1 F_least (aC (eA gLst (aC (eGet1 (eV 3) (eA gTup (aC (eV 4) (aC (eV 5) (aN))))) (aC (eV 6) (aN)))) (aN))))))
noncomputable def G_Tolls___init__ : Ev → SO := sSq (sFldO [64] 0 32 (eCallK 2 1 3 F_checked_names (gDk [0, 1, 2] []) (aC (eV 1) (aC (eC (.int 6)) (aN))) (aC (eC (.bl true)) (aN)))) (sSq (sNew 3 nDT) (sSq (sFor (iSq (eV 2)) (gT 3 (gsC (gN 4) (gsC (gN 5) (gsC (gN 6) (gsN))))) (B_Tolls___init___1)) (sFrz 3 (sFldO [64] 0 80 (eV 3)))))
noncomputable def F_Tolls___init__ : Addr → List D → R (List (Nat × D)) := runI 64 7 G_Tolls___init__
noncomputable def G_table_of : Ev → SO := sSq (sOwnZ 2 (lLc2' [3, 4, 5, 6] (iZp2 (eV 0) (eV 1)) (gT 2 (gsC (gN 3) (gsC (gN 4) (gsN)))) (tsY) (iZp2 (eV 0) (eV 4)) [5, 6] (gT 2 (gsC (gN 5) (gsC (gN 6) (gsN)))) (tV (e2 gNotN (eV 6) (eC .non))) (eA gTup (aC (eV 3) (aC (eV 5) (aC (eV 6) (aN))))))) (sRet (eFrz (nMakeK 64 2 0 3 F_Tolls___init__ (gDk [0, 1] [.tp0]) (aC (eV 0) (aC (eV 2) (aN))) (aN))))
noncomputable def F_table_of : List D → R D := runF 7 G_table_of
noncomputable def G_Tolls_same : Ev → SO := sRet (eFrz (nMakeK 64 2 0 3 F_Tolls___init__ (gDk [0, 1] [.tp0]) (aC (eV 0) (aC (eLc [1] (iSq (eV 0)) (gN 1) (tsY) (eA gTup (aC (eV 1) (aC (eV 1) (aC (eC (.int 0)) (aN)))))) (aN))) (aN)))
noncomputable def F_Tolls_same : List D → R D := runF 2 G_Tolls_same
noncomputable def G_Tolls_entries : Ev → SO := sSq (sOwnZ 1 (lLc2' [2, 3] (iSq (e1 (gFld [64, 40] 32) (eV 0))) (gN 2) (tsY) (iSq (e1 (gFld [64, 40] 32) (eV 0))) [3] (gN 3) (tsY) (eA gTup (aC (eV 2) (aC (eV 3) (aN)))))) (sRet (eLc [2, 3] (iSq (eV 1)) (gT 2 (gsC (gN 2) (gsC (gN 3) (gsN)))) (tV (e2 (gInDi false) (eA gTup (aC (eV 2) (aC (eV 3) (aN)))) (e1 (gFld [64] 80) (eV 0)))) (eA gTup (aC (eV 2) (aC (eV 3) (aC (e2 gIxA (e1 (gFld [64] 80) (eV 0)) (eA gTup (aC (eV 2) (aC (eV 3) (aN))))) (aN)))))))
noncomputable def F_Tolls_entries : List D → R D := runF 4 G_Tolls_entries
noncomputable def G_Tolls___or__ : Ev → SO := sSq (sDrop (eCall 2 F_check_same_names (aC (eV 0) (aC (eV 1) (aN))))) (sRet (eFrz (nMakeK 64 2 0 3 F_Tolls___init__ (gDk [0, 1] [.tp0]) (aC (e1 (gFld [64, 40] 32) (eV 0)) (aC (e2 gAdd (eMeth 64 nF 1 F_Tolls_entries (eV 0) aN) (eMeth 64 nF 1 F_Tolls_entries (eV 1) aN)) (aN))) (aN))))
noncomputable def F_Tolls___or__ : List D → R D := runF 2 G_Tolls___or__
noncomputable def G_Tolls__after : Ev → SO := sRet (eLc [2] (iSq (e1 (gFld [64, 40] 32) (eV 0))) (gN 2) (tsY) (eCall 1 F_least (aC (eLc [3, 4] (iZp2 (e1 (gFld [64, 40] 32) (eV 0)) (eV 1)) (gT 2 (gsC (gN 3) (gsC (gN 4) (gsN)))) (tsY) (eCall 2 F_together (aC (eV 4) (aC (eGet1 (e1 (gFld [64] 80) (eV 0)) (eA gTup (aC (eV 3) (aC (eV 2) (aN))))) (aN))))) (aN))))
noncomputable def F_Tolls__after : List D → R D := runF 5 G_Tolls__after
noncomputable def G_Tolls__row : Ev → SO := sRet (eLc [2] (iSq (e1 (gFld [64, 40] 32) (eV 0))) (gN 2) (tsY) (eGet1 (e1 (gFld [64] 80) (eV 0)) (eA gTup (aC (eV 1) (aC (eV 2) (aN))))))
noncomputable def F_Tolls__row : List D → R D := runF 3 G_Tolls__row
noncomputable def G_Tolls___mul__ : Ev → SO := sSq (sDrop (eCall 2 F_check_same_names (aC (eV 0) (aC (eV 1) (aN))))) (sRet (eCall 2 F_table_of (aC (e1 (gFld [64, 40] 32) (eV 0)) (aC (eLc [2] (iSq (e1 (gFld [64, 40] 32) (eV 0))) (gN 2) (tsY) (eMeth 64 nF 2 F_Tolls__after (eV 1) (aC (eMeth 64 nF 2 F_Tolls__row (eV 0) (aC (eV 2) (aN))) (aN)))) (aN)))))
noncomputable def F_Tolls___mul__ : List D → R D := runF 3 G_Tolls___mul__
noncomputable def B_Tolls_power_1 : Ev → SO := sSq (sIf (tV (e2 gEq (e2 gMod (eV 1) (eC (.int 2))) (eC (.int 1)))) (sSet 2 (e2 (gDun2 64 F_Tolls___mul__) (eV 2) (eV 3))) (sN)) (sSq (sSet 3 (e2 (gDun2 64 F_Tolls___mul__) (eV 3) (eV 3))) (sSet 1 (e2 gDiv (eV 1) (eC (.int 2)))))
noncomputable def G_Tolls_power : Ev → SO := sSq (sIf (tNot (tV (eChain gLe gLe (eC (.int 0)) (eV 1) (eC (.int 1000000000000000000000000000000))))) (sBad) (sN)) (sSq (sSet 2 (eCallK 1 0 1 F_Tolls_same (gDk [0] []) (aC (e1 (gFld [64, 40] 32) (eV 0)) (aN)) (aN))) (sSq (sSet 3 (eV 0)) (sSq (wloop (tV (e2 gGt (eV 1) (eC (.int 0)))) (B_Tolls_power_1) 1000) (sRet (eV 2)))))
noncomputable def F_Tolls_power : List D → R D := runF 4 G_Tolls_power
noncomputable def G_Tolls_closed : Ev → SO := sSq (sSet 1 (e2 (gDun2 64 F_Tolls___or__) (eV 0) (eCallK 1 0 1 F_Tolls_same (gDk [0] []) (aC (e1 (gFld [64, 40] 32) (eV 0)) (aN)) (aN)))) (sRet (eMeth 64 nF 2 F_Tolls_power (eV 1) (aC (eA gLen (aC (e1 (gFld [64, 40] 32) (eV 0)) (aN))) (aN))))
noncomputable def F_Tolls_closed : List D → R D := runF 2 G_Tolls_closed
noncomputable def G_Links_tolls : Ev → SO := sRet (eFrz (nMakeK 64 2 0 3 F_Tolls___init__ (gDk [0, 1] [.tp0]) (aC (e1 (gFld [64, 40] 32) (eV 0)) (aC (e1 (gFld [40] 38) (eV 0)) (aN))) (aN)))
noncomputable def F_Links_tolls : List D → R D := runF 1 G_Links_tolls
noncomputable def B__law_shuffled_1 : Ev → SO := sAppPop 4 3 (eBor (e2 gMod (eCall 4 F__law_part (aC (eV 0) (aC (eV 1) (aC (e2 gIx (eA gLst (aC (eC (.int 1)) (aC (eC (.int 4)) (aC (eC (.int 12)) (aC (eC (.int 24)) (aN)))))) (eV 5)) (aC (e2 gIx (eA gLst (aC (eC (.int 4)) (aC (eC (.int 3)) (aC (eC (.int 2)) (aC (eC (.int 1)) (aN)))))) (eV 5)) (aN)))))) (eA gLen (aC (eV 3) (aN)))))
noncomputable def G__law_shuffled : Ev → SO := sSq (sOwn 3 (lList (eV 2))) (sSq (sOwn 4 (lDisp (aN))) (sSq (sFor (iR1 (eA gLen (aC (eV 2) (aN)))) (gN 5) (B__law_shuffled_1)) (sFrz 4 (sRet (eV 4)))))
noncomputable def F__law_shuffled : List D → R D := runF 6 G__law_shuffled
noncomputable def B_check_names_1 : Ev → SO := sSq (sIf (tNot (tV (eCall 1 F_is_name (aC (eV 3) (aN))))) (sBad) (sN)) (sIf (tV (e2 (gInS false) (eV 3) (eSl (eV 0) (oN) (oS (eV 2))))) (sBad) (sN))
noncomputable def G_check_names : Ev → SO := sSq (sIf (tNot (tV (eChain gLe gLe (eC (.int 1)) (eA gLen (aC (eV 0) (aN))) (eV 1)))) (sBad) (sN)) (sFor (iEn2 (eV 0)) (gT 2 (gsC (gN 2) (gsC (gN 3) (gsN)))) (B_check_names_1))
noncomputable def F_check_names : List D → R D := runF 4 G_check_names
noncomputable def G_check_range : Ev → SO := sIf (tNot (tV (eChain gLe gLe (eV 1) (eV 0) (eV 2)))) (sBad) (sN)
noncomputable def F_check_range : List D → R D := runF 3 G_check_range
noncomputable def G_Links___iter__ : Ev → SO := sRet (e1 (gFld [40] 38) (eV 0))
noncomputable def F_Links___iter__ : List D → R D := runF 1 G_Links___iter__
noncomputable def B_hand_tolls_1 : Ev → SO := sPutT 4 (eA gTup (aC (eV 5) (aC (eV 6) (aN)))) (eV 7)
noncomputable def G_hand_tolls : Ev → SO := sSq (sSet 2 (eLc [8] (iDun 40 F_Links___iter__ (eV 0)) (gN 8) (tV (e2 (gInS true) (e2 gIx (eV 8) (eC (.int 0))) (eV 1))) (eV 8))) (sSq (sSet 3 (eMeth 64 nF 1 F_Tolls_closed (eMeth 40 nF 1 F_Links_tolls (eFrz (nMakeK 40 2 0 3 F_Links___init__ (gDk [0, 1] [.tp0]) (aC (e1 (gFld [40] 32) (eV 0)) (aC (eV 2) (aN))) (aN))) aN) aN)) (sSq (sNew 4 nDT) (sSq (sFor (iSq (eMeth 64 nF 1 F_Tolls_entries (eV 3) aN)) (gT 3 (gsC (gN 5) (gsC (gN 6) (gsC (gN 7) (gsN))))) (B_hand_tolls_1)) (sFrz 4 (sRet (eV 4))))))
noncomputable def F_hand_tolls : List D → R D := runF 9 G_hand_tolls
noncomputable def B_TurnRule_Rule___init___1 : Ev → SO := sDrop (eCall 3 F_check_range (aC (eV 10) (aC (eC (.int 0)) (aC (eC (.int 1000000000)) (aN)))))
noncomputable def B_TurnRule_Rule___init___2 : Ev → SO := sSq (sSet 12 (eLc [13] (iSq (eFldT [54] 0 65)) (gN 13) (tV (e2 (gInDi false) (eA gTup (aC (eV 11) (aC (eV 13) (aN)))) (eFldT [54] 0 69))) (e2 gIxA (eFldT [54] 0 69) (eA gTup (aC (eV 11) (aC (eV 13) (aN))))))) (sPutFK [54] 0 70 (eV 11) (eMinD (aC (eV 12) (aN)) (aC (eC .non) (aN))))
noncomputable def G_TurnRule_Rule___init__ : Ev → SO := sSq (sIf (tNot (tV (eCall 1 F_is_name (aC (eV 1) (aN))))) (sBad) (sN)) (sSq (sDrop (eCall 2 F_check_names (aC (eV 2) (aC (eC (.int 4)) (aN))))) (sSq (sIf (tV (e2 gNotN (eV 3) (eC .non))) (sDrop (eCall 3 F_check_range (aC (eV 3) (aC (eC (.int 0)) (aC (eC (.int 3)) (aN)))))) (sN)) (sSq (sDrop (eCall 2 F_check_ballot (aC (eV 2) (aC (eV 4) (aN))))) (sSq (sSet 9 (eFrz (nMakeK 40 2 0 3 F_Links___init__ (gDk [0, 1] [.tp0]) (aC (eV 2) (aC (eV 5) (aN))) (aN)))) (sSq (sFor (iSq (eA gTup (aC (eV 6) (aC (eV 7) (aC (eV 8) (aN)))))) (gN 10) (B_TurnRule_Rule___init___1)) (sSq (sFldO [54] 0 14 (eV 1)) (sSq (sFldO [54] 0 30 (eA gTuple (aC (eV 2) (aN)))) (sSq (sFldO [54] 0 64 (eV 3)) (sSq (sFldO [54] 0 65 (eA gTuple (aC (eLc [11] (iSq (eV 2)) (gN 11) (tV (e2 (gInS false) (eV 11) (eV 4))) (eV 11)) (aN)))) (sSq (sFldO [54] 0 38 (eV 9)) (sSq (sFldO [54] 0 66 (eV 6)) (sSq (sFldO [54] 0 67 (eV 7)) (sSq (sFldO [54] 0 68 (eV 8)) (sSq (sFldO [54] 0 69 (eCall 2 F_hand_tolls (aC (eV 9) (aC (eFldO [54] 0 65) (aN))))) (sSq (sFldN [54] 0 70 nDK) (sSealA 0 (sFor (iSq (eV 2)) (gN 11) (B_TurnRule_Rule___init___2))))))))))))))))))
noncomputable def F_TurnRule_Rule___init__ : Addr → List D → R (List (Nat × D)) := runI 54 14 G_TurnRule_Rule___init__
noncomputable def G_TurnRule___init__ : Ev → SO := sN
noncomputable def S_TurnRule___init__ : Ev → SO := sSup 54 2 6 9 F_TurnRule_Rule___init__ (gDk [0, 1, 2, 3, 4, 5, 6, 7] []) (aC (eV 1) (aC (eV 2) (aN))) (aC (eV 3) (aC (eV 4) (aC (eV 5) (aC (eV 6) (aC (eV 7) (aC (eV 8) (aN)))))))
noncomputable def F_TurnRule___init__ : Addr → List D → R (List (Nat × D)) := runS 54 54 10 S_TurnRule___init__ G_TurnRule___init__
noncomputable def B__law_pages_1 : Ev → SO := sIf (tV (e2 (gInS false) (e2 gIx (eV 2) (eV 8)) (eV 6))) (sApp 7 (eA gTup (aC (e2 gIx (eV 2) (eV 8)) (aC (eCall 4 F__law_part (aC (eV 0) (aC (e2 gAdd (e2 gAdd (eV 1) (e2 gMul (eC (.int 3)) (eV 5))) (eC (.int 1))) (aC (e2 gIx (eA gLst (aC (eC (.int 1)) (aC (eC (.int 7)) (aC (eC (.int 49)) (aC (eC (.int 343)) (aN)))))) (eV 8)) (aC (eC (.int 7)) (aN)))))) (aN))))) (sN)
noncomputable def B__law_pages_2 : Ev → SO := sSq (sSet 6 (eV 2)) (sSq (sIf (tV (e2 gEq (eCall 4 F__law_part (aC (eV 0) (aC (e2 gAdd (eV 1) (e2 gMul (eC (.int 3)) (eV 5))) (aC (eC (.int 16)) (aC (eC (.int 4)) (aN)))))) (eC (.int 3)))) (sSet 6 (eCall 3 F__law_some (aC (eV 0) (aC (e2 gAdd (eV 1) (e2 gMul (eC (.int 3)) (eV 5))) (aC (eV 2) (aN)))))) (sN)) (sSq (sOwn 7 (lDisp (aN))) (sSq (sFor (iR1 (eA gLen (aC (eV 2) (aN)))) (gN 8) (B__law_pages_1)) (sSq (sIf (tV (e2 gEq (eCall 4 F__law_part (aC (eV 0) (aC (e2 gAdd (eV 1) (e2 gMul (eC (.int 3)) (eV 5))) (aC (eC (.int 64)) (aC (eC (.int 2)) (aN)))))) (eC (.int 1)))) (sFrz 7 (sSet 7 (e1 gRev (eV 7)))) (sN)) (sSq (sSet 9 (eCall 3 F__law_some (aC (eV 0) (aC (e2 gAdd (e2 gAdd (eV 1) (e2 gMul (eC (.int 3)) (eV 5))) (eC (.int 2))) (aC (eV 3) (aN)))))) (sSq (sIf (tAnd (tV (e2 gEq (eV 9) (eA gLst (aN)))) (tV (e2 gGt (eCall 4 F__law_part (aC (eV 0) (aC (e2 gAdd (e2 gAdd (eV 1) (e2 gMul (eC (.int 3)) (eV 5))) (eC (.int 2))) (aC (eC (.int 16)) (aC (eC (.int 5)) (aN)))))) (eC (.int 0))))) (sSet 9 (eA gLst (aC (e2 gIx (eV 3) (eV 5)) (aN)))) (sN)) (sSq (sIf (tV (e2 gEq (eCall 4 F__law_part (aC (eV 0) (aC (e2 gAdd (e2 gAdd (eV 1) (e2 gMul (eC (.int 3)) (eV 5))) (eC (.int 2))) (aC (eC (.int 80)) (aC (eC (.int 2)) (aN)))))) (eC (.int 1)))) (sSet 9 (e1 gRev (eV 9))) (sN)) (sFrz 7 (sApp 4 (eA gTup (aC (e2 gIx (eV 3) (eV 5)) (aC (eV 7) (aC (eV 9) (aN))))))))))))))
noncomputable def G__law_pages : Ev → SO := sSq (sOwn 4 (lDisp (aN))) (sSq (sFor (iR1 (eA gLen (aC (eV 3) (aN)))) (gN 5) (B__law_pages_2)) (sFrz 4 (sRet (eV 4))))
noncomputable def F__law_pages : List D → R D := runF 10 G__law_pages
noncomputable def B__law_free_1 : Ev → SO := sSq (sSet 5 (eLc [6, 7] (iSq (e2 gIx (eV 0) (eC (.int 1)))) (gT 2 (gsC (gN 6) (gsC (gN 7) (gsN)))) (tV (e2 gEq (eV 6) (eV 4))) (eV 6))) (sIf (tAnd (tV (e2 gNe (eV 5) (eA gLst (aN)))) (tV (e2 (gInS true) (eV 4) (eV 2)))) (sApp 3 (eV 4)) (sN))
noncomputable def G__law_free : Ev → SO := sSq (sOwn 3 (lDisp (aN))) (sSq (sFor (iSq (eV 1)) (gN 4) (B__law_free_1)) (sFrz 3 (sRet (eV 3))))
noncomputable def F__law_free : List D → R D := runF 8 G__law_free
noncomputable def G_TurnRule_candidates : Ev → SO := sRet (eA gTuple (aC (eLc [2] (iSq (e1 (gFld [54] 30) (eV 0))) (gN 2) (tAnd (tV (e2 (gInS false) (eV 2) (e1 (gFld [43] 46) (eV 1)))) (tV (e2 (gInS true) (eV 2) (e1 (gFld [54] 65) (eV 0))))) (eV 2)) (aN)))
noncomputable def F_TurnRule_candidates : List D → R D := runF 3 G_TurnRule_candidates
noncomputable def B_are_bids_1 : Ev → SO := sSq (sIf (tBor (tOr (tV (e2 (gInS true) (eV 3) (eV 0))) (tOr (tV (e2 (gInS false) (eV 3) (eV 2))) (tNot (tV (eChain gLe gLe (eC (.int 0)) (eV 4) (eC (.int 1000000000)))))))) (sRet (eC (.bl false))) (sN)) (sApp 2 (eV 3))
noncomputable def G_are_bids : Ev → SO := sSq (sOwn 2 (lDisp (aN))) (sSq (sFor (iSq (eV 1)) (gT 2 (gsC (gN 3) (gsC (gN 4) (gsN)))) (B_are_bids_1)) (sRet (eC (.bl true))))
noncomputable def F_are_bids : List D → R D := runF 5 G_are_bids
noncomputable def B_are_known_1 : Ev → SO := sIf (tOr (tV (e2 (gInS true) (eV 3) (eV 1))) (tV (e2 (gInS false) (eV 3) (eSl (eV 0) (oN) (oS (eV 2)))))) (sRet (eC (.bl false))) (sN)
noncomputable def G_are_known : Ev → SO := sSq (sFor (iEn2 (eV 0)) (gT 2 (gsC (gN 2) (gsC (gN 3) (gsN)))) (B_are_known_1)) (sRet (eC (.bl true)))
noncomputable def F_are_known : List D → R D := runF 4 G_are_known
noncomputable def B_check_book_1 : Ev → SO := sIf (tOr (tNot (tV (eCall 1 F_is_name (aC (eV 6) (aN))))) (tOr (tV (e2 (gInS false) (eV 6) (eSl (eV 4) (oN) (oS (eV 5))))) (tNot (tV (eCall 2 F_are_bids (aC (eV 0) (aC (eV 7) (aN)))))))) (sBad) (sN)
noncomputable def B_check_book_2 : Ev → SO := sIf (tNot (tV (eCall 2 F_are_known (aC (eV 9) (aC (eV 4) (aN)))))) (sBad) (sN)
noncomputable def G_check_book : Ev → SO := sSq (sDrop (eCall 2 F_check_names (aC (eV 0) (aC (eC (.int 4)) (aN))))) (sSq (sIf (tNot (tV (eChain gLe gLe (eC (.int 1)) (eA gLen (aC (eV 1) (aN))) (eC (.int 4))))) (sBad) (sN)) (sSq (sSet 4 (eLc [10] (iSq (eV 1)) (gN 10) (tsY) (e2 gIx (eV 10) (eC (.int 0))))) (sSq (sFor (iEn2 (eV 1)) (gT 2 (gsC (gN 5) (gsC (gT 3 (gsC (gN 6) (gsC (gN 7) (gsC (gN 8) (gsN))))) (gsN)))) (B_check_book_1)) (sSq (sFor (iEn2 (eV 1)) (gT 2 (gsC (gN 5) (gsC (gT 3 (gsC (gN 8) (gsC (gN 8) (gsC (gN 9) (gsN))))) (gsN)))) (B_check_book_2)) (sSq (sIf (tOr (tV (e2 gEq (eA gLen (aC (eV 2) (aN))) (eC (.int 0)))) (tNot (tV (eCall 2 F_are_known (aC (eV 2) (aC (eV 4) (aN))))))) (sBad) (sN)) (sIf (tNot (tV (eCall 2 F_are_known (aC (eV 3) (aC (eV 4) (aN)))))) (sBad) (sN)))))))
noncomputable def F_check_book : List D → R D := runF 11 G_check_book
noncomputable def G_Page___init__ : Ev → SO := sSq (sFldO [43] 0 14 (eV 1)) (sSq (sFldO [43] 0 45 (eA gTuple (aC (eV 2) (aN)))) (sSq (sFldO [43] 0 46 (eA gTuple (aC (eLc [5, 6] (iSq (eV 2)) (gT 2 (gsC (gN 5) (gsC (gN 6) (gsN)))) (tsY) (eV 5)) (aN)))) (sSq (sFldO [43] 0 47 (eA gTuple (aC (eV 3) (aN)))) (sFldO [43] 0 48 (eV 4)))))
noncomputable def F_Page___init__ : Addr → List D → R (List (Nat × D)) := runI 43 7 G_Page___init__
noncomputable def B_Book_page_1 : Ev → SO := sIf (tV (e2 gEq (e1 (gFld [43] 14) (eV 2)) (eV 1))) (sRet (eV 2)) (sN)
noncomputable def G_Book_page : Ev → SO := sSq (sFor (iSq (e1 (gFld [44] 50) (eV 0))) (gN 2) (B_Book_page_1)) (sBad)
noncomputable def F_Book_page : List D → R D := runF 3 G_Book_page
noncomputable def G_Book___iter__ : Ev → SO := sRet (e1 (gFld [44] 50) (eV 0))
noncomputable def F_Book___iter__ : List D → R D := runF 1 G_Book___iter__
noncomputable def B_Book___init___1 : Ev → SO := sSq (sSet 9 (eA gDict (aC (eV 7) (aN)))) (sSq (sSet 10 (eLc [12] (iSq (eV 1)) (gN 12) (tV (e2 (gInDi false) (eV 12) (eV 9))) (eA gTup (aC (eV 12) (aC (e2 gIxA (eV 9) (eV 12)) (aN)))))) (sApp 5 (eFrz (nMake 43 5 F_Page___init__ (aC (eV 6) (aC (eV 10) (aC (eV 8) (aC (e2 (gInS false) (eV 6) (eV 4)) (aN)))))))))
noncomputable def G_Book___init__ : Ev → SO := sSq (sDrop (eCall 4 F_check_book (aC (eV 1) (aC (eV 2) (aC (eV 3) (aC (eV 4) (aN))))))) (sSq (sFldO [44] 0 30 (eA gTuple (aC (eV 1) (aN)))) (sSq (sFldO [44] 0 32 (eA gTuple (aC (eLc [11] (iSq (eV 2)) (gN 11) (tsY) (e2 gIx (eV 11) (eC (.int 0)))) (aN)))) (sSq (sFldO [44] 0 49 (eA gTuple (aC (eV 3) (aN)))) (sSq (sFldO [44] 0 48 (eA gTuple (aC (eLc [6] (iSq (eFldO [44] 0 32)) (gN 6) (tV (e2 (gInS false) (eV 6) (eV 4))) (eV 6)) (aN)))) (sSq (sOwn 5 (lDisp (aN))) (sSq (sFor (iSq (eV 2)) (gT 3 (gsC (gN 6) (gsC (gN 7) (gsC (gN 8) (gsN))))) (B_Book___init___1)) (sSq (sFrz 5 (sFldO [44] 0 50 (eA gTuple (aC (eV 5) (aN))))) (sFrz 5 (sFldO [44] 0 51 (eA gTuple (aC (eLc [13] (iSq (eV 5)) (gN 13) (tsY) (eA gTup (aC (e1 (gFld [43] 14) (eV 13)) (aC (e1 (gFld [43] 45) (eV 13)) (aC (e1 (gFld [43] 47) (eV 13)) (aN)))))) (aN))))))))))))
noncomputable def F_Book___init__ : Addr → List D → R (List (Nat × D)) := runI 44 14 G_Book___init__
end Tk
namespace Tk
open PySem PySem.Spec L2 PyProof.Rows
def SO.sq (s : SO) (k : Ev → SO) : SO := match s with
  | .nx ρ => k ρ
  | r => r
def SO.lp (s : SO) (k : Ev → SO) : SO := match s with
  | .nx ρ => k ρ
  | .ct ρ => k ρ
  | .bk ρ => .nx ρ
  | r => r
section
variable {ρ : Ev} {k g : Ev → SO} {f fa fb fc : Ev → R D} {t u : Ev → R Bool} {fl : Ev → R (List D)} {d : D} {x : Ex} {i n : Nat} {s : Sl} {xs ds : List D}
@[simp] theorem sq_nx : SO.sq (.nx ρ) k = k ρ := (rfl)
@[simp] theorem sq_rt : SO.sq (.rt d) k = .rt d := (rfl)
@[simp] theorem sq_ro {s : Sl} : SO.sq (.ro s) k = .ro s := (rfl)
@[simp] theorem sq_bk : SO.sq (.bk ρ) k = .bk ρ := (rfl)
@[simp] theorem sq_ct : SO.sq (.ct ρ) k = .ct ρ := (rfl)
@[simp] theorem sq_ex : SO.sq (.ex x ρ) k = .ex x ρ := (rfl)
@[simp] theorem sq_bad : SO.sq .bad k = .bad := (rfl)
@[simp] theorem lp_nx : SO.lp (.nx ρ) k = k ρ := (rfl)
@[simp] theorem lp_ct : SO.lp (.ct ρ) k = k ρ := (rfl)
@[simp] theorem lp_bk : SO.lp (.bk ρ) k = .nx ρ := (rfl)
@[simp] theorem lp_rt : SO.lp (.rt d) k = .rt d := (rfl)
@[simp] theorem lp_ro {s : Sl} : SO.lp (.ro s) k = .ro s := (rfl)
@[simp] theorem lp_ex : SO.lp (.ex x ρ) k = .ex x ρ := (rfl)
@[simp] theorem lp_bad : SO.lp .bad k = .bad := (rfl)
@[simp] theorem sSq_ap : sSq g k ρ = SO.sq (g ρ) k := by unfold sSq SO.sq; cases g ρ <;> rfl
@[simp] theorem sN_ap : sN ρ = .nx ρ := (rfl)
@[simp] theorem sBad_ap : sBad ρ = .bad := (rfl)
@[simp] theorem sRet_ap : sRet f ρ = SO.from ρ (f ρ) .rt := (rfl)
@[simp] theorem sRetN_ap : sRetN ρ = .rt .non := (rfl)
@[simp] theorem sDrop_ap : sDrop f ρ = SO.from ρ (f ρ) fun _ => .nx ρ := (rfl)
@[simp] theorem sIf_ap : sIf t g k ρ = SO.from ρ (t ρ) fun b => if b = true then g ρ else k ρ := (rfl)
@[simp] theorem sSet_ap : sSet i f ρ = SO.from ρ (f ρ) fun d => .nx (ρ.set i (.v d)) := (rfl)
@[simp] theorem sBk_ap : sBk ρ = .bk ρ := (rfl)
@[simp] theorem sCt_ap : sCt ρ = .ct ρ := (rfl)
@[simp] theorem sAsg_ap {h : Tg} : sAsg f h ρ = SO.from ρ (f ρ) fun d => SO.ofO (h d ρ) .nx := (rfl)
@[simp] theorem ofO_none : SO.ofO none k = .bad := (rfl)
@[simp] theorem sFor_ap {h : Tg} : sFor fl h g ρ = SO.from ρ (fl ρ) fun ds => loop h g ds ρ := (rfl)
@[simp] theorem loop_nil {h : Tg} : loop h g [] ρ = .nx ρ := (rfl)
theorem loop_cons {h : Tg} : loop h g (d :: ds) ρ = SO.ofO (h d ρ) fun ρ1 => SO.lp (g ρ1) (loop h g ds) := by
  unfold loop SO.lp SO.ofO
  cases h d ρ with
  | none => rfl
  | some ρ1 =>
    show (match g ρ1 with
      | .nx ρ2 => loop h g ds ρ2
      | .ct ρ2 => loop h g ds ρ2
      | .bk ρ2 => .nx ρ2
      | r => r) = _
    cases e : g ρ1 <;> simp only [e]
theorem wloop_succ : wloop t g (n + 1) ρ = SO.from ρ (t ρ) fun b => if b = true then SO.lp (g ρ) (wloop t g n) else .nx ρ := by
  show SO.from ρ (t ρ) _ = _
  congr 1
@[simp] theorem eV_zero : eV 0 (.v d :: ρ) = .ok d := (rfl)
@[simp] theorem eV_succ : eV (i + 1) (s :: ρ) = eV i ρ := (rfl)
@[simp] theorem eC_ap : eC d ρ = .ok d := (rfl)
@[simp] theorem e1_ap {h : D → R D} : e1 h fa ρ = (fa ρ).bind h := (rfl)
@[simp] theorem e2_ap {h : D → D → R D} : e2 h fa fb ρ = (fa ρ).bind fun a => (fb ρ).bind fun b => h a b := (rfl)
@[simp] theorem eA_ap {h : List D → R D} : eA h fl ρ = (fl ρ).bind h := (rfl)
@[simp] theorem aN_ap : aN ρ = .ok [] := (rfl)
@[simp] theorem aC_ap : aC fa fl ρ = (fa ρ).bind fun a => (fl ρ).bind fun r => .ok (a :: r) := (rfl)
@[simp] theorem Bof_bl {b : Bool} : Bof (.bl b) = .ok b := (rfl)
@[simp] theorem tV_ap : tV fa ρ = (fa ρ).bind Bof := (rfl)
@[simp] theorem tAnd_ap : tAnd t u ρ = (t ρ).bind fun b => if b = true then u ρ else .ok false := (rfl)
@[simp] theorem tOr_ap : tOr t u ρ = (t ρ).bind fun b => if b = true then .ok true else u ρ := (rfl)
@[simp] theorem tNot_ap : tNot t ρ = (t ρ).bind fun b => .ok (!b) := (rfl)
@[simp] theorem eAnd_ap : eAnd fa fb ρ = (fa ρ).bind fun a => (Bof a).bind fun b => if b = true then fb ρ else .ok (.bl false) := (rfl)
@[simp] theorem eOr_ap : eOr fa fb ρ = (fa ρ).bind fun a => (Bof a).bind fun b => if b = true then .ok (.bl true) else fb ρ := (rfl)
@[simp] theorem eNot_ap : eNot fa ρ = (fa ρ).bind fun a => (Bof a).bind fun b => .ok (.bl (!b)) := (rfl)
@[simp] theorem eIf_ap : eIf t fa fb ρ = (t ρ).bind fun b => if b = true then fa ρ else fb ρ := (rfl)
@[simp] theorem eChain_ap {h h' : D → D → R D} : eChain h h' fa fb fc ρ = (fa ρ).bind fun a => (fb ρ).bind fun b => (h a b).bind fun z => (Bof z).bind fun k => if k = true then (fc ρ).bind fun c => h' b c else .ok (.bl false) := (rfl)
@[simp] theorem gN_ap : gN i d ρ = some (ρ.set i (.v d)) := (rfl)
@[simp] theorem gsN_ap : gsN [] ρ = some ρ := (rfl)
@[simp] theorem gsC_ap {h : Tg} {r : Tgs} : gsC h r (d :: ds) ρ = (h d ρ).bind fun ρ' => r ds ρ' := (rfl)
@[simp] theorem gT_ap {h : Tgs} : gT n h (.tup ds) ρ = if ds.length = n then h ds ρ else none := (rfl)
@[simp] theorem frzE_zero : frzE 0 (s :: ρ) = frzS s :: ρ := (rfl)
@[simp] theorem frzE_succ : frzE (i + 1) (s :: ρ) = s :: frzE i ρ := by
  unfold frzE
  rw [List.getElem?_cons_succ]
  cases ρ[i]? <;> rfl
@[simp] theorem frzS_l : frzS (.l xs) = .v (.lst xs) := (rfl)
@[simp] theorem frzS_v : frzS (.v d) = .v d := (rfl)
@[simp] theorem frzS_no : frzS .no = .no := (rfl)
@[simp] theorem frzA_nil : frzA [] = [] := (rfl)
@[simp] theorem frzA_cons : frzA (s :: ρ) = frzS s :: frzA ρ := (rfl)
@[simp] theorem sFrz_ap : sFrz i g ρ = g (frzE i ρ) := (rfl)
@[simp] theorem ownL_zero : ownL (.l xs :: ρ) 0 = .ok xs := (rfl)
@[simp] theorem ownL_succ : ownL (s :: ρ) (i + 1) = ownL ρ i := (rfl)
@[simp] theorem lDisp_ap : lDisp fl ρ = (fl ρ).bind fun ds => if ds.length ≤ sizeLine then .ok ds else .bad := (rfl)
@[simp] theorem lList_ap : lList f ρ = (f ρ).bind fun d => match d with
  | .lst xs => .ok xs
  | .tup xs => .ok xs
  | .scr ns => .ok (ns.map .int)
  | _ => .bad := (rfl)
@[simp] theorem sOwn_ap : sOwn i fl ρ = SO.from ρ (fl ρ) fun ds => .nx (ρ.set i (.l ds)) := (rfl)
@[simp] theorem sApp_ap : sApp i f ρ = SO.from ρ (ownL ρ i) fun xs => SO.from ρ (f ρ) fun d => if xs.length < sizeLine then .nx (ρ.set i (.l (xs ++ [d]))) else .bad := (rfl)
@[simp] theorem sMut_ap {h : List D → List D → Option (List D)} : sMut i h fl ρ = SO.from ρ (ownL ρ i) fun xs => SO.from ρ (fl ρ) fun ds => match h xs ds with
  | some xs' => .nx (ρ.set i (.l xs'))
  | none => .bad := (rfl)
@[simp] theorem sPop_ap : sPop i ρ = SO.from ρ (ownL ρ i) fun xs => if xs.length = 0 then .bad else .nx (ρ.set i (.l xs.dropLast)) := (rfl)
@[simp] theorem eBor_ap : eBor f ρ = (f (frzA ρ)).quiet.bind fun d => if scalD d = true then .ok d else .bad := (rfl)
@[simp] theorem tBor_ap : tBor t ρ = (t (frzA ρ)).quiet := (rfl)
@[simp] theorem wipeE_nil : wipeE ρ [] = ρ := (rfl)
@[simp] theorem wipeE_cons {vs : List Nat} : wipeE ρ (i :: vs) = (wipeE ρ vs).set i .no := (rfl)
@[simp] theorem eLc_ap {zs : List Nat} {h : Tg} : eLc zs fl h t f ρ = (fl ρ).bind fun ds => if ds.length ≤ sizeLine then (lcL h t f (wipeE ρ zs) ds).bind fun rs => .ok (.lst rs) else .bad := (rfl)
@[simp] theorem tsY_ap : tsY ρ = .ok true := (rfl)
@[simp] theorem iSq_ap : iSq fa ρ = (fa ρ).bind gIt := (rfl)
@[simp] theorem gIt_lst : gIt (.lst xs) = .ok xs := (rfl)
@[simp] theorem gIt_tup : gIt (.tup xs) = .ok xs := (rfl)
@[simp] theorem gIt_str {z : Str} : gIt (.str z) = .ok (signs z) := (rfl)
@[simp] theorem iR1_ap : iR1 fa ρ = (fa ρ).bind fun d => match d with
  | .int j => if small62 j then .ok (rgD 0 j.toNat) else .bad
  | _ => .bad := (rfl)
@[simp] theorem iR2_ap : iR2 fa fb ρ = (fa ρ).bind fun a => (fb ρ).bind fun b => match a, b with
  | .int i, .int j => if small62 i ∧ small62 j then .ok (rgD i (j - i).toNat) else .bad
  | _, _ => .bad := (rfl)
@[simp] theorem iEn2_ap : iEn2 fa ρ = (fa ρ).bind fun d => (optR (seqD d)).bind fun x => .ok (enumD 0 x.2) := (rfl)
@[simp] theorem iZp2_ap : iZp2 fa fb ρ = (fa ρ).bind fun a => (fb ρ).bind fun b => (optR (seqD a)).bind fun x => (optR (seqD b)).bind fun y => .ok (zipD x.2 y.2) := (rfl)
@[simp] theorem seqD_lst : seqD (.lst xs) = some (false, xs) := (rfl)
@[simp] theorem seqD_tup : seqD (.tup xs) = some (true, xs) := (rfl)
@[simp] theorem oN_ap : oN ρ = .ok none := (rfl)
@[simp] theorem oS_ap : oS f ρ = (f ρ).bind fun d => match d with
  | .int i => .ok (some i)
  | _ => .bad := (rfl)
@[simp] theorem eSl_ap {ga gb : Ev → R (Option Int)} : eSl fa ga gb ρ = (fa ρ).bind fun a => (ga ρ).bind fun l => (gb ρ).bind fun h => gSl a l h := (rfl)
@[simp] theorem eCall_ap {F : List D → R D} : eCall n F fl ρ = (fl ρ).bind fun ds => if ds.length = n then F ds else .bad := (rfl)
@[simp] theorem eCallK_ap {m p : Nat} {F : List D → R D} {gD : List D → List D → List D} {fk : Ev → R (List D)} : eCallK n m p F gD fl fk ρ = (fl ρ).bind fun ds => (fk ρ).bind fun zs => if ds.length = n ∧ zs.length = m ∧ (gD ds zs).length = p then F (gD ds zs) else .bad := (rfl)
@[simp] theorem out_nx : SO.out (.nx ρ) = .ok .non := (rfl)
@[simp] theorem out_rt : SO.out (.rt d) = .ok d := (rfl)
@[simp] theorem out_ro {s : Sl} : SO.out (.ro s) = frzR s := (rfl)
@[simp] theorem out_ex : SO.out (.ex x ρ) = .exc x := (rfl)
@[simp] theorem nL_ap : nL fl ρ = (fl ρ).bind fun ds => .ok (.l ds) := (rfl)
@[simp] theorem own_lT {xs : List D} : Sl.own (.l xs) = true := (rfl)
@[simp] theorem sNew_ap {f : Ev → R Sl} : sNew i f ρ = SO.from ρ (f ρ) fun s => if s.own = true then .nx (ρ.set i s) else .bad := (rfl)
@[simp] theorem sRetV_ap {i : Nat} : sRetV i ρ = (match ρ[i]? with
  | some s => if s.own = true then .ro s else .bad
  | none => .bad) := (rfl)
@[simp] theorem sRetF_ap {f : Ev → R Sl} : sRetF f ρ = SO.from ρ (f ρ) fun s => if s.own = true then .ro s else .bad := (rfl)
@[simp] theorem runO_ap : runO n g ds = (g (startE n ds)).outO := (rfl)
@[simp] theorem outO_ro {s : Sl} : SO.outO (.ro s) = .ok s := (rfl)
@[simp] theorem oCall_ap {F : List D → R Sl} : oCall n F fl ρ = (fl ρ).bind fun ds => if ds.length = n then F ds else .bad := (rfl)
@[simp] theorem lLc_ap {zs : List Nat} {h : Tg} {t : Ev → R Bool} {fe : Ev → R D} : lLc zs fl h t fe ρ = (fl ρ).bind fun ds => if ds.length ≤ sizeLine then (lcL h t fe (wipeE ρ zs) ds).bind fun rs => .ok rs else .bad := (rfl)
@[simp] theorem sPutL_ap {f fi : Ev → R D} : sPutL i f fi ρ = SO.from ρ (f ρ) fun d => SO.from ρ (ownL ρ i) fun xs => SO.from ρ (fi ρ) fun n => match n with
  | .int k => (match ixN xs.length k with
    | some j => .nx (ρ.set i (.l (xs.set j d)))
    | none => .bad)
  | _ => .bad := (rfl)
@[simp] theorem eOwnIx_ap {fi : Ev → R D} : eOwnIx i fi ρ = (ownL ρ i).bind fun xs => (fi ρ).bind fun n => gIx (.lst xs) n := (rfl)
@[simp] theorem frzR_l {xs : List D} : frzR (.l xs) = .ok (.lst xs) := (rfl)
@[simp] theorem runF_ap : runF n g ds = (g (startE n ds)).out := (rfl)
@[simp] theorem start_nil : startE n [] = List.replicate n .no := (rfl)
theorem start_cons : startE (n + 1) (d :: ds) = .v d :: startE n ds := by
  unfold startE
  rw [List.map_cons, List.cons_append, List.length_cons, Nat.add_sub_add_right]
@[simp] theorem start_cons' : startE n (d :: ds) = if n = 0 then .v d :: ds.map .v else .v d :: startE (n - 1) ds := by
  cases n with
  | zero => simp [startE]
  | succ n => rw [start_cons]; simp
@[simp] theorem gSub_int {i j : Int} : gSub (.int i) (.int j) = .ok (.int (i - j)) := (rfl)
@[simp] theorem gAdd_int {i j : Int} : gAdd (.int i) (.int j) = .ok (.int (i + j)) := (rfl)
@[simp] theorem gNeg_int {i : Int} : gNeg (.int i) = .ok (.int (-i)) := (rfl)
@[simp] theorem gLt_int {i j : Int} : gLt (.int i) (.int j) = .ok (.bl (decide (i < j))) := (rfl)
@[simp] theorem gLe_int {i j : Int} : gLe (.int i) (.int j) = .ok (.bl (decide (i ≤ j))) := (rfl)
@[simp] theorem gGt_int {i j : Int} : gGt (.int i) (.int j) = .ok (.bl (decide (j < i))) := (rfl)
@[simp] theorem gGe_int {i j : Int} : gGe (.int i) (.int j) = .ok (.bl (decide (j ≤ i))) := (rfl)
@[simp] theorem gEq_int {i j : Int} : gEq (.int i) (.int j) = .ok (.bl (decide (i = j))) := (rfl)
@[simp] theorem gEq_str {i j : Str} : gEq (.str i) (.str j) = .ok (.bl (decide (i = j))) := (rfl)
@[simp] theorem gEq_bl {i j : Bool} : gEq (.bl i) (.bl j) = .ok (.bl (decide (i = j))) := (rfl)
@[simp] theorem gNe_def {a b : D} : gNe a b = rNot (gEq a b) := (rfl)
@[simp] theorem rNot_bl {b : Bool} : rNot (.ok (.bl b)) = .ok (.bl (!b)) := (rfl)
@[simp] theorem gMod_int {i j : Int} (h : 0 < j) : gMod (.int i) (.int j) = .ok (.int (i % j)) := if_pos h
theorem log2_small {n : Nat} (h : n < 2 ^ 64) : n.log2 < 9000 := by
  by_cases z : n = 0
  · subst z; decide
  · exact Nat.lt_of_lt_of_le ((Nat.log2_lt z).mpr h) (by decide)
@[simp] theorem gDiv_int {i j : Int} (h : 0 < j) (h2 : j < 18446744073709551616) : gDiv (.int i) (.int j) = .ok (.int (i / j)) := if_pos ⟨h, log2_small (by omega : j.natAbs < 2 ^ 64)⟩
@[simp] theorem gMul_r {i j : Int} (h : -18446744073709551616 < j) (h2 : j < 18446744073709551616) : gMul (.int i) (.int j) = .ok (.int (i * j)) := if_pos (.inl (.inr ⟨by omega, by omega⟩))
theorem gMul_l {i j : Int} (h : -18446744073709551616 < i) (h2 : i < 18446744073709551616) : gMul (.int i) (.int j) = .ok (.int (i * j)) := if_pos (.inl (.inl ⟨by omega, by omega⟩))
@[simp] theorem gPow_int {i j : Int} (h : 0 ≤ j) (h2 : j ≤ 1000000) (h3 : -18446744073709551616 < i) (h4 : i < 18446744073709551616) : gPow (.int i) (.int j) = .ok (.int (i ^ j.toNat)) := if_pos ⟨h, h2, by omega⟩
@[simp] theorem gInt_int {i : Int} : gInt [.int i] = .ok (.int i) := (rfl)
@[simp] theorem gInt_bl {b : Bool} : gInt [.bl b] = .ok (.int (if b then 1 else 0)) := (rfl)
@[simp] theorem gAbs_int {i : Int} : gAbs [.int i] = .ok (.int (if i < 0 then -i else i)) := (rfl)
@[simp] theorem gLen_lst : gLen [.lst xs] = .ok (.int xs.length) := (rfl)
@[simp] theorem gLen_tup : gLen [.tup xs] = .ok (.int xs.length) := (rfl)
@[simp] theorem gLen_scr {ns : List Int} : gLen [.scr ns] = .ok (.int ns.length) := (rfl)
@[simp] theorem gLen_str {z : Str} (h : z.length ≤ sizeLine) : gLen [.str z] = .ok (.int z.length) := if_pos h
@[simp] theorem gMin_int {i j : Int} : gMin [.int i, .int j] = .ok (.int (if j < i then j else i)) := (rfl)
@[simp] theorem gMax_int {i j : Int} : gMax [.int i, .int j] = .ok (.int (if j > i then j else i)) := (rfl)
@[simp] theorem gList_lst : gList [.lst xs] = .ok (.lst xs) := (rfl)
@[simp] theorem gList_tup : gList [.tup xs] = .ok (.lst xs) := (rfl)
@[simp] theorem gTuple_lst : gTuple [.lst xs] = .ok (.tup xs) := (rfl)
@[simp] theorem gTuple_tup : gTuple [.tup xs] = .ok (.tup xs) := (rfl)
@[simp] theorem gIsN_non : gIsN d .non = .ok (.bl (isNon d)) := (rfl)
@[simp] theorem gNotN_non : gNotN d .non = .ok (.bl (!isNon d)) := (rfl)
@[simp] theorem gRev_lst : gRev (.lst xs) = .ok (.lst xs.reverse) := (rfl)
@[simp] theorem gRev_tup : gRev (.tup xs) = .ok (.tup xs.reverse) := (rfl)
theorem atI_nn {α : Type} {l : List α} {j : Int} (h : 0 ≤ j) (h2 : j < l.length) : L2.atI l j = l[j.toNat]? := by
  unfold L2.atI L2.ixN
  rw [if_pos h, if_pos h2]
  rfl
theorem gIx_lst {j : Int} (h : 0 ≤ j) (h2 : j < xs.length) : gIx (.lst xs) (.int j) = optR xs[j.toNat]? := by
  show optR (L2.atI xs j) = _
  rw [atI_nn h h2]
theorem gIx_tup {j : Int} (h : 0 ≤ j) (h2 : j < xs.length) : gIx (.tup xs) (.int j) = optR xs[j.toNat]? := by
  show optR (L2.atI xs j) = _
  rw [atI_nn h h2]
theorem gIx_map {α : Type} {inj : α → D} {l : List α} {j : Int} {a : α} (h : 0 ≤ j) (e : l[j.toNat]? = some a) : gIx (.lst (l.map inj)) (.int j) = .ok (inj a) := by
  have h2 : j.toNat < l.length := (List.getElem?_eq_some_iff.mp e).1
  rw [gIx_lst h (by rw [List.length_map]; omega), List.getElem?_map, e]
  rfl
theorem gIx_getD {l : List Int} {j : Int} (h : 0 ≤ j) (h2 : j < l.length) : gIx (.lst (l.map .int)) (.int j) = .ok (.int (l.getD j.toNat 0)) := by
  refine gIx_map h ?_
  rw [List.getD_eq_getElem?_getD]
  have : j.toNat < l.length := by omega
  rw [List.getElem?_eq_getElem this]
  rfl
theorem gIx_scr {l : List Int} {j : Int} (h : 0 ≤ j) (h2 : j < l.length) : gIx (.scr l) (.int j) = .ok (.int (l.getD j.toNat 0)) := by
  show (optR (L2.atI l j)).bind _ = _
  rw [atI_nn h h2, List.getD_eq_getElem?_getD, List.getElem?_eq_getElem (by omega : j.toNat < l.length)]
  rfl
end
def SO.goes (s : SO) (P : Ev → Prop) : Prop := match s with
  | .nx ρ => P ρ
  | .ct ρ => P ρ
  | _ => False
@[simp] theorem goes_nx {ρ : Ev} {P : Ev → Prop} : SO.goes (.nx ρ) P = P ρ := (rfl)
@[simp] theorem goes_ct {ρ : Ev} {P : Ev → Prop} : SO.goes (.ct ρ) P = P ρ := (rfl)
theorem loop_inv {h : Tg} {body : Ev → SO} (I : Nat → Ev → Prop) : ∀ {ds : List D} {ρ : Ev} (m : Nat), I m ρ → (∀ i d ρ, ds[i]? = some d → I (m + i) ρ → ∃ ρ1, h d ρ = some ρ1 ∧ SO.goes (body ρ1) (I (m + i + 1))) → ∃ ρ', loop h body ds ρ = .nx ρ' ∧ I (m + ds.length) ρ'
  | [], ρ, m, h0, _ => ⟨ρ, rfl, h0⟩
  | d :: ds, ρ, m, h0, hs => by
    obtain ⟨ρ1, e1, e2⟩ := hs 0 d ρ rfl h0
    rw [loop_cons, e1, ofO_some]
    have go : ∀ ρ2, I (m + 1) ρ2 → ∃ ρ', loop h body ds ρ2 = .nx ρ' ∧ I (m + (d :: ds).length) ρ' := fun ρ2 h2 => by
      obtain ⟨ρ', e3, e4⟩ := loop_inv I (ds := ds) (ρ := ρ2) (m + 1) h2 fun i d' ρ q hI => by
        have := hs (i + 1) d' ρ (by simpa using q) (by rw [show m + (i + 1) = m + 1 + i by omega]; exact hI)
        rw [show m + (i + 1) + 1 = m + 1 + i + 1 by omega] at this
        exact this
      exact ⟨ρ', e3, by rw [List.length_cons, show m + (ds.length + 1) = m + 1 + ds.length by omega]; exact e4⟩
    cases z : body ρ1 with
    | nx ρ2 => rw [z] at e2; exact go ρ2 e2
    | ct ρ2 => rw [z] at e2; exact go ρ2 e2
    | rt d => rw [z] at e2; exact e2.elim
    | bk d => rw [z] at e2; exact e2.elim
    | ro d => rw [z] at e2; exact e2.elim
    | ex x d => rw [z] at e2; exact e2.elim
    | bad => rw [z] at e2; exact e2.elim
theorem rgD_get {lo : Int} {n i : Nat} {d : D} (h : (rgD lo n)[i]? = some d) : i < n ∧ d = .int (lo + i) := by
  unfold rgD at h
  rw [List.getElem?_map] at h
  obtain ⟨k, h1, rfl⟩ := Option.map_eq_some_iff.mp h
  obtain ⟨h2, h3⟩ := List.getElem?_eq_some_iff.mp h1
  rw [List.length_range] at h2
  rw [List.getElem_range] at h3
  subst h3
  exact ⟨h2, rfl⟩
@[simp] theorem rgD_len {lo : Int} {n : Nat} : (rgD lo n).length = n := by unfold rgD; simp
theorem loop_rg {h : Tg} {body : Ev → SO} (I : Nat → Ev → Prop) {lo : Int} {n : Nat} {ρ : Ev} (h0 : I 0 ρ) (hs : ∀ i ρ, i < n → I i ρ → ∃ ρ1, h (.int (lo + i)) ρ = some ρ1 ∧ SO.goes (body ρ1) (I (i + 1))) : ∃ ρ', loop h body (rgD lo n) ρ = .nx ρ' ∧ I n ρ' := by
  obtain ⟨ρ', e1, e2⟩ := loop_inv I (ds := rgD lo n) (ρ := ρ) 0 h0 fun i d ρ q hI => by
    obtain ⟨q1, rfl⟩ := rgD_get q
    rw [Nat.zero_add] at hI ⊢
    exact hs i ρ q1 hI
  rw [rgD_len, Nat.zero_add] at e2
  exact ⟨ρ', e1, e2⟩
theorem loop_map {α : Type} {inj : α → D} {h : Tg} {body : Ev → SO} (I : Nat → Ev → Prop) {l : List α} {ρ : Ev} (h0 : I 0 ρ) (hs : ∀ i a ρ, l[i]? = some a → I i ρ → ∃ ρ1, h (inj a) ρ = some ρ1 ∧ SO.goes (body ρ1) (I (i + 1))) : ∃ ρ', loop h body (l.map inj) ρ = .nx ρ' ∧ I l.length ρ' := by
  obtain ⟨ρ', e1, e2⟩ := loop_inv I (ds := l.map inj) (ρ := ρ) 0 h0 fun i d ρ q hI => by
    rw [List.getElem?_map] at q
    obtain ⟨a, q1, rfl⟩ := Option.map_eq_some_iff.mp q
    rw [Nat.zero_add] at hI ⊢
    exact hs i a ρ q1 hI
  rw [List.length_map, Nat.zero_add] at e2
  exact ⟨ρ', e1, e2⟩
theorem lc_map {α : Type} {inj : α → D} {h : Tg} {t : Ev → R Bool} {fe : Ev → R D} {ρ : Ev} (p : α → Bool) (f : α → D) : ∀ {l : List α}, (∀ a ∈ l, ∃ ρ1, h (inj a) ρ = some ρ1 ∧ t ρ1 = .ok (p a) ∧ (p a = true → fe ρ1 = .ok (f a))) → lcL h t fe ρ (l.map inj) = .ok ((l.filter p).map f)
  | [], _ => rfl
  | a :: l, H => by
    obtain ⟨ρ1, e1, e2, e3⟩ := H a List.mem_cons_self
    have ih := lc_map p f (l := l) fun b m => H b (List.mem_cons_of_mem _ m)
    show (optR (h (inj a) ρ)).bind _ = _
    rw [e1]
    simp only [optR_some, bind_ok, e2, quiet_ok]
    cases z : p a with
    | true => rw [if_pos rfl, e3 z, quiet_ok, bind_ok, ih, bind_ok, List.filter_cons_of_pos z, List.map_cons]
    | false => rw [if_neg Bool.false_ne_true, ih, List.filter_cons_of_neg (by rw [z]; decide)]
end Tk
namespace Tk
open PySem PySem.Spec L2 PyProof.Rows
def part (ps : List Int) (spot under size : Int) : Int := ps.getD spot.toNat 0 / under % size
theorem part_ok {ps : List Int} {spot under size : Int} (h0 : 0 ≤ spot) (h1 : spot < ps.length) (hu : 0 < under) (hu2 : under < 18446744073709551616) (hs : 0 < size) : F__law_part [.lst (ps.map .int), .int spot, .int under, .int size] = .ok (.int (part ps spot under size)) := by
  unfold F__law_part G__law_part
  simp [gIx_getD h0 h1, hu, hu2, hs]
  rfl
theorem part_lo {ps : List Int} {spot under size : Int} (hs : 0 < size) : 0 ≤ part ps spot under size := Int.emod_nonneg _ (by omega)
theorem part_hi {ps : List Int} {spot under size : Int} (hs : 0 < size) : part ps spot under size < size := Int.emod_lt_of_pos _ hs
theorem small_rg {j : Int} (h : 0 ≤ j) (h2 : j < 4611686018427387904) : small62 j := by unfold small62; omega
theorem cell_step {ns : List Int} {k : Int} (s : Sl) (v : Int) {i : Nat} (hi : i < ns.length) : B__law_cell_1 [.v (.scr ns), .v (.int k), .v (.int v), .v (.int (0 + (i : Int)))] = .nx [.v (.scr ns), .v (.int k), .v (.int ((v + ((i : Int) + 3) * ((if ns.getD i 0 < 0 then -ns.getD i 0 else ns.getD i 0) % 1000003) * 31) % 1000003)), .v (.int (i : Int))] := by
  unfold B__law_cell_1
  have q : ∀ z : Int, gMul (.int ((i : Int) + 3)) (.int (z % 1000003)) = .ok (.int (((i : Int) + 3) * (z % 1000003))) := fun z => gMul_r (by omega) (by omega)
  simp [gIx_scr (l := ns) (j := (i : Int)) (by omega) (by omega), q]
theorem cell_loop {ns : List Int} {k v0 : Int} : ∃ v s, loop (gN 3) B__law_cell_1 (rgD 0 ns.length) [.v (.scr ns), .v (.int k), .v (.int v0), .no] = .nx [.v (.scr ns), .v (.int k), .v (.int v), s] := by
  obtain ⟨ρ', e, s, v, rfl⟩ := loop_rg (h := gN 3) (body := B__law_cell_1) (lo := 0) (n := ns.length) (ρ := [.v (.scr ns), .v (.int k), .v (.int v0), .no])
      (fun _ ρ => ∃ (s : Sl) (v : Int), ρ = [.v (.scr ns), .v (.int k), .v (.int v), s]) ⟨_, _, rfl⟩ (by
        rintro i ρ hi ⟨s, v, rfl⟩
        refine ⟨_, rfl, ?_⟩
        show SO.goes (B__law_cell_1 [.v (.scr ns), .v (.int k), .v (.int v), .v (.int (0 + (i : Int)))]) _
        rw [cell_step s v hi]
        exact ⟨_, _, rfl⟩)
  exact ⟨v, s, e⟩
theorem cell_ok {ns : List Int} {k : Int} (h0 : 0 ≤ k) (hl : ns.length < 4611686018427387904) : ∃ v : Int, F__law_cell [.scr ns, .int k] = .ok (.int v) := by
  unfold F__law_cell G__law_cell
  by_cases c : k < (ns.length : Int)
  · refine ⟨ns.getD k.toNat 0, ?_⟩
    simp [c, gIx_scr h0 c]
  · obtain ⟨v, s, e⟩ := cell_loop (ns := ns) (k := k) (v0 := 7919 * (k + 1))
    refine ⟨v, ?_⟩
    have c2 : small62 (ns.length : Int) := small_rg (by omega) (by omega)
    have c3 : gMul (.int 7919) (.int (k + 1)) = .ok (.int (7919 * (k + 1))) := gMul_l (by decide) (by decide)
    simp [c, c3, c2, e]
def mixA (c k : Int) : Int := ((if c < 0 then -c else c) % 2147483647 * 48271 + (k + 1) * 69621) % 2147483647
def mixB (x k : Int) : Int := (x * (x % 46337 + 16807) + (k + 7) * 7919) % 2147483629
def mixC (x : Int) : Int := x * (x % 32749 + 48271) % 2147483647
theorem mixed_eq {c k : Int} (h0 : 0 ≤ k) (hk : k < 1000000) : F__law_mixed [.int c, .int k] = .ok (.int (mixC (mixB (mixA c k) k) / 11)) := by
  unfold F__law_mixed G__law_mixed
  have q1 : ∀ x : Int, -18446744073709551616 < x % 46337 + 16807 ∧ x % 46337 + 16807 < 18446744073709551616 := fun x => ⟨by omega, by omega⟩
  have q2 : ∀ x : Int, -18446744073709551616 < x % 32749 + 48271 ∧ x % 32749 + 48271 < 18446744073709551616 := fun x => ⟨by omega, by omega⟩
  simp [gMul_r, q1, q2, mixA, mixB, mixC]
theorem mixed_ok {c k : Int} (h0 : 0 ≤ k) (hk : k < 1000000) : ∃ v : Int, 0 ≤ v ∧ v < 2147483648 ∧ F__law_mixed [.int c, .int k] = .ok (.int v) := by
  refine ⟨_, ?_, ?_, mixed_eq h0 hk⟩
  · unfold mixC; omega
  · unfold mixC; omega
theorem pool_ok {c n : Int} (hn : 0 ≤ n) (hn2 : n < 1000000) : ∃ ps : List Int, ps.length = n.toNat ∧ (∀ p ∈ ps, 0 ≤ p ∧ p < 2147483648) ∧ F__law_pool [.int c, .int n] = .ok (.lst (ps.map .int)) := by
  unfold F__law_pool G__law_pool
  generalize hr : (if c < 0 then -c else c) = rest
  have hr0 : 0 ≤ rest := by subst hr; split <;> omega
  obtain ⟨ρ', e, s, r2, ps, _, hl, hp, rfl⟩ := loop_rg (h := gN 5) (body := B__law_pool_1) (lo := 0) (n := n.toNat) (ρ := [.v (.int c), .v (.int n), .v (.int rest), .v (.bl (decide (1000000000000000000 ≤ rest))), .l [], .no])
    (fun i ρ => ∃ (s : Sl) (r : Int) (ps : List Int), 0 ≤ r ∧ ps.length = i ∧ (∀ p ∈ ps, 0 ≤ p ∧ p < 2147483648) ∧ ρ = [.v (.int c), .v (.int n), .v (.int r), .v (.bl (decide (1000000000000000000 ≤ rest))), .l (ps.map .int), s])
    ⟨.no, rest, [], hr0, rfl, (fun p m => nomatch m), rfl⟩ (by
      rintro i ρ hi ⟨s, r, ps, hr1, hl, hp, rfl⟩
      refine ⟨_, rfl, ?_⟩
      have si : i < sizeLine := by unfold sizeLine; omega
      unfold B__law_pool_1
      by_cases q : 1000000000000000000 ≤ rest ∧ 0 < r
      · have st : sIf (tAnd (tV (eV 3)) (tV (e2 gGt (eV 2) (eC (.int 0))))) (sSq (sApp 4 (e2 gMod (eV 2) (eC (.int 5040)))) (sSet 2 (e2 gDiv (eV 2) (eC (.int 5040))))) (sApp 4 (eCall 2 F__law_mixed (aC (eV 0) (aC (eV 5) (aN))))) [.v (.int c), .v (.int n), .v (.int r), .v (.bl (decide (1000000000000000000 ≤ rest))), .l (ps.map .int), .v (.int (0 + (i : Int)))] =
            .nx [.v (.int c), .v (.int n), .v (.int (r / 5040)), .v (.bl (decide (1000000000000000000 ≤ rest))), .l ((ps ++ [r % 5040]).map .int), .v (.int (i : Int))] := by
          simp [q.1, q.2, hl, si]
        show SO.goes (sIf _ _ _ [.v (.int c), .v (.int n), .v (.int r), .v (.bl (decide (1000000000000000000 ≤ rest))), .l (ps.map .int), .v (.int (0 + (i : Int)))]) _
        rw [st]
        refine ⟨_, _, _, by omega, ?_, ?_, rfl⟩
        · rw [List.length_append, hl]; rfl
        · intro p m
          rcases List.mem_append.mp m with m | m
          · exact hp p m
          · rw [List.mem_singleton.mp m]; omega
      · obtain ⟨v, v1, v2, ve⟩ := mixed_ok (c := c) (k := (i : Int)) (by omega) (by omega)
        have st : sIf (tAnd (tV (eV 3)) (tV (e2 gGt (eV 2) (eC (.int 0))))) (sSq (sApp 4 (e2 gMod (eV 2) (eC (.int 5040)))) (sSet 2 (e2 gDiv (eV 2) (eC (.int 5040))))) (sApp 4 (eCall 2 F__law_mixed (aC (eV 0) (aC (eV 5) (aN))))) [.v (.int c), .v (.int n), .v (.int r), .v (.bl (decide (1000000000000000000 ≤ rest))), .l (ps.map .int), .v (.int (0 + (i : Int)))] =
            .nx [.v (.int c), .v (.int n), .v (.int r), .v (.bl (decide (1000000000000000000 ≤ rest))), .l ((ps ++ [v]).map .int), .v (.int (i : Int))] := by
          by_cases q1 : 1000000000000000000 ≤ rest
          · have q2 : ¬ 0 < r := fun z => q ⟨q1, z⟩
            simp [q1, q2, hl, ve, si]
          · simp [q1, hl, ve]
            unfold sizeLine
            omega
        show SO.goes (sIf _ _ _ [.v (.int c), .v (.int n), .v (.int r), .v (.bl (decide (1000000000000000000 ≤ rest))), .l (ps.map .int), .v (.int (0 + (i : Int)))]) _
        rw [st]
        refine ⟨_, _, _, hr1, ?_, ?_, rfl⟩
        · rw [List.length_append, hl]; rfl
        · intro p m
          rcases List.mem_append.mp m with m | m
          · exact hp p m
          · rw [List.mem_singleton.mp m]; omega)
  refine ⟨ps, hl, hp, ?_⟩
  have sm : small62 n := small_rg hn (by omega)
  simp [hr, sm, e]
theorem gIsi_of {d : D} {t n : String} {b : Bool} (h1 : tyD d = some t) (h2 : kitB t n = some b) : gIsi [d, .ty n] = .ok (.bl b) := by
  show (optR ((tyD d).bind fun t => kitB t n)).bind _ = _
  rw [h1, Option.bind_some, h2]
  rfl
theorem kb1 : kitB "int" "int" = some true := by decide +kernel
theorem kb2 : kitB "int" "bool" = some false := by decide +kernel
theorem kb3 : kitB "str" "int" = some false := by decide +kernel
theorem kb4 : kitB "str" "str" = some true := by decide +kernel
theorem kb5 : kitB "list" "int" = some false := by decide +kernel
theorem kb6 : kitB "list" "str" = some false := by decide +kernel
theorem kb7 : kitB "list" "tuple" = some false := by decide +kernel
theorem kb8 : kitB "list" "list" = some true := by decide +kernel
theorem kb9 : kitB "tuple" "int" = some false := by decide +kernel
theorem kb10 : kitB "tuple" "str" = some false := by decide +kernel
theorem kb11 : kitB "tuple" "tuple" = some true := by decide +kernel
theorem kb12 : kitB "tuple" "list" = some false := by decide +kernel
section
variable {i : Int} {z : Str} {xs : List D}
@[simp] theorem is1 : gIsi [.int i, .ty "int"] = .ok (.bl true) := gIsi_of rfl kb1
@[simp] theorem is2 : gIsi [.int i, .ty "bool"] = .ok (.bl false) := gIsi_of rfl kb2
@[simp] theorem is3 : gIsi [.str z, .ty "int"] = .ok (.bl false) := gIsi_of rfl kb3
@[simp] theorem is4 : gIsi [.str z, .ty "str"] = .ok (.bl true) := gIsi_of rfl kb4
@[simp] theorem is5 : gIsi [.lst xs, .ty "int"] = .ok (.bl false) := gIsi_of rfl kb5
@[simp] theorem is6 : gIsi [.lst xs, .ty "str"] = .ok (.bl false) := gIsi_of rfl kb6
@[simp] theorem is7 : gIsi [.lst xs, .ty "tuple"] = .ok (.bl false) := gIsi_of rfl kb7
@[simp] theorem is8 : gIsi [.lst xs, .ty "list"] = .ok (.bl true) := gIsi_of rfl kb8
@[simp] theorem is9 : gIsi [.tup xs, .ty "int"] = .ok (.bl false) := gIsi_of rfl kb9
@[simp] theorem is10 : gIsi [.tup xs, .ty "str"] = .ok (.bl false) := gIsi_of rfl kb10
@[simp] theorem is11 : gIsi [.tup xs, .ty "tuple"] = .ok (.bl true) := gIsi_of rfl kb11
@[simp] theorem is12 : gIsi [.tup xs, .ty "list"] = .ok (.bl false) := gIsi_of rfl kb12
@[simp] theorem ib1 {b : Bool} : gIsB false .non (.bl b) = .ok (.bl false) := (rfl)
@[simp] theorem ib2 {a b : Bool} : gIsB false (.bl a) (.bl b) = .ok (.bl (decide (a = b))) := (rfl)
@[simp] theorem ib3 {b : Bool} : gIsB false (.int i) (.bl b) = .ok (.bl false) := (rfl)
@[simp] theorem ib4 {b : Bool} : gIsB false (.str z) (.bl b) = .ok (.bl false) := (rfl)
@[simp] theorem ib5 {b : Bool} : gIsB false (.lst xs) (.bl b) = .ok (.bl false) := (rfl)
@[simp] theorem ib6 {b : Bool} : gIsB false (.tup xs) (.bl b) = .ok (.bl false) := (rfl)
end
@[simp] theorem isNon_bl {b : Bool} : isNon (.bl b) = false := rfl
@[simp] theorem isNon_int {b : Int} : isNon (.int b) = false := rfl
@[simp] theorem isNon_str {b : Str} : isNon (.str b) = false := rfl
@[simp] theorem isNon_lst {b : List D} : isNon (.lst b) = false := rfl
@[simp] theorem isNon_tup {b : List D} : isNon (.tup b) = false := rfl
@[simp] theorem isNon_non : isNon .non = true := rfl
mutual
def plainD : Nat → D → Bool
  | _, .non => true
  | _, .bl _ => true
  | _, .int _ => true
  | _, .str _ => true
  | n + 1, .lst xs => decide (xs.length ≤ 1000000) && plainL n xs
  | n + 1, .tup xs => decide (xs.length ≤ 1000000) && plainL n xs
  | _, _ => false
def plainL : Nat → List D → Bool
  | _, [] => true
  | n, d :: ds => plainD n d && plainL n ds
end
theorem plainL_all {n : Nat} : ∀ {ds : List D}, plainL n ds = true ↔ ∀ d ∈ ds, plainD n d = true
  | [] => by simp [plainL]
  | d :: ds => by simp [plainL, plainL_all (ds := ds)]
theorem integer_ok {i : Int} : F__law_integer [.int i] = .ok (.bl true) := by
  unfold F__law_integer G__law_integer
  simp
theorem same_loop {n : Nat} {xs : List D} {f : List D → D} (hf : f = .lst ∨ f = .tup) (ih : ∀ d ∈ xs, Fr__law_same n [d, d] = .ok (.bl true)) : ∃ s, loop (gN 2) (B__law_same_1 (Fr__law_same n)) (rgD 0 xs.length) [.v (f xs), .v (f xs), .no] = .nx [.v (f xs), .v (f xs), s] := by
  obtain ⟨ρ', e, s, rfl⟩ := loop_rg (h := gN 2) (body := B__law_same_1 (Fr__law_same n)) (lo := 0) (n := xs.length) (ρ := [.v (f xs), .v (f xs), .no]) (fun _ ρ => ∃ s : Sl, ρ = [.v (f xs), .v (f xs), s]) ⟨_, rfl⟩ (by
    rintro i ρ hi ⟨s, rfl⟩
    refine ⟨_, rfl, ?_⟩
    have g : gIx (f xs) (.int (i : Int)) = .ok xs[i] := by
      rcases hf with rfl | rfl
      · rw [gIx_lst (by omega) (by omega), Int.toNat_natCast, List.getElem?_eq_getElem hi]; rfl
      · rw [gIx_tup (by omega) (by omega), Int.toNat_natCast, List.getElem?_eq_getElem hi]; rfl
    have h := ih xs[i] (List.getElem_mem hi)
    unfold B__law_same_1
    simp [g, h])
  exact ⟨s, e⟩
theorem same_n : ∀ (n : Nat) {d : D}, plainD n d = true → Fr__law_same (n + 1) [d, d] = .ok (.bl true)
  | n, .non, _ => by
    show runF 3 (G__law_same (Fr__law_same n)) [.non, .non] = _
    unfold G__law_same
    simp
  | n, .bl b, _ => by
    show runF 3 (G__law_same (Fr__law_same n)) [.bl b, .bl b] = _
    unfold G__law_same
    cases b <;> simp
  | n, .int i, _ => by
    show runF 3 (G__law_same (Fr__law_same n)) [.int i, .int i] = _
    unfold G__law_same
    simp [integer_ok]
  | n, .str i, _ => by
    show runF 3 (G__law_same (Fr__law_same n)) [.str i, .str i] = _
    unfold G__law_same
    simp
  | n + 1, .lst xs, h => by
    have h2 : (decide (xs.length ≤ 1000000) && plainL n xs) = true := h
    rw [Bool.and_eq_true, decide_eq_true_eq, plainL_all] at h2
    obtain ⟨s, e⟩ := same_loop (n := n + 1) (xs := xs) (f := .lst) (.inl rfl) fun d m => same_n n (h2.2 d m)
    have sm : small62 (xs.length : Int) := small_rg (by omega) (by omega)
    show runF 3 (G__law_same (Fr__law_same (n + 1))) [.lst xs, .lst xs] = _
    unfold G__law_same
    simp [sm, e]
  | n + 1, .tup xs, h => by
    have h2 : (decide (xs.length ≤ 1000000) && plainL n xs) = true := h
    rw [Bool.and_eq_true, decide_eq_true_eq, plainL_all] at h2
    obtain ⟨s, e⟩ := same_loop (n := n + 1) (xs := xs) (f := .tup) (.inr rfl) fun d m => same_n n (h2.2 d m)
    have sm : small62 (xs.length : Int) := small_rg (by omega) (by omega)
    show runF 3 (G__law_same (Fr__law_same (n + 1))) [.tup xs, .tup xs] = _
    unfold G__law_same
    simp [sm, e]
theorem same_ok {d : D} (h : plainD 5 d = true) : F__law_same [d, d] = .ok (.bl true) := same_n 5 h
end Tk
namespace Tk
open PySem PySem.Spec L2 PyProof.Rows
abbrev S (l : List Nat) : Str := ⟨l.toArray⟩
theorem S_add (a b : List Nat) : S a ++ S b = S (a ++ b) := by
  show (⟨a.toArray ++ b.toArray⟩ : Str) = _
  simp
theorem S_len (a : List Nat) : (S a).length = a.length := by
  show (Array.size a.toArray) = _
  simp
theorem S_inj {a b : List Nat} (h : S a = S b) : a = b := by
  have := congrArg (fun z : Str => z.cps.toList) h
  simpa using this
theorem S_cut_hi {l : List Nat} {v : Int} (h : 0 ≤ v) : cutS (S l) none (some v) = S (l.take v.toNat) := by
  have e : HT.sIx (S l).length (S l).length (some v) = min v.toNat l.length := by
    show (if v < 0 then (v + ((S l).length : Int)).toNat else min v.toNat (S l).length) = _
    rw [if_neg (by omega), S_len]
  unfold cutS
  rw [e, HT.sIx_none, List.drop_zero, Nat.sub_zero]
  show S (l.take (min v.toNat l.length)) = _
  rw [← List.take_eq_take_min]
theorem S_cut_lo {l : List Nat} {v : Int} (h : 0 ≤ v) : cutS (S l) (some v) none = S (l.drop v.toNat) := by
  have e : HT.sIx (S l).length 0 (some v) = min v.toNat l.length := by
    show (if v < 0 then (v + ((S l).length : Int)).toNat else min v.toNat (S l).length) = _
    rw [if_neg (by omega), S_len]
  unfold cutS
  rw [e, HT.sIx_none, S_len]
  show S ((l.drop (min v.toNat l.length)).take (l.length - min v.toNat l.length)) = _
  by_cases c : v.toNat ≤ l.length
  · rw [Nat.min_eq_left c, List.take_of_length_le (by rw [List.length_drop]; omega)]
  · rw [Nat.min_eq_right (by omega), List.drop_eq_nil_of_le (by omega : l.length ≤ v.toNat), List.drop_length]
    rw [Nat.sub_self]
    rfl
theorem sz24 : sizeLine = 16777216 := rfl
theorem gAdd_S {a b : List Nat} (h : a.length + b.length ≤ 1000000) : gAdd (.str (S a)) (.str (S b)) = .ok (.str (S (a ++ b))) := by
  show (if (S a).length + (S b).length ≤ sizeLine then R.ok (D.str (S a ++ S b)) else .bad) = _
  rw [if_pos (by rw [S_len, S_len, sz24]; omega), S_add]
theorem gSl_hi {l : List Nat} {v : Int} (h : 0 ≤ v) (hl : l.length ≤ 1000000) : gSl (.str (S l)) none (some v) = .ok (.str (S (l.take v.toNat))) := by
  show (if (S l).length ≤ sizeLine then R.ok (D.str (cutS (S l) none (some v))) else .bad) = _
  rw [if_pos (by rw [S_len, sz24]; omega), S_cut_hi h]
theorem gSl_lo {l : List Nat} {v : Int} (h : 0 ≤ v) (hl : l.length ≤ 1000000) : gSl (.str (S l)) (some v) none = .ok (.str (S (l.drop v.toNat))) := by
  show (if (S l).length ≤ sizeLine then R.ok (D.str (cutS (S l) (some v) none)) else .bad) = _
  rw [if_pos (by rw [S_len, sz24]; omega), S_cut_lo h]
theorem gIx_S {l : List Nat} {v : Int} (h : 0 ≤ v) (h2 : v < l.length) (hl : l.length ≤ 1000000) : gIx (.str (S l)) (.int v) = .ok (.str (S [l.getD v.toNat 0])) := by
  show (if (S l).length ≤ sizeLine then (optR (L2.atI l v)).bind fun c => R.ok (D.str ⟨#[c]⟩) else .bad) = _
  rw [if_pos (by rw [S_len, sz24]; omega), atI_nn h h2, List.getD_eq_getElem?_getD, List.getElem?_eq_getElem (by omega : v.toNat < l.length)]
  rfl
def abc : List Nat := (List.range 26).map (· + 97)
theorem abc_eq : (Str.ofString "abcdefghijklmnopqrstuvwxyz") = S abc := by decide +kernel
theorem none_eq : (Str.ofString "") = S [] := by decide +kernel
theorem abc_len : abc.length = 26 := rfl
theorem abc_get {v : Nat} (h : v < 26) : abc.getD v 0 = v + 97 := by
  unfold abc
  rw [List.getD_eq_getElem?_getD, List.getElem?_map, List.getElem?_range h]
  rfl
theorem gIx_abc {v : Int} (h : 0 ≤ v) (h2 : v < 26) : gIx (.str (S abc)) (.int v) = .ok (.str (S [v.toNat + 97])) := by
  rw [gIx_S h (by rw [abc_len]; omega) (by rw [abc_len]; omega), abc_get (by omega)]
def low (l : List Nat) : Prop := ∀ c ∈ l, 97 ≤ c ∧ c ≤ 122
def okName (w : List Nat) : Prop := 1 ≤ w.length ∧ w.length ≤ 8 ∧ low w
theorem low_app {a b : List Nat} (h : low a) (h' : low b) : low (a ++ b) := fun c m => (List.mem_append.mp m).elim (h c) (h' c)
theorem low_one {c : Nat} (h : 97 ≤ c) (h' : c ≤ 122) : low [c] := fun d m => by rw [List.mem_singleton.mp m]; exact ⟨h, h'⟩
theorem low_take {a : List Nat} (h : low a) (n : Nat) : low (a.take n) := fun c m => h c (List.mem_of_mem_take m)
theorem low_drop {a : List Nat} (h : low a) (n : Nat) : low (a.drop n) := fun c m => h c (List.mem_of_mem_drop m)
theorem names_loop1 {ps : List Int} {spot number : Int} (h0 : 0 ≤ spot) (h1 : spot + 5 ≤ ps.length) : ∃ (l : List Nat) (s : Sl), l.length = 6 ∧ low l ∧ loop (gN 5) B__law_names_1 (rgD 0 3) [.v (.lst (ps.map .int)), .v (.int spot), .v (.int number), .v (.str (S abc)), .v (.str (S [])), .no, .no, .no, .no, .no, .no, .no, .no] =
    .nx [.v (.lst (ps.map .int)), .v (.int spot), .v (.int number), .v (.str (S abc)), .v (.str (S l)), s, .no, .no, .no, .no, .no, .no, .no] := by
  obtain ⟨ρ', e, s, l, hl, lw, rfl⟩ := loop_rg (h := gN 5) (body := B__law_names_1) (lo := 0) (n := 3) (ρ := [.v (.lst (ps.map .int)), .v (.int spot), .v (.int number), .v (.str (S abc)), .v (.str (S [])), .no, .no, .no, .no, .no, .no, .no, .no])
    (fun i ρ => ∃ (s : Sl) (l : List Nat), l.length = 2 * i ∧ low l ∧ ρ = [.v (.lst (ps.map .int)), .v (.int spot), .v (.int number), .v (.str (S abc)), .v (.str (S l)), s, .no, .no, .no, .no, .no, .no, .no])
    ⟨_, [], rfl, (fun _ m => nomatch m), rfl⟩ (by
      rintro i ρ hi ⟨s, l, hl, lw, rfl⟩
      refine ⟨_, rfl, ?_⟩
      have p1 := part_ok (ps := ps) (spot := spot + (i : Int)) (under := 1) (size := 26) (by omega) (by omega) (by decide) (by decide) (by decide)
      have p2 := part_ok (ps := ps) (spot := spot + (i : Int)) (under := 26) (size := 26) (by omega) (by omega) (by decide) (by decide) (by decide)
      have a1 := part_lo (ps := ps) (spot := spot + (i : Int)) (under := 1) (size := 26) (by decide)
      have a2 := part_hi (ps := ps) (spot := spot + (i : Int)) (under := 1) (size := 26) (by decide)
      have b1 := part_lo (ps := ps) (spot := spot + (i : Int)) (under := 26) (size := 26) (by decide)
      have b2 := part_hi (ps := ps) (spot := spot + (i : Int)) (under := 26) (size := 26) (by decide)
      generalize part ps (spot + (i : Int)) 1 26 = u at *
      generalize part ps (spot + (i : Int)) 26 26 = v at *
      have g1 := gIx_abc a1 a2
      have g2 := gIx_abc b1 b2
      have s1 := gAdd_S (a := l) (b := [u.toNat + 97]) (by simp; omega)
      have s2 := gAdd_S (a := l ++ [u.toNat + 97]) (b := [v.toNat + 97]) (by simp; omega)
      have st : B__law_names_1 [.v (.lst (ps.map .int)), .v (.int spot), .v (.int number), .v (.str (S abc)), .v (.str (S l)), .v (.int (0 + (i : Int))), .no, .no, .no, .no, .no, .no, .no] =
          .nx [.v (.lst (ps.map .int)), .v (.int spot), .v (.int number), .v (.str (S abc)), .v (.str (S (l ++ [u.toNat + 97] ++ [v.toNat + 97]))), .v (.int (i : Int)), .no, .no, .no, .no, .no, .no, .no] := by
        unfold B__law_names_1
        simp only [sSet_ap, e2_ap, eV_succ, eV_zero, bind_ok, eCall_ap, aC_ap, aN_ap, gAdd_int, eC_ap, List.length_cons, List.length_nil, Int.zero_add, Nat.zero_add, Nat.reduceAdd, if_true, p1, p2, g1, g2, s1, s2, from_ok, List.set_cons_succ, List.set_cons_zero]
      show SO.goes (B__law_names_1 [.v (.lst (ps.map .int)), .v (.int spot), .v (.int number), .v (.str (S abc)), .v (.str (S l)), .v (.int (0 + (i : Int))), .no, .no, .no, .no, .no, .no, .no]) _
      rw [st]
      refine ⟨_, _, ?_, ?_, rfl⟩
      · simp; omega
      · exact low_app (low_app lw (low_one (by omega) (by omega))) (low_one (by omega) (by omega)))
  exact ⟨l, s, hl, lw, e⟩
def nmA (sh tl : List Nat) (cut first m : Int) : List Nat := sh.take cut.toNat ++ [((first + 7 * m) % 26).toNat + 97] ++ sh.drop cut.toNat ++ tl
def nmK (c : Int) (stem sh tl : List Nat) (cut first turn : Int) (k : Nat) : List Nat := if c = 0 then nmA sh tl cut first (((k : Int) + turn) % 6) else stem.take ((((k : Int) + turn) % 6) + 1).toNat
theorem names_loop2 {ps : List Int} {spot number turn cut first : Int} {stem sh tl : List Nat} (h0 : 0 ≤ spot) (h1 : spot + 5 ≤ ps.length) (hn : 0 ≤ number) (hn2 : number ≤ 6) (ls : stem.length = 6) (lsh : sh.length ≤ 6) (ltl : tl.length ≤ 1) (c0 : 0 ≤ cut) (s0 : Sl) :
    ∃ (s t : Sl), loop (gN 5) B__law_names_2 (rgD 0 number.toNat) [.v (.lst (ps.map .int)), .v (.int spot), .v (.int number), .v (.str (S abc)), .v (.str (S stem)), s0, .v (.int turn), .v (.int cut), .v (.int first), .v (.str (S sh)), .v (.str (S tl)), .l [], .no] =
    .nx [.v (.lst (ps.map .int)), .v (.int spot), .v (.int number), .v (.str (S abc)), .v (.str (S stem)), s, .v (.int turn), .v (.int cut), .v (.int first), .v (.str (S sh)), .v (.str (S tl)), .l ((List.range number.toNat).map fun k => .str (S (nmK (part ps (spot + 4) 1 2) stem sh tl cut first turn k))), t] := by
  have pc := part_ok (ps := ps) (spot := spot + 4) (under := 1) (size := 2) (by omega) (by omega) (by decide) (by decide) (by decide)
  generalize part ps (spot + 4) 1 2 = c at *
  obtain ⟨ρ', e, s, t, rfl⟩ := loop_rg (h := gN 5) (body := B__law_names_2) (lo := 0) (n := number.toNat) (ρ := [.v (.lst (ps.map .int)), .v (.int spot), .v (.int number), .v (.str (S abc)), .v (.str (S stem)), s0, .v (.int turn), .v (.int cut), .v (.int first), .v (.str (S sh)), .v (.str (S tl)), .l [], .no])
    (fun i ρ => ∃ (s t : Sl), ρ = [.v (.lst (ps.map .int)), .v (.int spot), .v (.int number), .v (.str (S abc)), .v (.str (S stem)), s, .v (.int turn), .v (.int cut), .v (.int first), .v (.str (S sh)), .v (.str (S tl)), .l ((List.range i).map fun k => .str (S (nmK c stem sh tl cut first turn k))), t])
    ⟨_, _, rfl⟩ (by
      rintro i ρ hi ⟨s, t, rfl⟩
      refine ⟨_, rfl, ?_⟩
      have m0 : 0 ≤ ((i : Int) + turn) % 6 := by omega
      have m6 : ((i : Int) + turn) % 6 < 6 := by omega
      have f1 : 0 ≤ (first + 7 * (((i : Int) + turn) % 6)) % 26 := by omega
      have f2 : (first + 7 * (((i : Int) + turn) % 6)) % 26 < 26 := by omega
      have g1 := gIx_abc f1 f2
      have t1 := gSl_hi (l := sh) c0 (by omega)
      have t2 := gSl_lo (l := sh) c0 (by omega)
      have t3 := gSl_hi (l := stem) (v := ((i : Int) + turn) % 6 + 1) (by omega) (by omega)
      have q1 := gAdd_S (a := sh.take cut.toNat) (b := [((first + 7 * (((i : Int) + turn) % 6)) % 26).toNat + 97]) (by simp; omega)
      have q2 := gAdd_S (a := sh.take cut.toNat ++ [((first + 7 * (((i : Int) + turn) % 6)) % 26).toNat + 97]) (b := sh.drop cut.toNat) (by simp; omega)
      have q3 := gAdd_S (a := sh.take cut.toNat ++ [((first + 7 * (((i : Int) + turn) % 6)) % 26).toNat + 97] ++ sh.drop cut.toNat) (b := tl) (by simp; omega)
      have q4 := gMul_l (i := 7) (j := ((i : Int) + turn) % 6) (by decide) (by decide)
      have sl : ((List.range i).map fun k => D.str (S (nmK c stem sh tl cut first turn k))).length < sizeLine := by rw [List.length_map, List.length_range, sz24]; omega
      have d6 : gMod (.int ((i : Int) + turn)) (.int 6) = .ok (.int (((i : Int) + turn) % 6)) := gMod_int (by decide)
      have d26 : gMod (.int (first + 7 * (((i : Int) + turn) % 6))) (.int 26) = .ok (.int ((first + 7 * (((i : Int) + turn) % 6)) % 26)) := gMod_int (by decide)
      have st : B__law_names_2 [.v (.lst (ps.map .int)), .v (.int spot), .v (.int number), .v (.str (S abc)), .v (.str (S stem)), .v (.int (0 + (i : Int))), .v (.int turn), .v (.int cut), .v (.int first), .v (.str (S sh)), .v (.str (S tl)), .l ((List.range i).map fun k => .str (S (nmK c stem sh tl cut first turn k))), t] =
          .nx [.v (.lst (ps.map .int)), .v (.int spot), .v (.int number), .v (.str (S abc)), .v (.str (S stem)), .v (.int (i : Int)), .v (.int turn), .v (.int cut), .v (.int first), .v (.str (S sh)), .v (.str (S tl)), .l ((List.range (i + 1)).map fun k => .str (S (nmK c stem sh tl cut first turn k))), .v (.int (((i : Int) + turn) % 6))] := by
        rw [List.range_succ, List.map_append]
        show _ = SO.nx [_, _, _, _, _, _, _, _, _, _, _, .l (_ ++ [D.str (S (nmK c stem sh tl cut first turn i))]), _]
        unfold B__law_names_2
        by_cases z : c = 0
        · have en : nmK c stem sh tl cut first turn i = sh.take cut.toNat ++ [((first + 7 * (((i : Int) + turn) % 6)) % 26).toNat + 97] ++ sh.drop cut.toNat ++ tl := if_pos z
          rw [en]
          have ze : decide (c = 0) = true := decide_eq_true z
          simp only [sSq_ap, sSet_ap, sIf_ap, sApp_ap, tV_ap, e2_ap, eA_ap, eSl_ap, oN_ap, oS_ap, eV_succ, eV_zero, bind_ok, eCall_ap, aC_ap, aN_ap, gAdd_int, gInt_int, gEq_int, Bof_bl, eC_ap, List.length_cons, List.length_nil, Int.zero_add, Nat.zero_add, Nat.reduceAdd, if_true, pc, d6, d26, g1, t1, t2, t3, q1, q2, q3, q4, ze, sl, from_ok, sq_nx, ownL_succ, ownL_zero, List.set_cons_succ, List.set_cons_zero]
        · have en : nmK c stem sh tl cut first turn i = stem.take ((((i : Int) + turn) % 6) + 1).toNat := if_neg z
          rw [en]
          have ze : decide (c = 0) = false := decide_eq_false z
          simp only [sSq_ap, sSet_ap, sIf_ap, sApp_ap, tV_ap, e2_ap, eA_ap, eSl_ap, oN_ap, oS_ap, eV_succ, eV_zero, bind_ok, eCall_ap, aC_ap, aN_ap, gAdd_int, gInt_int, gEq_int, Bof_bl, eC_ap, List.length_cons, List.length_nil, Int.zero_add, Nat.zero_add, Nat.reduceAdd, if_true, pc, d6, d26, g1, t1, t2, t3, q1, q2, q3, q4, ze, sl, from_ok, sq_nx, ownL_succ, ownL_zero, List.set_cons_succ, List.set_cons_zero, Bool.false_eq_true, if_false]
      show SO.goes (B__law_names_2 [.v (.lst (ps.map .int)), .v (.int spot), .v (.int number), .v (.str (S abc)), .v (.str (S stem)), .v (.int (0 + (i : Int))), .v (.int turn), .v (.int cut), .v (.int first), .v (.str (S sh)), .v (.str (S tl)), .l ((List.range i).map fun k => .str (S (nmK c stem sh tl cut first turn k))), t]) _
      rw [st]
      exact ⟨_, _, rfl⟩)
  exact ⟨s, t, e⟩
theorem nmA_len (sh tl : List Nat) (cut first m : Int) : (nmA sh tl cut first m).length = sh.length + 1 + tl.length := by
  unfold nmA
  simp only [List.length_append, List.length_take, List.length_drop, List.length_cons, List.length_nil]
  omega
theorem nmA_inj {sh tl : List Nat} {cut first m m' : Int} (c0 : 0 ≤ m) (c1 : m < 6) (d0 : 0 ≤ m') (d1 : m' < 6) (h : nmA sh tl cut first m = nmA sh tl cut first m') : m = m' := by
  unfold nmA at h
  rw [List.append_assoc, List.append_assoc, List.append_assoc, List.append_assoc] at h
  have h2 := List.append_cancel_left h
  have h3 := (List.cons.inj h2).1
  omega
theorem nmK_ok {c turn cut first : Int} {stem sh tl : List Nat} (ls : stem.length = 6) (lsh : sh.length ≤ 6) (ltl : tl.length ≤ 1) (w1 : low stem) (w2 : low sh) (w3 : low tl) (k : Nat) : okName (nmK c stem sh tl cut first turn k) := by
  unfold nmK
  split
  · refine ⟨by rw [nmA_len]; omega, by rw [nmA_len]; omega, ?_⟩
    exact low_app (low_app (low_app (low_take w2 _) (low_one (by omega) (by omega))) (low_drop w2 _)) w3
  · exact ⟨by rw [List.length_take]; omega, by rw [List.length_take]; omega, low_take w1 _⟩
theorem nmK_inj {c turn cut first : Int} {stem sh tl : List Nat} (ls : stem.length = 6) {k k' : Nat} (hk : k < 6) (hk' : k' < 6) (h : nmK c stem sh tl cut first turn k = nmK c stem sh tl cut first turn k') : k = k' := by
  unfold nmK at h
  split at h
  · have := nmA_inj (by omega) (by omega) (by omega) (by omega) h
    omega
  · have := congrArg List.length h
    rw [List.length_take, List.length_take, ls] at this
    omega
theorem names_ok {ps : List Int} {spot number : Int} (h0 : 0 ≤ spot) (h1 : spot + 5 ≤ ps.length) (hn : 0 ≤ number) (hn2 : number ≤ 6) :
    ∃ ws : List (List Nat), ws.length = number.toNat ∧ (∀ w ∈ ws, okName w) ∧ ws.Nodup ∧ F__law_names [.lst (ps.map .int), .int spot, .int number] = .ok (.lst (ws.map fun w => .str (S w))) := by
  have p1 := part_ok (ps := ps) (spot := spot + 3) (under := 1) (size := 6) (by omega) (by omega) (by decide) (by decide) (by decide)
  have p2 := part_ok (ps := ps) (spot := spot + 3) (under := 6) (size := 7) (by omega) (by omega) (by decide) (by decide) (by decide)
  have p3 := part_ok (ps := ps) (spot := spot + 3) (under := 42) (size := 26) (by omega) (by omega) (by decide) (by decide) (by decide)
  have p4 := part_ok (ps := ps) (spot := spot + 4) (under := 4) (size := 7) (by omega) (by omega) (by decide) (by decide) (by decide)
  have p5 := part_ok (ps := ps) (spot := spot + 4) (under := 2) (size := 2) (by omega) (by omega) (by decide) (by decide) (by decide)
  have a2 := part_lo (ps := ps) (spot := spot + 3) (under := 6) (size := 7) (by decide)
  have a4 := part_lo (ps := ps) (spot := spot + 4) (under := 4) (size := 7) (by decide)
  have a5 := part_lo (ps := ps) (spot := spot + 4) (under := 2) (size := 2) (by decide)
  have b4 := part_hi (ps := ps) (spot := spot + 4) (under := 4) (size := 7) (by decide)
  have b5 := part_hi (ps := ps) (spot := spot + 4) (under := 2) (size := 2) (by decide)
  obtain ⟨stem, s0, ls, lw, e1⟩ := names_loop1 (ps := ps) (spot := spot) (number := number) h0 h1
  have t1 := gSl_hi (l := stem) a4 (by omega)
  have t2 := gSl_hi (l := stem) a5 (by omega)
  generalize part ps (spot + 3) 1 6 = turn at *
  generalize part ps (spot + 3) 6 7 = cut at *
  generalize part ps (spot + 3) 42 26 = first at *
  generalize part ps (spot + 4) 4 7 = x4 at *
  generalize part ps (spot + 4) 2 2 = x5 at *
  have k1 : (stem.take x4.toNat).length ≤ 6 := by rw [List.length_take]; omega
  have k2 : (stem.take x5.toNat).length ≤ 1 := by rw [List.length_take]; omega
  obtain ⟨s, t, e2⟩ := names_loop2 (ps := ps) (spot := spot) (number := number) (turn := turn) (cut := cut) (first := first) (stem := stem) (sh := stem.take x4.toNat) (tl := stem.take x5.toNat) h0 h1 hn hn2 ls k1 k2 a2 s0
  refine ⟨(List.range number.toNat).map (nmK (part ps (spot + 4) 1 2) stem (stem.take x4.toNat) (stem.take x5.toNat) cut first turn), by rw [List.length_map, List.length_range], ?_, ?_, ?_⟩
  · intro w m
    obtain ⟨k, _, rfl⟩ := List.mem_map.mp m
    exact nmK_ok ls k1 k2 lw (low_take lw _) (low_take lw _) k
  · refine List.pairwise_map.mpr (List.Pairwise.imp_of_mem (fun {k k'} hk hk' ne h => ne ?_) List.nodup_range)
    have := List.mem_range.mp hk
    have := List.mem_range.mp hk'
    exact nmK_inj ls (by omega) (by omega) h
  · unfold F__law_names G__law_names
    have sm3 : small62 3 := by decide
    have smn : small62 number := small_rg hn (by omega)
    have st : startE 13 [.lst (ps.map .int), .int spot, .int number] = [.v (.lst (ps.map .int)), .v (.int spot), .v (.int number), .no, .no, .no, .no, .no, .no, .no, .no, .no, .no] := rfl
    have r3 : (3 : Int).toNat = 3 := rfl
    have z0 : (0 : Nat) ≤ sizeLine := Nat.zero_le _
    simp only [runF_ap, st, abc_eq, none_eq, sSq_ap, sSet_ap, sFor_ap, iR1_ap, sOwn_ap, lDisp_ap, sFrz_ap, sRet_ap, eSl_ap, oN_ap, oS_ap, e2_ap, eV_succ, eV_zero, bind_ok, eCall_ap, aC_ap, aN_ap, gAdd_int, eC_ap, List.length_cons, List.length_nil, Nat.zero_add, Nat.reduceAdd, if_true, p1, p2, p3, p4, p5, sm3, smn, r3, e1, t1, t2, from_ok, sq_nx, List.set_cons_succ, List.set_cons_zero, z0, e2, frzE_succ, frzE_zero, frzS_l, out_rt, List.map_map]
    rfl
end Tk
namespace Tk
open PySem PySem.Spec L2 PyProof.Rows
mutual
def cleanD : Nat → D → Bool
  | _, .non => true
  | _, .int _ => true
  | _, .str s => PyData.strOk s
  | n + 1, .lst xs => cleanL n xs
  | n + 1, .tup xs => cleanL n xs
  | _, _ => false
def cleanL : Nat → List D → Bool
  | _, [] => true
  | n, d :: ds => cleanD n d && cleanL n ds
end
theorem cleanL_all {n : Nat} : ∀ {ds : List D}, cleanL n ds = true ↔ ∀ d ∈ ds, cleanD n d = true
  | [] => by simp [cleanL]
  | d :: ds => by simp [cleanL, cleanL_all (ds := ds)]
mutual
theorem clean_toP : ∀ {n : Nat} {d : D}, cleanD n d = true → ∃ p, toP d = some p ∧ p.canLay0 = true ∧ p.depth ≤ n
  | _, .non, _ => ⟨.none, by simp [toP], by simp [PyData.canLay0], by simp [PyData.depth]⟩
  | _, .int i, _ => ⟨.int i, by simp [toP], by simp [PyData.canLay0], by simp [PyData.depth]⟩
  | _, .str s, h => ⟨.str s, by simp [toP], by simp only [PyData.canLay0]; simpa [cleanD] using h, by simp [PyData.depth]⟩
  | 0, .lst _, h => by simp [cleanD] at h
  | 0, .tup _, h => by simp [cleanD] at h
  | n + 1, .lst xs, h => by
    obtain ⟨ps, e1, e2, e3⟩ := cleanL_toP (n := n) (ds := xs) (by simpa [cleanD] using h)
    exact ⟨.list ps, by simp [toP, e1], by simpa [PyData.canLay0] using e2, by simp only [PyData.depth]; omega⟩
  | n + 1, .tup xs, h => by
    obtain ⟨ps, e1, e2, e3⟩ := cleanL_toP (n := n) (ds := xs) (by simpa [cleanD] using h)
    exact ⟨.tuple ps, by simp [toP, e1], by simpa [PyData.canLay0] using e2, by simp only [PyData.depth]; omega⟩
  | _, .bl _, h => by simp [cleanD] at h
  | _, .ty _, h => by simp [cleanD] at h
  | _, .cl _, h => by simp [cleanD] at h
  | _, .scr _, h => by simp [cleanD] at h
  | _, .dK _, h => by simp [cleanD] at h
  | _, .dT _, h => by simp [cleanD] at h
  | _, .ins _ _, h => by simp [cleanD] at h
theorem cleanL_toP : ∀ {n : Nat} {ds : List D}, cleanL n ds = true → ∃ ps, toPs ds = some ps ∧ PyData.canLayAll0 ps = true ∧ PyData.depthAll ps ≤ n
  | n, [], _ => ⟨[], by simp [toPs], by simp [PyData.canLayAll0], by simp [PyData.depthAll]⟩
  | n, d :: ds, h => by
    have h2 : cleanD n d = true ∧ cleanL n ds = true := by simpa [cleanL] using h
    obtain ⟨p, a1, a2, a3⟩ := clean_toP h2.1
    obtain ⟨ps, b1, b2, b3⟩ := cleanL_toP h2.2
    exact ⟨p :: ps, by simp [toPs, a1, b1], by simp [PyData.canLayAll0, a2, b2], by simp only [PyData.depthAll]; omega⟩
end
mutual
theorem eqv_iff : ∀ {n m : Nat} {a b : D} {p q : PyData}, cleanD n a = true → cleanD m b = true → toP a = some p → toP b = some q → (PyData.eqv p q = true ↔ a = b)
  | n, m, a, b, p, q, ha, hb, ea, eb => by
    cases a with
    | non =>
      cases (by simpa [toP] using ea : PyData.none = p)
      cases b with
      | non => cases (by simpa [toP] using eb : PyData.none = q); simp [PyData.eqv]
      | int j => cases (by simpa [toP] using eb : PyData.int j = q); simp [PyData.eqv]
      | str j => cases (by simpa [toP] using eb : PyData.str j = q); simp [PyData.eqv]
      | lst ys =>
        obtain ⟨qs, e2, rfl⟩ : ∃ ps, toPs ys = some ps ∧ PyData.list ps = q := by simpa [toP] using eb
        simp [PyData.eqv]
      | tup ys =>
        obtain ⟨qs, e2, rfl⟩ : ∃ ps, toPs ys = some ps ∧ PyData.tuple ps = q := by simpa [toP] using eb
        simp [PyData.eqv]
      | _ => simp [cleanD] at hb
    | int i =>
      cases (by simpa [toP] using ea : PyData.int i = p)
      cases b with
      | non => cases (by simpa [toP] using eb : PyData.none = q); simp [PyData.eqv]
      | int j => cases (by simpa [toP] using eb : PyData.int j = q); simp [PyData.eqv]
      | str j => cases (by simpa [toP] using eb : PyData.str j = q); simp [PyData.eqv]
      | lst ys =>
        obtain ⟨qs, e2, rfl⟩ : ∃ ps, toPs ys = some ps ∧ PyData.list ps = q := by simpa [toP] using eb
        simp [PyData.eqv]
      | tup ys =>
        obtain ⟨qs, e2, rfl⟩ : ∃ ps, toPs ys = some ps ∧ PyData.tuple ps = q := by simpa [toP] using eb
        simp [PyData.eqv]
      | _ => simp [cleanD] at hb
    | str i =>
      cases (by simpa [toP] using ea : PyData.str i = p)
      cases b with
      | non => cases (by simpa [toP] using eb : PyData.none = q); simp [PyData.eqv]
      | int j => cases (by simpa [toP] using eb : PyData.int j = q); simp [PyData.eqv]
      | str j => cases (by simpa [toP] using eb : PyData.str j = q); simp [PyData.eqv]
      | lst ys =>
        obtain ⟨qs, e2, rfl⟩ : ∃ ps, toPs ys = some ps ∧ PyData.list ps = q := by simpa [toP] using eb
        simp [PyData.eqv]
      | tup ys =>
        obtain ⟨qs, e2, rfl⟩ : ∃ ps, toPs ys = some ps ∧ PyData.tuple ps = q := by simpa [toP] using eb
        simp [PyData.eqv]
      | _ => simp [cleanD] at hb
    | lst xs =>
      cases n with
      | zero => simp [cleanD] at ha
      | succ n =>
        have ha2 : cleanL n xs = true := by simpa [cleanD] using ha
        obtain ⟨ps, e1, rfl⟩ : ∃ ps, toPs xs = some ps ∧ PyData.list ps = p := by simpa [toP] using ea
        cases b with
        | lst ys =>
          cases m with
          | zero => simp [cleanD] at hb
          | succ m =>
            have hb2 : cleanL m ys = true := by simpa [cleanD] using hb
            obtain ⟨qs, e2, rfl⟩ : ∃ ps, toPs ys = some ps ∧ PyData.list ps = q := by simpa [toP] using eb
            have := eqvL_iff ha2 hb2 e1 e2
            simp only [PyData.eqv]
            rw [this]
            simp
        | tup ys =>
          obtain ⟨qs, e2, rfl⟩ : ∃ ps, toPs ys = some ps ∧ PyData.tuple ps = q := by simpa [toP] using eb
          simp [PyData.eqv]
        | non => cases (by simpa [toP] using eb : PyData.none = q); simp [PyData.eqv]
        | int i => cases (by simpa [toP] using eb : PyData.int i = q); simp [PyData.eqv]
        | str i => cases (by simpa [toP] using eb : PyData.str i = q); simp [PyData.eqv]
        | _ => simp [cleanD] at hb
    | tup xs =>
      cases n with
      | zero => simp [cleanD] at ha
      | succ n =>
        have ha2 : cleanL n xs = true := by simpa [cleanD] using ha
        obtain ⟨ps, e1, rfl⟩ : ∃ ps, toPs xs = some ps ∧ PyData.tuple ps = p := by simpa [toP] using ea
        cases b with
        | tup ys =>
          cases m with
          | zero => simp [cleanD] at hb
          | succ m =>
            have hb2 : cleanL m ys = true := by simpa [cleanD] using hb
            obtain ⟨qs, e2, rfl⟩ : ∃ ps, toPs ys = some ps ∧ PyData.tuple ps = q := by simpa [toP] using eb
            have := eqvL_iff ha2 hb2 e1 e2
            simp only [PyData.eqv]
            rw [this]
            simp
        | lst ys =>
          obtain ⟨qs, e2, rfl⟩ : ∃ ps, toPs ys = some ps ∧ PyData.list ps = q := by simpa [toP] using eb
          simp [PyData.eqv]
        | non => cases (by simpa [toP] using eb : PyData.none = q); simp [PyData.eqv]
        | int i => cases (by simpa [toP] using eb : PyData.int i = q); simp [PyData.eqv]
        | str i => cases (by simpa [toP] using eb : PyData.str i = q); simp [PyData.eqv]
        | _ => simp [cleanD] at hb
    | _ => simp [cleanD] at ha
theorem eqvL_iff : ∀ {n m : Nat} {as bs : List D} {ps qs : List PyData}, cleanL n as = true → cleanL m bs = true → toPs as = some ps → toPs bs = some qs → (PyData.eqvAll ps qs = true ↔ as = bs)
  | n, m, [], [], ps, qs, _, _, e1, e2 => by
    cases (by simpa [toPs] using e1 : ps = [])
    cases (by simpa [toPs] using e2 : qs = [])
    simp [PyData.eqvAll]
  | n, m, [], b :: bs, ps, qs, _, hb, e1, e2 => by
    cases (by simpa [toPs] using e1 : ps = [])
    have hb2 : cleanD m b = true ∧ cleanL m bs = true := by simpa [cleanL] using hb
    obtain ⟨q, a1, _⟩ := clean_toP hb2.1
    obtain ⟨qs', b1, _⟩ := cleanL_toP hb2.2
    cases (by simpa [toPs, a1, b1] using e2 : q :: qs' = qs)
    simp [PyData.eqvAll]
  | n, m, a :: as, [], ps, qs, ha, _, e1, e2 => by
    cases (by simpa [toPs] using e2 : qs = [])
    have ha2 : cleanD n a = true ∧ cleanL n as = true := by simpa [cleanL] using ha
    obtain ⟨q, a1, _⟩ := clean_toP ha2.1
    obtain ⟨qs', b1, _⟩ := cleanL_toP ha2.2
    cases (by simpa [toPs, a1, b1] using e1 : q :: qs' = ps)
    simp [PyData.eqvAll]
  | n, m, a :: as, b :: bs, ps, qs, ha, hb, e1, e2 => by
    have ha2 : cleanD n a = true ∧ cleanL n as = true := by simpa [cleanL] using ha
    have hb2 : cleanD m b = true ∧ cleanL m bs = true := by simpa [cleanL] using hb
    obtain ⟨p, a1, _⟩ := clean_toP ha2.1
    obtain ⟨ps', c1, _⟩ := cleanL_toP ha2.2
    obtain ⟨q, d1, _⟩ := clean_toP hb2.1
    obtain ⟨qs', f1, _⟩ := cleanL_toP hb2.2
    cases (by simpa [toPs, a1, c1] using e1 : p :: ps' = ps)
    cases (by simpa [toPs, d1, f1] using e2 : q :: qs' = qs)
    have h1 := eqv_iff ha2.1 hb2.1 a1 d1
    have h2 := eqvL_iff ha2.2 hb2.2 c1 f1
    simp only [PyData.eqvAll, Bool.and_eq_true, h1, h2, List.cons.injEq]
end
theorem gEqP_clean {n m : Nat} {a b : D} (hn : n ≤ 64) (hm : m ≤ 64) (ha : cleanD n a = true) (hb : cleanD m b = true) : (a = b → gEqP a b = .ok (.bl true)) ∧ (a ≠ b → gEqP a b = .ok (.bl false)) := by
  obtain ⟨p, a1, a2, a3⟩ := clean_toP ha
  obtain ⟨q, b1, b2, b3⟩ := clean_toP hb
  have i := eqv_iff ha hb a1 b1
  have s1 : SeqAt.shaped p = true := by unfold SeqAt.shaped; rw [a2, decide_eq_true (by omega : p.depth ≤ 64)]; rfl
  have s2 : SeqAt.shaped q = true := by unfold SeqAt.shaped; rw [b2, decide_eq_true (by omega : q.depth ≤ 64)]; rfl
  have e : gEqP a b = .ok (.bl (PyData.eqv p q)) := by
    unfold gEqP
    rw [a1, b1]
    show (if (SeqAt.shaped p && SeqAt.shaped q) = true then _ else _) = _
    rw [s1, s2]
    rfl
  refine ⟨fun h => ?_, fun h => ?_⟩
  · rw [e, i.mpr h]
  · rw [e]
    cases z : PyData.eqv p q with
    | true => exact absurd (i.mp z) h
    | false => rfl
theorem gEq_clean {n m : Nat} {a b : D} (hn : n ≤ 64) (hm : m ≤ 64) (ha : cleanD n a = true) (hb : cleanD m b = true) : (a = b → gEq a b = .ok (.bl true)) ∧ (a ≠ b → gEq a b = .ok (.bl false)) := by
  unfold gEq
  split
  · refine ⟨fun h => ?_, fun h => ?_⟩
    · cases h; simp
    · rw [decide_eq_false]; intro z; exact h (by rw [z])
  · refine ⟨fun h => ?_, fun h => ?_⟩
    · cases h; simp
    · rw [decide_eq_false]; intro z; exact h (by rw [z])
  · refine ⟨fun h => ?_, fun h => ?_⟩
    · cases h; simp
    · rw [decide_eq_false]; intro z; exact h (by rw [z])
  · exact gEqP_clean hn hm ha hb
theorem S_ok {w : List Nat} (h : ∀ c ∈ w, c < 1114112) : PyData.strOk (S w) = true := by
  unfold PyData.strOk
  simpa using h
end Tk
namespace Tk
open PySem PySem.Spec L2 PyProof.Rows
def obsY (as : List Addr) (fa : List He.Fa) (fn : List He.DefD) (ex : PySem.W.Frag → Bool) (fw : List He5.DefA) (er : List ErD) (g : Addr → Option Obj) : AlX :=
  (((((fa.all fun f => f.ok (He.frG g as)) && fn.all fun d => d.ok (He.frG g as), fn.map fun d => He.fnW (He.frG g as) d.at_), ex (He.frG g as)), fw.map fun d => He5.fnA (He.frG g as) (d.at_ (He.frG g as))), er.map fun d => fnE (He.frG g as) d.x)
def hookY (as : List Addr) (fa : List He.Fa) (fn : List He.DefD) (ex : PySem.W.Frag → Bool) (fw : List He5.DefA) (er : List ErD) : PySem.W.Hook where
  α := AlX
  obs := fun s => obsY as fa fn ex fw er s.heap.get?
  val := fun _ => (((He.valD fn, true), fw.map He5.DefA.val), er.map ErD.val)
  says := fun _ h => ∃ K : PySem.W.Frag, K.In h ∧ ((He.SaysD fa fn K ∧ ex K = true) ∧ fw.map (fun d => He5.fnA K (d.at_ K)) = fw.map He5.DefA.val) ∧ er.map (fun d => fnE K d.x) = er.map ErD.val
  of := fun _ _ e => ⟨_, He.frG_in, ⟨⟨congrArg (fun z : AlX => z.1.1.1) e, congrArg (fun z : AlX => z.1.1.2) e⟩, congrArg (fun z : AlX => z.1.2) e⟩, congrArg (fun z : AlX => z.2) e⟩
  keeps := fun _ _ _ ⟨K, hK, c⟩ k => ⟨K, PySem.W.Frag.In.keeps hK k, c⟩
theorem obsY_eq {as : List Addr} {fa : List He.Fa} {fn : List He.DefD} {ex : PySem.W.Frag → Bool} {fw : List He5.DefA} {er : List ErD} {g : Addr → Option Obj} {s : Shared} (h : ∀ a, g a = s.heap.get? a) : obsY as fa fn ex fw er g = (hookY as fa fn ex fw er).obs s := by
  have e : g = s.heap.get? := funext h
  rw [e] <;> rfl
theorem all3 {α β : Type} {r : Option α} {A : α → Bool} {B : α → β} {C : α → AlX} {b : β} {c : AlX} (a : r.map A = some true) (hb : r.map B = some b) (hc : r.map C = some c) : r.map (fun s => (A s, B s, C s)) = some (true, b, c) := by
  cases r with
  | none => cases a
  | some s =>
    have a := Option.some.inj a
    have hb := Option.some.inj hb
    have hc := Option.some.inj hc
    subst hb hc
    show some (A s, B s, C s) = _
    rw [a]
end Tk
namespace Tk
open PySem PySem.Spec L2 PyProof.Rows
noncomputable section
def isxL : List (Nat × List (Kd × Bool)) := []
def B__law_rows_1 : Ev → SO := sSq (sSet 7 (eCall 3 F__law_shuffled (aC (eV 0) (aC (e2 gAdd (eC (.int 24)) (eBor (eA gLen (aC (eV 3) (aN))))) (aC (eV 5) (aN)))))) (sSq (sIf (tV (e2 gEq (eCall 4 F__law_part (aC (eV 0) (aC (eC (.int 11)) (aC (eC (.int 1)) (aC (eC (.int 3)) (aN)))))) (eC (.int 2)))) (sSet 7 (eLc [8, 9] (iSq (eV 7)) (gT 2 (gsC (gN 8) (gsC (gN 9) (gsN)))) (tsY) (eA gTup (aC (eV 8) (aC (e2 gSub (e2 gPow (eC (.int 10)) (eC (.int 9))) (eV 9)) (aN)))))) (sN)) (sApp 3 (eA gTup (aC (eV 4) (aC (eV 7) (aC (eV 6) (aN)))))))
def G__law_rows : Ev → SO := sSq (sOwn 3 (lDisp (aN))) (sSq (sFor (iSq (eCall 4 F__law_pages (aC (eV 0) (aC (eC (.int 12)) (aC (eV 1) (aC (eV 2) (aN))))))) (gT 3 (gsC (gN 4) (gsC (gN 5) (gsC (gN 6) (gsN))))) (B__law_rows_1)) (sFrz 3 (sRet (eV 3))))
def F__law_rows : List D → R D := runF 10 G__law_rows
def G_TurnRule_moves : Ev → SO := sRet (e2 gAdd (eA gList (aC (eMeth 54 nF 2 F_TurnRule_candidates (eV 0) (aC (eV 1) (aN))) (aN))) (eA gLst (aC (eC (.str "")) (aN))))
def F_TurnRule_moves : List D → R D := runF 2 G_TurnRule_moves
def G_TurnRule_moves_o : Ev → SO := sRetF (nL (lCat (eA gList (aC (eMeth 54 nF 2 F_TurnRule_candidates (eV 0) (aC (eV 1) (aN))) (aN))) (eA gLst (aC (eC (.str "")) (aN)))))
def F_TurnRule_moves_o : List D → R Sl := runO 2 G_TurnRule_moves_o
def G_TurnRule_lets : Ev → SO := sRet (eIf (tV (e2 gEq (eV 2) (eC (.str "")))) (eA gLst (aC (eA gTup (aC (eA gTup (aN)) (aC (eC (.int 0)) (aN)))) (aN))) (eA gLst (aC (eA gTup (aC (eA gTup (aC (eV 2) (aN))) (aC (eC (.int 0)) (aN)))) (aN))))
def F_TurnRule_lets : List D → R D := runF 3 G_TurnRule_lets
def G_TurnRule_lets_o : Ev → SO := sRetF (eIfN (tV (e2 gEq (eV 2) (eC (.str "")))) (nL (lDisp (aC (eA gTup (aC (eA gTup (aN)) (aC (eC (.int 0)) (aN)))) (aN)))) (nL (lDisp (aC (eA gTup (aC (eA gTup (aC (eV 2) (aN))) (aC (eC (.int 0)) (aN)))) (aN)))))
def F_TurnRule_lets_o : List D → R Sl := runO 3 G_TurnRule_lets_o
def B__law_spoil_1 : Ev → SO := sSq (sNew 5 (oMeth 54 nF 3 F_TurnRule_lets_o (eV 0) (aC (eV 1) (aC (eV 4) (aN))))) (sSq (sApp 5 (eA gTup (aC (eA gTup (aC (eC (.str "spoilt")) (aN))) (aC (eC (.int 5)) (aN))))) (sMut 5 mRev aN))
def G__law_spoil : Ev → SO := sSq (sNew 3 (oMeth 54 nF 2 F_TurnRule_moves_o (eV 0) (aC (eV 1) (aN)))) (sSq (sMut 3 mRev aN) (sSq (sApp 3 (eC (.str "spoilt"))) (sFor (iSq (e2 gAdd (eV 2) (eA gLst (aC (eC (.str "")) (aN))))) (gN 4) (B__law_spoil_1))))
def F__law_spoil : List D → R D := runF 6 G__law_spoil
def B__law_tells_1 : Ev → SO := sIf (tNot (tV (eCall 2 F__law_same (aC (eMeth 54 nF 3 F_TurnRule_lets (eV 0) (aC (eV 1) (aC (eV 3) (aN)))) (aC (eA gLst (aC (eA gTup (aC (eA gTup (aC (eV 3) (aN))) (aC (eC (.int 0)) (aN)))) (aN))) (aN)))))) (sRet (eC (.bl false))) (sN)
def G__law_tells : Ev → SO := sSq (sIf (tOr (tNot (tV (eCall 2 F__law_same (aC (eMethK 54 nF 0 1 2 F_TurnRule_candidates (gDk [0] []) (eV 0) (aN) (aC (eV 1) (aN))) (aC (eA gTuple (aC (eV 2) (aN))) (aN)))))) (tNot (tV (eCall 2 F__law_same (aC (eMethK 54 nF 0 1 2 F_TurnRule_moves (gDk [0] []) (eV 0) (aN) (aC (eV 1) (aN))) (aC (e2 gAdd (eV 2) (eA gLst (aC (eC (.str "")) (aN)))) (aN))))))) (sRet (eC (.bl false))) (sN)) (sSq (sFor (iSq (eV 2)) (gN 3) (B__law_tells_1)) (sRet (eCall 2 F__law_same (aC (eMethK 54 nF 0 2 3 F_TurnRule_lets (gDk [0, 1] []) (eV 0) (aN) (aC (eV 1) (aC (eC (.str "")) (aN)))) (aC (eA gLst (aC (eA gTup (aC (eA gTup (aN)) (aC (eC (.int 0)) (aN)))) (aN))) (aN))))))
def F__law_tells : List D → R D := runF 4 G__law_tells
def G__law_turn_rule : Ev → SO := sSq (sSet 3 (eCall 3 F__law_some (aC (eV 0) (aC (eC (.int 0)) (aC (eV 2) (aN)))))) (sSq (sIf (tV (e2 gEq (eCall 4 F__law_part (aC (eV 0) (aC (eC (.int 0)) (aC (eC (.int 16)) (aC (eC (.int 3)) (aN)))))) (eC (.int 2)))) (sSet 3 (eA gLst (aN))) (sN)) (sSq (sSet 4 (e2 gIx (eA gLst (aC (eC .non) (aC (eC (.int 0)) (aC (eC (.int 1)) (aC (eC (.int 2)) (aC (eC (.int 3)) (aN))))))) (eCall 4 F__law_part (aC (eV 0) (aC (eC (.int 0)) (aC (eC (.int 48)) (aC (eC (.int 5)) (aN)))))))) (sSq (sSet 5 (eCall 4 F__law_links (aC (eV 0) (aC (eC (.int 2)) (aC (eV 2) (aC (eCall 4 F__law_part (aC (eV 0) (aC (eC (.int 0)) (aC (eC (.int 240)) (aC (eC (.int 4)) (aN)))))) (aN))))))) (sRet (eA gTup (aC (eFrz (nMakeK 54 2 3 9 F_TurnRule___init__ (gDk [0, 1, 5, 6, 7, 2, 3, 4] [.int 0, .int 1, .int 0]) (aC (eV 1) (aC (eA gList (aC (eV 2) (aN))) (aN))) (aC (eV 4) (aC (eCall 3 F__law_shuffled (aC (eV 0) (aC (eC (.int 1)) (aC (eV 3) (aN))))) (aC (eV 5) (aN)))))) (aC (eV 3) (aN))))))))
def F__law_turn_rule : List D → R D := runF 6 G__law_turn_rule
def B_law_1 : Ev → SO := sSq (sIf (tNot (tV (eCall 3 F__law_tells (aC (eV 11) (aC (eV 10) (aC (eCall 3 F__law_free (aC (eV 9) (aC (eV 2) (aC (eV 12) (aN))))) (aN))))))) (sRet (eC (.bl false))) (sN)) (sDrop (eCall 3 F__law_spoil (aC (eV 11) (aC (eV 10) (aC (eCall 3 F__law_free (aC (eV 9) (aC (eV 2) (aC (eV 12) (aN))))) (aN))))))
def B_law_2 : Ev → SO := sSq (sSet 10 (eMeth 44 nF 2 F_Book_page (eV 6) (aC (e2 gIx (eV 9) (eC (.int 0))) (aN)))) (sFor (iSq (eV 7)) (gT 2 (gsC (gN 11) (gsC (gN 12) (gsN)))) (B_law_1))
def B_law_3 : Ev → SO := sFor (iSq (eV 4)) (gN 9) (B_law_2)
def B_law_4 : Ev → SO := sIf (tOr (tV (e2 gGe (eV 13) (eA gLen (aC (eV 4) (aN))))) (tNot (tV (eCall 3 F__law_tells (aC (eV 11) (aC (eV 10) (aC (eCall 3 F__law_free (aC (e2 gIx (eV 4) (eV 13)) (aC (eV 2) (aC (eV 12) (aN))))) (aN)))))))) (sRet (eC (.bl false))) (sN)
def B_law_5 : Ev → SO := sSq (sFor (iSq (eV 7)) (gT 2 (gsC (gN 11) (gsC (gN 12) (gsN)))) (B_law_4)) (sSet 13 (e2 gAdd (eV 13) (eC (.int 1))))
def G_law : Ev → SO := sSq (sSet 1 (eCall 2 F__law_pool (aC (eCall 2 F__law_cell (aC (eV 0) (aC (eC (.int 0)) (aN)))) (aC (eC (.int 30)) (aN))))) (sSq (sSet 2 (eCall 3 F__law_names (aC (eV 1) (aC (eC (.int 0)) (aC (e2 gAdd (eC (.int 1)) (eCall 4 F__law_part (aC (eV 1) (aC (eC (.int 5)) (aC (eC (.int 1)) (aC (eC (.int 4)) (aN))))))) (aN)))))) (sSq (sSet 3 (eCall 3 F__law_names (aC (eV 1) (aC (eC (.int 6)) (aC (e2 gAdd (eC (.int 1)) (eCall 4 F__law_part (aC (eV 1) (aC (eC (.int 5)) (aC (eC (.int 4)) (aC (eC (.int 4)) (aN))))))) (aN)))))) (sSq (sSet 4 (eCall 3 F__law_rows (aC (eV 1) (aC (eV 2) (aC (eV 3) (aN)))))) (sSq (sSet 5 (eSl (eV 3) (oN) (oS (eCall 4 F__law_part (aC (eV 1) (aC (eC (.int 28)) (aC (eC (.int 1)) (aC (eC (.int 3)) (aN))))))))) (sSq (sSet 6 (eFrz (nMakeK 44 3 1 5 F_Book___init__ (gDk [0, 1, 2, 3] []) (aC (eA gList (aC (eV 2) (aN))) (aC (eLc [14, 15, 16] (iSq (eV 4)) (gT 3 (gsC (gN 14) (gsC (gN 15) (gsC (gN 16) (gsN))))) (tsY) (eA gTup (aC (eV 14) (aC (eA gList (aC (eV 15) (aN))) (aC (eA gList (aC (eV 16) (aN))) (aN)))))) (aC (eA gList (aC (eV 3) (aN))) (aN)))) (aC (eV 5) (aN))))) (sSq (sSet 7 (eLc [17] (iR1 (eC (.int 3))) (gN 17) (tsY) (eCall 3 F__law_turn_rule (aC (eCall 2 F__law_pool (aC (eCall 2 F__law_cell (aC (eV 0) (aC (e2 gAdd (eC (.int 1)) (eV 17)) (aN)))) (aC (eC (.int 6)) (aN)))) (aC (e2 gIx (eV 3) (eC (.int 0))) (aC (eV 2) (aN))))))) (sSq (sFor (iR1 (eC (.int 2))) (gN 8) (B_law_3)) (sSq (sSet 13 (eC (.int 0))) (sSq (sFor (iDun 44 F_Book___iter__ (eV 6)) (gN 10) (B_law_5)) (sRet (e2 gEq (eV 13) (eA gLen (aC (eV 4) (aN))))))))))))))
def F_law : List D → R D := runF 18 G_law
end
end Tk
namespace Tk
open PySem PySem.Spec L2 PyProof.Rows
def top (i : Nat) : Stmt := PySem.Challenge.pw_turnsandkeys_k45_turn_lets.main.body.getD i (.Pass ⟨0, 0, 0, 0⟩)
abbrev s__law_cell : Stmt := top 48
abbrev s__law_free : Stmt := top 61
abbrev s__law_part : Stmt := top 51
abbrev s__law_names : Stmt := top 52
abbrev s__law_mixed : Stmt := top 49
abbrev s__law_pool : Stmt := top 50
abbrev s__law_some : Stmt := top 54
abbrev s__law_pages : Stmt := top 55
abbrev s__law_shuffled : Stmt := top 58
abbrev s__law_rows : Stmt := top 59
abbrev s_TurnRule_candidates : Stmt := clMeth (top 45) 8
abbrev s_TurnRule_moves : Stmt := clMeth (top 46) 3
abbrev s_TurnRule_lets : Stmt := clMeth (top 46) 4
abbrev s__law_spoil : Stmt := top 63
abbrev s__law_integer : Stmt := top 56
abbrev s__law_same : Stmt := top 57
abbrev s__law_tells : Stmt := top 62
abbrev s__law_links : Stmt := top 53
abbrev s_check_barred : Stmt := top 43
abbrev s_is_name : Stmt := top 14
abbrev s_check_names : Stmt := top 34
abbrev s_check_range : Stmt := top 42
abbrev s_Links___iter__ : Stmt := clMeth (top 29) 2
abbrev s_check_known : Stmt := top 16
abbrev s_checked_names : Stmt := top 15
abbrev s_least : Stmt := top 20
abbrev s_Tolls___init__ : Stmt := clMeth (top 24) 0
abbrev s_check_same_names : Stmt := top 22
abbrev s_Tolls_entries : Stmt := clMeth (top 24) 12
abbrev s_Tolls___or__ : Stmt := clMeth (top 24) 8
abbrev s_table_of : Stmt := top 23
abbrev s_together : Stmt := top 21
abbrev s_Tolls__after : Stmt := clMeth (top 24) 5
abbrev s_Tolls__row : Stmt := clMeth (top 24) 4
abbrev s_Tolls___mul__ : Stmt := clMeth (top 24) 7
abbrev s_Tolls_power : Stmt := clMeth (top 24) 10
abbrev s_Tolls_closed : Stmt := clMeth (top 24) 11
abbrev s_Links_tolls : Stmt := clMeth (top 29) 5
abbrev s_Links___init__ : Stmt := clMeth (top 29) 0
abbrev s_hand_tolls : Stmt := top 44
abbrev s_TurnRule_Rule___init__ : Stmt := clMeth (top 45) 1
abbrev s__law_turn_rule : Stmt := top 60
abbrev s_are_bids : Stmt := top 35
abbrev s_are_known : Stmt := top 36
abbrev s_check_book : Stmt := top 37
abbrev s_Page___init__ : Stmt := clMeth (top 38) 0
abbrev s_Book___init__ : Stmt := clMeth (top 39) 0
abbrev s_Book_page : Stmt := clMeth (top 39) 4
abbrev s_Book___iter__ : Stmt := clMeth (top 39) 2
abbrev s_law : Stmt := top 64
abbrev s_Tolls_same : Stmt := clMeth (top 24) 1
abbrev s_TurnRule___init__ : Stmt := clMeth (top 46) 1
def df__law_cell : He.DefD := dfD ("_law_cell", none) "_law_cell" "_law_cell" s__law_cell [] []
def df__law_free : He.DefD := dfD ("_law_free", none) "_law_free" "_law_free" s__law_free [] []
def df__law_part : He.DefD := dfD ("_law_part", none) "_law_part" "_law_part" s__law_part [] []
def df__law_names : He.DefD := dfD ("_law_names", none) "_law_names" "_law_names" s__law_names [] []
def df__law_mixed : He.DefD := dfD ("_law_mixed", none) "_law_mixed" "_law_mixed" s__law_mixed [] []
def df__law_pool : He.DefD := dfD ("_law_pool", none) "_law_pool" "_law_pool" s__law_pool [] []
def df__law_some : He.DefD := dfD ("_law_some", none) "_law_some" "_law_some" s__law_some [] []
def df__law_pages : He.DefD := dfD ("_law_pages", none) "_law_pages" "_law_pages" s__law_pages [] []
def df__law_shuffled : He.DefD := dfD ("_law_shuffled", none) "_law_shuffled" "_law_shuffled" s__law_shuffled [] []
def df__law_rows : He.DefD := dfD ("_law_rows", none) "_law_rows" "_law_rows" s__law_rows [] []
def df_TurnRule_candidates : He.DefD := dfD ("TurnRule", some "candidates") "candidates" "Rule.candidates" s_TurnRule_candidates [] []
def df_TurnRule_moves : He.DefD := dfD ("TurnRule", some "moves") "moves" "TurnRule.moves" s_TurnRule_moves [] []
def df_TurnRule_lets : He.DefD := dfD ("TurnRule", some "lets") "lets" "TurnRule.lets" s_TurnRule_lets [] []
def df__law_spoil : He.DefD := dfD ("_law_spoil", none) "_law_spoil" "_law_spoil" s__law_spoil [] []
def df__law_integer : He.DefD := dfD ("_law_integer", none) "_law_integer" "_law_integer" s__law_integer [] []
def df__law_same : He.DefD := dfD ("_law_same", none) "_law_same" "_law_same" s__law_same [] []
def df__law_tells : He.DefD := dfD ("_law_tells", none) "_law_tells" "_law_tells" s__law_tells [] []
def df__law_links : He.DefD := dfD ("_law_links", none) "_law_links" "_law_links" s__law_links [] []
def df_check_barred : He.DefD := dfD ("check_barred", none) "check_barred" "check_barred" s_check_barred [] []
def df_is_name : He.DefD := dfD ("is_name", none) "is_name" "is_name" s_is_name [] []
def df_check_names : He.DefD := dfD ("check_names", none) "check_names" "check_names" s_check_names [] []
def df_check_range : He.DefD := dfD ("check_range", none) "check_range" "check_range" s_check_range [] []
def df_Links___iter__ : He.DefD := dfD ("Links", some "__iter__") "__iter__" "Links.__iter__" s_Links___iter__ [] []
def df_check_known : He.DefD := dfD ("check_known", none) "check_known" "check_known" s_check_known [] []
def df_checked_names : He.DefD := dfD ("checked_names", none) "checked_names" "checked_names" s_checked_names [] [("hook", .bl false)]
def df_least : He.DefD := dfD ("least", none) "least" "least" s_least [] []
def df_Tolls___init__ : He.DefD := dfDI "Tolls" "Tolls.__init__" s_Tolls___init__ [.tp0] []
def df_check_same_names : He.DefD := dfD ("check_same_names", none) "check_same_names" "check_same_names" s_check_same_names [] []
def df_Tolls_entries : He.DefD := dfD ("Tolls", some "entries") "entries" "Tolls.entries" s_Tolls_entries [] []
def df_Tolls___or__ : He.DefD := dfD ("Tolls", some "__or__") "__or__" "Tolls.__or__" s_Tolls___or__ [] []
def df_table_of : He.DefD := dfD ("table_of", none) "table_of" "table_of" s_table_of [] []
def df_together : He.DefD := dfD ("together", none) "together" "together" s_together [] []
def df_Tolls__after : He.DefD := dfD ("Tolls", some "_after") "_after" "Tolls._after" s_Tolls__after [] []
def df_Tolls__row : He.DefD := dfD ("Tolls", some "_row") "_row" "Tolls._row" s_Tolls__row [] []
def df_Tolls___mul__ : He.DefD := dfD ("Tolls", some "__mul__") "__mul__" "Tolls.__mul__" s_Tolls___mul__ [] []
def df_Tolls_power : He.DefD := dfD ("Tolls", some "power") "power" "Tolls.power" s_Tolls_power [] []
def df_Tolls_closed : He.DefD := dfD ("Tolls", some "closed") "closed" "Tolls.closed" s_Tolls_closed [] []
def df_Links_tolls : He.DefD := dfD ("Links", some "tolls") "tolls" "Links.tolls" s_Links_tolls [] []
def df_Links___init__ : He.DefD := dfDI "Links" "Links.__init__" s_Links___init__ [.tp0] []
def df_hand_tolls : He.DefD := dfD ("hand_tolls", none) "hand_tolls" "hand_tolls" s_hand_tolls [] []
def df_TurnRule_Rule___init__ : He.DefD := dfD ("Rule", some "__init__") "__init__" "Rule.__init__" s_TurnRule_Rule___init__ [] []
def df__law_turn_rule : He.DefD := dfD ("_law_turn_rule", none) "_law_turn_rule" "_law_turn_rule" s__law_turn_rule [] []
def df_are_bids : He.DefD := dfD ("are_bids", none) "are_bids" "are_bids" s_are_bids [] []
def df_are_known : He.DefD := dfD ("are_known", none) "are_known" "are_known" s_are_known [] []
def df_check_book : He.DefD := dfD ("check_book", none) "check_book" "check_book" s_check_book [] []
def df_Page___init__ : He.DefD := dfD ("Page", some "__init__") "__init__" "Page.__init__" s_Page___init__ [] []
def df_Book___init__ : He.DefD := dfD ("Book", some "__init__") "__init__" "Book.__init__" s_Book___init__ [] []
def df_Book_page : He.DefD := dfD ("Book", some "page") "page" "Book.page" s_Book_page [] []
def df_Book___iter__ : He.DefD := dfD ("Book", some "__iter__") "__iter__" "Book.__iter__" s_Book___iter__ [] []
def df_law : He.DefD := dfD ("law", none) "law" "law" s_law [] []
def fa : List He.Fa := faB ++ [.int "MOST_LETTERS" (8), .str "LETTERS" "abcdefghijklmnopqrstuvwxyz", .int "MOST_SPOTS" (6), .int "MOST_TIMES" (1000000000000000000000000000000), .int "MOST_NAMES" (6), .int "MOST_LINKS" (12), .int "LARGEST_TOLL" (1000000000), .int "MOST_MEMBERS" (4), .int "MOST_LIMIT" (3), .int "MOST_COINS" (1000000000), .int "MOST_PAGES" (4), .glo "_law_cell", .glo "_law_free", .glo "_law_part", .glo "_law_names", .glo "_law_mixed", .glo "_law_pool", .glo "_law_some", .glo "_law_pages", .glo "_law_shuffled", .glo "_law_rows", .glo "_law_spoil", .glo "_law_integer", .glo "_law_same", .glo "_law_tells", .glo "_law_links", .glo "check_barred", .glo "is_name", .glo "check_names", .glo "check_range", .glo "check_known", .glo "checked_names", .glo "least", .glo "check_same_names", .glo "table_of", .glo "together", .glo "hand_tolls", .glo "_law_turn_rule", .glo "are_bids", .glo "are_known", .glo "check_book", .glo "law", .glo "Book", .cls "Book", .mkr "Book", .glo "TurnRule", .cls "TurnRule", .mkr "TurnRule", .glo "Page", .cls "Page", .mkr "Page", .glo "Links", .cls "Links", .mkr "Links", .glo "Tolls", .cls "Tolls", .mkr "Tolls", .meth "TurnRule" "moves", .meth "TurnRule" "candidates", .meth "TurnRule" "lets", .free "iter", .meth "Links" "__iter__", .meth "Tolls" "closed", .meth "Tolls" "__or__", .meth "Tolls" "entries", .meth "Tolls" "power", .meth "Tolls" "__mul__", .meth "Tolls" "_after", .meth "Tolls" "_row", .meth "Links" "tolls", .meth "Book" "page", .meth "Book" "__iter__", .noat "Book" "members", .noat "TurnRule" "members", .noat "Page" "wishers", .noat "TurnRule" "barred", .noat "Links" "links", .noat "TurnRule" "links", .noat "Tolls" "names", .noat "Links" "names", .noat "Book" "names", .noat "Tolls" "_prices", .noat "Page" "name", .noat "TurnRule" "name", .noat "TurnRule" "limit", .noat "TurnRule" "deposit", .noat "TurnRule" "fee", .noat "TurnRule" "start", .noat "TurnRule" "_hands", .noat "TurnRule" "_barred_tolls", .noat "Book" "starts", .noat "Page" "home", .noat "Book" "home", .noat "Page" "bids", .noat "Page" "followers", .noat "Book" "_pages", .noat "Book" "_rows", .free "super"]
def fn : List He.DefD := [df__law_cell, df__law_free, df__law_part, df__law_names, df__law_mixed, df__law_pool, df__law_some, df__law_pages, df__law_shuffled, df__law_rows, df_TurnRule_candidates, df_TurnRule_moves, df_TurnRule_lets, df__law_spoil, df__law_integer, df__law_same, df__law_tells, df__law_links, df_check_barred, df_is_name, df_check_names, df_check_range, df_Links___iter__, df_check_known, df_checked_names, df_least, df_Tolls___init__, df_check_same_names, df_Tolls_entries, df_Tolls___or__, df_table_of, df_together, df_Tolls__after, df_Tolls__row, df_Tolls___mul__, df_Tolls_power, df_Tolls_closed, df_Links_tolls, df_Links___init__, df_hand_tolls, df_TurnRule_Rule___init__, df__law_turn_rule, df_are_bids, df_are_known, df_check_book, df_Page___init__, df_Book___init__, df_Book_page, df_Book___iter__, df_law]
def fwL : List He5.DefA := [dfS "Tolls" "same" "Tolls.same" s_Tolls_same [] []]
abbrev P : Program := PySem.Challenge.pw_turnsandkeys_k45_turn_lets
def erL : List ErD := [⟨"TurnRule", "TurnRule.__init__", clMeth (top 46) 1⟩]
def exL (K : PySem.W.Frag) : Bool := [smB K "Tolls" "same", (dfS "Tolls" "same" "Tolls.same" s_Tolls_same [] []).ok K, PySem.W.selfFirst K (He.ga K "Tolls"), tp0B K (He.dflAt ("Tolls", some "__init__") 0 K), tp0B K (He.dflAt ("Links", some "__init__") 0 K), isxB K clsL isxL, supB P K "TurnRule" "Rule" [("limit", .non), ("barred", .tp0), ("links", .tp0), ("deposit", .int 0), ("fee", .int 1), ("start", .int 0)]].all fun b => b
end Tk
set_option maxHeartbeats 0
namespace Tk
open PySem PySem.Spec L2 PyProof.Rows
def asL : List Addr := [3, 6, 4, 21, 31, 53, 74, 95, 116, 137, 158, 180, 201, 208, 216, 223, 228, 235, 242, 247, 343, 411, 422, 429, 436, 441, 456, 526, 537, 544, 549, 618, 679, 688, 695, 702, 709, 716, 723, 730, 737, 744, 751, 758, 763, 770, 775, 782, 789, 794, 0, 20, 30, 52, 73, 94, 115, 136, 157, 179, 200, 207, 215, 209, 222, 227, 234, 241, 246, 342, 410, 421, 428, 435, 440, 455, 525, 536, 543, 548, 617, 678, 687, 694, 701, 708, 715, 722, 729, 736, 743, 750, 757, 762, 769, 774, 781, 788, 793, 15, 16, 17, 18, 19, 29, 32, 50, 51, 71, 72, 92, 93, 113, 114, 134, 135, 155, 156, 177, 178, 198, 199, 204, 205, 206, 210, 211, 212, 213, 214, 217, 218, 219, 220, 221, 224, 225, 226, 229, 230, 231, 232, 233, 236, 237, 238, 239, 240, 243, 244, 245, 263, 270, 278, 285, 290, 295, 302, 307, 314, 321, 328, 335, 340, 341, 344, 345, 361, 368, 375, 382, 389, 396, 401, 408, 409, 412, 413, 416, 417, 418, 419, 420, 423, 424, 425, 426, 427, 430, 431, 432, 433, 434, 437, 438, 439, 453, 454, 457, 458, 474, 481, 488, 495, 502, 509, 516, 523, 524, 527, 528, 531, 532, 533, 534, 535, 538, 539, 540, 541, 542, 545, 546, 547, 561, 568, 575, 582, 589, 596, 603, 608, 615, 616, 619, 620, 641, 648, 655, 662, 669, 676, 677, 682, 683, 684, 685, 686, 689, 690, 691, 692, 693, 696, 697, 698, 699, 700, 703, 704, 705, 706, 707, 710, 711, 712, 713, 714, 717, 718, 719, 720, 721, 724, 725, 726, 727, 728, 731, 732, 733, 734, 735, 738, 739, 740, 741, 742, 745, 746, 747, 748, 749, 752, 753, 754, 755, 756, 759, 760, 761, 764, 765, 766, 767, 768, 771, 772, 773, 776, 777, 778, 779, 780, 783, 784, 785, 786, 787, 790, 791, 792, 49, 38, 70, 59, 91, 80, 112, 101, 133, 122, 154, 143, 176, 169, 164, 197, 186, 262, 256, 268, 269, 277, 284, 289, 294, 301, 306, 313, 320, 327, 334, 339, 360, 356, 367, 374, 381, 388, 395, 400, 407, 452, 473, 469, 480, 487, 494, 501, 508, 515, 522, 560, 567, 574, 581, 588, 595, 602, 607, 614, 640, 633, 626, 647, 654, 661, 668, 675, 44, 45, 46, 47, 48, 65, 66, 67, 68, 69, 86, 87, 88, 89, 90, 107, 108, 109, 110, 111, 128, 129, 130, 131, 132, 149, 150, 151, 152, 153, 171, 172, 173, 174, 175, 192, 193, 194, 195, 196, 257, 258, 259, 260, 261, 255, 267, 271, 272, 273, 274, 275, 276, 279, 280, 281, 282, 283, 286, 287, 288, 291, 292, 293, 296, 297, 298, 299, 300, 303, 304, 305, 308, 309, 310, 311, 312, 315, 316, 317, 318, 319, 322, 323, 324, 325, 326, 329, 330, 331, 332, 333, 336, 337, 338, 357, 358, 359, 355, 362, 363, 364, 365, 366, 369, 370, 371, 372, 373, 376, 377, 378, 379, 380, 383, 384, 385, 386, 387, 390, 391, 392, 393, 394, 397, 398, 399, 402, 403, 404, 405, 406, 449, 450, 451, 470, 471, 472, 468, 475, 476, 477, 478, 479, 482, 483, 484, 485, 486, 489, 490, 491, 492, 493, 496, 497, 498, 499, 500, 503, 504, 505, 506, 507, 510, 511, 512, 513, 514, 517, 518, 519, 520, 521, 557, 558, 559, 562, 563, 564, 565, 566, 569, 570, 571, 572, 573, 576, 577, 578, 579, 580, 583, 584, 585, 586, 587, 590, 591, 592, 593, 594, 597, 598, 599, 600, 601, 604, 605, 606, 609, 610, 611, 612, 613, 635, 636, 637, 638, 639, 631, 632, 642, 643, 644, 645, 646, 649, 650, 651, 652, 653, 656, 657, 658, 659, 660, 663, 664, 665, 666, 667, 670, 671, 672, 673, 674, 2]
abbrev Rw : PySem.W.OpenRow := PySem.W.OpenLaw.row PySem.Challenge.rw_turnsandkeys_k45_turn_lets
abbrev hookL : PySem.W.Hook := hookY asL fa fn exL fwL erL
def obL (s : PySem.W.SharedT) : AlX := obsY asL fa fn exL fwL erL (HandSHeadRun.getT s)
theorem obL_eq (s : PySem.W.SharedT) : obL s = hookL.obs s.abs := obsY_eq (HandSHeadRun.getT_eq s)
def loose : List PySem.Str := (["_wall", "HouseError", "BadName", "DoubledName", "UnknownName", "UnknownPage", "BadNumber", "BadCount", "OtherNames", "BadBook", "LETTERS", "MOST_LETTERS", "is_name", "checked_names", "check_known", "MOST_SPOTS", "MOST_TIMES", "least", "together", "check_same_names", "table_of", "Tolls", "MOST_NAMES", "MOST_LINKS", "LARGEST_TOLL", "Links", "MOST_MEMBERS", "MOST_PAGES", "MOST_COINS", "check_names"] : List PySem.Str) ++ (["are_bids", "are_known", "check_book", "Page", "Book", "MOST_LIMIT", "check_range", "check_barred", "hand_tolls", "Rule", "TurnRule", "_law_cell", "_law_mixed", "_law_pool", "_law_part", "_law_names", "_law_links", "_law_some", "_law_pages", "_law_integer", "_law_same", "_law_shuffled", "_law_rows", "_law_turn_rule", "_law_free", "_law_tells", "_law_spoil"] : List PySem.Str)
theorem runA (w : World) (os : OsState) : (HandSHeadRun.endF (HandSHeadRun.stepQ (HandSHeadRun.denQ HandSHeadRun.tabQ) Rw.prog w) 8000 Rw.prog w os).map (fun s => HandSHeadRun.looksF Rw.prog (PySem.W.boot_heap w.params) s.abs) = some (true) := by
  kernel_rfl
theorem runB (w : World) (os : OsState) : (HandSHeadRun.endF (HandSHeadRun.stepQ (HandSHeadRun.denQ HandSHeadRun.tabQ) Rw.prog w) 8000 Rw.prog w os).map (fun s => HandSHeadRun.seenQ (PySem.W.view Rw.prog [64]) loose (importedModules Rw.prog.main.body) (fun s => PySem.W.xlAt (PySem.W.view Rw.prog [64]) [] s && PySem.W.recOk Rw.records s) s.abs) = some (PySem.W.openGood (PySem.W.view Rw.prog [64]) loose) := by
  kernel_rfl
theorem runC (w : World) (os : OsState) : (HandSHeadRun.endF (HandSHeadRun.stepQ (HandSHeadRun.denQ HandSHeadRun.tabQ) Rw.prog w) 8000 Rw.prog w os).map (fun s => obL s) = some (hookL.val w) := by
  kernel_rfl
theorem runL (w : World) : HandSHeadRun.RunEq Rw (PySem.W.view Rw.prog [64]) hookL obL 8000 loose w := fun os => all3 (runA w os) (runB w os) (runC w os)
end Tk
namespace Tk
open PySem PySem.Spec L2 PyProof.Rows
end Tk
local macro_rules
  | `(tactic| simp_arith [$xs,*]) => `(tactic| simp only [Tk.sq_nx, Tk.sq_rt, Tk.sq_ro, Tk.sq_bk, Tk.sq_ct, Tk.sq_ex, Tk.sq_bad, Tk.lp_nx, Tk.lp_ct, Tk.lp_bk, Tk.lp_rt, Tk.lp_ro, Tk.lp_ex, Tk.lp_bad, Tk.sSq_ap, Tk.sN_ap, Tk.sBad_ap, Tk.sRet_ap, Tk.sRetN_ap, Tk.sDrop_ap, Tk.sIf_ap, Tk.sSet_ap, Tk.sBk_ap, Tk.sCt_ap, Tk.sAsg_ap, Tk.ofO_none, Tk.ofO_some, Tk.sFor_ap, Tk.loop_nil, Tk.eV_zero, Tk.eV_succ, Tk.eC_ap, Tk.e1_ap, Tk.e2_ap, Tk.eA_ap, Tk.aN_ap, Tk.aC_ap, Tk.Bof_bl, Tk.tV_ap, Tk.tAnd_ap, Tk.tOr_ap, Tk.tNot_ap, Tk.eAnd_ap, Tk.eOr_ap, Tk.eNot_ap, Tk.eIf_ap, Tk.eChain_ap, Tk.gN_ap, Tk.gsN_ap, Tk.gsC_ap, Tk.gT_ap, Tk.frzE_zero, Tk.frzE_succ, Tk.frzS_l, Tk.frzS_v, Tk.frzS_no, Tk.frzA_nil, Tk.frzA_cons, Tk.sFrz_ap, Tk.ownL_zero, Tk.ownL_succ, Tk.lDisp_ap, Tk.lList_ap, Tk.sOwn_ap, Tk.sApp_ap, Tk.sMut_ap, Tk.sPop_ap, Tk.eBor_ap, Tk.tBor_ap, Tk.wipeE_nil, Tk.wipeE_cons, Tk.eLc_ap, Tk.tsY_ap, Tk.iSq_ap, Tk.gIt_lst, Tk.gIt_tup, Tk.gIt_str, Tk.iR1_ap, Tk.iR2_ap, Tk.iEn2_ap, Tk.iZp2_ap, Tk.seqD_lst, Tk.seqD_tup, Tk.oN_ap, Tk.oS_ap, Tk.eSl_ap, Tk.eCall_ap, Tk.eCallK_ap, Tk.out_nx, Tk.out_rt, Tk.out_ro, Tk.out_ex, Tk.nL_ap, Tk.own_lT, Tk.sNew_ap, Tk.sRetV_ap, Tk.sRetF_ap, Tk.runO_ap, Tk.outO_ro, Tk.oCall_ap, Tk.lLc_ap, Tk.sPutL_ap, Tk.eOwnIx_ap, Tk.frzR_l, Tk.runF_ap, Tk.start_nil, Tk.start_cons', Tk.gSub_int, Tk.gAdd_int, Tk.gNeg_int, Tk.gLt_int, Tk.gLe_int, Tk.gGt_int, Tk.gGe_int, Tk.gEq_int, Tk.gEq_str, Tk.gEq_bl, Tk.gNe_def, Tk.rNot_bl, Tk.gInt_int, Tk.gInt_bl, Tk.gAbs_int, Tk.gLen_lst, Tk.gLen_tup, Tk.gLen_scr, Tk.gMin_int, Tk.gMax_int, Tk.gList_lst, Tk.gList_tup, Tk.gTuple_lst, Tk.gTuple_tup, Tk.gIsN_non, Tk.gNotN_non, Tk.gRev_lst, Tk.gRev_tup, Tk.goes_nx, Tk.goes_ct, Tk.quiet_ok, Tk.from_ok, Tk.from_exc, Tk.from_bad, Tk.bind_ok, Tk.bind_exc, Tk.bind_bad, List.set_cons_succ, List.set_cons_zero, List.map_nil, List.map_cons, List.length_cons, List.length_nil, Nat.zero_add, Nat.reduceAdd, Nat.reduceSub, Nat.reduceEqDiff, Nat.add_one_sub_one, and_self, if_true, if_false, Bool.not_true, Bool.not_false, Bool.false_eq_true, eq_self_iff_true, List.reduceReplicate, Nat.succ_ne_zero, List.cons_append, List.nil_append, Option.bind_some, decide_true, decide_false, $xs,*])
namespace Tk
open PySem PySem.Spec L2 PyProof.Rows
theorem sz0 : (0 : Nat) ≤ sizeLine := Nat.zero_le _
theorem szle {n : Nat} (h : n ≤ 1000) : n ≤ sizeLine := by rw [sz24]; omega
theorem szlt {n : Nat} (h : n ≤ 1000) : n < sizeLine := by rw [sz24]; omega
end Tk
namespace Tk
open PySem PySem.Spec L2 PyProof.Rows
abbrev Pr := Option Int
def pad : Pr → Pr → Pr
  | some x, some y => some (x + y)
  | _, _ => none
def leastP (l : List Pr) : Pr := match l.filterMap id with
  | [] => none
  | x :: xs => some (xs.foldl min x)
theorem foldl_min_mem : ∀ {xs : List Int} {x : Int}, xs.foldl min x = x ∨ xs.foldl min x ∈ xs
  | [], x => .inl rfl
  | y :: ys, x => by
    rw [List.foldl_cons]
    rcases foldl_min_mem (xs := ys) (x := min x y) with h | h
    · rw [h]
      rcases Int.le_total x y with q | q
      · left; omega
      · right; rw [show min x y = y by omega]; exact List.mem_cons_self
    · exact .inr (List.mem_cons_of_mem _ h)
theorem foldl_min_le : ∀ {xs : List Int} {x : Int}, xs.foldl min x ≤ x ∧ ∀ y ∈ xs, xs.foldl min x ≤ y
  | [], x => ⟨Int.le_refl _, fun _ m => nomatch m⟩
  | y :: ys, x => by
    rw [List.foldl_cons]
    obtain ⟨h1, h2⟩ := foldl_min_le (xs := ys) (x := min x y)
    refine ⟨by omega, fun z m => ?_⟩
    rcases List.mem_cons.mp m with rfl | m
    · omega
    · exact h2 z m
theorem least_mem {l : List Pr} {c : Int} (h : leastP l = some c) : some c ∈ l := by
  unfold leastP at h
  cases e : l.filterMap id with
  | nil => rw [e] at h; cases h
  | cons x xs =>
    rw [e] at h
    have h := Option.some.inj h
    have m : c ∈ l.filterMap id := by
      rw [e, ← h]
      rcases foldl_min_mem (xs := xs) (x := x) with q | q
      · rw [q]; exact List.mem_cons_self
      · exact List.mem_cons_of_mem _ q
    obtain ⟨a, ma, q⟩ := List.mem_filterMap.mp m
    have q : a = some c := q
    rw [← q]; exact ma
theorem least_le {l : List Pr} {c : Int} (m : some c ∈ l) : ∃ d, leastP l = some d ∧ d ≤ c := by
  have m2 : c ∈ l.filterMap id := List.mem_filterMap.mpr ⟨some c, m, rfl⟩
  unfold leastP
  cases e : l.filterMap id with
  | nil => rw [e] at m2; cases m2
  | cons x xs =>
    rw [e] at m2
    obtain ⟨h1, h2⟩ := foldl_min_le (xs := xs) (x := x)
    refine ⟨_, rfl, ?_⟩
    rcases List.mem_cons.mp m2 with rfl | m2
    · exact h1
    · exact h2 c m2
theorem pad_some {a b : Pr} {c : Int} (h : pad a b = some c) : ∃ x y, a = some x ∧ b = some y ∧ c = x + y := by
  cases a with
  | none => cases h
  | some x =>
    cases b with
    | none => cases h
    | some y => exact ⟨x, y, rfl, rfl, (Option.some.inj h).symm⟩
abbrev Tab := Nat → Nat → Pr
def mulT (n : Nat) (f g : Tab) : Tab := fun i j => leastP ((List.range n).map fun k => pad (f i k) (g k j))
theorem mul_some {n : Nat} {f g : Tab} {i j : Nat} {c : Int} (h : mulT n f g i j = some c) : ∃ k x y, k < n ∧ f i k = some x ∧ g k j = some y ∧ c = x + y := by
  have m := least_mem h
  obtain ⟨k, mk, e⟩ := List.mem_map.mp m
  obtain ⟨x, y, h1, h2, h3⟩ := pad_some e
  exact ⟨k, x, y, List.mem_range.mp mk, h1, h2, h3⟩
theorem mul_le {n : Nat} {f g : Tab} {i j k : Nat} {x y : Int} (hk : k < n) (h1 : f i k = some x) (h2 : g k j = some y) : ∃ d, mulT n f g i j = some d ∧ d ≤ x + y :=
  least_le (List.mem_map.mpr ⟨k, List.mem_range.mpr hk, by rw [h1, h2]; rfl⟩)
inductive Wk (n : Nat) (M : Tab) : Nat → Nat → Nat → Int → Prop
  | nil {i : Nat} (h : i < n) : Wk n M 0 i i 0
  | cons {m i k j : Nat} {a c : Int} (h : i < n) (e : M i k = some a) (w : Wk n M m k j c) : Wk n M (m + 1) i j (a + c)
section
variable {n : Nat} {M : Tab}
theorem Wk.fst {m i j : Nat} {c : Int} (w : Wk n M m i j c) : i < n := by cases w <;> assumption
theorem Wk.lst {m i j : Nat} {c : Int} (w : Wk n M m i j c) : j < n := by
  induction w with
  | nil h => exact h
  | cons _ _ _ ih => exact ih
theorem Wk.app {a b i k j : Nat} {c d : Int} (w : Wk n M a i k c) (w' : Wk n M b k j d) : Wk n M (a + b) i j (c + d) := by
  induction w with
  | nil h => rw [Nat.zero_add, Int.zero_add]; exact w'
  | @cons m _ _ _ _ _ h e w ih =>
    have := ih w'
    rw [show m + 1 + b = (m + b) + 1 by omega, Int.add_assoc]
    exact .cons h e this
theorem Wk.split : ∀ {a b i j : Nat} {c : Int}, Wk n M (a + b) i j c → ∃ k x y, Wk n M a i k x ∧ Wk n M b k j y ∧ c = x + y
  | 0, b, i, j, c, w => ⟨i, 0, c, .nil w.fst, by rw [Nat.zero_add] at w; exact w, by omega⟩
  | a + 1, b, i, j, c, w => by
    rw [show a + 1 + b = (a + b) + 1 by omega] at w
    cases w with
    | cons h e w =>
      obtain ⟨k, x, y, w1, w2, q⟩ := Wk.split w
      exact ⟨k, _, y, .cons h e w1, w2, by omega⟩
theorem Wk.one {i j : Nat} {a : Int} (hi : i < n) (hj : j < n) (e : M i j = some a) : Wk n M 1 i j a := by
  have := Wk.cons hi e (.nil hj)
  rw [Int.add_zero] at this
  exact this
theorem Wk.zero {i j : Nat} {c : Int} (w : Wk n M 0 i j c) : i = j ∧ c = 0 := by cases w; exact ⟨rfl, rfl⟩
theorem Wk.of_one {i j : Nat} {c : Int} (w : Wk n M 1 i j c) : M i j = some c := by
  cases w with
  | cons h e w =>
    obtain ⟨rfl, rfl⟩ := w.zero
    rw [Int.add_zero]; exact e
structure IsP (n : Nat) (M : Tab) (m : Nat) (F : Tab) : Prop where
  wk : ∀ {i j c}, i < n → j < n → F i j = some c → Wk n M m i j c
  le : ∀ {i j c}, Wk n M m i j c → ∃ d, F i j = some d ∧ d ≤ c
theorem IsP.mul {F G : Tab} {a b : Nat} (p : IsP n M a F) (q : IsP n M b G) : IsP n M (a + b) (mulT n F G) where
  wk := fun hi hj e => by
    obtain ⟨k, x, y, hk, h1, h2, rfl⟩ := mul_some e
    exact (p.wk hi hk h1).app (q.wk hk hj h2)
  le := fun w => by
    obtain ⟨k, x, y, w1, w2, rfl⟩ := w.split
    obtain ⟨d1, e1, l1⟩ := p.le w1
    obtain ⟨d2, e2, l2⟩ := q.le w2
    obtain ⟨d, e, l⟩ := mul_le w1.lst e1 e2
    exact ⟨d, e, by omega⟩
theorem IsP.congr {F G : Tab} {m : Nat} (p : IsP n M m F) (h : ∀ i j, i < n → j < n → G i j = F i j) : IsP n M m G :=
  ⟨fun hi hj e => p.wk hi hj (by rw [← h _ _ hi hj]; exact e), fun w => by rw [h _ _ w.fst w.lst]; exact p.le w⟩
def sameT : Tab := fun i j => if i = j then some 0 else none
theorem IsP.same : IsP n M 0 sameT where
  wk := fun {i j c} hi hj e => by
    unfold sameT at e
    split at e
    · rename_i h; subst h; cases e; exact .nil hi
    · cases e
  le := fun {i j c} w => by
    obtain ⟨rfl, rfl⟩ := w.zero
    exact ⟨0, if_pos rfl, Int.le_refl _⟩
theorem IsP.one : IsP n M 1 M := ⟨fun hi hj e => .one hi hj e, fun w => ⟨_, w.of_one, Int.le_refl _⟩⟩
inductive Pt (n : Nat) (M : Tab) : List Nat → Nat → Int → Prop
  | nil {i : Nat} (h : i < n) : Pt n M [i] i 0
  | cons {i k j : Nat} {r : List Nat} {a c : Int} (h : i < n) (e : M i k = some a) (w : Pt n M (k :: r) j c) : Pt n M (i :: k :: r) j (a + c)
theorem Pt.wk {l : List Nat} {j : Nat} {c : Int} (p : Pt n M l j c) : ∃ i r, l = i :: r ∧ Wk n M r.length i j c := by
  induction p with
  | nil h => exact ⟨_, [], rfl, .nil h⟩
  | cons h e w ih =>
    obtain ⟨i, r, q, w⟩ := ih
    cases q
    exact ⟨_, _, rfl, .cons h e w⟩
theorem Pt.lt {l : List Nat} {j : Nat} {c : Int} (p : Pt n M l j c) : ∀ v ∈ l, v < n := by
  induction p with
  | nil h => intro v m; rw [List.mem_singleton.mp m]; exact h
  | cons h e w ih =>
    intro v m
    rcases List.mem_cons.mp m with rfl | m
    · exact h
    · exact ih v m
theorem Pt.suf (pos : ∀ i j c, M i j = some c → 0 ≤ c) {l : List Nat} {j : Nat} {c : Int} (p : Pt n M l j c) {i : Nat} (m : i ∈ l) : ∃ r d, (i :: r) <:+ l ∧ Pt n M (i :: r) j d ∧ d ≤ c := by
  induction p with
  | nil h =>
    rw [List.mem_singleton.mp m]
    exact ⟨[], 0, List.suffix_refl _, .nil h, Int.le_refl _⟩
  | cons h e w ih =>
    rcases List.mem_cons.mp m with rfl | m
    · exact ⟨_, _, List.suffix_refl _, .cons h e w, Int.le_refl _⟩
    · obtain ⟨r, d, s, q, l⟩ := ih m
      have := pos _ _ _ e
      exact ⟨r, d, s.trans (List.suffix_cons _ _), q, by omega⟩
theorem Wk.path (pos : ∀ i j c, M i j = some c → 0 ≤ c) {m i j : Nat} {c : Int} (w : Wk n M m i j c) : ∃ r d, (i :: r).Nodup ∧ Pt n M (i :: r) j d ∧ d ≤ c := by
  induction w with
  | nil h => exact ⟨[], 0, by simp, .nil h, Int.le_refl _⟩
  | @cons m i k j a c h e w ih =>
    obtain ⟨r, d, nd, p, l⟩ := ih
    have a0 := pos _ _ _ e
    by_cases z : i ∈ k :: r
    · obtain ⟨r', d', s, p', l'⟩ := p.suf pos z
      exact ⟨r', d', s.sublist.nodup nd, p', by omega⟩
    · exact ⟨k :: r, a + d, List.nodup_cons.mpr ⟨z, nd⟩, .cons h e p, by omega⟩
theorem nodup_lt : ∀ {n : Nat} {l : List Nat}, l.Nodup → (∀ v ∈ l, v < n) → l.length ≤ n
  | n, l, nd, h => by
    have : l ⊆ List.range n := fun v m => List.mem_range.mpr (h v m)
    have := List.Nodup.length_le_of_subset nd this
    rwa [List.length_range] at this
theorem Wk.short (pos : ∀ i j c, M i j = some c → 0 ≤ c) {m i j : Nat} {c : Int} (w : Wk n M m i j c) : ∃ m' d, m' < n ∧ Wk n M m' i j d ∧ d ≤ c := by
  obtain ⟨r, d, nd, p, l⟩ := w.path pos
  obtain ⟨i', r', e, w'⟩ := p.wk
  cases e
  have := nodup_lt nd p.lt
  rw [List.length_cons] at this
  exact ⟨_, d, by omega, w', l⟩
structure IsC (n : Nat) (f F : Tab) : Prop where
  wk : ∀ {i j c}, i < n → j < n → F i j = some c → ∃ m, m < n ∧ Wk n f m i j c
  le : ∀ {i j m c}, Wk n f m i j c → ∃ d, F i j = some d ∧ d ≤ c
structure IsH (n : Nat) (f M : Tab) : Prop where
  of : ∀ {i j c}, i < n → j < n → M i j = some c → (i = j ∧ c = 0) ∨ f i j = some c
  up : ∀ {i j c}, i < n → j < n → f i j = some c → ∃ d, M i j = some d ∧ d ≤ c
  self : ∀ {i}, i < n → M i i = some 0
theorem IsH.wk {f : Tab} (H : IsH n f M) {m i j : Nat} {c : Int} (w : Wk n M m i j c) : ∃ m', Wk n f m' i j c := by
  induction w with
  | nil h => exact ⟨0, .nil h⟩
  | cons h e w ih =>
    obtain ⟨m', w'⟩ := ih
    rcases H.of h w.fst e with ⟨rfl, rfl⟩ | e
    · exact ⟨m', by rw [Int.zero_add]; exact w'⟩
    · exact ⟨m' + 1, .cons h e w'⟩
theorem IsH.up_wk {f : Tab} (H : IsH n f M) {m i j : Nat} {c : Int} (w : Wk n f m i j c) : ∃ d, Wk n M m i j d ∧ d ≤ c := by
  induction w with
  | nil h => exact ⟨0, .nil h, Int.le_refl _⟩
  | cons h e w ih =>
    obtain ⟨d, w', l⟩ := ih
    obtain ⟨a, e', l'⟩ := H.up h w.fst e
    exact ⟨a + d, .cons h e' w', by omega⟩
theorem IsH.wait {f : Tab} (H : IsH n f M) {i : Nat} (hi : i < n) : ∀ m : Nat, Wk n M m i i 0
  | 0 => .nil hi
  | m + 1 => by
    have := Wk.cons hi (H.self hi) (H.wait hi m)
    exact this
theorem IsH.closed {f F : Tab} (H : IsH n f M) (pos : ∀ i j c, f i j = some c → 0 ≤ c) (p : IsP n M n F) : IsC n f F where
  wk := fun {i j c} hi hj e => by
    obtain ⟨m', w'⟩ := H.wk (p.wk hi hj e)
    obtain ⟨m2, d, hm, w2, l⟩ := w'.short pos
    obtain ⟨d3, w3, l3⟩ := H.up_wk w2
    have w4 := w3.app (H.wait w3.lst (n - m2))
    rw [show m2 + (n - m2) = n by omega] at w4
    obtain ⟨d5, e5, l5⟩ := p.le w4
    rw [e] at e5
    cases e5
    have : d = c := by omega
    subst this
    exact ⟨m2, hm, w2⟩
  le := fun {i j m c} w => by
    obtain ⟨m2, d, hm, w2, l⟩ := w.short pos
    obtain ⟨d3, w3, l3⟩ := H.up_wk w2
    have w4 := w3.app (H.wait w3.lst (n - m2))
    rw [show m2 + (n - m2) = n by omega] at w4
    obtain ⟨d5, e5, l5⟩ := p.le w4
    exact ⟨d5, e5, by omega⟩
end
def entP (es : List (Nat × Nat × Int)) : Tab := fun i j => leastP ((es.filter fun e => decide (e.1 = i ∧ e.2.1 = j)).map fun e => some e.2.2)
theorem ent_some {es : List (Nat × Nat × Int)} {i j : Nat} {c : Int} (h : entP es i j = some c) : (i, j, c) ∈ es := by
  obtain ⟨e, me, q⟩ := List.mem_map.mp (least_mem h)
  obtain ⟨m1, m2⟩ := List.mem_filter.mp me
  obtain ⟨q1, q2⟩ := of_decide_eq_true m2
  cases q
  rw [← q1, ← q2]
  exact m1
theorem ent_le {es : List (Nat × Nat × Int)} {i j : Nat} {c : Int} (m : (i, j, c) ∈ es) : ∃ d, entP es i j = some d ∧ d ≤ c :=
  least_le (List.mem_map.mpr ⟨(i, j, c), List.mem_filter.mpr ⟨m, decide_eq_true ⟨rfl, rfl⟩⟩, rfl⟩)
theorem least_snoc {l : List Pr} {x : Int} : leastP (l ++ [some x]) = leastP [leastP l, some x] := by
  unfold leastP
  rw [List.filterMap_append]
  cases e : l.filterMap id with
  | nil => rfl
  | cons y ys =>
    show some ((ys ++ [x]).foldl min y) = some ([x].foldl min (ys.foldl min y))
    rw [List.foldl_append]
theorem ent_snoc {es : List (Nat × Nat × Int)} {e : Nat × Nat × Int} {i j : Nat} : entP (es ++ [e]) i j = if e.1 = i ∧ e.2.1 = j then leastP [entP es i j, some e.2.2] else entP es i j := by
  unfold entP
  rw [List.filter_append, List.map_append]
  by_cases z : e.1 = i ∧ e.2.1 = j
  · rw [List.filter_cons_of_pos (by simpa using z), List.filter_nil, List.map_cons, List.map_nil, if_pos z, least_snoc]
  · rw [List.filter_cons_of_neg (by simpa using z), List.filter_nil, List.map_nil, List.append_nil, if_neg z]
end Tk
namespace Tk
open PySem PySem.Spec L2 PyProof.Rows
abbrev nD (w : List Nat) : D := .str (S w)
theorem inV_names {w : List Nat} {ws : List (List Nat)} : inV (toV (nD w)) ((ws.map nD).map toV) = decide (w ∈ ws) := by
  unfold inV
  rw [List.map_map, List.any_map, Bool.eq_iff_iff, List.any_eq_true, decide_eq_true_eq]
  constructor
  · rintro ⟨u, m, e⟩
    have e2 : (S u == S w) = true := e
    rw [← S_inj (eq_of_beq e2)]
    exact m
  · intro m
    exact ⟨w, m, by show (S w == S w) = true; exact beq_self_eq_true _⟩
theorem flat_names {ws : List (List Nat)} : (ws.map nD).all flatD = true := by rw [List.all_map]; exact List.all_eq_true.mpr fun _ _ => rfl
theorem in_lst {w : List Nat} {ws : List (List Nat)} : gInS false (nD w) (.lst (ws.map nD)) = .ok (.bl (decide (w ∈ ws))) := by
  show (if flatD (nD w) = true ∧ (ws.map nD).all flatD = true then R.ok (D.bl (if false = true then !inV (toV (nD w)) ((ws.map nD).map toV) else inV (toV (nD w)) ((ws.map nD).map toV))) else gInP false (nD w) (ws.map nD)) = _
  rw [if_pos ⟨rfl, flat_names⟩, if_neg Bool.false_ne_true, inV_names]
theorem nin_lst {w : List Nat} {ws : List (List Nat)} : gInS true (nD w) (.lst (ws.map nD)) = .ok (.bl (!decide (w ∈ ws))) := by
  show (if flatD (nD w) = true ∧ (ws.map nD).all flatD = true then R.ok (D.bl (if true = true then !inV (toV (nD w)) ((ws.map nD).map toV) else inV (toV (nD w)) ((ws.map nD).map toV))) else gInP true (nD w) (ws.map nD)) = _
  rw [if_pos ⟨rfl, flat_names⟩, if_pos rfl, inV_names]
theorem in_tup {w : List Nat} {ws : List (List Nat)} : gInS false (nD w) (.tup (ws.map nD)) = .ok (.bl (decide (w ∈ ws))) := by
  show (if flatD (nD w) = true ∧ (ws.map nD).all flatD = true then R.ok (D.bl (if false = true then !inV (toV (nD w)) ((ws.map nD).map toV) else inV (toV (nD w)) ((ws.map nD).map toV))) else .bad) = _
  rw [if_pos ⟨rfl, flat_names⟩, if_neg Bool.false_ne_true, inV_names]
theorem nin_tup {w : List Nat} {ws : List (List Nat)} : gInS true (nD w) (.tup (ws.map nD)) = .ok (.bl (!decide (w ∈ ws))) := by
  show (if flatD (nD w) = true ∧ (ws.map nD).all flatD = true then R.ok (D.bl (if true = true then !inV (toV (nD w)) ((ws.map nD).map toV) else inV (toV (nD w)) ((ws.map nD).map toV))) else .bad) = _
  rw [if_pos ⟨rfl, flat_names⟩, if_pos rfl, inV_names]
end Tk
namespace Tk
open PySem PySem.Spec L2 PyProof.Rows
def sqD (b : Bool) (xs : List D) : D := match b with
  | true => .tup xs
  | false => .lst xs
section
variable {b : Bool} {xs : List D} {j : Int}
@[simp] theorem gIt_sq : gIt (sqD b xs) = .ok xs := by cases b <;> rfl
@[simp] theorem gLen_sq : gLen [sqD b xs] = .ok (.int xs.length) := by cases b <;> rfl
@[simp] theorem seqD_sq : seqD (sqD b xs) = some (b, xs) := by cases b <;> rfl
theorem cut_hi {α : Type} {l : List α} (h : 0 ≤ j) : cutD l none (some j) = l.take j.toNat := by
  have e : HT.sIx l.length l.length (some j) = min j.toNat l.length := by
    show (if j < 0 then (j + (l.length : Int)).toNat else min j.toNat l.length) = _
    rw [if_neg (by omega)]
  unfold cutD
  rw [e, HT.sIx_none, List.drop_zero, Nat.sub_zero, ← List.take_eq_take_min]
theorem gSl_sq (h : 0 ≤ j) : gSl (sqD b xs) none (some j) = .ok (sqD b (xs.take j.toNat)) := by
  cases b
  · show R.ok (D.lst (cutD xs none (some j))) = _
    rw [cut_hi h] <;> rfl
  · show R.ok (D.tup (cutD xs none (some j))) = _
    rw [cut_hi h] <;> rfl
theorem gSl_lst (h : 0 ≤ j) : gSl (.lst xs) none (some j) = .ok (.lst (xs.take j.toNat)) := gSl_sq (b := false) h
end
theorem enum_get {xs : List D} : ∀ {k i : Nat}, (enumD k xs)[i]? = xs[i]?.map fun d => .tup [.int ((k + i : Nat) : Int), d] := by
  induction xs with
  | nil => intro k i; rfl
  | cons d r ih =>
    intro k i
    cases i with
    | zero => rfl
    | succ i =>
      show (enumD (k + 1) r)[i]? = _
      rw [ih, List.getElem?_cons_succ, show k + 1 + i = k + (i + 1) by omega]
theorem enum_len {xs : List D} : ∀ {k : Nat}, (enumD k xs).length = xs.length := by
  induction xs with
  | nil => intro k; rfl
  | cons d r ih => intro k; show (enumD (k + 1) r).length + 1 = _; rw [ih]; rfl
theorem loop_en {α : Type} {inj : α → D} {h : Tg} {body : Ev → SO} (I : Nat → Ev → Prop) {l : List α} {ρ : Ev} (h0 : I 0 ρ) (hs : ∀ i a ρ, l[i]? = some a → I i ρ → ∃ ρ1, h (.tup [.int (i : Int), inj a]) ρ = some ρ1 ∧ SO.goes (body ρ1) (I (i + 1))) : ∃ ρ', loop h body (enumD 0 (l.map inj)) ρ = .nx ρ' ∧ I l.length ρ' := by
  obtain ⟨ρ', e1, e2⟩ := loop_inv I (ds := enumD 0 (l.map inj)) (ρ := ρ) 0 h0 fun i d ρ q hI => by
    rw [enum_get, List.getElem?_map] at q
    obtain ⟨d', q1, rfl⟩ := Option.map_eq_some_iff.mp q
    obtain ⟨a, q2, rfl⟩ := Option.map_eq_some_iff.mp q1
    rw [Nat.zero_add] at hI ⊢
    exact hs i a ρ q2 hI
  rw [enum_len, List.length_map, Nat.zero_add] at e2
  exact ⟨ρ', e1, e2⟩
theorem lc_all {α : Type} {inj : α → D} {h : Tg} {t : Ev → R Bool} {fe : Ev → R D} {ρ : Ev} (f : α → D) {l : List α} (H : ∀ a ∈ l, ∃ ρ1, h (inj a) ρ = some ρ1 ∧ t ρ1 = .ok true ∧ fe ρ1 = .ok (f a)) : lcL h t fe ρ (l.map inj) = .ok (l.map f) := by
  rw [lc_map (fun _ => true) f fun a m => by
    obtain ⟨ρ1, e1, e2, e3⟩ := H a m
    exact ⟨ρ1, e1, e2, fun _ => e3⟩, List.filter_eq_self.mpr fun _ _ => rfl]
theorem ints_map : ∀ ns : List Int, intsOf (ns.map .int) = some ns
  | [] => rfl
  | n :: ns => by
    show (intsOf (ns.map .int)).map (n :: ·) = _
    rw [ints_map ns]
    rfl
theorem bols_map : ∀ ns : List Bool, bolsOf (ns.map .bl) = some ns
  | [] => rfl
  | n :: ns => by
    show (bolsOf (ns.map .bl)).map (n :: ·) = _
    rw [bols_map ns]
    rfl
@[simp] theorem gAll_map {ns : List Bool} : gAll [.lst (ns.map .bl)] = .ok (.bl (ns.all id)) := by
  show (optR (bolsOf (ns.map .bl))).bind _ = _
  rw [bols_map]
  rfl
theorem occ_abc : ∀ c : Nat, c < 26 → (!(Builtin.Str.occurrences (S abc) (S [c + 97]) 0 (S abc).length 1).isEmpty) = true := by decide +kernel
theorem in_abc {c : Nat} (h : 97 ≤ c ∧ c ≤ 122) : gInS false (.str (S [c])) (.str (S abc)) = .ok (.bl true) := by
  show R.ok (D.bl (!(Builtin.Str.occurrences (S abc) (S [c]) 0 (S abc).length 1).isEmpty)) = _
  have := occ_abc (c - 97) (by omega)
  rw [show c - 97 + 97 = c by omega] at this
  rw [this]
theorem is_name_ok {w : List Nat} (h : okName w) : F_is_name [.str (S w)] = .ok (.bl true) := by
  obtain ⟨h1, h2, h3⟩ := h
  have l : gLen [.str (S w)] = .ok (.int (w.length : Int)) := by rw [gLen_str (by rw [S_len, sz24]; omega), S_len]
  have c1 : decide ((1 : Int) ≤ (w.length : Int)) = true := decide_eq_true (by omega)
  have c2 : decide ((w.length : Int) ≤ 8) = true := decide_eq_true (by omega)
  have e := lc_all (inj := fun c => D.str (S [c])) (h := gN 1) (t := tsY) (fe := e2 (gInS false) (eV 1) (eC (.str (S abc)))) (ρ := [.v (.str (S w)), .no]) (fun _ => D.bl true) (l := w) fun c m =>
    ⟨[.v (.str (S w)), .v (.str (S [c]))], rfl, rfl, by simp only [e2_ap, eV_succ, eV_zero, eC_ap, bind_ok, in_abc (h3 c m)]⟩
  have sg : signs (S w) = w.map fun c => D.str (S [c]) := rfl
  have sz : (w.map fun c => D.str (S [c])).length ≤ sizeLine := by rw [List.length_map, sz24]; omega
  have all : w.map (fun _ => D.bl true) = (w.map fun _ => true).map D.bl := by rw [List.map_map]; rfl
  have all2 : (w.map fun _ => true).all id = true := by simp
  unfold F_is_name G_is_name
  simp only [abc_eq, runF_ap, show startE 2 [.str (S w)] = [.v (.str (S w)), .no] from rfl, sSq_ap, sIf_ap, tNot_ap, tV_ap, eChain_ap, eC_ap, eA_ap, aC_ap, aN_ap, eV_zero, bind_ok, l, gLe_int, Bof_bl, c1, c2, if_true, Bool.not_true, from_ok, if_false, Bool.false_eq_true, sN_ap, sq_nx, sRet_ap, eLc_ap, iSq_ap, gIt_str, sg, sz, wipeE_cons, wipeE_nil, List.set_cons_succ, List.set_cons_zero, e, all, gAll_map, all2, out_rt]
abbrev Bd := List Nat × Int × Int
def okBd (b : Bd) : Prop := okName b.1 ∧ 1 ≤ b.2.1 ∧ b.2.1 ≤ 1000 ∧ 0 ≤ b.2.2 ∧ b.2.2 ≤ 1000000000
structure okCrew (bs : List Bd) : Prop where
  len : bs.length ≤ 6
  each : ∀ b ∈ bs, okBd b
  nd : (bs.map (·.1)).Nodup
theorem okCrew.rev {bs : List Bd} (h : okCrew bs) : okCrew bs.reverse := ⟨by rw [List.length_reverse]; exact h.len, fun b m => h.each b (List.mem_reverse.mp m), by rw [List.map_reverse]; exact List.pairwise_reverse.mpr (h.nd.imp Ne.symm)⟩
end Tk
namespace Tk
open PySem PySem.Spec L2 PyProof.Rows
section
variable {ρ : Ev} {d : D} {s : Sl} {i : Nat}
theorem eFrz_ap {f : Ev → R Sl} : eFrz f ρ = (f ρ).bind frzR := (rfl)
theorem frzR_o {g : Option Addr} {c : Nat} {fs : List (Nat × D)} : frzR (.o g c fs) = .ok (.ins c fs) := (rfl)
theorem nMake_ap {c n : Nat} {F : Addr → List D → R (List (Nat × D))} {fa : Ev → R (List D)} : nMake c n F fa ρ = (fa ρ).bind fun ds => if ds.length + 1 = n then (unA fun a => F a ds).bind fun fs => .ok (.o none c fs) else .bad := (rfl)
theorem nMakeK_ap {c n m p : Nat} {F : Addr → List D → R (List (Nat × D))} {gD : List D → List D → List D} {fa fk : Ev → R (List D)} : nMakeK c n m p F gD fa fk ρ = (fa ρ).bind fun ds => (fk ρ).bind fun zs => if ds.length = n ∧ zs.length = m ∧ (gD ds zs).length + 1 = p then (unA fun a => F a (gD ds zs)).bind fun fs => .ok (.o none c fs) else .bad := (rfl)
theorem ownO_zero {g : Option Addr} {c : Nat} {fs : List (Nat × D)} : ownO (.o g c fs :: ρ) 0 = .ok (g, c, fs) := (rfl)
theorem sFldO_ap {cs : List Nat} {f : Nat} {fe : Ev → R D} : sFldO cs i f fe ρ = SO.from ρ (fe ρ) fun d => SO.from ρ (ownO ρ i) fun q => if q.2.1 ∈ cs ∧ q.2.2.length < 1000 then .nx (ρ.set i (.o q.1 q.2.1 (putN f d q.2.2))) else .bad := (rfl)
theorem eFldO_ap {cs : List Nat} {f : Nat} : eFldO cs i f ρ = (ownO ρ i).bind fun q => if q.2.1 ∈ cs then optR (q.2.2.lookup f) else .bad := (rfl)
theorem runI_ap {c n : Nat} {g : Ev → SO} {a : Addr} {ds : List D} : runI c n g a ds = (g (startI a c n ds)).outI a c := (rfl)
theorem outI_nx {a : Addr} {c : Nat} {fs : List (Nat × D)} : SO.outI a c (.nx (.o (some a) c fs :: ρ)) = .ok fs := by
  show (if some a = some a ∧ c = c then R.ok fs else .bad) = _
  rw [if_pos ⟨rfl, rfl⟩]
theorem gFld_ins {cs : List Nat} {f c : Nat} {fs : List (Nat × D)} : gFld cs f (.ins c fs) = if c ∈ cs ∧ (fs.map (·.1)).all (fun k => k ≤ 1000) = true then optR (fs.lookup f) else .bad := (rfl)
theorem eMeth_ap {c nf n : Nat} {F : List D → R D} {fo : Ev → R D} {fa : Ev → R (List D)} : eMeth c nf n F fo fa ρ = (fo ρ).bind fun d => if insB c nf d = true then (fa ρ).bind fun ds => if ds.length + 1 = n then F (d :: ds) else .bad else .bad := (rfl)
theorem eMethK_ap {c nf n m p : Nat} {F : List D → R D} {gD : List D → List D → List D} {fo : Ev → R D} {fa fk : Ev → R (List D)} : eMethK c nf n m p F gD fo fa fk ρ = (fo ρ).bind fun d => if insB c nf d = true then (fa ρ).bind fun ds => (fk ρ).bind fun zs => if ds.length = n ∧ zs.length = m ∧ (gD ds zs).length + 1 = p then F (d :: gD ds zs) else .bad else .bad := (rfl)
theorem sOwnZ_ap {fl : Ev → R (List D)} : sOwnZ i fl ρ = SO.from ρ (fl ρ) fun ds => .nx (ρ.set i (.v (.lst ds))) := (rfl)
end
end Tk
namespace Tk
open PySem PySem.Spec L2 PyProof.Rows
abbrev Bal := List (List Nat)
abbrev Row := Bal × Int
def bD (b : Bal) : D := .tup (b.map nD)
def zD (b : Bal) : D := .tpz (b.map nD)
def keyW (w : List Nat) : Key := .inr (S w)
def keyB (b : Bal) : List Key := b.map keyW
theorem keyW_inj {a b : List Nat} (h : keyW a = keyW b) : a = b := S_inj (Sum.inr.inj h)
structure okBal (os b : Bal) : Prop where
  nd : b.Nodup
  sub : ∀ w ∈ b, w ∈ os
theorem sub_len {α : Type} [DecidableEq α] : ∀ {b os : List α}, b.Nodup → (∀ w ∈ b, w ∈ os) → b.length ≤ os.length
  | [], _, _, _ => Nat.zero_le _
  | w :: b, os, h, s => by
    have hw := s w List.mem_cons_self
    have hn := List.nodup_cons.mp h
    have := sub_len (b := b) (os := os.erase w) hn.2 fun x m => (List.mem_erase_of_ne (fun e => hn.1 (by rw [← e]; exact m))).mpr (s x (List.mem_cons_of_mem _ m))
    rw [List.length_erase_of_mem hw] at this
    have : 0 < os.length := List.length_pos_of_mem hw
    rw [List.length_cons]
    omega
theorem nd_get {α : Type} {l : List α} (h : l.Nodup) {i j : Nat} {a : α} (h1 : l[i]? = some a) (h2 : l[j]? = some a) : i = j := by
  obtain ⟨i1, e1⟩ := List.getElem?_eq_some_iff.mp h1
  obtain ⟨j1, e2⟩ := List.getElem?_eq_some_iff.mp h2
  have p := List.pairwise_iff_getElem.mp h
  rcases Nat.lt_trichotomy i j with z | z | z
  · exact absurd (e1.trans e2.symm) (p i j i1 j1 z)
  · exact z
  · exact absurd (e2.trans e1.symm) (p j i j1 i1 z)
theorem nd_take {α : Type} {l : List α} (h : l.Nodup) {i : Nat} {a : α} (q : l[i]? = some a) : a ∉ l.take i := fun m => by
  obtain ⟨k, k1, k2⟩ := List.getElem_of_mem m
  rw [List.length_take] at k1
  rw [List.getElem_take] at k2
  have := nd_get h q (j := k) (List.getElem?_eq_some_iff.mpr ⟨by omega, k2⟩)
  omega
theorem okBal.len {os b : Bal} (h : okBal os b) : b.length ≤ os.length := sub_len h.nd h.sub
theorem okBal.nil {os : Bal} : okBal os [] := ⟨.nil, fun _ m => nomatch m⟩
section
variable {xs : List D} {b : Bal} {w : List Nat}
@[simp] theorem gIt_tpz : gIt (.tpz xs) = .ok xs := (rfl)
@[simp] theorem gIt_tp0 : gIt .tp0 = .ok [] := (rfl)
@[simp] theorem gLen_tpz : gLen [.tpz xs] = .ok (.int xs.length) := (rfl)
@[simp] theorem gList_tpz : gList [.tpz xs] = .ok (.lst xs) := (rfl)
@[simp] theorem gTuple_tpz : gTuple [.tpz xs] = .ok (.tpz xs) := (rfl)
@[simp] theorem gTupZ_lst : gTupZ [.lst xs] = .ok (.tpz xs) := (rfl)
@[simp] theorem gTupZ_tpz : gTupZ [.tpz xs] = .ok (.tpz xs) := (rfl)
@[simp] theorem seqD_tpz : seqD (.tpz xs) = some (true, xs) := (rfl)
theorem in_tpz {ws : Bal} : gInS false (nD w) (.tpz (ws.map nD)) = .ok (.bl (decide (w ∈ ws))) := by
  show (if flatD (nD w) = true ∧ (ws.map nD).all flatD = true then R.ok (D.bl (if false = true then !inV (toV (nD w)) ((ws.map nD).map toV) else inV (toV (nD w)) ((ws.map nD).map toV))) else .bad) = _
  rw [if_pos ⟨rfl, flat_names⟩, if_neg Bool.false_ne_true, inV_names]
theorem nin_tpz {ws : Bal} : gInS true (nD w) (.tpz (ws.map nD)) = .ok (.bl (!decide (w ∈ ws))) := by
  show (if flatD (nD w) = true ∧ (ws.map nD).all flatD = true then R.ok (D.bl (if true = true then !inV (toV (nD w)) ((ws.map nD).map toV) else inV (toV (nD w)) ((ws.map nD).map toV))) else .bad) = _
  rw [if_pos ⟨rfl, flat_names⟩, if_pos rfl, inV_names]
theorem sPutT_ap {ρ : Ev} {i : Nat} {f fi : Ev → R D} : sPutT i fi f ρ = SO.from ρ (f ρ) fun d => SO.from ρ (ownT ρ i) fun kvs => SO.from ρ (fi ρ) fun y => match keyT y with
  | some k => if kvs.length < sizeLine then .nx (ρ.set i (.t (putG kvs k d))) else .bad
  | none => .bad := (rfl)
theorem nDT_ap {ρ : Ev} : nDT ρ = .ok (.t []) := (rfl)
theorem ownT_zero {ρ : Ev} {kvs : List (List Key × D)} : ownT (.t kvs :: ρ) 0 = .ok kvs := (rfl)
theorem ownT_succ {ρ : Ev} {s : Sl} {i : Nat} : ownT (s :: ρ) (i + 1) = ownT ρ i := (rfl)
theorem frzS_t {kvs : List (List Key × D)} : frzS (.t kvs) = .v (.dT kvs) := (rfl)
theorem frzS_o {g : Option Addr} {c : Nat} {fs : List (Nat × D)} : frzS (.o g c fs) = .v (.ins c fs) := (rfl)
theorem own_t {kvs : List (List Key × D)} : Sl.own (.t kvs) = true := (rfl)
theorem iDun_ap {ρ : Ev} {c : Nat} {F : List D → R D} {fo : Ev → R D} : iDun c F fo ρ = (fo ρ).bind fun d => if isIns c d = true then R.tup (F [d]) else .bad := (rfl)
end
def nmsD : Bool → Bal → D
  | false, os => .lst (os.map nD)
  | true, os => zD os
end Tk
namespace Tk
open PySem PySem.Spec L2 PyProof.Rows
theorem putG_new {α : Type} {kvs : List (Key × α)} {k : Key} {v : α} (h : k ∉ kvs.map (·.1)) : putG kvs k v = kvs ++ [(k, v)] := by
  unfold putG
  rw [if_neg]
  rw [List.any_eq_true]
  rintro ⟨x, m, e⟩
  exact h (List.mem_map.mpr ⟨x, m, of_decide_eq_true e⟩)
theorem mergeG_new {α : Type} : ∀ {more kvs : List (Key × α)}, (more.map (·.1)).Nodup → (∀ x ∈ more.map (·.1), x ∉ kvs.map (·.1)) → mergeG kvs more = kvs ++ more
  | [], kvs, _, _ => by simp [mergeG]
  | (k, v) :: more, kvs, nd, dj => by
    rw [List.map_cons, List.nodup_cons] at nd
    show mergeG (putG kvs k v) more = _
    rw [putG_new (dj k (by simp)), mergeG_new nd.2]
    · simp
    · intro x m
      rw [List.map_append]
      intro z
      rcases List.mem_append.mp z with z | z
      · exact dj x (by rw [List.map_cons]; exact List.mem_cons_of_mem _ m) z
      · have : x = k := by simpa using z
        exact nd.1 (this ▸ m)
end Tk
namespace Tk
open PySem PySem.Spec L2 PyProof.Rows
section
variable {κ κ' α β : Type} [DecidableEq κ] [DecidableEq κ']
theorem getG_map {f : κ → κ'} {g : α → β} (hf : ∀ a b, f a = f b → a = b) (k : κ) : ∀ cs : List (κ × α), getG (cs.map fun r => (f r.1, g r.2)) (f k) = (getG cs k).map g
  | [] => rfl
  | c :: cs => by
    have ih := getG_map (g := g) hf k cs
    unfold getG at ih ⊢
    rw [List.map_cons]
    by_cases z : c.1 = k
    · rw [List.find?_cons_of_pos (by simp [z]), List.find?_cons_of_pos (by simp [z])]
      rfl
    · have z2 : ¬ f c.1 = f k := fun e => z (hf _ _ e)
      rw [List.find?_cons_of_neg (by simp [z2]), List.find?_cons_of_neg (by simp [z])]
      exact ih
theorem getG_none {cs : List (κ × α)} {k : κ} (h : k ∉ cs.map (·.1)) : getG cs k = none := by
  unfold getG
  rw [List.find?_eq_none.mpr fun c m => by
    simp only [decide_eq_true_eq]
    intro e
    exact h (by rw [← e]; exact List.mem_map.mpr ⟨_, m, rfl⟩)]
  rfl
end
def cD (cs : List Row) : List (List Key × D) := cs.map fun r => (keyB r.1, .int r.2)
def sumP (p : Bal → Bool) (rs : List Row) : Int := ((rs.filter fun r => p r.1).map (·.2)).sum
structure okRows (os : Bal) (rs : List Row) : Prop where
  bal : ∀ r ∈ rs, okBal os r.1
  nn : ∀ r ∈ rs, 0 ≤ r.2
theorem okRows.app {os : Bal} {rs qs : List Row} (h : okRows os rs) (g : okRows os qs) : okRows os (rs ++ qs) := ⟨fun r m => (List.mem_append.mp m).elim (h.bal r) (g.bal r), fun r m => (List.mem_append.mp m).elim (h.nn r) (g.nn r)⟩
theorem okRows.nil {os : Bal} : okRows os [] := ⟨fun _ m => (nomatch m), fun _ m => (nomatch m)⟩
theorem okRows.take {os : Bal} {rs : List Row} (h : okRows os rs) (n : Nat) : okRows os (rs.take n) := ⟨fun r m => h.bal r (List.mem_of_mem_take m), fun r m => h.nn r (List.mem_of_mem_take m)⟩
end Tk
namespace Tk
open PySem PySem.Spec L2 PyProof.Rows
def idx (os : Bal) (w : List Nat) : Int := ((os.idxOf w : Nat) : Int)
def places (os : Bal) (b : Bal) : List Int := b.map (idx os)
end Tk
namespace Tk
open PySem PySem.Spec L2 PyProof.Rows
structure okNorm (os : Bal) (ns : List Row) : Prop where
  nd : (ns.map (·.1)).Nodup
  bal : ∀ r ∈ ns, okBal os r.1
  pos : ∀ r ∈ ns, 0 < r.2
theorem okNorm.rows {os : Bal} {ns : List Row} (h : okNorm os ns) : okRows os ns := ⟨h.bal, fun r m => Int.le_of_lt (h.pos r m)⟩
end Tk
namespace Tk
open PySem PySem.Spec L2 PyProof.Rows
end Tk
namespace Tk
open PySem PySem.Spec L2 PyProof.Rows
structure okNms (os : Bal) : Prop where
  pos : 1 ≤ os.length
  few : os.length ≤ 6
  each : ∀ w ∈ os, okName w
  nd : os.Nodup
end Tk
namespace Tk
open PySem PySem.Spec L2 PyProof.Rows
abbrev Lk := Nat × Nat × Int
def lkD (os : Bal) (l : Lk) : D := .tup [nD (os.getD l.1 []), nD (os.getD l.2.1 []), .int l.2.2]
structure okLk (n : Nat) (l : Lk) : Prop where
  a : l.1 < n
  b : l.2.1 < n
  ne : l.1 ≠ l.2.1
  lo : 0 ≤ l.2.2
  hi : l.2.2 ≤ 1000000000
def okLks (n : Nat) (ts : List Lk) : Prop := ∀ l ∈ ts, okLk n l
theorem gIx_os {os : Bal} {i : Int} (h : 0 ≤ i) (h2 : i < os.length) : gIx (.lst (os.map nD)) (.int i) = .ok (nD (os.getD i.toNat [])) := gIx_map (inj := nD) h (by rw [List.getD_eq_getElem?_getD, List.getElem?_eq_getElem (by omega : i.toNat < os.length)]; rfl)
theorem gTup3 (a b c : D) : gTup [a, b, c] = .ok (.tup [a, b, c]) := if_pos (szle (by simp))
theorem step_ne {n one x : Int} (h2 : 2 ≤ n) (h0 : 0 ≤ one) (h1 : one < n) : (one + 1 + x % (n - 1)) % n ≠ one := fun e => by
  have a1 := Int.emod_nonneg x (by omega : n - 1 ≠ 0)
  have a2 := Int.emod_lt_of_pos x (by omega : 0 < n - 1)
  generalize x % (n - 1) = y at *
  by_cases z : one + 1 + y < n
  · rw [Int.emod_eq_of_lt (by omega) z] at e
    omega
  · have : (one + 1 + y) % n = one + 1 + y - n := by
      rw [← Int.sub_emod_right, Int.emod_eq_of_lt (by omega) (by omega)]
    omega
def lksE (ps : List Int) (spot : Int) (os : Bal) (number : Int) (ts : List Lk) (s5 s6 s7 s8 : Sl) : Ev := [.v (.lst (ps.map .int)), .v (.int spot), .v (.lst (os.map nD)), .v (.int number), .l (ts.map (lkD os)), s5, s6, s7, s8]
theorem links_ok {ps : List Int} {spot number : Int} {os : Bal} (ho : okNms os) (h0 : 0 ≤ spot) (hn : 0 ≤ number) (hn2 : number ≤ 400) (h1 : spot + number ≤ ps.length) :
    ∃ ts : List Lk, okLks os.length ts ∧ ts.length ≤ number.toNat ∧ F__law_links [.lst (ps.map .int), .int spot, .lst (os.map nD), .int number] = .ok (.lst (ts.map (lkD os))) := by
  have few := ho.few
  have pos := ho.pos
  by_cases z : (os.length : Int) < 2
  · refine ⟨[], (fun _ m => nomatch m), by simp, ?_⟩
    unfold F__law_links G__law_links
    simp_arith [sz0, List.length_map, decide_eq_true z]
  · obtain ⟨ρ', e, ts, s5, s6, s7, s8, ok, lt, rfl⟩ := loop_rg (h := gN 5) (body := B__law_links_1) (lo := 0) (n := number.toNat) (ρ := lksE ps spot os number [] .no .no .no .no)
      (fun i ρ => ∃ (ts : List Lk) (s5 s6 s7 s8 : Sl), okLks os.length ts ∧ ts.length = i ∧ ρ = lksE ps spot os number ts s5 s6 s7 s8) ⟨[], .no, .no, .no, .no, (fun _ m => nomatch m), rfl, rfl⟩ (by
        rintro i ρ hi ⟨ts, s5, s6, s7, s8, ok, lt, rfl⟩
        refine ⟨lksE ps spot os number ts (.v (.int (0 + (i : Int)))) s6 s7 s8, rfl, ?_⟩
        have hi' : (i : Int) < number := by omega
        have p1 := part_ok (ps := ps) (spot := spot + i) (under := 1) (size := 12) (by omega) (by omega) (by decide) (by decide) (by decide)
        have p2 := part_ok (ps := ps) (spot := spot + i) (under := 12) (size := 6) (by omega) (by omega) (by decide) (by decide) (by decide)
        have p3 := part_ok (ps := ps) (spot := spot + i) (under := 72) (size := 7) (by omega) (by omega) (by decide) (by decide) (by decide)
        have p4 := part_ok (ps := ps) (spot := spot + i) (under := 504) (size := 10) (by omega) (by omega) (by decide) (by decide) (by decide)
        have a3 := part_lo (ps := ps) (spot := spot + i) (under := 72) (size := 7) (by decide)
        have b3 := part_hi (ps := ps) (spot := spot + i) (under := 72) (size := 7) (by decide)
        generalize part ps (spot + i) 1 12 = x1 at *
        generalize part ps (spot + i) 12 6 = x2 at *
        generalize part ps (spot + i) 72 7 = x3 at *
        generalize part ps (spot + i) 504 10 = x4 at *
        have n1 := Int.emod_nonneg x1 (by omega : (os.length : Int) ≠ 0)
        have n2 := Int.emod_lt_of_pos x1 (by omega : (0 : Int) < (os.length : Int))
        have m1 := Int.emod_nonneg (x1 % (os.length : Int) + 1 + x2 % ((os.length : Int) - 1)) (by omega : (os.length : Int) ≠ 0)
        have m2 := Int.emod_lt_of_pos (x1 % (os.length : Int) + 1 + x2 % ((os.length : Int) - 1)) (by omega : (0 : Int) < (os.length : Int))
        have nn := step_ne (n := os.length) (one := x1 % (os.length : Int)) (x := x2) (by omega) n1 n2
        have g1 : gMod (.int x1) (.int (os.length : Int)) = .ok (.int (x1 % (os.length : Int))) := gMod_int (by omega)
        have g2 : gMod (.int x2) (.int ((os.length : Int) - 1)) = .ok (.int (x2 % ((os.length : Int) - 1))) := gMod_int (by omega)
        have g3 : gMod (.int (x1 % (os.length : Int) + 1 + x2 % ((os.length : Int) - 1))) (.int (os.length : Int)) = .ok (.int ((x1 % (os.length : Int) + 1 + x2 % ((os.length : Int) - 1)) % (os.length : Int))) := gMod_int (by omega)
        have i1 := gIx_os (os := os) n1 n2
        have i2 := gIx_os (os := os) m1 m2
        have gp : gPow (.int 10) (.int 9) = .ok (.int 1000000000) := gPow_int (by decide) (by decide) (by decide) (by decide)
        have lz : ts.length < sizeLine := szlt (by omega)
        generalize hu : x1 % (os.length : Int) = u at *
        generalize hv : (u + 1 + x2 % ((os.length : Int) - 1)) % (os.length : Int) = v at *
        have key : ∃ (t : Int) (s6' s7' s8' : Sl), 0 ≤ t ∧ t ≤ 1000000000 ∧ B__law_links_1 (lksE ps spot os number ts (.v (.int (0 + (i : Int)))) s6 s7 s8) = .nx (lksE ps spot os number (ts ++ [(u.toNat, v.toNat, t)]) (.v (.int (0 + (i : Int)))) s6' s7' s8') := by
          by_cases c : x4 = 9
          · refine ⟨1000000000 - x3, .v (.int u), .v (.int v), .v (.int (1000000000 - x3)), by omega, by omega, ?_⟩
            unfold lksE B__law_links_1
            simp_arith [Int.zero_add, p1, p2, p3, p4, List.length_map, g1, hu, g2, g3, hv, decide_eq_true c, gp, i1, i2, gTup3, lz, List.map_append]
            rfl
          · refine ⟨x3, .v (.int u), .v (.int v), .v (.int x3), by omega, by omega, ?_⟩
            unfold lksE B__law_links_1
            simp_arith [Int.zero_add, p1, p2, p3, p4, List.length_map, g1, hu, g2, g3, hv, decide_eq_false c, i1, i2, gTup3, lz, List.map_append]
            rfl
        have k := key.choose_spec.choose_spec.choose_spec.choose_spec
        rw [k.2.2]
        exact ⟨_, _, _, _, _, fun l m => by
          rcases List.mem_append.mp m with m | m
          · exact ok l m
          · rw [List.mem_singleton.mp m]
            exact ⟨by show u.toNat < os.length; omega, by show v.toNat < os.length; omega, by show u.toNat ≠ v.toNat; omega, k.1, k.2.1⟩, by rw [List.length_append, lt]; rfl, rfl⟩)
    have smn : small62 number := small_rg (by omega) (by omega)
    unfold lksE at e
    simp only [List.map_nil] at e
    refine ⟨ts, ok, by omega, ?_⟩
    unfold F__law_links G__law_links
    simp_arith [sz0, List.length_map, decide_eq_false z, smn, e]
end Tk
namespace Tk
open PySem PySem.Spec L2 PyProof.Rows
theorem eq_w {a b : List Nat} : gEq (nD a) (nD b) = .ok (.bl (decide (a = b))) := by
  show R.ok (D.bl (decide (S a = S b))) = _
  congr 2
  exact decide_eq_decide.mpr ⟨S_inj, congrArg S⟩
theorem clean_wN {w : List Nat} (h : okName w) : cleanD 0 (nD w) = true := by
  have : PyData.strOk (S w) = true := S_ok fun c m => by have := (h.2.2 c m).2; omega
  simpa [cleanD] using this
theorem checkL_ok {os : Bal} {most : Int} (h : okNms os) (hm : (os.length : Int) ≤ most) : F_checked_names [.lst (os.map nD), .int most, .bl false] = .ok (zD os) := by
  obtain ⟨ρ', e, s1, s2, rfl⟩ := loop_en (inj := nD) (h := gT 2 (gsC (gN 3) (gsC (gN 4) (gsN)))) (body := B_checked_names_1) (l := os) (ρ := [.v (.lst (os.map nD)), .v (.int most), .v (.bl false), .no, .no])
    (fun _ ρ => ∃ s1 s2 : Sl, ρ = [.v (.lst (os.map nD)), .v (.int most), .v (.bl false), s1, s2]) ⟨_, _, rfl⟩ (by
      rintro i w ρ q ⟨s1, s2, rfl⟩
      refine ⟨[.v (.lst (os.map nD)), .v (.int most), .v (.bl false), .v (.int (i : Int)), .v (nD w)], rfl, ?_⟩
      have nm := is_name_ok (h.each w (List.mem_of_getElem? q))
      have sd := gSl_lst (xs := os.map nD) (j := (i : Int)) (by omega)
      rw [Int.toNat_natCast, ← List.map_take] at sd
      have n2 : gInS false (nD w) (.lst ((os.take i).map nD)) = .ok (.bl false) := by
        rw [in_lst, decide_eq_false]
        exact nd_take h.nd q
      unfold B_checked_names_1
      simp_arith [nm, sd, n2]
      exact ⟨_, _, rfl⟩)
  have c1 : decide ((1 : Int) ≤ (os.length : Int)) = true := decide_eq_true (by have := h.pos; omega)
  have c2 : decide ((os.length : Int) ≤ most) = true := decide_eq_true hm
  unfold F_checked_names G_checked_names
  simp_arith [List.length_map, c1, c2, optR_some, e, gTupZ_lst]
  rfl
theorem known2_ok {os : Bal} {a b : List Nat} (ha : a ∈ os) (hb : b ∈ os) : F_check_known [zD os, .lst [nD a, nD b]] = .ok .non := by
  have st : ∀ (w : List Nat) (s : Sl), w ∈ os → B_check_known_1 [.v (zD os), .v (.lst [nD a, nD b]), .v (nD w)] = .nx [.v (zD os), .v (.lst [nD a, nD b]), .v (nD w)] := fun w s m => by
    have e1 : gInS true (nD w) (zD os) = .ok (.bl false) := by unfold zD; rw [nin_tpz, decide_eq_true m]; rfl
    unfold B_check_known_1
    simp_arith [e1]
  have lp : loop (gN 2) B_check_known_1 [nD a, nD b] [.v (zD os), .v (.lst [nD a, nD b]), .no] = .nx [.v (zD os), .v (.lst [nD a, nD b]), .v (nD b)] := by
    rw [loop_cons]
    show (SO.lp (B_check_known_1 [.v (zD os), .v (.lst [nD a, nD b]), .v (nD a)]) _) = _
    rw [st a .no ha, lp_nx, loop_cons]
    show (SO.lp (B_check_known_1 [.v (zD os), .v (.lst [nD a, nD b]), .v (nD b)]) _) = _
    rw [st b .no hb]
    rfl
  unfold F_check_known G_check_known
  simp_arith [gIt_lst, lp]
def nmI (os : Bal) (i : Nat) : List Nat := os.getD i []
theorem nmI_mem {os : Bal} {i : Nat} (h : i < os.length) : nmI os i ∈ os := by
  unfold nmI
  rw [List.getD_eq_getElem?_getD, List.getElem?_eq_getElem h]
  exact List.getElem_mem h
theorem nmI_inj {os : Bal} (nd : os.Nodup) {i j : Nat} (hi : i < os.length) (hj : j < os.length) (e : nmI os i = nmI os j) : i = j := by
  unfold nmI at e
  rw [List.getD_eq_getElem?_getD, List.getElem?_eq_getElem hi, List.getD_eq_getElem?_getD, List.getElem?_eq_getElem hj] at e
  exact nd_get nd (a := os[i]) (List.getElem?_eq_getElem hi) (by rw [List.getElem?_eq_getElem hj]; exact congrArg _ e.symm)
def madeD (os : Bal) (ts : List Lk) : D := .ins 40 [(32, zD os), (38, .tup (ts.map (lkD os)))]
def linE (a : Addr) (os : Bal) (ts : List Lk) (s3 s4 s5 : Sl) : Ev := [.o (some a) 40 [(32, zD os)], .v (.lst (os.map nD)), .v (.lst (ts.map (lkD os))), s3, s4, s5]
theorem lkinit_ok {a : Addr} {os : Bal} {ts : List Lk} (ho : okNms os) (ok : okLks os.length ts) (hl : ts.length ≤ 12) : F_Links___init__ a [.lst (os.map nD), .lst (ts.map (lkD os))] = .ok [(32, zD os), (38, .tup (ts.map (lkD os)))] := by
  obtain ⟨ρ', e, s3, s4, s5, rfl⟩ := loop_map (inj := lkD os) (h := gT 3 (gsC (gN 3) (gsC (gN 4) (gsC (gN 5) (gsN))))) (body := B_Links___init___1) (l := ts) (ρ := linE a os ts .no .no .no)
    (fun _ ρ => ∃ s3 s4 s5 : Sl, ρ = linE a os ts s3 s4 s5) ⟨.no, .no, .no, rfl⟩ (by
      rintro i l ρ q ⟨s3, s4, s5, rfl⟩
      have o := ok l (List.mem_of_getElem? q)
      refine ⟨linE a os ts (.v (nD (nmI os l.1))) (.v (nD (nmI os l.2.1))) (.v (.int l.2.2)), rfl, ?_⟩
      have k := known2_ok (nmI_mem o.a) (nmI_mem o.b)
      have l32 : optR (List.lookup 32 [(32, zD os)]) = .ok (zD os) := rfl
      have g2 : ∀ x y : D, gLst [x, y] = .ok (.lst [x, y]) := fun x y => if_pos (szle (by simp))
      have ne : gEq (nD (nmI os l.1)) (nD (nmI os l.2.1)) = .ok (.bl false) := by rw [eq_w, decide_eq_false fun e => o.ne (nmI_inj ho.nd o.a o.b e)]
      have ne2 : (R.ok (D.bl (decide (S (nmI os l.1) = S (nmI os l.2.1)))) : R D) = .ok (.bl false) := ne
      have ne3 := D.bl.inj (R.ok.inj ne2)
      have c1 : decide ((0 : Int) ≤ l.2.2) = true := decide_eq_true o.lo
      have c2 : decide (l.2.2 ≤ (1000000000 : Int)) = true := decide_eq_true o.hi
      unfold linE B_Links___init___1
      simp_arith [eFldO_ap, ownO_zero, List.mem_singleton, l32, g2, k, ne3, c1, c2]
      exact ⟨_, _, _, rfl⟩)
  unfold linE at e
  have st : startI a 40 6 [.lst (os.map nD), .lst (ts.map (lkD os))] = [.o (some a) 40 [], .v (.lst (os.map nD)), .v (.lst (ts.map (lkD os))), .no, .no, .no] := rfl
  have gk : gDk [0, 1, 2] [.bl false] [.lst (os.map nD), .int 6] [] = [.lst (os.map nD), .int 6, .bl false] := rfl
  have cn := checkL_ok (most := 6) ho (by have := ho.few; omega)
  have p1 : putN 32 (zD os) [] = [(32, zD os)] := rfl
  have p2 : ∀ d : D, putN 38 d [(32, zD os)] = [(32, zD os), (38, d)] := fun _ => rfl
  have tz : ts.length ≤ sizeLine := szle (by omega)
  have lc : ∀ s0 : Sl, lcL (gT 3 (gsC (gN 3) (gsC (gN 4) (gsC (gN 5) (gsN))))) tsY (eA gTup (aC (eV 3) (aC (eV 4) (aC (eV 5) (aN))))) [s0, .v (.lst (os.map nD)), .v (.lst (ts.map (lkD os))), .no, .no, .no] (ts.map (lkD os)) = .ok (ts.map (lkD os)) := fun s0 =>
    lc_all (inj := lkD os) (lkD os) fun l _ => ⟨[s0, .v (.lst (os.map nD)), .v (.lst (ts.map (lkD os))), .v (nD (nmI os l.1)), .v (nD (nmI os l.2.1)), .v (.int l.2.2)], rfl, rfl, by simp_arith [gTup3]; rfl⟩
  have c12 : decide ((ts.length : Int) > 12) = false := decide_eq_false (by omega)
  unfold F_Links___init__ G_Links___init__
  simp_arith [runI_ap, st, sFldO_ap, Nat.reduceLT, gk, cn, ownO_zero, List.mem_singleton, p1, p2, List.length_map, c12, e, frzS_o, tz, lc, outI_nx]
theorem gF38 {os : Bal} {ts : List Lk} : gFld [40] 38 (madeD os ts) = .ok (.tup (ts.map (lkD os))) := by
  unfold madeD
  rw [gFld_ins, if_pos (by simp)]
  rfl
theorem gF32 {os : Bal} {ts : List Lk} : gFld [64, 40] 32 (madeD os ts) = .ok (zD os) := by
  unfold madeD
  rw [gFld_ins, if_pos (by simp)]
  rfl
end Tk
namespace Tk
open PySem PySem.Spec L2 PyProof.Rows
structure okSps (os : Bal) : Prop where
  pos : 1 ≤ os.length
  few : os.length ≤ 6
  each : ∀ w ∈ os, okName w ∨ w = []
  nd : os.Nodup
theorem okNms.sps {os : Bal} (h : okNms os) : okSps os := ⟨h.pos, h.few, fun w m => .inl (h.each w m), h.nd⟩
theorem eGet1_ap {fo fa : Ev → R D} {ρ : Ev} : eGet1 fo fa ρ = (fo ρ).bind fun o => if isDict o = true then (fa ρ).bind fun a => gGet2 o a .non else .bad := (rfl)
theorem isDict_t {kvs : List (List Key × D)} : isDict (.dT kvs) = true := (rfl)
theorem gGet2_t {kvs : List (List Key × D)} {d x : D} {k : List Key} (h : keyT d = some k) : gGet2 (.dT kvs) d x = .ok ((getG kvs k).getD x) := by
  show (optR (keyT d)).bind _ = _
  rw [h]
  rfl
theorem eMinD_ap {fl fk : Ev → R (List D)} {ρ : Ev} : eMinD fl fk ρ = (fl ρ).bind fun ds => (fk ρ).bind fun zs => match zs with
  | [z] => gMinD ds z
  | _ => .bad := (rfl)
def prD : Pr → D
  | none => .non
  | some i => .int i
theorem isNon_prD {a : Pr} : isNon (prD a) = !a.isSome := by cases a <;> rfl
theorem least_ok {ps : List Pr} (hl : ps.length ≤ 900) : F_least [.lst (ps.map prD)] = .ok (prD (leastP ps)) := by
  have lz : (ps.map prD).length ≤ sizeLine := by rw [List.length_map]; exact szle (by omega)
  have lc : lcL (gN 1) (tV (e2 gNotN (eV 1) (eC .non))) (eV 1) [.v (.lst (ps.map prD)), .no] (ps.map prD) = .ok ((ps.filterMap id).map .int) := by
    rw [lc_map (inj := prD) (fun a => a.isSome) prD fun a _ => ⟨[.v (.lst (ps.map prD)), .v (prD a)], rfl, by
      simp_arith [isNon_prD, Bool.not_not], fun _ => rfl⟩]
    congr 1
    clear lz hl
    induction ps with
    | nil => rfl
    | cons a ps ih =>
      cases a with
      | none => exact ih
      | some x =>
        show D.int x :: _ = D.int x :: _
        exact congrArg _ ih
  have gm : gMinD [.lst ((ps.filterMap id).map .int)] .non = .ok (prD (leastP ps)) := by
    show (match intsOf ((ps.filterMap id).map .int) with
      | some [] => .ok .non
      | some (n :: ns) => .ok (.int (ns.foldl min n))
      | none => .bad : R D) = _
    rw [ints_map]
    unfold leastP
    cases ps.filterMap id <;> rfl
  unfold F_least G_least
  simp_arith [lz, lc, eMinD_ap, gm]
theorem together_ok {a b : Pr} : F_together [prD a, prD b] = .ok (prD (pad a b)) := by
  unfold F_together G_together
  cases a with
  | none => simp_arith [isNon_prD, Option.isSome]; rfl
  | some x =>
    cases b with
    | none => simp_arith [isNon_prD, Option.isSome]; rfl
    | some y =>
      have e1 : prD (some x) = .int x := rfl
      have e2 : prD (some y) = .int y := rfl
      have n1 : isNon (.int x) = false := rfl
      have n2 : isNon (.int y) = false := rfl
      simp_arith [e1, e2, n1, n2]
      rfl
theorem is_name_nil : F_is_name [nD []] = .ok (.bl false) := by
  have l : gLen [nD []] = .ok (.int 0) := rfl
  unfold F_is_name G_is_name
  simp_arith [l]
  rfl
theorem checkS_ok {z : Bool} {os : Bal} (h : okSps os) : F_checked_names [nmsD z os, .int 6, .bl true] = .ok (zD os) := by
  have sl : ∀ i : Nat, ∃ d, gSl (nmsD z os) none (some (i : Int)) = .ok d ∧ ∀ w, gInS false (nD w) d = .ok (.bl (decide (w ∈ os.take i))) := fun i => by
    cases z with
    | false =>
      refine ⟨_, gSl_lst (xs := os.map nD) (j := (i : Int)) (by omega), fun w => ?_⟩
      rw [Int.toNat_natCast, ← List.map_take, in_lst]
    | true =>
      by_cases c : HT.sIx (os.map nD).length 0 none = 0 ∧ HT.sIx (os.map nD).length (os.map nD).length (some (i : Int)) = (os.map nD).length
      · refine ⟨zD os, if_pos c, fun w => ?_⟩
        have e : cutD (os.map nD) none (some (i : Int)) = os.map nD := by
          unfold cutD
          rw [c.1, c.2, List.drop_zero, Nat.sub_zero, List.take_length]
        rw [cut_hi (by omega), Int.toNat_natCast] at e
        have l : (os.map nD).length ≤ i := by
          have := congrArg List.length e
          rw [List.length_take] at this
          omega
        rw [List.length_map] at l
        rw [List.take_of_length_le l]
        exact in_tpz
      · refine ⟨.tup (cutD (os.map nD) none (some (i : Int))), if_neg c, fun w => ?_⟩
        rw [cut_hi (by omega), Int.toNat_natCast, ← List.map_take, in_tup]
  obtain ⟨ρ', e, s1, s2, rfl⟩ := loop_en (inj := nD) (h := gT 2 (gsC (gN 3) (gsC (gN 4) (gsN)))) (body := B_checked_names_1) (l := os) (ρ := [.v (nmsD z os), .v (.int 6), .v (.bl true), .no, .no])
    (fun _ ρ => ∃ s1 s2 : Sl, ρ = [.v (nmsD z os), .v (.int 6), .v (.bl true), s1, s2]) ⟨_, _, rfl⟩ (by
      rintro i w ρ q ⟨s1, s2, rfl⟩
      refine ⟨[.v (nmsD z os), .v (.int 6), .v (.bl true), .v (.int (i : Int)), .v (nD w)], rfl, ?_⟩
      obtain ⟨d, sd, hd⟩ := sl i
      have n2 : gInS false (nD w) d = .ok (.bl false) := by
        rw [hd, decide_eq_false]
        exact nd_take h.nd q
      rcases h.each w (List.mem_of_getElem? q) with o | rfl
      · have nm := is_name_ok o
        unfold B_checked_names_1
        simp_arith [nm, sd, n2]
        exact ⟨_, _, rfl⟩
      · have nm := is_name_nil
        have ge : gEq (nD []) (.str "") = .ok (.bl true) := rfl
        unfold B_checked_names_1
        simp_arith [nm, sd, n2, ge]
        exact ⟨_, _, rfl⟩)
  have c1 : decide ((1 : Int) ≤ (os.length : Int)) = true := decide_eq_true (by have := h.pos; omega)
  have c2 : decide ((os.length : Int) ≤ 6) = true := decide_eq_true (by have := h.few; omega)
  have sq : ∃ b, seqD (nmsD z os) = some (b, os.map nD) := by cases z <;> exact ⟨_, rfl⟩
  obtain ⟨bb, sq⟩ := sq
  have ln : gLen [nmsD z os] = .ok (.int os.length) := by
    cases z with
    | false => show gLen [.lst (os.map nD)] = _; rw [gLen_lst, List.length_map]
    | true => show gLen [.tpz (os.map nD)] = _; rw [gLen_tpz, List.length_map]
  have tz : gTupZ [nmsD z os] = .ok (zD os) := by cases z <;> rfl
  unfold F_checked_names G_checked_names
  simp_arith [ln, c1, c2, sq, optR_some, e, tz]
theorem clean_wS {w : List Nat} (h : okName w ∨ w = []) : cleanD 0 (nD w) = true := by
  rcases h with h | rfl
  · exact clean_wN h
  · have : PyData.strOk (S []) = true := S_ok fun c m => nomatch m
    simpa [cleanD] using this
theorem gNe_zz {os : Bal} (h : okSps os) : gEq (zD os) (zD os) = .ok (.bl true) := by
  have c : cleanD 1 (.tup (os.map nD)) = true := by
    show cleanL 0 (os.map nD) = true
    rw [cleanL_all]
    intro d m
    obtain ⟨w, mw, rfl⟩ := List.mem_map.mp m
    exact clean_wS (h.each w mw)
  obtain ⟨h1, _⟩ := gEq_clean (n := 1) (m := 1) (by decide) (by decide) c c
  exact h1 rfl
end Tk
namespace Tk
open PySem PySem.Spec L2 PyProof.Rows
def w4 (l : List Int) (j : Nat) : Int := l.getD j 0
structure okGiv (os : Bal) (rs : List Row) : Prop extends okRows os rs where
  few : rs.length ≤ 400
  big : ∀ r ∈ rs, r.2 ≤ 1000000000
end Tk
namespace Tk
open PySem PySem.Spec L2 PyProof.Rows
section
variable {α β : Type} [DecidableEq α] [DecidableEq β]
end
end Tk
namespace Tk
open PySem PySem.Spec L2 PyProof.Rows
end Tk
namespace Tk
open PySem PySem.Spec L2 PyProof.Rows
theorem okGiv.take {os : Bal} {rs : List Row} (h : okGiv os rs) (n : Nat) : okGiv os (rs.take n) := ⟨h.tookRows.take n, by rw [List.length_take]; have := h.few; omega, fun r m => h.big r (List.mem_of_mem_take m)⟩
end Tk
namespace Tk
open PySem PySem.Spec L2 PyProof.Rows
def topB (b rem : Bal) : Option (List Nat) := b.find? fun w => decide (w ∈ rem)
inductive Sh where | l | t | z
def Sh.D : Sh → Bal → D
  | .l, b => .lst (b.map nD)
  | .t, b => bD b
  | .z, b => zD b
def remB (os gone : Bal) : Bal := os.filter fun w => !decide (w ∈ gone)
def isTop (rem : Bal) (w : List Nat) (b : Bal) : Bool := decide (topB b rem = some w)
end Tk
namespace Tk
open PySem PySem.Spec L2 PyProof.Rows
def outB (left : Bal) (lv : List Nat) : Bal := left.filter fun w => !decide (w = lv)
section
variable {os : Bal} {ns : List Row}
abbrev SS (ns : List Row) : (Bal → Bool) → Int := fun p => sumP p ns
end
end Tk
namespace Tk
open PySem PySem.Spec L2 PyProof.Rows
section
variable {xs : List D}
@[simp] theorem is9z : gIsi [.tpz xs, .ty "int"] = .ok (.bl false) := gIsi_of rfl kb9
@[simp] theorem is10z : gIsi [.tpz xs, .ty "str"] = .ok (.bl false) := gIsi_of rfl kb10
@[simp] theorem is11z : gIsi [.tpz xs, .ty "tuple"] = .ok (.bl true) := gIsi_of rfl kb11
@[simp] theorem is12z : gIsi [.tpz xs, .ty "list"] = .ok (.bl false) := gIsi_of rfl kb12
@[simp] theorem ib6z {b : Bool} : gIsB false (.tpz xs) (.bl b) = .ok (.bl false) := (rfl)
@[simp] theorem isNon_tpz : isNon (.tpz xs) = false := rfl
end
end Tk
namespace Tk
open PySem PySem.Spec L2 PyProof.Rows
section
variable {os left : Bal} {rs : List Row}
end
end Tk
namespace Tk
open PySem PySem.Spec L2 PyProof.Rows
end Tk
namespace Tk
open PySem PySem.Spec L2 PyProof.Rows
end Tk
namespace Tk
open PySem PySem.Spec L2 PyProof.Rows
def Ord (os left : Bal) : Prop := left.Pairwise fun a b => os.idxOf a < os.idxOf b
theorem Ord.self {os : Bal} (nd : os.Nodup) : Ord os os := by
  refine List.pairwise_iff_getElem.mpr fun i j hi hj hij => ?_
  have e : ∀ k (hk : k < os.length), os.idxOf os[k] = k := fun k hk => by
    have hl := List.idxOf_lt_length_iff.mpr (List.getElem_mem hk)
    exact nd_get nd (i := os.idxOf os[k]) (j := k) (a := os[k]) (by rw [List.getElem?_eq_getElem hl, List.getElem_idxOf hl]) (List.getElem?_eq_getElem hk)
  rw [e i hi, e j hj]
  exact hij
theorem Ord.out {os left : Bal} {lv : List Nat} (h : Ord os left) : Ord os (outB left lv) := h.sublist List.filter_sublist
section
variable {os : Bal} {rs : List Row}
end
end Tk
namespace Tk
open PySem PySem.Spec L2 PyProof.Rows
end Tk
namespace Tk
open PySem PySem.Spec L2 PyProof.Rows
def remK (os leave : Bal) (k : Nat) : Bal := remB os (leave.take k)
def lvK (leave : Bal) (k : Nat) : List Nat := leave.getD k []
def missV (os left : Bal) (rs : List Row) (g x : List Nat) : Int := SS rs (isTop left g) + (if os.idxOf g < os.idxOf x then 1 else 0) - SS rs (isTop left x)
def missK (os leave : Bal) (rs : List Row) (k : Nat) (x : List Nat) : Int := missV os (remK os leave k) rs (lvK leave k) x
def chV (os leave : Bal) (rs : List Row) : Nat → Nat → List Nat → Int
  | 0, _, _ => 0
  | m + 1, mask, x => if mask / 2 ^ m % 2 = 1 ∧ lvK leave m ≠ x then missK os leave rs m x + chV os leave rs m mask (lvK leave m) else chV os leave rs m mask x
def mxI (l : List Int) : Int := l.foldl max 0
def dV (os leave : Bal) (rs : List Row) (m : Nat) (x : List Nat) : Int := mxI ((List.range (2 ^ m)).map fun mask => chV os leave rs m mask x)
section
variable {os leave : Bal} {rs : List Row}
end
end Tk
namespace Tk
open PySem PySem.Spec L2 PyProof.Rows
section
variable {os leave : Bal} {rs ns : List Row}
end
end Tk
namespace Tk
open PySem PySem.Spec L2 PyProof.Rows
section
variable {os leave : Bal} {rs ns : List Row}
end
end Tk
namespace Tk
open PySem PySem.Spec L2 PyProof.Rows
section
variable {os leave : Bal} {rs ns : List Row}
end
end Tk
namespace Tk
open PySem PySem.Spec L2 PyProof.Rows
section
variable {os leave : Bal} {rs ns : List Row}
end
end Tk
namespace Tk
open PySem PySem.Spec L2 PyProof.Rows
section
variable {os leave : Bal} {rs es qs : List Row}
end
end Tk
namespace Tk
open PySem PySem.Spec L2 PyProof.Rows
section
variable {α β : Type} [DecidableEq α] [DecidableEq β]
end
end Tk
namespace Tk
open PySem PySem.Spec L2 PyProof.Rows
theorem lc2_mapQ {α β : Type} {inj : α → D} {h h1 : Tg} {t t1 : Ev → R Bool} {fi : Ev → R (List D)} {zs1 : List Nat} {fe : Ev → R D} {ρ : Ev} (ys : α → List D) : ∀ {l : List α}, (∀ a ∈ l, ∃ ρ1 es, h (inj a) ρ = some ρ1 ∧ noOwn ρ1 = true ∧ t ρ1 = .ok true ∧ fi ρ1 = .ok es ∧ lcL h1 t1 fe (wipeE ρ1 zs1) es = .ok (ys a)) → lc2L h t fi zs1 h1 t1 fe ρ (l.map inj) = .ok (l.flatMap ys)
  | [], _ => rfl
  | a :: l, H => by
    obtain ⟨ρ1, es, e1, e2, e3, e4, e5⟩ := H a List.mem_cons_self
    have ih := lc2_mapQ (β := β) ys (l := l) fun b m => H b (List.mem_cons_of_mem _ m)
    show (optR (h (inj a) ρ)).bind _ = _
    rw [e1, optR_some, bind_ok, if_pos e2, e3, quiet_ok, bind_ok, if_pos rfl, e4, quiet_ok, bind_ok, e5, quiet_ok, bind_ok, ih, quiet_ok, bind_ok, List.flatMap_cons]
end Tk
namespace Tk
open PySem PySem.Spec L2 PyProof.Rows
theorem os_rng {os : Bal} : os.map nD = (List.range os.length).map fun i => nD (nmI os i) := by
  refine List.ext_getElem (by simp) fun i h1 h2 => ?_
  rw [List.getElem_map, List.getElem_map, List.getElem_range]
  unfold nmI
  rw [List.length_map] at h1
  rw [List.getD_eq_getElem?_getD, List.getElem?_eq_getElem h1]
  rfl
theorem zip_mapD {α : Type} {f g : α → D} : ∀ {l : List α}, zipD (l.map f) (l.map g) = l.map fun a => .tup [f a, g a]
  | [] => rfl
  | a :: l => by
    rw [List.map_cons, List.map_cons, List.map_cons, ← zip_mapD (l := l)]
    rfl
section
variable {κ α : Type} [DecidableEq κ]
theorem getG_cons {k k' : κ} {v : α} {r : List (κ × α)} : getG ((k', v) :: r) k = if k' = k then some v else getG r k := by
  unfold getG
  rw [List.find?_cons]
  by_cases z : k' = k
  · rw [decide_eq_true (show ((k', v) : κ × α).1 = k from z), if_pos z]; rfl
  · rw [decide_eq_false (show ¬ ((k', v) : κ × α).1 = k from z), if_neg z]
theorem getG_app {k k' : κ} {v : α} : ∀ {r : List (κ × α)}, (r.any fun kv => decide (kv.1 = k)) = false → getG (r ++ [(k, v)]) k' = if k = k' then some v else getG r k'
  | [], _ => by rw [List.nil_append, getG_cons]
  | (k2, v2) :: r, h => by
    rw [List.any_cons, Bool.or_eq_false_iff] at h
    rw [List.cons_append, getG_cons, getG_cons, getG_app h.2]
    have n := of_decide_eq_false h.1
    have n : ¬ k2 = k := n
    by_cases z : k2 = k'
    · rw [if_pos z, if_pos z, if_neg fun e => n (z.trans e.symm)]
    · rw [if_neg z, if_neg z]
theorem getG_mapA {k k' : κ} {v : α} : ∀ {r : List (κ × α)}, getG (r.map fun kv => if kv.1 = k then (kv.1, v) else kv) k' = if k = k' ∧ (r.any fun kv => decide (kv.1 = k)) = true then some v else getG r k'
  | [] => by simp [getG]
  | (k2, v2) :: r => by
    rw [List.map_cons, List.any_cons]
    by_cases z : k2 = k
    · subst z
      rw [if_pos rfl, getG_cons, getG_cons, getG_mapA]
      by_cases y : k2 = k'
      · rw [if_pos y, if_pos ⟨y, by simp⟩]
      · rw [if_neg y, if_neg (fun h => y h.1), if_neg (fun h => y h.1), if_neg y]
    · rw [if_neg (show ¬ ((k2, v2) : κ × α).1 = k from z), getG_cons, getG_cons, getG_mapA, decide_eq_false (show ¬ ((k2, v2) : κ × α).1 = k from z), Bool.false_or]
      by_cases y : k2 = k'
      · rw [if_pos y, if_pos y, if_neg fun h => z (y.trans h.1.symm)]
      · rw [if_neg y, if_neg y]
theorem getG_put {k k' : κ} {v : α} {r : List (κ × α)} : getG (putG r k v) k' = if k = k' then some v else getG r k' := by
  unfold putG
  cases h : r.any fun kv => decide (kv.1 = k) with
  | true =>
    rw [if_pos rfl, getG_mapA, h]
    by_cases z : k = k'
    · rw [if_pos ⟨z, rfl⟩, if_pos z]
    · rw [if_neg fun h => z h.1, if_neg z]
  | false => rw [if_neg Bool.false_ne_true, getG_app h]
theorem put_len {k : κ} {v : α} {r : List (κ × α)} : (putG r k v).length ≤ r.length + 1 := by
  unfold putG
  split
  · rw [List.length_map]; omega
  · rw [List.length_append]; simp
end
def tkey (os : Bal) (i j : Nat) : List Key := [keyW (nmI os i), keyW (nmI os j)]
theorem tkey_inj {os : Bal} (nd : os.Nodup) {i j i' j' : Nat} (hi : i < os.length) (hj : j < os.length) (hi' : i' < os.length) (hj' : j' < os.length) (h : tkey os i j = tkey os i' j') : i = i' ∧ j = j' := by
  unfold tkey at h
  have h1 := (List.cons.inj h).1
  have h2 := (List.cons.inj (List.cons.inj h).2).1
  exact ⟨nmI_inj nd hi hi' (keyW_inj h1), nmI_inj nd hj hj' (keyW_inj h2)⟩
theorem keyT_pair {a b : List Nat} : keyT (.tup [nD a, nD b]) = some [keyW a, keyW b] := rfl
structure TabOK (os : Bal) (rows : List (List Key × D)) (f : Tab) : Prop where
  get : ∀ {i j}, i < os.length → j < os.length → getG rows (tkey os i j) = (f i j).map .int
theorem TabOK.pr {os : Bal} {rows : List (List Key × D)} {f : Tab} (h : TabOK os rows f) {i j : Nat} (hi : i < os.length) (hj : j < os.length) : (getG rows (tkey os i j)).getD .non = prD (f i j) := by
  rw [h.get hi hj]
  cases f i j <;> rfl
def loR (rows : List (List Key × D)) (k : List Key) (t : Int) : Int := match getG rows k with
  | some (.int x) => min x t
  | _ => t
theorem loR_least {os : Bal} {rows : List (List Key × D)} {f : Tab} (h : TabOK os rows f) {i j : Nat} (hi : i < os.length) (hj : j < os.length) {t : Int} : leastP [f i j, some t] = some (loR rows (tkey os i j) t) := by
  unfold loR
  rw [h.get hi hj]
  cases f i j <;> rfl
def stTl (os : Bal) (rows : List (List Key × D)) (e : Lk) : List (List Key × D) := putG rows (tkey os e.1 e.2.1) (.int (loR rows (tkey os e.1 e.2.1) e.2.2))
def rowsT (os : Bal) (es : List Lk) : List (List Key × D) := es.foldl (stTl os) []
structure okEn (n : Nat) (e : Lk) : Prop where
  a : e.1 < n
  b : e.2.1 < n
  lo : 0 ≤ e.2.2
def okEns (n : Nat) (es : List Lk) : Prop := ∀ e ∈ es, okEn n e
theorem okLks.ens {n : Nat} {ts : List Lk} (h : okLks n ts) : okEns n ts := fun e m => ⟨(h e m).a, (h e m).b, (h e m).lo⟩
theorem rowsT_snoc {os : Bal} {es : List Lk} {e : Lk} : rowsT os (es ++ [e]) = stTl os (rowsT os es) e := by
  unfold rowsT
  rw [List.foldl_append]
  rfl
theorem tabT_snoc {os : Bal} (nd : os.Nodup) {es : List Lk} {e : Lk} {rows : List (List Key × D)} (h : TabOK os rows (entP es)) (o : okEn os.length e) : TabOK os (stTl os rows e) (entP (es ++ [e])) := ⟨fun {i j} hi hj => by
  unfold stTl
  rw [getG_put, ent_snoc]
  by_cases z : e.1 = i ∧ e.2.1 = j
  · obtain ⟨rfl, rfl⟩ := z
    rw [if_pos rfl, if_pos ⟨rfl, rfl⟩, loR_least h o.a o.b]
    rfl
  · rw [if_neg fun q => z (tkey_inj nd o.a o.b hi hj q), if_neg z, h.get hi hj]⟩
theorem tabT_rows {os : Bal} (nd : os.Nodup) {es : List Lk} (ok : okEns os.length es) : TabOK os (rowsT os es) (entP es) := by
  have go : ∀ n, n ≤ es.length → TabOK os (rowsT os (es.take n)) (entP (es.take n)) := fun n => by
    induction n with
    | zero => intro _; rw [List.take_zero]; exact ⟨fun _ _ => rfl⟩
    | succ n ih =>
      intro h
      have e : es.take (n + 1) = es.take n ++ [es[n]] := by rw [List.take_succ_eq_append_getElem (by omega)]
      rw [e, rowsT_snoc]
      exact tabT_snoc nd (ih (by omega)) (ok _ (List.getElem_mem _))
  have := go es.length (Nat.le_refl _)
  rwa [List.take_length] at this
theorem rows_len {os : Bal} {es : List Lk} : (rowsT os es).length ≤ es.length := by
  have go : ∀ (es : List Lk) (r : List (List Key × D)), (es.foldl (stTl os) r).length ≤ r.length + es.length := fun es => by
    induction es with
    | nil => intro r; simp
    | cons e es ih =>
      intro r
      rw [List.foldl_cons, List.length_cons]
      have h1 := ih (stTl os r e)
      have h2 : (stTl os r e).length ≤ r.length + 1 := put_len
      omega
  have := go es []
  rw [List.length_nil, Nat.zero_add] at this
  exact this
def tolD (os : Bal) (rows : List (List Key × D)) : D := .ins 64 [(32, zD os), (80, .dT rows)]
def tlE (a : Addr) (os : Bal) (s1 s2 : Sl) (rows : List (List Key × D)) (s4 s5 s6 : Sl) : Ev := [.o (some a) 64 [(32, zD os)], s1, s2, .t rows, s4, s5, s6]
theorem tolinit_ok {a : Addr} {z b : Bool} {os : Bal} {es : List Lk} (ho : okSps os) (ok : okEns os.length es) (hl : es.length ≤ 400) : F_Tolls___init__ a [nmsD z os, sqD b (es.map (lkD os))] = .ok [(32, zD os), (80, .dT (rowsT os es))] := by
  obtain ⟨ρ', e, s4, s5, s6, rfl⟩ := loop_map (inj := lkD os) (h := gT 3 (gsC (gN 4) (gsC (gN 5) (gsC (gN 6) (gsN))))) (body := B_Tolls___init___1) (l := es) (ρ := tlE a os (.v (nmsD z os)) (.v (sqD b (es.map (lkD os)))) [] .no .no .no)
    (fun i ρ => ∃ s4 s5 s6 : Sl, ρ = tlE a os (.v (nmsD z os)) (.v (sqD b (es.map (lkD os)))) (rowsT os (es.take i)) s4 s5 s6) ⟨.no, .no, .no, rfl⟩ (by
      rintro i l ρ q ⟨s4, s5, s6, rfl⟩
      have o := ok l (List.mem_of_getElem? q)
      refine ⟨tlE a os (.v (nmsD z os)) (.v (sqD b (es.map (lkD os)))) (rowsT os (es.take i)) (.v (nD (nmI os l.1))) (.v (nD (nmI os l.2.1))) (.v (.int l.2.2)), rfl, ?_⟩
      obtain ⟨hi, el⟩ := List.getElem?_eq_some_iff.mp q
      have es1 : es.take (i + 1) = es.take i ++ [l] := by rw [List.take_succ_eq_append_getElem hi, el]
      have ok' : okEns os.length (es.take i) := fun e m => ok e (List.mem_of_mem_take m)
      have tb := tabT_rows ho.nd ok'
      have k := known2_ok (nmI_mem o.a) (nmI_mem o.b)
      have l32 : optR (List.lookup 32 [(32, zD os)]) = .ok (zD os) := rfl
      have g2 : ∀ x y : D, gLst [x, y] = .ok (.lst [x, y]) := fun x y => if_pos (szle (by simp))
      have t2 : ∀ x y : D, gTup [x, y] = .ok (.tup [x, y]) := fun x y => if_pos (szle (by simp))
      have c0 : decide (l.2.2 < 0) = false := decide_eq_false (by have := o.lo; omega)
      have gg : ∀ x : D, gGet2 (.dT (rowsT os (es.take i))) (.tup [nD (nmI os l.1), nD (nmI os l.2.1)]) x = .ok ((getG (rowsT os (es.take i)) (tkey os l.1 l.2.1)).getD x) := fun x => gGet2_t keyT_pair
      have pr := tb.pr o.a o.b
      have lo := least_ok (ps := [entP (es.take i) l.1 l.2.1, some l.2.2]) (by simp)
      rw [loR_least tb o.a o.b] at lo
      have lo : F_least [.lst [prD (entP (es.take i) l.1 l.2.1), .int l.2.2]] = .ok (.int (loR (rowsT os (es.take i)) (tkey os l.1 l.2.1) l.2.2)) := lo
      have sc : scalD (.int (loR (rowsT os (es.take i)) (tkey os l.1 l.2.1) l.2.2)) = true := rfl
      have kt : keyT (.tup [nD (nmI os l.1), nD (nmI os l.2.1)]) = some (tkey os l.1 l.2.1) := rfl
      have rl : (rowsT os (es.take i)).length < sizeLine := szlt (by have := rows_len (os := os) (es := es.take i); rw [List.length_take] at this; omega)
      have st : B_Tolls___init___1 (tlE a os (.v (nmsD z os)) (.v (sqD b (es.map (lkD os)))) (rowsT os (es.take i)) (.v (nD (nmI os l.1))) (.v (nD (nmI os l.2.1))) (.v (.int l.2.2))) = .nx (tlE a os (.v (nmsD z os)) (.v (sqD b (es.map (lkD os)))) (rowsT os (es.take (i + 1))) (.v (nD (nmI os l.1))) (.v (nD (nmI os l.2.1))) (.v (.int l.2.2))) := by
        rw [es1, rowsT_snoc]
        unfold stTl tlE B_Tolls___init___1
        simp_arith [eFldO_ap, ownO_zero, List.mem_singleton, l32, g2, t2, k, c0, sPutT_ap, frzS_t, frzS_o, eGet1_ap, isDict_t, gg, pr, lo, sc, ownT_succ, ownT_zero, kt, rl]
      rw [st]
      exact ⟨_, _, _, rfl⟩)
  unfold tlE at e
  have st : startI a 64 7 [nmsD z os, sqD b (es.map (lkD os))] = [.o (some a) 64 [], .v (nmsD z os), .v (sqD b (es.map (lkD os))), .no, .no, .no, .no] := rfl
  have gk : gDk [0, 1, 2] [] [nmsD z os, .int 6] [.bl true] = [nmsD z os, .int 6, .bl true] := rfl
  have cn := checkS_ok (z := z) ho
  have p1 : putN 32 (zD os) [] = [(32, zD os)] := rfl
  have p2 : ∀ d : D, putN 80 d [(32, zD os)] = [(32, zD os), (80, d)] := fun _ => rfl
  have e0 : rowsT os (es.take 0) = [] := by rw [List.take_zero]; rfl
  rw [List.take_length] at e
  unfold F_Tolls___init__ G_Tolls___init__
  simp_arith [runI_ap, st, sFldO_ap, Nat.reduceLT, gk, cn, ownO_zero, List.mem_singleton, p1, p2, nDT_ap, own_t, gIt_sq, e, frzS_o, frzS_t, outI_nx]
end Tk
namespace Tk
open PySem PySem.Spec L2 PyProof.Rows
theorem gAdd_lstT {a b : List D} (h : a.length + b.length ≤ 1000) : gAdd (.lst a) (.lst b) = .ok (.lst (a ++ b)) := if_pos (szle h)
structure IsT (os : Bal) (f : Tab) (X : D) : Prop where
  ex : ∃ rows, X = tolD os rows ∧ TabOK os rows f
  lo : ∀ i j c, f i j = some c → 0 ≤ c
theorem mkT {os : Bal} (ho : okSps os) {es : List Lk} (ok : okEns os.length es) : IsT os (entP es) (tolD os (rowsT os es)) :=
  ⟨⟨_, rfl, tabT_rows ho.nd ok⟩, fun i j c e => (ok _ (ent_some e)).lo⟩
theorem gF32t {os : Bal} {rows : List (List Key × D)} : gFld [64, 40] 32 (tolD os rows) = .ok (zD os) := by
  unfold tolD
  rw [gFld_ins, if_pos (by simp)]
  rfl
theorem gF80t {os : Bal} {rows : List (List Key × D)} : gFld [64] 80 (tolD os rows) = .ok (.dT rows) := by
  unfold tolD
  rw [gFld_ins, if_pos (by simp)]
  rfl
theorem insTol {os : Bal} {rows : List (List Key × D)} : insB 64 nF (tolD os rows) = true := rfl
theorem isInsT {os : Bal} {rows : List (List Key × D)} : isIns 64 (tolD os rows) = true := decide_eq_true (p := (64 : Nat) = 64) rfl
def entsT (n : Nat) (f : Tab) : List Lk := (List.range n).flatMap fun i => ((List.range n).filter fun j => (f i j).isSome).map fun j => (i, j, (f i j).getD 0)
theorem entsT_mem {n : Nat} {f : Tab} {i j : Nat} {c : Int} : (i, j, c) ∈ entsT n f ↔ i < n ∧ j < n ∧ f i j = some c := by
  unfold entsT
  rw [List.mem_flatMap]
  constructor
  · rintro ⟨i', mi, m⟩
    obtain ⟨j', mj, e⟩ := List.mem_map.mp m
    obtain ⟨m1, m2⟩ := List.mem_filter.mp mj
    obtain ⟨rfl, rfl, rfl⟩ : i' = i ∧ j' = j ∧ (f i' j').getD 0 = c := by
      have h1 := (Prod.mk.inj e).1
      have h2 := (Prod.mk.inj (Prod.mk.inj e).2).1
      have h3 := (Prod.mk.inj (Prod.mk.inj e).2).2
      exact ⟨h1, h2, h3⟩
    refine ⟨List.mem_range.mp mi, List.mem_range.mp m1, ?_⟩
    cases h : f i' j' with
    | none => rw [h] at m2; cases m2
    | some x => rfl
  · rintro ⟨h1, h2, h3⟩
    exact ⟨i, List.mem_range.mpr h1, List.mem_map.mpr ⟨j, List.mem_filter.mpr ⟨List.mem_range.mpr h2, by rw [h3]; rfl⟩, by rw [h3]; rfl⟩⟩
theorem flat_lenN {α : Type} {f : Nat → List α} {n : Nat} : ∀ {l : List Nat}, (∀ x ∈ l, (f x).length ≤ n) → (l.flatMap f).length ≤ l.length * n
  | [], _ => by simp
  | x :: l, h => by
    rw [List.flatMap_cons, List.length_append, List.length_cons, Nat.succ_mul]
    have := h x List.mem_cons_self
    have := flat_lenN (f := f) fun y my => h y (List.mem_cons_of_mem x my)
    omega
theorem entsT_len {n : Nat} {f : Tab} : (entsT n f).length ≤ n * n := by
  unfold entsT
  have := flat_lenN (f := fun i => ((List.range n).filter fun j => (f i j).isSome).map fun j => ((i, j, (f i j).getD 0) : Lk)) (n := n) (l := List.range n) fun x _ => by
    rw [List.length_map]
    exact Nat.le_trans (List.length_filter_le _ _) (by rw [List.length_range]; exact Nat.le_refl _)
  rwa [List.length_range] at this
theorem entsT_len36 {n : Nat} {f : Tab} (h : n ≤ 6) : (entsT n f).length ≤ 36 := by
  have h1 := entsT_len (n := n) (f := f)
  have : n * n ≤ 6 * 6 := Nat.mul_le_mul h h
  omega
theorem entsT_ok {n : Nat} {f : Tab} (lo : ∀ i j c, i < n → j < n → f i j = some c → 0 ≤ c) : okEns n (entsT n f) := fun (i, j, c) m => by
  obtain ⟨h1, h2, h3⟩ := entsT_mem.mp m
  exact ⟨h1, h2, lo i j c h1 h2 h3⟩
theorem entP_ents {n : Nat} {f : Tab} {i j : Nat} (hi : i < n) (hj : j < n) : entP (entsT n f) i j = f i j := by
  cases h : f i j with
  | some c =>
    obtain ⟨d, e, l⟩ := ent_le (entsT_mem.mpr ⟨hi, hj, h⟩)
    have := (entsT_mem.mp (ent_some e)).2.2
    rw [h] at this
    cases this
    exact e
  | none =>
    cases e : entP (entsT n f) i j with
    | none => rfl
    | some c =>
      have := (entsT_mem.mp (ent_some e)).2.2
      rw [h] at this
      cases this
section
variable {os : Bal} {f g : Tab} {X Y : D}
theorem same_names_ok (ho : okSps os) (hx : IsT os f X) (hy : IsT os g Y) : F_check_same_names [X, Y] = .ok .non := by
  obtain ⟨r1, rfl, _⟩ := hx.ex
  obtain ⟨r2, rfl, _⟩ := hy.ex
  have ge := gNe_zz ho
  unfold F_check_same_names G_check_same_names
  simp_arith [gF32t, ge]
theorem lkmap_pair {n : Nat} {f : Tab} {os : Bal} : ((List.range n).flatMap fun i => ((List.range n).filter fun j => (f i j).isSome).map fun j => lkD os (i, j, (f i j).getD 0)) = (entsT n f).map (lkD os) := by
  unfold entsT
  rw [List.map_flatMap]
  congr 1
  funext i
  rw [List.map_map]
  rfl
theorem mkK_ok {ρ : Ev} {fa : Ev → R (List D)} {z b : Bool} {es : List Lk} (ho : okSps os) (ok : okEns os.length es) (hl : es.length ≤ 400) (e : fa ρ = .ok [nmsD z os, sqD b (es.map (lkD os))]) : eFrz (nMakeK 64 2 0 3 F_Tolls___init__ (gDk [0, 1] [.tp0]) fa aN) ρ = .ok (tolD os (rowsT os es)) := by
  have gd : ∀ a b : D, gDk [0, 1] [.tp0] [a, b] [] = [a, b] := fun _ _ => rfl
  have r1 := unA_eq fun a => tolinit_ok (a := a) (z := z) (b := b) ho ok hl
  simp_arith [eFrz_ap, nMakeK_ap, e, gd, r1, frzR_o]
  rfl
theorem entries_ok (ho : okSps os) (hx : IsT os f X) : F_Tolls_entries [X] = .ok (.lst ((entsT os.length f).map (lkD os))) := by
  obtain ⟨rows, rfl, tb⟩ := hx.ex
  have few := ho.few
  have t2 : ∀ x y : D, gTup [x, y] = .ok (.tup [x, y]) := fun x y => if_pos (szle (by simp))
  let prs : List (Nat × Nat) := (List.range os.length).flatMap fun i => (List.range os.length).map fun j => (i, j)
  let pD : Nat × Nat → D := fun p => .tup [nD (nmI os p.1), nD (nmI os p.2)]
  have pl : prs.length ≤ 36 := by
    have := flat_lenN (f := fun i => (List.range os.length).map fun j => ((i, j) : Nat × Nat)) (n := os.length) (l := List.range os.length) fun x _ => by rw [List.length_map, List.length_range]; exact Nat.le_refl _
    rw [List.length_range] at this
    have : os.length * os.length ≤ 6 * 6 := Nat.mul_le_mul few few
    show List.length (List.flatMap _ _) ≤ 36
    omega
  have pm : ∀ p ∈ prs, p.1 < os.length ∧ p.2 < os.length := fun p m => by
    obtain ⟨i, mi, m⟩ := List.mem_flatMap.mp m
    obtain ⟨j, mj, rfl⟩ := List.mem_map.mp m
    exact ⟨List.mem_range.mp mi, List.mem_range.mp mj⟩
  have lq : lLc2' [2, 3] (iSq (e1 (gFld [64, 40] 32) (eV 0))) (gN 2) tsY (iSq (e1 (gFld [64, 40] 32) (eV 0))) [3] (gN 3) tsY (eA gTup (aC (eV 2) (aC (eV 3) aN))) [.v (tolD os rows), .no, .no, .no] = .ok (prs.map pD) := by
    have lc1 : ∀ i, lcL (gN 3) tsY (eA gTup (aC (eV 2) (aC (eV 3) aN))) (wipeE [.v (tolD os rows), .no, .v (nD (nmI os i)), .no] [3]) (os.map nD) = .ok ((List.range os.length).map fun j => pD (i, j)) := fun i => by
      rw [os_rng]
      exact lc_all (inj := fun j => nD (nmI os j)) (fun j => pD (i, j)) fun j _ => ⟨[.v (tolD os rows), .no, .v (nD (nmI os i)), .v (nD (nmI os j))], rfl, rfl, by simp_arith [t2]; rfl⟩
    have lc2 : lc2L (gN 2) tsY (iSq (e1 (gFld [64, 40] 32) (eV 0))) [3] (gN 3) tsY (eA gTup (aC (eV 2) (aC (eV 3) aN))) [.v (tolD os rows), .no, .no, .no] (os.map nD) = .ok (prs.map pD) := by
      conv => lhs; rw [os_rng]
      rw [lc2_mapQ (β := D) (inj := fun i => nD (nmI os i)) (fun i => (List.range os.length).map fun j => pD (i, j)) fun i m => ⟨[.v (tolD os rows), .no, .v (nD (nmI os i)), .no], os.map nD, rfl, rfl, rfl, by simp_arith [gF32t]; rfl, lc1 i⟩]
      show R.ok _ = R.ok (List.map pD (List.flatMap _ _))
      rw [List.map_flatMap]
      congr 2
      funext i
      rw [List.map_map]
      rfl
    have fz : finL (prs.map pD) = .ok (prs.map pD) := if_pos (by rw [List.length_map]; exact szle (by omega))
    have ik : iSq (e1 (gFld [64, 40] 32) (eV 0)) [.v (tolD os rows), .no, .no, .no] = .ok (os.map nD) := by simp_arith [gF32t]; rfl
    unfold lLc2'
    rw [if_pos (show noOwn (wipeE [Sl.v (tolD os rows), Sl.no, Sl.no, Sl.no] [2, 3]) = true from rfl)]
    unfold lLc2
    rw [ik, bind_ok]
    show (lc2L _ _ _ _ _ _ _ [.v (tolD os rows), .no, .no, .no] (os.map nD)).quiet.bind finL = _
    rw [lc2, quiet_ok, bind_ok, fz]
  have key : ∀ p ∈ prs, getG rows [keyW (nmI os p.1), keyW (nmI os p.2)] = (f p.1 p.2).map .int := fun p m => tb.get (pm p m).1 (pm p m).2
  have lc : lcL (gT 2 (gsC (gN 2) (gsC (gN 3) (gsN)))) (tV (e2 (gInDi false) (eA gTup (aC (eV 2) (aC (eV 3) (aN)))) (e1 (gFld [64] 80) (eV 0)))) (eA gTup (aC (eV 2) (aC (eV 3) (aC (e2 gIxA (e1 (gFld [64] 80) (eV 0)) (eA gTup (aC (eV 2) (aC (eV 3) (aN))))) (aN))))) [.v (tolD os rows), .v (.lst (prs.map pD)), .no, .no] (prs.map pD) = .ok ((entsT os.length f).map (lkD os)) := by
    rw [lc_map (inj := pD) (fun p => (f p.1 p.2).isSome) (fun p => lkD os (p.1, p.2, (f p.1 p.2).getD 0)) fun p m => ⟨[.v (tolD os rows), .v (.lst (prs.map pD)), .v (nD (nmI os p.1)), .v (nD (nmI os p.2))], rfl, by
      have gi : gInDi false (.tup [nD (nmI os p.1), nD (nmI os p.2)]) (.dT rows) = .ok (.bl (f p.1 p.2).isSome) := by
        show (optR (keyT (.tup [nD (nmI os p.1), nD (nmI os p.2)]))).bind (fun k => R.ok (D.bl (if false = true then !(getG rows k).isSome else (getG rows k).isSome))) = _
        rw [keyT_pair]
        show R.ok (D.bl (getG rows [keyW (nmI os p.1), keyW (nmI os p.2)]).isSome) = _
        rw [key p m, Option.isSome_map]
      simp_arith [t2, gF80t, gi], fun z => by
      have gx : gIxA (.dT rows) (.tup [nD (nmI os p.1), nD (nmI os p.2)]) = .ok (.int ((f p.1 p.2).getD 0)) := by
        show (optR (keyT (.tup [nD (nmI os p.1), nD (nmI os p.2)]))).bind (fun k => optR (getG rows k)) = _
        rw [keyT_pair]
        show optR (getG rows [keyW (nmI os p.1), keyW (nmI os p.2)]) = _
        rw [key p m]
        cases h : f p.1 p.2 with
        | none => rw [h] at z; cases z
        | some c => rfl
      simp_arith [t2, gF80t, gx, gTup3]
      rfl⟩, ← lkmap_pair]
    congr 1
    show List.map _ (List.filter _ (List.flatMap _ _)) = _
    rw [List.filter_flatMap, List.map_flatMap]
    congr 1
    funext i
    rw [List.filter_map, List.map_map]
    rfl
  have pz : (prs.map pD).length ≤ sizeLine := by rw [List.length_map]; exact szle (by omega)
  unfold F_Tolls_entries G_Tolls_entries
  simp_arith [sOwnZ_ap, lq, pz, lc]
theorem samet_ok (ho : okSps os) : ∃ Y g, F_Tolls_same [zD os] = .ok Y ∧ IsT os g Y ∧ ∀ i j, i < os.length → j < os.length → g i j = sameT i j := by
  have few := ho.few
  let es : List Lk := (List.range os.length).map fun i => (i, i, (0 : Int))
  have ok : okEns os.length es := fun e m => by
    obtain ⟨i, mi, rfl⟩ := List.mem_map.mp m
    exact ⟨List.mem_range.mp mi, List.mem_range.mp mi, Int.le_refl 0⟩
  have oz : (os.map nD).length ≤ sizeLine := by rw [List.length_map]; exact szle (by omega)
  have lc : lcL (gN 1) tsY (eA gTup (aC (eV 1) (aC (eV 1) (aC (eC (.int 0)) (aN))))) [.v (zD os), .no] (os.map nD) = .ok (es.map (lkD os)) := by
    rw [os_rng, lc_all (inj := fun i => nD (nmI os i)) (fun i => lkD os (i, i, 0)) fun i _ => ⟨[.v (zD os), .v (nD (nmI os i))], rfl, rfl, by simp_arith [gTup3]; rfl⟩]
    show R.ok _ = R.ok (List.map _ (List.map _ _))
    rw [List.map_map]
    rfl
  have ml := mkK_ok (ρ := [.v (zD os), .no]) (fa := aC (eV 0) (aC (eLc [1] (iSq (eV 0)) (gN 1) (tsY) (eA gTup (aC (eV 1) (aC (eV 1) (aC (eC (.int 0)) (aN)))))) (aN))) (z := true) (b := false) ho ok (by show List.length (List.map _ _) ≤ _; rw [List.length_map, List.length_range]; omega) (by
    have gi : gIt (zD os) = .ok (os.map nD) := rfl
    simp_arith [gi, oz, lc]
    rfl)
  refine ⟨tolD os (rowsT os es), entP es, ?_, mkT ho ok, fun i j hi hj => ?_⟩
  · unfold F_Tolls_same G_Tolls_same
    simp_arith [ml]
  · unfold sameT
    by_cases z : i = j
    · subst z
      rw [if_pos rfl]
      obtain ⟨d, e, l⟩ := ent_le (es := es) (i := i) (j := i) (c := 0) (List.mem_map.mpr ⟨i, List.mem_range.mpr hi, rfl⟩)
      have m := ent_some e
      obtain ⟨k, mk, q⟩ := List.mem_map.mp m
      have : (0 : Int) = d := (Prod.mk.inj (Prod.mk.inj q).2).2
      rw [e, ← this]
    · rw [if_neg z]
      cases e : entP es i j with
      | none => rfl
      | some c =>
        obtain ⟨k, mk, q⟩ := List.mem_map.mp (ent_some e)
        exact absurd ((Prod.mk.inj q).1.symm.trans (Prod.mk.inj (Prod.mk.inj q).2).1) z
theorem or_ok (ho : okSps os) (hx : IsT os f X) (hy : IsT os g Y) : ∃ Z, F_Tolls___or__ [X, Y] = .ok Z ∧ IsT os (entP (entsT os.length f ++ entsT os.length g)) Z := by
  have few := ho.few
  have ck := same_names_ok ho hx hy
  have x1 := entries_ok ho hx
  have y1 := entries_ok ho hy
  have ok : okEns os.length (entsT os.length f ++ entsT os.length g) := fun e m => (List.mem_append.mp m).elim (entsT_ok (fun i j c _ _ => hx.lo i j c) e) (entsT_ok (fun i j c _ _ => hy.lo i j c) e)
  have l1 := entsT_len36 (f := f) few
  have l2 := entsT_len36 (f := g) few
  have ix : insB 64 nF X = true := by obtain ⟨r1, q, _⟩ := hx.ex; rw [q]; exact insTol
  have iy : insB 64 nF Y = true := by obtain ⟨r1, q, _⟩ := hy.ex; rw [q]; exact insTol
  have fx : gFld [64, 40] 32 X = .ok (zD os) := by obtain ⟨r1, q, _⟩ := hx.ex; rw [q]; exact gF32t
  have ga : gAdd (.lst ((entsT os.length f).map (lkD os))) (.lst ((entsT os.length g).map (lkD os))) = .ok (.lst ((entsT os.length f ++ entsT os.length g).map (lkD os))) := by
    rw [gAdd_lstT (by rw [List.length_map, List.length_map]; omega), List.map_append]
  have ml := mkK_ok (ρ := [.v X, .v Y]) (fa := aC (e1 (gFld [64, 40] 32) (eV 0)) (aC (e2 gAdd (eMeth 64 nF 1 F_Tolls_entries (eV 0) aN) (eMeth 64 nF 1 F_Tolls_entries (eV 1) aN)) (aN))) (z := true) (b := false) ho ok (by rw [List.length_append]; omega) (by
    simp_arith [fx, eMeth_ap, ix, iy, x1, y1, ga]
    rfl)
  refine ⟨_, ?_, mkT ho ok⟩
  unfold F_Tolls___or__ G_Tolls___or__
  simp_arith [ck, ml]
end
end Tk
namespace Tk
open PySem PySem.Spec L2 PyProof.Rows
section
variable {os : Bal} {f g : Tab} {X Y : D}
theorem IsT.ins (h : IsT os f X) : insB 64 nF X = true := by obtain ⟨r1, q, _⟩ := h.ex; rw [q]; exact insTol
theorem IsT.isI (h : IsT os f X) : isIns 64 X = true := by obtain ⟨r1, q, _⟩ := h.ex; rw [q]; exact isInsT
theorem IsT.f32 (h : IsT os f X) : gFld [64, 40] 32 X = .ok (zD os) := by obtain ⟨r1, q, _⟩ := h.ex; rw [q]; exact gF32t
theorem IsT.congr (h : IsT os f X) (hg : ∀ i j, i < os.length → j < os.length → g i j = f i j) (lo : ∀ i j c, g i j = some c → 0 ≤ c) : IsT os g X := by
  obtain ⟨r, q, tb⟩ := h.ex
  exact ⟨⟨r, q, ⟨fun hi hj => by rw [tb.get hi hj, hg _ _ hi hj]⟩⟩, lo⟩
def lstP (n : Nat) (p : Nat → Pr) : D := .lst ((List.range n).map fun j => prD (p j))
theorem get_ok (h : IsT os f X) : ∃ rows, gFld [64] 80 X = .ok (.dT rows) ∧ ∀ i j, i < os.length → j < os.length → gGet2 (.dT rows) (.tup [nD (nmI os i), nD (nmI os j)]) .non = .ok (prD (f i j)) := by
  obtain ⟨rows, q, tb⟩ := h.ex
  refine ⟨rows, by rw [q]; exact gF80t, fun i j hi hj => ?_⟩
  rw [gGet2_t keyT_pair]
  exact congrArg _ (tb.pr hi hj)
theorem row_ok (ho : okSps os) (h : IsT os f X) {i : Nat} (hi : i < os.length) : F_Tolls__row [X, nD (nmI os i)] = .ok (lstP os.length (f i)) := by
  have few := ho.few
  obtain ⟨rows, f80, gg⟩ := get_ok h
  have f32 := h.f32
  have t2 : ∀ x y : D, gTup [x, y] = .ok (.tup [x, y]) := fun x y => if_pos (szle (by simp))
  have lc : lcL (gN 2) tsY (eGet1 (e1 (gFld [64] 80) (eV 0)) (eA gTup (aC (eV 1) (aC (eV 2) (aN))))) [.v X, .v (nD (nmI os i)), .no] (os.map nD) = .ok ((List.range os.length).map fun j => prD (f i j)) := by
    rw [os_rng, lc_all (inj := fun j => nD (nmI os j)) (fun j => prD (f i j)) fun j m => ⟨[.v X, .v (nD (nmI os i)), .v (nD (nmI os j))], rfl, rfl, by
      have := gg i j hi (List.mem_range.mp m)
      simp_arith [eGet1_ap, f80, isDict_t, t2, this]⟩]
  have oz : (os.map nD).length ≤ sizeLine := by rw [List.length_map]; exact szle (by omega)
  have gi : gIt (zD os) = .ok (os.map nD) := rfl
  unfold F_Tolls__row G_Tolls__row
  simp_arith [f32, gi, oz, lc]
  rfl
def aftP (n : Nat) (p : Nat → Pr) (f : Tab) : Nat → Pr := fun j => leastP ((List.range n).map fun k => pad (p k) (f k j))
theorem after_lc (ho : okSps os) (h : IsT os f X) {p : Nat → Pr} : lcL (gN 2) tsY (eCall 1 F_least (aC (eLc [3, 4] (iZp2 (e1 (gFld [64, 40] 32) (eV 0)) (eV 1)) (gT 2 (gsC (gN 3) (gsC (gN 4) (gsN)))) (tsY) (eCall 2 F_together (aC (eV 4) (aC (eGet1 (e1 (gFld [64] 80) (eV 0)) (eA gTup (aC (eV 3) (aC (eV 2) (aN))))) (aN))))) (aN))) [.v X, .v (lstP os.length p), .no, .no, .no] (os.map nD) = .ok ((List.range os.length).map fun j => prD (aftP os.length p f j)) := by
  have few := ho.few
  obtain ⟨rows, f80, gg⟩ := get_ok h
  have f32 := h.f32
  have t2 : ∀ x y : D, gTup [x, y] = .ok (.tup [x, y]) := fun x y => if_pos (szle (by simp))
  have s1 : seqD (zD os) = some (true, os.map nD) := rfl
  have s2 : seqD (lstP os.length p) = some (false, (List.range os.length).map fun j => prD (p j)) := rfl
  have zp : zipD (os.map nD) ((List.range os.length).map fun j => prD (p j)) = (List.range os.length).map fun k => D.tup [nD (nmI os k), prD (p k)] := by rw [os_rng, zip_mapD]
  have zl : ((List.range os.length).map fun k => D.tup [nD (nmI os k), prD (p k)]).length ≤ sizeLine := by rw [List.length_map, List.length_range]; exact szle (by omega)
  conv => lhs; rw [os_rng]
  rw [lc_all (inj := fun j => nD (nmI os j)) (fun j => prD (aftP os.length p f j)) fun j m => ⟨[.v X, .v (lstP os.length p), .v (nD (nmI os j)), .no, .no], rfl, rfl, by
    have lc : lcL (gT 2 (gsC (gN 3) (gsC (gN 4) (gsN)))) tsY (eCall 2 F_together (aC (eV 4) (aC (eGet1 (e1 (gFld [64] 80) (eV 0)) (eA gTup (aC (eV 3) (aC (eV 2) (aN))))) (aN)))) [.v X, .v (lstP os.length p), .v (nD (nmI os j)), .no, .no] ((List.range os.length).map fun k => D.tup [nD (nmI os k), prD (p k)]) = .ok (((List.range os.length).map fun k => pad (p k) (f k j)).map prD) := by
      rw [lc_all (inj := fun k => D.tup [nD (nmI os k), prD (p k)]) (fun k => prD (pad (p k) (f k j))) fun k mk => ⟨[.v X, .v (lstP os.length p), .v (nD (nmI os j)), .v (nD (nmI os k)), .v (prD (p k))], rfl, rfl, by
        have g1 := gg k j (List.mem_range.mp mk) (List.mem_range.mp m)
        have tg := together_ok (a := p k) (b := f k j)
        simp_arith [eGet1_ap, f80, isDict_t, t2, g1, tg]⟩, List.map_map]
      rfl
    have lo := least_ok (ps := (List.range os.length).map fun k => pad (p k) (f k j)) (by rw [List.length_map, List.length_range]; omega)
    have lo : F_least [.lst (((List.range os.length).map fun k => pad (p k) (f k j)).map prD)] = .ok (prD (aftP os.length p f j)) := lo
    simp_arith [f32, s1, s2, optR_some, zp, zl, lc, lo]⟩]
theorem after_ok (ho : okSps os) (h : IsT os f X) {p : Nat → Pr} : F_Tolls__after [X, lstP os.length p] = .ok (lstP os.length (aftP os.length p f)) := by
  have few := ho.few
  have lc := after_lc ho h (p := p)
  have f32 := h.f32
  have oz : (os.map nD).length ≤ sizeLine := by rw [List.length_map]; exact szle (by omega)
  have gi : gIt (zD os) = .ok (os.map nD) := rfl
  unfold F_Tolls__after G_Tolls__after
  simp_arith [f32, gi, oz, lc]
  rfl
theorem tableof_ok (ho : okSps os) {h : Tab} (lo : ∀ i j c, i < os.length → j < os.length → h i j = some c → 0 ≤ c) : ∃ Z, F_table_of [zD os, .lst ((List.range os.length).map fun i => lstP os.length (h i))] = .ok Z ∧ IsT os (entP (entsT os.length h)) Z := by
  have few := ho.few
  have ok := entsT_ok lo
  have l36 := entsT_len36 (f := h) few
  let nm : Nat → D := fun i => nD (nmI os i)
  let rw_ : Nat → D := fun i => lstP os.length (h i)
  let RS : D := .lst ((List.range os.length).map rw_)
  have zp : zipD (os.map nD) ((List.range os.length).map rw_) = (List.range os.length).map fun i => D.tup [nm i, rw_ i] := by rw [os_rng, zip_mapD]
  have zpi : ∀ i, zipD (os.map nD) ((List.range os.length).map fun j => prD (h i j)) = (List.range os.length).map fun j => D.tup [nm j, prD (h i j)] := fun i => by rw [os_rng, zip_mapD]
  have lc1 : ∀ i, lcL (gT 2 (gsC (gN 5) (gsC (gN 6) (gsN)))) (tV (e2 gNotN (eV 6) (eC .non))) (eA gTup (aC (eV 3) (aC (eV 5) (aC (eV 6) (aN))))) (wipeE [.v (zD os), .v RS, .no, .v (nm i), .v (rw_ i), .no, .no] [5, 6]) ((List.range os.length).map fun j => D.tup [nm j, prD (h i j)]) = .ok (((List.range os.length).filter fun j => (h i j).isSome).map fun j => lkD os (i, j, (h i j).getD 0)) := fun i =>
    lc_map (inj := fun j => D.tup [nm j, prD (h i j)]) (fun j => (h i j).isSome) (fun j => lkD os (i, j, (h i j).getD 0)) fun j m => ⟨[.v (zD os), .v RS, .no, .v (nm i), .v (rw_ i), .v (nm j), .v (prD (h i j))], rfl, by
      simp_arith [isNon_prD, Bool.not_not], fun z => by
      simp_arith [gTup3]
      cases q : h i j with
      | none => rw [q] at z; cases z
      | some c => rfl⟩
  have lc2 : lc2L (gT 2 (gsC (gN 3) (gsC (gN 4) (gsN)))) tsY (iZp2 (eV 0) (eV 4)) [5, 6] (gT 2 (gsC (gN 5) (gsC (gN 6) (gsN)))) (tV (e2 gNotN (eV 6) (eC .non))) (eA gTup (aC (eV 3) (aC (eV 5) (aC (eV 6) (aN))))) [.v (zD os), .v RS, .no, .no, .no, .no, .no] ((List.range os.length).map fun i => D.tup [nm i, rw_ i]) = .ok ((entsT os.length h).map (lkD os)) := by
    rw [lc2_mapQ (β := D) (inj := fun i => D.tup [nm i, rw_ i]) (fun i => ((List.range os.length).filter fun j => (h i j).isSome).map fun j => lkD os (i, j, (h i j).getD 0)) fun i m => ⟨[.v (zD os), .v RS, .no, .v (nm i), .v (rw_ i), .no, .no], (List.range os.length).map fun j => D.tup [nm j, prD (h i j)], rfl, rfl, rfl, by
      have s1 : seqD (zD os) = some (true, os.map nD) := rfl
      have s2 : seqD (rw_ i) = some (false, (List.range os.length).map fun j => prD (h i j)) := rfl
      simp_arith [s1, s2, optR_some, zpi], lc1 i⟩, lkmap_pair]
  have fz : finL ((entsT os.length h).map (lkD os)) = .ok ((entsT os.length h).map (lkD os)) := if_pos (by rw [List.length_map]; exact szle (by omega))
  have ik : iZp2 (eV 0) (eV 1) [.v (zD os), .v RS, .no, .no, .no, .no, .no] = .ok ((List.range os.length).map fun i => D.tup [nm i, rw_ i]) := by
    have s1 : seqD (zD os) = some (true, os.map nD) := rfl
    have s2 : seqD RS = some (false, (List.range os.length).map rw_) := rfl
    simp_arith [s1, s2, optR_some, zp]
  have lq : lLc2' [3, 4, 5, 6] (iZp2 (eV 0) (eV 1)) (gT 2 (gsC (gN 3) (gsC (gN 4) (gsN)))) tsY (iZp2 (eV 0) (eV 4)) [5, 6] (gT 2 (gsC (gN 5) (gsC (gN 6) (gsN)))) (tV (e2 gNotN (eV 6) (eC .non))) (eA gTup (aC (eV 3) (aC (eV 5) (aC (eV 6) (aN))))) [.v (zD os), .v RS, .no, .no, .no, .no, .no] = .ok ((entsT os.length h).map (lkD os)) := by
    unfold lLc2'
    rw [if_pos (show noOwn (wipeE [Sl.v (zD os), Sl.v RS, Sl.no, Sl.no, Sl.no, Sl.no, Sl.no] [3, 4, 5, 6]) = true from rfl)]
    unfold lLc2
    rw [ik, bind_ok]
    show (lc2L _ _ _ _ _ _ _ [.v (zD os), .v RS, .no, .no, .no, .no, .no] _).quiet.bind finL = _
    rw [lc2, quiet_ok, bind_ok, fz]
  have ml := mkK_ok (ρ := [.v (zD os), .v RS, .v (.lst ((entsT os.length h).map (lkD os))), .no, .no, .no, .no]) (fa := aC (eV 0) (aC (eV 2) (aN))) (z := true) (b := false) ho ok (by omega) (by simp_arith []; rfl)
  refine ⟨_, ?_, mkT ho ok⟩
  show F_table_of [zD os, RS] = _
  unfold F_table_of G_table_of
  simp_arith [sOwnZ_ap, lq, ml]
theorem mul_pos (hf : ∀ i j c, f i j = some c → 0 ≤ c) (hg : ∀ i j c, g i j = some c → 0 ≤ c) {n : Nat} {i j : Nat} {c : Int} (h : mulT n f g i j = some c) : 0 ≤ c := by
  obtain ⟨k, x, y, hk, h1, h2, rfl⟩ := mul_some h
  have := hf _ _ _ h1
  have := hg _ _ _ h2
  omega
theorem mult_ok (ho : okSps os) (hx : IsT os f X) (hy : IsT os g Y) : ∃ Z, F_Tolls___mul__ [X, Y] = .ok Z ∧ IsT os (mulT os.length f g) Z := by
  have few := ho.few
  have ck := same_names_ok ho hx hy
  have f32 := hx.f32
  have ix := hx.ins
  have iy := hy.ins
  obtain ⟨Z, e, hz⟩ := tableof_ok ho (h := mulT os.length f g) fun i j c _ _ h => mul_pos hx.lo hy.lo h
  have lc : lcL (gN 2) tsY (eMeth 64 nF 2 F_Tolls__after (eV 1) (aC (eMeth 64 nF 2 F_Tolls__row (eV 0) (aC (eV 2) (aN))) (aN))) [.v X, .v Y, .no] (os.map nD) = .ok ((List.range os.length).map fun i => lstP os.length (mulT os.length f g i)) := by
    rw [os_rng, lc_all (inj := fun i => nD (nmI os i)) (fun i => lstP os.length (mulT os.length f g i)) fun i m => ⟨[.v X, .v Y, .v (nD (nmI os i))], rfl, rfl, by
      have r := row_ok ho hx (List.mem_range.mp m)
      have a := after_ok ho hy (p := f i)
      have a : F_Tolls__after [Y, lstP os.length (f i)] = .ok (lstP os.length (mulT os.length f g i)) := a
      simp_arith [eMeth_ap, ix, iy, r, a]⟩]
  have oz : (os.map nD).length ≤ sizeLine := by rw [List.length_map]; exact szle (by omega)
  have gi : gIt (zD os) = .ok (os.map nD) := rfl
  refine ⟨Z, ?_, hz.congr (fun i j hi hj => (entP_ents hi hj).symm) fun i j c h => mul_pos hx.lo hy.lo h⟩
  unfold F_Tolls___mul__ G_Tolls___mul__
  simp_arith [ck, f32, gi, oz, lc, e]
theorem dmul_ok (ho : okSps os) (hx : IsT os f X) (hy : IsT os g Y) : ∃ Z, gDun2 64 F_Tolls___mul__ X Y = .ok Z ∧ IsT os (mulT os.length f g) Z := by
  obtain ⟨Z, e, hz⟩ := mult_ok ho hx hy
  refine ⟨Z, ?_, hz⟩
  unfold gDun2
  rw [hx.isI, hy.isI, if_pos (show (true && true) = true from rfl), e]
  show (if isIns 64 Z = true then R.ok Z else .bad) = _
  rw [if_pos hz.isI]
def pwE (X : D) (t : Int) (P F : D) : Ev := [.v X, .v (.int t), .v P, .v F]
theorem power_loop (ho : okSps os) {M : Tab} (X0 : D) : ∀ (m : Nat) (t : Nat) (a b : Nat) (P F : D) (p q : Tab), t < 2 ^ m → IsT os p P → IsP os.length M a p → IsT os q F → IsP os.length M b q →
    ∃ Z z F', wloop (tV (e2 gGt (eV 1) (eC (.int 0)))) B_Tolls_power_1 (m + 1) (pwE X0 t P F) = .nx (pwE X0 0 Z F') ∧ IsT os z Z ∧ IsP os.length M (a + b * t) z
  | 0, t, a, b, P, F, p, q, ht, h1, h2, h3, h4 => by
    have t0 : t = 0 := by simpa using ht
    subst t0
    refine ⟨P, p, F, ?_, h1, by rw [Nat.mul_zero, Nat.add_zero]; exact h2⟩
    rw [wloop_succ]
    unfold pwE
    have c : decide ((0 : Int) < ((0 : Nat) : Int)) = false := rfl
    simp_arith [c]
    rfl
  | m + 1, t, a, b, P, F, p, q, ht, h1, h2, h3, h4 => by
    by_cases t0 : t = 0
    · subst t0
      refine ⟨P, p, F, ?_, h1, by rw [Nat.mul_zero, Nat.add_zero]; exact h2⟩
      rw [wloop_succ]
      unfold pwE
      have c : decide ((0 : Int) < ((0 : Nat) : Int)) = false := rfl
      simp_arith [c]
      rfl
    · have gm : gMod (.int (t : Int)) (.int 2) = .ok (.int ((t : Int) % 2)) := gMod_int (by decide)
      have gd : gDiv (.int (t : Int)) (.int 2) = .ok (.int ((t : Int) / 2)) := gDiv_int (by decide) (by decide)
      obtain ⟨F2, e2, k3⟩ := dmul_ok ho h3 h3
      have k4 := h4.mul h4
      have lt : t / 2 < 2 ^ m := by rw [Nat.pow_succ] at ht; omega
      have cast : (t : Int) / 2 = ((t / 2 : Nat) : Int) := by omega
      by_cases od : t % 2 = 1
      · obtain ⟨P2, e1, k1⟩ := dmul_ok ho h1 h3
        have k2 := h2.mul h4
        obtain ⟨Z, z, F', e, hz, hp⟩ := power_loop ho X0 m (t / 2) (a + b) (b + b) P2 F2 _ _ lt k1 k2 k3 k4
        refine ⟨Z, z, F', ?_, hz, by
          have : a + b + (b + b) * (t / 2) = a + b * t := by
            have q : t = 2 * (t / 2) + 1 := by omega
            conv => rhs; rw [q]
            rw [Nat.mul_add, Nat.mul_one, ← Nat.mul_assoc, Nat.mul_two, Nat.add_assoc, Nat.add_comm b]
          rw [← this]; exact hp⟩
        rw [wloop_succ]
        have c : decide ((0 : Int) < (t : Int)) = true := decide_eq_true (by omega)
        have c1 : decide ((t : Int) % 2 = 1) = true := decide_eq_true (by omega)
        have st : B_Tolls_power_1 (pwE X0 t P F) = .nx (pwE X0 ((t / 2 : Nat) : Int) P2 F2) := by
          unfold B_Tolls_power_1 pwE
          simp_arith [gm, c1, e1, e2, gd, cast]
        have tt : (tV (Tk.e2 gGt (eV 1) (eC (.int 0)))) (pwE X0 t P F) = .ok true := by
          unfold pwE
          simp_arith [c]
        rw [tt, from_ok, if_pos rfl, st, lp_nx]
        exact e
      · obtain ⟨Z, z, F', e, hz, hp⟩ := power_loop ho X0 m (t / 2) a (b + b) P F2 _ _ lt h1 h2 k3 k4
        refine ⟨Z, z, F', ?_, hz, by
          have : a + (b + b) * (t / 2) = a + b * t := by
            have q : t = 2 * (t / 2) := by omega
            conv => rhs; rw [q]
            rw [← Nat.mul_assoc, Nat.mul_two]
          rw [← this]; exact hp⟩
        rw [wloop_succ]
        have c : decide ((0 : Int) < (t : Int)) = true := decide_eq_true (by omega)
        have c1 : decide ((t : Int) % 2 = 1) = false := decide_eq_false (by omega)
        have st : B_Tolls_power_1 (pwE X0 t P F) = .nx (pwE X0 ((t / 2 : Nat) : Int) P F2) := by
          unfold B_Tolls_power_1 pwE
          simp_arith [gm, c1, e2, gd, cast]
        have tt : (tV (Tk.e2 gGt (eV 1) (eC (.int 0)))) (pwE X0 t P F) = .ok true := by
          unfold pwE
          simp_arith [c]
        rw [tt, from_ok, if_pos rfl, st, lp_nx]
        exact e
theorem power_ok (ho : okSps os) (hx : IsT os f X) {t : Nat} (ht : t ≤ 10 ^ 30) : ∃ Z z, F_Tolls_power [X, .int t] = .ok Z ∧ IsT os z Z ∧ IsP os.length f t z := by
  obtain ⟨P, p, e1, h1, hp⟩ := samet_ok ho
  have h2 : IsP os.length f 0 p := (IsP.same (n := os.length) (M := f)).congr hp
  obtain ⟨Z, z, F', e, hz, hq⟩ := power_loop ho (M := f) X 999 t 0 1 P X p f (Nat.lt_of_le_of_lt ht (by decide)) h1 h2 hx IsP.one
  refine ⟨Z, z, ?_, hz, by rw [Nat.zero_add, Nat.one_mul] at hq; exact hq⟩
  have f32 := hx.f32
  have c1 : decide ((0 : Int) ≤ (t : Int)) = true := decide_eq_true (by omega)
  have c2 : decide ((t : Int) ≤ 1000000000000000000000000000000) = true := decide_eq_true (by
    have : (10 : Nat) ^ 30 = 1000000000000000000000000000000 := by decide
    omega)
  have gd : ∀ a : D, gDk [0] [] [a] [] = [a] := fun _ => rfl
  unfold pwE at e
  unfold F_Tolls_power G_Tolls_power
  simp_arith [c1, c2, f32, gd, e1, e]
theorem closed_ok (ho : okSps os) (hx : IsT os f X) : ∃ Z z, F_Tolls_closed [X] = .ok Z ∧ IsT os z Z ∧ IsC os.length f z := by
  have few := ho.few
  obtain ⟨S, s, e1, h1, hs⟩ := samet_ok ho
  obtain ⟨M, e2, h2⟩ := or_ok ho hx h1
  have d2 : gDun2 64 F_Tolls___or__ X S = .ok M := by
    unfold gDun2
    rw [hx.isI, h1.isI, if_pos (show (true && true) = true from rfl), e2]
    show (if isIns 64 M = true then R.ok M else .bad) = _
    rw [if_pos h2.isI]
  obtain ⟨Z, z, e3, h3, hp⟩ := power_ok ho h2 (t := os.length) (Nat.le_trans few (by decide))
  have H : IsH os.length f (entP (entsT os.length f ++ entsT os.length s)) := by
    refine ⟨fun {i j c} hi hj e => ?_, fun {i j c} hi hj e => ent_le (List.mem_append.mpr (.inl (entsT_mem.mpr ⟨hi, hj, e⟩))), fun {i} hi => ?_⟩
    · rcases List.mem_append.mp (ent_some e) with m | m
      · exact .inr (entsT_mem.mp m).2.2
      · have q := (entsT_mem.mp m).2.2
        rw [hs i j hi hj] at q
        unfold sameT at q
        by_cases z : i = j
        · rw [if_pos z] at q; cases q; exact .inl ⟨z, rfl⟩
        · rw [if_neg z] at q; cases q
    · have q : s i i = some 0 := by rw [hs i i hi hi]; exact if_pos rfl
      obtain ⟨d, e, l⟩ := ent_le (List.mem_append.mpr (.inr (entsT_mem.mpr ⟨hi, hi, q⟩))) (es := entsT os.length f ++ entsT os.length s)
      have := h2.lo _ _ _ e
      rw [e, show d = 0 by omega]
  refine ⟨Z, z, ?_, h3, H.closed hx.lo hp⟩
  have f32 := hx.f32
  have gd : ∀ a : D, gDk [0] [] [a] [] = [a] := fun _ => rfl
  have ib := h2.ins
  have l2 : gLen [zD os] = .ok (.int (os.length : Int)) := by show gLen [.tpz _] = _; rw [gLen_tpz, List.length_map]
  unfold F_Tolls_closed G_Tolls_closed
  simp_arith [f32, gd, e1, d2, eMeth_ap, ib, l2, e3]
end
section
variable {os : Bal} {ts : List Lk}
theorem linktolls_ok (ho : okNms os) (ok : okLks os.length ts) (hl : ts.length ≤ 12) : ∃ X, F_Links_tolls [madeD os ts] = .ok X ∧ IsT os (entP ts) X := by
  have ml := mkK_ok (ρ := [.v (madeD os ts)]) (fa := aC (e1 (gFld [64, 40] 32) (eV 0)) (aC (e1 (gFld [40] 38) (eV 0)) (aN))) (z := true) (b := true) ho.sps ok.ens (by omega) (by simp_arith [gF32, gF38]; rfl)
  refine ⟨_, ?_, mkT ho.sps ok.ens⟩
  unfold F_Links_tolls G_Links_tolls
  simp_arith [ml]
theorem lclosed_ok (ho : okNms os) (ok : okLks os.length ts) (hl : ts.length ≤ 12) : ∃ X Z z, F_Links_tolls [madeD os ts] = .ok X ∧ insB 64 nF X = true ∧ F_Tolls_closed [X] = .ok Z ∧ IsT os z Z ∧ IsC os.length (entP ts) z := by
  obtain ⟨X, e1, h1⟩ := linktolls_ok ho ok hl
  obtain ⟨Z, z, e2, h2, hc⟩ := closed_ok ho.sps h1
  exact ⟨X, Z, z, e1, h1.ins, e2, h2, hc⟩
end
end Tk
namespace Tk
open PySem PySem.Spec L2 PyProof.Rows
end Tk
namespace Tk
open PySem PySem.Spec L2 PyProof.Rows
end Tk
namespace Tk
open PySem PySem.Spec L2 PyProof.Rows
section
variable {os : Bal} {ts : List Lk}
theorem lk_0 {l : Lk} : gIx (lkD os l) (.int 0) = .ok (nD (nmI os l.1)) := rfl
end
end Tk
namespace Tk
open PySem PySem.Spec L2 PyProof.Rows
variable {os bs : Bal} {ts : List Lk}
def usedL (os bs : Bal) (ts : List Lk) : List Lk := ts.filter fun l => decide (nmI os l.1 ∉ bs)
noncomputable def toBar (os bs : Bal) (p : Nat → Pr) : Pr := leastP (((List.range os.length).filter fun k => decide (nmI os k ∈ bs)).map p)
end Tk
namespace Tk
open PySem PySem.Spec L2 PyProof.Rows
variable {os bs : Bal} {ts : List Lk}
theorem checkM_ok {z : Bool} {os : Bal} (h : okNms os) : F_checked_names [nmsD z os, .int 6, .bl false] = .ok (zD os) := by
  have sl : ∀ i : Nat, ∃ d, gSl (nmsD z os) none (some (i : Int)) = .ok d ∧ ∀ w, gInS false (nD w) d = .ok (.bl (decide (w ∈ os.take i))) := fun i => by
    cases z with
    | false =>
      refine ⟨_, gSl_lst (xs := os.map nD) (j := (i : Int)) (by omega), fun w => ?_⟩
      rw [Int.toNat_natCast, ← List.map_take, in_lst]
    | true =>
      by_cases c : HT.sIx (os.map nD).length 0 none = 0 ∧ HT.sIx (os.map nD).length (os.map nD).length (some (i : Int)) = (os.map nD).length
      · refine ⟨zD os, if_pos c, fun w => ?_⟩
        have e : cutD (os.map nD) none (some (i : Int)) = os.map nD := by
          unfold cutD
          rw [c.1, c.2, List.drop_zero, Nat.sub_zero, List.take_length]
        rw [cut_hi (by omega), Int.toNat_natCast] at e
        have l : (os.map nD).length ≤ i := by
          have := congrArg List.length e
          rw [List.length_take] at this
          omega
        rw [List.length_map] at l
        rw [List.take_of_length_le l]
        exact in_tpz
      · refine ⟨.tup (cutD (os.map nD) none (some (i : Int))), if_neg c, fun w => ?_⟩
        rw [cut_hi (by omega), Int.toNat_natCast, ← List.map_take, in_tup]
  obtain ⟨ρ', e, s1, s2, rfl⟩ := loop_en (inj := nD) (h := gT 2 (gsC (gN 3) (gsC (gN 4) (gsN)))) (body := B_checked_names_1) (l := os) (ρ := [.v (nmsD z os), .v (.int 6), .v (.bl false), .no, .no])
    (fun _ ρ => ∃ s1 s2 : Sl, ρ = [.v (nmsD z os), .v (.int 6), .v (.bl false), s1, s2]) ⟨_, _, rfl⟩ (by
      rintro i w ρ q ⟨s1, s2, rfl⟩
      refine ⟨[.v (nmsD z os), .v (.int 6), .v (.bl false), .v (.int (i : Int)), .v (nD w)], rfl, ?_⟩
      obtain ⟨d, sd, hd⟩ := sl i
      have n2 : gInS false (nD w) d = .ok (.bl false) := by
        rw [hd, decide_eq_false]
        exact nd_take h.nd q
      have nm := is_name_ok (h.each w (List.mem_of_getElem? q))
      unfold B_checked_names_1
      simp_arith [nm, sd, n2]
      exact ⟨_, _, rfl⟩)
  have c1 : decide ((1 : Int) ≤ (os.length : Int)) = true := decide_eq_true (by have := h.pos; omega)
  have c2 : decide ((os.length : Int) ≤ 6) = true := decide_eq_true (by have := h.few; omega)
  have sq : ∃ b, seqD (nmsD z os) = some (b, os.map nD) := by cases z <;> exact ⟨_, rfl⟩
  obtain ⟨bb, sq⟩ := sq
  have ln : gLen [nmsD z os] = .ok (.int os.length) := by
    cases z with
    | false => show gLen [.lst (os.map nD)] = _; rw [gLen_lst, List.length_map]
    | true => show gLen [.tpz (os.map nD)] = _; rw [gLen_tpz, List.length_map]
  have tz : gTupZ [nmsD z os] = .ok (zD os) := by cases z <;> rfl
  unfold F_checked_names G_checked_names
  simp_arith [ln, c1, c2, sq, optR_some, e, tz]
def linZ (z : Bool) (a : Addr) (os : Bal) (ts : List Lk) (s3 s4 s5 : Sl) : Ev := [.o (some a) 40 [(32, zD os)], .v (nmsD z os), .v (.lst (ts.map (lkD os))), s3, s4, s5]
theorem lkinitM_ok {z : Bool} {a : Addr} {os : Bal} {ts : List Lk} (ho : okNms os) (ok : okLks os.length ts) (hl : ts.length ≤ 12) : F_Links___init__ a [nmsD z os, .lst (ts.map (lkD os))] = .ok [(32, zD os), (38, .tup (ts.map (lkD os)))] := by
  obtain ⟨ρ', e, s3, s4, s5, rfl⟩ := loop_map (inj := lkD os) (h := gT 3 (gsC (gN 3) (gsC (gN 4) (gsC (gN 5) (gsN))))) (body := B_Links___init___1) (l := ts) (ρ := linZ z a os ts .no .no .no)
    (fun _ ρ => ∃ s3 s4 s5 : Sl, ρ = linZ z a os ts s3 s4 s5) ⟨.no, .no, .no, rfl⟩ (by
      rintro i l ρ q ⟨s3, s4, s5, rfl⟩
      have o := ok l (List.mem_of_getElem? q)
      refine ⟨linZ z a os ts (.v (nD (nmI os l.1))) (.v (nD (nmI os l.2.1))) (.v (.int l.2.2)), rfl, ?_⟩
      have k := known2_ok (nmI_mem o.a) (nmI_mem o.b)
      have l32 : optR (List.lookup 32 [(32, zD os)]) = .ok (zD os) := rfl
      have g2 : ∀ x y : D, gLst [x, y] = .ok (.lst [x, y]) := fun x y => if_pos (szle (by simp))
      have ne : gEq (nD (nmI os l.1)) (nD (nmI os l.2.1)) = .ok (.bl false) := by rw [eq_w, decide_eq_false fun e => o.ne (nmI_inj ho.nd o.a o.b e)]
      have ne2 : (R.ok (D.bl (decide (S (nmI os l.1) = S (nmI os l.2.1)))) : R D) = .ok (.bl false) := ne
      have ne3 := D.bl.inj (R.ok.inj ne2)
      have c1 : decide ((0 : Int) ≤ l.2.2) = true := decide_eq_true o.lo
      have c2 : decide (l.2.2 ≤ (1000000000 : Int)) = true := decide_eq_true o.hi
      unfold linZ B_Links___init___1
      simp_arith [eFldO_ap, ownO_zero, List.mem_singleton, l32, g2, k, ne3, c1, c2]
      exact ⟨_, _, _, rfl⟩)
  unfold linZ at e
  have st : startI a 40 6 [nmsD z os, .lst (ts.map (lkD os))] = [.o (some a) 40 [], .v (nmsD z os), .v (.lst (ts.map (lkD os))), .no, .no, .no] := rfl
  have gk : gDk [0, 1, 2] [.bl false] [nmsD z os, .int 6] [] = [nmsD z os, .int 6, .bl false] := rfl
  have cn := checkM_ok (z := z) ho
  have p1 : putN 32 (zD os) [] = [(32, zD os)] := rfl
  have p2 : ∀ d : D, putN 38 d [(32, zD os)] = [(32, zD os), (38, d)] := fun _ => rfl
  have tz : ts.length ≤ sizeLine := szle (by omega)
  have lc : ∀ s0 : Sl, lcL (gT 3 (gsC (gN 3) (gsC (gN 4) (gsC (gN 5) (gsN))))) tsY (eA gTup (aC (eV 3) (aC (eV 4) (aC (eV 5) (aN))))) [s0, .v (nmsD z os), .v (.lst (ts.map (lkD os))), .no, .no, .no] (ts.map (lkD os)) = .ok (ts.map (lkD os)) := fun s0 =>
    lc_all (inj := lkD os) (lkD os) fun l _ => ⟨[s0, .v (nmsD z os), .v (.lst (ts.map (lkD os))), .v (nD (nmI os l.1)), .v (nD (nmI os l.2.1)), .v (.int l.2.2)], rfl, rfl, by simp_arith [gTup3]; rfl⟩
  have c12 : decide ((ts.length : Int) > 12) = false := decide_eq_false (by omega)
  unfold F_Links___init__ G_Links___init__
  simp_arith [runI_ap, st, sFldO_ap, Nat.reduceLT, gk, cn, ownO_zero, List.mem_singleton, p1, p2, List.length_map, c12, e, frzS_o, tz, lc, outI_nx]
def rowH (os : Bal) (r : List (List Key × D)) (e : Lk) : List (List Key × D) := putG r (tkey os e.1 e.2.1) (.int e.2.2)
def rowsH (os : Bal) (es : List Lk) : List (List Key × D) := es.foldl (rowH os) []
theorem rowsH_snoc {es : List Lk} {e : Lk} : rowsH os (es ++ [e]) = rowH os (rowsH os es) e := by
  unfold rowsH
  rw [List.foldl_append]
  rfl
theorem rowsH_len : ∀ {es : List Lk} {r : List (List Key × D)}, (es.foldl (rowH os) r).length ≤ r.length + es.length
  | [], r => by simp
  | e :: es, r => by
    have h1 := rowsH_len (es := es) (r := rowH os r e)
    have h2 : (rowH os r e).length ≤ r.length + 1 := put_len
    rw [List.foldl_cons, List.length_cons]
    omega
structure HasT (os : Bal) (rows : List (List Key × D)) (z : Tab) : Prop where
  at_ : ∀ {i j}, i < os.length → j < os.length → getG rows (tkey os i j) = (z i j).map D.int
theorem rowsH_some (nd : os.Nodup) {i j : Nat} (hi : i < os.length) (hj : j < os.length) : ∀ {es : List Lk} {r : List (List Key × D)}, (∀ e ∈ es, e.1 < os.length ∧ e.2.1 < os.length) → (∀ e ∈ es, ∀ e' ∈ es, e.1 = e'.1 → e.2.1 = e'.2.1 → e.2.2 = e'.2.2) →
    getG (es.foldl (rowH os) r) (tkey os i j) = (match es.find? fun e => decide (e.1 = i ∧ e.2.1 = j) with | some e => some (.int e.2.2) | none => getG r (tkey os i j))
  | [], r, _, _ => rfl
  | e :: es, r, h, u => by
    have ih := rowsH_some nd hi hj (es := es) (r := rowH os r e) (fun x m => h x (List.mem_cons_of_mem _ m)) fun x m y m' => u x (List.mem_cons_of_mem _ m) y (List.mem_cons_of_mem _ m')
    rw [List.foldl_cons, ih, List.find?_cons]
    obtain ⟨h1, h2⟩ := h e List.mem_cons_self
    by_cases z : e.1 = i ∧ e.2.1 = j
    · rw [decide_eq_true z]
      cases q : es.find? (fun e => decide (e.1 = i ∧ e.2.1 = j)) with
      | none =>
        show getG (rowH os r e) (tkey os i j) = _
        unfold rowH
        rw [z.1, z.2, getG_put, if_pos rfl]
      | some e' =>
        have m := List.mem_of_find?_eq_some q
        have p : e'.1 = i ∧ e'.2.1 = j := by simpa using List.find?_some q
        show some (D.int e'.2.2) = some (.int e.2.2)
        rw [u e List.mem_cons_self e' (List.mem_cons_of_mem _ m) (z.1.trans p.1.symm) (z.2.trans p.2.symm)]
    · rw [decide_eq_false z]
      cases q : es.find? (fun e => decide (e.1 = i ∧ e.2.1 = j)) with
      | some e' => rfl
      | none =>
        show getG (rowH os r e) (tkey os i j) = getG r (tkey os i j)
        unfold rowH
        rw [getG_put, if_neg fun y => z ?_]
        exact tkey_inj nd h1 h2 hi hj y
theorem hasT_ents (nd : os.Nodup) {z : Tab} : HasT os (rowsH os (entsT os.length z)) z := ⟨fun {i j} hi hj => by
  unfold rowsH
  rw [rowsH_some nd hi hj (fun e m => by obtain ⟨a, b, c⟩ := e; have := entsT_mem.mp m; exact ⟨this.1, this.2.1⟩) fun e m e' m' h1 h2 => by
    obtain ⟨a, b, c⟩ := e
    obtain ⟨a', b', c'⟩ := e'
    have q1 := (entsT_mem.mp m).2.2
    have q2 := (entsT_mem.mp m').2.2
    have h1 : a = a' := h1
    have h2 : b = b' := h2
    subst h1 h2
    rw [q1] at q2
    exact Option.some.inj q2]
  cases q : (entsT os.length z).find? (fun e => decide (e.1 = i ∧ e.2.1 = j)) with
  | some e =>
    obtain ⟨a, b, c⟩ := e
    have m := entsT_mem.mp (List.mem_of_find?_eq_some q)
    have p : a = i ∧ b = j := by simpa using List.find?_some q
    have p1 : a = i := p.1
    have p2 : b = j := p.2
    subst p1 p2
    rw [m.2.2]
    rfl
  | none =>
    cases h : z i j with
    | none => rfl
    | some c =>
      have := List.find?_eq_none.mp q (i, j, c) (entsT_mem.mpr ⟨hi, hj, h⟩)
      simp at this⟩
end Tk
namespace Tk
open PySem PySem.Spec L2 PyProof.Rows
variable {os bar : Bal} {ts : List Lk}
theorem usedL_ok (ok : okLks os.length ts) : okLks os.length (usedL os bar ts) := fun l m => ok l (List.mem_filter.mp m).1
theorem handT_ok (ho : okNms os) (ok : okLks os.length ts) (hl : ts.length ≤ 12) : ∃ z : Tab, IsC os.length (entP (usedL os bar ts)) z ∧ (∀ i j c, z i j = some c → 0 ≤ c) ∧ ∃ rows, F_hand_tolls [madeD os ts, .tup (bar.map nD)] = .ok (.dT rows) ∧ HasT os rows z := by
  have few := ho.few
  have ok2 := usedL_ok (bar := bar) ok
  have hl2 : (usedL os bar ts).length ≤ 12 := Nat.le_trans (List.length_filter_le _ _) hl
  obtain ⟨X, Z, z, q1, ix, q2, hz, hc⟩ := lclosed_ok ho ok2 hl2
  refine ⟨z, hc, ?_⟩
  have lo : ∀ i j c, z i j = some c → 0 ≤ c := hz.lo
  refine ⟨lo, rowsH os (entsT os.length z), ?_, hasT_ents ho.nd⟩
  have i1 : isIns 40 (madeD os ts) = true := rfl
  have i2 : F_Links___iter__ [madeD os ts] = .ok (.tup (ts.map (lkD os))) := by
    unfold F_Links___iter__ G_Links___iter__
    simp_arith [gF38]
  have lc : lcL (gN 8) (tV (e2 (gInS true) (e2 gIx (eV 8) (eC (.int 0))) (eV 1))) (eV 8) [.v (madeD os ts), .v (.tup (bar.map nD)), .no, .no, .no, .no, .no, .no, .no] (ts.map (lkD os)) = .ok ((ts.filter fun l => decide (nmI os l.1 ∉ bar)).map (lkD os)) :=
    lc_map (inj := lkD os) (fun l => decide (nmI os l.1 ∉ bar)) (lkD os) fun l m => ⟨[.v (madeD os ts), .v (.tup (bar.map nD)), .no, .no, .no, .no, .no, .no, .v (lkD os l)], rfl, by
      have ni : gInS true (nD (nmI os l.1)) (.tup (bar.map nD)) = .ok (.bl (!decide (nmI os l.1 ∈ bar))) := nin_tup
      simp_arith [lk_0, ni]
      simp, fun _ => rfl⟩
  have ln : (ts.map (lkD os)).length ≤ sizeLine := by rw [List.length_map]; exact szle (by omega)
  have g32 : gFld [40] 32 (madeD os ts) = .ok (zD os) := rfl
  have r1 : (unA fun a => F_Links___init__ a [zD os, .lst ((usedL os bar ts).map (lkD os))]) = .ok [(32, zD os), (38, .tup ((usedL os bar ts).map (lkD os)))] := unA_eq fun a => lkinitM_ok (z := true) (a := a) ho ok2 hl2
  have mm : madeD os (usedL os bar ts) = .ins 40 [(32, zD os), (38, .tup ((usedL os bar ts).map (lkD os)))] := rfl
  rw [mm] at q1
  have gd : ∀ a b : D, gDk [0, 1] [.tp0] [a, b] [] = [a, b] := fun _ _ => rfl
  have il : insB 40 nF (.ins 40 [(32, zD os), (38, .tup ((usedL os bar ts).map (lkD os)))]) = true := rfl
  have iz := hz.ins
  have en := entries_ok ho.sps hz
  have el : (entsT os.length z).length ≤ 36 := entsT_len36 few
  obtain ⟨ρ', e, s5, s6, s7, rfl⟩ := loop_map (inj := lkD os) (h := gT 3 (gsC (gN 5) (gsC (gN 6) (gsC (gN 7) (gsN))))) (body := B_hand_tolls_1) (l := entsT os.length z) (ρ := [.v (madeD os ts), .v (.tup (bar.map nD)), .v (.lst ((usedL os bar ts).map (lkD os))), .v Z, .t [], .no, .no, .no, .no])
    (fun k ρ => ∃ s5 s6 s7, ρ = [.v (madeD os ts), .v (.tup (bar.map nD)), .v (.lst ((usedL os bar ts).map (lkD os))), .v Z, .t (rowsH os ((entsT os.length z).take k)), s5, s6, s7, .no]) ⟨_, _, _, rfl⟩ (by
      rintro k l ρ hk ⟨s5, s6, s7, rfl⟩
      refine ⟨[.v (madeD os ts), .v (.tup (bar.map nD)), .v (.lst ((usedL os bar ts).map (lkD os))), .v Z, .t (rowsH os ((entsT os.length z).take k)), .v (nD (nmI os l.1)), .v (nD (nmI os l.2.1)), .v (.int l.2.2), .no], rfl, ?_⟩
      have tk : (entsT os.length z).take (k + 1) = (entsT os.length z).take k ++ [l] := by rw [List.take_add_one, hk]; rfl
      have t2 : ∀ x y : D, gTup [x, y] = .ok (.tup [x, y]) := fun x y => if_pos (szle (by simp))
      have kt : keyT (.tup [nD (nmI os l.1), nD (nmI os l.2.1)]) = some (tkey os l.1 l.2.1) := rfl
      have rl : (rowsH os ((entsT os.length z).take k)).length < sizeLine := szlt (by
        have := rowsH_len (os := os) (es := (entsT os.length z).take k) (r := [])
        have h2 : ((entsT os.length z).take k).length ≤ 36 := Nat.le_trans (List.length_take_le' ..) el
        unfold rowsH
        simp only [List.length_nil] at this
        omega)
      have st : B_hand_tolls_1 [.v (madeD os ts), .v (.tup (bar.map nD)), .v (.lst ((usedL os bar ts).map (lkD os))), .v Z, .t (rowsH os ((entsT os.length z).take k)), .v (nD (nmI os l.1)), .v (nD (nmI os l.2.1)), .v (.int l.2.2), .no] = .nx [.v (madeD os ts), .v (.tup (bar.map nD)), .v (.lst ((usedL os bar ts).map (lkD os))), .v Z, .t (rowsH os ((entsT os.length z).take (k + 1))), .v (nD (nmI os l.1)), .v (nD (nmI os l.2.1)), .v (.int l.2.2), .no] := by
        rw [tk, rowsH_snoc]
        unfold B_hand_tolls_1 rowH
        simp_arith [sPutT_ap, ownT_succ, ownT_zero, t2, kt, rl]
      rw [st]
      exact ⟨_, _, _, rfl⟩)
  rw [List.take_length] at e
  have own : Sl.own (.t []) = true := rfl
  have u : (ts.filter fun l => decide (nmI os l.1 ∉ bar)) = usedL os bar ts := rfl
  rw [u] at lc
  unfold F_hand_tolls G_hand_tolls
  simp_arith [iDun_ap, i1, i2, R.tup, ln, lc, eMeth_ap, eFrz_ap, nMakeK_ap, g32, gd, r1, frzR_o, il, q1, ix, q2, iz, en, nDT_ap, own, e, frzS_t]
end Tk
namespace Tk
open PySem PySem.Spec L2 PyProof.Rows
variable {os bs : Bal}
theorem names4_ok (h : okNms os) (h4 : os.length ≤ 4) : F_check_names [.lst (os.map nD), .int 4] = .ok .non := by
  obtain ⟨ρ', e, s1, s2, rfl⟩ := loop_en (inj := nD) (h := gT 2 (gsC (gN 2) (gsC (gN 3) (gsN)))) (body := B_check_names_1) (l := os) (ρ := [.v (.lst (os.map nD)), .v (.int 4), .no, .no])
    (fun _ ρ => ∃ s1 s2 : Sl, ρ = [.v (.lst (os.map nD)), .v (.int 4), s1, s2]) ⟨_, _, rfl⟩ (by
      rintro i w ρ q ⟨s1, s2, rfl⟩
      refine ⟨[.v (.lst (os.map nD)), .v (.int 4), .v (.int (i : Int)), .v (nD w)], rfl, ?_⟩
      have nm := is_name_ok (h.each w (List.mem_of_getElem? q))
      have sd := gSl_lst (xs := os.map nD) (j := (i : Int)) (by omega)
      rw [Int.toNat_natCast, ← List.map_take] at sd
      have n2 : gInS false (nD w) (.lst ((os.take i).map nD)) = .ok (.bl false) := by
        rw [in_lst, decide_eq_false]
        exact nd_take h.nd q
      unfold B_check_names_1
      simp_arith [nm, sd, n2]
      exact ⟨_, _, rfl⟩)
  have c1 : decide ((1 : Int) ≤ (os.length : Int)) = true := decide_eq_true (by have := h.pos; omega)
  have c2 : decide ((os.length : Int) ≤ 4) = true := decide_eq_true (by omega)
  unfold F_check_names G_check_names
  simp_arith [List.length_map, c1, c2, optR_some, e]
theorem barredL_ok (nd : bs.Nodup) (sub : ∀ w ∈ bs, w ∈ os) (h4 : bs.length ≤ 4) : F_check_ballot [.lst (os.map nD), .lst (bs.map nD)] = .ok .non := by
  obtain ⟨ρ', e, s1, s2, rfl⟩ := loop_en (inj := nD) (h := gT 2 (gsC (gN 2) (gsC (gN 3) (gsN)))) (body := B_check_ballot_1) (l := bs) (ρ := [.v (.lst (os.map nD)), .v (.lst (bs.map nD)), .no, .no])
    (fun _ ρ => ∃ s1 s2 : Sl, ρ = [.v (.lst (os.map nD)), .v (.lst (bs.map nD)), s1, s2]) ⟨_, _, rfl⟩ (by
      rintro i w ρ q ⟨s1, s2, rfl⟩
      refine ⟨[.v (.lst (os.map nD)), .v (.lst (bs.map nD)), .v (.int (i : Int)), .v (nD w)], rfl, ?_⟩
      have n1 : gInS true (nD w) (.lst (os.map nD)) = .ok (.bl false) := by
        rw [nin_lst, decide_eq_true (sub w (List.mem_of_getElem? q))]
        rfl
      have sd := gSl_lst (xs := bs.map nD) (j := (i : Int)) (by omega)
      rw [Int.toNat_natCast, ← List.map_take] at sd
      have n2 : gInS false (nD w) (.lst ((bs.take i).map nD)) = .ok (.bl false) := by
        rw [in_lst, decide_eq_false]
        exact nd_take nd q
      unfold B_check_ballot_1
      simp_arith [n1, sd, n2]
      exact ⟨_, _, rfl⟩)
  unfold F_check_ballot G_check_ballot
  simp_arith [optR_some, e]
theorem range_ok {x lo hi : Int} (h1 : lo ≤ x) (h2 : x ≤ hi) : F_check_range [.int x, .int lo, .int hi] = .ok .non := by
  unfold F_check_range G_check_range
  simp_arith [decide_eq_true h1, decide_eq_true h2]
noncomputable def bIx (os bs : Bal) : List Nat := (List.range os.length).filter fun k => decide (nmI os k ∈ bs)
noncomputable def barL (os bs : Bal) : Bal := (bIx os bs).map (nmI os)
theorem bIx_lt {j : Nat} (m : j ∈ bIx os bs) : j < os.length := List.mem_range.mp (List.mem_filter.mp m).1
theorem barL_iff {w : List Nat} (h : w ∈ os) : w ∈ barL os bs ↔ w ∈ bs := by
  unfold barL bIx
  rw [List.mem_map]
  constructor
  · rintro ⟨k, m, rfl⟩
    exact of_decide_eq_true (List.mem_filter.mp m).2
  · intro m
    obtain ⟨k, hk, e⟩ := List.mem_iff_getElem.mp h
    have en : nmI os k = w := by unfold nmI; rw [List.getD_eq_getElem?_getD, List.getElem?_eq_getElem hk]; exact e
    exact ⟨k, List.mem_filter.mpr ⟨List.mem_range.mpr hk, decide_eq_true (by rw [en]; exact m)⟩, en⟩
theorem minP {ps : List Pr} : gMinD [.lst ((ps.filterMap id).map .int)] .non = .ok (prD (leastP ps)) := by
  show (match intsOf ((ps.filterMap id).map .int) with
    | some [] => .ok .non
    | some (n :: ns) => .ok (.int (ns.foldl min n))
    | none => .bad : R D) = _
  rw [ints_map]
  unfold leastP
  cases ps.filterMap id <;> rfl
theorem used_bar {ts : List Lk} (ok : okLks os.length ts) : usedL os (barL os bs) ts = usedL os bs ts := by
  unfold usedL
  refine List.filter_congr fun l m => ?_
  rw [decide_eq_decide, barL_iff (nmI_mem (ok l m).a)]
def btK (os : Bal) (p : Nat → Pr) (k : Nat) : List (Key × D) := (List.range k).map fun i => (keyW (nmI os i), prD (p i))
theorem btK_put (nd : os.Nodup) {p : Nat → Pr} {k : Nat} (hk : k < os.length) : putG (btK os p k) (keyW (nmI os k)) (prD (p k)) = btK os p (k + 1) := by
  have no : ((btK os p k).any fun kv => decide (kv.1 = keyW (nmI os k))) = false := by
    rw [List.any_eq_false]
    intro x m
    obtain ⟨i, mi, rfl⟩ := List.mem_map.mp m
    have hi := List.mem_range.mp mi
    simp only [decide_eq_true_eq]
    intro e
    have := nmI_inj nd (by omega) hk (S_inj (Sum.inr.inj e))
    omega
  unfold putG
  rw [if_neg (by rw [no]; exact Bool.false_ne_true)]
  unfold btK
  rw [List.range_succ, List.map_append]
  rfl
end Tk
namespace Tk
open PySem PySem.Spec L2 PyProof.Rows
structure PgR where
  nm : List Nat
  bd : List (List Nat × Int)
  fo : Bal
def bidD (p : List Nat × Int) : D := .tup [nD p.1, .int p.2]
def pgrD (r : PgR) : D := .tup [nD r.nm, .lst (r.bd.map bidD), .lst (r.fo.map nD)]
structure okBids (os : Bal) (bd : List (List Nat × Int)) : Prop where
  nd : (bd.map (·.1)).Nodup
  sub : ∀ p ∈ bd, p.1 ∈ os
  rg : ∀ p ∈ bd, 0 ≤ p.2 ∧ p.2 ≤ 1000000000
structure okPgs (os ts : Bal) (rs : List PgR) : Prop where
  nms : rs.map (·.nm) = ts
  bid : ∀ r ∈ rs, okBids os r.bd
  fnd : ∀ r ∈ rs, r.fo.Nodup
  fsub : ∀ r ∈ rs, ∀ w ∈ r.fo, w ∈ ts
variable {os ts : Bal} {bd : List (List Nat × Int)} {rs : List PgR}
theorem okBids.len (h : okBids os bd) : bd.length ≤ os.length := by
  have := sub_len h.nd (fun w m => by
    obtain ⟨p, mp, rfl⟩ := List.mem_map.mp m
    exact h.sub p mp)
  rwa [List.length_map] at this
theorem bids_ok (h : okBids os bd) (few : os.length ≤ 6) : F_are_bids [.lst (os.map nD), .lst (bd.map bidD)] = .ok (.bl true) := by
  have lb := h.len
  obtain ⟨ρ', e, s1, s2, rfl⟩ := loop_map (inj := bidD) (h := gT 2 (gsC (gN 3) (gsC (gN 4) (gsN)))) (body := B_are_bids_1) (l := bd) (ρ := [.v (.lst (os.map nD)), .v (.lst (bd.map bidD)), .l [], .no, .no])
    (fun k ρ => ∃ s1 s2 : Sl, ρ = [.v (.lst (os.map nD)), .v (.lst (bd.map bidD)), .l (((bd.map (·.1)).take k).map nD), s1, s2]) ⟨_, _, rfl⟩ (by
      rintro k p ρ q ⟨s1, s2, rfl⟩
      refine ⟨[.v (.lst (os.map nD)), .v (.lst (bd.map bidD)), .l (((bd.map (·.1)).take k).map nD), .v (nD p.1), .v (.int p.2)], rfl, ?_⟩
      have m := List.mem_of_getElem? q
      have q1 : (bd.map (·.1))[k]? = some p.1 := by rw [List.getElem?_map, q]; rfl
      have n1 : gInS true (nD p.1) (.lst (os.map nD)) = .ok (.bl false) := by
        rw [nin_lst, decide_eq_true (h.sub p m)]
        rfl
      have n2 : gInS false (nD p.1) (.lst (((bd.map (·.1)).take k).map nD)) = .ok (.bl false) := by
        rw [in_lst, decide_eq_false]
        exact nd_take h.nd q1
      have c1 := decide_eq_true (h.rg p m).1
      have c2 := decide_eq_true (h.rg p m).2
      have ll : (((bd.map (·.1)).take k).map nD).length < sizeLine := szlt (by
        rw [List.length_map, List.length_take, List.length_map]; omega)
      have tk : ((bd.map (·.1)).take k).map nD ++ [nD p.1] = ((bd.map (·.1)).take (k + 1)).map nD := by
        rw [List.take_add_one, q1, List.map_append]
        rfl
      unfold B_are_bids_1
      simp_arith [n1, n2, c1, c2, ll, tk]
      exact ⟨_, _, rfl⟩)
  unfold F_are_bids G_are_bids
  simp_arith [sz0, e]
theorem known_ok {fs : Bal} (nd : fs.Nodup) (sub : ∀ w ∈ fs, w ∈ ts) : F_are_known [.lst (fs.map nD), .lst (ts.map nD)] = .ok (.bl true) := by
  obtain ⟨ρ', e, s1, s2, rfl⟩ := loop_en (inj := nD) (h := gT 2 (gsC (gN 2) (gsC (gN 3) (gsN)))) (body := B_are_known_1) (l := fs) (ρ := [.v (.lst (fs.map nD)), .v (.lst (ts.map nD)), .no, .no])
    (fun _ ρ => ∃ s1 s2 : Sl, ρ = [.v (.lst (fs.map nD)), .v (.lst (ts.map nD)), s1, s2]) ⟨_, _, rfl⟩ (by
      rintro i w ρ q ⟨s1, s2, rfl⟩
      refine ⟨[.v (.lst (fs.map nD)), .v (.lst (ts.map nD)), .v (.int (i : Int)), .v (nD w)], rfl, ?_⟩
      have n1 : gInS true (nD w) (.lst (ts.map nD)) = .ok (.bl false) := by
        rw [nin_lst, decide_eq_true (sub w (List.mem_of_getElem? q))]
        rfl
      have sd := gSl_lst (xs := fs.map nD) (j := (i : Int)) (by omega)
      rw [Int.toNat_natCast, ← List.map_take] at sd
      have n2 : gInS false (nD w) (.lst ((fs.take i).map nD)) = .ok (.bl false) := by
        rw [in_lst, decide_eq_false]
        exact nd_take nd q
      unfold B_are_known_1
      simp_arith [n1, sd, n2]
      exact ⟨_, _, rfl⟩)
  unfold F_are_known G_are_known
  simp_arith [optR_some, e]
theorem heads_map : rs.map (fun r => nD r.nm) = (rs.map (·.nm)).map nD := by rw [List.map_map]; rfl
theorem okPgs.length (h : okPgs os ts rs) : rs.length = ts.length := by rw [← h.nms, List.length_map]
theorem checkBk_ok {st hm : Bal} (ho : okNms os) (o4 : os.length ≤ 4) (h : okPgs os ts rs) (ht : okNms ts) (t4 : ts.length ≤ 4) (sp : st ≠ []) (sn : st.Nodup) (ss : ∀ w ∈ st, w ∈ ts) (hn : hm.Nodup) (hs : ∀ w ∈ hm, w ∈ ts) :
    F_check_book [.lst (os.map nD), .lst (rs.map pgrD), .lst (st.map nD), .lst (hm.map nD)] = .ok .non := by
  have rl := h.length
  have n1 := names4_ok ho o4
  have c1 : decide ((1 : Int) ≤ (rs.length : Int)) = true := decide_eq_true (by have := ht.pos; omega)
  have c2 : decide ((rs.length : Int) ≤ 4) = true := decide_eq_true (by omega)
  have lz : (rs.map pgrD).length ≤ sizeLine := by rw [List.length_map]; exact szle (by omega)
  have lc : ∀ s0 s2 s3 s4 s5 s6 s7 s8 s9 : Sl, lcL (gN 10) tsY (e2 gIx (eV 10) (eC (.int 0))) [s0, .v (.lst (rs.map pgrD)), s2, s3, s4, s5, s6, s7, s8, s9, .no] (rs.map pgrD) = .ok (ts.map nD) := fun s0 s2 s3 s4 s5 s6 s7 s8 s9 => by
    have e := lc_map (inj := pgrD) (h := gN 10) (t := tsY) (fe := e2 gIx (eV 10) (eC (.int 0))) (ρ := [s0, .v (.lst (rs.map pgrD)), s2, s3, s4, s5, s6, s7, s8, s9, .no]) (fun _ => true) (fun r => nD r.nm) (l := rs) fun r m => ⟨[s0, .v (.lst (rs.map pgrD)), s2, s3, s4, s5, s6, s7, s8, s9, .v (pgrD r)], rfl, rfl, fun _ => by
      have g : gIx (pgrD r) (.int 0) = .ok (nD r.nm) := rfl
      simp_arith [g]⟩
    rw [List.filter_eq_self.mpr fun _ _ => rfl, heads_map, h.nms] at e
    exact e
  obtain ⟨ρ1, e1, s5, s6, s7, s8, rfl⟩ := loop_en (inj := pgrD) (h := gT 2 (gsC (gN 5) (gsC (gT 3 (gsC (gN 6) (gsC (gN 7) (gsC (gN 8) (gsN))))) (gsN)))) (body := B_check_book_1) (l := rs) (ρ := [.v (.lst (os.map nD)), .v (.lst (rs.map pgrD)), .v (.lst (st.map nD)), .v (.lst (hm.map nD)), .v (.lst (ts.map nD)), .no, .no, .no, .no, .no, .no])
    (fun _ ρ => ∃ s5 s6 s7 s8 : Sl, ρ = [.v (.lst (os.map nD)), .v (.lst (rs.map pgrD)), .v (.lst (st.map nD)), .v (.lst (hm.map nD)), .v (.lst (ts.map nD)), s5, s6, s7, s8, .no, .no]) ⟨_, _, _, _, rfl⟩ (by
      rintro i r ρ q ⟨s5, s6, s7, s8, rfl⟩
      refine ⟨[.v (.lst (os.map nD)), .v (.lst (rs.map pgrD)), .v (.lst (st.map nD)), .v (.lst (hm.map nD)), .v (.lst (ts.map nD)), .v (.int (i : Int)), .v (nD r.nm), .v (.lst (r.bd.map bidD)), .v (.lst (r.fo.map nD)), .no, .no], rfl, ?_⟩
      have m := List.mem_of_getElem? q
      have q1 : ts[i]? = some r.nm := by rw [← h.nms, List.getElem?_map, q]; rfl
      have nm := is_name_ok (ht.each r.nm (List.mem_of_getElem? q1))
      have sd := gSl_lst (xs := ts.map nD) (j := (i : Int)) (by omega)
      rw [Int.toNat_natCast, ← List.map_take] at sd
      have n2 : gInS false (nD r.nm) (.lst ((ts.take i).map nD)) = .ok (.bl false) := by
        rw [in_lst, decide_eq_false]
        exact nd_take ht.nd q1
      have b := bids_ok (h.bid r m) (by omega)
      unfold B_check_book_1
      simp_arith [nm, sd, n2, b]
      exact ⟨_, _, _, _, rfl⟩)
  obtain ⟨ρ2, e2, t5, t8, t9, rfl⟩ := loop_en (inj := pgrD) (h := gT 2 (gsC (gN 5) (gsC (gT 3 (gsC (gN 8) (gsC (gN 8) (gsC (gN 9) (gsN))))) (gsN)))) (body := B_check_book_2) (l := rs) (ρ := [.v (.lst (os.map nD)), .v (.lst (rs.map pgrD)), .v (.lst (st.map nD)), .v (.lst (hm.map nD)), .v (.lst (ts.map nD)), s5, s6, s7, s8, .no, .no])
    (fun _ ρ => ∃ s5 s8 s9 : Sl, ρ = [.v (.lst (os.map nD)), .v (.lst (rs.map pgrD)), .v (.lst (st.map nD)), .v (.lst (hm.map nD)), .v (.lst (ts.map nD)), s5, s6, s7, s8, s9, .no]) ⟨_, _, _, rfl⟩ (by
      rintro i r ρ q ⟨s5, s8, s9, rfl⟩
      refine ⟨[.v (.lst (os.map nD)), .v (.lst (rs.map pgrD)), .v (.lst (st.map nD)), .v (.lst (hm.map nD)), .v (.lst (ts.map nD)), .v (.int (i : Int)), s6, s7, .v (.lst (r.bd.map bidD)), .v (.lst (r.fo.map nD)), .no], rfl, ?_⟩
      have m := List.mem_of_getElem? q
      have b := known_ok (h.fnd r m) (h.fsub r m)
      unfold B_check_book_2
      simp_arith [b]
      exact ⟨_, _, _, rfl⟩)
  have k1 := known_ok sn ss
  have k2 := known_ok hn hs
  have s0 : decide (((st.length : Nat) : Int) = 0) = false := decide_eq_false (by
    have := List.length_pos_iff.mpr sp
    omega)
  unfold F_check_book G_check_book
  simp_arith [n1, List.length_map, c1, c2, szle (show rs.length ≤ 1000 by omega), lc, optR_some, e1, e2, s0, k1, k2]
end Tk
namespace Tk
open PySem PySem.Spec L2 PyProof.Rows
variable {os ts : Bal} {bd : List (List Nat × Int)} {rs : List PgR}
def ordM (os : Bal) (bd : List (List Nat × Int)) : List (List Nat × Int) := (os.filter fun m => (getG bd m).isSome).map fun m => (m, (getG bd m).getD 0)
def pgF (os hm : Bal) (r : PgR) : List (Nat × D) := [(14, nD r.nm), (45, .tup ((ordM os r.bd).map bidD)), (46, .tup ((ordM os r.bd).map fun p => nD p.1)), (47, .tup (r.fo.map nD)), (48, .bl (decide (r.nm ∈ hm)))]
def pgD (os hm : Bal) (r : PgR) : D := .ins 43 (pgF os hm r)
def bkF (os ts : Bal) (rs : List PgR) (st hm : Bal) : List (Nat × D) := [(30, .tup (os.map nD)), (32, .tup (ts.map nD)), (49, .tup (st.map nD)), (48, .tup ((ts.filter fun w => decide (w ∈ hm)).map nD)), (50, .tup (rs.map (pgD os hm))),
  (51, .tup (rs.map fun r => .tup [nD r.nm, .tup ((ordM os r.bd).map bidD), .tup (r.fo.map nD)]))]
theorem ordM_len : (ordM os bd).length ≤ os.length := by
  unfold ordM
  rw [List.length_map]
  exact List.length_filter_le _ _
def bdK (bd : List (List Nat × Int)) : List (Key × D) := bd.map fun p => (keyW p.1, D.int p.2)
theorem pairs_bd : ∀ {bd : List (List Nat × Int)}, pairsKV (bd.map bidD) = some (bdK bd)
  | [] => rfl
  | p :: bd => by
    have e : pairKV (bidD p) = some (keyW p.1, D.int p.2) := rfl
    rw [List.map_cons]
    unfold pairsKV
    rw [e, pairs_bd]
    rfl
theorem dict_bd (h : okBids os bd) : gDict [.lst (bd.map bidD)] = .ok (.dK (bdK bd)) := by
  show (optR (pairsKV (bd.map bidD))).bind _ = _
  rw [pairs_bd, optR_some, bind_ok]
  have nd : ((bdK bd).map (·.1)).Nodup := by
    unfold bdK
    rw [List.map_map]
    have : (bd.map ((fun x : Key × D => x.1) ∘ fun p => (keyW p.1, D.int p.2))) = (bd.map (·.1)).map keyW := by rw [List.map_map]; rfl
    rw [this]
    exact List.Pairwise.map keyW (fun a b n e => n (keyW_inj e)) h.nd
  rw [mergeG_new nd fun x _ m => by cases m]
  rfl
theorem bdK_get {m : List Nat} : getG (bdK bd) (keyW m) = (getG bd m).map .int := getG_map (f := keyW) (g := D.int) (fun _ _ => keyW_inj) m bd
theorem page_init {a : Addr} {nm : List Nat} {bs : List (List Nat × Int)} {fo : Bal} {h : Bool} (few : bs.length ≤ 6) : F_Page___init__ a [nD nm, .lst (bs.map bidD), .lst (fo.map nD), .bl h] =
    .ok [(14, nD nm), (45, .tup (bs.map bidD)), (46, .tup (bs.map fun p => nD p.1)), (47, .tup (fo.map nD)), (48, .bl h)] := by
  have st0 : startI a 43 7 [nD nm, .lst (bs.map bidD), .lst (fo.map nD), .bl h] = [.o (some a) 43 [], .v (nD nm), .v (.lst (bs.map bidD)), .v (.lst (fo.map nD)), .v (.bl h), .no, .no] := rfl
  have lz : (bs.map bidD).length ≤ sizeLine := by rw [List.length_map]; exact szle (by omega)
  have lc : ∀ s0 s1 s3 s4 : Sl, lcL (gT 2 (gsC (gN 5) (gsC (gN 6) (gsN)))) tsY (eV 5) [s0, s1, .v (.lst (bs.map bidD)), s3, s4, .no, .no] (bs.map bidD) = .ok (bs.map fun p => nD p.1) := fun s0 s1 s3 s4 =>
    lc_all (inj := bidD) (h := gT 2 (gsC (gN 5) (gsC (gN 6) (gsN)))) (t := tsY) (fe := eV 5) (ρ := [s0, s1, .v (.lst (bs.map bidD)), s3, s4, .no, .no]) (fun p => nD p.1) (l := bs) fun p m => ⟨[s0, s1, .v (.lst (bs.map bidD)), s3, s4, .v (nD p.1), .v (.int p.2)], rfl, rfl, rfl⟩
  have p14 : ∀ d : D, putN 14 d [] = [(14, d)] := fun _ => rfl
  have p45 : ∀ d1 d : D, putN 45 d [(14, d1)] = [(14, d1), (45, d)] := fun _ _ => rfl
  have p46 : ∀ d1 d2 d : D, putN 46 d [(14, d1), (45, d2)] = [(14, d1), (45, d2), (46, d)] := fun _ _ _ => rfl
  have p47 : ∀ d1 d2 d3 d : D, putN 47 d [(14, d1), (45, d2), (46, d3)] = [(14, d1), (45, d2), (46, d3), (47, d)] := fun _ _ _ _ => rfl
  have p48 : ∀ d1 d2 d3 d4 d : D, putN 48 d [(14, d1), (45, d2), (46, d3), (47, d4)] = [(14, d1), (45, d2), (46, d3), (47, d4), (48, d)] := fun _ _ _ _ _ => rfl
  unfold F_Page___init__ G_Page___init__
  rw [runI_ap, st0]
  simp_arith [sFldO_ap, ownO_zero, List.mem_singleton, Nat.reduceLT, p14, p45, p46, p47, p48, lz, lc, outI_nx]
theorem order_lc (h : okBids os bd) (few : os.length ≤ 6) {s0 s2 s3 s4 s5 s6 s7 s8 s10 s11 s13 : Sl} :
    lcL (gN 12) (tV (e2 (gInDi false) (eV 12) (eV 9))) (eA gTup (aC (eV 12) (aC (e2 gIxA (eV 9) (eV 12)) (aN)))) [s0, .v (.lst (os.map nD)), s2, s3, s4, s5, s6, s7, s8, .v (.dK (bdK bd)), s10, s11, .no, s13] (os.map nD) = .ok ((ordM os bd).map bidD) := by
  have e : (ordM os bd).map bidD = (os.filter fun m => (getG bd m).isSome).map fun m => bidD (m, (getG bd m).getD 0) := by unfold ordM; rw [List.map_map]; rfl
  rw [e]
  refine lc_map (inj := nD) (fun m => (getG bd m).isSome) (fun m => bidD (m, (getG bd m).getD 0)) fun m _ => ⟨[s0, .v (.lst (os.map nD)), s2, s3, s4, s5, s6, s7, s8, .v (.dK (bdK bd)), s10, s11, .v (nD m), s13], rfl, ?_, fun hs => ?_⟩
  · have g : gInDi false (nD m) (.dK (bdK bd)) = .ok (.bl (getG bd m).isSome) := by
      show R.ok (D.bl (getG (bdK bd) (keyW m)).isSome) = _
      rw [bdK_get]
      cases getG bd m <;> rfl
    simp_arith [g]
  · have g : gIxA (.dK (bdK bd)) (nD m) = .ok (.int ((getG bd m).getD 0)) := by
      show optR (getG (bdK bd) (keyW m)) = _
      rw [bdK_get]
      cases z : getG bd m with
      | none => rw [z] at hs; cases hs
      | some b => rfl
    have t2 : ∀ x y : D, gTup [x, y] = .ok (.tup [x, y]) := fun x y => if_pos (szle (by simp))
    simp_arith [g, t2]
    rfl
theorem made_loop {st hm : Bal} (h : okPgs os ts rs) (few : os.length ≤ 4) (t4 : ts.length ≤ 4) {s0 : Sl} {s6 s7 s8 s9 s10 s11 s12 s13 : Sl} (h0 : ∀ ρ : Ev, frzA (s0 :: ρ) = frzA (s0 :: ρ)) :
    ∃ t6 t7 t8 t9 t10 t11 t12 t13 : Sl, loop (gT 3 (gsC (gN 6) (gsC (gN 7) (gsC (gN 8) (gsN))))) B_Book___init___1 (rs.map pgrD) [s0, .v (.lst (os.map nD)), .v (.lst (rs.map pgrD)), .v (.lst (st.map nD)), .v (.lst (hm.map nD)), .l [], s6, s7, s8, s9, s10, s11, s12, s13] =
      .nx [s0, .v (.lst (os.map nD)), .v (.lst (rs.map pgrD)), .v (.lst (st.map nD)), .v (.lst (hm.map nD)), .l (rs.map (pgD os hm)), t6, t7, t8, t9, t10, t11, t12, t13] := by
  have rl := h.length
  obtain ⟨ρ', e, t6, t7, t8, t9, t10, t11, t12, t13, rfl⟩ := loop_map (inj := pgrD) (h := gT 3 (gsC (gN 6) (gsC (gN 7) (gsC (gN 8) (gsN))))) (body := B_Book___init___1) (l := rs) (ρ := [s0, .v (.lst (os.map nD)), .v (.lst (rs.map pgrD)), .v (.lst (st.map nD)), .v (.lst (hm.map nD)), .l [], s6, s7, s8, s9, s10, s11, s12, s13])
    (fun k ρ => ∃ t6 t7 t8 t9 t10 t11 t12 t13 : Sl, ρ = [s0, .v (.lst (os.map nD)), .v (.lst (rs.map pgrD)), .v (.lst (st.map nD)), .v (.lst (hm.map nD)), .l ((rs.take k).map (pgD os hm)), t6, t7, t8, t9, t10, t11, t12, t13]) ⟨_, _, _, _, _, _, _, _, rfl⟩ (by
      rintro k r ρ q ⟨t6, t7, t8, t9, t10, t11, t12, t13, rfl⟩
      refine ⟨[s0, .v (.lst (os.map nD)), .v (.lst (rs.map pgrD)), .v (.lst (st.map nD)), .v (.lst (hm.map nD)), .l ((rs.take k).map (pgD os hm)), .v (nD r.nm), .v (.lst (r.bd.map bidD)), .v (.lst (r.fo.map nD)), t9, t10, t11, t12, t13], rfl, ?_⟩
      have m := List.mem_of_getElem? q
      have d := dict_bd (h.bid r m)
      have lz : (os.map nD).length ≤ sizeLine := by rw [List.length_map]; exact szle (by omega)
      have lc := fun s0 s2 s3 s4 s5 s6 s7 s8 s10 s11 s13 => order_lc (h.bid r m) (by omega) (s0 := s0) (s2 := s2) (s3 := s3) (s4 := s4) (s5 := s5) (s6 := s6) (s7 := s7) (s8 := s8) (s10 := s10) (s11 := s11) (s13 := s13)
      have pg : (unA fun a => F_Page___init__ a [nD r.nm, .lst ((ordM os r.bd).map bidD), .lst (r.fo.map nD), .bl (decide (r.nm ∈ hm))]) = .ok (pgF os hm r) := unA_eq fun a => page_init (by have := ordM_len (os := os) (bd := r.bd); omega)
      have ni : gInS false (nD r.nm) (.lst (hm.map nD)) = .ok (.bl (decide (r.nm ∈ hm))) := in_lst
      have ll : ((rs.take k).map (pgD os hm)).length < sizeLine := szlt (by rw [List.length_map, List.length_take]; omega)
      have tk : (rs.take k).map (pgD os hm) ++ [.ins 43 (pgF os hm r)] = (rs.take (k + 1)).map (pgD os hm) := by
        rw [List.take_add_one, q, List.map_append]
        rfl
      have st : B_Book___init___1 [s0, .v (.lst (os.map nD)), .v (.lst (rs.map pgrD)), .v (.lst (st.map nD)), .v (.lst (hm.map nD)), .l ((rs.take k).map (pgD os hm)), .v (nD r.nm), .v (.lst (r.bd.map bidD)), .v (.lst (r.fo.map nD)), t9, t10, t11, t12, t13] =
          .nx [s0, .v (.lst (os.map nD)), .v (.lst (rs.map pgrD)), .v (.lst (st.map nD)), .v (.lst (hm.map nD)), .l ((rs.take (k + 1)).map (pgD os hm)), .v (nD r.nm), .v (.lst (r.bd.map bidD)), .v (.lst (r.fo.map nD)), .v (.dK (bdK r.bd)), .v (.lst ((ordM os r.bd).map bidD)), t11, t12, t13] := by
        unfold B_Book___init___1
        simp_arith [d, lz, lc, nMake_ap, eFrz_ap, ni, pg, frzR_o, ll, tk]
      rw [st]
      exact ⟨_, _, _, _, _, _, _, _, rfl⟩)
  rw [List.take_length] at e
  exact ⟨t6, t7, t8, t9, t10, t11, t12, t13, e⟩
theorem book_init {st hm : Bal} (ho : okNms os) (o4 : os.length ≤ 4) (h : okPgs os ts rs) (ht : okNms ts) (t4 : ts.length ≤ 4) (sp : st ≠ []) (sn : st.Nodup) (ss : ∀ w ∈ st, w ∈ ts) (hn : hm.Nodup) (hs : ∀ w ∈ hm, w ∈ ts) :
    (unA fun a => F_Book___init__ a [.lst (os.map nD), .lst (rs.map pgrD), .lst (st.map nD), .lst (hm.map nD)]) = .ok (bkF os ts rs st hm) := by
  have rl := h.length
  have ck := checkBk_ok ho o4 h ht t4 sp sn ss hn hs
  refine unA_eq fun a => ?_
  have st0 : startI a 44 14 [.lst (os.map nD), .lst (rs.map pgrD), .lst (st.map nD), .lst (hm.map nD)] = [.o (some a) 44 [], .v (.lst (os.map nD)), .v (.lst (rs.map pgrD)), .v (.lst (st.map nD)), .v (.lst (hm.map nD)), .no, .no, .no, .no, .no, .no, .no, .no, .no] := rfl
  have lz : (rs.map pgrD).length ≤ sizeLine := by rw [List.length_map]; exact szle (by omega)
  have lc1 : ∀ s0 s1 s3 s4 s5 s6 s7 s8 s9 s10 s12 s13 : Sl, lcL (gN 11) tsY (e2 gIx (eV 11) (eC (.int 0))) [s0, s1, .v (.lst (rs.map pgrD)), s3, s4, s5, s6, s7, s8, s9, s10, .no, s12, s13] (rs.map pgrD) = .ok (ts.map nD) := fun s0 s1 s3 s4 s5 s6 s7 s8 s9 s10 s12 s13 => by
    have e := lc_all (inj := pgrD) (h := gN 11) (t := tsY) (fe := e2 gIx (eV 11) (eC (.int 0))) (ρ := [s0, s1, .v (.lst (rs.map pgrD)), s3, s4, s5, s6, s7, s8, s9, s10, .no, s12, s13]) (fun r => nD r.nm) (l := rs) fun r m => ⟨[s0, s1, .v (.lst (rs.map pgrD)), s3, s4, s5, s6, s7, s8, s9, s10, .v (pgrD r), s12, s13], rfl, rfl, by
      have g : gIx (pgrD r) (.int 0) = .ok (nD r.nm) := rfl
      simp_arith [g]⟩
    rw [heads_map, h.nms] at e
    exact e
  have lc2 : ∀ s0 s1 s2 s3 s5 s7 s8 s9 s10 s11 s12 s13 : Sl, lcL (gN 6) (tV (e2 (gInS false) (eV 6) (eV 4))) (eV 6) [s0, s1, s2, s3, .v (.lst (hm.map nD)), s5, .no, s7, s8, s9, s10, s11, s12, s13] (ts.map nD) = .ok ((ts.filter fun w => decide (w ∈ hm)).map nD) := fun s0 s1 s2 s3 s5 s7 s8 s9 s10 s11 s12 s13 =>
    lc_map (inj := nD) (fun w => decide (w ∈ hm)) nD fun w _ => ⟨[s0, s1, s2, s3, .v (.lst (hm.map nD)), s5, .v (nD w), s7, s8, s9, s10, s11, s12, s13], rfl, by
      have ni : gInS false (nD w) (.lst (hm.map nD)) = .ok (.bl (decide (w ∈ hm))) := in_lst
      simp_arith [ni], fun _ => rfl⟩
  obtain ⟨t6, t7, t8, t9, t10, t11, t12, t13, ml⟩ := made_loop (st := st) (hm := hm) h o4 t4 (s0 := .o (some a) 44 [(30, .tup (os.map nD)), (32, .tup (ts.map nD)), (49, .tup (st.map nD)), (48, .tup ((ts.filter fun w => decide (w ∈ hm)).map nD))]) (s6 := .no) (s7 := .no) (s8 := .no) (s9 := .no) (s10 := .no) (s11 := .no) (s12 := .no) (s13 := .no) (fun _ => rfl)
  have lm : (rs.map (pgD os hm)).length ≤ sizeLine := by rw [List.length_map]; exact szle (by omega)
  have t3 : ∀ x y z : D, gTup [x, y, z] = .ok (.tup [x, y, z]) := fun x y z => if_pos (szle (by simp))
  have lc3 : ∀ s0 s1 s2 s3 s4 s6 s7 s8 s9 s10 s11 s12 : Sl, lcL (gN 13) tsY (eA gTup (aC (e1 (gFld [43] 14) (eV 13)) (aC (e1 (gFld [43] 45) (eV 13)) (aC (e1 (gFld [43] 47) (eV 13)) (aN))))) [s0, s1, s2, s3, s4, .v (.lst (rs.map (pgD os hm))), s6, s7, s8, s9, s10, s11, s12, .no] (rs.map (pgD os hm)) =
      .ok (rs.map fun r => .tup [nD r.nm, .tup ((ordM os r.bd).map bidD), .tup (r.fo.map nD)]) := fun s0 s1 s2 s3 s4 s6 s7 s8 s9 s10 s11 s12 =>
    lc_all (inj := pgD os hm) (fun r => .tup [nD r.nm, .tup ((ordM os r.bd).map bidD), .tup (r.fo.map nD)]) (l := rs) fun r m => ⟨[s0, s1, s2, s3, s4, .v (.lst (rs.map (pgD os hm))), s6, s7, s8, s9, s10, s11, s12, .v (pgD os hm r)], rfl, rfl, by
      have g1 : gFld [43] 14 (pgD os hm r) = .ok (nD r.nm) := rfl
      have g2 : gFld [43] 45 (pgD os hm r) = .ok (.tup ((ordM os r.bd).map bidD)) := rfl
      have g3 : gFld [43] 47 (pgD os hm r) = .ok (.tup (r.fo.map nD)) := rfl
      simp_arith [g1, g2, g3, t3]⟩
  have p30 : ∀ d : D, putN 30 d [] = [(30, d)] := fun _ => rfl
  have p32 : ∀ d1 d : D, putN 32 d [(30, d1)] = [(30, d1), (32, d)] := fun _ _ => rfl
  have p49 : ∀ d1 d2 d : D, putN 49 d [(30, d1), (32, d2)] = [(30, d1), (32, d2), (49, d)] := fun _ _ _ => rfl
  have p48 : ∀ d1 d2 d3 d : D, putN 48 d [(30, d1), (32, d2), (49, d3)] = [(30, d1), (32, d2), (49, d3), (48, d)] := fun _ _ _ _ => rfl
  have p50 : ∀ d1 d2 d3 d4 d : D, putN 50 d [(30, d1), (32, d2), (49, d3), (48, d4)] = [(30, d1), (32, d2), (49, d3), (48, d4), (50, d)] := fun _ _ _ _ _ => rfl
  have p51 : ∀ d1 d2 d3 d4 d5 d : D, putN 51 d [(30, d1), (32, d2), (49, d3), (48, d4), (50, d5)] = [(30, d1), (32, d2), (49, d3), (48, d4), (50, d5), (51, d)] := fun _ _ _ _ _ _ => rfl
  have l32 : ∀ d1 d2 d3 : D, optR (List.lookup 32 [(30, d1), (32, d2), (49, d3)]) = .ok d2 := fun _ _ _ => rfl
  have lt : (ts.map nD).length ≤ sizeLine := by rw [List.length_map]; exact szle (by omega)
  unfold F_Book___init__ G_Book___init__
  rw [runI_ap, st0]
  simp_arith [ck, sFldO_ap, ownO_zero, List.mem_singleton, Nat.reduceLT, p30, p32, p49, p48, p50, p51, l32, eFldO_ap, lz, lc1, lt, lc2, sz0, ml, lm, lc3, outI_nx]
  rfl
end Tk
namespace Tk
open PySem PySem.Spec L2 PyProof.Rows
theorem slotT_tr {g : Option Addr} {c : Nat} {fs : List (Nat × OT)} {ρ : Ev} : slotT (.tr (.o g c fs) :: ρ) 0 = .ok (g, c, fs) := (rfl)
theorem slotT_o {g : Option Addr} {c : Nat} {fs : List (Nat × D)} {ρ : Ev} : slotT (.o g c fs :: ρ) 0 = .ok (g, c, lfF fs) := (rfl)
theorem eFldT_ap {cs : List Nat} {i f : Nat} {ρ : Ev} : eFldT cs i f ρ = (slotT ρ i).bind fun q => if q.2.1 ∈ cs then dataT (q.2.2.lookup f) else .bad := (rfl)
theorem sPutFK_ap {cs : List Nat} {i f : Nat} {fi fe : Ev → R D} {ρ : Ev} : sPutFK cs i f fi fe ρ = SO.from ρ (fe ρ) fun d => SO.from ρ (slotT ρ i) fun q => if q.2.1 ∈ cs then SO.from ρ (dictT (q.2.2.lookup f)) fun kvs => SO.from ρ (fi ρ) fun kd => match keyD kd with
  | some k => if kvs.length < sizeLine then .nx (ρ.set i (.tr (.o q.1 q.2.1 (putT f (.k (lfK (putG kvs k d))) q.2.2)))) else .bad
  | none => .bad
  else .bad := (rfl)
theorem sFldN_ap {cs : List Nat} {i f : Nat} {fe : Ev → R Sl} {ρ : Ev} : sFldN cs i f fe ρ = SO.from ρ (fe ρ) fun s => match toT s with
  | some t => SO.from ρ (slotT ρ i) fun q => if q.2.1 ∈ cs ∧ q.2.2.length < 1000 ∧ (q.2.2.lookup f).isNone = true then .nx (ρ.set i (.tr (.o q.1 q.2.1 (q.2.2 ++ [(f, t)])))) else .bad
  | none => .bad := (rfl)
theorem sSealA_nx {i : Nat} {g : Ev → SO} {ρ ρ1 : Ev} (h : g ρ = .nx ρ1) : sSealA i g ρ = .nx (sealE i ρ1) := by unfold sSealA; rw [h]
theorem nDK_ap {ρ : Ev} : nDK ρ = .ok (.k []) := (rfl)
theorem frzTF_lf : ∀ {fs : List (Nat × D)} {r : List (Nat × OT)}, frzTF (lfF fs ++ r) = fs ++ frzTF r
  | [], r => rfl
  | (k, d) :: fs, r => by
    show (k, d) :: frzTF (lfF fs ++ r) = (k, d) :: (fs ++ frzTF r)
    rw [frzTF_lf]
theorem frzTK_lf : ∀ {kvs : List (Key × D)}, frzTK (lfK kvs) = kvs
  | [] => rfl
  | (k, d) :: r => by
    show (k, d) :: frzTK (lfK r) = (k, d) :: r
    rw [frzTK_lf]
def trS (a : Addr) (c : Nat) (F : List (Nat × D)) (kvs : List (Key × D)) : Sl := .tr (.o (some a) c (lfF F ++ [(70, .k (lfK kvs))]))
variable {os bs : Bal} {ts : List Lk} {z : Tab} {rows : List (List Key × D)} {lim : Pr} {dep fee st : Int} {nm : List Nat}
noncomputable def rlF (nm : List Nat) (os bs : Bal) (ts : List Lk) (lim : Pr) (dep fee st : Int) (rows : List (List Key × D)) : List (Nat × D) :=
  [(14, nD nm), (30, .tup (os.map nD)), (64, prD lim), (65, .tup ((barL os bs).map nD)), (38, madeD os ts), (66, .int dep), (67, .int fee), (68, .int st), (69, .dT rows)]
noncomputable def barT (os bs : Bal) (z : Tab) : Nat → Pr := fun i => toBar os bs (z i)
theorem bar_lc {ρ : Ev} {fo : Ev → R D} {l : List Nat} {i : Nat} (hl : ∀ j ∈ l, j < os.length) (hi : i < os.length) (hz : HasT os rows z) {r1 : D → Ev} {s0 : Ev → Ev}
    (h1 : ∀ d, gN 13 d ρ = some (r1 d)) (h2 : ∀ d, eV 13 (r1 d) = .ok d) (h3 : ∀ d, eV 11 (r1 d) = .ok (nD (nmI os i))) (h4 : ∀ d, fo (r1 d) = .ok (.dT rows)) :
    lcL (gN 13) (tV (e2 (gInDi false) (eA gTup (aC (eV 11) (aC (eV 13) (aN)))) fo)) (e2 gIxA fo (eA gTup (aC (eV 11) (aC (eV 13) (aN))))) ρ (l.map fun j => nD (nmI os j)) = .ok (((l.map (z i)).filterMap id).map .int) := by
  have t2 : ∀ x y : D, gTup [x, y] = .ok (.tup [x, y]) := fun x y => if_pos (szle (by simp))
  rw [lc_map (inj := fun j => nD (nmI os j)) (fun j => (z i j).isSome) (fun j => D.int ((z i j).getD 0)) fun j m => ⟨r1 (nD (nmI os j)), h1 _, by
    have g : gInDi false (.tup [nD (nmI os i), nD (nmI os j)]) (.dT rows) = .ok (.bl (z i j).isSome) := by
      show (R.ok (D.bl (getG rows (tkey os i j)).isSome) : R D) = _
      rw [hz.at_ hi (hl j m)]
      cases z i j <;> rfl
    simp_arith [h2, h3, h4, t2, g], fun q => by
    have g : gIxA (.dT rows) (.tup [nD (nmI os i), nD (nmI os j)]) = .ok (.int ((z i j).getD 0)) := by
      show optR (getG rows (tkey os i j)) = _
      rw [hz.at_ hi (hl j m)]
      cases h : z i j with
      | none => rw [h] at q; cases q
      | some c => rfl
    simp_arith [h2, h3, h4, t2, g]⟩]
  congr 1
  clear hl
  induction l with
  | nil => rfl
  | cons j l ih =>
    cases h : z i j with
    | none =>
      rw [List.filter_cons_of_neg (by rw [h]; simp), List.map_cons, h]
      exact ih
    | some c =>
      rw [List.filter_cons_of_pos (by rw [h]; rfl), List.map_cons, List.map_cons, h]
      show _ :: _ = _ :: _
      rw [ih]
      rfl
end Tk
namespace Tk
open PySem PySem.Spec L2 PyProof.Rows
variable {os bs : Bal} {ts : List Lk} {z : Tab} {rows : List (List Key × D)} {lim : Pr} {dep fee st : Int} {nm : List Nat}
theorem turn_bloop {a : Addr} (nd : os.Nodup) (few : os.length ≤ 6) (hz : HasT os rows z) {s1 s2 s3 s4 s5 s6 s7 s8 s9 s10 s11 s12 s13 : Sl} :
    ∃ t11 t12 t13, loop (gN 11) B_TurnRule_Rule___init___2 (os.map nD) [trS a 54 (rlF nm os bs ts lim dep fee st rows) [], s1, s2, s3, s4, s5, s6, s7, s8, s9, s10, s11, s12, s13] =
      .nx [trS a 54 (rlF nm os bs ts lim dep fee st rows) (btK os (barT os bs z) os.length), s1, s2, s3, s4, s5, s6, s7, s8, s9, s10, t11, t12, t13] := by
  have er : loop (gN 11) B_TurnRule_Rule___init___2 (os.map nD) = loop (gN 11) B_TurnRule_Rule___init___2 ((List.range os.length).map fun j => nD (nmI os j)) := congrArg (fun l => loop (gN 11) B_TurnRule_Rule___init___2 l) os_rng
  rw [er]
  obtain ⟨ρ', e, b, c, d, rfl⟩ := loop_map (inj := fun j => nD (nmI os j)) (h := gN 11) (body := B_TurnRule_Rule___init___2) (l := List.range os.length) (ρ := [trS a 54 (rlF nm os bs ts lim dep fee st rows) [], s1, s2, s3, s4, s5, s6, s7, s8, s9, s10, s11, s12, s13])
    (fun k ρ => ∃ s11 s12 s13, ρ = [trS a 54 (rlF nm os bs ts lim dep fee st rows) (btK os (barT os bs z) k), s1, s2, s3, s4, s5, s6, s7, s8, s9, s10, s11, s12, s13]) ⟨_, _, _, rfl⟩ (by
      rintro k j ρ hk ⟨s11, s12, s13, rfl⟩
      have hkn : k < os.length := by
        have := (List.getElem?_eq_some_iff.mp hk).1
        rwa [List.length_range] at this
      obtain rfl : k = j := by
        rw [List.getElem?_range hkn] at hk
        exact Option.some.inj hk
      refine ⟨[trS a 54 (rlF nm os bs ts lim dep fee st rows) (btK os (barT os bs z) k), s1, s2, s3, s4, s5, s6, s7, s8, s9, s10, .v (nD (nmI os k)), s12, s13], rfl, ?_⟩
      have c65 : ∀ kvs : List (Key × D), dataT (List.lookup 65 (lfF (rlF nm os bs ts lim dep fee st rows) ++ [(70, OT.k (lfK kvs))])) = .ok (.tup ((barL os bs).map nD)) := fun _ => rfl
      have c69 : ∀ kvs : List (Key × D), dataT (List.lookup 69 (lfF (rlF nm os bs ts lim dep fee st rows) ++ [(70, OT.k (lfK kvs))])) = .ok (.dT rows) := fun _ => rfl
      have c70 : ∀ kvs : List (Key × D), dictT (List.lookup 70 (lfF (rlF nm os bs ts lim dep fee st rows) ++ [(70, OT.k (lfK kvs))])) = .ok kvs := fun kvs => by
        show optR (unK (lfK kvs)) = _
        rw [unK_lf]
        rfl
      have cp : ∀ kvs kvs' : List (Key × D), putT 70 (OT.k (lfK kvs')) (lfF (rlF nm os bs ts lim dep fee st rows) ++ [(70, OT.k (lfK kvs))]) = lfF (rlF nm os bs ts lim dep fee st rows) ++ [(70, OT.k (lfK kvs'))] := fun _ _ => rfl
      have bm : (barL os bs).map nD = (bIx os bs).map fun j => nD (nmI os j) := by unfold barL; rw [List.map_map]; rfl
      have lb : ((barL os bs).map nD).length ≤ sizeLine := by
        rw [bm, List.length_map]
        refine szle ?_
        have := List.length_filter_le (fun k => decide (nmI os k ∈ bs)) (List.range os.length)
        rw [List.length_range] at this
        unfold bIx
        omega
      have lc : lcL (gN 13) (tV (e2 (gInDi false) (eA gTup (aC (eV 11) (aC (eV 13) (aN)))) (eFldT [54] 0 69))) (e2 gIxA (eFldT [54] 0 69) (eA gTup (aC (eV 11) (aC (eV 13) (aN))))) [trS a 54 (rlF nm os bs ts lim dep fee st rows) (btK os (barT os bs z) k), s1, s2, s3, s4, s5, s6, s7, s8, s9, s10, .v (nD (nmI os k)), s12, .no] ((barL os bs).map nD) = .ok ((((bIx os bs).map (z k)).filterMap id).map .int) := by
        rw [bm]
        refine bar_lc (fun j m => bIx_lt m) hkn hz (r1 := fun d => [trS a 54 (rlF nm os bs ts lim dep fee st rows) (btK os (barT os bs z) k), s1, s2, s3, s4, s5, s6, s7, s8, s9, s10, .v (nD (nmI os k)), s12, .v d]) (s0 := id) (fun _ => rfl) (fun _ => rfl) (fun _ => rfl) fun d => ?_
        rw [eFldT_ap]
        unfold trS
        rw [slotT_tr, bind_ok, if_pos (List.mem_singleton.mpr rfl)]
        exact c69 _
      have gm := minP (ps := (bIx os bs).map (z k))
      have bt : leastP ((bIx os bs).map (z k)) = barT os bs z k := rfl
      have kl : (btK os (barT os bs z) k).length < sizeLine := szlt (by unfold btK; rw [List.length_map, List.length_range]; omega)
      have kd : keyD (nD (nmI os k)) = some (keyW (nmI os k)) := rfl
      have st : B_TurnRule_Rule___init___2 [trS a 54 (rlF nm os bs ts lim dep fee st rows) (btK os (barT os bs z) k), s1, s2, s3, s4, s5, s6, s7, s8, s9, s10, .v (nD (nmI os k)), s12, s13] = .nx [trS a 54 (rlF nm os bs ts lim dep fee st rows) (btK os (barT os bs z) (k + 1)), s1, s2, s3, s4, s5, s6, s7, s8, s9, s10, .v (nD (nmI os k)), .v (.lst ((((bIx os bs).map (z k)).filterMap id).map .int)), s13] := by
        rw [← btK_put nd hkn]
        unfold B_TurnRule_Rule___init___2
        unfold trS at lc ⊢
        simp_arith [eFldT_ap, slotT_tr, List.mem_singleton, c65, lb, lc, sPutFK_ap, eMinD_ap, gm, bt, c70, kd, kl, cp]
      rw [st]
      exact ⟨_, _, _, rfl⟩)
  rw [List.length_range] at e
  exact ⟨b, c, d, e⟩
structure okRl (nm : List Nat) (os bs : Bal) (ts : List Lk) (lim : Pr) (dep fee st : Int) : Prop where
  hn : okName nm
  ho : okNms os
  hf : os.length ≤ 4
  hd : bs.Nodup
  hs : ∀ w ∈ bs, w ∈ os
  ht : okLks os.length ts
  hl : ts.length ≤ 12
  hm : ∀ x, lim = some x → 0 ≤ x ∧ x ≤ 3
  h1 : 0 ≤ dep ∧ dep ≤ 1000000000
  h2 : 0 ≤ fee ∧ fee ≤ 1000000000
  h3 : 0 ≤ st ∧ st ≤ 1000000000
noncomputable def rlG (nm : List Nat) (os bs : Bal) (ts : List Lk) (lim : Pr) (dep fee st : Int) (rows : List (List Key × D)) (z : Tab) : List (Nat × D) := rlF nm os bs ts lim dep fee st rows ++ [(70, .dK (btK os (barT os bs z) os.length))]
theorem turn_base (h : okRl nm os bs ts lim dep fee st) : ∃ z rows, IsC os.length (entP (usedL os bs ts)) z ∧ (∀ i j c, z i j = some c → 0 ≤ c) ∧ HasT os rows z ∧
    ∀ a, F_TurnRule_Rule___init__ a [nD nm, .lst (os.map nD), prD lim, .lst (bs.map nD), .lst (ts.map (lkD os)), .int dep, .int fee, .int st] = .ok (rlG nm os bs ts lim dep fee st rows z) := by
  obtain ⟨z, hc, lo, rows, hh, hz⟩ := handT_ok (bar := barL os bs) h.ho h.ht h.hl
  rw [used_bar h.ht] at hc
  refine ⟨z, rows, hc, lo, hz, fun a => ?_⟩
  have few := h.hf
  have n1 := is_name_ok h.hn
  have n2 := names4_ok h.ho h.hf
  have bl : bs.length ≤ 4 := Nat.le_trans (sub_len h.hd h.hs) h.hf
  have n3 := barredL_ok h.hd h.hs bl
  have lk := unA_eq fun a => lkinit_ok (a := a) h.ho h.ht h.hl
  have gd : ∀ a b : D, gDk [0, 1] [.tp0] [a, b] [] = [a, b] := fun _ _ => rfl
  have mm : D.ins 40 [(32, zD os), (38, .tup (ts.map (lkD os)))] = madeD os ts := rfl
  have r1 := range_ok h.h1.1 h.h1.2
  have r2 := range_ok h.h2.1 h.h2.2
  have r3 := range_ok h.h3.1 h.h3.2
  have st0 : startI a 54 14 [nD nm, .lst (os.map nD), prD lim, .lst (bs.map nD), .lst (ts.map (lkD os)), .int dep, .int fee, .int st] = [.o (some a) 54 [], .v (nD nm), .v (.lst (os.map nD)), .v (prD lim), .v (.lst (bs.map nD)), .v (.lst (ts.map (lkD os))), .v (.int dep), .v (.int fee), .v (.int st), .no, .no, .no, .no, .no] := rfl
  -- the limit
  have lm : ∀ ρ : Ev, eV 3 ρ = .ok (prD lim) → sIf (tV (e2 gNotN (eV 3) (eC .non))) (sDrop (eCall 3 F_check_range (aC (eV 3) (aC (eC (.int 0)) (aC (eC (.int 3)) (aN)))))) (sN) ρ = .nx ρ := fun ρ e => by
    cases lim with
    | none => simp_arith [e, show isNon (prD none) = true from rfl]
    | some x =>
      have r := range_ok (h.hm x rfl).1 (h.hm x rfl).2
      rw [show prD (some x) = D.int x from rfl] at e
      simp_arith [e, isNon_int, r]
  -- the numbers
  have nl : ∀ s0 s1 s2 s3 s4 s5 s6 s7 s8 s9 s10 s11 s12 s13 : Sl, loop (gN 10) B_TurnRule_Rule___init___1 [.int dep, .int fee, .int st] [s0, s1, s2, s3, s4, s5, s6, s7, s8, s9, s10, s11, s12, s13] = .nx [s0, s1, s2, s3, s4, s5, s6, s7, s8, s9, .v (.int st), s11, s12, s13] := fun s0 s1 s2 s3 s4 s5 s6 s7 s8 s9 s10 s11 s12 s13 => by
    unfold B_TurnRule_Rule___init___1
    simp_arith [loop_cons, r1, r2, r3]
  -- the barred ones
  have lb : ∀ s0 s1 s3 s5 s6 s7 s8 s9 s10 s12 s13 : Sl, lcL (gN 11) (tV (e2 (gInS false) (eV 11) (eV 4))) (eV 11) [s0, s1, .v (.lst (os.map nD)), s3, .v (.lst (bs.map nD)), s5, s6, s7, s8, s9, s10, .no, s12, s13] (os.map nD) = .ok ((barL os bs).map nD) := fun s0 s1 s3 s5 s6 s7 s8 s9 s10 s12 s13 => by
    have e : (barL os bs).map nD = ((List.range os.length).filter fun j => decide (nmI os j ∈ bs)).map fun j => nD (nmI os j) := by unfold barL bIx; rw [List.map_map]; rfl
    rw [e]
    conv => lhs; arg 5; rw [os_rng]
    refine lc_map (inj := fun j => nD (nmI os j)) (fun j => decide (nmI os j ∈ bs)) (fun j => nD (nmI os j)) fun j m => ⟨[s0, s1, .v (.lst (os.map nD)), s3, .v (.lst (bs.map nD)), s5, s6, s7, s8, s9, s10, .v (nD (nmI os j)), s12, s13], rfl, ?_, fun _ => rfl⟩
    have ni : gInS false (nD (nmI os j)) (.lst (bs.map nD)) = .ok (.bl (decide (nmI os j ∈ bs))) := in_lst
    simp_arith [ni]
  have ol : (os.map nD).length ≤ sizeLine := by rw [List.length_map]; exact szle (by omega)
  have p14 : ∀ d : D, putN 14 d [] = [(14, d)] := fun _ => rfl
  have p30 : ∀ d1 d : D, putN 30 d [(14, d1)] = [(14, d1), (30, d)] := fun _ _ => rfl
  have p64 : ∀ d1 d2 d : D, putN 64 d [(14, d1), (30, d2)] = [(14, d1), (30, d2), (64, d)] := fun _ _ _ => rfl
  have p65 : ∀ d1 d2 d3 d : D, putN 65 d [(14, d1), (30, d2), (64, d3)] = [(14, d1), (30, d2), (64, d3), (65, d)] := fun _ _ _ _ => rfl
  have p38 : ∀ d1 d2 d3 d4 d : D, putN 38 d [(14, d1), (30, d2), (64, d3), (65, d4)] = [(14, d1), (30, d2), (64, d3), (65, d4), (38, d)] := fun _ _ _ _ _ => rfl
  have p66 : ∀ d1 d2 d3 d4 d5 d : D, putN 66 d [(14, d1), (30, d2), (64, d3), (65, d4), (38, d5)] = [(14, d1), (30, d2), (64, d3), (65, d4), (38, d5), (66, d)] := fun _ _ _ _ _ _ => rfl
  have p67 : ∀ d1 d2 d3 d4 d5 d6 d : D, putN 67 d [(14, d1), (30, d2), (64, d3), (65, d4), (38, d5), (66, d6)] = [(14, d1), (30, d2), (64, d3), (65, d4), (38, d5), (66, d6), (67, d)] := fun _ _ _ _ _ _ _ => rfl
  have p68 : ∀ d1 d2 d3 d4 d5 d6 d7 d : D, putN 68 d [(14, d1), (30, d2), (64, d3), (65, d4), (38, d5), (66, d6), (67, d7)] = [(14, d1), (30, d2), (64, d3), (65, d4), (38, d5), (66, d6), (67, d7), (68, d)] := fun _ _ _ _ _ _ _ _ => rfl
  have p69 : ∀ d1 d2 d3 d4 d5 d6 d7 d8 d : D, putN 69 d [(14, d1), (30, d2), (64, d3), (65, d4), (38, d5), (66, d6), (67, d7), (68, d8)] = [(14, d1), (30, d2), (64, d3), (65, d4), (38, d5), (66, d6), (67, d7), (68, d8), (69, d)] := fun _ _ _ _ _ _ _ _ _ => rfl
  have l65 : ∀ d1 d2 d3 d4 d5 d6 d7 d8 : D, optR (List.lookup 65 [(14, d1), (30, d2), (64, d3), (65, d4), (38, d5), (66, d6), (67, d7), (68, d8)]) = .ok d4 := fun _ _ _ _ _ _ _ _ => rfl
  obtain ⟨t11, t12, t13, bl⟩ := turn_bloop (nm := nm) (bs := bs) (ts := ts) (lim := lim) (dep := dep) (fee := fee) (st := st) (a := a) (s1 := .v (nD nm)) (s2 := .v (.lst (os.map nD))) (s3 := .v (prD lim)) (s4 := .v (.lst (bs.map nD))) (s5 := .v (.lst (ts.map (lkD os)))) (s6 := .v (.int dep)) (s7 := .v (.int fee)) (s8 := .v (.int st)) (s9 := .v (madeD os ts)) (s10 := .v (.int st)) (s11 := .no) (s12 := .no) (s13 := .no) h.ho.nd (by omega) hz
  have se := sSealA_nx (i := 0) (g := sFor (iSq (eV 2)) (gN 11) B_TurnRule_Rule___init___2) (ρ := [trS a 54 (rlF nm os bs ts lim dep fee st rows) [], .v (nD nm), .v (.lst (os.map nD)), .v (prD lim), .v (.lst (bs.map nD)), .v (.lst (ts.map (lkD os))), .v (.int dep), .v (.int fee), .v (.int st), .v (madeD os ts), .v (.int st), .no, .no, .no]) (by simp_arith [bl]; rfl)
  have en : sealE 0 [trS a 54 (rlF nm os bs ts lim dep fee st rows) (btK os (barT os bs z) os.length), .v (nD nm), .v (.lst (os.map nD)), .v (prD lim), .v (.lst (bs.map nD)), .v (.lst (ts.map (lkD os))), .v (.int dep), .v (.int fee), .v (.int st), .v (madeD os ts), .v (.int st), t11, t12, t13] = [.o (some a) 54 (rlG nm os bs ts lim dep fee st rows z), .v (nD nm), .v (.lst (os.map nD)), .v (prD lim), .v (.lst (bs.map nD)), .v (.lst (ts.map (lkD os))), .v (.int dep), .v (.int fee), .v (.int st), .v (madeD os ts), .v (.int st), t11, t12, t13] := by
    show (Sl.o (some a) 54 (frzTF (lfF (rlF nm os bs ts lim dep fee st rows) ++ [(70, .k (lfK (btK os (barT os bs z) os.length)))])) :: _ : Ev) = _
    rw [frzTF_lf]
    show (Sl.o (some a) 54 (rlF nm os bs ts lim dep fee st rows ++ [(70, .dK (frzTK (lfK (btK os (barT os bs z) os.length))))]) :: _ : Ev) = _
    rw [frzTK_lf]
    rfl
  rw [en] at se
  have tk : toT (.k []) = some (.k (lfK [])) := rfl
  have cn : ∀ d1 d2 d3 d4 d5 d6 d7 d8 d9 : D, (List.lookup 70 (lfF [(14, d1), (30, d2), (64, d3), (65, d4), (38, d5), (66, d6), (67, d7), (68, d8), (69, d9)])).isNone = true := fun _ _ _ _ _ _ _ _ _ => rfl
  have cl : ∀ d1 d2 d3 d4 d5 d6 d7 d8 d9 : D, (lfF [(14, d1), (30, d2), (64, d3), (65, d4), (38, d5), (66, d6), (67, d7), (68, d8), (69, d9)]).length < 1000 := fun _ _ _ _ _ _ _ _ _ => by unfold lfF; simp
  have fin : (sSealA 0 (sFor (iSq (eV 2)) (gN 11) B_TurnRule_Rule___init___2) [trS a 54 (rlF nm os bs ts lim dep fee st rows) [], .v (nD nm), .v (.lst (os.map nD)), .v (prD lim), .v (.lst (bs.map nD)), .v (.lst (ts.map (lkD os))), .v (.int dep), .v (.int fee), .v (.int st), .v (madeD os ts), .v (.int st), .no, .no, .no]).outI a 54 = .ok (rlG nm os bs ts lim dep fee st rows z) := by
    rw [se]
    exact outI_nx
  unfold F_TurnRule_Rule___init__ G_TurnRule_Rule___init__
  cases lim with
  | none =>
    have i0 : isNon (prD none) = true := rfl
    simp_arith [runI_ap, st0, n1, n2, i0, n3, nMakeK_ap, eFrz_ap, gd, lk, frzR_o, mm, gTup3, nl, sFldO_ap, Nat.reduceLT, ownO_zero, List.mem_singleton, p14, p30, p64, ol, lb, p65, p38, p66, p67, p68, eFldO_ap, l65, hh, p69, sFldN_ap, nDK_ap, tk, slotT_o, cn, cl]
    exact fin
  | some x =>
    have i0 : isNon (prD (some x)) = false := rfl
    have rx : F_check_range [prD (some x), .int 0, .int 3] = .ok .non := range_ok (h.hm x rfl).1 (h.hm x rfl).2
    simp_arith [runI_ap, st0, n1, n2, i0, rx, n3, nMakeK_ap, eFrz_ap, gd, lk, frzR_o, mm, gTup3, nl, sFldO_ap, Nat.reduceLT, ownO_zero, List.mem_singleton, p14, p30, p64, ol, lb, p65, p38, p66, p67, p68, eFldO_ap, l65, hh, p69, sFldN_ap, nDK_ap, tk, slotT_o, cn, cl]
    exact fin
end Tk
namespace Tk
open PySem PySem.Spec L2 PyProof.Rows
variable {os bs : Bal} {ts : List Lk} {z : Tab} {rows : List (List Key × D)} {lim : Pr} {dep fee st : Int} {nm : List Nat}
theorem supK_o {a : Addr} {c n m p : Nat} {F : Addr → List D → R (List (Nat × D))} {gD : List D → List D → List D} {ρ : Ev} {ds zs : List D} : supK c n m p F gD (.o (some a) c [] :: ρ) ds zs = if c = c ∧ ds.length = n ∧ zs.length = m ∧ (gD ds zs).length + 1 = p then (match F a (gD ds zs) with | .ok fs => .nx ((.o (some a) c [] :: ρ : Ev).set 0 (.o (some a) c fs)) | .exc x => .ex x ((.o (some a) c [] :: ρ : Ev).set 0 .no) | .bad => .bad) else .bad := (rfl)
theorem sSup_ap {c n m p : Nat} {F : Addr → List D → R (List (Nat × D))} {gD : List D → List D → List D} {fa fk : Ev → R (List D)} {ρ : Ev} : sSup c n m p F gD fa fk ρ = SO.from ρ (fa ρ) fun ds => SO.from ρ (fk ρ) fun zs => supK c n m p F gD ρ ds zs := (rfl)
theorem turn_init (h : okRl nm os bs ts lim dep fee st) : ∃ z rows, IsC os.length (entP (usedL os bs ts)) z ∧ (∀ i j c, z i j = some c → 0 ≤ c) ∧ HasT os rows z ∧
    (unA fun a => F_TurnRule___init__ a [nD nm, .lst (os.map nD), prD lim, .lst (bs.map nD), .lst (ts.map (lkD os)), .int dep, .int fee, .int st]) = .ok (rlG nm os bs ts lim dep fee st rows z) := by
  obtain ⟨z, rows, hc, lo, hz, e⟩ := turn_base h
  refine ⟨z, rows, hc, lo, hz, unA_eq fun a => ?_⟩
  have st0 : startI a 54 10 ([nD nm, .lst (os.map nD), prD lim, .lst (bs.map nD), .lst (ts.map (lkD os)), .int dep, .int fee, .int st] ++ [.cl 54]) = [.o (some a) 54 [], .v (nD nm), .v (.lst (os.map nD)), .v (prD lim), .v (.lst (bs.map nD)), .v (.lst (ts.map (lkD os))), .v (.int dep), .v (.int fee), .v (.int st), .v (.cl 54)] := rfl
  have gk : ∀ a b c d e f g i : D, gDk [0, 1, 2, 3, 4, 5, 6, 7] [] [a, b] [c, d, e, f, g, i] = [a, b, c, d, e, f, g, i] := fun _ _ _ _ _ _ _ _ => rfl
  unfold F_TurnRule___init__ runS
  rw [st0]
  unfold S_TurnRule___init__ G_TurnRule___init__
  simp_arith [sSup_ap, supK_o, gk, e a, outI_nx]
end Tk
namespace Tk
open PySem PySem.Spec L2 PyProof.Rows
section
variable {b : Ev → SO} {hs : List Hn} {ρ ρ' : Ev} {x : Ex} {c : Nat} {fs : List Nat} {fa : Ev → R (List D)} {cs : List Nat} {i f : Nat} {s : Sl} {fb : Ev → R D} {tab : List (Nat × List (Kd × Bool))}
end
end Tk
namespace Tk
open PySem PySem.Spec L2 PyProof.Rows
variable {os bs : Bal} {ts : List Lk} {z : Tab} {rows : List (List Key × D)} {lim : Pr} {dep fee st : Int} {nm : List Nat}
structure Rul (c : Nat) (os bs : Bal) (z : Tab) (rows : List (List Key × D)) (X : D) : Prop where
  ib : insB c nF X = true
  f30 : gFld [c] 30 X = .ok (.tup (os.map nD))
  f65 : gFld [c] 65 X = .ok (.tup ((barL os bs).map nD))
  f69 : gFld [c] 69 X = .ok (.dT rows)
  f70 : gFld [c] 70 X = .ok (.dK (btK os (barT os bs z) os.length))
theorem turn_rul : Rul 54 os bs z rows (.ins 54 (rlG nm os bs ts lim dep fee st rows z)) := ⟨rfl, rfl, rfl, rfl, rfl⟩
end Tk
namespace Tk
open PySem PySem.Spec L2 PyProof.Rows
variable {os ts bs : Bal} {bd : List (List Nat × Int)} {rs : List PgR} {z : Tab} {rows : List (List Key × D)}
theorem clean_lstB {α : Type} {inj : α → D} {n : Nat} {l : List α} (h : ∀ a ∈ l, cleanD n (inj a) = true) : cleanD (n + 1) (.lst (l.map inj)) = true := by
  show cleanL n (l.map inj) = true
  rw [cleanL_all]
  intro d m
  obtain ⟨b, m2, rfl⟩ := List.mem_map.mp m
  exact h b m2
theorem ne_nil_mapB {α : Type} {inj : α → D} {n : Nat} (hn : n < 64) {l : List α} (h : ∀ a ∈ l, cleanD n (inj a) = true) : gNe (.lst (l.map inj)) (.lst []) = .ok (.bl (decide (l ≠ []))) := by
  have e := gEq_clean (n := n + 1) (m := 1) (a := .lst (l.map inj)) (b := .lst []) (by omega) (by decide) (clean_lstB h) rfl
  by_cases z : l = []
  · rw [gNe_def, e.1 (by rw [z]; rfl), decide_eq_false (fun y => y z)]; rfl
  · rw [gNe_def, e.2 (fun q => z (by simpa using q)), decide_eq_true z]; rfl
theorem loop_fndB {α : Type} {inj : α → D} {h : Tg} {body : Ev → SO} (I : Ev → Prop) (p : α → Bool) (g : α → D) : ∀ {l : List α} {ρ : Ev}, I ρ → (∀ a ∈ l, ∀ ρ, I ρ → ∃ ρ1, h (inj a) ρ = some ρ1 ∧ (p a = true → body ρ1 = .rt (g a)) ∧ (p a = false → ∃ ρ2, body ρ1 = .nx ρ2 ∧ I ρ2)) →
    (∃ a, l.find? p = some a ∧ loop h body (l.map inj) ρ = .rt (g a)) ∨ (l.find? p = none ∧ ∃ ρ', loop h body (l.map inj) ρ = .nx ρ' ∧ I ρ')
  | [], ρ, h0, _ => .inr ⟨rfl, ρ, rfl, h0⟩
  | a :: l, ρ, h0, hs => by
    obtain ⟨ρ1, e1, e2, e3⟩ := hs a List.mem_cons_self ρ h0
    rw [List.map_cons, loop_cons, e1, ofO_some]
    cases z : p a with
    | true =>
      left
      exact ⟨a, by rw [List.find?_cons, z], by rw [e2 z]; rfl⟩
    | false =>
      obtain ⟨ρ2, e4, h2⟩ := e3 z
      rw [List.find?_cons, z, e4]
      exact loop_fndB I p g h2 fun b m => hs b (List.mem_cons_of_mem _ m)
theorem find_uniq : ∀ {rs : List PgR}, (rs.map (·.nm)).Nodup → ∀ {r : PgR}, r ∈ rs → rs.find? (fun x => decide (x.nm = r.nm)) = some r
  | [], _, r, m => by cases m
  | x :: rs, nd, r, m => by
    rw [List.map_cons, List.nodup_cons] at nd
    rw [List.find?_cons]
    by_cases e : x.nm = r.nm
    · rw [decide_eq_true e]
      rcases List.mem_cons.mp m with h | h
      · rw [h]
      · exact (nd.1 (e ▸ List.mem_map.mpr ⟨r, h, rfl⟩)).elim
    · rw [decide_eq_false e]
      rcases List.mem_cons.mp m with h | h
      · exact (e (by rw [h])).elim
      · exact find_uniq nd.2 h
theorem dS {a b : List Nat} : decide (S a = S b) = decide (a = b) := decide_eq_decide.mpr ⟨S_inj, fun e => by rw [e]⟩
theorem bk50 {st hm : Bal} : gFld [44] 50 (.ins 44 (bkF os ts rs st hm)) = .ok (.tup (rs.map (pgD os hm))) := rfl
theorem bk_ib {st hm : Bal} : insB 44 nF (.ins 44 (bkF os ts rs st hm)) = true := (rfl)
theorem book_page {st hm : Bal} (nd : (rs.map (·.nm)).Nodup) {r : PgR} (m : r ∈ rs) : F_Book_page [.ins 44 (bkF os ts rs st hm), nD r.nm] = .ok (pgD os hm r) := by
  have h := loop_fndB (inj := pgD os hm) (h := gN 2) (body := B_Book_page_1) (fun ρ => ∃ s2, ρ = [.v (.ins 44 (bkF os ts rs st hm)), .v (nD r.nm), s2]) (fun x => decide (x.nm = r.nm)) (pgD os hm) (l := rs) (ρ := [.v (.ins 44 (bkF os ts rs st hm)), .v (nD r.nm), .no]) ⟨_, rfl⟩ (by
    rintro x mx ρ ⟨s2, rfl⟩
    have g1 : gFld [43] 14 (pgD os hm x) = .ok (nD x.nm) := rfl
    refine ⟨[.v (.ins 44 (bkF os ts rs st hm)), .v (nD r.nm), .v (pgD os hm x)], rfl, fun e => ?_, fun e => ⟨[.v (.ins 44 (bkF os ts rs st hm)), .v (nD r.nm), .v (pgD os hm x)], ?_, _, rfl⟩⟩
    · unfold B_Book_page_1
      simp_arith [g1, dS, e]
    · unfold B_Book_page_1
      simp_arith [g1, dS, e])
  rw [find_uniq nd m] at h
  rcases h with ⟨a, e, l⟩ | ⟨e, _⟩
  · cases e
    unfold F_Book_page G_Book_page
    simp_arith [bk50, l]
  · cases e
def freeL (os : Bal) (bd : List (List Nat × Int)) (bs : Bal) : Bal := os.filter fun m => decide (m ∈ bd.map (·.1)) && !decide (m ∈ bs)
theorem getG_isSome {m : List Nat} : (getG bd m).isSome = decide (m ∈ bd.map (·.1)) := by
  by_cases h : m ∈ bd.map (·.1)
  · rw [decide_eq_true h]
    obtain ⟨p, mp, rfl⟩ := List.mem_map.mp h
    unfold getG
    rw [Option.isSome_map, List.find?_isSome]
    exact ⟨p, mp, decide_eq_true rfl⟩
  · rw [decide_eq_false h, getG_none h]
    rfl
theorem ordM_names : (ordM os bd).map (fun p => nD p.1) = (os.filter fun m => decide (m ∈ bd.map (·.1))).map nD := by
  unfold ordM
  rw [List.map_map]
  simp only [getG_isSome]
  rfl
theorem free_len : (freeL os bd bs).length ≤ os.length := List.length_filter_le _ _
theorem turn_cand {X : D} {hm : Bal} {r : PgR} (h : Rul 54 os bs z rows X) (few : os.length ≤ 4) : F_TurnRule_candidates [X, pgD os hm r] = .ok (.tup ((freeL os r.bd bs).map nD)) := by
  have g46 : gFld [43] 46 (pgD os hm r) = .ok (.tup ((os.filter fun m => decide (m ∈ r.bd.map (·.1))).map nD)) := by
    rw [← ordM_names]
    rfl
  have lz : (os.map nD).length ≤ sizeLine := by rw [List.length_map]; exact szle (by omega)
  have lc : lcL (gN 2) (tAnd (tV (e2 (gInS false) (eV 2) (e1 (gFld [43] 46) (eV 1)))) (tV (e2 (gInS true) (eV 2) (e1 (gFld [54] 65) (eV 0))))) (eV 2) [.v X, .v (pgD os hm r), .no] (os.map nD) = .ok ((freeL os r.bd bs).map nD) := by
    refine lc_map (inj := nD) (h := gN 2) (t := tAnd (tV (e2 (gInS false) (eV 2) (e1 (gFld [43] 46) (eV 1)))) (tV (e2 (gInS true) (eV 2) (e1 (gFld [54] 65) (eV 0))))) (fe := eV 2) (ρ := [.v X, .v (pgD os hm r), .no]) (fun m => decide (m ∈ r.bd.map (·.1)) && !decide (m ∈ bs)) nD fun m mm => ⟨[.v X, .v (pgD os hm r), .v (nD m)], rfl, ?_, fun _ => by simp_arith []⟩
    have n1 : gInS false (nD m) (.tup ((os.filter fun m => decide (m ∈ r.bd.map (·.1))).map nD)) = .ok (.bl (decide (m ∈ r.bd.map (·.1)))) := by
      rw [in_tup, decide_eq_decide.mpr]
      constructor
      · intro q
        exact of_decide_eq_true (List.mem_filter.mp q).2
      · intro q
        exact List.mem_filter.mpr ⟨mm, decide_eq_true q⟩
    have n2 : gInS true (nD m) (.tup ((barL os bs).map nD)) = .ok (.bl (!decide (m ∈ bs))) := by
      rw [nin_tup, decide_eq_decide.mpr (barL_iff mm)]
    cases q : decide (m ∈ r.bd.map (·.1)) with
    | true =>
      rw [q] at n1
      simp_arith [g46, n1, h.f65, n2]
      rfl
    | false =>
      rw [q] at n1
      simp_arith [g46, n1]
      rfl
  unfold F_TurnRule_candidates G_TurnRule_candidates
  simp_arith [h.f30, lz, lc]
theorem law_free {r : PgR} {xs : Bal} (ho : okNms os) (o4 : os.length ≤ 4) (hb : okBids os r.bd) : F__law_free [pgrD r, .lst (os.map nD), .lst (xs.map nD)] = .ok (.lst ((freeL os r.bd xs).map nD)) := by
  have lb := hb.len
  obtain ⟨ρ', e, s4, s5, s6, s7, rfl⟩ := loop_map (inj := nD) (h := gN 4) (body := B__law_free_1) (l := os) (ρ := [.v (pgrD r), .v (.lst (os.map nD)), .v (.lst (xs.map nD)), .l [], .no, .no, .no, .no])
    (fun k ρ => ∃ s4 s5 s6 s7 : Sl, ρ = [.v (pgrD r), .v (.lst (os.map nD)), .v (.lst (xs.map nD)), .l ((freeL (os.take k) r.bd xs).map nD), s4, s5, s6, s7]) ⟨_, _, _, _, rfl⟩ (by
      rintro k w ρ q ⟨s4, s5, s6, s7, rfl⟩
      refine ⟨[.v (pgrD r), .v (.lst (os.map nD)), .v (.lst (xs.map nD)), .l ((freeL (os.take k) r.bd xs).map nD), .v (nD w), s5, s6, s7], rfl, ?_⟩
      have g1 : gIx (pgrD r) (.int 1) = .ok (.lst (r.bd.map bidD)) := rfl
      have lz : (r.bd.map bidD).length ≤ sizeLine := by rw [List.length_map]; exact szle (by omega)
      have lc : ∀ s0 s1 s2 s3 s5 : Sl, lcL (gT 2 (gsC (gN 6) (gsC (gN 7) (gsN)))) (tV (e2 gEq (eV 6) (eV 4))) (eV 6) [s0, s1, s2, s3, .v (nD w), s5, .no, .no] (r.bd.map bidD) = .ok ((r.bd.filter fun p => decide (p.1 = w)).map fun p => nD p.1) := fun s0 s1 s2 s3 s5 =>
        lc_map (inj := bidD) (fun p => decide (p.1 = w)) (fun p => nD p.1) fun p mp => ⟨[s0, s1, s2, s3, .v (nD w), s5, .v (nD p.1), .v (.int p.2)], rfl, by simp_arith [dS], fun _ => by simp_arith []⟩
      have ne : gNe (.lst ((r.bd.filter fun p => decide (p.1 = w)).map fun p => nD p.1)) (.lst []) = .ok (.bl (decide (w ∈ r.bd.map (·.1)))) := by
        rw [ne_nil_mapB (inj := fun p : List Nat × Int => nD p.1) (n := 0) (by decide) (fun p mp => by simpa [cleanD] using (show PyData.strOk (S p.1) = true from S_ok fun c q => by have := ((ho.each _ (hb.sub p (List.mem_filter.mp mp).1)).2.2 c q).2; omega)), decide_eq_decide.mpr]
        constructor
        · intro h
          obtain ⟨p, mp⟩ := List.exists_mem_of_ne_nil _ h
          obtain ⟨m1, m2⟩ := List.mem_filter.mp mp
          exact List.mem_map.mpr ⟨p, m1, of_decide_eq_true m2⟩
        · intro h e
          obtain ⟨p, m1, m2⟩ := List.mem_map.mp h
          have : p ∈ r.bd.filter fun p => decide (p.1 = w) := List.mem_filter.mpr ⟨m1, decide_eq_true m2⟩
          rw [e] at this
          cases this
      have ne2 : gEq (.lst ((r.bd.filter fun p => decide (p.1 = w)).map fun p => nD p.1)) (.lst []) = .ok (.bl (!decide (w ∈ r.bd.map (·.1)))) := by
        rw [gNe_def] at ne
        cases q : gEq (.lst ((r.bd.filter fun p => decide (p.1 = w)).map fun p => nD p.1)) (.lst []) with
        | ok d =>
          rw [q] at ne
          cases d with
          | bl b => cases b <;> (injection ne with ne; injection ne with ne; rw [← ne]; rfl)
          | _ => cases ne
        | exc x => rw [q] at ne; cases ne
        | bad => rw [q] at ne; cases ne
      have gl0 : gLst [] = .ok (.lst []) := rfl
      have n2 : gInS true (nD w) (.lst (xs.map nD)) = .ok (.bl (!decide (w ∈ xs))) := nin_lst
      have ll : ((freeL (os.take k) r.bd xs).map nD).length < sizeLine := szlt (by
        have := free_len (os := os.take k) (bd := r.bd) (bs := xs)
        rw [List.length_map]
        rw [List.length_take] at this
        omega)
      have tk : freeL (os.take (k + 1)) r.bd xs = freeL (os.take k) r.bd xs ++ (if decide (w ∈ r.bd.map (·.1)) && !decide (w ∈ xs) then [w] else []) := by
        unfold freeL
        rw [List.take_add_one, q, List.filter_append, Option.toList_some]
        congr 1
        rw [List.filter_cons, List.filter_nil]
      cases c1 : decide (w ∈ r.bd.map (·.1)) with
      | false =>
        rw [c1] at ne2 tk
        rw [tk, Bool.false_and, if_neg Bool.false_ne_true, List.append_nil]
        unfold B__law_free_1
        simp_arith [g1, lz, lc, gl0, ne2]
        exact ⟨_, _, _, _, rfl⟩
      | true =>
        rw [c1] at ne2 tk
        cases c2 : decide (w ∈ xs) with
        | true =>
          rw [c2] at n2 tk
          rw [tk, Bool.not_true, Bool.and_false, if_neg Bool.false_ne_true, List.append_nil]
          unfold B__law_free_1
          simp_arith [g1, lz, lc, gl0, ne2, n2]
          exact ⟨_, _, _, _, rfl⟩
        | false =>
          rw [c2] at n2 tk
          rw [tk, Bool.not_false, Bool.and_true, if_pos rfl, List.map_append]
          unfold B__law_free_1
          simp_arith [g1, lz, lc, gl0, ne2, n2, ll]
          exact ⟨_, _, _, _, rfl⟩)
  rw [List.take_length] at e
  unfold F__law_free G__law_free
  simp_arith [sz0, e]
theorem free_same {xs : Bal} (h : ∀ w ∈ os, w ∈ xs ↔ w ∈ bs) : freeL os bd xs = freeL os bd bs := by
  unfold freeL
  refine List.filter_congr fun w m => ?_
  rw [decide_eq_decide.mpr (h w m)]
end Tk
namespace Tk
open PySem PySem.Spec L2 PyProof.Rows
theorem er_map {α β : Type} (f : α → β) : ∀ (l : List α) (i : Nat), (l.map f).eraseIdx i = (l.eraseIdx i).map f
  | [], _ => rfl
  | _ :: _, 0 => rfl
  | a :: l, i + 1 => by
    show f a :: (l.map f).eraseIdx i = f a :: (l.eraseIdx i).map f
    rw [er_map f l i]
theorem er_perm {α : Type} : ∀ {l : List α} {i : Nat} {a : α}, l[i]? = some a → (a :: l.eraseIdx i).Perm l
  | [], _, _, h => by simp at h
  | b :: l, 0, a, h => by
    have e : b = a := by simpa using h
    subst e
    exact List.Perm.refl _
  | b :: l, i + 1, a, h => by
    rw [List.getElem?_cons_succ] at h
    exact (List.Perm.swap _ _ _).trans (List.Perm.cons b (er_perm h))
theorem four_at (a b c d : Int) {k : Nat} (h : k < 4) : ∃ y : Int, (y = a ∨ y = b ∨ y = c ∨ y = d) ∧ gIx (.lst [.int a, .int b, .int c, .int d]) (.int (k : Int)) = .ok (.int y) := by
  have : k = 0 ∨ k = 1 ∨ k = 2 ∨ k = 3 := by omega
  rcases this with rfl | rfl | rfl | rfl
  · exact ⟨a, .inl rfl, rfl⟩
  · exact ⟨b, .inr (.inl rfl), rfl⟩
  · exact ⟨c, .inr (.inr (.inl rfl)), rfl⟩
  · exact ⟨d, .inr (.inr (.inr rfl)), rfl⟩
theorem shuffled_ok {ps : List Int} {spot : Int} {ws : List (List Nat)} (h0 : 0 ≤ spot) (h1 : spot < ps.length) (hl : ws.length ≤ 4) : ∃ ts : List (List Nat), ts.Perm ws ∧ F__law_shuffled [.lst (ps.map .int), .int spot, .lst (ws.map nD)] = .ok (.lst (ts.map nD)) := by
  obtain ⟨ρ', e, s, left, taken, hp, l1, l2, rfl⟩ := loop_rg (h := gN 5) (body := B__law_shuffled_1) (lo := 0) (n := ws.length) (ρ := [.v (.lst (ps.map .int)), .v (.int spot), .v (.lst (ws.map nD)), .l (ws.map nD), .l [], .no])
    (fun i ρ => ∃ (s : Sl) (left taken : List (List Nat)), (taken ++ left).Perm ws ∧ left.length + i = ws.length ∧ taken.length = i ∧ ρ = [.v (.lst (ps.map .int)), .v (.int spot), .v (.lst (ws.map nD)), .l (left.map nD), .l (taken.map nD), s]) ⟨_, ws, [], by simp, rfl, rfl, rfl⟩ (by
      rintro k ρ hk ⟨s, left, taken, hp, l1, l2, rfl⟩
      refine ⟨[.v (.lst (ps.map .int)), .v (.int spot), .v (.lst (ws.map nD)), .l (left.map nD), .l (taken.map nD), .v (.int (k : Int))], by rw [Int.zero_add]; rfl, ?_⟩
      obtain ⟨u, hu, ue⟩ := four_at 1 4 12 24 (k := k) (by omega)
      obtain ⟨v, hv, ve⟩ := four_at 4 3 2 1 (k := k) (by omega)
      have p := part_ok (ps := ps) (spot := spot) (under := u) (size := v) h0 h1 (by omega) (by omega) (by omega)
      generalize part ps spot u v = q at *
      have lp : 0 < left.length := by omega
      have m0 : 0 ≤ q % (left.length : Int) := Int.emod_nonneg _ (by omega)
      have m1 : q % (left.length : Int) < (left.length : Int) := Int.emod_lt_of_pos _ (by omega)
      have md : gMod (.int q) (.int (left.length : Int)) = .ok (.int (q % (left.length : Int))) := gMod_int (by omega)
      have lt : (q % (left.length : Int)).toNat < left.length := by omega
      generalize q % (left.length : Int) = m at *
      have gl1 : gLst [.int 1, .int 4, .int 12, .int 24] = .ok (.lst [.int 1, .int 4, .int 12, .int 24]) := rfl
      have gl2 : gLst [.int 4, .int 3, .int 2, .int 1] = .ok (.lst [.int 4, .int 3, .int 2, .int 1]) := rfl
      have ll : (left.map nD).length = left.length := List.length_map _
      have sc : ∀ z : Int, scalD (.int z) = true := fun _ => rfl
      have ge : (left.map nD)[m.toNat]? = some (nD left[m.toNat]) := by rw [List.getElem?_map, List.getElem?_eq_getElem lt]; rfl
      have cond : 0 ≤ m ∧ m < 9223372036854775808 ∧ (taken.map nD).length < sizeLine := ⟨m0, by omega, by rw [List.length_map, sz24]; omega⟩
      have st : B__law_shuffled_1 [.v (.lst (ps.map .int)), .v (.int spot), .v (.lst (ws.map nD)), .l (left.map nD), .l (taken.map nD), .v (.int (k : Int))] = .nx [.v (.lst (ps.map .int)), .v (.int spot), .v (.lst (ws.map nD)), .l ((left.eraseIdx m.toNat).map nD), .l ((taken ++ [left[m.toNat]]).map nD), .v (.int (k : Int))] := by
        unfold B__law_shuffled_1 sAppPop
        simp only [ownL_succ, ownL_zero, from_ok, eBor_ap, frzA_cons, frzA_nil, frzS_v, frzS_l, e2_ap, eA_ap, aC_ap, aN_ap, eC_ap, eCall_ap, eV_succ, eV_zero, bind_ok, gl1, gl2, ue, ve, List.length_cons, List.length_nil, Nat.zero_add, Nat.reduceAdd, if_true, p, gLen_lst, ll, md, quiet_ok, sc, if_pos cond, ge, List.set_cons_succ, List.set_cons_zero]
        rw [List.map_append, ← er_map]
        rfl
      rw [st]
      refine ⟨_, left.eraseIdx m.toNat, taken ++ [left[m.toNat]], ?_, ?_, by rw [List.length_append, l2]; rfl, rfl⟩
      · have pe : (left[m.toNat] :: left.eraseIdx m.toNat).Perm left := er_perm (List.getElem?_eq_getElem lt)
        rw [List.append_assoc]
        exact ((List.Perm.append_left taken pe).trans (List.Perm.refl _)).trans hp
      · rw [List.length_eraseIdx, if_pos lt]
        omega)
  have le : left = [] := List.length_eq_zero_iff.mp (by omega)
  rw [le, List.append_nil] at hp
  have sm : small62 (ws.length : Int) := small_rg (by omega) (by omega)
  have ll : (ws.map nD).length = ws.length := List.length_map _
  have z0 : (0 : Nat) ≤ sizeLine := Nat.zero_le _
  refine ⟨taken, hp, ?_⟩
  unfold F__law_shuffled G__law_shuffled
  simp only [runF_ap, show startE 6 [.lst (ps.map .int), .int spot, .lst (ws.map nD)] = [.v (.lst (ps.map .int)), .v (.int spot), .v (.lst (ws.map nD)), .no, .no, .no] from rfl, sSq_ap, sOwn_ap, lList_ap, lDisp_ap, sFor_ap, iR1_ap, sFrz_ap, sRet_ap, eA_ap, aC_ap, aN_ap, eV_zero, eV_succ, bind_ok, List.length_nil, z0, if_true, from_ok, sq_nx, List.set_cons_succ, List.set_cons_zero, gLen_lst, ll, sm, Int.toNat_natCast, e, frzE_succ, frzE_zero, frzS_l, out_rt]
end Tk
namespace Tk
open PySem PySem.Spec L2 PyProof.Rows
theorem pow_at {k : Nat} (h : k < 4) : ∃ y : Int, 0 < y ∧ y < 18446744073709551616 ∧ gIx (.lst (([1, 2, 4, 8] : List Int).map .int)) (.int (k : Int)) = .ok (.int y) := by
  have : k = 0 ∨ k = 1 ∨ k = 2 ∨ k = 3 := by omega
  rcases this with rfl | rfl | rfl | rfl
  · exact ⟨1, by decide, by decide, rfl⟩
  · exact ⟨2, by decide, by decide, rfl⟩
  · exact ⟨4, by decide, by decide, rfl⟩
  · exact ⟨8, by decide, by decide, rfl⟩
theorem gIx_name {ws : List (List Nat)} {k : Nat} {w : List Nat} (h : ws[k]? = some w) : gIx (.lst (ws.map nD)) (.int (k : Int)) = .ok (nD w) := gIx_map (inj := nD) (by omega) (by rw [Int.toNat_natCast]; exact h)
theorem some_ok {ps : List Int} {spot : Int} {ws : List (List Nat)} (h0 : 0 ≤ spot) (h1 : spot < ps.length) (hl : ws.length ≤ 4) : ∃ cs : List (List Nat), cs.Sublist ws ∧ F__law_some [.lst (ps.map .int), .int spot, .lst (ws.map nD)] = .ok (.lst (cs.map nD)) := by
  obtain ⟨ρ', e, s, cs, hs, rfl⟩ := loop_rg (h := gN 4) (body := B__law_some_1) (lo := 0) (n := ws.length) (ρ := [.v (.lst (ps.map .int)), .v (.int spot), .v (.lst (ws.map nD)), .l [], .no])
    (fun i ρ => ∃ (s : Sl) (cs : List (List Nat)), cs.Sublist (ws.take i) ∧ ρ = [.v (.lst (ps.map .int)), .v (.int spot), .v (.lst (ws.map nD)), .l (cs.map nD), s]) ⟨_, [], by simp, rfl⟩ (by
      rintro k ρ hk ⟨s, cs, hs, rfl⟩
      refine ⟨_, rfl, ?_⟩
      obtain ⟨y, y0, y1, ye⟩ := pow_at (k := k) (by omega)
      have p := part_ok (ps := ps) (spot := spot) (under := y) (size := 2) h0 h1 y0 y1 (by decide)
      have g := gIx_name (ws := ws) (k := k) (List.getElem?_eq_getElem hk)
      have gl : gLst [.int 1, .int 2, .int 4, .int 8] = .ok (.lst (([1, 2, 4, 8] : List Int).map .int)) := rfl
      have cl := hs.length_le
      rw [List.length_take] at cl
      have sz : (cs.map nD).length < sizeLine := by rw [List.length_map, sz24]; omega
      have tk : ws.take (k + 1) = ws.take k ++ [ws[k]] := by rw [List.take_succ, List.getElem?_eq_getElem hk]; rfl
      show SO.goes (B__law_some_1 [.v (.lst (ps.map .int)), .v (.int spot), .v (.lst (ws.map nD)), .l (cs.map nD), .v (.int (0 + (k : Int)))]) _
      rw [Int.zero_add]
      by_cases z : part ps spot y 2 = 1
      · have st : B__law_some_1 [.v (.lst (ps.map .int)), .v (.int spot), .v (.lst (ws.map nD)), .l (cs.map nD), .v (.int (k : Int))] = .nx [.v (.lst (ps.map .int)), .v (.int spot), .v (.lst (ws.map nD)), .l ((cs ++ [ws[k]]).map nD), .v (.int (k : Int))] := by
          unfold B__law_some_1
          rw [List.map_append]
          simp only [sIf_ap, sApp_ap, sN_ap, tV_ap, e2_ap, eA_ap, aC_ap, aN_ap, eC_ap, eCall_ap, eV_succ, eV_zero, bind_ok, gl, ye, p, List.length_cons, List.length_nil, Nat.zero_add, Nat.reduceAdd, if_true, gEq_int, decide_eq_true z, Bof_bl, from_ok, ownL_succ, ownL_zero, g, sz, List.set_cons_succ, List.set_cons_zero]
          rfl
        rw [st]
        exact ⟨_, _, by rw [tk]; exact hs.append (List.Sublist.refl _), rfl⟩
      · have st : B__law_some_1 [.v (.lst (ps.map .int)), .v (.int spot), .v (.lst (ws.map nD)), .l (cs.map nD), .v (.int (k : Int))] = .nx [.v (.lst (ps.map .int)), .v (.int spot), .v (.lst (ws.map nD)), .l (cs.map nD), .v (.int (k : Int))] := by
          unfold B__law_some_1
          simp only [sIf_ap, sApp_ap, sN_ap, tV_ap, e2_ap, eA_ap, aC_ap, aN_ap, eC_ap, eCall_ap, eV_succ, eV_zero, bind_ok, gl, ye, p, List.length_cons, List.length_nil, Nat.zero_add, Nat.reduceAdd, if_true, gEq_int, decide_eq_false z, Bof_bl, from_ok, Bool.false_eq_true, if_false]
        rw [st]
        exact ⟨_, _, by rw [tk]; exact hs.trans (List.sublist_append_left _ _), rfl⟩)
  rw [List.take_length] at hs
  refine ⟨cs, hs, ?_⟩
  have sm : small62 (ws.length : Int) := small_rg (by omega) (by omega)
  have ll : (ws.map nD).length = ws.length := List.length_map _
  have z0 : (0 : Nat) ≤ sizeLine := Nat.zero_le _
  unfold F__law_some G__law_some
  simp only [runF_ap, show startE 5 [.lst (ps.map .int), .int spot, .lst (ws.map nD)] = [.v (.lst (ps.map .int)), .v (.int spot), .v (.lst (ws.map nD)), .no, .no] from rfl, sSq_ap, sOwn_ap, lDisp_ap, sFor_ap, iR1_ap, sFrz_ap, sRet_ap, eA_ap, aC_ap, aN_ap, eV_zero, eV_succ, bind_ok, List.length_nil, z0, if_true, from_ok, sq_nx, List.set_cons_succ, List.set_cons_zero, gLen_lst, ll, sm, Int.toNat_natCast, e, frzE_succ, frzE_zero, frzS_l, out_rt]
end Tk
namespace Tk
open PySem PySem.Spec L2 PyProof.Rows
theorem shuffledD_ok {α : Type} {inj : α → D} {ps : List Int} {spot : Int} {ws : List α} (h0 : 0 ≤ spot) (h1 : spot < ps.length) (hl : ws.length ≤ 4) : ∃ ts : List α, ts.Perm ws ∧ F__law_shuffled [.lst (ps.map .int), .int spot, .lst (ws.map inj)] = .ok (.lst (ts.map inj)) := by
  obtain ⟨ρ', e, s, left, taken, hp, l1, l2, rfl⟩ := loop_rg (h := gN 5) (body := B__law_shuffled_1) (lo := 0) (n := ws.length) (ρ := [.v (.lst (ps.map .int)), .v (.int spot), .v (.lst (ws.map inj)), .l (ws.map inj), .l [], .no])
    (fun i ρ => ∃ (s : Sl) (left taken : List α), (taken ++ left).Perm ws ∧ left.length + i = ws.length ∧ taken.length = i ∧ ρ = [.v (.lst (ps.map .int)), .v (.int spot), .v (.lst (ws.map inj)), .l (left.map inj), .l (taken.map inj), s]) ⟨_, ws, [], by simp, rfl, rfl, rfl⟩ (by
      rintro k ρ hk ⟨s, left, taken, hp, l1, l2, rfl⟩
      refine ⟨[.v (.lst (ps.map .int)), .v (.int spot), .v (.lst (ws.map inj)), .l (left.map inj), .l (taken.map inj), .v (.int (k : Int))], by rw [Int.zero_add]; rfl, ?_⟩
      obtain ⟨u, hu, ue⟩ := four_at 1 4 12 24 (k := k) (by omega)
      obtain ⟨v, hv, ve⟩ := four_at 4 3 2 1 (k := k) (by omega)
      have p := part_ok (ps := ps) (spot := spot) (under := u) (size := v) h0 h1 (by omega) (by omega) (by omega)
      generalize part ps spot u v = q at *
      have lp : 0 < left.length := by omega
      have m0 : 0 ≤ q % (left.length : Int) := Int.emod_nonneg _ (by omega)
      have m1 : q % (left.length : Int) < (left.length : Int) := Int.emod_lt_of_pos _ (by omega)
      have md : gMod (.int q) (.int (left.length : Int)) = .ok (.int (q % (left.length : Int))) := gMod_int (by omega)
      have lt : (q % (left.length : Int)).toNat < left.length := by omega
      generalize q % (left.length : Int) = m at *
      have gl1 : gLst [.int 1, .int 4, .int 12, .int 24] = .ok (.lst [.int 1, .int 4, .int 12, .int 24]) := rfl
      have gl2 : gLst [.int 4, .int 3, .int 2, .int 1] = .ok (.lst [.int 4, .int 3, .int 2, .int 1]) := rfl
      have ll : (left.map inj).length = left.length := List.length_map _
      have sc : ∀ z : Int, scalD (.int z) = true := fun _ => rfl
      have ge : (left.map inj)[m.toNat]? = some (inj left[m.toNat]) := by rw [List.getElem?_map, List.getElem?_eq_getElem lt]; rfl
      have cond : 0 ≤ m ∧ m < 9223372036854775808 ∧ (taken.map inj).length < sizeLine := ⟨m0, by omega, by rw [List.length_map, sz24]; omega⟩
      have st : B__law_shuffled_1 [.v (.lst (ps.map .int)), .v (.int spot), .v (.lst (ws.map inj)), .l (left.map inj), .l (taken.map inj), .v (.int (k : Int))] = .nx [.v (.lst (ps.map .int)), .v (.int spot), .v (.lst (ws.map inj)), .l ((left.eraseIdx m.toNat).map inj), .l ((taken ++ [left[m.toNat]]).map inj), .v (.int (k : Int))] := by
        unfold B__law_shuffled_1 sAppPop
        simp only [ownL_succ, ownL_zero, from_ok, eBor_ap, frzA_cons, frzA_nil, frzS_v, frzS_l, e2_ap, eA_ap, aC_ap, aN_ap, eC_ap, eCall_ap, eV_succ, eV_zero, bind_ok, gl1, gl2, ue, ve, List.length_cons, List.length_nil, Nat.zero_add, Nat.reduceAdd, if_true, p, gLen_lst, ll, md, quiet_ok, sc, if_pos cond, ge, List.set_cons_succ, List.set_cons_zero]
        rw [List.map_append, ← er_map]
        rfl
      rw [st]
      refine ⟨_, left.eraseIdx m.toNat, taken ++ [left[m.toNat]], ?_, ?_, by rw [List.length_append, l2]; rfl, rfl⟩
      · have pe : (left[m.toNat] :: left.eraseIdx m.toNat).Perm left := er_perm (List.getElem?_eq_getElem lt)
        rw [List.append_assoc]
        exact ((List.Perm.append_left taken pe).trans (List.Perm.refl _)).trans hp
      · rw [List.length_eraseIdx, if_pos lt]
        omega)
  have le : left = [] := List.length_eq_zero_iff.mp (by omega)
  rw [le, List.append_nil] at hp
  have sm : small62 (ws.length : Int) := small_rg (by omega) (by omega)
  have ll : (ws.map inj).length = ws.length := List.length_map _
  have z0 : (0 : Nat) ≤ sizeLine := Nat.zero_le _
  refine ⟨taken, hp, ?_⟩
  unfold F__law_shuffled G__law_shuffled
  simp only [runF_ap, show startE 6 [.lst (ps.map .int), .int spot, .lst (ws.map inj)] = [.v (.lst (ps.map .int)), .v (.int spot), .v (.lst (ws.map inj)), .no, .no, .no] from rfl, sSq_ap, sOwn_ap, lList_ap, lDisp_ap, sFor_ap, iR1_ap, sFrz_ap, sRet_ap, eA_ap, aC_ap, aN_ap, eV_zero, eV_succ, bind_ok, List.length_nil, z0, if_true, from_ok, sq_nx, List.set_cons_succ, List.set_cons_zero, gLen_lst, ll, sm, Int.toNat_natCast, e, frzE_succ, frzE_zero, frzS_l, out_rt]
structure drawn (os : Bal) (bd : List (List Nat × Int)) : Prop where
  nd : (bd.map (·.1)).Nodup
  sub : ∀ p ∈ bd, p.1 ∈ os
  rg : ∀ p ∈ bd, 0 ≤ p.2 ∧ p.2 ≤ 6
variable {os ts : Bal}
theorem drawn.rev {bd : List (List Nat × Int)} (h : drawn os bd) : drawn os bd.reverse := ⟨by rw [List.map_reverse]; exact List.pairwise_reverse.mpr (h.nd.imp fun a => Ne.symm a), fun p m => h.sub p (List.mem_reverse.mp m), fun p m => h.rg p (List.mem_reverse.mp m)⟩
theorem drawn.perm {bd b2 : List (List Nat × Int)} (h : drawn os bd) (p : b2.Perm bd) : drawn os b2 := ⟨(p.map _).nodup_iff.mpr h.nd, fun q m => h.sub q (p.mem_iff.mp m), fun q m => h.rg q (p.mem_iff.mp m)⟩
theorem drawn.ok {bd : List (List Nat × Int)} (h : drawn os bd) : okBids os bd := ⟨h.nd, h.sub, fun p m => ⟨(h.rg p m).1, by have := (h.rg p m).2; omega⟩⟩
theorem drawn.far {bd : List (List Nat × Int)} (h : drawn os bd) : okBids os (bd.map fun p => (p.1, 1000000000 - p.2)) := ⟨by
    rw [List.map_map]
    exact h.nd, fun p m => by
    obtain ⟨q, mq, rfl⟩ := List.mem_map.mp m
    exact h.sub q mq, fun p m => by
    obtain ⟨q, mq, rfl⟩ := List.mem_map.mp m
    have := h.rg q mq
    show 0 ≤ 1000000000 - q.2 ∧ 1000000000 - q.2 ≤ 1000000000
    omega⟩
theorem drawn.len {bd : List (List Nat × Int)} (h : drawn os bd) : bd.length ≤ os.length := h.ok.len
theorem bids_loop {ps : List Int} {spot j : Int} (h0 : 0 ≤ spot + 3 * j + 1) (h1 : spot + 3 * j + 1 < ps.length) (o4 : os.length ≤ 4) (nd : os.Nodup) {ws : Bal} {s3 s4 s8 s9 : Sl} (f4 : frzS s4 = s4 ∨ True) :
    ∃ (bd : List (List Nat × Int)) (t8 : Sl), drawn os bd ∧ loop (gN 8) B__law_pages_1 (rgD 0 os.length) [.v (.lst (ps.map .int)), .v (.int spot), .v (.lst (os.map nD)), s3, s4, .v (.int j), .v (.lst (ws.map nD)), .l [], s8, s9] =
      .nx [.v (.lst (ps.map .int)), .v (.int spot), .v (.lst (os.map nD)), s3, s4, .v (.int j), .v (.lst (ws.map nD)), .l (bd.map bidD), t8, s9] := by
  obtain ⟨ρ', e, bd, t8, sl, rg, rfl⟩ := loop_rg (h := gN 8) (body := B__law_pages_1) (lo := 0) (n := os.length) (ρ := [.v (.lst (ps.map .int)), .v (.int spot), .v (.lst (os.map nD)), s3, s4, .v (.int j), .v (.lst (ws.map nD)), .l [], s8, s9])
    (fun k ρ => ∃ (bd : List (List Nat × Int)) (t8 : Sl), (bd.map (·.1)).Sublist (os.take k) ∧ (∀ p ∈ bd, 0 ≤ p.2 ∧ p.2 ≤ 6) ∧ ρ = [.v (.lst (ps.map .int)), .v (.int spot), .v (.lst (os.map nD)), s3, s4, .v (.int j), .v (.lst (ws.map nD)), .l (bd.map bidD), t8, s9]) ⟨[], _, by simp, fun p m => (by cases m), rfl⟩ (by
      rintro k ρ hk ⟨bd, t8, sl, rg, rfl⟩
      refine ⟨[.v (.lst (ps.map .int)), .v (.int spot), .v (.lst (os.map nD)), s3, s4, .v (.int j), .v (.lst (ws.map nD)), .l (bd.map bidD), .v (.int (k : Int)), s9], by rw [Int.zero_add]; rfl, ?_⟩
      obtain ⟨u, hu, ue⟩ := four_at 1 7 49 343 (k := k) (by omega)
      have g1 : gIx (.lst (os.map nD)) (.int (k : Int)) = .ok (nD (nmI os k)) := gIx_os (by omega) (by omega)
      have ni : gInS false (nD (nmI os k)) (.lst (ws.map nD)) = .ok (.bl (decide (nmI os k ∈ ws))) := in_lst
      have m3 : gMul (.int 3) (.int j) = .ok (.int (3 * j)) := gMul_l (by decide) (by decide)
      have p := part_ok (ps := ps) (spot := spot + 3 * j + 1) (under := u) (size := 7) h0 h1 (by omega) (by omega) (by decide)
      have a := part_lo (ps := ps) (spot := spot + 3 * j + 1) (under := u) (size := 7) (by decide)
      have b := part_hi (ps := ps) (spot := spot + 3 * j + 1) (under := u) (size := 7) (by decide)
      generalize part ps (spot + 3 * j + 1) u 7 = v at *
      have gl1 : gLst [.int 1, .int 7, .int 49, .int 343] = .ok (.lst [.int 1, .int 7, .int 49, .int 343]) := rfl
      have t2 : ∀ x y : D, gTup [x, y] = .ok (.tup [x, y]) := fun x y => if_pos (szle (by simp))
      have lk : bd.length ≤ 4 := by
        have := sl.length_le
        rw [List.length_map, List.length_take] at this
        omega
      have ll : (bd.map bidD).length < sizeLine := szlt (by rw [List.length_map]; omega)
      have tk : os.take (k + 1) = os.take k ++ [nmI os k] := by
        rw [List.take_add_one, List.getElem?_eq_getElem hk]
        unfold nmI
        rw [List.getD_eq_getElem?_getD, List.getElem?_eq_getElem hk]
        rfl
      by_cases z : nmI os k ∈ ws
      · rw [decide_eq_true z] at ni
        have st : B__law_pages_1 [.v (.lst (ps.map .int)), .v (.int spot), .v (.lst (os.map nD)), s3, s4, .v (.int j), .v (.lst (ws.map nD)), .l (bd.map bidD), .v (.int (k : Int)), s9] = .nx [.v (.lst (ps.map .int)), .v (.int spot), .v (.lst (os.map nD)), s3, s4, .v (.int j), .v (.lst (ws.map nD)), .l ((bd ++ [(nmI os k, v)]).map bidD), .v (.int (k : Int)), s9] := by
          unfold B__law_pages_1
          simp_arith [g1, ni, gl1, ue, m3, p, t2, ll, List.map_append]
          rfl
        rw [st]
        refine ⟨_, _, ?_, fun q m => ?_, rfl⟩
        · rw [tk, List.map_append]
          exact sl.append (List.Sublist.refl _)
        · rcases List.mem_append.mp m with m | m
          · exact rg q m
          · rw [List.mem_singleton.mp m]
            exact ⟨a, by show v ≤ 6; omega⟩
      · rw [decide_eq_false z] at ni
        have st : B__law_pages_1 [.v (.lst (ps.map .int)), .v (.int spot), .v (.lst (os.map nD)), s3, s4, .v (.int j), .v (.lst (ws.map nD)), .l (bd.map bidD), .v (.int (k : Int)), s9] = .nx [.v (.lst (ps.map .int)), .v (.int spot), .v (.lst (os.map nD)), s3, s4, .v (.int j), .v (.lst (ws.map nD)), .l (bd.map bidD), .v (.int (k : Int)), s9] := by
          unfold B__law_pages_1
          simp_arith [g1, ni]
        rw [st]
        refine ⟨bd, _, ?_, rg, rfl⟩
        rw [tk]
        exact sl.trans (List.sublist_append_left _ _))
  rw [List.take_length] at sl
  exact ⟨bd, t8, ⟨sl.nodup nd, fun p m => sl.subset (List.mem_map.mpr ⟨p, m, rfl⟩), rg⟩, e⟩
end Tk
namespace Tk
open PySem PySem.Spec L2 PyProof.Rows
variable {os ts : Bal}
theorem eq_nilB {α : Type} {inj : α → D} {n : Nat} (hn : n < 64) {l : List α} (h : ∀ a ∈ l, cleanD n (inj a) = true) : gEq (.lst (l.map inj)) (.lst []) = .ok (.bl (decide (l = []))) := by
  have e := gEq_clean (n := n + 1) (m := 1) (a := .lst (l.map inj)) (b := .lst []) (by omega) (by decide) (clean_lstB h) rfl
  by_cases z : l = []
  · rw [e.1 (by rw [z]; rfl), decide_eq_true z]
  · rw [e.2 (fun q => z (by simpa using q)), decide_eq_false z]
theorem clean_nm {w : List Nat} (h : okName w) : cleanD 0 (nD w) = true := by
  simpa [cleanD] using (show PyData.strOk (S w) = true from S_ok fun c q => by have := (h.2.2 c q).2; omega)
structure drawnPgs (os ts : Bal) (rs : List PgR) : Prop where
  nms : rs.map (·.nm) = ts
  bid : ∀ r ∈ rs, drawn os r.bd
  fnd : ∀ r ∈ rs, r.fo.Nodup
  fsub : ∀ r ∈ rs, ∀ w ∈ r.fo, w ∈ ts
theorem sub_revd {fs : Bal} (h : fs.Nodup ∧ ∀ w ∈ fs, w ∈ ts) : fs.reverse.Nodup ∧ ∀ w ∈ fs.reverse, w ∈ ts := ⟨List.pairwise_reverse.mpr (h.1.imp fun a => Ne.symm a), fun w m => h.2 w (List.mem_reverse.mp m)⟩
theorem page_step {ps : List Int} {spot : Int} {rs : List PgR} (h0 : 0 ≤ spot) (h1 : spot + 3 * ts.length ≤ ps.length) (ho : okNms os) (o4 : os.length ≤ 4) (ht : okNms ts) (t4 : ts.length ≤ 4) {k : Nat} (hk : k < ts.length) (lr : rs.length ≤ 4) {s6 s7 s8 s9 : Sl} :
    ∃ (r : PgR) (t6 t7 t8 t9 : Sl), r.nm = nmI ts k ∧ drawn os r.bd ∧ (r.fo.Nodup ∧ ∀ w ∈ r.fo, w ∈ ts) ∧
      B__law_pages_2 [.v (.lst (ps.map .int)), .v (.int spot), .v (.lst (os.map nD)), .v (.lst (ts.map nD)), .l (rs.map pgrD), .v (.int (k : Int)), s6, s7, s8, s9] =
      .nx [.v (.lst (ps.map .int)), .v (.int spot), .v (.lst (os.map nD)), .v (.lst (ts.map nD)), .l ((rs ++ [r]).map pgrD), .v (.int (k : Int)), t6, t7, t8, t9] := by
  have m3 : gMul (.int 3) (.int (k : Int)) = .ok (.int (3 * (k : Int))) := gMul_l (by decide) (by decide)
  have p1 := part_ok (ps := ps) (spot := spot + 3 * (k : Int)) (under := 16) (size := 4) (by omega) (by omega) (by decide) (by decide) (by decide)
  have p2 := part_ok (ps := ps) (spot := spot + 3 * (k : Int)) (under := 64) (size := 2) (by omega) (by omega) (by decide) (by decide) (by decide)
  have p3 := part_ok (ps := ps) (spot := spot + 3 * (k : Int) + 2) (under := 16) (size := 5) (by omega) (by omega) (by decide) (by decide) (by decide)
  have p4 := part_ok (ps := ps) (spot := spot + 3 * (k : Int) + 2) (under := 80) (size := 2) (by omega) (by omega) (by decide) (by decide) (by decide)
  generalize part ps (spot + 3 * (k : Int)) 16 4 = q1 at *
  generalize part ps (spot + 3 * (k : Int)) 64 2 = q2 at *
  generalize part ps (spot + 3 * (k : Int) + 2) 16 5 = q3 at *
  generalize part ps (spot + 3 * (k : Int) + 2) 80 2 = q4 at *
  obtain ⟨ss, sub, se⟩ := some_ok (ps := ps) (spot := spot + 3 * (k : Int)) (ws := os) (by omega) (by omega) o4
  obtain ⟨fs, fub, fe⟩ := some_ok (ps := ps) (spot := spot + 3 * (k : Int) + 2) (ws := ts) (by omega) (by omega) t4
  have ll : (rs.map pgrD).length < sizeLine := szlt (by rw [List.length_map]; omega)
  have g3 : gIx (.lst (ts.map nD)) (.int (k : Int)) = .ok (nD (nmI ts k)) := gIx_os (by omega) (by omega)
  have t3 : ∀ x y z : D, gTup [x, y, z] = .ok (.tup [x, y, z]) := fun x y z => if_pos (szle (by simp))
  have ol : gLen [.lst (os.map nD)] = .ok (.int (os.length : Int)) := by
    show R.ok (D.int ((os.map nD).length : Int)) = _
    rw [List.length_map]
  have ef : gEq (.lst (fs.map nD)) (.lst []) = .ok (.bl (decide (fs = []))) := eq_nilB (n := 0) (by decide) fun w m => clean_nm (ht.each w (fub.subset m))
  have l1 : gLst [nD (nmI ts k)] = .ok (.lst [nD (nmI ts k)]) := if_pos (szle (by simp))
  have gl0 : gLst [] = .ok (.lst []) := rfl
  -- the wishers
  have w1 : ∀ s7 s8 s9, sIf (tV (e2 gEq (eCall 4 F__law_part (aC (eV 0) (aC (e2 gAdd (eV 1) (e2 gMul (eC (.int 3)) (eV 5))) (aC (eC (.int 16)) (aC (eC (.int 4)) (aN)))))) (eC (.int 3)))) (sSet 6 (eCall 3 F__law_some (aC (eV 0) (aC (e2 gAdd (eV 1) (e2 gMul (eC (.int 3)) (eV 5))) (aC (eV 2) (aN)))))) (sN)
      [.v (.lst (ps.map .int)), .v (.int spot), .v (.lst (os.map nD)), .v (.lst (ts.map nD)), .l (rs.map pgrD), .v (.int (k : Int)), .v (.lst (os.map nD)), s7, s8, s9] = .nx [.v (.lst (ps.map .int)), .v (.int spot), .v (.lst (os.map nD)), .v (.lst (ts.map nD)), .l (rs.map pgrD), .v (.int (k : Int)), .v (.lst ((if q1 = 3 then ss else os).map nD)), s7, s8, s9] := fun s7 s8 s9 => by
    by_cases z : q1 = 3
    · rw [if_pos z]
      simp_arith [m3, p1, decide_eq_true z, se]
    · rw [if_neg z]
      simp_arith [m3, p1, decide_eq_false z]
  obtain ⟨bd, t8, dr, bl⟩ := bids_loop (ps := ps) (spot := spot) (j := (k : Int)) (by omega) (by omega) o4 ho.nd (ws := if q1 = 3 then ss else os) (s3 := .v (.lst (ts.map nD))) (s4 := .l (rs.map pgrD)) (s8 := s8) (s9 := s9) (.inr trivial)
  -- the bids turned
  have w2 : ∃ (b2 : List (List Nat × Int)) (s7 : Sl), drawn os b2 ∧ frzS s7 = .v (.lst (b2.map bidD)) ∧ ∀ s6 s8 s9, sIf (tV (e2 gEq (eCall 4 F__law_part (aC (eV 0) (aC (e2 gAdd (eV 1) (e2 gMul (eC (.int 3)) (eV 5))) (aC (eC (.int 64)) (aC (eC (.int 2)) (aN)))))) (eC (.int 1)))) (sFrz 7 (sSet 7 (e1 gRev (eV 7)))) (sN)
      [.v (.lst (ps.map .int)), .v (.int spot), .v (.lst (os.map nD)), .v (.lst (ts.map nD)), .l (rs.map pgrD), .v (.int (k : Int)), s6, .l (bd.map bidD), s8, s9] = .nx [.v (.lst (ps.map .int)), .v (.int spot), .v (.lst (os.map nD)), .v (.lst (ts.map nD)), .l (rs.map pgrD), .v (.int (k : Int)), s6, s7, s8, s9] := by
    by_cases z : q2 = 1
    · refine ⟨bd.reverse, .v (.lst (bd.reverse.map bidD)), dr.rev, rfl, fun s6 s8 s9 => ?_⟩
      simp_arith [m3, p2, decide_eq_true z, List.map_reverse]
    · refine ⟨bd, .l (bd.map bidD), dr, rfl, fun s6 s8 s9 => ?_⟩
      simp_arith [m3, p2, decide_eq_false z]
  obtain ⟨b2, s7', d2, fz, w2⟩ := w2
  -- the followers
  have w3 : ∃ f2 : Bal, (f2.Nodup ∧ ∀ w ∈ f2, w ∈ ts) ∧ ∀ s6 s7 s8, sIf (tAnd (tV (e2 gEq (eV 9) (eA gLst (aN)))) (tV (e2 gGt (eCall 4 F__law_part (aC (eV 0) (aC (e2 gAdd (e2 gAdd (eV 1) (e2 gMul (eC (.int 3)) (eV 5))) (eC (.int 2))) (aC (eC (.int 16)) (aC (eC (.int 5)) (aN)))))) (eC (.int 0))))) (sSet 9 (eA gLst (aC (e2 gIx (eV 3) (eV 5)) (aN)))) (sN)
      [.v (.lst (ps.map .int)), .v (.int spot), .v (.lst (os.map nD)), .v (.lst (ts.map nD)), .l (rs.map pgrD), .v (.int (k : Int)), s6, s7, s8, .v (.lst (fs.map nD))] = .nx [.v (.lst (ps.map .int)), .v (.int spot), .v (.lst (os.map nD)), .v (.lst (ts.map nD)), .l (rs.map pgrD), .v (.int (k : Int)), s6, s7, s8, .v (.lst (f2.map nD))] := by
    by_cases z : fs = []
    · by_cases z2 : q3 > 0
      · refine ⟨[nmI ts k], ⟨by simp, fun w m => by rw [List.mem_singleton.mp m]; exact nmI_mem hk⟩, fun s6 s7 s8 => ?_⟩
        simp_arith [gl0, ef, decide_eq_true z, m3, p3, decide_eq_true z2, g3, l1]
      · refine ⟨fs, ⟨fub.nodup ht.nd, fun w m => fub.subset m⟩, fun s6 s7 s8 => ?_⟩
        simp_arith [gl0, ef, decide_eq_true z, m3, p3, decide_eq_false z2]
    · refine ⟨fs, ⟨fub.nodup ht.nd, fun w m => fub.subset m⟩, fun s6 s7 s8 => ?_⟩
      simp_arith [gl0, ef, decide_eq_false z]
  obtain ⟨f2, o2, w3⟩ := w3
  have w4 : ∃ f3 : Bal, (f3.Nodup ∧ ∀ w ∈ f3, w ∈ ts) ∧ ∀ s6 s7 s8, sIf (tV (e2 gEq (eCall 4 F__law_part (aC (eV 0) (aC (e2 gAdd (e2 gAdd (eV 1) (e2 gMul (eC (.int 3)) (eV 5))) (eC (.int 2))) (aC (eC (.int 80)) (aC (eC (.int 2)) (aN)))))) (eC (.int 1)))) (sSet 9 (e1 gRev (eV 9))) (sN)
      [.v (.lst (ps.map .int)), .v (.int spot), .v (.lst (os.map nD)), .v (.lst (ts.map nD)), .l (rs.map pgrD), .v (.int (k : Int)), s6, s7, s8, .v (.lst (f2.map nD))] = .nx [.v (.lst (ps.map .int)), .v (.int spot), .v (.lst (os.map nD)), .v (.lst (ts.map nD)), .l (rs.map pgrD), .v (.int (k : Int)), s6, s7, s8, .v (.lst (f3.map nD))] := by
    by_cases z : q4 = 1
    · refine ⟨f2.reverse, sub_revd o2, fun s6 s7 s8 => ?_⟩
      simp_arith [m3, p4, decide_eq_true z, List.map_reverse]
    · refine ⟨f2, o2, fun s6 s7 s8 => ?_⟩
      simp_arith [m3, p4, decide_eq_false z]
  obtain ⟨f3, o3, w4⟩ := w4
  refine ⟨⟨nmI ts k, b2, f3⟩, .v (.lst ((if q1 = 3 then ss else os).map nD)), .v (.lst (b2.map bidD)), t8, .v (.lst (f3.map nD)), rfl, d2, o3, ?_⟩
  have r1 : rgD 0 ((os.length : Int)).toNat = rgD 0 os.length := by rw [Int.toNat_natCast]
  have sm : small62 (os.length : Int) := small_rg (by omega) (by omega)
  unfold B__law_pages_2
  simp only [sSq_ap, sSet_ap, eV_zero, eV_succ, from_ok, List.set_cons_succ, List.set_cons_zero, sq_nx, w1, sOwn_ap, lDisp_ap, aN_ap, bind_ok, List.length_nil, sz0, if_true, sFor_ap, iR1_ap, eA_ap, aC_ap, ol, sm, r1, bl, w2, eCall_ap, e2_ap, gAdd_int, eC_ap, m3, List.length_cons, Nat.zero_add, Nat.reduceAdd, fe, w3, w4, sFrz_ap, frzE_succ, frzE_zero, fz, sApp_ap, eA_ap, g3, t3, ownL_succ, ownL_zero, ll]
  rw [List.map_append]
  rfl
end Tk
namespace Tk
open PySem PySem.Spec L2 PyProof.Rows
variable {os ts : Bal}
theorem pages_ok {ps : List Int} {spot : Int} (h0 : 0 ≤ spot) (h1 : spot + 3 * ts.length ≤ ps.length) (ho : okNms os) (o4 : os.length ≤ 4) (ht : okNms ts) (t4 : ts.length ≤ 4) :
    ∃ rs : List PgR, drawnPgs os ts rs ∧ F__law_pages [.lst (ps.map .int), .int spot, .lst (os.map nD), .lst (ts.map nD)] = .ok (.lst (rs.map pgrD)) := by
  obtain ⟨ρ', e, rs, s5, s6, s7, s8, s9, nm, bi, fo, rfl⟩ := loop_rg (h := gN 5) (body := B__law_pages_2) (lo := 0) (n := ts.length) (ρ := [.v (.lst (ps.map .int)), .v (.int spot), .v (.lst (os.map nD)), .v (.lst (ts.map nD)), .l [], .no, .no, .no, .no, .no])
    (fun k ρ => ∃ (rs : List PgR) (s5 s6 s7 s8 s9 : Sl), rs.map (·.nm) = ts.take k ∧ (∀ r ∈ rs, drawn os r.bd) ∧ (∀ r ∈ rs, r.fo.Nodup ∧ ∀ w ∈ r.fo, w ∈ ts) ∧ ρ = [.v (.lst (ps.map .int)), .v (.int spot), .v (.lst (os.map nD)), .v (.lst (ts.map nD)), .l (rs.map pgrD), s5, s6, s7, s8, s9])
    ⟨[], _, _, _, _, _, rfl, fun r m => (by cases m), fun r m => (by cases m), rfl⟩ (by
      rintro k ρ hk ⟨rs, s5, s6, s7, s8, s9, nm, bi, fo, rfl⟩
      refine ⟨[.v (.lst (ps.map .int)), .v (.int spot), .v (.lst (os.map nD)), .v (.lst (ts.map nD)), .l (rs.map pgrD), .v (.int (k : Int)), s6, s7, s8, s9], by rw [Int.zero_add]; rfl, ?_⟩
      have lr : rs.length ≤ 4 := by
        have := congrArg List.length nm
        rw [List.length_map, List.length_take] at this
        omega
      obtain ⟨r, t6, t7, t8, t9, rn, rb, rf, st⟩ := page_step (ps := ps) (spot := spot) (rs := rs) h0 h1 ho o4 ht t4 hk lr (s6 := s6) (s7 := s7) (s8 := s8) (s9 := s9)
      rw [st]
      refine ⟨_, _, _, _, _, _, ?_, fun x m => ?_, fun x m => ?_, rfl⟩
      · rw [List.map_append, nm, List.take_add_one, List.getElem?_eq_getElem hk]
        unfold nmI at rn
        rw [List.getD_eq_getElem?_getD, List.getElem?_eq_getElem hk] at rn
        rw [List.map_cons, rn]
        rfl
      · rcases List.mem_append.mp m with m | m
        · exact bi x m
        · rw [List.mem_singleton.mp m]; exact rb
      · rcases List.mem_append.mp m with m | m
        · exact fo x m
        · rw [List.mem_singleton.mp m]; exact rf)
  rw [List.take_length] at nm
  have ol : gLen [.lst (ts.map nD)] = .ok (.int (ts.length : Int)) := by
    show R.ok (D.int ((ts.map nD).length : Int)) = _
    rw [List.length_map]
  have sm : small62 (ts.length : Int) := small_rg (by omega) (by omega)
  have r1 : rgD 0 ((ts.length : Int)).toNat = rgD 0 ts.length := by rw [Int.toNat_natCast]
  refine ⟨rs, ⟨nm, bi, fun r m => (fo r m).1, fun r m => (fo r m).2⟩, ?_⟩
  unfold F__law_pages G__law_pages
  simp_arith [sz0, List.length_map, sm, r1, e]
theorem row_step {ps : List Int} (hl : 30 ≤ ps.length) (o4 : os.length ≤ 4) {r : PgR} {qs : List PgR} (db : drawn os r.bd) (lq : qs.length ≤ 3) {s7 s8 s9 : Sl} :
    ∃ (b3 : List (List Nat × Int)) (t7 : Sl), okBids os b3 ∧ B__law_rows_1 [.v (.lst (ps.map .int)), .v (.lst (os.map nD)), .v (.lst (ts.map nD)), .l (qs.map pgrD), .v (nD r.nm), .v (.lst (r.bd.map bidD)), .v (.lst (r.fo.map nD)), s7, s8, s9] = .nx [.v (.lst (ps.map .int)), .v (.lst (os.map nD)), .v (.lst (ts.map nD)), .l ((qs ++ [(⟨r.nm, b3, r.fo⟩ : PgR)]).map pgrD), .v (nD r.nm), .v (.lst (r.bd.map bidD)), .v (.lst (r.fo.map nD)), t7, s8, s9] := by
  have p := part_ok (ps := ps) (spot := 11) (under := 1) (size := 3) (by decide) (by omega) (by decide) (by decide) (by decide)
  generalize part ps 11 1 3 = q at *
  have lb : r.bd.length ≤ 4 := Nat.le_trans db.len o4
  have a0 : (0 : Int) ≤ 24 + (qs.length : Int) := by omega
  have a1 : 24 + (qs.length : Int) < ps.length := by omega
  obtain ⟨b2, pm, se⟩ := shuffledD_ok (inj := bidD) (ps := ps) (spot := 24 + (qs.length : Int)) (ws := r.bd) a0 a1 lb
  have d2 := db.perm pm
  have ll : qs.length < sizeLine := szlt (by omega)
  have t2 : ∀ x y : D, gTup [x, y] = .ok (.tup [x, y]) := fun x y => if_pos (szle (by simp))
  have t3 : ∀ x y z : D, gTup [x, y, z] = .ok (.tup [x, y, z]) := fun x y z => if_pos (szle (by simp))
  by_cases z : q = 2
  · have pw : gPow (.int 10) (.int 9) = .ok (.int 1000000000) := rfl
    have lz : b2.length ≤ sizeLine := by
      have := d2.len
      exact szle (by omega)
    have lc : ∀ s0 s1 s2 s3 s4 s5 s6 s7 : Sl, lcL (gT 2 (gsC (gN 8) (gsC (gN 9) (gsN)))) tsY (eA gTup (aC (eV 8) (aC (e2 gSub (e2 gPow (eC (.int 10)) (eC (.int 9))) (eV 9)) (aN)))) [s0, s1, s2, s3, s4, s5, s6, s7, .no, .no] (b2.map bidD) = .ok ((b2.map fun p => (p.1, 1000000000 - p.2)).map bidD) := fun s0 s1 s2 s3 s4 s5 s6 s7 => by
      rw [List.map_map]
      exact lc_all (inj := bidD) (h := gT 2 (gsC (gN 8) (gsC (gN 9) (gsN)))) (t := tsY) (fe := eA gTup (aC (eV 8) (aC (e2 gSub (e2 gPow (eC (.int 10)) (eC (.int 9))) (eV 9)) (aN)))) (ρ := [s0, s1, s2, s3, s4, s5, s6, s7, .no, .no]) (bidD ∘ fun p => (p.1, 1000000000 - p.2)) (l := b2) fun p m => ⟨[s0, s1, s2, s3, s4, s5, s6, s7, .v (nD p.1), .v (.int p.2)], rfl, rfl, by
        simp_arith [pw, t2]
        rfl⟩
    refine ⟨_, .v (.lst ((b2.map fun p => (p.1, 1000000000 - p.2)).map bidD)), d2.far, ?_⟩
    unfold B__law_rows_1
    simp_arith [List.length_map, show ∀ i : Int, scalD (.int i) = true from fun _ => rfl, se, p, decide_eq_true z, lz, lc, t3, ll, List.map_append]
    rfl
  · refine ⟨_, .v (.lst (b2.map bidD)), d2.ok, ?_⟩
    unfold B__law_rows_1
    simp_arith [List.length_map, show ∀ i : Int, scalD (.int i) = true from fun _ => rfl, se, p, decide_eq_false z, t3, ll, List.map_append]
    rfl
theorem rows_loop {ps : List Int} {rs : List PgR} (hl : 30 ≤ ps.length) (o4 : os.length ≤ 4) (dr : drawnPgs os ts rs) (rl : rs.length ≤ 4) :
    ∃ (qs : List PgR) (s4 s5 s6 s7 s8 s9 : Sl), okPgs os ts qs ∧ loop (gT 3 (gsC (gN 4) (gsC (gN 5) (gsC (gN 6) (gsN))))) B__law_rows_1 (rs.map pgrD) [.v (.lst (ps.map .int)), .v (.lst (os.map nD)), .v (.lst (ts.map nD)), .l [], .no, .no, .no, .no, .no, .no] =
      .nx [.v (.lst (ps.map .int)), .v (.lst (os.map nD)), .v (.lst (ts.map nD)), .l (qs.map pgrD), s4, s5, s6, s7, s8, s9] := by
  obtain ⟨ρ', e, qs, s4, s5, s6, s7, s8, s9, nm, bi, fo, rfl⟩ := loop_map (inj := pgrD) (h := gT 3 (gsC (gN 4) (gsC (gN 5) (gsC (gN 6) (gsN))))) (body := B__law_rows_1) (l := rs) (ρ := [.v (.lst (ps.map .int)), .v (.lst (os.map nD)), .v (.lst (ts.map nD)), .l [], .no, .no, .no, .no, .no, .no])
    (fun k ρ => ∃ (qs : List PgR) (s4 s5 s6 s7 s8 s9 : Sl), qs.map (·.nm) = (rs.take k).map (·.nm) ∧ (∀ r ∈ qs, okBids os r.bd) ∧ (∀ r ∈ qs, r.fo.Nodup ∧ ∀ w ∈ r.fo, w ∈ ts) ∧ ρ = [.v (.lst (ps.map .int)), .v (.lst (os.map nD)), .v (.lst (ts.map nD)), .l (qs.map pgrD), s4, s5, s6, s7, s8, s9])
    ⟨[], _, _, _, _, _, _, rfl, fun r m => (by cases m), fun r m => (by cases m), rfl⟩ (by
      rintro k r ρ hq ⟨qs, s4, s5, s6, s7, s8, s9, nm, bi, fo, rfl⟩
      refine ⟨[.v (.lst (ps.map .int)), .v (.lst (os.map nD)), .v (.lst (ts.map nD)), .l (qs.map pgrD), .v (nD r.nm), .v (.lst (r.bd.map bidD)), .v (.lst (r.fo.map nD)), s7, s8, s9], rfl, ?_⟩
      have hk : k < rs.length := (List.getElem?_eq_some_iff.mp hq).1
      have m := List.mem_of_getElem? hq
      have lq : qs.length = k := by
        have := congrArg List.length nm
        rw [List.length_map, List.length_map, List.length_take] at this
        omega
      have l3 : qs.length ≤ 3 := by omega
      have H := row_step (ts := ts) hl o4 (r := r) (qs := qs) (dr.bid r m) l3 (s7 := s7) (s8 := s8) (s9 := s9)
      have ok := H.choose_spec.choose_spec.1
      rw [H.choose_spec.choose_spec.2]
      refine ⟨qs ++ [⟨r.nm, H.choose, r.fo⟩], _, _, _, _, _, _, ?_, fun x m' => ?_, fun x m' => ?_, rfl⟩
      · rw [List.map_append, nm, List.take_add_one, hq, List.map_append]
        rfl
      · rcases List.mem_append.mp m' with m' | m'
        · exact bi x m'
        · rw [List.mem_singleton.mp m']; exact ok
      · rcases List.mem_append.mp m' with m' | m'
        · exact fo x m'
        · rw [List.mem_singleton.mp m']; exact ⟨dr.fnd r m, dr.fsub r m⟩)
  rw [List.take_length, dr.nms] at nm
  exact ⟨qs, s4, s5, s6, s7, s8, s9, ⟨nm, bi, fun r m => (fo r m).1, fun r m => (fo r m).2⟩, e⟩
theorem rows_ok {ps : List Int} (hl : 30 ≤ ps.length) (ho : okNms os) (o4 : os.length ≤ 4) (ht : okNms ts) (t4 : ts.length ≤ 4) :
    ∃ rs : List PgR, okPgs os ts rs ∧ F__law_rows [.lst (ps.map .int), .lst (os.map nD), .lst (ts.map nD)] = .ok (.lst (rs.map pgrD)) := by
  obtain ⟨rs, dr, pe⟩ := pages_ok (ps := ps) (spot := 12) (by decide) (by omega) ho o4 ht t4
  have rl : rs.length = ts.length := by rw [← dr.nms, List.length_map]
  obtain ⟨qs, s4, s5, s6, s7, s8, s9, ok, e⟩ := rows_loop hl o4 dr (by omega)
  refine ⟨qs, ok, ?_⟩
  unfold F__law_rows G__law_rows
  simp_arith [sz0, pe, e]
end Tk
namespace Tk
open PySem PySem.Spec L2 PyProof.Rows
variable {os ts bs : Bal} {z : Tab} {rows : List (List Key × D)}
theorem okN_ne {w : List Nat} (h : okName w) : decide (S w = ("" : Str)) = false := decide_eq_false fun e => by
  have : w = [] := S_inj (e.trans (rfl : ("" : Str) = S []))
  have := h.1
  simp_all
theorem t2_any : ∀ x y : D, gTup [x, y] = .ok (.tup [x, y]) := fun x y => if_pos (szle (by simp))
theorem t1_any : ∀ x : D, gTup [x] = .ok (.tup [x]) := fun x => if_pos (szle (by simp))
theorem l1_any : ∀ x : D, gLst [x] = .ok (.lst [x]) := fun x => if_pos (szle (by simp))
theorem gTup0 : gTup [] = .ok (.tup []) := rfl
theorem movesA {fs : Bal} (h : fs.length ≤ 900) : gAdd (.lst (fs.map nD)) (.lst [.str ""]) = .ok (.lst ((fs ++ [[]]).map nD)) := by
  rw [List.map_append]
  exact if_pos (szle (by rw [List.length_map]; show fs.length + 1 ≤ 1000; omega))
theorem turn_moves {X : D} {hm : Bal} {r : PgR} (h : Rul 54 os bs z rows X) (few : os.length ≤ 4) : F_TurnRule_moves [X, pgD os hm r] = .ok (.lst ((freeL os r.bd bs ++ [[]]).map nD)) := by
  have c := turn_cand (hm := hm) (r := r) h few
  have fl := free_len (os := os) (bd := r.bd) (bs := bs)
  have a := movesA (fs := freeL os r.bd bs) (by omega)
  unfold F_TurnRule_moves G_TurnRule_moves
  simp_arith [eMeth_ap, h.ib, c, l1_any, a]
theorem lCatB {fa fb : Ev → R D} {ρ : Ev} {xs ys : List D} (h1 : fa ρ = .ok (.lst xs)) (h2 : fb ρ = .ok (.lst ys)) (l : xs.length + ys.length ≤ 1000) : lCat fa fb ρ = .ok (xs ++ ys) := by
  unfold lCat
  rw [h1, bind_ok, h2, bind_ok]
  exact if_pos (szle l)
theorem turn_moves_o {X : D} {hm : Bal} {r : PgR} (h : Rul 54 os bs z rows X) (few : os.length ≤ 4) : F_TurnRule_moves_o [X, pgD os hm r] = .ok (.l ((freeL os r.bd bs ++ [[]]).map nD)) := by
  have c := turn_cand (hm := hm) (r := r) h few
  have fl := free_len (os := os) (bd := r.bd) (bs := bs)
  have e := lCatB (fa := eA gList (aC (eMeth 54 nF 2 F_TurnRule_candidates (eV 0) (aC (eV 1) (aN))) (aN))) (fb := eA gLst (aC (eC (.str "")) (aN))) (ρ := [.v X, .v (pgD os hm r)]) (xs := (freeL os r.bd bs).map nD) (ys := [.str ""]) (by
    simp_arith [eMeth_ap, h.ib, c]) (by simp_arith [l1_any]) (by rw [List.length_map]; show _ + 1 ≤ 1000; omega)
  unfold F_TurnRule_moves_o G_TurnRule_moves_o
  simp_arith [e]
  rw [List.map_append]
  rfl
def let1 (w : List Nat) : D := .lst [.tup [.tup [nD w], .int 0]]
def let0 : D := .lst [.tup [.tup [], .int 0]]
theorem turn_lets {X P : D} {w : List Nat} (hw : okName w) : F_TurnRule_lets [X, P, nD w] = .ok (let1 w) := by
  have e := okN_ne hw
  unfold F_TurnRule_lets G_TurnRule_lets
  simp_arith [e, t1_any, t2_any, l1_any]
  rfl
theorem turn_lets0 {X P : D} : F_TurnRule_lets [X, P, .str ""] = .ok let0 := by
  unfold F_TurnRule_lets G_TurnRule_lets
  simp_arith [gTup0, t2_any, l1_any]
  rfl
theorem turn_lets_o {X P : D} {w : List Nat} : F_TurnRule_lets_o [X, P, nD w] = .ok (.l [.tup [.tup (if w = [] then [] else [nD w]), .int 0]]) := by
  have d : decide (S w = ("" : Str)) = decide (w = []) := decide_eq_decide.mpr ⟨fun e => S_inj (e.trans (rfl : ("" : Str) = S [])), fun e => by rw [e]; rfl⟩
  unfold F_TurnRule_lets_o G_TurnRule_lets_o
  by_cases q : w = []
  · rw [decide_eq_true q] at d
    rw [if_pos q]
    simp_arith [eIfN, d, gTup0, t2_any, szle (show 1 ≤ 1000 by decide)]
  · rw [decide_eq_false q] at d
    rw [if_neg q]
    simp_arith [eIfN, d, t1_any, t2_any, szle (show 1 ≤ 1000 by decide)]
end Tk
namespace Tk
open PySem PySem.Spec L2 PyProof.Rows
variable {os ts bs : Bal} {z : Tab} {rows : List (List Key × D)}
theorem oMeth_apB {c nf n : Nat} {F : List D → R Sl} {fo : Ev → R D} {fa : Ev → R (List D)} {ρ : Ev} : oMeth c nf n F fo fa ρ = (fo ρ).bind fun d => if insB c nf d = true then (fa ρ).bind fun ds => if ds.length + 1 = n then F (d :: ds) else .bad else .bad := (rfl)
theorem plain_nms {n : Nat} {fs : Bal} (h : fs.length ≤ 1000) : plainD (n + 1) (.lst (fs.map nD)) = true ∧ plainD (n + 1) (.tup (fs.map nD)) = true := by
  have a : plainL n (fs.map nD) = true := by
    rw [plainL_all]
    intro d m
    obtain ⟨w, _, rfl⟩ := List.mem_map.mp m
    cases n <;> rfl
  have b : decide ((fs.map nD).length ≤ 1000000) = true := decide_eq_true (by rw [List.length_map]; omega)
  constructor <;> simp [plainD, a, b] <;> omega
theorem turn_tells45 {X : D} {hm : Bal} {r : PgR} (h : Rul 54 os bs z rows X) (ho : okNms os) (o4 : os.length ≤ 4) : F__law_tells [X, pgD os hm r, .lst ((freeL os r.bd bs).map nD)] = .ok (.bl true) := by
  have c := turn_cand (hm := hm) (r := r) h o4
  have m := turn_moves (hm := hm) (r := r) h o4
  have fl := free_len (os := os) (bd := r.bd) (bs := bs)
  have a := movesA (fs := freeL os r.bd bs) (by omega)
  have okf : ∀ w ∈ freeL os r.bd bs, okName w := fun w m => ho.each w (List.mem_filter.mp m).1
  generalize freeL os r.bd bs = fs at *
  obtain ⟨ρ', e, s3, rfl⟩ := loop_map (inj := nD) (h := gN 3) (body := B__law_tells_1) (l := fs) (ρ := [.v X, .v (pgD os hm r), .v (.lst (fs.map nD)), .no])
    (fun _ ρ => ∃ s3 : Sl, ρ = [.v X, .v (pgD os hm r), .v (.lst (fs.map nD)), s3]) ⟨_, rfl⟩ (by
      rintro k w ρ q ⟨s3, rfl⟩
      refine ⟨[.v X, .v (pgD os hm r), .v (.lst (fs.map nD)), .v (nD w)], rfl, ?_⟩
      have lt := turn_lets (X := X) (P := pgD os hm r) (okf w (List.mem_of_getElem? q))
      have sm : F__law_same [let1 w, let1 w] = .ok (.bl true) := same_ok (by rfl)
      unfold let1 at lt sm
      unfold B__law_tells_1
      simp_arith [eMeth_ap, h.ib, lt, t1_any, t2_any, l1_any, sm]
      exact ⟨_, rfl⟩)
  have g1 : ∀ a : D, gDk [0] [] [] [a] = [a] := fun _ => rfl
  have g2 : ∀ a b : D, gDk [0, 1] [] [] [a, b] = [a, b] := fun _ _ => rfl
  have l0 := turn_lets0 (X := X) (P := pgD os hm r)
  have s1 : F__law_same [.tup (fs.map nD), .tup (fs.map nD)] = .ok (.bl true) := same_ok (plain_nms (by omega)).2
  have s2 : F__law_same [.lst ((fs ++ [[]]).map nD), .lst ((fs ++ [[]]).map nD)] = .ok (.bl true) := same_ok (plain_nms (by rw [List.length_append]; show _ + 1 ≤ 1000; omega)).1
  have s3 : F__law_same [let0, let0] = .ok (.bl true) := same_ok (by rfl)
  unfold let0 at l0 s3
  unfold F__law_tells G__law_tells
  simp_arith [eMethK_ap, h.ib, g1, g2, c, m, l1_any, a, s1, s2, e, l0, gTup0, t2_any, s3]
theorem turn_spoil45 {X : D} {hm : Bal} {r : PgR} (h : Rul 54 os bs z rows X) (o4 : os.length ≤ 4) : F__law_spoil [X, pgD os hm r, .lst ((freeL os r.bd bs).map nD)] = .ok .non := by
  have m := turn_moves_o (hm := hm) (r := r) h o4
  have fl := free_len (os := os) (bd := r.bd) (bs := bs)
  have a := movesA (fs := freeL os r.bd bs) (by omega)
  generalize freeL os r.bd bs = fs at *
  have ml : ((fs ++ [[]]).map nD).reverse.length < sizeLine := szlt (by rw [List.length_reverse, List.length_map, List.length_append]; show _ + 1 ≤ 1000; omega)
  obtain ⟨ρ', e, s4, s5, rfl⟩ := loop_map (inj := nD) (h := gN 4) (body := B__law_spoil_1) (l := fs ++ [[]]) (ρ := [.v X, .v (pgD os hm r), .v (.lst (fs.map nD)), .l (((fs ++ [[]]).map nD).reverse ++ [.str "spoilt"]), .no, .no])
    (fun _ ρ => ∃ s4 s5 : Sl, ρ = [.v X, .v (pgD os hm r), .v (.lst (fs.map nD)), .l (((fs ++ [[]]).map nD).reverse ++ [.str "spoilt"]), s4, s5]) ⟨_, _, rfl⟩ (by
      rintro k w ρ q ⟨s4, s5, rfl⟩
      refine ⟨[.v X, .v (pgD os hm r), .v (.lst (fs.map nD)), .l (((fs ++ [[]]).map nD).reverse ++ [.str "spoilt"]), .v (nD w), s5], rfl, ?_⟩
      have lt := turn_lets_o (X := X) (P := pgD os hm r) (w := w)
      unfold B__law_spoil_1
      simp_arith [oMeth_apB, h.ib, lt, t1_any, t2_any, szlt (show 1 ≤ 1000 by decide), mRev]
      exact ⟨_, _, rfl⟩)
  unfold F__law_spoil G__law_spoil
  simp_arith [oMeth_apB, h.ib, m, mRev, ml, l1_any, a, e]
structure Drw (os : Bal) (q : D × Bal) : Prop where
  ex : ∃ (bs : Bal) (z : Tab) (rows : List (List Key × D)), Rul 54 os bs z rows q.1 ∧ ∀ w ∈ os, w ∈ q.2 ↔ w ∈ bs
def rlD (q : D × Bal) : D := .tup [q.1, .lst (q.2.map nD)]
theorem asked45 {hm : Bal} {q : D × Bal} {r : PgR} (h : Drw os q) (ho : okNms os) (o4 : os.length ≤ 4) (hb : okBids os r.bd) :
    F__law_free [pgrD r, .lst (os.map nD), .lst (q.2.map nD)] = .ok (.lst ((freeL os r.bd q.2).map nD)) ∧ F__law_tells [q.1, pgD os hm r, .lst ((freeL os r.bd q.2).map nD)] = .ok (.bl true) ∧ F__law_spoil [q.1, pgD os hm r, .lst ((freeL os r.bd q.2).map nD)] = .ok .non := by
  obtain ⟨bs, z, rows, hr, sam⟩ := h.ex
  refine ⟨law_free ho o4 hb, ?_⟩
  rw [free_same sam]
  exact ⟨turn_tells45 hr ho o4, turn_spoil45 hr o4⟩
theorem cap_ok {v : Int} (h0 : 0 ≤ v) (h1 : v < 5) : ∃ lim : Pr, gIx (.lst [.non, .int 0, .int 1, .int 2, .int 3]) (.int v) = .ok (prD lim) ∧ ∀ x, lim = some x → 0 ≤ x ∧ x ≤ 3 := by
  have : v = 0 ∨ v = 1 ∨ v = 2 ∨ v = 3 ∨ v = 4 := by omega
  rcases this with rfl | rfl | rfl | rfl | rfl
  · exact ⟨none, rfl, fun x e => by cases e⟩
  · exact ⟨some 0, rfl, fun x e => by cases e; decide⟩
  · exact ⟨some 1, rfl, fun x e => by cases e; decide⟩
  · exact ⟨some 2, rfl, fun x e => by cases e; decide⟩
  · exact ⟨some 3, rfl, fun x e => by cases e; decide⟩
theorem turn_rule45 {ps : List Int} {nm : List Nat} (hl : 6 ≤ ps.length) (hn : okName nm) (ho : okNms os) (o4 : os.length ≤ 4) :
    ∃ q : D × Bal, Drw os q ∧ F__law_turn_rule [.lst (ps.map .int), nD nm, .lst (os.map nD)] = .ok (rlD q) := by
  have p1 := part_ok (ps := ps) (spot := 0) (under := 16) (size := 3) (by decide) (by omega) (by decide) (by decide) (by decide)
  have p2 := part_ok (ps := ps) (spot := 0) (under := 48) (size := 5) (by decide) (by omega) (by decide) (by decide) (by decide)
  have p3 := part_ok (ps := ps) (spot := 0) (under := 240) (size := 4) (by decide) (by omega) (by decide) (by decide) (by decide)
  have a2 := part_lo (ps := ps) (spot := 0) (under := 48) (size := 5) (by decide)
  have b2 := part_hi (ps := ps) (spot := 0) (under := 48) (size := 5) (by decide)
  have a3 := part_lo (ps := ps) (spot := 0) (under := 240) (size := 4) (by decide)
  have b3 := part_hi (ps := ps) (spot := 0) (under := 240) (size := 4) (by decide)
  generalize part ps 0 16 3 = q1 at *
  generalize part ps 0 48 5 = q2 at *
  generalize part ps 0 240 4 = q3 at *
  obtain ⟨ss, sub, se⟩ := some_ok (ps := ps) (spot := 0) (ws := os) (by decide) (by omega) o4
  obtain ⟨lim, le, lb⟩ := cap_ok a2 b2
  obtain ⟨tl, tk, ln, te⟩ := links_ok (ps := ps) (spot := 2) (number := q3) ho (by decide) a3 (by omega) (by omega)
  have gl : gLst [.non, .int 0, .int 1, .int 2, .int 3] = .ok (.lst [.non, .int 0, .int 1, .int 2, .int 3]) := rfl
  have gl0 : gLst [] = .ok (.lst []) := rfl
  have gd : ∀ a b c d e : D, gDk [0, 1, 5, 6, 7, 2, 3, 4] [.int 0, .int 1, .int 0] [a, b] [c, d, e] = [a, b, c, d, e, .int 0, .int 1, .int 0] := fun _ _ _ _ _ => rfl
  have key : ∀ xs : Bal, xs.Sublist os → ∃ (sh : Bal) (fs : List (Nat × D)), F__law_shuffled [.lst (ps.map .int), .int 1, .lst (xs.map nD)] = .ok (.lst (sh.map nD)) ∧ (unA fun a => F_TurnRule___init__ a [nD nm, .lst (os.map nD), prD lim, .lst (sh.map nD), .lst (tl.map (lkD os)), .int 0, .int 1, .int 0]) = .ok fs ∧ Drw os (.ins 54 fs, xs) := fun xs hx => by
    obtain ⟨sh, pm, e⟩ := shuffled_ok (ps := ps) (spot := 1) (ws := xs) (by decide) (by omega) (Nat.le_trans hx.length_le o4)
    obtain ⟨z, rows, hc, _, hz, i⟩ := turn_init (nm := nm) (os := os) (bs := sh) (ts := tl) (lim := lim) (dep := 0) (fee := 1) (st := 0) ⟨hn, ho, o4, pm.nodup_iff.mpr (hx.nodup ho.nd), fun w m => hx.subset (pm.mem_iff.mp m), tk, by omega, lb, ⟨by decide, by decide⟩, ⟨by decide, by decide⟩, ⟨by decide, by decide⟩⟩
    exact ⟨sh, _, e, i, ⟨sh, z, rows, turn_rul, fun w _ => pm.mem_iff.symm⟩⟩
  by_cases z : q1 = 2
  · obtain ⟨sh, fs, e, i, d⟩ := key [] (List.nil_sublist _)
    refine ⟨_, d, ?_⟩
    rw [List.map_nil] at e
    unfold F__law_turn_rule G__law_turn_rule
    simp_arith [se, p1, decide_eq_true z, gl0, p2, gl, le, p3, te, nMakeK_ap, eFrz_ap, e, gd, i, frzR_o, t2_any]
    rfl
  · obtain ⟨sh, fs, e, i, d⟩ := key ss sub
    refine ⟨_, d, ?_⟩
    unfold F__law_turn_rule G__law_turn_rule
    simp_arith [se, p1, decide_eq_false z, p2, gl, le, p3, te, nMakeK_ap, eFrz_ap, e, gd, i, frzR_o, t2_any]
    rfl
end Tk
namespace Tk
open PySem PySem.Spec L2 PyProof.Rows
section
variable {w : World} {K : PySem.W.Frag} {mg : Str → Option Value} {base : Heap}
theorem fn_members : ∀ k, (cnL K).n k = (cnL K).n 30 → k = 30 := nm_inj (f := 30) fld_nd (by decide +kernel) fld_ne
theorem ff_Book_members (T : SaysX fa fn exL fwL erL K mg) : ∀ c ∈ [44], ∀ C, (cnL K).a c = some C → Cls K C ∧ NoAttr K C "members" := fun c m C e => by
  cases List.mem_singleton.mp m
  exact T.fld 61 90 (Option.some.inj e)
theorem ff_TurnRule_members (T : SaysX fa fn exL fwL erL K mg) : ∀ c ∈ [54], ∀ C, (cnL K).a c = some C → Cls K C ∧ NoAttr K C "members" := fun c m C e => by
  cases List.mem_singleton.mp m
  exact T.fld 64 91 (Option.some.inj e)
theorem fn_wishers : ∀ k, (cnL K).n k = (cnL K).n 46 → k = 46 := nm_inj (f := 46) fld_nd (by decide +kernel) fld_ne
theorem ff_Page_wishers (T : SaysX fa fn exL fwL erL K mg) : ∀ c ∈ [43], ∀ C, (cnL K).a c = some C → Cls K C ∧ NoAttr K C "wishers" := fun c m C e => by
  cases List.mem_singleton.mp m
  exact T.fld 67 92 (Option.some.inj e)
theorem fn_barred : ∀ k, (cnL K).n k = (cnL K).n 65 → k = 65 := nm_inj (f := 65) fld_nd (by decide +kernel) fld_ne
theorem ff_TurnRule_barred (T : SaysX fa fn exL fwL erL K mg) : ∀ c ∈ [54], ∀ C, (cnL K).a c = some C → Cls K C ∧ NoAttr K C "barred" := fun c m C e => by
  cases List.mem_singleton.mp m
  exact T.fld 64 93 (Option.some.inj e)
theorem fn_links : ∀ k, (cnL K).n k = (cnL K).n 38 → k = 38 := nm_inj (f := 38) fld_nd (by decide +kernel) fld_ne
theorem ff_Links_links (T : SaysX fa fn exL fwL erL K mg) : ∀ c ∈ [40], ∀ C, (cnL K).a c = some C → Cls K C ∧ NoAttr K C "links" := fun c m C e => by
  cases List.mem_singleton.mp m
  exact T.fld 70 94 (Option.some.inj e)
theorem ff_TurnRule_links (T : SaysX fa fn exL fwL erL K mg) : ∀ c ∈ [54], ∀ C, (cnL K).a c = some C → Cls K C ∧ NoAttr K C "links" := fun c m C e => by
  cases List.mem_singleton.mp m
  exact T.fld 64 95 (Option.some.inj e)
theorem fn_names : ∀ k, (cnL K).n k = (cnL K).n 32 → k = 32 := nm_inj (f := 32) fld_nd (by decide +kernel) fld_ne
theorem ff_Tolls_names (T : SaysX fa fn exL fwL erL K mg) : ∀ c ∈ [64], ∀ C, (cnL K).a c = some C → Cls K C ∧ NoAttr K C "names" := fun c m C e => by
  cases List.mem_singleton.mp m
  exact T.fld 73 96 (Option.some.inj e)
theorem ff_Links_names (T : SaysX fa fn exL fwL erL K mg) : ∀ c ∈ [40], ∀ C, (cnL K).a c = some C → Cls K C ∧ NoAttr K C "names" := fun c m C e => by
  cases List.mem_singleton.mp m
  exact T.fld 70 97 (Option.some.inj e)
theorem ff_Book_names (T : SaysX fa fn exL fwL erL K mg) : ∀ c ∈ [44], ∀ C, (cnL K).a c = some C → Cls K C ∧ NoAttr K C "names" := fun c m C e => by
  cases List.mem_singleton.mp m
  exact T.fld 61 98 (Option.some.inj e)
theorem fn__prices : ∀ k, (cnL K).n k = (cnL K).n 80 → k = 80 := nm_inj (f := 80) fld_nd (by decide +kernel) fld_ne
theorem ff_Tolls__prices (T : SaysX fa fn exL fwL erL K mg) : ∀ c ∈ [64], ∀ C, (cnL K).a c = some C → Cls K C ∧ NoAttr K C "_prices" := fun c m C e => by
  cases List.mem_singleton.mp m
  exact T.fld 73 99 (Option.some.inj e)
theorem fn_name : ∀ k, (cnL K).n k = (cnL K).n 14 → k = 14 := nm_inj (f := 14) fld_nd (by decide +kernel) fld_ne
theorem ff_Page_name (T : SaysX fa fn exL fwL erL K mg) : ∀ c ∈ [43], ∀ C, (cnL K).a c = some C → Cls K C ∧ NoAttr K C "name" := fun c m C e => by
  cases List.mem_singleton.mp m
  exact T.fld 67 100 (Option.some.inj e)
theorem ff_TurnRule_name (T : SaysX fa fn exL fwL erL K mg) : ∀ c ∈ [54], ∀ C, (cnL K).a c = some C → Cls K C ∧ NoAttr K C "name" := fun c m C e => by
  cases List.mem_singleton.mp m
  exact T.fld 64 101 (Option.some.inj e)
theorem fn_limit : ∀ k, (cnL K).n k = (cnL K).n 64 → k = 64 := nm_inj (f := 64) fld_nd (by decide +kernel) fld_ne
theorem ff_TurnRule_limit (T : SaysX fa fn exL fwL erL K mg) : ∀ c ∈ [54], ∀ C, (cnL K).a c = some C → Cls K C ∧ NoAttr K C "limit" := fun c m C e => by
  cases List.mem_singleton.mp m
  exact T.fld 64 102 (Option.some.inj e)
theorem fn_deposit : ∀ k, (cnL K).n k = (cnL K).n 66 → k = 66 := nm_inj (f := 66) fld_nd (by decide +kernel) fld_ne
theorem ff_TurnRule_deposit (T : SaysX fa fn exL fwL erL K mg) : ∀ c ∈ [54], ∀ C, (cnL K).a c = some C → Cls K C ∧ NoAttr K C "deposit" := fun c m C e => by
  cases List.mem_singleton.mp m
  exact T.fld 64 103 (Option.some.inj e)
theorem fn_fee : ∀ k, (cnL K).n k = (cnL K).n 67 → k = 67 := nm_inj (f := 67) fld_nd (by decide +kernel) fld_ne
theorem ff_TurnRule_fee (T : SaysX fa fn exL fwL erL K mg) : ∀ c ∈ [54], ∀ C, (cnL K).a c = some C → Cls K C ∧ NoAttr K C "fee" := fun c m C e => by
  cases List.mem_singleton.mp m
  exact T.fld 64 104 (Option.some.inj e)
theorem fn_start : ∀ k, (cnL K).n k = (cnL K).n 68 → k = 68 := nm_inj (f := 68) fld_nd (by decide +kernel) fld_ne
theorem ff_TurnRule_start (T : SaysX fa fn exL fwL erL K mg) : ∀ c ∈ [54], ∀ C, (cnL K).a c = some C → Cls K C ∧ NoAttr K C "start" := fun c m C e => by
  cases List.mem_singleton.mp m
  exact T.fld 64 105 (Option.some.inj e)
theorem fn__hands : ∀ k, (cnL K).n k = (cnL K).n 69 → k = 69 := nm_inj (f := 69) fld_nd (by decide +kernel) fld_ne
theorem ff_TurnRule__hands (T : SaysX fa fn exL fwL erL K mg) : ∀ c ∈ [54], ∀ C, (cnL K).a c = some C → Cls K C ∧ NoAttr K C "_hands" := fun c m C e => by
  cases List.mem_singleton.mp m
  exact T.fld 64 106 (Option.some.inj e)
theorem fn__barred_tolls : ∀ k, (cnL K).n k = (cnL K).n 70 → k = 70 := nm_inj (f := 70) fld_nd (by decide +kernel) fld_ne
theorem ff_TurnRule__barred_tolls (T : SaysX fa fn exL fwL erL K mg) : ∀ c ∈ [54], ∀ C, (cnL K).a c = some C → Cls K C ∧ NoAttr K C "_barred_tolls" := fun c m C e => by
  cases List.mem_singleton.mp m
  exact T.fld 64 107 (Option.some.inj e)
theorem fn_starts : ∀ k, (cnL K).n k = (cnL K).n 49 → k = 49 := nm_inj (f := 49) fld_nd (by decide +kernel) fld_ne
theorem ff_Book_starts (T : SaysX fa fn exL fwL erL K mg) : ∀ c ∈ [44], ∀ C, (cnL K).a c = some C → Cls K C ∧ NoAttr K C "starts" := fun c m C e => by
  cases List.mem_singleton.mp m
  exact T.fld 61 108 (Option.some.inj e)
theorem fn_home : ∀ k, (cnL K).n k = (cnL K).n 48 → k = 48 := nm_inj (f := 48) fld_nd (by decide +kernel) fld_ne
theorem ff_Page_home (T : SaysX fa fn exL fwL erL K mg) : ∀ c ∈ [43], ∀ C, (cnL K).a c = some C → Cls K C ∧ NoAttr K C "home" := fun c m C e => by
  cases List.mem_singleton.mp m
  exact T.fld 67 109 (Option.some.inj e)
theorem ff_Book_home (T : SaysX fa fn exL fwL erL K mg) : ∀ c ∈ [44], ∀ C, (cnL K).a c = some C → Cls K C ∧ NoAttr K C "home" := fun c m C e => by
  cases List.mem_singleton.mp m
  exact T.fld 61 110 (Option.some.inj e)
theorem fn_bids : ∀ k, (cnL K).n k = (cnL K).n 45 → k = 45 := nm_inj (f := 45) fld_nd (by decide +kernel) fld_ne
theorem ff_Page_bids (T : SaysX fa fn exL fwL erL K mg) : ∀ c ∈ [43], ∀ C, (cnL K).a c = some C → Cls K C ∧ NoAttr K C "bids" := fun c m C e => by
  cases List.mem_singleton.mp m
  exact T.fld 67 111 (Option.some.inj e)
theorem fn_followers : ∀ k, (cnL K).n k = (cnL K).n 47 → k = 47 := nm_inj (f := 47) fld_nd (by decide +kernel) fld_ne
theorem ff_Page_followers (T : SaysX fa fn exL fwL erL K mg) : ∀ c ∈ [43], ∀ C, (cnL K).a c = some C → Cls K C ∧ NoAttr K C "followers" := fun c m C e => by
  cases List.mem_singleton.mp m
  exact T.fld 67 112 (Option.some.inj e)
theorem fn__pages : ∀ k, (cnL K).n k = (cnL K).n 50 → k = 50 := nm_inj (f := 50) fld_nd (by decide +kernel) fld_ne
theorem ff_Book__pages (T : SaysX fa fn exL fwL erL K mg) : ∀ c ∈ [44], ∀ C, (cnL K).a c = some C → Cls K C ∧ NoAttr K C "_pages" := fun c m C e => by
  cases List.mem_singleton.mp m
  exact T.fld 61 113 (Option.some.inj e)
theorem fn__rows : ∀ k, (cnL K).n k = (cnL K).n 51 → k = 51 := nm_inj (f := 51) fld_nd (by decide +kernel) fld_ne
theorem ff_Book__rows (T : SaysX fa fn exL fwL erL K mg) : ∀ c ∈ [44], ∀ C, (cnL K).a c = some C → Cls K C ∧ NoAttr K C "_rows" := fun c m C e => by
  cases List.mem_singleton.mp m
  exact T.fld 61 114 (Option.some.inj e)
theorem fa_wishers_43 (T : SaysX fa fn exL fwL erL K mg) : ∀ c ∈ [43], ∀ C, (cnL K).a c = some C → Cls K C ∧ NoAttr K C "wishers" := fun c m C e => by
  simp only [List.mem_cons, List.not_mem_nil, or_false] at m
  rcases m with rfl
  · exact ff_Page_wishers T _ (by decide) C e
theorem fa_barred_54 (T : SaysX fa fn exL fwL erL K mg) : ∀ c ∈ [54], ∀ C, (cnL K).a c = some C → Cls K C ∧ NoAttr K C "barred" := fun c m C e => by
  simp only [List.mem_cons, List.not_mem_nil, or_false] at m
  rcases m with rfl
  · exact ff_TurnRule_barred T _ (by decide) C e
theorem fa_members_54 (T : SaysX fa fn exL fwL erL K mg) : ∀ c ∈ [54], ∀ C, (cnL K).a c = some C → Cls K C ∧ NoAttr K C "members" := fun c m C e => by
  simp only [List.mem_cons, List.not_mem_nil, or_false] at m
  rcases m with rfl
  · exact ff_TurnRule_members T _ (by decide) C e
theorem fa_links_40 (T : SaysX fa fn exL fwL erL K mg) : ∀ c ∈ [40], ∀ C, (cnL K).a c = some C → Cls K C ∧ NoAttr K C "links" := fun c m C e => by
  simp only [List.mem_cons, List.not_mem_nil, or_false] at m
  rcases m with rfl
  · exact ff_Links_links T _ (by decide) C e
theorem fa_names_64_40 (T : SaysX fa fn exL fwL erL K mg) : ∀ c ∈ [64, 40], ∀ C, (cnL K).a c = some C → Cls K C ∧ NoAttr K C "names" := fun c m C e => by
  simp only [List.mem_cons, List.not_mem_nil, or_false] at m
  rcases m with rfl | rfl
  · exact ff_Tolls_names T _ (by decide) C e
  · exact ff_Links_names T _ (by decide) C e
theorem fa__prices_64 (T : SaysX fa fn exL fwL erL K mg) : ∀ c ∈ [64], ∀ C, (cnL K).a c = some C → Cls K C ∧ NoAttr K C "_prices" := fun c m C e => by
  simp only [List.mem_cons, List.not_mem_nil, or_false] at m
  rcases m with rfl
  · exact ff_Tolls__prices T _ (by decide) C e
theorem fa_names_40 (T : SaysX fa fn exL fwL erL K mg) : ∀ c ∈ [40], ∀ C, (cnL K).a c = some C → Cls K C ∧ NoAttr K C "names" := fun c m C e => by
  simp only [List.mem_cons, List.not_mem_nil, or_false] at m
  rcases m with rfl
  · exact ff_Links_names T _ (by decide) C e
theorem fa_bids_43 (T : SaysX fa fn exL fwL erL K mg) : ∀ c ∈ [43], ∀ C, (cnL K).a c = some C → Cls K C ∧ NoAttr K C "bids" := fun c m C e => by
  simp only [List.mem_cons, List.not_mem_nil, or_false] at m
  rcases m with rfl
  · exact ff_Page_bids T _ (by decide) C e
theorem fa_followers_43 (T : SaysX fa fn exL fwL erL K mg) : ∀ c ∈ [43], ∀ C, (cnL K).a c = some C → Cls K C ∧ NoAttr K C "followers" := fun c m C e => by
  simp only [List.mem_cons, List.not_mem_nil, or_false] at m
  rcases m with rfl
  · exact ff_Page_followers T _ (by decide) C e
theorem fa_name_43 (T : SaysX fa fn exL fwL erL K mg) : ∀ c ∈ [43], ∀ C, (cnL K).a c = some C → Cls K C ∧ NoAttr K C "name" := fun c m C e => by
  simp only [List.mem_cons, List.not_mem_nil, or_false] at m
  rcases m with rfl
  · exact ff_Page_name T _ (by decide) C e
theorem fa__pages_44 (T : SaysX fa fn exL fwL erL K mg) : ∀ c ∈ [44], ∀ C, (cnL K).a c = some C → Cls K C ∧ NoAttr K C "_pages" := fun c m C e => by
  simp only [List.mem_cons, List.not_mem_nil, or_false] at m
  rcases m with rfl
  · exact ff_Book__pages T _ (by decide) C e
theorem mn_moves : ∀ k, k < nF → nmOf fldL k ≠ "moves" := fun k _ => nm_ne (by decide +kernel) (by decide +kernel) k
theorem mn_candidates : ∀ k, k < nF → nmOf fldL k ≠ "candidates" := fun k _ => nm_ne (by decide +kernel) (by decide +kernel) k
theorem mn_lets : ∀ k, k < nF → nmOf fldL k ≠ "lets" := fun k _ => nm_ne (by decide +kernel) (by decide +kernel) k
theorem mn_closed : ∀ k, k < nF → nmOf fldL k ≠ "closed" := fun k _ => nm_ne (by decide +kernel) (by decide +kernel) k
theorem mn_entries : ∀ k, k < nF → nmOf fldL k ≠ "entries" := fun k _ => nm_ne (by decide +kernel) (by decide +kernel) k
theorem mn_power : ∀ k, k < nF → nmOf fldL k ≠ "power" := fun k _ => nm_ne (by decide +kernel) (by decide +kernel) k
theorem mn__after : ∀ k, k < nF → nmOf fldL k ≠ "_after" := fun k _ => nm_ne (by decide +kernel) (by decide +kernel) k
theorem mn__row : ∀ k, k < nF → nmOf fldL k ≠ "_row" := fun k _ => nm_ne (by decide +kernel) (by decide +kernel) k
theorem mn_tolls : ∀ k, k < nF → nmOf fldL k ≠ "tolls" := fun k _ => nm_ne (by decide +kernel) (by decide +kernel) k
theorem mn_page : ∀ k, k < nF → nmOf fldL k ≠ "page" := fun k _ => nm_ne (by decide +kernel) (by decide +kernel) k
theorem sf_Tolls (T : SaysX fa fn exL fwL erL K mg) : ∀ C, (cnL K).a 64 = some C → PySem.W.selfFirst K C = true := fun C e => by
  cases e
  exact List.all_eq_true.mp T.u _ (by simp)
abbrev N_Tolls_same : List Str := ["names", "name"]
theorem sc_Tolls_same : FnScope N_Tolls_same ["names"] (defScope s_Tolls_same) := ⟨rfl, rfl, rfl, by decide +kernel, rfl, by decide +kernel, by decide +kernel⟩
theorem kb_Tolls_same_1 {K : PySem.W.Frag} {ca : Cn} {f : Addr} {fd : FuncData} (F : FD K "same" "Tolls.same" s_Tolls_same [] [] f fd) : KB K ca fd ["names"] 1 [] (gDk [0] []) := kb_n (kd := []) F 1 [] [0] fun _ _ _ _ _ _ us ws l1 l2 => match us, l1, ws, l2 with | [_a0], _, [], _ => rfl
abbrev N__law_cell : List Str := ["script", "k", "far", "j"]
theorem sc__law_cell : FnScope N__law_cell ["script", "k"] (defScope s__law_cell) := ⟨rfl, rfl, rfl, by decide +kernel, rfl, by decide +kernel, by decide +kernel⟩
theorem b__law_cell {K : PySem.W.Frag} {f : Addr} {fd : FuncData} (F : FD K "_law_cell" "_law_cell" s__law_cell [] [] f fd) : Binds K fd ["script", "k"] [] := FunD.bindsN (ps := ["script", "k"]) F fun _ _ _ _ _ _ us hl => match us, hl with | [_a0, _a1], _ => rfl
abbrev N__law_free : List Str := ["row", "members", "shut", "free", "member", "wished", "who", "bid"]
theorem sc__law_free : FnScope N__law_free ["row", "members", "shut"] (defScope s__law_free) := ⟨rfl, rfl, rfl, by decide +kernel, rfl, by decide +kernel, by decide +kernel⟩
theorem b__law_free {K : PySem.W.Frag} {f : Addr} {fd : FuncData} (F : FD K "_law_free" "_law_free" s__law_free [] [] f fd) : Binds K fd ["row", "members", "shut"] [] := FunD.bindsN (ps := ["row", "members", "shut"]) F fun _ _ _ _ _ _ us hl => match us, hl with | [_a0, _a1, _a2], _ => rfl
abbrev N__law_part : List Str := ["pool", "spot", "under", "size"]
theorem sc__law_part : FnScope N__law_part ["pool", "spot", "under", "size"] (defScope s__law_part) := ⟨rfl, rfl, rfl, by decide +kernel, rfl, by decide +kernel, by decide +kernel⟩
theorem b__law_part {K : PySem.W.Frag} {f : Addr} {fd : FuncData} (F : FD K "_law_part" "_law_part" s__law_part [] [] f fd) : Binds K fd ["pool", "spot", "under", "size"] [] := FunD.bindsN (ps := ["pool", "spot", "under", "size"]) F fun _ _ _ _ _ _ us hl => match us, hl with | [_a0, _a1, _a2, _a3], _ => rfl
abbrev N__law_names : List Str := ["pool", "spot", "number", "letters", "stem", "k", "turn", "cut", "first", "short", "tail", "names", "mark"]
theorem sc__law_names : FnScope N__law_names ["pool", "spot", "number"] (defScope s__law_names) := ⟨rfl, rfl, rfl, by decide +kernel, rfl, by decide +kernel, by decide +kernel⟩
theorem b__law_names {K : PySem.W.Frag} {f : Addr} {fd : FuncData} (F : FD K "_law_names" "_law_names" s__law_names [] [] f fd) : Binds K fd ["pool", "spot", "number"] [] := FunD.bindsN (ps := ["pool", "spot", "number"]) F fun _ _ _ _ _ _ us hl => match us, hl with | [_a0, _a1, _a2], _ => rfl
abbrev N__law_mixed : List Str := ["cell", "k", "x"]
theorem sc__law_mixed : FnScope N__law_mixed ["cell", "k"] (defScope s__law_mixed) := ⟨rfl, rfl, rfl, by decide +kernel, rfl, by decide +kernel, by decide +kernel⟩
theorem b__law_mixed {K : PySem.W.Frag} {f : Addr} {fd : FuncData} (F : FD K "_law_mixed" "_law_mixed" s__law_mixed [] [] f fd) : Binds K fd ["cell", "k"] [] := FunD.bindsN (ps := ["cell", "k"]) F fun _ _ _ _ _ _ us hl => match us, hl with | [_a0, _a1], _ => rfl
abbrev N__law_pool : List Str := ["cell", "number", "rest", "deep", "pool", "k"]
theorem sc__law_pool : FnScope N__law_pool ["cell", "number"] (defScope s__law_pool) := ⟨rfl, rfl, rfl, by decide +kernel, rfl, by decide +kernel, by decide +kernel⟩
theorem b__law_pool {K : PySem.W.Frag} {f : Addr} {fd : FuncData} (F : FD K "_law_pool" "_law_pool" s__law_pool [] [] f fd) : Binds K fd ["cell", "number"] [] := FunD.bindsN (ps := ["cell", "number"]) F fun _ _ _ _ _ _ us hl => match us, hl with | [_a0, _a1], _ => rfl
abbrev N__law_some : List Str := ["pool", "spot", "names", "some", "k"]
theorem sc__law_some : FnScope N__law_some ["pool", "spot", "names"] (defScope s__law_some) := ⟨rfl, rfl, rfl, by decide +kernel, rfl, by decide +kernel, by decide +kernel⟩
theorem b__law_some {K : PySem.W.Frag} {f : Addr} {fd : FuncData} (F : FD K "_law_some" "_law_some" s__law_some [] [] f fd) : Binds K fd ["pool", "spot", "names"] [] := FunD.bindsN (ps := ["pool", "spot", "names"]) F fun _ _ _ _ _ _ us hl => match us, hl with | [_a0, _a1, _a2], _ => rfl
abbrev N__law_pages : List Str := ["pool", "spot", "members", "names", "pages", "j", "wishers", "bids", "k", "followers"]
theorem sc__law_pages : FnScope N__law_pages ["pool", "spot", "members", "names"] (defScope s__law_pages) := ⟨rfl, rfl, rfl, by decide +kernel, rfl, by decide +kernel, by decide +kernel⟩
theorem b__law_pages {K : PySem.W.Frag} {f : Addr} {fd : FuncData} (F : FD K "_law_pages" "_law_pages" s__law_pages [] [] f fd) : Binds K fd ["pool", "spot", "members", "names"] [] := FunD.bindsN (ps := ["pool", "spot", "members", "names"]) F fun _ _ _ _ _ _ us hl => match us, hl with | [_a0, _a1, _a2, _a3], _ => rfl
abbrev N__law_shuffled : List Str := ["pool", "spot", "row", "left", "taken", "k"]
theorem sc__law_shuffled : FnScope N__law_shuffled ["pool", "spot", "row"] (defScope s__law_shuffled) := ⟨rfl, rfl, rfl, by decide +kernel, rfl, by decide +kernel, by decide +kernel⟩
theorem b__law_shuffled {K : PySem.W.Frag} {f : Addr} {fd : FuncData} (F : FD K "_law_shuffled" "_law_shuffled" s__law_shuffled [] [] f fd) : Binds K fd ["pool", "spot", "row"] [] := FunD.bindsN (ps := ["pool", "spot", "row"]) F fun _ _ _ _ _ _ us hl => match us, hl with | [_a0, _a1, _a2], _ => rfl
abbrev N__law_rows : List Str := ["head", "members", "titles", "rows", "title", "bids", "followers", "offered", "member", "bid"]
theorem sc__law_rows : FnScope N__law_rows ["head", "members", "titles"] (defScope s__law_rows) := ⟨rfl, rfl, rfl, by decide +kernel, rfl, by decide +kernel, by decide +kernel⟩
theorem b__law_rows {K : PySem.W.Frag} {f : Addr} {fd : FuncData} (F : FD K "_law_rows" "_law_rows" s__law_rows [] [] f fd) : Binds K fd ["head", "members", "titles"] [] := FunD.bindsN (ps := ["head", "members", "titles"]) F fun _ _ _ _ _ _ us hl => match us, hl with | [_a0, _a1, _a2], _ => rfl
abbrev N_TurnRule_candidates : List Str := ["self", "page", "member"]
theorem sc_TurnRule_candidates : FnScope N_TurnRule_candidates ["self", "page"] (defScope s_TurnRule_candidates) := ⟨rfl, rfl, rfl, by decide +kernel, rfl, by decide +kernel, by decide +kernel⟩
theorem kb_TurnRule_candidates_0_page {K : PySem.W.Frag} {ca : Cn} {f : Addr} {fd : FuncData} (F : FD K "candidates" "Rule.candidates" s_TurnRule_candidates [] [] f fd) : KBI K ca fd ["self", "page"] 0 ["page"] (gDk [0] []) := kbi_n (kd := []) F 0 ["page"] [1] (by decide) fun _ _ _ _ _ _ us ws l1 l2 => match us, l1, ws, l2 with | [_a0], _, [_w0], _ => rfl
theorem b_TurnRule_candidates {K : PySem.W.Frag} {f : Addr} {fd : FuncData} (F : FD K "candidates" "Rule.candidates" s_TurnRule_candidates [] [] f fd) : Binds K fd ["self", "page"] [] := FunD.bindsN (ps := ["self", "page"]) F fun _ _ _ _ _ _ us hl => match us, hl with | [_a0, _a1], _ => rfl
abbrev N_TurnRule_moves : List Str := ["self", "page"]
theorem sc_TurnRule_moves : FnScope N_TurnRule_moves ["self", "page"] (defScope s_TurnRule_moves) := ⟨rfl, rfl, rfl, by decide +kernel, rfl, by decide +kernel, by decide +kernel⟩
theorem kb_TurnRule_moves_0_page {K : PySem.W.Frag} {ca : Cn} {f : Addr} {fd : FuncData} (F : FD K "moves" "TurnRule.moves" s_TurnRule_moves [] [] f fd) : KBI K ca fd ["self", "page"] 0 ["page"] (gDk [0] []) := kbi_n (kd := []) F 0 ["page"] [1] (by decide) fun _ _ _ _ _ _ us ws l1 l2 => match us, l1, ws, l2 with | [_a0], _, [_w0], _ => rfl
theorem b_TurnRule_moves {K : PySem.W.Frag} {f : Addr} {fd : FuncData} (F : FD K "moves" "TurnRule.moves" s_TurnRule_moves [] [] f fd) : Binds K fd ["self", "page"] [] := FunD.bindsN (ps := ["self", "page"]) F fun _ _ _ _ _ _ us hl => match us, hl with | [_a0, _a1], _ => rfl
abbrev N_TurnRule_lets : List Str := ["self", "page", "move"]
theorem sc_TurnRule_lets : FnScope N_TurnRule_lets ["self", "page", "move"] (defScope s_TurnRule_lets) := ⟨rfl, rfl, rfl, by decide +kernel, rfl, by decide +kernel, by decide +kernel⟩
theorem kb_TurnRule_lets_0_page_move {K : PySem.W.Frag} {ca : Cn} {f : Addr} {fd : FuncData} (F : FD K "lets" "TurnRule.lets" s_TurnRule_lets [] [] f fd) : KBI K ca fd ["self", "page", "move"] 0 ["page", "move"] (gDk [0, 1] []) := kbi_n (kd := []) F 0 ["page", "move"] [1, 2] (by decide) fun _ _ _ _ _ _ us ws l1 l2 => match us, l1, ws, l2 with | [_a0], _, [_w0, _w1], _ => rfl
theorem b_TurnRule_lets {K : PySem.W.Frag} {f : Addr} {fd : FuncData} (F : FD K "lets" "TurnRule.lets" s_TurnRule_lets [] [] f fd) : Binds K fd ["self", "page", "move"] [] := FunD.bindsN (ps := ["self", "page", "move"]) F fun _ _ _ _ _ _ us hl => match us, hl with | [_a0, _a1, _a2], _ => rfl
abbrev N__law_spoil : List Str := ["rule", "sheet", "free", "told", "choice", "given"]
theorem sc__law_spoil : FnScope N__law_spoil ["rule", "sheet", "free"] (defScope s__law_spoil) := ⟨rfl, rfl, rfl, by decide +kernel, rfl, by decide +kernel, by decide +kernel⟩
theorem b__law_spoil {K : PySem.W.Frag} {f : Addr} {fd : FuncData} (F : FD K "_law_spoil" "_law_spoil" s__law_spoil [] [] f fd) : Binds K fd ["rule", "sheet", "free"] [] := FunD.bindsN (ps := ["rule", "sheet", "free"]) F fun _ _ _ _ _ _ us hl => match us, hl with | [_a0, _a1, _a2], _ => rfl
abbrev N__law_integer : List Str := ["got"]
theorem sc__law_integer : FnScope N__law_integer ["got"] (defScope s__law_integer) := ⟨rfl, rfl, rfl, by decide +kernel, rfl, by decide +kernel, by decide +kernel⟩
theorem b__law_integer {K : PySem.W.Frag} {f : Addr} {fd : FuncData} (F : FD K "_law_integer" "_law_integer" s__law_integer [] [] f fd) : Binds K fd ["got"] [] := FunD.bindsN (ps := ["got"]) F fun _ _ _ _ _ _ us hl => match us, hl with | [_a0], _ => rfl
abbrev N__law_same : List Str := ["got", "wanted", "k"]
theorem sc__law_same : FnScope N__law_same ["got", "wanted"] (defScope s__law_same) := ⟨rfl, rfl, rfl, by decide +kernel, rfl, by decide +kernel, by decide +kernel⟩
theorem b__law_same {K : PySem.W.Frag} {f : Addr} {fd : FuncData} (F : FD K "_law_same" "_law_same" s__law_same [] [] f fd) : Binds K fd ["got", "wanted"] [] := FunD.bindsN (ps := ["got", "wanted"]) F fun _ _ _ _ _ _ us hl => match us, hl with | [_a0, _a1], _ => rfl
abbrev N__law_tells : List Str := ["rule", "sheet", "free", "choice"]
theorem sc__law_tells : FnScope N__law_tells ["rule", "sheet", "free"] (defScope s__law_tells) := ⟨rfl, rfl, rfl, by decide +kernel, rfl, by decide +kernel, by decide +kernel⟩
theorem b__law_tells {K : PySem.W.Frag} {f : Addr} {fd : FuncData} (F : FD K "_law_tells" "_law_tells" s__law_tells [] [] f fd) : Binds K fd ["rule", "sheet", "free"] [] := FunD.bindsN (ps := ["rule", "sheet", "free"]) F fun _ _ _ _ _ _ us hl => match us, hl with | [_a0, _a1, _a2], _ => rfl
abbrev N__law_links : List Str := ["pool", "spot", "members", "number", "ties", "k", "giver", "taker", "toll"]
theorem sc__law_links : FnScope N__law_links ["pool", "spot", "members", "number"] (defScope s__law_links) := ⟨rfl, rfl, rfl, by decide +kernel, rfl, by decide +kernel, by decide +kernel⟩
theorem b__law_links {K : PySem.W.Frag} {f : Addr} {fd : FuncData} (F : FD K "_law_links" "_law_links" s__law_links [] [] f fd) : Binds K fd ["pool", "spot", "members", "number"] [] := FunD.bindsN (ps := ["pool", "spot", "members", "number"]) F fun _ _ _ _ _ _ us hl => match us, hl with | [_a0, _a1, _a2, _a3], _ => rfl
abbrev N_check_barred : List Str := ["members", "barred", "index", "member"]
theorem sc_check_barred : FnScope N_check_barred ["members", "barred"] (defScope s_check_barred) := ⟨rfl, rfl, rfl, by decide +kernel, rfl, by decide +kernel, by decide +kernel⟩
theorem b_check_barred {K : PySem.W.Frag} {f : Addr} {fd : FuncData} (F : FD K "check_barred" "check_barred" s_check_barred [] [] f fd) : Binds K fd ["members", "barred"] [] := FunD.bindsN (ps := ["members", "barred"]) F fun _ _ _ _ _ _ us hl => match us, hl with | [_a0, _a1], _ => rfl
abbrev N_is_name : List Str := ["word", "letter"]
theorem sc_is_name : FnScope N_is_name ["word"] (defScope s_is_name) := ⟨rfl, rfl, rfl, by decide +kernel, rfl, by decide +kernel, by decide +kernel⟩
theorem b_is_name {K : PySem.W.Frag} {f : Addr} {fd : FuncData} (F : FD K "is_name" "is_name" s_is_name [] [] f fd) : Binds K fd ["word"] [] := FunD.bindsN (ps := ["word"]) F fun _ _ _ _ _ _ us hl => match us, hl with | [_a0], _ => rfl
abbrev N_check_names : List Str := ["names", "most", "index", "name"]
theorem sc_check_names : FnScope N_check_names ["names", "most"] (defScope s_check_names) := ⟨rfl, rfl, rfl, by decide +kernel, rfl, by decide +kernel, by decide +kernel⟩
theorem b_check_names {K : PySem.W.Frag} {f : Addr} {fd : FuncData} (F : FD K "check_names" "check_names" s_check_names [] [] f fd) : Binds K fd ["names", "most"] [] := FunD.bindsN (ps := ["names", "most"]) F fun _ _ _ _ _ _ us hl => match us, hl with | [_a0, _a1], _ => rfl
abbrev N_check_range : List Str := ["number", "low", "high"]
theorem sc_check_range : FnScope N_check_range ["number", "low", "high"] (defScope s_check_range) := ⟨rfl, rfl, rfl, by decide +kernel, rfl, by decide +kernel, by decide +kernel⟩
theorem b_check_range {K : PySem.W.Frag} {f : Addr} {fd : FuncData} (F : FD K "check_range" "check_range" s_check_range [] [] f fd) : Binds K fd ["number", "low", "high"] [] := FunD.bindsN (ps := ["number", "low", "high"]) F fun _ _ _ _ _ _ us hl => match us, hl with | [_a0, _a1, _a2], _ => rfl
abbrev N_Links___iter__ : List Str := ["self"]
theorem sc_Links___iter__ : FnScope N_Links___iter__ ["self"] (defScope s_Links___iter__) := ⟨rfl, rfl, rfl, by decide +kernel, rfl, by decide +kernel, by decide +kernel⟩
theorem b_Links___iter__ {K : PySem.W.Frag} {f : Addr} {fd : FuncData} (F : FD K "__iter__" "Links.__iter__" s_Links___iter__ [] [] f fd) : Binds K fd ["self"] [] := FunD.bindsN (ps := ["self"]) F fun _ _ _ _ _ _ us hl => match us, hl with | [_a0], _ => rfl
abbrev N_check_known : List Str := ["names", "asked", "name"]
theorem sc_check_known : FnScope N_check_known ["names", "asked"] (defScope s_check_known) := ⟨rfl, rfl, rfl, by decide +kernel, rfl, by decide +kernel, by decide +kernel⟩
theorem b_check_known {K : PySem.W.Frag} {f : Addr} {fd : FuncData} (F : FD K "check_known" "check_known" s_check_known [] [] f fd) : Binds K fd ["names", "asked"] [] := FunD.bindsN (ps := ["names", "asked"]) F fun _ _ _ _ _ _ us hl => match us, hl with | [_a0, _a1], _ => rfl
abbrev N_checked_names : List Str := ["names", "most", "hook", "at", "name"]
theorem sc_checked_names : FnScope N_checked_names ["names", "most", "hook"] (defScope s_checked_names) := ⟨rfl, rfl, rfl, by decide +kernel, rfl, by decide +kernel, by decide +kernel⟩
theorem kb_checked_names_2 {K : PySem.W.Frag} {ca : Cn} {f : Addr} {fd : FuncData} (F : FD K "checked_names" "checked_names" s_checked_names [] [("hook", .bl false)] f fd) : KB K ca fd ["names", "most", "hook"] 2 [] (gDk [0, 1, 2] [.bl false]) := kb_k (kd := [("hook", .bl false)]) F 2 [] [0, 1, 2] [("hook", .bl false)] (by simp) (by decide +kernel) rfl fun _ _ _ _ _ _ us mv ws l1 l2 l3 => match us, l1, mv, l2, ws, l3 with | [_a0, _a1], _, [_m0], _, [], _ => ⟨_, _, _, _, _, _, rfl, rfl, rfl⟩
theorem kb_checked_names_2_hook {K : PySem.W.Frag} {ca : Cn} {f : Addr} {fd : FuncData} (F : FD K "checked_names" "checked_names" s_checked_names [] [("hook", .bl false)] f fd) : KB K ca fd ["names", "most", "hook"] 2 ["hook"] (gDk [0, 1, 2] []) := kb_n (kd := [("hook", .bl false)]) F 2 ["hook"] [0, 1, 2] fun _ _ _ _ _ _ us ws l1 l2 => match us, l1, ws, l2 with | [_a0, _a1], _, [_w0], _ => rfl
abbrev N_least : List Str := ["prices", "price"]
theorem sc_least : FnScope N_least ["prices"] (defScope s_least) := ⟨rfl, rfl, rfl, by decide +kernel, rfl, by decide +kernel, by decide +kernel⟩
theorem b_least {K : PySem.W.Frag} {f : Addr} {fd : FuncData} (F : FD K "least" "least" s_least [] [] f fd) : Binds K fd ["prices"] [] := FunD.bindsN (ps := ["prices"]) F fun _ _ _ _ _ _ us hl => match us, hl with | [_a0], _ => rfl
abbrev N_Tolls___init__ : List Str := ["self", "names", "entries", "prices", "giver", "taker", "toll"]
theorem sc_Tolls___init__ : FnScope N_Tolls___init__ ["self", "names", "entries"] (defScope s_Tolls___init__) := ⟨rfl, rfl, rfl, by decide +kernel, rfl, by decide +kernel, by decide +kernel⟩
theorem kb_Tolls___init___2 {K : PySem.W.Frag} {ca : Cn} {f : Addr} {fd : FuncData} (F : FDI K "Tolls.__init__" s_Tolls___init__ [.tp0] [] f fd) : KBI K ca fd ["self", "names", "entries"] 2 [] (gDk [0, 1] [.tp0]) := kbi_dD (dd := [.tp0]) (kd := []) F 2 [] [1, 2] (by decide) (by simp) fun _ _ _ _ _ _ _ us its ws l1 l2 l3 => match us, l1, its, l2, ws, l3 with | [_a0, _a1, _a2], _, [_i0], _, [], _ => ⟨_, rfl, rfl⟩
abbrev N_check_same_names : List Str := ["first", "second"]
theorem sc_check_same_names : FnScope N_check_same_names ["first", "second"] (defScope s_check_same_names) := ⟨rfl, rfl, rfl, by decide +kernel, rfl, by decide +kernel, by decide +kernel⟩
theorem b_check_same_names {K : PySem.W.Frag} {f : Addr} {fd : FuncData} (F : FD K "check_same_names" "check_same_names" s_check_same_names [] [] f fd) : Binds K fd ["first", "second"] [] := FunD.bindsN (ps := ["first", "second"]) F fun _ _ _ _ _ _ us hl => match us, hl with | [_a0, _a1], _ => rfl
abbrev N_Tolls_entries : List Str := ["self", "pairs", "giver", "taker"]
theorem sc_Tolls_entries : FnScope N_Tolls_entries ["self"] (defScope s_Tolls_entries) := ⟨rfl, rfl, rfl, by decide +kernel, rfl, by decide +kernel, by decide +kernel⟩
theorem b_Tolls_entries {K : PySem.W.Frag} {f : Addr} {fd : FuncData} (F : FD K "entries" "Tolls.entries" s_Tolls_entries [] [] f fd) : Binds K fd ["self"] [] := FunD.bindsN (ps := ["self"]) F fun _ _ _ _ _ _ us hl => match us, hl with | [_a0], _ => rfl
abbrev N_Tolls___or__ : List Str := ["self", "other"]
theorem sc_Tolls___or__ : FnScope N_Tolls___or__ ["self", "other"] (defScope s_Tolls___or__) := ⟨rfl, rfl, rfl, by decide +kernel, rfl, by decide +kernel, by decide +kernel⟩
theorem b_Tolls___or__ {K : PySem.W.Frag} {f : Addr} {fd : FuncData} (F : FD K "__or__" "Tolls.__or__" s_Tolls___or__ [] [] f fd) : Binds K fd ["self", "other"] [] := FunD.bindsN (ps := ["self", "other"]) F fun _ _ _ _ _ _ us hl => match us, hl with | [_a0, _a1], _ => rfl
abbrev N_table_of : List Str := ["names", "rows", "entries", "giver", "row", "taker", "price"]
theorem sc_table_of : FnScope N_table_of ["names", "rows"] (defScope s_table_of) := ⟨rfl, rfl, rfl, by decide +kernel, rfl, by decide +kernel, by decide +kernel⟩
theorem b_table_of {K : PySem.W.Frag} {f : Addr} {fd : FuncData} (F : FD K "table_of" "table_of" s_table_of [] [] f fd) : Binds K fd ["names", "rows"] [] := FunD.bindsN (ps := ["names", "rows"]) F fun _ _ _ _ _ _ us hl => match us, hl with | [_a0, _a1], _ => rfl
abbrev N_together : List Str := ["price", "other"]
theorem sc_together : FnScope N_together ["price", "other"] (defScope s_together) := ⟨rfl, rfl, rfl, by decide +kernel, rfl, by decide +kernel, by decide +kernel⟩
theorem b_together {K : PySem.W.Frag} {f : Addr} {fd : FuncData} (F : FD K "together" "together" s_together [] [] f fd) : Binds K fd ["price", "other"] [] := FunD.bindsN (ps := ["price", "other"]) F fun _ _ _ _ _ _ us hl => match us, hl with | [_a0, _a1], _ => rfl
abbrev N_Tolls__after : List Str := ["self", "prices", "taker", "giver", "price"]
theorem sc_Tolls__after : FnScope N_Tolls__after ["self", "prices"] (defScope s_Tolls__after) := ⟨rfl, rfl, rfl, by decide +kernel, rfl, by decide +kernel, by decide +kernel⟩
theorem b_Tolls__after {K : PySem.W.Frag} {f : Addr} {fd : FuncData} (F : FD K "_after" "Tolls._after" s_Tolls__after [] [] f fd) : Binds K fd ["self", "prices"] [] := FunD.bindsN (ps := ["self", "prices"]) F fun _ _ _ _ _ _ us hl => match us, hl with | [_a0, _a1], _ => rfl
abbrev N_Tolls__row : List Str := ["self", "giver", "taker"]
theorem sc_Tolls__row : FnScope N_Tolls__row ["self", "giver"] (defScope s_Tolls__row) := ⟨rfl, rfl, rfl, by decide +kernel, rfl, by decide +kernel, by decide +kernel⟩
theorem b_Tolls__row {K : PySem.W.Frag} {f : Addr} {fd : FuncData} (F : FD K "_row" "Tolls._row" s_Tolls__row [] [] f fd) : Binds K fd ["self", "giver"] [] := FunD.bindsN (ps := ["self", "giver"]) F fun _ _ _ _ _ _ us hl => match us, hl with | [_a0, _a1], _ => rfl
abbrev N_Tolls___mul__ : List Str := ["self", "other", "giver"]
theorem sc_Tolls___mul__ : FnScope N_Tolls___mul__ ["self", "other"] (defScope s_Tolls___mul__) := ⟨rfl, rfl, rfl, by decide +kernel, rfl, by decide +kernel, by decide +kernel⟩
theorem b_Tolls___mul__ {K : PySem.W.Frag} {f : Addr} {fd : FuncData} (F : FD K "__mul__" "Tolls.__mul__" s_Tolls___mul__ [] [] f fd) : Binds K fd ["self", "other"] [] := FunD.bindsN (ps := ["self", "other"]) F fun _ _ _ _ _ _ us hl => match us, hl with | [_a0, _a1], _ => rfl
abbrev N_Tolls_power : List Str := ["self", "times", "product", "factor"]
theorem sc_Tolls_power : FnScope N_Tolls_power ["self", "times"] (defScope s_Tolls_power) := ⟨rfl, rfl, rfl, by decide +kernel, rfl, by decide +kernel, by decide +kernel⟩
theorem b_Tolls_power {K : PySem.W.Frag} {f : Addr} {fd : FuncData} (F : FD K "power" "Tolls.power" s_Tolls_power [] [] f fd) : Binds K fd ["self", "times"] [] := FunD.bindsN (ps := ["self", "times"]) F fun _ _ _ _ _ _ us hl => match us, hl with | [_a0, _a1], _ => rfl
abbrev N_Tolls_closed : List Str := ["self", "steps"]
theorem sc_Tolls_closed : FnScope N_Tolls_closed ["self"] (defScope s_Tolls_closed) := ⟨rfl, rfl, rfl, by decide +kernel, rfl, by decide +kernel, by decide +kernel⟩
theorem b_Tolls_closed {K : PySem.W.Frag} {f : Addr} {fd : FuncData} (F : FD K "closed" "Tolls.closed" s_Tolls_closed [] [] f fd) : Binds K fd ["self"] [] := FunD.bindsN (ps := ["self"]) F fun _ _ _ _ _ _ us hl => match us, hl with | [_a0], _ => rfl
abbrev N_Links_tolls : List Str := ["self"]
theorem sc_Links_tolls : FnScope N_Links_tolls ["self"] (defScope s_Links_tolls) := ⟨rfl, rfl, rfl, by decide +kernel, rfl, by decide +kernel, by decide +kernel⟩
theorem b_Links_tolls {K : PySem.W.Frag} {f : Addr} {fd : FuncData} (F : FD K "tolls" "Links.tolls" s_Links_tolls [] [] f fd) : Binds K fd ["self"] [] := FunD.bindsN (ps := ["self"]) F fun _ _ _ _ _ _ us hl => match us, hl with | [_a0], _ => rfl
abbrev N_Links___init__ : List Str := ["self", "names", "links", "giver", "taker", "toll"]
theorem sc_Links___init__ : FnScope N_Links___init__ ["self", "names", "links"] (defScope s_Links___init__) := ⟨rfl, rfl, rfl, by decide +kernel, rfl, by decide +kernel, by decide +kernel⟩
theorem kb_Links___init___2 {K : PySem.W.Frag} {ca : Cn} {f : Addr} {fd : FuncData} (F : FDI K "Links.__init__" s_Links___init__ [.tp0] [] f fd) : KBI K ca fd ["self", "names", "links"] 2 [] (gDk [0, 1] [.tp0]) := kbi_dD (dd := [.tp0]) (kd := []) F 2 [] [1, 2] (by decide) (by simp) fun _ _ _ _ _ _ _ us its ws l1 l2 l3 => match us, l1, its, l2, ws, l3 with | [_a0, _a1, _a2], _, [_i0], _, [], _ => ⟨_, rfl, rfl⟩
abbrev N_hand_tolls : List Str := ["links", "barred", "used", "closed", "found", "giver", "taker", "toll", "link"]
theorem sc_hand_tolls : FnScope N_hand_tolls ["links", "barred"] (defScope s_hand_tolls) := ⟨rfl, rfl, rfl, by decide +kernel, rfl, by decide +kernel, by decide +kernel⟩
theorem b_hand_tolls {K : PySem.W.Frag} {f : Addr} {fd : FuncData} (F : FD K "hand_tolls" "hand_tolls" s_hand_tolls [] [] f fd) : Binds K fd ["links", "barred"] [] := FunD.bindsN (ps := ["links", "barred"]) F fun _ _ _ _ _ _ us hl => match us, hl with | [_a0, _a1], _ => rfl
abbrev N_TurnRule_Rule___init__ : List Str := ["self", "name", "members", "limit", "barred", "links", "deposit", "fee", "start", "kept", "number", "member", "tolls", "other"]
theorem sc_TurnRule_Rule___init__ : FnScope N_TurnRule_Rule___init__ ["self", "name", "members", "limit", "barred", "links", "deposit", "fee", "start"] (defScope s_TurnRule_Rule___init__) := ⟨rfl, rfl, rfl, by decide +kernel, rfl, by decide +kernel, by decide +kernel⟩
theorem kb_TurnRule_Rule___init___2_limit_barred_links_deposit_fee_start {K : PySem.W.Frag} {ca : Cn} {f : Addr} {fd : FuncData} (F : FDI K "Rule.__init__" s_TurnRule_Rule___init__ [] [] f fd) : KBI K ca fd ["self", "name", "members", "limit", "barred", "links", "deposit", "fee", "start"] 2 ["limit", "barred", "links", "deposit", "fee", "start"] (gDk [0, 1, 2, 3, 4, 5, 6, 7] []) := kbi_n (kd := []) F.fd 2 ["limit", "barred", "links", "deposit", "fee", "start"] [1, 2, 3, 4, 5, 6, 7, 8] (by decide) fun _ _ _ _ _ _ us ws l1 l2 => match us, l1, ws, l2 with | [_a0, _a1, _a2], _, [_w0, _w1, _w2, _w3, _w4, _w5], _ => rfl
abbrev N__law_turn_rule : List Str := ["pool", "name", "members", "shut", "cap", "ties"]
theorem sc__law_turn_rule : FnScope N__law_turn_rule ["pool", "name", "members"] (defScope s__law_turn_rule) := ⟨rfl, rfl, rfl, by decide +kernel, rfl, by decide +kernel, by decide +kernel⟩
theorem b__law_turn_rule {K : PySem.W.Frag} {f : Addr} {fd : FuncData} (F : FD K "_law_turn_rule" "_law_turn_rule" s__law_turn_rule [] [] f fd) : Binds K fd ["pool", "name", "members"] [] := FunD.bindsN (ps := ["pool", "name", "members"]) F fun _ _ _ _ _ _ us hl => match us, hl with | [_a0, _a1, _a2], _ => rfl
abbrev N_are_bids : List Str := ["members", "bids", "seen", "member", "bid"]
theorem sc_are_bids : FnScope N_are_bids ["members", "bids"] (defScope s_are_bids) := ⟨rfl, rfl, rfl, by decide +kernel, rfl, by decide +kernel, by decide +kernel⟩
theorem b_are_bids {K : PySem.W.Frag} {f : Addr} {fd : FuncData} (F : FD K "are_bids" "are_bids" s_are_bids [] [] f fd) : Binds K fd ["members", "bids"] [] := FunD.bindsN (ps := ["members", "bids"]) F fun _ _ _ _ _ _ us hl => match us, hl with | [_a0, _a1], _ => rfl
abbrev N_are_known : List Str := ["names", "known", "index", "name"]
theorem sc_are_known : FnScope N_are_known ["names", "known"] (defScope s_are_known) := ⟨rfl, rfl, rfl, by decide +kernel, rfl, by decide +kernel, by decide +kernel⟩
theorem b_are_known {K : PySem.W.Frag} {f : Addr} {fd : FuncData} (F : FD K "are_known" "are_known" s_are_known [] [] f fd) : Binds K fd ["names", "known"] [] := FunD.bindsN (ps := ["names", "known"]) F fun _ _ _ _ _ _ us hl => match us, hl with | [_a0, _a1], _ => rfl
abbrev N_check_book : List Str := ["members", "pages", "starts", "home", "known", "index", "name", "bids", "_", "followers", "row"]
theorem sc_check_book : FnScope N_check_book ["members", "pages", "starts", "home"] (defScope s_check_book) := ⟨rfl, rfl, rfl, by decide +kernel, rfl, by decide +kernel, by decide +kernel⟩
theorem b_check_book {K : PySem.W.Frag} {f : Addr} {fd : FuncData} (F : FD K "check_book" "check_book" s_check_book [] [] f fd) : Binds K fd ["members", "pages", "starts", "home"] [] := FunD.bindsN (ps := ["members", "pages", "starts", "home"]) F fun _ _ _ _ _ _ us hl => match us, hl with | [_a0, _a1, _a2, _a3], _ => rfl
abbrev N_Page___init__ : List Str := ["self", "name", "bids", "followers", "home", "member", "_"]
theorem sc_Page___init__ : FnScope N_Page___init__ ["self", "name", "bids", "followers", "home"] (defScope s_Page___init__) := ⟨rfl, rfl, rfl, by decide +kernel, rfl, by decide +kernel, by decide +kernel⟩
theorem b_Page___init__ {K : PySem.W.Frag} {f : Addr} {fd : FuncData} (F : FDI K "Page.__init__" s_Page___init__ [] [] f fd) : Binds K fd ["self", "name", "bids", "followers", "home"] [] := FunD.bindsN (ps := ["self", "name", "bids", "followers", "home"]) F.fd fun _ _ _ _ _ _ us hl => match us, hl with | [_a0, _a1, _a2, _a3, _a4], _ => rfl
abbrev N_Book___init__ : List Str := ["self", "members", "pages", "starts", "home", "made", "name", "bids", "followers", "told", "ordered", "row", "member", "page"]
theorem sc_Book___init__ : FnScope N_Book___init__ ["self", "members", "pages", "starts", "home"] (defScope s_Book___init__) := ⟨rfl, rfl, rfl, by decide +kernel, rfl, by decide +kernel, by decide +kernel⟩
theorem kb_Book___init___3_home {K : PySem.W.Frag} {ca : Cn} {f : Addr} {fd : FuncData} (F : FDI K "Book.__init__" s_Book___init__ [] [] f fd) : KBI K ca fd ["self", "members", "pages", "starts", "home"] 3 ["home"] (gDk [0, 1, 2, 3] []) := kbi_n (kd := []) F.fd 3 ["home"] [1, 2, 3, 4] (by decide) fun _ _ _ _ _ _ us ws l1 l2 => match us, l1, ws, l2 with | [_a0, _a1, _a2, _a3], _, [_w0], _ => rfl
abbrev N_Book_page : List Str := ["self", "name", "page"]
theorem sc_Book_page : FnScope N_Book_page ["self", "name"] (defScope s_Book_page) := ⟨rfl, rfl, rfl, by decide +kernel, rfl, by decide +kernel, by decide +kernel⟩
theorem b_Book_page {K : PySem.W.Frag} {f : Addr} {fd : FuncData} (F : FD K "page" "Book.page" s_Book_page [] [] f fd) : Binds K fd ["self", "name"] [] := FunD.bindsN (ps := ["self", "name"]) F fun _ _ _ _ _ _ us hl => match us, hl with | [_a0, _a1], _ => rfl
abbrev N_Book___iter__ : List Str := ["self"]
theorem sc_Book___iter__ : FnScope N_Book___iter__ ["self"] (defScope s_Book___iter__) := ⟨rfl, rfl, rfl, by decide +kernel, rfl, by decide +kernel, by decide +kernel⟩
theorem b_Book___iter__ {K : PySem.W.Frag} {f : Addr} {fd : FuncData} (F : FD K "__iter__" "Book.__iter__" s_Book___iter__ [] [] f fd) : Binds K fd ["self"] [] := FunD.bindsN (ps := ["self"]) F fun _ _ _ _ _ _ us hl => match us, hl with | [_a0], _ => rfl
abbrev N_law : List Str := ["script", "head", "members", "titles", "rows", "homes", "book", "rules", "turn", "row", "sheet", "rule", "shut", "spot", "title", "bids", "after", "k"]
theorem sc_law : FnScope N_law ["script"] (defScope s_law) := ⟨rfl, rfl, rfl, by decide +kernel, rfl, by decide +kernel, by decide +kernel⟩
abbrev N_TurnRule___init__ : List Str := ["self", "name", "members", "limit", "barred", "links", "deposit", "fee", "start", "__class__"]
set_option maxHeartbeats 8000000 in
theorem kb_TurnRule___init___2_limit_barred_links {K : PySem.W.Frag} {ca : Cn} {fd : FuncData} (F : FDS K "TurnRule.__init__" s_TurnRule___init__ [("limit", .non), ("barred", .tp0), ("links", .tp0), ("deposit", .int 0), ("fee", .int 1), ("start", .int 0)] fd) : KBI K ca fd ["self", "name", "members", "limit", "barred", "links", "deposit", "fee", "start"] 2 ["limit", "barred", "links"] (gDk [0, 1, 5, 6, 7, 2, 3, 4] [.int 0, .int 1, .int 0]) := kbi_s (kd := [("limit", .non), ("barred", .tp0), ("links", .tp0), ("deposit", .int 0), ("fee", .int 1), ("start", .int 0)]) F 2 ["limit", "barred", "links"] [1, 2, 6, 7, 8, 3, 4, 5] [("deposit", .int 0), ("fee", .int 1), ("start", .int 0)] (by decide) (by simp) (by simp) fun _ _ _ _ _ _ _ us mv ws l1 l2 l3 => match us, l1, mv, l2, ws, l3 with | [_a0, _a1, _a2], _, [_m0, _m1, _m2], _, [_w0, _w1, _w2], _ => ⟨_, _, _, _, _, _, rfl, rfl, ⟨_, _, _, _, _, _, rfl, rfl, ⟨_, _, _, _, _, _, rfl, rfl, rfl⟩⟩⟩
theorem d__law_cell (T : SaysX fa fn exL fwL erL K mg) : DefA P w K mg base (cnL K) 1 "_law_cell" s__law_cell [] [] ["script", "k"] F__law_cell :=
  DefA.of (N := N__law_cell) (g := G__law_cell) (T.dfn (dd := []) (kd := []) 29 0) sc__law_cell fun f cdv A outer s H E hr => fss_cons (fs_if (ft_cmp op_lt v2_lt (by first | exact nomark _ | rfl) (fe_v 1) (fe_len T.bt (fa_cons (fe_v 0) (fa_nil)))) (fss_one (fs_ret (fe_ix (fun _ _ => rfl) (fe_v 0) (fe_v 1)))) (fss_nil)) (fss_cons (fs_set (i := 2) sc__law_cell.nd rfl (fe_op op_mul2 v2_mul (fe_int) (fe_op op_addA v2_add (fe_v 1) (fe_int)))) (fss_cons (fs_for (zs := [3]) (passes_of rfl) rfl (fi_r1 rfl T.bt.range (fe_len T.bt (fa_cons (fe_v 0) (fa_nil)))) (fg_n (i := 3) sc__law_cell.nd rfl) (fss_one (fs_set (i := 2) sc__law_cell.nd rfl (fe_op op_mod v2_mod (fe_op op_addA v2_add (fe_v 2) (fe_op op_mul2 v2_mul (fe_op op_mul2 v2_mul (fe_op op_addA v2_add (fe_v 3) (fe_int)) (fe_op op_mod v2_mod (fe_abs T.bt (fa_cons (fe_ix (fun _ _ => rfl) (fe_v 0) (fe_v 3)) (fa_nil))) (fe_int))) (fe_int))) (fe_int))))) (fss_one (fs_ret (fe_v 2)))))
theorem d__law_free (T : SaysX fa fn exL fwL erL K mg) : DefA P w K mg base (cnL K) 1 "_law_free" s__law_free [] [] ["row", "members", "shut"] F__law_free :=
  DefA.of (N := N__law_free) (g := G__law_free) (T.dfn (dd := []) (kd := []) 30 1) sc__law_free fun f cdv A outer s H E hr => fss_cons (fs_own (i := 3) sc__law_free.nd rfl (fl_lst (fa_nil))) (fss_cons (fs_for (zs := [4]) (passes_of rfl) rfl (fi_sq (fe_v 1)) (fg_n (i := 4) sc__law_free.nd rfl) (fss_cons (fs_setLc (own := [("who", 6), ("bid", 7)]) (i := 5) rfl sc__law_free.nd rfl rfl (sw_true rfl rfl rfl (by decide +kernel)) (fi_sq (fe_ix (fun _ _ => rfl) (fe_v 0) (fe_int))) (blkOk_by (own := [("who", 6), ("bid", 7)]) (N := N__law_free) (sc := defScope s__law_free) (by decide +kernel)) (fun _ _ _ _ _ => fg_t rfl (fgs_c (fg_n (i := 6) sc__law_free.nd rfl) (fgs_c (fg_n (i := 7) sc__law_free.nd rfl) (fgs_n)))) (fun _ _ _ _ _ => fts_one (ft_cmp (op_eqA (hu64 hr)) v2_eq (by first | exact nomark _ | rfl) (fe_v 6) (fe_v 4))) (fun _ _ _ _ _ => fe_v 6)) (fss_one (fs_if (ft_w (fw_and (ft_cmp (op_neA (hu64 hr)) v2_ne (by first | exact nomark _ | rfl) (fe_v 5) (fe_lst (fa_nil))) (fw_and1 (ft_cmp (op_ninA (hu65 hr)) v2_nin (by first | exact nomark _ | rfl) (fe_v 4) (fe_v 2))))) (fss_one (fs_app (i := 3) rfl (fe_v 4))) (fss_nil))))) (fss_one (fs_frz 3 (fs_ret (fe_v 3)))))
theorem d__law_part (T : SaysX fa fn exL fwL erL K mg) : DefA P w K mg base (cnL K) 1 "_law_part" s__law_part [] [] ["pool", "spot", "under", "size"] F__law_part :=
  DefA.of (N := N__law_part) (g := G__law_part) (T.dfn (dd := []) (kd := []) 31 2) sc__law_part fun f cdv A outer s H E hr => fss_one (fs_ret (fe_op op_mod v2_mod (fe_op op_fdivW v2_div (fe_intc T.bt (fa_cons (fe_ix (fun _ _ => rfl) (fe_v 0) (fe_v 1)) (fa_nil))) (fe_v 2)) (fe_v 3)))
theorem d__law_names (T : SaysX fa fn exL fwL erL K mg) : DefA P w K mg base (cnL K) 2 "_law_names" s__law_names [] [] ["pool", "spot", "number"] F__law_names :=
  DefA.of (N := N__law_names) (g := G__law_names) (T.dfn (dd := []) (kd := []) 32 3) sc__law_names fun f cdv A outer s H E hr => fss_cons (fs_set (i := 3) sc__law_names.nd rfl (fe_str)) (fss_cons (fs_set (i := 4) sc__law_names.nd rfl (fe_str)) (fss_cons (fs_for (zs := [5]) (passes_of rfl) rfl (fi_r1 rfl T.bt.range (fe_int)) (fg_n (i := 5) sc__law_names.nd rfl) (fss_one (fs_set (i := 4) sc__law_names.nd rfl (fe_op op_addA v2_add (fe_op op_addA v2_add (fe_v 4) (fe_ix (fun _ _ => rfl) (fe_v 3) (fe_a (d__law_part T) b__law_part hr (takes_of rfl rfl rfl rfl) (fa_cons (fe_v 0) (fa_cons (fe_op op_addA v2_add (fe_v 1) (fe_v 5)) (fa_cons (fe_int) (fa_cons (fe_int) (fa_nil)))))))) (fe_ix (fun _ _ => rfl) (fe_v 3) (fe_a (d__law_part T) b__law_part hr (takes_of rfl rfl rfl rfl) (fa_cons (fe_v 0) (fa_cons (fe_op op_addA v2_add (fe_v 1) (fe_v 5)) (fa_cons (fe_int) (fa_cons (fe_int) (fa_nil))))))))))) (fss_cons (fs_set (i := 6) sc__law_names.nd rfl (fe_a (d__law_part T) b__law_part hr (takes_of rfl rfl rfl rfl) (fa_cons (fe_v 0) (fa_cons (fe_op op_addA v2_add (fe_v 1) (fe_int)) (fa_cons (fe_int) (fa_cons (fe_int) (fa_nil))))))) (fss_cons (fs_set (i := 7) sc__law_names.nd rfl (fe_a (d__law_part T) b__law_part hr (takes_of rfl rfl rfl rfl) (fa_cons (fe_v 0) (fa_cons (fe_op op_addA v2_add (fe_v 1) (fe_int)) (fa_cons (fe_int) (fa_cons (fe_int) (fa_nil))))))) (fss_cons (fs_set (i := 8) sc__law_names.nd rfl (fe_a (d__law_part T) b__law_part hr (takes_of rfl rfl rfl rfl) (fa_cons (fe_v 0) (fa_cons (fe_op op_addA v2_add (fe_v 1) (fe_int)) (fa_cons (fe_int) (fa_cons (fe_int) (fa_nil))))))) (fss_cons (fs_set (i := 9) sc__law_names.nd rfl (fe_sl (fe_v 4) (fo_n) (fo_s (fe_a (d__law_part T) b__law_part hr (takes_of rfl rfl rfl rfl) (fa_cons (fe_v 0) (fa_cons (fe_op op_addA v2_add (fe_v 1) (fe_int)) (fa_cons (fe_int) (fa_cons (fe_int) (fa_nil))))))))) (fss_cons (fs_set (i := 10) sc__law_names.nd rfl (fe_sl (fe_v 4) (fo_n) (fo_s (fe_a (d__law_part T) b__law_part hr (takes_of rfl rfl rfl rfl) (fa_cons (fe_v 0) (fa_cons (fe_op op_addA v2_add (fe_v 1) (fe_int)) (fa_cons (fe_int) (fa_cons (fe_int) (fa_nil))))))))) (fss_cons (fs_own (i := 11) sc__law_names.nd rfl (fl_lst (fa_nil))) (fss_cons (fs_for (zs := [5]) (passes_of rfl) rfl (fi_r1 rfl T.bt.range (fe_v 2)) (fg_n (i := 5) sc__law_names.nd rfl) (fss_cons (fs_set (i := 12) sc__law_names.nd rfl (fe_op op_mod v2_mod (fe_intc T.bt (fa_cons (fe_op op_addA v2_add (fe_v 5) (fe_v 6)) (fa_nil))) (fe_int))) (fss_one (fs_if (ft_cmp (op_eqA (hu64 hr)) v2_eq (by first | exact nomark _ | rfl) (fe_a (d__law_part T) b__law_part hr (takes_of rfl rfl rfl rfl) (fa_cons (fe_v 0) (fa_cons (fe_op op_addA v2_add (fe_v 1) (fe_int)) (fa_cons (fe_int) (fa_cons (fe_int) (fa_nil)))))) (fe_int)) (fss_one (fs_app (i := 11) rfl (fe_op op_addA v2_add (fe_op op_addA v2_add (fe_op op_addA v2_add (fe_sl (fe_v 9) (fo_n) (fo_s (fe_v 7))) (fe_ix (fun _ _ => rfl) (fe_v 3) (fe_op op_mod v2_mod (fe_intc T.bt (fa_cons (fe_op op_addA v2_add (fe_v 8) (fe_op op_mul2 v2_mul (fe_int) (fe_v 12))) (fa_nil))) (fe_int)))) (fe_sl (fe_v 9) (fo_s (fe_v 7)) (fo_n))) (fe_v 10)))) (fss_one (fs_app (i := 11) rfl (fe_sl (fe_v 4) (fo_n) (fo_s (fe_op op_addA v2_add (fe_v 12) (fe_int)))))))))) (fss_one (fs_frz 11 (fs_ret (fe_v 11)))))))))))))
theorem d__law_mixed (T : SaysX fa fn exL fwL erL K mg) : DefA P w K mg base (cnL K) 1 "_law_mixed" s__law_mixed [] [] ["cell", "k"] F__law_mixed :=
  DefA.of (N := N__law_mixed) (g := G__law_mixed) (T.dfn (dd := []) (kd := []) 33 4) sc__law_mixed fun f cdv A outer s H E hr => fss_cons (fs_set (i := 2) sc__law_mixed.nd rfl (fe_op op_mod v2_mod (fe_op op_addA v2_add (fe_op op_mul2 v2_mul (fe_op op_mod v2_mod (fe_abs T.bt (fa_cons (fe_v 0) (fa_nil))) (fe_int)) (fe_int)) (fe_op op_mul2 v2_mul (fe_op op_addA v2_add (fe_v 1) (fe_int)) (fe_int))) (fe_int))) (fss_cons (fs_set (i := 2) sc__law_mixed.nd rfl (fe_op op_mod v2_mod (fe_op op_addA v2_add (fe_op op_mul2 v2_mul (fe_v 2) (fe_op op_addA v2_add (fe_op op_mod v2_mod (fe_v 2) (fe_int)) (fe_int))) (fe_op op_mul2 v2_mul (fe_op op_addA v2_add (fe_v 1) (fe_int)) (fe_int))) (fe_int))) (fss_cons (fs_set (i := 2) sc__law_mixed.nd rfl (fe_op op_mod v2_mod (fe_op op_mul2 v2_mul (fe_v 2) (fe_op op_addA v2_add (fe_op op_mod v2_mod (fe_v 2) (fe_int)) (fe_int))) (fe_int))) (fss_one (fs_ret (fe_op op_fdivW v2_div (fe_v 2) (fe_int))))))
theorem d__law_pool (T : SaysX fa fn exL fwL erL K mg) : DefA P w K mg base (cnL K) 2 "_law_pool" s__law_pool [] [] ["cell", "number"] F__law_pool :=
  DefA.of (N := N__law_pool) (g := G__law_pool) (T.dfn (dd := []) (kd := []) 34 5) sc__law_pool fun f cdv A outer s H E hr => fss_cons (fs_set (i := 2) sc__law_pool.nd rfl (fe_abs T.bt (fa_cons (fe_v 0) (fa_nil)))) (fss_cons (fs_set (i := 3) sc__law_pool.nd rfl (fe_cmp op_ge v2_ge (by first | exact nomark _ | rfl) (fe_v 2) (fe_op op_pow v2_pow (fe_int) (fe_int)))) (fss_cons (fs_own (i := 4) sc__law_pool.nd rfl (fl_lst (fa_nil))) (fss_cons (fs_for (zs := [5]) (passes_of rfl) rfl (fi_r1 rfl T.bt.range (fe_v 1)) (fg_n (i := 5) sc__law_pool.nd rfl) (fss_one (fs_if (ft_w (fw_and (ft_val (fe_v 3)) (fw_and1 (ft_cmp op_gt v2_gt (by first | exact nomark _ | rfl) (fe_v 2) (fe_int))))) (fss_cons (fs_app (i := 4) rfl (fe_op op_mod v2_mod (fe_v 2) (fe_int))) (fss_one (fs_set (i := 2) sc__law_pool.nd rfl (fe_op op_fdivW v2_div (fe_v 2) (fe_int))))) (fss_one (fs_app (i := 4) rfl (fe_a (d__law_mixed T) b__law_mixed hr (takes_of rfl rfl rfl rfl) (fa_cons (fe_v 0) (fa_cons (fe_v 5) (fa_nil))))))))) (fss_one (fs_frz 4 (fs_ret (fe_v 4)))))))
theorem d__law_some (T : SaysX fa fn exL fwL erL K mg) : DefA P w K mg base (cnL K) 2 "_law_some" s__law_some [] [] ["pool", "spot", "names"] F__law_some :=
  DefA.of (N := N__law_some) (g := G__law_some) (T.dfn (dd := []) (kd := []) 35 6) sc__law_some fun f cdv A outer s H E hr => fss_cons (fs_own (i := 3) sc__law_some.nd rfl (fl_lst (fa_nil))) (fss_cons (fs_for (zs := [4]) (passes_of rfl) rfl (fi_r1 rfl T.bt.range (fe_len T.bt (fa_cons (fe_v 2) (fa_nil)))) (fg_n (i := 4) sc__law_some.nd rfl) (fss_one (fs_if (ft_cmp (op_eqA (hu64 hr)) v2_eq (by first | exact nomark _ | rfl) (fe_a (d__law_part T) b__law_part hr (takes_of rfl rfl rfl rfl) (fa_cons (fe_v 0) (fa_cons (fe_v 1) (fa_cons (fe_ix (fun _ _ => rfl) (fe_lst (fa_cons (fe_int) (fa_cons (fe_int) (fa_cons (fe_int) (fa_cons (fe_int) (fa_nil)))))) (fe_v 4)) (fa_cons (fe_int) (fa_nil)))))) (fe_int)) (fss_one (fs_app (i := 3) rfl (fe_ix (fun _ _ => rfl) (fe_v 2) (fe_v 4)))) (fss_nil)))) (fss_one (fs_frz 3 (fs_ret (fe_v 3)))))
theorem d__law_pages (T : SaysX fa fn exL fwL erL K mg) : DefA P w K mg base (cnL K) 3 "_law_pages" s__law_pages [] [] ["pool", "spot", "members", "names"] F__law_pages :=
  DefA.of (N := N__law_pages) (g := G__law_pages) (T.dfn (dd := []) (kd := []) 36 7) sc__law_pages fun f cdv A outer s H E hr => fss_cons (fs_own (i := 4) sc__law_pages.nd rfl (fl_lst (fa_nil))) (fss_cons (fs_for (zs := [5]) (passes_of rfl) rfl (fi_r1 rfl T.bt.range (fe_len T.bt (fa_cons (fe_v 3) (fa_nil)))) (fg_n (i := 5) sc__law_pages.nd rfl) (fss_cons (fs_set (i := 6) sc__law_pages.nd rfl (fe_v 2)) (fss_cons (fs_if (ft_cmp (op_eqA (hu64 hr)) v2_eq (by first | exact nomark _ | rfl) (fe_a (d__law_part T) b__law_part hr (takes_of rfl rfl rfl rfl) (fa_cons (fe_v 0) (fa_cons (fe_op op_addA v2_add (fe_v 1) (fe_op op_mul2 v2_mul (fe_int) (fe_v 5))) (fa_cons (fe_int) (fa_cons (fe_int) (fa_nil)))))) (fe_int)) (fss_one (fs_set (i := 6) sc__law_pages.nd rfl (fe_a (d__law_some T) b__law_some hr (takes_of rfl rfl rfl rfl) (fa_cons (fe_v 0) (fa_cons (fe_op op_addA v2_add (fe_v 1) (fe_op op_mul2 v2_mul (fe_int) (fe_v 5))) (fa_cons (fe_v 2) (fa_nil))))))) (fss_nil)) (fss_cons (fs_own (i := 7) sc__law_pages.nd rfl (fl_lst (fa_nil))) (fss_cons (fs_for (zs := [8]) (passes_of rfl) rfl (fi_r1 rfl T.bt.range (fe_len T.bt (fa_cons (fe_v 2) (fa_nil)))) (fg_n (i := 8) sc__law_pages.nd rfl) (fss_one (fs_if (ft_cmp (op_inA (hu65 hr)) v2_in (by first | exact nomark _ | rfl) (fe_ix (fun _ _ => rfl) (fe_v 2) (fe_v 8)) (fe_v 6)) (fss_one (fs_app (i := 7) rfl (fe_tup (fa_cons (fe_ix (fun _ _ => rfl) (fe_v 2) (fe_v 8)) (fa_cons (fe_a (d__law_part T) b__law_part hr (takes_of rfl rfl rfl rfl) (fa_cons (fe_v 0) (fa_cons (fe_op op_addA v2_add (fe_op op_addA v2_add (fe_v 1) (fe_op op_mul2 v2_mul (fe_int) (fe_v 5))) (fe_int)) (fa_cons (fe_ix (fun _ _ => rfl) (fe_lst (fa_cons (fe_int) (fa_cons (fe_int) (fa_cons (fe_int) (fa_cons (fe_int) (fa_nil)))))) (fe_v 8)) (fa_cons (fe_int) (fa_nil)))))) (fa_nil)))))) (fss_nil)))) (fss_cons (fs_if (ft_cmp (op_eqA (hu64 hr)) v2_eq (by first | exact nomark _ | rfl) (fe_a (d__law_part T) b__law_part hr (takes_of rfl rfl rfl rfl) (fa_cons (fe_v 0) (fa_cons (fe_op op_addA v2_add (fe_v 1) (fe_op op_mul2 v2_mul (fe_int) (fe_v 5))) (fa_cons (fe_int) (fa_cons (fe_int) (fa_nil)))))) (fe_int)) (fss_one (fs_frz 7 (fs_set (i := 7) sc__law_pages.nd rfl (fe_rev (fe_v 7))))) (fss_nil)) (fss_cons (fs_set (i := 9) sc__law_pages.nd rfl (fe_a (d__law_some T) b__law_some hr (takes_of rfl rfl rfl rfl) (fa_cons (fe_v 0) (fa_cons (fe_op op_addA v2_add (fe_op op_addA v2_add (fe_v 1) (fe_op op_mul2 v2_mul (fe_int) (fe_v 5))) (fe_int)) (fa_cons (fe_v 3) (fa_nil)))))) (fss_cons (fs_if (ft_w (fw_and (ft_cmp (op_eqA (hu64 hr)) v2_eq (by first | exact nomark _ | rfl) (fe_v 9) (fe_lst (fa_nil))) (fw_and1 (ft_cmp op_gt v2_gt (by first | exact nomark _ | rfl) (fe_a (d__law_part T) b__law_part hr (takes_of rfl rfl rfl rfl) (fa_cons (fe_v 0) (fa_cons (fe_op op_addA v2_add (fe_op op_addA v2_add (fe_v 1) (fe_op op_mul2 v2_mul (fe_int) (fe_v 5))) (fe_int)) (fa_cons (fe_int) (fa_cons (fe_int) (fa_nil)))))) (fe_int))))) (fss_one (fs_set (i := 9) sc__law_pages.nd rfl (fe_lst (fa_cons (fe_ix (fun _ _ => rfl) (fe_v 3) (fe_v 5)) (fa_nil))))) (fss_nil)) (fss_cons (fs_if (ft_cmp (op_eqA (hu64 hr)) v2_eq (by first | exact nomark _ | rfl) (fe_a (d__law_part T) b__law_part hr (takes_of rfl rfl rfl rfl) (fa_cons (fe_v 0) (fa_cons (fe_op op_addA v2_add (fe_op op_addA v2_add (fe_v 1) (fe_op op_mul2 v2_mul (fe_int) (fe_v 5))) (fe_int)) (fa_cons (fe_int) (fa_cons (fe_int) (fa_nil)))))) (fe_int)) (fss_one (fs_set (i := 9) sc__law_pages.nd rfl (fe_rev (fe_v 9)))) (fss_nil)) (fss_one (fs_frz 7 (fs_app (i := 4) rfl (fe_tup (fa_cons (fe_ix (fun _ _ => rfl) (fe_v 3) (fe_v 5)) (fa_cons (fe_v 7) (fa_cons (fe_v 9) (fa_nil))))))))))))))))) (fss_one (fs_frz 4 (fs_ret (fe_v 4)))))
theorem d__law_shuffled (T : SaysX fa fn exL fwL erL K mg) : DefA P w K mg base (cnL K) 2 "_law_shuffled" s__law_shuffled [] [] ["pool", "spot", "row"] F__law_shuffled :=
  DefA.of (N := N__law_shuffled) (g := G__law_shuffled) (T.dfn (dd := []) (kd := []) 37 8) sc__law_shuffled fun f cdv A outer s H E hr => fss_cons (fs_own (i := 3) sc__law_shuffled.nd rfl (fl_list rfl T.bt.list bb_list (fe_v 2))) (fss_cons (fs_own (i := 4) sc__law_shuffled.nd rfl (fl_lst (fa_nil))) (fss_cons (fs_for (zs := [5]) (passes_of rfl) rfl (fi_r1 rfl T.bt.range (fe_len T.bt (fa_cons (fe_v 2) (fa_nil)))) (fg_n (i := 5) sc__law_shuffled.nd rfl) (fss_one (fs_appPop (i := 4) (j := 3) rfl rfl (fe_bor (fe_op op_mod v2_mod (fe_a (d__law_part T) b__law_part hr (takes_of rfl rfl rfl rfl) (fa_cons (fe_v 0) (fa_cons (fe_v 1) (fa_cons (fe_ix (fun _ _ => rfl) (fe_lst (fa_cons (fe_int) (fa_cons (fe_int) (fa_cons (fe_int) (fa_cons (fe_int) (fa_nil)))))) (fe_v 5)) (fa_cons (fe_ix (fun _ _ => rfl) (fe_lst (fa_cons (fe_int) (fa_cons (fe_int) (fa_cons (fe_int) (fa_cons (fe_int) (fa_nil)))))) (fe_v 5)) (fa_nil)))))) (fe_len T.bt (fa_cons (fe_v 3) (fa_nil)))))))) (fss_one (fs_frz 4 (fs_ret (fe_v 4))))))
theorem d__law_rows (T : SaysX fa fn exL fwL erL K mg) : DefA P w K mg base (cnL K) 4 "_law_rows" s__law_rows [] [] ["head", "members", "titles"] F__law_rows :=
  DefA.of (N := N__law_rows) (g := G__law_rows) (T.dfn (dd := []) (kd := []) 38 9) sc__law_rows fun f cdv A outer s H E hr => fss_cons (fs_own (i := 3) sc__law_rows.nd rfl (fl_lst (fa_nil))) (fss_cons (fs_for (zs := [4, 5, 6]) (passes_of rfl) rfl (fi_sq (fe_a (d__law_pages T) b__law_pages hr (takes_of rfl rfl rfl rfl) (fa_cons (fe_v 0) (fa_cons (fe_int) (fa_cons (fe_v 1) (fa_cons (fe_v 2) (fa_nil))))))) (fg_t rfl (fgs_c (fg_n (i := 4) sc__law_rows.nd rfl) (fgs_c (fg_n (i := 5) sc__law_rows.nd rfl) (fgs_c (fg_n (i := 6) sc__law_rows.nd rfl) (fgs_n))))) (fss_cons (fs_set (i := 7) sc__law_rows.nd rfl (fe_a (d__law_shuffled T) b__law_shuffled hr (takes_of rfl rfl rfl rfl) (fa_cons (fe_v 0) (fa_cons (fe_op op_addA v2_add (fe_int) (fe_bor (fe_len T.bt (fa_cons (fe_v 3) (fa_nil))))) (fa_cons (fe_v 5) (fa_nil)))))) (fss_cons (fs_if (ft_cmp (op_eqA (hu64 hr)) v2_eq (by first | exact nomark _ | rfl) (fe_a (d__law_part T) b__law_part hr (takes_of rfl rfl rfl rfl) (fa_cons (fe_v 0) (fa_cons (fe_int) (fa_cons (fe_int) (fa_cons (fe_int) (fa_nil)))))) (fe_int)) (fss_one (fs_setLc (own := [("member", 8), ("bid", 9)]) (i := 7) rfl sc__law_rows.nd rfl rfl (sw_true rfl rfl rfl (by decide +kernel)) (fi_sq (fe_v 7)) (blkOk_by (own := [("member", 8), ("bid", 9)]) (N := N__law_rows) (sc := defScope s__law_rows) (by decide +kernel)) (fun _ _ _ _ _ => fg_t rfl (fgs_c (fg_n (i := 8) sc__law_rows.nd rfl) (fgs_c (fg_n (i := 9) sc__law_rows.nd rfl) (fgs_n)))) (fun _ _ _ _ _ => fts_nil) (fun _ _ _ _ _ => fe_tup (fa_cons (fe_v 8) (fa_cons (fe_op op_sub v2_sub (fe_op op_pow v2_pow (fe_int) (fe_int)) (fe_v 9)) (fa_nil)))))) (fss_nil)) (fss_one (fs_app (i := 3) rfl (fe_tup (fa_cons (fe_v 4) (fa_cons (fe_v 7) (fa_cons (fe_v 6) (fa_nil)))))))))) (fss_one (fs_frz 3 (fs_ret (fe_v 3)))))
theorem d_TurnRule_candidates (T : SaysX fa fn exL fwL erL K mg) : DefM P w K mg base (cnL K) 1 54 "candidates" "Rule.candidates" s_TurnRule_candidates [] [] ["self", "page"] F_TurnRule_candidates :=
  DefM.of (N := N_TurnRule_candidates) (g := G_TurnRule_candidates) (T.met (x := "TurnRule") (dd := []) (kd := []) 64 76 10 rfl) sc_TurnRule_candidates fun f cdv A outer s H E hr => fss_one (fs_ret (fe_tuplec T.bt (fa_cons (fe_lc (own := [("member", 2)]) rfl sc_TurnRule_candidates.nd (fi_sq (fe_fld (cs := [54]) (f := 30) rfl fn_members (fa_members_54 T) (fe_v 0))) (blkOk_by (own := [("member", 2)]) (N := N_TurnRule_candidates) (sc := defScope s_TurnRule_candidates) (by decide +kernel)) (fun _ _ _ _ _ => fg_n (i := 2) sc_TurnRule_candidates.nd rfl) (fun _ _ _ _ _ => fts_one (ft_w (fw_and (ft_cmp (op_inA (hu65 hr)) v2_in (by first | exact nomark _ | rfl) (fe_v 2) (fe_fld (cs := [43]) (f := 46) rfl fn_wishers (fa_wishers_43 T) (fe_v 1))) (fw_and1 (ft_cmp (op_ninA (hu65 hr)) v2_nin (by first | exact nomark _ | rfl) (fe_v 2) (fe_fld (cs := [54]) (f := 65) rfl fn_barred (fa_barred_54 T) (fe_v 0))))))) (fun _ _ _ _ _ => fe_v 2)) (fa_nil))))
theorem d_TurnRule_moves (T : SaysX fa fn exL fwL erL K mg) : DefM P w K mg base (cnL K) 2 54 "moves" "TurnRule.moves" s_TurnRule_moves [] [] ["self", "page"] F_TurnRule_moves :=
  DefM.of (N := N_TurnRule_moves) (g := G_TurnRule_moves) (T.met (x := "TurnRule") (dd := []) (kd := []) 64 75 11 rfl) sc_TurnRule_moves fun f cdv A outer s H E hr => fss_one (fs_ret (fe_op op_addA v2_add (fe_listc T.bt (fa_cons (fe_meth (nf := nF) (d_TurnRule_candidates T) mn_candidates b_TurnRule_candidates hr (takes_of rfl rfl rfl rfl) (fe_v 0) (fa_cons (fe_v 1) (fa_nil))) (fa_nil))) (fe_lst (fa_cons (fe_str) (fa_nil)))))
theorem d_TurnRule_moves_o (T : SaysX fa fn exL fwL erL K mg) : DefMO P w K mg base (cnL K) 2 54 "moves" "TurnRule.moves" s_TurnRule_moves [] [] ["self", "page"] F_TurnRule_moves_o :=
  DefMO.of (N := N_TurnRule_moves) (g := G_TurnRule_moves_o) (T.met (x := "TurnRule") (dd := []) (kd := []) 64 75 11 rfl) sc_TurnRule_moves fun f cdv A outer s H E hr => fss_one (fs_retF (fn_l (fl_cat (fe_listc T.bt (fa_cons (fe_meth (nf := nF) (d_TurnRule_candidates T) mn_candidates b_TurnRule_candidates hr (takes_of rfl rfl rfl rfl) (fe_v 0) (fa_cons (fe_v 1) (fa_nil))) (fa_nil))) (fe_lst (fa_cons (fe_str) (fa_nil))))))
theorem d_TurnRule_lets (T : SaysX fa fn exL fwL erL K mg) : DefM P w K mg base (cnL K) 1 54 "lets" "TurnRule.lets" s_TurnRule_lets [] [] ["self", "page", "move"] F_TurnRule_lets :=
  DefM.of (N := N_TurnRule_lets) (g := G_TurnRule_lets) (T.met (x := "TurnRule") (dd := []) (kd := []) 64 77 12 rfl) sc_TurnRule_lets fun f cdv A outer s H E hr => fss_one (fs_ret (fe_if (ft_cmp (op_eqA (hu64 hr)) v2_eq (by first | exact nomark _ | rfl) (fe_v 2) (fe_str)) (fe_lst (fa_cons (fe_tup (fa_cons (fe_tup (fa_nil)) (fa_cons (fe_int) (fa_nil)))) (fa_nil))) (fe_lst (fa_cons (fe_tup (fa_cons (fe_tup (fa_cons (fe_v 2) (fa_nil))) (fa_cons (fe_int) (fa_nil)))) (fa_nil)))))
theorem d_TurnRule_lets_o (T : SaysX fa fn exL fwL erL K mg) : DefMO P w K mg base (cnL K) 1 54 "lets" "TurnRule.lets" s_TurnRule_lets [] [] ["self", "page", "move"] F_TurnRule_lets_o :=
  DefMO.of (N := N_TurnRule_lets) (g := G_TurnRule_lets_o) (T.met (x := "TurnRule") (dd := []) (kd := []) 64 77 12 rfl) sc_TurnRule_lets fun f cdv A outer s H E hr => fss_one (fs_retF (fn_if (ft_cmp (op_eqA (hu64 hr)) v2_eq (by first | exact nomark _ | rfl) (fe_v 2) (fe_str)) (fn_l (fl_lst (fa_cons (fe_tup (fa_cons (fe_tup (fa_nil)) (fa_cons (fe_int) (fa_nil)))) (fa_nil)))) (fn_l (fl_lst (fa_cons (fe_tup (fa_cons (fe_tup (fa_cons (fe_v 2) (fa_nil))) (fa_cons (fe_int) (fa_nil)))) (fa_nil))))))
theorem d__law_spoil (T : SaysX fa fn exL fwL erL K mg) : DefA P w K mg base (cnL K) 3 "_law_spoil" s__law_spoil [] [] ["rule", "sheet", "free"] F__law_spoil :=
  DefA.of (N := N__law_spoil) (g := G__law_spoil) (T.dfn (dd := []) (kd := []) 39 13) sc__law_spoil fun f cdv A outer s H E hr => fss_cons (fs_new (i := 3) sc__law_spoil.nd rfl (fn_meth (nf := nF) (d_TurnRule_moves_o T) mn_moves b_TurnRule_moves hr (takes_of rfl rfl rfl rfl) (fe_v 0) (fa_cons (fe_v 1) (fa_nil)))) (fss_cons (fs_mut0 (i := 3) PySem.F.slot_list_reverse PySem.F.type_list_reverse mt_reverse mut_rev rfl) (fss_cons (fs_app (i := 3) rfl (fe_str)) (fss_one (fs_for (zs := [4]) (passes_of rfl) rfl (fi_sq (fe_op op_addA v2_add (fe_v 2) (fe_lst (fa_cons (fe_str) (fa_nil))))) (fg_n (i := 4) sc__law_spoil.nd rfl) (fss_cons (fs_new (i := 5) sc__law_spoil.nd rfl (fn_meth (nf := nF) (d_TurnRule_lets_o T) mn_lets b_TurnRule_lets hr (takes_of rfl rfl rfl rfl) (fe_v 0) (fa_cons (fe_v 1) (fa_cons (fe_v 4) (fa_nil))))) (fss_cons (fs_app (i := 5) rfl (fe_tup (fa_cons (fe_tup (fa_cons (fe_str) (fa_nil))) (fa_cons (fe_int) (fa_nil))))) (fss_one (fs_mut0 (i := 5) PySem.F.slot_list_reverse PySem.F.type_list_reverse mt_reverse mut_rev rfl))))))))
theorem d__law_integer (T : SaysX fa fn exL fwL erL K mg) : DefA P w K mg base (cnL K) 1 "_law_integer" s__law_integer [] [] ["got"] F__law_integer :=
  DefA.of (N := N__law_integer) (g := G__law_integer) (T.dfn (dd := []) (kd := []) 40 14) sc__law_integer fun f cdv A outer s H E hr => fss_one (fs_ret (fe_and (fe_isi T.bt (fa_cons (fe_v 0) (fa_cons (fe_ty_int T.bt) (fa_nil)))) (fe_one (fe_not (fe_isi T.bt (fa_cons (fe_v 0) (fa_cons (fe_ty_bool T.bt) (fa_nil))))))))
theorem dr__law_same (T : SaysX fa fn exL fwL erL K mg) : ∀ n : Nat, DefA P w K mg base (cnL K) (2 + n) "_law_same" s__law_same [] [] ["got", "wanted"] (Fr__law_same n)
  | 0 => DefA.of (N := N__law_same) (g := sBad) (k := 1) (T.dfn (dd := []) (kd := []) 41 15) sc__law_same fun f cdv A outer s H E hr => fss_never
  | n + 1 => have ih : DefA P w K mg base (cnL K) (2 + n) "_law_same" s__law_same [] [] ["got", "wanted"] (Fr__law_same n) := dr__law_same T n
    DefA.of (N := N__law_same) (g := G__law_same (Fr__law_same n)) (k := 2 + n) (T.dfn (dd := []) (kd := []) 41 15) sc__law_same fun f cdv A outer s H E hr => fss_cons (fs_if (ft_cmp op_isN v2_isN (by first | exact nomark _ | rfl) (fe_v 1) (fe_non)) (fss_one (fs_ret (fe_cmp op_isN v2_isN (by first | exact nomark _ | rfl) (fe_v 0) (fe_non)))) (fss_nil)) (fss_cons (fs_if (ft_cmp op_isB v2_isB (by first | exact nomark _ | rfl) (fe_v 1) (fe_bl)) (fss_one (fs_ret (fe_cmp op_isB v2_isB (by first | exact nomark _ | rfl) (fe_v 0) (fe_bl)))) (fss_nil)) (fss_cons (fs_if (ft_cmp op_isB v2_isB (by first | exact nomark _ | rfl) (fe_v 1) (fe_bl)) (fss_one (fs_ret (fe_cmp op_isB v2_isB (by first | exact nomark _ | rfl) (fe_v 0) (fe_bl)))) (fss_nil)) (fss_cons (fs_if (ft_val (fe_isi T.bt (fa_cons (fe_v 1) (fa_cons (fe_ty_int T.bt) (fa_nil))))) (fss_one (fs_ret (fe_and (fe_a (hk := by omega) (d__law_integer T) b__law_integer hr (takes_of rfl rfl rfl rfl) (fa_cons (fe_v 0) (fa_nil))) (fe_one (fe_cmp (op_eqA (hu64 hr)) v2_eq (by first | exact nomark _ | rfl) (fe_v 0) (fe_v 1)))))) (fss_nil)) (fss_cons (fs_if (ft_val (fe_isi T.bt (fa_cons (fe_v 1) (fa_cons (fe_ty_str T.bt) (fa_nil))))) (fss_one (fs_ret (fe_and (fe_isi T.bt (fa_cons (fe_v 0) (fa_cons (fe_ty_str T.bt) (fa_nil)))) (fe_one (fe_cmp (op_eqA (hu64 hr)) v2_eq (by first | exact nomark _ | rfl) (fe_v 0) (fe_v 1)))))) (fss_nil)) (fss_cons (fs_if (ft_w (fw_and (ft_val (fe_isi T.bt (fa_cons (fe_v 1) (fa_cons (fe_ty_tuple T.bt) (fa_nil))))) (fw_and1 (ft_not (ft_val (fe_isi T.bt (fa_cons (fe_v 0) (fa_cons (fe_ty_tuple T.bt) (fa_nil))))))))) (fss_one (fs_ret (fe_bl))) (fss_nil)) (fss_cons (fs_if (ft_w (fw_and (ft_val (fe_isi T.bt (fa_cons (fe_v 1) (fa_cons (fe_ty_list T.bt) (fa_nil))))) (fw_and1 (ft_not (ft_val (fe_isi T.bt (fa_cons (fe_v 0) (fa_cons (fe_ty_list T.bt) (fa_nil))))))))) (fss_one (fs_ret (fe_bl))) (fss_nil)) (fss_cons (fs_if (ft_cmp (op_neA (hu64 hr)) v2_ne (by first | exact nomark _ | rfl) (fe_len T.bt (fa_cons (fe_v 0) (fa_nil))) (fe_len T.bt (fa_cons (fe_v 1) (fa_nil)))) (fss_one (fs_ret (fe_bl))) (fss_nil)) (fss_cons (fs_for (zs := [2]) (passes_of rfl) rfl (fi_r1 rfl T.bt.range (fe_len T.bt (fa_cons (fe_v 1) (fa_nil)))) (fg_n (i := 2) sc__law_same.nd rfl) (fss_one (fs_if (ft_not (ft_val (fe_a (hk := Nat.le_refl _) ih b__law_same hr (takes_of rfl rfl rfl rfl) (fa_cons (fe_ix (fun _ _ => rfl) (fe_v 0) (fe_v 2)) (fa_cons (fe_ix (fun _ _ => rfl) (fe_v 1) (fe_v 2)) (fa_nil)))))) (fss_one (fs_ret (fe_bl))) (fss_nil)))) (fss_one (fs_ret (fe_bl)))))))))))
theorem d__law_same (T : SaysX fa fn exL fwL erL K mg) : DefA P w K mg base (cnL K) 8 "_law_same" s__law_same [] [] ["got", "wanted"] F__law_same := dr__law_same T 6
theorem d__law_tells (T : SaysX fa fn exL fwL erL K mg) : DefA P w K mg base (cnL K) 9 "_law_tells" s__law_tells [] [] ["rule", "sheet", "free"] F__law_tells :=
  DefA.of (N := N__law_tells) (g := G__law_tells) (T.dfn (dd := []) (kd := []) 42 16) sc__law_tells fun f cdv A outer s H E hr => fss_cons (fs_if (ft_w (fw_or (ft_not (ft_val (fe_a (d__law_same T) b__law_same hr (takes_of rfl rfl rfl rfl) (fa_cons (fe_methK0 (nf := nF) (d_TurnRule_candidates T) mn_candidates (fun F => kb_TurnRule_candidates_0_page F) hr (takes_of rfl rfl rfl rfl) (fe_v 0) (fk_cons (fe_v 1) (fk_nil))) (fa_cons (fe_tuplec T.bt (fa_cons (fe_v 2) (fa_nil))) (fa_nil)))))) (fw_or1 (ft_not (ft_val (fe_a (d__law_same T) b__law_same hr (takes_of rfl rfl rfl rfl) (fa_cons (fe_methK0 (nf := nF) (d_TurnRule_moves T) mn_moves (fun F => kb_TurnRule_moves_0_page F) hr (takes_of rfl rfl rfl rfl) (fe_v 0) (fk_cons (fe_v 1) (fk_nil))) (fa_cons (fe_op op_addA v2_add (fe_v 2) (fe_lst (fa_cons (fe_str) (fa_nil)))) (fa_nil))))))))) (fss_one (fs_ret (fe_bl))) (fss_nil)) (fss_cons (fs_for (zs := [3]) (passes_of rfl) rfl (fi_sq (fe_v 2)) (fg_n (i := 3) sc__law_tells.nd rfl) (fss_one (fs_if (ft_not (ft_val (fe_a (d__law_same T) b__law_same hr (takes_of rfl rfl rfl rfl) (fa_cons (fe_meth (nf := nF) (d_TurnRule_lets T) mn_lets b_TurnRule_lets hr (takes_of rfl rfl rfl rfl) (fe_v 0) (fa_cons (fe_v 1) (fa_cons (fe_v 3) (fa_nil)))) (fa_cons (fe_lst (fa_cons (fe_tup (fa_cons (fe_tup (fa_cons (fe_v 3) (fa_nil))) (fa_cons (fe_int) (fa_nil)))) (fa_nil))) (fa_nil)))))) (fss_one (fs_ret (fe_bl))) (fss_nil)))) (fss_one (fs_ret (fe_a (d__law_same T) b__law_same hr (takes_of rfl rfl rfl rfl) (fa_cons (fe_methK0 (nf := nF) (d_TurnRule_lets T) mn_lets (fun F => kb_TurnRule_lets_0_page_move F) hr (takes_of rfl rfl rfl rfl) (fe_v 0) (fk_cons (fe_v 1) (fk_cons (fe_str) (fk_nil)))) (fa_cons (fe_lst (fa_cons (fe_tup (fa_cons (fe_tup (fa_nil)) (fa_cons (fe_int) (fa_nil)))) (fa_nil))) (fa_nil)))))))
theorem d__law_links (T : SaysX fa fn exL fwL erL K mg) : DefA P w K mg base (cnL K) 2 "_law_links" s__law_links [] [] ["pool", "spot", "members", "number"] F__law_links :=
  DefA.of (N := N__law_links) (g := G__law_links) (T.dfn (dd := []) (kd := []) 43 17) sc__law_links fun f cdv A outer s H E hr => fss_cons (fs_own (i := 4) sc__law_links.nd rfl (fl_lst (fa_nil))) (fss_cons (fs_if (ft_cmp op_lt v2_lt (by first | exact nomark _ | rfl) (fe_len T.bt (fa_cons (fe_v 2) (fa_nil))) (fe_int)) (fss_one (fs_frz 4 (fs_ret (fe_v 4)))) (fss_nil)) (fss_cons (fs_for (zs := [5]) (passes_of rfl) rfl (fi_r1 rfl T.bt.range (fe_v 3)) (fg_n (i := 5) sc__law_links.nd rfl) (fss_cons (fs_set (i := 6) sc__law_links.nd rfl (fe_op op_mod v2_mod (fe_a (d__law_part T) b__law_part hr (takes_of rfl rfl rfl rfl) (fa_cons (fe_v 0) (fa_cons (fe_op op_addA v2_add (fe_v 1) (fe_v 5)) (fa_cons (fe_int) (fa_cons (fe_int) (fa_nil)))))) (fe_len T.bt (fa_cons (fe_v 2) (fa_nil))))) (fss_cons (fs_set (i := 7) sc__law_links.nd rfl (fe_op op_mod v2_mod (fe_op op_addA v2_add (fe_op op_addA v2_add (fe_v 6) (fe_int)) (fe_op op_mod v2_mod (fe_a (d__law_part T) b__law_part hr (takes_of rfl rfl rfl rfl) (fa_cons (fe_v 0) (fa_cons (fe_op op_addA v2_add (fe_v 1) (fe_v 5)) (fa_cons (fe_int) (fa_cons (fe_int) (fa_nil)))))) (fe_op op_sub v2_sub (fe_len T.bt (fa_cons (fe_v 2) (fa_nil))) (fe_int)))) (fe_len T.bt (fa_cons (fe_v 2) (fa_nil))))) (fss_cons (fs_set (i := 8) sc__law_links.nd rfl (fe_a (d__law_part T) b__law_part hr (takes_of rfl rfl rfl rfl) (fa_cons (fe_v 0) (fa_cons (fe_op op_addA v2_add (fe_v 1) (fe_v 5)) (fa_cons (fe_int) (fa_cons (fe_int) (fa_nil))))))) (fss_cons (fs_if (ft_cmp (op_eqA (hu64 hr)) v2_eq (by first | exact nomark _ | rfl) (fe_a (d__law_part T) b__law_part hr (takes_of rfl rfl rfl rfl) (fa_cons (fe_v 0) (fa_cons (fe_op op_addA v2_add (fe_v 1) (fe_v 5)) (fa_cons (fe_int) (fa_cons (fe_int) (fa_nil)))))) (fe_int)) (fss_one (fs_set (i := 8) sc__law_links.nd rfl (fe_op op_sub v2_sub (fe_op op_pow v2_pow (fe_int) (fe_int)) (fe_v 8)))) (fss_nil)) (fss_one (fs_app (i := 4) rfl (fe_tup (fa_cons (fe_ix (fun _ _ => rfl) (fe_v 2) (fe_v 6)) (fa_cons (fe_ix (fun _ _ => rfl) (fe_v 2) (fe_v 7)) (fa_cons (fe_v 8) (fa_nil)))))))))))) (fss_one (fs_frz 4 (fs_ret (fe_v 4))))))
theorem d_check_barred (T : SaysX fa fn exL fwL erL K mg) : DefA P w K mg base (cnL K) 1 "check_barred" s_check_barred [] [] ["members", "barred"] F_check_ballot :=
  DefA.of (N := N_check_barred) (g := G_check_ballot) (T.dfn (dd := []) (kd := []) 44 18) sc_check_barred fun f cdv A outer s H E hr => fss_one (fs_for (zs := [2, 3]) (passes_of rfl) rfl (fi_en2 rfl T.bt.enumerate (fe_v 1)) (fg_t rfl (fgs_c (fg_n (i := 2) sc_check_barred.nd rfl) (fgs_c (fg_n (i := 3) sc_check_barred.nd rfl) (fgs_n)))) (fss_cons (fs_if (ft_cmp (op_ninA (hu65 hr)) v2_nin (by first | exact nomark _ | rfl) (fe_v 3) (fe_v 0)) (fss_never) (fss_nil)) (fss_one (fs_if (ft_cmp (op_inA (hu65 hr)) v2_in (by first | exact nomark _ | rfl) (fe_v 3) (fe_sl (fe_v 1) (fo_n) (fo_s (fe_v 2)))) (fss_never) (fss_nil)))))
theorem d_is_name (T : SaysX fa fn exL fwL erL K mg) : DefA P w K mg base (cnL K) 1 "is_name" s_is_name [] [] ["word"] F_is_name :=
  DefA.of (N := N_is_name) (g := G_is_name) (T.dfn (dd := []) (kd := []) 45 19) sc_is_name fun f cdv A outer s H E hr => fss_cons (fs_if (ft_not (ft_chain op_le v2_le op_le v2_le (fe_int) (fe_len T.bt (fa_cons (fe_v 0) (fa_nil))) (fe_glb (T.int 18)))) (fss_one (fs_ret (fe_bl))) (fss_nil)) (fss_one (fs_ret (fe_all T.bt (fa_cons (fe_lc (own := [("letter", 1)]) rfl sc_is_name.nd (fi_sq (fe_v 0)) (blkOk_by (own := [("letter", 1)]) (N := N_is_name) (sc := defScope s_is_name) (by decide +kernel)) (fun _ _ _ _ _ => fg_n (i := 1) sc_is_name.nd rfl) (fun _ _ _ _ _ => fts_nil) (fun _ _ _ _ _ => fe_cmp (op_inA (hu65 hr)) v2_in (by first | exact nomark _ | rfl) (fe_v 1) (fe_glb (T.str 19)))) (fa_nil)))))
theorem d_check_names (T : SaysX fa fn exL fwL erL K mg) : DefA P w K mg base (cnL K) 2 "check_names" s_check_names [] [] ["names", "most"] F_check_names :=
  DefA.of (N := N_check_names) (g := G_check_names) (T.dfn (dd := []) (kd := []) 46 20) sc_check_names fun f cdv A outer s H E hr => fss_cons (fs_if (ft_not (ft_chain op_le v2_le op_le v2_le (fe_int) (fe_len T.bt (fa_cons (fe_v 0) (fa_nil))) (fe_v 1))) (fss_never) (fss_nil)) (fss_one (fs_for (zs := [2, 3]) (passes_of rfl) rfl (fi_en2 rfl T.bt.enumerate (fe_v 0)) (fg_t rfl (fgs_c (fg_n (i := 2) sc_check_names.nd rfl) (fgs_c (fg_n (i := 3) sc_check_names.nd rfl) (fgs_n)))) (fss_cons (fs_if (ft_not (ft_val (fe_a (d_is_name T) b_is_name hr (takes_of rfl rfl rfl rfl) (fa_cons (fe_v 3) (fa_nil))))) (fss_never) (fss_nil)) (fss_one (fs_if (ft_cmp (op_inA (hu65 hr)) v2_in (by first | exact nomark _ | rfl) (fe_v 3) (fe_sl (fe_v 0) (fo_n) (fo_s (fe_v 2)))) (fss_never) (fss_nil))))))
theorem d_check_range (T : SaysX fa fn exL fwL erL K mg) : DefA P w K mg base (cnL K) 1 "check_range" s_check_range [] [] ["number", "low", "high"] F_check_range :=
  DefA.of (N := N_check_range) (g := G_check_range) (T.dfn (dd := []) (kd := []) 47 21) sc_check_range fun f cdv A outer s H E hr => fss_one (fs_if (ft_not (ft_chain op_le v2_le op_le v2_le (fe_v 1) (fe_v 0) (fe_v 2))) (fss_never) (fss_nil))
theorem d_Links___iter__ (T : SaysX fa fn exL fwL erL K mg) : DefT P w K mg base (cnL K) 1 40 "Links.__iter__" s_Links___iter__ F_Links___iter__ :=
  DefT.of (N := N_Links___iter__) (fa := e1 (gFld [40] 38) (eV 0)) (T.met (x := "Links") (dd := []) (kd := []) 70 79 22 rfl) sc_Links___iter__ rfl b_Links___iter__ (fun _ _ _ _ _ _ _ => ⟨rfl, rfl⟩) (T.free 78) (by decide +kernel) fun f cdv A outer s H E hr => fe_fld (cs := [40]) (f := 38) rfl fn_links (fa_links_40 T) (fe_v 0)
theorem d_check_known (T : SaysX fa fn exL fwL erL K mg) : DefA P w K mg base (cnL K) 1 "check_known" s_check_known [] [] ["names", "asked"] F_check_known :=
  DefA.of (N := N_check_known) (g := G_check_known) (T.dfn (dd := []) (kd := []) 48 23) sc_check_known fun f cdv A outer s H E hr => fss_one (fs_for (zs := [2]) (passes_of rfl) rfl (fi_sq (fe_v 1)) (fg_n (i := 2) sc_check_known.nd rfl) (fss_one (fs_if (ft_cmp (op_ninA (hu65 hr)) v2_nin (by first | exact nomark _ | rfl) (fe_v 2) (fe_v 0)) (fss_never) (fss_nil))))
theorem d_checked_names (T : SaysX fa fn exL fwL erL K mg) : DefA P w K mg base (cnL K) 2 "checked_names" s_checked_names [] [("hook", .bl false)] ["names", "most", "hook"] F_checked_names :=
  DefA.of (N := N_checked_names) (g := G_checked_names) (T.dfn (dd := []) (kd := [("hook", .bl false)]) 49 24) sc_checked_names fun f cdv A outer s H E hr => fss_cons (fs_if (ft_not (ft_chain op_le v2_le op_le v2_le (fe_int) (fe_len T.bt (fa_cons (fe_v 0) (fa_nil))) (fe_v 1))) (fss_never) (fss_nil)) (fss_cons (fs_for (zs := [3, 4]) (passes_of rfl) rfl (fi_en2 rfl T.bt.enumerate (fe_v 0)) (fg_t rfl (fgs_c (fg_n (i := 3) sc_checked_names.nd rfl) (fgs_c (fg_n (i := 4) sc_checked_names.nd rfl) (fgs_n)))) (fss_cons (fs_if (ft_w (fw_and (ft_not (ft_val (fe_a (d_is_name T) b_is_name hr (takes_of rfl rfl rfl rfl) (fa_cons (fe_v 4) (fa_nil))))) (fw_and1 (ft_not (ft_w (fw_and (ft_val (fe_v 2)) (fw_and1 (ft_cmp (op_eqA (hu64 hr)) v2_eq (by first | exact nomark _ | rfl) (fe_v 4) (fe_str))))))))) (fss_never) (fss_nil)) (fss_one (fs_if (ft_cmp (op_inA (hu65 hr)) v2_in (by first | exact nomark _ | rfl) (fe_v 4) (fe_sl (fe_v 0) (fo_n) (fo_s (fe_v 3)))) (fss_never) (fss_nil))))) (fss_one (fs_ret (fe_tupz T.bt (fa_cons (fe_v 0) (fa_nil))))))
theorem d_least (T : SaysX fa fn exL fwL erL K mg) : DefA P w K mg base (cnL K) 1 "least" s_least [] [] ["prices"] F_least :=
  DefA.of (N := N_least) (g := G_least) (T.dfn (dd := []) (kd := []) 50 25) sc_least fun f cdv A outer s H E hr => fss_one (fs_ret (fe_minD T.bt hr (fa_cons (fe_lc (own := [("price", 1)]) rfl sc_least.nd (fi_sq (fe_v 0)) (blkOk_by (own := [("price", 1)]) (N := N_least) (sc := defScope s_least) (by decide +kernel)) (fun _ _ _ _ _ => fg_n (i := 1) sc_least.nd rfl) (fun _ _ _ _ _ => fts_one (ft_cmp op_notN v2_notN (by first | exact nomark _ | rfl) (fe_v 1) (fe_non))) (fun _ _ _ _ _ => fe_v 1)) (fa_nil)) (fk_cons (fe_non) (fk_nil))))
theorem d_Tolls___init__ (T : SaysX fa fn exL fwL erL K mg) : DefI P w K mg base (cnL K) 3 64 "Tolls" "Tolls.__init__" s_Tolls___init__ [.tp0] [] ["self", "names", "entries"] F_Tolls___init__ :=
  DefI.of (N := N_Tolls___init__) (g := G_Tolls___init__) (T.cltD (dd := [.tp0]) (kd := []) 74 72 26 rfl (fun p m e => by
    simp only [List.zipIdx_cons, List.zipIdx_nil, List.mem_cons, List.not_mem_nil, or_false] at m
    subst m
    · exact List.all_eq_true.mp T.u _ (by simp)) ) sc_Tolls___init__ (by decide) fun f cdv A outer s H E hr => fss_cons (fs_fldO (i := 0) (f := 32) rfl rfl fn_names (ff_Tolls_names T) (fe_ak (d_checked_names T) (fun F => kb_checked_names_2_hook F) hr (takes_of rfl rfl rfl rfl) (fa_cons (fe_v 1) (fa_cons (fe_glb (T.int 20)) (fa_nil))) (fk_cons (fe_bl) (fk_nil)))) (fss_cons (fs_new (i := 3) sc_Tolls___init__.nd rfl fn_dT) (fss_cons (fs_for (zs := [4, 5, 6]) (passes_of rfl) rfl (fi_sq (fe_v 2)) (fg_t rfl (fgs_c (fg_n (i := 4) sc_Tolls___init__.nd rfl) (fgs_c (fg_n (i := 5) sc_Tolls___init__.nd rfl) (fgs_c (fg_n (i := 6) sc_Tolls___init__.nd rfl) (fgs_n))))) (fss_cons (fs_expr (fe_a (d_check_known T) b_check_known hr (takes_of rfl rfl rfl rfl) (fa_cons (fe_fldO (i := 0) (f := 32) rfl rfl fn_names (ff_Tolls_names T)) (fa_cons (fe_lst (fa_cons (fe_v 4) (fa_cons (fe_v 5) (fa_nil)))) (fa_nil))))) (fss_cons (fs_if (ft_cmp op_lt v2_lt (by first | exact nomark _ | rfl) (fe_v 6) (fe_int)) (fss_never) (fss_nil)) (fss_one (fs_putT (i := 3) (hu65 hr) rfl (fe_bor (fe_a (d_least T) b_least hr (takes_of rfl rfl rfl rfl) (fa_cons (fe_lst (fa_cons (fe_get1 (hu65 hr) (fe_v 3) (fe_tup (fa_cons (fe_v 4) (fa_cons (fe_v 5) (fa_nil))))) (fa_cons (fe_v 6) (fa_nil)))) (fa_nil)))) (fe_tup (fa_cons (fe_v 4) (fa_cons (fe_v 5) (fa_nil))))))))) (fss_one (fs_frz 3 (fs_fldO (i := 0) (f := 80) rfl rfl fn__prices (ff_Tolls__prices T) (fe_v 3))))))
theorem d_Tolls_same (T : SaysX fa fn exL fwL erL K mg) : DefSm P w K mg base (cnL K) 5 "Tolls" "same" "Tolls.same" s_Tolls_same [] [] ["names"] F_Tolls_same :=
  DefSm.of (N := N_Tolls_same) (g := G_Tolls_same) (T.sm (x := "Tolls") (dd := []) (kd := []) 72 0 (List.all_eq_true.mp T.u _ (by simp)) (List.all_eq_true.mp T.u _ (by simp))) sc_Tolls_same fun f cdv A outer s H E hr => fss_one (fs_ret (fe_new (fn_makeK (d_Tolls___init__ T) (fun F => kb_Tolls___init___2 F) hr (takes_of rfl rfl rfl rfl) (fa_cons (fe_v 0) (fa_cons (fe_lc (own := [("name", 1)]) rfl sc_Tolls_same.nd (fi_sq (fe_v 0)) (blkOk_by (own := [("name", 1)]) (N := N_Tolls_same) (sc := defScope s_Tolls_same) (by decide +kernel)) (fun _ _ _ _ _ => fg_n (i := 1) sc_Tolls_same.nd rfl) (fun _ _ _ _ _ => fts_nil) (fun _ _ _ _ _ => fe_tup (fa_cons (fe_v 1) (fa_cons (fe_v 1) (fa_cons (fe_int) (fa_nil)))))) (fa_nil))) (fk_nil))))
theorem d_check_same_names (T : SaysX fa fn exL fwL erL K mg) : DefA P w K mg base (cnL K) 1 "check_same_names" s_check_same_names [] [] ["first", "second"] F_check_same_names :=
  DefA.of (N := N_check_same_names) (g := G_check_same_names) (T.dfn (dd := []) (kd := []) 51 27) sc_check_same_names fun f cdv A outer s H E hr => fss_one (fs_if (ft_cmp (op_neA (hu64 hr)) v2_ne (by first | exact nomark _ | rfl) (fe_fld (cs := [64, 40]) (f := 32) rfl fn_names (fa_names_64_40 T) (fe_v 0)) (fe_fld (cs := [64, 40]) (f := 32) rfl fn_names (fa_names_64_40 T) (fe_v 1))) (fss_never) (fss_nil))
theorem d_Tolls_entries (T : SaysX fa fn exL fwL erL K mg) : DefM P w K mg base (cnL K) 1 64 "entries" "Tolls.entries" s_Tolls_entries [] [] ["self"] F_Tolls_entries :=
  DefM.of (N := N_Tolls_entries) (g := G_Tolls_entries) (T.met (x := "Tolls") (dd := []) (kd := []) 73 82 28 rfl) sc_Tolls_entries fun f cdv A outer s H E hr => fss_cons (fs_setLc2 (i := 1) rfl rfl (sw_true rfl rfl rfl (by decide +kernel)) (own := [("giver", 2), ("taker", 3)]) (zs1 := [3]) rfl sc_Tolls_entries.nd (fi_sq (fe_fld (cs := [64, 40]) (f := 32) rfl fn_names (fa_names_64_40 T) (fe_v 0))) (blkOk_by (own := [("giver", 2), ("taker", 3)]) (N := N_Tolls_entries) (sc := defScope s_Tolls_entries) (by decide +kernel)) (by decide) (fun _ _ _ _ _ => fg_n (i := 2) sc_Tolls_entries.nd rfl) (fun _ _ _ _ _ => fts_nil) (fun _ _ _ _ _ => fi_sq (fe_fld (cs := [64, 40]) (f := 32) rfl fn_names (fa_names_64_40 T) (fe_v 0))) (fun _ _ _ _ _ => fg_n (i := 3) sc_Tolls_entries.nd rfl) (fun _ _ _ _ _ => fts_nil) (fun _ _ _ _ _ => fe_tup (fa_cons (fe_v 2) (fa_cons (fe_v 3) (fa_nil))))) (fss_one (fs_ret (fe_lc (own := [("giver", 2), ("taker", 3)]) rfl sc_Tolls_entries.nd (fi_sq (fe_v 1)) (blkOk_by (own := [("giver", 2), ("taker", 3)]) (N := N_Tolls_entries) (sc := defScope s_Tolls_entries) (by decide +kernel)) (fun _ _ _ _ _ => fg_t rfl (fgs_c (fg_n (i := 2) sc_Tolls_entries.nd rfl) (fgs_c (fg_n (i := 3) sc_Tolls_entries.nd rfl) (fgs_n)))) (fun _ _ _ _ _ => fts_one (ft_cmp (op_inDi (hu65 hr)) v2_inDi (by first | exact nomark _ | rfl) (fe_tup (fa_cons (fe_v 2) (fa_cons (fe_v 3) (fa_nil)))) (fe_fld (cs := [64]) (f := 80) rfl fn__prices (fa__prices_64 T) (fe_v 0)))) (fun _ _ _ _ _ => fe_tup (fa_cons (fe_v 2) (fa_cons (fe_v 3) (fa_cons (fe_ixA (hu65 hr) (fun _ _ => rfl) (fe_fld (cs := [64]) (f := 80) rfl fn__prices (fa__prices_64 T) (fe_v 0)) (fe_tup (fa_cons (fe_v 2) (fa_cons (fe_v 3) (fa_nil))))) (fa_nil))))))))
theorem d_Tolls___or__ (T : SaysX fa fn exL fwL erL K mg) : DefM P w K mg base (cnL K) 5 64 "__or__" "Tolls.__or__" s_Tolls___or__ [] [] ["self", "other"] F_Tolls___or__ :=
  DefM.of (N := N_Tolls___or__) (g := G_Tolls___or__) (T.met (x := "Tolls") (dd := []) (kd := []) 73 81 29 rfl) sc_Tolls___or__ fun f cdv A outer s H E hr => fss_cons (fs_expr (fe_a (d_check_same_names T) b_check_same_names hr (takes_of rfl rfl rfl rfl) (fa_cons (fe_v 0) (fa_cons (fe_v 1) (fa_nil))))) (fss_one (fs_ret (fe_new (fn_makeK (d_Tolls___init__ T) (fun F => kb_Tolls___init___2 F) hr (takes_of rfl rfl rfl rfl) (fa_cons (fe_fld (cs := [64, 40]) (f := 32) rfl fn_names (fa_names_64_40 T) (fe_v 0)) (fa_cons (fe_op op_addA v2_add (fe_meth0 (nf := nF) (d_Tolls_entries T) mn_entries b_Tolls_entries hr (takes_of rfl rfl rfl rfl) (fe_v 0) ) (fe_meth0 (nf := nF) (d_Tolls_entries T) mn_entries b_Tolls_entries hr (takes_of rfl rfl rfl rfl) (fe_v 1) )) (fa_nil))) (fk_nil)))))
theorem d_table_of (T : SaysX fa fn exL fwL erL K mg) : DefA P w K mg base (cnL K) 5 "table_of" s_table_of [] [] ["names", "rows"] F_table_of :=
  DefA.of (N := N_table_of) (g := G_table_of) (T.dfn (dd := []) (kd := []) 52 30) sc_table_of fun f cdv A outer s H E hr => fss_cons (fs_setLc2 (i := 2) rfl rfl (sw_true rfl rfl rfl (by decide +kernel)) (own := [("giver", 3), ("row", 4), ("taker", 5), ("price", 6)]) (zs1 := [5, 6]) rfl sc_table_of.nd (fi_zp2 rfl T.bt.zip (fe_v 0) (fe_v 1)) (blkOk_by (own := [("giver", 3), ("row", 4), ("taker", 5), ("price", 6)]) (N := N_table_of) (sc := defScope s_table_of) (by decide +kernel)) (by decide) (fun _ _ _ _ _ => fg_t rfl (fgs_c (fg_n (i := 3) sc_table_of.nd rfl) (fgs_c (fg_n (i := 4) sc_table_of.nd rfl) (fgs_n)))) (fun _ _ _ _ _ => fts_nil) (fun _ _ _ _ _ => fi_zp2 rfl T.bt.zip (fe_v 0) (fe_v 4)) (fun _ _ _ _ _ => fg_t rfl (fgs_c (fg_n (i := 5) sc_table_of.nd rfl) (fgs_c (fg_n (i := 6) sc_table_of.nd rfl) (fgs_n)))) (fun _ _ _ _ _ => fts_one (ft_cmp op_notN v2_notN (by first | exact nomark _ | rfl) (fe_v 6) (fe_non))) (fun _ _ _ _ _ => fe_tup (fa_cons (fe_v 3) (fa_cons (fe_v 5) (fa_cons (fe_v 6) (fa_nil)))))) (fss_one (fs_ret (fe_new (fn_makeK (d_Tolls___init__ T) (fun F => kb_Tolls___init___2 F) hr (takes_of rfl rfl rfl rfl) (fa_cons (fe_v 0) (fa_cons (fe_v 2) (fa_nil))) (fk_nil)))))
theorem d_together (T : SaysX fa fn exL fwL erL K mg) : DefA P w K mg base (cnL K) 1 "together" s_together [] [] ["price", "other"] F_together :=
  DefA.of (N := N_together) (g := G_together) (T.dfn (dd := []) (kd := []) 53 31) sc_together fun f cdv A outer s H E hr => fss_cons (fs_if (ft_w (fw_or (ft_cmp op_isN v2_isN (by first | exact nomark _ | rfl) (fe_v 0) (fe_non)) (fw_or1 (ft_cmp op_isN v2_isN (by first | exact nomark _ | rfl) (fe_v 1) (fe_non))))) (fss_one (fs_ret (fe_non))) (fss_nil)) (fss_one (fs_ret (fe_op op_addA v2_add (fe_v 0) (fe_v 1))))
theorem d_Tolls__after (T : SaysX fa fn exL fwL erL K mg) : DefM P w K mg base (cnL K) 2 64 "_after" "Tolls._after" s_Tolls__after [] [] ["self", "prices"] F_Tolls__after :=
  DefM.of (N := N_Tolls__after) (g := G_Tolls__after) (T.met (x := "Tolls") (dd := []) (kd := []) 73 85 32 rfl) sc_Tolls__after fun f cdv A outer s H E hr => fss_one (fs_ret (fe_lc (own := [("taker", 2)]) rfl sc_Tolls__after.nd (fi_sq (fe_fld (cs := [64, 40]) (f := 32) rfl fn_names (fa_names_64_40 T) (fe_v 0))) (blkOk_by (own := [("taker", 2)]) (N := N_Tolls__after) (sc := defScope s_Tolls__after) (by decide +kernel)) (fun _ _ _ _ _ => fg_n (i := 2) sc_Tolls__after.nd rfl) (fun _ _ _ _ _ => fts_nil) (fun _ _ _ _ _ => fe_a (d_least T) b_least hr takes0 (fa_cons (fe_lc (own := [("giver", 3), ("price", 4)]) rfl sc_Tolls__after.nd (fi_zp2 rfl T.bt.zip (fe_fld (cs := [64, 40]) (f := 32) rfl fn_names (fa_names_64_40 T) (fe_v 0)) (fe_v 1)) (blkOk_by (own := [("giver", 3), ("price", 4)]) (by kernel_rfl)) (fun _ _ _ _ _ => fg_t rfl (fgs_c (fg_n (i := 3) sc_Tolls__after.nd rfl) (fgs_c (fg_n (i := 4) sc_Tolls__after.nd rfl) (fgs_n)))) (fun _ _ _ _ _ => fts_nil) (fun _ _ _ _ _ => fe_a (d_together T) b_together hr takes0 (fa_cons (fe_v 4) (fa_cons (fe_get1 (hu65 hr) (fe_fld (cs := [64]) (f := 80) rfl fn__prices (fa__prices_64 T) (fe_v 0)) (fe_tup (fa_cons (fe_v 3) (fa_cons (fe_v 2) (fa_nil))))) (fa_nil))))) (fa_nil)))))
theorem d_Tolls__row (T : SaysX fa fn exL fwL erL K mg) : DefM P w K mg base (cnL K) 1 64 "_row" "Tolls._row" s_Tolls__row [] [] ["self", "giver"] F_Tolls__row :=
  DefM.of (N := N_Tolls__row) (g := G_Tolls__row) (T.met (x := "Tolls") (dd := []) (kd := []) 73 86 33 rfl) sc_Tolls__row fun f cdv A outer s H E hr => fss_one (fs_ret (fe_lc (own := [("taker", 2)]) rfl sc_Tolls__row.nd (fi_sq (fe_fld (cs := [64, 40]) (f := 32) rfl fn_names (fa_names_64_40 T) (fe_v 0))) (blkOk_by (own := [("taker", 2)]) (N := N_Tolls__row) (sc := defScope s_Tolls__row) (by decide +kernel)) (fun _ _ _ _ _ => fg_n (i := 2) sc_Tolls__row.nd rfl) (fun _ _ _ _ _ => fts_nil) (fun _ _ _ _ _ => fe_get1 (hu65 hr) (fe_fld (cs := [64]) (f := 80) rfl fn__prices (fa__prices_64 T) (fe_v 0)) (fe_tup (fa_cons (fe_v 1) (fa_cons (fe_v 2) (fa_nil)))))))
theorem d_Tolls___mul__ (T : SaysX fa fn exL fwL erL K mg) : DefM P w K mg base (cnL K) 6 64 "__mul__" "Tolls.__mul__" s_Tolls___mul__ [] [] ["self", "other"] F_Tolls___mul__ :=
  DefM.of (N := N_Tolls___mul__) (g := G_Tolls___mul__) (T.met (x := "Tolls") (dd := []) (kd := []) 73 84 34 rfl) sc_Tolls___mul__ fun f cdv A outer s H E hr => fss_cons (fs_expr (fe_a (d_check_same_names T) b_check_same_names hr (takes_of rfl rfl rfl rfl) (fa_cons (fe_v 0) (fa_cons (fe_v 1) (fa_nil))))) (fss_one (fs_ret (fe_a (d_table_of T) b_table_of hr (takes_of rfl rfl rfl rfl) (fa_cons (fe_fld (cs := [64, 40]) (f := 32) rfl fn_names (fa_names_64_40 T) (fe_v 0)) (fa_cons (fe_lc (own := [("giver", 2)]) rfl sc_Tolls___mul__.nd (fi_sq (fe_fld (cs := [64, 40]) (f := 32) rfl fn_names (fa_names_64_40 T) (fe_v 0))) (blkOk_by (own := [("giver", 2)]) (N := N_Tolls___mul__) (sc := defScope s_Tolls___mul__) (by decide +kernel)) (fun _ _ _ _ _ => fg_n (i := 2) sc_Tolls___mul__.nd rfl) (fun _ _ _ _ _ => fts_nil) (fun _ _ _ _ _ => fe_meth (nf := nF) (d_Tolls__after T) mn__after b_Tolls__after hr takes0 (fe_v 1) (fa_cons (fe_meth (nf := nF) (d_Tolls__row T) mn__row b_Tolls__row hr takes0 (fe_v 0) (fa_cons (fe_v 2) (fa_nil))) (fa_nil)))) (fa_nil))))))
theorem d_Tolls_power (T : SaysX fa fn exL fwL erL K mg) : DefM P w K mg base (cnL K) 7 64 "power" "Tolls.power" s_Tolls_power [] [] ["self", "times"] F_Tolls_power :=
  DefM.of (N := N_Tolls_power) (g := G_Tolls_power) (T.met (x := "Tolls") (dd := []) (kd := []) 73 83 35 rfl) sc_Tolls_power fun f cdv A outer s H E hr => fss_cons (fs_if (ft_not (ft_chain op_le v2_le op_le v2_le (fe_int) (fe_v 1) (fe_glb (T.int 21)))) (fss_never) (fss_nil)) (fss_cons (fs_set (i := 2) sc_Tolls_power.nd rfl (fe_sm (d_Tolls_same T) (fun F => kb_Tolls_same_1 F) hr (takes_of rfl rfl rfl rfl) (fa_cons (fe_fld (cs := [64, 40]) (f := 32) rfl fn_names (fa_names_64_40 T) (fe_v 0)) (fa_nil)) (fk_nil))) (fss_cons (fs_set (i := 3) sc_Tolls_power.nd rfl (fe_v 0)) (fss_cons (fs_while (n := 1000) (passes_of rfl) (ft_cmp op_gt v2_gt (by first | exact nomark _ | rfl) (fe_v 1) (fe_int)) (fss_cons (fs_if (ft_cmp (op_eqA (hu64 hr)) v2_eq (by first | exact nomark _ | rfl) (fe_op op_mod v2_mod (fe_v 1) (fe_int)) (fe_int)) (fss_one (fs_set (i := 2) sc_Tolls_power.nd rfl (fe_opO (op := .Mult) (d_Tolls___mul__ T) (sf_Tolls T) b_Tolls___mul__ hr (takes_of rfl rfl rfl rfl) (fe_v 2) (fe_v 3)))) (fss_nil)) (fss_cons (fs_set (i := 3) sc_Tolls_power.nd rfl (fe_opO (op := .Mult) (d_Tolls___mul__ T) (sf_Tolls T) b_Tolls___mul__ hr (takes_of rfl rfl rfl rfl) (fe_v 3) (fe_v 3))) (fss_one (fs_set (i := 1) sc_Tolls_power.nd rfl (fe_op op_fdivW v2_div (fe_v 1) (fe_int))))))) (fss_one (fs_ret (fe_v 2))))))
theorem d_Tolls_closed (T : SaysX fa fn exL fwL erL K mg) : DefM P w K mg base (cnL K) 8 64 "closed" "Tolls.closed" s_Tolls_closed [] [] ["self"] F_Tolls_closed :=
  DefM.of (N := N_Tolls_closed) (g := G_Tolls_closed) (T.met (x := "Tolls") (dd := []) (kd := []) 73 80 36 rfl) sc_Tolls_closed fun f cdv A outer s H E hr => fss_cons (fs_set (i := 1) sc_Tolls_closed.nd rfl (fe_opO (op := .BitOr) (d_Tolls___or__ T) (sf_Tolls T) b_Tolls___or__ hr (takes_of rfl rfl rfl rfl) (fe_v 0) (fe_sm (d_Tolls_same T) (fun F => kb_Tolls_same_1 F) hr (takes_of rfl rfl rfl rfl) (fa_cons (fe_fld (cs := [64, 40]) (f := 32) rfl fn_names (fa_names_64_40 T) (fe_v 0)) (fa_nil)) (fk_nil)))) (fss_one (fs_ret (fe_meth (nf := nF) (d_Tolls_power T) mn_power b_Tolls_power hr (takes_of rfl rfl rfl rfl) (fe_v 1) (fa_cons (fe_len T.bt (fa_cons (fe_fld (cs := [64, 40]) (f := 32) rfl fn_names (fa_names_64_40 T) (fe_v 0)) (fa_nil))) (fa_nil)))))
theorem d_Links_tolls (T : SaysX fa fn exL fwL erL K mg) : DefM P w K mg base (cnL K) 5 40 "tolls" "Links.tolls" s_Links_tolls [] [] ["self"] F_Links_tolls :=
  DefM.of (N := N_Links_tolls) (g := G_Links_tolls) (T.met (x := "Links") (dd := []) (kd := []) 70 87 37 rfl) sc_Links_tolls fun f cdv A outer s H E hr => fss_one (fs_ret (fe_new (fn_makeK (d_Tolls___init__ T) (fun F => kb_Tolls___init___2 F) hr (takes_of rfl rfl rfl rfl) (fa_cons (fe_fld (cs := [64, 40]) (f := 32) rfl fn_names (fa_names_64_40 T) (fe_v 0)) (fa_cons (fe_fld (cs := [40]) (f := 38) rfl fn_links (fa_links_40 T) (fe_v 0)) (fa_nil))) (fk_nil))))
theorem d_Links___init__ (T : SaysX fa fn exL fwL erL K mg) : DefI P w K mg base (cnL K) 3 40 "Links" "Links.__init__" s_Links___init__ [.tp0] [] ["self", "names", "links"] F_Links___init__ :=
  DefI.of (N := N_Links___init__) (g := G_Links___init__) (T.cltD (dd := [.tp0]) (kd := []) 71 69 38 rfl (fun p m e => by
    simp only [List.zipIdx_cons, List.zipIdx_nil, List.mem_cons, List.not_mem_nil, or_false] at m
    subst m
    · exact List.all_eq_true.mp T.u _ (by simp)) ) sc_Links___init__ (by decide) fun f cdv A outer s H E hr => fss_cons (fs_fldO (i := 0) (f := 32) rfl rfl fn_names (ff_Links_names T) (fe_ak (d_checked_names T) (fun F => kb_checked_names_2 F) hr (takes_of rfl rfl rfl rfl) (fa_cons (fe_v 1) (fa_cons (fe_glb (T.int 22)) (fa_nil))) (fk_nil))) (fss_cons (fs_if (ft_cmp op_gt v2_gt (by first | exact nomark _ | rfl) (fe_len T.bt (fa_cons (fe_v 2) (fa_nil))) (fe_glb (T.int 23))) (fss_never) (fss_nil)) (fss_cons (fs_for (zs := [3, 4, 5]) (passes_of rfl) rfl (fi_sq (fe_v 2)) (fg_t rfl (fgs_c (fg_n (i := 3) sc_Links___init__.nd rfl) (fgs_c (fg_n (i := 4) sc_Links___init__.nd rfl) (fgs_c (fg_n (i := 5) sc_Links___init__.nd rfl) (fgs_n))))) (fss_cons (fs_expr (fe_a (d_check_known T) b_check_known hr (takes_of rfl rfl rfl rfl) (fa_cons (fe_fldO (i := 0) (f := 32) rfl rfl fn_names (ff_Links_names T)) (fa_cons (fe_lst (fa_cons (fe_v 3) (fa_cons (fe_v 4) (fa_nil)))) (fa_nil))))) (fss_cons (fs_if (ft_cmp (op_eqA (hu64 hr)) v2_eq (by first | exact nomark _ | rfl) (fe_v 3) (fe_v 4)) (fss_never) (fss_nil)) (fss_one (fs_if (ft_not (ft_chain op_le v2_le op_le v2_le (fe_int) (fe_v 5) (fe_glb (T.int 24)))) (fss_never) (fss_nil)))))) (fss_one (fs_fldO (i := 0) (f := 38) rfl rfl fn_links (ff_Links_links T) (fe_tuplec T.bt (fa_cons (fe_lc (own := [("giver", 3), ("taker", 4), ("toll", 5)]) rfl sc_Links___init__.nd (fi_sq (fe_v 2)) (blkOk_by (own := [("giver", 3), ("taker", 4), ("toll", 5)]) (N := N_Links___init__) (sc := defScope s_Links___init__) (by decide +kernel)) (fun _ _ _ _ _ => fg_t rfl (fgs_c (fg_n (i := 3) sc_Links___init__.nd rfl) (fgs_c (fg_n (i := 4) sc_Links___init__.nd rfl) (fgs_c (fg_n (i := 5) sc_Links___init__.nd rfl) (fgs_n))))) (fun _ _ _ _ _ => fts_nil) (fun _ _ _ _ _ => fe_tup (fa_cons (fe_v 3) (fa_cons (fe_v 4) (fa_cons (fe_v 5) (fa_nil)))))) (fa_nil)))))))
theorem d_hand_tolls (T : SaysX fa fn exL fwL erL K mg) : DefA P w K mg base (cnL K) 9 "hand_tolls" s_hand_tolls [] [] ["links", "barred"] F_hand_tolls :=
  DefA.of (N := N_hand_tolls) (g := G_hand_tolls) (T.dfn (dd := []) (kd := []) 54 39) sc_hand_tolls fun f cdv A outer s H E hr => fss_cons (fs_setLc (own := [("link", 8)]) (i := 2) rfl sc_hand_tolls.nd rfl rfl (sw_true rfl rfl rfl (by decide +kernel)) (fi_own (d_Links___iter__ T) hr (fe_v 0)) (blkOk_by (own := [("link", 8)]) (N := N_hand_tolls) (sc := defScope s_hand_tolls) (by decide +kernel)) (fun _ _ _ _ _ => fg_n (i := 8) sc_hand_tolls.nd rfl) (fun _ _ _ _ _ => fts_one (ft_cmp (op_ninA (hu65 hr)) v2_nin (by first | exact nomark _ | rfl) (fe_ix (fun _ _ => rfl) (fe_v 8) (fe_int)) (fe_v 1))) (fun _ _ _ _ _ => fe_v 8)) (fss_cons (fs_set (i := 3) sc_hand_tolls.nd rfl (fe_meth0 (nf := nF) (d_Tolls_closed T) mn_closed b_Tolls_closed hr (takes_of rfl rfl rfl rfl) (fe_meth0 (nf := nF) (d_Links_tolls T) mn_tolls b_Links_tolls hr (takes_of rfl rfl rfl rfl) (fe_new (fn_makeK (d_Links___init__ T) (fun F => kb_Links___init___2 F) hr (takes_of rfl rfl rfl rfl) (fa_cons (fe_fld (cs := [40]) (f := 32) rfl fn_names (fa_names_40 T) (fe_v 0)) (fa_cons (fe_v 2) (fa_nil))) (fk_nil))) ) )) (fss_cons (fs_new (i := 4) sc_hand_tolls.nd rfl fn_dT) (fss_cons (fs_for (zs := [5, 6, 7]) (passes_of rfl) rfl (fi_sq (fe_meth0 (nf := nF) (d_Tolls_entries T) mn_entries b_Tolls_entries hr (takes_of rfl rfl rfl rfl) (fe_v 3) )) (fg_t rfl (fgs_c (fg_n (i := 5) sc_hand_tolls.nd rfl) (fgs_c (fg_n (i := 6) sc_hand_tolls.nd rfl) (fgs_c (fg_n (i := 7) sc_hand_tolls.nd rfl) (fgs_n))))) (fss_one (fs_putT (i := 4) (hu65 hr) rfl (fe_v 7) (fe_tup (fa_cons (fe_v 5) (fa_cons (fe_v 6) (fa_nil))))))) (fss_one (fs_frz 4 (fs_ret (fe_v 4)))))))
theorem d_TurnRule_Rule___init__ (T : SaysX fa fn exL fwL erL K mg) : DefB P w K mg base (cnL K) 10 54 "Rule" "Rule.__init__" s_TurnRule_Rule___init__ [] [] ["self", "name", "members", "limit", "barred", "links", "deposit", "fee", "start"] F_TurnRule_Rule___init__ :=
  DefB.of (N := N_TurnRule_Rule___init__) (g := G_TurnRule_Rule___init__) (dd := []) (kd := []) T.toSays 40 sc_TurnRule_Rule___init__ (by decide) fun f cdv A outer s H E hr => fss_cons (fs_if (ft_not (ft_val (fe_a (d_is_name T) b_is_name hr (takes_of rfl rfl rfl rfl) (fa_cons (fe_v 1) (fa_nil))))) (fss_never) (fss_nil)) (fss_cons (fs_expr (fe_a (d_check_names T) b_check_names hr (takes_of rfl rfl rfl rfl) (fa_cons (fe_v 2) (fa_cons (fe_glb (T.int 25)) (fa_nil))))) (fss_cons (fs_if (ft_cmp op_notN v2_notN (by first | exact nomark _ | rfl) (fe_v 3) (fe_non)) (fss_one (fs_expr (fe_a (d_check_range T) b_check_range hr (takes_of rfl rfl rfl rfl) (fa_cons (fe_v 3) (fa_cons (fe_int) (fa_cons (fe_glb (T.int 26)) (fa_nil))))))) (fss_nil)) (fss_cons (fs_expr (fe_a (d_check_barred T) b_check_barred hr (takes_of rfl rfl rfl rfl) (fa_cons (fe_v 2) (fa_cons (fe_v 4) (fa_nil))))) (fss_cons (fs_set (i := 9) sc_TurnRule_Rule___init__.nd rfl (fe_new (fn_makeK (d_Links___init__ T) (fun F => kb_Links___init___2 F) hr (takes_of rfl rfl rfl rfl) (fa_cons (fe_v 2) (fa_cons (fe_v 5) (fa_nil))) (fk_nil)))) (fss_cons (fs_for (zs := [10]) (passes_of rfl) rfl (fi_sq (fe_tup (fa_cons (fe_v 6) (fa_cons (fe_v 7) (fa_cons (fe_v 8) (fa_nil)))))) (fg_n (i := 10) sc_TurnRule_Rule___init__.nd rfl) (fss_one (fs_expr (fe_a (d_check_range T) b_check_range hr (takes_of rfl rfl rfl rfl) (fa_cons (fe_v 10) (fa_cons (fe_int) (fa_cons (fe_glb (T.int 27)) (fa_nil)))))))) (fss_cons (fs_fldO (i := 0) (f := 14) rfl rfl fn_name (ff_TurnRule_name T) (fe_v 1)) (fss_cons (fs_fldO (i := 0) (f := 30) rfl rfl fn_members (ff_TurnRule_members T) (fe_tuplec T.bt (fa_cons (fe_v 2) (fa_nil)))) (fss_cons (fs_fldO (i := 0) (f := 64) rfl rfl fn_limit (ff_TurnRule_limit T) (fe_v 3)) (fss_cons (fs_fldO (i := 0) (f := 65) rfl rfl fn_barred (ff_TurnRule_barred T) (fe_tuplec T.bt (fa_cons (fe_lc (own := [("member", 11)]) rfl sc_TurnRule_Rule___init__.nd (fi_sq (fe_v 2)) (blkOk_by (own := [("member", 11)]) (N := N_TurnRule_Rule___init__) (sc := defScope s_TurnRule_Rule___init__) (by decide +kernel)) (fun _ _ _ _ _ => fg_n (i := 11) sc_TurnRule_Rule___init__.nd rfl) (fun _ _ _ _ _ => fts_one (ft_cmp (op_inA (hu65 hr)) v2_in (by first | exact nomark _ | rfl) (fe_v 11) (fe_v 4))) (fun _ _ _ _ _ => fe_v 11)) (fa_nil)))) (fss_cons (fs_fldO (i := 0) (f := 38) rfl rfl fn_links (ff_TurnRule_links T) (fe_v 9)) (fss_cons (fs_fldO (i := 0) (f := 66) rfl rfl fn_deposit (ff_TurnRule_deposit T) (fe_v 6)) (fss_cons (fs_fldO (i := 0) (f := 67) rfl rfl fn_fee (ff_TurnRule_fee T) (fe_v 7)) (fss_cons (fs_fldO (i := 0) (f := 68) rfl rfl fn_start (ff_TurnRule_start T) (fe_v 8)) (fss_cons (fs_fldO (i := 0) (f := 69) rfl rfl fn__hands (ff_TurnRule__hands T) (fe_a (d_hand_tolls T) b_hand_tolls hr (takes_of rfl rfl rfl rfl) (fa_cons (fe_v 9) (fa_cons (fe_fldO (i := 0) (f := 65) rfl rfl fn_barred (ff_TurnRule_barred T)) (fa_nil))))) (fss_cons (fs_fldN (i := 0) (f := 70) rfl rfl fn__barred_tolls (ff_TurnRule__barred_tolls T) fn_dK) (fss_one (fs_seal 0 (fs_for (zs := [11]) (passes_of rfl) rfl (fi_sq (fe_v 2)) (fg_n (i := 11) sc_TurnRule_Rule___init__.nd rfl) (fss_cons (fs_setLc (own := [("other", 13)]) (i := 12) rfl sc_TurnRule_Rule___init__.nd rfl rfl (sw_true rfl rfl rfl (by decide +kernel)) (fi_sq (fe_fldT (i := 0) (f := 65) rfl rfl fn_barred (ff_TurnRule_barred T))) (blkOk_by (own := [("other", 13)]) (N := N_TurnRule_Rule___init__) (sc := defScope s_TurnRule_Rule___init__) (by decide +kernel)) (fun _ _ _ _ _ => fg_n (i := 13) sc_TurnRule_Rule___init__.nd rfl) (fun _ _ _ _ _ => fts_one (ft_cmp (op_inDi (hu65 hr)) v2_inDi (by first | exact nomark _ | rfl) (fe_tup (fa_cons (fe_v 11) (fa_cons (fe_v 13) (fa_nil)))) (fe_fldT (i := 0) (f := 69) rfl rfl fn__hands (ff_TurnRule__hands T)))) (fun _ _ _ _ _ => fe_ixA (hu65 hr) (fun _ _ => rfl) (fe_fldT (i := 0) (f := 69) rfl rfl fn__hands (ff_TurnRule__hands T)) (fe_tup (fa_cons (fe_v 11) (fa_cons (fe_v 13) (fa_nil)))))) (fss_one (fs_putFK (i := 0) (f := 70) (hu65 hr) rfl rfl fn__barred_tolls (ff_TurnRule__barred_tolls T) (fe_minD T.bt hr (fa_cons (fe_v 12) (fa_nil)) (fk_cons (fe_non) (fk_nil))) (fe_v 11))))))))))))))))))))))
theorem d_TurnRule___init__ (T : SaysX fa fn exL fwL erL K mg) : DefIS P w K mg base (cnL K) 12 54 "TurnRule" "TurnRule.__init__" s_TurnRule___init__ [("limit", .non), ("barred", .tp0), ("links", .tp0), ("deposit", .int 0), ("fee", .int 1), ("start", .int 0)] ["self", "name", "members", "limit", "barred", "links", "deposit", "fee", "start"] F_TurnRule___init__ :=
  DefIS.of (self := "self") (N := N_TurnRule___init__) (ks := ["limit", "barred", "links", "deposit", "fee", "start"]) (g := G_TurnRule___init__) (T.su (P := P) (xb := "Rule") (kd := [("limit", .non), ("barred", .tp0), ("links", .tp0), ("deposit", .int 0), ("fee", .int 1), ("start", .int 0)]) 0 (List.all_eq_true.mp T.u _ (by simp))) (T.mk_ 65) rfl (T.glo 63) (T.free 115) (d_TurnRule_Rule___init__ T) (fun F => kb_TurnRule_Rule___init___2_limit_barred_links_deposit_fee_start F) rfl fun cc cdA A outer s H E hr => ⟨fa_cons (fe_v 1) (fa_cons (fe_v 2) (fa_nil)), fk_cons (fe_v 3) (fk_cons (fe_v 4) (fk_cons (fe_v 5) (fk_cons (fe_v 6) (fk_cons (fe_v 7) (fk_cons (fe_v 8) (fk_nil)))))), fss_nil⟩
theorem d__law_turn_rule (T : SaysX fa fn exL fwL erL K mg) : DefA P w K mg base (cnL K) 14 "_law_turn_rule" s__law_turn_rule [] [] ["pool", "name", "members"] F__law_turn_rule :=
  DefA.of (N := N__law_turn_rule) (g := G__law_turn_rule) (T.dfn (dd := []) (kd := []) 55 41) sc__law_turn_rule fun f cdv A outer s H E hr => fss_cons (fs_set (i := 3) sc__law_turn_rule.nd rfl (fe_a (d__law_some T) b__law_some hr (takes_of rfl rfl rfl rfl) (fa_cons (fe_v 0) (fa_cons (fe_int) (fa_cons (fe_v 2) (fa_nil)))))) (fss_cons (fs_if (ft_cmp (op_eqA (hu64 hr)) v2_eq (by first | exact nomark _ | rfl) (fe_a (d__law_part T) b__law_part hr (takes_of rfl rfl rfl rfl) (fa_cons (fe_v 0) (fa_cons (fe_int) (fa_cons (fe_int) (fa_cons (fe_int) (fa_nil)))))) (fe_int)) (fss_one (fs_set (i := 3) sc__law_turn_rule.nd rfl (fe_lst (fa_nil)))) (fss_nil)) (fss_cons (fs_set (i := 4) sc__law_turn_rule.nd rfl (fe_ix (fun _ _ => rfl) (fe_lst (fa_cons (fe_non) (fa_cons (fe_int) (fa_cons (fe_int) (fa_cons (fe_int) (fa_cons (fe_int) (fa_nil))))))) (fe_a (d__law_part T) b__law_part hr (takes_of rfl rfl rfl rfl) (fa_cons (fe_v 0) (fa_cons (fe_int) (fa_cons (fe_int) (fa_cons (fe_int) (fa_nil)))))))) (fss_cons (fs_set (i := 5) sc__law_turn_rule.nd rfl (fe_a (d__law_links T) b__law_links hr (takes_of rfl rfl rfl rfl) (fa_cons (fe_v 0) (fa_cons (fe_int) (fa_cons (fe_v 2) (fa_cons (fe_a (d__law_part T) b__law_part hr (takes_of rfl rfl rfl rfl) (fa_cons (fe_v 0) (fa_cons (fe_int) (fa_cons (fe_int) (fa_cons (fe_int) (fa_nil)))))) (fa_nil))))))) (fss_one (fs_ret (fe_tup (fa_cons (fe_new (fn_makeKs (d_TurnRule___init__ T) (fun F => kb_TurnRule___init___2_limit_barred_links F) hr (takes_of rfl rfl rfl rfl) (fa_cons (fe_v 1) (fa_cons (fe_listc T.bt (fa_cons (fe_v 2) (fa_nil))) (fa_nil))) (fk_cons (fe_v 4) (fk_cons (fe_a (d__law_shuffled T) b__law_shuffled hr (takes_of rfl rfl rfl rfl) (fa_cons (fe_v 0) (fa_cons (fe_int) (fa_cons (fe_v 3) (fa_nil))))) (fk_cons (fe_v 5) (fk_nil)))))) (fa_cons (fe_v 3) (fa_nil)))))))))
theorem d_are_bids (T : SaysX fa fn exL fwL erL K mg) : DefA P w K mg base (cnL K) 1 "are_bids" s_are_bids [] [] ["members", "bids"] F_are_bids :=
  DefA.of (N := N_are_bids) (g := G_are_bids) (T.dfn (dd := []) (kd := []) 56 42) sc_are_bids fun f cdv A outer s H E hr => fss_cons (fs_own (i := 2) sc_are_bids.nd rfl (fl_lst (fa_nil))) (fss_cons (fs_for (zs := [3, 4]) (passes_of rfl) rfl (fi_sq (fe_v 1)) (fg_t rfl (fgs_c (fg_n (i := 3) sc_are_bids.nd rfl) (fgs_c (fg_n (i := 4) sc_are_bids.nd rfl) (fgs_n)))) (fss_cons (fs_if (ft_bor (ft_w (fw_or (ft_cmp (op_ninA (hu65 hr)) v2_nin (by first | exact nomark _ | rfl) (fe_v 3) (fe_v 0)) (fw_or (ft_cmp (op_inA (hu65 hr)) v2_in (by first | exact nomark _ | rfl) (fe_v 3) (fe_v 2)) (fw_or1 (ft_not (ft_chain op_le v2_le op_le v2_le (fe_int) (fe_v 4) (fe_glb (T.int 27))))))))) (fss_one (fs_ret (fe_bl))) (fss_nil)) (fss_one (fs_app (i := 2) rfl (fe_v 3))))) (fss_one (fs_ret (fe_bl))))
theorem d_are_known (T : SaysX fa fn exL fwL erL K mg) : DefA P w K mg base (cnL K) 1 "are_known" s_are_known [] [] ["names", "known"] F_are_known :=
  DefA.of (N := N_are_known) (g := G_are_known) (T.dfn (dd := []) (kd := []) 57 43) sc_are_known fun f cdv A outer s H E hr => fss_cons (fs_for (zs := [2, 3]) (passes_of rfl) rfl (fi_en2 rfl T.bt.enumerate (fe_v 0)) (fg_t rfl (fgs_c (fg_n (i := 2) sc_are_known.nd rfl) (fgs_c (fg_n (i := 3) sc_are_known.nd rfl) (fgs_n)))) (fss_one (fs_if (ft_w (fw_or (ft_cmp (op_ninA (hu65 hr)) v2_nin (by first | exact nomark _ | rfl) (fe_v 3) (fe_v 1)) (fw_or1 (ft_cmp (op_inA (hu65 hr)) v2_in (by first | exact nomark _ | rfl) (fe_v 3) (fe_sl (fe_v 0) (fo_n) (fo_s (fe_v 2))))))) (fss_one (fs_ret (fe_bl))) (fss_nil)))) (fss_one (fs_ret (fe_bl)))
theorem d_check_book (T : SaysX fa fn exL fwL erL K mg) : DefA P w K mg base (cnL K) 3 "check_book" s_check_book [] [] ["members", "pages", "starts", "home"] F_check_book :=
  DefA.of (N := N_check_book) (g := G_check_book) (T.dfn (dd := []) (kd := []) 58 44) sc_check_book fun f cdv A outer s H E hr => fss_cons (fs_expr (fe_a (d_check_names T) b_check_names hr (takes_of rfl rfl rfl rfl) (fa_cons (fe_v 0) (fa_cons (fe_glb (T.int 25)) (fa_nil))))) (fss_cons (fs_if (ft_not (ft_chain op_le v2_le op_le v2_le (fe_int) (fe_len T.bt (fa_cons (fe_v 1) (fa_nil))) (fe_glb (T.int 28)))) (fss_never) (fss_nil)) (fss_cons (fs_setLc (own := [("row", 10)]) (i := 4) rfl sc_check_book.nd rfl rfl (sw_true rfl rfl rfl (by decide +kernel)) (fi_sq (fe_v 1)) (blkOk_by (own := [("row", 10)]) (N := N_check_book) (sc := defScope s_check_book) (by decide +kernel)) (fun _ _ _ _ _ => fg_n (i := 10) sc_check_book.nd rfl) (fun _ _ _ _ _ => fts_nil) (fun _ _ _ _ _ => fe_ix (fun _ _ => rfl) (fe_v 10) (fe_int))) (fss_cons (fs_for (zs := [5, 6, 7, 8]) (passes_of rfl) rfl (fi_en2 rfl T.bt.enumerate (fe_v 1)) (fg_t rfl (fgs_c (fg_n (i := 5) sc_check_book.nd rfl) (fgs_c (fg_t rfl (fgs_c (fg_n (i := 6) sc_check_book.nd rfl) (fgs_c (fg_n (i := 7) sc_check_book.nd rfl) (fgs_c (fg_n (i := 8) sc_check_book.nd rfl) (fgs_n))))) (fgs_n)))) (fss_one (fs_if (ft_w (fw_or (ft_not (ft_val (fe_a (d_is_name T) b_is_name hr (takes_of rfl rfl rfl rfl) (fa_cons (fe_v 6) (fa_nil))))) (fw_or (ft_cmp (op_inA (hu65 hr)) v2_in (by first | exact nomark _ | rfl) (fe_v 6) (fe_sl (fe_v 4) (fo_n) (fo_s (fe_v 5)))) (fw_or1 (ft_not (ft_val (fe_a (d_are_bids T) b_are_bids hr (takes_of rfl rfl rfl rfl) (fa_cons (fe_v 0) (fa_cons (fe_v 7) (fa_nil)))))))))) (fss_never) (fss_nil)))) (fss_cons (fs_for (zs := [5, 8, 8, 9]) (passes_of rfl) rfl (fi_en2 rfl T.bt.enumerate (fe_v 1)) (fg_t rfl (fgs_c (fg_n (i := 5) sc_check_book.nd rfl) (fgs_c (fg_t rfl (fgs_c (fg_n (i := 8) sc_check_book.nd rfl) (fgs_c (fg_n (i := 8) sc_check_book.nd rfl) (fgs_c (fg_n (i := 9) sc_check_book.nd rfl) (fgs_n))))) (fgs_n)))) (fss_one (fs_if (ft_not (ft_val (fe_a (d_are_known T) b_are_known hr (takes_of rfl rfl rfl rfl) (fa_cons (fe_v 9) (fa_cons (fe_v 4) (fa_nil)))))) (fss_never) (fss_nil)))) (fss_cons (fs_if (ft_w (fw_or (ft_cmp (op_eqA (hu64 hr)) v2_eq (by first | exact nomark _ | rfl) (fe_len T.bt (fa_cons (fe_v 2) (fa_nil))) (fe_int)) (fw_or1 (ft_not (ft_val (fe_a (d_are_known T) b_are_known hr (takes_of rfl rfl rfl rfl) (fa_cons (fe_v 2) (fa_cons (fe_v 4) (fa_nil))))))))) (fss_never) (fss_nil)) (fss_one (fs_if (ft_not (ft_val (fe_a (d_are_known T) b_are_known hr (takes_of rfl rfl rfl rfl) (fa_cons (fe_v 3) (fa_cons (fe_v 4) (fa_nil)))))) (fss_never) (fss_nil))))))))
theorem d_Page___init__ (T : SaysX fa fn exL fwL erL K mg) : DefI P w K mg base (cnL K) 1 43 "Page" "Page.__init__" s_Page___init__ [] [] ["self", "name", "bids", "followers", "home"] F_Page___init__ :=
  DefI.of (N := N_Page___init__) (g := G_Page___init__) (T.clt (dd := []) (kd := []) 68 66 45 rfl ) sc_Page___init__ (by decide) fun f cdv A outer s H E hr => fss_cons (fs_fldO (i := 0) (f := 14) rfl rfl fn_name (ff_Page_name T) (fe_v 1)) (fss_cons (fs_fldO (i := 0) (f := 45) rfl rfl fn_bids (ff_Page_bids T) (fe_tuplec T.bt (fa_cons (fe_v 2) (fa_nil)))) (fss_cons (fs_fldO (i := 0) (f := 46) rfl rfl fn_wishers (ff_Page_wishers T) (fe_tuplec T.bt (fa_cons (fe_lc (own := [("member", 5), ("_", 6)]) rfl sc_Page___init__.nd (fi_sq (fe_v 2)) (blkOk_by (own := [("member", 5), ("_", 6)]) (N := N_Page___init__) (sc := defScope s_Page___init__) (by decide +kernel)) (fun _ _ _ _ _ => fg_t rfl (fgs_c (fg_n (i := 5) sc_Page___init__.nd rfl) (fgs_c (fg_n (i := 6) sc_Page___init__.nd rfl) (fgs_n)))) (fun _ _ _ _ _ => fts_nil) (fun _ _ _ _ _ => fe_v 5)) (fa_nil)))) (fss_cons (fs_fldO (i := 0) (f := 47) rfl rfl fn_followers (ff_Page_followers T) (fe_tuplec T.bt (fa_cons (fe_v 3) (fa_nil)))) (fss_one (fs_fldO (i := 0) (f := 48) rfl rfl fn_home (ff_Page_home T) (fe_v 4))))))
theorem d_Book___init__ (T : SaysX fa fn exL fwL erL K mg) : DefI P w K mg base (cnL K) 4 44 "Book" "Book.__init__" s_Book___init__ [] [] ["self", "members", "pages", "starts", "home"] F_Book___init__ :=
  DefI.of (N := N_Book___init__) (g := G_Book___init__) (T.clt (dd := []) (kd := []) 62 60 46 rfl ) sc_Book___init__ (by decide) fun f cdv A outer s H E hr => fss_cons (fs_expr (fe_a (d_check_book T) b_check_book hr (takes_of rfl rfl rfl rfl) (fa_cons (fe_v 1) (fa_cons (fe_v 2) (fa_cons (fe_v 3) (fa_cons (fe_v 4) (fa_nil))))))) (fss_cons (fs_fldO (i := 0) (f := 30) rfl rfl fn_members (ff_Book_members T) (fe_tuplec T.bt (fa_cons (fe_v 1) (fa_nil)))) (fss_cons (fs_fldO (i := 0) (f := 32) rfl rfl fn_names (ff_Book_names T) (fe_tuplec T.bt (fa_cons (fe_lc (own := [("row", 11)]) rfl sc_Book___init__.nd (fi_sq (fe_v 2)) (blkOk_by (own := [("row", 11)]) (N := N_Book___init__) (sc := defScope s_Book___init__) (by decide +kernel)) (fun _ _ _ _ _ => fg_n (i := 11) sc_Book___init__.nd rfl) (fun _ _ _ _ _ => fts_nil) (fun _ _ _ _ _ => fe_ix (fun _ _ => rfl) (fe_v 11) (fe_int))) (fa_nil)))) (fss_cons (fs_fldO (i := 0) (f := 49) rfl rfl fn_starts (ff_Book_starts T) (fe_tuplec T.bt (fa_cons (fe_v 3) (fa_nil)))) (fss_cons (fs_fldO (i := 0) (f := 48) rfl rfl fn_home (ff_Book_home T) (fe_tuplec T.bt (fa_cons (fe_lc (own := [("name", 6)]) rfl sc_Book___init__.nd (fi_sq (fe_fldO (i := 0) (f := 32) rfl rfl fn_names (ff_Book_names T))) (blkOk_by (own := [("name", 6)]) (N := N_Book___init__) (sc := defScope s_Book___init__) (by decide +kernel)) (fun _ _ _ _ _ => fg_n (i := 6) sc_Book___init__.nd rfl) (fun _ _ _ _ _ => fts_one (ft_cmp (op_inA (hu65 hr)) v2_in (by first | exact nomark _ | rfl) (fe_v 6) (fe_v 4))) (fun _ _ _ _ _ => fe_v 6)) (fa_nil)))) (fss_cons (fs_own (i := 5) sc_Book___init__.nd rfl (fl_lst (fa_nil))) (fss_cons (fs_for (zs := [6, 7, 8]) (passes_of rfl) rfl (fi_sq (fe_v 2)) (fg_t rfl (fgs_c (fg_n (i := 6) sc_Book___init__.nd rfl) (fgs_c (fg_n (i := 7) sc_Book___init__.nd rfl) (fgs_c (fg_n (i := 8) sc_Book___init__.nd rfl) (fgs_n))))) (fss_cons (fs_set (i := 9) sc_Book___init__.nd rfl (fe_dictc T.bt (fa_cons (fe_v 7) (fa_nil)))) (fss_cons (fs_setLc (own := [("member", 12)]) (i := 10) rfl sc_Book___init__.nd rfl rfl (sw_true rfl rfl rfl (by decide +kernel)) (fi_sq (fe_v 1)) (blkOk_by (own := [("member", 12)]) (N := N_Book___init__) (sc := defScope s_Book___init__) (by decide +kernel)) (fun _ _ _ _ _ => fg_n (i := 12) sc_Book___init__.nd rfl) (fun _ _ _ _ _ => fts_one (ft_cmp (op_inDi (hu65 hr)) v2_inDi (by first | exact nomark _ | rfl) (fe_v 12) (fe_v 9))) (fun _ _ _ _ _ => fe_tup (fa_cons (fe_v 12) (fa_cons (fe_ixA (hu65 hr) (fun _ _ => rfl) (fe_v 9) (fe_v 12)) (fa_nil))))) (fss_one (fs_app (i := 5) rfl (fe_new (fn_make (d_Page___init__ T) b_Page___init__ hr (takes_of rfl rfl rfl rfl) (fa_cons (fe_v 6) (fa_cons (fe_v 10) (fa_cons (fe_v 8) (fa_cons (fe_cmp (op_inA (hu65 hr)) v2_in (by first | exact nomark _ | rfl) (fe_v 6) (fe_v 4)) (fa_nil)))))))))))) (fss_cons (fs_frz 5 (fs_fldO (i := 0) (f := 50) rfl rfl fn__pages (ff_Book__pages T) (fe_tuplec T.bt (fa_cons (fe_v 5) (fa_nil))))) (fss_one (fs_frz 5 (fs_fldO (i := 0) (f := 51) rfl rfl fn__rows (ff_Book__rows T) (fe_tuplec T.bt (fa_cons (fe_lc (own := [("page", 13)]) rfl sc_Book___init__.nd (fi_sq (fe_v 5)) (blkOk_by (own := [("page", 13)]) (N := N_Book___init__) (sc := defScope s_Book___init__) (by decide +kernel)) (fun _ _ _ _ _ => fg_n (i := 13) sc_Book___init__.nd rfl) (fun _ _ _ _ _ => fts_nil) (fun _ _ _ _ _ => fe_tup (fa_cons (fe_fld (cs := [43]) (f := 14) rfl fn_name (fa_name_43 T) (fe_v 13)) (fa_cons (fe_fld (cs := [43]) (f := 45) rfl fn_bids (fa_bids_43 T) (fe_v 13)) (fa_cons (fe_fld (cs := [43]) (f := 47) rfl fn_followers (fa_followers_43 T) (fe_v 13)) (fa_nil)))))) (fa_nil)))))))))))))
theorem d_Book_page (T : SaysX fa fn exL fwL erL K mg) : DefM P w K mg base (cnL K) 1 44 "page" "Book.page" s_Book_page [] [] ["self", "name"] F_Book_page :=
  DefM.of (N := N_Book_page) (g := G_Book_page) (T.met (x := "Book") (dd := []) (kd := []) 61 88 47 rfl) sc_Book_page fun f cdv A outer s H E hr => fss_cons (fs_for (zs := [2]) (passes_of rfl) rfl (fi_sq (fe_fld (cs := [44]) (f := 50) rfl fn__pages (fa__pages_44 T) (fe_v 0))) (fg_n (i := 2) sc_Book_page.nd rfl) (fss_one (fs_if (ft_cmp (op_eqA (hu64 hr)) v2_eq (by first | exact nomark _ | rfl) (fe_fld (cs := [43]) (f := 14) rfl fn_name (fa_name_43 T) (fe_v 2)) (fe_v 1)) (fss_one (fs_ret (fe_v 2))) (fss_nil)))) (fss_never)
theorem d_Book___iter__ (T : SaysX fa fn exL fwL erL K mg) : DefT P w K mg base (cnL K) 1 44 "Book.__iter__" s_Book___iter__ F_Book___iter__ :=
  DefT.of (N := N_Book___iter__) (fa := e1 (gFld [44] 50) (eV 0)) (T.met (x := "Book") (dd := []) (kd := []) 61 89 48 rfl) sc_Book___iter__ rfl b_Book___iter__ (fun _ _ _ _ _ _ _ => ⟨rfl, rfl⟩) (T.free 78) (by decide +kernel) fun f cdv A outer s H E hr => fe_fld (cs := [44]) (f := 50) rfl fn__pages (fa__pages_44 T) (fe_v 0)
theorem d_law (T : SaysX fa fn exL fwL erL K mg) : DefA P w K mg base (cnL K) 15 "law" s_law [] [] ["script"] F_law :=
  DefA.of (N := N_law) (g := G_law) (T.dfn (dd := []) (kd := []) 59 49) sc_law fun f cdv A outer s H E hr => fss_cons (fs_set (i := 1) sc_law.nd rfl (fe_a (d__law_pool T) b__law_pool hr (takes_of rfl rfl rfl rfl) (fa_cons (fe_a (d__law_cell T) b__law_cell hr (takes_of rfl rfl rfl rfl) (fa_cons (fe_v 0) (fa_cons (fe_int) (fa_nil)))) (fa_cons (fe_int) (fa_nil))))) (fss_cons (fs_set (i := 2) sc_law.nd rfl (fe_a (d__law_names T) b__law_names hr (takes_of rfl rfl rfl rfl) (fa_cons (fe_v 1) (fa_cons (fe_int) (fa_cons (fe_op op_addA v2_add (fe_int) (fe_a (d__law_part T) b__law_part hr (takes_of rfl rfl rfl rfl) (fa_cons (fe_v 1) (fa_cons (fe_int) (fa_cons (fe_int) (fa_cons (fe_int) (fa_nil))))))) (fa_nil)))))) (fss_cons (fs_set (i := 3) sc_law.nd rfl (fe_a (d__law_names T) b__law_names hr (takes_of rfl rfl rfl rfl) (fa_cons (fe_v 1) (fa_cons (fe_int) (fa_cons (fe_op op_addA v2_add (fe_int) (fe_a (d__law_part T) b__law_part hr (takes_of rfl rfl rfl rfl) (fa_cons (fe_v 1) (fa_cons (fe_int) (fa_cons (fe_int) (fa_cons (fe_int) (fa_nil))))))) (fa_nil)))))) (fss_cons (fs_set (i := 4) sc_law.nd rfl (fe_a (d__law_rows T) b__law_rows hr (takes_of rfl rfl rfl rfl) (fa_cons (fe_v 1) (fa_cons (fe_v 2) (fa_cons (fe_v 3) (fa_nil)))))) (fss_cons (fs_set (i := 5) sc_law.nd rfl (fe_sl (fe_v 3) (fo_n) (fo_s (fe_a (d__law_part T) b__law_part hr (takes_of rfl rfl rfl rfl) (fa_cons (fe_v 1) (fa_cons (fe_int) (fa_cons (fe_int) (fa_cons (fe_int) (fa_nil))))))))) (fss_cons (fs_set (i := 6) sc_law.nd rfl (fe_new (fn_makeK (d_Book___init__ T) (fun F => kb_Book___init___3_home F) hr (takes_of rfl rfl rfl rfl) (fa_cons (fe_listc T.bt (fa_cons (fe_v 2) (fa_nil))) (fa_cons (fe_lc (own := [("title", 14), ("bids", 15), ("after", 16)]) rfl sc_law.nd (fi_sq (fe_v 4)) (blkOk_by (own := [("title", 14), ("bids", 15), ("after", 16)]) (N := N_law) (sc := defScope s_law) (by decide +kernel)) (fun _ _ _ _ _ => fg_t rfl (fgs_c (fg_n (i := 14) sc_law.nd rfl) (fgs_c (fg_n (i := 15) sc_law.nd rfl) (fgs_c (fg_n (i := 16) sc_law.nd rfl) (fgs_n))))) (fun _ _ _ _ _ => fts_nil) (fun _ _ _ _ _ => fe_tup (fa_cons (fe_v 14) (fa_cons (fe_listc T.bt (fa_cons (fe_v 15) (fa_nil))) (fa_cons (fe_listc T.bt (fa_cons (fe_v 16) (fa_nil))) (fa_nil)))))) (fa_cons (fe_listc T.bt (fa_cons (fe_v 3) (fa_nil))) (fa_nil)))) (fk_cons (fe_v 5) (fk_nil))))) (fss_cons (fs_setLc (own := [("k", 17)]) (i := 7) rfl sc_law.nd rfl rfl (sw_true rfl rfl rfl (by decide +kernel)) (fi_r1 rfl T.bt.range (fe_int)) (blkOk_by (own := [("k", 17)]) (N := N_law) (sc := defScope s_law) (by decide +kernel)) (fun _ _ _ _ _ => fg_n (i := 17) sc_law.nd rfl) (fun _ _ _ _ _ => fts_nil) (fun _ _ _ _ _ => fe_a (d__law_turn_rule T) b__law_turn_rule hr takes0 (fa_cons (fe_a (d__law_pool T) b__law_pool hr takes0 (fa_cons (fe_a (d__law_cell T) b__law_cell hr takes0 (fa_cons (fe_v 0) (fa_cons (fe_op op_addA v2_add (fe_int) (fe_v 17)) (fa_nil)))) (fa_cons (fe_int) (fa_nil)))) (fa_cons (fe_ix (fun _ _ => rfl) (fe_v 3) (fe_int)) (fa_cons (fe_v 2) (fa_nil)))))) (fss_cons (fs_for (zs := [8]) (passes_of rfl) rfl (fi_r1 rfl T.bt.range (fe_int)) (fg_n (i := 8) sc_law.nd rfl) (fss_one (fs_for (zs := [9]) (passes_of rfl) rfl (fi_sq (fe_v 4)) (fg_n (i := 9) sc_law.nd rfl) (fss_cons (fs_set (i := 10) sc_law.nd rfl (fe_meth (nf := nF) (d_Book_page T) mn_page b_Book_page hr (takes_of rfl rfl rfl rfl) (fe_v 6) (fa_cons (fe_ix (fun _ _ => rfl) (fe_v 9) (fe_int)) (fa_nil)))) (fss_one (fs_for (zs := [11, 12]) (passes_of rfl) rfl (fi_sq (fe_v 7)) (fg_t rfl (fgs_c (fg_n (i := 11) sc_law.nd rfl) (fgs_c (fg_n (i := 12) sc_law.nd rfl) (fgs_n)))) (fss_cons (fs_if (ft_not (ft_val (fe_a (d__law_tells T) b__law_tells hr (takes_of rfl rfl rfl rfl) (fa_cons (fe_v 11) (fa_cons (fe_v 10) (fa_cons (fe_a (d__law_free T) b__law_free hr (takes_of rfl rfl rfl rfl) (fa_cons (fe_v 9) (fa_cons (fe_v 2) (fa_cons (fe_v 12) (fa_nil))))) (fa_nil))))))) (fss_one (fs_ret (fe_bl))) (fss_nil)) (fss_one (fs_expr (fe_a (d__law_spoil T) b__law_spoil hr (takes_of rfl rfl rfl rfl) (fa_cons (fe_v 11) (fa_cons (fe_v 10) (fa_cons (fe_a (d__law_free T) b__law_free hr (takes_of rfl rfl rfl rfl) (fa_cons (fe_v 9) (fa_cons (fe_v 2) (fa_cons (fe_v 12) (fa_nil))))) (fa_nil)))))))))))))) (fss_cons (fs_set (i := 13) sc_law.nd rfl (fe_int)) (fss_cons (fs_for (zs := [10]) (passes_of rfl) rfl (fi_own (d_Book___iter__ T) hr (fe_v 6)) (fg_n (i := 10) sc_law.nd rfl) (fss_cons (fs_for (zs := [11, 12]) (passes_of rfl) rfl (fi_sq (fe_v 7)) (fg_t rfl (fgs_c (fg_n (i := 11) sc_law.nd rfl) (fgs_c (fg_n (i := 12) sc_law.nd rfl) (fgs_n)))) (fss_one (fs_if (ft_w (fw_or (ft_cmp op_ge v2_ge (by first | exact nomark _ | rfl) (fe_v 13) (fe_len T.bt (fa_cons (fe_v 4) (fa_nil)))) (fw_or1 (ft_not (ft_val (fe_a (d__law_tells T) b__law_tells hr (takes_of rfl rfl rfl rfl) (fa_cons (fe_v 11) (fa_cons (fe_v 10) (fa_cons (fe_a (d__law_free T) b__law_free hr (takes_of rfl rfl rfl rfl) (fa_cons (fe_ix (fun _ _ => rfl) (fe_v 4) (fe_v 13)) (fa_cons (fe_v 2) (fa_cons (fe_v 12) (fa_nil))))) (fa_nil)))))))))) (fss_one (fs_ret (fe_bl))) (fss_nil)))) (fss_one (fs_set (i := 13) sc_law.nd rfl (fe_op op_addA v2_add (fe_v 13) (fe_int)))))) (fss_one (fs_ret (fe_cmp (op_eqA (hu64 hr)) v2_eq (by first | exact nomark _ | rfl) (fe_v 13) (fe_len T.bt (fa_cons (fe_v 4) (fa_nil)))))))))))))))
end
end Tk
namespace Tk
open PySem PySem.Spec L2 PyProof.Rows
variable {os ts : Bal} {rs : List PgR} {qs : List (D × Bal)}
theorem ask_loop {hm : Bal} {r : PgR} (hq : ∀ q ∈ qs, Drw os q) (ho : okNms os) (o4 : os.length ≤ 4) (hb : okBids os r.bd) {s0 s1 s3 s4 s5 s6 s7 s8 s11 s12 s13 s14 s15 s16 s17 : Sl} :
    ∃ t11 t12 : Sl, loop (gT 2 (gsC (gN 11) (gsC (gN 12) (gsN)))) B_law_1 (qs.map rlD) [s0, s1, .v (.lst (os.map nD)), s3, s4, s5, s6, s7, s8, .v (pgrD r), .v (pgD os hm r), s11, s12, s13, s14, s15, s16, s17] =
      .nx [s0, s1, .v (.lst (os.map nD)), s3, s4, s5, s6, s7, s8, .v (pgrD r), .v (pgD os hm r), t11, t12, s13, s14, s15, s16, s17] := by
  obtain ⟨ρ', e, t11, t12, rfl⟩ := loop_map (inj := rlD) (h := gT 2 (gsC (gN 11) (gsC (gN 12) (gsN)))) (body := B_law_1) (l := qs) (ρ := [s0, s1, .v (.lst (os.map nD)), s3, s4, s5, s6, s7, s8, .v (pgrD r), .v (pgD os hm r), s11, s12, s13, s14, s15, s16, s17])
    (fun _ ρ => ∃ t11 t12 : Sl, ρ = [s0, s1, .v (.lst (os.map nD)), s3, s4, s5, s6, s7, s8, .v (pgrD r), .v (pgD os hm r), t11, t12, s13, s14, s15, s16, s17]) ⟨_, _, rfl⟩ (by
      rintro k q ρ hk ⟨t11, t12, rfl⟩
      refine ⟨[s0, s1, .v (.lst (os.map nD)), s3, s4, s5, s6, s7, s8, .v (pgrD r), .v (pgD os hm r), .v q.1, .v (.lst (q.2.map nD)), s13, s14, s15, s16, s17], rfl, ?_⟩
      obtain ⟨e1, e2, e3⟩ := asked45 (hm := hm) (hq q (List.mem_of_getElem? hk)) ho o4 hb
      unfold B_law_1
      simp_arith [e1, e2, e3]
      exact ⟨_, _, rfl⟩)
  exact ⟨t11, t12, e⟩
theorem row_loop {st hm : Bal} (hq : ∀ q ∈ qs, Drw os q) (ho : okNms os) (o4 : os.length ≤ 4) (h : okPgs os ts rs) (ht : okNms ts) {s0 s1 s3 s4 s5 s8 s9 s10 s11 s12 s13 s14 s15 s16 s17 : Sl} :
    ∃ t9 t10 t11 t12 : Sl, loop (gN 9) B_law_2 (rs.map pgrD) [s0, s1, .v (.lst (os.map nD)), s3, s4, s5, .v (.ins 44 (bkF os ts rs st hm)), .v (.lst (qs.map rlD)), s8, s9, s10, s11, s12, s13, s14, s15, s16, s17] =
      .nx [s0, s1, .v (.lst (os.map nD)), s3, s4, s5, .v (.ins 44 (bkF os ts rs st hm)), .v (.lst (qs.map rlD)), s8, t9, t10, t11, t12, s13, s14, s15, s16, s17] := by
  obtain ⟨ρ', e, t9, t10, t11, t12, rfl⟩ := loop_map (inj := pgrD) (h := gN 9) (body := B_law_2) (l := rs) (ρ := [s0, s1, .v (.lst (os.map nD)), s3, s4, s5, .v (.ins 44 (bkF os ts rs st hm)), .v (.lst (qs.map rlD)), s8, s9, s10, s11, s12, s13, s14, s15, s16, s17])
    (fun _ ρ => ∃ t9 t10 t11 t12 : Sl, ρ = [s0, s1, .v (.lst (os.map nD)), s3, s4, s5, .v (.ins 44 (bkF os ts rs st hm)), .v (.lst (qs.map rlD)), s8, t9, t10, t11, t12, s13, s14, s15, s16, s17]) ⟨_, _, _, _, rfl⟩ (by
      rintro k r ρ hk ⟨t9, t10, t11, t12, rfl⟩
      refine ⟨[s0, s1, .v (.lst (os.map nD)), s3, s4, s5, .v (.ins 44 (bkF os ts rs st hm)), .v (.lst (qs.map rlD)), s8, .v (pgrD r), t10, t11, t12, s13, s14, s15, s16, s17], rfl, ?_⟩
      have m := List.mem_of_getElem? hk
      have g : gIx (pgrD r) (.int 0) = .ok (nD r.nm) := rfl
      have bp := book_page (os := os) (ts := ts) (st := st) (hm := hm) (by rw [h.nms]; exact ht.nd) m
      obtain ⟨x11, x12, el⟩ := ask_loop (hm := hm) (r := r) hq ho o4 (h.bid r m) (s0 := s0) (s1 := s1) (s3 := s3) (s4 := s4) (s5 := s5) (s6 := .v (.ins 44 (bkF os ts rs st hm))) (s7 := .v (.lst (qs.map rlD))) (s8 := s8) (s11 := t11) (s12 := t12) (s13 := s13) (s14 := s14) (s15 := s15) (s16 := s16) (s17 := s17)
      unfold B_law_2
      simp_arith [g, eMeth_ap, bk_ib, bp, el]
      exact ⟨_, _, _, _, rfl⟩)
  exact ⟨t9, t10, t11, t12, e⟩
theorem ask_loop2 {hm : Bal} {r : PgR} {k : Nat} (hk : rs[k]? = some r) (hq : ∀ q ∈ qs, Drw os q) (ho : okNms os) (o4 : os.length ≤ 4) (lr : rs.length ≤ 4) (hb : okBids os r.bd) {s0 s1 s3 s5 s6 s7 s8 s9 s11 s12 s14 s15 s16 s17 : Sl} :
    ∃ t11 t12 : Sl, loop (gT 2 (gsC (gN 11) (gsC (gN 12) (gsN)))) B_law_4 (qs.map rlD) [s0, s1, .v (.lst (os.map nD)), s3, .v (.lst (rs.map pgrD)), s5, s6, s7, s8, s9, .v (pgD os hm r), s11, s12, .v (.int (k : Int)), s14, s15, s16, s17] =
      .nx [s0, s1, .v (.lst (os.map nD)), s3, .v (.lst (rs.map pgrD)), s5, s6, s7, s8, s9, .v (pgD os hm r), t11, t12, .v (.int (k : Int)), s14, s15, s16, s17] := by
  have lt := (List.getElem?_eq_some_iff.mp hk).1
  obtain ⟨ρ', e, t11, t12, rfl⟩ := loop_map (inj := rlD) (h := gT 2 (gsC (gN 11) (gsC (gN 12) (gsN)))) (body := B_law_4) (l := qs) (ρ := [s0, s1, .v (.lst (os.map nD)), s3, .v (.lst (rs.map pgrD)), s5, s6, s7, s8, s9, .v (pgD os hm r), s11, s12, .v (.int (k : Int)), s14, s15, s16, s17])
    (fun _ ρ => ∃ t11 t12 : Sl, ρ = [s0, s1, .v (.lst (os.map nD)), s3, .v (.lst (rs.map pgrD)), s5, s6, s7, s8, s9, .v (pgD os hm r), t11, t12, .v (.int (k : Int)), s14, s15, s16, s17]) ⟨_, _, rfl⟩ (by
      rintro i q ρ hi ⟨t11, t12, rfl⟩
      refine ⟨[s0, s1, .v (.lst (os.map nD)), s3, .v (.lst (rs.map pgrD)), s5, s6, s7, s8, s9, .v (pgD os hm r), .v q.1, .v (.lst (q.2.map nD)), .v (.int (k : Int)), s14, s15, s16, s17], rfl, ?_⟩
      obtain ⟨e1, e2, e3⟩ := asked45 (hm := hm) (hq q (List.mem_of_getElem? hi)) ho o4 hb
      have g : gIx (.lst (rs.map pgrD)) (.int (k : Int)) = .ok (pgrD r) := by
        show optR (L2.atI (rs.map pgrD) (k : Int)) = _
        rw [atI_nn (by omega) (by rw [List.length_map]; omega), Int.toNat_natCast, List.getElem?_map, hk]
        rfl
      have c : decide (((rs.length : Nat) : Int) ≤ (k : Int)) = false := decide_eq_false (by omega)
      have c2 : decide ((k : Int) ≥ ((rs.length : Nat) : Int)) = false := decide_eq_false (by omega)
      unfold B_law_4
      simp_arith [List.length_map, c, c2, g, e1, e2]
      exact ⟨_, _, rfl⟩)
  exact ⟨t11, t12, e⟩
theorem page_loop {st hm : Bal} (hq : ∀ q ∈ qs, Drw os q) (ho : okNms os) (o4 : os.length ≤ 4) (h : okPgs os ts rs) (lr : rs.length ≤ 4) {s0 s1 s3 s5 s8 s9 s10 s11 s12 s14 s15 s16 s17 : Sl} :
    ∃ t10 t11 t12 : Sl, loop (gN 10) B_law_5 (rs.map (pgD os hm)) [s0, s1, .v (.lst (os.map nD)), s3, .v (.lst (rs.map pgrD)), s5, .v (.ins 44 (bkF os ts rs st hm)), .v (.lst (qs.map rlD)), s8, s9, s10, s11, s12, .v (.int 0), s14, s15, s16, s17] =
      .nx [s0, s1, .v (.lst (os.map nD)), s3, .v (.lst (rs.map pgrD)), s5, .v (.ins 44 (bkF os ts rs st hm)), .v (.lst (qs.map rlD)), s8, s9, t10, t11, t12, .v (.int (rs.length : Int)), s14, s15, s16, s17] := by
  obtain ⟨ρ', e, t10, t11, t12, rfl⟩ := loop_map (inj := pgD os hm) (h := gN 10) (body := B_law_5) (l := rs) (ρ := [s0, s1, .v (.lst (os.map nD)), s3, .v (.lst (rs.map pgrD)), s5, .v (.ins 44 (bkF os ts rs st hm)), .v (.lst (qs.map rlD)), s8, s9, s10, s11, s12, .v (.int 0), s14, s15, s16, s17])
    (fun k ρ => ∃ t10 t11 t12 : Sl, ρ = [s0, s1, .v (.lst (os.map nD)), s3, .v (.lst (rs.map pgrD)), s5, .v (.ins 44 (bkF os ts rs st hm)), .v (.lst (qs.map rlD)), s8, s9, t10, t11, t12, .v (.int (k : Int)), s14, s15, s16, s17]) ⟨_, _, _, rfl⟩ (by
      rintro k r ρ hk ⟨t10, t11, t12, rfl⟩
      refine ⟨[s0, s1, .v (.lst (os.map nD)), s3, .v (.lst (rs.map pgrD)), s5, .v (.ins 44 (bkF os ts rs st hm)), .v (.lst (qs.map rlD)), s8, s9, .v (pgD os hm r), t11, t12, .v (.int (k : Int)), s14, s15, s16, s17], rfl, ?_⟩
      have m := List.mem_of_getElem? hk
      obtain ⟨x11, x12, el⟩ := ask_loop2 (hm := hm) (r := r) hk hq ho o4 lr (h.bid r m) (s0 := s0) (s1 := s1) (s3 := s3) (s5 := s5) (s6 := .v (.ins 44 (bkF os ts rs st hm))) (s7 := .v (.lst (qs.map rlD))) (s8 := s8) (s9 := s9) (s11 := t11) (s12 := t12) (s14 := s14) (s15 := s15) (s16 := s16) (s17 := s17)
      unfold B_law_5
      simp_arith [el]
      exact ⟨_, _, _, rfl⟩)
  exact ⟨t10, t11, t12, e⟩
theorem law_true : ∀ ns : List Int, ns.length ≤ 63 → F_law [.scr ns] = .ok (.bl true) := by
  intro ns hn
  obtain ⟨c0, k0⟩ := cell_ok (ns := ns) (k := 0) (by decide) (by omega)
  obtain ⟨hs, hl, _, he⟩ := pool_ok (c := c0) (n := 30) (by decide) (by decide)
  have hl : hs.length = 30 := hl
  have p1 := part_ok (ps := hs) (spot := 5) (under := 1) (size := 4) (by decide) (by omega) (by decide) (by decide) (by decide)
  have a1 := part_lo (ps := hs) (spot := 5) (under := 1) (size := 4) (by decide)
  have b1 := part_hi (ps := hs) (spot := 5) (under := 1) (size := 4) (by decide)
  generalize part hs 5 1 4 = q1 at *
  have p2 := part_ok (ps := hs) (spot := 5) (under := 4) (size := 4) (by decide) (by omega) (by decide) (by decide) (by decide)
  have a2 := part_lo (ps := hs) (spot := 5) (under := 4) (size := 4) (by decide)
  have b2 := part_hi (ps := hs) (spot := 5) (under := 4) (size := 4) (by decide)
  generalize part hs 5 4 4 = q2 at *
  have p3 := part_ok (ps := hs) (spot := 28) (under := 1) (size := 3) (by decide) (by omega) (by decide) (by decide) (by decide)
  have a3 := part_lo (ps := hs) (spot := 28) (under := 1) (size := 3) (by decide)
  generalize part hs 28 1 3 = q3 at *
  obtain ⟨os, ol, oo, on, oe⟩ := names_ok (ps := hs) (spot := 0) (number := 1 + q1) (by decide) (by omega) (by omega) (by omega)
  obtain ⟨ts, tl, to, tn, te⟩ := names_ok (ps := hs) (spot := 6) (number := 1 + q2) (by decide) (by omega) (by omega) (by omega)
  have o1 : 1 ≤ os.length := by omega
  have o4 : os.length ≤ 4 := by omega
  have t1 : 1 ≤ ts.length := by omega
  have t4 : ts.length ≤ 4 := by omega
  have ho : okNms os := ⟨o1, by omega, oo, on⟩
  have ht : okNms ts := ⟨t1, by omega, to, tn⟩
  have oe' : F__law_names [.lst (hs.map .int), .int 0, .int (1 + q1)] = .ok (.lst (os.map nD)) := oe
  have te' : F__law_names [.lst (hs.map .int), .int 6, .int (1 + q2)] = .ok (.lst (ts.map nD)) := te
  obtain ⟨rs, rk, re⟩ := rows_ok (ps := hs) (by omega) ho o4 ht t4
  have rl := rk.length
  have sl := gSl_lst (xs := ts.map nD) (j := q3) a3
  rw [← List.map_take] at sl
  have tz : ts ≠ [] := fun e => by rw [e] at t1; simp at t1
  have hsub : (ts.take q3.toNat).Sublist ts := List.take_sublist _ _
  have bi := book_init (st := ts) (hm := ts.take q3.toNat) ho o4 rk ht t4 tz tn (fun _ m => m) (hsub.nodup tn) fun w m => hsub.subset m
  generalize ts.take q3.toNat = hm at *
  have t0 : 0 < ts.length := by omega
  have g0 : gIx (.lst (ts.map nD)) (.int 0) = .ok (nD (nmI ts 0)) := gIx_os (os := ts) (i := 0) (by decide) (by omega)
  have okt := to (nmI ts 0) (nmI_mem t0)
  have RR : ∀ k : Nat, k < 3 → ∃ q : D × Bal, Drw os q ∧ ∀ d, F__law_cell [.scr ns, .int (1 + (k : Int))] = .ok d → (F__law_pool [d, .int 6]).bind (fun p => F__law_turn_rule [p, nD (nmI ts 0), .lst (os.map nD)]) = .ok (rlD q) := fun k hk => by
    obtain ⟨c, kc⟩ := cell_ok (ns := ns) (k := 1 + (k : Int)) (by omega) (by omega)
    obtain ⟨ps, pl, _, pe⟩ := pool_ok (c := c) (n := 6) (by decide) (by decide)
    have pl : ps.length = 6 := pl
    obtain ⟨q, dq, e⟩ := turn_rule45 (ps := ps) (nm := nmI ts 0) (by omega) okt ho o4
    refine ⟨q, dq, fun d ed => ?_⟩
    rw [kc] at ed
    cases ed
    rw [pe, bind_ok, e]
  obtain ⟨c1, k1⟩ := cell_ok (ns := ns) (k := 1) (by decide) (by omega)
  obtain ⟨c2, k2⟩ := cell_ok (ns := ns) (k := 2) (by decide) (by omega)
  obtain ⟨c3, k3⟩ := cell_ok (ns := ns) (k := 3) (by decide) (by omega)
  obtain ⟨x1, d1, er1⟩ := RR 0 (by decide)
  obtain ⟨x2, d2, er2⟩ := RR 1 (by decide)
  obtain ⟨x3, d3, er3⟩ := RR 2 (by decide)
  have er1 := er1 _ k1
  have er2 := er2 _ k2
  have er3 := er3 _ k3
  have hq : ∀ q ∈ [x1, x2, x3], Drw os q := fun q m => by
    rcases List.mem_cons.mp m with rfl | m
    · exact d1
    · rcases List.mem_cons.mp m with rfl | m
      · exact d2
      · rw [List.mem_singleton.mp m]; exact d3
  have lcR : ∀ s1 s4 s5 s6 s7 s8 s9 s10 s11 s12 s13 s14 s15 s16 : Sl, lcL (gN 17) tsY (eCall 3 F__law_turn_rule (aC (eCall 2 F__law_pool (aC (eCall 2 F__law_cell (aC (eV 0) (aC (e2 gAdd (eC (.int 1)) (eV 17)) (aN)))) (aC (eC (.int 6)) (aN)))) (aC (e2 gIx (eV 3) (eC (.int 0))) (aC (eV 2) (aN)))))
      [.v (.scr ns), s1, .v (.lst (os.map nD)), .v (.lst (ts.map nD)), s4, s5, s6, s7, s8, s9, s10, s11, s12, s13, s14, s15, s16, .no] [.int 0, .int 1, .int 2] = .ok ([x1, x2, x3].map rlD) := fun s1 s4 s5 s6 s7 s8 s9 s10 s11 s12 s13 s14 s15 s16 => by
    obtain ⟨ps1, _, _, pe1⟩ := pool_ok (c := c1) (n := 6) (by decide) (by decide)
    obtain ⟨ps2, _, _, pe2⟩ := pool_ok (c := c2) (n := 6) (by decide) (by decide)
    obtain ⟨ps3, _, _, pe3⟩ := pool_ok (c := c3) (n := 6) (by decide) (by decide)
    rw [pe1, bind_ok] at er1
    rw [pe2, bind_ok] at er2
    rw [pe3, bind_ok] at er3
    have a12 : (1 : Int) + 1 = 2 := rfl
    have a13 : (1 : Int) + 2 = 3 := rfl
    have a10 : (1 : Int) + 0 = 1 := rfl
    simp only [lcL, gN_ap, optR_some, bind_ok]
    simp_arith [optR_some, a10, a12, a13, k1, k2, k3, pe1, pe2, pe3, g0, er1, er2, er3]
  have gd : ∀ a b c d : D, gDk [0, 1, 2, 3] [] [a, b, c] [d] = [a, b, c, d] := fun _ _ _ _ => rfl
  have lr : rs.length ≤ sizeLine := szle (by omega)
  have lcB : ∀ s0 s1 s2 s3 s4 s5 s6 s7 s8 s9 s10 s11 s12 s13 s17 : Sl, lcL (gT 3 (gsC (gN 14) (gsC (gN 15) (gsC (gN 16) (gsN))))) tsY (eA gTup (aC (eV 14) (aC (eA gList (aC (eV 15) (aN))) (aC (eA gList (aC (eV 16) (aN))) (aN))))) [s0, s1, s2, s3, s4, s5, s6, s7, s8, s9, s10, s11, s12, s13, .no, .no, .no, s17] (rs.map pgrD) = .ok (rs.map pgrD) := fun s0 s1 s2 s3 s4 s5 s6 s7 s8 s9 s10 s11 s12 s13 s17 =>
    lc_all (inj := pgrD) (h := gT 3 (gsC (gN 14) (gsC (gN 15) (gsC (gN 16) (gsN))))) (t := tsY) (fe := eA gTup (aC (eV 14) (aC (eA gList (aC (eV 15) (aN))) (aC (eA gList (aC (eV 16) (aN))) (aN))))) (ρ := [s0, s1, s2, s3, s4, s5, s6, s7, s8, s9, s10, s11, s12, s13, .no, .no, .no, s17]) pgrD (l := rs) fun r m => ⟨[s0, s1, s2, s3, s4, s5, s6, s7, s8, s9, s10, s11, s12, s13, .v (nD r.nm), .v (.lst (r.bd.map bidD)), .v (.lst (r.fo.map nD)), s17], rfl, rfl, by
      have t3 : ∀ x y z : D, gTup [x, y, z] = .ok (.tup [x, y, z]) := fun x y z => if_pos (szle (by simp))
      simp_arith [t3]
      rfl⟩
  have sm2 : small62 2 := small_rg (by decide) (by decide)
  have sm3 : small62 3 := small_rg (by decide) (by decide)
  have r2 : rgD 0 (2 : Int).toNat = [.int 0, .int 1] := rfl
  have r3 : rgD 0 (3 : Int).toNat = [.int 0, .int 1, .int 2] := rfl
  have l3 : (3 : Nat) ≤ sizeLine := szle (by decide)
  have ii : isIns 44 (.ins 44 (bkF os ts rs ts hm)) = true := rfl
  have it : R.tup (F_Book___iter__ [.ins 44 (bkF os ts rs ts hm)]) = .ok (rs.map (pgD os hm)) := rfl
  have rw1 := fun s9 s10 s11 s12 i => row_loop (st := ts) (hm := hm) hq ho o4 rk ht (s0 := .v (.scr ns)) (s1 := .v (.lst (hs.map .int))) (s3 := .v (.lst (ts.map nD))) (s4 := .v (.lst (rs.map pgrD))) (s5 := .v (.lst (hm.map nD))) (s8 := .v (.int i)) (s9 := s9) (s10 := s10) (s11 := s11) (s12 := s12) (s13 := .no) (s14 := .no) (s15 := .no) (s16 := .no) (s17 := .no)
  obtain ⟨u9, u10, u11, u12, f1⟩ := rw1 .no .no .no .no 0
  obtain ⟨v9, v10, v11, v12, f2⟩ := rw1 u9 u10 u11 u12 1
  obtain ⟨w10, w11, w12, f3⟩ := page_loop (st := ts) (hm := hm) hq ho o4 rk (by omega) (s0 := .v (.scr ns)) (s1 := .v (.lst (hs.map .int))) (s3 := .v (.lst (ts.map nD))) (s5 := .v (.lst (hm.map nD))) (s8 := .v (.int 1)) (s9 := v9) (s10 := v10) (s11 := v11) (s12 := v12) (s14 := .no) (s15 := .no) (s16 := .no) (s17 := .no)
  have eqk : ∀ i : Int, decide (i = i) = true := fun i => decide_eq_true rfl
  unfold F_law G_law
  simp only [List.map_cons, List.map_nil] at lcR f1 f2 f3
  unfold B_law_3
  simp_arith [k0, he, p1, oe', p2, te', re, p3, sl, nMakeK_ap, eFrz_ap, lr, lcB, gd, bi, frzR_o, sm3, r3, l3, lcR, sm2, r2, loop_cons, f1, f2, iDun_ap, ii, it, f3, List.length_map, eqk]
end Tk
set_option maxHeartbeats 0
namespace Tk
open PySem PySem.Spec L2 PyProof.Rows
theorem head_ok {w : World} {K : PySem.W.Frag} {h : Heap} {mg : Str → Option Value} {f : Addr} (X : K.In h) (G : h.Ns mainGlobals mg) (hfa : mg ("law" : Str) = some (.ref f)) (c : ((He.SaysD fa fn K ∧ exL K = true) ∧ fwL.map (fun d => He5.fnA K (d.at_ K)) = fwL.map He5.DefA.val) ∧ erL.map (fun d => fnE K d.x) = erL.map ErD.val) : LawOk PySem.Challenge.rw_turnsandkeys_k45_turn_lets F_law 15 w mg f h := by
  have T : SaysX fa fn exL fwL erL K mg := ⟨⟨⟨⟨⟨h, X, G⟩, c.1.1.1⟩, c.1.1.2⟩, c.1.2⟩, c.2⟩
  obtain ⟨fd, F⟩ := T.fd (dd := []) (kd := []) 49 rfl rfl rfl
  have e := hfa.symm.trans (He.glo_ok X G (T.c.fact 59 (f := .glo "law") rfl))
  cases e
  refine ⟨K, fd, cnL K, X, fun s u => FunD.bindsA (ps := ["script"]) F (fun _ _ _ _ _ _ us hl => match us, hl with | [_], _ => rfl) s [u] rfl, fun b KB NB => ?_⟩
  have T2 : SaysX fa fn exL fwL erL K mg := ⟨⟨⟨⟨⟨b, KB, NB⟩, c.1.1.1⟩, c.1.1.2⟩, c.1.2⟩, c.2⟩
  obtain ⟨f2, fd2, F2, h2, h3⟩ := (d_law (w := w) (base := b) T2).ex
  have e2 := (He.glo_ok X G (T.c.fact 59 (f := .glo "law") rfl)).symm.trans h2
  cases e2
  have e3 : fd2 = fd := FunD.same h3 F
  rw [← e3]
  exact F2
end Tk
open PySem PySem.W PySem.Calls PyProof.Rows
theorem PySem.Challenge.cw_turnsandkeys_k45_turn_lets_holds : PySem.Challenge.rw_turnsandkeys_k45_turn_lets.Holds := by
  w_on; o_law
  refine HandSHeadRun.head_any (r := OpenLaw.row PySem.Challenge.rw_turnsandkeys_k45_turn_lets) (q := view (OpenLaw.row PySem.Challenge.rw_turnsandkeys_k45_turn_lets).prog [64]) (H := Tk.hookL) (ob := Tk.obL) (M := 8000) (loose := Tk.loose) (d := HandSHeadRun.topDef (OpenLaw.row PySem.Challenge.rw_turnsandkeys_k45_turn_lets).prog 64) (kwd := []) Tk.obL_eq
    (by kernel_rfl) (fun s => by kernel_rfl) Tk.runL (by kernel_rfl) (by kernel_rfl) (by kernel_rfl) (by rfl) (by first | assumption | decide +kernel) (by decide +kernel) ⟨rfl, rfl, rfl, rfl, rfl, by decide +kernel⟩ ?hw ?hc
  case hw => w_witness2
  case hc =>
    refine Tk.law_walk (l := PySem.Challenge.rw_turnsandkeys_k45_turn_lets) (k := 15) (F := Tk.F_law) rfl (by kernel_rfl) ⟨rfl, by decide, by decide⟩ ?F Tk.law_true
    intro w mg fa h Y G hmg0
    obtain ⟨K, KX, c⟩ := Y
    refine Tk.head_ok KX G ?_ c
    have e : (HandSHeadRun.topDef (OpenLaw.row PySem.Challenge.rw_turnsandkeys_k45_turn_lets).prog 64).name = ("law" : PySem.Str) := by kernel_rfl
    rw [← e]
    exact hmg0
