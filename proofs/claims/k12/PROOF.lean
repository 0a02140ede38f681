import PyProof.Rows.All
import Wide.All
import OpenK.AllK
import Wide.FinOn
import HandS.ForMost
import HandS.WordsExc
import HandS.Exc
import HandS.ExcOwn
import HandS.TryOnly
import HandS.IsInst
import HandS.Flow
import HandS.Zip
import HandS.DictTup
import HandS.Wide
import HandS.TupAny
import HandS.Style
import HandS.Deep
import HandS.TupLe
import HandS.Defaults
import HandS.Rev
import HandS.IterVal
import HandS.More
import KE.GoesNew
import HandS.SortRule
import HandS.SortInts
import HandS.HeadHook2
import HandS.MakeKw
import HandS.MakeKwOnly
import HandS.Dict
import HandS.ForDict
import KE.KDictZip
import HandS.Property
import HandS.MethStar
import HandS.SortKw
import HandS.DictComp
import HandS.Strs
import KE.LtSeq
import KE.KSortAsk
import KE.KTupSum
import KE.KStateDown
import HandS.Ends
import HandS.Head0
import HandS.Head1
import HandS.Head2
import HandS.Head3
import HandS.HeadEnd
import HandS.Gcd
import HandS.OwnEq
import HandS.Conv
import PyProof.ListNew
import KE.KSortTupAny
import HandS.ClsMeth
import HandS.Star
import HandS.HeadNt
import HandS.Text
import PyProof.Rows.StrMeet
import KE.DatumOrd
import KE.KCallOwn
import KE.DataCmp
import PyProof.EnumStmt
import PyProof.StrBlock2
import HandS.ExcInit
import KE.KSuper
import KE.KExcSuper
import HandS.ExcField
import HandS.ExcIs
import HandS.TryMany
import KE.KExcIs
import HandS.Nested
import PySem.Challenge.RW_turnsandkeys_k12_roll_rows
set_option Elab.async false
set_option linter.all false
set_option maxRecDepth 100000
namespace Tk
open PySem PySem.Spec L2
inductive D where
  | non | bl (b : Bool) | int (i : Int) | str (s : Str) | ty (n : String) | cl (c : Nat)
  | scr (ns : List Int)
  | lst (xs : List D) | tup (xs : List D) | tpz (xs : List D) | tp0
  | dK (kvs : List (Key × D)) | dT (kvs : List (List Key × D)) | zK (kvs : List (Key × D)) | zT (kvs : List (List Key × D))
  | ins (c : Nat) (fs : List (Nat × D))
structure Cn where
  a : Nat → Option Addr
  n : Nat → Str
  /-- the exception that a suite handles: its place, its class, its dict -/
  φ : Addr → Value → Option Addr → Prop := fun _ _ _ => False
def TupAt (K : PySem.W.Frag) (G : Hp) (a : Addr) (vs : List V) : Prop := G a = some (.tup vs)
section
variable (K : PySem.W.Frag) (ca : Cn) (G : Hp)
mutual
def At : D → V → Prop
  | .non, v => v = .non
  | .bl b, v => v = .bl b
  | .int i, v => v = .int i
  | .str s, v => v = .str s
  | .ty n, v => v = .ty n
  | .cl c, v => ∃ C, ca.a c = some C ∧ v = .ref C
  | .scr ns, v => ∃ a, v = .ref a ∧ SqL K G a (ns.map V.int)
  | .lst xs, v => ∃ a vs, v = .ref a ∧ G a = some (.lst vs) ∧ AtL xs vs
  | .tup xs, v => ∃ a vs, v = .ref a ∧ TupAt K G a vs ∧ AtL xs vs
  | .tpz xs, v => ∃ a o vs, v = .ref a ∧ (o.cls = .type "tuple" ∧ o.dict = none) ∧ G a = some (.frz o (.tup vs)) ∧ AtL xs vs
  | .tp0, v => ∃ a, v = .ref a ∧ SqT K G a []
  | .dK kvs, v => ∃ a vs, v = .ref a ∧ Rd G a (.dK vs) ∧ AtK kvs vs
  | .dT kvs, v => ∃ a vs, v = .ref a ∧ Rd G a (.dT vs) ∧ AtT kvs vs
  | .zK kvs, v => ∃ a o vs, v = .ref a ∧ G a = some (.frz o (.dK vs)) ∧ AtK kvs vs
  | .zT kvs, v => ∃ a o vs, v = .ref a ∧ G a = some (.frz o (.dT vs)) ∧ AtT kvs vs
  | .ins c fs, v => ∃ a C dx vs, v = .ref a ∧ ca.a c = some C ∧ G a = some (.ins C dx vs) ∧ AtF fs vs
def AtL : List D → List V → Prop
  | [], vs => vs = []
  | d :: ds, vs => ∃ v r, vs = v :: r ∧ At d v ∧ AtL ds r
def AtK : List (Key × D) → List (Key × V) → Prop
  | [], vs => vs = []
  | (k, d) :: ds, vs => ∃ v r, vs = (k, v) :: r ∧ At d v ∧ AtK ds r
def AtT : List (List Key × D) → List (List Key × V) → Prop
  | [], vs => vs = []
  | (k, d) :: ds, vs => ∃ v r, vs = (k, v) :: r ∧ At d v ∧ AtT ds r
def AtF : List (Nat × D) → List (Str × V) → Prop
  | [], vs => vs = []
  | (k, d) :: ds, vs => ∃ v r, vs = (ca.n k, v) :: r ∧ At d v ∧ AtF ds r
end
end
theorem Rd.mono {G G' : Hp} {a : Addr} {u : HO} (s : Same G G') (h : Rd G a u) : Rd G' a u := by
  rcases h with h | ⟨o, h⟩
  · exact .inl (s _ _ h)
  · exact .inr ⟨o, s _ _ h⟩
theorem SqL_mono {K : PySem.W.Frag} {G G' : Hp} {a : Addr} {xs : List V} (s : Same G G') (h : SqL K G a xs) : SqL K G' a xs := s.seq h
theorem SqT_mono {K : PySem.W.Frag} {G G' : Hp} {a : Addr} {xs : List V} (s : Same G G') (h : SqT K G a xs) : SqT K G' a xs := by
  rcases h with h | h
  · exact .inl (Rd.mono s h)
  · exact .inr h
theorem TupAt.mono {K : PySem.W.Frag} {G G' : Hp} {a : Addr} {vs : List V} (s : Same G G') (h : TupAt K G a vs) : TupAt K G' a vs := s a (.tup vs) h
theorem tq {K : PySem.W.Frag} {G G' : Hp} {a : Addr} {vs : List V} (s : Same G G') (h : TupAt K G a vs) : SqT K G' a vs := .of (s a (.tup vs) h)
section
variable {K : PySem.W.Frag} {ca : Cn} {G G' : Hp}
mutual
theorem At.mono (s : Same G G') : ∀ {d : D} {v : V}, At K ca G d v → At K ca G' d v
  | .non, v, h => h
  | .bl _, v, h => h
  | .int _, v, h => h
  | .str _, v, h => h
  | .ty _, v, h => h
  | .cl _, v, h => h
  | .scr ns, v, ⟨a, e, h⟩ => ⟨a, e, SqL_mono s h⟩
  | .lst xs, v, ⟨a, vs, e, h, r⟩ => ⟨a, vs, e, s _ _ h, AtL.mono s r⟩
  | .tup xs, v, ⟨a, vs, e, h, r⟩ => ⟨a, vs, e, TupAt.mono s h, AtL.mono s r⟩
  | .tpz xs, v, ⟨a, o, vs, e, q, h, r⟩ => ⟨a, o, vs, e, q, s _ _ h, AtL.mono s r⟩
  | .tp0, v, ⟨a, e, h⟩ => ⟨a, e, SqT_mono s h⟩
  | .dK xs, v, ⟨a, vs, e, h, r⟩ => ⟨a, vs, e, Rd.mono s h, AtK.mono s r⟩
  | .dT xs, v, ⟨a, vs, e, h, r⟩ => ⟨a, vs, e, Rd.mono s h, AtT.mono s r⟩
  | .zK xs, v, ⟨a, o, vs, e, h, r⟩ => ⟨a, o, vs, e, s _ _ h, AtK.mono s r⟩
  | .zT xs, v, ⟨a, o, vs, e, h, r⟩ => ⟨a, o, vs, e, s _ _ h, AtT.mono s r⟩
  | .ins c xs, v, ⟨a, C, dx, vs, e, q, h, r⟩ => ⟨a, C, dx, vs, e, q, s _ _ h, AtF.mono s r⟩
theorem AtL.mono (s : Same G G') : ∀ {ds : List D} {vs : List V}, AtL K ca G ds vs → AtL K ca G' ds vs
  | [], _, h => h
  | _ :: _, _, ⟨v, r, e, h, t⟩ => ⟨v, r, e, At.mono s h, AtL.mono s t⟩
theorem AtK.mono (s : Same G G') : ∀ {ds : List (Key × D)} {vs : List (Key × V)}, AtK K ca G ds vs → AtK K ca G' ds vs
  | [], _, h => h
  | (_, _) :: _, _, ⟨v, r, e, h, t⟩ => ⟨v, r, e, At.mono s h, AtK.mono s t⟩
theorem AtT.mono (s : Same G G') : ∀ {ds : List (List Key × D)} {vs : List (List Key × V)}, AtT K ca G ds vs → AtT K ca G' ds vs
  | [], _, h => h
  | (_, _) :: _, _, ⟨v, r, e, h, t⟩ => ⟨v, r, e, At.mono s h, AtT.mono s t⟩
theorem AtF.mono (s : Same G G') : ∀ {ds : List (Nat × D)} {vs : List (Str × V)}, AtF K ca G ds vs → AtF K ca G' ds vs
  | [], _, h => h
  | (_, _) :: _, _, ⟨v, r, e, h, t⟩ => ⟨v, r, e, At.mono s h, AtF.mono s t⟩
end
theorem AtL.length : ∀ {ds : List D} {vs : List V}, AtL K ca G ds vs → ds.length = vs.length
  | [], _, h => by cases h; rfl
  | _ :: _, _, ⟨_, _, e, _, t⟩ => by subst e; simp [AtL.length t]
theorem AtL.get : ∀ {ds : List D} {vs : List V} {i : Nat} {d : D}, AtL K ca G ds vs → ds[i]? = some d → ∃ v, vs[i]? = some v ∧ At K ca G d v
  | [], _, _, _, _, e => by simp at e
  | d :: ds, _, 0, _, ⟨v, r, e, h, t⟩, q => by subst e; simp at q; subst q; exact ⟨v, rfl, h⟩
  | d :: ds, _, i + 1, _, ⟨v, r, e, h, t⟩, q => by
    subst e
    obtain ⟨w, h1, h2⟩ := AtL.get (i := i) t (by simpa using q)
    exact ⟨w, by simpa using h1, h2⟩
theorem AtL.append : ∀ {ds es : List D} {vs ws : List V}, AtL K ca G ds vs → AtL K ca G es ws → AtL K ca G (ds ++ es) (vs ++ ws)
  | [], _, _, _, h, h' => by cases h; exact h'
  | _ :: _, _, _, _, ⟨v, r, e, h, t⟩, h' => by subst e; exact ⟨v, _, rfl, h, AtL.append t h'⟩
theorem AtL.one {d : D} {v : V} (h : At K ca G d v) : AtL K ca G [d] [v] := ⟨v, [], rfl, h, rfl⟩
theorem AtL.drop : ∀ {ds : List D} {vs : List V} (n : Nat), AtL K ca G ds vs → AtL K ca G (ds.drop n) (vs.drop n)
  | _, _, 0, h => h
  | [], _, _ + 1, h => by cases h; rfl
  | _ :: _, _, n + 1, ⟨_, _, e, _, t⟩ => by subst e; exact AtL.drop n t
theorem AtL.take : ∀ {ds : List D} {vs : List V} (n : Nat), AtL K ca G ds vs → AtL K ca G (ds.take n) (vs.take n)
  | _, _, 0, _ => rfl
  | [], _, _ + 1, h => by cases h; rfl
  | _ :: _, _, n + 1, ⟨_, _, e, h, t⟩ => by subst e; exact ⟨_, _, rfl, h, AtL.take n t⟩
theorem AtL.reverse : ∀ {ds : List D} {vs : List V}, AtL K ca G ds vs → AtL K ca G ds.reverse vs.reverse
  | [], _, h => by cases h; rfl
  | _ :: _, _, ⟨_, _, e, h, t⟩ => by subst e; rw [List.reverse_cons, List.reverse_cons]; exact AtL.append (AtL.reverse t) (AtL.one h)
theorem AtL.set : ∀ {ds : List D} {vs : List V} (n : Nat) {d : D} {v : V}, AtL K ca G ds vs → At K ca G d v → AtL K ca G (ds.set n d) (vs.set n v)
  | [], _, _, _, _, h, _ => by cases h; rfl
  | _ :: _, _, 0, _, _, ⟨_, _, e, h, t⟩, q => by subst e; exact ⟨_, _, rfl, q, t⟩
  | _ :: _, _, n + 1, _, _, ⟨_, _, e, h, t⟩, q => by subst e; exact ⟨_, _, rfl, h, AtL.set n t q⟩
theorem AtL.ints : ∀ {ns : List Int} {vs : List V}, AtL K ca G (ns.map D.int) vs → vs = ns.map V.int
  | [], _, h => h
  | _ :: _, _, ⟨_, _, e, h, t⟩ => by subst e; cases h; rw [AtL.ints t]; rfl
theorem AtL.of_ints : ∀ (ns : List Int), AtL K ca G (ns.map D.int) (ns.map V.int)
  | [] => rfl
  | _ :: ns => ⟨_, _, rfl, rfl, AtL.of_ints ns⟩
theorem AtL.eraseIdx : ∀ {ds : List D} {vs : List V} (n : Nat), AtL K ca G ds vs → AtL K ca G (ds.eraseIdx n) (vs.eraseIdx n)
  | [], _, _, h => by cases h; rfl
  | _ :: _, _, 0, ⟨_, _, e, h, t⟩ => by subst e; exact t
  | _ :: _, _, n + 1, ⟨_, _, e, h, t⟩ => by subst e; exact ⟨_, _, rfl, h, AtL.eraseIdx n t⟩
theorem AtF.lookup : ∀ {fs : List (Nat × D)} {vs : List (Str × V)} {n : Nat} {d : D}, (∀ p ∈ fs, ca.n p.1 = ca.n n → p.1 = n) → AtF K ca G fs vs → fs.lookup n = some d → ∃ v, vs.lookup (ca.n n) = some v ∧ At K ca G d v
  | [], _, _, _, _, _, e => by simp at e
  | (k, d) :: ds, _, n, _, i, ⟨v, r, e, h, t⟩, q => by
    subst e
    rw [List.lookup_cons] at q ⊢
    by_cases z : n = k
    · subst z
      rw [beq_self_eq_true] at q ⊢
      cases q
      exact ⟨v, rfl, h⟩
    · have z' : (ca.n n == ca.n k) = false := beq_eq_false_iff_ne.mpr fun y => z (i (k, d) List.mem_cons_self y.symm).symm
      rw [beq_eq_false_iff_ne.mpr z] at q
      rw [z']
      exact AtF.lookup (fun p m => i p (List.mem_cons_of_mem _ m)) t q
end
def Fre (H : Hp) (a : Addr) : Prop := H a = none ∨ ∃ vs, H a = some (.tup vs)
theorem Fre.up {H H' : Hp} {a : Addr} (s : Same H H') (h : Fre H' a) : Fre H a := by
  cases e : H a with
  | none => exact .inl e
  | some o =>
    rcases h with h | ⟨vs, h⟩
    · rw [s a o e] at h; cases h
    · rw [s a o e] at h; cases h; exact .inr ⟨vs, e⟩
theorem Fre.no {H : Hp} {a : Addr} {o : HO} (h : Fre H a) (e : H a = some o) (n : ∀ vs, o ≠ .tup vs) : False := by
  rcases h with h | ⟨vs, h⟩
  · rw [h] at e; cases e
  · rw [h] at e; cases e; exact n vs rfl
structure Ext (G H G' H' : Hp) : Prop where
  hh : Same H H'
  gg : Same G G'
  gh : Same G' H'
  nw : ∀ a, G' a ≠ none → G a ≠ none ∨ Fre H a
theorem Ext.refl {G H : Hp} (s : Same G H) : Ext G H G H := ⟨.refl _, .refl _, s, fun _ h => .inl h⟩
theorem same_none {H H' : Hp} (s : Same H H') {a : Addr} (h : H' a = none) : H a = none := by
  cases e : H a with
  | none => rfl
  | some o => rw [s a o e] at h; cases h
theorem Ext.trans {G H G1 H1 G2 H2 : Hp} (e : Ext G H G1 H1) (f : Ext G1 H1 G2 H2) : Ext G H G2 H2 :=
  ⟨e.hh.trans f.hh, e.gg.trans f.gg, f.gh, fun a h => (f.nw a h).elim (e.nw a) fun z => .inr (z.up e.hh)⟩
theorem same_upd {H : Hp} {p : Addr} {o : HO} (n : H p = none) : Same H (upd H p o) := fun b u e => by
  rw [upd_ne (ne_of_none e n)]; exact e
theorem same_upd2 {G H : Hp} {p : Addr} {o : HO} (s : Same G H) : Same (upd G p o) (upd H p o) := fun b u e => by
  by_cases h : b = p
  · subst h; rw [upd_same] at e ⊢; exact e
  · rw [upd_ne h] at e ⊢; exact s _ _ e
theorem Ext.new {G H : Hp} {p : Addr} {o : HO} (s : Same G H) (n : H p = none) : Ext G H (upd G p o) (upd H p o) := by
  refine ⟨same_upd n, same_upd (same_none s n), same_upd2 s, fun a h => ?_⟩
  by_cases e : a = p
  · subst e; exact .inr (.inl n)
  · rw [upd_ne e] at h; exact .inl h
structure Ex where
  c : Nat
  fs : List (Nat × D)
inductive R (α : Type) where
  | ok (a : α) | exc (x : Ex) | bad
def R.bind {α β : Type} (r : R α) (k : α → R β) : R β := match r with
  | .ok a => k a
  | .exc x => .exc x
  | .bad => .bad
instance : Monad R where
  pure := .ok
  bind := R.bind
@[simp] theorem bind_ok {α β : Type} (a : α) (k : α → R β) : R.bind (.ok a) k = k a := (rfl)
@[simp] theorem bind_exc {α β : Type} (x : Ex) (k : α → R β) : R.bind (.exc x) k = .exc x := (rfl)
@[simp] theorem bind_bad {α β : Type} (k : α → R β) : R.bind .bad k = .bad := (rfl)
def ExAt (K : PySem.W.Frag) (ca : Cn) (G : Hp) (x : Ex) (c : Value) (dx : Option Addr) : Prop :=
  ∃ C, ca.a x.c = some C ∧ c = .ref C ∧ ((x.fs = [] ∧ dx = none) ∨ ∃ d vs, dx = some d ∧ G d = some (.xd vs) ∧ AtF K ca G x.fs vs)
theorem ExAt.mono {K : PySem.W.Frag} {ca : Cn} {G G' : Hp} {x : Ex} {c : Value} {dx : Option Addr} (s : Same G G') : ExAt K ca G x c dx → ExAt K ca G' x c dx
  | ⟨C, h1, h2, h3⟩ => ⟨C, h1, h2, h3.elim .inl fun ⟨d, vs, e1, e2, e3⟩ => .inr ⟨d, vs, e1, s _ _ e2, AtF.mono s e3⟩⟩
section
variable (K : PySem.W.Frag) (ca : Cn)
def Wish {α : Type} (S : Hp → α → Hp → Prop) (G H : Hp) (r : R α) (W1 : XK) : Prop := match r with
  | .ok d => ∀ G' H', Ext G H G' H' → S G' d H'
  | .exc x => ∀ G' H' c dx, Ext G H G' H' → ExAt K ca G' x c dx → W1 c dx H'
  | .bad => False
abbrev SV (Q : VK) : Hp → D → Hp → Prop := fun G' d H' => ∀ v, At K ca G' d v → Q v H'
abbrev SB (Q : Bool → Hp → Prop) : Hp → Bool → Hp → Prop := fun _ b H' => Q b H'
abbrev SL (Q : List V → Hp → Prop) : Hp → List D → Hp → Prop := fun G' ds H' => ∀ vs, AtL K ca G' ds vs → Q vs H'
end
section
variable {K : PySem.W.Frag} {ca : Cn} {α β : Type} {S : Hp → α → Hp → Prop} {G H G' H' : Hp} {W1 : XK}
theorem Wish.mono {r : R α} (h : Wish K ca S G H r W1) (e : Ext G H G' H') : Wish K ca S G' H' r W1 := by
  cases r with
  | ok d => exact fun G2 H2 f => h G2 H2 (e.trans f)
  | exc x => exact fun G2 H2 c dx f => h G2 H2 c dx (e.trans f)
  | bad => exact h
theorem Wish.bind {r : R β} {k : β → R α} {S1 : Hp → β → Hp → Prop} (h : Wish K ca S G H (r.bind k) W1) (hk : ∀ d G1 H1, r = .ok d → Ext G H G1 H1 → Wish K ca S G1 H1 (k d) W1 → S1 G1 d H1) : Wish K ca S1 G H r W1 := by
  cases r with
  | ok d => exact fun G1 H1 e => hk d G1 H1 rfl e (Wish.mono (r := k d) h e)
  | exc x => exact h
  | bad => exact h
theorem Wish.here {d : α} (h : Wish K ca S G H (.ok d) W1) (s : Same G H) : S G d H := h G H (.refl s)
end
end Tk
namespace Tk
open PySem PySem.Spec L2
inductive OT where
  | d (d : D) | l (ts : List OT) | k (kvs : List (Key × OT)) | t (kvs : List (List Key × OT)) | o (g : Option Addr) (c : Nat) (fs : List (Nat × OT))
section
variable (K : PySem.W.Frag) (ca : Cn) (G H : Hp)
mutual
def NAt : OT → V → List Addr → Prop
  | .d d, v, fp => At K ca G d v ∧ fp = []
  | .l ts, v, fp => ∃ a vs fq, v = .ref a ∧ H a = some (.lst vs) ∧ NAtL ts vs fq ∧ fp = a :: fq
  | .k kvs, v, fp => ∃ a vs fq, v = .ref a ∧ H a = some (.dK vs) ∧ NAtK kvs vs fq ∧ fp = a :: fq
  | .t kvs, v, fp => ∃ a vs fq, v = .ref a ∧ H a = some (.dT vs) ∧ NAtT kvs vs fq ∧ fp = a :: fq
  | .o g c fs, v, fp => ∃ a C dx vs fq, v = .ref a ∧ (∀ b, g = some b → a = b) ∧ ca.a c = some C ∧ H a = some (.ins C dx vs) ∧ NAtF fs vs fq ∧ fp = a :: fq
def NAtL : List OT → List V → List Addr → Prop
  | [], vs, fp => vs = [] ∧ fp = []
  | t :: ts, vs, fp => ∃ v r f1 f2, vs = v :: r ∧ NAt t v f1 ∧ NAtL ts r f2 ∧ fp = f1 ++ f2
def NAtK : List (Key × OT) → List (Key × V) → List Addr → Prop
  | [], vs, fp => vs = [] ∧ fp = []
  | (k, t) :: ts, vs, fp => ∃ v r f1 f2, vs = (k, v) :: r ∧ NAt t v f1 ∧ NAtK ts r f2 ∧ fp = f1 ++ f2
def NAtT : List (List Key × OT) → List (List Key × V) → List Addr → Prop
  | [], vs, fp => vs = [] ∧ fp = []
  | (k, t) :: ts, vs, fp => ∃ v r f1 f2, vs = (k, v) :: r ∧ NAt t v f1 ∧ NAtT ts r f2 ∧ fp = f1 ++ f2
def NAtF : List (Nat × OT) → List (Str × V) → List Addr → Prop
  | [], vs, fp => vs = [] ∧ fp = []
  | (k, t) :: ts, vs, fp => ∃ v r f1 f2, vs = (ca.n k, v) :: r ∧ NAt t v f1 ∧ NAtF ts r f2 ∧ fp = f1 ++ f2
end
end
section
variable {K : PySem.W.Frag} {ca cb : Cn} {G H G' H' : Hp}
mutual
theorem NAt.tr_ (ea : ca.a = cb.a) (en : ca.n = cb.n) (hA : ∀ d v, At K ca G d v → At K cb G' d v) : ∀ {t : OT} {v : V} {fp : List Addr}, NAt K ca G H t v fp → (∀ b ∈ fp, H' b = H b) → NAt K cb G' H' t v fp
  | .d d, v, fp, ⟨h, e⟩, _ => ⟨hA d v h, e⟩
  | .l ts, v, fp, ⟨a, vs, fq, e, h, r, z⟩, i => ⟨a, vs, fq, e, (i a (by rw [z]; exact List.mem_cons_self)).trans h, NAtL.tr_ ea en hA r fun b m => i b (by rw [z]; exact List.mem_cons_of_mem _ m), z⟩
  | .k ts, v, fp, ⟨a, vs, fq, e, h, r, z⟩, i => ⟨a, vs, fq, e, (i a (by rw [z]; exact List.mem_cons_self)).trans h, NAtK.tr_ ea en hA r fun b m => i b (by rw [z]; exact List.mem_cons_of_mem _ m), z⟩
  | .t ts, v, fp, ⟨a, vs, fq, e, h, r, z⟩, i => ⟨a, vs, fq, e, (i a (by rw [z]; exact List.mem_cons_self)).trans h, NAtT.tr_ ea en hA r fun b m => i b (by rw [z]; exact List.mem_cons_of_mem _ m), z⟩
  | .o g c fs, v, fp, ⟨a, C, dx, vs, fq, e, h0, h1, h, r, z⟩, i => ⟨a, C, dx, vs, fq, e, h0, by rw [← ea]; exact h1, (i a (by rw [z]; exact List.mem_cons_self)).trans h, NAtF.tr_ ea en hA r fun b m => i b (by rw [z]; exact List.mem_cons_of_mem _ m), z⟩
theorem NAtL.tr_ (ea : ca.a = cb.a) (en : ca.n = cb.n) (hA : ∀ d v, At K ca G d v → At K cb G' d v) : ∀ {ts : List OT} {vs : List V} {fp : List Addr}, NAtL K ca G H ts vs fp → (∀ b ∈ fp, H' b = H b) → NAtL K cb G' H' ts vs fp
  | [], _, _, h, _ => h
  | _ :: _, _, _, ⟨v, r, f1, f2, e, h, t, z⟩, i => ⟨v, r, f1, f2, e, NAt.tr_ ea en hA h fun b m => i b (by rw [z]; exact List.mem_append_left _ m), NAtL.tr_ ea en hA t fun b m => i b (by rw [z]; exact List.mem_append_right _ m), z⟩
theorem NAtK.tr_ (ea : ca.a = cb.a) (en : ca.n = cb.n) (hA : ∀ d v, At K ca G d v → At K cb G' d v) : ∀ {ts : List (Key × OT)} {vs : List (Key × V)} {fp : List Addr}, NAtK K ca G H ts vs fp → (∀ b ∈ fp, H' b = H b) → NAtK K cb G' H' ts vs fp
  | [], _, _, h, _ => h
  | (_, _) :: _, _, _, ⟨v, r, f1, f2, e, h, t, z⟩, i => ⟨v, r, f1, f2, e, NAt.tr_ ea en hA h fun b m => i b (by rw [z]; exact List.mem_append_left _ m), NAtK.tr_ ea en hA t fun b m => i b (by rw [z]; exact List.mem_append_right _ m), z⟩
theorem NAtT.tr_ (ea : ca.a = cb.a) (en : ca.n = cb.n) (hA : ∀ d v, At K ca G d v → At K cb G' d v) : ∀ {ts : List (List Key × OT)} {vs : List (List Key × V)} {fp : List Addr}, NAtT K ca G H ts vs fp → (∀ b ∈ fp, H' b = H b) → NAtT K cb G' H' ts vs fp
  | [], _, _, h, _ => h
  | (_, _) :: _, _, _, ⟨v, r, f1, f2, e, h, t, z⟩, i => ⟨v, r, f1, f2, e, NAt.tr_ ea en hA h fun b m => i b (by rw [z]; exact List.mem_append_left _ m), NAtT.tr_ ea en hA t fun b m => i b (by rw [z]; exact List.mem_append_right _ m), z⟩
theorem NAtF.tr_ (ea : ca.a = cb.a) (en : ca.n = cb.n) (hA : ∀ d v, At K ca G d v → At K cb G' d v) : ∀ {ts : List (Nat × OT)} {vs : List (Str × V)} {fp : List Addr}, NAtF K ca G H ts vs fp → (∀ b ∈ fp, H' b = H b) → NAtF K cb G' H' ts vs fp
  | [], _, _, h, _ => h
  | (_, _) :: _, _, _, ⟨v, r, f1, f2, e, h, t, z⟩, i => ⟨v, r, f1, f2, by rw [← en]; exact e, NAt.tr_ ea en hA h fun b m => i b (by rw [z]; exact List.mem_append_left _ m), NAtF.tr_ ea en hA t fun b m => i b (by rw [z]; exact List.mem_append_right _ m), z⟩
end
theorem NAt.ext (sg : Same G G') {t : OT} {v : V} {fp : List Addr} (h : NAt K ca G H t v fp) (i : ∀ b ∈ fp, H' b = H b) : NAt K ca G' H' t v fp := h.tr_ rfl rfl (fun _ _ => At.mono sg) i
mutual
def frzT : OT → D
  | .d d => d
  | .l ts => .lst (frzTL ts)
  | .k kvs => .dK (frzTK kvs)
  | .t kvs => .dT (frzTT kvs)
  | .o _ c fs => .ins c (frzTF fs)
def frzTL : List OT → List D
  | [] => []
  | t :: ts => frzT t :: frzTL ts
def frzTK : List (Key × OT) → List (Key × D)
  | [] => []
  | (k, t) :: ts => (k, frzT t) :: frzTK ts
def frzTT : List (List Key × OT) → List (List Key × D)
  | [] => []
  | (k, t) :: ts => (k, frzT t) :: frzTT ts
def frzTF : List (Nat × OT) → List (Nat × D)
  | [] => []
  | (k, t) :: ts => (k, frzT t) :: frzTF ts
end
mutual
theorem NAt.frz (sg : Same G G') : ∀ {t : OT} {v : V} {fp : List Addr}, NAt K ca G H t v fp → (∀ b ∈ fp, G' b = H b) → At K ca G' (frzT t) v
  | .d d, v, fp, ⟨h, e⟩, _ => At.mono sg h
  | .l ts, v, fp, ⟨a, vs, fq, e, h, r, z⟩, i => ⟨a, vs, e, (i a (by rw [z]; exact List.mem_cons_self)).trans h, NAtL.frz sg r fun b m => i b (by rw [z]; exact List.mem_cons_of_mem _ m)⟩
  | .k ts, v, fp, ⟨a, vs, fq, e, h, r, z⟩, i => ⟨a, vs, e, .inl ((i a (by rw [z]; exact List.mem_cons_self)).trans h), NAtK.frz sg r fun b m => i b (by rw [z]; exact List.mem_cons_of_mem _ m)⟩
  | .t ts, v, fp, ⟨a, vs, fq, e, h, r, z⟩, i => ⟨a, vs, e, .inl ((i a (by rw [z]; exact List.mem_cons_self)).trans h), NAtT.frz sg r fun b m => i b (by rw [z]; exact List.mem_cons_of_mem _ m)⟩
  | .o g c fs, v, fp, ⟨a, C, dx, vs, fq, e, h0, h1, h, r, z⟩, i => ⟨a, C, dx, vs, e, h1, (i a (by rw [z]; exact List.mem_cons_self)).trans h, NAtF.frz sg r fun b m => i b (by rw [z]; exact List.mem_cons_of_mem _ m)⟩
theorem NAtL.frz (sg : Same G G') : ∀ {ts : List OT} {vs : List V} {fp : List Addr}, NAtL K ca G H ts vs fp → (∀ b ∈ fp, G' b = H b) → AtL K ca G' (frzTL ts) vs
  | [], _, _, h, _ => h.1
  | _ :: _, _, _, ⟨v, r, f1, f2, e, h, t, z⟩, i => ⟨v, r, e, NAt.frz sg h fun b m => i b (by rw [z]; exact List.mem_append_left _ m), NAtL.frz sg t fun b m => i b (by rw [z]; exact List.mem_append_right _ m)⟩
theorem NAtK.frz (sg : Same G G') : ∀ {ts : List (Key × OT)} {vs : List (Key × V)} {fp : List Addr}, NAtK K ca G H ts vs fp → (∀ b ∈ fp, G' b = H b) → AtK K ca G' (frzTK ts) vs
  | [], _, _, h, _ => h.1
  | (_, _) :: _, _, _, ⟨v, r, f1, f2, e, h, t, z⟩, i => ⟨v, r, e, NAt.frz sg h fun b m => i b (by rw [z]; exact List.mem_append_left _ m), NAtK.frz sg t fun b m => i b (by rw [z]; exact List.mem_append_right _ m)⟩
theorem NAtT.frz (sg : Same G G') : ∀ {ts : List (List Key × OT)} {vs : List (List Key × V)} {fp : List Addr}, NAtT K ca G H ts vs fp → (∀ b ∈ fp, G' b = H b) → AtT K ca G' (frzTT ts) vs
  | [], _, _, h, _ => h.1
  | (_, _) :: _, _, _, ⟨v, r, f1, f2, e, h, t, z⟩, i => ⟨v, r, e, NAt.frz sg h fun b m => i b (by rw [z]; exact List.mem_append_left _ m), NAtT.frz sg t fun b m => i b (by rw [z]; exact List.mem_append_right _ m)⟩
theorem NAtF.frz (sg : Same G G') : ∀ {ts : List (Nat × OT)} {vs : List (Str × V)} {fp : List Addr}, NAtF K ca G H ts vs fp → (∀ b ∈ fp, G' b = H b) → AtF K ca G' (frzTF ts) vs
  | [], _, _, h, _ => h.1
  | (_, _) :: _, _, _, ⟨v, r, f1, f2, e, h, t, z⟩, i => ⟨v, r, e, NAt.frz sg h fun b m => i b (by rw [z]; exact List.mem_append_left _ m), NAtF.frz sg t fun b m => i b (by rw [z]; exact List.mem_append_right _ m)⟩
end
def isOwnH : HO → Prop
  | .lst _ => True
  | .dK _ => True
  | .dT _ => True
  | .ins _ _ _ => True
  | _ => False
theorem isOwnH.nt {o : HO} (h : isOwnH o) : ∀ vs, o ≠ .tup vs := fun vs e => by rw [e] at h; exact h
def OwnO (H : Hp) (b : Addr) : Prop := ∃ o, H b = some o ∧ isOwnH o
mutual
theorem NAt.some : ∀ {t : OT} {v : V} {fp : List Addr}, NAt K ca G H t v fp → ∀ b ∈ fp, OwnO H b
  | .d d, v, fp, ⟨h, e⟩, b, m => by rw [e] at m; cases m
  | .l ts, v, fp, ⟨a, vs, fq, e, h, r, z⟩, b, m => by
    rw [z] at m
    rcases List.mem_cons.mp m with y | y
    · rw [y]; exact ⟨_, h, trivial⟩
    · exact NAtL.some r b y
  | .k ts, v, fp, ⟨a, vs, fq, e, h, r, z⟩, b, m => by
    rw [z] at m
    rcases List.mem_cons.mp m with y | y
    · rw [y]; exact ⟨_, h, trivial⟩
    · exact NAtK.some r b y
  | .t ts, v, fp, ⟨a, vs, fq, e, h, r, z⟩, b, m => by
    rw [z] at m
    rcases List.mem_cons.mp m with y | y
    · rw [y]; exact ⟨_, h, trivial⟩
    · exact NAtT.some r b y
  | .o g c fs, v, fp, ⟨a, C, dx, vs, fq, e, h0, h1, h, r, z⟩, b, m => by
    rw [z] at m
    rcases List.mem_cons.mp m with y | y
    · rw [y]; exact ⟨_, h, trivial⟩
    · exact NAtF.some r b y
theorem NAtL.some : ∀ {ts : List OT} {vs : List V} {fp : List Addr}, NAtL K ca G H ts vs fp → ∀ b ∈ fp, OwnO H b
  | [], _, _, h, b, m => by rw [h.2] at m; cases m
  | _ :: _, _, _, ⟨v, r, f1, f2, e, h, t, z⟩, b, m => by
    rw [z] at m
    rcases List.mem_append.mp m with y | y
    · exact NAt.some h b y
    · exact NAtL.some t b y
theorem NAtK.some : ∀ {ts : List (Key × OT)} {vs : List (Key × V)} {fp : List Addr}, NAtK K ca G H ts vs fp → ∀ b ∈ fp, OwnO H b
  | [], _, _, h, b, m => by rw [h.2] at m; cases m
  | (_, _) :: _, _, _, ⟨v, r, f1, f2, e, h, t, z⟩, b, m => by
    rw [z] at m
    rcases List.mem_append.mp m with y | y
    · exact NAt.some h b y
    · exact NAtK.some t b y
theorem NAtT.some : ∀ {ts : List (List Key × OT)} {vs : List (List Key × V)} {fp : List Addr}, NAtT K ca G H ts vs fp → ∀ b ∈ fp, OwnO H b
  | [], _, _, h, b, m => by rw [h.2] at m; cases m
  | (_, _) :: _, _, _, ⟨v, r, f1, f2, e, h, t, z⟩, b, m => by
    rw [z] at m
    rcases List.mem_append.mp m with y | y
    · exact NAt.some h b y
    · exact NAtT.some t b y
theorem NAtF.some : ∀ {ts : List (Nat × OT)} {vs : List (Str × V)} {fp : List Addr}, NAtF K ca G H ts vs fp → ∀ b ∈ fp, OwnO H b
  | [], _, _, h, b, m => by rw [h.2] at m; cases m
  | (_, _) :: _, _, _, ⟨v, r, f1, f2, e, h, t, z⟩, b, m => by
    rw [z] at m
    rcases List.mem_append.mp m with y | y
    · exact NAt.some h b y
    · exact NAtF.some t b y
end
end
inductive Sl where
  | no | v (d : D) | l (xs : List D) | k (kvs : List (Key × D)) | t (kvs : List (List Key × D)) | o (g : Option Addr) (c : Nat) (fs : List (Nat × D)) | x (x : Ex) | tr (t : OT)
abbrev Ev := List Sl
def Sl.own : Sl → Bool
  | .no => false
  | .v _ => false
  | .x _ => false
  | .tr _ => false
  | _ => true
section
variable (K : PySem.W.Frag) (ca : Cn)
def Own (G H : Hp) (a : Addr) : Sl → Prop
  | .no => False
  | .v _ => False
  | .x _ => False
  | .tr _ => False
  | .l xs => ∃ vs, H a = some (.lst vs) ∧ AtL K ca G xs vs
  | .k xs => ∃ vs, H a = some (.dK vs) ∧ AtK K ca G xs vs
  | .t xs => ∃ vs, H a = some (.dT vs) ∧ AtT K ca G xs vs
  | .o g c fs => ∃ C dx vs, (∀ b, g = some b → a = b) ∧ ca.a c = some C ∧ H a = some (.ins C dx vs) ∧ AtF K ca G fs vs
structure NstAll (B G H : Hp) (σ : L2.St) (ρ : Ev) (FP : Nat → List Addr) : Prop where
  at_ : ∀ (i : Nat) (t : OT), ρ[i]? = some (.tr t) → ∃ v, σ[i]? = some (some v) ∧ NAt K ca G H t v (FP i)
  nd : ∀ (i : Nat) (t : OT), ρ[i]? = some (.tr t) → (FP i).Nodup
  fr : ∀ (i : Nat) (t : OT), ρ[i]? = some (.tr t) → ∀ b ∈ FP i, G b = none ∧ B b = none
  ow : ∀ (i : Nat) (t : OT), ρ[i]? = some (.tr t) → ∀ b ∈ FP i, ∀ (j : Nat) (s : Sl), ρ[j]? = some s → s.own = true → σ[j]? ≠ some (some (.ref b))
  sp : ∀ (i j : Nat) (t u : OT), i ≠ j → ρ[i]? = some (.tr t) → ρ[j]? = some (.tr u) → ∀ b ∈ FP i, b ∉ FP j
structure Rel (B G H : Hp) (σ : L2.St) (ρ : Ev) : Prop where
  len : σ.length = ρ.length
  val : ∀ (i : Nat) (d : D), ρ[i]? = some (.v d) → ∃ v, σ[i]? = some (some v) ∧ At K ca G d v
  own : ∀ (i : Nat) (s : Sl), ρ[i]? = some s → s.own = true → ∃ a, σ[i]? = some (some (.ref a)) ∧ Own K ca G H a s ∧ G a = none ∧ B a = none
  sep : ∀ (i j : Nat) (s t : Sl) (a : Addr), ρ[i]? = some s → s.own = true → ρ[j]? = some t → t.own = true → σ[i]? = some (some (.ref a)) → σ[j]? = some (some (.ref a)) → i = j
  exc : ∀ (i : Nat) (x : Ex), ρ[i]? = some (.x x) → ∃ a c dx, σ[i]? = some (some (.ref a)) ∧ ca.φ a c dx ∧ ExAt K ca G x c dx
  nst : ∃ FP, NstAll K ca B G H σ ρ FP
end
theorem NstAll.step0 {K : PySem.W.Frag} {ca cb : Cn} {B G H G' H' : Hp} {σ σ' : L2.St} {ρ ρ' : Ev} {FP : Nat → List Addr} (h : NstAll K ca B G H σ ρ FP) (e1 : ∀ (i : Nat) (t : OT), ρ'[i]? = some (.tr t) → ρ[i]? = some (.tr t) ∧ σ'[i]? = σ[i]?) (ea : ca.a = cb.a) (en : ca.n = cb.n) (hA : ∀ d v, At K ca G d v → At K cb G' d v)
    (e2 : ∀ (b : Addr) (o : HO), H b = some o → (∀ vs, o ≠ .tup vs) → G b = none → B b = none → (∀ (j : Nat) (s : Sl), ρ[j]? = some s → s.own = true → σ[j]? ≠ some (some (.ref b))) → H' b = H b ∧ G' b = none ∧ ∀ (j : Nat) (s : Sl), ρ'[j]? = some s → s.own = true → σ'[j]? ≠ some (some (.ref b))) :
    NstAll K cb B G' H' σ' ρ' FP := by
  have key : ∀ (i : Nat) (t : OT), ρ'[i]? = some (.tr t) → ∀ b ∈ FP i, H' b = H b ∧ G' b = none ∧ ∀ (j : Nat) (s : Sl), ρ'[j]? = some s → s.own = true → σ'[j]? ≠ some (some (.ref b)) := fun i t e b m => by
    obtain ⟨q, _⟩ := e1 i t e
    obtain ⟨v, _, n⟩ := h.at_ i t q
    obtain ⟨o, ho, nt⟩ := n.some b m
    exact e2 b o ho nt.nt (h.fr i t q b m).1 (h.fr i t q b m).2 (h.ow i t q b m)
  refine ⟨fun i t e => ?_, fun i t e => h.nd i t (e1 i t e).1, fun i t e b m => ⟨(key i t e b m).2.1, (h.fr i t (e1 i t e).1 b m).2⟩, fun i t e b m => (key i t e b m).2.2, fun i j t u ne e e' => h.sp i j t u ne (e1 i t e).1 (e1 j u e').1⟩
  obtain ⟨q, qs⟩ := e1 i t e
  obtain ⟨v, hv, n⟩ := h.at_ i t q
  exact ⟨v, by rw [qs]; exact hv, n.tr_ ea en hA fun b m => (key i t e b m).1⟩
theorem NstAll.step {K : PySem.W.Frag} {ca : Cn} {B G H G' H' : Hp} {σ σ' : L2.St} {ρ ρ' : Ev} {FP : Nat → List Addr} (h : NstAll K ca B G H σ ρ FP) (e1 : ∀ (i : Nat) (t : OT), ρ'[i]? = some (.tr t) → ρ[i]? = some (.tr t) ∧ σ'[i]? = σ[i]?) (sg : Same G G')
    (e2 : ∀ (b : Addr) (o : HO), H b = some o → (∀ vs, o ≠ .tup vs) → G b = none → B b = none → (∀ (j : Nat) (s : Sl), ρ[j]? = some s → s.own = true → σ[j]? ≠ some (some (.ref b))) → H' b = H b ∧ G' b = none ∧ ∀ (j : Nat) (s : Sl), ρ'[j]? = some s → s.own = true → σ'[j]? ≠ some (some (.ref b))) :
    NstAll K ca B G' H' σ' ρ' FP := h.step0 e1 rfl rfl (fun _ _ => At.mono sg) e2
theorem NstAll.atB {K : PySem.W.Frag} {ca : Cn} {B B' G H : Hp} {σ : L2.St} {ρ : Ev} {FP : Nat → List Addr} (h : NstAll K ca B G H σ ρ FP) (e : ∀ b, G b = none → B b = none → B' b = none) : NstAll K ca B' G H σ ρ FP :=
  ⟨h.at_, h.nd, fun i t q b m => ⟨(h.fr i t q b m).1, e b (h.fr i t q b m).1 (h.fr i t q b m).2⟩, h.ow, h.sp⟩
theorem NstAll.none {K : PySem.W.Frag} {ca : Cn} {B G H : Hp} {σ : L2.St} {ρ : Ev} (h : ∀ (i : Nat) (t : OT), ρ[i]? ≠ some (.tr t)) : NstAll K ca B G H σ ρ fun _ => [] :=
  ⟨fun i t e => (h i t e).elim, fun i t e => (h i t e).elim, fun i t e => (h i t e).elim, fun i t e => (h i t e).elim, fun i j t u _ e => (h i t e).elim⟩
section
variable {K : PySem.W.Frag} {ca : Cn} {B G H G' H' : Hp} {σ : L2.St} {ρ : Ev}
theorem Own.ext {a : Addr} {s : Sl} (h : Own K ca G H a s) (sg : Same G G') (e : H' a = H a) : Own K ca G' H' a s := by
  cases s with
  | no => exact h
  | x _ => exact h
  | tr _ => exact h
  | v d => exact h
  | l xs => obtain ⟨vs, h1, h2⟩ := h; exact ⟨vs, e.trans h1, AtL.mono sg h2⟩
  | k xs => obtain ⟨vs, h1, h2⟩ := h; exact ⟨vs, e.trans h1, AtK.mono sg h2⟩
  | t xs => obtain ⟨vs, h1, h2⟩ := h; exact ⟨vs, e.trans h1, AtT.mono sg h2⟩
  | o g c fs => obtain ⟨C, dx, vs, hg, h0, h1, h2⟩ := h; exact ⟨C, dx, vs, hg, h0, e.trans h1, AtF.mono sg h2⟩
theorem Own.some {a : Addr} {s : Sl} (h : Own K ca G H a s) : ∃ o, H a = some o := by
  cases s with
  | no => exact h.elim
  | x _ => exact h.elim
  | tr _ => exact h.elim
  | v d => exact h.elim
  | l xs => obtain ⟨vs, h1, h2⟩ := h; exact ⟨_, h1⟩
  | k xs => obtain ⟨vs, h1, h2⟩ := h; exact ⟨_, h1⟩
  | t xs => obtain ⟨vs, h1, h2⟩ := h; exact ⟨_, h1⟩
  | o g c fs => obtain ⟨C, dx, vs, hg, h0, h1, h2⟩ := h; exact ⟨_, h1⟩
theorem Own.notT {a : Addr} {s : Sl} {vs : List V} (h : Own K ca G H a s) : H a ≠ Option.some (.tup vs) := fun e => by
  cases s with
  | no => exact h.elim
  | x _ => exact h.elim
  | tr _ => exact h.elim
  | v d => exact h.elim
  | l xs => obtain ⟨vs, h1, h2⟩ := h; rw [h1] at e; cases e
  | k xs => obtain ⟨vs, h1, h2⟩ := h; rw [h1] at e; cases e
  | t xs => obtain ⟨vs, h1, h2⟩ := h; rw [h1] at e; cases e
  | o g c fs => obtain ⟨C, dx, vs, hg, h0, h1, h2⟩ := h; rw [h1] at e; cases e
theorem Rel.ext (r : Rel K ca B G H σ ρ) (e : Ext G H G' H') : Rel K ca B G' H' σ ρ where
  len := r.len
  val := fun i d h => let ⟨v, h1, h2⟩ := r.val i d h; ⟨v, h1, At.mono e.gg h2⟩
  own := fun i s h ho => by
    obtain ⟨a, h1, h2, h3, h4⟩ := r.own i s h ho
    obtain ⟨o, h5⟩ := h2.some
    refine ⟨a, h1, h2.ext e.gg ((e.hh _ _ h5).trans h5.symm), ?_, h4⟩
    cases q : G' a with
    | none => rfl
    | some u =>
      rcases e.nw a (by rw [q]; simp) with z | z
      · exact (z h3).elim
      · rcases z with z | ⟨vs, z⟩
        · rw [h5] at z; cases z
        · exact (h2.notT z).elim
  sep := r.sep
  exc := fun i x h => let ⟨a, c, dx, h1, h2, h3⟩ := r.exc i x h; ⟨a, c, dx, h1, h2, h3.mono e.gg⟩
  nst := by
    obtain ⟨FP, n⟩ := r.nst
    refine ⟨FP, n.step (fun i t e => ⟨e, rfl⟩) e.gg fun b o ho nt gb bb ow => ⟨(e.hh _ _ ho).trans ho.symm, ?_, ow⟩⟩
    cases q : G' b with
    | none => rfl
    | some u =>
      rcases e.nw b (by rw [q]; simp) with z | z
      · exact (z gb).elim
      · exact (z.no ho nt).elim
theorem getElem?_set' {α : Type} {l : List α} {i j : Nat} {x y : α} (h : (l.set i x)[j]? = some y) : (j = i ∧ y = x) ∨ (j ≠ i ∧ l[j]? = some y) := by
  by_cases e : i = j
  · subst e
    rw [List.getElem?_set_self'] at h
    cases q : l[i]? with
    | none => rw [q] at h; cases h
    | some z => rw [q] at h; cases h; exact .inl ⟨rfl, rfl⟩
  · rw [List.getElem?_set_ne e] at h; exact .inr ⟨fun z => e z.symm, h⟩
theorem Rel.set (r : Rel K ca B G H σ ρ) (i : Nat) {d : D} {v : V} (h : At K ca G d v) : Rel K ca B G H (σ.set i (some v)) (ρ.set i (.v d)) where
  len := by rw [List.length_set, List.length_set]; exact r.len
  val := fun j e q => by
    rcases getElem?_set' q with ⟨rfl, z⟩ | ⟨ne, q⟩
    · cases z
      refine ⟨v, ?_, h⟩
      have : j < σ.length := by
        rw [r.len]
        have := (List.getElem?_eq_some_iff.mp q).1
        rwa [List.length_set] at this
      rw [List.getElem?_set_self this]
    · obtain ⟨w, h1, h2⟩ := r.val j e q
      exact ⟨w, by rw [List.getElem?_set_ne (Ne.symm ne)]; exact h1, h2⟩
  own := fun j s q ho => by
    rcases getElem?_set' q with ⟨rfl, z⟩ | ⟨ne, q⟩
    · cases z; cases ho
    · obtain ⟨a, h1, h2⟩ := r.own j s q ho
      exact ⟨a, by rw [List.getElem?_set_ne (Ne.symm ne)]; exact h1, h2⟩
  sep := fun j k s t a qj oj qk ok hj hk => by
    rcases getElem?_set' qj with ⟨rfl, z⟩ | ⟨nj, qj⟩
    · cases z; cases oj
    · rcases getElem?_set' qk with ⟨rfl, z⟩ | ⟨nk, qk⟩
      · cases z; cases ok
      · rw [List.getElem?_set_ne (Ne.symm nj)] at hj
        rw [List.getElem?_set_ne (Ne.symm nk)] at hk
        exact r.sep j k s t a qj oj qk ok hj hk
  exc := fun j x q => by
    rcases getElem?_set' q with ⟨rfl, z⟩ | ⟨ne, q⟩
    · cases z
    · obtain ⟨a, c, dx, h1, h2⟩ := r.exc j x q
      exact ⟨a, c, dx, by rw [List.getElem?_set_ne (Ne.symm ne)]; exact h1, h2⟩
  nst := by
    obtain ⟨FP, n⟩ := r.nst
    refine ⟨FP, n.step (fun j t q => ?_) (.refl _) fun b o ho nt gb bb ow => ⟨rfl, gb, fun j s q os => ?_⟩⟩
    · rcases getElem?_set' q with ⟨rfl, z⟩ | ⟨ne, q⟩
      · cases z
      · exact ⟨q, List.getElem?_set_ne (Ne.symm ne)⟩
    · rcases getElem?_set' q with ⟨rfl, z⟩ | ⟨ne, q⟩
      · rw [z] at os; cases os
      · rw [List.getElem?_set_ne (Ne.symm ne)]; exact ow j s q os
theorem Rel.setOwn {G0 H0 : Hp} (r0 : Rel K ca B G0 H0 σ ρ) (x : Ext G0 H0 G H) (i : Nat) {s : Sl} {a : Addr} (n0 : H0 a = none) (ho : s.own = true) (h : Own K ca G H a s) (hg : G a = none) (hb : B a = none) : Rel K ca B G H (σ.set i (some (.ref a))) (ρ.set i s) := by
  have r := r0.ext x
  have hn : ∀ (j : Nat) (t : Sl), j ≠ i → ρ[j]? = some t → t.own = true → σ[j]? ≠ some (some (.ref a)) := fun j t _ q o z => by
    obtain ⟨a', h1, h2, _⟩ := r0.own j t q o
    rw [z] at h1
    cases h1
    obtain ⟨ob, h5⟩ := h2.some
    rw [n0] at h5
    cases h5
  exact {
  len := by rw [List.length_set, List.length_set]; exact r.len
  val := fun j e q => by
    rcases getElem?_set' q with ⟨rfl, z⟩ | ⟨ne, q⟩
    · rw [← z] at ho; cases ho
    · obtain ⟨w, h1, h2⟩ := r.val j e q
      exact ⟨w, by rw [List.getElem?_set_ne (Ne.symm ne)]; exact h1, h2⟩
  own := fun j s' q ho' => by
    rcases getElem?_set' q with ⟨rfl, z⟩ | ⟨ne, q⟩
    · subst z
      refine ⟨a, ?_, h, hg, hb⟩
      have : j < σ.length := by
        rw [r.len]
        have := (List.getElem?_eq_some_iff.mp q).1
        rwa [List.length_set] at this
      rw [List.getElem?_set_self this]
    · obtain ⟨a', h1, h2⟩ := r.own j s' q ho'
      exact ⟨a', by rw [List.getElem?_set_ne (Ne.symm ne)]; exact h1, h2⟩
  sep := fun j k s' t b qj oj qk ok hj hk => by
    have lt : ∀ {j : Nat} {s' : Sl}, (ρ.set i s)[j]? = some s' → j < σ.length := fun {j s'} q => by
      rw [r.len]
      have := (List.getElem?_eq_some_iff.mp q).1
      rwa [List.length_set] at this
    have lj := lt qj
    have lk := lt qk
    by_cases ej : j = i
    · subst ej
      rw [List.getElem?_set_self lj] at hj
      cases hj
      by_cases ek : k = j
      · exact ek.symm
      · rw [List.getElem?_set_ne (Ne.symm ek)] at hk qk
        exact (hn k t ek qk ok hk).elim
    · rw [List.getElem?_set_ne (Ne.symm ej)] at hj qj
      by_cases ek : k = i
      · subst ek
        rw [List.getElem?_set_self lk] at hk
        cases hk
        exact (hn j s' ej qj oj hj).elim
      · rw [List.getElem?_set_ne (Ne.symm ek)] at hk qk
        exact r.sep j k s' t b qj oj qk ok hj hk
  exc := fun j x q => by
    rcases getElem?_set' q with ⟨rfl, z⟩ | ⟨ne, q⟩
    · rw [← z] at ho; cases ho
    · obtain ⟨a, c, dx, h1, h2⟩ := r.exc j x q
      exact ⟨a, c, dx, by rw [List.getElem?_set_ne (Ne.symm ne)]; exact h1, h2⟩
  nst := by
    obtain ⟨FP, n⟩ := r0.nst
    refine ⟨FP, n.step (fun j t q => ?_) x.gg fun b o hb nt gb bb ow => ⟨(x.hh _ _ hb).trans hb.symm, ?_, fun j s' q os => ?_⟩⟩
    · rcases getElem?_set' q with ⟨rfl, z⟩ | ⟨ne, q⟩
      · rw [← z] at ho; cases ho
      · exact ⟨q, List.getElem?_set_ne (Ne.symm ne)⟩
    · cases q : G b with
      | none => rfl
      | some u =>
        rcases x.nw b (by rw [q]; simp) with z | z
        · exact (z gb).elim
        · exact (z.no hb nt).elim
    · rcases getElem?_set' q with ⟨rfl, z⟩ | ⟨ne, q⟩
      · have lj : j < σ.length := by
          rw [r.len]
          have := (List.getElem?_eq_some_iff.mp q).1
          rwa [List.length_set] at this
        rw [List.getElem?_set_self lj]
        intro y
        cases y
        rw [n0] at hb; cases hb
      · rw [List.getElem?_set_ne (Ne.symm ne)]; exact ow j s' q os }
end
structure FE (X : Cx) (ca : Cn) (W : WX) (e : Expr) (f : Ev → R D) : Prop where
  ex : ∃ t, PE X e t ∧ ∀ B G H σ ρ Q, Same G H → Same B H → Rel X.K ca B G H σ ρ → Wish X.K ca (SV X.K ca Q) G H (f ρ) (WE W σ) → t σ H Q
structure FT (X : Cx) (ca : Cn) (W : WX) (e : Expr) (f : Ev → R Bool) : Prop where
  ex : ∃ t, PT X e t ∧ ∀ B G H σ ρ Q, Same G H → Same B H → Rel X.K ca B G H σ ρ → Wish X.K ca (SB Q) G H (f ρ) (WE W σ) → t σ H Q
structure FW (X : Cx) (ca : Cn) (W : WX) (e : Expr) (f : Ev → R Bool) : Prop where
  ex : ∃ t, PW X e t ∧ ∀ B G H σ ρ Q, Same G H → Same B H → Rel X.K ca B G H σ ρ → Wish X.K ca (SB Q) G H (f ρ) (WE W σ) → t σ H Q
structure FA (X : Cx) (ca : Cn) (W : WX) (es : List Expr) (f : Ev → R (List D)) : Prop where
  ex : ∃ t, PA X es t ∧ ∀ B G H σ ρ Q, Same G H → Same B H → Rel X.K ca B G H σ ρ → Wish X.K ca (SL X.K ca Q) G H (f ρ) (WE W σ) → t σ H Q
structure FK (X : Cx) (ca : Cn) (W : WX) (es : List Keyword) (f : Ev → R (List D)) : Prop where
  ex : ∃ t, PK X es t ∧ ∀ B G H σ ρ Q, Same G H → Same B H → Rel X.K ca B G H σ ρ → Wish X.K ca (SL X.K ca Q) G H (f ρ) (WE W σ) → t σ H Q
inductive SO where
  | nx (ρ : Ev) | rt (d : D) | ro (s : Sl) | bk (ρ : Ev) | ct (ρ : Ev) | ex (x : Ex) (ρ : Ev) | bad
structure Adv (B G G' H' : Hp) : Prop where
  gg : Same G G'
  gh : Same G' H'
  bh : Same B H'
  nw : ∀ a, G' a ≠ none → G a ≠ none ∨ Fre B a
theorem Adv.refl {B G H : Hp} (s : Same G H) (b : Same B H) : Adv B G G H := ⟨.refl _, s, b, fun _ h => .inl h⟩
theorem Adv.trans {B G G1 H1 G2 H2 : Hp} (e : Adv B G G1 H1) (f : Adv B G1 G2 H2) : Adv B G G2 H2 :=
  ⟨e.gg.trans f.gg, f.gh, f.bh, fun a h => (f.nw a h).elim (e.nw a) .inr⟩
theorem Ext.adv {B G H G' H' : Hp} (e : Ext G H G' H') (b : Same B H) : Adv B G G' H' :=
  ⟨e.gg, e.gh, b.trans e.hh, fun a h => (e.nw a h).elim .inl fun z => .inr (z.up b)⟩
section
variable (K : PySem.W.Frag) (ca : Cn)
def WishS (B G : Hp) (r : SO) (D : Ends) (W : WX) : Prop := match r with
  | .nx ρ => ∀ σ' G' H', Adv B G G' H' → Rel K ca B G' H' σ' ρ → D.nx σ' H'
  | .bk ρ => ∀ σ' G' H', Adv B G G' H' → Rel K ca B G' H' σ' ρ → D.bk σ' H'
  | .ct ρ => ∀ σ' G' H', Adv B G G' H' → Rel K ca B G' H' σ' ρ → D.ct σ' H'
  | .rt d => ∀ v G' H', Adv B G G' H' → At K ca G' d v → D.rt v H'
  | .ro s => s.own = true ∧ ∀ a G' H', Adv B G G' H' → Own K ca G' H' a s → G' a = none → B a = none → D.rt (.ref a) H'
  | .ex x ρ => ∀ σ' G' H' c dx, Adv B G G' H' → Rel K ca B G' H' σ' ρ → ExAt K ca G' x c dx → W c dx σ' H'
  | .bad => False
end
theorem WishS.mono {K : PySem.W.Frag} {ca : Cn} {B G G' H' : Hp} {r : SO} {D : Ends} {W : WX} (h : WishS K ca B G r D W) (e : Adv B G G' H') : WishS K ca B G' r D W := by
  cases r with
  | nx ρ => exact fun σ' G2 H2 f => h σ' G2 H2 (e.trans f)
  | bk ρ => exact fun σ' G2 H2 f => h σ' G2 H2 (e.trans f)
  | ct ρ => exact fun σ' G2 H2 f => h σ' G2 H2 (e.trans f)
  | rt d => exact fun v G2 H2 f => h v G2 H2 (e.trans f)
  | ro s => exact ⟨h.1, fun a G2 H2 f => h.2 a G2 H2 (e.trans f)⟩
  | ex x ρ => exact fun σ' G2 H2 c dx f => h σ' G2 H2 c dx (e.trans f)
  | bad => exact h
structure FS (X : Cx) (ca : Cn) (W : WX) (st : Stmt) (g : Ev → SO) : Prop where
  ex : ∃ t, PS X st t ∧ ∀ B G H σ ρ D, Same G H → Same B H → Rel X.K ca B G H σ ρ → WishS X.K ca B G (g ρ) D W → t D σ H
structure FSs (X : Cx) (ca : Cn) (W : WX) (sts : List Stmt) (g : Ev → SO) : Prop where
  ex : ∃ t, PSs X sts t ∧ ∀ B G H σ ρ D, Same G H → Same B H → Rel X.K ca B G H σ ρ → WishS X.K ca B G (g ρ) D W → t D σ H
def SO.from {α : Type} (ρ : Ev) (r : R α) (k : α → SO) : SO := match r with
  | .ok a => k a
  | .exc x => .ex x ρ
  | .bad => .bad
@[simp] theorem from_ok {α : Type} (ρ : Ev) (a : α) (k : α → SO) : SO.from ρ (.ok a) k = k a := (rfl)
@[simp] theorem from_exc {α : Type} (ρ : Ev) (x : Ex) (k : α → SO) : SO.from ρ (.exc x) k = .ex x ρ := (rfl)
@[simp] theorem from_bad {α : Type} (ρ : Ev) (k : α → SO) : SO.from ρ .bad k = .bad := (rfl)
theorem WishS.from {K : PySem.W.Frag} {ca : Cn} {α : Type} {B G H : Hp} {σ : L2.St} {ρ : Ev} {r : R α} {k : α → SO} {D : Ends} {W : WX} {S : Hp → α → Hp → Prop} (h : WishS K ca B G (SO.from ρ r k) D W) (b : Same B H) (rl : Rel K ca B G H σ ρ)
    (hk : ∀ a G1 H1, r = .ok a → Ext G H G1 H1 → WishS K ca B G1 (k a) D W → Rel K ca B G1 H1 σ ρ → Same B H1 → S G1 a H1) : Wish K ca S G H r (WE W σ) := by
  cases r with
  | ok a => exact fun G1 H1 e => hk a G1 H1 rfl e (WishS.mono (r := k a) h (e.adv b)) (rl.ext e) (b.trans e.hh)
  | exc x => exact fun G1 H1 c dx e z => h σ G1 H1 c dx (e.adv b) (rl.ext e) z
  | bad => exact h
end Tk
namespace Tk
open PySem PySem.Spec L2
def eV (i : Nat) : Ev → R D := fun ρ => match ρ[i]? with
  | some (.v d) => .ok d
  | _ => .bad
def eC (d : D) : Ev → R D := fun _ => .ok d
def e1 (g : D → R D) (fa : Ev → R D) : Ev → R D := fun ρ => (fa ρ).bind g
def e2 (g : D → D → R D) (fa fb : Ev → R D) : Ev → R D := fun ρ => (fa ρ).bind fun a => (fb ρ).bind fun b => g a b
def eA (g : List D → R D) (fa : Ev → R (List D)) : Ev → R D := fun ρ => (fa ρ).bind g
def aN : Ev → R (List D) := fun _ => .ok []
def aC (fa : Ev → R D) (fr : Ev → R (List D)) : Ev → R (List D) := fun ρ => (fa ρ).bind fun a => (fr ρ).bind fun r => .ok (a :: r)
def Bof : D → R Bool
  | .bl b => .ok b
  | _ => .bad
def tV (fa : Ev → R D) : Ev → R Bool := fun ρ => (fa ρ).bind Bof
def tAnd (f g : Ev → R Bool) : Ev → R Bool := fun ρ => (f ρ).bind fun b => if b = true then g ρ else .ok false
def tOr (f g : Ev → R Bool) : Ev → R Bool := fun ρ => (f ρ).bind fun b => if b = true then .ok true else g ρ
def tNot (f : Ev → R Bool) : Ev → R Bool := fun ρ => (f ρ).bind fun b => .ok (!b)
def eAnd (fa fb : Ev → R D) : Ev → R D := fun ρ => (fa ρ).bind fun a => (Bof a).bind fun b => if b = true then fb ρ else .ok (.bl false)
def eOr (fa fb : Ev → R D) : Ev → R D := fun ρ => (fa ρ).bind fun a => (Bof a).bind fun b => if b = true then .ok (.bl true) else fb ρ
def eNot (fa : Ev → R D) : Ev → R D := fun ρ => (fa ρ).bind fun a => (Bof a).bind fun b => .ok (.bl (!b))
def eIf (t : Ev → R Bool) (fa fb : Ev → R D) : Ev → R D := fun ρ => (t ρ).bind fun b => if b = true then fa ρ else fb ρ
def eChain (g h : D → D → R D) (fa fb fc : Ev → R D) : Ev → R D := fun ρ => (fa ρ).bind fun a => (fb ρ).bind fun b => (g a b).bind fun z => (Bof z).bind fun k => if k = true then (fc ρ).bind fun c => h b c else .ok (.bl false)
section
variable {X : Cx} {ca : Cn} {W : WX} {a b c e : Expr} {es : List Expr} {fa fb fc : Ev → R D} {fl : Ev → R (List D)} {ft fu : Ev → R Bool} {pos : Pos}
theorem fe_v (i : Nat) {x : Str} {pos : Pos} (hN : X.N[i]? = some x := by rfl) (hv : Vis X.env.scope x := by first | exact Or.inl rfl | exact Or.inr (Or.inl rfl) | exact Or.inr (Or.inr rfl)) (hd : (x == ("__debug__" : Str)) = false := by decide)
    (hcd : (x == ("__classdict__" : Str)) = false := by decide) : FE X ca W (.Name x pos) (eV i) := by
  refine ⟨_, pe_var hN hv hd hcd, fun B G H σ ρ Q s b r h => ?_⟩
  unfold eV at h
  split at h
  · rename_i d e
    obtain ⟨v, h1, h2⟩ := r.val i d e
    exact ⟨v, h1, h.here s v h2⟩
  · exact h.elim
theorem fe_int {i : Int} {j : Nat} {pos : Pos} : FE X ca W (.Constant (.int i) j pos) (eC (.int i)) := ⟨_, pe_int, fun B G H σ ρ Q s b r h => h.here s _ rfl⟩
theorem fe_bl {i : Bool} {j : Nat} {pos : Pos} : FE X ca W (.Constant (.bool i) j pos) (eC (.bl i)) := ⟨_, pe_bl, fun B G H σ ρ Q s b r h => h.here s _ rfl⟩
theorem fe_non {j : Nat} {pos : Pos} : FE X ca W (.Constant .none j pos) (eC .non) := ⟨_, pe_non, fun B G H σ ρ Q s b r h => h.here s _ rfl⟩
theorem fe_str {x : Str} {j : Nat} {pos : Pos} : FE X ca W (.Constant (.str x) j pos) (eC (.str x)) := ⟨_, pe_str, fun B G H σ ρ Q s b r h => h.here s _ rfl⟩
theorem fe_glob {x : Str} {v : V} {u : Value} {d : D} {pos : Pos} (hg : Gl X x) (hm : X.mg x = some u) (r : RelV v u) (ha : ∀ G, At X.K ca G d v) (hd : (x == ("__debug__" : Str)) = false := by decide) : FE X ca W (.Name x pos) (eC d) :=
  ⟨_, pe_glob hg hm r hd, fun B G H σ ρ Q s b r h => h.here s _ (ha G)⟩
def V1 (X : Cx) (ca : Cn) (r : V → Hp → VK → Prop) (g : D → R D) : Prop := ∀ G H W1 x a Q, Same G H → At X.K ca G a x → Wish X.K ca (SV X.K ca Q) G H (g a) W1 → r x H Q
def V2 (X : Cx) (ca : Cn) (r : R2) (g : D → D → R D) : Prop := ∀ G H W1 x y a b Q, Same G H → At X.K ca G a x → At X.K ca G b y → Wish X.K ca (SV X.K ca Q) G H (g a b) W1 → r x y H Q
def VN (X : Cx) (ca : Cn) (r : List V → Hp → VK → Prop) (g : List D → R D) : Prop := ∀ G H W1 xs ds Q, Same G H → AtL X.K ca G ds xs → Wish X.K ca (SV X.K ca Q) G H (g ds) W1 → r xs H Q
theorem fe_op {op : Operator} {r : R2} {g : D → D → R D} (ho : OpR X (binaryOp op) r) (hv : V2 X ca r g) (ha : FE X ca W a fa) (hb : FE X ca W b fb) : FE X ca W (.BinOp a op b pos) (e2 g fa fb) := by
  obtain ⟨ta, pa, ka⟩ := ha.ex
  obtain ⟨tb, pb, kb⟩ := hb.ex
  refine ⟨_, pe_op ho pa pb, fun B G H σ ρ Q s b r h => ?_⟩
  refine ka B G H σ ρ _ s b r (Wish.bind h fun d G1 H1 _ x1 w1 v a1 => ?_)
  refine kb B G1 H1 σ ρ _ x1.gh (b.trans x1.hh) (r.ext x1) (Wish.bind w1 fun d2 G2 H2 _ x2 w2 v2 a2 => ?_)
  exact hv G2 H2 _ v v2 d d2 Q x2.gh (At.mono x2.gg a1) a2 w2
theorem fe_un {op : UnaryOp} {r : V → Hp → VK → Prop} {g : D → R D} (ho : UnR X (unaryOp op) r) (hv : V1 X ca r g) (ha : FE X ca W a fa) : FE X ca W (.UnaryOp op a pos) (e1 g fa) := by
  obtain ⟨ta, pa, ka⟩ := ha.ex
  refine ⟨_, pe_un ho pa, fun B G H σ ρ Q s b r h => ?_⟩
  exact ka B G H σ ρ _ s b r (Wish.bind h fun d G1 H1 _ x1 w1 v a1 => hv G1 H1 _ v d Q x1.gh a1 w1)
theorem fe_cmp {op : CmpOp} {r : R2} {g : D → D → R D} (ho : OpR X (compareOp op) r) (hv : V2 X ca r g) (hm : behindInMarks op b = false) (ha : FE X ca W a fa) (hb : FE X ca W b fb) : FE X ca W (.Compare a [op] [b] pos) (e2 g fa fb) := by
  obtain ⟨ta, pa, ka⟩ := ha.ex
  obtain ⟨tb, pb, kb⟩ := hb.ex
  refine ⟨_, pe_cmpR ho pa pb hm, fun B G H σ ρ Q s b r h => ?_⟩
  refine ka B G H σ ρ _ s b r (Wish.bind h fun d G1 H1 _ x1 w1 v a1 => ?_)
  refine kb B G1 H1 σ ρ _ x1.gh (b.trans x1.hh) (r.ext x1) (Wish.bind w1 fun d2 G2 H2 _ x2 w2 v2 a2 => ?_)
  exact hv G2 H2 _ v v2 d d2 Q x2.gh (At.mono x2.gg a1) a2 w2
theorem wish_tst {K : PySem.W.Frag} {G H : Hp} {r : R D} {Q : Bool → Hp → Prop} {W1 : XK} (h : Wish K ca (SB Q) G H (r.bind Bof) W1) : Wish K ca (SV K ca fun x H' => ∃ k, x = .bl k ∧ Q k H') G H r W1 := by
  refine Wish.bind h fun d G1 H1 _ x1 w1 v a1 => ?_
  cases d with
  | bl k => exact ⟨k, a1, w1.here x1.gh⟩
  | _ => exact w1.elim
theorem ft_cmp {op : CmpOp} {r : R2} {g : D → D → R D} (ho : OpR X (compareOp op) r) (hv : V2 X ca r g) (hm : behindInMarks op b = false) (ha : FE X ca W a fa) (hb : FE X ca W b fb) : FT X ca W (.Compare a [op] [b] pos) (tV (e2 g fa fb)) := by
  obtain ⟨ta, pa, ka⟩ := ha.ex
  obtain ⟨tb, pb, kb⟩ := hb.ex
  refine ⟨_, pt_cmpR ho pa pb hm, fun B G H σ ρ Q s b r h => ?_⟩
  refine ka B G H σ ρ _ s b r (Wish.bind (wish_tst h) fun d G1 H1 _ x1 w1 v a1 => ?_)
  refine kb B G1 H1 σ ρ _ x1.gh (b.trans x1.hh) (r.ext x1) (Wish.bind w1 fun d2 G2 H2 _ x2 w2 v2 a2 => ?_)
  exact hv G2 H2 _ v v2 d d2 _ x2.gh (At.mono x2.gg a1) a2 w2
theorem ft_val (h : FE X ca W e fa) (he : ∀ whole, isTrue e X.env whole = (do let v ← whole; standAt e.pos; holding [v] (truthy v)) := by intro _; rfl) : FT X ca W e (tV fa) := by
  obtain ⟨ta, pa, ka⟩ := h.ex
  exact ⟨_, pt_val pa he, fun B G H σ ρ Q s b r h => ka B G H σ ρ _ s b r (wish_tst h)⟩
theorem ft_w (h : FW X ca W e ft) : FT X ca W e ft := let ⟨t, p, k⟩ := h.ex; ⟨t, p.pt, k⟩
theorem fw_and1 (h : FT X ca W a ft) : FW X ca W (.BoolOp .And [a] pos) ft := let ⟨t, p, k⟩ := h.ex; ⟨t, pw_and1 p, k⟩
theorem fw_or1 (h : FT X ca W a ft) : FW X ca W (.BoolOp .Or [a] pos) ft := let ⟨t, p, k⟩ := h.ex; ⟨t, pw_or1 p, k⟩
theorem fw_and {rest : List Expr} (ha : FT X ca W a ft) (hb : FW X ca W (.BoolOp .And (b :: rest) pos) fu) : FW X ca W (.BoolOp .And (a :: b :: rest) pos) (tAnd ft fu) := by
  obtain ⟨t, p, k⟩ := ha.ex
  obtain ⟨u, q, l⟩ := hb.ex
  refine ⟨_, pw_and p q, fun B G H σ ρ Q s b r h => ?_⟩
  refine k B G H σ ρ _ s b r (Wish.bind h fun d G1 H1 _ x1 w1 => ?_)
  cases d with
  | true => exact l B G1 H1 σ ρ _ x1.gh (b.trans x1.hh) (r.ext x1) w1
  | false => exact w1.here x1.gh
theorem fw_or {rest : List Expr} (ha : FT X ca W a ft) (hb : FW X ca W (.BoolOp .Or (b :: rest) pos) fu) : FW X ca W (.BoolOp .Or (a :: b :: rest) pos) (tOr ft fu) := by
  obtain ⟨t, p, k⟩ := ha.ex
  obtain ⟨u, q, l⟩ := hb.ex
  refine ⟨_, pw_or p q, fun B G H σ ρ Q s b r h => ?_⟩
  refine k B G H σ ρ _ s b r (Wish.bind h fun d G1 H1 _ x1 w1 => ?_)
  cases d with
  | false => exact l B G1 H1 σ ρ _ x1.gh (b.trans x1.hh) (r.ext x1) w1
  | true => exact w1.here x1.gh
theorem ft_not (ha : FT X ca W a ft) : FT X ca W (.UnaryOp .Not a pos) (tNot ft) := by
  obtain ⟨t, p, k⟩ := ha.ex
  refine ⟨_, pt_not p, fun B G H σ ρ Q s b r h => ?_⟩
  exact k B G H σ ρ _ s b r (Wish.bind h fun d G1 H1 _ x1 w1 => w1.here x1.gh)
theorem fe_one {op : BoolOp} (ha : FE X ca W a fa) : FE X ca W (.BoolOp op [a] pos) fa := let ⟨t, p, k⟩ := ha.ex; ⟨t, pe_one p, k⟩
theorem fe_and {rest : List Expr} (ha : FE X ca W a fa) (hb : FE X ca W (.BoolOp .And (b :: rest) pos) fb) : FE X ca W (.BoolOp .And (a :: b :: rest) pos) (eAnd fa fb) := by
  obtain ⟨t, p, k⟩ := ha.ex
  obtain ⟨u, q, l⟩ := hb.ex
  refine ⟨_, pe_and p q, fun B G H σ ρ Q s b r h => ?_⟩
  refine k B G H σ ρ _ s b r (Wish.bind h fun d G1 H1 _ x1 w1 v a1 => ?_)
  cases d with
  | bl z =>
    refine ⟨z, a1, ?_⟩
    cases z with
    | true => exact l B G1 H1 σ ρ _ x1.gh (b.trans x1.hh) (r.ext x1) w1
    | false => exact w1.here x1.gh _ rfl
  | _ => exact w1.elim
theorem fe_not (ha : FE X ca W a fa) : FE X ca W (.UnaryOp .Not a pos) (eNot fa) := by
  obtain ⟨t, p, k⟩ := ha.ex
  refine ⟨_, pe_not p, fun B G H σ ρ Q s b r h => ?_⟩
  refine k B G H σ ρ _ s b r (Wish.bind h fun d G1 H1 _ x1 w1 v a1 => ?_)
  cases d with
  | bl z => exact ⟨z, a1, w1.here x1.gh _ rfl⟩
  | _ => exact w1.elim
theorem chain_core {r r' : R2} {g h' : D → D → R D} (hv : V2 X ca r g) (hv' : V2 X ca r' h') {ta tb tc : TE}
    (ka : ∀ B G H σ ρ Q, Same G H → Same B H → Rel X.K ca B G H σ ρ → Wish X.K ca (SV X.K ca Q) G H (fa ρ) (WE W σ) → ta σ H Q)
    (kb : ∀ B G H σ ρ Q, Same G H → Same B H → Rel X.K ca B G H σ ρ → Wish X.K ca (SV X.K ca Q) G H (fb ρ) (WE W σ) → tb σ H Q)
    (kc : ∀ B G H σ ρ Q, Same G H → Same B H → Rel X.K ca B G H σ ρ → Wish X.K ca (SV X.K ca Q) G H (fc ρ) (WE W σ) → tc σ H Q)
    (B G H σ ρ Q) (s : Same G H) (b : Same B H) (rl : Rel X.K ca B G H σ ρ) (h : Wish X.K ca (SV X.K ca Q) G H (eChain g h' fa fb fc ρ) (WE W σ)) : tChain r r' ta tb tc σ H Q := by
  refine ka B G H σ ρ _ s b rl (Wish.bind h fun d G1 H1 _ x1 w1 v a1 => ?_)
  refine kb B G1 H1 σ ρ _ x1.gh (b.trans x1.hh) (rl.ext x1) (Wish.bind w1 fun d2 G2 H2 _ x2 w2 v2 a2 => ?_)
  refine hv G2 H2 (WE W σ) v v2 d d2 _ x2.gh (At.mono x2.gg a1) a2 (Wish.bind w2 fun d3 G3 H3 _ x3 w3 v3 a3 => ?_)
  cases d3 with
  | bl z =>
    refine ⟨z, a3, ?_⟩
    cases z with
    | true =>
      refine kc B G3 H3 σ ρ _ x3.gh (b.trans (x1.hh.trans (x2.hh.trans x3.hh))) (((rl.ext x1).ext x2).ext x3) (Wish.bind w3 fun d4 G4 H4 _ x4 w4 v4 a4 => ?_)
      exact hv' G4 H4 _ v2 v4 d2 d4 Q x4.gh (At.mono (x3.gg.trans x4.gg) a2) a4 w4
    | false => exact w3.here x3.gh _ rfl
  | _ => exact w3.elim
theorem ft_chain {op op' : CmpOp} {r r' : R2} {g h' : D → D → R D} (ho : OpR X (compareOp op) r) (hv : V2 X ca r g) (ho' : OpR X (compareOp op') r') (hv' : V2 X ca r' h') (ha : FE X ca W a fa) (hb : FE X ca W b fb) (hc : FE X ca W c fc) (hm : lastMarks [op, op'] [b, c] = false := by with_unfolding_all rfl) :
    FT X ca W (.Compare a [op, op'] [b, c] pos) (tV (eChain g h' fa fb fc)) := by
  obtain ⟨ta, pa, ka⟩ := ha.ex
  obtain ⟨tb, pb, kb⟩ := hb.ex
  obtain ⟨tc, pc, kc⟩ := hc.ex
  exact ⟨_, pt_chain ho ho' pa pb pc hm, fun B G H σ ρ Q s b r h => chain_core hv hv' ka kb kc B G H σ ρ _ s b r (wish_tst h)⟩
theorem fa_nil : FA X ca W [] aN := ⟨_, pa_nil, fun B G H σ ρ Q s b r h => h.here s _ rfl⟩
theorem fa_cons (ha : FE X ca W e fa) (hr : FA X ca W es fl) (hs : starEach (e :: es) X.env = (false, eval e X.env) :: starEach es X.env := by rfl) : FA X ca W (e :: es) (aC fa fl) := by
  obtain ⟨ta, pa, ka⟩ := ha.ex
  obtain ⟨tb, pb, kb⟩ := hr.ex
  refine ⟨_, pa_cons pa pb hs, fun B G H σ ρ Q s b r h => ?_⟩
  refine ka B G H σ ρ _ s b r (Wish.bind h fun d G1 H1 _ x1 w1 v a1 => ?_)
  refine kb B G1 H1 σ ρ _ x1.gh (b.trans x1.hh) (r.ext x1) (Wish.bind w1 fun d2 G2 H2 _ x2 w2 v2 a2 => ?_)
  exact w2.here x2.gh _ ⟨v, v2, rfl, At.mono x2.gg a1, a2⟩
theorem fk_nil : FK X ca W [] aN := ⟨_, pk_nil, fun B G H σ ρ Q s b r h => h.here s _ rfl⟩
theorem fk_cons {nm : Option Str} {kpos : Pos} {kws : List Keyword} (ha : FE X ca W e fa) (hr : FK X ca W kws fl) : FK X ca W (⟨nm, e, kpos⟩ :: kws) (aC fa fl) := by
  obtain ⟨ta, pa, ka⟩ := ha.ex
  obtain ⟨tb, pb, kb⟩ := hr.ex
  refine ⟨_, pk_cons pa pb, fun B G H σ ρ Q s b r h => ?_⟩
  refine ka B G H σ ρ _ s b r (Wish.bind h fun d G1 H1 _ x1 w1 v a1 => ?_)
  refine kb B G1 H1 σ ρ _ x1.gh (b.trans x1.hh) (r.ext x1) (Wish.bind w1 fun d2 G2 H2 _ x2 w2 v2 a2 => ?_)
  exact w2.here x2.gh _ ⟨v, v2, rfl, At.mono x2.gg a1, a2⟩
def gLst (ds : List D) : R D := if ds.length ≤ sizeLine then .ok (.lst ds) else .bad
def gTup (ds : List D) : R D := if ds.length ≤ sizeLine then .ok (.tup ds) else .bad
theorem new_lst {G H : Hp} {p : Addr} {ds : List D} {vs : List V} {Q : VK} {W1 : XK} (s : Same G H) (h : Wish X.K ca (SV X.K ca Q) G H (.ok (.lst ds)) W1) (a : AtL X.K ca G ds vs) (n : H p = none) : Q (.ref p) (upd H p (.lst vs)) :=
  h _ _ (Ext.new s n) (.ref p) ⟨p, vs, rfl, upd_same, AtL.mono (same_upd (same_none s n)) a⟩
theorem new_tup {G H : Hp} {p : Addr} {ds : List D} {vs : List V} {Q : VK} {W1 : XK} (s : Same G H) (h : Wish X.K ca (SV X.K ca Q) G H (.ok (.tup ds)) W1) (a : AtL X.K ca G ds vs) (n : H p = none) : Q (.ref p) (upd H p (.tup vs)) :=
  h _ _ (Ext.new s n) (.ref p) ⟨p, vs, rfl, upd_same, AtL.mono (same_upd (same_none s n)) a⟩
theorem fe_lst (h : FA X ca W es fl) : FE X ca W (.List es pos) (eA gLst fl) := by
  obtain ⟨t, p, k⟩ := h.ex
  refine ⟨_, pe_lst p, fun B G H σ ρ Q s b r h => ?_⟩
  refine k B G H σ ρ _ s b r (Wish.bind h fun ds G1 H1 _ x1 w1 vs a1 => ?_)
  unfold gLst at w1
  split at w1
  · rename_i z
    exact ⟨by rw [← a1.length]; exact z, fun p n => new_lst x1.gh w1 a1 n⟩
  · exact w1.elim
theorem fe_tup {x1 : Nat} (h : FA X ca W es fl) : FE X ca W (.Tuple es x1 pos) (eA gTup fl) := by
  obtain ⟨t, p, k⟩ := h.ex
  refine ⟨_, pe_tup p, fun B G H σ ρ Q s b r h => ?_⟩
  refine k B G H σ ρ _ s b r (Wish.bind h fun ds G1 H1 _ x1 w1 vs a1 => ?_)
  unfold gTup at w1
  split at w1
  · rename_i z
    exact ⟨by rw [← a1.length]; exact z, fun p n => new_tup x1.gh w1 a1 n⟩
  · exact w1.elim
end
end Tk
namespace Tk
open PySem PySem.Spec L2
def sN : Ev → SO := fun ρ => .nx ρ
def sSq (g k : Ev → SO) : Ev → SO := fun ρ => match g ρ with
  | .nx ρ' => k ρ'
  | r => r
def sBad : Ev → SO := fun _ => .bad
def sRet (f : Ev → R D) : Ev → SO := fun ρ => SO.from ρ (f ρ) .rt
def sRetN : Ev → SO := fun _ => .rt .non
def sDrop (f : Ev → R D) : Ev → SO := fun ρ => SO.from ρ (f ρ) fun _ => .nx ρ
def sIf (t : Ev → R Bool) (g k : Ev → SO) : Ev → SO := fun ρ => SO.from ρ (t ρ) fun b => if b = true then g ρ else k ρ
def sSet (i : Nat) (f : Ev → R D) : Ev → SO := fun ρ => SO.from ρ (f ρ) fun d => .nx (ρ.set i (.v d))
def sBk : Ev → SO := fun ρ => .bk ρ
def sCt : Ev → SO := fun ρ => .ct ρ
abbrev Tg := D → Ev → Option Ev
abbrev Tgs := List D → Ev → Option Ev
def gN (i : Nat) : Tg := fun d ρ => some (ρ.set i (.v d))
def gsN : Tgs
  | [], ρ => some ρ
  | _ :: _, _ => none
def gsC (g : Tg) (r : Tgs) : Tgs
  | [], _ => none
  | d :: ds, ρ => (g d ρ).bind fun ρ' => r ds ρ'
def gT (n : Nat) (g : Tgs) : Tg
  | .tup ds, ρ => if ds.length = n then g ds ρ else none
  | _, _ => none
def SO.ofO (o : Option Ev) (k : Ev → SO) : SO := match o with
  | some ρ => k ρ
  | none => .bad
@[simp] theorem ofO_some (ρ : Ev) (k : Ev → SO) : SO.ofO (some ρ) k = k ρ := (rfl)
def sAsg (f : Ev → R D) (g : Tg) : Ev → SO := fun ρ => SO.from ρ (f ρ) fun d => SO.ofO (g d ρ) .nx
def loop (g : Tg) (body : Ev → SO) : List D → Ev → SO
  | [], ρ => .nx ρ
  | d :: ds, ρ => SO.ofO (g d ρ) fun ρ1 => match body ρ1 with
    | .nx ρ2 => loop g body ds ρ2
    | .ct ρ2 => loop g body ds ρ2
    | .bk ρ2 => .nx ρ2
    | r => r
def sFor (fi : Ev → R (List D)) (g : Tg) (body : Ev → SO) : Ev → SO := fun ρ => SO.from ρ (fi ρ) fun ds => loop g body ds ρ
structure FG (X : Cx) (ca : Cn) (zs : List Nat) (tg : Expr) (h : Tg) : Prop where
  ex : ∃ t, PG X tg t ∧ ∀ B G H σ ρ d v (Q : L2.St → Hp → Prop), Same G H → Same B H → Rel X.K ca B G H σ ρ → At X.K ca G d v → (∃ ρ', h d ρ = some ρ' ∧ ∀ σ', Rel X.K ca B G H σ' ρ' → wipe σ' zs = wipe σ zs → Q σ' H) → t v σ H Q
structure FGs (X : Cx) (ca : Cn) (zs : List Nat) (tgs : List Expr) (h : Tgs) : Prop where
  ex : ∃ t, PGs X tgs t ∧ ∀ B G H σ ρ ds vs (Q : L2.St → Hp → Prop), Same G H → Same B H → Rel X.K ca B G H σ ρ → AtL X.K ca G ds vs → (∃ ρ', h ds ρ = some ρ' ∧ ∀ σ', Rel X.K ca B G H σ' ρ' → wipe σ' zs = wipe σ zs → Q σ' H) → t vs σ H Q
theorem wipe_set {σ : L2.St} {i : Nat} {x : Option V} : ∀ {zs : List Nat}, i ∈ zs → wipe (σ.set i x) zs = wipe σ zs
  | [], h => by cases h
  | z :: zs, h => by
    unfold wipe
    by_cases e : i ∈ zs
    · rw [wipe_set e]
    · rcases List.mem_cons.mp h with rfl | h
      · have : ∀ zs : List Nat, i ∉ zs → wipe (σ.set i x) zs = (wipe σ zs).set i x := by
          intro zs
          induction zs with
          | nil => intro _; rfl
          | cons y ys ih =>
            intro hn
            rw [List.mem_cons, not_or] at hn
            unfold wipe
            rw [ih hn.2, List.set_comm _ _ hn.1]
        rw [this zs e, List.set_set]
      · exact absurd h e
def JOk (K : PySem.W.Frag) (ca : Cn) (G0 : Hp) (J : It) (ds : List D) : Prop := ∀ G H, Same G0 G → Same G H → ∀ i,
  (∀ d, ds[i]? = some d → J.go i H ∧ ∀ x H', J.yld i H x H' → ∃ G', Ext G H G' H' ∧ At K ca G' d x) ∧ (ds.length = i → J.stop i H)
structure FI (X : Cx) (ca : Cn) (W : WX) (tg iter : Expr) (fi : Ev → R (List D)) : Prop where
  ex : ∃ t, PI X tg iter t ∧ ∀ B G H σ ρ (Q : It → Hp → Prop), Same G H → Same B H → Rel X.K ca B G H σ ρ → Wish X.K ca (fun G' ds H' => ∀ J, JOk X.K ca G' J ds → Q J H') G H (fi ρ) (WE W σ) → t σ H Q
section
variable {X : Cx} {ca : Cn} {W : WX} {e c : Expr} {st : Stmt} {rest body orelse : List Stmt} {fa : Ev → R D} {ft : Ev → R Bool} {g k : Ev → SO} {pos : Pos} {zs : List Nat}
theorem fss_nil : FSs X ca W [] sN := ⟨_, pss_nil, fun B G H σ ρ D s b r h => h σ G H (.refl s b) r⟩
theorem fss_cons (h1 : FS X ca W st g) (h2 : FSs X ca W rest k) : FSs X ca W (st :: rest) (sSq g k) := by
  obtain ⟨t, p, kt⟩ := h1.ex
  obtain ⟨u, q, ku⟩ := h2.ex
  refine ⟨_, pss_cons p q, fun B G H σ ρ D s b r h => ?_⟩
  refine kt B G H σ ρ _ s b r ?_
  unfold sSq at h
  cases z : g ρ with
  | nx ρ1 =>
    rw [z] at h
    exact fun σ' G' H' a r' => ku B G' H' σ' ρ1 D a.gh a.bh r' (WishS.mono (r := k ρ1) h a)
  | _ => rw [z] at h; exact h
theorem fss_one (h1 : FS X ca W st g) : FSs X ca W [st] g := let ⟨t, p, kt⟩ := h1.ex; ⟨t, pss_one p, kt⟩
theorem fss_never : FSs X ca W rest sBad := ⟨_, pss_never, fun B G H σ ρ D s b r h => h.elim⟩
theorem fs_ret (h : FE X ca W e fa) : FS X ca W (.Return (some e) pos) (sRet fa) := by
  obtain ⟨t, p, kt⟩ := h.ex
  refine ⟨_, ps_ret p, fun B G H σ ρ D s b r h => kt B G H σ ρ _ s b r ?_⟩
  exact WishS.from h b r fun a G1 H1 _ x w r1 b1 v av => w v G1 H1 (.refl x.gh b1) av
theorem fs_expr (h : FE X ca W e fa) (hs : swapsWith e none pos.line X.env = pure false := by rfl) : FS X ca W (.Expr e pos) (sDrop fa) := by
  obtain ⟨t, p, kt⟩ := h.ex
  refine ⟨_, ps_expr p hs, fun B G H σ ρ D s b r h => kt B G H σ ρ _ s b r ?_⟩
  exact WishS.from h b r fun a G1 H1 _ x w r1 b1 v av => w σ G1 H1 (.refl x.gh b1) r1
theorem fs_if (hc : FT X ca W c ft) (ha : FSs X ca W body g) (hb : FSs X ca W orelse k) : FS X ca W (.If c body orelse pos) (sIf ft g k) := by
  obtain ⟨t, p, kt⟩ := hc.ex
  obtain ⟨ta, pa, ka⟩ := ha.ex
  obtain ⟨tb, pb, kb⟩ := hb.ex
  refine ⟨_, ps_if p pa pb, fun B G H σ ρ D s b r h => kt B G H σ ρ _ s b r ?_⟩
  refine WishS.from h b r fun a G1 H1 _ x w r1 b1 => ?_
  cases a with
  | true => exact ka B G1 H1 σ ρ D x.gh b1 r1 w
  | false => exact kb B G1 H1 σ ρ D x.gh b1 r1 w
theorem fs_set {i : Nat} {y : Str} {pos' : Pos} (hN : X.N.Nodup) (hi : X.N[i]? = some y) (h : FE X ca W e fa) (hx : Loc X.env.scope y := by first | exact .inl rfl | exact .inr rfl) (hs : swapsWith e (some (.Name y pos')) pos.line X.env = pure false := by rfl)
    (hf : X.fn y = true ∨ X.env.scope.names.lookup y = some .local := by first | exact .inl rfl | exact .inr rfl | assumption) : FS X ca W (.Assign [.Name y pos'] e pos) (sSet i fa) := by
  obtain ⟨t, p, kt⟩ := h.ex
  refine ⟨_, ps_set hN hi hx p hs hf, fun B G H σ ρ D s b r h => kt B G H σ ρ _ s b r ?_⟩
  exact WishS.from h b r fun a G1 H1 _ x w r1 b1 v av => w _ G1 H1 (.refl x.gh b1) (r1.set i av)
theorem fg_n {i : Nat} {y : Str} (hN : X.N.Nodup) (hi : X.N[i]? = some y) (hz : i ∈ zs := by decide) (hx : Loc X.env.scope y := by first | exact .inl rfl | exact .inr rfl) (hf : X.fn y = true ∨ X.env.scope.names.lookup y = some .local := by first | exact .inl rfl | exact .inr rfl | assumption) : FG X ca zs (.Name y pos) (gN i) :=
  ⟨_, pg_name hN hi hx hf, fun B G H σ ρ d v Q s b r a ⟨ρ', e, q⟩ => by cases e; exact q _ (r.set i a) (wipe_set hz)⟩
theorem fgs_n : FGs X ca zs [] gsN := ⟨_, pgs_nil, fun B G H σ ρ ds vs Q s b r a ⟨ρ', e, q⟩ => by
  cases ds with
  | nil => cases e; exact ⟨a, q _ r rfl⟩
  | cons _ _ => cases e⟩
theorem fgs_c {es : List Expr} {h1 : Tg} {h2 : Tgs} (a : FG X ca zs e h1) (b : FGs X ca zs es h2) (hs : (assignEach (e :: es) X.env).map (·.2) = assign e X.env :: (assignEach es X.env).map (·.2) := by rfl) : FGs X ca zs (e :: es) (gsC h1 h2) := by
  obtain ⟨t, p, kt⟩ := a.ex
  obtain ⟨u, q, ku⟩ := b.ex
  refine ⟨_, pgs_cons p q hs, fun B G H σ ρ ds vs Q s b r a ⟨ρ', e, q⟩ => ?_⟩
  cases ds with
  | nil => cases e
  | cons d ds =>
    obtain ⟨v, vr, rfl, a1, a2⟩ := a
    obtain ⟨ρ1, z, e⟩ := Option.bind_eq_some_iff.mp (show (h1 d ρ).bind (fun ρ' => h2 ds ρ') = some ρ' from e)
    exact ⟨v, vr, rfl, kt B G H σ ρ d v _ s b r a1 ⟨ρ1, z, fun σ' r' w' => ku B G H σ' ρ1 ds vr Q s b r' a2 ⟨ρ', e, fun σ2 r2 w2 => q σ2 r2 (w2.trans w')⟩⟩⟩
theorem fg_t {es : List Expr} {kk n : Nat} {h1 : Tgs} (hc : X.calm = true) (a : FGs X ca zs es h1) (hn : (assignEach es X.env).length = n := by rfl) (hst : (assignEach es X.env).findIdx? (·.1) = none := by rfl) : FG X ca zs (.Tuple es kk pos) (gT n h1) := by
  obtain ⟨t, p, kt⟩ := a.ex
  refine ⟨_, pg_tup hc p hn hst, fun B G H σ ρ d v Q s b r a z => ?_⟩
  obtain ⟨ρ', e, q⟩ := z
  cases d with
  | tup ds =>
    have e : (if ds.length = n then h1 ds ρ else none) = some ρ' := e
    split at e
    · rename_i hl
      obtain ⟨p', vs, rfl, a1, a2⟩ := a
      exact ⟨p', vs, rfl, tq s a1, by rw [← a2.length]; exact hl, kt B G H σ ρ ds vs Q s b r a2 ⟨ρ', e, q⟩⟩
    · cases e
  | _ => cases e
theorem turn_end {B G : Hp} {r : SO} {D' : Ends} {K : PySem.W.Frag} (kk : Ev → SO) (N : L2.St → Hp → Prop) (h : WishS K ca B G (match r with
    | .nx ρ2 => kk ρ2
    | .ct ρ2 => kk ρ2
    | .bk ρ2 => .nx ρ2
    | r => r) D' W) (hn : ∀ ρ2 σ' G' H', WishS K ca B G' (kk ρ2) D' W → Adv B G G' H' → Rel K ca B G' H' σ' ρ2 → N σ' H') : WishS K ca B G r { D' with nx := N, ct := N, bk := D'.nx } W := by
  cases r with
  | nx ρ2 => exact fun σ' G' H' a r' => hn ρ2 σ' G' H' (WishS.mono (r := kk ρ2) h a) a r'
  | ct ρ2 => exact fun σ' G' H' a r' => hn ρ2 σ' G' H' (WishS.mono (r := kk ρ2) h a) a r'
  | bk ρ2 => exact h
  | rt d => exact h
  | ro s => exact h
  | ex x ρ => exact h
  | bad => exact h
theorem fs_for {tg iter : Expr} {fi : Ev → R (List D)} {h1 : Tg} (hp : PassesOwn (model X.prog X.w) X.A X.env X.xe) (hc : X.calm = true) (hi : FI X ca W tg iter fi) (hg : FG X ca zs tg h1) (hb : FSs X ca W body g)
    (hs : ∀ x, foldedSetIterable iter X.env x = pure x := by intro _; rfl) : FS X ca W (.For tg iter body [] pos) (sFor fi h1 g) := by
  obtain ⟨ti, pi, ki⟩ := hi.ex
  obtain ⟨tg', pg, kg⟩ := hg.ex
  obtain ⟨tb, pb, kb⟩ := hb.ex
  refine ⟨_, ps_for hp hc pi pg pb hs, fun B G H σ ρ D s b r h => ki B G H σ ρ _ s b r ?_⟩
  refine WishS.from h b r fun ds G1 H1 _ x w r1 b1 J hj => ?_
  refine ⟨fun i m σ2 H2 => m = ds.length - i ∧ i ≤ ds.length ∧ ∃ G2 ρ2, Adv B G1 G2 H2 ∧ Rel X.K ca B G2 H2 σ2 ρ2 ∧ WishS X.K ca B G2 (loop h1 g (ds.drop i) ρ2) D W, ⟨_, rfl, Nat.zero_le _, G1, ρ, .refl x.gh b1, r1, by rw [List.drop_zero]; exact w⟩, ?_⟩
  rintro i m σ2 H2 ⟨rfl, hi, G2, ρ2, a2, r2, w2⟩
  obtain ⟨j1, j2⟩ := hj G2 H2 a2.gg a2.gh i
  by_cases hlt : i < ds.length
  · rw [List.drop_eq_getElem_cons hlt] at w2
    obtain ⟨go, yl⟩ := j1 ds[i] (by simp [hlt])
    refine .inr ⟨go, fun σ3 H3 => ∃ G3 ρ3, Adv B G1 G3 H3 ∧ Rel X.K ca B G3 H3 σ3 ρ3 ∧ WishS X.K ca B G3 (loop h1 g (ds.drop (i + 1)) ρ3) D W, fun σ3 H3 q => ⟨ds.length - (i + 1), by omega, rfl, hlt, q⟩, fun y H3 yy => ?_⟩
    obtain ⟨G3, x3, a3⟩ := yl y H3 yy
    have r3 := r2.ext x3
    have b3 := a2.bh.trans x3.hh
    have w3 := WishS.mono w2 (x3.adv a2.bh)
    show tg' y σ2 H3 _
    unfold loop at w3
    cases z : h1 ds[i] ρ2 with
    | none => rw [z] at w3; exact w3.elim
    | some ρ4 =>
      rw [z] at w3
      refine kg B G3 H3 σ2 ρ2 ds[i] y _ x3.gh b3 r3 a3 ⟨ρ4, z, fun σ4 r4 _ => ?_⟩
      refine kb B G3 H3 σ4 ρ4 _ x3.gh b3 r4 (turn_end (fun ρ5 => loop h1 g (ds.drop (i + 1)) ρ5) _ w3 fun ρ5 σ5 G5 H5 w5 a5 r5 => ?_)
      exact ⟨G5, ρ5, a2.trans ((x3.adv a2.bh).trans a5), r5, w5⟩
  · have e : i = ds.length := by omega
    subst e
    rw [List.drop_length] at w2
    exact .inl ⟨j2 rfl, w2 σ2 G2 H2 (.refl a2.gh a2.bh) r2⟩
end
end Tk
namespace Tk
open PySem PySem.Spec L2 PyProof.Rows
def spF (K : PySem.W.Frag) (ca : Cn) (n : Nat) (F : List D → R D) : Sp := fun vs H Q E => vs.length = n ∧ ∃ G ds, Same G H ∧ AtL K ca G ds vs ∧ Wish K ca (SV K ca Q) G H (F ds) E
def startE (n : Nat) (ds : List D) : Ev := ds.map Sl.v ++ List.replicate (n - ds.length) .no
def frzS : Sl → Sl
  | .l xs => .v (.lst xs)
  | .k xs => .v (.dK xs)
  | .t xs => .v (.dT xs)
  | .o _ c fs => .v (.ins c fs)
  | .tr t => .v (frzT t)
  | s => s
section
variable {K : PySem.W.Frag} {ca : Cn} {G H G' H' : Hp}
theorem Own.at_ {a : Addr} {s : Sl} (h : Own K ca G H a s) (sg : Same G G') (e : G' a = H a) : ∃ d, frzS s = .v d ∧ At K ca G' d (.ref a) := by
  cases s with
  | no => exact h.elim
  | x _ => exact h.elim
  | tr _ => exact h.elim
  | v d => exact h.elim
  | l xs => obtain ⟨vs, h1, h2⟩ := h; exact ⟨_, rfl, a, vs, rfl, e.trans h1, AtL.mono sg h2⟩
  | k xs => obtain ⟨vs, h1, h2⟩ := h; exact ⟨_, rfl, a, vs, rfl, .inl (e.trans h1), AtK.mono sg h2⟩
  | t xs => obtain ⟨vs, h1, h2⟩ := h; exact ⟨_, rfl, a, vs, rfl, .inl (e.trans h1), AtT.mono sg h2⟩
  | o g c fs => obtain ⟨C, dx, vs, hg, h0, h1, h2⟩ := h; exact ⟨_, rfl, a, C, dx, vs, rfl, h0, e.trans h1, AtF.mono sg h2⟩
end
def frzR : Sl → R D
  | .l xs => .ok (.lst xs)
  | .k xs => .ok (.dK xs)
  | .t xs => .ok (.dT xs)
  | .o _ c fs => .ok (.ins c fs)
  | _ => .bad
theorem frzR_of {s : Sl} {d : D} (h : frzS s = .v d) (o : s.own = true) : frzR s = .ok d := by
  cases s with
  | no => cases o
  | x _ => cases o
  | tr _ => cases o
  | v _ => cases o
  | l _ => cases h; rfl
  | k _ => cases h; rfl
  | t _ => cases h; rfl
  | o _ _ _ => cases h; rfl
def SO.out : SO → R D
  | .nx _ => .ok .non
  | .rt d => .ok d
  | .ro s => frzR s
  | .ex x _ => .exc x
  | _ => .bad
def SO.outO : SO → R Sl
  | .ro s => .ok s
  | .ex x _ => .exc x
  | _ => .bad
def runF (n : Nat) (g : Ev → SO) : List D → R D := fun ds => (g (startE n ds)).out
theorem vals_start {K : PySem.W.Frag} {ca : Cn} {G : Hp} : ∀ {ds : List D} {vs : List V} {i : Nat} {d : D} {n : Nat}, AtL K ca G ds vs → (ds.map Sl.v ++ List.replicate n Sl.no)[i]? = some (.v d) → ∃ v, (vs.map some ++ List.replicate n none)[i]? = some (some v) ∧ At K ca G d v
  | [], vs, i, d, n, h, e => by
    cases h
    simp only [List.map_nil, List.nil_append, List.getElem?_replicate] at e
    split at e <;> cases e
  | x :: ds, vs, i, d, n, ⟨v, r, q, h, t⟩, e => by
    subst q
    cases i with
    | zero => simp at e; subst e; exact ⟨v, rfl, h⟩
    | succ i =>
      obtain ⟨w, h1, h2⟩ := vals_start (i := i) (n := n) t (by simpa using e)
      exact ⟨w, by simpa using h1, h2⟩
theorem own_start : ∀ {ds : List D} {i : Nat} {s : Sl} {n : Nat}, (ds.map Sl.v ++ List.replicate n Sl.no)[i]? = some s → s.own = true → False
  | [], i, s, n, e, o => by
    simp only [List.map_nil, List.nil_append, List.getElem?_replicate] at e
    split at e
    · cases e; cases o
    · cases e
  | x :: ds, i, s, n, e, o => by
    cases i with
    | zero => simp at e; subst e; cases o
    | succ i => exact own_start (ds := ds) (i := i) (n := n) (by simpa using e) o
theorem ex_start : ∀ {ds : List D} {i : Nat} {x : Ex} {n : Nat}, (ds.map Sl.v ++ List.replicate n Sl.no)[i]? = some (.x x) → False
  | [], i, x, n, e => by
    simp only [List.map_nil, List.nil_append, List.getElem?_replicate] at e
    split at e <;> cases e
  | y :: ds, i, x, n, e => by
    cases i with
    | zero => simp at e
    | succ i => exact ex_start (ds := ds) (i := i) (n := n) (by simpa using e)
theorem tr_start : ∀ {ds : List D} {i : Nat} {t : OT} {n : Nat}, (ds.map Sl.v ++ List.replicate n Sl.no)[i]? = some (.tr t) → False
  | [], i, x, n, e => by
    simp only [List.map_nil, List.nil_append, List.getElem?_replicate] at e
    split at e <;> cases e
  | y :: ds, i, x, n, e => by
    cases i with
    | zero => simp at e
    | succ i => exact tr_start (ds := ds) (i := i) (n := n) (by simpa using e)
theorem rel_start {K : PySem.W.Frag} {ca : Cn} {B G H : Hp} {N : List Str} {ds : List D} {vs : List V} (a : AtL K ca G ds vs) : Rel K ca B G H (L2.start N vs) (startE N.length ds) := by
  have l := a.length
  refine ⟨?_, fun i d e => ?_, fun i s e o => (own_start (show (ds.map Sl.v ++ List.replicate (N.length - ds.length) Sl.no)[i]? = some s from e) o).elim, fun i j s t x e o => (own_start (show (ds.map Sl.v ++ List.replicate (N.length - ds.length) Sl.no)[i]? = some s from e) o).elim,
    fun i x e => (ex_start (show (ds.map Sl.v ++ List.replicate (N.length - ds.length) Sl.no)[i]? = some (.x x) from e)).elim,
    ⟨_, .none fun i t e => tr_start (show (ds.map Sl.v ++ List.replicate (N.length - ds.length) Sl.no)[i]? = some (.tr t) from e)⟩⟩
  · unfold L2.start startE
    simp [l]
  · have e' : (ds.map Sl.v ++ List.replicate (N.length - ds.length) Sl.no)[i]? = some (.v d) := e
    rw [l] at e'
    exact vals_start a e'
section
variable {P : Program} {w : World} {K : PySem.W.Frag} {mg : Str → Option Value} {base : Heap} {ca : Cn}
theorem body_ok {X : Cx} {W : WX} {body : List Stmt} {g : Ev → SO} {H : Hp} {vs : List V} {ds : List D} {G : Hp} {Q : VK} {E : XK} {N : List Str} (hK : X.K = K) (h : FSs X ca W body g) (hW : ∀ c d σ H', E c d H' → W c d σ H')
    (s : Same G H) (a : AtL K ca G ds vs) (q : Wish K ca (SV K ca Q) G H (runF N.length g ds) E) : ∃ t, PSs X body t ∧ t { nx := fun _ H' => Q .non H', rt := Q } (L2.start N vs) H := by
  subst hK
  obtain ⟨t, p, k⟩ := h.ex
  refine ⟨t, p, k H G H _ (startE N.length ds) _ s (.refl H) (rel_start a) ?_⟩
  unfold runF at q
  have up : ∀ {G' H' : Hp}, Adv H G G' H' → Ext G H G' H' := fun x => ⟨x.bh, x.gg, x.gh, x.nw⟩
  cases z : g (startE N.length ds) with
  | nx ρ => rw [z] at q; exact fun σ' G' H' x r => q G' H' (up x) .non rfl
  | rt d => rw [z] at q; exact fun v G' H' x r => q G' H' (up x) v r
  | ro sl =>
    rw [z] at q
    have q1 : Wish X.K ca (SV X.K ca Q) G H (frzR sl) E := q
    have own : sl.own = true := by cases sl <;> first | rfl | exact q1.elim
    refine ⟨own, fun a G' H' x oa ga ba => ?_⟩
    obtain ⟨o, ho⟩ := oa.some
    have gg : Same G' (upd G' a o) := same_upd ga
    have gh : Same (upd G' a o) H' := fun c u e => by
      by_cases w : c = a
      · subst w; rw [upd_same] at e; rw [ho]; exact e
      · rw [upd_ne w] at e; exact x.gh c u e
    obtain ⟨d, e1, e2⟩ := oa.at_ gg (show upd G' a o a = H' a by rw [upd_same, ho])
    have q2 : Wish X.K ca (SV X.K ca Q) G H (.ok d) E := by
      rw [frzR_of e1 own] at q1
      exact q1
    refine q2 (upd G' a o) H' ⟨x.bh, x.gg.trans gg, gh, fun c n => ?_⟩ (.ref a) e2
    by_cases w : c = a
    · subst w; exact .inr (.inl ba)
    · rw [upd_ne w] at n; exact x.nw c n
  | ex x ρ => rw [z] at q; exact fun σ' G' H' c dx y r e => hW _ _ _ _ (q G' H' c dx (up y) e)
  | bk ρ => rw [z] at q; exact q.elim
  | ct ρ => rw [z] at q; exact q.elim
  | bad => rw [z] at q; exact q.elim
theorem fn_okD {x qual : Str} {params : Arguments} {body : List Stmt} {scope : Scope} {dvs : List V} {kws : List (Str × V)} {f : Addr} {fd : FuncData} {N ps : List Str} {k : Nat} {g : Ev → SO} (F : FunD K x qual params body scope dvs kws f fd) (S : FnScope N ps scope)
    (hb : ∀ (cdv : Value) (A : Around) (outer : List Env) (s : Shared) (H : Hp) (E : XK), Room k (A.deeper (envOfC qual scope s.heap.objs.size f cdv)) →
      FSs (cxOf (L2.CX P w) P w K mg base N qual scope f cdv A outer s H E) ca (fun c d _ H' => E c d H') body g) : FnOk P w K mg base (L2.CX P w) (k + 1) f fd ps (spF K ca ps.length (runF N.length g)) :=
  F.ok S (fun vs H Q E h => h.1) fun cdv A outer s H vs Q E hr h => by
    obtain ⟨l, G, ds, sm, a, q⟩ := h
    exact body_ok rfl (hb cdv A outer s H E hr) (fun _ _ _ _ z => z) sm a q
end
def eCall (n : Nat) (F : List D → R D) (fa : Ev → R (List D)) : Ev → R D := fun ρ => (fa ρ).bind fun ds => if ds.length = n then F ds else .bad
structure KB (K : PySem.W.Frag) (ca : Cn) (fd : FuncData) (ps : List Str) (n : Nat) (ks : List Str) (gD : List D → List D → List D) : Prop where
  ex : ∃ g gV, KBn K fd ps n ks g gV ∧ ∀ G ds vs zs ws, AtL K ca G ds vs → AtL K ca G zs ws → AtL K ca G (gD ds zs) (gV vs ws)
def eCallK (n m p : Nat) (F : List D → R D) (gD : List D → List D → List D) (fa fk : Ev → R (List D)) : Ev → R D := fun ρ => (fa ρ).bind fun ds => (fk ρ).bind fun zs => if ds.length = n ∧ zs.length = m ∧ (gD ds zs).length = p then F (gD ds zs) else .bad
section
variable {X : Cx} {ca : Cn} {W : WX} {k : Nat} {f : Addr} {fd : FuncData} {ps ks : List Str} {Fn : List D → R D} {x : Str} {p pos : Pos} {e : Expr} {es : List Expr} {fa fk : Ev → R (List D)}
theorem fe_call (F : FnOk X.prog X.w X.K X.mg X.base (L2.CX X.prog X.w) k f fd ps (spF X.K ca ps.length Fn)) (hr : Room k X.A) (tk : Takes X W) (hg : Gl X x) (hm : X.mg x = some (.ref f)) (hk : PySem.W.keepIn X.K (.ref f) = true) (hb : Binds X.K fd ps [])
    (ha : FA X ca W (e :: es) fa) (hdb : (x == ("__debug__" : Str)) = false := by decide) (he : starEach (e :: es) X.env = (false, eval e X.env) :: starEach es X.env := by rfl) (hpl : (backTo pos (starEach es X.env)).any (·.1) = false := by rfl) :
    FE X ca W (.Call (.Name x p) (e :: es) [] pos) (eCall ps.length Fn fa) := by
  obtain ⟨t, pa, kt⟩ := ha.ex
  refine ⟨_, pe_callS (E := WE W) F hr hg hm hk hb (fun σ => passAt tk σ) pa hdb he hpl, fun B G H σ ρ Q s b r h => ?_⟩
  refine kt B G H σ ρ _ s b r (Wish.bind h fun ds G1 H1 _ x1 w1 vs a1 => ?_)
  split at w1
  · rename_i hl
    exact ⟨by rw [← a1.length]; exact hl, G1, ds, x1.gh, a1, w1⟩
  · exact w1.elim
theorem run_kb {gV : List V → List V → List V} {g : List Value → List Value → List Value} {n : Nat} {E : XK} {sp : Sp} {pins : List (Addr × Obj)} {σ : L2.St} {H : Hp} {s : Shared} {Q : VK} {us ws : List Value} {vs zs : List V} (F : FnOk X.prog X.w X.K X.mg X.base (L2.CX X.prog X.w) k f fd ps sp)
    (hr : Room k X.A) (hb : KBn X.K fd ps n ks g gV) (hx : PassesAt (L2.CX X.prog X.w) X σ E) (I : Inv X pins σ H s) (ru : Vals vs us) (rw' : Vals zs ws) (lu : vs.length = n) (lw : zs.length = ks.length) (h : sp (gV vs zs) H Q E) :
    wpAny (model X.prog X.w) X.A (call (.ref f) us (ks.zip ws)) (EP X pins σ Q) X.xe s := by
  have bt := hb.to s us ws I.kIn (ru.length.symm.trans lu) (rw'.length.symm.trans lw)
  have go := F.run X.A X.stack s H ⟨us, ks.zip ws⟩ _ _ Q E hr I.env0 bt (hb.rel ru rw') h
  refine wpAny_call (codeAny_mono go fun r s' hq => ?_)
  rcases r with e | fl
  · exact hx pins H s e s' I hq
  · cases fl with
    | ret u => exact I.after hq
    | _ => exact hq.elim
theorem fe_callK {kws : List Keyword} {n : Nat} {gD : List D → List D → List D} (F : FnOk X.prog X.w X.K X.mg X.base (L2.CX X.prog X.w) k f fd ps (spF X.K ca ps.length Fn)) (hr : Room k X.A) (tk : Takes X W) (hg : Gl X x) (hm : X.mg x = some (.ref f)) (hk : PySem.W.keepIn X.K (.ref f) = true) (hb : KB X.K ca fd ps n ks gD)
    (ha : FA X ca W (e :: es) fa) (hkw : FK X ca W kws fk) (hall : (backToKw pos (keywordEach kws X.env)).all (·.1.isSome) = true := by rfl) (hks : (backToKw pos (keywordEach kws X.env)).filterMap (·.1) = ks := by rfl) (hdb : (x == ("__debug__" : Str)) = false := by decide)
    (he : starEach (e :: es) X.env = (false, eval e X.env) :: starEach es X.env := by rfl) (hpl : ((backTo pos (starEach (e :: es) X.env)).any (·.1) || (backToKw pos (keywordEach kws X.env)).any (·.1.isNone)) = false := by rfl) :
    FE X ca W (.Call (.Name x p) (e :: es) kws pos) (eCallK n ks.length ps.length Fn gD fa fk) := by
  obtain ⟨t, pa, kt⟩ := ha.ex
  obtain ⟨u, pk, ku⟩ := hkw.ex
  obtain ⟨g, gV, hbn, hgd⟩ := hb.ex
  refine ⟨fun σ H Q => t σ H fun vs H1 => u σ H1 fun zs H2 => vs.length = n ∧ zs.length = ks.length ∧ spF X.K ca ps.length Fn (gV vs zs) H2 Q (WE W σ), ⟨fun pins s σ H Q I h => ?_⟩, fun B G H σ ρ Q s b r h => ?_⟩
  · refine wpAny_Call_Name_kw (ld_glob I hg hm ?_ hdb)
    refine PySem.W.callWith_KW (h₀ := X.base) I.ok.mod.kin hk hall (thn (pa.run pos pins s σ H _ I h) fun us s1 ⟨vs, H1, I1, r1, q1⟩ => ?_) hpl he
    refine thn (pk.run pos pins s1 σ H1 _ I1 q1) fun ws s2 ⟨zs, H2, I2, r2, l1, l2, q2⟩ => ⟨I2.kIn, ?_⟩
    rw [hks]
    exact run_kb F hr hbn (passAt tk σ) I2 r1 r2 l1 l2 q2
  · refine kt B G H σ ρ _ s b r (Wish.bind h fun ds G1 H1 _ x1 w1 vs a1 => ?_)
    refine ku B G1 H1 σ ρ _ x1.gh (b.trans x1.hh) (r.ext x1) (Wish.bind w1 fun zs G2 H2 _ x2 w2 ws a2 => ?_)
    split at w2
    · rename_i hl
      have a3 := hgd G2 ds vs zs ws (AtL.mono x2.gg a1) a2
      exact ⟨by rw [← a1.length]; exact hl.1, by rw [← a2.length]; exact hl.2.1, by rw [← a3.length]; exact hl.2.2, G2, _, x2.gh, a3, w2⟩
    · exact w2.elim
theorem fe_blt {id : String} {r : List V → Hp → VK → Prop} {g : List D → R D} (hc : CallR X (.builtin id) r) (hv : VN X ca r g) (hg : Gl X x) (hm : X.mg x = none) (hv' : bootBuiltins x = some (.builtin id)) (ha : FA X ca W (e :: es) fa) (hn : x ≠ "__name__" := by decide) (hd : (x == ("__debug__" : Str)) = false := by decide)
    (he : starEach (e :: es) X.env = (false, eval e X.env) :: starEach es X.env := by rfl) (hpl : (backTo pos (starEach es X.env)).any (·.1) = false := by rfl) : FE X ca W (.Call (.Name x p) (e :: es) [] pos) (eA g fa) := by
  obtain ⟨t, pa, kt⟩ := ha.ex
  refine ⟨_, pe_callB hc hg hm hv' pa hn hd he hpl, fun B G H σ ρ Q s b r h => ?_⟩
  exact kt B G H σ ρ _ s b r (Wish.bind h fun ds G1 H1 _ x1 w1 vs a1 => hv G1 H1 _ vs ds Q x1.gh a1 w1)
theorem fe_bty {T : String} {r : List V → Hp → VK → Prop} {g : List D → R D} (hc : CallR X (.type T) r) (hv : VN X ca r g) (hg : Gl X x) (hm : X.mg x = none) (hv' : bootBuiltins x = some (.type T)) (ha : FA X ca W (e :: es) fa) (hn : x ≠ "__name__" := by decide) (hd : (x == ("__debug__" : Str)) = false := by decide)
    (he : starEach (e :: es) X.env = (false, eval e X.env) :: starEach es X.env := by rfl) (hpl : (backTo pos (starEach es X.env)).any (·.1) = false := by rfl) : FE X ca W (.Call (.Name x p) (e :: es) [] pos) (eA g fa) := by
  obtain ⟨t, pa, kt⟩ := ha.ex
  refine ⟨_, pe_callTy hc hg hm hv' pa hn hd he hpl, fun B G H σ ρ Q s b r h => ?_⟩
  exact kt B G H σ ρ _ s b r (Wish.bind h fun ds G1 H1 _ x1 w1 vs a1 => hv G1 H1 _ vs ds Q x1.gh a1 w1)
end
end Tk
namespace Tk
open PySem PySem.Spec L2 PyProof.Rows
def gAdd : D → D → R D
  | .int i, .int j => .ok (.int (i + j))
  | .str a, .str b => if a.length + b.length ≤ sizeLine then .ok (.str (a ++ b)) else .bad
  | .lst xs, .lst ys => if xs.length + ys.length ≤ sizeLine then .ok (.lst (xs ++ ys)) else .bad
  | .tup xs, .tup ys => if xs.length + ys.length ≤ sizeLine then .ok (.tup (xs ++ ys)) else .bad
  | _, _ => .bad
def gSub : D → D → R D
  | .int i, .int j => .ok (.int (i - j))
  | _, _ => .bad
instance (i j : Int) : Decidable (CMul i j) := by unfold CMul; infer_instance
instance (i j : Int) : Decidable (CMulW i j) := by unfold CMulW; infer_instance
instance (i j : Int) : Decidable (CDivW i j) := by unfold CDivW; infer_instance
instance (i j : Int) : Decidable (CPow i j) := by unfold CPow; infer_instance
def gMul : D → D → R D
  | .int i, .int j => if CMul i j ∨ CMulW i j then .ok (.int (i * j)) else .bad
  | _, _ => .bad
def gDiv : D → D → R D
  | .int i, .int j => if CDivW i j then .ok (.int (i / j)) else .bad
  | _, _ => .bad
def gMod : D → D → R D
  | .int i, .int j => if 0 < j then .ok (.int (i % j)) else .bad
  | _, _ => .bad
def gPow : D → D → R D
  | .int i, .int j => if CPow i j then .ok (.int (i ^ j.toNat)) else .bad
  | _, _ => .bad
def gNeg : D → R D
  | .int i => .ok (.int (-i))
  | _ => .bad
def gLt : D → D → R D
  | .int i, .int j => .ok (.bl (decide (i < j)))
  | _, _ => .bad
def gLe : D → D → R D
  | .int i, .int j => .ok (.bl (decide (i ≤ j)))
  | _, _ => .bad
def gGt : D → D → R D
  | .int i, .int j => .ok (.bl (decide (j < i)))
  | _, _ => .bad
def gGe : D → D → R D
  | .int i, .int j => .ok (.bl (decide (j ≤ i)))
  | _, _ => .bad
mutual
def toP : D → Option PyData
  | .non => some .none
  | .bl b => some (.bool b)
  | .int i => some (.int i)
  | .str s => some (.str s)
  | .lst xs => (toPs xs).map .list
  | .tup xs => (toPs xs).map .tuple
  | .tpz xs => (toPs xs).map .tuple
  | _ => none
def toPs : List D → Option (List PyData)
  | [] => some []
  | d :: ds => match toP d, toPs ds with
    | some p, some ps => some (p :: ps)
    | _, _ => none
end
def gEqP (a b : D) : R D := match toP a, toP b with
  | some p, some q => if (SeqAt.shaped p && SeqAt.shaped q) = true then .ok (.bl (PyData.eqv p q)) else .bad
  | _, _ => .bad
def gEq : D → D → R D
  | .int i, .int j => .ok (.bl (decide (i = j)))
  | .str i, .str j => .ok (.bl (decide (i = j)))
  | .bl i, .bl j => .ok (.bl (decide (i = j)))
  | a, b => gEqP a b
def rNot (r : R D) : R D := r.bind fun d => match d with
  | .bl b => .ok (.bl (!b))
  | _ => .bad
def gNe (a b : D) : R D := rNot (gEq a b)
def isNon : D → Bool
  | .non => true
  | _ => false
def gIsN (a : D) (b : D) : R D := match b with
  | .non => .ok (.bl (isNon a))
  | _ => .bad
def gNotN (a : D) (b : D) : R D := rNot (gIsN a b)
def gInP (neg : Bool) (a : D) (ys : List D) : R D := match toP a, toPs ys with
  | some p, some qs => if (SeqAt.shaped p && SeqAt.shaped (.list qs)) = true then .ok (.bl (if neg then !(qs.any fun z => PyData.eqv z p) else qs.any fun z => PyData.eqv z p)) else .bad
  | _, _ => .bad
def flatD : D → Bool
  | .non => true
  | .bl _ => true
  | .int _ => true
  | .str _ => true
  | _ => false
def toV : D → V
  | .non => .non
  | .bl b => .bl b
  | .int i => .int i
  | .str s => .str s
  | _ => .non
def gInS (neg : Bool) : D → D → R D
  | .str a, .str b => .ok (.bl (if neg then !(!(Builtin.Str.occurrences b a 0 b.length 1).isEmpty) else !(Builtin.Str.occurrences b a 0 b.length 1).isEmpty))
  | a, .lst ys => if flatD a = true ∧ ys.all flatD = true then .ok (.bl (if neg then !inV (toV a) (ys.map toV) else inV (toV a) (ys.map toV))) else gInP neg a ys
  | a, .tup ys => if flatD a = true ∧ ys.all flatD = true then .ok (.bl (if neg then !inV (toV a) (ys.map toV) else inV (toV a) (ys.map toV))) else .bad
  | a, .tpz ys => if flatD a = true ∧ ys.all flatD = true then .ok (.bl (if neg then !inV (toV a) (ys.map toV) else inV (toV a) (ys.map toV))) else .bad
  | _, _ => .bad
section
variable {X : Cx} {ca : Cn}
theorem v2_int {g : D → D → R D} {h : Int → Int → V} {z : Int → Int → D} (hg : ∀ i j, g (.int i) (.int j) = .ok (z i j)) (hz : ∀ i j G, At X.K ca G (z i j) (h i j)) (hb : ∀ a b, (∀ i j, ¬ (a = .int i ∧ b = .int j)) → g a b = .bad) : V2 X ca (rI0 h) g := by
  intro G H W1 x y a b Q s ax ay w
  by_cases e : ∃ i j, a = .int i ∧ b = .int j
  · obtain ⟨i, j, rfl, rfl⟩ := e
    rw [hg] at w
    exact ⟨i, j, ax, ay, w.here s _ (hz i j _)⟩
  · rw [hb a b fun i j q => e ⟨i, j, q⟩] at w
    exact w.elim
theorem v2_intC {C : Int → Int → Prop} {g : D → D → R D} {h : Int → Int → V} {z : Int → Int → D} (hg : ∀ i j, g (.int i) (.int j) = .ok (z i j) ∧ C i j ∨ g (.int i) (.int j) = .bad) (hz : ∀ i j G, At X.K ca G (z i j) (h i j)) (hb : ∀ a b, (∀ i j, ¬ (a = .int i ∧ b = .int j)) → g a b = .bad) : V2 X ca (rI C h) g := by
  intro G H W1 x y a b Q s ax ay w
  by_cases e : ∃ i j, a = .int i ∧ b = .int j
  · obtain ⟨i, j, rfl, rfl⟩ := e
    rcases hg i j with ⟨e, c⟩ | e
    · rw [e] at w
      exact ⟨i, j, ax, ay, c, w.here s _ (hz i j _)⟩
    · rw [e] at w; exact w.elim
  · rw [hb a b fun i j q => e ⟨i, j, q⟩] at w
    exact w.elim
theorem v2_sub : V2 X ca (rI0 fun i j => .int (i - j)) gSub := v2_int (z := fun i j => .int (i - j)) (fun _ _ => rfl) (fun _ _ _ => rfl) fun a b h => by cases a <;> first | rfl | (cases b <;> first | rfl | exact (h _ _ ⟨rfl, rfl⟩).elim)
theorem v2_lt : V2 X ca (rI0 fun i j => .bl (decide (i < j))) gLt := v2_int (z := fun i j => .bl (decide (i < j))) (fun _ _ => rfl) (fun _ _ _ => rfl) fun a b h => by cases a <;> first | rfl | (cases b <;> first | rfl | exact (h _ _ ⟨rfl, rfl⟩).elim)
theorem v2_le : V2 X ca (rI0 fun i j => .bl (decide (i ≤ j))) gLe := v2_int (z := fun i j => .bl (decide (i ≤ j))) (fun _ _ => rfl) (fun _ _ _ => rfl) fun a b h => by cases a <;> first | rfl | (cases b <;> first | rfl | exact (h _ _ ⟨rfl, rfl⟩).elim)
theorem v2_gt : V2 X ca (rI0 fun i j => .bl (decide (j < i))) gGt := v2_int (z := fun i j => .bl (decide (j < i))) (fun _ _ => rfl) (fun _ _ _ => rfl) fun a b h => by cases a <;> first | rfl | (cases b <;> first | rfl | exact (h _ _ ⟨rfl, rfl⟩).elim)
theorem v2_ge : V2 X ca (rI0 fun i j => .bl (decide (j ≤ i))) gGe := v2_int (z := fun i j => .bl (decide (j ≤ i))) (fun _ _ => rfl) (fun _ _ _ => rfl) fun a b h => by cases a <;> first | rfl | (cases b <;> first | rfl | exact (h _ _ ⟨rfl, rfl⟩).elim)
theorem op_mul2 : OpR X (binaryOp .Mult) (rI (fun i j => CMul i j ∨ CMulW i j) fun i j => .int (i * j)) := opI fun i j _ _ _ _ _ hc q => by
  rcases hc with hc | hc
  · exact mul_int q hc.ok
  · exact mul_int q hc.ok
theorem v2_mul : V2 X ca (rI (fun i j => CMul i j ∨ CMulW i j) fun i j => .int (i * j)) gMul := v2_intC (z := fun i j => .int (i * j)) (fun i j => by unfold gMul; by_cases h : CMul i j ∨ CMulW i j <;> simp [h]) (fun _ _ _ => rfl) fun a b h => by cases a <;> first | rfl | (cases b <;> first | rfl | exact (h _ _ ⟨rfl, rfl⟩).elim)
theorem v2_div : V2 X ca (rI CDivW fun i j => .int (i / j)) gDiv := v2_intC (z := fun i j => .int (i / j)) (fun i j => by unfold gDiv; by_cases h : CDivW i j <;> simp [h]) (fun _ _ _ => rfl) fun a b h => by cases a <;> first | rfl | (cases b <;> first | rfl | exact (h _ _ ⟨rfl, rfl⟩).elim)
theorem v2_mod : V2 X ca (rI (fun _ j => 0 < j) fun i j => .int (i % j)) gMod := v2_intC (z := fun i j => .int (i % j)) (fun i j => by unfold gMod; by_cases h : 0 < j <;> simp [h]) (fun _ _ _ => rfl) fun a b h => by cases a <;> first | rfl | (cases b <;> first | rfl | exact (h _ _ ⟨rfl, rfl⟩).elim)
theorem v2_pow : V2 X ca (rI CPow fun i j => .int (i ^ j.toNat)) gPow := v2_intC (z := fun i j => .int (i ^ j.toNat)) (fun i j => by unfold gPow; by_cases h : CPow i j <;> simp [h]) (fun _ _ _ => rfl) fun a b h => by cases a <;> first | rfl | (cases b <;> first | rfl | exact (h _ _ ⟨rfl, rfl⟩).elim)
theorem v1_neg : V1 X ca (rU fun i => .int (-i)) gNeg := by
  intro G H W1 x a Q s ax w
  cases a with
  | int i => exact ⟨i, ax, w.here s _ rfl⟩
  | _ => exact w.elim
theorem op_addA : OpR X (binaryOp .Add) (fun x y H Q => (rI0 fun i j => .int (i + j)) x y H Q ∨ ((∃ i j, x = .str i ∧ y = .str j ∧ i.length + j.length ≤ sizeLine ∧ Q (.str (i ++ j)) H) ∨ (rCat x y H Q ∨ rCatA X.K x y H Q))) := op_add.or (op_add_str.or (op_cat.or op_catA))
theorem v2_add : V2 X ca (fun x y H Q => (rI0 fun i j => .int (i + j)) x y H Q ∨ ((∃ i j, x = .str i ∧ y = .str j ∧ i.length + j.length ≤ sizeLine ∧ Q (.str (i ++ j)) H) ∨ (rCat x y H Q ∨ rCatA X.K x y H Q))) gAdd := by
  intro G H W1 x y a b Q s ax ay w
  cases a with
  | int i =>
    cases b with
    | int j => exact .inl ⟨i, j, ax, ay, w.here s _ rfl⟩
    | _ => exact w.elim
  | str i =>
    cases b with
    | str j =>
      have w' : Wish X.K ca (SV X.K ca Q) G H (if i.length + j.length ≤ sizeLine then .ok (.str (i ++ j)) else .bad) W1 := w
      split at w'
      · rename_i z; exact .inr (.inl ⟨i, j, ax, ay, z, w'.here s _ rfl⟩)
      · exact w'.elim
    | _ => exact w.elim
  | lst i =>
    cases b with
    | lst j =>
      have w' : Wish X.K ca (SV X.K ca Q) G H (if i.length + j.length ≤ sizeLine then .ok (.lst (i ++ j)) else .bad) W1 := w
      split at w'
      · rename_i z
        obtain ⟨p, vs, rfl, h1, h2⟩ := ax
        obtain ⟨q, ws, rfl, h3, h4⟩ := ay
        exact .inr (.inr (.inl ⟨p, q, vs, ws, rfl, rfl, s _ _ h1, s _ _ h3, by rw [← h2.length, ← h4.length]; exact z, fun l n => new_lst s w' (h2.append h4) n⟩))
      · exact w'.elim
    | _ => exact w.elim
  | tup i =>
    cases b with
    | tup j =>
      have w' : Wish X.K ca (SV X.K ca Q) G H (if i.length + j.length ≤ sizeLine then .ok (.tup (i ++ j)) else .bad) W1 := w
      split at w'
      · rename_i z
        obtain ⟨p, vs, rfl, h1, h2⟩ := ax
        obtain ⟨q, ws, rfl, h3, h4⟩ := ay
        have l1 := h2.length
        have l2 := h4.length
        refine .inr (.inr (.inr ⟨p, q, vs, ws, rfl, rfl, tq s h1, tq s h3, by rw [← l1, ← l2]; exact z, fun e => ?_, fun e1 e2 => ?_, fun _ _ l n => new_tup s w' (h2.append h4) n⟩))
        · have : i = [] := by rw [e] at l1; exact List.length_eq_zero_iff.mp l1
          subst this
          exact w'.here s _ ⟨q, ws, rfl, h3, h4⟩
        · have : j = [] := by rw [e2] at l2; exact List.length_eq_zero_iff.mp l2
          subst this
          rw [List.append_nil] at w'
          exact w'.here s _ ⟨p, vs, rfl, h1, h2⟩
      · exact w'.elim
    | _ => exact w.elim
  | _ => exact w.elim
mutual
theorem dp_of {G H : Hp} (s : Same G H) : ∀ (d : D) (v : V) (p : PyData), At X.K ca G d v → toP d = some p → Dp X.K H v p
  | .non, v, p, a, e => by cases e; cases a; exact .non
  | .bl b, v, p, a, e => by cases e; cases a; exact .bl b
  | .int i, v, p, a, e => by cases e; cases a; exact .int i
  | .str x, v, p, a, e => by cases e; cases a; exact .str x
  | .lst xs, v, p, ⟨q, vs, e1, h, r⟩, e => by
    obtain ⟨ps, e2, e3⟩ := Option.map_eq_some_iff.mp (show (toPs xs).map PyData.list = some p from e)
    subst e1 e3
    exact .lst (.of (s _ _ h)) (dps_of s xs vs ps r e2)
  | .tup xs, v, p, ⟨q, vs, e1, h, r⟩, e => by
    obtain ⟨ps, e2, e3⟩ := Option.map_eq_some_iff.mp (show (toPs xs).map PyData.tuple = some p from e)
    subst e1 e3
    exact .tup (tq s h) (dps_of s xs vs ps r e2)
  | .ty _, v, p, a, e => by cases e
  | .cl _, v, p, a, e => by cases e
  | .scr _, v, p, a, e => by cases e
  | .tpz xs, v, p, ⟨q, o, vs, e1, oo, h, r⟩, e => by
    obtain ⟨ps, e2, e3⟩ := Option.map_eq_some_iff.mp (show (toPs xs).map PyData.tuple = some p from e)
    subst e1 e3
    exact .tup (.inl (.inr ⟨o, s _ _ h⟩)) (dps_of s xs vs ps r e2)
  | .tp0, v, p, a, e => by cases e
  | .zK _, v, p, a, e => by cases e
  | .zT _, v, p, a, e => by cases e
  | .dK _, v, p, a, e => by cases e
  | .dT _, v, p, a, e => by cases e
  | .ins _ _, v, p, a, e => by cases e
theorem dps_of {G H : Hp} (s : Same G H) : ∀ (ds : List D) (vs : List V) (ps : List PyData), AtL X.K ca G ds vs → toPs ds = some ps → DpAll X.K H vs ps
  | [], vs, ps, a, e => by cases e; cases a; exact .nil
  | d :: ds, vs, ps, ⟨v, r, e1, a1, a2⟩, e => by
    have e' : (match toP d, toPs ds with | some p, some ps => some (p :: ps) | _, _ => none) = some ps := e
    split at e'
    · rename_i p ps' h1 h2
      cases e'
      subst e1
      exact .cons (dp_of s d v p a1 h1) (dps_of s ds r ps' a2 h2)
    · cases e'
end
theorem op_eqA (hu : X.A.units + 64 < cLine) : OpR X (compareOp .Eq) (fun x y H Q => rEq x y H Q ∨ rEqD X.K x y H Q) := op_eq.or (op_eqD hu)
theorem op_neA (hu : X.A.units + 64 < cLine) : OpR X (compareOp .NotEq) (fun x y H Q => rNe x y H Q ∨ rNeD X.K x y H Q) := op_ne.or (op_neD hu)
theorem gEqP_some {a b : D} {G H : Hp} {W1 : XK} {S : Hp → D → Hp → Prop} (h : Wish X.K ca S G H (gEqP a b) W1) : ∃ p q, toP a = some p ∧ toP b = some q ∧ SeqAt.shaped p = true ∧ SeqAt.shaped q = true ∧ gEqP a b = .ok (.bl (PyData.eqv p q)) := by
  unfold gEqP at h ⊢
  split at h
  · rename_i p q e1 e2
    split at h
    · rename_i z
      rw [Bool.and_eq_true] at z
      exact ⟨p, q, e1, e2, z.1, z.2, by simp only [e1, e2, z.1, z.2]; rfl⟩
    · exact h.elim
  · exact h.elim
theorem v2_eqP {a b : D} {x y : V} {G H : Hp} {W1 : XK} {Q : VK} (s : Same G H) (ax : At X.K ca G a x) (ay : At X.K ca G b y) (w : Wish X.K ca (SV X.K ca Q) G H (gEqP a b) W1) : rEqD X.K x y H Q := by
  obtain ⟨p, q, e1, e2, z1, z2, e3⟩ := gEqP_some w
  rw [e3] at w
  exact ⟨p, q, dp_of s a x p ax e1, dp_of s b y q ay e2, z1, z2, w.here s _ rfl⟩
theorem dec_V {i j : Int} : decide (V.int i = V.int j) = decide (i = j) := by by_cases h : i = j <;> simp [h]
theorem dec_VS {i j : Str} : decide (V.str i = V.str j) = decide (i = j) := by by_cases h : i = j <;> simp [h]
theorem dec_VB {i j : Bool} : decide (V.bl i = V.bl j) = decide (i = j) := by by_cases h : i = j <;> simp [h]
theorem v2_eq : V2 X ca (fun x y H Q => rEq x y H Q ∨ rEqD X.K x y H Q) gEq := by
  intro G H W1 x y a b Q s ax ay w
  unfold gEq at w
  split at w
  · cases ax; cases ay; exact .inl ⟨rfl, by rw [dec_V]; exact w.here s _ rfl⟩
  · cases ax; cases ay; exact .inl ⟨rfl, by rw [dec_VS]; exact w.here s _ rfl⟩
  · cases ax; cases ay; exact .inl ⟨rfl, by rw [dec_VB]; exact w.here s _ rfl⟩
  · exact .inr (v2_eqP s ax ay w)
theorem v2_ne : V2 X ca (fun x y H Q => rNe x y H Q ∨ rNeD X.K x y H Q) gNe := by
  intro G H W1 x y a b Q s ax ay w
  unfold gNe gEq rNot at w
  split at w
  · cases ax; cases ay; exact .inl ⟨rfl, by rw [dec_V]; exact w.here s _ rfl⟩
  · cases ax; cases ay; exact .inl ⟨rfl, by rw [dec_VS]; exact w.here s _ rfl⟩
  · cases ax; cases ay; exact .inl ⟨rfl, by rw [dec_VB]; exact w.here s _ rfl⟩
  · have w1 : Wish X.K ca (fun _ _ _ => True) G H (gEqP a b) W1 := Wish.bind w fun _ _ _ _ _ _ => trivial
    obtain ⟨p, q, e1, e2, z1, z2, e3⟩ := gEqP_some w1
    rw [e3] at w
    exact .inr ⟨p, q, dp_of s a x p ax e1, dp_of s b y q ay e2, z1, z2, w.here s _ rfl⟩
theorem at_non {a : D} {x : V} {G : Hp} (h : At X.K ca G a x) : decide (x = .non) = isNon a := by
  cases a with
  | non => cases h; rfl
  | bl _ => cases h; rfl
  | int _ => cases h; rfl
  | str _ => cases h; rfl
  | ty _ => cases h; rfl
  | cl _ => obtain ⟨_, _, rfl⟩ := h; rfl
  | scr _ => obtain ⟨_, rfl, _⟩ := h; rfl
  | lst _ => obtain ⟨_, _, rfl, _⟩ := h; rfl
  | tup _ => obtain ⟨_, _, rfl, _⟩ := h; rfl
  | tpz _ => obtain ⟨_, _, _, rfl, _⟩ := h; rfl
  | tp0 => obtain ⟨_, rfl, _⟩ := h; rfl
  | zK _ => obtain ⟨_, _, _, rfl, _⟩ := h; rfl
  | zT _ => obtain ⟨_, _, _, rfl, _⟩ := h; rfl
  | dK _ => obtain ⟨_, _, rfl, _⟩ := h; rfl
  | dT _ => obtain ⟨_, _, rfl, _⟩ := h; rfl
  | ins _ _ => obtain ⟨_, _, _, _, rfl, _⟩ := h; rfl
theorem v2_isN : V2 X ca (fun x y H Q => y = .non ∧ Q (.bl (decide (x = .non))) H) gIsN := by
  intro G H W1 x y a b Q s ax ay w
  cases b with
  | non => exact ⟨ay, by rw [at_non ax]; exact w.here s _ rfl⟩
  | _ => exact w.elim
theorem v2_notN : V2 X ca (fun x y H Q => y = .non ∧ Q (.bl (!decide (x = .non))) H) gNotN := by
  intro G H W1 x y a b Q s ax ay w
  cases b with
  | non => exact ⟨ay, by rw [at_non ax]; exact w.here s _ rfl⟩
  | _ => exact w.elim
theorem toV_at {a : D} {x : V} {G : Hp} (f : flatD a = true) (h : At X.K ca G a x) : x = toV a ∧ flatV x = true := by
  cases a with
  | non => cases h; exact ⟨rfl, rfl⟩
  | bl _ => cases h; exact ⟨rfl, rfl⟩
  | int _ => cases h; exact ⟨rfl, rfl⟩
  | str _ => cases h; exact ⟨rfl, rfl⟩
  | _ => cases f
theorem toV_all {G : Hp} : ∀ {ds : List D} {vs : List V}, ds.all flatD = true → AtL X.K ca G ds vs → vs = ds.map toV ∧ vs.all flatV = true
  | [], _, _, h => by cases h; exact ⟨rfl, rfl⟩
  | d :: ds, _, f, ⟨v, r, e, h, t⟩ => by
    rw [List.all_cons, Bool.and_eq_true] at f
    obtain ⟨e1, f1⟩ := toV_at f.1 h
    obtain ⟨e2, f2⟩ := toV_all f.2 t
    subst e
    exact ⟨by rw [e1, e2]; rfl, by rw [List.all_cons, f1, f2]; rfl⟩
theorem op_inA (hu : X.A.units + 65 < cLine) : OpR X (compareOp .In) (fun x y H Q => (∃ i j, x = .str i ∧ y = .str j ∧ Q (.bl (!(Builtin.Str.occurrences j i 0 j.length 1).isEmpty)) H) ∨ (rIn X.K false x y H Q ∨ rInD X.K x y H Q)) := op_in_str.or (op_in_seq.or (op_inD hu))
theorem op_ninA (hu : X.A.units + 65 < cLine) : OpR X (compareOp .NotIn) (fun x y H Q => (∃ i j, x = .str i ∧ y = .str j ∧ Q (.bl (!(!(Builtin.Str.occurrences j i 0 j.length 1).isEmpty))) H) ∨ (rIn X.K true x y H Q ∨ rNotInD X.K x y H Q)) := op_notin_str.or (op_notIn_seq.or (op_notInD hu))
theorem gInP_some {neg : Bool} {a : D} {ys : List D} {G H : Hp} {W1 : XK} {S : Hp → D → Hp → Prop} (h : Wish X.K ca S G H (gInP neg a ys) W1) : ∃ p qs, toP a = some p ∧ toPs ys = some qs ∧ SeqAt.shaped p = true ∧ SeqAt.shaped (.list qs) = true ∧
    gInP neg a ys = .ok (.bl (if neg then !(qs.any fun z => PyData.eqv z p) else qs.any fun z => PyData.eqv z p)) := by
  unfold gInP at h ⊢
  split at h
  · rename_i p q e1 e2
    split at h
    · rename_i z
      rw [Bool.and_eq_true] at z
      exact ⟨p, q, e1, e2, z.1, z.2, by simp only [e1, e2, z.1, z.2]; rfl⟩
    · exact h.elim
  · exact h.elim
theorem v2_in : V2 X ca (fun x y H Q => (∃ i j, x = .str i ∧ y = .str j ∧ Q (.bl (!(Builtin.Str.occurrences j i 0 j.length 1).isEmpty)) H) ∨ (rIn X.K false x y H Q ∨ rInD X.K x y H Q)) (gInS false) := by
  intro G H W1 x y a b Q s ax ay w
  unfold gInS at w
  split at w
  · exact .inl ⟨_, _, ax, ay, w.here s _ rfl⟩
  · obtain ⟨p, vs, rfl, h1, h2⟩ := ay
    split at w
    · rename_i z
      obtain ⟨e1, f1⟩ := toV_at z.1 ax
      obtain ⟨e2, f2⟩ := toV_all z.2 h2
      refine .inr (.inl ⟨p, vs, rfl, .inl (.of (s _ _ h1)), f1, f2, ?_⟩)
      rw [e1, e2]
      exact w.here s _ rfl
    · obtain ⟨q, qs, e1, e2, z1, z2, e3⟩ := gInP_some w
      rw [e3] at w
      exact .inr (.inr ⟨q, qs, dp_of s a x q ax e1, .lst (.of (s _ _ h1)) (dps_of s _ vs qs h2 e2), z1, z2, w.here s _ rfl⟩)
  · obtain ⟨p, vs, rfl, h1, h2⟩ := ay
    split at w
    · rename_i z
      obtain ⟨e1, f1⟩ := toV_at z.1 ax
      obtain ⟨e2, f2⟩ := toV_all z.2 h2
      refine .inr (.inl ⟨p, vs, rfl, .inr (tq s h1), f1, f2, ?_⟩)
      rw [e1, e2]
      exact w.here s _ rfl
    · exact w.elim
  · obtain ⟨p, o, vs, rfl, oo, h1, h2⟩ := ay
    split at w
    · rename_i z
      obtain ⟨e1, f1⟩ := toV_at z.1 ax
      obtain ⟨e2, f2⟩ := toV_all z.2 h2
      refine .inr (.inl ⟨p, vs, rfl, .inr (.inl (.inr ⟨o, s _ _ h1⟩)), f1, f2, ?_⟩)
      rw [e1, e2]
      exact w.here s _ rfl
    · exact w.elim
  · exact w.elim
theorem v2_nin : V2 X ca (fun x y H Q => (∃ i j, x = .str i ∧ y = .str j ∧ Q (.bl (!(!(Builtin.Str.occurrences j i 0 j.length 1).isEmpty))) H) ∨ (rIn X.K true x y H Q ∨ rNotInD X.K x y H Q)) (gInS true) := by
  intro G H W1 x y a b Q s ax ay w
  unfold gInS at w
  split at w
  · exact .inl ⟨_, _, ax, ay, w.here s _ rfl⟩
  · obtain ⟨p, vs, rfl, h1, h2⟩ := ay
    split at w
    · rename_i z
      obtain ⟨e1, f1⟩ := toV_at z.1 ax
      obtain ⟨e2, f2⟩ := toV_all z.2 h2
      refine .inr (.inl ⟨p, vs, rfl, .inl (.of (s _ _ h1)), f1, f2, ?_⟩)
      rw [e1, e2]
      exact w.here s _ rfl
    · obtain ⟨q, qs, e1, e2, z1, z2, e3⟩ := gInP_some w
      rw [e3] at w
      exact .inr (.inr ⟨q, qs, dp_of s a x q ax e1, .lst (.of (s _ _ h1)) (dps_of s _ vs qs h2 e2), z1, z2, w.here s _ rfl⟩)
  · obtain ⟨p, vs, rfl, h1, h2⟩ := ay
    split at w
    · rename_i z
      obtain ⟨e1, f1⟩ := toV_at z.1 ax
      obtain ⟨e2, f2⟩ := toV_all z.2 h2
      refine .inr (.inl ⟨p, vs, rfl, .inr (tq s h1), f1, f2, ?_⟩)
      rw [e1, e2]
      exact w.here s _ rfl
    · exact w.elim
  · obtain ⟨p, o, vs, rfl, oo, h1, h2⟩ := ay
    split at w
    · rename_i z
      obtain ⟨e1, f1⟩ := toV_at z.1 ax
      obtain ⟨e2, f2⟩ := toV_all z.2 h2
      refine .inr (.inl ⟨p, vs, rfl, .inr (.inl (.inr ⟨o, s _ _ h1⟩)), f1, f2, ?_⟩)
      rw [e1, e2]
      exact w.here s _ rfl
    · exact w.elim
  · exact w.elim
end
end Tk
namespace Tk
open PySem PySem.Spec L2 PyProof.Rows
def optR {α : Type} (o : Option α) : R α := match o with
  | some a => .ok a
  | none => .bad
@[simp] theorem optR_some {α : Type} (a : α) : optR (some a) = .ok a := (rfl)
def gIx : D → D → R D
  | .lst xs, .int i => optR (atI xs i)
  | .tup xs, .int i => optR (atI xs i)
  | .tpz xs, .int i => optR (atI xs i)
  | .str z, .int i => if z.length ≤ sizeLine then (optR (atI z.cps.toList i)).bind fun c => .ok (.str ⟨#[c]⟩) else .bad
  | .scr ns, .int i => (optR (atI ns i)).bind fun n => .ok (.int n)
  | _, _ => .bad
def cutD {α : Type} (xs : List α) (lo hi : Option Int) : List α := (xs.drop (HT.sIx xs.length 0 lo)).take (HT.sIx xs.length xs.length hi - HT.sIx xs.length 0 lo)
def gSl : D → Option Int → Option Int → R D
  | .lst xs, lo, hi => .ok (.lst (cutD xs lo hi))
  | .scr ns, lo, hi => .ok (.lst ((cutD ns lo hi).map .int))
  | .tup xs, lo, hi => .ok (.tup (cutD xs lo hi))
  | .tpz xs, lo, hi => if HT.sIx xs.length 0 lo = 0 ∧ HT.sIx xs.length xs.length hi = xs.length then .ok (.tpz xs) else .ok (.tup (cutD xs lo hi))
  | .str z, lo, hi => if z.length ≤ sizeLine then .ok (.str (cutS z lo hi)) else .bad
  | _, _, _ => .bad
def oN : Ev → R (Option Int) := fun _ => .ok none
def oS (f : Ev → R D) : Ev → R (Option Int) := fun ρ => (f ρ).bind fun d => match d with
  | .int i => .ok (some i)
  | _ => .bad
def eSl (fa : Ev → R D) (fl fh : Ev → R (Option Int)) : Ev → R D := fun ρ => (fa ρ).bind fun a => (fl ρ).bind fun l => (fh ρ).bind fun h => gSl a l h
structure FO (X : Cx) (ca : Cn) (W : WX) (e : Option Expr) (f : Ev → R (Option Int)) : Prop where
  ex : ∃ t, PO X e t ∧ ∀ B G H σ ρ (Q : Option Int → Hp → Prop), Same G H → Same B H → Rel X.K ca B G H σ ρ → Wish X.K ca (fun _ o H' => Q o H') G H (f ρ) (WE W σ) → t σ H Q
section
variable {X : Cx} {ca : Cn} {W : WX} {a b e : Expr} {lo hi : Option Expr} {fa fb : Ev → R D} {fl fh : Ev → R (Option Int)} {pos p2 : Pos}
theorem AtL.atI {K : PySem.W.Frag} {G : Hp} {ds : List D} {vs : List V} {i : Int} {d : D} (h : AtL K ca G ds vs) (e : atI ds i = some d) : ∃ v, L2.atI vs i = some v ∧ At K ca G d v := by
  unfold L2.atI at e ⊢
  rw [← h.length]
  cases z : ixN ds.length i with
  | none => rw [z] at e; cases e
  | some j =>
    rw [z] at e
    obtain ⟨v, h1, h2⟩ := h.get (i := j) (d := d) e
    exact ⟨v, h1, h2⟩
theorem atI_map {α β : Type} {f : α → β} {xs : List α} {i : Int} {x : α} (e : atI xs i = some x) : atI (xs.map f) i = some (f x) := by
  unfold L2.atI at e ⊢
  rw [List.length_map]
  cases z : ixN xs.length i with
  | none => rw [z] at e; cases e
  | some j =>
    rw [z] at e
    have e' : xs[j]? = some x := e
    show (xs.map f)[j]? = some (f x)
    rw [List.getElem?_map, e']
    rfl
theorem wish_opt {α β : Type} {K : PySem.W.Frag} {S : Hp → β → Hp → Prop} {G H : Hp} {o : Option α} {k : α → R β} {W1 : XK} (h : Wish K ca S G H ((optR o).bind k) W1) : ∃ x, o = some x ∧ Wish K ca S G H (k x) W1 := by
  cases o with
  | none => exact h.elim
  | some x => exact ⟨x, rfl, h⟩
theorem wish_opt' {β : Type} {K : PySem.W.Frag} {S : Hp → β → Hp → Prop} {G H : Hp} {o : Option β} {W1 : XK} (h : Wish K ca S G H (optR o) W1) : ∃ x, o = some x ∧ Wish K ca S G H (.ok x) W1 := by
  cases o with
  | none => exact h.elim
  | some x => exact ⟨x, rfl, h⟩
theorem v2_ix : V2 X ca (rIx X.K) gIx := by
  intro G H W1 x y a b Q s ax ay w
  unfold gIx at w
  split at w
  · obtain ⟨d, e, w⟩ := wish_opt' w
    obtain ⟨p, vs, rfl, h1, h2⟩ := ax
    obtain ⟨v, e2, a2⟩ := h2.atI e
    exact .inl ⟨p, vs, _, v, rfl, ay, .of (s _ _ h1), e2, w.here s _ a2⟩
  · obtain ⟨d, e, w⟩ := wish_opt' w
    obtain ⟨p, vs, rfl, h1, h2⟩ := ax
    obtain ⟨v, e2, a2⟩ := h2.atI e
    exact .inr (.inl ⟨p, vs, _, v, rfl, ay, tq s h1, e2, w.here s _ a2⟩)
  · obtain ⟨d, e, w⟩ := wish_opt' w
    obtain ⟨p, o, vs, rfl, oo, h1, h2⟩ := ax
    obtain ⟨v, e2, a2⟩ := h2.atI e
    exact .inr (.inl ⟨p, vs, _, v, rfl, ay, .inl (.inr ⟨o, s _ _ h1⟩), e2, w.here s _ a2⟩)
  · split at w
    · rename_i z
      obtain ⟨c, e, w⟩ := wish_opt w
      exact .inr (.inr ⟨_, _, c, ax, ay, z, e, w.here s _ rfl⟩)
    · exact w.elim
  · obtain ⟨n, e, w⟩ := wish_opt w
    obtain ⟨p, rfl, h1⟩ := ax
    exact .inl ⟨p, _, _, _, rfl, ay, SqL_mono s h1, atI_map e, w.here s _ rfl⟩
  · exact w.elim
theorem fe_ix (hs : PlainIx b) (ha : FE X ca W a fa) (hb : FE X ca W b fb) : FE X ca W (.Subscript a b pos) (e2 gIx fa fb) := by
  obtain ⟨ta, pa, ka⟩ := ha.ex
  obtain ⟨tb, pb, kb⟩ := hb.ex
  refine ⟨_, pe_ix ix_seq pa pb hs, fun B G H σ ρ Q s b r h => ?_⟩
  refine ka B G H σ ρ _ s b r (Wish.bind h fun d G1 H1 _ x1 w1 v a1 => ?_)
  refine kb B G1 H1 σ ρ _ x1.gh (b.trans x1.hh) (r.ext x1) (Wish.bind w1 fun d2 G2 H2 _ x2 w2 v2 a2 => ?_)
  exact v2_ix G2 H2 _ v v2 d d2 Q x2.gh (At.mono x2.gg a1) a2 w2
theorem fo_n : FO X ca W none oN := ⟨_, po_none, fun B G H σ ρ Q s b r h => h.here s⟩
theorem fo_s (h : FE X ca W e fa) : FO X ca W (some e) (oS fa) := by
  obtain ⟨t, p, k⟩ := h.ex
  refine ⟨_, po_some p, fun B G H σ ρ Q s b r h => ?_⟩
  refine k B G H σ ρ _ s b r (Wish.bind h fun d G1 H1 _ x1 w1 v a1 => ?_)
  cases d with
  | int i => exact ⟨i, a1, w1.here x1.gh⟩
  | _ => exact w1.elim
theorem AtL.cut {K : PySem.W.Frag} {G : Hp} {ds : List D} {vs : List V} (lo hi : Option Int) (h : AtL K ca G ds vs) : AtL K ca G (cutD ds lo hi) (cutV vs lo hi) := by
  unfold cutD cutV
  rw [← h.length]
  exact AtL.take _ (AtL.drop _ h)
theorem sl_all : SlR X (fun x lo hi H Q => rSlL X.K x lo hi H Q ∨ (rSlA X.K x lo hi H Q ∨ rSlS x lo hi H Q)) := sl_list.or (sl_tupA.or sl_str)
theorem fe_sl (ha : FE X ca W a fa) (hl : FO X ca W lo fl) (hh : FO X ca W hi fh) : FE X ca W (.Subscript a (.Slice lo hi none p2) pos) (eSl fa fl fh) := by
  obtain ⟨ta, pa, ka⟩ := ha.ex
  obtain ⟨tl, pl, kl⟩ := hl.ex
  obtain ⟨th, ph, kh⟩ := hh.ex
  refine ⟨_, pe_slice sl_all pa pl ph, fun B G H σ ρ Q s b r h => ?_⟩
  refine ka B G H σ ρ _ s b r (Wish.bind h fun d G1 H1 _ x1 w1 v a1 => ?_)
  refine kl B G1 H1 σ ρ _ x1.gh (b.trans x1.hh) (r.ext x1) (Wish.bind w1 fun l G2 H2 _ x2 w2 => ?_)
  refine kh B G2 H2 σ ρ _ x2.gh ((b.trans x1.hh).trans x2.hh) ((r.ext x1).ext x2) (Wish.bind w2 fun u G3 H3 _ x3 w3 => ?_)
  have a3 := At.mono (x2.gg.trans x3.gg) a1
  cases d with
  | lst xs =>
    obtain ⟨p, vs, rfl, h1, h2⟩ := a3
    exact .inl ⟨p, vs, rfl, .of (x3.gh _ _ h1), fun q n => new_lst x3.gh w3 (h2.cut l u) n⟩
  | scr ns =>
    obtain ⟨p, rfl, h1⟩ := a3
    refine .inl ⟨p, _, rfl, SqL_mono x3.gh h1, fun q n => ?_⟩
    have e : cutV (ns.map V.int) l u = (cutD ns l u).map V.int := by
      unfold cutV cutD
      rw [List.length_map, List.map_take, List.map_drop]
    rw [e]
    exact new_lst x3.gh w3 (AtL.of_ints _) n
  | tup xs =>
    obtain ⟨p, vs, rfl, h1, h2⟩ := a3
    refine .inr (.inl ⟨p, vs, rfl, tq x3.gh h1, fun e => ?_, fun e q n => new_tup x3.gh w3 (h2.cut l u) n⟩)
    have e3 : cutD xs l u = xs := by
      unfold cutD
      rw [h2.length, e.1, e.2, List.drop_zero, Nat.sub_zero, ← h2.length, List.take_length]
    have w4 : Wish X.K ca (SV X.K ca Q) G3 H3 (.ok (.tup (cutD xs l u))) (WE W σ) := w3
    rw [e3] at w4
    exact w4.here x3.gh _ ⟨p, vs, rfl, h1, h2⟩
  | tpz xs =>
    obtain ⟨p, o, vs, rfl, oo, h1, h2⟩ := a3
    have w4 : Wish X.K ca (SV X.K ca Q) G3 H3 (if HT.sIx xs.length 0 l = 0 ∧ HT.sIx xs.length xs.length u = xs.length then .ok (.tpz xs) else .ok (.tup (cutD xs l u))) (WE W σ) := w3
    refine .inr (.inl ⟨p, vs, rfl, .inl (.inr ⟨o, x3.gh _ _ h1⟩), fun e => ?_, fun e q n => ?_⟩)
    · rw [if_pos (by rw [h2.length]; exact e)] at w4
      exact w4.here x3.gh _ ⟨p, o, vs, rfl, oo, h1, h2⟩
    · rw [if_neg (by rw [h2.length]; exact e)] at w4
      exact new_tup x3.gh w4 (h2.cut l u) n
  | str z =>
    have w4 : Wish X.K ca (SV X.K ca Q) G3 H3 (if z.length ≤ sizeLine then .ok (.str (cutS z l u)) else .bad) (WE W σ) := w3
    split at w4
    · rename_i hz
      exact .inr (.inr ⟨z, a3, hz, w4.here x3.gh _ rfl⟩)
    · exact w4.elim
  | _ => exact w3.elim
def gFld (cs : List Nat) (f : Nat) : D → R D
  | .ins c fs => if c ∈ cs ∧ (fs.map (·.1)).all (fun k => k ≤ 1000) = true then optR (fs.lookup f) else .bad
  | _ => .bad
theorem fe_fld {cs : List Nat} {f : Nat} {nm : Str} (hf : ca.n f = nm) (hi : ∀ k, ca.n k = ca.n f → k = f) (hc : ∀ c ∈ cs, ∀ C, ca.a c = some C → Cls X.K C ∧ NoAttr X.K C nm) (h : FE X ca W e fa) (hb : attributeBase e nm X.env (eval e X.env) = eval e X.env := by rfl) :
    FE X ca W (.Attribute e nm pos) (e1 (gFld cs f) fa) := by
  obtain ⟨t, p, k⟩ := h.ex
  refine ⟨_, pe_fld p hb, fun B G H σ ρ Q s b r h => ?_⟩
  refine k B G H σ ρ _ s b r (Wish.bind h fun d G1 H1 _ x1 w1 v a1 => ?_)
  cases d with
  | ins c fs =>
    obtain ⟨a', C, dx, vs, rfl, h1, h2, h3⟩ := a1
    have w2 : Wish X.K ca (SV X.K ca Q) G1 H1 (if c ∈ cs ∧ (fs.map (·.1)).all (fun k => k ≤ 1000) = true then optR (fs.lookup f) else .bad) (WE W σ) := w1
    split at w2
    · rename_i hm
      obtain ⟨z, e, w3⟩ := wish_opt' w2
      obtain ⟨v, l1, l2⟩ := h3.lookup (fun p _ q => hi _ q) e
      rw [hf] at l1
      exact ⟨a', C, dx, vs, v, rfl, x1.gh _ _ h2, (hc c hm.1 C h1).1, (hc c hm.1 C h1).2, l1, w3.here x1.gh _ l2⟩
    · exact w2.elim
  | _ => exact w1.elim
end
def gLen : List D → R D
  | [.str z] => if z.length ≤ sizeLine then .ok (.int z.length) else .bad
  | [.lst xs] => .ok (.int xs.length)
  | [.tup xs] => .ok (.int xs.length)
  | [.tpz xs] => .ok (.int xs.length)
  | [.scr ns] => .ok (.int ns.length)
  | _ => .bad
def gAbs : List D → R D
  | [.int i] => .ok (.int (if i < 0 then -i else i))
  | _ => .bad
def gInt : List D → R D
  | [.int i] => .ok (.int i)
  | [.bl k] => .ok (.int (if k then 1 else 0))
  | _ => .bad
def gList : List D → R D
  | [.lst xs] => .ok (.lst xs)
  | [.tup xs] => .ok (.lst xs)
  | [.tpz xs] => .ok (.lst xs)
  | [.scr ns] => .ok (.lst (ns.map .int))
  | _ => .bad
def gTuple : List D → R D
  | [.lst xs] => .ok (.tup xs)
  | [.tup xs] => .ok (.tup xs)
  | [.tpz xs] => .ok (.tpz xs)
  | _ => .bad
def intsOf : List D → Option (List Int)
  | [] => some []
  | .int i :: r => (intsOf r).map (i :: ·)
  | _ :: _ => none
def bolsOf : List D → Option (List Bool)
  | [] => some []
  | .bl i :: r => (bolsOf r).map (i :: ·)
  | _ :: _ => none
def gSum : List D → R D
  | [.lst xs] => (optR (intsOf xs)).bind fun ns => .ok (.int ns.sum)
  | _ => .bad
def gAll : List D → R D
  | [.lst xs] => (optR (bolsOf xs)).bind fun ns => .ok (.bl (ns.all id))
  | _ => .bad
def maxI : List Int → Option Int
  | [] => none
  | n :: ns => some (ns.foldl max n)
def minI : List Int → Option Int
  | [] => none
  | n :: ns => some (ns.foldl min n)
def gMax : List D → R D
  | [.lst xs] => (optR ((intsOf xs).bind maxI)).bind fun n => .ok (.int n)
  | [.int i, .int j] => .ok (.int (if j > i then j else i))
  | _ => .bad
def gMin : List D → R D
  | [.lst xs] => (optR ((intsOf xs).bind minI)).bind fun n => .ok (.int n)
  | [.int i, .int j] => .ok (.int (if j < i then j else i))
  | _ => .bad
section
variable {X : Cx} {ca : Cn}
theorem atl1 {K : PySem.W.Frag} {G : Hp} {d : D} {vs : List V} (h : AtL K ca G [d] vs) : ∃ v, vs = [v] ∧ At K ca G d v := by
  obtain ⟨v, r, e, h, t⟩ := h
  cases t
  exact ⟨v, e, h⟩
theorem atl2 {K : PySem.W.Frag} {G : Hp} {d d' : D} {vs : List V} (h : AtL K ca G [d, d'] vs) : ∃ v v', vs = [v, v'] ∧ At K ca G d v ∧ At K ca G d' v' := by
  obtain ⟨v, r, e, h, t⟩ := h
  obtain ⟨v', e', h'⟩ := atl1 t
  subst e'
  exact ⟨v, v', e, h, h'⟩
theorem intsOf_at {K : PySem.W.Frag} {G : Hp} : ∀ {ds : List D} {ns : List Int} {vs : List V}, intsOf ds = some ns → AtL K ca G ds vs → vs = ns.map V.int
  | [], _, _, e, h => by cases e; exact h
  | .int i :: r, ns, vs, e, ⟨v, r', e', h, t⟩ => by
    obtain ⟨ms, e1, e2⟩ := Option.map_eq_some_iff.mp (show (intsOf r).map (i :: ·) = some ns from e)
    subst e2 e'
    cases h
    rw [intsOf_at e1 t]
    rfl
  | .non :: _, _, _, e, _ => by cases e
  | .bl _ :: _, _, _, e, _ => by cases e
  | .str _ :: _, _, _, e, _ => by cases e
  | .ty _ :: _, _, _, e, _ => by cases e
  | .cl _ :: _, _, _, e, _ => by cases e
  | .scr _ :: _, _, _, e, _ => by cases e
  | .lst _ :: _, _, _, e, _ => by cases e
  | .tup _ :: _, _, _, e, _ => by cases e
  | .dK _ :: _, _, _, e, _ => by cases e
  | .dT _ :: _, _, _, e, _ => by cases e
  | .ins _ _ :: _, _, _, e, _ => by cases e
theorem bolsOf_at {K : PySem.W.Frag} {G : Hp} : ∀ {ds : List D} {ns : List Bool} {vs : List V}, bolsOf ds = some ns → AtL K ca G ds vs → vs = ns.map V.bl
  | [], _, _, e, h => by cases e; exact h
  | .bl i :: r, ns, vs, e, ⟨v, r', e', h, t⟩ => by
    obtain ⟨ms, e1, e2⟩ := Option.map_eq_some_iff.mp (show (bolsOf r).map (i :: ·) = some ns from e)
    subst e2 e'
    cases h
    rw [bolsOf_at e1 t]
    rfl
  | .non :: _, _, _, e, _ => by cases e
  | .int _ :: _, _, _, e, _ => by cases e
  | .str _ :: _, _, _, e, _ => by cases e
  | .ty _ :: _, _, _, e, _ => by cases e
  | .cl _ :: _, _, _, e, _ => by cases e
  | .scr _ :: _, _, _, e, _ => by cases e
  | .lst _ :: _, _, _, e, _ => by cases e
  | .tup _ :: _, _, _, e, _ => by cases e
  | .dK _ :: _, _, _, e, _ => by cases e
  | .dT _ :: _, _, _, e, _ => by cases e
  | .ins _ _ :: _, _, _, e, _ => by cases e
theorem vn_len : VN X ca (fun xs H Q => ∃ x n, xs = [x] ∧ LenV X.K x H n ∧ Q (.int n) H) gLen := by
  intro G H W1 xs ds Q s a w
  unfold gLen at w
  split at w
  · obtain ⟨v, rfl, a1⟩ := atl1 a
    cases a1
    split at w
    · rename_i z; exact ⟨.str _, _, rfl, ⟨z, rfl⟩, w.here s _ rfl⟩
    · exact w.elim
  · obtain ⟨v, rfl, p, vs, rfl, h1, h2⟩ := atl1 a
    exact ⟨.ref p, _, rfl, .inl ⟨vs, .of (s _ _ h1), h2.length⟩, w.here s _ rfl⟩
  · obtain ⟨v, rfl, p, vs, rfl, h1, h2⟩ := atl1 a
    exact ⟨.ref p, _, rfl, .inr ⟨vs, tq s h1, h2.length⟩, w.here s _ rfl⟩
  · obtain ⟨v, rfl, p, o, vs, rfl, oo, h1, h2⟩ := atl1 a
    exact ⟨.ref p, _, rfl, .inr ⟨vs, .inl (.inr ⟨o, s _ _ h1⟩), h2.length⟩, w.here s _ rfl⟩
  · obtain ⟨v, rfl, p, rfl, h1⟩ := atl1 a
    exact ⟨.ref p, _, rfl, .inl ⟨_, SqL_mono s h1, (List.length_map ..).symm⟩, w.here s _ rfl⟩
  · exact w.elim
theorem vn_abs : VN X ca (fun xs H Q => ∃ i, xs = [.int i] ∧ Q (.int (if i < 0 then -i else i)) H) gAbs := by
  intro G H W1 xs ds Q s a w
  unfold gAbs at w
  split at w
  · obtain ⟨v, rfl, a1⟩ := atl1 a
    cases a1
    exact ⟨_, rfl, w.here s _ rfl⟩
  · exact w.elim
theorem vn_int : VN X ca (fun xs H Q => (∃ i, xs = [.int i] ∧ Q (.int i) H) ∨ ∃ k, xs = [.bl k] ∧ Q (.int (if k then 1 else 0)) H) gInt := by
  intro G H W1 xs ds Q s a w
  unfold gInt at w
  split at w
  · obtain ⟨v, rfl, a1⟩ := atl1 a
    cases a1
    exact .inl ⟨_, rfl, w.here s _ rfl⟩
  · obtain ⟨v, rfl, a1⟩ := atl1 a
    cases a1
    exact .inr ⟨_, rfl, w.here s _ rfl⟩
  · exact w.elim
theorem vn_list : VN X ca (fun xs H Q => ∃ p ys, xs = [.ref p] ∧ (SqL X.K H p ys ∨ SqT X.K H p ys) ∧ ∀ l, H l = none → Q (.ref l) (upd H l (.lst ys))) gList := by
  intro G H W1 xs ds Q s a w
  unfold gList at w
  split at w
  · obtain ⟨v, rfl, p, vs, rfl, h1, h2⟩ := atl1 a
    exact ⟨p, vs, rfl, .inl (.of (s _ _ h1)), fun l n => new_lst s w h2 n⟩
  · obtain ⟨v, rfl, p, vs, rfl, h1, h2⟩ := atl1 a
    exact ⟨p, vs, rfl, .inr (tq s h1), fun l n => new_lst s w h2 n⟩
  · obtain ⟨v, rfl, p, o, vs, rfl, oo, h1, h2⟩ := atl1 a
    exact ⟨p, vs, rfl, .inr (.inl (.inr ⟨o, s _ _ h1⟩)), fun l n => new_lst s w h2 n⟩
  · obtain ⟨v, rfl, p, rfl, h1⟩ := atl1 a
    exact ⟨p, _, rfl, .inl (SqL_mono s h1), fun l n => new_lst s w (AtL.of_ints _) n⟩
  · exact w.elim
theorem vn_tuple : VN X ca (fun xs H Q => ∃ p ys, xs = [.ref p] ∧ ((SqL X.K H p ys ∧ ∀ l, H l = none → Q (.ref l) (upd H l (.tup ys))) ∨ (SqT X.K H p ys ∧ Q (.ref p) H))) gTuple := by
  intro G H W1 xs ds Q s a w
  unfold gTuple at w
  split at w
  · obtain ⟨v, rfl, p, vs, rfl, h1, h2⟩ := atl1 a
    exact ⟨p, vs, rfl, .inl ⟨.of (s _ _ h1), fun l n => new_tup s w h2 n⟩⟩
  · obtain ⟨v, rfl, p, vs, rfl, h1, h2⟩ := atl1 a
    exact ⟨p, vs, rfl, .inr ⟨tq s h1, w.here s _ ⟨p, vs, rfl, h1, h2⟩⟩⟩
  · obtain ⟨v, rfl, p, o, vs, rfl, oo, h1, h2⟩ := atl1 a
    exact ⟨p, vs, rfl, .inr ⟨.inl (.inr ⟨o, s _ _ h1⟩), w.here s _ ⟨p, o, vs, rfl, oo, h1, h2⟩⟩⟩
  · exact w.elim
theorem vn_sum : VN X ca (rSum X.K) gSum := by
  intro G H W1 xs ds Q s a w
  unfold gSum at w
  split at w
  · obtain ⟨ns, e, w⟩ := wish_opt w
    obtain ⟨v, rfl, p, vs, rfl, h1, h2⟩ := atl1 a
    rw [intsOf_at e h2] at h1
    exact ⟨p, ns, rfl, .of (s _ _ h1), w.here s _ rfl⟩
  · exact w.elim
theorem vn_all : VN X ca (rAll X.K) gAll := by
  intro G H W1 xs ds Q s a w
  unfold gAll at w
  split at w
  · obtain ⟨ns, e, w⟩ := wish_opt w
    obtain ⟨v, rfl, p, vs, rfl, h1, h2⟩ := atl1 a
    rw [bolsOf_at e h2] at h1
    exact ⟨p, ns, rfl, .of (s _ _ h1), w.here s _ rfl⟩
  · exact w.elim
end
end Tk
namespace Tk
open PySem PySem.Spec L2 PyProof.Rows
def signs (z : Str) : List D := z.cps.toList.map fun c => .str ⟨#[c]⟩
def gIt : D → R (List D)
  | .lst xs => .ok xs
  | .tup xs => .ok xs
  | .tpz xs => .ok xs
  | .tp0 => .ok []
  | .str z => .ok (signs z)
  | .scr ns => .ok (ns.map .int)
  | _ => .bad
def iSq (fa : Ev → R D) : Ev → R (List D) := fun ρ => (fa ρ).bind gIt
def small62 (i : Int) : Prop := -(2 ^ 62) ≤ i ∧ i < 2 ^ 62
instance (i : Int) : Decidable (small62 i) := by unfold small62; infer_instance
def rgD (lo : Int) (n : Nat) : List D := (List.range n).map fun (k : Nat) => .int (lo + (k : Int))
def iR1 (fa : Ev → R D) : Ev → R (List D) := fun ρ => (fa ρ).bind fun d => match d with
  | .int j => if small62 j then .ok (rgD 0 j.toNat) else .bad
  | _ => .bad
def iR2 (fa fb : Ev → R D) : Ev → R (List D) := fun ρ => (fa ρ).bind fun a => (fb ρ).bind fun b => match a, b with
  | .int i, .int j => if small62 i ∧ small62 j then .ok (rgD i (j - i).toNat) else .bad
  | _, _ => .bad
def enumD (k : Nat) : List D → List D
  | [] => []
  | d :: r => .tup [.int (k : Int), d] :: enumD (k + 1) r
def zipD : List D → List D → List D
  | d :: r, e :: s => .tup [d, e] :: zipD r s
  | _, _ => []
section
variable {K : PySem.W.Frag} {ca : Cn} {G0 : Hp}
theorem jok_list {a : Addr} {ds : List D} {vs : List V} (h : SqL K G0 a vs) (r : AtL K ca G0 ds vs) : JOk K ca G0 (Itl K a) ds := by
  intro G H s1 s2 i
  have q : SqL K H a vs := SqL_mono s2 (SqL_mono s1 h)
  refine ⟨fun d e => ?_, fun l => ⟨vs, q, by rw [← r.length]; omega⟩⟩
  obtain ⟨v, e1, a1⟩ := r.get e
  refine ⟨⟨vs, v, q, e1⟩, fun x H' y => ⟨G, by rw [y.1]; exact .refl s2, ?_⟩⟩
  have := y.2 vs q
  rw [e1] at this
  cases this
  exact At.mono s1 a1
theorem jok_tup {a : Addr} {ds : List D} {vs : List V} (h : SqT K G0 a vs) (r : AtL K ca G0 ds vs) : JOk K ca G0 (Itt K a) ds := by
  intro G H s1 s2 i
  have q : SqT K H a vs := SqT_mono s2 (SqT_mono s1 h)
  refine ⟨fun d e => ?_, fun l => ⟨vs, q, by rw [← r.length]; omega⟩⟩
  obtain ⟨v, e1, a1⟩ := r.get e
  refine ⟨⟨vs, v, q, e1⟩, fun x H' y => ⟨G, by rw [y.1]; exact .refl s2, ?_⟩⟩
  have := y.2 vs q
  rw [e1] at this
  cases this
  exact At.mono s1 a1
theorem jok_str {z : Str} : JOk K ca G0 (Its z) (signs z) := by
  intro G H s1 s2 i
  have hl : (signs z).length = z.cps.size := by unfold signs; rw [List.length_map, Array.length_toList]
  refine ⟨fun d e => ?_, fun l => Nat.le_of_eq (hl.symm.trans l)⟩
  have hi : i < z.cps.size := by rw [← hl]; exact (List.getElem?_eq_some_iff.mp e).1
  refine ⟨hi, fun x H' y => ⟨G, by rw [y.1]; exact .refl s2, ?_⟩⟩
  obtain ⟨c, e1, e2⟩ := y.2
  unfold signs at e
  rw [List.getElem?_map, Array.getElem?_toList, e1] at e
  cases e
  exact e2
theorem jok_rg {lo : Int} {n : Nat} : JOk K ca G0 (Itr lo n) (rgD lo n) := by
  intro G H s1 s2 i
  have hl : (rgD lo n).length = n := by unfold rgD; rw [List.length_map, List.length_range]
  refine ⟨fun d e => ?_, fun l => Nat.le_of_eq (hl.symm.trans l)⟩
  have hi : i < n := by rw [← hl]; exact (List.getElem?_eq_some_iff.mp e).1
  refine ⟨hi, fun x H' y => ⟨G, by rw [y.1]; exact .refl s2, ?_⟩⟩
  unfold rgD at e
  rw [List.getElem?_map, List.getElem?_range hi] at e
  cases e
  exact y.2
theorem enumD_get : ∀ (ds : List D) (k i : Nat), (enumD k ds)[i]? = ds[i]?.map fun d => .tup [.int ((k + i : Nat) : Int), d]
  | [], k, i => by simp [enumD]
  | d :: r, k, 0 => by simp [enumD]
  | d :: r, k, i + 1 => by
    show (enumD (k + 1) r)[i]? = r[i]?.map _
    rw [enumD_get r (k + 1) i]
    rw [show k + 1 + i = k + (i + 1) by omega]
theorem enumD_len : ∀ (ds : List D) (k : Nat), (enumD k ds).length = ds.length
  | [], k => rfl
  | d :: r, k => congrArg Nat.succ (enumD_len r (k + 1))
theorem pair_at {G H : Hp} {T : Addr} {x y : V} {d e : D} (s : Same G H) (n : H T = none) (a : At K ca G d x) (b : At K ca G e y) : ∃ G', Ext G H G' (upd H T (.tup [x, y])) ∧ At K ca G' (.tup [d, e]) (.ref T) := by
  refine ⟨upd G T (.tup [x, y]), Ext.new s n, T, [x, y], rfl, upd_same, ?_⟩
  have m := same_upd (o := .tup [x, y]) (same_none s n)
  exact ⟨x, [y], rfl, At.mono m a, y, [], rfl, At.mono m b, rfl⟩
end
theorem pi_or {X : Cx} {tg it : Expr} {w1 w2 : TI} (h1 : PI X tg it w1) (h2 : PI X tg it w2) : PI X tg it (fun σ H R => w1 σ H R ∨ w2 σ H R) :=
  ⟨fun pins s σ H R I h => h.elim (h1.run pins s σ H R I) (h2.run pins s σ H R I)⟩
theorem pe_or2 {X : Cx} {e : Expr} {w1 w2 : TE} (h1 : PE X e w1) (h2 : PE X e w2) : PE X e (fun σ H R => w1 σ H R ∨ w2 σ H R) :=
  ⟨fun pins s σ H R I h => h.elim (h1.run pins s σ H R I) (h2.run pins s σ H R I)⟩
section
variable {X : Cx} {ca : Cn} {W : WX} {tg e e' : Expr} {es : List Expr} {fa fb : Ev → R D} {fl : Ev → R (List D)} {p pos : Pos}
theorem fi_sq (h : FE X ca W e fa) : FI X ca W tg e (iSq fa) := by
  obtain ⟨t, p, k⟩ := h.ex
  refine ⟨_, pi_or (pi_or (pi_list p) (pi_tup p)) (pi_str p), fun B G H σ ρ Q s b r h => ?_⟩
  unfold iSq at h
  -- which of the three is known ahead: the mirror's value
  cases z : fa ρ with
  | bad => rw [z] at h; exact h.elim
  | exc x =>
    refine .inl (.inl (k B G H σ ρ _ s b r ?_))
    rw [z] at h ⊢
    exact h
  | ok d =>
    have hw : ∀ ds, gIt d = .ok ds → ∀ Q1 : VK, (∀ v G1 H1, Ext G H G1 H1 → Wish X.K ca (fun G' ds H' => ∀ J, JOk X.K ca G' J ds → Q J H') G1 H1 (.ok ds) (WE W σ) → At X.K ca G1 d v → Q1 v H1) → Wish X.K ca (SV X.K ca Q1) G H (fa ρ) (WE W σ) := fun ds e Q1 hq => by
      refine Wish.bind (k := gIt) h fun d' G1 H1 e1 x1 w1 v a1 => ?_
      rw [z] at e1
      cases e1
      rw [e] at w1
      exact hq v G1 H1 x1 w1 a1
    cases d with
    | lst xs =>
      refine .inl (.inl (k B G H σ ρ _ s b r (hw xs rfl _ fun v G1 H1 x1 w1 a1 => ?_)))
      obtain ⟨q, vs, rfl, h1, h2⟩ := a1
      exact ⟨q, rfl, ⟨vs, .of (x1.gh _ _ h1)⟩, w1.here x1.gh _ (jok_list (.of h1) h2)⟩
    | scr ns =>
      refine .inl (.inl (k B G H σ ρ _ s b r (hw _ rfl _ fun v G1 H1 x1 w1 a1 => ?_)))
      obtain ⟨q, rfl, h1⟩ := a1
      exact ⟨q, rfl, ⟨_, SqL_mono x1.gh h1⟩, w1.here x1.gh _ (jok_list h1 (AtL.of_ints _))⟩
    | tup xs =>
      refine .inl (.inr (k B G H σ ρ _ s b r (hw xs rfl _ fun v G1 H1 x1 w1 a1 => ?_)))
      obtain ⟨q, vs, rfl, h1, h2⟩ := a1
      exact ⟨q, rfl, ⟨vs, tq x1.gh h1⟩, w1.here x1.gh _ (jok_tup (tq (.refl _) h1) h2)⟩
    | tp0 =>
      refine .inl (.inr (k B G H σ ρ _ s b r (hw [] rfl _ fun v G1 H1 x1 w1 a1 => ?_)))
      obtain ⟨q, rfl, h1⟩ := a1
      exact ⟨q, rfl, ⟨[], SqT_mono x1.gh h1⟩, w1.here x1.gh _ (jok_tup h1 rfl)⟩
    | tpz xs =>
      refine .inl (.inr (k B G H σ ρ _ s b r (hw xs rfl _ fun v G1 H1 x1 w1 a1 => ?_)))
      obtain ⟨q, o, vs, rfl, oo, h1, h2⟩ := a1
      exact ⟨q, rfl, ⟨vs, .inl (.inr ⟨o, x1.gh _ _ h1⟩)⟩, w1.here x1.gh _ (jok_tup (.inl (.inr ⟨o, h1⟩)) h2)⟩
    | str x =>
      refine .inr (k B G H σ ρ _ s b r (hw _ rfl _ fun v G1 H1 x1 w1 a1 => ?_))
      cases a1
      exact ⟨x, rfl, w1.here x1.gh _ jok_str⟩
    | _ => rw [z] at h; exact h.elim
theorem fi_r1 (hg : Gl X "range") (hm : X.mg "range" = none) (h : FE X ca W e fa) (hs : starEach [e] X.env = [(false, eval e X.env)] := by rfl) : FI X ca W tg (.Call (.Name "range" p) [e] [] pos) (iR1 fa) := by
  obtain ⟨t, p, k⟩ := h.ex
  refine ⟨_, pi_range1 hg hm (pa_cons p pa_nil hs) hs, fun B G H σ ρ Q s b r h => ?_⟩
  refine k B G H σ ρ _ s b r (Wish.bind h fun d G1 H1 e1 x1 w1 v a1 => ?_)
  cases d with
  | int j =>
    cases a1
    have w2 : Wish X.K ca (fun G' ds H' => ∀ J, JOk X.K ca G' J ds → Q J H') G1 H1 (if small62 j then .ok (rgD 0 j.toNat) else .bad) (WE W σ) := w1
    split at w2
    · rename_i z; exact ⟨_, rfl, z.1, z.2, w2.here x1.gh _ jok_rg⟩
    · exact w2.elim
  | _ => exact w1.elim
end
end Tk
namespace Tk
open PySem PySem.Spec L2 PyProof.Rows
abbrev W0 : WX := fun _ _ _ _ => False
def tE (K : PySem.W.Frag) (ca : Cn) (W : WX) (f : Ev → R D) : TE := fun σ H Q => ∃ B G ρ, Same G H ∧ Same B H ∧ Rel K ca B G H σ ρ ∧ Wish K ca (SV K ca Q) G H (f ρ) (WE W σ)
def tT (K : PySem.W.Frag) (ca : Cn) (W : WX) (f : Ev → R Bool) : TT := fun σ H Q => ∃ B G ρ, Same G H ∧ Same B H ∧ Rel K ca B G H σ ρ ∧ Wish K ca (SB Q) G H (f ρ) (WE W σ)
def tGc (K : PySem.W.Frag) (ca : Cn) (zs : List Nat) (h : Tg) : TG := fun v σ H Q => ∃ B G ρ d, Same G H ∧ Same B H ∧ Rel K ca B G H σ ρ ∧ At K ca G d v ∧ ∃ ρ', h d ρ = some ρ' ∧ ∀ σ', Rel K ca B G H σ' ρ' → wipe σ' zs = wipe σ zs → Q σ' H
section
variable {X : Cx} {ca : Cn} {W : WX} {zs : List Nat} {e tg : Expr} {f : Ev → R D} {ft : Ev → R Bool} {h : Tg}
theorem FE.can (a : FE X ca W e f) : PE X e (tE X.K ca W f) := by
  obtain ⟨t, p, k⟩ := a.ex
  exact ⟨fun pins s σ H Q I ⟨B, G, ρ, h1, h2, h3, h4⟩ => p.run pins s σ H Q I (k B G H σ ρ Q h1 h2 h3 h4)⟩
theorem FT.can (a : FT X ca W e ft) : PT X e (tT X.K ca W ft) := by
  obtain ⟨t, p, k⟩ := a.ex
  exact ⟨fun pins s σ H Q I ⟨B, G, ρ, h1, h2, h3, h4⟩ => p.run pins s σ H Q I (k B G H σ ρ Q h1 h2 h3 h4)⟩
theorem FG.can (a : FG X ca zs tg h) : PG X tg (tGc X.K ca zs h) := by
  obtain ⟨t, p, k⟩ := a.ex
  exact ⟨fun pins s σ H v u Q I r ⟨B, G, ρ, d, h1, h2, h3, h4, h5⟩ => p.run pins s σ H v u Q I r (k B G H σ ρ d v Q h1 h2 h3 h4 h5)⟩
structure FTs (X : Cx) (ca : Cn) (W : WX) (es : List Expr) (f : Ev → R Bool) : Prop where
  ex : PTs X es (tT X.K ca W f)
def tsY : Ev → R Bool := fun _ => .ok true
theorem fts_nil : FTs X ca W [] tsY := ⟨⟨fun pins s σ H Q I ⟨B, G, ρ, h1, h2, h3, h4⟩ => pts_nil.run pins s σ H Q I (h4.here h1)⟩⟩
theorem fts_one (a : FT X ca W e ft) : FTs X ca W [e] ft := ⟨pts_one a.can⟩
end
def wipeE (ρ : Ev) : List Nat → Ev
  | [] => ρ
  | v :: vs => (wipeE ρ vs).set v .no
def R.quiet {α : Type} (r : R α) : R α := match r with
  | .ok a => .ok a
  | _ => .bad
@[simp] theorem quiet_ok {α : Type} (a : α) : R.quiet (.ok a) = .ok a := (rfl)
@[simp] theorem quiet_bad {α : Type} : R.quiet (.bad : R α) = .bad := (rfl)
def lcL (h : Tg) (t : Ev → R Bool) (fe : Ev → R D) (ρ : Ev) : List D → R (List D)
  | [] => .ok []
  | d :: ds => (optR (h d ρ)).bind fun ρ1 => (t ρ1).quiet.bind fun b => if b = true then (fe ρ1).quiet.bind fun y => (lcL h t fe ρ ds).bind fun r => .ok (y :: r) else lcL h t fe ρ ds
def eLc (zs : List Nat) (fi : Ev → R (List D)) (h : Tg) (t : Ev → R Bool) (fe : Ev → R D) : Ev → R D := fun ρ => (fi ρ).bind fun ds => if ds.length ≤ sizeLine then (lcL h t fe (wipeE ρ zs) ds).bind fun rs => .ok (.lst rs) else .bad
section
variable {K : PySem.W.Frag} {ca : Cn} {B G H : Hp} {σ : L2.St} {ρ : Ev}
theorem Rel.unset (r : Rel K ca B G H σ ρ) (i : Nat) : Rel K ca B G H (σ.set i none) (ρ.set i .no) where
  len := by rw [List.length_set, List.length_set]; exact r.len
  val := fun j d q => by
    rcases getElem?_set' q with ⟨rfl, z⟩ | ⟨ne, q⟩
    · cases z
    · obtain ⟨v, h1, h2⟩ := r.val j d q
      exact ⟨v, by rw [List.getElem?_set_ne (Ne.symm ne)]; exact h1, h2⟩
  own := fun j s q ho => by
    rcases getElem?_set' q with ⟨rfl, z⟩ | ⟨ne, q⟩
    · rw [z] at ho; cases ho
    · obtain ⟨a, h1, h2⟩ := r.own j s q ho
      exact ⟨a, by rw [List.getElem?_set_ne (Ne.symm ne)]; exact h1, h2⟩
  sep := fun j k s t a qj oj qk ok hj hk => by
    rcases getElem?_set' qj with ⟨rfl, z⟩ | ⟨nj, qj⟩
    · rw [z] at oj; cases oj
    · rcases getElem?_set' qk with ⟨rfl, z⟩ | ⟨nk, qk⟩
      · rw [z] at ok; cases ok
      · rw [List.getElem?_set_ne (Ne.symm nj)] at hj
        rw [List.getElem?_set_ne (Ne.symm nk)] at hk
        exact r.sep j k s t a qj oj qk ok hj hk
  exc := fun j x q => by
    rcases getElem?_set' q with ⟨rfl, z⟩ | ⟨ne, q⟩
    · cases z
    · obtain ⟨a, c, dx, h1, h2⟩ := r.exc j x q
      exact ⟨a, c, dx, by rw [List.getElem?_set_ne (Ne.symm ne)]; exact h1, h2⟩
  nst := by
    obtain ⟨FP, n⟩ := r.nst
    refine ⟨FP, n.step (fun j t q => ?_) (.refl _) fun b o hb nt gb bb ow => ⟨rfl, gb, fun j s' q os => ?_⟩⟩
    · rcases getElem?_set' q with ⟨rfl, z⟩ | ⟨ne, q⟩
      · cases z
      · exact ⟨q, List.getElem?_set_ne (Ne.symm ne)⟩
    · rcases getElem?_set' q with ⟨rfl, z⟩ | ⟨ne, q⟩
      · rw [z] at os; cases os
      · rw [List.getElem?_set_ne (Ne.symm ne)]; exact ow j s' q os
theorem Rel.wipe (r : Rel K ca B G H σ ρ) : ∀ zs : List Nat, Rel K ca B G H (L2.wipe σ zs) (wipeE ρ zs)
  | [] => r
  | z :: zs => (Rel.wipe r zs).unset z
end
theorem wipe_sub {σ : L2.St} {zs : List Nat} : ∀ ys : List Nat, (∀ i ∈ ys, i ∈ zs) → L2.wipe (L2.wipe σ ys) zs = L2.wipe σ zs
  | [], _ => rfl
  | y :: ys, h => by
    show L2.wipe ((L2.wipe σ ys).set y none) zs = _
    rw [wipe_set (h y List.mem_cons_self), wipe_sub ys fun i m => h i (List.mem_cons_of_mem _ m)]
theorem wipe_idem (σ : L2.St) (zs : List Nat) : L2.wipe (L2.wipe σ zs) zs = L2.wipe σ zs := wipe_sub zs fun _ h => h
theorem wish_quiet {ca : Cn} {α β : Type} {K : PySem.W.Frag} {S : Hp → β → Hp → Prop} {G H : Hp} {r : R α} {k : α → R β} {W1 : XK} (h : Wish K ca S G H (r.quiet.bind k) W1) : ∃ x, r = .ok x ∧ Wish K ca S G H (k x) W1 := by
  cases r with
  | ok x => exact ⟨x, rfl, h⟩
  | exc x => exact h.elim
  | bad => exact h.elim
def LcW (K : PySem.W.Frag) (ca : Cn) (h : Tg) (t : Ev → R Bool) (fe : Ev → R D) (ρw : Ev) (D : Addr) (ds : List Tk.D) (B G1 H1 : Hp) (σw : L2.St) (W1 : XK) (Q : VK) (i : Nat) (H : Hp) : Prop :=
  ∃ G acc vs, Ext G1 H1 G H ∧ G D = none ∧ H D = some (.lst vs) ∧ AtL K ca G acc vs ∧ acc.length ≤ i ∧ Same B H ∧ Rel K ca B G H σw ρw ∧
    Wish K ca (SV K ca Q) G1 H1 ((lcL h t fe ρw (ds.drop i)).bind fun rs => .ok (.lst (acc ++ rs))) W1
section
variable {X : Cx} {ca : Cn} {W : WX} {zs : List Nat} {elt tg iter : Expr} {ifs : List Expr} {scope : Scope} {own : List (Str × Nat)} {pos : Pos} {fi : Ev → R (List D)} {h : Tg} {ft : Ev → R Bool} {fe : Ev → R D}
theorem lc_tail {tl : TI} (ki : ∀ B G H σ ρ (Q : It → Hp → Prop), Same G H → Same B H → Rel X.K ca B G H σ ρ → Wish X.K ca (fun G' ds H' => ∀ J, JOk X.K ca G' J ds → Q J H') G H (fi ρ) (WE W σ) → tl σ H Q)
    (B G H : Hp) (σ : L2.St) (ρ : Ev) (Q : VK) (s : Same G H) (b : Same B H) (r : Rel X.K ca B G H σ ρ) (w : Wish X.K ca (SV X.K ca Q) G H (eLc zs fi h ft fe ρ) (WE W σ)) :
    tLc tl (tGc X.K ca zs h) (tT X.K ca W0 ft) (tE X.K ca W0 fe) zs σ H Q := by
  refine ki B G H σ ρ _ s b r (Wish.bind w fun ds G1 H1 _ x1 w1 J hj => ?_)
  intro D hD
  split at w1
  rename_i hlen
  have gD : G1 D = none := same_none x1.gh hD
  have b1 := b.trans x1.hh
  have r1 := (r.ext x1).wipe zs
  have e0 : Ext G1 H1 G1 (upd H1 D (.lst [])) := ⟨same_upd hD, .refl _, x1.gh.trans (same_upd hD), fun a z => .inl z⟩
  refine ⟨fun i m H => m = ds.length - i ∧ i ≤ ds.length ∧ LcW X.K ca h ft fe (wipeE ρ zs) D ds B G1 H1 (L2.wipe σ zs) (WE W σ) Q i H, ⟨_, rfl, Nat.zero_le _, G1, [], [], e0, gD, upd_same, rfl, Nat.le_refl _, b1.trans e0.hh, r1.ext e0, by rw [List.drop_zero]; exact w1⟩, ?_⟩
  rintro i m H2 ⟨rfl, hi, G2, acc, vs, e2, g2, d2, a2, l2, b2, r2, w2⟩
  obtain ⟨j1, j2⟩ := hj G2 H2 e2.gg e2.gh i
  by_cases hlt : i < ds.length
  · rw [List.drop_eq_getElem_cons hlt] at w2
    obtain ⟨go, yl⟩ := j1 ds[i] (by simp [hlt])
    refine .inr ⟨go, fun H' => LcW X.K ca h ft fe (wipeE ρ zs) D ds B G1 H1 (L2.wipe σ zs) (WE W σ) Q (i + 1) H', fun H' q => ⟨ds.length - (i + 1), by omega, rfl, hlt, q⟩, fun x H3 yy => ?_⟩
    obtain ⟨G3, x3, a3⟩ := yl x H3 yy
    have r3 := r2.ext x3
    have b3 := b2.trans x3.hh
    -- what stays of the new list, wherever the block's own expressions lay things
    have stay : ∀ {G4 H4 : Hp}, Ext G3 H3 G4 H4 → G4 D = none ∧ H4 D = some (.lst vs) ∧ AtL X.K ca G4 acc vs ∧ Ext G1 H1 G4 H4 ∧ Same B H4 ∧ Rel X.K ca B G4 H4 (L2.wipe σ zs) (wipeE ρ zs) := fun {G4 H4} x4 => by
      have x5 := x3.trans x4
      refine ⟨?_, x5.hh _ _ d2, AtL.mono x5.gg a2, e2.trans x5, b2.trans x5.hh, r2.ext x5⟩
      cases q : G4 D with
      | none => rfl
      | some u =>
        rcases x5.nw D (by rw [q]; simp) with z | z
        · exact absurd g2 z
        · exact (z.no d2 fun _ y => nomatch y).elim
    have w3 : Wish X.K ca (SV X.K ca Q) G1 H1 (((optR (h ds[i] (wipeE ρ zs))).bind fun ρ1 => (ft ρ1).quiet.bind fun b => if b = true then (fe ρ1).quiet.bind fun y => (lcL h ft fe (wipeE ρ zs) (ds.drop (i + 1))).bind fun r => .ok (y :: r) else lcL h ft fe (wipeE ρ zs) (ds.drop (i + 1))).bind fun rs => .ok (.lst (acc ++ rs))) (WE W σ) := w2
    cases z1 : h ds[i] (wipeE ρ zs) with
    | none => rw [z1] at w3; exact w3.elim
    | some ρ1 =>
      rw [z1] at w3
      refine ⟨B, G3, wipeE ρ zs, ds[i], x3.gh, b3, r3, a3, ρ1, z1, fun σ4 r4 e4 => ⟨e4.trans (wipe_idem σ zs), B, G3, ρ1, x3.gh, b3, r4, ?_⟩⟩
      cases z2 : ft ρ1 with
      | exc x => simp only [optR_some, bind_ok, z2] at w3; exact w3.elim
      | bad => simp only [optR_some, bind_ok, z2] at w3; exact w3.elim
      | ok bb =>
        simp only [optR_some, bind_ok, z2, quiet_ok] at w3
        intro G5 H5 x5
        show if bb = true then _ else _
        cases bb with
        | false =>
          rw [if_neg Bool.false_ne_true] at w3 ⊢
          obtain ⟨s1, s2, s3, s4, s5, s6⟩ := stay x5
          exact ⟨G5, acc, vs, s4, s1, s2, s3, by omega, s5, s6, w3⟩
        | true =>
          rw [if_pos rfl] at w3 ⊢
          refine ⟨B, G5, ρ1, x5.gh, b3.trans x5.hh, r4.ext x5, ?_⟩
          cases z3 : fe ρ1 with
          | exc x => simp only [z3] at w3; exact w3.elim
          | bad => simp only [z3] at w3; exact w3.elim
          | ok y =>
            simp only [z3, quiet_ok, bind_ok] at w3
            intro G6 H6 x6 v av
            obtain ⟨s1, s2, s3, s4, s5, s6⟩ := stay (x5.trans x6)
            have hl := s3.length
            refine ⟨vs, s2, by omega, G6, acc ++ [y], vs ++ [v], ?_, s1, upd_same, s3.append (.one av), by rw [List.length_append]; exact Nat.succ_le_succ l2, ?_, ?_, ?_⟩
            · -- the list's own place is the only one that turned
              have nD : ∀ c o, H1 c = some o → c ≠ D := fun c o q z => by rw [z, hD] at q; cases q
              have nG : ∀ c o, G6 c = some o → c ≠ D := fun c o q z => by rw [z, s1] at q; cases q
              exact ⟨fun c o q => by rw [upd_ne (nD c o q)]; exact s4.hh c o q, s4.gg, fun c o q => by rw [upd_ne (nG c o q)]; exact s4.gh c o q, s4.nw⟩
            · have nB : ∀ c o, B c = some o → c ≠ D := fun c o q z => by
                have := b1 c o q
                rw [z, hD] at this
                cases this
              exact fun c o q => by rw [upd_ne (nB c o q)]; exact s5 c o q
            · refine ⟨s6.len, s6.val, fun k s' q ho => ?_, s6.sep, s6.exc, ?_⟩
              rotate_left 1
              · obtain ⟨FP, n⟩ := r1.nst
                refine ⟨FP, n.step (fun j t q => ⟨q, rfl⟩) s4.gg fun b o hb nt gb bb ow => ⟨?_, ?_, ow⟩⟩
                · rw [upd_ne fun z => by rw [z, hD] at hb; cases hb]
                  exact (s4.hh _ _ hb).trans hb.symm
                · cases q : G6 b with
                  | none => rfl
                  | some u =>
                    rcases s4.nw b (by rw [q]; simp) with z | z
                    · exact (z gb).elim
                    · exact (z.no hb nt).elim
              obtain ⟨a', t1, t2, t3, t4⟩ := s6.own k s' q ho
              refine ⟨a', t1, t2.ext (.refl _) ?_, t3, t4⟩
              -- an own object of the frame stood ahead of the new list
              obtain ⟨a0, u1, u2, u3, u4⟩ := r1.own k s' q ho
              rw [t1] at u1
              cases u1
              obtain ⟨o, u5⟩ := u2.some
              rw [upd_ne (fun z => by rw [z, hD] at u5; cases u5)]
            · cases z4 : lcL h ft fe (wipeE ρ zs) (ds.drop (i + 1)) with
              | ok rs =>
                rw [z4] at w3
                rw [bind_ok, List.append_assoc]
                exact w3
              | exc x => rw [z4] at w3; exact w3
              | bad => rw [z4] at w3; exact w3
  · have e : i = ds.length := by omega
    subst e
    rw [List.drop_length] at w2
    have w3 : Wish X.K ca (SV X.K ca Q) G1 H1 (.ok (.lst (acc ++ []))) (WE W σ) := w2
    rw [List.append_nil] at w3
    refine .inl ⟨j2 rfl, w3 (upd G2 D (.lst vs)) H2 ⟨e2.hh, e2.gg.trans (same_upd g2), fun c o q => ?_, fun c q => ?_⟩ (.ref D) ⟨D, vs, rfl, upd_same, AtL.mono (same_upd g2) a2⟩⟩
    · by_cases z : c = D
      · subst z; rw [upd_same] at q; cases q; exact d2
      · rw [upd_ne z] at q; exact e2.gh c o q
    · by_cases z : c = D
      · subst z; exact .inr (.inl hD)
      · rw [upd_ne z] at q; exact e2.nw c q
  · exact w1.elim
theorem fe_lc (hc : X.calm = true) (hN : X.N.Nodup) (hi : FI X ca W tg iter fi) (ok : BlkOk X.N X.env.scope scope own)
    (hg : ∀ (s : Shared) (H : Hp) (C : Addr) (cl : List (Str × Addr)) (fp : List Addr), FG (X.blk s H scope (compEnvC scope cl C X.env) fp) ca (own.map (·.2)) tg h) (ht : ∀ (s : Shared) (H : Hp) (C : Addr) (cl : List (Str × Addr)) (fp : List Addr), FTs (X.blk s H scope (compEnvC scope cl C X.env) fp) ca W0 ifs ft)
    (he : ∀ (s : Shared) (H : Hp) (C : Addr) (cl : List (Str × Addr)) (fp : List Addr), FE (X.blk s H scope (compEnvC scope cl C X.env) fp) ca W0 elt fe) (hs : ∀ x, foldedSetIterable iter X.env x = pure x := by intro _; rfl) :
    FE X ca W (.ListComp elt [⟨tg, iter, ifs, 0⟩] scope pos) (eLc (own.map (·.2)) fi h ft fe) := by
  obtain ⟨tl, pl, ki⟩ := hi.ex
  refine ⟨_, pe_lc (g := tGc X.K ca (own.map (·.2)) h) (tt := tT X.K ca W0 ft) (te := tE X.K ca W0 fe) hc hN pl ok (fun s H C cl fp => (hg s H C cl fp).can) (fun s H C cl fp => (ht s H C cl fp).ex) (fun s H C cl fp => (he s H C cl fp).can) hs, fun B G H σ ρ Q s b r w => ?_⟩
  exact lc_tail ki B G H σ ρ Q s b r w
theorem fs_setLc {i : Nat} {y : Str} {py spos : Pos} (hc : X.calm = true) (hN : X.N.Nodup) (hy : X.N[i]? = some y) (hyl : X.env.scope.names.lookup y = some .local) (hsw : swapsWith (.ListComp elt [⟨tg, iter, ifs, 0⟩] scope pos) (some (.Name y py)) spos.line X.env = pure true)
    (hi : FI X ca W tg iter fi) (ok : BlkOk X.N X.env.scope scope own)
    (hg : ∀ (s : Shared) (H : Hp) (C : Addr) (cl : List (Str × Addr)) (fp : List Addr), FG (X.blk s H scope (compEnvC scope cl C X.env) fp) ca (own.map (·.2)) tg h) (ht : ∀ (s : Shared) (H : Hp) (C : Addr) (cl : List (Str × Addr)) (fp : List Addr), FTs (X.blk s H scope (compEnvC scope cl C X.env) fp) ca W0 ifs ft)
    (he : ∀ (s : Shared) (H : Hp) (C : Addr) (cl : List (Str × Addr)) (fp : List Addr), FE (X.blk s H scope (compEnvC scope cl C X.env) fp) ca W0 elt fe) (hs : ∀ x, foldedSetIterable iter X.env x = pure x := by intro _; rfl) :
    FS X ca W (.Assign [.Name y py] (.ListComp elt [⟨tg, iter, ifs, 0⟩] scope pos) spos) (sSet i (eLc (own.map (·.2)) fi h ft fe)) := by
  obtain ⟨tl, pl, ki⟩ := hi.ex
  refine ⟨_, ps_setLc (g := tGc X.K ca (own.map (·.2)) h) (tt := tT X.K ca W0 ft) (te := tE X.K ca W0 fe) hc hN hy hyl hsw pl ok (fun s H C cl fp => (hg s H C cl fp).can) (fun s H C cl fp => (ht s H C cl fp).ex) (fun s H C cl fp => (he s H C cl fp).can) hs, fun B G H σ ρ D s b r w => ?_⟩
  refine lc_tail ki B G H σ ρ _ s b r ?_
  exact WishS.from w b r fun a G1 H1 _ x w1 r1 b1 v av => w1 _ G1 H1 (.refl x.gh b1) (r1.set i av)
end
end Tk
namespace Tk
open PySem PySem.Spec L2 PyProof.Rows
def frzA (ρ : Ev) : Ev := ρ.map frzS
def frzE (i : Nat) (ρ : Ev) : Ev := match ρ[i]? with
  | some s => ρ.set i (frzS s)
  | none => ρ
def sFrz (i : Nat) (g : Ev → SO) : Ev → SO := fun ρ => g (frzE i ρ)
def scalD : D → Bool
  | .non => true
  | .bl _ => true
  | .int _ => true
  | .str _ => true
  | _ => false
def eBor (f : Ev → R D) : Ev → R D := fun ρ => (f (frzA ρ)).quiet.bind fun d => if scalD d = true then .ok d else .bad
def tBor (f : Ev → R Bool) : Ev → R Bool := fun ρ => (f (frzA ρ)).quiet
section
variable {K : PySem.W.Frag} {ca : Cn} {B G H G' H' : Hp} {σ : L2.St} {ρ : Ev}
theorem frz_not_own (s : Sl) : (frzS s).own = false := by cases s <;> rfl
theorem frz_v {s : Sl} (h : s.own = false) (n : ∀ t, s ≠ .tr t) : frzS s = s := by cases s <;> first | rfl | exact (n _ rfl).elim | cases h
theorem same_fp {FP : List Addr} (s : Same G H) (hf : ∀ b ∈ FP, G b = none) : ∃ G' : Hp, Same G G' ∧ Same G' H ∧ (∀ b ∈ FP, G' b = H b) ∧ ∀ b, b ∉ FP → G' b = G b := by
  refine ⟨fun b => if b ∈ FP then H b else G b, fun b o e => ?_, fun b o e => ?_, fun b m => if_pos m, fun b m => if_neg m⟩
  · show (if b ∈ FP then H b else G b) = _
    by_cases m : b ∈ FP
    · rw [hf b m] at e; cases e
    · rw [if_neg m]; exact e
  · have e : (if b ∈ FP then H b else G b) = some o := e
    by_cases m : b ∈ FP
    · rw [if_pos m] at e; exact e
    · rw [if_neg m] at e; exact s b o e
theorem frzA_x {i : Nat} {x : Ex} (h : (Tk.frzA ρ)[i]? = some (.x x)) : ρ[i]? = some (.x x) := by
  unfold Tk.frzA at h
  rw [List.getElem?_map] at h
  obtain ⟨u, q1, q2⟩ := Option.map_eq_some_iff.mp h
  cases u <;> first | (cases q2; exact q1) | cases q2
theorem exc_mono {i : Nat} {x : Ex} (r : Rel K ca B G H σ ρ) (s : Same G G') (h : ρ[i]? = some (.x x)) : ∃ a c dx, σ[i]? = some (some (.ref a)) ∧ ca.φ a c dx ∧ ExAt K ca G' x c dx :=
  let ⟨a, c, dx, h1, h2, h3⟩ := r.exc i x h; ⟨a, c, dx, h1, h2, h3.mono s⟩
theorem Rel.frzA (r : Rel K ca B G H σ ρ) (s : Same G H) : Rel K ca B H H σ (frzA ρ) := by
  have no : ∀ (i : Nat) (t : Sl), (Tk.frzA ρ)[i]? = some t → t.own = true → False := fun i t q o => by
    unfold Tk.frzA at q
    rw [List.getElem?_map] at q
    obtain ⟨u, _, q2⟩ := Option.map_eq_some_iff.mp q
    rw [← q2, frz_not_own] at o
    cases o
  refine ⟨by unfold Tk.frzA; rw [List.length_map]; exact r.len, fun i d q => ?_, fun i t q o => (no i t q o).elim, fun i j t u a q o => (no i t q o).elim, fun i x q => exc_mono r s (frzA_x q), _, .none fun i t q => ?_⟩
  rotate_left 1
  · unfold Tk.frzA at q
    rw [List.getElem?_map] at q
    obtain ⟨u, q1, q2⟩ := Option.map_eq_some_iff.mp q
    cases u <;> cases q2
  unfold Tk.frzA at q
  rw [List.getElem?_map] at q
  obtain ⟨u, q1, q2⟩ := Option.map_eq_some_iff.mp q
  cases o : u.own with
  | false =>
    by_cases tr : ∃ t, u = .tr t
    · obtain ⟨t, rfl⟩ := tr
      cases q2
      obtain ⟨FP, n⟩ := r.nst
      obtain ⟨v, hv, nt⟩ := n.at_ i t q1
      exact ⟨v, hv, nt.frz s fun b _ => rfl⟩
    rw [frz_v o fun t e => tr ⟨t, e⟩] at q2
    subst q2
    obtain ⟨v, h1, h2⟩ := r.val i d q1
    exact ⟨v, h1, At.mono s h2⟩
  | true =>
    obtain ⟨a, h1, h2, h3, h4⟩ := r.own i u q1 o
    obtain ⟨d', e1, e2⟩ := h2.at_ s rfl
    rw [e1] at q2
    cases q2
    exact ⟨_, h1, e2⟩
theorem scal_at {d : D} {v : V} (h : scalD d = true) (a : At K ca G d v) : At K ca G' d v := by
  cases d with
  | non => exact a
  | bl _ => exact a
  | int _ => exact a
  | str _ => exact a
  | _ => cases h
theorem set_same {i : Nat} {s : Sl} (h : ρ[i]? = some s) : ρ.set i s = ρ := by
  apply List.ext_getElem?
  intro j
  by_cases e : i = j
  · subst e
    rw [List.getElem?_set_self (List.getElem?_eq_some_iff.mp h).1, h]
  · rw [List.getElem?_set_ne e]
theorem Rel.frz (r : Rel K ca B G H σ ρ) (s : Same G H) (b : Same B H) (i : Nat) : ∃ G', Adv B G G' H ∧ Rel K ca B G' H σ (frzE i ρ) := by
  unfold frzE
  split
  · rename_i t q
    cases o : t.own with
    | false =>
      by_cases tr : ∃ u, t = .tr u
      · obtain ⟨u, rfl⟩ := tr
        obtain ⟨FP, n⟩ := r.nst
        obtain ⟨v, hv, nt⟩ := n.at_ i u q
        obtain ⟨G', g1, g2, g3, g4⟩ := same_fp s fun c m => (n.fr i u q c m).1
        refine ⟨G', ⟨g1, g2, b, fun c hc => ?_⟩, ?_⟩
        · by_cases m : c ∈ FP i
          · exact .inr (.inl (n.fr i u q c m).2)
          · rw [g4 c m] at hc; exact .inl hc
        · refine ⟨by rw [List.length_set]; exact r.len, fun j d w => ?_, fun j u' w o' => ?_, fun j k u' u'' c w o' w' o'' x y => ?_, fun j x w => ?_, FP, ?_⟩
          · rcases getElem?_set' w with ⟨rfl, z⟩ | ⟨ne, w⟩
            · cases z; exact ⟨v, hv, nt.frz g1 g3⟩
            · obtain ⟨v', t1, t2⟩ := r.val j d w
              exact ⟨v', t1, At.mono g1 t2⟩
          · rcases getElem?_set' w with ⟨rfl, z⟩ | ⟨ne, w⟩
            · rw [z] at o'; cases o'
            · obtain ⟨c, t1, t2, t3, t4⟩ := r.own j u' w o'
              refine ⟨c, t1, t2.ext g1 rfl, ?_, t4⟩
              rw [g4 c fun m => n.ow i u q c m j u' w o' t1]
              exact t3
          · rcases getElem?_set' w with ⟨rfl, z⟩ | ⟨nj, w⟩
            · rw [z] at o'; cases o'
            · rcases getElem?_set' w' with ⟨rfl, z⟩ | ⟨nk, w'⟩
              · rw [z] at o''; cases o''
              · exact r.sep j k u' u'' c w o' w' o'' x y
          · rcases getElem?_set' w with ⟨rfl, z⟩ | ⟨ne, w⟩
            · cases z
            · exact exc_mono r g1 w
          · have tr' : ∀ {j : Nat} {t : OT}, (ρ.set i (frzS (.tr u)))[j]? = some (.tr t) → j ≠ i ∧ ρ[j]? = some (.tr t) := fun {j t} w => by
              rcases getElem?_set' w with ⟨rfl, z⟩ | ⟨ne, w⟩
              · cases z
              · exact ⟨ne, w⟩
            refine ⟨fun j t w => ?_, fun j t w => n.nd j t (tr' w).2, fun j t w c m => ⟨?_, (n.fr j t (tr' w).2 c m).2⟩, fun j t w c m k s' ws os => ?_, fun j k t t' ne w w' => n.sp j k t t' ne (tr' w).2 (tr' w').2⟩
            · obtain ⟨v', t1, t2⟩ := n.at_ j t (tr' w).2
              exact ⟨v', t1, t2.ext g1 fun _ _ => rfl⟩
            · rw [g4 c (n.sp j i t u (tr' w).1 (tr' w).2 q c m)]
              exact (n.fr j t (tr' w).2 c m).1
            · rcases getElem?_set' ws with ⟨rfl, z⟩ | ⟨ne, ws⟩
              · rw [z] at os; cases os
              · exact n.ow j t (tr' w).2 c m k s' ws os
      rw [frz_v o fun u e => tr ⟨u, e⟩, set_same q]
      exact ⟨G, .refl s b, r⟩
    | true =>
      obtain ⟨a, h1, h2, h3, h4⟩ := r.own i t q o
      obtain ⟨ob, h5⟩ := h2.some
      have gg : Same G (upd G a ob) := same_upd h3
      have gh : Same (upd G a ob) H := fun c u e => by
        by_cases z : c = a
        · subst z; rw [upd_same] at e; rw [h5]; exact e
        · rw [upd_ne z] at e; exact s c u e
      obtain ⟨d', e1, e2⟩ := h2.at_ gg (show upd G a ob a = H a by rw [upd_same, h5])
      refine ⟨upd G a ob, ⟨gg, gh, b, fun c n => ?_⟩, ?_⟩
      · by_cases z : c = a
        · subst z; exact .inr (.inl h4)
        · rw [upd_ne z] at n; exact .inl n
      · rw [e1]
        refine ⟨by rw [List.length_set]; exact r.len, fun j d w => ?_, fun j u w o' => ?_, fun j k u u' c w o' w' o'' x y => ?_, fun j x w => ?_, ?_⟩
        rotate_left 4
        · obtain ⟨FP, n⟩ := r.nst
          refine ⟨FP, n.step (fun j t' w => ?_) gg fun c o' hc nt gc bc ow => ⟨rfl, ?_, fun j s' w os => ?_⟩⟩
          · rcases getElem?_set' w with ⟨rfl, z⟩ | ⟨ne, w⟩
            · cases z
            · exact ⟨w, rfl⟩
          · rw [upd_ne fun z => ow i t q o (by rw [z]; exact h1)]; exact gc
          · rcases getElem?_set' w with ⟨rfl, z⟩ | ⟨ne, w⟩
            · rw [z] at os; cases os
            · exact ow j s' w os
        rotate_left 3
        · rcases getElem?_set' w with ⟨rfl, z⟩ | ⟨ne, w⟩
          · cases z
          · exact exc_mono r gg w
        · rcases getElem?_set' w with ⟨rfl, z⟩ | ⟨ne, w⟩
          · cases z; exact ⟨_, h1, e2⟩
          · obtain ⟨v, t1, t2⟩ := r.val j d w
            exact ⟨v, t1, At.mono gg t2⟩
        · rcases getElem?_set' w with ⟨rfl, z⟩ | ⟨ne, w⟩
          · rw [z] at o'; cases o'
          · obtain ⟨c, t1, t2, t3, t4⟩ := r.own j u w o'
            refine ⟨c, t1, t2.ext gg rfl, ?_, t4⟩
            rw [upd_ne fun z => ne (r.sep j i u t a w o' q o (by rw [← z]; exact t1) h1)]
            exact t3
        · rcases getElem?_set' w with ⟨rfl, z⟩ | ⟨nj, w⟩
          · rw [z] at o'; cases o'
          · rcases getElem?_set' w' with ⟨rfl, z⟩ | ⟨nk, w'⟩
            · rw [z] at o''; cases o''
            · exact r.sep j k u u' c w o' w' o'' x y
  · exact ⟨G, .refl s b, r⟩
theorem Rel.turn (r : Rel K ca B G H σ ρ) (s : Same G H) (b : Same B H) {i : Nat} {t t' : Sl} {a : Addr} {o : HO} (q : ρ[i]? = some t) (ot : t.own = true) (ot' : t'.own = true) (ha : σ[i]? = some (some (.ref a))) (h : Own K ca G (upd H a o) a t') :
    Rel K ca B G (upd H a o) σ (ρ.set i t') ∧ Same G (upd H a o) ∧ Same B (upd H a o) := by
  obtain ⟨a', h1, h2, h3, h4⟩ := r.own i t q ot
  rw [ha] at h1
  cases h1
  refine ⟨⟨by rw [List.length_set]; exact r.len, fun j d w => ?_, fun j u w o' => ?_, fun j k u u' c w o' w' o'' x y => ?_, fun j x w => ?_, ?_⟩, fun c u e => ?_, fun c u e => ?_⟩
  rotate_left 4
  · obtain ⟨FP, n⟩ := r.nst
    refine ⟨FP, n.step (fun j t0 w => ?_) (.refl _) fun c o' hc nt gc bc ow => ⟨upd_ne fun z => ow i t q ot (by rw [z]; exact ha), gc, fun j s' w os => ?_⟩⟩
    · rcases getElem?_set' w with ⟨rfl, z⟩ | ⟨ne, w⟩
      · rw [← z] at ot'; cases ot'
      · exact ⟨w, rfl⟩
    · rcases getElem?_set' w with ⟨rfl, z⟩ | ⟨ne, w⟩
      · exact ow j t q ot
      · exact ow j s' w os
  rotate_left 2
  rotate_left 3
  · rcases getElem?_set' w with ⟨rfl, z⟩ | ⟨ne, w⟩
    · rw [← z] at ot'; cases ot'
    · exact r.exc j x w
  rotate_left 2
  · rcases getElem?_set' w with ⟨rfl, z⟩ | ⟨ne, w⟩
    · rw [← z] at ot'; cases ot'
    · exact r.val j d w
  · rcases getElem?_set' w with ⟨rfl, z⟩ | ⟨ne, w⟩
    · subst z; exact ⟨a, ha, h, h3, h4⟩
    · obtain ⟨c, t1, t2, t3, t4⟩ := r.own j u w o'
      refine ⟨c, t1, t2.ext (.refl _) ?_, t3, t4⟩
      rw [upd_ne fun z => ne (r.sep j i u t a w o' q ot (by rw [← z]; exact t1) ha)]
  · have up : ∀ {j : Nat} {u : Sl}, (ρ.set i t')[j]? = some u → u.own = true → ∃ u0, ρ[j]? = some u0 ∧ u0.own = true := fun {j u} w o' => by
      rcases getElem?_set' w with ⟨rfl, z⟩ | ⟨ne, w⟩
      · exact ⟨t, q, ot⟩
      · exact ⟨u, w, o'⟩
    obtain ⟨u0, z1, z2⟩ := up w o'
    obtain ⟨u1, z3, z4⟩ := up w' o''
    exact r.sep j k u0 u1 c z1 z2 z3 z4 x y
  · rw [upd_ne fun z => by rw [z, h3] at e; cases e]; exact s c u e
  · rw [upd_ne fun z => by rw [z, h4] at e; cases e]; exact b c u e
end
section
variable {X : Cx} {ca : Cn} {W : WX} {e : Expr} {st : Stmt} {sts : List Stmt} {f : Ev → R D} {ft : Ev → R Bool} {g : Ev → SO} {pos : Pos}
theorem fs_frz (i : Nat) (h : FS X ca W st g) : FS X ca W st (sFrz i g) := by
  obtain ⟨t, p, k⟩ := h.ex
  refine ⟨t, p, fun B G H σ ρ D s b r w => ?_⟩
  obtain ⟨G', a, r'⟩ := r.frz s b i
  exact k B G' H σ _ D a.gh b r' (WishS.mono w a)
theorem fe_bor (h : FE X ca W e f) : FE X ca W e (eBor f) := by
  obtain ⟨t, p, k⟩ := h.ex
  refine ⟨t, p, fun B G H σ ρ Q s b r w => k B H H σ _ Q (.refl H) b (r.frzA s) ?_⟩
  obtain ⟨d, e1, w⟩ := wish_quiet w
  rw [e1]
  split at w
  · rename_i hs
    intro G' H' x v a
    exact w G H' ⟨x.hh, .refl _, s.trans x.hh, fun c z => .inl z⟩ v (scal_at hs a)
  · exact w.elim
theorem ft_bor (h : FT X ca W e ft) : FT X ca W e (tBor ft) := by
  obtain ⟨t, p, k⟩ := h.ex
  refine ⟨t, p, fun B G H σ ρ Q s b r w => k B H H σ _ Q (.refl H) b (r.frzA s) ?_⟩
  unfold tBor at w
  cases z : ft (frzA ρ) with
  | ok d =>
    rw [z] at w
    intro G' H' x
    exact w G H' ⟨x.hh, .refl _, s.trans x.hh, fun c z => .inl z⟩
  | exc x => rw [z] at w; exact w.elim
  | bad => rw [z] at w; exact w.elim
end
def WishF (K : PySem.W.Frag) (ca : Cn) (G H : Hp) (r : R (List D)) (Q : VK) (W1 : XK) : Prop := Wish K ca (fun G' ds H' => ∀ p vs, H p = none → G' p = none → H' p = some (.lst vs) → AtL K ca G' ds vs → Q (.ref p) H') G H r W1
structure FL (X : Cx) (ca : Cn) (W : WX) (e : Expr) (f : Ev → R (List D)) : Prop where
  ex : ∃ t, PE X e t ∧ ∀ B G H σ ρ Q, Same G H → Same B H → Rel X.K ca B G H σ ρ → WishF X.K ca G H (f ρ) Q (WE W σ) → t σ H Q
def lDisp (fl : Ev → R (List D)) : Ev → R (List D) := fun ρ => (fl ρ).bind fun ds => if ds.length ≤ sizeLine then .ok ds else .bad
def lList (f : Ev → R D) : Ev → R (List D) := fun ρ => (f ρ).bind fun d => match d with
  | .lst xs => .ok xs
  | .tup xs => .ok xs
  | .scr ns => .ok (ns.map .int)
  | _ => .bad
def sOwn (i : Nat) (f : Ev → R (List D)) : Ev → SO := fun ρ => SO.from ρ (f ρ) fun ds => .nx (ρ.set i (.l ds))
def ownL (ρ : Ev) (i : Nat) : R (List D) := match ρ[i]? with
  | some (.l xs) => .ok xs
  | _ => .bad
def sApp (i : Nat) (f : Ev → R D) : Ev → SO := fun ρ => SO.from ρ (ownL ρ i) fun xs => SO.from ρ (f ρ) fun d => if xs.length < sizeLine then .nx (ρ.set i (.l (xs ++ [d]))) else .bad
section
variable {X : Cx} {ca : Cn} {W : WX} {e o : Expr} {es : List Expr} {f : Ev → R D} {fl : Ev → R (List D)} {pos apos cpos p : Pos}
theorem own_l {K : PySem.W.Frag} {B G H : Hp} {σ : L2.St} {ρ : Ev} {i : Nat} {xs : List D} (h : ownL ρ i = .ok xs) (r : Rel K ca B G H σ ρ) : ρ[i]? = some (.l xs) ∧ ∃ a vs, σ[i]? = some (some (.ref a)) ∧ H a = some (.lst vs) ∧ AtL K ca G xs vs ∧ G a = none ∧ B a = none := by
  unfold ownL at h
  split at h
  · rename_i ys q
    cases h
    obtain ⟨a, h1, ⟨vs, h2, h3⟩, h4, h5⟩ := r.own i _ q rfl
    exact ⟨q, a, vs, h1, h2, h3, h4, h5⟩
  · cases h
theorem fl_lst (h : FA X ca W es fl) : FL X ca W (.List es pos) (lDisp fl) := by
  obtain ⟨t, p, k⟩ := h.ex
  refine ⟨_, pe_lst p, fun B G H σ ρ Q s b r h => ?_⟩
  refine k B G H σ ρ _ s b r (Wish.bind (S := fun G' ds H' => ∀ p vs, H p = none → G' p = none → H' p = some (.lst vs) → AtL X.K ca G' ds vs → Q (.ref p) H') h fun ds G1 H1 _ x1 w1 vs a1 => ?_)
  split at w1
  · rename_i z
    refine ⟨by rw [← a1.length]; exact z, fun q n => w1 G1 (upd H1 q (.lst vs)) ⟨same_upd n, .refl _, x1.gh.trans (same_upd n), fun c z => .inl z⟩ q vs (same_none x1.hh n) (same_none x1.gh n) upd_same a1⟩
  · exact w1.elim
theorem fl_list {x : Str} (hg : Gl X x) (hm : X.mg x = none) (hv : bootBuiltins x = some (.type "list")) (h : FE X ca W e f) (hn : x ≠ "__name__" := by decide) (hd : (x == ("__debug__" : Str)) = false := by decide)
    (he : starEach [e] X.env = (false, eval e X.env) :: starEach [] X.env := by rfl) (hpl : (backTo pos (starEach [] X.env)).any (·.1) = false := by rfl) : FL X ca W (.Call (.Name x p) [e] [] pos) (lList f) := by
  obtain ⟨t, pp, k⟩ := h.ex
  refine ⟨_, pe_callTy call_list_of hg hm hv (pa_cons pp pa_nil he) hn hd he hpl, fun B G H σ ρ Q s b r h => ?_⟩
  refine k B G H σ ρ _ s b r (Wish.bind (S := fun G' ds H' => ∀ p vs, H p = none → G' p = none → H' p = some (.lst vs) → AtL X.K ca G' ds vs → Q (.ref p) H') h fun d G1 H1 _ x1 w1 v a1 => ?_)
  have fin : ∀ {xs : List D} {vs : List V}, Wish X.K ca (fun G' ds H' => ∀ p vs, H p = none → G' p = none → H' p = some (.lst vs) → AtL X.K ca G' ds vs → Q (.ref p) H') G1 H1 (.ok xs) (WE W σ) → AtL X.K ca G1 xs vs → ∀ l, H1 l = none → Q (.ref l) (upd H1 l (.lst vs)) :=
    fun w a l n => w G1 _ ⟨same_upd n, .refl _, x1.gh.trans (same_upd n), fun c z => .inl z⟩ l _ (same_none x1.hh n) (same_none x1.gh n) upd_same a
  cases d with
  | lst xs =>
    obtain ⟨q, vs, rfl, h1, h2⟩ := a1
    exact ⟨q, vs, rfl, .inl (.of (x1.gh _ _ h1)), fin w1 h2⟩
  | tup xs =>
    obtain ⟨q, vs, rfl, h1, h2⟩ := a1
    exact ⟨q, vs, rfl, .inr (tq x1.gh h1), fin w1 h2⟩
  | scr ns =>
    obtain ⟨q, rfl, h1⟩ := a1
    exact ⟨q, _, rfl, .inl (SqL_mono x1.gh h1), fin w1 (AtL.of_ints _)⟩
  | _ => exact w1.elim
theorem fs_own {i : Nat} {y : Str} {pos' : Pos} (hN : X.N.Nodup) (hi : X.N[i]? = some y) (h : FL X ca W e fl) (hx : Loc X.env.scope y := by first | exact .inl rfl | exact .inr rfl) (hs : swapsWith e (some (.Name y pos')) pos.line X.env = pure false := by rfl)
    (hf : X.fn y = true ∨ X.env.scope.names.lookup y = some .local := by first | exact .inl rfl | exact .inr rfl | assumption) : FS X ca W (.Assign [.Name y pos'] e pos) (sOwn i fl) := by
  obtain ⟨t, p, kt⟩ := h.ex
  refine ⟨_, ps_set hN hi hx p hs hf, fun B G H σ ρ D s b r h => kt B G H σ ρ _ s b r ?_⟩
  refine WishS.from h b r fun ds G1 H1 _ x w r1 b1 q vs n g hq av => w _ G1 H1 (.refl x.gh b1) ?_
  exact r.setOwn x i n rfl ⟨vs, hq, av⟩ g (same_none b n)
theorem fs_app {i : Nat} {y : Str} {py : Pos} (hi : X.N[i]? = some y) (h : FE X ca W e f) (hv : Vis X.env.scope y := by first | exact Or.inl rfl | exact Or.inr (Or.inl rfl) | exact Or.inr (Or.inr rfl)) (hd : (y == ("__debug__" : Str)) = false := by decide) (hcd : (y == ("__classdict__" : Str)) = false := by decide)
    (he : starEach [e] X.env = (false, eval e X.env) :: starEach [] X.env := by rfl) (hb : attributeBase (.Name y py) "append" X.env (eval (.Name y py) X.env) = eval (.Name y py) X.env := by rfl) (hw : ((backTo cpos (starEach [e] X.env)).all (fun x => !x.1) && (backToKw cpos (keywordEach [] X.env)).all (fun x => x.1.isSome) && decide ([e].length + ([] : List Keyword).length + (if ([] : List Keyword).isEmpty then 0 else 1) < 30)) = true := by rfl)
    (hl : (apos.endLine == cpos.line) = true := by rfl) (hpl : (backTo cpos (starEach [] X.env)).any (·.1) = false := by rfl)
    (hs : swapsWith (.Call (.Attribute (.Name y py) "append" apos) [e] [] cpos) none pos.line X.env = pure false := by rfl) : FS X ca W (.Expr (.Call (.Attribute (.Name y py) "append" apos) [e] [] cpos) pos) (sApp i f) := by
  obtain ⟨t, p, k⟩ := h.ex
  refine ⟨_, ps_expr (pe_bm PySem.F.plainAttrs_list PySem.F.slot_list_append PySem.F.type_list_append mt_append (pe_var hi hv hd hcd) (pa_cons p pa_nil he) hb hw hl he hpl) hs, fun B G H σ ρ D s b r h => ?_⟩
  unfold sApp at h
  cases z : ownL ρ i with
  | ok xs =>
    rw [z] at h
    obtain ⟨q, a, vs, h1, h2, h3, h4, h5⟩ := own_l z r
    refine ⟨_, h1, .inl ⟨rfl, vs, .of h2⟩, k B G H σ ρ _ s b r (WishS.from h b r fun d G1 H1 _ x w r1 b1 v av => ?_)⟩
    split at w
    · rename_i hl
      have l := h3.length
      refine ⟨a, vs, v, rfl, rfl, x.hh _ _ h2, by omega, ?_⟩
      obtain ⟨t1, t2, t3⟩ := r1.turn x.gh b1 (t' := .l (xs ++ [d])) (o := .lst (vs ++ [v])) q rfl rfl h1 ⟨_, upd_same, (AtL.mono x.gg h3).append (.one av)⟩
      exact w _ G1 _ ⟨.refl _, t2, t3, fun c z => .inl z⟩ t1
    · exact w.elim
  | exc x => rw [z] at h; unfold ownL at z; split at z <;> cases z
  | bad => rw [z] at h; exact h.elim
end
end Tk
namespace Tk
open PySem PySem.Spec L2 PyProof.Rows HT
section
variable {prog : Program} {w : World} {A : Around} {E : Value → Shared → Prop} {s : Shared}
theorem places_rev (n : Nat) : Builtin.Slice.slicePlaces ((n : Int) - 1) (-1) (-1) = n := by
  unfold Builtin.Slice.slicePlaces
  have h1 : ¬ ((-1 : Int) > 0) := by omega
  simp only [h1, if_false]
  have e : -(-1 : Int) = 1 := rfl
  rw [e]
  split
  · rw [Int.ediv_one]; omega
  · omega
theorem pick_rev (xs : Array Value) : ((List.range xs.size).filterMap fun (m : Nat) => xs[(((xs.size : Int) - 1) + (m : Int) * (-1)).toNat]?).toArray = xs.toList.reverse.toArray := by
  have e : (List.range xs.size).filterMap (fun (m : Nat) => xs[(((xs.size : Int) - 1) + (m : Int) * (-1)).toNat]?) = ((List.range xs.size).map fun k => xs.size - 1 - k).filterMap (xs[·]?) := by
    rw [List.filterMap_map]
    have e : ∀ m : Nat, (((xs.size : Int) - 1) + (m : Int) * (-1)).toNat = xs.size - 1 - m := fun m => by omega
    simp only [e]
    rfl
  rw [e, PySem.W.krv_range, List.filterMap_reverse, PySem.W.krv_all]
theorem getItem_tuple_rev {t sl : Addr} {items : Array Value} {vs : Value} {Q : Value → Shared → Prop} (ht : IsTup s.heap t items) (hs : s.heap.IsSliceOf sl .none .none vs) (ps : IsPart vs (some (-1)))
    (h : Q (.ref s.heap.objs.size) { s with heap := s.heap.push { cls := .type "tuple", data := .seq items.toList.reverse.toArray } })
    (hsz : items.size ≤ sizeLine) : wpAny (model prog w) A (getItem (.ref t) (.ref sl)) Q E s := by
  have htake : sizeOk (.seq items.toList.reverse.toArray) := by
    show items.toList.reverse.toArray.size ≤ sizeLine
    rw [List.size_toArray, List.length_reverse, Array.length_toList]
    omega
  obtain ⟨os, hos, hcs, hds⟩ := id hs
  have hTs : s.TypeIs (.ref sl) "slice" := ⟨os, hos, hcs⟩
  unfold getItem
  try with_reducible refine wpAny_holding ?_
  first | refine wpAny_bind (wpAny_pure ?_) | skip
  refine wpAny_bind (wpAny_sequenceKey ht.typeIs (by decide) ?_)
  refine wpAny_bind (wpAny_callSpecial?_slot (name := Str.ofString "__getitem__") ht.typeIs PyProof.Rows.slot_tuple_getitem
    (wpAny_call_entry PyProof.Rows.slot_tuple_getitem ht.typeIs entry_tuple_getitem ?_ (args_tuple_getitem _ _)))
  show wpAny _ _ (Builtin.Tuple.tupleItemsOf (.ref t) >>= _) _ _ s
  refine wpAny_bind (tupleItemsOf_ ht ?_)
  refine wpAny_bind (wpAny_typeOf hTs ?_)
  rw [if_pos (by decide)]
  refine wpAny_bind ?_
  unfold Builtin.Slice.sliceApplied Builtin.Slice.sliceFields
  refine wpAny_bind (wpAny_bind (wpAny_field hos hds (x := .none) rfl (wpAny_bind (wpAny_field hos hds (x := .none) rfl (wpAny_bind (wpAny_field hos hds (x := vs) rfl (wpAny_pure ?_)))))))
  refine wpAny_bind (slicePart_ ps ?_)
  show wpAny _ _ (if ((-1 : Int) == 0) = true then _ else _) _ _ s
  rw [if_neg (by decide)]
  refine wpAny_bind (slicePart_none (wpAny_bind (slicePart_none (wpAny_bind (wpAny_pure ?_)))))
  show wpAny _ _ (pure (((items.size : Int) - 1), (-1 : Int), Builtin.Slice.slicePlaces ((items.size : Int) - 1) (-1) (-1))) _ _ s
  rw [places_rev]
  refine wpAny_pure ?_
  have hno : ¬ (((((items.size : Int) - 1) == 0 && (-1 : Int) == 1) && items.size == items.size) = true) := by
    rw [show ((-1 : Int) == 1) = false by decide]
    simp
  show wpAny _ _ (if (((((items.size : Int) - 1) == 0 && (-1 : Int) == 1) && items.size == items.size) = true) then _ else _) _ _ s
  rw [if_neg hno, pick_rev]
  first
    | exact wpAny_bind (m := Builtin.Tuple.tupleExact _) (wpAny_newObj_type (wpAny_pure ⟨_, rfl, wpAny_pure h⟩) htake)
    | exact wpAny_bind (m := Builtin.Tuple.tupleExact _) (wpAny_newObj_type (wpAny_bind (wpAny_pure (wpAny_pure ⟨_, rfl, wpAny_pure h⟩))) htake)
end
section
variable {X : Cx}
def tRevA (K : PySem.W.Frag) (te : TE) : TE := fun σ H Q => te σ H fun x H1 => (∃ a xs, x = .ref a ∧ SqL K H1 a xs ∧ ∀ p, H1 p = none → Q (.ref p) (upd H1 p (.lst xs.reverse))) ∨ (∃ a xs, x = .ref a ∧ SqT K H1 a xs ∧ ∀ p, H1 p = none → Q (.ref p) (upd H1 p (.tup xs.reverse)))
theorem pe_revA {e : Expr} {te : TE} {k : Nat} {p1 p2 p3 pos : Pos} (he : PE X e te) : PE X (.Subscript e (.Slice none none (some (.UnaryOp .USub (.Constant (.int 1) k p1) p2)) p3) pos) (tRevA X.K te) := by
  refine ⟨fun pins s σ H Q I h => ?_⟩
  refine Subscript_ (thn (he.run pins s σ H _ I h) fun v s1 ⟨x, H1, I1, r1, q1⟩ => ?_)
  have hst : PO X (some (.UnaryOp .USub (.Constant (.int 1) k p1) p2)) (tPart (tUn (rU fun i => .int (-i)) (tC (.int 1)))) := po_some (pe_un un_neg pe_int)
  rcases q1 with ⟨a, xs, ex, hx, q⟩ | ⟨a, xs, ex, hx, q⟩
  · subst ex
    cases r1
    refine wpAny_Slice (thn (po_none.run pins s1 σ H1 (fun o H2 => o = none ∧ H2 = H1) I1 ⟨rfl, rfl⟩) fun vl s2 ⟨l, H2, I2, pl, el, e2⟩ => ?_)
    subst el e2
    refine thn (po_none.run pins s2 σ H2 (fun o H3 => o = none ∧ H3 = H2) I2 ⟨rfl, rfl⟩) fun vu s3 ⟨u, H3, I3, pu, eu, e3⟩ => ?_
    subst eu e3
    refine thn (hst.run pins s3 σ H3 (fun o H4 => o = some (-1) ∧ H4 = H3) I3 ⟨1, rfl, -1, rfl, rfl, rfl⟩) fun vs s4 ⟨o, H4, I4, ps, eo, e4⟩ => ?_
    subst eo e4
    have I5 : Inv X pins σ H4 { s4 with heap := s4.heap.push { cls := .type "slice", data := .fields #[vl, vu, vs] } } := I4.kept (t' := s4.toks) fun b ob q => Heap.get?_push_of_some _ q
    obtain ⟨its, r, ht, hz⟩ := I5.list hx
    have hlen := r.length
    show wpAny (model X.prog X.w) X.A (subscriptTail e (.Slice none none (some (.UnaryOp .USub (.Constant (.int 1) k p1) p2)) p3) (.ref a) (.ref s4.heap.objs.size)) (EP X pins σ Q) X.xe { s4 with heap := s4.heap.push { cls := .type "slice", data := .fields #[vl, vu, vs] } }
    refine tail_any (ops := [.ref a, .ref s4.heap.objs.size]) ht.isList.typeIs (PySem.slot_list_getitem.lookup) ?_ (by with_unfolding_all rfl)
    refine wpAny_getItem_list_slice ht.isList (Heap.IsSliceOf.new _ vl vu vs) pl pu ps (by decide) ?_ (by rw [List.size_toArray]; omega)
    rw [PySem.W.krv_pick]
    refine ⟨.ref _, _, I5.laid (t' := s4.toks) (o := .lst xs.reverse) (fun b ob q => Heap.get?_push_of_some _ q) (Nat.le_refl _) ?_, rfl, q _ (I5.hok.fresh (Nat.le_refl _))⟩
    exact ⟨by rw [List.length_reverse]; exact hz, _, 0, r.reverse, Heap.get?_push_size _ rfl⟩
  · subst ex
    cases r1
    refine wpAny_Slice (thn (po_none.run pins s1 σ H1 (fun o H2 => o = none ∧ H2 = H1) I1 ⟨rfl, rfl⟩) fun vl s2 ⟨l, H2, I2, pl, el, e2⟩ => ?_)
    subst el e2
    refine thn (po_none.run pins s2 σ H2 (fun o H3 => o = none ∧ H3 = H2) I2 ⟨rfl, rfl⟩) fun vu s3 ⟨u, H3, I3, pu, eu, e3⟩ => ?_
    subst eu e3
    refine thn (hst.run pins s3 σ H3 (fun o H4 => o = some (-1) ∧ H4 = H3) I3 ⟨1, rfl, -1, rfl, rfl, rfl⟩) fun vs s4 ⟨o, H4, I4, ps, eo, e4⟩ => ?_
    subst eo e4
    have I5 : Inv X pins σ H4 { s4 with heap := s4.heap.push { cls := .type "slice", data := .fields #[vl, vu, vs] } } := I4.kept (t' := s4.toks) fun b ob q => Heap.get?_push_of_some _ q
    cases pl
    cases pu
    obtain ⟨its, r, ht, hz⟩ := I5.tuple hx
    have hlen := r.length
    show wpAny (model X.prog X.w) X.A (subscriptTail e (.Slice none none (some (.UnaryOp .USub (.Constant (.int 1) k p1) p2)) p3) (.ref a) (.ref s4.heap.objs.size)) (EP X pins σ Q) X.xe { s4 with heap := s4.heap.push { cls := .type "slice", data := .fields #[.none, .none, vs] } }
    refine tail_any (ops := [.ref a, .ref s4.heap.objs.size]) ht.typeIs (PyProof.Rows.slot_tuple_getitem.lookup) ?_ (by with_unfolding_all rfl)
    refine getItem_tuple_rev ht (Heap.IsSliceOf.new _ .none .none vs) ps ?_ (by rw [List.size_toArray]; omega)
    refine ⟨.ref _, _, I5.laid (t' := s4.toks) (o := .tup xs.reverse) (fun b ob q => Heap.get?_push_of_some _ q) (Nat.le_refl _) ?_, rfl, q _ (I5.hok.fresh (Nat.le_refl _))⟩
    exact ⟨by rw [List.length_reverse]; exact hz, _, r.reverse, IsTup.new _ _⟩
end
def gRev : D → R D
  | .lst xs => .ok (.lst xs.reverse)
  | .tup xs => .ok (.tup xs.reverse)
  | _ => .bad
theorem fe_rev {X : Cx} {ca : Cn} {W : WX} {e : Expr} {fa : Ev → R D} {k : Nat} {p1 p2 p3 pos : Pos} (h : FE X ca W e fa) : FE X ca W (.Subscript e (.Slice none none (some (.UnaryOp .USub (.Constant (.int 1) k p1) p2)) p3) pos) (e1 gRev fa) := by
  obtain ⟨t, p, kt⟩ := h.ex
  refine ⟨_, pe_revA p, fun B G H σ ρ Q s b r h => ?_⟩
  refine kt B G H σ ρ _ s b r (Wish.bind h fun d G1 H1 _ x1 w1 v a1 => ?_)
  cases d with
  | lst xs =>
    obtain ⟨q, vs, rfl, h1, h2⟩ := a1
    exact .inl ⟨q, vs, rfl, .of (x1.gh _ _ h1), fun l n => new_lst x1.gh w1 h2.reverse n⟩
  | tup xs =>
    obtain ⟨q, vs, rfl, h1, h2⟩ := a1
    exact .inr ⟨q, vs, rfl, tq x1.gh h1, fun l n => new_tup x1.gh w1 h2.reverse n⟩
  | _ => exact w1.elim
end Tk
namespace Tk
open PySem PySem.Spec L2 PyProof.Rows
def SqB (b : Bool) (K : PySem.W.Frag) (H : Hp) (a : Addr) (xs : List V) : Prop := match b with
  | false => SqL K H a xs
  | true => SqT K H a xs
def ItB (b : Bool) (h : Heap) (it a : Addr) (i : Nat) : Prop := match b with
  | false => h.IsListIter it a i
  | true => h.IsTupleIter it a i
def IsB (b : Bool) (h : Heap) (a : Addr) (items : Array Value) : Prop := match b with
  | false => h.IsList a items
  | true => h.IsTuple a items
def obB (b : Bool) (a : Addr) : Obj := match b with
  | false => { cls := .type "list_iterator", data := .fields #[.ref a, .int 0 0] }
  | true => { cls := .type "tuple_iterator", data := .fields #[.ref a, .int 0 0] }
theorem beginsB (b : Bool) (a : Addr) (items : Array Value) : Begins (.ref a) (obB b a) (fun h => IsB b h a items) := by
  cases b with
  | false => exact begins_list a items
  | true => exact begins_tuple a items
theorem itB0 {b : Bool} {h : Heap} {it a : Addr} (e : h.get? it = some (obB b a)) : ItB b h it a 0 := by
  cases b with
  | false => exact ⟨_, e, rfl, rfl⟩
  | true => exact ⟨_, e, rfl, rfl⟩
theorem ItB.there {b : Bool} {h : Heap} {it a : Addr} {i : Nat} (x : ItB b h it a i) : ∃ o, h.get? it = some o ∧ ∀ v, o.data ≠ .cell v := by
  cases b with
  | false => obtain ⟨o, e, _, d⟩ := x; exact ⟨o, e, fun v q => by rw [d] at q; cases q⟩
  | true => obtain ⟨o, e, _, d⟩ := x; exact ⟨o, e, fun v q => by rw [d] at q; cases q⟩
theorem ItB.move {b : Bool} {h h' : Heap} {it a : Addr} {i : Nat} (x : ItB b h it a i) (k : ∀ o, h.get? it = some o → h'.get? it = some o) : ItB b h' it a i := by
  cases b with
  | false => exact x.at fun o e => k o e
  | true => exact x.at fun o e => k o e
theorem drawsB {P : Program} {w : World} {A : Around} (hh : A.handled = none) (b : Bool) (it a : Addr) (ne : a ≠ it) (items : Array Value) : Draws P w A it [it, a] items.size (fun i v => items[i]? = some v) (fun i h => ItB b h it a i ∧ IsB b h a items) := by
  cases b with
  | false => exact Draws.list hh it a ne items
  | true => exact Draws.tuple hh it a ne items
section
variable {X : Cx} {pins : List (Addr × Obj)} {σ : L2.St} {H : Hp} {s : Shared} {b : Bool} {a : Addr} {xs ys : List V}
theorem inv_sq (I : Inv X pins σ H s) (q : SqB b X.K H a xs) : ∃ its : List Value, Vals xs its ∧ IsB b s.heap a its.toArray := by
  cases b with
  | false => obtain ⟨its, r, p, _⟩ := I.list q; exact ⟨its, r, p.isList⟩
  | true => obtain ⟨its, r, p, _⟩ := I.tuple q; exact ⟨its, r, p⟩
theorem inv_inj (I : Inv X pins σ H s) (q : SqB b X.K H a xs) (q' : SqB b X.K H a ys) : xs = ys := by
  cases b with
  | false => exact I.list_inj q q'
  | true => exact I.tuple_inj q q'
theorem IsB.lt {h : Heap} {items : Array Value} (x : IsB b h a items) : a < h.objs.size := by
  cases b with
  | false => obtain ⟨o, e, _⟩ := x; exact Heap.lt_size e
  | true => obtain ⟨o, e, _⟩ := x; exact Heap.lt_size e
theorem IsB.move {h h' : Heap} {items : Array Value} (x : IsB b h a items) (k : ∀ o, h.get? a = some o → h'.get? a = some o) : IsB b h' a items := by
  cases b with
  | false => exact x.at fun o e => k o e
  | true => exact x.at fun o e => k o e
theorem sq_apart (I : Inv X pins σ H s) (q : SqB b X.K H a xs) {c : Addr} (f : FpOk X pins H c) (hc : ∃ o, s.heap.get? c = some o ∧ o.cls ≠ .type "list" ∧ o.cls ≠ .type "tuple") : a ≠ c := by
  intro e
  subst e
  obtain ⟨its, _, ib⟩ := inv_sq I q
  obtain ⟨o, e, n1, n2⟩ := hc
  cases b with
  | false => obtain ⟨o', e', c', _⟩ := ib; rw [e] at e'; cases e'; exact n1 c'
  | true => obtain ⟨o', e', c', _⟩ := ib; rw [e] at e'; cases e'; exact n2 c'
end
theorem pair_new {P : Program} {w : World} {H : Hp} {h : Heap} {T : Addr} {x y : V} {u v : Value} (ru : RelV x u) (rv : RelV y v) (t : h.IsTuple T #[u, v]) : ObjOk P w (upd H T (.tup [x, y])) h T (.tup [x, y]) := by
  obtain ⟨o, e, c, n, d⟩ := t
  exact ⟨by show 2 ≤ sizeLine; decide, [u, v], .cons ru (.cons rv .nil), o, e, c, n, d⟩
def IteB (b : Bool) (K : PySem.W.Frag) (a : Addr) : It where
  go i H := ∃ xs x, SqB b K H a xs ∧ xs[i]? = some x
  yld i H v H' := ∃ T x, v = .ref T ∧ H T = none ∧ H' = upd H T (.tup [.int (i : Int), x]) ∧ ∀ xs, SqB b K H a xs → xs[i]? = some x
  stop i H := ∃ xs, SqB b K H a xs ∧ xs.length = i
theorem itB_not {b : Bool} {h : Heap} {it a : Addr} {i : Nat} (x : ItB b h it a i) : ∃ o, h.get? it = some o ∧ o.cls ≠ .type "list" ∧ o.cls ≠ .type "tuple" := by
  cases b with
  | false => obtain ⟨o, q, c, _⟩ := x; exact ⟨o, q, by rw [c]; decide +kernel, by rw [c]; decide +kernel⟩
  | true => obtain ⟨o, q, c, _⟩ := x; exact ⟨o, q, by rw [c]; decide +kernel, by rw [c]; decide +kernel⟩
theorem cls_not {h : Heap} {e : Addr} {T : String} {d : Data} {o : Option Addr} {sl : Array (Option Value)} (q : h.get? e = some { cls := .type T, dict := o, data := d, slots := sl }) (h1 : T ≠ "list") (h2 : T ≠ "tuple") : ∃ o, h.get? e = some o ∧ o.cls ≠ .type "list" ∧ o.cls ≠ .type "tuple" :=
  ⟨_, q, ⟨fun z => h1 (Value.type.inj z), fun z => h2 (Value.type.inj z)⟩⟩
theorem turn_enB {P : Program} {w : World} {K : PySem.W.Frag} {elts : List Expr} {kk : Nat} {tpos : Pos} (b : Bool) (a e it : Addr) (hei : e ≠ it) :
    Turn P w K (.Tuple elts kk tpos) (IteB b K a) [e, it] e (fun i h => (∃ old, IsEnum h e it (0 + (i : Int)) old) ∧ ItB b h it a i) where
  mem := List.mem_cons_self
  obj i h st c hc := by
    obtain ⟨⟨old, he⟩, hi⟩ := st
    rcases List.mem_cons.mp hc with z | hc
    · exact ⟨_, z ▸ he, fun v q => Data.noConfusion q⟩
    · rw [List.mem_singleton.mp hc]; exact hi.there
  keep i h h' st k := ⟨let ⟨old, he⟩ := st.1; ⟨old, k e List.mem_cons_self _ he⟩, st.2.move fun o q => k it (List.mem_cons_of_mem _ List.mem_cons_self) o q⟩
  item := by
    intro X hP hw hK hc i pins s σ H E I hf st hg
    subst hP hw hK
    obtain ⟨xs, x, hq, hx⟩ := hg
    obtain ⟨its, rv, ib⟩ := inv_sq I hq
    obtain ⟨u, hu, ru⟩ := rv.get hx
    obtain ⟨⟨old, he⟩, hi⟩ := id st
    have ane : a ≠ e := sq_apart I hq (hf e List.mem_cons_self) (cls_not he (by decide +kernel) (by decide +kernel))
    have ani : a ≠ it := sq_apart I hq (hf it (List.mem_cons_of_mem _ List.mem_cons_self)) (itB_not hi)
    have G := GoesN.enumFrom (prog := X.prog) (w := X.w) (A := X.A) (elts := elts) (x1 := kk) (pos := tpos) 0 (drawsB (P := X.prog) (w := X.w) (A := X.A.in1) (I.ok.hd hc) b it a ani its.toArray) e hei (by simp [hei, Ne.symm ane]) List.mem_cons_self
    have hlen : i < its.toArray.size := by
      have := (List.getElem?_eq_some_iff.mp hu).1
      simpa using this
    have lt : ∀ c ∈ [e, it], c < s.heap.objs.size := fun c hc => by
      rcases List.mem_cons.mp hc with q | q
      · rw [q]; exact Heap.lt_size he
      · rw [List.mem_singleton.mp q]; obtain ⟨o, q, _⟩ := hi.there; exact Heap.lt_size q
    refine wpAny_mono (G.goes i s (fun u' s2 => ∃ x H', Inv X pins σ H' s2 ∧ RelV x u' ∧ (IteB b X.K a).yld i H x H' ∧ ((∃ old, IsEnum s2.heap e it (0 + ((i + 1 : Nat) : Int)) old) ∧ ItB b s2.heap it a (i + 1)) ∧ ∀ b ∈ [e, it], H' b = none) E hlen ⟨⟨old, he⟩, hi, ib⟩ fun v h' tk hY st' kp ht => ?_) (fun _ _ z => z) fun _ _ z => z
    obtain ⟨T, t, u2, ev, hT, hu2, tT⟩ := hY
    have : u2 = u := by simpa [hu] using hu2.symm
    subst this ev
    have new : ObjOk X.prog X.w (upd H T (.tup [.int (i : Int), x])) h' T (.tup [.int (i : Int), x]) := pair_new ⟨t, by rw [Int.zero_add]⟩ ru tT
    refine ⟨.ref T, _, I.turnedNew (t' := tk) (ch := [e, it]) (fun c o hb q => kp c o hb q) hf hT new, rfl, ⟨T, x, rfl, I.hok.fresh hT, rfl, fun zs hz => by rw [inv_inj I hz hq]; exact hx⟩, ⟨st'.1, st'.2.1⟩, fun c hc => ?_⟩
    rw [upd_ne (fun z => by have l := lt c hc; rw [z] at l; exact absurd (Nat.lt_of_lt_of_le l hT) (Nat.lt_irrefl _))]
    exact (hf c hc).1
  done := by
    intro X hP hw hK hc i pins s σ H E I hf st hg
    subst hP hw hK
    obtain ⟨xs, hq, hl⟩ := hg
    obtain ⟨its, rv, ib⟩ := inv_sq I hq
    obtain ⟨⟨old, he⟩, hi⟩ := id st
    have ane : a ≠ e := sq_apart I hq (hf e List.mem_cons_self) (cls_not he (by decide +kernel) (by decide +kernel))
    have ani : a ≠ it := sq_apart I hq (hf it (List.mem_cons_of_mem _ List.mem_cons_self)) (itB_not hi)
    have G := GoesN.enumFrom (prog := X.prog) (w := X.w) (A := X.A) (elts := elts) (x1 := kk) (pos := tpos) 0 (drawsB (P := X.prog) (w := X.w) (A := X.A.in1) (I.ok.hd hc) b it a ani its.toArray) e hei (by simp [hei, Ne.symm ane]) List.mem_cons_self
    have ei : its.toArray.size = i := by rw [List.size_toArray, ← rv.length]; exact hl
    rw [ei] at G
    exact G.stops s _ E ⟨⟨old, he⟩, hi, ib⟩ fun h' tk kp _ => I.turnedL (t' := tk) (ch := [e, it]) kp hf
  self A i s Q E st h := let ⟨⟨_, he⟩, _⟩ := st; wpAny_pyIter_enum he h
set_option maxHeartbeats 1000000 in
theorem enum_newB {v : Value} {o : Obj} {H : Heap → Prop} (B : Begins v o H) :
    Meets (Builtin.«enumerate.__new__» ⟨[.type "enumerate", v], []⟩) (fun _ R s => H s.heap ∧
      R (.ok (.ret (.ref (s.heap.push o).objs.size))) { s with heap := (s.heap.push o).push { cls := .type "enumerate", data := .fields #[.none, .bool false, .ref s.heap.objs.size, rawInt 0, .none, .none] } }) := by
  refine .of_wp fun prog w A R s h => ?_
  obtain ⟨hp, g, d, tk, os⟩ := s
  obtain ⟨h1, h⟩ := h
  have hs := sub_enumerate
  have q : ∀ {A' : Around} {E : Value → Shared → Prop} {Q : Value → Shared → Prop}, Q (.ref hp.objs.size) ⟨hp.push o, g, d, tk, os⟩ → wpAny (model prog w) A' (pyIter v) Q E ⟨hp, g, d, tk, os⟩ := fun z => B.iter prog w _ _ ⟨hp, g, d, tk, os⟩ _ h1 z
  wp_walk using q
  refine wpAny_stack_any fun st => wpAny_pure ?_
  split
  · rename_i c _ _ _ _ _
    cases (c == Value.type "enumerate") <;> (wp_walk using q; exact ⟨_, rfl, h⟩)
  · wp_walk using q
    exact ⟨_, rfl, h⟩
theorem enum_begins1 {prog : Program} {w : World} {A : Around} {E : Value → Shared → Prop} {s : Shared} {v : Value} {o : Obj} {H : Heap → Prop} {Q : Value → Shared → Prop} (B : Begins v o H) (h1 : H s.heap)
    (h : ∀ h', IsEnum h' (s.heap.objs.size + 1) s.heap.objs.size 0 .none → h'.get? s.heap.objs.size = some o → (∀ b o, s.heap.get? b = some o → h'.get? b = some o) → Q (.ref (s.heap.objs.size + 1)) { s with heap := h' }) :
    wpAny (model prog w) A (call (.type "enumerate") [v]) Q E s := by
  refine callType_new F.called_enumerate (by decide) (F.typeCall_enumerate_1 _) (F.newCall_enumerate_1 _) (fun obj => F.args_object_init_2 obj _) F.entry_enumerate_new (enum_newB B) ⟨h1, ?_⟩
  have hz : (s.heap.push o).objs.size = s.heap.objs.size + 1 := Heap.size_push ..
  have he : IsEnum ((s.heap.push o).push { cls := .type "enumerate", data := .fields #[.none, .bool false, .ref s.heap.objs.size, rawInt 0, .none, .none] }) (s.heap.objs.size + 1) s.heap.objs.size 0 .none := by
    have q := Heap.get?_push_size (s.heap.push o) (o := { cls := .type "enumerate", data := .fields #[.none, .bool false, .ref s.heap.objs.size, rawInt 0, .none, .none] }) rfl
    rw [hz] at q
    exact q
  show _ ∧ _
  rw [hz]
  exact ⟨⟨_, he, rfl⟩, h _ he (Heap.get?_push_of_some _ (Heap.get?_push_size _ B.free)) fun b o x => Heap.get?_push_of_some _ (Heap.get?_push_of_some _ x)⟩
def wEnB (b : Bool) (K : PySem.W.Frag) (ta : TA) : TI := fun σ H R => ta σ H fun vs H1 => ∃ a xs, vs = [.ref a] ∧ SqB b K H1 a xs ∧ R (IteB b K a) H1
theorem pi_enB {X : Cx} (b : Bool) {e : Expr} {ta : TA} {p pos tpos : Pos} {elts : List Expr} {kk : Nat} (hg : Gl X "enumerate") (hm : X.mg "enumerate" = none) (ha : PA X [e] ta) (hs : starEach [e] X.env = [(false, eval e X.env)] := by rfl) :
    PI X (.Tuple elts kk tpos) (.Call (.Name "enumerate" p) [e] [] pos) (wEnB b X.K ta) := by
  refine ⟨fun pins s σ H R I h => ?_⟩
  refine Call_ (ld_blt I hg hm boot_enumerate (PyProof.Rows.callWith_type1 (thn (ha.run pos pins s σ H _ I h) fun us s1 ⟨vs, H1, I1, r1, a, xs, ex, hq, q⟩ => ?_) hs rfl))
  subst ex
  obtain ⟨u, rfl, ru⟩ := vals1 r1
  obtain rfl : u = Value.ref a := ru
  obtain ⟨its, rv, ib⟩ := inv_sq I1 hq
  refine enum_begins1 (beginsB b a its.toArray) ib fun h' he hi kp => wpAny_pyIter_enum he ?_
  refine ⟨s1.heap.objs.size + 1, [s1.heap.objs.size + 1, s1.heap.objs.size], _, _, H1, rfl, I1.kept (t' := s1.toks) kp, turn_enB b a (s1.heap.objs.size + 1) s1.heap.objs.size (Nat.succ_ne_self _), ⟨⟨.none, he⟩, itB0 hi⟩, fun c hc => ?_, q⟩
  have le : s1.heap.objs.size ≤ c := by
    rcases List.mem_cons.mp hc with z | z
    · rw [z]; exact Nat.le_succ _
    · rw [List.mem_singleton.mp z]; exact Nat.le_refl _
  exact I1.fpOk le (I1.hok.fresh le)
section
variable {P : Program} {w : World} {b c : Bool} {z t o i1 i2 a1 a2 : Addr} {elts : List Expr} {kk : Nat} {tpos : Pos}
end
def seqD : D → Option (Bool × List D)
  | .lst xs => some (false, xs)
  | .scr ns => some (false, ns.map .int)
  | .tup xs => some (true, xs)
  | .tpz xs => some (true, xs)
  | _ => none
def iEn2 (fa : Ev → R D) : Ev → R (List D) := fun ρ => (fa ρ).bind fun d => (optR (seqD d)).bind fun x => .ok (enumD 0 x.2)
def iZp2 (fa fb : Ev → R D) : Ev → R (List D) := fun ρ => (fa ρ).bind fun a => (fb ρ).bind fun b => (optR (seqD a)).bind fun x => (optR (seqD b)).bind fun y => .ok (zipD x.2 y.2)
section
variable {K : PySem.W.Frag} {ca : Cn} {G0 : Hp}
theorem seqD_at {d : D} {v : V} {x : Bool × List D} (h : At K ca G0 d v) (e : seqD d = some x) : ∃ a vs, v = .ref a ∧ SqB x.1 K G0 a vs ∧ AtL K ca G0 x.2 vs := by
  cases d with
  | lst xs => cases e; obtain ⟨a, vs, e1, h1, h2⟩ := h; exact ⟨a, vs, e1, SqL.of h1, h2⟩
  | scr ns => cases e; obtain ⟨a, e1, h1⟩ := h; exact ⟨a, _, e1, h1, AtL.of_ints ns⟩
  | tup xs => cases e; obtain ⟨a, vs, e1, h1, h2⟩ := h; exact ⟨a, vs, e1, tq (.refl _) h1, h2⟩
  | tpz xs => cases e; obtain ⟨a, o, vs, e1, oo, h1, h2⟩ := h; exact ⟨a, vs, e1, .inl (.inr ⟨o, h1⟩), h2⟩
  | _ => cases e
theorem sqB_mono {b : Bool} {H H' : Hp} {a : Addr} {xs : List V} (s : Same H H') (h : SqB b K H a xs) : SqB b K H' a xs := by
  cases b with
  | false => exact SqL_mono s h
  | true => exact SqT_mono s h
theorem jok_enB {b : Bool} {a : Addr} {ds : List D} {vs : List V} (h : SqB b K G0 a vs) (r : AtL K ca G0 ds vs) : JOk K ca G0 (IteB b K a) (enumD 0 ds) := by
  intro G H s1 s2 i
  have q : SqB b K H a vs := sqB_mono s2 (sqB_mono s1 h)
  refine ⟨fun d e => ?_, fun l => ⟨vs, q, by rw [enumD_len] at l; rw [← r.length]; exact l⟩⟩
  rw [enumD_get] at e
  obtain ⟨d0, e0, e1⟩ := Option.map_eq_some_iff.mp e
  obtain ⟨v, e2, a1⟩ := r.get e0
  refine ⟨⟨vs, v, q, e2⟩, fun x H' y => ?_⟩
  obtain ⟨T, x0, rfl, n, rfl, hx⟩ := y
  have := hx vs q
  rw [e2] at this
  cases this
  subst e1
  refine pair_at s2 n ?_ (At.mono s1 a1)
  rw [Nat.zero_add]
  rfl
end
section
variable {X : Cx} {ca : Cn} {W : WX} {e e' : Expr} {fa fb : Ev → R D} {p pos tpos : Pos} {elts : List Expr} {kk : Nat}
theorem fi_en2 (hg : Gl X "enumerate") (hm : X.mg "enumerate" = none) (h : FE X ca W e fa) (hs : starEach [e] X.env = [(false, eval e X.env)] := by rfl) : FI X ca W (.Tuple elts kk tpos) (.Call (.Name "enumerate" p) [e] [] pos) (iEn2 fa) := by
  obtain ⟨t, p, k⟩ := h.ex
  refine ⟨_, pi_or (pi_enB false hg hm (pa_cons p pa_nil hs) hs) (pi_enB true hg hm (pa_cons p pa_nil hs) hs), fun B G H σ ρ Q s b r h => ?_⟩
  have go : ∀ bb, (∀ d, fa ρ = .ok d → ∀ x, seqD d = some x → x.1 = bb) → wEnB bb X.K (tCons t tNil) σ H Q := fun bb hb => by
    refine k B G H σ ρ _ s b r (Wish.bind h fun d G1 H1 e1 x1 w1 v a1 => ?_)
    obtain ⟨x, ex, w2⟩ := wish_opt w1
    obtain ⟨a, vs, rfl, h1, h2⟩ := seqD_at a1 ex
    have := hb d e1 x ex
    subst this
    exact ⟨a, vs, rfl, sqB_mono x1.gh h1, w2.here x1.gh _ (jok_enB h1 h2)⟩
  cases z : fa ρ with
  | ok d =>
    cases q : seqD d with
    | none => exact .inl (go false fun d' e x ex => by rw [z] at e; cases e; rw [q] at ex; cases ex)
    | some x =>
      obtain ⟨bb, ds⟩ := x
      cases bb with
      | false => exact .inl (go false fun d' e x ex => by rw [z] at e; cases e; rw [q] at ex; cases ex; rfl)
      | true => exact .inr (go true fun d' e x ex => by rw [z] at e; cases e; rw [q] at ex; cases ex; rfl)
  | exc x => exact .inl (go false fun d' e => by rw [z] at e; cases e)
  | bad => exact .inl (go false fun d' e => by rw [z] at e; cases e)
end
end Tk
namespace Tk
open PySem PySem.Spec L2 PyProof.Rows
def tyD : D → Option String
  | .non => some "NoneType"
  | .bl _ => some "bool"
  | .int _ => some "int"
  | .str _ => some "str"
  | .scr _ => some "list"
  | .lst _ => some "list"
  | .tup _ => some "tuple"
  | .tpz _ => some "tuple"
  | .dK _ => some "dict"
  | _ => none
def gIsi : List D → R D
  | [d, .ty n] => (optR ((tyD d).bind fun t => kitB t n)).bind fun b => .ok (.bl b)
  | _ => .bad
def gIsB (neg : Bool) : D → D → R D
  | .bl a, .bl b => .ok (.bl (if neg then !decide (a = b) else decide (a = b)))
  | _, .bl _ => .ok (.bl neg)
  | _, _ => .bad
section
variable {X : Cx} {ca : Cn}
theorem tyX_of {G H : Hp} (s : Same G H) {d : D} {v : V} {t : String} (a : At X.K ca G d v) (e : tyD d = some t) : TyX X.K H v (.type t) := by
  cases d with
  | non => cases e; cases a; exact .base .non
  | bl b => cases e; cases a; exact .base (.bl b)
  | int b => cases e; cases a; exact .base (.int b)
  | str b => cases e; cases a; exact .base (.str b)
  | scr ns =>
    cases e
    obtain ⟨p, rfl, h⟩ := a
    rcases h with (h | ⟨o, h⟩) | ⟨o, its, n, k, c, _⟩
    · exact .base (.lst (s _ _ h))
    · exact .base (.frz (s _ _ h))
    · exact .kList k c
  | lst xs => cases e; obtain ⟨p, vs, rfl, h, _⟩ := a; exact .base (.lst (s _ _ h))
  | tup xs =>
    cases e
    obtain ⟨p, vs, rfl, h, _⟩ := a
    exact .base (.tup (s p _ h))
  | tpz xs =>
    cases e
    obtain ⟨p, o, vs, rfl, oo, h, _⟩ := a
    exact .fTuple (s _ _ h)
  | dK xs =>
    cases e
    obtain ⟨p, vs, rfl, h, _⟩ := a
    rcases h with h | ⟨o, h⟩
    · exact .base (.dK (s _ _ h))
    · exact .fDict (s _ _ h)
  | _ => cases e
theorem vn_isi : VN X ca (rIsi X.K) gIsi := by
  intro G H W1 xs ds Q s a w
  unfold gIsi at w
  split at w
  · obtain ⟨b, e, w⟩ := wish_opt w
    obtain ⟨t, e1, e2⟩ := Option.bind_eq_some_iff.mp e
    obtain ⟨v, v', rfl, a1, a2⟩ := atl2 a
    cases a2
    exact ⟨v, _, .type t, .type _, b, rfl, .ty _, tyX_of s a1 e1, kit_ty e2, w.here s _ rfl⟩
  · exact w.elim
theorem op_isB : OpR X (compareOp .Is) (fun x y H Q => ∃ b, y = .bl b ∧ Q (.bl (decide (x = .bl b))) H) := by
  intro pins s σ H x y v u Q I rx ry h
  obtain ⟨b, rfl, q⟩ := h
  cases (show u = Value.bool b from ry)
  cases x with
  | bl a =>
    cases (show v = Value.bool a from rx)
    exact wpAny_is_plain rfl (fin_bl I q (by cases a <;> cases b <;> rfl))
  | non => cases (show v = Value.none from rx); exact wpAny_is_plain rfl (fin_bl I q rfl)
  | int i => obtain ⟨t, rfl⟩ := rx; exact wpAny_is_plain rfl (fin_bl I q rfl)
  | str i => obtain ⟨t, rfl⟩ := rx; exact wpAny_is_plain rfl (fin_bl I q rfl)
  | byt i => obtain ⟨t, rfl⟩ := rx; exact wpAny_is_plain rfl (fin_bl I q rfl)
  | flt i => obtain ⟨t, rfl⟩ := rx; exact wpAny_is_plain rfl (fin_bl I q rfl)
  | ref i => cases (show v = Value.ref i from rx); exact wpAny_is_plain rfl (fin_bl I q rfl)
  | ty i => cases (show v = Value.type i from rx); exact wpAny_is_plain rfl (fin_bl I q rfl)
theorem at_bl {a : D} {x : V} {G : Hp} {b : Bool} (h : At X.K ca G a x) (n : ∀ c, a ≠ .bl c) : decide (x = .bl b) = false := by
  cases a with
  | bl c => exact (n c rfl).elim
  | non => cases h; rfl
  | int _ => cases h; rfl
  | str _ => cases h; rfl
  | ty _ => cases h; rfl
  | cl _ => obtain ⟨_, _, rfl⟩ := h; rfl
  | scr _ => obtain ⟨_, rfl, _⟩ := h; rfl
  | lst _ => obtain ⟨_, _, rfl, _⟩ := h; rfl
  | tup _ => obtain ⟨_, _, rfl, _⟩ := h; rfl
  | tpz _ => obtain ⟨_, _, _, rfl, _⟩ := h; rfl
  | tp0 => obtain ⟨_, rfl, _⟩ := h; rfl
  | zK _ => obtain ⟨_, _, _, rfl, _⟩ := h; rfl
  | zT _ => obtain ⟨_, _, _, rfl, _⟩ := h; rfl
  | dK _ => obtain ⟨_, _, rfl, _⟩ := h; rfl
  | dT _ => obtain ⟨_, _, rfl, _⟩ := h; rfl
  | ins _ _ => obtain ⟨_, _, _, _, rfl, _⟩ := h; rfl
theorem v2_isB : V2 X ca (fun x y H Q => ∃ b, y = .bl b ∧ Q (.bl (decide (x = .bl b))) H) (gIsB false) := by
  intro G H W1 x y a b Q s ax ay w
  unfold gIsB at w
  split at w
  · cases ax; cases ay; exact ⟨_, rfl, by rw [dec_VB]; exact w.here s _ rfl⟩
  · rename_i n; cases ay; exact ⟨_, rfl, by rw [at_bl ax fun c e => n c e]; exact w.here s _ rfl⟩
  · exact w.elim
theorem fe_bltn {W : WX} {x : Str} {n : String} {pos : Pos} (hg : Gl X x) (hm : X.mg x = none) (hv : bootBuiltins x = some (.type n)) (hn : x ≠ "__name__" := by decide) (hd : (x == ("__debug__" : Str)) = false := by decide) : FE X ca W (.Name x pos) (eC (.ty n)) :=
  ⟨_, pe_bltn (v := .ty n) hg hm hv rfl hn hd, fun B G H σ ρ Q s b r h => h.here s _ rfl⟩
end
section
variable {X : Cx} {ca : Cn}
end
end Tk
namespace Tk
open PySem PySem.Spec L2 PyProof.Rows
structure BT (mg : Str → Option Value) : Prop where
  len : mg "len" = none
  abs : mg "abs" = none
  int : mg "int" = none
  list : mg "list" = none
  tuple : mg "tuple" = none
  min : mg "min" = none
  max : mg "max" = none
  sum : mg "sum" = none
  all : mg "all" = none
  any : mg "any" = none
  sorted : mg "sorted" = none
  isinstance : mg "isinstance" = none
  range : mg "range" = none
  enumerate : mg "enumerate" = none
  zip : mg "zip" = none
  bool : mg "bool" = none
  str : mg "str" = none
  dict : mg "dict" = none
theorem bb_len : bootBuiltins "len" = some (.builtin "len") := by decide +kernel
theorem bb_abs : bootBuiltins "abs" = some (.builtin "abs") := by decide +kernel
theorem bb_int : bootBuiltins "int" = some (.type "int") := by decide +kernel
theorem bb_bool : bootBuiltins "bool" = some (.type "bool") := by decide +kernel
theorem bb_str : bootBuiltins "str" = some (.type "str") := by decide +kernel
theorem bb_list : bootBuiltins "list" = some (.type "list") := by decide +kernel
theorem bb_tuple : bootBuiltins "tuple" = some (.type "tuple") := by decide +kernel
theorem bb_sum : bootBuiltins "sum" = some (.builtin "sum") := by decide +kernel
theorem bb_all : bootBuiltins "all" = some (.builtin "all") := by decide +kernel
theorem bb_sorted : bootBuiltins "sorted" = some (.builtin "sorted") := by decide +kernel
theorem bb_isinstance : bootBuiltins "isinstance" = some (.builtin "isinstance") := by decide +kernel
section
variable {X : Cx} {ca : Cn} {W : WX} {e e' : Expr} {es : List Expr} {fl : Ev → R (List D)} {p pos : Pos}
structure Nm (X : Cx) (x : Str) (e : Expr) (es : List Expr) (pos : Pos) : Prop where
  g : Gl X x
  h : starEach (e :: es) X.env = (false, eval e X.env) :: starEach es X.env
  p : (backTo pos (starEach es X.env)).any (·.1) = false
theorem fe_len (T : BT X.mg) (ha : FA X ca W (e :: es) fl) (n : Nm X "len" e es pos := by exact ⟨rfl, rfl, rfl⟩) : FE X ca W (.Call (.Name "len" p) (e :: es) [] pos) (eA gLen fl) := fe_blt call_len vn_len n.g T.len bb_len ha (by decide) (by decide) n.h n.p
theorem fe_abs (T : BT X.mg) (ha : FA X ca W (e :: es) fl) (n : Nm X "abs" e es pos := by exact ⟨rfl, rfl, rfl⟩) : FE X ca W (.Call (.Name "abs" p) (e :: es) [] pos) (eA gAbs fl) := fe_blt call_abs vn_abs n.g T.abs bb_abs ha (by decide) (by decide) n.h n.p
theorem fe_intc (T : BT X.mg) (ha : FA X ca W (e :: es) fl) (n : Nm X "int" e es pos := by exact ⟨rfl, rfl, rfl⟩) : FE X ca W (.Call (.Name "int" p) (e :: es) [] pos) (eA gInt fl) := fe_bty call_int1 vn_int n.g T.int bb_int ha (by decide) (by decide) n.h n.p
theorem fe_listc (T : BT X.mg) (ha : FA X ca W (e :: es) fl) (n : Nm X "list" e es pos := by exact ⟨rfl, rfl, rfl⟩) : FE X ca W (.Call (.Name "list" p) (e :: es) [] pos) (eA gList fl) := fe_bty call_list_of vn_list n.g T.list bb_list ha (by decide) (by decide) n.h n.p
theorem fe_tuplec (T : BT X.mg) (ha : FA X ca W (e :: es) fl) (n : Nm X "tuple" e es pos := by exact ⟨rfl, rfl, rfl⟩) : FE X ca W (.Call (.Name "tuple" p) (e :: es) [] pos) (eA gTuple fl) := fe_bty call_tuple_of vn_tuple n.g T.tuple bb_tuple ha (by decide) (by decide) n.h n.p
theorem fe_sum (T : BT X.mg) (ha : FA X ca W (e :: es) fl) (hc : X.calm = true := by rfl) (n : Nm X "sum" e es pos := by exact ⟨rfl, rfl, rfl⟩) : FE X ca W (.Call (.Name "sum" p) (e :: es) [] pos) (eA gSum fl) := fe_blt (cr_sum hc) vn_sum n.g T.sum bb_sum ha (by decide) (by decide) n.h n.p
theorem fe_all (T : BT X.mg) (ha : FA X ca W (e :: es) fl) (hc : X.calm = true := by rfl) (n : Nm X "all" e es pos := by exact ⟨rfl, rfl, rfl⟩) : FE X ca W (.Call (.Name "all" p) (e :: es) [] pos) (eA gAll fl) := fe_blt (cr_all hc) vn_all n.g T.all bb_all ha (by decide) (by decide) n.h n.p
theorem fe_isi (T : BT X.mg) (ha : FA X ca W (e :: es) fl) (n : Nm X "isinstance" e es pos := by exact ⟨rfl, rfl, rfl⟩) : FE X ca W (.Call (.Name "isinstance" p) (e :: es) [] pos) (eA gIsi fl) := fe_blt call_isi vn_isi n.g T.isinstance bb_isinstance ha (by decide) (by decide) n.h n.p
theorem fe_ty_int (T : BT X.mg) (hg : Gl X "int" := by rfl) : FE X ca W (.Name "int" pos) (eC (.ty "int")) := fe_bltn hg T.int bb_int (by decide) (by decide)
theorem fe_ty_bool (T : BT X.mg) (hg : Gl X "bool" := by rfl) : FE X ca W (.Name "bool" pos) (eC (.ty "bool")) := fe_bltn hg T.bool bb_bool (by decide) (by decide)
theorem fe_ty_str (T : BT X.mg) (hg : Gl X "str" := by rfl) : FE X ca W (.Name "str" pos) (eC (.ty "str")) := fe_bltn hg T.str bb_str (by decide) (by decide)
theorem fe_ty_list (T : BT X.mg) (hg : Gl X "list" := by rfl) : FE X ca W (.Name "list" pos) (eC (.ty "list")) := fe_bltn hg T.list bb_list (by decide) (by decide)
theorem fe_ty_tuple (T : BT X.mg) (hg : Gl X "tuple" := by rfl) : FE X ca W (.Name "tuple" pos) (eC (.ty "tuple")) := fe_bltn hg T.tuple bb_tuple (by decide) (by decide)
end
def Glb (mg : Str → Option Value) (x : Str) (d : D) : Prop := ∃ u, mg x = some u ∧ RelV (toV d) u ∧ flatD d = true
theorem fe_glb {X : Cx} {ca : Cn} {W : WX} {x : Str} {d : D} {pos : Pos} (h : Glb X.mg x d) (hg : Gl X x := by rfl) (hd : (x == ("__debug__" : Str)) = false := by decide) : FE X ca W (.Name x pos) (eC d) := by
  obtain ⟨u, h1, h2, h3⟩ := h
  exact fe_glob hg h1 h2 (fun G => by cases d <;> first | rfl | cases h3) hd
end Tk
namespace Tk
open PySem PySem.Spec L2 PyProof.Rows
def pickI {α : Type} : List Nat → List α → List α
  | [], _ => []
  | i :: is, l => match l[i]? with
    | some a => a :: pickI is l
    | none => pickI is l
theorem pick_vals {vs : List V} {us : List Value} (h : Vals vs us) : ∀ is : List Nat, Vals (pickI is vs) (pickI is us)
  | [] => .nil
  | i :: is => by
    unfold pickI
    cases e : vs[i]? with
    | none => rw [h.none_of e]; exact pick_vals h is
    | some x =>
      obtain ⟨u, e2, r⟩ := h.get e
      rw [e2]
      exact .cons r (pick_vals h is)
theorem pick_at {K : PySem.W.Frag} {ca : Cn} {G : Hp} {ds : List D} {vs : List V} (h : AtL K ca G ds vs) : ∀ is : List Nat, AtL K ca G (pickI is ds) (pickI is vs)
  | [] => rfl
  | i :: is => by
    unfold pickI
    cases e : ds[i]? with
    | none =>
      have e2 : vs[i]? = none := by rw [List.getElem?_eq_none_iff] at e ⊢; rw [← h.length]; exact e
      rw [e2]
      exact pick_at h is
    | some d =>
      obtain ⟨v, e2, a⟩ := h.get e
      rw [e2]
      exact ⟨v, _, rfl, a, pick_at h is⟩
def gDk (is : List Nat) (mid : List D) : List D → List D → List D := fun ds zs => pickI is (ds ++ (mid ++ zs))
theorem flat_at {K : PySem.W.Frag} {ca : Cn} {G : Hp} {d : D} (h : flatD d = true) : At K ca G d (toV d) := by
  cases d <;> first | rfl | cases h
theorem flats_at {K : PySem.W.Frag} {ca : Cn} {G : Hp} : ∀ {ds : List D}, ds.all flatD = true → AtL K ca G ds (ds.map toV)
  | [], _ => rfl
  | d :: ds, h => by
    rw [List.all_cons, Bool.and_eq_true] at h
    exact ⟨_, _, rfl, flat_at h.1, flats_at h.2⟩
abbrev kwV (kd : List (Str × D)) : List (Str × V) := kd.map fun q => (q.1, toV q.2)
section
variable {K : PySem.W.Frag} {ca : Cn} {x qual : Str} {params : Arguments} {body : List Stmt} {scope : Scope} {dd : List D} {kd : List (Str × D)} {f : Addr} {fd : FuncData} {ps : List Str}
theorem kb_of {n : Nat} {ks : List Str} {is : List Nat} {mid : List D} {its : List Value} (hm : mid.all flatD = true) (hv : Vals (mid.map toV) its)
    (to : ∀ (s : Shared) (us ws : List Value), K.In s.heap → us.length = n → ws.length = ks.length → BindsTo s fd ⟨us, ks.zip ws⟩ (ps.zip (pickI is (us ++ (its ++ ws))))) : KB K ca fd ps n ks (gDk is mid) :=
  ⟨fun us ws => pickI is (us ++ (its ++ ws)), fun vs zs => pickI is (vs ++ (mid.map toV ++ zs)), ⟨to, fun r1 r2 => pick_vals (r1.append (hv.append r2)) is⟩, fun G ds vs zs ws a b => pick_at (a.append ((flats_at hm).append b)) is⟩
theorem kb_k (F : FunD K x qual params body scope [] (kwV kd) f fd) (n : Nat) (ks : List Str) (is : List Nat) (ms : List (Str × D)) (hk : kd ≠ []) (hms : ∀ q ∈ kwV ms, q ∈ kwV kd) (hf : (ms.map (·.2)).all flatD = true)
    (h : ∀ (D : Addr) (doc pm : Value) (an : Option Addr) (cdv ct : Value) (us mv ws : List Value), us.length = n → mv.length = ms.length → ws.length = ks.length →
      KwChain D ((ms.map (·.1)).zip mv) (bindArgs (PySem.W.fnOf x qual params body scope .none (.ref D) doc pm an cdv ct) ⟨us, ks.zip ws⟩) (ps.zip (pickI is (us ++ (mv ++ ws))))) : KB K ca fd ps n ks (gDk is (ms.map (·.2))) := by
  obtain ⟨oc, od, dV, kV, doc, pm, an, cdv, ct, osl, rfl, lk, hcd, hD, hK⟩ := F.ex
  rcases hD with ⟨_, rfl⟩ | ⟨e, _⟩
  · rcases hK with e | ⟨D, rfl, hq⟩
    · exact absurd (List.map_eq_nil_iff.mp e) hk
    · obtain ⟨mv, hl, rk, hks⟩ := kwd_vals (ms := kwV ms) fun q hm => hq q (hms q hm)
      rw [List.length_map] at hl
      have e1 : (kwV ms).map (·.1) = ms.map (·.1) := by rw [List.map_map]; rfl
      have e2 : (kwV ms).map (·.2) = (ms.map (·.2)).map toV := by rw [List.map_map, List.map_map]; rfl
      rw [e1] at hks
      rw [e2] at rk
      exact kb_of hf rk fun s us ws X l1 l2 => BindsTo.of_looks fun M => KwChain.looks X hks (h D doc pm an cdv ct us mv ws l1 hl l2)
  · exact absurd rfl e
end
theorem FunD.same {K : PySem.W.Frag} {x x' q q' : Str} {pa pa' : Arguments} {bd bd' : List Stmt} {sc sc' : Scope} {dv dv' : List V} {kw kw' : List (Str × V)} {f : Addr} {fd fd' : FuncData} (F : FunD K x q pa bd sc dv kw f fd) (F' : FunD K x' q' pa' bd' sc' dv' kw' f fd') : fd = fd' := by
  obtain ⟨oc, od, dV, kV, doc, pm, an, cdv, ct, osl, e1, lk, _⟩ := F.ex
  obtain ⟨oc', od', dV', kV', doc', pm', an', cdv', ct', osl', e1', lk', _⟩ := F'.ex
  rw [lk] at lk'
  injection lk' with h
  injection h with h1 h2 h3 h4
  injection h3
abbrev FD (K : PySem.W.Frag) (x qual : Str) (st : Stmt) (dd : List D) (kd : List (Str × D)) (f : Addr) (fd : FuncData) : Prop := FunD K x qual (defArgs st) (defBody st) (defScope st) (dd.map toV) (kwV kd) f fd
structure FnAt (K : PySem.W.Frag) (mg : Str → Option Value) (x : Str) (st : Stmt) (dd : List D) (kd : List (Str × D)) : Prop where
  ex : ∃ f fd, FD K x x st dd kd f fd ∧ mg x = some (.ref f)
structure DefA (P : Program) (w : World) (K : PySem.W.Frag) (mg : Str → Option Value) (base : Heap) (ca : Cn) (k : Nat) (x : Str) (st : Stmt) (dd : List D) (kd : List (Str × D)) (ps : List Str) (F : List D → R D) : Prop where
  ex : ∃ f fd, FnOk P w K mg base (L2.CX P w) k f fd ps (spF K ca ps.length F) ∧ mg x = some (.ref f) ∧ FD K x x st dd kd f fd
section
variable {P : Program} {w : World} {K : PySem.W.Frag} {mg : Str → Option Value} {base : Heap} {ca : Cn} {x : Str} {st : Stmt} {dd : List D} {kd : List (Str × D)} {ps N : List Str} {k : Nat} {g : Ev → SO}
theorem DefA.of (h : FnAt K mg x st dd kd) (S : FnScope N ps (defScope st)) (hb : ∀ (f : Addr) (cdv : Value) (A : Around) (outer : List Env) (s : Shared) (H : Hp) (E : XK), Room k (A.deeper (envOfC x (defScope st) s.heap.objs.size f cdv)) →
      FSs (cxOf (L2.CX P w) P w K mg base N x (defScope st) f cdv A outer s H E) ca (fun c d _ H' => E c d H') (defBody st) g) : DefA P w K mg base ca (k + 1) x st dd kd ps (runF N.length g) := by
  obtain ⟨f, fd, F, hm⟩ := h.ex
  exact ⟨f, fd, fn_okD F S (hb f), hm, F⟩
end
section
variable {X : Cx} {ca : Cn} {W : WX} {k j n : Nat} {x : Str} {st : Stmt} {dd : List D} {kd : List (Str × D)} {ps ks : List Str} {Fn : List D → R D} {p pos : Pos} {e : Expr} {es : List Expr} {kws : List Keyword} {fa fk : Ev → R (List D)} {gD : List D → List D → List D}
theorem fe_a (d : DefA X.prog X.w X.K X.mg X.base ca k x st dd kd ps Fn) (hb : ∀ {f fd}, FD X.K x x st dd kd f fd → Binds X.K fd ps []) (hr : Room j X.A) (tk : Takes X W) (ha : FA X ca W (e :: es) fa) (hk : k ≤ j := by decide) (hg : Gl X x := by rfl) (hdb : (x == ("__debug__" : Str)) = false := by decide)
    (he : starEach (e :: es) X.env = (false, eval e X.env) :: starEach es X.env := by rfl) (hpl : (backTo pos (starEach es X.env)).any (·.1) = false := by rfl) : FE X ca W (.Call (.Name x p) (e :: es) [] pos) (eCall ps.length Fn fa) := by
  obtain ⟨f, fd, F, h1, h2⟩ := d.ex
  exact fe_call F (hr.mono hk) tk hg h1 h2.kp (hb h2) ha hdb he hpl
theorem fe_ak (d : DefA X.prog X.w X.K X.mg X.base ca k x st dd kd ps Fn) (hb : ∀ {f fd}, FD X.K x x st dd kd f fd → KB X.K ca fd ps n ks gD) (hr : Room j X.A) (tk : Takes X W) (ha : FA X ca W (e :: es) fa) (hkw : FK X ca W kws fk) (hk : k ≤ j := by decide) (hg : Gl X x := by rfl)
    (hall : (backToKw pos (keywordEach kws X.env)).all (·.1.isSome) = true := by rfl) (hks : (backToKw pos (keywordEach kws X.env)).filterMap (·.1) = ks := by rfl) (hdb : (x == ("__debug__" : Str)) = false := by decide)
    (he : starEach (e :: es) X.env = (false, eval e X.env) :: starEach es X.env := by rfl) (hpl : ((backTo pos (starEach (e :: es) X.env)).any (·.1) || (backToKw pos (keywordEach kws X.env)).any (·.1.isNone)) = false := by rfl) :
    FE X ca W (.Call (.Name x p) (e :: es) kws pos) (eCallK n ks.length ps.length Fn gD fa fk) := by
  obtain ⟨f, fd, F, h1, h2⟩ := d.ex
  exact fe_callK F (hr.mono hk) tk hg h1 h2.kp (hb h2) ha hkw hall hks hdb he hpl
end
structure Says (fa : List He.Fa) (fn : List He.DefD) (K : PySem.W.Frag) (mg : Str → Option Value) : Prop where
  h : ∃ hp : Heap, K.In hp ∧ hp.Ns mainGlobals mg
  c : He.SaysD fa fn K
def dvD : D → He.Dv
  | .non => .non
  | .bl b => .bl b
  | .int i => .int i
  | .str s => .str s
  | _ => .non
def dfD (p : Str × Option Str) (x qual : Str) (st : Stmt) (dd : List D) (kd : List (Str × D)) : He.DefD := ⟨p, x, qual, defArgs st, defBody st, defScope st, dd.map dvD, kd.map fun q => (q.1, dvD q.2)⟩
theorem dv_eq {K : PySem.W.Frag} {d : D} (h : flatD d = true) : (dvD d).v K = toV d := by
  cases d <;> first | rfl | cases h
section
variable {fa : List He.Fa} {fn : List He.DefD} {K : PySem.W.Frag} {mg : Str → Option Value} {x : Str} {st : Stmt} {dd : List D} {kd : List (Str × D)}
theorem Says.fd (T : Says fa fn K mg) (i : Nat) {p : Str × Option Str} {q : Str} (hi : fn[i]? = some (dfD p x q st dd kd)) (h1 : dd.all flatD = true) (h2 : (kd.map (·.2)).all flatD = true) : ∃ fd, FD K x q st dd kd (He.fAd K p) fd := by
  obtain ⟨fd, F⟩ := T.c.def_ i hi
  have e1 : He.DefD.dvs K (dfD p x q st dd kd) = dd.map toV := by
    show (dd.map dvD).map (He.Dv.v K) = _
    rw [List.map_map]
    exact List.map_congr_left fun d m => dv_eq (List.all_eq_true.mp h1 d m)
  have e2 : He.DefD.kws K (dfD p x q st dd kd) = kwV kd := by
    show (kd.map fun q => (q.1, dvD q.2)).map (fun q => (q.1, q.2.v K)) = _
    rw [List.map_map]
    refine List.map_congr_left fun d m => ?_
    show (d.1, (dvD d.2).v K) = (d.1, toV d.2)
    rw [dv_eq (List.all_eq_true.mp h2 d.2 (List.mem_map.mpr ⟨d, m, rfl⟩))]
  rw [e1, e2] at F
  exact ⟨fd, F⟩
theorem Says.dfn (T : Says fa fn K mg) (j i : Nat) (hj : fa[j]? = some (.glo x) := by rfl) (hi : fn[i]? = some (dfD (x, none) x x st dd kd) := by rfl) (h1 : dd.all flatD = true := by rfl) (h2 : (kd.map (·.2)).all flatD = true := by rfl) : FnAt K mg x st dd kd := by
  obtain ⟨hp, X, G⟩ := T.h
  obtain ⟨fd, F⟩ := T.fd i hi h1 h2
  exact ⟨He.fAd K (x, none), fd, F, He.glo_ok X G (T.c.fact j hj)⟩
theorem Says.free (T : Says fa fn K mg) (j : Nat) (hj : fa[j]? = some (.free x) := by rfl) : mg x = none := by
  obtain ⟨hp, X, G⟩ := T.h
  exact He.free_ok X G (T.c.fact j hj)
theorem Says.int (T : Says fa fn K mg) (j : Nat) {i : Int} (hj : fa[j]? = some (.int x i) := by rfl) : Glb mg x (.int i) := by
  obtain ⟨hp, X, G⟩ := T.h
  obtain ⟨t, h⟩ := He.int_ok X G (T.c.fact j hj)
  exact ⟨_, h, ⟨t, rfl⟩, rfl⟩
theorem Says.str (T : Says fa fn K mg) (j : Nat) {z : Str} (hj : fa[j]? = some (.str x z) := by rfl) : Glb mg x (.str z) := by
  obtain ⟨hp, X, G⟩ := T.h
  obtain ⟨t, h⟩ := He.str_ok X G (T.c.fact j hj)
  exact ⟨_, h, ⟨t, rfl⟩, rfl⟩
end
def faB : List He.Fa := [.free "len", .free "abs", .free "int", .free "list", .free "tuple", .free "min", .free "max", .free "sum", .free "all", .free "any", .free "sorted", .free "isinstance", .free "range", .free "enumerate", .free "zip", .free "bool", .free "str", .free "dict"]
theorem Says.bt {fa : List He.Fa} {fn : List He.DefD} {K : PySem.W.Frag} {mg : Str → Option Value} (T : Says (faB ++ fa) fn K mg) : BT mg :=
  ⟨T.free 0, T.free 1, T.free 2, T.free 3, T.free 4, T.free 5, T.free 6, T.free 7, T.free 8, T.free 9, T.free 10, T.free 11, T.free 12, T.free 13, T.free 14, T.free 15, T.free 16, T.free 17⟩
end Tk
namespace Tk
open PySem PySem.Spec L2 PyProof.Rows
def MutR (K : PySem.W.Frag) (ca : Cn) (r : V → List V → Hp → VK → Prop) (g : List D → List D → Option (List D)) : Prop :=
  ∀ (G H : Hp) (l : Addr) (xs ds xs' : List D) (vs ys : List V) (Q : VK), Same G H → H l = some (.lst vs) → AtL K ca G xs vs → AtL K ca G ds ys → g xs ds = some xs' → (∀ vs', AtL K ca G xs' vs' → Q .non (upd H l (.lst vs'))) → r (.ref l) ys H Q
def sMut (i : Nat) (g : List D → List D → Option (List D)) (fl : Ev → R (List D)) : Ev → SO := fun ρ => SO.from ρ (ownL ρ i) fun xs => SO.from ρ (fl ρ) fun ds => match g xs ds with
  | some xs' => .nx (ρ.set i (.l xs'))
  | none => .bad
def mClr (_ : List D) (ds : List D) : Option (List D) := match ds with
  | [] => some []
  | _ => none
theorem mut_clr {K : PySem.W.Frag} {ca : Cn} : MutR K ca rClear mClr := fun G H l xs ds xs' vs ys Q s h a b e q => by
  unfold mClr at e
  split at e
  · cases e; cases b; exact ⟨l, vs, rfl, rfl, h, q [] rfl⟩
  · cases e
section
variable {X : Cx} {ca : Cn} {W : WX} {e : Expr} {es : List Expr} {fl : Ev → R (List D)} {pos apos cpos py : Pos} {i : Nat} {y m : Str} {id : String} {r : V → List V → Hp → VK → Prop} {g : List D → List D → Option (List D)}
theorem fs_mut0 (slot : Slot "list" m id) (hty : typeOf (.builtin id) = pure (.type "method_descriptor")) (hm : MtR X id r) (hg : MutR X.K ca r g) (hi : X.N[i]? = some y)
    (hv : Vis X.env.scope y := by first | exact Or.inl rfl | exact Or.inr (Or.inl rfl) | exact Or.inr (Or.inr rfl)) (hd : (y == ("__debug__" : Str)) = false := by decide) (hcd : (y == ("__classdict__" : Str)) = false := by decide)
    (hb : attributeBase (.Name y py) m X.env (eval (.Name y py) X.env) = eval (.Name y py) X.env := by rfl) (hl : (apos.endLine == cpos.line) = true := by rfl)
    (hs : swapsWith (.Call (.Attribute (.Name y py) m apos) [] [] cpos) none pos.line X.env = pure false := by rfl) : FS X ca W (.Expr (.Call (.Attribute (.Name y py) m apos) [] [] cpos) pos) (sMut i g aN) := by
  refine ⟨_, ps_expr (pe_bm0 PySem.F.plainAttrs_list slot hty hm (pe_var hi hv hd hcd) hb hl) hs, fun B G H σ ρ D s b r h => ?_⟩
  unfold sMut at h
  cases z : ownL ρ i with
  | ok xs =>
    rw [z] at h
    obtain ⟨q, a, vs, h1, h2, h3, h4, h5⟩ := own_l z r
    refine ⟨_, h1, .inl ⟨rfl, vs, .of h2⟩, ?_⟩
    have w : WishS X.K ca B G (match g xs [] with | some xs' => .nx (ρ.set i (.l xs')) | none => .bad) D W := h
    split at w
    · rename_i xs' hx
      refine hg G H a xs [] xs' vs [] _ s h2 h3 rfl hx fun vs' a' => ?_
      obtain ⟨t1, t2, t3⟩ := r.turn s b (t' := .l xs') (o := .lst vs') q rfl rfl h1 ⟨_, upd_same, a'⟩
      exact w _ G _ ⟨.refl _, t2, t3, fun c z => .inl z⟩ t1
    · exact w.elim
  | exc x => unfold ownL at z; split at z <;> cases z
  | bad => rw [z] at h; exact h.elim
end
def sPop (i : Nat) : Ev → SO := fun ρ => SO.from ρ (ownL ρ i) fun xs => if xs.length = 0 then .bad else .nx (ρ.set i (.l xs.dropLast))
theorem AtL.dropLast {K : PySem.W.Frag} {ca : Cn} {G : Hp} : ∀ {ds : List D} {vs : List V}, AtL K ca G ds vs → AtL K ca G ds.dropLast vs.dropLast
  | ds, vs, h => by rw [List.dropLast_eq_take, List.dropLast_eq_take, ← h.length]; exact h.take _
end Tk
namespace Tk
open PySem PySem.Spec L2 PyProof.Rows
theorem hu64 {A : Around} {k : Nat} (hr : Room k A) : A.units + 64 < cLine := by have := hr.un; omega
theorem hu65 {A : Around} {k : Nat} (hr : Room k A) : A.units + 65 < cLine := by have := hr.un; omega
end Tk
namespace Tk
open PySem PySem.Spec L2 PyProof.Rows
def keyD : D → Option Key
  | .int i => some (.inl i)
  | .str z => some (.inr z)
  | _ => none
def keysD : List D → Option (List Key)
  | [] => some []
  | d :: r => match keyD d, keysD r with
    | some k, some ks => some (k :: ks)
    | _, _ => none
def keyT : D → Option (List Key)
  | .tup r => keysD r
  | _ => none
def getG {κ α : Type} [DecidableEq κ] (kvs : List (κ × α)) (k : κ) : Option α := (kvs.find? fun kv => decide (kv.1 = k)).map (·.2)
def putG {κ α : Type} [DecidableEq κ] (kvs : List (κ × α)) (k : κ) (v : α) : List (κ × α) :=
  if (kvs.any fun kv => decide (kv.1 = k)) = true then kvs.map (fun kv => if kv.1 = k then (kv.1, v) else kv) else kvs ++ [(k, v)]
def gIxA : D → D → R D
  | .dK kvs, d => (optR (keyD d)).bind fun k => optR (getG kvs k)
  | .dT kvs, d => (optR (keyT d)).bind fun k => optR (getG kvs k)
  | .zK kvs, d => (optR (keyD d)).bind fun k => optR (getG kvs k)
  | .zT kvs, d => (optR (keyT d)).bind fun k => optR (getG kvs k)
  | a, b => gIx a b
section
variable {K : PySem.W.Frag} {ca : Cn} {G : Hp}
theorem key_at {d : D} {v : V} {k : Key} (a : At K ca G d v) (e : keyD d = some k) : v = kV k := by
  cases d with
  | int i => cases e; cases a; rfl
  | str i => cases e; cases a; rfl
  | _ => cases e
theorem keys_at : ∀ {ds : List D} {vs : List V} {ks : List Key}, AtL K ca G ds vs → keysD ds = some ks → vs = ks.map kV
  | [], _, _, a, e => by cases a; cases e; rfl
  | d :: r, _, ks, a, e => by
    obtain ⟨v, vs, rfl, a1, a2⟩ := a
    unfold keysD at e
    cases z1 : keyD d with
    | none => rw [z1] at e; cases e
    | some k =>
      cases z2 : keysD r with
      | none => rw [z1, z2] at e; cases e
      | some ks' =>
        rw [z1, z2] at e
        cases e
        rw [key_at a1 z1, keys_at a2 z2]
        rfl
theorem AtK.get : ∀ {kvs : List (Key × D)} {vs : List (Key × V)} (k : Key), AtK K ca G kvs vs → match getG kvs k with
    | some d => ∃ v, valV vs k = some v ∧ At K ca G d v
    | none => valV vs k = none
  | [], _, k, h => by cases h; rfl
  | (k', d) :: kvs, _, k, ⟨v, r, e, h, t⟩ => by
    subst e
    unfold getG valV
    rw [List.find?_cons, List.find?_cons]
    by_cases z : k' = k
    · simp only [z, decide_true]
      exact ⟨v, rfl, h⟩
    · simp only [z, decide_false]
      exact AtK.get k t
theorem AtT.get : ∀ {kvs : List (List Key × D)} {vs : List (List Key × V)} (k : List Key), AtT K ca G kvs vs → match getG kvs k with
    | some d => ∃ v, valV vs k = some v ∧ At K ca G d v
    | none => valV vs k = none
  | [], _, k, h => by cases h; rfl
  | (k', d) :: kvs, _, k, ⟨v, r, e, h, t⟩ => by
    subst e
    unfold getG valV
    rw [List.find?_cons, List.find?_cons]
    by_cases z : k' = k
    · simp only [z, decide_true]
      exact ⟨v, rfl, h⟩
    · simp only [z, decide_false]
      exact AtT.get k t
theorem AtK.any : ∀ {kvs : List (Key × D)} {vs : List (Key × V)} (k : Key), AtK K ca G kvs vs → (kvs.any fun kv => decide (kv.1 = k)) = (vs.any fun kv => decide (kv.1 = k))
  | [], _, k, h => by cases h; rfl
  | (k', d) :: kvs, _, k, ⟨v, r, e, h, t⟩ => by subst e; rw [List.any_cons, List.any_cons, AtK.any k t]
theorem AtK.app : ∀ {kvs kws : List (Key × D)} {vs ws : List (Key × V)}, AtK K ca G kvs vs → AtK K ca G kws ws → AtK K ca G (kvs ++ kws) (vs ++ ws)
  | [], _, _, _, h, h' => by cases h; exact h'
  | (_, _) :: _, _, _, _, ⟨v, r, e, h, t⟩, h' => by subst e; exact ⟨v, _, rfl, h, AtK.app t h'⟩
theorem AtK.upd1 : ∀ {kvs : List (Key × D)} {vs : List (Key × V)} {k : Key} {d : D} {v : V}, AtK K ca G kvs vs → At K ca G d v → AtK K ca G (kvs.map fun kv => if kv.1 = k then (kv.1, d) else kv) (vs.map fun kv => if kv.1 = k then (kv.1, v) else kv)
  | [], _, k, d, v, h, a => by cases h; rfl
  | (k', d') :: kvs, _, k, d, v, ⟨v', r, e, h, t⟩, a => by
    subst e
    rw [List.map_cons, List.map_cons]
    have ih := AtK.upd1 (k := k) t a
    by_cases z : k' = k
    · rw [if_pos z, if_pos z]; exact ⟨v, _, rfl, a, ih⟩
    · rw [if_neg z, if_neg z]; exact ⟨v', _, rfl, h, ih⟩
theorem AtK.put {kvs : List (Key × D)} {vs : List (Key × V)} {k : Key} {d : D} {v : V} (h : AtK K ca G kvs vs) (a : At K ca G d v) : AtK K ca G (putG kvs k d) (putK vs k v) := by
  unfold putG putK
  rw [h.any k]
  split
  · exact h.upd1 a
  · exact h.app ⟨v, [], rfl, a, rfl⟩
theorem AtK.length : ∀ {kvs : List (Key × D)} {vs : List (Key × V)}, AtK K ca G kvs vs → kvs.length = vs.length
  | [], _, h => by cases h; rfl
  | (_, _) :: _, _, ⟨v, r, e, h, t⟩ => by subst e; rw [List.length_cons, List.length_cons, AtK.length t]
end
def rDG : R2 := fun x y H Q => ∃ a v, x = .ref a ∧ DGet H a y (some v) ∧ Q v H
theorem ix_dget {X : Cx} (hu : X.A.units + 1 < cLine) : IxR X rDG := by
  intro value slice pins s σ H x y v u Q I rx ry h hs
  obtain ⟨a, z, rfl, g, q⟩ := h
  cases rx
  have hT := dict_typeIs I g
  unfold subscriptTail
  refine wpAny_bind ?_
  rw [getitemInPython_of_ne hT.not_modules]
  refine wpAny_bind (wpAny_specialOf hT PySem.F.slot_dict_getitem.lookup ?_)
  have fin : wpAny (model X.prog X.w) X.A (subscripted slice false (.ref a) u) (fun r s₃ => wpAny (model X.prog X.w) X.A (letTemporaryGo value (.ref a) r >>= fun _ => pure r) (EP X pins σ Q) X.xe s₃) X.xe s := by
    rw [hs]
    exact wpAny_operating (wpAny_mono (d_getItem (E := X.xe) (Q := EP X pins σ Q) hu I g ry fun w' s3 I3 rw' => ⟨z, H, I3, rw', q⟩) (fun r s₃ h₃ => wpAny_bind (wpAny_letTemporaryGo (wpAny_pure h₃))) fun _ _ x => x)
  first
    | exact wpAny_pure (wpAny_bind fin)
    | exact wpAny_bind (wpAny_pure (wpAny_bind fin))
    | exact wpAny_bind fin
section
variable {X : Cx} {ca : Cn} {W : WX} {a b e : Expr} {fa fb : Ev → R D} {pos : Pos}
theorem ix_k {G H : Hp} {W1 : XK} {Q : VK} {kvs : List (Key × D)} {k : D} {x y : V} (s : Same G H) (ax : At X.K ca G (.dK kvs) x) (ay : At X.K ca G k y) (w : Wish X.K ca (SV X.K ca Q) G H ((optR (keyD k)).bind fun k => optR (getG kvs k)) W1) : rDG x y H Q := by
  obtain ⟨kk, e1, w⟩ := wish_opt w
  obtain ⟨p, vs, rfl, h1, h2⟩ := ax
  obtain ⟨z, e2, w⟩ := wish_opt' w
  have g := h2.get kk
  rw [e2] at g
  obtain ⟨v, g1, g2⟩ := g
  rw [key_at ay e1]
  refine ⟨p, v, rfl, ?_, w.here s _ g2⟩
  rw [← g1]
  exact .inl ⟨vs, kk, Rd.mono s h1, rfl, rfl⟩
theorem ix_t {G H : Hp} {W1 : XK} {Q : VK} {kvs : List (List Key × D)} {k : D} {x y : V} (s : Same G H) (ax : At X.K ca G (.dT kvs) x) (ay : At X.K ca G k y) (w : Wish X.K ca (SV X.K ca Q) G H ((optR (keyT k)).bind fun k => optR (getG kvs k)) W1) : rDG x y H Q := by
  obtain ⟨kk, e1, w3⟩ := wish_opt w
  obtain ⟨p, vs, rfl, h1, h2⟩ := ax
  obtain ⟨z, e2, w4⟩ := wish_opt' w3
  have g := h2.get kk
  rw [e2] at g
  obtain ⟨v, g1, g2⟩ := g
  have fin : Q v H := w4.here s _ g2
  unfold keyT at e1
  split at e1
  · obtain ⟨q, ws, rfl, t1, t2⟩ := ay
    have e3 := keys_at t2 e1
    subst e3
    refine ⟨p, v, rfl, ?_, fin⟩
    rw [← g1]
    exact .inr ⟨vs, kk, q, Rd.mono s h1, rfl, s q _ t1, rfl⟩
  · cases e1
theorem at_zk {K : PySem.W.Frag} {ca : Cn} {G : Hp} {kvs : List (Key × D)} {v : V} (a : At K ca G (.zK kvs) v) : At K ca G (.dK kvs) v := let ⟨p, o, vs, e, h, r⟩ := a; ⟨p, vs, e, .inr ⟨o, h⟩, r⟩
theorem at_zt {K : PySem.W.Frag} {ca : Cn} {G : Hp} {kvs : List (List Key × D)} {v : V} (a : At K ca G (.zT kvs) v) : At K ca G (.dT kvs) v := let ⟨p, o, vs, e, h, r⟩ := a; ⟨p, vs, e, .inr ⟨o, h⟩, r⟩
theorem v2_ixA : V2 X ca (fun x y H Q => rIx X.K x y H Q ∨ rDG x y H Q) gIxA := by
  intro G H W1 x y d k Q s ax ay w
  unfold gIxA at w
  split at w
  · exact .inr (ix_k s ax ay w)
  · exact .inr (ix_t s ax ay w)
  · exact .inr (ix_k s (at_zk ax) ay w)
  · exact .inr (ix_t s (at_zt ax) ay w)
  · exact .inl (v2_ix G H W1 x y d k Q s ax ay w)
theorem fe_ixA (hu : X.A.units + 65 < cLine) (hs : PlainIx b) (ha : FE X ca W a fa) (hb : FE X ca W b fb) : FE X ca W (.Subscript a b pos) (e2 gIxA fa fb) := by
  obtain ⟨ta, pa, ka⟩ := ha.ex
  obtain ⟨tb, pb, kb⟩ := hb.ex
  refine ⟨_, pe_ix (ix_seq.or (ix_dget (by omega))) pa pb hs, fun B G H σ ρ Q s b r h => ?_⟩
  refine ka B G H σ ρ _ s b r (Wish.bind h fun d G1 H1 _ x1 w1 v a1 => ?_)
  refine kb B G1 H1 σ ρ _ x1.gh (b.trans x1.hh) (r.ext x1) (Wish.bind w1 fun d2 G2 H2 _ x2 w2 v2 a2 => ?_)
  exact v2_ixA G2 H2 _ v v2 d d2 Q x2.gh (At.mono x2.gg a1) a2 w2
end
section
variable {X : Cx} {ca : Cn} {W : WX} {o e : Expr} {es : List Expr} {fo : Ev → R D} {fl : Ev → R (List D)} {apos cpos : Pos}
end
end Tk
namespace Tk
open PySem PySem.Spec L2 PyProof.Rows
section
variable {prog : Program} {w : World} {A : Around} {E : Value → Shared → Prop} {s : Shared} {z TI TO T i1 i2 : Addr} {f : Bool} {oT : Obj} {fp1 fp2 : List Addr} {n1 n2 i : Nat} {P1 P2 : Nat → Value → Prop} {St1 St2 : Nat → Heap → Prop}
end
theorem AtK.zip {K : PySem.W.Frag} {ca : Cn} {G : Hp} : ∀ {ks : List Key} {ds : List D} {vs : List V}, AtL K ca G ds vs → AtK K ca G (ks.zip ds) (ks.zip vs)
  | [], _, _, _ => rfl
  | k :: ks, [], _, h => by cases h; rfl
  | k :: ks, d :: ds, _, ⟨v, r, e, h, t⟩ => by subst e; exact ⟨v, _, rfl, h, AtK.zip t⟩
section
variable {X : Cx} {ca : Cn} {W : WX} {e e' : Expr} {fa fb : Ev → R D} {p p2 pos pos2 : Pos}
end
end Tk
namespace Tk
open PySem PySem.Spec L2 PyProof.Rows
def sAppPop (i j : Nat) (f : Ev → R D) : Ev → SO := fun ρ => SO.from ρ (ownL ρ i) fun xs => SO.from ρ (ownL ρ j) fun ys => SO.from ρ (f ρ) fun d => match d with
  | .int n => if 0 ≤ n ∧ n < 9223372036854775808 ∧ xs.length < sizeLine then (match ys[n.toNat]? with
    | some y => .nx ((ρ.set j (.l (ys.eraseIdx n.toNat))).set i (.l (xs ++ [y])))
    | none => .bad) else .bad
  | _ => .bad
section
variable {X : Cx} {ca : Cn} {W : WX} {e : Expr} {f : Ev → R D} {pos apos cpos py apos2 cpos2 pz : Pos} {i j : Nat} {y z : Str}
theorem fs_appPop (hi : X.N[i]? = some y) (hj : X.N[j]? = some z) (h : FE X ca W e f) (ne : i ≠ j := by decide)
    (hv : Vis X.env.scope y := by first | exact Or.inl rfl | exact Or.inr (Or.inl rfl) | exact Or.inr (Or.inr rfl)) (hd : (y == ("__debug__" : Str)) = false := by decide) (hcd : (y == ("__classdict__" : Str)) = false := by decide)
    (hv2 : Vis X.env.scope z := by first | exact Or.inl rfl | exact Or.inr (Or.inl rfl) | exact Or.inr (Or.inr rfl)) (hd2 : (z == ("__debug__" : Str)) = false := by decide) (hcd2 : (z == ("__classdict__" : Str)) = false := by decide)
    (he : starEach [e] X.env = (false, eval e X.env) :: starEach [] X.env := by rfl) (hb2 : attributeBase (.Name z pz) "pop" X.env (eval (.Name z pz) X.env) = eval (.Name z pz) X.env := by rfl)
    (hw2 : ((backTo cpos2 (starEach [e] X.env)).all (fun x => !x.1) && (backToKw cpos2 (keywordEach [] X.env)).all (fun x => x.1.isSome) && decide ([e].length + ([] : List Keyword).length + (if ([] : List Keyword).isEmpty then 0 else 1) < 30)) = true := by rfl) (hl2 : (apos2.endLine == cpos2.line) = true := by rfl) (hpl2 : (backTo cpos2 (starEach [] X.env)).any (·.1) = false := by rfl)
    (he1 : starEach [.Call (.Attribute (.Name z pz) "pop" apos2) [e] [] cpos2] X.env = (false, eval (.Call (.Attribute (.Name z pz) "pop" apos2) [e] [] cpos2) X.env) :: starEach [] X.env := by rfl) (hb : attributeBase (.Name y py) "append" X.env (eval (.Name y py) X.env) = eval (.Name y py) X.env := by rfl)
    (hw : ((backTo cpos (starEach [.Call (.Attribute (.Name z pz) "pop" apos2) [e] [] cpos2] X.env)).all (fun x => !x.1) && (backToKw cpos (keywordEach [] X.env)).all (fun x => x.1.isSome) && decide ([(.Call (.Attribute (.Name z pz) "pop" apos2) [e] [] cpos2 : Expr)].length + ([] : List Keyword).length + (if ([] : List Keyword).isEmpty then 0 else 1) < 30)) = true := by rfl)
    (hl : (apos.endLine == cpos.line) = true := by rfl) (hpl : (backTo cpos (starEach [] X.env)).any (·.1) = false := by rfl)
    (hs : swapsWith (.Call (.Attribute (.Name y py) "append" apos) [.Call (.Attribute (.Name z pz) "pop" apos2) [e] [] cpos2] [] cpos) none pos.line X.env = pure false := by rfl) :
    FS X ca W (.Expr (.Call (.Attribute (.Name y py) "append" apos) [.Call (.Attribute (.Name z pz) "pop" apos2) [e] [] cpos2] [] cpos) pos) (sAppPop i j f) := by
  obtain ⟨t, p, k⟩ := h.ex
  refine ⟨_, ps_expr (pe_bm PySem.F.plainAttrs_list PySem.F.slot_list_append PySem.F.type_list_append mt_append (pe_var hi hv hd hcd) (pa_cons (pe_bm PySem.F.plainAttrs_list PySem.F.slot_list_pop PySem.F.type_list_pop mt_popAt (pe_var hj hv2 hd2 hcd2) (pa_cons p pa_nil he) hb2 hw2 hl2 he hpl2) pa_nil he1) hb hw hl he1 hpl) hs, fun B G H σ ρ D s b r h => ?_⟩
  unfold sAppPop at h
  cases q1 : ownL ρ i with
  | exc x => unfold ownL at q1; split at q1 <;> cases q1
  | bad => rw [q1] at h; exact h.elim
  | ok xs =>
    rw [q1] at h
    cases q2 : ownL ρ j with
    | exc x => unfold ownL at q2; split at q2 <;> cases q2
    | bad => rw [q2] at h; exact h.elim
    | ok ys =>
      rw [q2] at h
      obtain ⟨r1, a, vs, a1, a2, a3, a4, a5⟩ := own_l q1 r
      obtain ⟨r2, c, ws, c1, c2, c3, c4, c5⟩ := own_l q2 r
      have nac : a ≠ c := fun z => ne (r.sep i j _ _ a r1 rfl r2 rfl a1 (by rw [z]; exact c1))
      refine ⟨_, a1, .inl ⟨rfl, vs, .of a2⟩, _, c1, .inl ⟨rfl, ws, .of c2⟩, k B G H σ ρ _ s b r (WishS.from h b r fun d G1 H1 _ x w r3 b1 v av => ?_)⟩
      cases d with
      | int n =>
        cases av
        have w2 : WishS X.K ca B G1 (if 0 ≤ n ∧ n < 9223372036854775808 ∧ xs.length < sizeLine then (match ys[n.toNat]? with
          | some y => .nx ((ρ.set j (.l (ys.eraseIdx n.toNat))).set i (.l (xs ++ [y])))
          | none => .bad) else .bad) D W := w
        split at w2
        · rename_i hn
          split at w2
          · rename_i yy hy
            obtain ⟨u, hu, au⟩ := c3.get hy
            have lw : n.toNat < ws.length := (List.getElem?_eq_some_iff.mp hu).1
            have lc := c3.length
            have la := a3.length
            refine ⟨c, ws, n, n.toNat, u, rfl, rfl, x.hh _ _ c2, by omega, by omega, ?_, hu, ?_⟩
            · exact seqIndex_of hn.1 (by omega)
            · obtain ⟨t1, t2, t3⟩ := r3.turn x.gh b1 (t' := .l (ys.eraseIdx n.toNat)) (o := .lst (ws.eraseIdx n.toNat)) r2 rfl rfl c1 ⟨_, upd_same, (AtL.mono x.gg c3).eraseIdx _⟩
              have e1 : (ρ.set j (.l (ys.eraseIdx n.toNat)))[i]? = some (.l xs) := by rw [List.getElem?_set_ne (Ne.symm ne)]; exact r1
              have e2 : upd H1 c (.lst (ws.eraseIdx n.toNat)) a = some (.lst vs) := by rw [upd_ne nac]; exact x.hh _ _ a2
              refine ⟨a, vs, u, rfl, rfl, e2, by omega, ?_⟩
              obtain ⟨u1, u2, u3⟩ := t1.turn t2 t3 (t' := .l (xs ++ [yy])) (o := .lst (vs ++ [u])) e1 rfl rfl a1 ⟨_, upd_same, (AtL.mono x.gg a3).append (.one (At.mono x.gg au))⟩
              exact w2 _ G1 _ ⟨.refl _, u2, u3, fun c z => .inl z⟩ u1
          · exact w2.elim
        · exact w2.elim
      | _ => exact w.elim
end
end Tk
namespace Tk
open PySem PySem.Spec L2 PyProof.Rows
def SN (K : PySem.W.Frag) (ca : Cn) (H0 : Hp) (Q : VK) : Hp → Sl → Hp → Prop := fun G' s H' => s.own = true ∧ ∀ a, Own K ca G' H' a s → G' a = none → H0 a = none → Q (.ref a) H'
theorem Wish.imp {α : Type} {K : PySem.W.Frag} {ca : Cn} {G H : Hp} {r : R α} {S S' : Hp → α → Hp → Prop} {W1 : XK} (h : Wish K ca S G H r W1) (q : ∀ G' d H', S G' d H' → S' G' d H') : Wish K ca S' G H r W1 := by
  cases r with
  | ok a => exact fun G' H' x => q _ _ _ (h G' H' x)
  | exc x => exact h
  | bad => exact h
structure FN (X : Cx) (ca : Cn) (W : WX) (e : Expr) (f : Ev → R Sl) : Prop where
  ex : ∃ t, PE X e t ∧ ∀ B G H σ ρ Q, Same G H → Same B H → Rel X.K ca B G H σ ρ → Wish X.K ca (SN X.K ca H Q) G H (f ρ) (WE W σ) → t σ H Q
def nL (f : Ev → R (List D)) : Ev → R Sl := fun ρ => (f ρ).bind fun ds => .ok (.l ds)
def sNew (i : Nat) (f : Ev → R Sl) : Ev → SO := fun ρ => SO.from ρ (f ρ) fun s => if s.own = true then .nx (ρ.set i s) else .bad
def sRetV (i : Nat) : Ev → SO := fun ρ => match ρ[i]? with
  | some s => if s.own = true then .ro s else .bad
  | none => .bad
def sRetF (f : Ev → R Sl) : Ev → SO := fun ρ => SO.from ρ (f ρ) fun s => if s.own = true then .ro s else .bad
def runO (n : Nat) (g : Ev → SO) : List D → R Sl := fun ds => (g (startE n ds)).outO
def oCall (n : Nat) (F : List D → R Sl) (fa : Ev → R (List D)) : Ev → R Sl := fun ρ => (fa ρ).bind fun ds => if ds.length = n then F ds else .bad
def spO (K : PySem.W.Frag) (ca : Cn) (n : Nat) (F : List D → R Sl) : Sp := fun vs H Q E => vs.length = n ∧ ∃ G ds, Same G H ∧ AtL K ca G ds vs ∧ Wish K ca (SN K ca H Q) G H (F ds) E
section
variable {X : Cx} {ca : Cn} {W : WX} {e : Expr} {es : List Expr} {f : Ev → R Sl} {fl fa : Ev → R (List D)} {pos p : Pos}
theorem fn_l (h : FL X ca W e fl) : FN X ca W e (nL fl) := by
  obtain ⟨t, pp, k⟩ := h.ex
  refine ⟨t, pp, fun B G H σ ρ Q s b r w => k B G H σ ρ Q s b r ?_⟩
  unfold nL at w
  cases z : fl ρ with
  | ok ds =>
    rw [z] at w
    exact fun G' H' x q vs n g hq av => (w G' H' x).2 q ⟨vs, hq, av⟩ g n
  | exc x => rw [z] at w; exact w
  | bad => rw [z] at w; exact w
theorem fs_new {i : Nat} {y : Str} {pos' : Pos} (hN : X.N.Nodup) (hi : X.N[i]? = some y) (h : FN X ca W e f) (hx : Loc X.env.scope y := by first | exact .inl rfl | exact .inr rfl) (hs : swapsWith e (some (.Name y pos')) pos.line X.env = pure false := by rfl)
    (hf : X.fn y = true ∨ X.env.scope.names.lookup y = some .local := by first | exact .inl rfl | exact .inr rfl | assumption) : FS X ca W (.Assign [.Name y pos'] e pos) (sNew i f) := by
  obtain ⟨t, p, kt⟩ := h.ex
  refine ⟨_, ps_set hN hi hx p hs hf, fun B G H σ ρ D s b r h => kt B G H σ ρ _ s b r ?_⟩
  refine WishS.from h b r fun sl G1 H1 e1 x w r1 b1 => ?_
  split at w
  · rename_i o
    refine ⟨o, fun a oa ga na => ?_⟩
    refine w _ G1 H1 (.refl x.gh b1) ?_
    exact r.setOwn x i na o oa ga (same_none b na)
  · exact w.elim
theorem fs_retF (h : FN X ca W e f) : FS X ca W (.Return (some e) pos) (sRetF f) := by
  obtain ⟨t, p, k⟩ := h.ex
  refine ⟨_, ps_ret p, fun B G H σ ρ D s b r h => k B G H σ ρ _ s b r ?_⟩
  refine WishS.from h b r fun sl G1 H1 e1 x w r1 b1 => ?_
  split at w
  · rename_i o
    exact ⟨o, fun a oa ga na => w.2 a G1 H1 (.refl x.gh b1) oa ga (same_none b na)⟩
  · exact w.elim
end
section
variable {P : Program} {w : World} {K : PySem.W.Frag} {mg : Str → Option Value} {base : Heap} {ca : Cn}
theorem body_okO {X : Cx} {W : WX} {body : List Stmt} {g : Ev → SO} {H : Hp} {vs : List V} {ds : List D} {G : Hp} {Q : VK} {E : XK} {N : List Str} (hK : X.K = K) (h : FSs X ca W body g) (hW : ∀ c d σ H', E c d H' → W c d σ H')
    (s : Same G H) (a : AtL K ca G ds vs) (q : Wish K ca (SN K ca H Q) G H (runO N.length g ds) E) : ∃ t, PSs X body t ∧ t { nx := fun _ H' => Q .non H', rt := Q } (L2.start N vs) H := by
  subst hK
  obtain ⟨t, p, k⟩ := h.ex
  refine ⟨t, p, k H G H _ (startE N.length ds) _ s (.refl H) (rel_start a) ?_⟩
  unfold runO at q
  have up : ∀ {G' H' : Hp}, Adv H G G' H' → Ext G H G' H' := fun x => ⟨x.bh, x.gg, x.gh, x.nw⟩
  cases z : g (startE N.length ds) with
  | ro sl =>
    rw [z] at q
    have own : sl.own = true := (q G H ⟨.refl _, .refl _, s, fun _ h => .inl h⟩).1
    exact ⟨own, fun a G' H' x oa ga ba => (q G' H' (up x)).2 a oa ga ba⟩
  | ex x ρ => rw [z] at q; exact fun σ' G' H' c dx y r e => hW _ _ _ _ (q G' H' c dx (up y) e)
  | nx ρ => rw [z] at q; exact q.elim
  | rt d => rw [z] at q; exact q.elim
  | bk ρ => rw [z] at q; exact q.elim
  | ct ρ => rw [z] at q; exact q.elim
  | bad => rw [z] at q; exact q.elim
theorem fn_okO {x qual : Str} {params : Arguments} {body : List Stmt} {scope : Scope} {dvs : List V} {kws : List (Str × V)} {f : Addr} {fd : FuncData} {N ps : List Str} {k : Nat} {g : Ev → SO} (F : FunD K x qual params body scope dvs kws f fd) (S : FnScope N ps scope)
    (hb : ∀ (cdv : Value) (A : Around) (outer : List Env) (s : Shared) (H : Hp) (E : XK), Room k (A.deeper (envOfC qual scope s.heap.objs.size f cdv)) →
      FSs (cxOf (L2.CX P w) P w K mg base N qual scope f cdv A outer s H E) ca (fun c d _ H' => E c d H') body g) : FnOk P w K mg base (L2.CX P w) (k + 1) f fd ps (spO K ca ps.length (runO N.length g)) :=
  F.ok S (fun vs H Q E h => h.1) fun cdv A outer s H vs Q E hr h => by
    obtain ⟨l, G, ds, sm, a, q⟩ := h
    exact body_okO rfl (hb cdv A outer s H E hr) (fun _ _ _ _ z => z) sm a q
structure DefO (P : Program) (w : World) (K : PySem.W.Frag) (mg : Str → Option Value) (base : Heap) (ca : Cn) (k : Nat) (x : Str) (st : Stmt) (dd : List D) (kd : List (Str × D)) (ps : List Str) (F : List D → R Sl) : Prop where
  ex : ∃ f fd, FnOk P w K mg base (L2.CX P w) k f fd ps (spO K ca ps.length F) ∧ mg x = some (.ref f) ∧ FD K x x st dd kd f fd
variable {x : Str} {st : Stmt} {dd : List D} {kd : List (Str × D)} {ps N : List Str} {k : Nat} {g : Ev → SO}
theorem DefO.of (h : FnAt K mg x st dd kd) (S : FnScope N ps (defScope st)) (hb : ∀ (f : Addr) (cdv : Value) (A : Around) (outer : List Env) (s : Shared) (H : Hp) (E : XK), Room k (A.deeper (envOfC x (defScope st) s.heap.objs.size f cdv)) →
      FSs (cxOf (L2.CX P w) P w K mg base N x (defScope st) f cdv A outer s H E) ca (fun c d _ H' => E c d H') (defBody st) g) : DefO P w K mg base ca (k + 1) x st dd kd ps (runO N.length g) := by
  obtain ⟨f, fd, F, hm⟩ := h.ex
  exact ⟨f, fd, fn_okO F S (hb f), hm, F⟩
end
section
variable {X : Cx} {ca : Cn} {W : WX} {k j n : Nat} {x : Str} {st : Stmt} {dd : List D} {kd : List (Str × D)} {ps ks : List Str} {Fn : List D → R Sl} {p pos : Pos} {e : Expr} {es : List Expr} {kws : List Keyword} {fa fk : Ev → R (List D)} {gD : List D → List D → List D}
end
def lLc (zs : List Nat) (fi : Ev → R (List D)) (h : Tg) (t : Ev → R Bool) (fe : Ev → R D) : Ev → R (List D) := fun ρ => (fi ρ).bind fun ds => if ds.length ≤ sizeLine then (lcL h t fe (wipeE ρ zs) ds).bind fun rs => .ok rs else .bad
section
variable {X : Cx} {ca : Cn} {W : WX} {zs : List Nat} {elt tg iter : Expr} {ifs : List Expr} {scope : Scope} {own : List (Str × Nat)} {pos : Pos} {fi : Ev → R (List D)} {h : Tg} {ft : Ev → R Bool} {fe : Ev → R D}
end
def sPutL (i : Nat) (f fi : Ev → R D) : Ev → SO := fun ρ => SO.from ρ (f ρ) fun d => SO.from ρ (ownL ρ i) fun xs => SO.from ρ (fi ρ) fun n => match n with
  | .int k => (match ixN xs.length k with
    | some j => .nx (ρ.set i (.l (xs.set j d)))
    | none => .bad)
  | _ => .bad
def eOwnIx (i : Nat) (fi : Ev → R D) : Ev → R D := fun ρ => (ownL ρ i).bind fun xs => (fi ρ).bind fun n => gIx (.lst xs) n
section
variable {X : Cx} {ca : Cn} {W : WX} {e ei : Expr} {f fi : Ev → R D} {pos p py : Pos} {i : Nat} {y : Str}
end
end Tk
namespace Tk
open PySem PySem.Spec L2 PyProof.Rows
def nmOf (l : List Str) (k : Nat) : Str := l.getD k Str.empty
theorem nm_inj {l : List Str} {f : Nat} (nd : l.Nodup) (h : f < l.length) (ne : Str.empty ∉ l) : ∀ k, nmOf l k = nmOf l f → k = f := fun k e => by
  unfold nmOf at e
  rw [List.getD_eq_getElem?_getD, List.getD_eq_getElem?_getD, List.getElem?_eq_getElem h] at e
  by_cases hk : k < l.length
  · rw [List.getElem?_eq_getElem hk] at e
    have e2 : l[k] = l[f] := e
    rcases Nat.lt_trichotomy k f with z | z | z
    · exact absurd e2 (List.pairwise_iff_getElem.mp nd k f hk h z)
    · exact z
    · exact absurd e2.symm (List.pairwise_iff_getElem.mp nd f k h hk z)
  · rw [List.getElem?_eq_none (by omega)] at e
    have e2 : Str.empty = l[f] := e
    exact absurd (e2 ▸ List.getElem_mem h) ne
def putN (f : Nat) (d : D) : List (Nat × D) → List (Nat × D)
  | [] => [(f, d)]
  | (g, x) :: r => if g = f then (g, d) :: r else (g, x) :: putN f d r
section
variable {K : PySem.W.Frag} {ca : Cn} {G : Hp}
theorem AtF.put {f : Nat} {d : D} {v : V} (hi : ∀ k, ca.n k = ca.n f → k = f) (h : At K ca G d v) : ∀ {fs : List (Nat × D)} {vs : List (Str × V)}, AtF K ca G fs vs → AtF K ca G (putN f d fs) (putF (ca.n f) v vs)
  | [], vs, a => by cases a; exact ⟨v, [], rfl, h, rfl⟩
  | (g, x) :: r, vs, ⟨u, us, e, b, t⟩ => by
    subst e
    unfold putN putF
    by_cases z : g = f
    · subst z
      rw [if_pos rfl, if_pos rfl]
      exact ⟨v, us, rfl, h, t⟩
    · rw [if_neg z, if_neg fun y => z (hi g y)]
      exact ⟨u, _, rfl, b, AtF.put hi h t⟩
theorem AtF.length : ∀ {fs : List (Nat × D)} {vs : List (Str × V)}, AtF K ca G fs vs → fs.length = vs.length
  | [], _, h => by cases h; rfl
  | (_, _) :: _, _, ⟨_, _, e, _, t⟩ => by subst e; simp [AtF.length t]
end
def ownO (ρ : Ev) (i : Nat) : R (Option Addr × Nat × List (Nat × D)) := match ρ[i]? with
  | some (.o g c fs) => .ok (g, c, fs)
  | _ => .bad
def sFldO (cs : List Nat) (i f : Nat) (fe : Ev → R D) : Ev → SO := fun ρ => SO.from ρ (fe ρ) fun d => SO.from ρ (ownO ρ i) fun q => if q.2.1 ∈ cs ∧ q.2.2.length < 1000 then .nx (ρ.set i (.o q.1 q.2.1 (putN f d q.2.2))) else .bad
def eFldO (cs : List Nat) (i f : Nat) : Ev → R D := fun ρ => (ownO ρ i).bind fun q => if q.2.1 ∈ cs then optR (q.2.2.lookup f) else .bad
section
variable {X : Cx} {ca : Cn} {W : WX} {e : Expr} {fe : Ev → R D} {pos p py pos' : Pos} {i f : Nat} {y nm : Str} {cs : List Nat}
theorem own_o {K : PySem.W.Frag} {B G H : Hp} {σ : L2.St} {ρ : Ev} {i : Nat} {q : Option Addr × Nat × List (Nat × D)} (h : ownO ρ i = .ok q) (r : Rel K ca B G H σ ρ) :
    ρ[i]? = some (.o q.1 q.2.1 q.2.2) ∧ ∃ a C dx vs, σ[i]? = some (some (.ref a)) ∧ (∀ b, q.1 = some b → a = b) ∧ ca.a q.2.1 = some C ∧ H a = some (.ins C dx vs) ∧ AtF K ca G q.2.2 vs ∧ G a = none ∧ B a = none := by
  unfold ownO at h
  split at h
  · rename_i g c fs z
    cases h
    obtain ⟨a, h1, ⟨C, dx, vs, hg, h2, h3, h4⟩, h5, h6⟩ := r.own i _ z rfl
    exact ⟨z, a, C, dx, vs, h1, hg, h2, h3, h4, h5, h6⟩
  · cases h
theorem fs_fldO (hi : X.N[i]? = some y) (hf : ca.n f = nm) (hn : ∀ k, ca.n k = ca.n f → k = f) (hc : ∀ c ∈ cs, ∀ C, ca.a c = some C → Cls X.K C ∧ NoAttr X.K C nm) (h : FE X ca W e fe)
    (hv : Vis X.env.scope y := by first | exact Or.inl rfl | exact Or.inr (Or.inl rfl) | exact Or.inr (Or.inr rfl)) (hd : (y == ("__debug__" : Str)) = false := by decide) (hcd : (y == ("__classdict__" : Str)) = false := by decide)
    (hs : swapsWith e (some (.Attribute (.Name y py) nm pos')) pos.line X.env = pure false := by rfl) : FS X ca W (.Assign [.Attribute (.Name y py) nm pos'] e pos) (sFldO cs i f fe) := by
  obtain ⟨t, pp, k⟩ := h.ex
  refine ⟨_, ps_fld (pe_var hi hv hd hcd) pp hs, fun B G H σ ρ D s b r w => k B G H σ ρ _ s b r ?_⟩
  refine WishS.from w b r fun d G1 H1 _ x w1 r1 b1 v av => ?_
  cases z : ownO ρ i with
  | exc x => unfold ownO at z; split at z <;> cases z
  | bad => rw [z] at w1; exact w1.elim
  | ok q =>
    rw [z] at w1
    obtain ⟨q0, a, C, dx, vs, h1, hg, h2, h3, h4, h5, h6⟩ := own_o z r1
    have w2 : WishS X.K ca B G1 (if q.2.1 ∈ cs ∧ q.2.2.length < 1000 then .nx (ρ.set i (.o q.1 q.2.1 (putN f d q.2.2))) else .bad) D W := w1
    split at w2
    · rename_i hm
      have l := h4.length
      obtain ⟨t1, t2, t3⟩ := r1.turn x.gh b1 (t' := .o q.1 q.2.1 (putN f d q.2.2)) (o := .ins C dx (putF nm v vs)) q0 rfl rfl h1 ⟨C, dx, _, hg, h2, upd_same, hf ▸ h4.put hn av⟩
      exact ⟨_, h1, a, C, dx, vs, rfl, h3, (hc _ hm.1 C h2).1, (hc _ hm.1 C h2).2, by rw [← l]; exact hm.2, w2 _ G1 _ ⟨.refl _, t2, t3, fun c z => .inl z⟩ t1⟩
    · exact w2.elim
theorem fe_fldO (hi : X.N[i]? = some y) (hf : ca.n f = nm) (hn : ∀ k, ca.n k = ca.n f → k = f) (hc : ∀ c ∈ cs, ∀ C, ca.a c = some C → Cls X.K C ∧ NoAttr X.K C nm)
    (hv : Vis X.env.scope y := by first | exact Or.inl rfl | exact Or.inr (Or.inl rfl) | exact Or.inr (Or.inr rfl)) (hd : (y == ("__debug__" : Str)) = false := by decide) (hcd : (y == ("__classdict__" : Str)) = false := by decide)
    (hb : attributeBase (.Name y py) nm X.env (eval (.Name y py) X.env) = eval (.Name y py) X.env := by rfl) : FE X ca W (.Attribute (.Name y py) nm pos) (eFldO cs i f) := by
  refine ⟨_, pe_fld (pe_var hi hv hd hcd) hb, fun B G H σ ρ Q s b r w => ?_⟩
  unfold eFldO at w
  cases z : ownO ρ i with
  | exc x => unfold ownO at z; split at z <;> cases z
  | bad => rw [z] at w; exact w.elim
  | ok q =>
    rw [z] at w
    obtain ⟨q0, a, C, dx, vs, h1, hg, h2, h3, h4, h5, h6⟩ := own_o z r
    have w2 : Wish X.K ca (SV X.K ca Q) G H (if q.2.1 ∈ cs then optR (q.2.2.lookup f) else .bad) (WE W σ) := w
    split at w2
    · rename_i hm
      obtain ⟨d, e, w3⟩ := wish_opt' w2
      obtain ⟨v, l1, l2⟩ := h4.lookup (fun p _ q => hn _ q) e
      rw [hf] at l1
      exact ⟨_, h1, a, C, dx, vs, v, rfl, h3, (hc _ hm C h2).1, (hc _ hm C h2).2, l1, w3.here s _ l2⟩
    · exact w2.elim
end
def eFrz (f : Ev → R Sl) : Ev → R D := fun ρ => (f ρ).bind frzR
theorem own_frzR {s : Sl} {d : D} (h : frzR s = .ok d) : s.own = true ∧ frzS s = .v d := by
  cases s with
  | no => cases h
  | x _ => cases h
  | tr _ => cases h
  | v _ => cases h
  | l _ => cases h; exact ⟨rfl, rfl⟩
  | k _ => cases h; exact ⟨rfl, rfl⟩
  | t _ => cases h; exact ⟨rfl, rfl⟩
  | o _ _ _ => cases h; exact ⟨rfl, rfl⟩
theorem frzR_ne {s : Sl} {x : Ex} : frzR s ≠ .exc x := by cases s <;> exact fun h => by cases h
section
variable {K : PySem.W.Frag} {ca : Cn} {G H : Hp}
theorem wish_frz {r : R Sl} {Q : VK} {W1 : XK} (h : Wish K ca (SV K ca Q) G H (r.bind frzR) W1) : Wish K ca (SN K ca H Q) G H r W1 := by
  cases r with
  | ok s =>
    have h1 : Wish K ca (SV K ca Q) G H (frzR s) W1 := h
    cases e : frzR s with
    | bad => rw [e] at h1; exact h1.elim
    | exc x => exact (frzR_ne e).elim
    | ok d =>
      rw [e] at h1
      obtain ⟨o1, o2⟩ := own_frzR e
      refine fun G' H' x => ⟨o1, fun a oa ga ha => ?_⟩
      obtain ⟨o, ho⟩ := oa.some
      have gg : Same G' (upd G' a o) := same_upd ga
      have gh : Same (upd G' a o) H' := fun c u e => by
        by_cases w : c = a
        · subst w; rw [upd_same] at e; rw [ho]; exact e
        · rw [upd_ne w] at e; exact x.gh c u e
      obtain ⟨d2, e1, e2⟩ := oa.at_ gg (show upd G' a o a = H' a by rw [upd_same, ho])
      rw [o2] at e1
      cases e1
      refine h1 (upd G' a o) H' ⟨x.hh, x.gg.trans gg, gh, fun c n => ?_⟩ (.ref a) e2
      by_cases w : c = a
      · subst w; exact .inr (.inl ha)
      · rw [upd_ne w] at n; exact x.nw c n
  | exc x => exact h
  | bad => exact h
end
theorem fe_new {X : Cx} {ca : Cn} {W : WX} {e : Expr} {f : Ev → R Sl} (h : FN X ca W e f) : FE X ca W e (eFrz f) := by
  obtain ⟨t, p, k⟩ := h.ex
  exact ⟨t, p, fun B G H σ ρ Q s b r w => k B G H σ ρ Q s b r (wish_frz w)⟩
def SI (K : PySem.W.Frag) (ca : Cn) (c : Nat) (a : Addr) (Q : VK) : Hp → List (Nat × D) → Hp → Prop := fun G' fs H' => Own K ca G' H' a (.o (some a) c fs) → G' a = none → Q .non H'
def spI (K : PySem.W.Frag) (ca : Cn) (c n : Nat) (F : Addr → List D → R (List (Nat × D))) : Sp := fun vs H Q E => vs.length = n ∧ ∃ B G ds a C dx us, vs = .ref a :: us ∧ ca.a c = some C ∧ H a = some (.ins C dx []) ∧ B a = none ∧ Same B H ∧ Same G B ∧ AtL K ca G ds us ∧ Wish K ca (SI K ca c a Q) G B (F a ds) E
def SO.outI (a : Addr) (c : Nat) : SO → R (List (Nat × D))
  | .nx ρ => (match ρ with
    | .o g c' fs :: _ => if g = some a ∧ c' = c then .ok fs else .bad
    | _ => .bad)
  | .ex x _ => .exc x
  | _ => .bad
def startI (a : Addr) (c n : Nat) (ds : List D) : Ev := .o (some a) c [] :: (ds.map Sl.v ++ List.replicate (n - ds.length - 1) .no)
def runI (c n : Nat) (g : Ev → SO) : Addr → List D → R (List (Nat × D)) := fun a ds => (g (startI a c n ds)).outI a c
theorem rel_startI {K : PySem.W.Frag} {ca : Cn} {B G H : Hp} {N : List Str} {ds : List D} {us : List V} {c : Nat} {a C : Addr} {dx : Addr} (hN : ds.length < N.length) (at_ : AtL K ca G ds us) (hc : ca.a c = some C) (ha : H a = some (.ins C dx [])) (ga : G a = none) (ba : B a = none) :
    Rel K ca B G H (L2.start N (.ref a :: us)) (startI a c N.length ds) := by
  have l := at_.length
  have own : ∀ {i : Nat} {s : Sl}, (startI a c N.length ds)[i]? = some s → s.own = true → i = 0 ∧ s = .o (some a) c [] := fun {i s} e o => by
    cases i with
    | zero => exact ⟨rfl, (Option.some.inj e).symm⟩
    | succ i => exact (own_start (ds := ds) (i := i) (n := N.length - ds.length - 1) (by simpa [startI] using e) o).elim
  refine ⟨?_, fun i d e => ?_, fun i s e o => ?_, fun i j s t x e o e2 o2 _ _ => ?_, fun i x e => ?_, _, .none fun i t e => ?_⟩
  rotate_left 5
  · cases i with
    | zero => cases e
    | succ i => exact (tr_start (ds := ds) (i := i) (n := N.length - ds.length - 1) (by simpa [startI] using e)).elim
  rotate_left 4
  · cases i with
    | zero => cases e
    | succ i => exact (ex_start (ds := ds) (i := i) (n := N.length - ds.length - 1) (by simpa [startI] using e)).elim
  · unfold L2.start startI
    simp only [List.length_cons, List.length_append, List.length_map, List.length_replicate]
    omega
  · cases i with
    | zero => cases e
    | succ i =>
      have e' : (ds.map Sl.v ++ List.replicate (N.length - ds.length - 1) Sl.no)[i]? = some (.v d) := by simpa [startI] using e
      obtain ⟨v, h1, h2⟩ := vals_start at_ e'
      refine ⟨v, ?_, h2⟩
      show ((V.ref a :: us).map some ++ List.replicate (N.length - (V.ref a :: us).length) none)[i + 1]? = _
      rw [List.map_cons, List.cons_append, List.getElem?_cons_succ, List.length_cons, ← l, show N.length - (ds.length + 1) = N.length - ds.length - 1 by omega]
      exact h1
  · obtain ⟨rfl, rfl⟩ := own e o
    exact ⟨a, rfl, ⟨C, dx, [], fun b e => Option.some.inj e, hc, ha, rfl⟩, ga, ba⟩
  · rw [(own e o).1, (own e2 o2).1]
section
variable {P : Program} {w : World} {K : PySem.W.Frag} {mg : Str → Option Value} {base : Heap} {ca : Cn}
theorem body_okI {X : Cx} {W : WX} {body : List Stmt} {g : Ev → SO} {H B : Hp} {us : List V} {ds : List D} {G : Hp} {Q : VK} {E : XK} {N : List Str} {c : Nat} {a C dx : Addr} (hK : X.K = K) (h : FSs X ca W body g) (hW : ∀ c d σ H', E c d H' → W c d σ H')
    (hN : ds.length < N.length) (hc : ca.a c = some C) (ha : H a = some (.ins C dx [])) (hb : B a = none) (s1 : Same B H) (s2 : Same G B) (at_ : AtL K ca G ds us) (q : Wish K ca (SI K ca c a Q) G B (runI c N.length g a ds) E) :
    ∃ t, PSs X body t ∧ t { nx := fun _ H' => Q .non H', rt := Q } (L2.start N (.ref a :: us)) H := by
  subst hK
  obtain ⟨t, p, k⟩ := h.ex
  have ga := same_none s2 hb
  refine ⟨t, p, k B G H _ (startI a c N.length ds) _ (s2.trans s1) s1 (rel_startI hN at_ hc ha ga hb) ?_⟩
  unfold runI at q
  have up : ∀ {G' H' : Hp}, Adv B G G' H' → Ext G B G' H' := fun x => ⟨x.bh, x.gg, x.gh, x.nw⟩
  have z0 : (L2.start N (.ref a :: us))[0]? = some (some (.ref a)) := rfl
  cases z : g (startI a c N.length ds) with
  | nx ρ =>
    rw [z] at q
    intro σ' G' H' x r
    cases ρ with
    | nil => exact q.elim
    | cons s0 ρ =>
      cases s0 with
      | o g0 c' fs =>
        have q2 : Wish X.K ca (SI X.K ca c a Q) G B (if g0 = some a ∧ c' = c then .ok fs else .bad) E := q
        split at q2
        · rename_i ec
          obtain ⟨rfl, rfl⟩ := ec
          obtain ⟨a', h1, h2, h3, h4⟩ := r.own 0 _ rfl rfl
          obtain ⟨C', dx', vs', hg, h5⟩ := id h2
          have ea := hg a rfl
          subst ea
          exact q2 G' H' (up x) h2 h3
        · exact q2.elim
      | _ => exact q.elim
  | ex x ρ => rw [z] at q; exact fun σ' G' H' c dx y r e => hW _ _ _ _ (q G' H' c dx (up y) e)
  | ro sl => rw [z] at q; exact q.elim
  | rt d => rw [z] at q; exact q.elim
  | bk ρ => rw [z] at q; exact q.elim
  | ct ρ => rw [z] at q; exact q.elim
  | bad => rw [z] at q; exact q.elim
theorem fn_okI {x qual : Str} {params : Arguments} {body : List Stmt} {scope : Scope} {dvs : List V} {kws : List (Str × V)} {f : Addr} {fd : FuncData} {N ps : List Str} {k c : Nat} {g : Ev → SO} (F : FunD K x qual params body scope dvs kws f fd) (S : FnScope N ps scope) (hN : ps.length ≤ N.length)
    (hb : ∀ (cdv : Value) (A : Around) (outer : List Env) (s : Shared) (H : Hp) (E : XK), Room k (A.deeper (envOfC qual scope s.heap.objs.size f cdv)) →
      FSs (cxOf (L2.CX P w) P w K mg base N qual scope f cdv A outer s H E) ca (fun c d _ H' => E c d H') body g) : FnOk P w K mg base (L2.CX P w) (k + 1) f fd ps (spI K ca c ps.length (runI c N.length g)) :=
  F.ok S (fun vs H Q E h => h.1) fun cdv A outer s H vs Q E hr h => by
    obtain ⟨l, B, G, ds, a, C, dx, us, rfl, hc, ha, hb', s1, s2, at_, q⟩ := h
    have l2 := at_.length
    have l3 : us.length + 1 = ps.length := l
    exact body_okI rfl (hb cdv A outer s H E hr) (fun _ _ _ _ z => z) (by omega) hc ha hb' s1 s2 at_ q
structure FDI (K : PySem.W.Frag) (qual : Str) (st : Stmt) (dd : List D) (kd : List (Str × D)) (f : Addr) (fd : FuncData) : Prop where
  ex : ∃ dvs, FunD K "__init__" qual (defArgs st) (defBody st) (defScope st) dvs (kwV kd) f fd ∧ ∀ ca G, AtL K ca G dd dvs
theorem FDI.of_flat {K : PySem.W.Frag} {qual : Str} {st : Stmt} {dd : List D} {kd : List (Str × D)} {f : Addr} {fd : FuncData} (F : FD K "__init__" qual st dd kd f fd) (h : dd.all flatD = true) : FDI K qual st dd kd f fd := ⟨_, F, fun ca G => flats_at h⟩
theorem FDI.fd {K : PySem.W.Frag} {qual : Str} {st : Stmt} {kd : List (Str × D)} {f : Addr} {fd : FuncData} (F : FDI K qual st [] kd f fd) : FD K "__init__" qual st [] kd f fd := by
  obtain ⟨dvs, h, a⟩ := F.ex
  have := a ⟨fun _ => none, fun _ => Str.empty, fun _ _ _ => False⟩ (fun _ => none)
  cases this
  exact h
structure DefI (P : Program) (w : World) (K : PySem.W.Frag) (mg : Str → Option Value) (base : Heap) (ca : Cn) (k c : Nat) (x qual : Str) (st : Stmt) (dd : List D) (kd : List (Str × D)) (ps : List Str) (F : Addr → List D → R (List (Nat × D))) : Prop where
  ex : ∃ f fd C, FnOk P w K mg base (L2.CX P w) k f fd ps (spI K ca c ps.length F) ∧ Mk K C f ∧ ca.a c = some C ∧ mg x = some (.ref C) ∧ FDI K qual st dd kd f fd
structure ClAt (K : PySem.W.Frag) (mg : Str → Option Value) (ca : Cn) (c : Nat) (x qual : Str) (st : Stmt) (dd : List D) (kd : List (Str × D)) : Prop where
  ex : ∃ f fd C, FDI K qual st dd kd f fd ∧ Mk K C f ∧ ca.a c = some C ∧ mg x = some (.ref C)
variable {x qual : Str} {st : Stmt} {dd : List D} {kd : List (Str × D)} {ps N : List Str} {k c : Nat} {g : Ev → SO}
theorem DefI.of (h : ClAt K mg ca c x qual st dd kd) (S : FnScope N ps (defScope st)) (hN : ps.length ≤ N.length) (hb : ∀ (f : Addr) (cdv : Value) (A : Around) (outer : List Env) (s : Shared) (H : Hp) (E : XK), Room k (A.deeper (envOfC qual (defScope st) s.heap.objs.size f cdv)) →
      FSs (cxOf (L2.CX P w) P w K mg base N qual (defScope st) f cdv A outer s H E) ca (fun c d _ H' => E c d H') (defBody st) g) : DefI P w K mg base ca (k + 1) c x qual st dd kd ps (runI c N.length g) := by
  obtain ⟨f, fd, C, F, h1, h2, h3⟩ := h.ex
  obtain ⟨dvs, F1, _⟩ := F.ex
  exact ⟨f, fd, C, fn_okI F1 S hN (hb f), h1, h2, h3, F⟩
end
noncomputable def unA {α : Type} (F : Addr → R α) : R α := by
  classical exact if ∀ a, F a = F 0 then F 0 else .bad
theorem unA_eq {α : Type} {F : Addr → R α} {r : R α} (h : ∀ a, F a = r) : unA F = r := by
  classical
  unfold unA
  rw [if_pos (fun a => (h a).trans (h 0).symm), h 0]
theorem unA_at {α : Type} {F : Addr → R α} (a : Addr) : F a = unA F ∨ unA F = .bad := by
  classical
  unfold unA
  by_cases h : ∀ a, F a = F 0
  · rw [if_pos h]; exact .inl (h a)
  · rw [if_neg h]; exact .inr rfl
structure KBI (K : PySem.W.Frag) (ca : Cn) (fd : FuncData) (ps : List Str) (n : Nat) (ks : List Str) (gD : List D → List D → List D) : Prop where
  ex : ∃ g gV, KBn K fd ps (n + 1) ks g gV ∧ ∀ x vs zs, ∃ us, gV (x :: vs) zs = x :: us ∧ ∀ G ds ws, AtL K ca G ds vs → AtL K ca G ws zs → AtL K ca G (gD ds ws) us
noncomputable def nMakeK (c n m p : Nat) (F : Addr → List D → R (List (Nat × D))) (gD : List D → List D → List D) (fa fk : Ev → R (List D)) : Ev → R Sl := fun ρ => (fa ρ).bind fun ds => (fk ρ).bind fun zs => if ds.length = n ∧ zs.length = m ∧ (gD ds zs).length + 1 = p then (unA fun a => F a (gD ds zs)).bind fun fs => .ok (.o none c fs) else .bad
section
variable {X : Cx} {ca : Cn} {W : WX} {k j c n : Nat} {x qual : Str} {st : Stmt} {dd : List D} {kd : List (Str × D)} {ps ks : List Str} {Fn : Addr → List D → R (List (Nat × D))} {p pos : Pos} {e : Expr} {es : List Expr} {kws : List Keyword} {fa fk : Ev → R (List D)} {gD : List D → List D → List D}
theorem make_wish {K : PySem.W.Frag} {ca : Cn} {c np : Nat} {Fn : Addr → List D → R (List (Nat × D))} {G1 H1 H0 : Hp} {ds : List D} {vs : List V} {Q : VK} {E : XK} {C : Addr} (hc : ca.a c = some C) (h0 : Same H0 H1) (sg : Same G1 H1) (a1 : AtL K ca G1 ds vs) (hl : ds.length + 1 = np)
    (w1 : Wish K ca (SN K ca H0 Q) G1 H1 ((unA fun a => Fn a ds).bind fun fs => .ok (.o none c fs)) E) {a dx : Addr} (n1 : H1 a = none) (n2 : H1 dx = none) (ne : dx ≠ a) :
    spI K ca c np Fn (.ref a :: vs) (upd (upd H1 dx (.own a)) a (.ins C dx [])) (fun v H2 => v = .non ∧ Q (.ref a) H2) E := by
  refine ⟨by rw [List.length_cons, ← a1.length]; exact hl, H1, G1, ds, a, C, dx, vs, rfl, hc, upd_same, n1, (same_upd n2).trans (same_upd (by rw [upd_ne (Ne.symm ne)]; exact n1)), sg, a1, ?_⟩
  rcases unA_at (F := fun a => Fn a ds) a with q | q
  · have q : Fn a ds = unA fun a => Fn a ds := q
    rw [q]
    cases z : unA fun a => Fn a ds with
    | ok fs =>
      rw [z] at w1
      refine fun G' H' y oa ga => ⟨rfl, ?_⟩
      obtain ⟨C', dx', vs', hg, h5⟩ := id oa
      exact (w1 G' H' y).2 a ⟨C', dx', vs', (fun b e => by cases e), h5⟩ ga (same_none h0 n1)
    | exc x => rw [z] at w1; exact w1
    | bad => rw [z] at w1; exact w1.elim
  · have q : (unA fun a => Fn a ds) = .bad := q
    rw [q] at w1; exact w1.elim
theorem run_makeKS {pins : List (Addr × Obj)} {σ : L2.St} {H : Hp} {s : Shared} {Q : VK} {us ws : List Value} {vs zs : List V} {f C : Addr} {fd : FuncData} {sp : Sp} {E : XK} {g : List Value → List Value → List Value} {gV : List V → List V → List V} (M : Mk X.K C f) (F : FnOk X.prog X.w X.K X.mg X.base (L2.CX X.prog X.w) k f fd ps sp) (hr : Room (k + 1) X.A) (hb : KBn X.K fd ps (n + 1) ks g gV)
    (hx : PassesAt (L2.CX X.prog X.w) X σ E) (I : Inv X pins σ H s) (r : Vals vs us) (rz : Vals zs ws) (l1 : vs.length = n) (l2 : zs.length = ks.length)
    (h : ∀ x dx, H x = none → H dx = none → dx ≠ x → sp (gV (.ref x :: vs) zs) (upd (upd H dx (.own x)) x (.ins C dx [])) (fun v H2 => v = .non ∧ Q (.ref x) H2) E) :
    wpAny (model X.prog X.w) X.A (call (.ref C) us (ks.zip ws)) (EP X pins σ Q) X.xe s := by
  have hq := h (s.heap.objs.size + 1) s.heap.objs.size (I.hok.fresh (Nat.le_succ _)) (I.hok.fresh (Nat.le_refl _)) (Nat.ne_of_lt (Nat.lt_succ_self _))
  have I2 := Inv.made (C := C) I
  have r1 : Vals (V.ref (s.heap.objs.size + 1) :: vs) (Value.ref (s.heap.objs.size + 1) :: us) := .cons rfl r
  have r2 := hb.rel r1 rz
  have e1 : (Value.ref (s.heap.objs.size + 1) :: us).length = n + 1 := r1.length.symm.trans (congrArg Nat.succ l1)
  have e2 : ws.length = ks.length := rz.length.symm.trans l2
  refine wpAny_call (make_map (f := f) I.kIn M.makes M.init (beq_iff_eq.mp M.fn) (codeAny_mono (F.run _ X.stack _ _ ⟨Value.ref (s.heap.objs.size + 1) :: us, ks.zip ws⟩ (g (Value.ref (s.heap.objs.size + 1) :: us) ws) _ _ E (hr.make C us (ks.zip ws))
    (I2.env0.make C us (ks.zip ws)) (hb.to _ (Value.ref (s.heap.objs.size + 1) :: us) ws I2.kIn e1 e2) r2 hq) fun r s' hq' => ?_))
  cases r with
  | error e => exact hx pins _ _ e s' I2 hq'
  | ok fl =>
    cases fl with
    | ret u =>
      obtain ⟨v, H', I3, rv, ev, q3⟩ := I2.after hq'
      subst ev
      exact ⟨rv, ⟨V.ref (s.heap.objs.size + 1), H', I3, rfl, q3⟩⟩
    | next => exact False.elim hq'
    | brk => exact False.elim hq'
    | cont => exact False.elim hq'
theorem fn_makeK (d : DefI X.prog X.w X.K X.mg X.base ca k c x qual st dd kd ps Fn) (hb : ∀ {f fd}, FDI X.K qual st dd kd f fd → KBI X.K ca fd ps n ks gD) (hr : Room j X.A) (tk : Takes X W) (ha : FA X ca W (e :: es) fa) (hkw : FK X ca W kws fk) (hk : k + 1 ≤ j := by decide) (hg : Gl X x := by rfl)
    (hall : (backToKw pos (keywordEach kws X.env)).all (·.1.isSome) = true := by rfl) (hks : (backToKw pos (keywordEach kws X.env)).filterMap (·.1) = ks := by rfl) (hdb : (x == ("__debug__" : Str)) = false := by decide)
    (he : starEach (e :: es) X.env = (false, eval e X.env) :: starEach es X.env := by rfl) (hpl : ((backTo pos (starEach (e :: es) X.env)).any (·.1) || (backToKw pos (keywordEach kws X.env)).any (·.1.isNone)) = false := by rfl) :
    FN X ca W (.Call (.Name x p) (e :: es) kws pos) (nMakeK c n ks.length ps.length Fn gD fa fk) := by
  obtain ⟨f, fd, C, F, M, hc, hm, h2⟩ := d.ex
  obtain ⟨t, pa, kt⟩ := ha.ex
  obtain ⟨u, pk, ku⟩ := hkw.ex
  obtain ⟨g, gV, hbn, hgd⟩ := (hb h2).ex
  refine ⟨fun σ H Q => t σ H fun vs H1 => u σ H1 fun zs H2 => vs.length = n ∧ zs.length = ks.length ∧ ∀ a dx, H2 a = none → H2 dx = none → dx ≠ a → spI X.K ca c ps.length Fn (gV (.ref a :: vs) zs) (upd (upd H2 dx (.own a)) a (.ins C dx [])) (fun v H3 => v = .non ∧ Q (.ref a) H3) (WE W σ), ⟨fun pins s σ H Q I h => ?_⟩, fun B G H σ ρ Q s b r h => ?_⟩
  · refine wpAny_Call_Name_kw (ld_glob I hg hm ?_ hdb)
    refine PySem.W.callWith_KW (h₀ := X.base) I.ok.mod.kin M.kp hall (thn (pa.run pos pins s σ H _ I h) fun us s1 ⟨vs, H1, I1, r1, q1⟩ => ?_) hpl he
    refine thn (pk.run pos pins s1 σ H1 _ I1 q1) fun ws s2 ⟨zs, H2, I2, r2, l1, l2, q2⟩ => ⟨I2.kIn, ?_⟩
    rw [hks]
    exact run_makeKS M F (hr.mono hk) hbn (passAt tk σ) I2 r1 r2 l1 l2 q2
  · refine kt B G H σ ρ _ s b r (Wish.bind h fun ds G1 H1 _ x1 w1 vs a1 => ?_)
    refine ku B G1 H1 σ ρ _ x1.gh (b.trans x1.hh) (r.ext x1) (Wish.bind w1 fun zs G2 H2 _ x2 w2 ws a2 => ?_)
    split at w2
    · rename_i hl
      refine ⟨by rw [← a1.length]; exact hl.1, by rw [← a2.length]; exact hl.2.1, fun a dx n1 n2 ne => ?_⟩
      obtain ⟨us, e, au⟩ := hgd (.ref a) vs ws
      rw [e]
      exact make_wish hc (x1.hh.trans x2.hh) x2.gh (au G2 ds zs (AtL.mono x2.gg a1) a2) hl.2.2 w2 n1 n2 ne
    · exact w2.elim
theorem fn_makeK0 (d : DefI X.prog X.w X.K X.mg X.base ca k c x qual st dd kd ps Fn) (hb : ∀ {f fd}, FDI X.K qual st dd kd f fd → KBI X.K ca fd ps 0 ks gD) (hr : Room j X.A) (tk : Takes X W) (hkw : FK X ca W kws fk) (hk : k + 1 ≤ j := by decide) (hg : Gl X x := by rfl)
    (hall : (backToKw pos (keywordEach kws X.env)).all (·.1.isSome) = true := by rfl) (hks : (backToKw pos (keywordEach kws X.env)).filterMap (·.1) = ks := by rfl) (hdb : (x == ("__debug__" : Str)) = false := by decide)
    (hpl : ((backTo pos (starEach [] X.env)).any (·.1) || (backToKw pos (keywordEach kws X.env)).any (·.1.isNone)) = false := by rfl) :
    FN X ca W (.Call (.Name x p) [] kws pos) (nMakeK c 0 ks.length ps.length Fn gD aN fk) := by
  obtain ⟨f, fd, C, F, M, hc, hm, h2⟩ := d.ex
  obtain ⟨u, pk, ku⟩ := hkw.ex
  obtain ⟨g, gV, hbn, hgd⟩ := (hb h2).ex
  refine ⟨fun σ H Q => u σ H fun zs H2 => zs.length = ks.length ∧ ∀ a dx, H2 a = none → H2 dx = none → dx ≠ a → spI X.K ca c ps.length Fn (gV [.ref a] zs) (upd (upd H2 dx (.own a)) a (.ins C dx [])) (fun v H3 => v = .non ∧ Q (.ref a) H3) (WE W σ), ⟨fun pins s σ H Q I h => ?_⟩, fun B G H σ ρ Q s b r h => ?_⟩
  · refine wpAny_Call_Name_kw (ld_glob I hg hm ?_ hdb)
    refine PySem.W.callWith_KW0 (h₀ := X.base) I.ok.mod.kin M.kp hall (thn (pk.run pos pins s σ H _ I h) fun ws s2 ⟨zs, H2, I2, r2, l2, q2⟩ => ⟨I2.kIn, ?_⟩) hpl
    rw [hks]
    exact run_makeKS (us := []) (vs := []) M F (hr.mono hk) hbn (passAt tk σ) I2 .nil r2 rfl l2 q2
  · refine ku B G H σ ρ _ s b r (Wish.bind (show Wish X.K ca (SN X.K ca H Q) G H ((fk ρ).bind fun zs => if ([] : List D).length = 0 ∧ zs.length = ks.length ∧ (gD [] zs).length + 1 = ps.length then (unA fun a => Fn a (gD [] zs)).bind fun fs => .ok (.o none c fs) else .bad) (WE W σ) from h) fun zs G2 H2 _ x2 w2 ws a2 => ?_)
    split at w2
    · rename_i hl
      refine ⟨by rw [← a2.length]; exact hl.2.1, fun a dx n1 n2 ne => ?_⟩
      obtain ⟨us, e, au⟩ := hgd (.ref a) [] ws
      rw [e]
      exact make_wish hc x2.hh x2.gh (au G2 [] zs rfl a2) hl.2.2 w2 n1 n2 ne
    · exact w2.elim
end
theorem pick_shift {α : Type} (x : α) (l : List α) : ∀ is : List Nat, (∀ i ∈ is, 1 ≤ i) → pickI is (x :: l) = pickI (is.map (· - 1)) l
  | [], _ => rfl
  | i :: is, h => by
    have h1 := h i List.mem_cons_self
    obtain ⟨j, rfl⟩ : ∃ j, i = j + 1 := ⟨i - 1, by omega⟩
    have ih := pick_shift x l is fun k m => h k (List.mem_cons_of_mem _ m)
    show (match (x :: l)[j + 1]? with | some a => a :: pickI is (x :: l) | none => pickI is (x :: l)) = (match l[j + 1 - 1]? with | some a => a :: pickI (is.map (· - 1)) l | none => pickI (is.map (· - 1)) l)
    rw [List.getElem?_cons_succ, Nat.add_sub_cancel, ih]
theorem kbi_of {K : PySem.W.Frag} {ca : Cn} {fd : FuncData} {ps ks : List Str} {n : Nat} {is : List Nat} {mid : List D} {its : List Value} (hm : mid.all flatD = true) (hv : Vals (mid.map toV) its) (hp : ∀ i ∈ is, 1 ≤ i)
    (to : ∀ (s : Shared) (us ws : List Value), K.In s.heap → us.length = n + 1 → ws.length = ks.length → BindsTo s fd ⟨us, ks.zip ws⟩ (ps.zip (pickI (0 :: is) (us ++ (its ++ ws))))) : KBI K ca fd ps n ks (gDk (is.map (· - 1)) mid) := by
  refine ⟨fun us ws => pickI (0 :: is) (us ++ (its ++ ws)), fun vs zs => pickI (0 :: is) (vs ++ (mid.map toV ++ zs)), ⟨to, fun r1 r2 => pick_vals (r1.append (hv.append r2)) (0 :: is)⟩, fun x vs zs => ⟨pickI (is.map (· - 1)) (vs ++ (mid.map toV ++ zs)), ?_, fun G ds ws a b => pick_at (a.append ((flats_at hm).append b)) _⟩⟩
  show (match (x :: (vs ++ (mid.map toV ++ zs)))[0]? with | some a => a :: pickI is (x :: (vs ++ (mid.map toV ++ zs))) | none => pickI is (x :: (vs ++ (mid.map toV ++ zs)))) = _
  rw [List.getElem?_cons_zero, pick_shift x _ is hp]
theorem KB.init {K : PySem.W.Frag} {fd : FuncData} {ps ks : List Str} {n : Nat} {is : List Nat} {mid : List D} (hm : mid.all flatD = true) (hp : ∀ i ∈ is, 1 ≤ i)
    (h : ∃ its : List Value, Vals (mid.map toV) its ∧ ∀ (s : Shared) (us ws : List Value), K.In s.heap → us.length = n + 1 → ws.length = ks.length → BindsTo s fd ⟨us, ks.zip ws⟩ (ps.zip (pickI (0 :: is) (us ++ (its ++ ws))))) {ca : Cn} : KBI K ca fd ps n ks (gDk (is.map (· - 1)) mid) := by
  obtain ⟨its, hv, to⟩ := h
  exact kbi_of hm hv hp to
structure MeAt (K : PySem.W.Frag) (ca : Cn) (c : Nat) (m qual : Str) (st : Stmt) (dd : List D) (kd : List (Str × D)) : Prop where
  ex : ∃ f fd C, FD K m qual st dd kd f fd ∧ ca.a c = some C ∧ Cls K C ∧ Meth K C m f
structure DefM (P : Program) (w : World) (K : PySem.W.Frag) (mg : Str → Option Value) (base : Heap) (ca : Cn) (k c : Nat) (m qual : Str) (st : Stmt) (dd : List D) (kd : List (Str × D)) (ps : List Str) (F : List D → R D) : Prop where
  ex : ∃ f fd C, FnOk P w K mg base (L2.CX P w) k f fd ps (spF K ca ps.length F) ∧ ca.a c = some C ∧ Cls K C ∧ Meth K C m f ∧ FD K m qual st dd kd f fd
section
variable {P : Program} {w : World} {K : PySem.W.Frag} {mg : Str → Option Value} {base : Heap} {ca : Cn} {m qual : Str} {st : Stmt} {dd : List D} {kd : List (Str × D)} {ps N : List Str} {k c : Nat} {g : Ev → SO}
theorem DefM.of (h : MeAt K ca c m qual st dd kd) (S : FnScope N ps (defScope st)) (hb : ∀ (f : Addr) (cdv : Value) (A : Around) (outer : List Env) (s : Shared) (H : Hp) (E : XK), Room k (A.deeper (envOfC qual (defScope st) s.heap.objs.size f cdv)) →
      FSs (cxOf (L2.CX P w) P w K mg base N qual (defScope st) f cdv A outer s H E) ca (fun c d _ H' => E c d H') (defBody st) g) : DefM P w K mg base ca (k + 1) c m qual st dd kd ps (runF N.length g) := by
  obtain ⟨f, fd, C, F, h1, h2, h3⟩ := h.ex
  exact ⟨f, fd, C, fn_okD F S (hb f), h1, h2, h3, F⟩
end
section
variable {X : Cx} {ca : Cn} {W : WX} {k j c nf n : Nat} {m qual : Str} {st : Stmt} {dd : List D} {kd : List (Str × D)} {ps ks : List Str} {Fn : List D → R D} {apos pos : Pos} {o e : Expr} {es : List Expr} {kws : List Keyword} {fo : Ev → R D} {fa fk : Ev → R (List D)} {gD : List D → List D → List D}
end
inductive Kd where
  | ty (n : String) | cl (c : Nat)
deriving DecidableEq
def kdD : D → Option Kd
  | .ins c _ => some (.cl c)
  | d => (tyD d).map .ty
theorem kd_ty {d : D} {k : Kd} (h : kdD d = some k) : (∃ c fs, d = .ins c fs ∧ k = .cl c) ∨ ∃ n, tyD d = some n ∧ k = .ty n := by
  cases d with
  | ins c fs => cases h; exact .inl ⟨c, fs, rfl, rfl⟩
  | _ =>
    simp only [kdD, Option.map_eq_some_iff] at h
    obtain ⟨n, n1, n2⟩ := h
    exact .inr ⟨n, n1, n2.symm⟩
def isiTab (tab : List (Kd × Bool)) (d : D) : Option Bool := (kdD d).bind fun k => (tab.find? fun p => decide (p.1 = k)).map (·.2)
def eIsi (tab : List (Kd × Bool)) (f : Ev → R D) : Ev → R D := fun ρ => (f ρ).bind fun d => (optR (isiTab tab d)).bind fun b => .ok (.bl b)
def kdV (ca : Cn) : Kd → Option Value
  | .ty n => some (.type n)
  | .cl c => (ca.a c).map Value.ref
structure InsTy (K : PySem.W.Frag) (C : Addr) : Prop where
  cl : Cls K C
  ha : PySem.W.findIn K (.ref C) "__class__" = some (some (.builtin "object.__class__"))
  hn : PySem.W.specialIn K (.builtin "object.__class__") "__get__" = some (some (.builtin "getset_descriptor.__get__"))
  ht : PySem.W.takesIn K (.builtin "object.__class__") = some true
  hm : PySem.W.mroIn K C (.type "object") = some true
structure IsiOk (K : PySem.W.Frag) (ca : Cn) (C : Addr) (tab : List (Kd × Bool)) : Prop where
  kit : ∀ p ∈ tab, ∃ t, kdV ca p.1 = some t ∧ PySem.W.kitOne K t (.ref C) = some p.2
  ins : ∀ c C', ca.a c = some C' → (∃ b, (Kd.cl c, b) ∈ tab) → InsTy K C'
theorem fe_isic {X : Cx} {ca : Cn} {W : WX} {tab : List (Kd × Bool)} {x z : Str} {C : Addr} {e : Expr} {f : Ev → R D} {p p2 pos : Pos} (hg : Gl X x) (hm : X.mg x = none) (hv' : bootBuiltins x = some (.builtin "isinstance")) (hz : Gl X z) (hC : X.mg z = some (.ref C)) (ok : IsiOk X.K ca C tab) (h : FE X ca W e f)
    (hrel : RelV (.ref C) (.ref C) := by rfl) (hn : x ≠ "__name__" := by decide) (hd : (x == ("__debug__" : Str)) = false := by decide) (hdz : (z == ("__debug__" : Str)) = false := by decide) (hcz : (z == ("__classdict__" : Str)) = false := by decide)
    (he : starEach [e, .Name z p2] X.env = (false, eval e X.env) :: starEach [.Name z p2] X.env := by rfl) (he2 : starEach [.Name z p2] X.env = (false, eval (.Name z p2) X.env) :: starEach [] X.env := by rfl) (hpl : (backTo pos (starEach [.Name z p2] X.env)).any (·.1) = false := by rfl) :
    FE X ca W (.Call (.Name x p) [e, .Name z p2] [] pos) (eIsi tab f) := by
  obtain ⟨t, pp, k⟩ := h.ex
  refine ⟨_, pe_callB call_isi hg hm hv' (pa_cons pp (pa_cons (pe_glob (v := .ref C) hz hC hrel hdz) pa_nil he2) he) hn hd he hpl, fun B G H σ ρ Q s b r w => ?_⟩
  refine k B G H σ ρ _ s b r (Wish.bind w fun d G1 H1 _ x1 w1 v av => ?_)
  have w2 : Wish X.K ca (SV X.K ca Q) G1 H1 ((optR (isiTab tab d)).bind fun b => .ok (.bl b)) (WE W σ) := w1
  obtain ⟨bb, e1, w3⟩ := wish_opt w2
  obtain ⟨kd, k1, k2⟩ := Option.bind_eq_some_iff.mp e1
  obtain ⟨⟨kd', b'⟩, f1, f2⟩ := Option.map_eq_some_iff.mp k2
  have f3' := List.find?_some f1
  have f3 : kd' = kd := of_decide_eq_true f3'
  have f4 := List.mem_of_find?_eq_some f1
  subst f3
  have f5 : b' = bb := f2
  subst f5
  obtain ⟨t, t1, t2⟩ := ok.kit _ f4
  have ty : TyX X.K H1 v t := by
    rcases kd_ty k1 with ⟨c, fs, rfl, rfl⟩ | ⟨n, n1, rfl⟩
    · obtain ⟨q, C', dx, vs, rfl, h1, h2, h3⟩ := av
      have t1' : (ca.a c).map Value.ref = some t := t1
      rw [h1] at t1'
      cases t1'
      have it := ok.ins c C' h1 ⟨_, f4⟩
      exact .base (.ins (x1.gh _ _ h2) it.cl it.ha it.hn it.ht it.hm)
    · cases t1
      exact tyX_of x1.gh av n1
  exact ⟨v, .ref C, t, .ref C, b', rfl, .own C, ty, t2, w3.here x1.gh _ rfl⟩
end Tk
namespace Tk
open PySem PySem.Spec L2 PyProof.Rows
def lCat (f g : Ev → R D) : Ev → R (List D) := fun ρ => (f ρ).bind fun a => (g ρ).bind fun b => match a, b with
  | .lst xs, .lst ys => if xs.length + ys.length ≤ sizeLine then .ok (xs ++ ys) else .bad
  | _, _ => .bad
theorem fl_cat {X : Cx} {ca : Cn} {W : WX} {a b : Expr} {fa fb : Ev → R D} {pos : Pos} (ha : FE X ca W a fa) (hb : FE X ca W b fb) : FL X ca W (.BinOp a .Add b pos) (lCat fa fb) := by
  obtain ⟨ta, pa, ka⟩ := ha.ex
  obtain ⟨tb, pb, kb⟩ := hb.ex
  refine ⟨_, pe_op op_cat pa pb, fun B G H σ ρ Q s b r h => ?_⟩
  refine ka B G H σ ρ _ s b r (Wish.bind (S := fun G' ds H' => ∀ p vs, H p = none → G' p = none → H' p = some (.lst vs) → AtL X.K ca G' ds vs → Q (.ref p) H') h fun d G1 H1 _ x1 w1 v a1 => ?_)
  refine kb B G1 H1 σ ρ _ x1.gh (b.trans x1.hh) (r.ext x1) (Wish.bind w1 fun d2 G2 H2 _ x2 w2 v2 a2 => ?_)
  split at w2
  · split at w2
    · rename_i xs ys hz
      obtain ⟨p, vs, rfl, h1, h2⟩ := a1
      obtain ⟨q, ws, rfl, h3, h4⟩ := a2
      have h2' := AtL.mono x2.gg h2
      refine ⟨p, q, vs, ws, rfl, rfl, x2.gh _ _ (x2.gg _ _ h1), x2.gh _ _ h3, by rw [← h2.length, ← h4.length]; exact hz, fun l n => ?_⟩
      exact w2 G2 (upd H2 l (.lst (vs ++ ws))) ⟨same_upd n, .refl _, x2.gh.trans (same_upd n), fun c z => .inl z⟩ l _ (same_none (x1.hh.trans x2.hh) n) (same_none x2.gh n) upd_same (h2'.append h4)
    · exact w2.elim
  · exact w2.elim
def noOwn : Ev → Bool
  | [] => true
  | .v _ :: ρ => noOwn ρ
  | .no :: ρ => noOwn ρ
  | _ :: _ => false
theorem noOwn_mem : ∀ {ρ : Ev}, noOwn ρ = true → ∀ s ∈ ρ, s.own = false
  | [], _, _, m => by cases m
  | .v d :: ρ, h, s, m => by
    rcases List.mem_cons.mp m with rfl | m
    · rfl
    · exact noOwn_mem (show noOwn ρ = true from h) s m
  | .no :: ρ, h, s, m => by
    rcases List.mem_cons.mp m with rfl | m
    · rfl
    · exact noOwn_mem (show noOwn ρ = true from h) s m
  | .l _ :: _, h, _, _ => by cases h
  | .k _ :: _, h, _, _ => by cases h
  | .t _ :: _, h, _, _ => by cases h
  | .o _ _ _ :: _, h, _, _ => by cases h
theorem noOwn_tr : ∀ {ρ : Ev} {i : Nat} {t : OT}, noOwn ρ = true → ρ[i]? = some (.tr t) → False
  | s :: ρ, 0, t, h, e => by
    cases e
    cases h
  | s :: ρ, i + 1, t, h, e => by
    have h2 : noOwn ρ = true := by
      cases s <;> first | exact h | cases h
    exact noOwn_tr h2 (by simpa using e)
theorem Rel.moved {K : PySem.W.Frag} {ca : Cn} {B G H H' : Hp} {σ : L2.St} {ρ : Ev} (n : noOwn ρ = true) (r : Rel K ca B G H σ ρ) : Rel K ca B G H' σ ρ :=
  ⟨r.len, r.val, fun i s e o => (by have := noOwn_mem n s (List.mem_of_getElem? e); rw [o] at this; cases this), fun i j s t a e o _ _ _ _ => (by have := noOwn_mem n s (List.mem_of_getElem? e); rw [o] at this; cases this), r.exc, _, .none fun i t e => noOwn_tr n e⟩
def tIc (K : PySem.W.Frag) (ca : Cn) (W : WX) (fi : Ev → R (List D)) : TI := fun σ H Q => ∃ B G ρ, Same G H ∧ Same B H ∧ Rel K ca B G H σ ρ ∧ Wish K ca (fun G' ds H' => ∀ J, JOk K ca G' J ds → Q J H') G H (fi ρ) (WE W σ)
theorem FI.can {X : Cx} {ca : Cn} {W : WX} {tg iter : Expr} {fi : Ev → R (List D)} (a : FI X ca W tg iter fi) : PI X tg iter (tIc X.K ca W fi) := by
  obtain ⟨t, p, k⟩ := a.ex
  exact ⟨fun pins s σ H Q I ⟨B, G, ρ, h1, h2, h3, h4⟩ => p.run pins s σ H Q I (k B G H σ ρ Q h1 h2 h3 h4)⟩
structure LcI (K : PySem.W.Frag) (ca : Cn) (B G1 H1 : Hp) (D : Addr) (σw : L2.St) (ρw : Ev) (G : Hp) (acc : List Tk.D) (vs : List V) (H : Hp) : Prop where
  ext : Ext G1 H1 G H
  gD : G D = none
  hD : H D = some (.lst vs)
  at_ : AtL K ca G acc vs
  b : Same B H
  r : Rel K ca B G H σw ρw
section
variable {K : PySem.W.Frag} {ca : Cn} {B G1 H1 G H G' H' : Hp} {D : Addr} {σw : L2.St} {ρw : Ev} {acc : List Tk.D} {vs : List V}
theorem LcI.go (i : LcI K ca B G1 H1 D σw ρw G acc vs H) (x : Ext G H G' H') : LcI K ca B G1 H1 D σw ρw G' acc vs H' := by
  refine ⟨i.ext.trans x, ?_, x.hh _ _ i.hD, AtL.mono x.gg i.at_, i.b.trans x.hh, i.r.ext x⟩
  cases q : G' D with
  | none => rfl
  | some u =>
    rcases x.nw D (by rw [q]; simp) with z | z
    · exact absurd i.gD z
    · exact (z.no i.hD fun _ y => nomatch y).elim
theorem LcI.push (i : LcI K ca B G1 H1 D σw ρw G acc vs H) (n1 : H1 D = none) (nb : B D = none) (no : noOwn ρw = true) {y : Tk.D} {v : V} (a : At K ca G y v) : LcI K ca B G1 H1 D σw ρw G (acc ++ [y]) (vs ++ [v]) (upd H D (.lst (vs ++ [v]))) := by
  have nD : ∀ c o, H1 c = some o → c ≠ D := fun c o q z => by rw [z, n1] at q; cases q
  have nG : ∀ c o, G c = some o → c ≠ D := fun c o q z => by rw [z, i.gD] at q; cases q
  have nB : ∀ c o, B c = some o → c ≠ D := fun c o q z => by rw [z, nb] at q; cases q
  exact ⟨⟨fun c o q => by rw [upd_ne (nD c o q)]; exact i.ext.hh c o q, i.ext.gg, fun c o q => by rw [upd_ne (nG c o q)]; exact i.ext.gh c o q, i.ext.nw⟩, i.gD, upd_same, i.at_.append (.one a), fun c o q => by rw [upd_ne (nB c o q)]; exact i.b c o q, i.r.moved no⟩
end
section
variable {X : Cx} {ca : Cn} {W : WX} {zs zs1 : List Nat} {elt tg iter tg1 iter1 : Expr} {ifs ifs1 : List Expr} {scope : Scope} {own : List (Str × Nat)} {pos : Pos} {fi0 fi : Ev → R (List D)} {h h1 : Tg} {ft ft1 : Ev → R Bool} {fe : Ev → R D}
end
section
variable {X : Cx} {ca : Cn} {W : WX} {zs1 : List Nat} {elt tg iter tg1 iter1 : Expr} {ifs ifs1 : List Expr} {scope : Scope} {own : List (Str × Nat)} {pos : Pos} {fi0 fi : Ev → R (List D)} {h h1 : Tg} {ft ft1 : Ev → R Bool} {fe : Ev → R D}
end
end Tk
namespace Tk
open PySem PySem.Spec L2 PyProof.Rows
section
variable {X : Cx} {ca : Cn} {W : WX} {k j n : Nat} {x : Str} {st : Stmt} {dd : List D} {kd : List (Str × D)} {ps ks : List Str} {Fn : List D → R Sl} {p pos : Pos} {e : Expr} {es : List Expr} {kws : List Keyword} {fa fk : Ev → R (List D)} {gD : List D → List D → List D}
end
def dcL (h : Tg) (t : Ev → R Bool) (fk fv : Ev → R D) (ρ : Ev) : List (Key × D) → List D → R (List (Key × D))
  | acc, [] => .ok acc
  | acc, d :: ds => (optR (h d ρ)).bind fun ρ1 => (t ρ1).quiet.bind fun b => if b = true then (fk ρ1).quiet.bind fun y => (fv ρ1).quiet.bind fun z => (optR (keyD y)).bind fun k => dcL h t fk fv ρ (putG acc k z) ds else dcL h t fk fv ρ acc ds
def nDc (zs : List Nat) (fi : Ev → R (List D)) (h : Tg) (t : Ev → R Bool) (fk fv : Ev → R D) : Ev → R Sl := fun ρ => (fi ρ).bind fun ds => if ds.length ≤ sizeLine then (dcL h t fk fv (wipeE ρ zs) [] ds).bind fun kvs => .ok (.k kvs) else .bad
structure DcI (K : PySem.W.Frag) (ca : Cn) (B G1 H1 : Hp) (D : Addr) (σw : L2.St) (ρw : Ev) (G : Hp) (acc : List (Key × Tk.D)) (vs : List (Key × V)) (H : Hp) : Prop where
  ext : Ext G1 H1 G H
  gD : G D = none
  hD : H D = some (.dK vs)
  at_ : AtK K ca G acc vs
  b : Same B H
  r : Rel K ca B G H σw ρw
section
variable {K : PySem.W.Frag} {ca : Cn} {B G1 H1 G H G' H' : Hp} {D : Addr} {σw : L2.St} {ρw : Ev} {acc : List (Key × Tk.D)} {vs : List (Key × V)}
theorem DcI.go (i : DcI K ca B G1 H1 D σw ρw G acc vs H) (x : Ext G H G' H') : DcI K ca B G1 H1 D σw ρw G' acc vs H' := by
  refine ⟨i.ext.trans x, ?_, x.hh _ _ i.hD, AtK.mono x.gg i.at_, i.b.trans x.hh, i.r.ext x⟩
  cases q : G' D with
  | none => rfl
  | some u =>
    rcases x.nw D (by rw [q]; simp) with z | z
    · exact absurd i.gD z
    · exact (z.no i.hD fun _ y => nomatch y).elim
theorem DcI.push (i : DcI K ca B G1 H1 D σw ρw G acc vs H) (n1 : H1 D = none) (nb : B D = none) (r1 : Rel K ca B G1 H1 σw ρw) {k : Key} {y : Tk.D} {v : V} (a : At K ca G y v) : DcI K ca B G1 H1 D σw ρw G (putG acc k y) (putK vs k v) (upd H D (.dK (putK vs k v))) := by
  have nD : ∀ c o, H1 c = some o → c ≠ D := fun c o q z => by rw [z, n1] at q; cases q
  have nG : ∀ c o, G c = some o → c ≠ D := fun c o q z => by rw [z, i.gD] at q; cases q
  have nB : ∀ c o, B c = some o → c ≠ D := fun c o q z => by rw [z, nb] at q; cases q
  refine ⟨⟨fun c o q => by rw [upd_ne (nD c o q)]; exact i.ext.hh c o q, i.ext.gg, fun c o q => by rw [upd_ne (nG c o q)]; exact i.ext.gh c o q, i.ext.nw⟩, i.gD, upd_same, i.at_.put a, fun c o q => by rw [upd_ne (nB c o q)]; exact i.b c o q, ⟨i.r.len, i.r.val, fun k s' q ho => ?_, i.r.sep, i.r.exc, ?_⟩⟩
  rotate_left 1
  · obtain ⟨FP, n⟩ := r1.nst
    refine ⟨FP, n.step (fun j t q => ⟨q, rfl⟩) i.ext.gg fun b o hb nt gb bb ow => ⟨?_, ?_, ow⟩⟩
    · rw [upd_ne fun z => by rw [z, n1] at hb; cases hb]
      exact (i.ext.hh _ _ hb).trans hb.symm
    · cases q : G b with
      | none => rfl
      | some u =>
        rcases i.ext.nw b (by rw [q]; simp) with z | z
        · exact (z gb).elim
        · exact (z.no hb nt).elim
  obtain ⟨a', t1, t2, t3, t4⟩ := i.r.own k s' q ho
  refine ⟨a', t1, t2.ext (.refl _) ?_, t3, t4⟩
  obtain ⟨a0, u1, u2, u3, u4⟩ := r1.own k s' q ho
  rw [t1] at u1
  cases u1
  obtain ⟨o, u5⟩ := u2.some
  rw [upd_ne (fun z => by rw [z, n1] at u5; cases u5)]
end
theorem putG_len {κ α : Type} [DecidableEq κ] (kvs : List (κ × α)) (k : κ) (v : α) : (putG kvs k v).length ≤ kvs.length + 1 := by
  unfold putG
  split
  · rw [List.length_map]; omega
  · rw [List.length_append]; exact Nat.le_refl _
section
variable {X : Cx} {ca : Cn} {W : WX} {zs : List Nat} {kx vx tg iter : Expr} {ifs : List Expr} {scope : Scope} {own : List (Str × Nat)} {pos : Pos} {fi : Ev → R (List D)} {h : Tg} {ft : Ev → R Bool} {fk fv : Ev → R D}
theorem fn_dc (hc : X.calm = true) (hN : X.N.Nodup) (hi : FI X ca W tg iter fi) (ok : BlkOk X.N X.env.scope scope own)
    (hg : ∀ (s : Shared) (H : Hp) (C : Addr) (cl : List (Str × Addr)) (fp : List Addr), FG (X.blk s H scope (compEnvC scope cl C X.env) fp) ca (own.map (·.2)) tg h) (ht : ∀ (s : Shared) (H : Hp) (C : Addr) (cl : List (Str × Addr)) (fp : List Addr), FTs (X.blk s H scope (compEnvC scope cl C X.env) fp) ca W0 ifs ft)
    (hk : ∀ (s : Shared) (H : Hp) (C : Addr) (cl : List (Str × Addr)) (fp : List Addr), FE (X.blk s H scope (compEnvC scope cl C X.env) fp) ca W0 kx fk)
    (he : ∀ (s : Shared) (H : Hp) (C : Addr) (cl : List (Str × Addr)) (fp : List Addr), FE (X.blk s H scope (compEnvC scope cl C X.env) fp) ca W0 vx fv) (hs : ∀ x, foldedSetIterable iter X.env x = pure x := by intro _; rfl) :
    FN X ca W (.DictComp kx vx [⟨tg, iter, ifs, 0⟩] scope pos) (nDc (own.map (·.2)) fi h ft fk fv) := by
  obtain ⟨tl, pl, ki⟩ := hi.ex
  refine ⟨_, pe_dc (g := tGc X.K ca (own.map (·.2)) h) (tt := tT X.K ca W0 ft) (tk := tE X.K ca W0 fk) (tv := tE X.K ca W0 fv) hc hN pl ok (fun s H C cl fp => (hg s H C cl fp).can) (fun s H C cl fp => (ht s H C cl fp).ex) (fun s H C cl fp => (hk s H C cl fp).can) (fun s H C cl fp => (he s H C cl fp).can) hs, fun B G H σ ρ Q s b r w => ?_⟩
  generalize own.map (·.2) = zs at *
  refine ki B G H σ ρ _ s b r (Wish.bind w fun ds G1 H1 _ x1 w1 J hj => ?_)
  intro D hD
  split at w1
  · rename_i hlen
    have gD : G1 D = none := same_none x1.gh hD
    have b1 := b.trans x1.hh
    have bD : B D = none := same_none b1 hD
    have r1 := (r.ext x1).wipe zs
    have e0 : Ext G1 H1 G1 (upd H1 D (.dK [])) := ⟨same_upd hD, .refl _, x1.gh.trans (same_upd hD), fun a z => .inl z⟩
    refine ⟨fun i m H => m = ds.length - i ∧ i ≤ ds.length ∧ ∃ G acc vs, acc.length ≤ i ∧ DcI X.K ca B G1 H1 D (L2.wipe σ zs) (wipeE ρ zs) G acc vs H ∧ Wish X.K ca (SN X.K ca _ Q) G1 H1 ((dcL h ft fk fv (wipeE ρ zs) acc (ds.drop i)).bind fun kvs => .ok (.k kvs)) (WE W σ),
      ⟨_, rfl, Nat.zero_le _, G1, [], [], Nat.le_refl _, ⟨e0, gD, upd_same, rfl, b1.trans e0.hh, r1.ext e0⟩, by rw [List.drop_zero]; exact w1⟩, ?_⟩
    rintro i m H2 ⟨rfl, hi, G2, acc, vs, la, I2, w2⟩
    obtain ⟨j1, j2⟩ := hj G2 H2 I2.ext.gg I2.ext.gh i
    by_cases hlt : i < ds.length
    · rw [List.drop_eq_getElem_cons hlt] at w2
      obtain ⟨go, yl⟩ := j1 ds[i] (by simp [hlt])
      refine .inr ⟨go, fun H' => ∃ G acc vs, acc.length ≤ i + 1 ∧ DcI X.K ca B G1 H1 D (L2.wipe σ zs) (wipeE ρ zs) G acc vs H' ∧ Wish X.K ca (SN X.K ca _ Q) G1 H1 ((dcL h ft fk fv (wipeE ρ zs) acc (ds.drop (i + 1))).bind fun kvs => .ok (.k kvs)) (WE W σ), fun H' q => ⟨ds.length - (i + 1), by omega, rfl, hlt, q⟩, fun x H3 yy => ?_⟩
      obtain ⟨G3, x3, a3⟩ := yl x H3 yy
      have I3 := I2.go x3
      have w3 : Wish X.K ca (SN X.K ca H Q) G1 H1 (((optR (h ds[i] (wipeE ρ zs))).bind fun ρ1 => (ft ρ1).quiet.bind fun b => if b = true then (fk ρ1).quiet.bind fun y => (fv ρ1).quiet.bind fun z => (optR (keyD y)).bind fun k => dcL h ft fk fv (wipeE ρ zs) (putG acc k z) (ds.drop (i + 1)) else dcL h ft fk fv (wipeE ρ zs) acc (ds.drop (i + 1))).bind fun kvs => .ok (.k kvs)) (WE W σ) := w2
      cases z1 : h ds[i] (wipeE ρ zs) with
      | none => rw [z1] at w3; exact w3.elim
      | some ρ1 =>
        rw [z1] at w3
        simp only [optR_some, bind_ok] at w3
        refine ⟨B, G3, wipeE ρ zs, ds[i], I3.ext.gh, I3.b, I3.r, a3, ρ1, z1, fun σ4 r4 e4 => ⟨e4.trans (wipe_idem σ zs), B, G3, ρ1, I3.ext.gh, I3.b, r4, ?_⟩⟩
        cases z2 : ft ρ1 with
        | exc x => simp only [z2] at w3; exact w3.elim
        | bad => simp only [z2] at w3; exact w3.elim
        | ok bb =>
          simp only [z2, quiet_ok, bind_ok] at w3
          intro G5 H5 x5
          show if bb = true then _ else _
          have I5 := I3.go x5
          cases bb with
          | false =>
            rw [if_neg Bool.false_ne_true] at w3 ⊢
            exact ⟨G5, acc, vs, by omega, I5, w3⟩
          | true =>
            rw [if_pos rfl] at w3 ⊢
            refine ⟨B, G5, ρ1, x5.gh, I5.b, r4.ext x5, ?_⟩
            cases z3 : fk ρ1 with
            | exc x => simp only [z3] at w3; exact w3.elim
            | bad => simp only [z3] at w3; exact w3.elim
            | ok y =>
              simp only [z3, quiet_ok, bind_ok] at w3
              intro G6 H6 x6 yv ya
              have I6 := I5.go x6
              refine ⟨B, G6, ρ1, x6.gh, I6.b, (r4.ext x5).ext x6, ?_⟩
              cases z4 : fv ρ1 with
              | exc x => simp only [z4] at w3; exact w3.elim
              | bad => simp only [z4] at w3; exact w3.elim
              | ok z =>
                simp only [z4, quiet_ok, bind_ok] at w3
                intro G7 H7 x7 zv za
                have I7 := I6.go x7
                cases z5 : keyD y with
                | none => rw [z5] at w3; exact w3.elim
                | some k =>
                  simp only [z5, optR_some, bind_ok] at w3
                  have hl := AtK.length I7.at_
                  have hp := putG_len acc k z
                  exact ⟨vs, k, key_at ya z5, I7.hD, by omega, G7, putG acc k z, putK vs k zv, by omega, I7.push hD bD r1 za, w3⟩
    · have e : i = ds.length := by omega
      subst e
      rw [List.drop_length] at w2
      have w3 : Wish X.K ca (SN X.K ca H Q) G1 H1 (.ok (.k acc)) (WE W σ) := w2
      exact .inl ⟨j2 rfl, (w3 G2 H2 I2.ext).2 D ⟨vs, I2.hD, I2.at_⟩ I2.gD (same_none x1.hh hD)⟩
  · exact w1.elim
end
def gGet2 : D → D → D → R D
  | .dK kvs, d, x => (optR (keyD d)).bind fun k => .ok ((getG kvs k).getD x)
  | .dT kvs, d, x => (optR (keyT d)).bind fun k => .ok ((getG kvs k).getD x)
  | _, _, _ => .bad
def isDict : D → Bool
  | .dK _ => true
  | .dT _ => true
  | _ => false
def eGet2 (fo fa fb : Ev → R D) : Ev → R D := fun ρ => (fo ρ).bind fun o => if isDict o = true then (fa ρ).bind fun a => (fb ρ).bind fun b => gGet2 o a b else .bad
section
variable {X : Cx} {ca : Cn} {W : WX} {o e f : Expr} {fo fa fb : Ev → R D} {apos cpos : Pos}
theorem isDict_at {K : PySem.W.Frag} {G H : Hp} {d : D} {v : V} (s : Same G H) (h : isDict d = true) (a : At K ca G d v) : ∃ p, v = .ref p ∧ IsD H p := by
  cases d with
  | dK kvs => obtain ⟨p, vs, rfl, h1, _⟩ := a; exact ⟨p, rfl, .inl ⟨vs, Rd.mono s h1⟩⟩
  | dT kvs => obtain ⟨p, vs, rfl, h1, _⟩ := a; exact ⟨p, rfl, .inr ⟨vs, Rd.mono s h1⟩⟩
  | _ => cases h
theorem get_at {K : PySem.W.Frag} {G H : Hp} {d y x : D} {v yv xv : V} {Q : VK} {E : XK} (s : Same G H) (ad : At K ca G d v) (ay : At K ca G y yv) (ax : At K ca G x xv) (w : Wish K ca (SV K ca Q) G H (gGet2 d y x) E) : ∃ p o, v = .ref p ∧ DGet H p yv o ∧ Q (o.getD xv) H := by
  unfold gGet2 at w
  split at w
  · rename_i kvs
    obtain ⟨kk, e1, w⟩ := wish_opt w
    obtain ⟨p, vs, rfl, h1, h2⟩ := ad
    have g := h2.get kk
    rw [key_at ay e1]
    refine ⟨p, valV vs kk, rfl, .inl ⟨vs, kk, Rd.mono s h1, rfl, rfl⟩, ?_⟩
    cases z : getG kvs kk with
    | none =>
      rw [z] at g w
      have g2 : valV vs kk = none := g
      rw [g2]
      exact w.here s _ ax
    | some d =>
      rw [z] at g w
      obtain ⟨u, g1, g2⟩ := g
      have g3 : valV vs kk = some u := g1
      rw [g3]
      exact w.here s _ g2
  · rename_i kvs
    obtain ⟨kk, e1, w3⟩ := wish_opt w
    obtain ⟨p, vs, rfl, h1, h2⟩ := ad
    have g := h2.get kk
    have fin : Q ((valV vs kk).getD xv) H := by
      cases z : getG kvs kk with
      | none =>
        rw [z] at g w3
        have g2 : valV vs kk = none := g
        rw [g2]
        exact w3.here s _ ax
      | some d =>
        rw [z] at g w3
        obtain ⟨u, g1, g2⟩ := g
        have g3 : valV vs kk = some u := g1
        rw [g3]
        exact w3.here s _ g2
    unfold keyT at e1
    split at e1
    · obtain ⟨q, ws, rfl, t1, t2⟩ := ay
      have e3 := keys_at t2 e1
      subst e3
      exact ⟨p, _, rfl, .inr ⟨vs, kk, q, Rd.mono s h1, rfl, s q _ t1, rfl⟩, fin⟩
    · cases e1
  · exact w.elim
theorem fe_get2 (hu : X.A.units + 65 < cLine) (ho : FE X ca W o fo) (ha : FE X ca W e fa) (hb : FE X ca W f fb) (m : M2 X o "get" apos e f cpos := by exact ⟨rfl, rfl, rfl, rfl⟩) : FE X ca W (.Call (.Attribute o "get" apos) [e, f] [] cpos) (eGet2 fo fa fb) := by
  obtain ⟨to, po, ko⟩ := ho.ex
  obtain ⟨ta, pa, ka⟩ := ha.ex
  obtain ⟨tb, pb, kb⟩ := hb.ex
  refine ⟨_, pe_dget2 (by omega) po pa pb m, fun B G H σ ρ Q s b r h => ?_⟩
  refine ko B G H σ ρ _ s b r (Wish.bind h fun d G1 H1 _ x1 w1 v a1 => ?_)
  split at w1
  · rename_i hd
    obtain ⟨p, rfl, isd⟩ := isDict_at x1.gh hd a1
    refine ⟨p, rfl, isd, ka B G1 H1 σ ρ _ x1.gh (b.trans x1.hh) (r.ext x1) (Wish.bind w1 fun y G2 H2 _ x2 w2 yv ay => ?_)⟩
    refine kb B G2 H2 σ ρ _ x2.gh ((b.trans x1.hh).trans x2.hh) ((r.ext x1).ext x2) (Wish.bind w2 fun z G3 H3 _ x3 w3 zv az => ?_)
    obtain ⟨p', oo, ep, dg, q⟩ := get_at x3.gh (At.mono (x2.gg.trans x3.gg) a1) (At.mono x3.gg ay) az w3
    cases ep
    exact ⟨oo, dg, q⟩
  · exact w1.elim
end
end Tk
namespace Tk
open PySem PySem.Spec L2 PyProof.Rows
theorem call_tuple_z {X : Cx} : CallR X (.type "tuple") (fun xs H Q => ∃ p ys, xs = [.ref p] ∧ SqL X.K H p ys ∧ ∀ l o, o.cls = .type "tuple" ∧ o.dict = none → H l = none → Q (.ref l) (upd H l (.frz o (.tup ys)))) := by
  intro pins s σ H xs us Q I r h
  obtain ⟨p, ys, rfl, hq, q⟩ := h
  obtain ⟨u, rfl, rx⟩ := vals1 r
  cases rx
  obtain ⟨its, r', pl, hz⟩ := I.list hq
  have hlen := r'.length
  refine call_tuple_list pl.isList (fun h' kp => ?_) (by simp only [List.size_toArray] <;> omega)
  have I1 : Inv X pins σ H { s with heap := h' } := I.kept (t' := s.toks) kp
  have I2 : Inv X pins σ (upd H h'.objs.size (.frz { cls := .type "tuple", data := .seq its.toArray } (.tup ys))) { s with heap := h'.push { cls := .type "tuple", data := .seq its.toArray } } :=
    I1.laid (t' := s.toks) (fun b o e => Heap.get?_push_of_some _ e) (Nat.le_refl _) (show ObjOk X.prog X.w _ _ _ (.frz _ (.tup ys)) from ⟨Heap.get?_push_size _ rfl, hz, its, r', IsTup.new _ _⟩)
  exact ⟨.ref h'.objs.size, _, I2, rfl, q _ _ ⟨rfl, rfl⟩ (I1.hok.fresh (Nat.le_refl _))⟩
def gTupZ : List D → R D
  | [.lst xs] => .ok (.tpz xs)
  | [.tpz xs] => .ok (.tpz xs)
  | _ => .bad
def rTupZ (K : PySem.W.Frag) : List V → Hp → VK → Prop := fun xs H Q => (∃ p ys, xs = [.ref p] ∧ SqL K H p ys ∧ ∀ l o, o.cls = .type "tuple" ∧ o.dict = none → H l = none → Q (.ref l) (upd H l (.frz o (.tup ys)))) ∨ ∃ p ys, xs = [.ref p] ∧ ((SqL K H p ys ∧ ∀ l, H l = none → Q (.ref l) (upd H l (.tup ys))) ∨ (SqT K H p ys ∧ Q (.ref p) H))
theorem call_tupZ {X : Cx} : CallR X (.type "tuple") (rTupZ X.K) := call_tuple_z.or call_tuple_of
section
variable {X : Cx} {ca : Cn} {W : WX} {e o : Expr} {es : List Expr} {fl : Ev → R (List D)} {fa fb fo : Ev → R D} {pos p apos cpos : Pos}
theorem vn_tupz : VN X ca (rTupZ X.K) gTupZ := by
  intro G H W1 xs ds Q s a w
  unfold gTupZ at w
  split at w
  · obtain ⟨v, rfl, q, vs, rfl, h1, h2⟩ := atl1 a
    refine .inl ⟨q, vs, rfl, .of (s _ _ h1), fun l o ho n => ?_⟩
    exact w _ _ (Ext.new s n) (.ref l) ⟨l, o, vs, rfl, ho, upd_same, AtL.mono (same_upd (same_none s n)) h2⟩
  · obtain ⟨v, rfl, p, o, vs, rfl, oo, h1, h2⟩ := atl1 a
    exact .inr ⟨p, vs, rfl, .inr ⟨.inl (.inr ⟨o, s _ _ h1⟩), w.here s _ ⟨p, o, vs, rfl, oo, h1, h2⟩⟩⟩
  · exact w.elim
theorem fe_tupz (T : BT X.mg) (ha : FA X ca W (e :: es) fl) (n : Nm X "tuple" e es pos := by exact ⟨rfl, rfl, rfl⟩) : FE X ca W (.Call (.Name "tuple" p) (e :: es) [] pos) (eA gTupZ fl) := fe_bty call_tupZ vn_tupz n.g T.tuple bb_tuple ha (by decide) (by decide) n.h n.p
theorem tz {K : PySem.W.Frag} {G H : Hp} {a : Addr} {o : Obj} {vs : List V} (s : Same G H) (h : G a = some (.frz o (.tup vs))) : SqT K H a vs := .inl (.inr ⟨o, s _ _ h⟩)
end
end Tk
namespace Tk
open PySem PySem.Spec L2 PyProof.Rows
def ltL : List Int → List Int → Bool
  | [], [] => false
  | [], _ :: _ => true
  | _ :: _, [] => false
  | a :: as, b :: bs => if a = b then ltL as bs else decide (a < b)
theorem ltL_cons (a b : Int) (as bs : List Int) : ltL (a :: as) (b :: bs) = if a = b then ltL as bs else decide (a < b) := rfl
theorem ltL_asym : ∀ x y : List Int, ltL x y = true → ltL y x = false
  | [], [], h => by cases h
  | [], _ :: _, _ => rfl
  | _ :: _, [], h => by cases h
  | a :: as, b :: bs, h => by
    rw [ltL_cons] at h ⊢
    by_cases z : a = b
    · rw [if_pos z] at h
      rw [if_pos z.symm]
      exact ltL_asym as bs h
    · rw [if_neg z] at h
      have := of_decide_eq_true h
      rw [if_neg (fun e => z e.symm)]
      exact decide_eq_false (by omega)
theorem ltL_tr : ∀ x y z : List Int, ltL y x = false → ltL z y = false → ltL z x = false
  | [], [], [], _, _ => rfl
  | [], [], _ :: _, _, h => h
  | [], _ :: _, [], h, _ => rfl
  | [], _ :: _, _ :: _, h, _ => rfl
  | _ :: _, [], _, h, _ => by cases h
  | _ :: _, _ :: _, [], _, h => by cases h
  | a :: as, b :: bs, c :: cs, h1, h2 => by
    rw [ltL_cons] at h1 h2 ⊢
    by_cases z1 : b = a
    · rw [if_pos z1] at h1
      by_cases z2 : c = b
      · rw [if_pos z2] at h2
        rw [if_pos (z2.trans z1)]
        exact ltL_tr as bs cs h1 h2
      · rw [if_neg z2] at h2
        rw [← z1, if_neg z2]
        exact h2
    · rw [if_neg z1] at h1
      have h1 := of_decide_eq_false h1
      by_cases z2 : c = b
      · rw [if_neg (by omega)]
        exact decide_eq_false (by omega)
      · rw [if_neg z2] at h2
        have h2 := of_decide_eq_false h2
        rw [if_neg (by omega)]
        exact decide_eq_false (by omega)
theorem ltL_anti : ∀ x y : List Int, ltL x y = false → ltL y x = false → x = y
  | [], [], _, _ => rfl
  | [], _ :: _, h, _ => by cases h
  | _ :: _, [], _, h => by cases h
  | a :: as, b :: bs, h1, h2 => by
    rw [ltL_cons] at h1 h2
    by_cases z : a = b
    · rw [if_pos z] at h1
      rw [if_pos z.symm] at h2
      rw [z, ltL_anti as bs h1 h2]
    · rw [if_neg z] at h1
      rw [if_neg (fun e => z e.symm)] at h2
      have := of_decide_eq_false h1
      have := of_decide_eq_false h2
      omega
theorem swo_L {α : Type} (k : α → List Int) : SrtO.Swo fun v u => ltL (k v) (k u) := ⟨fun x y => ltL_asym (k x) (k y), fun x y z => ltL_tr (k x) (k y) (k z)⟩
theorem first_map (e r : Nat → Bool) (fin : Bool) (f : Nat → Nat) : ∀ l : List Nat, SeqAt.firstLt e r fin (l.map f) = SeqAt.firstLt (fun j => e (f j)) (fun j => r (f j)) fin l
  | [] => rfl
  | j :: t => by
    have ih := first_map e r fin f t
    show (if e (f j) = true then SeqAt.firstLt e r fin (t.map f) else r (f j)) = (if e (f j) = true then SeqAt.firstLt (fun j => e (f j)) (fun j => r (f j)) fin t else r (f j))
    rw [ih]
theorem first_L : ∀ a b : List Int, SeqAt.firstLt (fun j => a.getD j 0 == b.getD j 0) (fun j => decide (a.getD j 0 < b.getD j 0)) (decide (a.length < b.length)) (List.range (min a.length b.length)) = ltL a b
  | [], [] => rfl
  | [], _ :: _ => by simp [SeqAt.firstLt, ltL]
  | _ :: _, [] => by simp [SeqAt.firstLt, ltL]
  | a :: as, b :: bs => by
    have e : min (a :: as).length (b :: bs).length = min as.length bs.length + 1 := by simp [Nat.succ_min_succ]
    have ih := first_L as bs
    rw [e, List.range_succ_eq_map, ltL_cons]
    show (if (a == b) = true then SeqAt.firstLt _ _ _ ((List.range _).map Nat.succ) else decide (a < b)) = _
    rw [first_map]
    by_cases z : a = b
    · rw [if_pos (beq_iff_eq.mpr z), if_pos z, ← ih]
      simp
    · rw [if_neg (fun q => z (beq_iff_eq.mp q)), if_neg z]
section
variable {prog : Program} {w : World} {A : Around} {s : Shared}
theorem ints_get : ∀ {vs : List Value} {ns : List Int}, IntsAre vs ns → vs.length = ns.length ∧ ∀ j (h : j < vs.length), ∃ t, vs[j] = Value.int (ns.getD j 0) t
  | _, _, .nil => ⟨rfl, fun j h => absurd h (by simp)⟩
  | _, _, .cons n t r => by
    obtain ⟨h1, h2⟩ := ints_get r
    refine ⟨by simp [h1], fun j h => ?_⟩
    cases j with
    | zero => exact ⟨t, rfl⟩
    | succ j => exact h2 j (by simpa using h)
end
section
variable {X : Cx} {ca : Cn} {W : WX} {e : Expr} {es : List Expr} {fl : Ev → R (List D)} {p pos : Pos}
def srtL (ps : List (List Int)) : List (List Int) := ps.mergeSort fun p q => !ltL q p
theorem srtL_uniq {ns ms : List (List Int)} (p : ms.Perm ns) (s : ms.Pairwise fun x y => ltL y x = false) : ms = srtL ns := by
  have p2 : (srtL ns).Perm ns := List.mergeSort_perm _ _
  have s2 : (srtL ns).Pairwise fun x y => (!ltL y x) = true := List.pairwise_mergeSort (fun a b c h1 h2 => by
    rw [Bool.not_eq_true'] at *
    exact ltL_tr a b c h1 h2) (fun a b => by
    cases h : ltL b a with
    | false => rfl
    | true => rw [ltL_asym b a h]; rfl) ns
  exact List.Perm.eq_of_pairwise (le := fun x y => ltL y x = false) (fun a b _ _ h1 h2 => ltL_anti a b h2 h1) s (s2.imp fun h => by rwa [Bool.not_eq_true'] at h) (p.trans p2.symm)
end
end Tk
namespace Tk
open PySem PySem.Spec L2 PyProof.Rows
mutual
def tupD : D → Bool
  | .non => true
  | .bl _ => true
  | .int _ => true
  | .str _ => true
  | .tup xs => tupL xs
  | _ => false
def tupL : List D → Bool
  | [] => true
  | d :: ds => tupD d && tupL ds
end
def oBor (f : Ev → R Sl) : Ev → R Sl := fun ρ => (f (frzA ρ)).quiet.bind fun s => match s with
  | .l xs => if tupL xs = true then .ok (.l xs) else .bad
  | _ => .bad
section
variable {K : PySem.W.Frag} {ca : Cn} {B G H G' G2 H' : Hp} {σ : L2.St} {ρ : Ev} {FP : Nat → List Addr}
def isTupH : HO → Prop
  | .tup _ => True
  | .frz _ (.tup _) => True
  | _ => False
mutual
theorem tupD_at (k : ∀ t o, G' t = some o → isTupH o → G2 t = some o) : ∀ {d : D} {v : V}, tupD d = true → At K ca G' d v → At K ca G2 d v
  | .non, v, _, a => a
  | .bl _, v, _, a => a
  | .int _, v, _, a => a
  | .str _, v, _, a => a
  | .tup xs, v, h, ⟨a, vs, e, q, r⟩ => by
    refine ⟨a, vs, e, ?_, tupL_at k h r⟩
    exact k a (.tup vs) q trivial
theorem tupL_at (k : ∀ t o, G' t = some o → isTupH o → G2 t = some o) : ∀ {ds : List D} {vs : List V}, tupL ds = true → AtL K ca G' ds vs → AtL K ca G2 ds vs
  | [], _, _, a => a
  | d :: ds, _, h, ⟨v, r, e, a, t⟩ => by
    have h' : (tupD d && tupL ds) = true := h
    rw [Bool.and_eq_true] at h'
    exact ⟨v, r, e, tupD_at k h'.1 a, tupL_at k h'.2 t⟩
end
theorem Own.notTup {a : Addr} {s : Sl} {o : HO} (h : Own K ca G H a s) (e : H a = Option.some o) : ¬ isTupH o := by
  cases s with
  | no => exact h.elim
  | x _ => exact h.elim
  | tr _ => exact h.elim
  | v d => exact h.elim
  | l xs => obtain ⟨vs, h1, h2⟩ := h; rw [h1] at e; cases e; exact id
  | k xs => obtain ⟨vs, h1, h2⟩ := h; rw [h1] at e; cases e; exact id
  | t xs => obtain ⟨vs, h1, h2⟩ := h; rw [h1] at e; cases e; exact id
  | o g c fs => obtain ⟨C, dx, vs, hg, h0, h1, h2⟩ := h; rw [h1] at e; cases e; exact id
def ownAt (FP : Nat → List Addr) (σ : L2.St) (ρ : Ev) (a : Addr) : Prop := (∃ (i : Nat) (s : Sl), ρ[i]? = some s ∧ s.own = true ∧ σ[i]? = some (some (V.ref a))) ∨ ∃ (i : Nat) (t : OT), ρ[i]? = some (.tr t) ∧ a ∈ FP i
open Classical in
noncomputable def lendH (FP : Nat → List Addr) (G H : Hp) (σ : L2.St) (ρ : Ev) : Hp := fun c => match G c with
  | some o => some o
  | none => if ownAt FP σ ρ c then H c else none
theorem lend_old (c : Addr) (o : HO) (e : G c = some o) : lendH FP G H σ ρ c = some o := by
  unfold lendH
  rw [e]
open Classical in
theorem lend_own {a : Addr} (e : G a = none) (h : ownAt FP σ ρ a) : lendH FP G H σ ρ a = H a := by
  unfold lendH
  rw [e]
  exact if_pos h
open Classical in
theorem lend_H (s : Same G H) : Same (lendH FP G H σ ρ) H := fun c o e => by
  unfold lendH at e
  cases z : G c with
  | some o' => rw [z] at e; cases e; exact s c _ z
  | none =>
    rw [z] at e
    have e : (if ownAt FP σ ρ c then H c else none) = some o := e
    split at e
    · exact e
    · cases e
open Classical in
theorem lend_in {c : Addr} (h : lendH FP G H σ ρ c ≠ none) : G c ≠ none ∨ (G c = none ∧ ownAt FP σ ρ c) := by
  cases z : G c with
  | some o => exact .inl (by simp)
  | none =>
    right
    refine ⟨rfl, ?_⟩
    unfold lendH at h
    rw [z] at h
    have h : (if ownAt FP σ ρ c then H c else none) ≠ none := h
    split at h
    · assumption
    · exact absurd rfl h
theorem Rel.lend (r : Rel K ca B G H σ ρ) (nn : NstAll K ca B G H σ ρ FP) (s : Same G H) : Rel K ca B (lendH FP G H σ ρ) H σ (Tk.frzA ρ) := by
  have no : ∀ (i : Nat) (t : Sl), (Tk.frzA ρ)[i]? = some t → t.own = true → False := fun i t q o => by
    unfold Tk.frzA at q
    rw [List.getElem?_map] at q
    obtain ⟨u, _, q2⟩ := Option.map_eq_some_iff.mp q
    rw [← q2, frz_not_own] at o
    cases o
  have gg : Same G (lendH FP G H σ ρ) := fun c o e => lend_old c o e
  refine ⟨by unfold Tk.frzA; rw [List.length_map]; exact r.len, fun i d q => ?_, fun i t q o => (no i t q o).elim, fun i j t u a q o => (no i t q o).elim, fun i x q => exc_mono r gg (frzA_x q), _, .none fun i t q => ?_⟩
  rotate_left 1
  · unfold Tk.frzA at q
    rw [List.getElem?_map] at q
    obtain ⟨u, q1, q2⟩ := Option.map_eq_some_iff.mp q
    cases u <;> cases q2
  unfold Tk.frzA at q
  rw [List.getElem?_map] at q
  obtain ⟨u, q1, q2⟩ := Option.map_eq_some_iff.mp q
  cases o : u.own with
  | false =>
    by_cases tr : ∃ t, u = .tr t
    · obtain ⟨t, rfl⟩ := tr
      cases q2
      obtain ⟨v, hv, nt⟩ := nn.at_ i t q1
      exact ⟨v, hv, nt.frz gg fun b m => lend_own (nn.fr i t q1 b m).1 (.inr ⟨i, t, q1, m⟩)⟩
    rw [frz_v o fun t e => tr ⟨t, e⟩] at q2
    subst q2
    obtain ⟨v, h1, h2⟩ := r.val i d q1
    exact ⟨v, h1, At.mono gg h2⟩
  | true =>
    obtain ⟨a, h1, h2, h3, h4⟩ := r.own i u q1 o
    obtain ⟨d', e1, e2⟩ := h2.at_ gg (lend_own h3 (.inl ⟨i, u, q1, o, h1⟩))
    rw [e1] at q2
    cases q2
    exact ⟨_, h1, e2⟩
end
theorem fn_bor {X : Cx} {ca : Cn} {W : WX} {e : Expr} {f : Ev → R Sl} (h : FN X ca W e f) : FN X ca W e (oBor f) := by
  obtain ⟨t, p, k⟩ := h.ex
  refine ⟨t, p, fun B G H σ ρ Q s b r w => ?_⟩
  obtain ⟨FP, nn⟩ := r.nst
  refine k B (lendH FP G H σ ρ) H σ _ Q (lend_H s) b (r.lend nn s) ?_
  obtain ⟨sl, e1, w2⟩ := wish_quiet (show Wish X.K ca (SN X.K ca H Q) G H ((f (frzA ρ)).quiet.bind fun s => match s with
    | .l xs => if tupL xs = true then .ok (.l xs) else .bad
    | _ => .bad) (WE W σ) from w)
  cases sl with
  | l xs =>
    have w2 : Wish X.K ca (SN X.K ca H Q) G H (if tupL xs = true then .ok (.l xs) else .bad) (WE W σ) := w2
    split at w2
    · rename_i tl
      rw [e1]
      intro G' H' x
      refine ⟨rfl, fun a oa ga na => ?_⟩
      obtain ⟨vs, hv, av⟩ := oa
      -- the heap: what stood, and what is new
      let G2 : Hp := fun c => match G c with
        | some o => some o
        | none => @ite _ (Fre H c) (Classical.propDecidable _) (G' c) none
      have g2o : ∀ c o, G c = some o → G2 c = some o := fun c o e => by show (match G c with | some o => some o | none => _) = _; rw [e]
      have g2n : ∀ c, G c = none → Fre H c → G2 c = G' c := fun c e1 e2 => by
        show (match G c with | some o => some o | none => @ite _ (Fre H c) (Classical.propDecidable _) (G' c) none) = _
        rw [e1]
        exact if_pos e2
      have g2x : ∀ c, G c = none → ¬ Fre H c → G2 c = none := fun c e1 e2 => by
        show (match G c with | some o => some o | none => @ite _ (Fre H c) (Classical.propDecidable _) (G' c) none) = _
        rw [e1]
        exact if_neg e2
      have gH : Same G2 H' := fun c o e => by
        cases z : G c with
        | some o' =>
          rw [g2o c o' z] at e
          cases e
          exact x.hh _ _ (s _ _ z)
        | none =>
          by_cases y : Fre H c
          · rw [g2n c z y] at e
            exact x.gh _ _ e
          · rw [g2x c z y] at e; cases e
      have x2 : Ext G H G2 H' := ⟨x.hh, fun c o e => g2o c o e, gH, fun c m => by
        cases z : G c with
        | some o' => exact .inl (by simp)
        | none =>
          by_cases y : Fre H c
          · exact .inr y
          · exact absurd (g2x c z y) m⟩
      have kt : ∀ t o, G' t = some o → isTupH o → G2 t = some o := fun t o e ti => by
        rcases x.nw t (by rw [e]; simp) with n | n
        · rcases lend_in n with n | ⟨n, (⟨i, sl, q1, q2, q3⟩ | ⟨i, tt, q1, q2⟩)⟩
          · cases z : G t with
            | none => exact absurd z n
            | some o' =>
              have := x.gg _ _ (lend_old (FP := FP) (H := H) (σ := σ) (ρ := ρ) t o' z)
              rw [e] at this
              cases this
              exact g2o _ _ z
          · obtain ⟨a', h1, h2, h3, h4⟩ := r.own i sl q1 q2
            rw [q3] at h1
            cases h1
            obtain ⟨ob, h5⟩ := h2.some
            have h6 := x.gg _ _ ((lend_own (H := H) h3 (.inl ⟨i, sl, q1, q2, q3⟩)).trans h5)
            rw [e] at h6
            cases h6
            exact absurd ti (h2.notTup h5)
          · obtain ⟨v0, hv0, n0⟩ := nn.at_ i tt q1
            obtain ⟨ob, h5, h7⟩ := n0.some t q2
            have h6 := x.gg _ _ ((lend_own (H := H) n (.inr ⟨i, tt, q1, q2⟩)).trans h5)
            rw [e] at h6
            cases h6
            cases o <;> first | exact ti.elim | exact h7.elim
        · cases z : G t with
          | none => rw [g2n t z n]; exact e
          | some o' =>
            have := x.gg _ _ (lend_old (FP := FP) (H := H) (σ := σ) (ρ := ρ) t o' z)
            rw [e] at this
            cases this
            exact g2o _ _ z
      refine ((show SN X.K ca H Q G2 (.l xs) H' from w2 G2 H' x2)).2 a ⟨vs, hv, tupL_at kt tl av⟩ ?_ na
      rw [g2n a (same_none s na) (.inl na)]
      exact ga
    · exact w2.elim
  | _ => exact w2.elim
end Tk
set_option maxHeartbeats 2000000
namespace Tk
open PySem PySem.Spec L2 PyProof.Rows
def LawOk (l : PySem.W.OpenLaw) (F : List D → R D) (k : Nat) (w : World) (mg : Str → Option Value) (fa : Addr) (h : Heap) : Prop :=
  ∃ (K : PySem.W.Frag) (fd : FuncData) (ca : Cn), K.In h ∧ (∀ (s : Shared) (u : Value), BindsTo s fd ⟨[u], []⟩ [("script", u)]) ∧ ∀ b : Heap, K.In b → b.Ns mainGlobals mg → FnOk l.prog w K mg b (L2.CX l.prog w) k fa fd ["script"] (spF K ca 1 F)
theorem law_walk {l : PySem.W.OpenLaw} {k : Nat} {q : Program} {loose : List Str} {XP : (Str → Option Value) → Heap → Prop} {YP : World → Heap → Prop} {d : DefRec} {F : List D → R D} (hn : l.most = some 63) (hdf : d.params.defaults = []) (hr : Room k callerA)
    (hF : ∀ (w : World) (mg : Str → Option Value) (fa : Addr) (h : Heap), YP w h → h.Ns mainGlobals mg → mg d.name = some (.ref fa) → LawOk l F k w mg fa h) (hl : ∀ ns : List Int, ns.length ≤ 63 → F [.scr ns] = .ok (.bl true)) :
    PySem.W.WalkO q loose XP YP l.row.toRowW d [] (fun f vs => PySem.call f vs) := by
  refine Att.attach_call hn hdf fun w s0 s1 mg mb fa o pm cd doc a vs ns G Y ho hd hcd hmg hobj hints hlen hg => ?_
  obtain ⟨K, fd, ca, KX, hb, go⟩ := hF w mg fa _ Y G.T.g hmg
  refine law_call KX G.T.g G.T.b G.T.builtins G.T.nolimit hg hobj hints (Nat.le_trans hlen (by decide)) hr go hb (fun H hO hS => ?_) fun H e s' z => let ⟨_, _, _, _, _, _, _, _, _, _, _, _, y⟩ := z; y
  refine ⟨rfl, H, [.scr ns], .refl H, ⟨_, [], rfl, ⟨a, rfl, hS⟩, rfl⟩, ?_⟩
  rw [hl ns hlen]
  exact fun G' H' _ v av => av
end Tk
set_option maxHeartbeats 2000000
namespace Tk
open PySem PySem.Spec L2 PyProof.Rows
structure SaysU (fa : List He.Fa) (fn : List He.DefD) (ex : PySem.W.Frag → Bool) (K : PySem.W.Frag) (mg : Str → Option Value) : Prop extends Says fa fn K mg where
  u : ex K = true
def clBody (s : Stmt) : List Stmt := match s with
  | .ClassDef _ _ _ b _ _ _ _ _ _ _ => b
  | _ => []
def clMeth (s : Stmt) (i : Nat) : Stmt := (clBody s).getD i (.Pass ⟨0, 0, 0, 0⟩)
section
variable {fa : List He.Fa} {fn : List He.DefD} {K : PySem.W.Frag} {mg : Str → Option Value} {ca : Cn} {c : Nat} {x m qual : Str} {st : Stmt} {dd : List D} {kd : List (Str × D)}
theorem Says.glo (T : Says fa fn K mg) (j : Nat) (hj : fa[j]? = some (.glo x) := by rfl) : mg x = some (.ref (He.ga K x)) := by
  obtain ⟨hp, X, G⟩ := T.h
  exact He.glo_ok X G (T.c.fact j hj)
theorem Says.met (T : Says fa fn K mg) (jc jm i : Nat) (hc : ca.a c = some (He.ga K x)) (h0 : fa[jc]? = some (.cls x) := by rfl) (hm : fa[jm]? = some (.meth x m) := by rfl) (hi : fn[i]? = some (dfD (x, some m) m qual st dd kd) := by rfl) (h1 : dd.all flatD = true := by rfl) (h2 : (kd.map (·.2)).all flatD = true := by rfl) : MeAt K ca c m qual st dd kd := by
  obtain ⟨fd, F⟩ := T.fd i hi h1 h2
  exact ⟨_, fd, _, F, hc, He.cls_ok (T.c.fact jc h0), He.meth_ok (T.c.fact jm hm)⟩
theorem Says.fld (T : Says fa fn K mg) {C : Addr} (jc jn : Nat) {nm : Str} (e : He.ga K x = C) (h0 : fa[jc]? = some (.cls x) := by rfl) (hn : fa[jn]? = some (.noat x nm) := by rfl) : Cls K C ∧ NoAttr K C nm := by
  subst e
  exact ⟨He.cls_ok (T.c.fact jc h0), He.noat_ok (T.c.fact jn hn)⟩
end
section
variable {K : PySem.W.Frag} {ca : Cn} {x qual : Str} {params : Arguments} {body : List Stmt} {scope : Scope} {dd : List D} {kd : List (Str × D)} {f : Addr} {fd : FuncData} {ps : List Str}
end
section
variable {K : PySem.W.Frag} {x qual : Str} {dd : List D} {kd : List (Str × D)} {f : Addr} {fd : FuncData} {ps : List Str}
theorem kbi_ofD {ca : Cn} {ks : List Str} {n : Nat} {is : List Nat} {mid : List D} {mv : List V} {its : List Value} (hm : ∀ G, AtL K ca G mid mv) (hv : Vals mv its) (hp : ∀ i ∈ is, 1 ≤ i)
    (to : ∀ (s : Shared) (us ws : List Value), K.In s.heap → us.length = n + 1 → ws.length = ks.length → BindsTo s fd ⟨us, ks.zip ws⟩ (ps.zip (pickI (0 :: is) (us ++ (its ++ ws))))) : KBI K ca fd ps n ks (gDk (is.map (· - 1)) mid) := by
  refine ⟨fun us ws => pickI (0 :: is) (us ++ (its ++ ws)), fun vs zs => pickI (0 :: is) (vs ++ (mv ++ zs)), ⟨to, fun r1 r2 => pick_vals (r1.append (hv.append r2)) (0 :: is)⟩, fun x vs zs => ⟨pickI (is.map (· - 1)) (vs ++ (mv ++ zs)), ?_, fun G ds ws a b => pick_at (a.append ((hm G).append b)) _⟩⟩
  show (match (x :: (vs ++ (mv ++ zs)))[0]? with | some a => a :: pickI is (x :: (vs ++ (mv ++ zs))) | none => pickI is (x :: (vs ++ (mv ++ zs)))) = _
  rw [List.getElem?_cons_zero, pick_shift x _ is hp]
theorem kbi_dkD {ca : Cn} {st : Stmt} (F : FDI K qual st dd kd f fd) (n : Nat) (ks : List Str) (is : List Nat) (ms : List (Str × D)) (hp : ∀ i ∈ is, 1 ≤ i) (hd : dd ≠ []) (hk : kd ≠ []) (hms : ∀ q ∈ kwV ms, q ∈ kwV kd) (hf : (ms.map (·.2)).all flatD = true)
    (h : ∀ (T D : Addr) (doc pm : Value) (an : Option Addr) (cdv ct : Value) (us its mv ws : List Value), us.length = n + 1 → its.length = dd.length → mv.length = ms.length → ws.length = ks.length →
      ∃ k, bindArgs (PySem.W.fnOf "__init__" qual (defArgs st) (defBody st) (defScope st) (.ref T) (.ref D) doc pm an cdv ct) ⟨us, ks.zip ws⟩ = seqItems? (.ref T) >>= k ∧ KwChain D ((ms.map (·.1)).zip mv) (k (some its.toArray)) (ps.zip (pickI (0 :: is) (us ++ ((its ++ mv) ++ ws))))) : KBI K ca fd ps n ks (gDk (is.map (· - 1)) (dd ++ ms.map (·.2))) := by
  obtain ⟨dvs, F1, ad⟩ := F.ex
  have ld := (ad ca fun _ => none).length
  obtain ⟨oc, od, dV, kV, doc, pm, an, cdv, ct, osl, rfl, lk, hcd, hD, hK⟩ := F1.ex
  rcases hD with ⟨e, _⟩ | ⟨_, T, o, its, m, rfl, lT, oT, rT⟩
  · rw [e] at ld
    exact absurd (List.length_eq_zero_iff.mp ld) hd
  · rcases hK with e | ⟨D, rfl, hq⟩
    · exact absurd (List.map_eq_nil_iff.mp e) hk
    · obtain ⟨mv, hl, rk, hks⟩ := kwd_vals (ms := kwV ms) fun q hm => hq q (hms q hm)
      rw [List.length_map] at hl
      have e1 : (kwV ms).map (·.1) = ms.map (·.1) := by rw [List.map_map]; rfl
      have e2 : (kwV ms).map (·.2) = (ms.map (·.2)).map toV := by rw [List.map_map, List.map_map]; rfl
      rw [e1] at hks
      rw [e2] at rk
      refine kbi_ofD (its := its ++ mv) (mv := dvs ++ (ms.map (·.2)).map toV) (fun G => (ad ca G).append (flats_at hf)) (rT.append rk) hp fun s us ws X l1 l2 => ?_
      obtain ⟨k, e1, e2⟩ := h T D doc pm an cdv ct us its mv ws l1 (by rw [← rT.length, ld]) hl l2
      refine BindsTo.of_looks fun M => ?_
      rw [e1]
      exact looks_items X lT oT (KwChain.looks X hks e2)
def tp0B (K : PySem.W.Frag) (a : Addr) : Bool := match K.lookup a with
  | some ⟨c, _, .seq its _, _⟩ => c == .type "tuple" && its.isEmpty
  | _ => false
theorem tp0_at {K : PySem.W.Frag} {ca : Cn} {G : Hp} {a : Addr} (h : tp0B K a = true) : At K ca G .tp0 (.ref a) := by
  unfold tp0B at h
  split at h
  · rename_i c d its n sl q
    obtain ⟨h1, h2⟩ := Bool.and_eq_true_iff.mp h
    have hi : its = #[] := Array.isEmpty_iff.mp h2
    subst hi
    refine ⟨a, rfl, .inr ⟨_, #[], n, q, eq_of_beq h1, rfl, by simp, .nil⟩⟩
  · cases h
def dvI (x : Str) (i : Nat) : D → He.Dv
  | .tp0 => .adr (He.dflAt (x, some "__init__") i)
  | d => dvD d
def dvL (x : Str) (dd : List D) : List He.Dv := dd.zipIdx.map fun p => dvI x p.2 p.1
def dfDI (x qual : Str) (st : Stmt) (dd : List D) (kd : List (Str × D)) : He.DefD := ⟨(x, some "__init__"), "__init__", qual, defArgs st, defBody st, defScope st, dvL x dd, kd.map fun q => (q.1, dvD q.2)⟩
def okD : D → Bool
  | .tp0 => true
  | d => flatD d
theorem Says.cltD {fa : List He.Fa} {fn : List He.DefD} {mg : Str → Option Value} {ca : Cn} {c : Nat} {st : Stmt} (T : Says fa fn K mg) (jm jg i : Nat) (hc : ca.a c = some (He.ga K x)) (ht : ∀ p ∈ dd.zipIdx, p.1 = .tp0 → tp0B K (He.dflAt (x, some "__init__") p.2 K) = true) (hm : fa[jm]? = some (.mkr x) := by rfl) (hg : fa[jg]? = some (.glo x) := by rfl) (hi : fn[i]? = some (dfDI x qual st dd kd) := by rfl) (h1 : dd.all okD = true := by rfl) (h2 : (kd.map (·.2)).all flatD = true := by rfl) : ClAt K mg ca c x qual st dd kd := by
  obtain ⟨fd, F⟩ := T.c.def_ i hi
  have e2 : He.DefD.kws K (dfDI x qual st dd kd) = kwV kd := by
    show (kd.map fun q => (q.1, dvD q.2)).map (fun q => (q.1, q.2.v K)) = _
    rw [List.map_map]
    refine List.map_congr_left fun d m => ?_
    show (d.1, (dvD d.2).v K) = (d.1, toV d.2)
    rw [dv_eq (List.all_eq_true.mp h2 d.2 (List.mem_map.mpr ⟨d, m, rfl⟩))]
  rw [e2] at F
  refine ⟨_, fd, _, ⟨_, F, fun ca G => ?_⟩, He.mkr_ok (T.c.fact jm hm), hc, T.glo jg hg⟩
  show AtL K ca G dd ((dvL x dd).map (He.Dv.v K))
  have go : ∀ (l : List D) (k : Nat), (∀ p ∈ l.zipIdx k, p.1 = .tp0 → tp0B K (He.dflAt (x, some "__init__") p.2 K) = true) → l.all okD = true → AtL K ca G l (((l.zipIdx k).map fun p => dvI x p.2 p.1).map (He.Dv.v K)) := by
    intro l
    induction l with
    | nil => intro k _ _; rfl
    | cons d r ih =>
      intro k a b
      rw [List.all_cons, Bool.and_eq_true] at b
      rw [List.zipIdx_cons] at a ⊢
      refine ⟨_, _, rfl, ?_, ih (k + 1) (fun p m => a p (List.mem_cons_of_mem _ m)) b.2⟩
      by_cases z : d = .tp0
      · subst z
        exact tp0_at (a (.tp0, k) List.mem_cons_self rfl)
      · have hf : flatD d = true := by
          have := b.1
          cases d <;> first | exact this | exact (z rfl).elim
        have e : dvI x k d = dvD d := by cases d <;> first | rfl | exact (z rfl).elim
        show At K ca G d ((dvI x k d).v K)
        rw [e, dv_eq hf]
        exact flat_at hf
  exact go dd 0 ht h1
end
def kitB2 (K : PySem.W.Frag) (cls : List Str) (x : Str) (tab : List (Kd × Bool)) : Bool := tab.all fun p => (match p.1 with
  | .ty n => decide (PySem.W.kitOne K (.type n) (.ref (He.ga K x)) = some p.2)
  | .cl c => (match cls[c]? with
    | some y => decide (PySem.W.kitOne K (.ref (He.ga K y)) (.ref (He.ga K x)) = some p.2)
    | none => false))
def insTyB (K : PySem.W.Frag) (x : Str) : Bool := He.eqO (PySem.W.findIn K (.ref (He.ga K x)) "__class__") (some (some (.builtin "object.__class__"))) && (He.eqO (PySem.W.specialIn K (.builtin "object.__class__") "__get__") (some (some (.builtin "getset_descriptor.__get__"))) && (decide (PySem.W.takesIn K (.builtin "object.__class__") = some true) && decide (PySem.W.mroIn K (He.ga K x) (.type "object") = some true)))
theorem insTy_ok {K : PySem.W.Frag} {x : Str} (c : Cls K (He.ga K x)) (h : insTyB K x = true) : InsTy K (He.ga K x) := by
  obtain ⟨h1, h⟩ := He.ba h
  obtain ⟨h2, h⟩ := He.ba h
  obtain ⟨h3, h4⟩ := He.ba h
  exact ⟨c, He.eqO_ok h1, He.eqO_ok h2, of_decide_eq_true h3, of_decide_eq_true h4⟩
theorem isi_ok {K : PySem.W.Frag} {ca : Cn} {cls : List Str} {x : Str} {tab : List (Kd × Bool)} (hca : ∀ c, ca.a c = cls[c]?.map (He.ga K)) (h : kitB2 K cls x tab = true) (hi : ∀ c y, cls[c]? = some y → (∃ b, (Kd.cl c, b) ∈ tab) → InsTy K (He.ga K y)) : IsiOk K ca (He.ga K x) tab := by
  refine ⟨fun p m => ?_, fun c C' e q => ?_⟩
  · have := List.all_eq_true.mp h p m
    obtain ⟨k, b⟩ := p
    cases k with
    | ty n => exact ⟨_, rfl, of_decide_eq_true this⟩
    | cl c =>
      have h2 : (match cls[c]? with
        | some y => decide (PySem.W.kitOne K (.ref (He.ga K y)) (.ref (He.ga K x)) = some b)
        | none => false) = true := this
      cases e : cls[c]? with
      | none => rw [e] at h2; cases h2
      | some y =>
        rw [e] at h2
        refine ⟨.ref (He.ga K y), ?_, of_decide_eq_true h2⟩
        show (ca.a c).map Value.ref = _
        rw [hca, e]
        rfl
  · rw [hca] at e
    obtain ⟨y, y1, y2⟩ := Option.map_eq_some_iff.mp e
    subst y2
    exact hi c y y1 q
end Tk
namespace Tk
open PySem PySem.Spec L2 PyProof.Rows
def clsL : List Str := (["BrokenRow", "Calls", "Count", "Trial", "Desk", "HouseError", "Refused", "BadName", "DoubledName", "UnknownName", "UnknownPage", "BadNumber", "BadCount", "OtherNames", "NoLink", "BadLot", "BadBook", "BadText", "BadStanding", "NoMove", "NoDeed", "TooLarge", "BadTable", "BadPlan", "NotFull", "BadStep", "BadRow", "BadHolding", "BadCommand", "DeskOver"] : List Str) ++ (["MoveWaits", "NoMoveWaits", "PagesFollow", "NothingToUndo", "NothingToRedo", "Game", "Guests", "Habit", "House", "Least", "Links", "Moment", "Net", "Page", "Book", "Paper", "Table", "Plan", "Raising", "RuleDraft", "Draft", "Allotment", "Roll", "Rule", "TurnRule", "BidRule", "Step", "Longest", "Dearest", "Safest"] : List Str) ++ (["Over", "Wait", "Without", "ToldRound", "Tolls"] : List Str)
def fldL : List Str := (["price", "rounds", "fault", "calls", "total", "prices", "table", "order", "winner", "_desk", "_now", "_past", "_ahead", "_most", "name", "number", "size", "lot", "part", "place", "line", "standing", "move", "deed", "why", "_first", "_net", "offers", "aside", "steps"] : List Str) ++ (["members", "rules", "names", "book", "roll", "most", "_votes", "plans", "links", "house", "game", "paid", "places", "standings", "options", "bids", "wishers", "followers", "home", "starts", "_pages", "_rows", "_standings", "_by_standing", "first", "raises", "ways", "kind", "parts", "pages"] : List Str) ++ (["page_lines", "ballots", "takers", "rents", "limit", "barred", "deposit", "fee", "start", "_hands", "_barred_tolls", "weights", "hours", "guests", "_least", "_house", "_page", "_rule", "_candidates", "_takers", "_prices"] : List Str)
def cnL (K : PySem.W.Frag) : Cn := ⟨fun c => clsL[c]?.map (He.ga K), nmOf fldL, fun _ _ _ => False⟩
theorem fld_nd : fldL.Nodup := by decide +kernel
theorem fld_ne : Str.empty ∉ fldL := by decide +kernel
def isT (yes no : List Nat) : List (Kd × Bool) := [(.ty "NoneType", false), (.ty "bool", false), (.ty "int", false), (.ty "str", false), (.ty "list", false), (.ty "tuple", false), (.ty "dict", false)] ++ (yes.map fun c => (.cl c, true)) ++ no.map fun c => (.cl c, false)
end Tk
namespace Tk
open PySem PySem.Spec L2 PyProof.Rows
def bltB (K : PySem.W.Frag) (x : Str) (id : String) : Bool := He.eqO (PySem.W.nsIn K mainGlobals x) (some (some (.builtin id)))
theorem Says.blt {fa : List He.Fa} {fn : List He.DefD} {K : PySem.W.Frag} {mg : Str → Option Value} {x : Str} {id : String} (T : Says fa fn K mg) (c : bltB K x id = true) : mg x = some (.builtin id) := by
  obtain ⟨hp, X, G⟩ := T.h
  exact PySem.W.mg_of X G (He.eqO_ok c)
section
variable {X : Cx} {ca : Cn} {W : WX} {e : Expr} {es : List Expr} {fl : Ev → R (List D)} {p pos : Pos}
end
end Tk
namespace Tk
open PySem PySem.Spec L2 PyProof.Rows
def eqTys : List String := ["NoneType", "tuple", "str", "list", "int", "bool"]
def eqTyB (K : PySem.W.Frag) (C : Addr) : Bool := eqTys.all fun n => PySem.W.notFirst K C (.type n)
section
variable {X : Cx} {ca : Cn} {W : WX} {k j c nf : Nat} {qual : Str} {st : Stmt} {dd : List D} {kd : List (Str × D)} {ps : List Str} {Fn : List D → R D}
def yTy (C : Addr) (y : V) (H : Hp) : Prop := y = .non ∨ (∃ s, y = .str s) ∨ (∃ a vs, y = .ref a ∧ H a = some (.tup vs)) ∨ (∃ a dx fs, y = .ref a ∧ H a = some (.ins C dx fs)) ∨ (∃ a vs, y = .ref a ∧ H a = some (.lst vs)) ∨ (∃ i, y = .int i) ∨ ∃ b, y = .bl b
def rOwn (K : PySem.W.Frag) (ca : Cn) (C : Addr) (n : Nat) (Fn : List D → R D) : R2 := fun x y H Q => ∃ p dx vs, x = .ref p ∧ H p = some (.ins C dx vs) ∧ yTy C y H ∧ spF K ca n Fn [x, y] H (fun v H' => (∃ b, v = .bl b) ∧ Q v H') (fun _ _ _ => False)
theorem op_own {f C : Addr} {fd : FuncData} (F : FnOk X.prog X.w X.K X.mg X.base (L2.CX X.prog X.w) k f fd ps (spF X.K ca ps.length Fn)) (hm : Meth X.K C "__eq__" f) (hr : Room k X.A) (hb : Binds X.K fd ps []) (ht : eqTyB X.K C = true) : OpR X (compareOp .Eq) (rOwn X.K ca C ps.length Fn) := by
  intro pins s σ H x y v u Q I rx ry hq
  obtain ⟨p, dx, vs, rfl, ha, hy, sp⟩ := hq
  cases rx
  obtain ⟨mA, J, _⟩ := ins_get I.hok ha
  obtain ⟨od, J, _⟩ := J.look
  obtain ⟨m, hF⟩ := I.fr
  have run : wpAny (model X.prog X.w) X.A (call (.ref f) [.ref p, u]) (EP X pins σ fun v H' => (∃ b, v = .bl b) ∧ Q v H') X.xe s :=
    run_fn (dvs := []) (ds := []) (us := [.ref p, u]) (vs := [.ref p, y]) (E := fun _ _ _ => False) F hr hb .nil (fun pins σ H s e s' I hq => by
      obtain ⟨_, _, _, _, _, _, _, _, _, _, _, _, hE⟩ := hq
      exact hE.elim) I (.cons rfl (.cons ry .nil)) sp
  have back : wpAny (model X.prog X.w) X.A (call (.ref f) [.ref p, u]) (PySem.W.CmpBack (EP X pins σ Q)) X.xe s := wpAny_mono run (fun r s' hq => by
    obtain ⟨z, H', I', rz, ⟨b, rfl⟩, q⟩ := hq
    cases rz
    exact ⟨.bl b, H', I', rfl, q⟩) fun _ _ e => e
  have nfT : ∀ n ∈ eqTys, PySem.W.notFirst X.K C (.type n) = true := fun n mn => List.all_eq_true.mp ht n mn
  show wpAny (model X.prog X.w) X.A (richCompare .Eq (.ref p) u) (EP X pins σ Q) X.xe s
  rcases hy with rfl | ⟨z, rfl⟩ | ⟨a, ws, rfl, ht2⟩ | ⟨a, dy, fs, rfl, hi⟩ | ⟨a, ws, rfl, hl2⟩ | ⟨i, rfl⟩ | ⟨b, rfl⟩
  · cases ry
    exact PySem.W.cmp_K (op := .Eq) (tb := .type "NoneType") hr.units0 hF I.ok.mod.kin J .now (nfT _ (by decide)) hm.at_ hm.fn back
  · obtain ⟨t, rfl⟩ := ry
    exact PySem.W.cmp_K (op := .Eq) (tb := .type "str") hr.units0 hF I.ok.mod.kin J .now (nfT _ (by decide)) hm.at_ hm.fn back
  · cases ry
    obtain ⟨_, its, r2, o, ho, hc, n, hd⟩ := I.hok _ _ ht2
    refine PySem.W.cmp_K (op := .Eq) (tb := .type "tuple") hr.units0 hF I.ok.mod.kin J ?_ (nfT _ (by decide)) hm.at_ hm.fn back
    rw [← hc]
    exact (PySem.W.Looks.ld ho).andThen .now
  · cases ry
    obtain ⟨mB, J', _⟩ := ins_get I.hok hi
    obtain ⟨od', J', _⟩ := J'.look
    exact PySem.W.cmp_K (op := .Eq) (tb := .ref C) hr.units0 hF I.ok.mod.kin J J'.type (by simp [PySem.W.notFirst]) hm.at_ hm.fn back
  · cases ry
    obtain ⟨its, r2, ⟨o, n, ho, hc, _, hd⟩, _⟩ := I.list (.of hl2)
    refine PySem.W.cmp_K (op := .Eq) (tb := .type "list") hr.units0 hF I.ok.mod.kin J ?_ (nfT _ (by decide)) hm.at_ hm.fn back
    rw [← hc]
    exact (PySem.W.Looks.ld ho).andThen .now
  · obtain ⟨t, rfl⟩ := ry
    exact PySem.W.cmp_K (op := .Eq) (tb := .type "int") hr.units0 hF I.ok.mod.kin J .now (nfT _ (by decide)) hm.at_ hm.fn back
  · cases ry
    exact PySem.W.cmp_K (op := .Eq) (tb := .type "bool") hr.units0 hF I.ok.mod.kin J .now (nfT _ (by decide)) hm.at_ hm.fn back
def eqOk (c : Nat) : D → Bool
  | .non => true
  | .str _ => true
  | .tup _ => true
  | .ins c' _ => decide (c' = c)
  | .lst _ => true
  | .int _ => true
  | .bl _ => true
  | _ => false
def isIns (c : Nat) : D → Bool
  | .ins c' _ => decide (c' = c)
  | _ => false
def gOwn (c : Nat) (Fn : List D → R D) (a b : D) : R D := if (isIns c a && eqOk c b) = true then (match Fn [a, b] with
  | .ok (.bl z) => .ok (.bl z)
  | _ => .bad) else .bad
theorem v2_own {C : Addr} {n : Nat} (hc : ca.a c = some C) (hn : n = 2) : V2 X ca (rOwn X.K ca C n Fn) (gOwn c Fn) := by
  intro G H W1 x y a b Q s ax ay w
  unfold gOwn at w
  split at w
  · rename_i hh
    obtain ⟨h1, h2⟩ := Bool.and_eq_true_iff.mp hh
    have hx : ∃ p dx vs, x = .ref p ∧ H p = some (.ins C dx vs) := by
      cases a with
      | ins c' fs =>
        have e : c' = c := of_decide_eq_true h1
        subst e
        obtain ⟨p, C', dx, vs, rfl, q1, q2, q3⟩ := ax
        rw [hc] at q1
        cases q1
        exact ⟨p, dx, vs, rfl, s _ _ q2⟩
      | _ => cases h1
    have hy : yTy C y H := by
      cases b with
      | non => cases ay; exact .inl rfl
      | str z => cases ay; exact .inr (.inl ⟨_, rfl⟩)
      | tup xs =>
        obtain ⟨p, vs, rfl, q, r⟩ := ay
        exact .inr (.inr (.inl ⟨p, vs, rfl, s p _ q⟩))
      | ins c' fs =>
        have e : c' = c := of_decide_eq_true h2
        subst e
        obtain ⟨p, C', dx, vs, rfl, q1, q2, q3⟩ := ay
        rw [hc] at q1
        cases q1
        exact .inr (.inr (.inr (.inl ⟨p, dx, vs, rfl, s _ _ q2⟩)))
      | lst xs =>
        obtain ⟨p, vs, rfl, q, r⟩ := ay
        exact .inr (.inr (.inr (.inr (.inl ⟨p, vs, rfl, s p _ q⟩))))
      | int i => cases ay; exact .inr (.inr (.inr (.inr (.inr (.inl ⟨_, rfl⟩)))))
      | bl b => cases ay; exact .inr (.inr (.inr (.inr (.inr (.inr ⟨_, rfl⟩)))))
      | _ => cases h2
    split at w
    · rename_i z ez
      obtain ⟨p, dx, vs, e1, e2⟩ := hx
      refine ⟨p, dx, vs, e1, e2, hy, hn.symm, G, [a, b], s, ⟨x, [y], rfl, ax, y, [], rfl, ay, rfl⟩, ?_⟩
      rw [ez]
      exact fun G' H' x' v av => ⟨⟨z, av⟩, w G' H' x' v av⟩
    · exact w.elim
  · exact w.elim
theorem fe_own {a b : Expr} {fa fb : Ev → R D} {pos : Pos} {C : Addr} (d : DefM X.prog X.w X.K X.mg X.base ca k c "__eq__" qual st dd kd ps Fn) (hc : ca.a c = some C) (ht : eqTyB X.K C = true) (hb : ∀ {f fd}, FD X.K "__eq__" qual st dd kd f fd → Binds X.K fd ps []) (hr : Room j X.A) (ha : FE X ca W a fa) (hbb : FE X ca W b fb) (hk : k ≤ j := by decide) (hn : ps.length = 2 := by rfl) (hm : behindInMarks .Eq b = false := by rfl) : FE X ca W (.Compare a [.Eq] [b] pos) (e2 (gOwn c Fn) fa fb) := by
  obtain ⟨f, fd, C', F, q1, cl, me, fdp⟩ := d.ex
  rw [hc] at q1
  cases q1
  exact fe_cmp (op_own F me (hr.mono hk) (hb fdp) ht) (v2_own hc hn) hm ha hbb
end
end Tk
namespace Tk
open PySem PySem.Spec L2 PyProof.Rows
section
variable {K : PySem.W.Frag} {ca : Cn} {B G H G' G2 H' : Hp} {σ : L2.St} {ρ : Ev}
end
end Tk
namespace Tk
open PySem PySem.Spec L2 PyProof.Rows
section
variable {X : Cx} {ca : Cn} {W : WX} {k j c : Nat} {qual m : Str} {st : Stmt} {dd : List D} {kd : List (Str × D)} {ps : List Str} {Fn : List D → R D}
theorem run_at {A1 : Around} {f : Addr} {fd : FuncData} {sp : Sp} {E : XK} {pins : List (Addr × Obj)} {σ : L2.St} {H : Hp} {s : Shared} {Q : VK} {us : List Value} {vs : List V} (F : FnOk X.prog X.w X.K X.mg X.base (L2.CX X.prog X.w) k f fd ps sp)
    (hr : Room k A1) (hf : A1.frames = X.A.frames) (hb : Binds X.K fd ps []) (hx : PassesAt (L2.CX X.prog X.w) X σ E) (I : Inv X pins σ H s) (rv : Vals vs us) (h : sp vs H Q E) : wpAny (model X.prog X.w) A1 (call (.ref f) us) (EP X pins σ Q) X.xe s := by
  have e0 := I.env0
  have e1 : Env0 X.prog X.w X.K X.mg X.base A1 X.stack s H := { frames := hf.trans e0.frames, mod := e0.mod, bs := e0.bs, bsz := e0.bsz, funs := e0.funs, frf := e0.frf, hok := e0.hok, bare := e0.bare }
  have hn : (us ++ []).length = ps.length := by rw [List.append_nil, ← rv.length]; exact F.len vs H Q E h
  have bt := hb s us I.kIn hn
  rw [List.append_nil] at bt
  have go := F.run A1 X.stack s H ⟨us, []⟩ us vs Q E hr e1 bt rv h
  refine wpAny_call (codeAny_mono go fun r s1 hq => ?_)
  rcases r with e | fl
  · exact hx pins H s e s1 I hq
  · cases fl with
    | ret u => exact I.after hq
    | _ => exact hq.elim
def gDun (c : Nat) (Fn : List D → R D) (a b : D) : R D := if isIns c a = true then Fn [a, b] else .bad
def R.ins (c : Nat) : R D → R D
  | .ok d => if isIns c d = true then .ok d else .bad
  | .exc x => .exc x
  | .bad => .bad
def R.b (neg : Bool) : R D → R D
  | .ok (.bl z) => .ok (.bl (xor neg z))
  | .exc x => .exc x
  | _ => .bad
def gDunIn (c : Nat) (neg : Bool) (Fn : List D → R D) (a b : D) : R D := if isIns c b = true then R.b neg (Fn [b, a]) else .bad
def R.len : R D → R D
  | .ok (.int n) => if 0 ≤ n ∧ n < 2 ^ 63 then .ok (.int n) else .bad
  | _ => .bad
def gDunLen (c : Nat) (Fn : List D → R D) : List D → R D
  | [a] => if isIns c a = true then R.len (Fn [a]) else .bad
  | _ => .bad
theorem isIns_at {K : PySem.W.Frag} {G : Hp} {a : D} {x : V} {C : Addr} (hc : ca.a c = some C) (h : isIns c a = true) (ax : At K ca G a x) : ∃ p dx vs, x = .ref p ∧ G p = some (.ins C dx vs) := by
  cases a with
  | ins c' fs =>
    have e : c' = c := of_decide_eq_true h
    subst e
    obtain ⟨p, C', dx, vs, rfl, q1, q2, q3⟩ := ax
    rw [hc] at q1
    cases q1
    exact ⟨p, dx, vs, rfl, q2⟩
  | _ => cases h
theorem FunD.fnIn {K : PySem.W.Frag} {x qual : Str} {params : Arguments} {body : List Stmt} {scope : Scope} {dvs : List V} {kws : List (Str × V)} {f : Addr} {fd : FuncData} (F : FunD K x qual params body scope dvs kws f fd) : PySem.W.fnIn K f = true := by
  obtain ⟨oc, od, dV, kV, doc, pm, an, cdv, ct, osl, rfl, lk, _⟩ := F.ex
  unfold PySem.W.fnIn
  rw [lk]
theorem fe_subO {a b : Expr} {fa fb : Ev → R D} {pos : Pos} (d : DefM X.prog X.w X.K X.mg X.base ca k c "__getitem__" qual st dd kd ps Fn) (hb : ∀ {f fd}, FD X.K "__getitem__" qual st dd kd f fd → Binds X.K fd ps []) (hr : Room j X.A) (tk : Takes X W)
    (ha : FE X ca W a fa) (hbb : FE X ca W b fb) (hk : k + 1 ≤ j := by decide) (hn : ps.length = 2 := by rfl)
    (hs : ∀ v i, subscripted b true v i = runValue (.builtin "lifetime.subscript" ⟨[v, i], []⟩) := by intro v i; with_unfolding_all rfl) : FE X ca W (.Subscript a b pos) (e2 (gDun c Fn) fa fb) := by
  obtain ⟨f, fd, C, F, hc, cl, hm, h2⟩ := d.ex
  obtain ⟨ta, pa, ka⟩ := ha.ex
  obtain ⟨tb, pb, kb⟩ := hbb.ex
  refine ⟨fun σ H Q => ta σ H fun x H1 => tb σ H1 fun y H2 => ∃ p dx vs, x = .ref p ∧ H2 p = some (.ins C dx vs) ∧ spF X.K ca ps.length Fn [x, y] H2 Q (WE W σ), ⟨fun pins s σ H Q I h => ?_⟩, fun B G H σ ρ Q s b r h => ?_⟩
  · refine Subscript_ (binT pa pb I h fun v u s2 x y H2 I2 rx ry q => ?_)
    obtain ⟨p, dx, vs, rfl, e, sp⟩ := q
    cases rx
    obtain ⟨mA, J, _⟩ := ins_get I2.hok e
    obtain ⟨od, J, _⟩ := J.look
    obtain ⟨mm, hF⟩ := I2.fr
    refine PySem.W.sub_K hF I2.ok.mod.kin J hm.at_ (FunD.fnIn h2) hm.fn ?_ (hs _ _)
    exact run_at (us := [.ref p, u]) (vs := [.ref p, y]) F ((hr.mono hk).in1) rfl (hb h2) (passAt tk σ) I2 (.cons rfl (.cons ry .nil)) sp
  · refine ka B G H σ ρ _ s b r (Wish.bind h fun d1 G1 H1 _ x1 w1 v av => ?_)
    refine kb B G1 H1 σ ρ _ x1.gh (b.trans x1.hh) (r.ext x1) (Wish.bind w1 fun d2 G2 H2 _ x2 w2 v2 a2 => ?_)
    unfold gDun at w2
    split at w2
    · rename_i hi
      obtain ⟨p, dx, vs, rfl, g1⟩ := isIns_at hc hi (At.mono x2.gg av)
      exact ⟨p, dx, vs, rfl, x2.gh _ _ g1, hn.symm, G2, [d1, d2], x2.gh, ⟨_, _, rfl, At.mono x2.gg av, _, _, rfl, a2, rfl⟩, w2⟩
    · exact w2.elim
theorem passNone {X : Cx} (σ : L2.St) : PassesAt (L2.CX X.prog X.w) X σ (fun _ _ _ => False) := fun pins H s e s' I c => by
  obtain ⟨_, _, _, _, _, _, _, _, _, _, _, _, hE⟩ := c
  exact hE.elim
theorem fe_lenO {e : Expr} {fl : Ev → R (List D)} {p pos : Pos} (T : BT X.mg) (d : DefM X.prog X.w X.K X.mg X.base ca k c "__len__" qual st dd kd ps Fn) (hb : ∀ {f fd}, FD X.K "__len__" qual st dd kd f fd → Binds X.K fd ps []) (hr : Room j X.A)
    (ha : FA X ca W [e] fl) (hk : k + 1 ≤ j := by decide) (hn : ps.length = 1 := by rfl) (nm : Nm X "len" e [] pos := by exact ⟨rfl, rfl, rfl⟩) : FE X ca W (.Call (.Name "len" p) [e] [] pos) (eA (gDunLen c Fn) fl) := by
  obtain ⟨f, fd, C, F, hc, cl, hm, h2⟩ := d.ex
  refine fe_blt (r := fun xs H Q => ∃ a dx vs, xs = [.ref a] ∧ H a = some (.ins C dx vs) ∧ spF X.K ca ps.length Fn [.ref a] H (fun v H' => ∃ n, v = .int n ∧ (0 ≤ n ∧ n < 2 ^ 63) ∧ Q (.int n) H') fun _ _ _ => False) ?_ ?_ nm.g T.len bb_len ha (by decide) (by decide) nm.h nm.p
  · intro pins s σ H xs us Q I rv h
    obtain ⟨a, dx, vs, rfl, e, sp⟩ := h
    obtain ⟨u, rfl, ru⟩ := rv.one
    cases ru
    obtain ⟨mA, J, _⟩ := ins_get I.hok e
    obtain ⟨od, J, _⟩ := J.look
    obtain ⟨mm, hF⟩ := I.fr
    refine PySem.W.len_K hF I.ok.mod.kin J hm.at_ hm.fn (wpAny_mono (run_at (us := [.ref a]) (vs := [.ref a]) F (hr.mono hk).in1 rfl (hb h2) (passNone σ) I (.cons rfl .nil) sp) (fun w s' hq => ?_) fun _ _ e => e)
    obtain ⟨z, H', I', rz, n, rfl, hn, q⟩ := hq
    obtain ⟨t, rfl⟩ := rz
    exact ⟨hn, .int n, H', I'.tok _, ⟨_, rfl⟩, q⟩
  · intro G H W1 xs ds Q s a w
    unfold gDunLen at w
    split at w
    · rename_i d0
      split at w
      · rename_i hi
        obtain ⟨v, rfl, av⟩ := atl1 a
        obtain ⟨p, dx, vs, rfl, g1⟩ := isIns_at hc hi av
        refine ⟨p, dx, vs, rfl, s _ _ g1, hn.symm, G, [d0], s, ⟨_, _, rfl, av, rfl⟩, ?_⟩
        cases e : Fn [d0] with
        | ok d =>
          rw [e] at w
          cases d with
          | int n =>
            have w3 : Wish X.K ca (SV X.K ca Q) G H (if 0 ≤ n ∧ n < 2 ^ 63 then .ok (.int n) else .bad) W1 := w
            split at w3
            · rename_i hz
              intro G' H' x' v av'
              cases av'
              exact ⟨n, rfl, hz, w3 G' H' x' _ rfl⟩
            · exact w3.elim
          | _ => exact w.elim
        | exc x => rw [e] at w; exact w.elim
        | bad => rw [e] at w; exact w.elim
      · exact w.elim
    · exact w.elim
theorem fe_inO {a b : Expr} {fa fb : Ev → R D} {pos : Pos} (neg : Bool) (d : DefM X.prog X.w X.K X.mg X.base ca k c "__contains__" qual st dd kd ps Fn) (hb : ∀ {f fd}, FD X.K "__contains__" qual st dd kd f fd → Binds X.K fd ps []) (hr : Room j X.A) (tk : Takes X W)
    (ha : FE X ca W a fa) (hbb : FE X ca W b fb) (hk : k ≤ j := by decide) (hn : ps.length = 2 := by rfl) (hmk : behindInMarks (if neg then .NotIn else .In) b = false := by rfl) : FE X ca W (.Compare a [if neg then .NotIn else .In] [b] pos) (e2 (gDunIn c neg Fn) fa fb) := by
  obtain ⟨f, fd, C, F, hc, cl, hm, h2⟩ := d.ex
  obtain ⟨ta, pa, ka⟩ := ha.ex
  obtain ⟨tb, pb, kb⟩ := hbb.ex
  refine ⟨fun σ H Q => ta σ H fun x H1 => tb σ H1 fun y H2 => ∃ p dx vs, y = .ref p ∧ H2 p = some (.ins C dx vs) ∧ spF X.K ca ps.length Fn [y, x] H2 (fun v H' => ∃ z, v = .bl z ∧ Q (.bl (xor neg z)) H') (WE W σ), ⟨fun pins s σ H Q I h => ?_⟩, fun B G H σ ρ Q s b r h => ?_⟩
  · refine wpAny_Compare1 (binT pa pb I h fun v u s2 x y H2 I2 rx ry q => ?_) hmk
    obtain ⟨p, dx, vs, rfl, e, sp⟩ := q
    cases ry
    obtain ⟨mA, J, _⟩ := ins_get I2.hok e
    obtain ⟨od, J, _⟩ := J.look
    obtain ⟨mm, hF⟩ := I2.fr
    have go := run_at (us := [.ref p, v]) (vs := [.ref p, x]) F (hr.mono hk) rfl (hb h2) (passAt tk σ) I2 (.cons rfl (.cons rx .nil)) sp
    cases neg with
    | false =>
      refine PySem.W.in_K hF I2.ok.mod.kin J hm.at_ hm.fn (wpAny_mono go (fun w s' hq => ?_) fun _ _ e => e)
      obtain ⟨z, H', I', rz, n, rfl, q⟩ := hq
      cases rz
      exact wpAny_truthy_bool ⟨.bl n, H', I', rfl, by simpa using q⟩
    | true =>
      refine PySem.W.notIn_K hF I2.ok.mod.kin J hm.at_ hm.fn (wpAny_mono go (fun w s' hq => ?_) fun _ _ e => e)
      obtain ⟨z, H', I', rz, n, rfl, q⟩ := hq
      cases rz
      exact wpAny_truthy_bool ⟨.bl (!n), H', I', rfl, by simpa using q⟩
  · refine ka B G H σ ρ _ s b r (Wish.bind h fun d1 G1 H1 _ x1 w1 v av => ?_)
    refine kb B G1 H1 σ ρ _ x1.gh (b.trans x1.hh) (r.ext x1) (Wish.bind w1 fun d2 G2 H2 _ x2 w2 v2 a2 => ?_)
    unfold gDunIn at w2
    split at w2
    · rename_i hi
      obtain ⟨p, dx, vs, rfl, g1⟩ := isIns_at hc hi a2
      refine ⟨p, dx, vs, rfl, x2.gh _ _ g1, hn.symm, G2, [d2, d1], x2.gh, ⟨_, _, rfl, a2, _, _, rfl, At.mono x2.gg av, rfl⟩, ?_⟩
      cases e : Fn [d2, d1] with
      | ok d =>
        rw [e] at w2
        cases d with
        | bl z =>
          intro G' H' x' v av'
          cases av'
          exact ⟨z, rfl, w2 G' H' x' _ rfl⟩
        | _ => exact w2.elim
      | exc x => rw [e] at w2; exact w2
      | bad => rw [e] at w2; exact w2
    · exact w2.elim
end
end Tk
namespace Tk
open PySem PySem.Spec L2 PyProof.Rows
def ItT (l it : Addr) : HO := .ext fun h => h.IsTupleIter it l 0
theorem tup_iter_call {prog : Program} {w : World} {A : Around} {E : Value → Shared → Prop} {s : Shared} {l : Addr} {items : Array Value} {Q : Value → Shared → Prop} (hl : s.heap.IsTuple l items)
    (h : Q (.ref s.heap.objs.size) { s with heap := s.heap.push { cls := .type "tuple_iterator", data := .fields #[.ref l, .int 0 0] } }) : wpAny (model prog w) A (call (.builtin "iter") [.ref l]) Q E s := by
  refine Calls.call_function_entry (by decide +kernel) (by decide +kernel) PySem.W.kdk_entry_iter (PySem.W.kdk_args_iter _) ?_
  unfold Builtin.«iter»
  refine wpAny_bind (m := someArgs "iter" 1 2 _) (wpAny_of_eq (a := [Value.ref l]) (by first | rfl | kernel_rfl!) (wpAny_bind (wpAny_pyIter_tuple hl ?_)))
  exact wpAny_pure ⟨_, rfl, h⟩
theorem itT_ok {P : Program} {w : World} {H : Hp} {h : Heap} {l it : Addr} (e : h.IsTupleIter it l 0) : ObjOk P w H h it (ItT l it) :=
  ⟨e, let ⟨o, ho, _⟩ := e; ⟨o, ho⟩, fun h1 h2 q k => let ⟨o, ho, r⟩ := q; ⟨o, k _ ho, r⟩⟩
def rIterT (K : PySem.W.Frag) (n : Nat) : List V → Hp → VK → Prop := fun xs H Q => ∃ (l : Addr) (ys : List V), xs = [.ref l] ∧ SqT K H l ys ∧ ∀ it, H it = none → n ≤ it → Q (.ref it) (upd H it (ItT l it))
theorem call_iterT {X : Cx} : CallR X (.builtin "iter") (rIterT X.K X.s_0.heap.objs.size) := by
  intro pins s σ H xs us Q I r h
  obtain ⟨l, ys, rfl, hq, q⟩ := h
  obtain ⟨u, rfl, ru⟩ := r.one
  cases ru
  obtain ⟨its, rv, pl, hz⟩ := I.tuple hq
  refine tup_iter_call (show s.heap.IsTuple l its.toArray from pl) ?_
  refine ⟨.ref s.heap.objs.size, _, I.laid (t' := s.toks) (fun b u e => Heap.get?_push_of_some _ e) (Nat.le_refl _) (itT_ok ⟨_, Heap.get?_push_size _ rfl, rfl, rfl⟩), rfl, q _ (I.hok.fresh (Nat.le_refl _)) I.sz⟩
def LeftT (n : Nat) (Q : Addr → Hp → Prop) : VK := fun v H1 => ∃ it l H0, v = .ref it ∧ n ≤ it ∧ H0 it = none ∧ H1 = upd H0 it (ItT l it) ∧ Q l H0
structure DefT (P : Program) (w : World) (K : PySem.W.Frag) (mg : Str → Option Value) (base : Heap) (ca : Cn) (k c : Nat) (qual : Str) (st : Stmt) (F : List D → R D) : Prop where
  ex : ∃ f C, ca.a c = some C ∧ Meth K C "__iter__" f ∧ ∀ (A : Around) (outer : List Env) (s : Shared) (H G : Hp) (a : Addr) (d : D) (Q : Addr → Hp → Prop), Room k A → Env0 P w K mg base A outer s H → Same G H → At K ca G d (.ref a) →
    Wish K ca (fun G1 r H1 => ∀ v, At K ca G1 r v → ∃ l ys, v = .ref l ∧ SqT K H1 l ys ∧ Q l H1) G H (F [d]) (fun _ _ _ => False) →
    codeAny (model P w) A (.call (.ref f) ⟨[.ref a], []⟩) (CR (L2.CX P w) outer P w H s (LeftT s.heap.objs.size Q) fun _ _ _ => False) s
section
variable {P : Program} {w : World} {K : PySem.W.Frag} {mg : Str → Option Value} {base : Heap} {ca : Cn} {qual : Str} {st : Stmt} {N : List Str} {k c : Nat} {e : Expr} {fa : Ev → R D} {px pc pr : Pos} {y : Str}
theorem DefT.of (h : MeAt K ca c "__iter__" qual st [] []) (S : FnScope N [y] (defScope st)) (hbs : defBody st = [.Return (some (.Call (.Name "iter" px) [e] [] pc)) pr])
    (hbd : ∀ {f fd}, FD K "__iter__" qual st [] [] f fd → Binds K fd [y] [])
    (hg : ∀ (f : Addr) (cdv : Value) (A : Around) (outer : List Env) (s : Shared) (H : Hp) (E : XK), let X := cxOf (L2.CX P w) P w K mg base N qual (defScope st) f cdv A outer s H E; Gl X "iter" ∧ starEach [e] X.env = (false, eval e X.env) :: starEach [] X.env)
    (hm : mg "iter" = none) (hbb : bootBuiltins "iter" = some (.builtin "iter"))
    (hb : ∀ (f : Addr) (cdv : Value) (A : Around) (outer : List Env) (s : Shared) (H : Hp) (E : XK), Room k (A.deeper (envOfC qual (defScope st) s.heap.objs.size f cdv)) → FE (cxOf (L2.CX P w) P w K mg base N qual (defScope st) f cdv A outer s H E) ca (fun c d _ H' => E c d H') e fa) :
    DefT P w K mg base ca (k + 1) c qual st (runF N.length (sRet fa)) := by
  obtain ⟨f, fd, C, F, hc, cl, me⟩ := h.ex
  refine ⟨f, C, hc, me, fun A outer s H G a d Q hr e0 sm av q => ?_⟩
  have bt := hbd F
  obtain ⟨oc, od, dV, kV, doc, pm, an, cdv, ct, osl, efd, lk, hcd, _⟩ := F.ex
  have there := fun b o e => (e0.bs b o e).1
  have KX : K.In s.heap := e0.mod.kin.keeps there
  have pars : ∀ z ∈ [y].zip [Value.ref a], (defScope st).names.lookup z.1 = some .local ∨ ((defScope st).names.lookup z.1 = some .cell ∧ ((cellsFrom (s.heap.objs.size + 1) (defScope st).names []).lookup z.1).isSome = true) := by
    rintro ⟨n, v⟩ hz
    have inN := (List.of_mem_zip hz).1
    exact (S.par n inN).imp id fun t => ⟨t, PySem.W.cellsFrom_some _ _ _ (.inl t)⟩
  have to := bt s [.ref a] KX rfl
  subst efd
  refine codeAny_call_function hr.depth (KX _ _ lk) rfl S.co S.gen rfl (PySem.W.codeRec_of KX hcd) (to _ _ _ _ (wpAny_newFunctionEnv_cells S.kind pars fun env he s1 x => ?_))
  subst he
  refine ⟨(e0.mod.nolimit.keeps there).keeps x.toInCall.keep, codeAny_func ?_⟩
  have fe := hb f cdv A outer s H (fun _ _ _ => False) (hr.deeper _)
  obtain ⟨gl, se⟩ := hg f cdv A outer s H (fun _ _ _ => False)
  obtain ⟨t, pt, kt⟩ := (fa_cons fe fa_nil se).ex
  have body := pss_one (ps_ret (pos := pr) (pe_callB (p := px) (pos := pc) (he := se) call_iterT gl hm hbb pt))
  have I := inv_start (CX := L2.CX P w) (E := fun _ _ _ => False) (qual := qual) (f := f) (cd := cdv) (vs := [V.ref a]) S hr.hd e0 rfl (.cons rfl .nil) x
  have at1 : AtL K ca G [d] [V.ref a] := ⟨_, _, rfl, av, rfl⟩
  rw [hbs]
  have up : ∀ {G1 H1 : Hp}, Adv H G G1 H1 → Ext G H G1 H1 := fun x => ⟨x.bh, x.gg, x.gh, x.nw⟩
  have z0 : Rel K ca H G H (L2.start N [V.ref a]) (startE N.length [d]) := rel_start at1
  refine wpAny_mono (body.run [] s1 (L2.start N [V.ref a]) H { nx := fun _ _ => False, rt := LeftT s.heap.objs.size Q } I ?_) (fun fl s2 hs => ?_) fun e s2 hs => hs
  · refine kt H G H _ (startE N.length [d]) _ sm (.refl H) z0 ?_
    unfold runF sRet at q
    show Wish K ca _ G H ((fa (startE N.length [d])).bind fun a => R.bind (.ok []) fun r => .ok (a :: r)) _
    cases z : fa (startE N.length [d]) with
    | ok r =>
      rw [z] at q
      have q2 : Wish K ca (fun G1 r H1 => ∀ v, At K ca G1 r v → ∃ l ys, v = .ref l ∧ SqT K H1 l ys ∧ Q l H1) G H (.ok r) (fun _ _ _ => False) := q
      intro G1 H1 x1 vs al
      obtain ⟨v, rfl, a1⟩ := atl1 al
      obtain ⟨l, ys, rfl, h1, h2⟩ := q2 G1 H1 x1 v a1
      exact ⟨l, ys, rfl, h1, fun it hn hz => ⟨it, l, H1, rfl, hz, hn, rfl, h2⟩⟩
    | exc x => rw [z] at q; exact fun G1 H1 c dx x1 ea => q G1 H1 c dx x1 ea
    | bad => rw [z] at q; exact q
  · cases fl with
    | ret u =>
      obtain ⟨v, σ1, H1, J, rv, q1⟩ := hs
      exact ⟨v, H1, J.os, J.bare, J.base, J.hok, rv, q1⟩
    | next => obtain ⟨_, _, _, q1⟩ := hs; exact q1.elim
    | brk => obtain ⟨_, _, _, q1⟩ := hs; exact q1.elim
    | cont => obtain ⟨_, _, _, q1⟩ := hs; exact q1.elim
end
def R.tup : R D → R (List D)
  | .ok (.tup ys) => .ok ys
  | _ => .bad
def iDun (c : Nat) (F : List D → R D) (fo : Ev → R D) : Ev → R (List D) := fun ρ => (fo ρ).bind fun d => if isIns c d = true then R.tup (F [d]) else .bad
theorem fi_own {X : Cx} {ca : Cn} {W : WX} {k j c : Nat} {qual : Str} {st : Stmt} {F : List D → R D} {tg e : Expr} {fo : Ev → R D} (d : DefT X.prog X.w X.K X.mg X.base ca k c qual st F) (hr : Room j X.A) (ho : FE X ca W e fo) (hk : k ≤ j := by decide) : FI X ca W tg e (iDun c F fo) := by
  obtain ⟨f, C, hc, me, run⟩ := d.ex
  obtain ⟨to, po, ko⟩ := ho.ex
  refine ⟨fun σ H R => to σ H fun x H1 => ∃ a dx fs d ys G1, x = .ref a ∧ H1 a = some (.ins C dx fs) ∧ Same G1 H1 ∧ At X.K ca G1 d (.ref a) ∧ F [d] = .ok (.tup ys) ∧ ∀ G2 H2 J, Ext G1 H1 G2 H2 → JOk X.K ca G2 J ys → R J H2, ⟨fun pins s σ H R I h => ?_⟩, fun B G H σ ρ Q s b r w => ?_⟩
  · refine thn (po.run pins s σ H _ I h) fun u s1 ⟨x, H1, I1, r1, q1⟩ => ?_
    obtain ⟨a, dx, fs, d, ys, G1, rfl, e1, sm, av, eF, q⟩ := q1
    cases r1
    obtain ⟨mA, J, _⟩ := ins_get I1.hok e1
    obtain ⟨od, J, _⟩ := J.look
    obtain ⟨mm, hF⟩ := I1.fr
    refine PySem.W.owit_iter hF I1.ok.mod.kin J me.at_ me.fn (wpAny_call (codeAny_mono (run X.A X.stack s1 H1 G1 a d (fun l H2 => ∃ vs G2, SqT X.K G2 l vs ∧ AtL X.K ca G2 ys vs ∧ Ext G1 H1 G2 H2) (hr.mono hk) I1.env0 sm av ?_) fun r s2 hq => ?_))
    · rw [eF]
      intro G2 H2 x v ⟨l, vs, ev, h1, h2⟩
      exact ⟨l, vs, ev, tq x.gh h1, vs, G2, tq (.refl _) h1, h2, x⟩
    · rcases r with er | fl
      · exact (passNone σ pins H1 s1 er s2 I1 hq)
      · cases fl with
        | ret u =>
          obtain ⟨v, H2, I2, rv, it, l, H0, rfl, hn, h0, rfl, vs, G2, qs, ql, x⟩ := I1.after hq
          cases rv
          have e2 : upd H0 it (ItT l it) it = some (ItT l it) := upd_same
          have ti : s2.heap.IsTupleIter it l 0 := (I2.hok it _ e2).1
          unfold PySem.W.OwitIt
          refine wpAny_specialOf (name := "__next__") ti.typeIs PySem.F.slot_tuple_iterator_next.lookup ?_
          have z2 := e2
          unfold ItT at z2
          have z3 := ItX.inv_drop I2 z2
          have ed : ItX.dropH (upd H0 it (ItT l it)) it = H0 := ItX.dropH_upd h0
          have fp := ItX.inv_fp I2 z2 (Nat.le_trans I1.sz hn)
          rw [ed] at z3 fp
          show PIE X pins σ tg R (Value.ref it) s2
          refine ⟨it, [it], _, _, H0, rfl, z3, turn_tuple l it, ti, fun b hb => ?_, q G2 H0 _ x (jok_tup qs ql)⟩
          rcases List.mem_cons.mp hb with rfl | hb
          · exact fp
          · cases hb
        | _ => exact hq.elim
  · refine ko B G H σ ρ _ s b r (Wish.bind w fun d G1 H1 _ x1 w1 v av => ?_)
    split at w1
    · rename_i hi
      obtain ⟨p, dx, vs, rfl, g1⟩ := isIns_at hc hi av
      cases z : F [d] with
      | ok t =>
        rw [z] at w1
        cases t with
        | tup ys => exact ⟨p, dx, vs, d, ys, G1, rfl, x1.gh _ _ g1, x1.gh, av, z, fun G2 H2 J x2 hj => w1 G2 H2 x2 J hj⟩
        | _ => exact w1.elim
      | exc x => rw [z] at w1; exact w1.elim
      | bad => rw [z] at w1; exact w1.elim
    · exact w1.elim
end Tk
set_option maxHeartbeats 2000000
namespace Tk
open PySem PySem.Spec L2 PyProof.Rows
section
variable {X : Cx} {pins : List (Addr × Obj)} {σ : L2.St} {A1 : Around}
theorem take_get {α : Type} {l : List α} {i : Nat} {x : α} (h : l[i]? = some x) : l.take i ++ [x] = l.take (i + 1) := by
  obtain ⟨hi, e⟩ := List.getElem?_eq_some_iff.mp h
  rw [List.take_succ_eq_append_getElem hi, e]
theorem ls_loop {l it S : Addr} {ys : List V} {Rs : Result → Shared → Prop} (hc : A1.in1.handled = none) (hS : S ≠ it) (hlS : l ≠ S) (hz : ys.length ≤ sizeLine) :
    ∀ (m i : Nat) (H : Hp) (s : Shared) (R : Hp → Prop), m = ys.length - i → i ≤ ys.length → Inv X pins σ H s → s.heap.IsTupleIter it l i → FpOk X pins H it → SqT X.K H l ys → H S = some (.lst (ys.take i)) → R (upd H S (.lst ys)) →
      (∀ H' s', Inv X pins σ H' s' → R H' → Rs (.ok (.ret .none)) s') →
      codeAny (model X.prog X.w) A1 (.builtin "list.extend.loop" ⟨[.ref S, .ref it, .none], []⟩) Rs s := by
  intro m
  induction m with
  | zero =>
    intro i H s R hm hi I st fp sq hl hR k
    have e : i = ys.length := by omega
    refine codeAny_builtin PySem.F.entry_extend_loop ?_
    rw [Around.under_plainId PySem.F.plain_extend_loop _]
    show wpAny _ A1.in1 (pyNext (.ref it) >>= _) _ _ s
    obtain ⟨its, rv, pl, _⟩ := I.tuple sq
    obtain ⟨f0, f1, f2, f3, f4, f5⟩ := fp
    have ln := rv.length
    refine wpAny_bind (wpAny_pyNext_tuple_end hc st (show s.heap.IsTuple l its.toArray from pl) (by simp; omega) fun h' eb => ?_)
    have I1 : Inv X pins σ H { s with heap := h' } := I.turned (t' := s.toks) (fun b o hb e => eb b o hb e) f0 f1 f3 f4 f5
    refine wpAny_pure (k H _ I1 ?_)
    have eH : upd H S (.lst ys) = H := by
      funext b
      by_cases hb : b = S
      · rw [hb, upd_same, hl, e, List.take_length]
      · rw [upd_ne hb]
    rw [← eH]
    exact hR
  | succ m ih =>
    intro i H s R hm hi I st fp sq hl hR k
    have hlt : i < ys.length := by omega
    refine codeAny_builtin PySem.F.entry_extend_loop ?_
    rw [Around.under_plainId PySem.F.plain_extend_loop _]
    show wpAny _ A1.in1 (pyNext (.ref it) >>= _) _ _ s
    obtain ⟨its, rv, pl, _⟩ := I.tuple sq
    have hx : ys[i]? = some ys[i] := List.getElem?_eq_getElem hlt
    obtain ⟨u, hu, ru⟩ := rv.get hx
    obtain ⟨f0, f1, f2, f3, f4, f5⟩ := fp
    refine wpAny_bind (wpAny_pyNext_tuple_item st (show s.heap.IsTuple l its.toArray from pl) (x := u) (by simpa using hu) fun h' st' sb => ?_)
    have I1 : Inv X pins σ H { s with heap := h' } := I.turned (t' := s.toks) (fun b o hb e => (sb.2 b hb).trans e) f0 f1 f3 f4 f5
    show wpAny _ A1.in1 (updateSeq S (·.push u) >>= _) _ _ _
    obtain ⟨z, is2, n, r2, hl2, e2⟩ := I1.lstM hl
    have hlen : is2.length = i := by rw [← hl2, List.length_take]; omega
    have I2 := I1.lset (f := (·.push u)) (its' := is2 ++ [u]) (ys := ys.take i ++ [ys[i]]) (t' := s.toks) hl e2 (by simp) (r2.append (.cons ru .nil)) (by simp; omega)
    rw [take_get hx] at I2
    refine wpAny_bind (wpAny_updateSeq e2 rfl (wpAny_pure ⟨plainId_quiet PySem.F.plain_extend_loop _, ?_⟩) (by simp; omega) (by simp; omega))
    have sq2 : SqT X.K (upd H S (.lst (ys.take (i + 1)))) l ys := by
      rcases sq with h | h
      · exact .inl (by unfold Rd at h ⊢; rw [upd_ne hlS]; exact h)
      · exact .inr h
    refine ih (i + 1) (upd H S (.lst (ys.take (i + 1)))) _ R (by omega) hlt I2 ?_ ⟨by rw [upd_ne (Ne.symm hS)]; exact f0, f1, f2, f3, f4, f5⟩ sq2 upd_same (by rw [upd_upd]; exact hR) k
    obtain ⟨o, ho, r⟩ := st'
    exact ⟨o, (Heap.get?_update_other _ _ hS).trans ho, r⟩
theorem run_q {ca : Cn} {k : Nat} {ps : List Str} {f : Addr} {fd : FuncData} {sp : Sp} {H : Hp} {s : Shared} {Q : VK} {us : List Value} {vs : List V} {E : Value → Shared → Prop} (F : FnOk X.prog X.w X.K X.mg X.base (L2.CX X.prog X.w) k f fd ps sp)
    (hr : Room k A1) (hf : A1.frames = X.A.frames) (hb : Binds X.K fd ps []) (I : Inv X pins σ H s) (rv : Vals vs us) (h : sp vs H Q fun _ _ _ => False) : wpAny (model X.prog X.w) A1 (call (.ref f) us) (EP X pins σ Q) E s := by
  have e0 := I.env0
  have e1 : Env0 X.prog X.w X.K X.mg X.base A1 X.stack s H := { frames := hf.trans e0.frames, mod := e0.mod, bs := e0.bs, bsz := e0.bsz, funs := e0.funs, frf := e0.frf, hok := e0.hok, bare := e0.bare }
  have hn : (us ++ []).length = ps.length := by rw [List.append_nil, ← rv.length]; exact F.len vs H Q _ h
  have bt := hb s us I.kIn hn
  rw [List.append_nil] at bt
  refine wpAny_call (codeAny_mono (F.run A1 X.stack s H ⟨us, []⟩ us vs Q _ hr e1 bt rv h) fun r s1 hq => ?_)
  rcases r with e | fl
  · exact (False.elim (by obtain ⟨_, _, _, _, _, _, _, _, _, _, _, _, hE⟩ := hq; exact hE))
  · cases fl with
    | ret u => exact I.after hq
    | _ => exact hq.elim
theorem ls_hint {a C f : Addr} {fs : List (Str × V)} {H : Hp} {s : Shared} {dx : Addr} {E : Value → Shared → Prop} {Q : Bool → Shared → Prop} (I : Inv X pins σ H s) (e : H a = some (.ins C dx fs)) (hm : Meth X.K C "__len__" f)
    (run : ∀ E, wpAny (model X.prog X.w) A1.in1 (call (.ref f) [.ref a]) (PySem.W.LenBack fun v s' => ∃ n t, v = .int n t ∧ n ≤ (sizeLine : Int) ∧ ∀ b, Q b s') E s) : wpAny (model X.prog X.w) A1 (Builtin.List.listLengthHint (.ref a)) Q E s := by
  obtain ⟨mA, J, _⟩ := ins_get I.hok e
  obtain ⟨od, J, _⟩ := J.look
  obtain ⟨mm, hF⟩ := I.fr
  unfold Builtin.List.listLengthHint
  refine wpAny_bind (wpAny_bind (J.type.here ((PySem.W.looks_findIn I.kIn hm.at_).here ?_)))
  refine PySem.W.KFB.if_not rfl ?_
  refine PySem.W.KFB.if_so rfl ?_
  refine wpAny_bind (wpAny_rule ?_)
  refine wpAny_bind (wpAny_attempt (PySem.W.len_K hF I.ok.mod.kin J hm.at_ hm.fn (wpAny_mono (run _) (fun v s' hv => ?_) fun _ _ z => z)))
  cases v <;> first | exact hv.elim | skip
  rename_i n t
  obtain ⟨hn, n', t', ev, hz, q⟩ := hv
  refine ⟨hn, ?_⟩
  cases ev
  show wpAny _ _ (asInt? (.int n _) >>= _) _ _ _
  refine wpAny_bind (m := asInt? (.int n _)) (wpAny_pure ?_)
  have hl : Builtin.List.listTooLong n.toNat = false := by
    unfold Builtin.List.listTooLong
    exact decide_eq_false (by omega)
  show wpAny _ _ (if Builtin.List.listTooLong n.toNat = true then _ else _) _ _ _
  rw [if_neg (by rw [hl]; exact Bool.false_ne_true)]
  exact wpAny_pure (q _)
structure LsW (K : PySem.W.Frag) (ca : Cn) (G H : Hp) (ys : List D) (Q : VK) : Prop where
  ex : ∀ q G' H' vs, Ext G H G' H' → G' q = some (.lst vs) → AtL K ca G' ys vs → Q (.ref q) H'
theorem ls_extend {ca : Cn} {ki kl c : Nat} {qi : Str} {sti : Stmt} {Fi Fl : List D → R D} {a C S fl : Addr} {fdl : FuncData} {psl : List Str} {fs : List (Str × V)} {dx : Addr} {H G H0 : Hp} {s : Shared} {d : D} {ys : List D} {n : Int} {Q : VK} {Rs : Result → Shared → Prop}
    (di : DefT X.prog X.w X.K X.mg X.base ca ki c qi sti Fi) (hC : ca.a c = some C) (Fn : FnOk X.prog X.w X.K X.mg X.base (L2.CX X.prog X.w) kl fl fdl psl (spF X.K ca psl.length Fl)) (ml : Meth X.K C "__len__" fl) (bl : Binds X.K fdl psl []) (hpl : psl.length = 1)
    (ri : Room ki A1.in1) (rl : Room kl A1.in1.in1) (hf : A1.frames = X.A.frames) (hh : A1.in1.handled = none)
    (e1 : Fi [d] = .ok (.tup ys)) (e2 : Fl [d] = .ok (.int n)) (z1 : ys.length ≤ sizeLine) (z2 : 0 ≤ n) (z3 : n ≤ (sizeLine : Int))
    (I : Inv X pins σ H s) (hS : H S = some (.lst [])) (eH : H = upd H0 S (.lst [])) (fS : H0 S = none) (ha : H a = some (.ins C dx fs)) (sm : Same G H0) (av : At X.K ca G d (.ref a)) (want : LsW X.K ca G H0 ys Q)
    (fin : ∀ H' s', Inv X pins σ H' s' → Q (.ref S) H' → Rs (.ok (.ret .none)) s') :
    wpAny (model X.prog X.w) A1.in1 (Builtin.List.listExtendWith (.ref S) (.ref a) .none)
      (fun r s' => match r with | .done f => Rs (.ok f) s' | .again c' => c'.quiet = true ∧ codeAny (model X.prog X.w) A1 c' Rs s') (fun e s' => Rs (.error e) s') s := by
  have hne : S ≠ a := ne_of hS ha (fun z => nomatch z)
  have smH : Same G H := fun b o e => by
    rw [eH, upd_ne (ne_of_none (sm _ _ e) fS)]
    exact sm _ _ e
  obtain ⟨mA, J, _⟩ := ins_get I.hok ha
  obtain ⟨od, J, _⟩ := J.look
  obtain ⟨m0, hF⟩ := I.fr
  obtain ⟨fi, C', hC', mi, run⟩ := di.ex
  rw [hC] at hC'
  cases hC'
  unfold Builtin.List.listExtendWith
  refine wpAny_bind (J.type.here ?_)
  have q1 : Builtin.List.listSameRef (.ref S) (.ref a) = false := by simp [Builtin.List.listSameRef, hne]
  have q2 : (Value.ref C == Value.type "list") = false := rfl
  have q3 : (Value.ref C == Value.type "tuple") = false := rfl
  simp only [q1, q2, q3, Bool.or_false, Bool.false_eq_true, if_false]
  have ev0 := I.env0
  have ev : Env0 X.prog X.w X.K X.mg X.base A1.in1 X.stack s H := { frames := hf.trans ev0.frames, mod := ev0.mod, bs := ev0.bs, bsz := ev0.bsz, funs := ev0.funs, frf := ev0.frf, hok := ev0.hok, bare := ev0.bare }
  have go := run A1.in1 X.stack s H G a d (fun l H2 => ∃ vs G2, SqT X.K G2 l vs ∧ AtL X.K ca G2 ys vs ∧ Ext G H G2 H2) ri ev smH av (by
    rw [e1]
    intro G2 H2 x v ⟨l, vs, ev, h1, h2⟩
    exact ⟨l, vs, ev, tq x.gh h1, vs, G2, tq (.refl _) h1, h2, x⟩)
  refine wpAny_bind (PySem.W.owit_iter hF I.ok.mod.kin J mi.at_ mi.fn (wpAny_call (codeAny_mono go fun r s2 hq => ?_)))
  rcases r with er | fl'
  · exact (False.elim (by obtain ⟨_, _, _, _, _, _, _, _, _, _, _, _, hE⟩ := hq; exact hE))
  cases fl' with
  | ret u =>
    obtain ⟨v, Ht, I2, rv, it, l, H2, rfl, hn, h0, rfl, vs, G2, sq2, al, x⟩ := I.after hq
    cases rv
    have et : upd H2 it (ItT l it) it = some (ItT l it) := upd_same
    have ti : s2.heap.IsTupleIter it l 0 := (I2.hok it _ et).1
    unfold PySem.W.OwitIt
    refine wpAny_specialOf (name := "__next__") ti.typeIs PySem.F.slot_tuple_iterator_next.lookup ?_
    have gi : G2 it = none := same_none x.gh h0
    have sm2 : Same G2 (upd H2 it (ItT l it)) := fun b o e => by
      rw [upd_ne (ne_of_none e gi)]
      exact x.gh _ _ e
    have ea : upd H2 it (ItT l it) a = some (.ins C dx fs) := by
      rw [upd_ne (ne_of_none (x.hh _ _ ha) h0)]
      exact x.hh _ _ ha
    show wpAny _ A1.in1 (holding [.ref it] (Builtin.List.listLengthHint (.ref a)) >>= _) _ _ s2
    refine wpAny_bind (wpAny_holding (ls_hint I2 ea ml fun E => ?_))
    refine wpAny_mono (run_q (ca := ca) (us := [.ref a]) (vs := [.ref a]) (sp := spF X.K ca psl.length Fl) (Q := fun v H' => v = .int n ∧ ∃ G3, Ext G2 (upd H2 it (ItT l it)) G3 H') Fn rl (by exact hf) bl I2 (.cons rfl .nil) ⟨hpl.symm, G2, [d], sm2, ⟨_, _, rfl, At.mono x.gg av, rfl⟩, ?_⟩) (fun w s3 hw => ?_) fun _ _ z => z
    · rw [e2]
      intro G3 H3 y v a1
      cases a1
      exact ⟨rfl, G3, y⟩
    obtain ⟨v, H3, I3, rv3, rfl, G3, y⟩ := hw
    obtain ⟨tk, rfl⟩ := rv3
    refine ⟨⟨z2, by have : (sizeLine : Int) < 2 ^ 63 := by rw [sizeLine_eq]; decide
                    omega⟩, n, _, rfl, z3, fun b => ?_⟩
    have I4 := I3.tok (s3.toks + 1)
    have i3 : H3 it = some (ItT l it) := y.hh _ _ et
    have i3' := i3
    unfold ItT at i3'
    have I5 := ItX.inv_drop I4 i3'
    have fp := ItX.inv_fp I4 i3' (Nat.le_trans I.sz hn)
    have ti3 : s3.heap.IsTupleIter it l 0 := (I3.hok it _ i3).1
    have nS : S ≠ it := fun z => by
      have : H2 S = some (.lst []) := x.hh _ _ hS
      rw [z, h0] at this
      cases this
    have lS : H3 S = some (.lst []) := y.hh _ _ (by rw [upd_ne nS]; exact x.hh _ _ hS)
    have g3i : G3 it = none := by
      cases z : G3 it with
      | none => rfl
      | some o =>
        rcases y.nw it (by rw [z]; simp) with q | q
        · exact (q gi).elim
        · exact (q.no et fun _ z => nomatch z).elim
    have sg : ∀ b o, G3 b = some o → ItX.dropH H3 it b = some o := fun b o e => by
      rw [ItX.dropH_ne (ne_of_none e g3i)]
      exact y.gh _ _ e
    have g3S : G3 S = none := by
      cases z : G3 S with
      | none => rfl
      | some o =>
        rcases y.nw S (by rw [z]; simp) with q | q
        · rcases x.nw S q with q | q
          · exact (q (same_none sm fS)).elim
          · exact (q.no hS fun _ z => nomatch z).elim
        · exact (q.no (o := .lst []) (by rw [upd_ne nS]; exact x.hh _ _ hS) fun _ z => nomatch z).elim
    have sqd : SqT X.K (ItX.dropH H3 it) l vs := SqT_mono (fun b o e => sg b o e) (SqT_mono y.gg sq2)
    have eS : ItX.dropH H3 it S = some (.lst []) := by rw [ItX.dropH_ne nS]; exact lS
    have lnS : l ≠ S := fun z => by
      subst z
      rcases sqd with (q | ⟨o, q⟩) | ⟨o, _, _, q, qc, _⟩
      · rw [eS] at q; cases q
      · rw [eS] at q; cases q
      · obtain ⟨_, _, _, _, _, g⟩ := I5.lstM eS
        have g2 := I5.kIn _ _ q
        have g3 : some o = _ := g2.symm.trans g
        cases g3
        exact absurd qc (by simp)
    have vl := al.length
    have Hq : Q (.ref S) (upd (ItX.dropH H3 it) S (.lst vs)) := by
      have hkeep : ∀ b o, H0 b = some o → ItX.dropH H3 it b = some o := fun b o e => by
        have n1 : b ≠ S := ne_of_none e fS
        have e1 : H b = some o := by rw [eH, upd_ne n1]; exact e
        have e2 := x.hh _ _ e1
        have n2 : b ≠ it := ne_of_none e2 h0
        rw [ItX.dropH_ne n2]
        exact y.hh _ _ (by rw [upd_ne n2]; exact e2)
      refine want.ex S (upd G3 S (.lst vs)) _ vs ⟨fun b o e => ?_, fun b o e => ?_, fun b o e => ?_, fun b e => ?_⟩ upd_same (AtL.mono (fun b o e => by rw [upd_ne (ne_of_none e g3S)]; exact e) (AtL.mono y.gg al))
      · rw [upd_ne (ne_of_none e fS)]; exact hkeep b o e
      · rw [upd_ne (ne_of_none (sm _ _ e) fS)]; exact y.gg _ _ (x.gg _ _ e)
      · by_cases z : b = S
        · subst z; rw [upd_same] at e ⊢; exact e
        · rw [upd_ne z] at e ⊢; exact sg b o e
      · by_cases z : b = S
        · subst z; exact .inr (.inl fS)
        · rw [upd_ne z] at e
          have un : Fre H b → Fre H0 b := fun q => by unfold Fre at q ⊢; rw [eH, upd_ne z] at q; exact q
          rcases y.nw b e with q | q
          · exact (x.nw b q).imp id un
          · refine .inr (un ?_)
            have : Fre H2 b := by
              by_cases zi : b = it
              · rw [zi]; exact .inl h0
              · unfold Fre at q ⊢; rw [upd_ne zi] at q; exact q
            exact this.up x.hh
    have fl : FpOk X pins (ItX.dropH H3 it) it := fp
    refine wpAny_ite_split (fun _ => ?_) (fun _ => ?_)
    · refine wpAny_bind (wpAny_rule (wpAny_bind ?_))
      show wpAny _ _ (updateSeq S (·.push .none) >>= fun _ => updateSeq S (·.pop)) _ _ _
      obtain ⟨z, its, k0, rr, _, g⟩ := I5.lstM eS
      cases rr
      have J1 := I5.lset (f := (·.push Value.none)) (its' := [Value.none]) (ys := [.non]) (t' := s3.toks + 1) eS g (by simp) (.cons rfl .nil) (by rw [List.length_singleton, sizeLine_eq]; decide)
      refine wpAny_bind (wpAny_updateSeq g rfl ?_)
      obtain ⟨z4, its4, k4, r4, _, g4⟩ := J1.lstM upd_same
      obtain ⟨u4, rfl, ru4⟩ := r4.one
      have J2 := J1.lset (f := (·.pop)) (its := [u4]) (its' := []) (ys := []) (t' := s3.toks + 1) upd_same g4 (by rfl) .nil (Nat.zero_le _)
      rw [upd_upd] at J2
      have eqH : upd (ItX.dropH H3 it) S (.lst []) = ItX.dropH H3 it := by
        funext b
        by_cases hb : b = S
        · subst hb; rw [upd_same]; exact eS.symm
        · rw [upd_ne hb]
      rw [eqH] at J2
      refine wpAny_updateSeq g4 rfl ?_ (by show 1 ≤ sizeLine; rw [sizeLine_eq]; decide) (by show 0 ≤ sizeLine + 1; exact Nat.zero_le _)
      have keep : (({ s3 with heap := s3.heap.update S (Obj.mapSeq (·.push Value.none)) } : Shared).heap.update S (Obj.mapSeq (·.pop))).IsTupleIter it l 0 := by
        obtain ⟨o, ho, r⟩ := ti3
        exact ⟨o, (Heap.get?_update_other _ _ nS).trans ((Heap.get?_update_other _ _ nS).trans ho), r⟩
      exact wpAny_pure ⟨plainId_quiet PySem.F.plain_extend_loop _, ls_loop (Rs := Rs) hh nS lnS (by rw [← vl]; exact z1) vs.length 0 (ItX.dropH H3 it) _ (fun H' => Q (.ref S) H') rfl (Nat.zero_le _) J2 keep fp sqd eS Hq fin⟩
    · exact wpAny_pure ⟨plainId_quiet PySem.F.plain_extend_loop _, ls_loop (Rs := Rs) hh nS lnS (by rw [← vl]; exact z1) vs.length 0 (ItX.dropH H3 it) _ (fun H' => Q (.ref S) H') rfl (Nat.zero_le _) I5 ti3 fp sqd eS Hq fin⟩
  | _ => exact hq.elim
end
def gListO (c : Nat) (Fi Fl : List D → R D) : List D → R D
  | [d] => if isIns c d = true then (match Fi [d], Fl [d] with
    | .ok (.tup ys), .ok (.int n) => if ys.length ≤ sizeLine ∧ 0 ≤ n ∧ n ≤ (sizeLine : Int) then .ok (.lst ys) else .bad
    | _, _ => .bad) else .bad
  | _ => .bad
def rListO (X : Cx) (ca : Cn) (c : Nat) (Fi Fl : List D → R D) : List V → Hp → VK → Prop := fun xs H Q => ∃ G d ys n v, xs = [v] ∧ Same G H ∧ At X.K ca G d v ∧ isIns c d = true ∧ Fi [d] = .ok (.tup ys) ∧ Fl [d] = .ok (.int n) ∧ ys.length ≤ sizeLine ∧ 0 ≤ n ∧ n ≤ (sizeLine : Int) ∧ LsW X.K ca G H ys Q
theorem call_listO {X : Cx} {ca : Cn} {ki kl c j : Nat} {qi ql : Str} {sti stl : Stmt} {ddl : List D} {kdl : List (Str × D)} {psl : List Str} {Fi Fl : List D → R D} (di : DefT X.prog X.w X.K X.mg X.base ca ki c qi sti Fi) (dl : DefM X.prog X.w X.K X.mg X.base ca kl c "__len__" ql stl ddl kdl psl Fl)
    (hb : ∀ {f fd}, FD X.K "__len__" ql stl ddl kdl f fd → Binds X.K fd psl []) (hr : Room j X.A) (hc : X.calm = true) (hn : psl.length = 1) (hi : ki + 2 ≤ j) (hl : kl + 3 ≤ j) : CallR X (.type "list") (rListO X ca c Fi Fl) := by
  intro pins s σ H xs us Q I rv h
  obtain ⟨G, d, ys, n, v, rfl, sm, av, hi2, e1, e2, z1, z2, z3, want⟩ := h
  obtain ⟨u, rfl, ru⟩ := rv.one
  obtain ⟨fl, fdl, C, Fn, hC, cl, ml, fdp⟩ := dl.ex
  obtain ⟨a, dx, fs, rfl, ga⟩ := isIns_at hC hi2 av
  cases ru
  have hd : X.A.in1.in1.handled = none := I.ok.hd hc
  refine callType_codes (Q₁ := fun obj s₁ => obj = .ref s.heap.objs.size ∧ s₁ = { s with heap := s.heap.push { cls := .type "list", data := .seq #[] } }) PySem.F.called_list (PySem.F.typeCall_list_1 _) PySem.F.entry_list_init (code_list_new _ ⟨rfl, rfl⟩) fun obj s1 h1 => ?_
  obtain ⟨rfl, rfl⟩ := h1
  have lay : (s.heap.push { cls := .type "list", data := .seq #[] }).get? s.heap.objs.size = some { cls := .type "list", data := .seq #[] } := Heap.get?_push_size _ rfl
  have fresh : H s.heap.objs.size = none := I.fresh
  refine ⟨⟨_, lay, rfl⟩, PySem.F.args_list_init_2 _ _, ?_⟩
  have I1 : Inv X pins σ (upd H s.heap.objs.size (.lst [])) { s with heap := s.heap.push { cls := .type "list", data := .seq #[] } } := I.lnew (its := []) (t' := s.toks) .nil (Nat.zero_le _)
  show wpAny _ _ (Builtin.List.listItems (.ref s.heap.objs.size) >>= fun old => Builtin.List.listUpdate (.ref s.heap.objs.size) (fun _ => #[]) >>= fun _ => letGo old.toList.reverse >>= fun _ => Builtin.List.listExtendWith (.ref s.heap.objs.size) (.ref a) .none) _ _ _
  refine wpAny_bind ?_
  unfold Builtin.List.listItems
  refine wpAny_bind (wpAny_seqItems lay rfl (wpAny_pure ?_))
  show wpAny _ _ (updateSeq s.heap.objs.size (fun _ => #[]) >>= fun _ => letGo (#[] : Array Value).toList.reverse >>= fun _ => Builtin.List.listExtendWith (.ref s.heap.objs.size) (.ref a) .none) _ _ _
  refine wpAny_bind (wpAny_updateSeq lay rfl (wpAny_bind (wpAny_letGo ?_)))
  have I2 := I1.lset (f := fun _ => #[]) (its := []) (its' := []) (ys := []) (t' := s.toks) upd_same lay rfl .nil (Nat.zero_le _)
  rw [upd_upd] at I2
  have r1 := hr.mono hi
  have r2 := hr.mono hl
  exact ls_extend (A1 := X.A.in1) (H0 := H) (Rs := wants (fun r s₂ => r = .none ∧ EP X pins σ Q (.ref s.heap.objs.size) s₂) X.xe) di hC Fn ml (hb fdp) hn r1.in1.in1 r2.in1.in1.in1 rfl hd e1 e2 z1 z2 z3 I2 upd_same rfl fresh
    (by rw [upd_ne (ne_of_none (sm _ _ ga) fresh)]; exact sm _ _ ga) sm av want fun H' s' J q => ⟨rfl, .ref s.heap.objs.size, H', J, rfl, q⟩
theorem fe_listO {X : Cx} {ca : Cn} {W : WX} {ki kl c j : Nat} {qi ql : Str} {sti stl : Stmt} {ddl : List D} {kdl : List (Str × D)} {psl : List Str} {Fi Fl : List D → R D} {e : Expr} {fl : Ev → R (List D)} {p pos : Pos} (T : BT X.mg) (di : DefT X.prog X.w X.K X.mg X.base ca ki c qi sti Fi) (dl : DefM X.prog X.w X.K X.mg X.base ca kl c "__len__" ql stl ddl kdl psl Fl)
    (hb : ∀ {f fd}, FD X.K "__len__" ql stl ddl kdl f fd → Binds X.K fd psl []) (hr : Room j X.A) (ha : FA X ca W [e] fl) (hn : psl.length = 1 := by rfl) (hi : ki + 2 ≤ j := by decide) (hl : kl + 3 ≤ j := by decide) (hc : X.calm = true := by rfl) (nm : Nm X "list" e [] pos := by exact ⟨rfl, rfl, rfl⟩) :
    FE X ca W (.Call (.Name "list" p) [e] [] pos) (eA (gListO c Fi Fl) fl) := by
  refine fe_bty (call_listO di dl hb hr hc hn hi hl) ?_ nm.g T.list bb_list ha (by decide) (by decide) nm.h nm.p
  intro G H W1 xs ds Q s a w
  unfold gListO at w
  split at w
  · split at w
    · rename_i d hi2
      obtain ⟨v, rfl, av⟩ := atl1 a
      split at w
      · rename_i ys n e1 e2
        split at w
        · rename_i z
          exact ⟨G, d, ys, n, v, rfl, s, av, hi2, e1, e2, z.1, z.2.1, z.2.2, ⟨fun q G' H' vs x g al => w G' H' x _ ⟨q, vs, rfl, g, al⟩⟩⟩
        · exact w.elim
      · exact w.elim
    · exact w.elim
  · exact w.elim
end Tk
namespace Tk
open PySem PySem.Spec L2 PyProof.Rows
section
variable {K : PySem.W.Frag} {ca : Cn} {G : Hp}
theorem AtT.any : ∀ {kvs : List (List Key × D)} {vs : List (List Key × V)} (k : List Key), AtT K ca G kvs vs → (kvs.any fun kv => decide (kv.1 = k)) = (vs.any fun kv => decide (kv.1 = k))
  | [], _, _, h => by cases h; rfl
  | (_, _) :: _, _, k, ⟨_, _, e, _, t⟩ => by subst e; simp only [List.any_cons, AtT.any k t]
theorem AtT.app : ∀ {kvs kws : List (List Key × D)} {vs ws : List (List Key × V)}, AtT K ca G kvs vs → AtT K ca G kws ws → AtT K ca G (kvs ++ kws) (vs ++ ws)
  | [], _, _, _, h, h' => by cases h; exact h'
  | (_, _) :: _, _, _, _, ⟨_, _, e, a, t⟩, h' => by subst e; exact ⟨_, _, rfl, a, AtT.app t h'⟩
theorem AtT.upd1 : ∀ {kvs : List (List Key × D)} {vs : List (List Key × V)} {k : List Key} {d : D} {v : V}, AtT K ca G kvs vs → At K ca G d v → AtT K ca G (kvs.map fun kv => if kv.1 = k then (kv.1, d) else kv) (vs.map fun kv => if kv.1 = k then (kv.1, v) else kv)
  | [], _, _, _, _, h, _ => by cases h; rfl
  | (j, _) :: _, _, k, d, v, ⟨_, _, e, a, t⟩, q => by
    subst e
    simp only [List.map_cons]
    by_cases z : j = k
    · simp only [z, if_true]; exact ⟨_, _, rfl, q, AtT.upd1 t q⟩
    · simp only [z, if_false]; exact ⟨_, _, rfl, a, AtT.upd1 t q⟩
theorem AtT.put {kvs : List (List Key × D)} {vs : List (List Key × V)} {k : List Key} {d : D} {v : V} (h : AtT K ca G kvs vs) (a : At K ca G d v) : AtT K ca G (putG kvs k d) (putK vs k v) := by
  unfold putG putK
  rw [h.any k]
  split
  · exact h.upd1 a
  · exact h.app ⟨_, _, rfl, a, rfl⟩
theorem AtT.length : ∀ {kvs : List (List Key × D)} {vs : List (List Key × V)}, AtT K ca G kvs vs → kvs.length = vs.length
  | [], _, h => by cases h; rfl
  | (_, _) :: _, _, ⟨_, _, e, _, t⟩ => by subst e; simp [AtT.length t]
end
def nDT : Ev → R Sl := fun _ => .ok (.t [])
section
variable {X : Cx} {ca : Cn} {W : WX} {pos : Pos}
theorem fn_dT : FN X ca W (.Dict [] [] pos) nDT := ⟨_, pe_dnewT, fun B G H σ ρ Q s b r w p n => (w G (upd H p (.dT [])) ⟨same_upd n, .refl _, s.trans (same_upd n), fun c z => .inl z⟩).2 p ⟨[], upd_same, rfl⟩ (same_none s n) n⟩
end
def ownT (ρ : Ev) (i : Nat) : R (List (List Key × D)) := match ρ[i]? with
  | some (.t xs) => .ok xs
  | _ => .bad
def sPutT (i : Nat) (fk fv : Ev → R D) : Ev → SO := fun ρ => SO.from ρ (fv ρ) fun d => SO.from ρ (ownT ρ i) fun kvs => SO.from ρ (fk ρ) fun y => match keyT y with
  | some k => if kvs.length < sizeLine then .nx (ρ.set i (.t (putG kvs k d))) else .bad
  | none => .bad
section
variable {X : Cx} {ca : Cn} {W : WX} {e ei : Expr} {f fi : Ev → R D} {pos p py : Pos} {i : Nat} {y : Str}
theorem own_at {K : PySem.W.Frag} {B G H : Hp} {σ : L2.St} {ρ : Ev} {i : Nat} {s : Sl} (r : Rel K ca B G H σ ρ) (h : ρ[i]? = some s) (o : s.own = true) : ∃ a, σ[i]? = some (some (.ref a)) ∧ Own K ca G H a s := let ⟨a, h1, h2, _⟩ := r.own i s h o; ⟨a, h1, h2⟩
theorem fs_putT (hu : X.A.units + 65 < cLine) (hi : X.N[i]? = some y) (h : FE X ca W e f) (hx : FE X ca W ei fi) (hv : Vis X.env.scope y := by first | exact Or.inl rfl | exact Or.inr (Or.inl rfl) | exact Or.inr (Or.inr rfl)) (hd : (y == ("__debug__" : Str)) = false := by decide) (hcd : (y == ("__classdict__" : Str)) = false := by decide)
    (hs : swapsWith e (some (.Subscript (.Name y py) ei p)) pos.line X.env = pure false := by rfl) : FS X ca W (.Assign [.Subscript (.Name y py) ei p] e pos) (sPutT i fi f) := by
  obtain ⟨t, pp, k⟩ := h.ex
  obtain ⟨u, pu, ku⟩ := hx.ex
  refine ⟨_, ps_dput (by omega) (pe_var hi hv hd hcd) pu pp hs, fun B G H σ ρ D s b r w => k B G H σ ρ _ s b r ?_⟩
  refine WishS.from w b r fun d G1 H1 _ x w1 r1 b1 v av => ?_
  cases z : ownT ρ i with
  | exc x => unfold ownT at z; split at z <;> cases z
  | bad => rw [z] at w1; exact w1.elim
  | ok kvs =>
    rw [z] at w1
    have hk : ρ[i]? = some (.t kvs) := by
      unfold ownT at z
      split at z
      · rename_i q; cases z; exact q
      · cases z
    obtain ⟨a, h1, ⟨vs, h2, h3⟩⟩ := own_at r1 hk rfl
    refine ⟨_, h1, ku B G1 H1 σ ρ _ x.gh b1 r1 ?_⟩
    refine WishS.from w1 b1 r1 fun n G2 H2 _ x2 w2 r2 b2 nv an => ?_
    have w3 : WishS X.K ca B G2 (match keyT n with | some k => if kvs.length < sizeLine then .nx (ρ.set i (.t (putG kvs k d))) else .bad | none => .bad) D W := w2
    cases hkk : keyT n with
    | none => rw [hkk] at w3; exact w3.elim
    | some kk =>
      rw [hkk] at w3
      have w4 : WishS X.K ca B G2 (if kvs.length < sizeLine then .nx (ρ.set i (.t (putG kvs kk d))) else .bad) D W := w3
      split at w4
      · rename_i hl
        have h3' : AtT X.K ca G2 kvs vs := AtT.mono x2.gg h3
        obtain ⟨t1, t2, t3⟩ := r2.turn x2.gh b2 (t' := .t (putG kvs kk d)) (o := .dT (putK vs kk v)) hk rfl rfl h1 ⟨_, upd_same, h3'.put (At.mono x2.gg av)⟩
        unfold keyT at hkk
        split at hkk
        · obtain ⟨q, ws, rfl, u1, u2⟩ := an
          have e3 := keys_at u2 hkk
          subst e3
          exact ⟨a, _, rfl, DPut.t (x2.hh _ _ h2) (x2.gh q _ u1) (by rw [← h3'.length]; exact hl), w4 _ G2 _ ⟨.refl _, t2, t3, fun c z => .inl z⟩ t1⟩
        · cases hkk
      · exact w4.elim
end
def dictH : HO → Prop
  | .dK _ => True
  | .dT _ => True
  | _ => False
def Lck (G G' : Hp) : Prop := ∀ b u, G b = some u → G' b = some u ∨ (dictH u ∧ ∃ o, G' b = some (.frz o u))
theorem Lck.no {G G' : Hp} (l : Lck G G') {b : Addr} {u : HO} (h : G b = some u) (n : ¬ dictH u) : G' b = some u := (l b u h).elim id fun z => (n z.1).elim
theorem Lck.rdD {G G' : Hp} (l : Lck G G') {b : Addr} {u : HO} (d : dictH u) (h : Rd G b u) : Rd G' b u := by
  rcases h with h | ⟨o, h⟩
  · rcases l b u h with h | ⟨_, o, h⟩
    · exact .inl h
    · exact .inr ⟨o, h⟩
  · exact .inr ⟨o, l.no h id⟩
theorem Lck.rd {G G' : Hp} (l : Lck G G') {b : Addr} {u : HO} (n : ¬ dictH u) (h : Rd G b u) : Rd G' b u := by
  rcases h with h | ⟨o, h⟩
  · exact .inl (l.no h n)
  · exact .inr ⟨o, l.no h id⟩
section
variable {K : PySem.W.Frag} {ca : Cn} {G G' : Hp}
mutual
theorem At.lck (l : Lck G G') : ∀ {d : D} {v : V}, At K ca G d v → At K ca G' d v
  | .non, v, h => h
  | .bl _, v, h => h
  | .int _, v, h => h
  | .str _, v, h => h
  | .ty _, v, h => h
  | .cl _, v, h => h
  | .scr ns, v, ⟨a, e, h⟩ => ⟨a, e, h.elim (fun h => .inl (l.rd id h)) .inr⟩
  | .lst xs, v, ⟨a, vs, e, h, r⟩ => ⟨a, vs, e, l.no h id, AtL.lck l r⟩
  | .tup xs, v, ⟨a, vs, e, h, r⟩ => ⟨a, vs, e, l.no (u := .tup vs) h id, AtL.lck l r⟩
  | .tpz xs, v, ⟨a, o, vs, e, q, h, r⟩ => ⟨a, o, vs, e, q, l.no h id, AtL.lck l r⟩
  | .tp0, v, ⟨a, e, h⟩ => ⟨a, e, h.elim (fun h => .inl (l.rd id h)) .inr⟩
  | .dK xs, v, ⟨a, vs, e, h, r⟩ => ⟨a, vs, e, l.rdD trivial h, AtK.lck l r⟩
  | .dT xs, v, ⟨a, vs, e, h, r⟩ => ⟨a, vs, e, l.rdD trivial h, AtT.lck l r⟩
  | .zK xs, v, ⟨a, o, vs, e, h, r⟩ => ⟨a, o, vs, e, l.no h id, AtK.lck l r⟩
  | .zT xs, v, ⟨a, o, vs, e, h, r⟩ => ⟨a, o, vs, e, l.no h id, AtT.lck l r⟩
  | .ins c xs, v, ⟨a, C, dx, vs, e, q, h, r⟩ => ⟨a, C, dx, vs, e, q, l.no h id, AtF.lck l r⟩
theorem AtL.lck (l : Lck G G') : ∀ {ds : List D} {vs : List V}, AtL K ca G ds vs → AtL K ca G' ds vs
  | [], _, h => h
  | _ :: _, _, ⟨v, r, e, h, t⟩ => ⟨v, r, e, At.lck l h, AtL.lck l t⟩
theorem AtK.lck (l : Lck G G') : ∀ {ds : List (Key × D)} {vs : List (Key × V)}, AtK K ca G ds vs → AtK K ca G' ds vs
  | [], _, h => h
  | (_, _) :: _, _, ⟨v, r, e, h, t⟩ => ⟨v, r, e, At.lck l h, AtK.lck l t⟩
theorem AtT.lck (l : Lck G G') : ∀ {ds : List (List Key × D)} {vs : List (List Key × V)}, AtT K ca G ds vs → AtT K ca G' ds vs
  | [], _, h => h
  | (_, _) :: _, _, ⟨v, r, e, h, t⟩ => ⟨v, r, e, At.lck l h, AtT.lck l t⟩
theorem AtF.lck (l : Lck G G') : ∀ {ds : List (Nat × D)} {vs : List (Str × V)}, AtF K ca G ds vs → AtF K ca G' ds vs
  | [], _, h => h
  | (_, _) :: _, _, ⟨v, r, e, h, t⟩ => ⟨v, r, e, At.lck l h, AtF.lck l t⟩
end
theorem Own.lck {H H' : Hp} {a : Addr} {s : Sl} (l : Lck G G') (e : H' a = H a) (h : Own K ca G H a s) : Own K ca G' H' a s := by
  cases s with
  | no => exact h
  | x _ => exact h
  | tr _ => exact h
  | v d => exact h
  | l xs => obtain ⟨vs, h1, h2⟩ := h; exact ⟨vs, e.trans h1, AtL.lck l h2⟩
  | k xs => obtain ⟨vs, h1, h2⟩ := h; exact ⟨vs, e.trans h1, AtK.lck l h2⟩
  | t xs => obtain ⟨vs, h1, h2⟩ := h; exact ⟨vs, e.trans h1, AtT.lck l h2⟩
  | o g c fs => obtain ⟨C, dx, vs, hg, h0, h1, h2⟩ := h; exact ⟨C, dx, vs, hg, h0, e.trans h1, AtF.lck l h2⟩
theorem ExAt.lck {x : Ex} {c : Value} {dx : Option Addr} (l : Lck G G') : ExAt K ca G x c dx → ExAt K ca G' x c dx
  | ⟨C, h1, h2, h3⟩ => ⟨C, h1, h2, h3.elim .inl fun ⟨d, vs, e1, e2, e3⟩ => .inr ⟨d, vs, e1, l.no e2 id, AtF.lck l e3⟩⟩
theorem Rel.lck {B H : Hp} {σ : L2.St} {ρ : Ev} {i : Nat} {kvs : List (List Key × D)} {vs : List (List Key × V)} {a : Addr} {od : Obj} (r : Rel K ca B G H σ ρ) (s : Same G H) (b : Same B H) (hi : σ[i]? = some (some (.ref a))) (hl : ρ[i]? = some (.v (.dT kvs))) (g : G a = some (.dT vs)) (t : AtT K ca G kvs vs) :
    ∃ B', Same B' (upd H a (.frz od (.dT vs))) ∧ Rel K ca B' (upd G a (.frz od (.dT vs))) (upd H a (.frz od (.dT vs))) σ (ρ.set i (.v (.zT kvs))) := by
  have lk : Lck G (upd G a (.frz od (.dT vs))) := fun c u e => by
    by_cases z : c = a
    · subst z; rw [g] at e; cases e; exact .inr ⟨trivial, od, upd_same⟩
    · exact .inl (by rw [upd_ne z]; exact e)
  refine ⟨fun c => if c = a then (if B a = none then none else some (.frz od (.dT vs))) else B c, fun c u e => ?_, ?_⟩
  · by_cases z : c = a
    · subst z
      have e2 : (if c = c then (if B c = none then none else some (.frz od (.dT vs))) else B c) = some u := e
      rw [if_pos rfl] at e2
      split at e2
      · cases e2
      · rw [upd_same]; exact e2
    · have e2 : (if c = a then (if B a = none then none else some (.frz od (.dT vs))) else B c) = some u := e
      rw [if_neg z] at e2; rw [upd_ne z]; exact b c u e2
  · refine ⟨by rw [List.length_set]; exact r.len, fun j d q => ?_, fun j u q o => ?_, fun j k u u' c q o q' o' x y => ?_, fun j x q => ?_, ?_⟩
    rotate_left 4
    · obtain ⟨FP, n⟩ := r.nst
      refine ⟨FP, (n.step0 (G' := upd G a (.frz od (.dT vs))) (H' := upd H a (.frz od (.dT vs))) (fun j t' q => ?_) rfl rfl (fun _ _ => At.lck lk) fun c o' hc nt gc bc ow => ?_).atB fun c gc bc => ?_⟩
      · rcases getElem?_set' q with ⟨rfl, z⟩ | ⟨ne, q⟩
        · cases z
        · exact ⟨q, rfl⟩
      · have nc : c ≠ a := fun z => by rw [z, g] at gc; cases gc
        refine ⟨upd_ne nc, by rw [upd_ne nc]; exact gc, fun j s' q os => ?_⟩
        rcases getElem?_set' q with ⟨rfl, z⟩ | ⟨ne, q⟩
        · rw [z] at os; cases os
        · exact ow j s' q os
      · show (if c = a then _ else B c) = none
        by_cases z : c = a
        · rw [z, upd_same] at gc; cases gc
        · rw [if_neg z]; exact bc
    · rcases getElem?_set' q with ⟨rfl, z⟩ | ⟨ne, q⟩
      · cases z
        exact ⟨_, hi, a, od, vs, rfl, upd_same, AtT.lck lk t⟩
      · obtain ⟨v, h1, h2⟩ := r.val j d q
        exact ⟨v, h1, At.lck lk h2⟩
    · rcases getElem?_set' q with ⟨rfl, z⟩ | ⟨ne, q⟩
      · rw [z] at o; cases o
      · obtain ⟨c, h1, h2, h3, h4⟩ := r.own j u q o
        have nc : c ≠ a := fun z => by rw [z, g] at h3; cases h3
        exact ⟨c, h1, Own.lck lk (upd_ne nc) h2, by rw [upd_ne nc]; exact h3, by show (if c = a then _ else B c) = none; rw [if_neg nc]; exact h4⟩
    · rcases getElem?_set' q with ⟨rfl, z⟩ | ⟨nj, q⟩
      · rw [z] at o; cases o
      · rcases getElem?_set' q' with ⟨rfl, z⟩ | ⟨nk, q'⟩
        · rw [z] at o'; cases o'
        · exact r.sep j k u u' c q o q' o' x y
    · rcases getElem?_set' q with ⟨rfl, z⟩ | ⟨ne, q⟩
      · cases z
      · obtain ⟨c, cc, dx, h1, h2, h3⟩ := r.exc j x q
        exact ⟨c, cc, dx, h1, h2, h3.lck lk⟩
end
def eLckT (i : Nat) (f : Ev → R D) : Ev → R D := fun ρ => match ρ[i]? with
  | some (.v (.dT kvs)) => (f (ρ.set i (.v (.zT kvs)))).quiet.bind fun d => (match d with
    | .lst xs => if tupL xs = true then .ok (.lst xs) else .bad
    | _ => .bad)
  | _ => .bad
theorem fe_lckT {X : Cx} {ca : Cn} {W : WX} {e : Expr} {f : Ev → R D} (i : Nat) (h : FE X ca W e f) : FE X ca W e (eLckT i f) := by
  obtain ⟨t, p, k⟩ := h.ex
  refine ⟨fun σ H Q => tLockE t σ H Q ∨ t σ H Q, pe_or2 (pe_lock p) p, fun B G H σ ρ Q s b r w => ?_⟩
  unfold eLckT at w
  split at w
  · rename_i kvs hl
    obtain ⟨d, e1, w2⟩ := wish_quiet w
    split at w2
    · rename_i xs
      split at w2
      · rename_i tl
        obtain ⟨v, hi, a, vs, rfl, g, at_⟩ := r.val i _ hl
        rcases g with g | ⟨od, g⟩
        · refine .inl ⟨a, .dT vs, s _ _ g, trivial, fun od => ?_⟩
          obtain ⟨B', b', r'⟩ := r.lck (od := od) s b hi hl g at_
          refine k B' (upd G a (.frz od (.dT vs))) _ σ _ _ (same_upd2 s) b' r' ?_
          rw [e1]
          intro G2 H2 x v av
          have ha : H2 a = some (.frz od (.dT vs)) := x.hh _ _ upd_same
          have ga : G2 a = some (.frz od (.dT vs)) := x.gg _ _ upd_same
          refine ⟨ha, w2 (upd G2 a (.dT vs)) (upd H2 a (.dT vs)) ⟨fun c u e => ?_, fun c u e => ?_, same_upd2 x.gh, fun c n => ?_⟩ v ?_⟩
          · by_cases z : c = a
            · subst z; rw [s _ _ g] at e; rw [upd_same]; exact e
            · rw [upd_ne z]; exact x.hh c u (by rw [upd_ne z]; exact e)
          · by_cases z : c = a
            · subst z; rw [g] at e; rw [upd_same]; exact e
            · rw [upd_ne z]; exact x.gg c u (by rw [upd_ne z]; exact e)
          · by_cases z : c = a
            · subst z; exact .inl (by rw [g]; simp)
            · rw [upd_ne z] at n
              rcases x.nw c n with q | q
              · exact .inl (by rw [upd_ne z] at q; exact q)
              · exact .inr (by unfold Fre at q ⊢; rw [upd_ne z] at q; exact q)
          · obtain ⟨pp, ws, rfl, q1, q2⟩ := av
            have npa : pp ≠ a := fun z => by rw [z, ga] at q1; cases q1
            refine ⟨pp, ws, rfl, by rw [upd_ne npa]; exact q1, tupL_at (fun tt o e it => ?_) tl q2⟩
            have nta : tt ≠ a := fun z => by rw [z, ga] at e; cases e; exact it
            rw [upd_ne nta]
            exact e
        · refine .inr (k B G H σ (ρ.set i (.v (.zT kvs))) Q s b ⟨by rw [List.length_set]; exact r.len, fun j d q => ?_, fun j u q o => ?_, fun j kk u u' c q o q' o' x y => ?_, fun j x q => ?_, ?_⟩ ?_)
          rotate_left 4
          · obtain ⟨FP, n⟩ := r.nst
            refine ⟨FP, n.step (fun j t' q => ?_) (.refl _) fun c o' hc nt gc bc ow => ⟨rfl, gc, fun j s' q os => ?_⟩⟩
            · rcases getElem?_set' q with ⟨rfl, z⟩ | ⟨ne, q⟩
              · cases z
              · exact ⟨q, rfl⟩
            · rcases getElem?_set' q with ⟨rfl, z⟩ | ⟨ne, q⟩
              · rw [z] at os; cases os
              · exact ow j s' q os
          rotate_left 1
          · rcases getElem?_set' q with ⟨rfl, z⟩ | ⟨ne, q⟩
            · cases z
              exact ⟨_, hi, a, od, vs, rfl, g, at_⟩
            · exact r.val j d q
          · rcases getElem?_set' q with ⟨rfl, z⟩ | ⟨ne, q⟩
            · rw [z] at o; cases o
            · exact r.own j u q o
          · rcases getElem?_set' q with ⟨rfl, z⟩ | ⟨nj, q⟩
            · rw [z] at o; cases o
            · rcases getElem?_set' q' with ⟨rfl, z⟩ | ⟨nk, q'⟩
              · rw [z] at o'; cases o'
              · exact r.sep j kk u u' c q o q' o' x y
          · rcases getElem?_set' q with ⟨rfl, z⟩ | ⟨ne, q⟩
            · cases z
            · exact r.exc j x q
          · rw [e1]; exact w2
      · exact w2.elim
    · exact w2.elim
  · exact w.elim
def dKey : Key → D
  | .inl i => .int i
  | .inr z => .str z
def iKeyT (fo : Ev → R D) : Ev → R (List D) := fun ρ => (fo ρ).bind fun d => match d with
  | .zT kvs => .ok (kvs.map fun kv => .tup (kv.1.map dKey))
  | _ => .bad
theorem keyV_at {K : PySem.W.Frag} {ca : Cn} {G : Hp} : ∀ k : List Key, AtL K ca G (k.map dKey) (k.map kV)
  | [] => rfl
  | .inl i :: k => ⟨_, _, rfl, rfl, keyV_at k⟩
  | .inr i :: k => ⟨_, _, rfl, rfl, keyV_at k⟩
theorem AtT.keys {K : PySem.W.Frag} {ca : Cn} {G : Hp} : ∀ {kvs : List (List Key × D)} {vs : List (List Key × V)}, AtT K ca G kvs vs → vs.map (·.1) = kvs.map (·.1)
  | [], _, h => by cases h; rfl
  | (_, _) :: _, _, ⟨_, _, e, _, t⟩ => by subst e; simp [AtT.keys t]
theorem jok_keysT {K : PySem.W.Frag} {ca : Cn} {G0 : Hp} {a : Addr} {od : Obj} {kvs : List (List Key × D)} {vs : List (List Key × V)} (g : G0 a = some (.frz od (.dT vs))) (r : AtT K ca G0 kvs vs) : JOk K ca G0 (Itkt a od vs) (kvs.map fun kv => .tup (kv.1.map dKey)) := by
  intro G H s1 s2 i
  have ga : H a = some (.frz od (.dT vs)) := s2 _ _ (s1 _ _ g)
  have l := r.length
  have ks := r.keys
  refine ⟨fun d e => ?_, fun e => ⟨ga, by rw [List.length_map] at e; omega⟩⟩
  have hi : i < kvs.length := by
    have := (List.getElem?_eq_some_iff.mp e).1
    rwa [List.length_map] at this
  refine ⟨⟨ga, by omega⟩, fun x H' y => ?_⟩
  obtain ⟨rfl, k, v, q, h1, rfl, h2⟩ := y
  have hk : (kvs.map (·.1))[i]? = some k := by rw [← ks, List.getElem?_map, h1]; rfl
  rw [List.getElem?_map] at e hk
  cases z : kvs[i]? with
  | none => rw [z] at hk; cases hk
  | some kv =>
    rw [z] at e hk
    cases e
    have e1 : kv.1 = k := Option.some.inj hk
    subst e1
    refine ⟨upd G q (.tup (kv.1.map kV)), ⟨.refl _, fun c o e => ?_, fun c o e => ?_, fun c n => ?_⟩, q, _, rfl, upd_same, keyV_at kv.1⟩
    · by_cases zc : c = q
      · subst zc
        have := s2 _ _ e
        rw [h2] at this
        rw [upd_same]
        exact this
      · rw [upd_ne zc]; exact e
    · by_cases zc : c = q
      · subst zc; rw [upd_same] at e; cases e; exact h2
      · rw [upd_ne zc] at e; exact s2 _ _ e
    · by_cases zc : c = q
      · subst zc; exact .inr (.inr ⟨_, h2⟩)
      · rw [upd_ne zc] at n; exact .inl n
theorem fi_keyT {X : Cx} {ca : Cn} {W : WX} {tg e : Expr} {fo : Ev → R D} (h : FE X ca W e fo) : FI X ca W tg e (iKeyT fo) := by
  obtain ⟨t, p, k⟩ := h.ex
  refine ⟨_, pi_keys p, fun B G H σ ρ Q s b r w => k B G H σ ρ _ s b r (Wish.bind w fun d G1 H1 _ x1 w1 v av => ?_)⟩
  cases d with
  | zT kvs =>
    obtain ⟨a, od, vs, rfl, g, at_⟩ := av
    exact ⟨a, od, rfl, .inr ⟨vs, x1.gh _ _ g, w1 G1 H1 (.refl x1.gh) _ (jok_keysT g at_)⟩⟩
  | _ => exact w1.elim
end Tk
namespace Tk
open PySem PySem.Spec L2 PyProof.Rows
theorem lex_ints : ∀ ns ms : List Int, lexLt itemOrd (ns.map Sum.inl) (ms.map Sum.inl) = ltL ns ms
  | [], [] => rfl
  | [], _ :: _ => rfl
  | _ :: _, [] => rfl
  | a :: as, b :: bs => by
    rw [ltL_cons]
    by_cases z : a = b
    · subst z
      rw [if_pos rfl, List.map_cons, List.map_cons, lex_self]
      exact lex_ints as bs
    · rw [if_neg z, List.map_cons, List.map_cons, lex_diff fun e => z (Sum.inl.inj e)]
      rfl
theorem tupItems_ints : ∀ {vs : List Value} {ns : List Int} (i : Nat), IntsAre vs ns → tupItems (fun _ => false) i vs = some (ns.map Sum.inl)
  | _, _, _, .nil => rfl
  | _, _, i, .cons n t r => by
    have ih := tupItems_ints (i + 1) r
    simp only [tupItems, List.map_cons, ih]
    rfl
section
variable {prog : Program} {w : World} {A : Around} {s : Shared}
def IsTI (h : Heap) (v : Value) (ns : List Int) : Prop := ∃ a its, v = .ref a ∧ h.IsTuple a its ∧ IntsAre its.toList ns
def kdOf (ns : List (List Int)) : SortKind := if (ns.all fun n => !n.isEmpty) = true then tuples' true else if ((ns.head?.map fun n => !n.isEmpty).getD false) = true then general' else oneType'
theorem ti_lt_ref {v u : Value} {ns ms : List Int} (hu : A.units < cLine) (hv : IsTI s.heap v ns) (hw : IsTI s.heap u ms) : SeqAt.RcLt A s v u (ltL ns ms) := by
  obtain ⟨a, xs, rfl, la, ia⟩ := hv
  obtain ⟨b, ys, rfl, lb, ib⟩ := hw
  obtain ⟨n1, g1⟩ := ints_get ia
  obtain ⟨n2, g2⟩ := ints_get ib
  rw [Array.length_toList] at n1 n2
  rw [← first_L ns ms, ← n1, ← n2]
  refine SeqAt.RcLt.tuples (e := fun j => ns.getD j 0 == ms.getD j 0) (r := fun j => decide (ns.getD j 0 < ms.getD j 0)) la lb hu (fun j h1 h2 => ?_) fun j h1 h2 _ => ?_
  · obtain ⟨t1, e1⟩ := g1 j (by rw [Array.length_toList]; exact h1)
    obtain ⟨t2, e2⟩ := g2 j (by rw [Array.length_toList]; exact h2)
    rw [Array.getElem_toList] at e1 e2
    rw [e1, e2]
    exact SeqAt.EqAt.int_int _ t1 _ t2
  · obtain ⟨t1, e1⟩ := g1 j (by rw [Array.length_toList]; exact h1)
    obtain ⟨t2, e2⟩ := g2 j (by rw [Array.length_toList]; exact h2)
    rw [Array.getElem_toList] at e1 e2
    rw [e1, e2]
    exact fun _ _ _ _ h => PyProof.Rows.lt_int h
theorem ti_lt_slot {v u : Value} {ns ms : List Int} (hu : A.units < cLine) (hv : IsTI s.heap v ns) (hw : IsTI s.heap u ms) : wpAny (model prog w) A (oneLt' true v u) (fun r s' => s' = s ∧ r = ltL ns ms) (fun _ _ => False) s := by
  obtain ⟨a, xs, rfl, la, ia⟩ := hv
  obtain ⟨b, ys, rfl, lb, ib⟩ := hw
  obtain ⟨n1, g1⟩ := ints_get ia
  obtain ⟨n2, g2⟩ := ints_get ib
  rw [Array.length_toList] at n1 n2
  rw [oneLt'_eq]
  simp only [if_true]
  refine wpAny_bind (wpAny_cRoomFor hu ?_)
  obtain ⟨⟨cls, dd, data, sl⟩, ho, hc, n, hd⟩ := id la
  obtain ⟨⟨cls2, dd2, data2, sl2⟩, ho2, hc2, m, hd2⟩ := id lb
  simp only at hc hd hc2 hd2
  subst hc hd hc2 hd2
  refine wpAny_bind (wpAny_callSpecialIfBound?_slot (T := "tuple") ⟨_, ho, rfl⟩ PySem.F.slot_tuple_lt (call_meets PySem.F.slot_tuple_lt ⟨_, ho, rfl⟩ PySem.F.entry_tuple_lt (PySem.F.args_tuple_lt_2 _ _) (SeqAt.tuple_ltAt a b xs ys n m dd dd2 sl sl2 (fun j => ns.getD j 0 == ms.getD j 0) (fun j => decide (ns.getD j 0 < ms.getD j 0))) ⟨ho, ho2, fun j h1 h2 => ?_, fun j h1 h2 _ => ?_, ?_⟩))
  · obtain ⟨t1, e1⟩ := g1 j (by rw [Array.length_toList]; exact h1)
    obtain ⟨t2, e2⟩ := g2 j (by rw [Array.length_toList]; exact h2)
    rw [Array.getElem_toList] at e1 e2
    rw [e1, e2]
    exact SeqAt.EqAt.int_int _ t1 _ t2
  · obtain ⟨t1, e1⟩ := g1 j (by rw [Array.length_toList]; exact h1)
    obtain ⟨t2, e2⟩ := g2 j (by rw [Array.length_toList]; exact h2)
    rw [Array.getElem_toList] at e1 e2
    rw [e1, e2]
    exact fun _ _ _ _ h => PyProof.Rows.lt_int h
  · refine wpAny_truthy_bool ⟨rfl, ?_⟩
    rw [n1, n2]
    exact first_L ns ms
theorem ti_lt {v u : Value} {ns ms : List Int} (kd : List (List Int)) (hu : A.units < cLine) (hv : IsTI s.heap v ns) (hw : IsTI s.heap u ms) : wpAny (model prog w) A (keyLt' (kdOf kd) v u) (fun r s' => s' = s ∧ r = ltL ns ms) (fun _ _ => False) s := by
  unfold kdOf
  split
  · obtain ⟨a, xs, rfl, ⟨oa, ha, ca, na, da⟩, ia⟩ := hv
    obtain ⟨b, ys, rfl, ⟨ob, hb, cb, nb, db⟩, ib⟩ := hw
    exact PySem.W.kat_lt ha da hb db (tup_lex xs.toList ys.toList 0 _ _ (tupItems_ints 0 ia) (tupItems_ints 0 ib) (by rw [Array.length_toList, Array.length_toList]) ⟨rfl, lex_ints ns ms⟩)
  · split
    · show wpAny _ A (oneLt' false v u) _ _ s
      rw [oneLt'_eq]
      simp only [Bool.false_eq_true, if_false]
      exact wpAny_bind (ti_lt_ref hu hv hw prog w _ _ (wpAny_truthy_bool ⟨rfl, rfl⟩))
    · rw [keyLt'_oneType]
      exact ti_lt_slot hu hv hw
theorem firsts_ti {M : Model} {E : Value → Shared → Prop} {k : Value → List Int} : ∀ (vs : List Value) {Q : List (Option Value) → Shared → Prop}, (∀ v ∈ vs, IsTI s.heap v (k v)) →
    (∀ fs : List (Option Value), fs.map Option.isSome = vs.map (fun v => !(k v).isEmpty) → (∀ u, some u ∈ fs → ∃ n t, u = .int n t) → Q fs s) → wpAny M A (vs.mapM firstOfTuple') Q E s
  | [], Q, _, h => by rw [List.mapM_nil]; exact wpAny_pure (h [] rfl fun u m => by cases m)
  | v :: vs, Q, hv, h => by
    obtain ⟨a, its, rfl, ⟨o, ho, hc, n, hd⟩, i⟩ := hv v List.mem_cons_self
    rw [List.mapM_cons]
    refine wpAny_bind ?_
    rw [PySem.W.kas_first_eq]
    refine wpAny_bind (PySem.W.Looks.here (show PySem.W.Looks M s.heap (typeOf (.ref a)) o.cls from (PySem.W.Looks.ld ho).andThen .now) ?_)
    rw [hc, if_neg (by first | decide | simp)]
    refine wpAny_bind (listItems_at ho hd (wpAny_pure (wpAny_bind (firsts_ti vs (fun u m => hv u (List.mem_cons_of_mem _ m)) fun fs e q => wpAny_pure ?_))))
    refine h (its[0]? :: fs) ?_ fun u m => ?_
    · rw [List.map_cons, List.map_cons, e]
      obtain ⟨ln, g⟩ := ints_get i
      congr 1
      cases z : k (.ref a) with
      | nil =>
        rw [z, Array.length_toList] at ln
        have z0 : its[0]? = none := Array.getElem?_eq_none (by rw [ln]; exact Nat.le_refl _)
        rw [z0]; rfl
      | cons x r =>
        rw [z, Array.length_toList] at ln
        have : 0 < its.size := by rw [ln]; exact Nat.succ_pos _
        rw [Array.getElem?_eq_getElem this]; rfl
    · rcases List.mem_cons.mp m with m | m
      · obtain ⟨ln, g⟩ := ints_get i
        obtain ⟨h0, e0⟩ := Array.getElem?_eq_some_iff.mp m.symm
        obtain ⟨t, et⟩ := g 0 (by rw [Array.length_toList]; exact h0)
        rw [Array.getElem_toList] at et
        exact ⟨_, t, e0.symm.trans et⟩
      · exact q u m
theorem all_isSome : ∀ {fs : List (Option Value)} {b : List Bool}, fs.map Option.isSome = b → fs.all (·.isSome) = b.all id
  | [], _, e => by subst e; rfl
  | f :: fs, _, e => by subst e; simp only [List.map_cons, List.all_cons, id, all_isSome (fs := fs) rfl]
theorem filter_id : ∀ {fs : List (Option Value)}, fs.all (·.isSome) = true → (fs.filterMap id).map some = fs
  | [], _ => rfl
  | none :: _, h => by simp at h
  | some f :: fs, h => by
    rw [List.all_cons, Bool.and_eq_true] at h
    rw [List.filterMap_cons]
    show some f :: (fs.filterMap id).map some = _
    rw [filter_id h.2]
theorem kind_ti {M : Model} {E : Value → Shared → Prop} {k : Value → List Int} {vs : List Value} {Q : SortKind → Shared → Prop} (h2 : 2 ≤ vs.length) (hv : ∀ v ∈ vs, IsTI s.heap v (k v)) (h : Q (kdOf (vs.map k)) s) : wpAny M A (keyKind' vs.toArray) Q E s := by
  rw [kat_kind_eq, List.mapM_toArray, map_eq_pure_bind]
  refine wpAny_bind (wpAny_bind (firsts_ti (k := k) vs hv fun fs e q => wpAny_pure ?_))
  have ea : fs.toArray.all (·.isSome) = (vs.map k).all fun n => !n.isEmpty := by
    rw [List.all_toArray, all_isSome e, List.all_map, List.all_map]; rfl
  have eh : ((fs.toArray[0]?).bind id).isSome = ((vs.map k).head?.map fun n => !n.isEmpty).getD false := by
    cases vs with
    | nil => simp at h2
    | cons v r =>
      cases fs with
      | nil => cases e
      | cons f fr =>
        rw [List.map_cons, List.map_cons] at e
        have e1 := (List.cons.inj e).1
        simpa using e1
  unfold kdOf at h
  by_cases hall : ((vs.map k).all fun n => !n.isEmpty) = true
  · rw [if_pos hall] at h
    rw [if_pos (by rw [ea]; exact hall)]
    refine wpAny_bind (wpAny_rule ?_)
    have fa : fs.all (·.isSome) = true := by rw [← List.all_toArray, ea]; exact hall
    have f1 := filter_id fa
    have fm : (fs.toArray.filterMap id) = (fs.filterMap id).toArray := by simp
    have inT : ∀ u ∈ fs.filterMap id, ∃ n t, u = Value.int n t := fun u m => q u (by rw [← f1]; exact List.mem_map.mpr ⟨u, m, rfl⟩)
    have ne : fs.filterMap id ≠ [] := fun z => by
      rw [z] at f1
      have l := congrArg List.length e
      rw [← f1] at l
      simp at l
      omega
    rw [fm, oneTypeOnly'_eq, List.mapM_toArray, map_eq_pure_bind]
    refine wpAny_bind (wpAny_bind (wpAny_bind (PySem.W.kas_mapM (r := Value.type "int") _ (fun u m Q' hq => ?_) (wpAny_pure ?_))))
    · obtain ⟨n, t, rfl⟩ := inT u m
      exact (PySem.W.Looks.of_pure (M := M) (h := s.heap) rfl).here hq
    · have hall2 : ((List.map (fun _ => Value.type "int") (fs.filterMap id)).toArray.all fun x => x == Value.type "int") = true := by
        simp only [List.all_toArray, List.all_map, List.all_eq_true]
        intro _ _
        rfl
      have h0 : (List.map (fun _ => Value.type "int") (fs.filterMap id)).toArray[0]? = some (Value.type "int") := by
        cases z : fs.filterMap id with
        | nil => exact (ne z).elim
        | cons _ _ => simp
      rw [h0]
      simp only [hall2, if_true]
      exact wpAny_pure (wpAny_pure h)
  · rw [if_neg hall] at h
    rw [if_neg (by rw [ea]; exact hall)]
    by_cases hh : (((vs.map k).head?.map fun n => !n.isEmpty).getD false) = true
    · rw [if_pos hh] at h
      rw [if_pos (by rw [eh]; exact hh)]
      exact wpAny_pure h
    · rw [if_neg hh] at h
      rw [if_neg (by rw [eh]; exact hh)]
      rw [oneTypeOnly'_eq, List.mapM_toArray, map_eq_pure_bind]
      refine wpAny_bind (wpAny_bind (wpAny_bind (PySem.W.kas_mapM (r := Value.type "tuple") _ (fun u m Q' hq => ?_) (wpAny_pure ?_))))
      · obtain ⟨a, its, rfl, ⟨o, ho, hc, _⟩, _⟩ := hv u m
        exact PySem.W.Looks.here (show PySem.W.Looks M s.heap (typeOf (.ref a)) o.cls from (PySem.W.Looks.ld ho).andThen .now) (by rw [hc]; exact hq)
      · have hall2 : ((List.map (fun _ => Value.type "tuple") vs).toArray.all fun x => x == Value.type "tuple") = true := by
          simp only [List.all_toArray, List.all_map, List.all_eq_true]
          intro _ _
          rfl
        have h0 : (List.map (fun _ => Value.type "tuple") vs).toArray[0]? = some (Value.type "tuple") := by
          cases vs with
          | nil => simp at h2
          | cons _ _ => simp
        rw [h0]
        simp only [hall2, if_true]
        exact wpAny_pure (wpAny_pure h)
theorem ti_sortable {a : Addr} {vs : List Value} {k : Value → List Int} (hu : A.units < cLine) (h2 : 2 ≤ vs.length) (hp : ∀ v ∈ vs, IsTI s.heap v (k v) ∧ v ≠ .ref a) : SrtO.SortableO prog w A s a vs fun v u => ltL (k v) (k u) := by
  intro h' keep
  have hp' : ∀ v ∈ vs, IsTI h' v (k v) := fun v hm => by
    obtain ⟨⟨b, its, rfl, ⟨o, ho, r⟩, i⟩, ne⟩ := hp v hm
    exact ⟨b, its, rfl, ⟨o, keep b o (fun e => ne (by rw [e])) ho, r⟩, i⟩
  exact ⟨kdOf (vs.map k), fun Q E hq => kind_ti h2 hp' hq, fun p q hm hm' => ti_lt (vs.map k) hu (hp' _ hm) (hp' _ hm')⟩
theorem sorted_ti {l : Addr} {vs : List Value} {k : Value → List Int} {E : Value → Shared → Prop} {Q : Value → Shared → Prop} (hu : A.units + 2 < cLine) (hl : s.heap.IsList l vs.toArray) (hz : vs.length ≤ sizeLine) (hp : ∀ v ∈ vs, IsTI s.heap v (k v))
    (h : ∀ (h' : Heap) (d : Addr) (out : List Value), SrtO.Srtd (fun v u => ltL (k v) (k u)) out → SrtO.Stb (fun v u => ltL (k v) (k u)) out vs → (∀ b o, s.heap.get? b = some o → h'.get? b = some o) → s.heap.objs.size ≤ d → (∃ n, h'.get? d = some { cls := .type "list", data := .seq out.toArray n }) → Q (.ref d) { s with heap := h' }) :
    wpAny (model prog w) A (call (.builtin "sorted") [.ref l]) Q E s := by
  refine SrtO.sorted_ord (swo_L k) hl hz (fun h2 h₁ a ha kk => ?_) fun out hs hb => ?_
  · refine ti_sortable (s := { s with heap := h₁ }) (by show A.units + 1 + 1 < cLine; omega) h2 fun v hm => ?_
    obtain ⟨b, its, rfl, ⟨o, ho, r⟩, i⟩ := hp v hm
    obtain ⟨ne, ho'⟩ := kk b o ho
    exact ⟨⟨b, its, rfl, ⟨o, ho', r⟩, i⟩, fun e => ne (Value.ref.inj e)⟩
  · exact h _ _ out hs hb (fun b o e => PyProof.Rows.sortedAll_old e) (Nat.le_succ _) (PyProof.Rows.sortedAll_at s.heap vs out.toArray)
end
def rSortedTL (K : PySem.W.Frag) : List V → Hp → VK → Prop := fun vs H Q => ∃ (a : Addr) (xs : List V) (k : V → List Int), vs = [V.ref a] ∧ SqL K H a xs ∧ (∀ x ∈ xs, ∃ t, x = V.ref t ∧ H t = some (.tup ((k x).map V.int))) ∧
  ∀ ys p, SrtO.Srtd (fun v u => ltL (k v) (k u)) ys → SrtO.Stb (fun v u => ltL (k v) (k u)) ys xs → H p = none → Q (.ref p) (upd H p (.lst ys))
section
variable {X : Cx} {ca : Cn} {W : WX} {e : Expr} {es : List Expr} {fl : Ev → R (List D)} {p pos : Pos}
theorem cr_sortedTL (hu : X.A.units + 2 < cLine) : CallR X (.builtin "sorted") (rSortedTL X.K) := by
  intro pins s σ H vs us Q I r h
  obtain ⟨a, xs, k, rfl, hs, hx, q⟩ := h
  obtain ⟨its, rv, hl, hz⟩ := I.list hs
  obtain ⟨u, rfl, ru⟩ := vals1 r
  obtain rfl : u = Value.ref a := ru
  obtain ⟨e1, e2⟩ := refs_back rv fun x m => by
    obtain ⟨t, e, _⟩ := hx x m
    exact ⟨t, e⟩
  refine sorted_ti (k := fun u => k (backV u)) hu hl.isList (by rw [← rv.length]; exact hz) (fun v hv => ?_) fun h' d out h1 h2 kp hd hn => ?_
  · obtain ⟨t, rfl⟩ := e2 v hv
    have hm : V.ref t ∈ xs := by rw [e1]; exact List.mem_map.mpr ⟨_, hv, rfl⟩
    obtain ⟨t', e, ht⟩ := hx _ hm
    cases e
    obtain ⟨_, its2, r2, ho⟩ := I.hok _ _ ht
    exact ⟨t, its2.toArray, rfl, ho, r2.ints⟩
  · have h3 : ∀ u ∈ out, ∃ a, u = Value.ref a := fun u hu => e2 u (h2.perm.mem_iff.mp hu)
    obtain ⟨n, hn⟩ := hn
    have hb : SrtO.Stb (fun v u => ltL (k v) (k u)) (out.map backV) xs := by
      rw [e1]
      exact SrtO.Stb.map (swo_L k) backV h2
    refine ⟨.ref d, upd H d (.lst (out.map backV)), I.laid (t' := s.toks) kp hd ⟨?_, out, n, vals_back h3, hn⟩, rfl, q _ d (SrtO.srtd_map h1) hb (I.hok.fresh hd)⟩
    rw [hb.len]
    exact hz
def dTI (r : List Int) : D := .tup (r.map .int)
def tintOf : D → Option (List Int)
  | .tup xs => intsOf xs
  | _ => none
def tintsOf : List D → Option (List (List Int))
  | [] => some []
  | d :: r => (tintOf d).bind fun p => (tintsOf r).map (p :: ·)
def gSrtT : List D → R D
  | [.lst xs] => (optR (tintsOf xs)).bind fun ps => .ok (.lst ((srtL ps).map dTI))
  | _ => .bad
theorem tintsOf_eq : ∀ {ds : List D} {ps : List (List Int)}, tintsOf ds = some ps → ∀ {G : Hp} {vs : List V}, AtL X.K ca G ds vs → ∃ k : V → List Int, vs.map k = ps ∧ ∀ x ∈ vs, ∃ t, x = V.ref t ∧ G t = some (.tup ((k x).map V.int)) := by
  intro ds ps h G vs a
  refine ⟨fun x => match x with
    | .ref t => match G t with
      | some (.tup ys) => ys.map fun y => match y with
        | .int i => i
        | _ => 0
      | _ => []
    | _ => [], ?_⟩
  induction ds generalizing ps vs with
  | nil => cases h; cases a; exact ⟨rfl, fun x m => by cases m⟩
  | cons d r ih =>
    obtain ⟨p, h1, h2⟩ := Option.bind_eq_some_iff.mp (show (tintOf d).bind (fun p => (tintsOf r).map (p :: ·)) = some ps from h)
    obtain ⟨qs, h3, rfl⟩ := Option.map_eq_some_iff.mp h2
    obtain ⟨v, us, rfl, a1, a2⟩ := a
    obtain ⟨e1, e2⟩ := ih h3 a2
    cases d with
    | tup xs =>
      obtain ⟨t, ws, rfl, g0, a3⟩ := a1
      have g : G t = some (.tup ws) := g0
      have ew := intsOf_at (show intsOf xs = some p from h1) a3
      subst ew
      have mm : (p.map V.int).map (fun y => match y with
        | .int i => i
        | _ => 0) = p := by
        rw [List.map_map]
        exact (List.map_congr_left fun _ _ => rfl).trans (List.map_id p)
      refine ⟨?_, fun x m => ?_⟩
      · rw [List.map_cons, e1]
        simp only [g, mm]
      · rcases List.mem_cons.mp m with rfl | m
        · refine ⟨t, rfl, ?_⟩
          simp only [g, mm]
        · exact e2 x m
    | _ => cases h1
theorem at_tints {G : Hp} {k : V → List Int} : ∀ {vs : List V}, (∀ x ∈ vs, ∃ t, x = V.ref t ∧ G t = some (.tup ((k x).map V.int))) → AtL X.K ca G ((vs.map k).map dTI) vs
  | [], _ => rfl
  | v :: vs, h => by
    obtain ⟨t, e, g⟩ := h v List.mem_cons_self
    exact ⟨v, vs, rfl, ⟨t, _, e, g, AtL.of_ints _⟩, at_tints fun x m => h x (List.mem_cons_of_mem _ m)⟩
theorem vn_srtT : VN X ca (rSortedTL X.K) gSrtT := by
  intro G H W1 xs ds Q s a w
  unfold gSrtT at w
  split at w
  · obtain ⟨v, rfl, p, vs, rfl, h1, h2⟩ := atl1 a
    obtain ⟨ps, e, w2⟩ := wish_opt w
    obtain ⟨k, e1, e2⟩ := tintsOf_eq e h2
    refine ⟨p, vs, k, rfl, .of (s _ _ h1), fun x m => let ⟨t, z1, z2⟩ := e2 x m; ⟨t, z1, s _ _ z2⟩, fun ys q so sb n => ?_⟩
    have e3 : ys.map k = srtL ps := srtL_uniq (e1 ▸ sb.perm.map k) (List.pairwise_map.mpr so)
    have a3 : AtL X.K ca G ((ys.map k).map dTI) ys := at_tints fun x m => e2 x (sb.perm.mem_iff.mp m)
    rw [e3] at a3
    exact new_lst s w2 a3 n
  · exact w.elim
theorem fe_sortedT (hu : X.A.units + 65 < cLine) (T : BT X.mg) (ha : FA X ca W (e :: es) fl) (n : Nm X "sorted" e es pos := by exact ⟨rfl, rfl, rfl⟩) : FE X ca W (.Call (.Name "sorted" p) (e :: es) [] pos) (eA gSrtT fl) := fe_blt (cr_sortedTL (by omega)) vn_srtT n.g T.sorted bb_sorted ha (by decide) (by decide) n.h n.p
end
end Tk
namespace Tk
open PySem PySem.Spec L2 PyProof.Rows
section
variable {prog : Program} {w : World} {A : Around} {E : Value → Shared → Prop} {s : Shared} {l : Addr} {xs : Array (Int × Tok)}
end
section
variable {X : Cx} {ca : Cn} {W : WX} {e : Expr} {es : List Expr} {fl : Ev → R (List D)} {p pos : Pos}
end
end Tk
namespace Tk
open PySem PySem.Spec L2 PyProof.Rows
section
variable {X : Cx} {ca : Cn} {W : WX} {e tg : Expr}
theorem AtK.keys {K : PySem.W.Frag} {ca : Cn} {G : Hp} : ∀ {kvs : List (Key × D)} {vs : List (Key × V)}, AtK K ca G kvs vs → vs.map (·.1) = kvs.map (·.1)
  | [], _, h => by cases h; rfl
  | (_, _) :: _, _, ⟨_, _, e, _, t⟩ => by subst e; simp [AtK.keys t]
end
end Tk
set_option maxHeartbeats 2000000
namespace Tk
open PySem PySem.Spec L2 PyProof.Rows
def KwEnd {α : Type} (D : Addr) : List (Str × Value) → Sem α → Sem α → Prop
  | [], t, r => t = r
  | q :: l, t, r => ∃ (β γ : Type) (k1 : Option Value → Sem β) (k2 : β → Sem γ) (k3 : γ → Sem α) (a : β), t = ((nsGet D q.1 >>= k1) >>= k2) >>= k3 ∧ k1 (some q.2) = pure a ∧ KwEnd D l (k2 a >>= k3) r
theorem KwEnd.wp {α : Type} {K : PySem.W.Frag} {M : Model} {A : Around} {D : Addr} {s : Shared} {Q : α → Shared → Prop} {E : Value → Shared → Prop} (X : K.In s.heap) : ∀ {l : List (Str × Value)} {t r : Sem α}, (∀ q ∈ l, PySem.W.nsIn K D q.1 = some (some q.2)) → KwEnd D l t r → wpAny M A r Q E s → wpAny M A t Q E s
  | [], t, r, _, e, h => by cases e; exact h
  | q :: l, t, r, hl, e, h => by
    obtain ⟨β, γ, k1, k2, k3, a, e1, e2, e3⟩ := e
    have l1 : PySem.W.Looks M s.heap (nsGet D q.1 >>= k1) a := (PySem.W.looks_nsIn X (hl q (List.mem_cons_self ..))).andThen (PySem.W.Looks.of_pure e2)
    rw [e1, bind_assoc]
    exact wpAny_bind (l1.here (KwEnd.wp X (fun p hp => hl p (List.mem_cons_of_mem _ hp)) e3 h))
structure KBs (K : PySem.W.Frag) (ca : Cn) (fd : FuncData) (ps : List Str) (pv : Str) (n : Nat) (ks : List Str) (gD : List D → List D → List D) : Prop where
  ex : ∃ (g : List Value → List Value → List Value) (gV : List V → List V → List V),
    (∀ (M : Model) (A : Around) (Q : List (Str × Value) → Shared → Prop) (E : Value → Shared → Prop) (s : Shared) (us rs ws : List Value), K.In s.heap → us.length = n → ws.length = ks.length →
      wpAny M A (newTuple rs >>= fun t => pure (ps.zip (g us ws) ++ [(pv, t)])) Q E s → wpAny M A (bindArgs fd ⟨us ++ rs, ks.zip ws⟩) Q E s) ∧
    (∀ {vs zs us ws}, Vals vs us → Vals zs ws → Vals (gV vs zs) (g us ws)) ∧ ∀ G ds vs zs ws, AtL K ca G ds vs → AtL K ca G zs ws → AtL K ca G (gD ds zs) (gV vs ws)
theorem kbs_of {K : PySem.W.Frag} {ca : Cn} {fd : FuncData} {ps : List Str} {pv : Str} {n : Nat} {ks : List Str} {is : List Nat} {mid : List D} {its : List Value} (hm : mid.all flatD = true) (hv : Vals (mid.map toV) its)
    (to : ∀ (M : Model) (A : Around) (Q : List (Str × Value) → Shared → Prop) (E : Value → Shared → Prop) (s : Shared) (us rs ws : List Value), K.In s.heap → us.length = n → ws.length = ks.length →
      wpAny M A (newTuple rs >>= fun t => pure (ps.zip (pickI is (us ++ (its ++ ws))) ++ [(pv, t)])) Q E s → wpAny M A (bindArgs fd ⟨us ++ rs, ks.zip ws⟩) Q E s) : KBs K ca fd ps pv n ks (gDk is mid) :=
  ⟨fun us ws => pickI is (us ++ (its ++ ws)), fun vs zs => pickI is (vs ++ (mid.map toV ++ zs)), to, fun r1 r2 => pick_vals (r1.append (hv.append r2)) is, fun G ds vs zs ws a b => pick_at (a.append ((flats_at hm).append b)) is⟩
section
variable {K : PySem.W.Frag} {ca : Cn} {x qual : Str} {params : Arguments} {body : List Stmt} {scope : Scope} {kd : List (Str × D)} {f : Addr} {fd : FuncData} {ps : List Str} {pv : Str}
theorem kbs_n (F : FunD K x qual params body scope [] (kwV kd) f fd) (n : Nat) (ks : List Str) (is : List Nat)
    (h : ∀ (kV doc pm : Value) (an : Option Addr) (cdv ct : Value) (us rs ws : List Value), us.length = n → ws.length = ks.length → bindArgs (PySem.W.fnOf x qual params body scope .none kV doc pm an cdv ct) ⟨us ++ rs, ks.zip ws⟩ = (newTuple rs >>= fun t => pure (ps.zip (pickI is (us ++ ws)) ++ [(pv, t)]))) : KBs K ca fd ps pv n ks (gDk is []) := by
  obtain ⟨oc, od, dV, kV, doc, pm, an, cdv, ct, osl, rfl, lk, hcd, hD, hK⟩ := F.ex
  rcases hD with ⟨_, rfl⟩ | ⟨e, _⟩
  · exact kbs_of rfl .nil fun M A Q E s us rs ws _ l1 l2 z => by rw [h kV doc pm an cdv ct us rs ws l1 l2]; exact z
  · exact absurd rfl e
theorem kbs_k (F : FunD K x qual params body scope [] (kwV kd) f fd) (n : Nat) (ks : List Str) (is : List Nat) (ms : List (Str × D)) (hk : kd ≠ []) (hms : ∀ q ∈ kwV ms, q ∈ kwV kd) (hf : (ms.map (·.2)).all flatD = true)
    (h : ∀ (D : Addr) (doc pm : Value) (an : Option Addr) (cdv ct : Value) (us rs mv ws : List Value), us.length = n → mv.length = ms.length → ws.length = ks.length →
      KwEnd D ((ms.map (·.1)).zip mv) (bindArgs (PySem.W.fnOf x qual params body scope .none (.ref D) doc pm an cdv ct) ⟨us ++ rs, ks.zip ws⟩) (newTuple rs >>= fun t => pure (ps.zip (pickI is (us ++ (mv ++ ws))) ++ [(pv, t)]))) : KBs K ca fd ps pv n ks (gDk is (ms.map (·.2))) := by
  obtain ⟨oc, od, dV, kV, doc, pm, an, cdv, ct, osl, rfl, lk, hcd, hD, hK⟩ := F.ex
  rcases hD with ⟨_, rfl⟩ | ⟨e, _⟩
  · rcases hK with e | ⟨D, rfl, hq⟩
    · exact absurd (List.map_eq_nil_iff.mp e) hk
    · obtain ⟨mv, hl, rk, hks⟩ := kwd_vals (ms := kwV ms) fun q hm => hq q (hms q hm)
      rw [List.length_map] at hl
      have e1 : (kwV ms).map (·.1) = ms.map (·.1) := by rw [List.map_map]; rfl
      have e2 : (kwV ms).map (·.2) = (ms.map (·.2)).map toV := by rw [List.map_map, List.map_map]; rfl
      rw [e1] at hks
      rw [e2] at rk
      exact kbs_of hf rk fun M A Q E s us rs ws X l1 l2 z => KwEnd.wp X hks (h D doc pm an cdv ct us rs mv ws l1 hl l2) z
  · exact absurd rfl e
end
structure FnS (P : Program) (w : World) (K : PySem.W.Frag) (mg : Str → Option Value) (base : Heap) (k : Nat) (f : Addr) (fd : FuncData) (ps : List Str) (pv : Str) (sp : Sp) : Prop where
  run : ∀ (A : Around) (outer : List Env) (s : Shared) (H : Hp) (args : Args) (us rs : List Value) (vs rest : List V) (Q : VK) (E : XK), Room k A → Env0 P w K mg base A outer s H →
    (∀ (M : Model) (A : Around) (Q : List (Str × Value) → Shared → Prop) (E : Value → Shared → Prop), wpAny M A (newTuple rs >>= fun t => pure (ps.zip us ++ [(pv, t)])) Q E s → wpAny M A (bindArgs fd args) Q E s) →
    Vals vs us → Vals rest rs → vs.length = ps.length → rest.length ≤ sizeLine → (∀ p, H p = none → sp (vs ++ [.ref p]) (upd H p (.tup rest)) Q E) →
    codeAny (model P w) A (.call (.ref f) args) (CR (L2.CX P w) outer P w H s Q E) s
section
variable {P : Program} {w : World} {K : PySem.W.Frag} {mg : Str → Option Value} {base : Heap} {ca : Cn} {name qual : Str} {params : Arguments} {body : List Stmt} {scope : Scope} {dvs : List V} {kws : List (Str × V)} {f : Addr} {fd : FuncData} {N ps : List Str} {pv : Str} {k : Nat} {g : Ev → SO}
theorem fnS_ok {sp : Sp} (F : FunD K name qual params body scope dvs kws f fd) (S : FnScope N (ps ++ [pv]) scope)
    (hbody : ∀ (cdv : Value) (A : Around) (outer : List Env) (s : Shared) (H : Hp) (vs : List V) (Q : VK) (E : XK), Room k (A.deeper (envOfC qual scope s.heap.objs.size f cdv)) → sp vs H Q E →
      ∃ t, PSs (cxOf (L2.CX P w) P w K mg base N qual scope f cdv A outer s H E) body t ∧ t { nx := fun _ H' => Q .non H', rt := Q } (L2.start N vs) H) : FnS P w K mg base (k + 1) f fd ps pv sp := by
  obtain ⟨oc, od, dV, kV, doc, pm, an, cdv, ct, osl, rfl, lk, hcd, _, _⟩ := F.ex
  refine ⟨fun A outer s H args us rs vs rest Q E hr e0 hb r1 r2 hl hz hq => ?_⟩
  have hn : H s.heap.objs.size = Option.none := e0.hok.fresh (Nat.le_refl _)
  have hl1 : us.length = ps.length := by rw [← r1.length]; exact hl
  have hl2 : rs.length ≤ sizeLine := by rw [← r2.length]; exact hz
  refine StX.run_bnd lk hcd S hr e0 (G := fun xs H2 => ∃ p, H p = Option.none ∧ xs = vs ++ [V.ref p] ∧ H2 = upd H p (.tup rest)) (fun A' Ex Q' h => ?_) fun s2 H2 xs ⟨p, hp, ex, eH⟩ hr' => ?_
  · refine hb _ _ _ _ (wpAny_bind (wpAny_newTuple (wpAny_pure ?_) hl2))
    have new : ObjOk P w (upd H s.heap.objs.size (.tup rest)) (s.heap.push ({ cls := .type "tuple", data := .seq rs.toArray } : Obj)) s.heap.objs.size (.tup rest) := ⟨hz, rs, r2, ⟨_, Heap.get?_push_size _ rfl, rfl, _, rfl⟩⟩
    have un := StX.un_laid (fs := frs outer) (s := s) (o := ({ cls := .type "tuple", data := .seq rs.toArray } : Obj)) (u := .tup rest) hn
    have z := h _ _ (vs ++ [V.ref s.heap.objs.size]) (us ++ [Value.ref s.heap.objs.size]) (StX.env0_laid e0 new) un rfl (fun e s' => StX.cxUp outer s H _ _ E e s' un (fun b o q => Heap.get?_push_of_some _ q) rfl) (r1.append (.cons rfl .nil))
      (by rw [List.length_append, List.length_append, hl] <;> rfl) ⟨_, hn, rfl, rfl⟩
    rw [List.zip_append hl1.symm] at z
    exact z
  · subst ex eH
    exact hbody cdv A outer s2 _ _ Q E hr' (hq p hp)
theorem fnS_okO (F : FunD K name qual params body scope dvs kws f fd) (S : FnScope N (ps ++ [pv]) scope)
    (hb : ∀ (cdv : Value) (A : Around) (outer : List Env) (s : Shared) (H : Hp) (E : XK), Room k (A.deeper (envOfC qual scope s.heap.objs.size f cdv)) →
      FSs (cxOf (L2.CX P w) P w K mg base N qual scope f cdv A outer s H E) ca (fun c d _ H' => E c d H') body g) : FnS P w K mg base (k + 1) f fd ps pv (spO K ca (ps.length + 1) (runO N.length g)) :=
  fnS_ok F S fun cdv A outer s H vs Q E hr h => by
    obtain ⟨l, G, ds, sm, a, q⟩ := h
    exact body_okO rfl (hb cdv A outer s H E hr) (fun _ _ _ _ z => z) sm a q
end
structure CmAt (K : PySem.W.Frag) (mg : Str → Option Value) (ca : Cn) (c : Nat) (x m qual : Str) (st : Stmt) (dd : List D) (kd : List (Str × D)) : Prop where
  ex : ∃ f fd C p, FD K m qual st dd kd f fd ∧ ca.a c = some C ∧ mg x = some (.ref C) ∧ ClX.CRead K C (.type "type") ∧ ClX.CMet K C (.type "type") m p f
structure DefCm (P : Program) (w : World) (K : PySem.W.Frag) (mg : Str → Option Value) (base : Heap) (ca : Cn) (k c : Nat) (x m qual : Str) (st : Stmt) (dd : List D) (kd : List (Str × D)) (ps : List Str) (pv : Str) (F : List D → R Sl) : Prop where
  ex : ∃ f fd C p, FnS P w K mg base k f fd ps pv (spO K ca (ps.length + 1) F) ∧ FD K m qual st dd kd f fd ∧ ca.a c = some C ∧ mg x = some (.ref C) ∧ ClX.CRead K C (.type "type") ∧ ClX.CMet K C (.type "type") m p f
theorem DefCm.of {P : Program} {w : World} {K : PySem.W.Frag} {mg : Str → Option Value} {base : Heap} {ca : Cn} {x m qual : Str} {st : Stmt} {dd : List D} {kd : List (Str × D)} {ps N : List Str} {pv : Str} {k c : Nat} {g : Ev → SO} (h : CmAt K mg ca c x m qual st dd kd) (S : FnScope N (ps ++ [pv]) (defScope st))
    (hb : ∀ (f : Addr) (cdv : Value) (A : Around) (outer : List Env) (s : Shared) (H : Hp) (E : XK), Room k (A.deeper (envOfC qual (defScope st) s.heap.objs.size f cdv)) →
      FSs (cxOf (L2.CX P w) P w K mg base N qual (defScope st) f cdv A outer s H E) ca (fun c d _ H' => E c d H') (defBody st) g) : DefCm P w K mg base ca (k + 1) c x m qual st dd kd ps pv (runO N.length g) := by
  obtain ⟨f, fd, C, p, F, h1, h2, h3, h4⟩ := h.ex
  exact ⟨f, fd, C, p, fnS_okO F S (hb f), F, h1, h2, h3, h4⟩
def nCmS (c n nk np : Nat) (F : List D → R Sl) (gD : List D → List D → List D) (fa fk : Ev → R (List D)) : Ev → R Sl := fun ρ => (fa ρ).bind fun ds => (fk ρ).bind fun zs =>
  if n ≤ ds.length ∧ ds.length < 1000 ∧ zs.length = nk ∧ (gD (.cl c :: ds.take n) zs).length = np then F (gD (.cl c :: ds.take n) zs ++ [.tup (ds.drop n)]) else .bad
section
variable {X : Cx} {ca : Cn} {W : WX} {k j c n : Nat} {x m qual : Str} {st : Stmt} {dd : List D} {kd : List (Str × D)} {ps ks : List Str} {pv : Str} {Fn : List D → R Sl} {p apos pos : Pos} {e : Expr} {es : List Expr} {kws : List Keyword} {fa fk : Ev → R (List D)} {gD : List D → List D → List D}
theorem at_take {K : PySem.W.Frag} {ca : Cn} {G : Hp} : ∀ (n : Nat) {ds : List D} {vs : List V}, AtL K ca G ds vs → AtL K ca G (ds.take n) (vs.take n) ∧ AtL K ca G (ds.drop n) (vs.drop n)
  | 0, ds, vs, a => ⟨rfl, a⟩
  | n + 1, [], vs, a => by cases a; exact ⟨rfl, rfl⟩
  | n + 1, d :: ds, vs, ⟨v, r, e, a, t⟩ => by
    subst e
    exact ⟨⟨v, _, rfl, a, (at_take n t).1⟩, (at_take n t).2⟩
theorem vals_take : ∀ (n : Nat) {vs : List V} {us : List Value}, Vals vs us → Vals (vs.take n) (us.take n) ∧ Vals (vs.drop n) (us.drop n)
  | 0, _, _, r => ⟨.nil, r⟩
  | n + 1, _, _, .nil => ⟨.nil, .nil⟩
  | n + 1, _, _, .cons a r => ⟨.cons a (vals_take n r).1, (vals_take n r).2⟩
theorem fn_cmS {pl : Sem Bool} (d : DefCm X.prog X.w X.K X.mg X.base ca k c x m qual st dd kd ps pv Fn) (hb : ∀ {f fd}, FD X.K m qual st dd kd f fd → KBs X.K ca fd ps pv (n + 1) ks gD) (hr : Room j X.A) (tk : Takes X W) (ha : FA X ca W (e :: es) fa) (hkw : FK X ca W kws fk) (hk : k ≤ j := by decide) (hg : Gl X x := by rfl)
    (hall : (backToKw pos (keywordEach kws X.env)).all (·.1.isSome) = true := by rfl) (hks : (backToKw pos (keywordEach kws X.env)).filterMap (·.1) = ks := by rfl) (hdb : (x == ("__debug__" : Str)) = false := by decide)
    (he : starEach (e :: es) X.env = (false, eval e X.env) :: starEach es X.env := by rfl) (hpl : ((backTo pos (starEach (e :: es) X.env)).any (·.1) || (backToKw pos (keywordEach kws X.env)).any (·.1.isNone)) = false := by rfl)
    (ht : eval (.Call (.Attribute (.Name x p) m apos) (e :: es) kws pos) X.env = (do
      let ov ← eval (.Name x p) X.env
      standAt apos.atName
      let (f, first) ← holding [ov] (getMethod ov m pl)
      callWith pos f first (backTo pos (starEach (e :: es) X.env)) (backToKw pos (keywordEach kws X.env))) := by rfl) :
    FN X ca W (.Call (.Attribute (.Name x p) m apos) (e :: es) kws pos) (nCmS c n ks.length ps.length Fn gD fa fk) := by
  obtain ⟨f, fd, C, q, F, h2, hc, hm, rd, cm⟩ := d.ex
  obtain ⟨t, pa, kt⟩ := ha.ex
  obtain ⟨u, pk, ku⟩ := hkw.ex
  obtain ⟨g, gV, hto, hrel, hgd⟩ := (hb h2).ex
  refine ⟨fun σ H Q => t σ H fun vs H1 => u σ H1 fun zs H2 => n ≤ vs.length ∧ vs.length < 1000 ∧ zs.length = ks.length ∧ (gV (.ref C :: vs.take n) zs).length = ps.length ∧ ∀ a, H2 a = none → spO X.K ca (ps.length + 1) Fn (gV (.ref C :: vs.take n) zs ++ [.ref a]) (upd H2 a (.tup (vs.drop n))) Q (WE W σ), ⟨fun pins s σ H Q I h => ?_⟩, fun B G H σ ρ Q s b r h => ?_⟩
  · refine PySem.W.methodCall_KW (pl := pl) (ld_glob I hg hm ?_ hdb) ht
    refine ClX.getmethcm_ok I rd cm fun s1 I1 => ?_
    have hB := ClX.base_none I (Nat.le_refl _)
    refine PySem.W.callWith_of hpl (PySem.W.keeps_M (K := X.K) (q := s.heap.objs.size) (f := f) (self := .ref C) cm.fi) (evalArgs_kw2 hall ?_ he)
    refine thn (pa.run pos _ s1 σ H _ I1 h) fun us s2 ⟨vs, H1, I2, r1, q1⟩ => ?_
    refine thn (pk.run pos _ s2 σ H1 _ I2 q1) fun ws s3 ⟨zs, H2, I3, r2, l0, l1, l2, l3, q2⟩ => ⟨⟨ClX.pin_at I3, I3.kIn⟩, ?_⟩
    rw [hks]
    have tk1 := vals_take n r1
    have lu : (Value.ref C :: us.take n).length = n + 1 := by
      rw [List.length_cons, List.length_take, ← r1.length]
      omega
    have go := F.run X.A X.stack s3 H2 ⟨(.ref C :: us.take n) ++ us.drop n, ks.zip ws⟩ _ (us.drop n) _ (vs.drop n) Q (WE W σ) (hr.mono hk) I3.env0 (fun M A Q E z => hto M A Q E s3 _ _ ws I3.kIn lu (r2.length.symm.trans l2) z)
      (hrel (.cons (show RelV (V.ref C) (Value.ref C) from rfl) tk1.1) r2) tk1.2 l3 (by rw [List.length_drop]; exact Nat.le_trans (Nat.le_of_lt (Nat.lt_of_le_of_lt (Nat.sub_le _ _) l1)) (by decide)) q2
    rw [List.cons_append, List.take_append_drop] at go
    refine wpAny_call (PySem.W.method_call (ClX.pin_at I3) (codeAny_mono go fun r s' hq => ?_))
    rcases r with e | fl
    · exact passAt tk σ _ H2 s3 e s' I3 hq
    · cases fl with
      | ret u => exact ClX.unpinE (I3.after hq)
      | _ => exact hq.elim
  · refine kt B G H σ ρ _ s b r (Wish.bind h fun ds G1 H1 _ x1 w1 vs a1 => ?_)
    refine ku B G1 H1 σ ρ _ x1.gh (b.trans x1.hh) (r.ext x1) (Wish.bind w1 fun zs G2 H2 _ x2 w2 ws a2 => ?_)
    split at w2
    · rename_i hl
      have l1 := a1.length
      have l2 := a2.length
      have a3 := hgd G2 (.cl c :: ds.take n) (.ref C :: vs.take n) zs ws ⟨_, _, rfl, ⟨C, hc, rfl⟩, (at_take n (AtL.mono x2.gg a1)).1⟩ a2
      have l3 := a3.length
      refine ⟨by omega, by omega, by omega, by rw [← l3]; exact hl.2.2.2, fun a na => ?_⟩
      have ga : G2 a = none := same_none x2.gh na
      have sg : Same G2 (upd G2 a (.tup (vs.drop n))) := same_upd ga
      refine ⟨by rw [List.length_append, ← l3, hl.2.2.2]; rfl, upd G2 a (.tup (vs.drop n)), gD (.cl c :: ds.take n) zs ++ [.tup (ds.drop n)], (Ext.new (o := .tup (vs.drop n)) x2.gh na).gh, (AtL.mono sg a3).append (show AtL X.K ca (upd G2 a (.tup (vs.drop n))) [.tup (ds.drop n)] [.ref a] from ⟨_, _, rfl, ⟨a, _, rfl, upd_same, AtL.mono sg (at_take n (AtL.mono x2.gg a1)).2⟩, rfl⟩), ?_⟩
      exact (Wish.mono w2 (Ext.new x2.gh na)).imp fun G' sl H' q => ⟨q.1, fun b ob gb nb => q.2 b ob gb (same_none (x1.hh.trans x2.hh) (same_none (same_upd na) nb))⟩
    · exact w2.elim
def isCl (c : Nat) : D → Bool
  | .cl c' => decide (c' = c)
  | _ => false
noncomputable def nMakeVK (c n m p : Nat) (F : Addr → List D → R (List (Nat × D))) (gD : List D → List D → List D) (ff : Ev → R D) (fa fk : Ev → R (List D)) : Ev → R Sl := fun ρ => (ff ρ).bind fun d => if isCl c d = true then nMakeK c n m p F gD fa fk ρ else .bad
theorem fn_makeVK {Fn : Addr → List D → R (List (Nat × D))} {qual : Str} {fe : Expr} {ff : Ev → R D} (d : DefI X.prog X.w X.K X.mg X.base ca k c x qual st dd kd ps Fn) (hb : ∀ {f fd}, FDI X.K qual st dd kd f fd → KBI X.K ca fd ps n ks gD) (hr : Room j X.A) (tk : Takes X W) (hf : FE X ca W fe ff) (ha : FA X ca W (e :: es) fa) (hkw : FK X ca W kws fk) (hk : k + 1 ≤ j := by decide)
    (hall : (backToKw pos (keywordEach kws X.env)).all (·.1.isSome) = true := by rfl) (hks : (backToKw pos (keywordEach kws X.env)).filterMap (·.1) = ks := by rfl)
    (he : starEach (e :: es) X.env = (false, eval e X.env) :: starEach es X.env := by rfl) (hpl : ((backTo pos (starEach (e :: es) X.env)).any (·.1) || (backToKw pos (keywordEach kws X.env)).any (·.1.isNone)) = false := by rfl)
    (ht : eval (.Call fe (e :: es) kws pos) X.env = (do callWith pos (← eval fe X.env) [] (backTo pos (starEach (e :: es) X.env)) (backToKw pos (keywordEach kws X.env))) := by rfl) :
    FN X ca W (.Call fe (e :: es) kws pos) (nMakeVK c n ks.length ps.length Fn gD ff fa fk) := by
  obtain ⟨f, fd, C, F, M, hc, hm, h2⟩ := d.ex
  obtain ⟨to, po, ko⟩ := hf.ex
  obtain ⟨t, pa, kt⟩ := ha.ex
  obtain ⟨u, pk, ku⟩ := hkw.ex
  obtain ⟨g, gV, hbn, hgd⟩ := (hb h2).ex
  refine ⟨fun σ H Q => to σ H fun y H0 => y = .ref C ∧ t σ H0 fun vs H1 => u σ H1 fun zs H2 => vs.length = n ∧ zs.length = ks.length ∧ ∀ a dx, H2 a = none → H2 dx = none → dx ≠ a → spI X.K ca c ps.length Fn (gV (.ref a :: vs) zs) (upd (upd H2 dx (.own a)) a (.ins C dx [])) (fun v H3 => v = .non ∧ Q (.ref a) H3) (WE W σ), ⟨fun pins s σ H Q I h => ?_⟩, fun B G H σ ρ Q s b r h => ?_⟩
  · rw [ht]
    refine wpAny_bind (thn (po.run pins s σ H _ I h) fun u s0 ⟨y, H0, I0, ry, ey, q0⟩ => ?_)
    subst ey
    obtain rfl : u = Value.ref C := ry
    refine PySem.W.callWith_KW (h₀ := X.base) I.ok.mod.kin M.kp hall (thn (pa.run pos pins s0 σ H0 _ I0 q0) fun us s1 ⟨vs, H1, I1, r1, q1⟩ => ?_) hpl he
    refine thn (pk.run pos pins s1 σ H1 _ I1 q1) fun ws s2 ⟨zs, H2, I2, r2, l1, l2, q2⟩ => ⟨I2.kIn, ?_⟩
    rw [hks]
    exact run_makeKS M F (hr.mono hk) hbn (passAt tk σ) I2 r1 r2 l1 l2 q2
  · refine ko B G H σ ρ _ s b r (Wish.bind h fun d G0 H0 _ x0 w0 v av => ?_)
    split at w0
    · rename_i hd
      have ev : v = .ref C := by
        cases d with
        | cl c' =>
          have : c' = c := of_decide_eq_true hd
          subst this
          obtain ⟨C', e1, e2⟩ := av
          rw [hc] at e1
          cases e1
          exact e2
        | _ => cases hd
      refine ⟨ev, kt B G0 H0 σ ρ _ x0.gh (b.trans x0.hh) (r.ext x0) (Wish.bind w0 fun ds G1 H1 _ x1 w1 vs a1 => ?_)⟩
      refine ku B G1 H1 σ ρ _ x1.gh (b.trans (x0.hh.trans x1.hh)) ((r.ext x0).ext x1) (Wish.bind w1 fun zs G2 H2 _ x2 w2 ws a2 => ?_)
      split at w2
      · rename_i hl
        refine ⟨by rw [← a1.length]; exact hl.1, by rw [← a2.length]; exact hl.2.1, fun a dx n1 n2 ne => ?_⟩
        obtain ⟨us, e, au⟩ := hgd (.ref a) vs ws
        rw [e]
        exact make_wish hc (x0.hh.trans (x1.hh.trans x2.hh)) x2.gh (au G2 ds zs (AtL.mono x2.gg a1) a2) hl.2.2 w2 n1 n2 ne
      · exact w2.elim
    · exact w0.elim
end
abbrev AlC : Type := (He.AlD × Bool) × List He.FnW
def obsC (n : Nat) (fa : List He.Fa) (fn : List He.DefD) (ex : PySem.W.Frag → Bool) (fw : List He5.DefA) (g : Addr → Option Obj) : AlC := ((He.obsD fa fn (He.frG g (He5.asA g n)), ex (He.frG g (He5.asA g n))), fw.map fun d => He5.fnA (He.frG g (He5.asA g n)) (d.at_ (He.frG g (He5.asA g n))))
def hookC (n : Nat) (fa : List He.Fa) (fn : List He.DefD) (ex : PySem.W.Frag → Bool) (fw : List He5.DefA) : PySem.W.Hook where
  α := AlC
  obs := fun s => obsC n fa fn ex fw s.heap.get?
  val := fun _ => ((He.valD fn, true), fw.map He5.DefA.val)
  says := fun _ h => ∃ K : PySem.W.Frag, K.In h ∧ (He.SaysD fa fn K ∧ ex K = true) ∧ fw.map (fun d => He5.fnA K (d.at_ K)) = fw.map He5.DefA.val
  of := fun _ _ e => ⟨_, He.frG_in, ⟨congrArg (fun z : AlC => z.1.1) e, congrArg (fun z : AlC => z.1.2) e⟩, congrArg (fun z : AlC => z.2) e⟩
  keeps := fun _ _ _ ⟨K, hK, c⟩ k => ⟨K, PySem.W.Frag.In.keeps hK k, c⟩
theorem obsC_eq {n : Nat} {fa : List He.Fa} {fn : List He.DefD} {ex : PySem.W.Frag → Bool} {fw : List He5.DefA} {g : Addr → Option Obj} {s : Shared} (h : ∀ a, g a = s.heap.get? a) : obsC n fa fn ex fw g = (hookC n fa fn ex fw).obs s := by
  have e : g = s.heap.get? := funext h
  rw [e] <;> rfl
structure SaysC (fa : List He.Fa) (fn : List He.DefD) (ex : PySem.W.Frag → Bool) (fw : List He5.DefA) (K : PySem.W.Frag) (mg : Str → Option Value) : Prop extends SaysU fa fn ex K mg where
  fw : fw.map (fun d => He5.fnA K (d.at_ K)) = fw.map He5.DefA.val
def dfW (x m qual : Str) (st : Stmt) (dd : List D) (kd : List (Str × D)) : He5.DefA := ⟨fun K => He5.wf K (He.ga K x) "classmethod" m, m, qual, defArgs st, defBody st, defScope st, dd.map dvD, kd.map fun q => (q.1, dvD q.2)⟩
def cmB (K : PySem.W.Frag) (x m : Str) : Bool := [PySem.W.readsIn K (He.ga K x) (.type "type"), He.eqO (PySem.W.specialIn K (.ref (He.ga K x)) "__getattribute__") (some (some (.builtin "type.__getattribute__"))), He5.wrapB K (He.ga K x) "classmethod" "classmethod.__get__" m, PySem.W.fnIn K (He5.wf K (He.ga K x) "classmethod" m)].all fun b => b
theorem SaysC.cm {fa : List He.Fa} {fn : List He.DefD} {ex : PySem.W.Frag → Bool} {fw : List He5.DefA} {K : PySem.W.Frag} {mg : Str → Option Value} {ca : Cn} {c : Nat} {x m qual : Str} {st : Stmt} {dd : List D} {kd : List (Str × D)} (T : SaysC fa fn ex fw K mg) (jg i : Nat) (hc : ca.a c = some (He.ga K x)) (hu : cmB K x m = true) (hk : (dfW x m qual st dd kd).ok K = true)
    (hg : fa[jg]? = some (.glo x) := by rfl) (hi : fw[i]? = some (dfW x m qual st dd kd) := by rfl) (h1 : dd.all flatD = true := by rfl) (h2 : (kd.map (·.2)).all flatD = true := by rfl) : CmAt K mg ca c x m qual st dd kd := by
  have u := List.all_eq_true.mp hu
  have u1 := u _ (List.mem_cons_self ..)
  have u2 := u _ (List.mem_cons_of_mem _ (List.mem_cons_self ..))
  have u3 := u _ (List.mem_cons_of_mem _ (List.mem_cons_of_mem _ (List.mem_cons_self ..)))
  have u4 := u _ (List.mem_cons_of_mem _ (List.mem_cons_of_mem _ (List.mem_cons_of_mem _ (List.mem_cons_self ..))))
  have e2 : (fw.map fun d => He5.fnA K (d.at_ K))[i]? = (fw.map He5.DefA.val)[i]? := by rw [T.fw]
  rw [List.getElem?_map, List.getElem?_map, hi] at e2
  obtain ⟨fd, F⟩ := He5.DefA.funD (Option.some.inj e2) hk
  have d1 : He5.DefA.dvs K (dfW x m qual st dd kd) = dd.map toV := by
    show (dd.map dvD).map (He.Dv.v K) = _
    rw [List.map_map]
    exact List.map_congr_left fun d hd => dv_eq (List.all_eq_true.mp h1 d hd)
  have d2 : He5.DefA.kws K (dfW x m qual st dd kd) = kwV kd := by
    show (kd.map fun q => (q.1, dvD q.2)).map (fun q => (q.1, q.2.v K)) = kd.map fun q => (q.1, toV q.2)
    rw [List.map_map]
    exact List.map_congr_left fun q hq => congrArg (Prod.mk q.1) (dv_eq (List.all_eq_true.mp h2 q.2 (List.mem_map_of_mem hq)))
  rw [d1, d2] at F
  obtain ⟨w1, w2⟩ := He5.wrapB_ok u3
  exact ⟨_, fd, _, _, F, hc, T.toSays.glo jg hg, ⟨u1, He.eqO_ok u2⟩, ⟨w1, w2, u4⟩⟩
end Tk
namespace Tk
open PySem PySem.Spec L2 PyProof.Rows
section
variable {X : Cx} {ca : Cn} {W : WX} {o e : Expr} {fo fa : Ev → R D} {apos pos : Pos}
end
end Tk
namespace Tk
open PySem PySem.Spec L2 PyProof.Rows
section
variable {X : Cx} {ca : Cn} {W : WX} {e : Expr} {es : List Expr} {fl : Ev → R (List D)} {p pos : Pos}
end
end Tk
namespace Tk
open PySem PySem.Spec L2 PyProof.Rows
def dropG {κ α : Type} [DecidableEq κ] (kvs : List (κ × α)) (k : κ) : List (κ × α) := kvs.filter fun kv => decide (kv.1 ≠ k)
theorem AtK.drop {K : PySem.W.Frag} {ca : Cn} {G : Hp} {k : Key} : ∀ {kvs : List (Key × D)} {vs : List (Key × V)}, AtK K ca G kvs vs → AtK K ca G (dropG kvs k) (dropK vs k)
  | [], _, h => by cases h; rfl
  | (k', d) :: kvs, _, ⟨v, r, e, h, t⟩ => by
    subst e
    unfold dropG dropK
    by_cases c : k' = k
    · rw [List.filter_cons_of_neg (by simpa using c), List.filter_cons_of_neg (by simpa using c)]
      exact t.drop
    · rw [List.filter_cons_of_pos (by simpa using c), List.filter_cons_of_pos (by simpa using c)]
      exact ⟨v, _, rfl, h, t.drop⟩
section
variable {X : Cx} {ca : Cn} {W : WX} {e1 e : Expr} {f1 f : Ev → R D} {pos pos' pos2 apos cpos pz : Pos} {i j : Nat} {y z : Str}
end
end Tk
namespace Tk
open PySem PySem.Spec L2 PyProof.Rows
section
variable {X : Cx} {ca : Cn} {W : WX} {e f : Expr} {fa fb : Ev → R D} {apos cpos py : Pos} {i : Nat} {y : Str}
end
section
variable {K : PySem.W.Frag} {ca : Cn} {G G' : Hp}
end
end Tk
set_option maxHeartbeats 2000000
namespace Tk
open PySem PySem.Spec L2 PyProof.Rows
structure SMet (K : PySem.W.Frag) (C : Addr) (mc : Value) (m : Str) (p g : Addr) : Prop where
  at_ : PySem.W.findCls K (.ref C) mc m = some (.get (.builtin "staticmethod.__get__") (.ref p) .none (.ref C))
  rc : ∃ rest, PySem.W.recIn K p "staticmethod" = some (.ref g :: rest)
section
variable {X : Cx} {pins : List (Addr × Obj)} {σ : L2.St} {H : Hp} {s : Shared} {C p g : Addr} {mc : Value} {m : Str} {A : Around} {E : Value → Shared → Prop}
end
structure SmAt (K : PySem.W.Frag) (mg : Str → Option Value) (x m qual : Str) (st : Stmt) (dd : List D) (kd : List (Str × D)) : Prop where
  ex : ∃ f fd C p, FD K m qual st dd kd f fd ∧ mg x = some (.ref C) ∧ ClX.CRead K C (.type "type") ∧ SMet K C (.type "type") m p f
structure DefSm (P : Program) (w : World) (K : PySem.W.Frag) (mg : Str → Option Value) (base : Heap) (ca : Cn) (k : Nat) (x m qual : Str) (st : Stmt) (dd : List D) (kd : List (Str × D)) (ps : List Str) (F : List D → R D) : Prop where
  ex : ∃ f fd C p, FnOk P w K mg base (L2.CX P w) k f fd ps (spF K ca ps.length F) ∧ FD K m qual st dd kd f fd ∧ mg x = some (.ref C) ∧ ClX.CRead K C (.type "type") ∧ SMet K C (.type "type") m p f
theorem DefSm.of {P : Program} {w : World} {K : PySem.W.Frag} {mg : Str → Option Value} {base : Heap} {ca : Cn} {x m qual : Str} {st : Stmt} {dd : List D} {kd : List (Str × D)} {ps N : List Str} {k : Nat} {g : Ev → SO} (h : SmAt K mg x m qual st dd kd) (S : FnScope N ps (defScope st))
    (hb : ∀ (f : Addr) (cdv : Value) (A : Around) (outer : List Env) (s : Shared) (H : Hp) (E : XK), Room k (A.deeper (envOfC qual (defScope st) s.heap.objs.size f cdv)) →
      FSs (cxOf (L2.CX P w) P w K mg base N qual (defScope st) f cdv A outer s H E) ca (fun c d _ H' => E c d H') (defBody st) g) : DefSm P w K mg base ca (k + 1) x m qual st dd kd ps (runF N.length g) := by
  obtain ⟨f, fd, C, p, F, h1⟩ := h.ex
  exact ⟨f, fd, C, p, fn_okD F S (hb f), F, h1⟩
section
variable {X : Cx} {ca : Cn} {W : WX} {k j n : Nat} {x m qual : Str} {st : Stmt} {dd : List D} {kd : List (Str × D)} {ps ks : List Str} {Fn : List D → R D} {p apos pos : Pos} {e : Expr} {es : List Expr} {kws : List Keyword} {fa fk : Ev → R (List D)} {gD : List D → List D → List D}
end
def dfS (x m qual : Str) (st : Stmt) (dd : List D) (kd : List (Str × D)) : He5.DefA := ⟨fun K => He5.wf K (He.ga K x) "staticmethod" m, m, qual, defArgs st, defBody st, defScope st, dd.map dvD, kd.map fun q => (q.1, dvD q.2)⟩
def smB (K : PySem.W.Frag) (x m : Str) : Bool := [PySem.W.readsIn K (He.ga K x) (.type "type"), He.eqO (PySem.W.specialIn K (.ref (He.ga K x)) "__getattribute__") (some (some (.builtin "type.__getattribute__"))), He5.wrapB K (He.ga K x) "staticmethod" "staticmethod.__get__" m].all fun b => b
theorem SaysC.sm {fa : List He.Fa} {fn : List He.DefD} {ex : PySem.W.Frag → Bool} {fw : List He5.DefA} {K : PySem.W.Frag} {mg : Str → Option Value} {x m qual : Str} {st : Stmt} {dd : List D} {kd : List (Str × D)} (T : SaysC fa fn ex fw K mg) (jg i : Nat) (hu : smB K x m = true) (hk : (dfS x m qual st dd kd).ok K = true)
    (hg : fa[jg]? = some (.glo x) := by rfl) (hi : fw[i]? = some (dfS x m qual st dd kd) := by rfl) (h1 : dd.all flatD = true := by rfl) (h2 : (kd.map (·.2)).all flatD = true := by rfl) : SmAt K mg x m qual st dd kd := by
  have u := List.all_eq_true.mp hu
  have u1 := u _ (List.mem_cons_self ..)
  have u2 := u _ (List.mem_cons_of_mem _ (List.mem_cons_self ..))
  have u3 := u _ (List.mem_cons_of_mem _ (List.mem_cons_of_mem _ (List.mem_cons_self ..)))
  have e2 : (fw.map fun d => He5.fnA K (d.at_ K))[i]? = (fw.map He5.DefA.val)[i]? := by rw [T.fw]
  rw [List.getElem?_map, List.getElem?_map, hi] at e2
  obtain ⟨fd, F⟩ := He5.DefA.funD (Option.some.inj e2) hk
  have d1 : He5.DefA.dvs K (dfS x m qual st dd kd) = dd.map toV := by
    show (dd.map dvD).map (He.Dv.v K) = _
    rw [List.map_map]
    exact List.map_congr_left fun d hd => dv_eq (List.all_eq_true.mp h1 d hd)
  have d2 : He5.DefA.kws K (dfS x m qual st dd kd) = kwV kd := by
    show (kd.map fun q => (q.1, dvD q.2)).map (fun q => (q.1, q.2.v K)) = kd.map fun q => (q.1, toV q.2)
    rw [List.map_map]
    exact List.map_congr_left fun q hq => congrArg (Prod.mk q.1) (dv_eq (List.all_eq_true.mp h2 q.2 (List.mem_map_of_mem hq)))
  rw [d1, d2] at F
  obtain ⟨w1, w2⟩ := He5.wrapB_ok u3
  exact ⟨_, fd, _, _, F, T.toSays.glo jg hg, ⟨u1, He.eqO_ok u2⟩, ⟨w1, w2⟩⟩
end Tk
set_option maxHeartbeats 2000000
namespace Tk
open PySem PySem.Spec L2 PyProof.Rows
end Tk
set_option maxHeartbeats 2000000
namespace Tk
open PySem PySem.Spec L2 PyProof.Rows
end Tk
set_option maxHeartbeats 2000000
namespace Tk
open PySem PySem.Spec L2 PyProof.Rows
structure DefMO (P : Program) (w : World) (K : PySem.W.Frag) (mg : Str → Option Value) (base : Heap) (ca : Cn) (k c : Nat) (m qual : Str) (st : Stmt) (dd : List D) (kd : List (Str × D)) (ps : List Str) (F : List D → R Sl) : Prop where
  ex : ∃ f fd C, FnOk P w K mg base (L2.CX P w) k f fd ps (spO K ca ps.length F) ∧ ca.a c = some C ∧ Cls K C ∧ Meth K C m f ∧ FD K m qual st dd kd f fd
theorem DefMO.of {P : Program} {w : World} {K : PySem.W.Frag} {mg : Str → Option Value} {base : Heap} {ca : Cn} {m qual : Str} {st : Stmt} {dd : List D} {kd : List (Str × D)} {ps N : List Str} {k c : Nat} {g : Ev → SO} (h : MeAt K ca c m qual st dd kd) (S : FnScope N ps (defScope st))
    (hb : ∀ (f : Addr) (cdv : Value) (A : Around) (outer : List Env) (s : Shared) (H : Hp) (E : XK), Room k (A.deeper (envOfC qual (defScope st) s.heap.objs.size f cdv)) →
      FSs (cxOf (L2.CX P w) P w K mg base N qual (defScope st) f cdv A outer s H E) ca (fun c d _ H' => E c d H') (defBody st) g) : DefMO P w K mg base ca (k + 1) c m qual st dd kd ps (runO N.length g) := by
  obtain ⟨f, fd, C, F, h1, h2, h3⟩ := h.ex
  exact ⟨f, fd, C, fn_okO F S (hb f), h1, h2, h3, F⟩
section
variable {X : Cx} {ca : Cn} {W : WX} {k j c nf : Nat} {m qual : Str} {st : Stmt} {dd : List D} {kd : List (Str × D)} {ps : List Str} {Fn : List D → R Sl} {apos pos : Pos} {o e a : Expr} {es : List Expr} {fo fa : Ev → R D} {fl : Ev → R (List D)}
end
end Tk
set_option maxHeartbeats 2000000
namespace Tk
open PySem PySem.Spec L2 PyProof.Rows
section
variable {X : Cx} {ca : Cn} {neg : Bool}
end
end Tk
namespace Tk
open PySem PySem.Spec L2 PyProof.Rows
end Tk
namespace L2
open PySem PySem.Spec PyProof.Rows
section
variable {X : Cx}
end
end L2
namespace Tk
open PySem PySem.Spec L2 PyProof.Rows
section
variable {X : Cx} {ca : Cn} {W : WX} {zs : List Nat} {kx vx tg iter : Expr} {ifs : List Expr} {scope : Scope} {own : List (Str × Nat)} {pos : Pos} {fi : Ev → R (List D)} {h : Tg} {ft : Ev → R Bool} {fk fv : Ev → R D}
end
end Tk
namespace Tk
open PySem PySem.Spec L2 PyProof.Rows
section
variable {X : Cx} {ca : Cn}
end
end Tk
namespace Tk
open PySem PySem.Spec L2 PyProof.Rows
end Tk
set_option maxHeartbeats 4000000
namespace Tk
open PySem PySem.Spec L2 PyProof.Rows
def lfK (kvs : List (Key × D)) : List (Key × OT) := kvs.map fun p => (p.1, .d p.2)
def lfT (kvs : List (List Key × D)) : List (List Key × OT) := kvs.map fun p => (p.1, .d p.2)
def lfL (xs : List D) : List OT := xs.map .d
def lfF (fs : List (Nat × D)) : List (Nat × OT) := fs.map fun p => (p.1, .d p.2)
section
variable {K : PySem.W.Frag} {ca : Cn} {G H G' H' B : Hp} {σ : L2.St} {ρ : Ev}
theorem NAtL.lf : ∀ {xs : List D} {vs : List V} {fp : List Addr}, NAtL K ca G H (lfL xs) vs fp ↔ AtL K ca G xs vs ∧ fp = []
  | [], vs, fp => Iff.rfl
  | x :: xs, vs, fp => by
    constructor
    · rintro ⟨v, r, f1, f2, e, ⟨h, z1⟩, t, z⟩
      obtain ⟨t1, z2⟩ := NAtL.lf.mp t
      exact ⟨⟨v, r, e, h, t1⟩, by rw [z, z1, z2]; rfl⟩
    · rintro ⟨⟨v, r, e, h, t⟩, z⟩
      exact ⟨v, r, [], [], e, ⟨h, rfl⟩, NAtL.lf.mpr ⟨t, rfl⟩, z⟩
theorem NAtK.lf : ∀ {xs : List (Key × D)} {vs : List (Key × V)} {fp : List Addr}, NAtK K ca G H (lfK xs) vs fp ↔ AtK K ca G xs vs ∧ fp = []
  | [], vs, fp => Iff.rfl
  | (k, x) :: xs, vs, fp => by
    constructor
    · rintro ⟨v, r, f1, f2, e, ⟨h, z1⟩, t, z⟩
      obtain ⟨t1, z2⟩ := NAtK.lf.mp t
      exact ⟨⟨v, r, e, h, t1⟩, by rw [z, z1, z2]; rfl⟩
    · rintro ⟨⟨v, r, e, h, t⟩, z⟩
      exact ⟨v, r, [], [], e, ⟨h, rfl⟩, NAtK.lf.mpr ⟨t, rfl⟩, z⟩
theorem NAtT.lf : ∀ {xs : List (List Key × D)} {vs : List (List Key × V)} {fp : List Addr}, NAtT K ca G H (lfT xs) vs fp ↔ AtT K ca G xs vs ∧ fp = []
  | [], vs, fp => Iff.rfl
  | (k, x) :: xs, vs, fp => by
    constructor
    · rintro ⟨v, r, f1, f2, e, ⟨h, z1⟩, t, z⟩
      obtain ⟨t1, z2⟩ := NAtT.lf.mp t
      exact ⟨⟨v, r, e, h, t1⟩, by rw [z, z1, z2]; rfl⟩
    · rintro ⟨⟨v, r, e, h, t⟩, z⟩
      exact ⟨v, r, [], [], e, ⟨h, rfl⟩, NAtT.lf.mpr ⟨t, rfl⟩, z⟩
theorem NAtF.lf : ∀ {xs : List (Nat × D)} {vs : List (Str × V)} {fp : List Addr}, NAtF K ca G H (lfF xs) vs fp ↔ AtF K ca G xs vs ∧ fp = []
  | [], vs, fp => Iff.rfl
  | (k, x) :: xs, vs, fp => by
    constructor
    · rintro ⟨v, r, f1, f2, e, ⟨h, z1⟩, t, z⟩
      obtain ⟨t1, z2⟩ := NAtF.lf.mp t
      exact ⟨⟨v, r, e, h, t1⟩, by rw [z, z1, z2]; rfl⟩
    · rintro ⟨⟨v, r, e, h, t⟩, z⟩
      exact ⟨v, r, [], [], e, ⟨h, rfl⟩, NAtF.lf.mpr ⟨t, rfl⟩, z⟩
theorem NAtF.length : ∀ {fs : List (Nat × OT)} {vs : List (Str × V)} {fp : List Addr}, NAtF K ca G H fs vs fp → fs.length = vs.length
  | [], _, _, h => by rw [h.1]; rfl
  | (_, _) :: _, _, _, ⟨_, _, _, _, e, _, t, _⟩ => by subst e; simp [NAtF.length t]
theorem NAtF.data : ∀ {fs : List (Nat × OT)} {vs : List (Str × V)} {fp : List Addr} {n : Nat} {d : D}, (∀ k, ca.n k = ca.n n → k = n) → NAtF K ca G H fs vs fp → fs.lookup n = Option.some (.d d) → ∃ v, vs.lookup (ca.n n) = Option.some v ∧ At K ca G d v
  | [], _, _, _, _, _, _, e => by simp at e
  | (k, d0) :: ds, _, _, n, d, i, ⟨v, r, f1, f2, e, h, t, z⟩, q => by
    subst e
    rw [List.lookup_cons] at q ⊢
    by_cases y : n = k
    · subst y; rw [beq_self_eq_true] at q ⊢; cases q; exact ⟨v, rfl, h.1⟩
    · rw [beq_eq_false_iff_ne.mpr y] at q
      rw [beq_eq_false_iff_ne.mpr fun x => y (i k x.symm).symm]
      exact NAtF.data i t q
def putT (f : Nat) (d : OT) : List (Nat × OT) → List (Nat × OT)
  | [] => [(f, d)]
  | (g, x) :: r => if g = f then (g, d) :: r else (g, x) :: putT f d r
theorem NAtF.put {n : Nat} {d : D} {w : V} (i : ∀ k, ca.n k = ca.n n → k = n) (hw : At K ca G d w) : ∀ {fs : List (Nat × OT)} {vs : List (Str × V)} {fp : List Addr}, NAtF K ca G H fs vs fp → ∃ fp', (∀ b ∈ fp', b ∈ fp) ∧ (fp.Nodup → fp'.Nodup) ∧ NAtF K ca G H (putT n (.d d) fs) (putF (ca.n n) w vs) fp'
  | [], vs, fp, ⟨e, z⟩ => by subst e z; exact ⟨[], fun b m => m, id, w, [], [], [], rfl, ⟨hw, rfl⟩, ⟨rfl, rfl⟩, rfl⟩
  | (k, x) :: xs, vs, fp, ⟨v, r, g1, g2, e, h1, t1, z⟩ => by
    subst e z
    unfold putT putF
    by_cases y : k = n
    · subst y
      rw [if_pos rfl, if_pos rfl]
      exact ⟨g2, fun b m => List.mem_append_right _ m, fun nd => (List.nodup_append.mp nd).2.1, w, r, [], g2, rfl, ⟨hw, rfl⟩, t1, rfl⟩
    · rw [if_neg y, if_neg fun z => y (i k z)]
      obtain ⟨fp', e1, e2, e3⟩ := NAtF.put i hw t1
      refine ⟨g1 ++ fp', fun b m => ?_, fun nd => ?_, v, _, g1, fp', rfl, h1, e3, rfl⟩
      · rcases List.mem_append.mp m with m | m
        · exact List.mem_append_left _ m
        · exact List.mem_append_right _ (e1 b m)
      · rw [List.nodup_append] at nd ⊢
        exact ⟨nd.1, e2 nd.2.1, fun b m c m' => nd.2.2 b m c (e1 c m')⟩
theorem Rel.retree (r : Rel K ca B G H σ ρ) {FP : Nat → List Addr} (n : NstAll K ca B G H σ ρ FP) (i : Nat) {t' : OT} {fp' : List Addr} {v : V} (hv : σ[i]? = some (some v)) (ht : NAt K ca G H' t' v fp') (nd : fp'.Nodup)
    (hb : ∀ b ∈ fp', G b = none ∧ B b = none ∧ (∀ (j : Nat) (s : Sl), j ≠ i → ρ[j]? = some s → s.own = true → σ[j]? ≠ some (some (.ref b))) ∧ ∀ (j : Nat) (t : OT), j ≠ i → ρ[j]? = some (.tr t) → b ∉ FP j)
    (h1 : ∀ (j : Nat) (s : Sl) (b : Addr), j ≠ i → ρ[j]? = some s → s.own = true → σ[j]? = some (some (.ref b)) → H' b = H b) (h2 : ∀ (j : Nat) (t : OT) (b : Addr), j ≠ i → ρ[j]? = some (.tr t) → b ∈ FP j → H' b = H b) : Rel K ca B G H' σ (ρ.set i (.tr t')) := by
  have old : ∀ {j : Nat} {s : Sl}, (ρ.set i (.tr t'))[j]? = some s → (j = i ∧ s = .tr t') ∨ (j ≠ i ∧ ρ[j]? = some s) := fun {j s} q => getElem?_set' q
  refine ⟨by rw [List.length_set]; exact r.len, fun j d q => ?_, fun j s q o => ?_, fun j k s t b q o q' o' x y => ?_, fun j x q => ?_, fun j => if j = i then fp' else FP j, ?_⟩
  · rcases old q with ⟨_, z⟩ | ⟨_, q⟩
    · cases z
    · exact r.val j d q
  · rcases old q with ⟨_, z⟩ | ⟨ne, q⟩
    · rw [z] at o; cases o
    · obtain ⟨b, e1, e2, e3⟩ := r.own j s q o
      exact ⟨b, e1, e2.ext (.refl _) (h1 j s b ne q o e1), e3⟩
  · rcases old q with ⟨_, z⟩ | ⟨_, q⟩
    · rw [z] at o; cases o
    · rcases old q' with ⟨_, z⟩ | ⟨_, q'⟩
      · rw [z] at o'; cases o'
      · exact r.sep j k s t b q o q' o' x y
  · rcases old q with ⟨_, z⟩ | ⟨_, q⟩
    · cases z
    · exact r.exc j x q
  · have fpe : ∀ {j : Nat}, j ≠ i → (if j = i then fp' else FP j) = FP j := fun h => if_neg h
    refine ⟨fun j t q => ?_, fun j t q => ?_, fun j t q b m => ?_, fun j t q b m k s q' o' => ?_, fun j k t u ne q q' b m => ?_⟩
    · rcases old q with ⟨rfl, z⟩ | ⟨ne, q⟩
      · cases z; exact ⟨v, hv, by rw [if_pos rfl]; exact ht⟩
      · obtain ⟨w, e1, e2⟩ := n.at_ j t q
        exact ⟨w, e1, by rw [fpe ne]; exact e2.ext (.refl _) fun b m => h2 j t b ne q m⟩
    · rcases old q with ⟨rfl, z⟩ | ⟨ne, q⟩
      · rw [if_pos rfl]; exact nd
      · rw [fpe ne]; exact n.nd j t q
    · rcases old q with ⟨rfl, z⟩ | ⟨ne, q⟩
      · rw [if_pos rfl] at m; exact ⟨(hb b m).1, (hb b m).2.1⟩
      · rw [fpe ne] at m; exact n.fr j t q b m
    · rcases old q' with ⟨_, z⟩ | ⟨ne', q2⟩
      · rw [z] at o'; cases o'
      · rcases old q with ⟨e, z⟩ | ⟨ne, q3⟩
        · rw [if_pos e] at m
          exact (hb b m).2.2.1 k s ne' q2 o'
        · rw [fpe ne] at m; exact n.ow j t q3 b m k s q2 o'
    · rcases old q with ⟨e, z⟩ | ⟨nj, q2⟩
      · rw [if_pos e] at m
        rcases old q' with ⟨e', z'⟩ | ⟨nk, q3⟩
        · exact (ne (e.trans e'.symm)).elim
        · rw [fpe nk]; exact (hb b m).2.2.2 k u nk q3
      · rw [fpe nj] at m
        rcases old q' with ⟨e', z'⟩ | ⟨nk, q3⟩
        · rw [if_pos e']; exact fun m' => (hb b m').2.2.2 j t nj q2 m
        · rw [fpe nk]; exact n.sp j k t u ne q2 q3 b m
end
end Tk
set_option maxHeartbeats 4000000
namespace Tk
open PySem PySem.Spec L2 PyProof.Rows
def toT : Sl → Option OT
  | .l xs => some (.l (lfL xs))
  | .k xs => some (.k (lfK xs))
  | .t xs => some (.t (lfT xs))
  | .o g c fs => some (.o g c (lfF fs))
  | _ => none
theorem toT_at {K : PySem.W.Frag} {ca : Cn} {G H : Hp} {a : Addr} {s : Sl} {t : OT} (h : Own K ca G H a s) (e : toT s = some t) : NAt K ca G H t (.ref a) [a] := by
  cases s with
  | no => exact h.elim
  | x _ => exact h.elim
  | tr _ => exact h.elim
  | v d => exact h.elim
  | l xs => cases e; obtain ⟨vs, h1, h2⟩ := h; exact ⟨a, vs, [], rfl, h1, NAtL.lf.mpr ⟨h2, rfl⟩, rfl⟩
  | k xs => cases e; obtain ⟨vs, h1, h2⟩ := h; exact ⟨a, vs, [], rfl, h1, NAtK.lf.mpr ⟨h2, rfl⟩, rfl⟩
  | t xs => cases e; obtain ⟨vs, h1, h2⟩ := h; exact ⟨a, vs, [], rfl, h1, NAtT.lf.mpr ⟨h2, rfl⟩, rfl⟩
  | o g c fs => cases e; obtain ⟨C, dx, vs, hg, h0, h1, h2⟩ := h; exact ⟨a, C, dx, vs, [], rfl, hg, h0, h1, NAtF.lf.mpr ⟨h2, rfl⟩, rfl⟩
section
variable {X : Cx} {ca : Cn} {W : WX} {e ei : Expr} {fe fi : Ev → R D} {fn : Ev → R Sl} {st : Stmt} {g : Ev → SO} {pos p pa py pos' : Pos} {i f : Nat} {y nm : Str} {cs : List Nat}
end
end Tk
namespace Tk
open PySem PySem.Spec L2 PyProof.Rows
variable {X : Cx} {ca : Cn}
end Tk
namespace Tk
open PySem PySem.Spec L2 PyProof.Rows
section
variable {X : Cx} {ca : Cn} {W : WX} {e : Expr} {es : List Expr} {f : Ev → R Sl} {fl fa : Ev → R (List D)} {pos p : Pos}
end
end Tk
set_option maxHeartbeats 4000000
namespace Tk
open PySem PySem.W PySem.Calls PyProof.Rows
section
variable {prog : Program} {w : World} {A : Around} {E : Value → Shared → Prop} {hh : Heap} {g : Array GenState} {d : Drawn} {t : Nat} {os : OsState}
theorem es_node {body : List Stmt} {q : Str} {scope : Scope} {p0 p1 : Pos} {attr : Str} {whole : Sem Value} {fd : FuncData} {ar : Arg} {vs : Array Value} {file : Str} {tf : Tok} {of oc oD ox : Obj} {cdD : ClassData} {L f cda cc x C D : Addr} {m mg mb : Str → Option Value} {Q : Value → Shared → Prop}
    (hf : hh.get? f = some of) (hfd : of.data = .func fd) (hp : (fd.params.posonlyargs ++ fd.params.args).head? = some ar) (hL : hh.Ns L m) (hv : m ar.arg = some (.ref x)) (hx : hh.get? x = some ox) (hxc : ox.cls = .ref C) (hnc : ∀ c, ox.data ≠ .cls c)
    (hcode : hh.get? cda = some oc) (hoc : oc.data = .fields vs) (hvs : vs[2]? = some (.str file tf)) (hfile : ((prog.main.file : Str) == file) = true) (hcell : hh.IsCell cc (some (.ref D))) (hD : hh.get? D = some oD) (hDd : oD.data = .cls cdD) (hsub : Looks (model prog w) hh (isSubtype (.ref C) (.ref D)) true)
    (hG : hh.Ns mainGlobals mg) (hmg : mg "super" = none) (hB : hh.Ns builtinsNs mb) (hmb : mb "super" = some (.type "super"))
    (hat : (attr == ("__class__" : Str)) = false) (hks : scope.names.lookup ("super" : Str) = some .globalImplicit) (hkc : scope.names.lookup ("__class__" : Str) = some .free) (hka : scope.names.lookup ar.arg = some .local) (hk : scope.kind = .function)
    (htop : (prog.main.scope.names.lookup ("super" : Str)).isSome = false)
    (h : ∀ h', h'.get? hh.objs.size = some (ks_superObj D x C) → (∀ y o, hh.get? y = some o → h'.get? y = some o) → Q (.ref hh.objs.size) ⟨h', g, d, t, os⟩) :
    _root_.PySem.wpAt (model prog w) A (.func body (ksEnv q scope L f (.ref cda) cc)) (attributeBase (.Call (.Name "super" p0) [] [] p1) attr (ksEnv q scope L f (.ref cda) cc) whole) Q E ⟨hh, g, d, t, os⟩ := by
  refine ks_wpAt_super_base (env := ksEnv q scope L f (.ref cda) cc) hks hkc hat rfl hf hfd hp rfl hcode hoc hvs hfile htop ?_
  refine ks_loadName_global hk hks (loadGlobal_builtin (env := ksEnv q scope L f (.ref cda) cc) hG hmg hB hmb ⟨rfl, ?_⟩)
  refine wpAny_loadName_free hk hkc rfl hcell ?_
  refine wpAny_loadName_local hk hka hL hv ?_
  refine ks_wpAny_isType_cls hD hDd ⟨rfl, ?_⟩
  exact ks_wpAny_call_super hD hDd hx hxc hnc hsub h
end
open PySem.Spec L2
section
variable {P : Program} {w : World} {K : Frag} {mg : Str → Option Value} {base : Heap} {C fI : Addr} {fd : FuncData} {qual : Str} {params : Arguments} {body rest : List Stmt} {scope : Scope} {A : Around}
end
end Tk
set_option maxHeartbeats 4000000
namespace Tk
open PySem PySem.W PySem.Calls PyProof.Rows PySem.Spec L2
section
variable {P : Program} {w : World} {K : Frag} {mg : Str → Option Value} {base : Heap} {C fI : Addr} {fd : FuncData} {qual : Str} {params : Arguments} {body rest : List Stmt} {scope : Scope} {A : Around}
end
end Tk
set_option maxHeartbeats 4000000
namespace Tk
open PySem PySem.Spec L2 PyProof.Rows
section
variable {X : Cx} {ca : Cn} {W : WX} {j c f1 f2 : Nat} {x : Str} {p pos pos' : Pos} {e e2 : Expr} {fa fb : Ev → R D}
end
end Tk
set_option maxHeartbeats 4000000
namespace Tk
open PySem PySem.Spec L2 PyProof.Rows
section
variable {K : PySem.W.Frag} {ca cb : Cn} {G H : Hp}
mutual
theorem At.cn (ea : ca.a = cb.a) (en : ca.n = cb.n) : ∀ {d : D} {v : V}, At K ca G d v → At K cb G d v
  | .non, v, h => h
  | .bl _, v, h => h
  | .int _, v, h => h
  | .str _, v, h => h
  | .ty _, v, h => h
  | .cl _, v, ⟨C, h, e⟩ => ⟨C, by rw [← ea]; exact h, e⟩
  | .scr ns, v, h => h
  | .lst xs, v, ⟨a, vs, e, h, r⟩ => ⟨a, vs, e, h, AtL.cn ea en r⟩
  | .tup xs, v, ⟨a, vs, e, h, r⟩ => ⟨a, vs, e, h, AtL.cn ea en r⟩
  | .tpz xs, v, ⟨a, o, vs, e, q, h, r⟩ => ⟨a, o, vs, e, q, h, AtL.cn ea en r⟩
  | .tp0, v, h => h
  | .dK xs, v, ⟨a, vs, e, h, r⟩ => ⟨a, vs, e, h, AtK.cn ea en r⟩
  | .dT xs, v, ⟨a, vs, e, h, r⟩ => ⟨a, vs, e, h, AtT.cn ea en r⟩
  | .zK xs, v, ⟨a, o, vs, e, h, r⟩ => ⟨a, o, vs, e, h, AtK.cn ea en r⟩
  | .zT xs, v, ⟨a, o, vs, e, h, r⟩ => ⟨a, o, vs, e, h, AtT.cn ea en r⟩
  | .ins c xs, v, ⟨a, C, dx, vs, e, q, h, r⟩ => ⟨a, C, dx, vs, e, by rw [← ea]; exact q, h, AtF.cn ea en r⟩
theorem AtL.cn (ea : ca.a = cb.a) (en : ca.n = cb.n) : ∀ {ds : List D} {vs : List V}, AtL K ca G ds vs → AtL K cb G ds vs
  | [], _, h => h
  | _ :: _, _, ⟨v, r, e, h, t⟩ => ⟨v, r, e, At.cn ea en h, AtL.cn ea en t⟩
theorem AtK.cn (ea : ca.a = cb.a) (en : ca.n = cb.n) : ∀ {ds : List (Key × D)} {vs : List (Key × V)}, AtK K ca G ds vs → AtK K cb G ds vs
  | [], _, h => h
  | (_, _) :: _, _, ⟨v, r, e, h, t⟩ => ⟨v, r, e, At.cn ea en h, AtK.cn ea en t⟩
theorem AtT.cn (ea : ca.a = cb.a) (en : ca.n = cb.n) : ∀ {ds : List (List Key × D)} {vs : List (List Key × V)}, AtT K ca G ds vs → AtT K cb G ds vs
  | [], _, h => h
  | (_, _) :: _, _, ⟨v, r, e, h, t⟩ => ⟨v, r, e, At.cn ea en h, AtT.cn ea en t⟩
theorem AtF.cn (ea : ca.a = cb.a) (en : ca.n = cb.n) : ∀ {ds : List (Nat × D)} {vs : List (Str × V)}, AtF K ca G ds vs → AtF K cb G ds vs
  | [], _, h => h
  | (k, _) :: _, _, ⟨v, r, e, h, t⟩ => ⟨v, r, by rw [← en]; exact e, At.cn ea en h, AtF.cn ea en t⟩
end
theorem ExAt.cn (ea : ca.a = cb.a) (en : ca.n = cb.n) {x : Ex} {c : Value} {dx : Option Addr} : ExAt K ca G x c dx → ExAt K cb G x c dx
  | ⟨C, h1, h2, h3⟩ => ⟨C, by rw [← ea]; exact h1, h2, h3.elim .inl fun ⟨d, vs, e1, e2, e3⟩ => .inr ⟨d, vs, e1, e2, AtF.cn ea en e3⟩⟩
theorem Own.cn (ea : ca.a = cb.a) (en : ca.n = cb.n) {a : Addr} {s : Sl} (h : Own K ca G H a s) : Own K cb G H a s := by
  cases s with
  | no => exact h
  | x _ => exact h
  | tr _ => exact h
  | v d => exact h
  | l xs => obtain ⟨vs, h1, h2⟩ := h; exact ⟨vs, h1, AtL.cn ea en h2⟩
  | k xs => obtain ⟨vs, h1, h2⟩ := h; exact ⟨vs, h1, AtK.cn ea en h2⟩
  | t xs => obtain ⟨vs, h1, h2⟩ := h; exact ⟨vs, h1, AtT.cn ea en h2⟩
  | o g c fs => obtain ⟨C, dx, vs, hg, h0, h1, h2⟩ := h; exact ⟨C, dx, vs, hg, by rw [← ea]; exact h0, h1, AtF.cn ea en h2⟩
end
section
variable {K : PySem.W.Frag} {ca : Cn} {B G H : Hp} {σ : L2.St} {ρ : Ev} {a : Addr} {cls : Value} {d : Option Addr}
end
abbrev Hnd := Value × Option Nat × (Addr → Value → Option Addr → TS)
section
variable {X : Cx} {body : List Stmt} {h₀ : ExceptHandler} {hds : List ExceptHandler} {l : List Hnd} {pos : Pos} {tb : WX → TS} {Wout : WX}
end
end Tk
set_option maxHeartbeats 4000000
namespace Tk
open PySem PySem.Spec L2 PyProof.Rows
abbrev Hn := List (Nat × Bool) × Option Nat × (Ev → SO)
section
variable {K : PySem.W.Frag} {ca : Cn} {B G : Hp} {a : Addr} {cls : Value} {d : Option Addr}
end
section
variable {X : Cx} {ca : Cn} {W : WX}
end
section
variable {X : Cx} {ca : Cn} {W : WX} {a : Addr} {oe : Obj} {cls : Value} {d : Option Addr} {pn : List (Addr × Obj)} {i f : Nat} {cs : List Nat} {y nm z : Str} {p1 p2 p pos : Pos} {c : Expr} {fb : Ev → R D} {tab : List (Nat × List (Kd × Bool))}
end
end Tk
set_option maxHeartbeats 4000000
namespace Tk
open PySem PySem.Spec L2 PyProof.Rows
abbrev FnE : Type := Option (Str × Str × Arguments × FuncBody × Scope × Addr × List Str × Addr)
structure ErD where
  x : Str
  qual : Str
  st : Stmt
def ErD.val (d : ErD) : FnE := some ("__init__", d.qual, defArgs d.st, .stmts (defBody d.st), defScope d.st, mainGlobals, ["__class__"], builtinsNs)
section
variable {fa : List He.Fa} {fn : List He.DefD} {ex : PySem.W.Frag → Bool} {fw : List He5.DefA} {er : List ErD} {K : PySem.W.Frag} {mg : Str → Option Value}
end
section
variable {P : Program} {w : World} {K : PySem.W.Frag} {mg : Str → Option Value} {base : Heap} {ca : Cn} {x qual self par par2 n1 n2 text : Str} {st : Stmt} {fd : FuncData} {c f1 f2 : Nat} {p0 p1 p2 p3 p4 p5 p6 p7 p8 p9 p10 p11 p12 p13 : Pos} {j : Nat} {ar : Arg}
end
end Tk
set_option maxHeartbeats 4000000
namespace Tk
open PySem PySem.Spec L2 PyProof.Rows
end Tk
set_option maxHeartbeats 4000000
namespace Tk
open PySem PySem.W PySem.Calls PyProof.Rows PySem.Spec L2 NdefX
structure SuF (P : Program) (K : Frag) (D fI : Addr) (F : NF) (fd : FuncData) (cc : Addr) : Prop where
  fd_ : ∃ (dV kV doc pm : Value) (an : Option Addr) (ct : Value), fd = ksFn F.name F.qual F.params F.body F.scope dV kV doc pm an (.ref F.c) ct cc
  lk : ∃ (oc : Value) (od : Option Addr) (osl : Array (Option Value)), K.lookup fI = some ⟨oc, od, .func fd, osl⟩
  hcd : codeIn K (.ref F.c) F.qual = true
  lc : ∃ (vs : Array Value) (file : Str) (tf : Tok) (ccl : Value) (cdd : Option Addr) (ccs : Array (Option Value)), K.lookup F.c = some ⟨ccl, cdd, .fields vs, ccs⟩ ∧ vs[2]? = some (.str file tf) ∧ ((P.main.file : Str) == file) = true
  cl : F.cl = [(("__class__" : Str), cc)]
  cell : ∃ (a : Value) (b : Option Addr) (c : Array (Option Value)), K.lookup cc = some ⟨a, b, .cell (some (.ref D)), c⟩
  clD : ∃ (oD : Obj) (cdD : ClassData), K.lookup D = some oD ∧ oD.data = .cls cdD
  opq : nsIn K cStatics "thirdparty.any" = some none
  top : (P.main.scope.names.lookup ("super" : Str)).isSome = false
structure SuS (sc : Scope) (slf : Str) : Prop where
  ks : sc.names.lookup ("super" : Str) = some .globalImplicit
  kc : sc.names.lookup ("__class__" : Str) = some .free
  ka : sc.names.lookup slf = some .local
  k : sc.kind = .function
theorem su_methodCallK {M : Model} {A : Around} {c : Code} {E : Value → Shared → Prop} {s : Shared} {env : Env} {o : Expr} {name : Str} {apos pos : Pos} {args : List Expr} {kws : List Keyword} {pl : Sem Bool} {Q : Value → Shared → Prop}
    (h : _root_.PySem.wpAt M A c (attributeBase o name env (eval o env)) (fun ov s1 => wpAny M A (getMethod ov name pl) (fun fx s2 => wpAny M A (callWith pos fx.1 fx.2 (backTo pos (starEach args env)) (backToKw pos (keywordEach kws env))) Q E s2) E s1) E s)
    (he : eval (.Call (.Attribute o name apos) args kws pos) env = (do
      let ov ← attributeBase o name env (eval o env)
      standAt apos.atName
      let (f, first) ← holding [ov] (getMethod ov name pl)
      callWith pos f first (backTo pos (starEach args env)) (backToKw pos (keywordEach kws env)))) :
    _root_.PySem.wpAt M A c (eval (.Call (.Attribute o name apos) args kws pos) env) Q E s := by
  rw [he]
  apply _root_.PySem.wpAt_bind
  refine ks_wpAt_mono h (fun ov s1 h1 => ?_) fun _ _ z => z
  apply _root_.PySem.wpAt_of_wpAny
  exact wpAny_bind (wpAny_standAt (wpAny_bind (wpAny_holding (wpAny_mono h1 (fun fx s2 h2 => h2) fun _ _ z => z))))
section
variable {P : Program} {w : World} {K : Frag} {mg : Str → Option Value} {base : Heap} {D fI cc : Addr} {F : NF} {fd : FuncData} {N : List Str} {A : Around} {outer : List Env} {s0 : Shared} {H0 : Hp} {E0 : XK}
theorem pin_one {X : Cx} {σ : L2.St} {H : Hp} {s : Shared} {b : Addr} {o : Obj} (I : Inv X [] σ H s) (hf : FpOk X [] H b) (e : s.heap.get? b = some o) (n : ∀ v, o.data ≠ .cell v) : Inv X [(b, o)] σ H s := by
  have I2 := I.pinned (fp := [b]) (fun c m => by rw [List.mem_singleton.mp m]; exact hf) (fun c m => by rw [List.mem_singleton.mp m]; exact ⟨o, e, n⟩)
  have q : pinsAt [b] s.heap = [(b, o)] := by
    unfold pinsAt
    simp [e]
  rw [q] at I2
  exact I2
theorem su_ask {σ : L2.St} {H : Hp} {s : Shared} {self m : Str} {x C dx fB : Addr} {fs : List (Str × V)} {ar : Arg} {p0 p1 p2 p4 : Pos} {es : List Expr} {kws : List Keyword} {pl : Sem Bool} {Q : Value → Shared → Prop} {E : Value → Shared → Prop}
    (S : SuF P K D fI F fd cc) (Z : SuS F.scope self) (hmg : mg "super" = none) (hp : (F.params.posonlyargs ++ F.params.args).head? = some ar) (har : ar.arg = self)
    (I : Inv (ncx (L2.CX P w) P w K mg base N F fI A outer s0 H0 E0) [] σ H s) (hN : N[0]? = some self) (hσ : σ[0]? = some (some (.ref x))) (hx : H x = some (.ins C dx fs))
    (sub : mroIn K C (.ref D) = some true) (sup : ks_superIn K C D m = some (some (.ref fB))) (tB : typeIn K (.ref fB) = some (.type "function")) (hm1 : (m == ("__class__" : Str)) = false)
    (he : eval (.Call (.Attribute (.Call (.Name "super" p0) [] [] p1) m p2) es kws p4) (envF F fI s0.heap.objs.size) = (do
      let ov ← attributeBase (.Call (.Name "super" p0) [] [] p1) m (envF F fI s0.heap.objs.size) (eval (.Call (.Name "super" p0) [] [] p1) (envF F fI s0.heap.objs.size))
      standAt p2.atName
      let (fn, first) ← holding [ov] (getMethod ov m pl)
      callWith p4 fn first (backTo p4 (starEach es (envF F fI s0.heap.objs.size))) (backToKw p4 (keywordEach kws (envF F fI s0.heap.objs.size)))))
    (h : ∀ mA s', Inv (ncx (L2.CX P w) P w K mg base N F fI A outer s0 H0 E0) [(mA, methodObj (.ref fB) (.ref x))] σ H s' → wpAny (model P w) (A.deeper (envF F fI s0.heap.objs.size)) (callWith p4 (.ref mA) [] (backTo p4 (starEach es (envF F fI s0.heap.objs.size))) (backToKw p4 (keywordEach kws (envF F fI s0.heap.objs.size)))) Q E s') :
    _root_.PySem.wpAt (model P w) (A.deeper (envF F fI s0.heap.objs.size)) (.func F.body (envF F fI s0.heap.objs.size)) (eval (.Call (.Attribute (.Call (.Name "super" p0) [] [] p1) m p2) es kws p4) (envF F fI s0.heap.objs.size)) Q E s := by
  have ee : envF F fI s0.heap.objs.size = ksEnv F.qual F.scope s0.heap.objs.size fI (.ref F.c) cc := by
    show PySem.W.envX F.qual F.scope s0.heap.objs.size fI (.ref F.c) F.cl = _
    rw [S.cl]
  have kb : ∀ b o, base.get? b = some o → s.heap.get? b = some o := I.bk
  have X1 : K.In s.heap := I.kIn
  obtain ⟨dV, kV, doc, pm, an, ct, rfl⟩ := S.fd_
  obtain ⟨oc, od, osl, lk⟩ := S.lk
  obtain ⟨vs, file, tf, ccl, cdd, ccs, lc, hvs, hfile⟩ := S.lc
  obtain ⟨c1, c2, c3, lcc⟩ := S.cell
  obtain ⟨oD, cdD, lD, hDd⟩ := S.clD
  obtain ⟨mA, Jm, _⟩ := ins_get I.hok hx
  obtain ⟨oI, J, hJ⟩ := Jm.look
  obtain ⟨ox, hox, hoc, hnc⟩ : ∃ ox, s.heap.get? x = some ox ∧ ox.cls = .ref C ∧ ∀ c, ox.data ≠ .cls c := by
    obtain ⟨e1, e2, e3, e4⟩ := J
    exact ⟨_, e1, e2, fun c z => nomatch z⟩
  obtain ⟨ml, hns, hloc⟩ := I.loc
  have hv : ml self = some (.ref x) := by
    obtain ⟨u, ru, lk⟩ := hloc 0 self (.ref x) hN hσ (.inl Z.ka)
    cases ru
    rcases lk with ⟨_, q⟩ | ⟨q, _⟩
    · exact q
    · exfalso
      have q : F.scope.names.lookup self = some .cell ∨ F.scope.names.lookup self = some .free := q
      rw [Z.ka] at q
      rcases q with q | q <;> cases q
  obtain ⟨mb, hB, hmb⟩ := I.mod.blt
  have cell0 : s.heap.IsCell cc (some (.ref D)) := ⟨_, X1 _ _ lcc, rfl⟩
  refine su_methodCallK (pl := pl) ?_ he
  rw [ee]
  obtain ⟨hh, g, d, t, os⟩ := s
  refine es_node (X1 _ _ lk) rfl hp hns (by rw [har]; exact hv) hox hoc hnc (X1 _ _ lc) rfl hvs hfile cell0 (X1 _ _ lD) hDd (looks_mroIn X1 sub) (I.mod.glob.keeps kb) hmg (hB.keeps kb) ((hmb _ (by decide)).trans PyProof.Rows.Boot.«super») hm1 Z.ks Z.kc (by rw [har]; exact Z.ka) Z.k S.top fun h2 hso k2 => ?_
  have X2 : K.In h2 := X1.keeps k2
  cases hcl : clsIn K C with
  | none => unfold ks_superIn at sup; rw [hcl] at sup; cases sup
  | some cdC =>
    unfold ks_superIn at sup
    rw [hcl] at sup
    obtain ⟨of, hof, hofc⟩ : ∃ of, K.lookup fB = some of ∧ of.cls = .type "function" := by
      have ht' : (K.lookup fB).map (·.cls) = some (.type "function") := tB
      cases z : K.lookup fB with
      | none => rw [z] at ht'; cases ht'
      | some of => rw [z] at ht'; exact ⟨of, rfl, Option.some.inj ht'⟩
    refine ks_wpAny_getMethod_super hso (looks_opaque X2 S.opq) (l₀ := cdC.mro) (fun A Q E s k q => wpAny_bind ((looks_clsIn X2 hcl) A _ E s k (wpAny_pure q))) rfl X2 sup (X2 _ _ hof) hofc (ks_ne X1 J hcl) hm1 ?_
    rw [← ee]
    have kp : ∀ b o, hh.get? b = some o → (h2.push (methodObj (.ref fB) (.ref x))).get? b = some o := fun b o e => Heap.get?_push_of_some _ (k2 b o e)
    have I2 := I.kept (t' := t + 1) kp
    have lay : (h2.push (methodObj (.ref fB) (.ref x))).get? h2.objs.size = some (methodObj (.ref fB) (.ref x)) := Heap.get?_push_at rfl rfl
    have big : hh.objs.size ≤ h2.objs.size := Nat.le_of_lt (Nat.lt_of_le_of_lt (Nat.le_refl _) (Heap.lt_size hso))
    exact h h2.objs.size _ (pin_one I2 (I.fpOk (H' := H) big (I.hok.fresh big)) lay fun v z => nomatch z)
end
end Tk
set_option maxHeartbeats 4000000
namespace Tk
open PySem PySem.W PySem.Calls PyProof.Rows PySem.Spec L2 NdefX
section
variable {P : Program} {w : World} {K : Frag} {mg : Str → Option Value} {base : Heap} {D fI cc : Addr} {F : NF} {fd : FuncData} {N : List Str} {A : Around} {outer : List Env} {s0 : Shared} {H0 : Hp} {E0 : XK}
theorem su_call {W : WX} {σ : L2.St} {H : Hp} {s : Shared} {self m : Str} {x C dx fB : Addr} {fs : List (Str × V)} {ar : Arg} {p0 p1 p2 p4 : Pos} {e : Expr} {es : List Expr} {kws : List Keyword} {pl : Sem Bool} {Q : VK} {t u : TA} {k n : Nat} {fdB : FuncData} {psB ks : List Str} {sp : Sp} {g : List Value → List Value → List Value} {gV : List V → List V → List V}
    (S : SuF P K D fI F fd cc) (Z : SuS F.scope self) (hmg : mg "super" = none) (hp : (F.params.posonlyargs ++ F.params.args).head? = some ar) (har : ar.arg = self)
    (I : Inv (ncx (L2.CX P w) P w K mg base N F fI A outer s0 H0 E0) [] σ H s) (hN : N[0]? = some self) (hσ : σ[0]? = some (some (.ref x))) (hx : H x = some (.ins C dx fs))
    (sub : mroIn K C (.ref D) = some true) (sup : ks_superIn K C D m = some (some (.ref fB))) (tB : typeIn K (.ref fB) = some (.type "function")) (hm1 : (m == ("__class__" : Str)) = false) (hf : fnIn K fB = true)
    (hev : eval (.Call (.Attribute (.Call (.Name "super" p0) [] [] p1) m p2) (e :: es) kws p4) (envF F fI s0.heap.objs.size) = (do
      let ov ← attributeBase (.Call (.Name "super" p0) [] [] p1) m (envF F fI s0.heap.objs.size) (eval (.Call (.Name "super" p0) [] [] p1) (envF F fI s0.heap.objs.size))
      standAt p2.atName
      let (fn, first) ← holding [ov] (getMethod ov m pl)
      callWith p4 fn first (backTo p4 (starEach (e :: es) (envF F fI s0.heap.objs.size))) (backToKw p4 (keywordEach kws (envF F fI s0.heap.objs.size)))))
    (FB : FnOk P w K mg base (L2.CX P w) k fB fdB psB sp) (hr : Room k (A.deeper (envF F fI s0.heap.objs.size))) (hb : KBn K fdB psB (n + 1) ks g gV) (tk : Takes (ncx (L2.CX P w) P w K mg base N F fI A outer s0 H0 E0) W)
    (pa : PA (ncx (L2.CX P w) P w K mg base N F fI A outer s0 H0 E0) (e :: es) t) (pk : PK (ncx (L2.CX P w) P w K mg base N F fI A outer s0 H0 E0) kws u)
    (hall : (backToKw p4 (keywordEach kws (envF F fI s0.heap.objs.size))).all (·.1.isSome) = true) (hks : (backToKw p4 (keywordEach kws (envF F fI s0.heap.objs.size))).filterMap (·.1) = ks)
    (he : starEach (e :: es) (envF F fI s0.heap.objs.size) = (false, eval e (envF F fI s0.heap.objs.size)) :: starEach es (envF F fI s0.heap.objs.size))
    (hpl : ((backTo p4 (starEach (e :: es) (envF F fI s0.heap.objs.size))).any (·.1) || (backToKw p4 (keywordEach kws (envF F fI s0.heap.objs.size))).any (·.1.isNone)) = false)
    (q : t σ H fun vs H1 => u σ H1 fun zs H2 => vs.length = n ∧ zs.length = ks.length ∧ sp (gV (.ref x :: vs) zs) H2 Q (WE W σ)) :
    _root_.PySem.wpAt (model P w) (A.deeper (envF F fI s0.heap.objs.size)) (.func F.body (envF F fI s0.heap.objs.size)) (eval (.Call (.Attribute (.Call (.Name "super" p0) [] [] p1) m p2) (e :: es) kws p4) (envF F fI s0.heap.objs.size)) (EP (ncx (L2.CX P w) P w K mg base N F fI A outer s0 H0 E0) [] σ Q) (ncx (L2.CX P w) P w K mg base N F fI A outer s0 H0 E0).xe s := by
  refine su_ask S Z hmg hp har I hN hσ hx sub sup tB hm1 hev fun mA s' J => ?_
  refine callWith_of (P := MethP K mA fB (.ref x)) hpl (keeps_M hf) (evalArgs_kw2 hall (thn (pa.run p4 _ s' σ H _ J q) fun us s1 ⟨vs, H1, I1, r1, q1⟩ => ?_) he)
  refine thn (pk.run p4 _ s1 σ H1 _ I1 q1) fun ws s2 ⟨zs, H2, I2, r2, l1, l2, q2⟩ => ?_
  have pm := (I2.pin (mA, methodObj (.ref fB) (.ref x)) (List.mem_append_right _ (List.mem_singleton.mpr rfl))).1
  have I3 : Inv (ncx (L2.CX P w) P w K mg base N F fI A outer s0 H0 E0) [] σ H2 s2 := Inv.unpinned (pins := []) (pl := [(mA, methodObj (.ref fB) (.ref x))]) I2
  refine ⟨⟨pm, I2.kIn⟩, ?_⟩
  rw [hks]
  have r3 := hb.rel (.cons (show RelV (.ref x) (.ref x) from rfl) r1) r2
  have e1 : (Value.ref x :: us).length = n + 1 := (congrArg Nat.succ (r1.length.symm.trans l1))
  have e2 : ws.length = ks.length := r2.length.symm.trans l2
  refine wpAny_call (ks_codeAny_call_bound pm (codeAny_mono (FB.run _ _ _ _ ⟨Value.ref x :: us, ks.zip ws⟩ (g (Value.ref x :: us) ws) _ Q (WE W σ) hr I3.env0 (hb.to _ (Value.ref x :: us) ws I3.kIn e1 e2) r3 q2) fun r s3 hq => ?_))
  cases r with
  | error e => exact passAt tk σ [] _ _ e s3 I3 hq
  | ok fl =>
    cases fl with
    | ret u => exact I3.after hq
    | next => exact False.elim hq
    | brk => exact False.elim hq
    | cont => exact False.elim hq
end
end Tk
set_option maxHeartbeats 4000000
namespace Tk
open PySem PySem.W PySem.Calls PyProof.Rows PySem.Spec L2 NdefX
def supK (c n m p : Nat) (F : Addr → List D → R (List (Nat × D))) (gD : List D → List D → List D) (ρ : Ev) (ds zs : List D) : SO :=
  match (ρ[(0 : Nat)]? : Option Sl) with
  | some (.o (some a) c' []) => if c' = c ∧ ds.length = n ∧ zs.length = m ∧ (gD ds zs).length + 1 = p then (match F a (gD ds zs) with | .ok fs => .nx (ρ.set 0 (.o (some a) c fs)) | .exc x => .ex x (ρ.set 0 .no) | .bad => .bad) else .bad
  | _ => .bad
def sSup (c n m p : Nat) (F : Addr → List D → R (List (Nat × D))) (gD : List D → List D → List D) (fa fk : Ev → R (List D)) : Ev → SO := fun ρ => SO.from ρ (fa ρ) fun ds => SO.from ρ (fk ρ) fun zs => supK c n m p F gD ρ ds zs
def runS (c cD n : Nat) (g0 g : Ev → SO) : Addr → List D → R (List (Nat × D)) := fun a ds => (sSq g0 g (startI a c n (ds ++ [.cl cD]))).outI a c
def woH (H : Hp) (a : Addr) : Hp := fun b => if b = a then none else H b
theorem woH_at (H : Hp) (a : Addr) : woH H a a = none := if_pos rfl
theorem woH_ne {H : Hp} {a b : Addr} (h : b ≠ a) : woH H a b = H b := if_neg h
section
variable {K : PySem.W.Frag} {ca : Cn} {B G H : Hp} {σ : L2.St} {ρ : Ev}
theorem Rel.gone (r : Rel K ca B G H σ ρ) (i : Nat) : Rel K ca B G H σ (ρ.set i .no) where
  len := by rw [List.length_set]; exact r.len
  val := fun j d e => by
    rcases getElem?_set' e with ⟨rfl, z⟩ | ⟨ne, q⟩
    · cases z
    · exact r.val j d q
  own := fun j s e o => by
    rcases getElem?_set' e with ⟨rfl, z⟩ | ⟨ne, q⟩
    · rw [z] at o; cases o
    · exact r.own j s q o
  sep := fun j k s t a e o e2 o2 => by
    rcases getElem?_set' e with ⟨rfl, z⟩ | ⟨ne, q⟩
    · rw [z] at o; cases o
    · rcases getElem?_set' e2 with ⟨rfl, z⟩ | ⟨ne2, q2⟩
      · rw [z] at o2; cases o2
      · exact r.sep j k s t a q o q2 o2
  exc := fun j x e => by
    rcases getElem?_set' e with ⟨rfl, z⟩ | ⟨ne, q⟩
    · cases z
    · exact r.exc j x q
  nst := by
    obtain ⟨FP, n⟩ := r.nst
    refine ⟨FP, n.step (fun j t q => ?_) (.refl _) fun b o hb nt gb bb ow => ⟨rfl, gb, fun j s' q os => ?_⟩⟩
    · rcases getElem?_set' q with ⟨rfl, z⟩ | ⟨ne, q⟩
      · cases z
      · exact ⟨q, rfl⟩
    · rcases getElem?_set' q with ⟨rfl, z⟩ | ⟨ne, q⟩
      · rw [z] at os; cases os
      · exact ow j s' q os
theorem Rel.goneW (r : Rel K ca B G H σ ρ) (i : Nat) {s : Sl} {a : Addr} (q : ρ[i]? = some s) (o : s.own = true) (ha : σ[i]? = some (some (.ref a))) : Rel K ca B G (Tk.woH H a) σ (ρ.set i .no) := by
  have r1 := r.gone i
  have hn : ∀ (j : Nat) (t : Sl), (ρ.set i .no)[j]? = some t → t.own = true → σ[j]? ≠ some (some (.ref a)) := fun j t w o' y => by
    rcases getElem?_set' w with ⟨rfl, z⟩ | ⟨ne, w⟩
    · rw [z] at o'; cases o'
    · exact ne (r.sep j i t s a w o' q o y ha)
  refine ⟨r1.len, r1.val, fun j t h ho => ?_, r1.sep, r1.exc, ?_⟩
  · obtain ⟨b, h1, h2, h3, h4⟩ := r1.own j t h ho
    exact ⟨b, h1, h2.ext (.refl _) (woH_ne fun z => hn j t h ho (by rw [← z]; exact h1)), h3, h4⟩
  · obtain ⟨FP, n⟩ := r.nst
    refine ⟨FP, n.step (fun j t w => ?_) (.refl _) fun b o' hb nt gb bb ow => ⟨woH_ne fun z => ow i s q o (by rw [z]; exact ha), gb, fun j t w os => ?_⟩⟩
    · rcases getElem?_set' w with ⟨rfl, z⟩ | ⟨ne, w⟩
      · cases z
      · exact ⟨w, rfl⟩
    · rcases getElem?_set' w with ⟨rfl, z⟩ | ⟨ne, w⟩
      · rw [z] at os; cases os
      · exact ow j t w os
end
section
variable {X : Cx} {ca : Cn} {W : WX} {c n m p : Nat} {F : Addr → List D → R (List (Nat × D))} {gD : List D → List D → List D} {fa fk : Ev → R (List D)}
theorem sup_wish {t u : TA} {gV : List V → List V → List V} {x : Addr} {D0 : Ends} {B G H : Hp} {σ : L2.St} {ρ : Ev}
    (kt : ∀ B G H σ ρ Q, Same G H → Same B H → Rel X.K ca B G H σ ρ → Wish X.K ca (SL X.K ca Q) G H (fa ρ) (WE W σ) → t σ H Q) (ku : ∀ B G H σ ρ Q, Same G H → Same B H → Rel X.K ca B G H σ ρ → Wish X.K ca (SL X.K ca Q) G H (fk ρ) (WE W σ) → u σ H Q)
    (hg : ∀ x vs zs, ∃ us, gV (x :: vs) zs = x :: us ∧ ∀ G ds ws, AtL X.K ca G ds vs → AtL X.K ca G ws zs → AtL X.K ca G (gD ds ws) us) (s : Same G H) (b : Same B H) (r : Rel X.K ca B G H σ ρ) (hx : σ[0]? = some (some (.ref x)))
    (h : WishS X.K ca B G (sSup c n m p F gD fa fk ρ) D0 W) : t σ H fun vs H1 => u σ H1 fun zs H2 => vs.length = n ∧ zs.length = m ∧ spI X.K ca c p F (gV (.ref x :: vs) zs) H2 (fun _ H3 => D0.nx σ H3) (WE W σ) := by
  refine kt B G H σ ρ _ s b r (WishS.from h b r fun ds G1 H1 _ x1 w1 r1 b1 vs a1 => ?_)
  refine ku B G1 H1 σ ρ _ x1.gh b1 r1 (WishS.from w1 b1 r1 fun zs G2 H2 _ x2 w2 r2 b2 ws a2 => ?_)
  have a1 := AtL.mono x2.gg a1
  unfold supK at w2
  split at w2
  · rename_i a c' z
    have w2 : WishS X.K ca B G2 (if c' = c ∧ ds.length = n ∧ zs.length = m ∧ (gD ds zs).length + 1 = p then (match F a (gD ds zs) with | .ok fs => .nx (ρ.set 0 (.o (some a) c fs)) | .exc x => .ex x (ρ.set 0 .no) | .bad => .bad) else .bad) D0 W := w2
    split at w2
    · rename_i hl
      obtain ⟨rfl, l1, l2, l3⟩ := hl
      obtain ⟨a', h1, ⟨C, dx, vs0, hga, hc, ha, hv⟩, ga, ba⟩ := r2.own 0 _ z rfl
      obtain rfl := hga a rfl
      obtain rfl : vs0 = [] := hv
      rw [hx] at h1
      obtain rfl : x = a' := by cases h1; rfl
      obtain ⟨us, e, au⟩ := hg (.ref x) vs ws
      have at_ := au G2 ds zs a1 a2
      have l4 := at_.length
      have rB : Rel X.K ca B G2 (Tk.woH H2 x) σ (ρ.set 0 .no) := r2.goneW 0 z rfl hx
      have sb : Same B (Tk.woH H2 x) := fun b' o q => by
        by_cases y : b' = x
        · rw [y, ba] at q; cases q
        · rw [woH_ne y]; exact b2 _ _ q
      have sg : Same G2 (Tk.woH H2 x) := fun b' o q => by
        by_cases y : b' = x
        · rw [y, ga] at q; cases q
        · rw [woH_ne y]; exact x2.gh _ _ q
      have sh : Same (Tk.woH H2 x) H2 := fun b' o q => by
        by_cases y : b' = x
        · rw [y, woH_at] at q; cases q
        · rwa [woH_ne y] at q
      have adv : ∀ {G' H' : Hp}, Ext G2 (Tk.woH H2 x) G' H' → Adv B G2 G' H' := fun y => ⟨y.gg, y.gh, sb.trans y.hh, fun a n => (y.nw a n).elim .inl fun z => .inr (z.up sb)⟩
      refine ⟨by rw [← a1.length]; exact l1, by rw [← a2.length]; exact l2, ?_⟩
      rw [e]
      refine ⟨by rw [List.length_cons, ← l4]; exact l3, Tk.woH H2 x, G2, gD ds zs, x, C, dx, us, rfl, hc, ha, woH_at _ _, sh, sg, at_, ?_⟩
      cases q : F x (gD ds zs) with
      | bad => rw [q] at w2; exact w2.elim
      | exc y =>
        rw [q] at w2
        exact fun G' H' c0 dx0 e0 ee => w2 σ G' H' c0 dx0 (adv e0) (rB.ext e0) ee
      | ok fs =>
        rw [q] at w2
        intro G' H' e0 oa ga'
        refine w2 σ G' H' (adv e0) ?_
        have r3 := rB.setOwn e0 0 (s := .o (some x) c' fs) (woH_at _ _) rfl oa ga' ba
        rw [List.set_set] at r3
        have es : σ.set 0 (some (.ref x)) = σ := by
          cases σ with
          | nil => rfl
          | cons y σ => cases hx; rfl
        rw [es] at r3
        exact r3
    · exact w2.elim
  · exact False.elim w2
end
end Tk
set_option maxHeartbeats 4000000
namespace Tk
open PySem PySem.W PySem.Calls PyProof.Rows PySem.Spec L2 NdefX
theorem wish_outI {K : Frag} {ca : Cn} {B G : Hp} {c : Nat} {a : Addr} {Q : VK} {E : XK} {so : SO} (q : Wish K ca (SI K ca c a Q) G B (so.outI a c) E) : WishS K ca B G so { nx := fun _ H' => Q .non H', rt := Q } (fun c d _ H' => E c d H') := by
  have up : ∀ {G' H' : Hp}, Adv B G G' H' → Ext G B G' H' := fun x => ⟨x.bh, x.gg, x.gh, x.nw⟩
  cases so with
  | nx ρ =>
    intro σ' G' H' x r
    cases ρ with
    | nil => exact q.elim
    | cons s0 ρ =>
      cases s0 with
      | o g0 c' fs =>
        have q2 : Wish K ca (SI K ca c a Q) G B (if g0 = some a ∧ c' = c then .ok fs else .bad) E := q
        split at q2
        · rename_i ec
          obtain ⟨rfl, rfl⟩ := ec
          obtain ⟨a', h1, h2, h3, h4⟩ := r.own 0 _ rfl rfl
          obtain ⟨C', dx', vs', hg, h5⟩ := id h2
          have ea := hg a rfl
          subst ea
          exact q2 G' H' (up x) h2 h3
        · exact q2.elim
      | _ => exact q.elim
  | ex x ρ => exact fun σ' G' H' c dx y r e => q G' H' c dx (up y) e
  | ro sl => exact q.elim
  | rt d => exact q.elim
  | bk ρ => exact q.elim
  | ct ρ => exact q.elim
  | bad => exact q.elim
abbrev suE (m : Str) (p0 p1 p2 p4 : Pos) (es : List Expr) (kws : List Keyword) : Expr := .Call (.Attribute (.Call (.Name "super" p0) [] [] p1) m p2) es kws p4
def SuOk (m : Str) (p0 p1 p2 p4 : Pos) (es : List Expr) (kws : List Keyword) (env : Env) : Prop := ∃ pl : Sem Bool, eval (suE m p0 p1 p2 p4 es kws) env = (do
      let ov ← attributeBase (.Call (.Name "super" p0) [] [] p1) m env (eval (.Call (.Name "super" p0) [] [] p1) env)
      standAt p2.atName
      let (fn, first) ← holding [ov] (getMethod ov m pl)
      callWith p4 fn first (backTo p4 (starEach es env)) (backToKw p4 (keywordEach kws env)))
def SuNew (k : Nat) (A : Around) (env : Env) : Prop := Room k (A.deeper env)
section
variable {P : Program} {w : World} {K : Frag} {mg : Str → Option Value} {base : Heap} {ca : Cn} {D fI cc fB : Addr} {F : NF} {fd fdB : FuncData} {N ps psB ks : List Str} {self m : Str} {ar : Arg} {c cD n k j : Nat} {p0 p1 p2 p4 p5 : Pos} {e : Expr} {es : List Expr} {kws : List Keyword} {rest : List Stmt}
  {FBm : Addr → List Tk.D → R (List (Nat × Tk.D))} {gD : List Tk.D → List Tk.D → List Tk.D} {fa fk : Ev → R (List Tk.D)} {g : Ev → SO}
theorem fn_okS (S : SuF P K D fI F fd cc) (NS : NScope N ps ["__class__"] F.scope) (Z : SuS F.scope self) (hmg : mg "super" = none) (hp : (F.params.posonlyargs ++ F.params.args).head? = some ar) (har : ar.arg = self) (hN : N[0]? = some self)
    (hD : ca.a cD = some D) (hbody : F.body = .Expr (suE m p0 p1 p2 p4 (e :: es) kws) p5 :: rest)
    (sub : ∀ C, ca.a c = some C → mroIn K C (.ref D) = some true ∧ ks_superIn K C D m = some (some (.ref fB))) (tB : typeIn K (.ref fB) = some (.type "function")) (hf : fnIn K fB = true) (hm1 : (m == ("__class__" : Str)) = false)
    (hev : ∀ L, SuOk m p0 p1 p2 p4 (e :: es) kws (envF F fI L))
    (FB : FnOk P w K mg base (L2.CX P w) j fB fdB psB (spI K ca c psB.length FBm)) (hj : j ≤ k) (hb : KBI K ca fdB psB n ks gD)
    (hall : ∀ L, (backToKw p4 (keywordEach kws (envF F fI L))).all (·.1.isSome) = true) (hks : ∀ L, (backToKw p4 (keywordEach kws (envF F fI L))).filterMap (·.1) = ks)
    (he : ∀ L, starEach (e :: es) (envF F fI L) = (false, eval e (envF F fI L)) :: starEach es (envF F fI L))
    (hpl : ∀ L, ((backTo p4 (starEach (e :: es) (envF F fI L))).any (·.1) || (backToKw p4 (keywordEach kws (envF F fI L))).any (·.1.isNone)) = false)
    (hin : ∀ L, interactive (envF F fI L) = false) (hs : ∀ L, swapsWith (suE m p0 p1 p2 p4 (e :: es) kws) none p5.line (envF F fI L) = pure false)
    (hfs : ∀ (A : Around) (outer : List Env) (s : Shared) (H : Hp) (E : XK), SuNew k A (envF F fI s.heap.objs.size) →
      FA (ncx (L2.CX P w) P w K mg base N F fI A outer s H E) ca (fun c d _ H' => E c d H') (e :: es) fa ∧ FK (ncx (L2.CX P w) P w K mg base N F fI A outer s H E) ca (fun c d _ H' => E c d H') kws fk ∧ FSs (ncx (L2.CX P w) P w K mg base N F fI A outer s H E) ca (fun c d _ H' => E c d H') rest g) :
    FnOk P w K mg base (L2.CX P w) (k + 1) fI fd ps (spI K ca c ps.length (runS c cD N.length (sSup c n ks.length psB.length FBm gD fa fk) g)) := by
  refine ⟨fun vs H Q E h => h.1, fun A outer s H args us vs Q E hr e0 hbind rv hsp => ?_⟩
  obtain ⟨l, B, G, ds, a, C, dx, us0, rfl, hc, ha, hb', s1, s2, at_, q⟩ := hsp
  have l2 := at_.length
  have l3 : us0.length + 1 = ps.length := l
  have hNl : ps.length + 1 ≤ N.length := by
    have q := congrArg List.length NS.pre
    rw [List.length_take, List.length_append] at q
    simp only [List.length_cons, List.length_nil] at q
    omega
  have X1 : K.In s.heap := e0.mod.kin.keeps fun b o z => (e0.bs b o z).1
  have lim : s.heap.NoLimit := e0.mod.nolimit.keeps fun b o e => (e0.bs b o e).1
  have S' := S
  obtain ⟨dV, kV, doc, pm, an, ct, rfl⟩ := S'.fd_
  obtain ⟨oc, od, osl, lk⟩ := S'.lk
  obtain ⟨c1, c2, c3, lcc⟩ := S'.cell
  refine ks_codeAny_call_defAt hr.depth (X1 _ _ lk) rfl lim (codeRec_of X1 S'.hcd) rfl hbind NS.nocell (fun x hx => NS.par x.1 (List.of_mem_zip (show (x.1, x.2) ∈ ps.zip us from hx)).1) (fun h₀ hns kp => ?_) NS.co NS.gen NS.kind
  have ee : callEnv (ksFn F.name F.qual F.params F.body F.scope dV kV doc pm an (.ref F.c) ct cc) s.heap.objs.size fI = envF F fI s.heap.objs.size := by
    show PySem.W.envX F.qual F.scope s.heap.objs.size fI (.ref F.c) [("__class__", cc)] = _
    rw [← S.cl]
  rw [ee]
  -- the cell
  have hcc : H cc = none := by
    have hbk := e0.mod.kin
    exact (e0.bs cc _ (hbk _ _ lcc)).2
  have Cl : CellsAt F.cl ["__class__"] [some (V.ref D)] s.heap H := by
    rw [S.cl]
    refine ⟨rfl, fun y c0 q => ?_, fun y z c0 q q' => ?_, fun i y q => ?_⟩
    · rw [List.lookup_cons] at q
      split at q
      · cases q; exact ⟨hcc, _, ⟨_, X1 _ _ lcc, rfl⟩⟩
      · cases q
    · rw [List.lookup_cons] at q q'
      split at q
      · rename_i z1
        split at q'
        · rename_i z2
          exact (eq_of_beq z1).trans (eq_of_beq z2).symm
        · cases q'
      · cases q
    · cases i with
      | zero =>
        cases q
        refine ⟨cc, by rw [List.lookup_cons, beq_self_eq_true], fun v z => ?_⟩
        cases z
        exact ⟨.ref D, rfl, ⟨_, X1 _ _ lcc, rfl⟩⟩
      | succ i => simp at q
  have I : Inv (ncx (L2.CX P w) P w K mg base N F fI A outer s H E) [] (startF N (.ref a :: us0) [some (V.ref D)]) H { s with heap := h₀, toks := s.toks + (ps.zip us).length } := inv_startN NS hr.hd e0 l rv Cl hns kp
  have es0 : startF N (.ref a :: us0) [some (V.ref D)] = L2.start N (.ref a :: (us0 ++ [V.ref D])) := by
    unfold startF L2.start
    simp only [List.map_cons, List.map_append, List.cons_append, List.append_assoc, List.nil_append, List.map_nil, List.length_cons, List.length_append, List.length_nil]
    have ez : N.length - (us0.length + 1) - (0 + 1) = N.length - (us0.length + (0 + 1) + 1) := by omega
    rw [ez]
  rw [es0] at I
  have ga := same_none s2 hb'
  have at2 : AtL K ca G (ds ++ [.cl cD]) (us0 ++ [V.ref D]) := at_.append (AtL.one ⟨D, hD, rfl⟩)
  have rel := rel_startI (B := B) (H := H) (N := N) (by rw [List.length_append]; simp only [List.length_cons, List.length_nil]; omega) at2 hc ha ga hb'
  obtain ⟨⟨t, pa, kt⟩, ⟨u, pk, ku⟩, ⟨t', pr, kr⟩⟩ := hfs A outer s H E (hr.deeper _)
  obtain ⟨gf, gV, hbn, hgd⟩ := hb.ex
  have ws := wish_outI q
  unfold sSq at ws
  have w0 : WishS K ca B G (sSup c n ks.length psB.length FBm gD fa fk (startI a c N.length (ds ++ [.cl cD]))) { nx := fun σ' H' => t' { nx := fun _ H' => Q .non H', rt := Q } σ' H', rt := fun _ _ => False } (fun c d _ H' => E c d H') := by
    cases z : sSup c n ks.length psB.length FBm gD fa fk (startI a c N.length (ds ++ [.cl cD])) with
    | nx ρ1 =>
      rw [z] at ws
      exact fun σ' G' H' adv r' => kr B G' H' σ' ρ1 _ adv.gh adv.bh r' (WishS.mono (r := g ρ1) ws adv)
    | ex x ρ1 => rw [z] at ws; exact ws
    | bad => rw [z] at ws; exact ws
    | _ =>
      exfalso
      unfold sSup at z
      cases z1 : fa (startI a c N.length (ds ++ [.cl cD])) with
      | exc x => rw [z1] at z; cases z
      | bad => rw [z1] at z; cases z
      | ok ds1 =>
        rw [z1, from_ok] at z
        cases z2 : fk (startI a c N.length (ds ++ [.cl cD])) with
        | exc x => rw [z2] at z; cases z
        | bad => rw [z2] at z; cases z
        | ok zs1 =>
          rw [z2, from_ok] at z
          unfold supK at z
          split at z
          · split at z
            · split at z <;> cases z
            · cases z
          · cases z
  have hq := sup_wish (X := ncx (L2.CX P w) P w K mg base N F fI A outer s H E) kt ku hgd (s2.trans s1) s1 rel rfl w0
  obtain ⟨pl, hpl'⟩ := hev s.heap.objs.size
  have hbx : ∀ env : Env, execs F.body env = execs (.Expr (suE m p0 p1 p2 p4 (e :: es) kws) p5 :: rest) env := fun env => by rw [hbody]
  rw [hbx]
  have sc := su_call (W := fun c d _ H' => E c d H') (Q := fun _ H3 => t' { nx := fun _ H' => Q .non H', rt := Q } (L2.start N (.ref a :: (us0 ++ [V.ref D]))) H3) S Z hmg hp har I hN rfl ha (sub C hc).1 (sub C hc).2 tB hm1 hf hpl' FB ((hr.deeper _).mono hj) hbn (takes_of rfl rfl rfl rfl) pa pk (hall _) (hks _) (he _) (hpl _) hq
  refine ks_wpAt_execs_cons (ks_wpAt_Expr_any (ks_wpAt_mono sc (fun v s' hv => ?_) fun _ _ z => z) (hin _) (hs _))
  obtain ⟨v', H', I', rv', q'⟩ := hv
  refine _root_.PySem.wpAt_of_wpAny (wpAny_mono (pr.run [] _ _ H' _ I' q') (fun fl s'' hs' => ?_) fun e s'' hs' => hs')
  have fin : ∀ {σ' : L2.St} {H' : Hp} {v : V} {u : Value}, Inv (ncx (L2.CX P w) P w K mg base N F fI A outer s H E) [] σ' H' s'' → L2.RelV v u → Q v H' → CE outer P w H s Q u s'' :=
    fun {σ' H' v u} J rv q => ⟨v, H', J.os, J.bare, J.base, J.hok, rv, q⟩
  cases fl with
  | ret u =>
    obtain ⟨v, σ', H', J, rv, q⟩ := hs'
    exact fin J rv q
  | next =>
    obtain ⟨σ', H', J, q⟩ := hs'
    exact fin (v := V.non) (u := Value.none) J rfl q
  | brk =>
    obtain ⟨_, _, _, q⟩ := hs'
    exact False.elim q
  | cont =>
    obtain ⟨_, _, _, q⟩ := hs'
    exact False.elim q
end
end Tk
set_option maxHeartbeats 4000000
namespace Tk
open PySem PySem.Calls PyProof.Rows PySem.Spec L2 NdefX
structure FDS (K : PySem.W.Frag) (qual : Str) (st : Stmt) (kd : List (Str × D)) (fd : FuncData) : Prop where
  ex : ∃ (kV doc pm : Value) (an : Option Addr) (cdv ct : Value) (cc : Addr), fd = PySem.W.ksFn "__init__" qual (defArgs st) (defBody st) (defScope st) .none kV doc pm an cdv ct cc ∧
    (kd = [] ∨ ∃ D, kV = .ref D ∧ ∀ q ∈ kd, ∃ u v, PySem.W.nsIn K D q.1 = some (some u) ∧ RelV v u ∧ ∀ ca G, At K ca G q.2 v)
section
variable {K : PySem.W.Frag} {ca : Cn} {qual : Str} {st : Stmt} {kd : List (Str × D)} {fd : FuncData} {ps : List Str}
end
structure DefIS (P : Program) (w : World) (K : PySem.W.Frag) (mg : Str → Option Value) (base : Heap) (ca : Cn) (k c : Nat) (x qual : Str) (st : Stmt) (kd : List (Str × D)) (ps : List Str) (F : Addr → List D → R (List (Nat × D))) : Prop where
  ex : ∃ f fd C, FnOk P w K mg base (L2.CX P w) k f fd ps (spI K ca c ps.length F) ∧ Mk K C f ∧ ca.a c = some C ∧ mg x = some (.ref C) ∧ FDS K qual st kd fd
section
variable {X : Cx} {ca : Cn} {W : WX} {k j c n : Nat} {x qual : Str} {st : Stmt} {kd : List (Str × D)} {ps ks : List Str} {Fn : Addr → List D → R (List (Nat × D))} {p pos : Pos} {e : Expr} {es : List Expr} {kws : List Keyword} {fa fk : Ev → R (List D)} {gD : List D → List D → List D}
end
structure DefB (P : Program) (w : World) (K : PySem.W.Frag) (mg : Str → Option Value) (base : Heap) (ca : Cn) (k c : Nat) (x qual : Str) (st : Stmt) (dd : List D) (kd : List (Str × D)) (ps : List Str) (F : Addr → List D → R (List (Nat × D))) : Prop where
  ex : ∃ fd, FnOk P w K mg base (L2.CX P w) k (He.fAd K (x, some "__init__")) fd ps (spI K ca c ps.length F) ∧ FDI K qual st dd kd (He.fAd K (x, some "__init__")) fd
section
variable {P : Program} {w : World} {K : PySem.W.Frag} {mg : Str → Option Value} {base : Heap} {ca : Cn} {fa : List He.Fa} {fn : List He.DefD} {x qual : Str} {st : Stmt} {dd : List D} {kd : List (Str × D)} {ps N : List Str} {k c : Nat} {g : Ev → SO}
theorem DefB.of (T : Says fa fn K mg) (i : Nat) (S : FnScope N ps (defScope st)) (hN : ps.length ≤ N.length) (hb : ∀ (f : Addr) (cdv : Value) (A : Around) (outer : List Env) (s : Shared) (H : Hp) (E : XK), Room k (A.deeper (envOfC qual (defScope st) s.heap.objs.size f cdv)) →
      FSs (cxOf (L2.CX P w) P w K mg base N qual (defScope st) f cdv A outer s H E) ca (fun c d _ H' => E c d H') (defBody st) g) (hi : fn[i]? = some (dfD (x, some "__init__") "__init__" qual st dd kd) := by rfl) (h1 : dd.all flatD = true := by rfl) (h2 : (kd.map (·.2)).all flatD = true := by rfl) : DefB P w K mg base ca (k + 1) c x qual st dd kd ps (runI c N.length g) := by
  obtain ⟨fd, F⟩ := T.fd i hi h1 h2
  exact ⟨fd, fn_okI F S hN (hb _), .of_flat F h1⟩
end
abbrev NF.init (qual : Str) (st : Stmt) (cc cdA : Addr) : NF := ⟨"__init__", qual, defArgs st, defBody st, defScope st, [("__class__", cc)], cdA⟩
structure SuH (P : Program) (K : PySem.W.Frag) (x xb qual : Str) (st : Stmt) (kd : List (Str × D)) : Prop where
  ex : ∃ cc cdA fd, SuF P K (He.ga K x) (He.fAd K (x, some "__init__")) (NF.init qual st cc cdA) fd cc ∧ FDS K qual st kd fd
  sub : PySem.W.mroIn K (He.ga K x) (.ref (He.ga K x)) = some true
  sup : PySem.W.ks_superIn K (He.ga K x) (He.ga K x) "__init__" = some (some (.ref (He.fAd K (xb, some "__init__"))))
  tB : PySem.W.typeIn K (.ref (He.fAd K (xb, some "__init__"))) = some (.type "function")
  fB : PySem.W.fnIn K (He.fAd K (xb, some "__init__")) = true
end Tk
set_option maxHeartbeats 4000000
namespace Tk
open PySem PySem.Calls PyProof.Rows PySem.Spec L2 NdefX
def suSB (sc : Scope) (slf : Str) : Bool := decide (sc.names.lookup ("super" : Str) = some .globalImplicit) && (decide (sc.names.lookup ("__class__" : Str) = some .free) && (decide (sc.names.lookup slf = some .local) && decide (sc.kind = .function)))
theorem suSB_ok {sc : Scope} {slf : Str} (h : suSB sc slf = true) : SuS sc slf := by
  unfold suSB at h
  simp only [Bool.and_eq_true, decide_eq_true_eq] at h
  obtain ⟨h1, h2, h3, h4⟩ := h
  exact ⟨h1, h2, h3, h4⟩
section
variable {P : Program} {w : World} {K : PySem.W.Frag} {mg : Str → Option Value} {base : Heap} {ca : Cn} {x xb qual qualb self : Str} {st stb : Stmt} {kd kdb : List (Str × D)} {ddb : List D} {N ps psB ks : List Str} {ar : Arg} {c n k j : Nat} {p0 p1 p2 p4 p5 : Pos} {e : Expr} {es : List Expr} {kws : List Keyword} {rest : List Stmt}
  {FBm : Addr → List D → R (List (Nat × D))} {gD : List D → List D → List D} {fa fk : Ev → R (List D)} {g : Ev → SO}
abbrev cxS (P : Program) (w : World) (K : PySem.W.Frag) (mg : Str → Option Value) (base : Heap) (N : List Str) (x qual : Str) (st : Stmt) (cc cdA : Addr) (A : Around) (outer : List Env) (s : Shared) (H : Hp) (E : XK) : Cx := ncx (L2.CX P w) P w K mg base N (NF.init qual st cc cdA) (He.fAd K (x, some "__init__")) A outer s H E
theorem DefIS.of (U : SuH P K x xb qual st kd) (hmk : Mk K (He.ga K x) (He.fAd K (x, some "__init__"))) (hc : ca.a c = some (He.ga K x)) (hm : mg x = some (.ref (He.ga K x))) (hsup : mg "super" = none)
    (BD : DefB P w K mg base ca j c xb qualb stb ddb kdb psB FBm) (hbk : ∀ {f fd}, FDI K qualb stb ddb kdb f fd → KBI K ca fd psB n ks gD)
    (hbody : defBody st = .Expr (suE "__init__" p0 p1 p2 p4 (e :: es) kws) p5 :: rest)
    (hfs : ∀ (cc cdA : Addr) (A : Around) (outer : List Env) (s : Shared) (H : Hp) (E : XK), Room k (A.deeper (envF (NF.init qual st cc cdA) (He.fAd K (x, some "__init__")) s.heap.objs.size)) →
      FA (cxS P w K mg base N x qual st cc cdA A outer s H E) ca (fun c d _ H' => E c d H') (e :: es) fa ∧ FK (cxS P w K mg base N x qual st cc cdA A outer s H E) ca (fun c d _ H' => E c d H') kws fk ∧ FSs (cxS P w K mg base N x qual st cc cdA A outer s H E) ca (fun c d _ H' => E c d H') rest g)
    (hj : j ≤ k := by decide) (hNS : nscB N ps ["__class__"] (defScope st) = true := by decide +kernel) (hZ : suSB (defScope st) self = true := by decide +kernel) (hp : ((defArgs st).posonlyargs ++ (defArgs st).args).head? = some ar := by rfl) (har : ar.arg = self := by rfl) (hN : N[0]? = some self := by rfl)
    (hev : ∀ (f L cc cdA : Addr), SuOk "__init__" p0 p1 p2 p4 (e :: es) kws (envF (NF.init qual st cc cdA) f L) := by exact fun _ _ _ _ => ⟨_, rfl⟩)
    (hall : ∀ (f L cc cdA : Addr), (backToKw p4 (keywordEach kws (envF (NF.init qual st cc cdA) f L))).all (·.1.isSome) = true := by exact fun _ _ _ _ => rfl) (hks : ∀ (f L cc cdA : Addr), (backToKw p4 (keywordEach kws (envF (NF.init qual st cc cdA) f L))).filterMap (·.1) = ks := by exact fun _ _ _ _ => rfl)
    (he : ∀ (f L cc cdA : Addr), starEach (e :: es) (envF (NF.init qual st cc cdA) f L) = (false, eval e (envF (NF.init qual st cc cdA) f L)) :: starEach es (envF (NF.init qual st cc cdA) f L) := by exact fun _ _ _ _ => rfl)
    (hpl : ∀ (f L cc cdA : Addr), ((backTo p4 (starEach (e :: es) (envF (NF.init qual st cc cdA) f L))).any (·.1) || (backToKw p4 (keywordEach kws (envF (NF.init qual st cc cdA) f L))).any (·.1.isNone)) = false := by exact fun _ _ _ _ => rfl)
    (hin : ∀ (f L cc cdA : Addr), interactive (envF (NF.init qual st cc cdA) f L) = false := by exact fun _ _ _ _ => rfl) (hs : ∀ (f L cc cdA : Addr), swapsWith (suE "__init__" p0 p1 p2 p4 (e :: es) kws) none p5.line (envF (NF.init qual st cc cdA) f L) = pure false := by exact fun _ _ _ _ => rfl) :
    DefIS P w K mg base ca (k + 1) c x qual st kd ps (runS c c N.length (sSup c n ks.length psB.length FBm gD fa fk) g) := by
  obtain ⟨cc, cdA, fd, S, F⟩ := U.ex
  obtain ⟨fdB, FB, FI⟩ := BD.ex
  refine ⟨_, fd, _, ?_, hmk, hc, hm, F⟩
  exact fn_okS S (nscope_by hNS) (suSB_ok hZ) hsup hp har hN hc hbody (fun C e0 => by rw [hc] at e0; cases e0; exact ⟨U.sub, U.sup⟩) U.tB U.fB (by decide) (fun L => hev _ L cc cdA) FB hj (hbk FI) (fun L => hall _ L cc cdA) (fun L => hks _ L cc cdA) (fun L => he _ L cc cdA) (fun L => hpl _ L cc cdA) (fun L => hin _ L cc cdA) (fun L => hs _ L cc cdA) (fun A outer s H E hr => hfs cc cdA A outer s H E hr)
end
end Tk
set_option maxHeartbeats 4000000
namespace Tk
open PySem PySem.Spec L2 PyProof.Rows
section
variable {K : PySem.W.Frag} {ca : Cn} {G H G' H' B : Hp} {σ : L2.St} {ρ : Ev}
theorem Rel.any (r : Rel K ca B G H σ ρ) (i : Nat) (u : Option V) : Rel K ca B G H (σ.set i u) (ρ.set i .no) where
  len := by rw [List.length_set, List.length_set]; exact r.len
  val := fun j e q => by
    rcases getElem?_set' q with ⟨rfl, z⟩ | ⟨ne, q⟩
    · cases z
    · obtain ⟨w, h1, h2⟩ := r.val j e q
      exact ⟨w, by rw [List.getElem?_set_ne (Ne.symm ne)]; exact h1, h2⟩
  own := fun j s q ho => by
    rcases getElem?_set' q with ⟨rfl, z⟩ | ⟨ne, q⟩
    · subst z; cases ho
    · obtain ⟨b, h1, h2⟩ := r.own j s q ho
      exact ⟨b, by rw [List.getElem?_set_ne (Ne.symm ne)]; exact h1, h2⟩
  sep := fun j k s t b qj oj qk ok hj hk => by
    rcases getElem?_set' qj with ⟨rfl, z⟩ | ⟨nj, qj⟩
    · subst z; cases oj
    · rcases getElem?_set' qk with ⟨rfl, z⟩ | ⟨nk, qk⟩
      · subst z; cases ok
      · rw [List.getElem?_set_ne (Ne.symm nj)] at hj
        rw [List.getElem?_set_ne (Ne.symm nk)] at hk
        exact r.sep j k s t b qj oj qk ok hj hk
  exc := fun j y q => by
    rcases getElem?_set' q with ⟨rfl, z⟩ | ⟨ne, q⟩
    · cases z
    · obtain ⟨b, c, dx, h1, h2⟩ := r.exc j y q
      exact ⟨b, c, dx, by rw [List.getElem?_set_ne (Ne.symm ne)]; exact h1, h2⟩
  nst := by
    obtain ⟨FP, n⟩ := r.nst
    refine ⟨FP, n.step (fun j t q => ?_) (.refl _) fun b o ho nt gb bb ow => ⟨rfl, gb, fun j s q os => ?_⟩⟩
    · rcases getElem?_set' q with ⟨rfl, z⟩ | ⟨ne, q⟩
      · cases z
      · exact ⟨q, List.getElem?_set_ne (Ne.symm ne)⟩
    · rcases getElem?_set' q with ⟨rfl, z⟩ | ⟨ne, q⟩
      · rw [z] at os; cases os
      · rw [List.getElem?_set_ne (Ne.symm ne)]; exact ow j s q os
theorem Ext.gno (x : Ext G H G' H') {b : Addr} (h : OwnO H b) (g : G b = none) : G' b = none := by
  obtain ⟨o, ho, io⟩ := h
  cases q : G' b with
  | none => rfl
  | some u =>
    rcases x.nw b (by rw [q]; simp) with z | z
    · exact (z g).elim
    · exact (z.no ho io.nt).elim
theorem OwnO.ext (x : Ext G H G' H') {b : Addr} (h : OwnO H b) : OwnO H' b := let ⟨o, ho, io⟩ := h; ⟨o, x.hh _ _ ho, io⟩
theorem NAtL.at {n : Nat} {t : OT} : ∀ {ts : List OT} {vs : List V} {fp : List Addr} {n : Nat}, NAtL K ca G H ts vs fp → ts[n]? = Option.some t → ∃ v, vs[n]? = Option.some v
  | [], _, _, _, _, e => by simp at e
  | _ :: _, _, _, 0, ⟨v, r, f1, f2, e, h, t, z⟩, _ => by subst e; exact ⟨v, rfl⟩
  | _ :: ts, _, _, n + 1, ⟨v, r, f1, f2, e, h, t, z⟩, q => by
    subst e
    rw [List.getElem?_cons_succ] at q
    obtain ⟨w, hw⟩ := NAtL.at (n := n) t q
    exact ⟨w, by rw [List.getElem?_cons_succ]; exact hw⟩
theorem NAtL.turn : ∀ {ts : List OT} {vs : List V} {fp : List Addr} {n : Nat} {xs : List D}, fp.Nodup → NAtL K ca G H ts vs fp → ts[n]? = Option.some (.l (lfL xs)) →
    ∃ d ws, vs[n]? = Option.some (.ref d) ∧ d ∈ fp ∧ H d = Option.some (.lst ws) ∧ AtL K ca G xs ws ∧ ∀ xs2 ws2 H', AtL K ca G xs2 ws2 → H' d = Option.some (.lst ws2) → (∀ b ∈ fp, b ≠ d → H' b = H b) → NAtL K ca G H' (ts.set n (.l (lfL xs2))) vs fp
  | [], _, _, _, _, _, _, e => by simp at e
  | t0 :: ts, _, _, 0, xs, nd, ⟨v, r, f1, f2, e, h, t, z⟩, q => by
    subst e z
    rw [List.getElem?_cons_zero] at q
    cases q
    rw [List.nodup_append] at nd
    obtain ⟨a, ws, fq, rfl, ha, hk, rfl⟩ := h
    obtain ⟨hk2, rfl⟩ := NAtL.lf.mp hk
    refine ⟨a, ws, rfl, by simp, ha, hk2, fun xs2 ws2 H' a2 h2 hb => ?_⟩
    exact ⟨.ref a, r, [a], f2, rfl, ⟨a, ws2, [], rfl, h2, NAtL.lf.mpr ⟨a2, rfl⟩, rfl⟩, t.tr_ rfl rfl (fun _ _ x => x) fun b m => hb b (List.mem_append_right _ m) fun z => nd.2.2 a (by simp) b m z.symm, rfl⟩
  | t0 :: ts, _, _, n + 1, xs, nd, ⟨v, r, f1, f2, e, h, t, z⟩, q => by
    subst e z
    rw [List.getElem?_cons_succ] at q
    rw [List.nodup_append] at nd
    obtain ⟨a, ws, e1, e2, e3, e4, e5⟩ := NAtL.turn nd.2.1 t q
    refine ⟨a, ws, by rw [List.getElem?_cons_succ]; exact e1, List.mem_append_right _ e2, e3, e4, fun xs2 ws2 H' a2 h2 hb => ?_⟩
    exact ⟨v, r, f1, f2, rfl, h.tr_ rfl rfl (fun _ _ x => x) fun b m => hb b (List.mem_append_left _ m) fun z => nd.2.2 b m a e2 z, e5 xs2 ws2 H' a2 h2 fun b m ne => hb b (List.mem_append_right _ m) ne, rfl⟩
theorem NAtL.length : ∀ {ts : List OT} {vs : List V} {fp : List Addr}, NAtL K ca G H ts vs fp → ts.length = vs.length
  | [], _, _, h => by rw [h.1]; rfl
  | _ :: _, _, _, ⟨_, _, _, _, e, _, t, _⟩ => by subst e; simp [NAtL.length t]
end
def SNL (K : PySem.W.Frag) (ca : Cn) (H0 : Hp) (Q : List V → Hp → Prop) : Hp → List OT → Hp → Prop := fun G' ts H' => ∀ vs fp, NAtL K ca G' H' ts vs fp → fp.Nodup → (∀ b ∈ fp, G' b = none ∧ H0 b = none) → Q vs H'
structure FOs (X : Cx) (ca : Cn) (W : WX) (es : List Expr) (f : Ev → R (List OT)) : Prop where
  ex : ∃ t, PA X es t ∧ ∀ B G H σ ρ Q, Same G H → Same B H → Rel X.K ca B G H σ ρ → Wish X.K ca (SNL X.K ca H Q) G H (f ρ) (WE W σ) → t σ H Q
def osN : Ev → R (List OT) := fun _ => .ok []
def osC (f : Ev → R Sl) (g : Ev → R (List OT)) : Ev → R (List OT) := fun ρ => (f ρ).bind fun s => match toT s with
  | some t => (g ρ).bind fun ts => .ok (t :: ts)
  | none => .bad
section
variable {X : Cx} {ca : Cn} {W : WX} {e ei : Expr} {es : List Expr} {f : Ev → R Sl} {fe fi : Ev → R D} {g : Ev → R (List OT)} {pos : Pos}
theorem fos_n : FOs X ca W [] osN := ⟨_, pa_nil, fun B G H σ ρ Q s b r w => w G H (.refl s) [] [] ⟨rfl, rfl⟩ .nil fun b m => by cases m⟩
theorem fos_c (h : FN X ca W e f) (h' : FOs X ca W es g) (he : starEach (e :: es) X.env = (false, eval e X.env) :: starEach es X.env := by rfl) : FOs X ca W (e :: es) (osC f g) := by
  obtain ⟨t, p, k⟩ := h.ex
  obtain ⟨u, q, l⟩ := h'.ex
  refine ⟨_, pa_cons p q he, fun B G H σ ρ Q s b r w => ?_⟩
  refine k B G H σ ρ _ s b r (Wish.bind w fun sl G1 H1 _ x1 w1 => ?_)
  cases et : toT sl with
  | none => rw [et] at w1; exact w1.elim
  | some tt =>
    rw [et] at w1
    refine ⟨(by cases sl <;> first | rfl | cases et), fun a oa ga ha => ?_⟩
    have own : OwnO H1 a := ((toT_at oa et).some a List.mem_cons_self)
    refine l B G1 H1 σ ρ _ x1.gh (b.trans x1.hh) (r.ext x1) (Wish.bind w1 fun ts G2 H2 _ x2 w2 vs fp hl nd hb => ?_)
    obtain ⟨o, ho, io⟩ := own
    refine w2 G2 H2 (.refl x2.gh) (.ref a :: vs) (a :: fp) ⟨.ref a, vs, [a], fp, rfl, (toT_at oa et).ext x2.gg fun c m => ?_, hl, rfl⟩ (List.nodup_cons.mpr ⟨fun m => ?_, nd⟩) fun c m => ?_
    · obtain rfl : c = a := by simpa using m
      exact (x2.hh _ _ ho).trans ho.symm
    · rw [(hb a m).2] at ho; cases ho
    · rcases List.mem_cons.mp m with rfl | m
      · exact ⟨x2.gno ⟨o, ho, io⟩ ga, ha⟩
      · exact ⟨(hb c m).1, same_none x1.hh (hb c m).2⟩
def sTreeL (i : Nat) (f : Ev → R (List OT)) : Ev → SO := fun ρ => SO.from ρ (f ρ) fun ts => if ts.length ≤ sizeLine ∧ i < ρ.length then .nx (ρ.set i (.tr (.l ts))) else .bad
theorem fs_treeL {i : Nat} {y : Str} {pos' p : Pos} (hN : X.N.Nodup) (hi : X.N[i]? = some y) (h : FOs X ca W es g) (hx : Loc X.env.scope y := by first | exact .inl rfl | exact .inr rfl) (hs : swapsWith (.List es p) (some (.Name y pos')) pos.line X.env = pure false := by rfl)
    (hf : X.fn y = true ∨ X.env.scope.names.lookup y = some .local := by first | exact .inl rfl | exact .inr rfl | assumption) : FS X ca W (.Assign [.Name y pos'] (.List es p) pos) (sTreeL i g) := by
  obtain ⟨t, pp, kt⟩ := h.ex
  refine ⟨_, ps_set hN hi hx (pe_lst pp) hs hf, fun B G H σ ρ D s b r h => kt B G H σ ρ _ s b r ?_⟩
  refine WishS.from h b r fun ts G1 H1 e1 x w r1 b1 vs fp hl nd hb => ?_
  split at w
  · rename_i hc
    refine ⟨by rw [← hl.length]; exact hc.1, fun l n => ?_⟩
    have nl : l ∉ fp := fun m => by
      obtain ⟨o, ho, _⟩ := hl.some l m
      rw [n] at ho; cases ho
    have ge : Same H1 (upd H1 l (.lst vs)) := same_upd n
    have hb' : ∀ c ∈ l :: fp, G1 c = none ∧ H c = none := fun c m => by
      rcases List.mem_cons.mp m with rfl | m
      · exact ⟨same_none x.gh n, same_none x.hh n⟩
      · exact hb c m
    have ra := (r1.any i (some (.ref l)))
    obtain ⟨FP, n1⟩ := ra.nst
    obtain ⟨FP0, n0⟩ := r.nst
    have li : i < σ.length := by rw [r.len]; exact hc.2
    have t1 : Rel X.K ca B G1 (upd H1 l (.lst vs)) (σ.set i (some (.ref l))) ((ρ.set i .no).set i (.tr (.l ts))) := by
      obtain ⟨FP1, m1⟩ := r1.nst
      have n2 : NstAll X.K ca B G1 H1 (σ.set i (some (.ref l))) (ρ.set i .no) FP0 := n0.step (fun j t q => by
        rcases getElem?_set' q with ⟨rfl, z⟩ | ⟨ne, q⟩
        · cases z
        · exact ⟨q, List.getElem?_set_ne (Ne.symm ne)⟩) x.gg fun c o ho nt gb bb ow => ⟨(x.hh _ _ ho).trans ho.symm, by
          cases q : G1 c with
          | none => rfl
          | some u =>
            rcases x.nw c (by rw [q]; simp) with z | z
            · exact (z gb).elim
            · exact (z.no ho nt).elim, fun j s' q os => by
          rcases getElem?_set' q with ⟨rfl, z⟩ | ⟨ne, q⟩
          · rw [z] at os; cases os
          · rw [List.getElem?_set_ne (Ne.symm ne)]; exact ow j s' q os⟩
      refine ra.retree n2 i (fp' := l :: fp) (by rw [List.getElem?_set_self li]) ⟨l, vs, fp, rfl, upd_same, hl.tr_ rfl rfl (fun _ _ x => x) fun c m => upd_ne fun e => nl (by rw [← e]; exact m), rfl⟩ (List.nodup_cons.mpr ⟨nl, nd⟩) (fun c m => ⟨(hb' c m).1, same_none b (hb' c m).2, fun j s' ne q o y => ?_, fun j t ne q m' => ?_⟩) (fun j s' c ne q o y => ?_) fun j t c ne q m => ?_
      · rw [List.getElem?_set_ne (Ne.symm ne)] at q y
        obtain ⟨c', e1, e2, _⟩ := r.own j s' q o
        rw [y] at e1
        cases e1
        obtain ⟨ob, e5⟩ := e2.some
        rw [(hb' _ m).2] at e5
        cases e5
      · rw [List.getElem?_set_ne (Ne.symm ne)] at q
        obtain ⟨v, _, nt⟩ := n0.at_ j t q
        obtain ⟨ob, e5, _⟩ := nt.some _ m'
        rw [(hb' _ m).2] at e5
        cases e5
      · rw [List.getElem?_set_ne (Ne.symm ne)] at q y
        refine upd_ne fun e => ?_
        obtain ⟨c', e1, e2, _⟩ := r.own j s' q o
        rw [y] at e1
        cases e1
        obtain ⟨ob, e5⟩ := e2.some
        rw [e, (hb' l List.mem_cons_self).2] at e5
        cases e5
      · rw [List.getElem?_set_ne (Ne.symm ne)] at q
        refine upd_ne fun e => ?_
        obtain ⟨v, _, nt⟩ := n0.at_ j t q
        obtain ⟨ob, e5, _⟩ := nt.some _ m
        rw [e, (hb' l List.mem_cons_self).2] at e5
        cases e5
    rw [List.set_set] at t1
    exact w _ G1 _ ⟨.refl _, x.gh.trans ge, b1.trans ge, fun c z => .inl z⟩ t1
  · exact w.elim
def unLs : List OT → Option (List D)
  | [] => some []
  | .d d :: r => (unLs r).map fun l => d :: l
  | _ => none
theorem unLs_eq : ∀ {ts : List OT} {l : List D}, unLs ts = some l → ts = lfL l
  | [], l, e => by cases e; rfl
  | .d d :: r, l, e => by
    have e : (unLs r).map (fun l => d :: l) = some l := e
    obtain ⟨l', h1, h2⟩ := Option.map_eq_some_iff.mp e
    subst h2
    rw [unLs_eq h1]
    rfl
  | .l _ :: r, l, e => by cases e
  | .k _ :: r, l, e => by cases e
  | .t _ :: r, l, e => by cases e
  | .o _ _ _ :: r, l, e => by cases e
@[simp] theorem unLs_lf : ∀ l : List D, unLs (lfL l) = some l
  | [] => rfl
  | d :: r => by
    show (unLs (lfL r)).map _ = _
    rw [unLs_lf r]
    rfl
def childL (ts : List OT) : D → R (Nat × List D)
  | .int k => if 0 ≤ k then (match ts[k.toNat]? with
    | some (.l us) => (optR (unLs us)).bind fun xs => .ok (k.toNat, xs)
    | _ => .bad) else .bad
  | _ => .bad
theorem childL_eq {ts : List OT} {d : D} {q : Nat × List D} (h : childL ts d = .ok q) : d = .int (q.1 : Int) ∧ ts[q.1]? = some (.l (lfL q.2)) := by
  unfold childL at h
  split at h
  · split at h
    · rename_i k hk
      split at h
      · rename_i us hu
        cases z : unLs us with
        | none => rw [z] at h; cases h
        | some xs =>
          rw [z] at h
          cases h
          exact ⟨by rw [Int.toNat_of_nonneg hk], by rw [hu, unLs_eq z]⟩
      · cases h
    · cases h
  · cases h
theorem childL_ne {ts : List OT} {d : D} {x : Ex} : childL ts d ≠ .exc x := fun h => by
  unfold childL at h
  split at h
  · split at h
    · split at h
      · rename_i us hu
        cases z : unLs us with
        | none => rw [z] at h; cases h
        | some xs => rw [z] at h; cases h
      · cases h
    · cases h
  · cases h
def treeL (ρ : Ev) (i : Nat) : R (List OT) := match ρ[i]? with
  | some (.tr (.l ts)) => .ok ts
  | _ => .bad
def sMutT (i : Nat) (fk : Ev → R D) (g : List D → List D → Option (List D)) (fl : Ev → R (List D)) : Ev → SO := fun ρ => SO.from ρ (treeL ρ i) fun ts => SO.from ρ (fk ρ) fun kd => SO.from ρ (childL ts kd) fun q => SO.from ρ (fl ρ) fun ds => match g q.2 ds with
  | some xs' => .nx (ρ.set i (.tr (.l (ts.set q.1 (.l (lfL xs'))))))
  | none => .bad
theorem atI_nat {α : Type} {l : List α} {n : Nat} {v : α} (h : l[n]? = some v) : L2.atI l (n : Int) = some v := by
  have lt := (List.getElem?_eq_some_iff.mp h).1
  unfold L2.atI L2.ixN
  rw [if_pos (by omega), if_pos (by omega)]
  simpa using h
theorem tree_at {K : PySem.W.Frag} {ca : Cn} {B G H G1 H1 : Hp} {σ : L2.St} {ρ : Ev} {i : Nat} {ts : List OT} {q : Nat × List D} (z : treeL ρ i = .ok ts) (r : Rel K ca B G H σ ρ) (x : Ext G H G1 H1) (b1 : Same B H1) (gh : Same G1 H1) (hq : ts[q.1]? = some (.l (lfL q.2))) :
    ∃ l vs d ws, σ[i]? = some (some (.ref l)) ∧ H l = some (.lst vs) ∧ vs[q.1]? = some (.ref d) ∧ H d = some (.lst ws) ∧ AtL K ca G q.2 ws ∧ ∀ xs2 ws2, AtL K ca G1 xs2 ws2 →
      Rel K ca B G1 (upd H1 d (.lst ws2)) σ (ρ.set i (.tr (.l (ts.set q.1 (.l (lfL xs2)))))) ∧ Same G1 (upd H1 d (.lst ws2)) ∧ Same B (upd H1 d (.lst ws2)) := by
  unfold treeL at z
  split at z
  · rename_i us hu
    cases z
    obtain ⟨FP, n⟩ := r.nst
    obtain ⟨v, hv, l, vs, fq, rfl, hl, hn, hf⟩ := n.at_ i _ hu
    have nd := n.nd i _ hu
    rw [hf] at nd
    obtain ⟨nl, nq⟩ := List.nodup_cons.mp nd
    obtain ⟨d, ws, e1, e2, e3, e4, e5⟩ := hn.turn nq hq
    have ow : ∀ c ∈ l :: fq, OwnO H c := fun c m => by
      rcases List.mem_cons.mp m with rfl | m
      · exact ⟨_, hl, trivial⟩
      · exact hn.some c m
    have fr : ∀ c ∈ l :: fq, G1 c = none ∧ B c = none := fun c m => ⟨x.gno (ow c m) (n.fr i _ hu c (by rw [hf]; exact m)).1, (n.fr i _ hu c (by rw [hf]; exact m)).2⟩
    have md : d ∈ l :: fq := List.mem_cons_of_mem _ e2
    have dl : l ≠ d := fun e => nl (by rw [e]; exact e2)
    refine ⟨l, vs, d, ws, hv, hl, e1, e3, e4, fun xs2 ws2 a2 => ?_⟩
    have n1 : NstAll K ca B G1 H1 σ ρ FP := n.step (fun i t e => ⟨e, rfl⟩) x.gg fun b o ho nt gb bb ow => ⟨(x.hh _ _ ho).trans ho.symm, by
      cases q : G1 b with
      | none => rfl
      | some u =>
        rcases x.nw b (by rw [q]; simp) with z | z
        · exact (z gb).elim
        · exact (z.no ho nt).elim, ow⟩
    refine ⟨(r.ext x).retree n1 i (fp' := l :: fq) hv ⟨l, vs, fq, rfl, (upd_ne dl).trans (x.hh _ _ hl), ?_, rfl⟩ nd (fun c m => ⟨(fr c m).1, (fr c m).2, fun j s ne q' o => n.ow i _ hu c (by rw [hf]; exact m) j s q' o, fun j t ne q' => n.sp i j _ t (Ne.symm ne) hu q' c (by rw [hf]; exact m)⟩) (fun j s c ne q' o y => upd_ne fun e => ?_) fun j t c ne q' m => upd_ne fun e => ?_, fun c o e => ?_, fun c o e => ?_⟩
    · have hn1 := (hn.tr_ (G' := G1) (H' := H1) rfl rfl (fun _ _ => At.mono x.gg) fun c m => by
        obtain ⟨o, ho, _⟩ := hn.some c m
        exact (x.hh _ _ ho).trans ho.symm)
      obtain ⟨d', ws', f1, f2, f3, f4, f5⟩ := hn1.turn nq hq
      rw [e1] at f1
      cases f1
      exact f5 xs2 ws2 _ a2 upd_same fun c m ne => upd_ne ne
    · exact n.ow i _ hu d (by rw [hf]; exact md) j s q' o (by rw [← e]; exact y)
    · exact n.sp i j _ t (Ne.symm ne) hu q' d (by rw [hf]; exact md) (by rw [← e]; exact m)
    · rw [upd_ne fun z => by rw [z, (fr d md).1] at e; cases e]; exact gh c o e
    · rw [upd_ne fun z => by rw [z, (fr d md).2] at e; cases e]; exact b1 c o e
  · cases z
variable {fk : Ev → R D} {fl : Ev → R (List D)} {i : Nat} {y m : Str} {id : String} {rr : V → List V → Hp → VK → Prop} {gg : List D → List D → Option (List D)} {py ps apos cpos : Pos}
theorem fs_mutT0 (slot : Slot "list" m id) (hty : typeOf (.builtin id) = pure (.type "method_descriptor")) (hm : MtR X id rr) (hg : MutR X.K ca rr gg) (hp : PlainIx ei) (hi : X.N[i]? = some y) (hx : FE X ca W ei fk)
    (hv : Vis X.env.scope y := by first | exact Or.inl rfl | exact Or.inr (Or.inl rfl) | exact Or.inr (Or.inr rfl)) (hd : (y == ("__debug__" : Str)) = false := by decide) (hcd : (y == ("__classdict__" : Str)) = false := by decide)
    (hb : attributeBase (.Subscript (.Name y py) ei ps) m X.env (eval (.Subscript (.Name y py) ei ps) X.env) = eval (.Subscript (.Name y py) ei ps) X.env := by rfl) (hl : (apos.endLine == cpos.line) = true := by rfl)
    (hs : swapsWith (.Call (.Attribute (.Subscript (.Name y py) ei ps) m apos) [] [] cpos) none pos.line X.env = pure false := by rfl) : FS X ca W (.Expr (.Call (.Attribute (.Subscript (.Name y py) ei ps) m apos) [] [] cpos) pos) (sMutT i fk gg aN) := by
  obtain ⟨u, pu, ku⟩ := hx.ex
  refine ⟨_, ps_expr (pe_bm0 PySem.F.plainAttrs_list slot hty hm (pe_ix ix_seq (pe_var hi hv hd hcd) pu hp) hb hl) hs, fun B G H σ ρ D s b r h => ?_⟩
  unfold sMutT at h
  cases z : treeL ρ i with
  | exc x => unfold treeL at z; split at z <;> cases z
  | bad => rw [z] at h; exact h.elim
  | ok ts =>
    rw [z] at h
    have h' : WishS X.K ca B G (SO.from ρ (fk ρ) fun kd => SO.from ρ (childL ts kd) fun q => SO.from ρ (aN ρ) fun ds => match gg q.2 ds with
      | some xs' => .nx (ρ.set i (.tr (.l (ts.set q.1 (.l (lfL xs'))))))
      | none => .bad) D W := h
    obtain ⟨l, hl0⟩ : ∃ l, σ[i]? = some (some (.ref l)) := by
      have z2 := z
      unfold treeL at z2
      split at z2
      · rename_i us hu
        obtain ⟨FP, n⟩ := r.nst
        obtain ⟨v, hv, l, vs, fq, rfl, _⟩ := n.at_ i _ hu
        exact ⟨l, hv⟩
      · cases z2
    refine ⟨_, hl0, ku B G H σ ρ _ s b r (WishS.from h' b r fun kd G1 H1 _ x w r1 b1 kv ak => ?_)⟩
    cases zc : childL ts kd with
    | exc x => exact (childL_ne zc).elim
    | bad => rw [zc] at w; exact w.elim
    | ok q =>
      rw [zc] at w
      obtain ⟨rfl, hq⟩ := childL_eq zc
      obtain ⟨l', vs, d, ws, e0, e1, e2, e3, e4, e5⟩ := tree_at z r x b1 x.gh hq
      rw [hl0] at e0
      cases e0
      have w2 : WishS X.K ca B G1 (match gg q.2 [] with | some xs' => .nx (ρ.set i (.tr (.l (ts.set q.1 (.l (lfL xs')))))) | none => .bad) D W := w
      split at w2
      · rename_i xs' hx'
        refine .inl ⟨l, vs, _, .ref d, rfl, ak, .of (x.hh _ _ e1), atI_nat e2, .inl ⟨rfl, ws, .of (x.hh _ _ e3)⟩, ?_⟩
        refine hg G1 H1 d q.2 [] xs' ws [] _ x.gh (x.hh _ _ e3) (AtL.mono x.gg e4) rfl hx' fun vs' a' => ?_
        obtain ⟨t1, t2, t3⟩ := e5 xs' vs' a'
        exact w2 _ G1 _ ⟨.refl _, t2, t3, fun c z => .inl z⟩ t1
      · exact w2.elim
end
end Tk
namespace Tk
open PySem PySem.Spec L2 PyProof.Rows
mutual
def noLD : D → Bool
  | .lst _ => false
  | .scr _ => false
  | .tup xs => noLL xs
  | .tpz xs => noLL xs
  | .dK kvs => noLK kvs
  | .dT kvs => noLT kvs
  | .zK kvs => noLK kvs
  | .zT kvs => noLT kvs
  | .ins _ fs => noLF fs
  | _ => true
def noLL : List D → Bool
  | [] => true
  | d :: ds => noLD d && noLL ds
def noLK : List (Key × D) → Bool
  | [] => true
  | (_, d) :: ds => noLD d && noLK ds
def noLT : List (List Key × D) → Bool
  | [] => true
  | (_, d) :: ds => noLD d && noLT ds
def noLF : List (Nat × D) → Bool
  | [] => true
  | (_, d) :: ds => noLD d && noLF ds
end
def isNL (o : HO) : Prop := ∀ vs, o ≠ .lst vs
section
variable {K : PySem.W.Frag} {ca : Cn} {B G H G' G2 H' : Hp} {σ : L2.St} {ρ : Ev}
theorem rd_nl (k : ∀ t o, G' t = some o → isNL o → G2 t = some o) {a : Addr} {u : HO} (n : isNL u) (h : Rd G' a u) : Rd G2 a u := by
  rcases h with h | ⟨o, h⟩
  · exact .inl (k _ _ h n)
  · exact .inr ⟨o, k _ _ h fun vs e => by cases e⟩
mutual
theorem noLD_at (k : ∀ t o, G' t = some o → isNL o → G2 t = some o) : ∀ {d : D} {v : V}, noLD d = true → At K ca G' d v → At K ca G2 d v
  | .non, v, _, a => a
  | .bl _, v, _, a => a
  | .int _, v, _, a => a
  | .str _, v, _, a => a
  | .ty _, v, _, a => a
  | .cl _, v, _, a => a
  | .scr _, v, h, _ => by cases h
  | .lst _, v, h, _ => by cases h
  | .tup xs, v, h, ⟨a, vs, e, q, r⟩ => ⟨a, vs, e, k a (.tup vs) q (fun _ e => by cases e), noLL_at k h r⟩
  | .tpz xs, v, h, ⟨a, o, vs, e, oo, q, r⟩ => ⟨a, o, vs, e, oo, k a _ q (fun _ e => by cases e), noLL_at k h r⟩
  | .tp0, v, _, ⟨a, e, q⟩ => ⟨a, e, q.elim (fun q => .inl (rd_nl k (fun _ e => by cases e) q)) .inr⟩
  | .dK kvs, v, h, ⟨a, vs, e, q, r⟩ => ⟨a, vs, e, rd_nl k (fun _ e => by cases e) q, noLK_at k h r⟩
  | .dT kvs, v, h, ⟨a, vs, e, q, r⟩ => ⟨a, vs, e, rd_nl k (fun _ e => by cases e) q, noLT_at k h r⟩
  | .zK kvs, v, h, ⟨a, o, vs, e, q, r⟩ => ⟨a, o, vs, e, k a _ q (fun _ e => by cases e), noLK_at k h r⟩
  | .zT kvs, v, h, ⟨a, o, vs, e, q, r⟩ => ⟨a, o, vs, e, k a _ q (fun _ e => by cases e), noLT_at k h r⟩
  | .ins c fs, v, h, ⟨a, C, dx, vs, e, q1, q2, r⟩ => ⟨a, C, dx, vs, e, q1, k a _ q2 (fun _ e => by cases e), noLF_at k h r⟩
theorem noLL_at (k : ∀ t o, G' t = some o → isNL o → G2 t = some o) : ∀ {ds : List D} {vs : List V}, noLL ds = true → AtL K ca G' ds vs → AtL K ca G2 ds vs
  | [], _, _, a => a
  | d :: ds, _, h, ⟨v, r, e, a, t⟩ => by
    have h' : (noLD d && noLL ds) = true := h
    rw [Bool.and_eq_true] at h'
    exact ⟨v, r, e, noLD_at k h'.1 a, noLL_at k h'.2 t⟩
theorem noLK_at (k : ∀ t o, G' t = some o → isNL o → G2 t = some o) : ∀ {ds : List (Key × D)} {vs : List (Key × V)}, noLK ds = true → AtK K ca G' ds vs → AtK K ca G2 ds vs
  | [], _, _, a => a
  | (_, d) :: ds, _, h, ⟨v, r, e, a, t⟩ => by
    have h' : (noLD d && noLK ds) = true := h
    rw [Bool.and_eq_true] at h'
    exact ⟨v, r, e, noLD_at k h'.1 a, noLK_at k h'.2 t⟩
theorem noLT_at (k : ∀ t o, G' t = some o → isNL o → G2 t = some o) : ∀ {ds : List (List Key × D)} {vs : List (List Key × V)}, noLT ds = true → AtT K ca G' ds vs → AtT K ca G2 ds vs
  | [], _, _, a => a
  | (_, d) :: ds, _, h, ⟨v, r, e, a, t⟩ => by
    have h' : (noLD d && noLT ds) = true := h
    rw [Bool.and_eq_true] at h'
    exact ⟨v, r, e, noLD_at k h'.1 a, noLT_at k h'.2 t⟩
theorem noLF_at (k : ∀ t o, G' t = some o → isNL o → G2 t = some o) : ∀ {ds : List (Nat × D)} {vs : List (Str × V)}, noLF ds = true → AtF K ca G' ds vs → AtF K ca G2 ds vs
  | [], _, _, a => a
  | (_, d) :: ds, _, h, ⟨v, r, e, a, t⟩ => by
    have h' : (noLD d && noLF ds) = true := h
    rw [Bool.and_eq_true] at h'
    exact ⟨v, r, e, noLD_at k h'.1 a, noLF_at k h'.2 t⟩
end
mutual
def lsT : OT → Bool
  | .d _ => true
  | .l ts => lsL ts
  | _ => false
def lsL : List OT → Bool
  | [] => true
  | t :: ts => lsT t && lsL ts
end
mutual
theorem lsT_fp : ∀ {t : OT} {v : V} {fp : List Addr}, lsT t = true → NAt K ca G H t v fp → ∀ b ∈ fp, ∃ vs, H b = some (.lst vs)
  | .d _, _, _, _, ⟨_, e⟩, b, m => by rw [e] at m; cases m
  | .l ts, _, _, h, ⟨a, vs, fq, e, ha, hn, hf⟩, b, m => by
    rw [hf] at m
    rcases List.mem_cons.mp m with rfl | m
    · exact ⟨vs, ha⟩
    · exact lsL_fp h hn b m
  | .k _, _, _, h, _, _, _ => by cases h
  | .t _, _, _, h, _, _, _ => by cases h
  | .o _ _ _, _, _, h, _, _, _ => by cases h
theorem lsL_fp : ∀ {ts : List OT} {vs : List V} {fp : List Addr}, lsL ts = true → NAtL K ca G H ts vs fp → ∀ b ∈ fp, ∃ vs, H b = some (.lst vs)
  | [], _, _, _, h, b, m => by rw [h.2] at m; cases m
  | t :: ts, _, _, h, ⟨v, r, f1, f2, e, h1, h2, z⟩, b, m => by
    have h' : (lsT t && lsL ts) = true := h
    rw [Bool.and_eq_true] at h'
    rw [z] at m
    rcases List.mem_append.mp m with m | m
    · exact lsT_fp h'.1 h1 b m
    · exact lsL_fp h'.2 h2 b m
end
def onlyL : Ev → Bool
  | [] => true
  | .k _ :: _ => false
  | .t _ :: _ => false
  | .o _ _ _ :: _ => false
  | .tr t :: ρ => lsT t && onlyL ρ
  | _ :: ρ => onlyL ρ
theorem onlyL_own : ∀ {ρ : Ev} {i : Nat} {s : Sl}, onlyL ρ = true → ρ[i]? = some s → s.own = true → ∃ xs, s = .l xs
  | [], _, _, _, e, _ => by simp at e
  | t :: ρ, 0, s, h, e, o => by
    cases e
    cases t <;> first | exact ⟨_, rfl⟩ | exact (Bool.false_ne_true o).elim | exact (Bool.false_ne_true h).elim
  | t :: ρ, i + 1, s, h, e, o => by
    have h2 : onlyL ρ = true := by
      cases t <;> first | exact h | cases h | exact (Bool.and_eq_true_iff.mp h).2
    exact onlyL_own h2 (by simpa using e) o
theorem onlyL_tr : ∀ {ρ : Ev} {i : Nat} {t : OT}, onlyL ρ = true → ρ[i]? = some (.tr t) → lsT t = true
  | [], _, _, _, e => by simp at e
  | s :: ρ, 0, t, h, e => by
    cases e
    exact (Bool.and_eq_true_iff.mp h).1
  | s :: ρ, i + 1, t, h, e => by
    have h2 : onlyL ρ = true := by
      cases s <;> first | exact h | cases h | exact (Bool.and_eq_true_iff.mp h).2
    exact onlyL_tr h2 (by simpa using e)
end
def eBorL (f : Ev → R D) : Ev → R D := fun ρ => (f (frzA ρ)).quiet.bind fun d => if (noLD d && onlyL ρ) = true then .ok d else .bad
theorem fe_borL {X : Cx} {ca : Cn} {W : WX} {e : Expr} {f : Ev → R D} (h : FE X ca W e f) : FE X ca W e (eBorL f) := by
  obtain ⟨t, p, k⟩ := h.ex
  refine ⟨t, p, fun B G H σ ρ Q s b r w => ?_⟩
  obtain ⟨FP, nn⟩ := r.nst
  refine k B (lendH FP G H σ ρ) H σ _ Q (lend_H s) b (r.lend nn s) ?_
  obtain ⟨d, e1, w2⟩ := wish_quiet (show Wish X.K ca (SV X.K ca Q) G H ((f (frzA ρ)).quiet.bind fun d => if (noLD d && onlyL ρ) = true then .ok d else .bad) (WE W σ) from w)
  split at w2
  · rename_i hh
    obtain ⟨tl, oL⟩ := Bool.and_eq_true_iff.mp hh
    rw [e1]
    intro G' H' x v av
    let G2 : Hp := fun c => match G c with
      | some o => some o
      | none => @ite _ (Fre H c) (Classical.propDecidable _) (G' c) none
    have g2o : ∀ c o, G c = some o → G2 c = some o := fun c o e => by show (match G c with | some o => some o | none => _) = _; rw [e]
    have g2n : ∀ c, G c = none → Fre H c → G2 c = G' c := fun c e1 e2 => by
      show (match G c with | some o => some o | none => @ite _ (Fre H c) (Classical.propDecidable _) (G' c) none) = _
      rw [e1]
      exact if_pos e2
    have g2x : ∀ c, G c = none → ¬ Fre H c → G2 c = none := fun c e1 e2 => by
      show (match G c with | some o => some o | none => @ite _ (Fre H c) (Classical.propDecidable _) (G' c) none) = _
      rw [e1]
      exact if_neg e2
    have gH : Same G2 H' := fun c o e => by
      cases z : G c with
      | some o' =>
        rw [g2o c o' z] at e
        cases e
        exact x.hh _ _ (s _ _ z)
      | none =>
        by_cases y : Fre H c
        · rw [g2n c z y] at e
          exact x.gh _ _ e
        · rw [g2x c z y] at e; cases e
    have x2 : Ext G H G2 H' := ⟨x.hh, fun c o e => g2o c o e, gH, fun c m => by
      cases z : G c with
      | some o' => exact .inl (by simp)
      | none =>
        by_cases y : Fre H c
        · exact .inr y
        · exact absurd (g2x c z y) m⟩
    have lent : ∀ t o, G' t = some o → isNL o → G t = none → (∃ vs, H t = some (.lst vs)) → lendH FP G H σ ρ t = H t → False := fun t o e ti gn ⟨vs, h5⟩ hl => by
      have h6 := x.gg _ _ (hl.trans h5)
      rw [e] at h6
      cases h6
      exact ti vs rfl
    have kt : ∀ t o, G' t = some o → isNL o → G2 t = some o := fun t o e ti => by
      rcases x.nw t (by rw [e]; simp) with n | n
      · rcases lend_in n with n | ⟨n, (⟨i, sl, q1, q2, q3⟩ | ⟨i, tt, q1, q2⟩)⟩
        · cases z : G t with
          | none => exact absurd z n
          | some o' =>
            have := x.gg _ _ (lend_old (FP := FP) (H := H) (σ := σ) (ρ := ρ) t o' z)
            rw [e] at this
            cases this
            exact g2o _ _ z
        · obtain ⟨a', h1, h2, h3, h4⟩ := r.own i sl q1 q2
          rw [q3] at h1
          cases h1
          obtain ⟨xs, rfl⟩ := onlyL_own oL q1 q2
          obtain ⟨vs, h5, _⟩ := h2
          exact (lent t o e ti n ⟨vs, h5⟩ (lend_own (H := H) h3 (.inl ⟨i, _, q1, q2, q3⟩))).elim
        · obtain ⟨v0, _, na⟩ := nn.at_ i tt q1
          exact (lent t o e ti n (lsT_fp (onlyL_tr oL q1) na t q2) (lend_own (H := H) n (.inr ⟨i, tt, q1, q2⟩))).elim
      · cases z : G t with
        | none => rw [g2n t z n]; exact e
        | some o' =>
          have := x.gg _ _ (lend_old (FP := FP) (H := H) (σ := σ) (ρ := ρ) t o' z)
          rw [e] at this
          cases this
          exact g2o _ _ z
    exact w2 G2 H' x2 v (noLD_at kt tl av)
  · exact w2.elim
end Tk
namespace Tk
open PySem PySem.Spec L2 PyProof.Rows
def B__law_cell_1 : Ev → SO := sSet 2 (e2 gMod (e2 gAdd (eV 2) (e2 gMul (e2 gMul (e2 gAdd (eV 3) (eC (.int 3))) (e2 gMod (eA gAbs (aC (e2 gIx (eV 0) (eV 3)) (aN))) (eC (.int 1000003)))) (eC (.int 31)))) (eC (.int 1000003)))
def G__law_cell : Ev → SO := sSq (sIf (tV (e2 gLt (eV 1) (eA gLen (aC (eV 0) (aN))))) (sRet (e2 gIx (eV 0) (eV 1))) (sN)) (sSq (sSet 2 (e2 gMul (eC (.int 7919)) (e2 gAdd (eV 1) (eC (.int 1))))) (sSq (sFor (iR1 (eA gLen (aC (eV 0) (aN)))) (gN 3) (B__law_cell_1)) (sRet (eV 2))))
def F__law_cell : List D → R D := runF 4 G__law_cell
def G__law_part : Ev → SO := sRet (e2 gMod (e2 gDiv (eA gInt (aC (e2 gIx (eV 0) (eV 1)) (aN))) (eV 2)) (eV 3))
def F__law_part : List D → R D := runF 4 G__law_part
def B__law_names_1 : Ev → SO := sSet 4 (e2 gAdd (e2 gAdd (eV 4) (e2 gIx (eV 3) (eCall 4 F__law_part (aC (eV 0) (aC (e2 gAdd (eV 1) (eV 5)) (aC (eC (.int 1)) (aC (eC (.int 26)) (aN)))))))) (e2 gIx (eV 3) (eCall 4 F__law_part (aC (eV 0) (aC (e2 gAdd (eV 1) (eV 5)) (aC (eC (.int 26)) (aC (eC (.int 26)) (aN))))))))
def B__law_names_2 : Ev → SO := sSq (sSet 12 (e2 gMod (eA gInt (aC (e2 gAdd (eV 5) (eV 6)) (aN))) (eC (.int 6)))) (sIf (tV (e2 gEq (eCall 4 F__law_part (aC (eV 0) (aC (e2 gAdd (eV 1) (eC (.int 4))) (aC (eC (.int 1)) (aC (eC (.int 2)) (aN)))))) (eC (.int 0)))) (sApp 11 (e2 gAdd (e2 gAdd (e2 gAdd (eSl (eV 9) (oN) (oS (eV 7))) (e2 gIx (eV 3) (e2 gMod (eA gInt (aC (e2 gAdd (eV 8) (e2 gMul (eC (.int 7)) (eV 12))) (aN))) (eC (.int 26))))) (eSl (eV 9) (oS (eV 7)) (oN))) (eV 10))) (sApp 11 (eSl (eV 4) (oN) (oS (e2 gAdd (eV 12) (eC (.int 1)))))))
def G__law_names : Ev → SO := sSq (sSet 3 (eC (.str "abcdefghijklmnopqrstuvwxyz"))) (sSq (sSet 4 (eC (.str ""))) (sSq (sFor (iR1 (eC (.int 3))) (gN 5) (B__law_names_1)) (sSq (sSet 6 (eCall 4 F__law_part (aC (eV 0) (aC (e2 gAdd (eV 1) (eC (.int 3))) (aC (eC (.int 1)) (aC (eC (.int 6)) (aN))))))) (sSq (sSet 7 (eCall 4 F__law_part (aC (eV 0) (aC (e2 gAdd (eV 1) (eC (.int 3))) (aC (eC (.int 6)) (aC (eC (.int 7)) (aN))))))) (sSq (sSet 8 (eCall 4 F__law_part (aC (eV 0) (aC (e2 gAdd (eV 1) (eC (.int 3))) (aC (eC (.int 42)) (aC (eC (.int 26)) (aN))))))) (sSq (sSet 9 (eSl (eV 4) (oN) (oS (eCall 4 F__law_part (aC (eV 0) (aC (e2 gAdd (eV 1) (eC (.int 4))) (aC (eC (.int 4)) (aC (eC (.int 7)) (aN))))))))) (sSq (sSet 10 (eSl (eV 4) (oN) (oS (eCall 4 F__law_part (aC (eV 0) (aC (e2 gAdd (eV 1) (eC (.int 4))) (aC (eC (.int 2)) (aC (eC (.int 2)) (aN))))))))) (sSq (sOwn 11 (lDisp (aN))) (sSq (sFor (iR1 (eV 2)) (gN 5) (B__law_names_2)) (sFrz 11 (sRet (eV 11))))))))))))
def F__law_names : List D → R D := runF 13 G__law_names
def G__law_integer : Ev → SO := sRet (eAnd (eA gIsi (aC (eV 0) (aC (eC (.ty "int")) (aN)))) (eNot (eA gIsi (aC (eV 0) (aC (eC (.ty "bool")) (aN))))))
def F__law_integer : List D → R D := runF 1 G__law_integer
def B__law_same_1 (Fr : List D → R D) : Ev → SO := sIf (tNot (tV (eCall 2 Fr (aC (e2 gIx (eV 0) (eV 2)) (aC (e2 gIx (eV 1) (eV 2)) (aN)))))) (sRet (eC (.bl false))) (sN)
def G__law_same (Fr : List D → R D) : Ev → SO := sSq (sIf (tV (e2 gIsN (eV 1) (eC .non))) (sRet (e2 gIsN (eV 0) (eC .non))) (sN)) (sSq (sIf (tV (e2 (gIsB false) (eV 1) (eC (.bl true)))) (sRet (e2 (gIsB false) (eV 0) (eC (.bl true)))) (sN)) (sSq (sIf (tV (e2 (gIsB false) (eV 1) (eC (.bl false)))) (sRet (e2 (gIsB false) (eV 0) (eC (.bl false)))) (sN)) (sSq (sIf (tV (eA gIsi (aC (eV 1) (aC (eC (.ty "int")) (aN))))) (sRet (eAnd (eCall 1 F__law_integer (aC (eV 0) (aN))) (e2 gEq (eV 0) (eV 1)))) (sN)) (sSq (sIf (tV (eA gIsi (aC (eV 1) (aC (eC (.ty "str")) (aN))))) (sRet (eAnd (eA gIsi (aC (eV 0) (aC (eC (.ty "str")) (aN)))) (e2 gEq (eV 0) (eV 1)))) (sN)) (sSq (sIf (tAnd (tV (eA gIsi (aC (eV 1) (aC (eC (.ty "tuple")) (aN))))) (tNot (tV (eA gIsi (aC (eV 0) (aC (eC (.ty "tuple")) (aN))))))) (sRet (eC (.bl false))) (sN)) (sSq (sIf (tAnd (tV (eA gIsi (aC (eV 1) (aC (eC (.ty "list")) (aN))))) (tNot (tV (eA gIsi (aC (eV 0) (aC (eC (.ty "list")) (aN))))))) (sRet (eC (.bl false))) (sN)) (sSq (sIf (tV (e2 gNe (eA gLen (aC (eV 0) (aN))) (eA gLen (aC (eV 1) (aN))))) (sRet (eC (.bl false))) (sN)) (sSq (sFor (iR1 (eA gLen (aC (eV 1) (aN)))) (gN 2) (B__law_same_1 Fr)) (sRet (eC (.bl true)))))))))))
def Fr__law_same : Nat → List D → R D
  | 0 => runF 3 sBad
  | n + 1 => runF 3 (G__law_same (Fr__law_same n))
def F__law_same : List D → R D := Fr__law_same 6
def G_is_name : Ev → SO := sSq (sIf (tNot (tV (eChain gLe gLe (eC (.int 1)) (eA gLen (aC (eV 0) (aN))) (eC (.int 8))))) (sRet (eC (.bl false))) (sN)) (sRet (eA gAll (aC (eLc [1] (iSq (eV 0)) (gN 1) (tsY) (e2 (gInS false) (eV 1) (eC (.str "abcdefghijklmnopqrstuvwxyz")))) (aN))))
def F_is_name : List D → R D := runF 2 G_is_name
noncomputable def B__law_ballots_1 : Ev → SO := sAppPop 7 6 (eBor (e2 gMod (eCall 4 F__law_part (aC (eV 0) (aC (e2 gAdd (e2 gAdd (eV 1) (e2 gMul (eC (.int 2)) (eV 5))) (eC (.int 1))) (aC (e2 gIx (eA gLst (aC (eC (.int 1)) (aC (eC (.int 4)) (aC (eC (.int 12)) (aC (eC (.int 24)) (aN)))))) (eV 8)) (aC (e2 gIx (eA gLst (aC (eC (.int 4)) (aC (eC (.int 3)) (aC (eC (.int 2)) (aC (eC (.int 1)) (aN)))))) (eV 8)) (aN)))))) (eA gLen (aC (eV 6) (aN)))))
noncomputable def B__law_ballots_2 : Ev → SO := sSq (sOwn 6 (lList (eV 2))) (sSq (sOwn 7 (lDisp (aN))) (sSq (sFor (iR1 (e2 gMod (eCall 4 F__law_part (aC (eV 0) (aC (e2 gAdd (eV 1) (e2 gMul (eC (.int 2)) (eV 5))) (aC (eC (.int 1)) (aC (eC (.int 60)) (aN)))))) (e2 gAdd (eA gLen (aC (eV 2) (aN))) (eC (.int 1))))) (gN 8) (B__law_ballots_1)) (sSq (sSet 9 (eCall 4 F__law_part (aC (eV 0) (aC (e2 gAdd (eV 1) (e2 gMul (eC (.int 2)) (eV 5))) (aC (eC (.int 60)) (aC (eC (.int 7)) (aN))))))) (sSq (sIf (tV (e2 gEq (eCall 4 F__law_part (aC (eV 0) (aC (e2 gAdd (eV 1) (e2 gMul (eC (.int 2)) (eV 5))) (aC (eC (.int 420)) (aC (eC (.int 12)) (aN)))))) (eC (.int 11)))) (sSet 9 (e2 gSub (e2 gPow (eC (.int 10)) (eC (.int 9))) (eV 9))) (sN)) (sFrz 7 (sApp 4 (eA gTup (aC (eA gTuple (aC (eV 7) (aN))) (aC (eV 9) (aN))))))))))
noncomputable def G__law_ballots : Ev → SO := sSq (sOwn 4 (lDisp (aN))) (sSq (sFor (iR1 (eV 3)) (gN 5) (B__law_ballots_2)) (sFrz 4 (sRet (eV 4))))
noncomputable def F__law_ballots : List D → R D := runF 10 G__law_ballots
noncomputable def G__law_big : Ev → SO := sSq (sSet 4 (e2 gAdd (e2 gAdd (e2 gMul (e2 gMod (eA gInt (aC (e2 gIx (eV 0) (eV 1)) (aN))) (eC (.int 5040))) (eC (.int 25401600))) (e2 gMul (e2 gMod (eA gInt (aC (e2 gIx (eV 0) (e2 gAdd (eV 1) (eC (.int 1)))) (aN))) (eC (.int 5040))) (eC (.int 5040)))) (e2 gMod (eA gInt (aC (e2 gIx (eV 0) (e2 gAdd (eV 1) (eC (.int 2)))) (aN))) (eC (.int 5040))))) (sRet (e2 gAdd (eV 2) (e2 gMod (eA gInt (aC (eV 4) (aN))) (e2 gAdd (e2 gSub (eV 3) (eV 2)) (eC (.int 1))))))
noncomputable def F__law_big : List D → R D := runF 5 G__law_big
noncomputable def B__law_all_ballots_1 : Ev → SO := sSq (sApp 3 (eV 4)) (sIf (tV (e2 gEq (eA gLen (aC (eV 4) (aN))) (eV 2))) (sFrz 3 (sNew 3 (oBor (nL (lCat (eV 3) (eLc [5] (iSq (eV 0)) (gN 5) (tV (e2 (gInS true) (eV 5) (eV 4))) (e2 gAdd (eV 4) (eA gTup (aC (eV 5) (aN)))))))))) (sN))
noncomputable def B__law_all_ballots_2 : Ev → SO := sSq (sOwn 3 (lDisp (aN))) (sSq (sFor (iSq (eA gList (aC (eV 1) (aN)))) (gN 4) (B__law_all_ballots_1)) (sFrz 3 (sSet 1 (eV 3))))
noncomputable def G__law_all_ballots : Ev → SO := sSq (sSet 1 (eA gLst (aC (eA gTup (aN)) (aN)))) (sSq (sFor (iR1 (eA gLen (aC (eV 0) (aN)))) (gN 2) (B__law_all_ballots_2)) (sRet (eV 1)))
noncomputable def F__law_all_ballots : List D → R D := runF 6 G__law_all_ballots
noncomputable def G__law_each_ballot : Ev → SO := sSq (sSet 2 (e2 gIx (eA gLst (aC (eC (.int 2)) (aC (eC (.int 4)) (aC (eC (.int 70)) (aN))))) (eCall 4 F__law_part (aC (eV 1) (aC (eC (.int 33)) (aC (eC (.int 1)) (aC (eC (.int 3)) (aN)))))))) (sSq (sSet 3 (eCall 1 F__law_all_ballots (aC (eV 0) (aN)))) (sRet (eLc [4] (iR1 (eA gLen (aC (eV 3) (aN)))) (gN 4) (tsY) (eA gTup (aC (e2 gIx (eV 3) (eV 4)) (aC (e2 gMod (eCall 4 F__law_part (aC (eV 1) (aC (e2 gDiv (eV 4) (eC (.int 2))) (aC (e2 gIx (eA gLst (aC (eC (.int 1)) (aC (eC (.int 70)) (aN)))) (e2 gMod (eV 4) (eC (.int 2)))) (aC (eC (.int 70)) (aN)))))) (eV 2)) (aN)))))))
noncomputable def F__law_each_ballot : List D → R D := runF 5 G__law_each_ballot
noncomputable def G__law_mixed_k15 : Ev → SO := sSq (sSet 2 (e2 gMod (e2 gAdd (e2 gMul (e2 gMod (eA gAbs (aC (eV 0) (aN))) (eC (.int 2147483647))) (eC (.int 48271))) (e2 gMul (e2 gAdd (eV 1) (eC (.int 1))) (eC (.int 69621)))) (eC (.int 2147483647)))) (sSq (sSet 2 (e2 gMod (e2 gAdd (e2 gAdd (e2 gMul (eV 2) (eC (.int 16807))) (e2 gDiv (eV 2) (eC (.int 127773)))) (e2 gMul (e2 gAdd (eV 1) (eC (.int 7))) (eC (.int 7919)))) (eC (.int 2147483629)))) (sRet (e2 gDiv (eV 2) (eC (.int 11)))))
noncomputable def F__law_mixed_k15 : List D → R D := runF 3 G__law_mixed_k15
noncomputable def B__law_pool_k15_1 : Ev → SO := sIf (tAnd (tV (eV 3)) (tV (e2 gGt (eV 2) (eC (.int 0))))) (sSq (sApp 4 (e2 gMod (eV 2) (eC (.int 5040)))) (sSet 2 (e2 gDiv (eV 2) (eC (.int 5040))))) (sApp 4 (eCall 2 F__law_mixed_k15 (aC (eV 0) (aC (eV 5) (aN)))))
noncomputable def G__law_pool_k15 : Ev → SO := sSq (sSet 2 (eA gAbs (aC (eV 0) (aN)))) (sSq (sSet 3 (e2 gGe (eV 2) (e2 gPow (eC (.int 10)) (eC (.int 18))))) (sSq (sOwn 4 (lDisp (aN))) (sSq (sFor (iR1 (eV 1)) (gN 5) (B__law_pool_k15_1)) (sFrz 4 (sRet (eV 4))))))
noncomputable def F__law_pool_k15 : List D → R D := runF 6 G__law_pool_k15
noncomputable def G_Roll___iter__ : Ev → SO := sRet (e1 (gFld [52] 51) (eV 0))
noncomputable def F_Roll___iter__ : List D → R D := runF 1 G_Roll___iter__
noncomputable def B_check_ballot_1 : Ev → SO := sSq (sIf (tV (e2 (gInS true) (eV 3) (eV 0))) (sBad) (sN)) (sIf (tV (e2 (gInS false) (eV 3) (eSl (eV 1) (oN) (oS (eV 2))))) (sBad) (sN))
noncomputable def G_check_ballot : Ev → SO := sFor (iEn2 (eV 1)) (gT 2 (gsC (gN 2) (gsC (gN 3) (gsN)))) (B_check_ballot_1)
noncomputable def F_check_ballot : List D → R D := runF 4 G_check_ballot
noncomputable def B_checked_names_1 : Ev → SO := sSq (sIf (tAnd (tNot (tV (eCall 1 F_is_name (aC (eV 4) (aN))))) (tNot (tAnd (tV (eV 2)) (tV (e2 gEq (eV 4) (eC (.str ""))))))) (sBad) (sN)) (sIf (tV (e2 (gInS false) (eV 4) (eSl (eV 0) (oN) (oS (eV 3))))) (sBad) (sN))
noncomputable def G_checked_names : Ev → SO := sSq (sIf (tNot (tV (eChain gLe gLe (eC (.int 1)) (eA gLen (aC (eV 0) (aN))) (eV 1)))) (sBad) (sN)) (sSq (sFor (iEn2 (eV 0)) (gT 2 (gsC (gN 3) (gsC (gN 4) (gsN)))) (B_checked_names_1)) (sRet (eA gTupZ (aC (eV 0) (aN)))))
noncomputable def F_checked_names : List D → R D := runF 5 G_checked_names
noncomputable def G_ordered_rows : Ev → SO := sSq (sSet 2 (eFrz (nDc [5, 6] (iEn2 (eV 0)) (gT 2 (gsC (gN 5) (gsC (gN 6) (gsN)))) (tsY) (eV 6) (eV 5)))) (sSq (sSet 3 (eA gSrtT (aC (eLckT 1 (eLc [7] (iKeyT (eV 1)) (gN 7) (tV (e2 gGt (e2 gIxA (eV 1) (eV 7)) (eC (.int 0)))) (eA gTuple (aC (eLc [6] (iSq (eV 7)) (gN 6) (tsY) (e2 gIxA (eV 2) (eV 6))) (aN))))) (aN)))) (sSq (sSet 4 (eLc [8] (iSq (eV 3)) (gN 8) (tsY) (eA gTuple (aC (eLc [5] (iSq (eV 8)) (gN 5) (tsY) (e2 gIx (eV 0) (eV 5))) (aN))))) (sRet (eA gTuple (aC (eLc [7] (iSq (eV 4)) (gN 7) (tsY) (eA gTup (aC (eV 7) (aC (e2 gIxA (eV 1) (eV 7)) (aN))))) (aN))))))
noncomputable def F_ordered_rows : List D → R D := runF 9 G_ordered_rows
noncomputable def B_Roll___init___1 : Ev → SO := sSq (sDrop (eCall 2 F_check_ballot (aC (eFldO [52] 0 44) (aC (eV 5) (aN))))) (sSq (sIf (tOr (tV (e2 gLt (eV 6) (eC (.int 0)))) (tAnd (tV (e2 gNotN (eV 3) (eC .non))) (tV (e2 gGt (eV 6) (eV 3))))) (sBad) (sN)) (sPutT 4 (eV 5) (eBor (e2 gAdd (eGet2 (eV 4) (eV 5) (eC (.int 0))) (eV 6)))))
noncomputable def G_Roll___init__ : Ev → SO := sSq (sFldO [52] 0 44 (eCallK 2 0 3 F_checked_names (gDk [0, 1, 2] [.bl false]) (aC (eV 1) (aC (eC (.int 4)) (aN))) (aN))) (sSq (sNew 4 nDT) (sSq (sFor (iSq (eV 2)) (gT 2 (gsC (gN 5) (gsC (gN 6) (gsN)))) (B_Roll___init___1)) (sSq (sFrz 4 (sFldO [52] 0 51 (eCall 2 F_ordered_rows (aC (eFldO [52] 0 44) (aC (eV 4) (aN)))))) (sFldO [52] 0 4 (eA gSum (aC (eLc [5, 6] (iSq (eFldO [52] 0 51)) (gT 2 (gsC (gN 5) (gsC (gN 6) (gsN)))) (tsY) (eV 6)) (aN)))))))
noncomputable def F_Roll___init__ : Addr → List D → R (List (Nat × D)) := runI 52 7 G_Roll___init__
noncomputable def G_Roll_of : Ev → SO := sRetF (nMakeVK 52 2 0 4 F_Roll___init__ (gDk [0, 1, 3] [.tp0, .int 1000000000]) (eV 0) (aC (eV 1) (aC (eLc [4] (iSq (eV 3)) (gN 4) (tsY) (eA gTup (aC (eV 4) (aC (eV 2) (aN))))) (aN))) (aN))
noncomputable def F_Roll_of : List D → R Sl := runO 5 G_Roll_of
noncomputable def B__law_strange_1 : Ev → SO := sIf (tV (e2 (gInS true) (eV 1) (eV 0))) (sRet (eV 1)) (sN)
noncomputable def G__law_strange : Ev → SO := sSq (sFor (iSq (eC (.str "abcdefghijklmnopqrstuvwxyz"))) (gN 1) (B__law_strange_1)) (sRet (eC (.str "zzzzzzzz")))
noncomputable def F__law_strange : List D → R D := runF 2 G__law_strange
noncomputable def G__law_times : Ev → SO := sRet (eA gSum (aC (eLc [2, 3] (iSq (eV 0)) (gT 2 (gsC (gN 2) (gsC (gN 3) (gsN)))) (tV (e2 gEq (eV 2) (eV 1))) (eV 3)) (aN)))
noncomputable def F__law_times : List D → R D := runF 4 G__law_times
noncomputable def B_Roll___getitem___1 : Ev → SO := sIf (tV (e2 gEq (eV 2) (eV 1))) (sRet (eV 3)) (sN)
noncomputable def G_Roll___getitem__ : Ev → SO := sSq (sFor (iSq (e1 (gFld [52] 51) (eV 0))) (gT 2 (gsC (gN 2) (gsC (gN 3) (gsN)))) (B_Roll___getitem___1)) (sRet (eC (.int 0)))
noncomputable def F_Roll___getitem__ : List D → R D := runF 4 G_Roll___getitem__
noncomputable def G_Roll___contains__ : Ev → SO := sRet (e2 gGt (e2 (gDun 52 F_Roll___getitem__) (eV 0) (eV 1)) (eC (.int 0)))
noncomputable def F_Roll___contains__ : List D → R D := runF 2 G_Roll___contains__
noncomputable def G_Roll___len__ : Ev → SO := sRet (eA gLen (aC (e1 (gFld [52] 51) (eV 0)) (aN)))
noncomputable def F_Roll___len__ : List D → R D := runF 1 G_Roll___len__
end Tk
namespace Tk
open PySem PySem.Spec L2 PyProof.Rows
def SO.sq (s : SO) (k : Ev → SO) : SO := match s with
  | .nx ρ => k ρ
  | r => r
def SO.lp (s : SO) (k : Ev → SO) : SO := match s with
  | .nx ρ => k ρ
  | .ct ρ => k ρ
  | .bk ρ => .nx ρ
  | r => r
section
variable {ρ : Ev} {k g : Ev → SO} {f fa fb fc : Ev → R D} {t u : Ev → R Bool} {fl : Ev → R (List D)} {d : D} {x : Ex} {i n : Nat} {s : Sl} {xs ds : List D}
@[simp] theorem sq_nx : SO.sq (.nx ρ) k = k ρ := (rfl)
@[simp] theorem sq_rt : SO.sq (.rt d) k = .rt d := (rfl)
@[simp] theorem sq_ro {s : Sl} : SO.sq (.ro s) k = .ro s := (rfl)
@[simp] theorem sq_bk : SO.sq (.bk ρ) k = .bk ρ := (rfl)
@[simp] theorem sq_ct : SO.sq (.ct ρ) k = .ct ρ := (rfl)
@[simp] theorem sq_ex : SO.sq (.ex x ρ) k = .ex x ρ := (rfl)
@[simp] theorem sq_bad : SO.sq .bad k = .bad := (rfl)
@[simp] theorem lp_nx : SO.lp (.nx ρ) k = k ρ := (rfl)
@[simp] theorem lp_ct : SO.lp (.ct ρ) k = k ρ := (rfl)
@[simp] theorem lp_bk : SO.lp (.bk ρ) k = .nx ρ := (rfl)
@[simp] theorem lp_rt : SO.lp (.rt d) k = .rt d := (rfl)
@[simp] theorem lp_ro {s : Sl} : SO.lp (.ro s) k = .ro s := (rfl)
@[simp] theorem lp_ex : SO.lp (.ex x ρ) k = .ex x ρ := (rfl)
@[simp] theorem lp_bad : SO.lp .bad k = .bad := (rfl)
@[simp] theorem sSq_ap : sSq g k ρ = SO.sq (g ρ) k := by unfold sSq SO.sq; cases g ρ <;> rfl
@[simp] theorem sN_ap : sN ρ = .nx ρ := (rfl)
@[simp] theorem sBad_ap : sBad ρ = .bad := (rfl)
@[simp] theorem sRet_ap : sRet f ρ = SO.from ρ (f ρ) .rt := (rfl)
@[simp] theorem sRetN_ap : sRetN ρ = .rt .non := (rfl)
@[simp] theorem sDrop_ap : sDrop f ρ = SO.from ρ (f ρ) fun _ => .nx ρ := (rfl)
@[simp] theorem sIf_ap : sIf t g k ρ = SO.from ρ (t ρ) fun b => if b = true then g ρ else k ρ := (rfl)
@[simp] theorem sSet_ap : sSet i f ρ = SO.from ρ (f ρ) fun d => .nx (ρ.set i (.v d)) := (rfl)
@[simp] theorem sBk_ap : sBk ρ = .bk ρ := (rfl)
@[simp] theorem sCt_ap : sCt ρ = .ct ρ := (rfl)
@[simp] theorem sAsg_ap {h : Tg} : sAsg f h ρ = SO.from ρ (f ρ) fun d => SO.ofO (h d ρ) .nx := (rfl)
@[simp] theorem ofO_none : SO.ofO none k = .bad := (rfl)
@[simp] theorem sFor_ap {h : Tg} : sFor fl h g ρ = SO.from ρ (fl ρ) fun ds => loop h g ds ρ := (rfl)
@[simp] theorem loop_nil {h : Tg} : loop h g [] ρ = .nx ρ := (rfl)
theorem loop_cons {h : Tg} : loop h g (d :: ds) ρ = SO.ofO (h d ρ) fun ρ1 => SO.lp (g ρ1) (loop h g ds) := by
  unfold loop SO.lp SO.ofO
  cases h d ρ with
  | none => rfl
  | some ρ1 =>
    show (match g ρ1 with
      | .nx ρ2 => loop h g ds ρ2
      | .ct ρ2 => loop h g ds ρ2
      | .bk ρ2 => .nx ρ2
      | r => r) = _
    cases e : g ρ1 <;> simp only [e]
@[simp] theorem eV_zero : eV 0 (.v d :: ρ) = .ok d := (rfl)
@[simp] theorem eV_succ : eV (i + 1) (s :: ρ) = eV i ρ := (rfl)
@[simp] theorem eC_ap : eC d ρ = .ok d := (rfl)
@[simp] theorem e1_ap {h : D → R D} : e1 h fa ρ = (fa ρ).bind h := (rfl)
@[simp] theorem e2_ap {h : D → D → R D} : e2 h fa fb ρ = (fa ρ).bind fun a => (fb ρ).bind fun b => h a b := (rfl)
@[simp] theorem eA_ap {h : List D → R D} : eA h fl ρ = (fl ρ).bind h := (rfl)
@[simp] theorem aN_ap : aN ρ = .ok [] := (rfl)
@[simp] theorem aC_ap : aC fa fl ρ = (fa ρ).bind fun a => (fl ρ).bind fun r => .ok (a :: r) := (rfl)
@[simp] theorem Bof_bl {b : Bool} : Bof (.bl b) = .ok b := (rfl)
@[simp] theorem tV_ap : tV fa ρ = (fa ρ).bind Bof := (rfl)
@[simp] theorem tAnd_ap : tAnd t u ρ = (t ρ).bind fun b => if b = true then u ρ else .ok false := (rfl)
@[simp] theorem tOr_ap : tOr t u ρ = (t ρ).bind fun b => if b = true then .ok true else u ρ := (rfl)
@[simp] theorem tNot_ap : tNot t ρ = (t ρ).bind fun b => .ok (!b) := (rfl)
@[simp] theorem eAnd_ap : eAnd fa fb ρ = (fa ρ).bind fun a => (Bof a).bind fun b => if b = true then fb ρ else .ok (.bl false) := (rfl)
@[simp] theorem eOr_ap : eOr fa fb ρ = (fa ρ).bind fun a => (Bof a).bind fun b => if b = true then .ok (.bl true) else fb ρ := (rfl)
@[simp] theorem eNot_ap : eNot fa ρ = (fa ρ).bind fun a => (Bof a).bind fun b => .ok (.bl (!b)) := (rfl)
@[simp] theorem eIf_ap : eIf t fa fb ρ = (t ρ).bind fun b => if b = true then fa ρ else fb ρ := (rfl)
@[simp] theorem eChain_ap {h h' : D → D → R D} : eChain h h' fa fb fc ρ = (fa ρ).bind fun a => (fb ρ).bind fun b => (h a b).bind fun z => (Bof z).bind fun k => if k = true then (fc ρ).bind fun c => h' b c else .ok (.bl false) := (rfl)
@[simp] theorem gN_ap : gN i d ρ = some (ρ.set i (.v d)) := (rfl)
@[simp] theorem gsN_ap : gsN [] ρ = some ρ := (rfl)
@[simp] theorem gsC_ap {h : Tg} {r : Tgs} : gsC h r (d :: ds) ρ = (h d ρ).bind fun ρ' => r ds ρ' := (rfl)
@[simp] theorem gT_ap {h : Tgs} : gT n h (.tup ds) ρ = if ds.length = n then h ds ρ else none := (rfl)
@[simp] theorem frzE_zero : frzE 0 (s :: ρ) = frzS s :: ρ := (rfl)
@[simp] theorem frzE_succ : frzE (i + 1) (s :: ρ) = s :: frzE i ρ := by
  unfold frzE
  rw [List.getElem?_cons_succ]
  cases ρ[i]? <;> rfl
@[simp] theorem frzS_l : frzS (.l xs) = .v (.lst xs) := (rfl)
@[simp] theorem frzS_v : frzS (.v d) = .v d := (rfl)
@[simp] theorem frzS_no : frzS .no = .no := (rfl)
@[simp] theorem frzA_nil : frzA [] = [] := (rfl)
@[simp] theorem frzA_cons : frzA (s :: ρ) = frzS s :: frzA ρ := (rfl)
@[simp] theorem sFrz_ap : sFrz i g ρ = g (frzE i ρ) := (rfl)
@[simp] theorem ownL_zero : ownL (.l xs :: ρ) 0 = .ok xs := (rfl)
@[simp] theorem ownL_succ : ownL (s :: ρ) (i + 1) = ownL ρ i := (rfl)
@[simp] theorem lDisp_ap : lDisp fl ρ = (fl ρ).bind fun ds => if ds.length ≤ sizeLine then .ok ds else .bad := (rfl)
@[simp] theorem lList_ap : lList f ρ = (f ρ).bind fun d => match d with
  | .lst xs => .ok xs
  | .tup xs => .ok xs
  | .scr ns => .ok (ns.map .int)
  | _ => .bad := (rfl)
@[simp] theorem sOwn_ap : sOwn i fl ρ = SO.from ρ (fl ρ) fun ds => .nx (ρ.set i (.l ds)) := (rfl)
@[simp] theorem sApp_ap : sApp i f ρ = SO.from ρ (ownL ρ i) fun xs => SO.from ρ (f ρ) fun d => if xs.length < sizeLine then .nx (ρ.set i (.l (xs ++ [d]))) else .bad := (rfl)
@[simp] theorem sMut_ap {h : List D → List D → Option (List D)} : sMut i h fl ρ = SO.from ρ (ownL ρ i) fun xs => SO.from ρ (fl ρ) fun ds => match h xs ds with
  | some xs' => .nx (ρ.set i (.l xs'))
  | none => .bad := (rfl)
@[simp] theorem sPop_ap : sPop i ρ = SO.from ρ (ownL ρ i) fun xs => if xs.length = 0 then .bad else .nx (ρ.set i (.l xs.dropLast)) := (rfl)
@[simp] theorem eBor_ap : eBor f ρ = (f (frzA ρ)).quiet.bind fun d => if scalD d = true then .ok d else .bad := (rfl)
@[simp] theorem tBor_ap : tBor t ρ = (t (frzA ρ)).quiet := (rfl)
@[simp] theorem wipeE_nil : wipeE ρ [] = ρ := (rfl)
@[simp] theorem wipeE_cons {vs : List Nat} : wipeE ρ (i :: vs) = (wipeE ρ vs).set i .no := (rfl)
@[simp] theorem eLc_ap {zs : List Nat} {h : Tg} : eLc zs fl h t f ρ = (fl ρ).bind fun ds => if ds.length ≤ sizeLine then (lcL h t f (wipeE ρ zs) ds).bind fun rs => .ok (.lst rs) else .bad := (rfl)
@[simp] theorem tsY_ap : tsY ρ = .ok true := (rfl)
@[simp] theorem iSq_ap : iSq fa ρ = (fa ρ).bind gIt := (rfl)
@[simp] theorem gIt_lst : gIt (.lst xs) = .ok xs := (rfl)
@[simp] theorem gIt_tup : gIt (.tup xs) = .ok xs := (rfl)
@[simp] theorem gIt_str {z : Str} : gIt (.str z) = .ok (signs z) := (rfl)
@[simp] theorem iR1_ap : iR1 fa ρ = (fa ρ).bind fun d => match d with
  | .int j => if small62 j then .ok (rgD 0 j.toNat) else .bad
  | _ => .bad := (rfl)
@[simp] theorem iR2_ap : iR2 fa fb ρ = (fa ρ).bind fun a => (fb ρ).bind fun b => match a, b with
  | .int i, .int j => if small62 i ∧ small62 j then .ok (rgD i (j - i).toNat) else .bad
  | _, _ => .bad := (rfl)
@[simp] theorem iEn2_ap : iEn2 fa ρ = (fa ρ).bind fun d => (optR (seqD d)).bind fun x => .ok (enumD 0 x.2) := (rfl)
@[simp] theorem iZp2_ap : iZp2 fa fb ρ = (fa ρ).bind fun a => (fb ρ).bind fun b => (optR (seqD a)).bind fun x => (optR (seqD b)).bind fun y => .ok (zipD x.2 y.2) := (rfl)
@[simp] theorem seqD_lst : seqD (.lst xs) = some (false, xs) := (rfl)
@[simp] theorem seqD_tup : seqD (.tup xs) = some (true, xs) := (rfl)
@[simp] theorem oN_ap : oN ρ = .ok none := (rfl)
@[simp] theorem oS_ap : oS f ρ = (f ρ).bind fun d => match d with
  | .int i => .ok (some i)
  | _ => .bad := (rfl)
@[simp] theorem eSl_ap {ga gb : Ev → R (Option Int)} : eSl fa ga gb ρ = (fa ρ).bind fun a => (ga ρ).bind fun l => (gb ρ).bind fun h => gSl a l h := (rfl)
@[simp] theorem eCall_ap {F : List D → R D} : eCall n F fl ρ = (fl ρ).bind fun ds => if ds.length = n then F ds else .bad := (rfl)
@[simp] theorem eCallK_ap {m p : Nat} {F : List D → R D} {gD : List D → List D → List D} {fk : Ev → R (List D)} : eCallK n m p F gD fl fk ρ = (fl ρ).bind fun ds => (fk ρ).bind fun zs => if ds.length = n ∧ zs.length = m ∧ (gD ds zs).length = p then F (gD ds zs) else .bad := (rfl)
@[simp] theorem out_nx : SO.out (.nx ρ) = .ok .non := (rfl)
@[simp] theorem out_rt : SO.out (.rt d) = .ok d := (rfl)
@[simp] theorem out_ro {s : Sl} : SO.out (.ro s) = frzR s := (rfl)
@[simp] theorem out_ex : SO.out (.ex x ρ) = .exc x := (rfl)
@[simp] theorem nL_ap : nL fl ρ = (fl ρ).bind fun ds => .ok (.l ds) := (rfl)
@[simp] theorem own_lT {xs : List D} : Sl.own (.l xs) = true := (rfl)
@[simp] theorem sNew_ap {f : Ev → R Sl} : sNew i f ρ = SO.from ρ (f ρ) fun s => if s.own = true then .nx (ρ.set i s) else .bad := (rfl)
@[simp] theorem sRetV_ap {i : Nat} : sRetV i ρ = (match ρ[i]? with
  | some s => if s.own = true then .ro s else .bad
  | none => .bad) := (rfl)
@[simp] theorem sRetF_ap {f : Ev → R Sl} : sRetF f ρ = SO.from ρ (f ρ) fun s => if s.own = true then .ro s else .bad := (rfl)
@[simp] theorem runO_ap : runO n g ds = (g (startE n ds)).outO := (rfl)
@[simp] theorem outO_ro {s : Sl} : SO.outO (.ro s) = .ok s := (rfl)
@[simp] theorem oCall_ap {F : List D → R Sl} : oCall n F fl ρ = (fl ρ).bind fun ds => if ds.length = n then F ds else .bad := (rfl)
@[simp] theorem lLc_ap {zs : List Nat} {h : Tg} {t : Ev → R Bool} {fe : Ev → R D} : lLc zs fl h t fe ρ = (fl ρ).bind fun ds => if ds.length ≤ sizeLine then (lcL h t fe (wipeE ρ zs) ds).bind fun rs => .ok rs else .bad := (rfl)
@[simp] theorem sPutL_ap {f fi : Ev → R D} : sPutL i f fi ρ = SO.from ρ (f ρ) fun d => SO.from ρ (ownL ρ i) fun xs => SO.from ρ (fi ρ) fun n => match n with
  | .int k => (match ixN xs.length k with
    | some j => .nx (ρ.set i (.l (xs.set j d)))
    | none => .bad)
  | _ => .bad := (rfl)
@[simp] theorem eOwnIx_ap {fi : Ev → R D} : eOwnIx i fi ρ = (ownL ρ i).bind fun xs => (fi ρ).bind fun n => gIx (.lst xs) n := (rfl)
@[simp] theorem frzR_l {xs : List D} : frzR (.l xs) = .ok (.lst xs) := (rfl)
@[simp] theorem runF_ap : runF n g ds = (g (startE n ds)).out := (rfl)
@[simp] theorem start_nil : startE n [] = List.replicate n .no := (rfl)
theorem start_cons : startE (n + 1) (d :: ds) = .v d :: startE n ds := by
  unfold startE
  rw [List.map_cons, List.cons_append, List.length_cons, Nat.add_sub_add_right]
@[simp] theorem start_cons' : startE n (d :: ds) = if n = 0 then .v d :: ds.map .v else .v d :: startE (n - 1) ds := by
  cases n with
  | zero => simp [startE]
  | succ n => rw [start_cons]; simp
@[simp] theorem gSub_int {i j : Int} : gSub (.int i) (.int j) = .ok (.int (i - j)) := (rfl)
@[simp] theorem gAdd_int {i j : Int} : gAdd (.int i) (.int j) = .ok (.int (i + j)) := (rfl)
@[simp] theorem gNeg_int {i : Int} : gNeg (.int i) = .ok (.int (-i)) := (rfl)
@[simp] theorem gLt_int {i j : Int} : gLt (.int i) (.int j) = .ok (.bl (decide (i < j))) := (rfl)
@[simp] theorem gLe_int {i j : Int} : gLe (.int i) (.int j) = .ok (.bl (decide (i ≤ j))) := (rfl)
@[simp] theorem gGt_int {i j : Int} : gGt (.int i) (.int j) = .ok (.bl (decide (j < i))) := (rfl)
@[simp] theorem gGe_int {i j : Int} : gGe (.int i) (.int j) = .ok (.bl (decide (j ≤ i))) := (rfl)
@[simp] theorem gEq_int {i j : Int} : gEq (.int i) (.int j) = .ok (.bl (decide (i = j))) := (rfl)
@[simp] theorem gEq_str {i j : Str} : gEq (.str i) (.str j) = .ok (.bl (decide (i = j))) := (rfl)
@[simp] theorem gEq_bl {i j : Bool} : gEq (.bl i) (.bl j) = .ok (.bl (decide (i = j))) := (rfl)
@[simp] theorem gNe_def {a b : D} : gNe a b = rNot (gEq a b) := (rfl)
@[simp] theorem rNot_bl {b : Bool} : rNot (.ok (.bl b)) = .ok (.bl (!b)) := (rfl)
@[simp] theorem gMod_int {i j : Int} (h : 0 < j) : gMod (.int i) (.int j) = .ok (.int (i % j)) := if_pos h
theorem log2_small {n : Nat} (h : n < 2 ^ 64) : n.log2 < 9000 := by
  by_cases z : n = 0
  · subst z; decide
  · exact Nat.lt_of_lt_of_le ((Nat.log2_lt z).mpr h) (by decide)
@[simp] theorem gDiv_int {i j : Int} (h : 0 < j) (h2 : j < 18446744073709551616) : gDiv (.int i) (.int j) = .ok (.int (i / j)) := if_pos ⟨h, log2_small (by omega : j.natAbs < 2 ^ 64)⟩
@[simp] theorem gMul_r {i j : Int} (h : -18446744073709551616 < j) (h2 : j < 18446744073709551616) : gMul (.int i) (.int j) = .ok (.int (i * j)) := if_pos (.inl (.inr ⟨by omega, by omega⟩))
theorem gMul_l {i j : Int} (h : -18446744073709551616 < i) (h2 : i < 18446744073709551616) : gMul (.int i) (.int j) = .ok (.int (i * j)) := if_pos (.inl (.inl ⟨by omega, by omega⟩))
@[simp] theorem gPow_int {i j : Int} (h : 0 ≤ j) (h2 : j ≤ 1000000) (h3 : -18446744073709551616 < i) (h4 : i < 18446744073709551616) : gPow (.int i) (.int j) = .ok (.int (i ^ j.toNat)) := if_pos ⟨h, h2, by omega⟩
@[simp] theorem gInt_int {i : Int} : gInt [.int i] = .ok (.int i) := (rfl)
@[simp] theorem gInt_bl {b : Bool} : gInt [.bl b] = .ok (.int (if b then 1 else 0)) := (rfl)
@[simp] theorem gAbs_int {i : Int} : gAbs [.int i] = .ok (.int (if i < 0 then -i else i)) := (rfl)
@[simp] theorem gLen_lst : gLen [.lst xs] = .ok (.int xs.length) := (rfl)
@[simp] theorem gLen_tup : gLen [.tup xs] = .ok (.int xs.length) := (rfl)
@[simp] theorem gLen_scr {ns : List Int} : gLen [.scr ns] = .ok (.int ns.length) := (rfl)
@[simp] theorem gLen_str {z : Str} (h : z.length ≤ sizeLine) : gLen [.str z] = .ok (.int z.length) := if_pos h
@[simp] theorem gMin_int {i j : Int} : gMin [.int i, .int j] = .ok (.int (if j < i then j else i)) := (rfl)
@[simp] theorem gMax_int {i j : Int} : gMax [.int i, .int j] = .ok (.int (if j > i then j else i)) := (rfl)
@[simp] theorem gList_lst : gList [.lst xs] = .ok (.lst xs) := (rfl)
@[simp] theorem gList_tup : gList [.tup xs] = .ok (.lst xs) := (rfl)
@[simp] theorem gTuple_lst : gTuple [.lst xs] = .ok (.tup xs) := (rfl)
@[simp] theorem gTuple_tup : gTuple [.tup xs] = .ok (.tup xs) := (rfl)
@[simp] theorem gIsN_non : gIsN d .non = .ok (.bl (isNon d)) := (rfl)
@[simp] theorem gNotN_non : gNotN d .non = .ok (.bl (!isNon d)) := (rfl)
@[simp] theorem gRev_lst : gRev (.lst xs) = .ok (.lst xs.reverse) := (rfl)
@[simp] theorem gRev_tup : gRev (.tup xs) = .ok (.tup xs.reverse) := (rfl)
theorem atI_nn {α : Type} {l : List α} {j : Int} (h : 0 ≤ j) (h2 : j < l.length) : L2.atI l j = l[j.toNat]? := by
  unfold L2.atI L2.ixN
  rw [if_pos h, if_pos h2]
  rfl
theorem gIx_lst {j : Int} (h : 0 ≤ j) (h2 : j < xs.length) : gIx (.lst xs) (.int j) = optR xs[j.toNat]? := by
  show optR (L2.atI xs j) = _
  rw [atI_nn h h2]
theorem gIx_tup {j : Int} (h : 0 ≤ j) (h2 : j < xs.length) : gIx (.tup xs) (.int j) = optR xs[j.toNat]? := by
  show optR (L2.atI xs j) = _
  rw [atI_nn h h2]
theorem gIx_map {α : Type} {inj : α → D} {l : List α} {j : Int} {a : α} (h : 0 ≤ j) (e : l[j.toNat]? = some a) : gIx (.lst (l.map inj)) (.int j) = .ok (inj a) := by
  have h2 : j.toNat < l.length := (List.getElem?_eq_some_iff.mp e).1
  rw [gIx_lst h (by rw [List.length_map]; omega), List.getElem?_map, e]
  rfl
theorem gIx_mapT {α : Type} {inj : α → D} {l : List α} {j : Int} {a : α} (h : 0 ≤ j) (e : l[j.toNat]? = some a) : gIx (.tup (l.map inj)) (.int j) = .ok (inj a) := by
  have h2 : j.toNat < l.length := (List.getElem?_eq_some_iff.mp e).1
  rw [gIx_tup h (by rw [List.length_map]; omega), List.getElem?_map, e]
  rfl
theorem gIx_getD {l : List Int} {j : Int} (h : 0 ≤ j) (h2 : j < l.length) : gIx (.lst (l.map .int)) (.int j) = .ok (.int (l.getD j.toNat 0)) := by
  refine gIx_map h ?_
  rw [List.getD_eq_getElem?_getD]
  have : j.toNat < l.length := by omega
  rw [List.getElem?_eq_getElem this]
  rfl
theorem gIx_scr {l : List Int} {j : Int} (h : 0 ≤ j) (h2 : j < l.length) : gIx (.scr l) (.int j) = .ok (.int (l.getD j.toNat 0)) := by
  show (optR (L2.atI l j)).bind _ = _
  rw [atI_nn h h2, List.getD_eq_getElem?_getD, List.getElem?_eq_getElem (by omega : j.toNat < l.length)]
  rfl
end
def SO.goes (s : SO) (P : Ev → Prop) : Prop := match s with
  | .nx ρ => P ρ
  | .ct ρ => P ρ
  | _ => False
@[simp] theorem goes_nx {ρ : Ev} {P : Ev → Prop} : SO.goes (.nx ρ) P = P ρ := (rfl)
@[simp] theorem goes_ct {ρ : Ev} {P : Ev → Prop} : SO.goes (.ct ρ) P = P ρ := (rfl)
theorem loop_inv {h : Tg} {body : Ev → SO} (I : Nat → Ev → Prop) : ∀ {ds : List D} {ρ : Ev} (m : Nat), I m ρ → (∀ i d ρ, ds[i]? = some d → I (m + i) ρ → ∃ ρ1, h d ρ = some ρ1 ∧ SO.goes (body ρ1) (I (m + i + 1))) → ∃ ρ', loop h body ds ρ = .nx ρ' ∧ I (m + ds.length) ρ'
  | [], ρ, m, h0, _ => ⟨ρ, rfl, h0⟩
  | d :: ds, ρ, m, h0, hs => by
    obtain ⟨ρ1, e1, e2⟩ := hs 0 d ρ rfl h0
    rw [loop_cons, e1, ofO_some]
    have go : ∀ ρ2, I (m + 1) ρ2 → ∃ ρ', loop h body ds ρ2 = .nx ρ' ∧ I (m + (d :: ds).length) ρ' := fun ρ2 h2 => by
      obtain ⟨ρ', e3, e4⟩ := loop_inv I (ds := ds) (ρ := ρ2) (m + 1) h2 fun i d' ρ q hI => by
        have := hs (i + 1) d' ρ (by simpa using q) (by rw [show m + (i + 1) = m + 1 + i by omega]; exact hI)
        rw [show m + (i + 1) + 1 = m + 1 + i + 1 by omega] at this
        exact this
      exact ⟨ρ', e3, by rw [List.length_cons, show m + (ds.length + 1) = m + 1 + ds.length by omega]; exact e4⟩
    cases z : body ρ1 with
    | nx ρ2 => rw [z] at e2; exact go ρ2 e2
    | ct ρ2 => rw [z] at e2; exact go ρ2 e2
    | rt d => rw [z] at e2; exact e2.elim
    | bk d => rw [z] at e2; exact e2.elim
    | ro d => rw [z] at e2; exact e2.elim
    | ex x d => rw [z] at e2; exact e2.elim
    | bad => rw [z] at e2; exact e2.elim
theorem rgD_get {lo : Int} {n i : Nat} {d : D} (h : (rgD lo n)[i]? = some d) : i < n ∧ d = .int (lo + i) := by
  unfold rgD at h
  rw [List.getElem?_map] at h
  obtain ⟨k, h1, rfl⟩ := Option.map_eq_some_iff.mp h
  obtain ⟨h2, h3⟩ := List.getElem?_eq_some_iff.mp h1
  rw [List.length_range] at h2
  rw [List.getElem_range] at h3
  subst h3
  exact ⟨h2, rfl⟩
@[simp] theorem rgD_len {lo : Int} {n : Nat} : (rgD lo n).length = n := by unfold rgD; simp
theorem loop_rg {h : Tg} {body : Ev → SO} (I : Nat → Ev → Prop) {lo : Int} {n : Nat} {ρ : Ev} (h0 : I 0 ρ) (hs : ∀ i ρ, i < n → I i ρ → ∃ ρ1, h (.int (lo + i)) ρ = some ρ1 ∧ SO.goes (body ρ1) (I (i + 1))) : ∃ ρ', loop h body (rgD lo n) ρ = .nx ρ' ∧ I n ρ' := by
  obtain ⟨ρ', e1, e2⟩ := loop_inv I (ds := rgD lo n) (ρ := ρ) 0 h0 fun i d ρ q hI => by
    obtain ⟨q1, rfl⟩ := rgD_get q
    rw [Nat.zero_add] at hI ⊢
    exact hs i ρ q1 hI
  rw [rgD_len, Nat.zero_add] at e2
  exact ⟨ρ', e1, e2⟩
theorem loop_map {α : Type} {inj : α → D} {h : Tg} {body : Ev → SO} (I : Nat → Ev → Prop) {l : List α} {ρ : Ev} (h0 : I 0 ρ) (hs : ∀ i a ρ, l[i]? = some a → I i ρ → ∃ ρ1, h (inj a) ρ = some ρ1 ∧ SO.goes (body ρ1) (I (i + 1))) : ∃ ρ', loop h body (l.map inj) ρ = .nx ρ' ∧ I l.length ρ' := by
  obtain ⟨ρ', e1, e2⟩ := loop_inv I (ds := l.map inj) (ρ := ρ) 0 h0 fun i d ρ q hI => by
    rw [List.getElem?_map] at q
    obtain ⟨a, q1, rfl⟩ := Option.map_eq_some_iff.mp q
    rw [Nat.zero_add] at hI ⊢
    exact hs i a ρ q1 hI
  rw [List.length_map, Nat.zero_add] at e2
  exact ⟨ρ', e1, e2⟩
theorem lc_map {α : Type} {inj : α → D} {h : Tg} {t : Ev → R Bool} {fe : Ev → R D} {ρ : Ev} (p : α → Bool) (f : α → D) : ∀ {l : List α}, (∀ a ∈ l, ∃ ρ1, h (inj a) ρ = some ρ1 ∧ t ρ1 = .ok (p a) ∧ (p a = true → fe ρ1 = .ok (f a))) → lcL h t fe ρ (l.map inj) = .ok ((l.filter p).map f)
  | [], _ => rfl
  | a :: l, H => by
    obtain ⟨ρ1, e1, e2, e3⟩ := H a List.mem_cons_self
    have ih := lc_map p f (l := l) fun b m => H b (List.mem_cons_of_mem _ m)
    show (optR (h (inj a) ρ)).bind _ = _
    rw [e1]
    simp only [optR_some, bind_ok, e2, quiet_ok]
    cases z : p a with
    | true => rw [if_pos rfl, e3 z, quiet_ok, bind_ok, ih, bind_ok, List.filter_cons_of_pos z, List.map_cons]
    | false => rw [if_neg Bool.false_ne_true, ih, List.filter_cons_of_neg (by rw [z]; decide)]
theorem lc_rg {h : Tg} {t : Ev → R Bool} {fe : Ev → R D} {ρ : Ev} {n : Nat} (p : Nat → Bool) (f : Nat → D) (H : ∀ a, a < n → ∃ ρ1, h (.int (a : Int)) ρ = some ρ1 ∧ t ρ1 = .ok (p a) ∧ (p a = true → fe ρ1 = .ok (f a))) : lcL h t fe ρ (rgD 0 n) = .ok (((List.range n).filter p).map f) := by
  unfold rgD
  refine lc_map p f fun a m => ?_
  rw [Int.zero_add]
  exact H a (List.mem_range.mp m)
end Tk
namespace Tk
open PySem PySem.Spec L2 PyProof.Rows
def part (ps : List Int) (spot under size : Int) : Int := ps.getD spot.toNat 0 / under % size
theorem part_ok {ps : List Int} {spot under size : Int} (h0 : 0 ≤ spot) (h1 : spot < ps.length) (hu : 0 < under) (hu2 : under < 18446744073709551616) (hs : 0 < size) : F__law_part [.lst (ps.map .int), .int spot, .int under, .int size] = .ok (.int (part ps spot under size)) := by
  unfold F__law_part G__law_part
  simp [gIx_getD h0 h1, hu, hu2, hs]
  rfl
theorem part_lo {ps : List Int} {spot under size : Int} (hs : 0 < size) : 0 ≤ part ps spot under size := Int.emod_nonneg _ (by omega)
theorem part_hi {ps : List Int} {spot under size : Int} (hs : 0 < size) : part ps spot under size < size := Int.emod_lt_of_pos _ hs
theorem small_rg {j : Int} (h : 0 ≤ j) (h2 : j < 4611686018427387904) : small62 j := by unfold small62; omega
theorem cell_step {ns : List Int} {k : Int} (s : Sl) (v : Int) {i : Nat} (hi : i < ns.length) : B__law_cell_1 [.v (.scr ns), .v (.int k), .v (.int v), .v (.int (0 + (i : Int)))] = .nx [.v (.scr ns), .v (.int k), .v (.int ((v + ((i : Int) + 3) * ((if ns.getD i 0 < 0 then -ns.getD i 0 else ns.getD i 0) % 1000003) * 31) % 1000003)), .v (.int (i : Int))] := by
  unfold B__law_cell_1
  have q : ∀ z : Int, gMul (.int ((i : Int) + 3)) (.int (z % 1000003)) = .ok (.int (((i : Int) + 3) * (z % 1000003))) := fun z => gMul_r (by omega) (by omega)
  simp [gIx_scr (l := ns) (j := (i : Int)) (by omega) (by omega), q]
theorem cell_loop {ns : List Int} {k v0 : Int} : ∃ v s, loop (gN 3) B__law_cell_1 (rgD 0 ns.length) [.v (.scr ns), .v (.int k), .v (.int v0), .no] = .nx [.v (.scr ns), .v (.int k), .v (.int v), s] := by
  obtain ⟨ρ', e, s, v, rfl⟩ := loop_rg (h := gN 3) (body := B__law_cell_1) (lo := 0) (n := ns.length) (ρ := [.v (.scr ns), .v (.int k), .v (.int v0), .no])
      (fun _ ρ => ∃ (s : Sl) (v : Int), ρ = [.v (.scr ns), .v (.int k), .v (.int v), s]) ⟨_, _, rfl⟩ (by
        rintro i ρ hi ⟨s, v, rfl⟩
        refine ⟨_, rfl, ?_⟩
        show SO.goes (B__law_cell_1 [.v (.scr ns), .v (.int k), .v (.int v), .v (.int (0 + (i : Int)))]) _
        rw [cell_step s v hi]
        exact ⟨_, _, rfl⟩)
  exact ⟨v, s, e⟩
theorem cell_ok {ns : List Int} {k : Int} (h0 : 0 ≤ k) (hl : ns.length < 4611686018427387904) : ∃ v : Int, F__law_cell [.scr ns, .int k] = .ok (.int v) := by
  unfold F__law_cell G__law_cell
  by_cases c : k < (ns.length : Int)
  · refine ⟨ns.getD k.toNat 0, ?_⟩
    simp [c, gIx_scr h0 c]
  · obtain ⟨v, s, e⟩ := cell_loop (ns := ns) (k := k) (v0 := 7919 * (k + 1))
    refine ⟨v, ?_⟩
    have c2 : small62 (ns.length : Int) := small_rg (by omega) (by omega)
    have c3 : gMul (.int 7919) (.int (k + 1)) = .ok (.int (7919 * (k + 1))) := gMul_l (by decide) (by decide)
    simp [c, c3, c2, e]
def mixA (c k : Int) : Int := ((if c < 0 then -c else c) % 2147483647 * 48271 + (k + 1) * 69621) % 2147483647
theorem gIsi_of {d : D} {t n : String} {b : Bool} (h1 : tyD d = some t) (h2 : kitB t n = some b) : gIsi [d, .ty n] = .ok (.bl b) := by
  show (optR ((tyD d).bind fun t => kitB t n)).bind _ = _
  rw [h1, Option.bind_some, h2]
  rfl
theorem kb1 : kitB "int" "int" = some true := by decide +kernel
theorem kb2 : kitB "int" "bool" = some false := by decide +kernel
theorem kb3 : kitB "str" "int" = some false := by decide +kernel
theorem kb4 : kitB "str" "str" = some true := by decide +kernel
theorem kb5 : kitB "list" "int" = some false := by decide +kernel
theorem kb6 : kitB "list" "str" = some false := by decide +kernel
theorem kb7 : kitB "list" "tuple" = some false := by decide +kernel
theorem kb8 : kitB "list" "list" = some true := by decide +kernel
theorem kb9 : kitB "tuple" "int" = some false := by decide +kernel
theorem kb10 : kitB "tuple" "str" = some false := by decide +kernel
theorem kb11 : kitB "tuple" "tuple" = some true := by decide +kernel
theorem kb12 : kitB "tuple" "list" = some false := by decide +kernel
section
variable {i : Int} {z : Str} {xs : List D}
@[simp] theorem is1 : gIsi [.int i, .ty "int"] = .ok (.bl true) := gIsi_of rfl kb1
@[simp] theorem is2 : gIsi [.int i, .ty "bool"] = .ok (.bl false) := gIsi_of rfl kb2
@[simp] theorem is3 : gIsi [.str z, .ty "int"] = .ok (.bl false) := gIsi_of rfl kb3
@[simp] theorem is4 : gIsi [.str z, .ty "str"] = .ok (.bl true) := gIsi_of rfl kb4
@[simp] theorem is5 : gIsi [.lst xs, .ty "int"] = .ok (.bl false) := gIsi_of rfl kb5
@[simp] theorem is6 : gIsi [.lst xs, .ty "str"] = .ok (.bl false) := gIsi_of rfl kb6
@[simp] theorem is7 : gIsi [.lst xs, .ty "tuple"] = .ok (.bl false) := gIsi_of rfl kb7
@[simp] theorem is8 : gIsi [.lst xs, .ty "list"] = .ok (.bl true) := gIsi_of rfl kb8
@[simp] theorem is9 : gIsi [.tup xs, .ty "int"] = .ok (.bl false) := gIsi_of rfl kb9
@[simp] theorem is10 : gIsi [.tup xs, .ty "str"] = .ok (.bl false) := gIsi_of rfl kb10
@[simp] theorem is11 : gIsi [.tup xs, .ty "tuple"] = .ok (.bl true) := gIsi_of rfl kb11
@[simp] theorem is12 : gIsi [.tup xs, .ty "list"] = .ok (.bl false) := gIsi_of rfl kb12
@[simp] theorem ib1 {b : Bool} : gIsB false .non (.bl b) = .ok (.bl false) := (rfl)
@[simp] theorem ib2 {a b : Bool} : gIsB false (.bl a) (.bl b) = .ok (.bl (decide (a = b))) := (rfl)
@[simp] theorem ib3 {b : Bool} : gIsB false (.int i) (.bl b) = .ok (.bl false) := (rfl)
@[simp] theorem ib4 {b : Bool} : gIsB false (.str z) (.bl b) = .ok (.bl false) := (rfl)
@[simp] theorem ib5 {b : Bool} : gIsB false (.lst xs) (.bl b) = .ok (.bl false) := (rfl)
@[simp] theorem ib6 {b : Bool} : gIsB false (.tup xs) (.bl b) = .ok (.bl false) := (rfl)
end
@[simp] theorem isNon_bl {b : Bool} : isNon (.bl b) = false := rfl
@[simp] theorem isNon_int {b : Int} : isNon (.int b) = false := rfl
@[simp] theorem isNon_str {b : Str} : isNon (.str b) = false := rfl
@[simp] theorem isNon_lst {b : List D} : isNon (.lst b) = false := rfl
@[simp] theorem isNon_tup {b : List D} : isNon (.tup b) = false := rfl
@[simp] theorem isNon_non : isNon .non = true := rfl
mutual
def plainD : Nat → D → Bool
  | _, .non => true
  | _, .bl _ => true
  | _, .int _ => true
  | _, .str _ => true
  | n + 1, .lst xs => decide (xs.length ≤ 1000000) && plainL n xs
  | n + 1, .tup xs => decide (xs.length ≤ 1000000) && plainL n xs
  | _, _ => false
def plainL : Nat → List D → Bool
  | _, [] => true
  | n, d :: ds => plainD n d && plainL n ds
end
theorem plainL_all {n : Nat} : ∀ {ds : List D}, plainL n ds = true ↔ ∀ d ∈ ds, plainD n d = true
  | [] => by simp [plainL]
  | d :: ds => by simp [plainL, plainL_all (ds := ds)]
theorem integer_ok {i : Int} : F__law_integer [.int i] = .ok (.bl true) := by
  unfold F__law_integer G__law_integer
  simp
theorem same_loop {n : Nat} {xs : List D} {f : List D → D} (hf : f = .lst ∨ f = .tup) (ih : ∀ d ∈ xs, Fr__law_same n [d, d] = .ok (.bl true)) : ∃ s, loop (gN 2) (B__law_same_1 (Fr__law_same n)) (rgD 0 xs.length) [.v (f xs), .v (f xs), .no] = .nx [.v (f xs), .v (f xs), s] := by
  obtain ⟨ρ', e, s, rfl⟩ := loop_rg (h := gN 2) (body := B__law_same_1 (Fr__law_same n)) (lo := 0) (n := xs.length) (ρ := [.v (f xs), .v (f xs), .no]) (fun _ ρ => ∃ s : Sl, ρ = [.v (f xs), .v (f xs), s]) ⟨_, rfl⟩ (by
    rintro i ρ hi ⟨s, rfl⟩
    refine ⟨_, rfl, ?_⟩
    have g : gIx (f xs) (.int (i : Int)) = .ok xs[i] := by
      rcases hf with rfl | rfl
      · rw [gIx_lst (by omega) (by omega), Int.toNat_natCast, List.getElem?_eq_getElem hi]; rfl
      · rw [gIx_tup (by omega) (by omega), Int.toNat_natCast, List.getElem?_eq_getElem hi]; rfl
    have h := ih xs[i] (List.getElem_mem hi)
    unfold B__law_same_1
    simp [g, h])
  exact ⟨s, e⟩
theorem same_n : ∀ (n : Nat) {d : D}, plainD n d = true → Fr__law_same (n + 1) [d, d] = .ok (.bl true)
  | n, .non, _ => by
    show runF 3 (G__law_same (Fr__law_same n)) [.non, .non] = _
    unfold G__law_same
    simp
  | n, .bl b, _ => by
    show runF 3 (G__law_same (Fr__law_same n)) [.bl b, .bl b] = _
    unfold G__law_same
    cases b <;> simp
  | n, .int i, _ => by
    show runF 3 (G__law_same (Fr__law_same n)) [.int i, .int i] = _
    unfold G__law_same
    simp [integer_ok]
  | n, .str i, _ => by
    show runF 3 (G__law_same (Fr__law_same n)) [.str i, .str i] = _
    unfold G__law_same
    simp
  | n + 1, .lst xs, h => by
    have h2 : (decide (xs.length ≤ 1000000) && plainL n xs) = true := h
    rw [Bool.and_eq_true, decide_eq_true_eq, plainL_all] at h2
    obtain ⟨s, e⟩ := same_loop (n := n + 1) (xs := xs) (f := .lst) (.inl rfl) fun d m => same_n n (h2.2 d m)
    have sm : small62 (xs.length : Int) := small_rg (by omega) (by omega)
    show runF 3 (G__law_same (Fr__law_same (n + 1))) [.lst xs, .lst xs] = _
    unfold G__law_same
    simp [sm, e]
  | n + 1, .tup xs, h => by
    have h2 : (decide (xs.length ≤ 1000000) && plainL n xs) = true := h
    rw [Bool.and_eq_true, decide_eq_true_eq, plainL_all] at h2
    obtain ⟨s, e⟩ := same_loop (n := n + 1) (xs := xs) (f := .tup) (.inr rfl) fun d m => same_n n (h2.2 d m)
    have sm : small62 (xs.length : Int) := small_rg (by omega) (by omega)
    show runF 3 (G__law_same (Fr__law_same (n + 1))) [.tup xs, .tup xs] = _
    unfold G__law_same
    simp [sm, e]
theorem same_ok {d : D} (h : plainD 5 d = true) : F__law_same [d, d] = .ok (.bl true) := same_n 5 h
end Tk
namespace Tk
open PySem PySem.Spec L2 PyProof.Rows
abbrev S (l : List Nat) : Str := ⟨l.toArray⟩
theorem S_add (a b : List Nat) : S a ++ S b = S (a ++ b) := by
  show (⟨a.toArray ++ b.toArray⟩ : Str) = _
  simp
theorem S_len (a : List Nat) : (S a).length = a.length := by
  show (Array.size a.toArray) = _
  simp
theorem S_inj {a b : List Nat} (h : S a = S b) : a = b := by
  have := congrArg (fun z : Str => z.cps.toList) h
  simpa using this
theorem S_cut_hi {l : List Nat} {v : Int} (h : 0 ≤ v) : cutS (S l) none (some v) = S (l.take v.toNat) := by
  have e : HT.sIx (S l).length (S l).length (some v) = min v.toNat l.length := by
    show (if v < 0 then (v + ((S l).length : Int)).toNat else min v.toNat (S l).length) = _
    rw [if_neg (by omega), S_len]
  unfold cutS
  rw [e, HT.sIx_none, List.drop_zero, Nat.sub_zero]
  show S (l.take (min v.toNat l.length)) = _
  rw [← List.take_eq_take_min]
theorem S_cut_lo {l : List Nat} {v : Int} (h : 0 ≤ v) : cutS (S l) (some v) none = S (l.drop v.toNat) := by
  have e : HT.sIx (S l).length 0 (some v) = min v.toNat l.length := by
    show (if v < 0 then (v + ((S l).length : Int)).toNat else min v.toNat (S l).length) = _
    rw [if_neg (by omega), S_len]
  unfold cutS
  rw [e, HT.sIx_none, S_len]
  show S ((l.drop (min v.toNat l.length)).take (l.length - min v.toNat l.length)) = _
  by_cases c : v.toNat ≤ l.length
  · rw [Nat.min_eq_left c, List.take_of_length_le (by rw [List.length_drop]; omega)]
  · rw [Nat.min_eq_right (by omega), List.drop_eq_nil_of_le (by omega : l.length ≤ v.toNat), List.drop_length]
    rw [Nat.sub_self]
    rfl
theorem sz24 : sizeLine = 16777216 := rfl
theorem gAdd_S {a b : List Nat} (h : a.length + b.length ≤ 1000000) : gAdd (.str (S a)) (.str (S b)) = .ok (.str (S (a ++ b))) := by
  show (if (S a).length + (S b).length ≤ sizeLine then R.ok (D.str (S a ++ S b)) else .bad) = _
  rw [if_pos (by rw [S_len, S_len, sz24]; omega), S_add]
theorem gSl_hi {l : List Nat} {v : Int} (h : 0 ≤ v) (hl : l.length ≤ 1000000) : gSl (.str (S l)) none (some v) = .ok (.str (S (l.take v.toNat))) := by
  show (if (S l).length ≤ sizeLine then R.ok (D.str (cutS (S l) none (some v))) else .bad) = _
  rw [if_pos (by rw [S_len, sz24]; omega), S_cut_hi h]
theorem gSl_lo {l : List Nat} {v : Int} (h : 0 ≤ v) (hl : l.length ≤ 1000000) : gSl (.str (S l)) (some v) none = .ok (.str (S (l.drop v.toNat))) := by
  show (if (S l).length ≤ sizeLine then R.ok (D.str (cutS (S l) (some v) none)) else .bad) = _
  rw [if_pos (by rw [S_len, sz24]; omega), S_cut_lo h]
theorem gIx_S {l : List Nat} {v : Int} (h : 0 ≤ v) (h2 : v < l.length) (hl : l.length ≤ 1000000) : gIx (.str (S l)) (.int v) = .ok (.str (S [l.getD v.toNat 0])) := by
  show (if (S l).length ≤ sizeLine then (optR (L2.atI l v)).bind fun c => R.ok (D.str ⟨#[c]⟩) else .bad) = _
  rw [if_pos (by rw [S_len, sz24]; omega), atI_nn h h2, List.getD_eq_getElem?_getD, List.getElem?_eq_getElem (by omega : v.toNat < l.length)]
  rfl
def abc : List Nat := (List.range 26).map (· + 97)
theorem abc_eq : (Str.ofString "abcdefghijklmnopqrstuvwxyz") = S abc := by decide +kernel
theorem none_eq : (Str.ofString "") = S [] := by decide +kernel
theorem abc_len : abc.length = 26 := rfl
theorem abc_get {v : Nat} (h : v < 26) : abc.getD v 0 = v + 97 := by
  unfold abc
  rw [List.getD_eq_getElem?_getD, List.getElem?_map, List.getElem?_range h]
  rfl
theorem gIx_abc {v : Int} (h : 0 ≤ v) (h2 : v < 26) : gIx (.str (S abc)) (.int v) = .ok (.str (S [v.toNat + 97])) := by
  rw [gIx_S h (by rw [abc_len]; omega) (by rw [abc_len]; omega), abc_get (by omega)]
def low (l : List Nat) : Prop := ∀ c ∈ l, 97 ≤ c ∧ c ≤ 122
def okName (w : List Nat) : Prop := 1 ≤ w.length ∧ w.length ≤ 8 ∧ low w
theorem low_app {a b : List Nat} (h : low a) (h' : low b) : low (a ++ b) := fun c m => (List.mem_append.mp m).elim (h c) (h' c)
theorem low_one {c : Nat} (h : 97 ≤ c) (h' : c ≤ 122) : low [c] := fun d m => by rw [List.mem_singleton.mp m]; exact ⟨h, h'⟩
theorem low_take {a : List Nat} (h : low a) (n : Nat) : low (a.take n) := fun c m => h c (List.mem_of_mem_take m)
theorem low_drop {a : List Nat} (h : low a) (n : Nat) : low (a.drop n) := fun c m => h c (List.mem_of_mem_drop m)
theorem names_loop1 {ps : List Int} {spot number : Int} (h0 : 0 ≤ spot) (h1 : spot + 5 ≤ ps.length) : ∃ (l : List Nat) (s : Sl), l.length = 6 ∧ low l ∧ loop (gN 5) B__law_names_1 (rgD 0 3) [.v (.lst (ps.map .int)), .v (.int spot), .v (.int number), .v (.str (S abc)), .v (.str (S [])), .no, .no, .no, .no, .no, .no, .no, .no] =
    .nx [.v (.lst (ps.map .int)), .v (.int spot), .v (.int number), .v (.str (S abc)), .v (.str (S l)), s, .no, .no, .no, .no, .no, .no, .no] := by
  obtain ⟨ρ', e, s, l, hl, lw, rfl⟩ := loop_rg (h := gN 5) (body := B__law_names_1) (lo := 0) (n := 3) (ρ := [.v (.lst (ps.map .int)), .v (.int spot), .v (.int number), .v (.str (S abc)), .v (.str (S [])), .no, .no, .no, .no, .no, .no, .no, .no])
    (fun i ρ => ∃ (s : Sl) (l : List Nat), l.length = 2 * i ∧ low l ∧ ρ = [.v (.lst (ps.map .int)), .v (.int spot), .v (.int number), .v (.str (S abc)), .v (.str (S l)), s, .no, .no, .no, .no, .no, .no, .no])
    ⟨_, [], rfl, (fun _ m => nomatch m), rfl⟩ (by
      rintro i ρ hi ⟨s, l, hl, lw, rfl⟩
      refine ⟨_, rfl, ?_⟩
      have p1 := part_ok (ps := ps) (spot := spot + (i : Int)) (under := 1) (size := 26) (by omega) (by omega) (by decide) (by decide) (by decide)
      have p2 := part_ok (ps := ps) (spot := spot + (i : Int)) (under := 26) (size := 26) (by omega) (by omega) (by decide) (by decide) (by decide)
      have a1 := part_lo (ps := ps) (spot := spot + (i : Int)) (under := 1) (size := 26) (by decide)
      have a2 := part_hi (ps := ps) (spot := spot + (i : Int)) (under := 1) (size := 26) (by decide)
      have b1 := part_lo (ps := ps) (spot := spot + (i : Int)) (under := 26) (size := 26) (by decide)
      have b2 := part_hi (ps := ps) (spot := spot + (i : Int)) (under := 26) (size := 26) (by decide)
      generalize part ps (spot + (i : Int)) 1 26 = u at *
      generalize part ps (spot + (i : Int)) 26 26 = v at *
      have g1 := gIx_abc a1 a2
      have g2 := gIx_abc b1 b2
      have s1 := gAdd_S (a := l) (b := [u.toNat + 97]) (by simp; omega)
      have s2 := gAdd_S (a := l ++ [u.toNat + 97]) (b := [v.toNat + 97]) (by simp; omega)
      have st : B__law_names_1 [.v (.lst (ps.map .int)), .v (.int spot), .v (.int number), .v (.str (S abc)), .v (.str (S l)), .v (.int (0 + (i : Int))), .no, .no, .no, .no, .no, .no, .no] =
          .nx [.v (.lst (ps.map .int)), .v (.int spot), .v (.int number), .v (.str (S abc)), .v (.str (S (l ++ [u.toNat + 97] ++ [v.toNat + 97]))), .v (.int (i : Int)), .no, .no, .no, .no, .no, .no, .no] := by
        unfold B__law_names_1
        simp only [sSet_ap, e2_ap, eV_succ, eV_zero, bind_ok, eCall_ap, aC_ap, aN_ap, gAdd_int, eC_ap, List.length_cons, List.length_nil, Int.zero_add, Nat.zero_add, Nat.reduceAdd, if_true, p1, p2, g1, g2, s1, s2, from_ok, List.set_cons_succ, List.set_cons_zero]
      show SO.goes (B__law_names_1 [.v (.lst (ps.map .int)), .v (.int spot), .v (.int number), .v (.str (S abc)), .v (.str (S l)), .v (.int (0 + (i : Int))), .no, .no, .no, .no, .no, .no, .no]) _
      rw [st]
      refine ⟨_, _, ?_, ?_, rfl⟩
      · simp; omega
      · exact low_app (low_app lw (low_one (by omega) (by omega))) (low_one (by omega) (by omega)))
  exact ⟨l, s, hl, lw, e⟩
def nmA (sh tl : List Nat) (cut first m : Int) : List Nat := sh.take cut.toNat ++ [((first + 7 * m) % 26).toNat + 97] ++ sh.drop cut.toNat ++ tl
def nmK (c : Int) (stem sh tl : List Nat) (cut first turn : Int) (k : Nat) : List Nat := if c = 0 then nmA sh tl cut first (((k : Int) + turn) % 6) else stem.take ((((k : Int) + turn) % 6) + 1).toNat
theorem names_loop2 {ps : List Int} {spot number turn cut first : Int} {stem sh tl : List Nat} (h0 : 0 ≤ spot) (h1 : spot + 5 ≤ ps.length) (hn : 0 ≤ number) (hn2 : number ≤ 6) (ls : stem.length = 6) (lsh : sh.length ≤ 6) (ltl : tl.length ≤ 1) (c0 : 0 ≤ cut) (s0 : Sl) :
    ∃ (s t : Sl), loop (gN 5) B__law_names_2 (rgD 0 number.toNat) [.v (.lst (ps.map .int)), .v (.int spot), .v (.int number), .v (.str (S abc)), .v (.str (S stem)), s0, .v (.int turn), .v (.int cut), .v (.int first), .v (.str (S sh)), .v (.str (S tl)), .l [], .no] =
    .nx [.v (.lst (ps.map .int)), .v (.int spot), .v (.int number), .v (.str (S abc)), .v (.str (S stem)), s, .v (.int turn), .v (.int cut), .v (.int first), .v (.str (S sh)), .v (.str (S tl)), .l ((List.range number.toNat).map fun k => .str (S (nmK (part ps (spot + 4) 1 2) stem sh tl cut first turn k))), t] := by
  have pc := part_ok (ps := ps) (spot := spot + 4) (under := 1) (size := 2) (by omega) (by omega) (by decide) (by decide) (by decide)
  generalize part ps (spot + 4) 1 2 = c at *
  obtain ⟨ρ', e, s, t, rfl⟩ := loop_rg (h := gN 5) (body := B__law_names_2) (lo := 0) (n := number.toNat) (ρ := [.v (.lst (ps.map .int)), .v (.int spot), .v (.int number), .v (.str (S abc)), .v (.str (S stem)), s0, .v (.int turn), .v (.int cut), .v (.int first), .v (.str (S sh)), .v (.str (S tl)), .l [], .no])
    (fun i ρ => ∃ (s t : Sl), ρ = [.v (.lst (ps.map .int)), .v (.int spot), .v (.int number), .v (.str (S abc)), .v (.str (S stem)), s, .v (.int turn), .v (.int cut), .v (.int first), .v (.str (S sh)), .v (.str (S tl)), .l ((List.range i).map fun k => .str (S (nmK c stem sh tl cut first turn k))), t])
    ⟨_, _, rfl⟩ (by
      rintro i ρ hi ⟨s, t, rfl⟩
      refine ⟨_, rfl, ?_⟩
      have m0 : 0 ≤ ((i : Int) + turn) % 6 := by omega
      have m6 : ((i : Int) + turn) % 6 < 6 := by omega
      have f1 : 0 ≤ (first + 7 * (((i : Int) + turn) % 6)) % 26 := by omega
      have f2 : (first + 7 * (((i : Int) + turn) % 6)) % 26 < 26 := by omega
      have g1 := gIx_abc f1 f2
      have t1 := gSl_hi (l := sh) c0 (by omega)
      have t2 := gSl_lo (l := sh) c0 (by omega)
      have t3 := gSl_hi (l := stem) (v := ((i : Int) + turn) % 6 + 1) (by omega) (by omega)
      have q1 := gAdd_S (a := sh.take cut.toNat) (b := [((first + 7 * (((i : Int) + turn) % 6)) % 26).toNat + 97]) (by simp; omega)
      have q2 := gAdd_S (a := sh.take cut.toNat ++ [((first + 7 * (((i : Int) + turn) % 6)) % 26).toNat + 97]) (b := sh.drop cut.toNat) (by simp; omega)
      have q3 := gAdd_S (a := sh.take cut.toNat ++ [((first + 7 * (((i : Int) + turn) % 6)) % 26).toNat + 97] ++ sh.drop cut.toNat) (b := tl) (by simp; omega)
      have q4 := gMul_l (i := 7) (j := ((i : Int) + turn) % 6) (by decide) (by decide)
      have sl : ((List.range i).map fun k => D.str (S (nmK c stem sh tl cut first turn k))).length < sizeLine := by rw [List.length_map, List.length_range, sz24]; omega
      have d6 : gMod (.int ((i : Int) + turn)) (.int 6) = .ok (.int (((i : Int) + turn) % 6)) := gMod_int (by decide)
      have d26 : gMod (.int (first + 7 * (((i : Int) + turn) % 6))) (.int 26) = .ok (.int ((first + 7 * (((i : Int) + turn) % 6)) % 26)) := gMod_int (by decide)
      have st : B__law_names_2 [.v (.lst (ps.map .int)), .v (.int spot), .v (.int number), .v (.str (S abc)), .v (.str (S stem)), .v (.int (0 + (i : Int))), .v (.int turn), .v (.int cut), .v (.int first), .v (.str (S sh)), .v (.str (S tl)), .l ((List.range i).map fun k => .str (S (nmK c stem sh tl cut first turn k))), t] =
          .nx [.v (.lst (ps.map .int)), .v (.int spot), .v (.int number), .v (.str (S abc)), .v (.str (S stem)), .v (.int (i : Int)), .v (.int turn), .v (.int cut), .v (.int first), .v (.str (S sh)), .v (.str (S tl)), .l ((List.range (i + 1)).map fun k => .str (S (nmK c stem sh tl cut first turn k))), .v (.int (((i : Int) + turn) % 6))] := by
        rw [List.range_succ, List.map_append]
        show _ = SO.nx [_, _, _, _, _, _, _, _, _, _, _, .l (_ ++ [D.str (S (nmK c stem sh tl cut first turn i))]), _]
        unfold B__law_names_2
        by_cases z : c = 0
        · have en : nmK c stem sh tl cut first turn i = sh.take cut.toNat ++ [((first + 7 * (((i : Int) + turn) % 6)) % 26).toNat + 97] ++ sh.drop cut.toNat ++ tl := if_pos z
          rw [en]
          have ze : decide (c = 0) = true := decide_eq_true z
          simp only [sSq_ap, sSet_ap, sIf_ap, sApp_ap, tV_ap, e2_ap, eA_ap, eSl_ap, oN_ap, oS_ap, eV_succ, eV_zero, bind_ok, eCall_ap, aC_ap, aN_ap, gAdd_int, gInt_int, gEq_int, Bof_bl, eC_ap, List.length_cons, List.length_nil, Int.zero_add, Nat.zero_add, Nat.reduceAdd, if_true, pc, d6, d26, g1, t1, t2, t3, q1, q2, q3, q4, ze, sl, from_ok, sq_nx, ownL_succ, ownL_zero, List.set_cons_succ, List.set_cons_zero]
        · have en : nmK c stem sh tl cut first turn i = stem.take ((((i : Int) + turn) % 6) + 1).toNat := if_neg z
          rw [en]
          have ze : decide (c = 0) = false := decide_eq_false z
          simp only [sSq_ap, sSet_ap, sIf_ap, sApp_ap, tV_ap, e2_ap, eA_ap, eSl_ap, oN_ap, oS_ap, eV_succ, eV_zero, bind_ok, eCall_ap, aC_ap, aN_ap, gAdd_int, gInt_int, gEq_int, Bof_bl, eC_ap, List.length_cons, List.length_nil, Int.zero_add, Nat.zero_add, Nat.reduceAdd, if_true, pc, d6, d26, g1, t1, t2, t3, q1, q2, q3, q4, ze, sl, from_ok, sq_nx, ownL_succ, ownL_zero, List.set_cons_succ, List.set_cons_zero, Bool.false_eq_true, if_false]
      show SO.goes (B__law_names_2 [.v (.lst (ps.map .int)), .v (.int spot), .v (.int number), .v (.str (S abc)), .v (.str (S stem)), .v (.int (0 + (i : Int))), .v (.int turn), .v (.int cut), .v (.int first), .v (.str (S sh)), .v (.str (S tl)), .l ((List.range i).map fun k => .str (S (nmK c stem sh tl cut first turn k))), t]) _
      rw [st]
      exact ⟨_, _, rfl⟩)
  exact ⟨s, t, e⟩
theorem nmA_len (sh tl : List Nat) (cut first m : Int) : (nmA sh tl cut first m).length = sh.length + 1 + tl.length := by
  unfold nmA
  simp only [List.length_append, List.length_take, List.length_drop, List.length_cons, List.length_nil]
  omega
theorem nmA_inj {sh tl : List Nat} {cut first m m' : Int} (c0 : 0 ≤ m) (c1 : m < 6) (d0 : 0 ≤ m') (d1 : m' < 6) (h : nmA sh tl cut first m = nmA sh tl cut first m') : m = m' := by
  unfold nmA at h
  rw [List.append_assoc, List.append_assoc, List.append_assoc, List.append_assoc] at h
  have h2 := List.append_cancel_left h
  have h3 := (List.cons.inj h2).1
  omega
theorem nmK_ok {c turn cut first : Int} {stem sh tl : List Nat} (ls : stem.length = 6) (lsh : sh.length ≤ 6) (ltl : tl.length ≤ 1) (w1 : low stem) (w2 : low sh) (w3 : low tl) (k : Nat) : okName (nmK c stem sh tl cut first turn k) := by
  unfold nmK
  split
  · refine ⟨by rw [nmA_len]; omega, by rw [nmA_len]; omega, ?_⟩
    exact low_app (low_app (low_app (low_take w2 _) (low_one (by omega) (by omega))) (low_drop w2 _)) w3
  · exact ⟨by rw [List.length_take]; omega, by rw [List.length_take]; omega, low_take w1 _⟩
theorem nmK_inj {c turn cut first : Int} {stem sh tl : List Nat} (ls : stem.length = 6) {k k' : Nat} (hk : k < 6) (hk' : k' < 6) (h : nmK c stem sh tl cut first turn k = nmK c stem sh tl cut first turn k') : k = k' := by
  unfold nmK at h
  split at h
  · have := nmA_inj (by omega) (by omega) (by omega) (by omega) h
    omega
  · have := congrArg List.length h
    rw [List.length_take, List.length_take, ls] at this
    omega
theorem names_ok {ps : List Int} {spot number : Int} (h0 : 0 ≤ spot) (h1 : spot + 5 ≤ ps.length) (hn : 0 ≤ number) (hn2 : number ≤ 6) :
    ∃ ws : List (List Nat), ws.length = number.toNat ∧ (∀ w ∈ ws, okName w) ∧ ws.Nodup ∧ F__law_names [.lst (ps.map .int), .int spot, .int number] = .ok (.lst (ws.map fun w => .str (S w))) := by
  have p1 := part_ok (ps := ps) (spot := spot + 3) (under := 1) (size := 6) (by omega) (by omega) (by decide) (by decide) (by decide)
  have p2 := part_ok (ps := ps) (spot := spot + 3) (under := 6) (size := 7) (by omega) (by omega) (by decide) (by decide) (by decide)
  have p3 := part_ok (ps := ps) (spot := spot + 3) (under := 42) (size := 26) (by omega) (by omega) (by decide) (by decide) (by decide)
  have p4 := part_ok (ps := ps) (spot := spot + 4) (under := 4) (size := 7) (by omega) (by omega) (by decide) (by decide) (by decide)
  have p5 := part_ok (ps := ps) (spot := spot + 4) (under := 2) (size := 2) (by omega) (by omega) (by decide) (by decide) (by decide)
  have a2 := part_lo (ps := ps) (spot := spot + 3) (under := 6) (size := 7) (by decide)
  have a4 := part_lo (ps := ps) (spot := spot + 4) (under := 4) (size := 7) (by decide)
  have a5 := part_lo (ps := ps) (spot := spot + 4) (under := 2) (size := 2) (by decide)
  have b4 := part_hi (ps := ps) (spot := spot + 4) (under := 4) (size := 7) (by decide)
  have b5 := part_hi (ps := ps) (spot := spot + 4) (under := 2) (size := 2) (by decide)
  obtain ⟨stem, s0, ls, lw, e1⟩ := names_loop1 (ps := ps) (spot := spot) (number := number) h0 h1
  have t1 := gSl_hi (l := stem) a4 (by omega)
  have t2 := gSl_hi (l := stem) a5 (by omega)
  generalize part ps (spot + 3) 1 6 = turn at *
  generalize part ps (spot + 3) 6 7 = cut at *
  generalize part ps (spot + 3) 42 26 = first at *
  generalize part ps (spot + 4) 4 7 = x4 at *
  generalize part ps (spot + 4) 2 2 = x5 at *
  have k1 : (stem.take x4.toNat).length ≤ 6 := by rw [List.length_take]; omega
  have k2 : (stem.take x5.toNat).length ≤ 1 := by rw [List.length_take]; omega
  obtain ⟨s, t, e2⟩ := names_loop2 (ps := ps) (spot := spot) (number := number) (turn := turn) (cut := cut) (first := first) (stem := stem) (sh := stem.take x4.toNat) (tl := stem.take x5.toNat) h0 h1 hn hn2 ls k1 k2 a2 s0
  refine ⟨(List.range number.toNat).map (nmK (part ps (spot + 4) 1 2) stem (stem.take x4.toNat) (stem.take x5.toNat) cut first turn), by rw [List.length_map, List.length_range], ?_, ?_, ?_⟩
  · intro w m
    obtain ⟨k, _, rfl⟩ := List.mem_map.mp m
    exact nmK_ok ls k1 k2 lw (low_take lw _) (low_take lw _) k
  · refine List.pairwise_map.mpr (List.Pairwise.imp_of_mem (fun {k k'} hk hk' ne h => ne ?_) List.nodup_range)
    have := List.mem_range.mp hk
    have := List.mem_range.mp hk'
    exact nmK_inj ls (by omega) (by omega) h
  · unfold F__law_names G__law_names
    have sm3 : small62 3 := by decide
    have smn : small62 number := small_rg hn (by omega)
    have st : startE 13 [.lst (ps.map .int), .int spot, .int number] = [.v (.lst (ps.map .int)), .v (.int spot), .v (.int number), .no, .no, .no, .no, .no, .no, .no, .no, .no, .no] := rfl
    have r3 : (3 : Int).toNat = 3 := rfl
    have z0 : (0 : Nat) ≤ sizeLine := Nat.zero_le _
    simp only [runF_ap, st, abc_eq, none_eq, sSq_ap, sSet_ap, sFor_ap, iR1_ap, sOwn_ap, lDisp_ap, sFrz_ap, sRet_ap, eSl_ap, oN_ap, oS_ap, e2_ap, eV_succ, eV_zero, bind_ok, eCall_ap, aC_ap, aN_ap, gAdd_int, eC_ap, List.length_cons, List.length_nil, Nat.zero_add, Nat.reduceAdd, if_true, p1, p2, p3, p4, p5, sm3, smn, r3, e1, t1, t2, from_ok, sq_nx, List.set_cons_succ, List.set_cons_zero, z0, e2, frzE_succ, frzE_zero, frzS_l, out_rt, List.map_map]
    rfl
end Tk
namespace Tk
open PySem PySem.Spec L2 PyProof.Rows
mutual
def cleanD : Nat → D → Bool
  | _, .non => true
  | _, .int _ => true
  | _, .str s => PyData.strOk s
  | n + 1, .lst xs => cleanL n xs
  | n + 1, .tup xs => cleanL n xs
  | _, _ => false
def cleanL : Nat → List D → Bool
  | _, [] => true
  | n, d :: ds => cleanD n d && cleanL n ds
end
theorem cleanL_all {n : Nat} : ∀ {ds : List D}, cleanL n ds = true ↔ ∀ d ∈ ds, cleanD n d = true
  | [] => by simp [cleanL]
  | d :: ds => by simp [cleanL, cleanL_all (ds := ds)]
mutual
theorem clean_toP : ∀ {n : Nat} {d : D}, cleanD n d = true → ∃ p, toP d = some p ∧ p.canLay0 = true ∧ p.depth ≤ n
  | _, .non, _ => ⟨.none, by simp [toP], by simp [PyData.canLay0], by simp [PyData.depth]⟩
  | _, .int i, _ => ⟨.int i, by simp [toP], by simp [PyData.canLay0], by simp [PyData.depth]⟩
  | _, .str s, h => ⟨.str s, by simp [toP], by simp only [PyData.canLay0]; simpa [cleanD] using h, by simp [PyData.depth]⟩
  | 0, .lst _, h => by simp [cleanD] at h
  | 0, .tup _, h => by simp [cleanD] at h
  | n + 1, .lst xs, h => by
    obtain ⟨ps, e1, e2, e3⟩ := cleanL_toP (n := n) (ds := xs) (by simpa [cleanD] using h)
    exact ⟨.list ps, by simp [toP, e1], by simpa [PyData.canLay0] using e2, by simp only [PyData.depth]; omega⟩
  | n + 1, .tup xs, h => by
    obtain ⟨ps, e1, e2, e3⟩ := cleanL_toP (n := n) (ds := xs) (by simpa [cleanD] using h)
    exact ⟨.tuple ps, by simp [toP, e1], by simpa [PyData.canLay0] using e2, by simp only [PyData.depth]; omega⟩
  | _, .bl _, h => by simp [cleanD] at h
  | _, .ty _, h => by simp [cleanD] at h
  | _, .cl _, h => by simp [cleanD] at h
  | _, .scr _, h => by simp [cleanD] at h
  | _, .dK _, h => by simp [cleanD] at h
  | _, .dT _, h => by simp [cleanD] at h
  | _, .ins _ _, h => by simp [cleanD] at h
theorem cleanL_toP : ∀ {n : Nat} {ds : List D}, cleanL n ds = true → ∃ ps, toPs ds = some ps ∧ PyData.canLayAll0 ps = true ∧ PyData.depthAll ps ≤ n
  | n, [], _ => ⟨[], by simp [toPs], by simp [PyData.canLayAll0], by simp [PyData.depthAll]⟩
  | n, d :: ds, h => by
    have h2 : cleanD n d = true ∧ cleanL n ds = true := by simpa [cleanL] using h
    obtain ⟨p, a1, a2, a3⟩ := clean_toP h2.1
    obtain ⟨ps, b1, b2, b3⟩ := cleanL_toP h2.2
    exact ⟨p :: ps, by simp [toPs, a1, b1], by simp [PyData.canLayAll0, a2, b2], by simp only [PyData.depthAll]; omega⟩
end
mutual
theorem eqv_iff : ∀ {n m : Nat} {a b : D} {p q : PyData}, cleanD n a = true → cleanD m b = true → toP a = some p → toP b = some q → (PyData.eqv p q = true ↔ a = b)
  | n, m, a, b, p, q, ha, hb, ea, eb => by
    cases a with
    | non =>
      cases (by simpa [toP] using ea : PyData.none = p)
      cases b with
      | non => cases (by simpa [toP] using eb : PyData.none = q); simp [PyData.eqv]
      | int j => cases (by simpa [toP] using eb : PyData.int j = q); simp [PyData.eqv]
      | str j => cases (by simpa [toP] using eb : PyData.str j = q); simp [PyData.eqv]
      | lst ys =>
        obtain ⟨qs, e2, rfl⟩ : ∃ ps, toPs ys = some ps ∧ PyData.list ps = q := by simpa [toP] using eb
        simp [PyData.eqv]
      | tup ys =>
        obtain ⟨qs, e2, rfl⟩ : ∃ ps, toPs ys = some ps ∧ PyData.tuple ps = q := by simpa [toP] using eb
        simp [PyData.eqv]
      | _ => simp [cleanD] at hb
    | int i =>
      cases (by simpa [toP] using ea : PyData.int i = p)
      cases b with
      | non => cases (by simpa [toP] using eb : PyData.none = q); simp [PyData.eqv]
      | int j => cases (by simpa [toP] using eb : PyData.int j = q); simp [PyData.eqv]
      | str j => cases (by simpa [toP] using eb : PyData.str j = q); simp [PyData.eqv]
      | lst ys =>
        obtain ⟨qs, e2, rfl⟩ : ∃ ps, toPs ys = some ps ∧ PyData.list ps = q := by simpa [toP] using eb
        simp [PyData.eqv]
      | tup ys =>
        obtain ⟨qs, e2, rfl⟩ : ∃ ps, toPs ys = some ps ∧ PyData.tuple ps = q := by simpa [toP] using eb
        simp [PyData.eqv]
      | _ => simp [cleanD] at hb
    | str i =>
      cases (by simpa [toP] using ea : PyData.str i = p)
      cases b with
      | non => cases (by simpa [toP] using eb : PyData.none = q); simp [PyData.eqv]
      | int j => cases (by simpa [toP] using eb : PyData.int j = q); simp [PyData.eqv]
      | str j => cases (by simpa [toP] using eb : PyData.str j = q); simp [PyData.eqv]
      | lst ys =>
        obtain ⟨qs, e2, rfl⟩ : ∃ ps, toPs ys = some ps ∧ PyData.list ps = q := by simpa [toP] using eb
        simp [PyData.eqv]
      | tup ys =>
        obtain ⟨qs, e2, rfl⟩ : ∃ ps, toPs ys = some ps ∧ PyData.tuple ps = q := by simpa [toP] using eb
        simp [PyData.eqv]
      | _ => simp [cleanD] at hb
    | lst xs =>
      cases n with
      | zero => simp [cleanD] at ha
      | succ n =>
        have ha2 : cleanL n xs = true := by simpa [cleanD] using ha
        obtain ⟨ps, e1, rfl⟩ : ∃ ps, toPs xs = some ps ∧ PyData.list ps = p := by simpa [toP] using ea
        cases b with
        | lst ys =>
          cases m with
          | zero => simp [cleanD] at hb
          | succ m =>
            have hb2 : cleanL m ys = true := by simpa [cleanD] using hb
            obtain ⟨qs, e2, rfl⟩ : ∃ ps, toPs ys = some ps ∧ PyData.list ps = q := by simpa [toP] using eb
            have := eqvL_iff ha2 hb2 e1 e2
            simp only [PyData.eqv]
            rw [this]
            simp
        | tup ys =>
          obtain ⟨qs, e2, rfl⟩ : ∃ ps, toPs ys = some ps ∧ PyData.tuple ps = q := by simpa [toP] using eb
          simp [PyData.eqv]
        | non => cases (by simpa [toP] using eb : PyData.none = q); simp [PyData.eqv]
        | int i => cases (by simpa [toP] using eb : PyData.int i = q); simp [PyData.eqv]
        | str i => cases (by simpa [toP] using eb : PyData.str i = q); simp [PyData.eqv]
        | _ => simp [cleanD] at hb
    | tup xs =>
      cases n with
      | zero => simp [cleanD] at ha
      | succ n =>
        have ha2 : cleanL n xs = true := by simpa [cleanD] using ha
        obtain ⟨ps, e1, rfl⟩ : ∃ ps, toPs xs = some ps ∧ PyData.tuple ps = p := by simpa [toP] using ea
        cases b with
        | tup ys =>
          cases m with
          | zero => simp [cleanD] at hb
          | succ m =>
            have hb2 : cleanL m ys = true := by simpa [cleanD] using hb
            obtain ⟨qs, e2, rfl⟩ : ∃ ps, toPs ys = some ps ∧ PyData.tuple ps = q := by simpa [toP] using eb
            have := eqvL_iff ha2 hb2 e1 e2
            simp only [PyData.eqv]
            rw [this]
            simp
        | lst ys =>
          obtain ⟨qs, e2, rfl⟩ : ∃ ps, toPs ys = some ps ∧ PyData.list ps = q := by simpa [toP] using eb
          simp [PyData.eqv]
        | non => cases (by simpa [toP] using eb : PyData.none = q); simp [PyData.eqv]
        | int i => cases (by simpa [toP] using eb : PyData.int i = q); simp [PyData.eqv]
        | str i => cases (by simpa [toP] using eb : PyData.str i = q); simp [PyData.eqv]
        | _ => simp [cleanD] at hb
    | _ => simp [cleanD] at ha
theorem eqvL_iff : ∀ {n m : Nat} {as bs : List D} {ps qs : List PyData}, cleanL n as = true → cleanL m bs = true → toPs as = some ps → toPs bs = some qs → (PyData.eqvAll ps qs = true ↔ as = bs)
  | n, m, [], [], ps, qs, _, _, e1, e2 => by
    cases (by simpa [toPs] using e1 : ps = [])
    cases (by simpa [toPs] using e2 : qs = [])
    simp [PyData.eqvAll]
  | n, m, [], b :: bs, ps, qs, _, hb, e1, e2 => by
    cases (by simpa [toPs] using e1 : ps = [])
    have hb2 : cleanD m b = true ∧ cleanL m bs = true := by simpa [cleanL] using hb
    obtain ⟨q, a1, _⟩ := clean_toP hb2.1
    obtain ⟨qs', b1, _⟩ := cleanL_toP hb2.2
    cases (by simpa [toPs, a1, b1] using e2 : q :: qs' = qs)
    simp [PyData.eqvAll]
  | n, m, a :: as, [], ps, qs, ha, _, e1, e2 => by
    cases (by simpa [toPs] using e2 : qs = [])
    have ha2 : cleanD n a = true ∧ cleanL n as = true := by simpa [cleanL] using ha
    obtain ⟨q, a1, _⟩ := clean_toP ha2.1
    obtain ⟨qs', b1, _⟩ := cleanL_toP ha2.2
    cases (by simpa [toPs, a1, b1] using e1 : q :: qs' = ps)
    simp [PyData.eqvAll]
  | n, m, a :: as, b :: bs, ps, qs, ha, hb, e1, e2 => by
    have ha2 : cleanD n a = true ∧ cleanL n as = true := by simpa [cleanL] using ha
    have hb2 : cleanD m b = true ∧ cleanL m bs = true := by simpa [cleanL] using hb
    obtain ⟨p, a1, _⟩ := clean_toP ha2.1
    obtain ⟨ps', c1, _⟩ := cleanL_toP ha2.2
    obtain ⟨q, d1, _⟩ := clean_toP hb2.1
    obtain ⟨qs', f1, _⟩ := cleanL_toP hb2.2
    cases (by simpa [toPs, a1, c1] using e1 : p :: ps' = ps)
    cases (by simpa [toPs, d1, f1] using e2 : q :: qs' = qs)
    have h1 := eqv_iff ha2.1 hb2.1 a1 d1
    have h2 := eqvL_iff ha2.2 hb2.2 c1 f1
    simp only [PyData.eqvAll, Bool.and_eq_true, h1, h2, List.cons.injEq]
end
theorem gEqP_clean {n m : Nat} {a b : D} (hn : n ≤ 64) (hm : m ≤ 64) (ha : cleanD n a = true) (hb : cleanD m b = true) : (a = b → gEqP a b = .ok (.bl true)) ∧ (a ≠ b → gEqP a b = .ok (.bl false)) := by
  obtain ⟨p, a1, a2, a3⟩ := clean_toP ha
  obtain ⟨q, b1, b2, b3⟩ := clean_toP hb
  have i := eqv_iff ha hb a1 b1
  have s1 : SeqAt.shaped p = true := by unfold SeqAt.shaped; rw [a2, decide_eq_true (by omega : p.depth ≤ 64)]; rfl
  have s2 : SeqAt.shaped q = true := by unfold SeqAt.shaped; rw [b2, decide_eq_true (by omega : q.depth ≤ 64)]; rfl
  have e : gEqP a b = .ok (.bl (PyData.eqv p q)) := by
    unfold gEqP
    rw [a1, b1]
    show (if (SeqAt.shaped p && SeqAt.shaped q) = true then _ else _) = _
    rw [s1, s2]
    rfl
  refine ⟨fun h => ?_, fun h => ?_⟩
  · rw [e, i.mpr h]
  · rw [e]
    cases z : PyData.eqv p q with
    | true => exact absurd (i.mp z) h
    | false => rfl
theorem gEq_clean {n m : Nat} {a b : D} (hn : n ≤ 64) (hm : m ≤ 64) (ha : cleanD n a = true) (hb : cleanD m b = true) : (a = b → gEq a b = .ok (.bl true)) ∧ (a ≠ b → gEq a b = .ok (.bl false)) := by
  unfold gEq
  split
  · refine ⟨fun h => ?_, fun h => ?_⟩
    · cases h; simp
    · rw [decide_eq_false]; intro z; exact h (by rw [z])
  · refine ⟨fun h => ?_, fun h => ?_⟩
    · cases h; simp
    · rw [decide_eq_false]; intro z; exact h (by rw [z])
  · refine ⟨fun h => ?_, fun h => ?_⟩
    · cases h; simp
    · rw [decide_eq_false]; intro z; exact h (by rw [z])
  · exact gEqP_clean hn hm ha hb
theorem S_ok {w : List Nat} (h : ∀ c ∈ w, c < 1114112) : PyData.strOk (S w) = true := by
  unfold PyData.strOk
  simpa using h
end Tk
namespace Tk
open PySem PySem.Spec L2 PyProof.Rows
abbrev nD (w : List Nat) : D := .str (S w)
theorem inV_names {w : List Nat} {ws : List (List Nat)} : inV (toV (nD w)) ((ws.map nD).map toV) = decide (w ∈ ws) := by
  unfold inV
  rw [List.map_map, List.any_map, Bool.eq_iff_iff, List.any_eq_true, decide_eq_true_eq]
  constructor
  · rintro ⟨u, m, e⟩
    have e2 : (S u == S w) = true := e
    rw [← S_inj (eq_of_beq e2)]
    exact m
  · intro m
    exact ⟨w, m, by show (S w == S w) = true; exact beq_self_eq_true _⟩
theorem flat_names {ws : List (List Nat)} : (ws.map nD).all flatD = true := by rw [List.all_map]; exact List.all_eq_true.mpr fun _ _ => rfl
theorem in_lst {w : List Nat} {ws : List (List Nat)} : gInS false (nD w) (.lst (ws.map nD)) = .ok (.bl (decide (w ∈ ws))) := by
  show (if flatD (nD w) = true ∧ (ws.map nD).all flatD = true then R.ok (D.bl (if false = true then !inV (toV (nD w)) ((ws.map nD).map toV) else inV (toV (nD w)) ((ws.map nD).map toV))) else gInP false (nD w) (ws.map nD)) = _
  rw [if_pos ⟨rfl, flat_names⟩, if_neg Bool.false_ne_true, inV_names]
theorem nin_lst {w : List Nat} {ws : List (List Nat)} : gInS true (nD w) (.lst (ws.map nD)) = .ok (.bl (!decide (w ∈ ws))) := by
  show (if flatD (nD w) = true ∧ (ws.map nD).all flatD = true then R.ok (D.bl (if true = true then !inV (toV (nD w)) ((ws.map nD).map toV) else inV (toV (nD w)) ((ws.map nD).map toV))) else gInP true (nD w) (ws.map nD)) = _
  rw [if_pos ⟨rfl, flat_names⟩, if_pos rfl, inV_names]
theorem in_tup {w : List Nat} {ws : List (List Nat)} : gInS false (nD w) (.tup (ws.map nD)) = .ok (.bl (decide (w ∈ ws))) := by
  show (if flatD (nD w) = true ∧ (ws.map nD).all flatD = true then R.ok (D.bl (if false = true then !inV (toV (nD w)) ((ws.map nD).map toV) else inV (toV (nD w)) ((ws.map nD).map toV))) else .bad) = _
  rw [if_pos ⟨rfl, flat_names⟩, if_neg Bool.false_ne_true, inV_names]
theorem nin_tup {w : List Nat} {ws : List (List Nat)} : gInS true (nD w) (.tup (ws.map nD)) = .ok (.bl (!decide (w ∈ ws))) := by
  show (if flatD (nD w) = true ∧ (ws.map nD).all flatD = true then R.ok (D.bl (if true = true then !inV (toV (nD w)) ((ws.map nD).map toV) else inV (toV (nD w)) ((ws.map nD).map toV))) else .bad) = _
  rw [if_pos ⟨rfl, flat_names⟩, if_pos rfl, inV_names]
end Tk
namespace Tk
open PySem PySem.Spec L2 PyProof.Rows
def sqD (b : Bool) (xs : List D) : D := match b with
  | true => .tup xs
  | false => .lst xs
section
variable {b : Bool} {xs : List D} {j : Int}
@[simp] theorem gIt_sq : gIt (sqD b xs) = .ok xs := by cases b <;> rfl
@[simp] theorem gLen_sq : gLen [sqD b xs] = .ok (.int xs.length) := by cases b <;> rfl
@[simp] theorem seqD_sq : seqD (sqD b xs) = some (b, xs) := by cases b <;> rfl
theorem cut_hi {α : Type} {l : List α} (h : 0 ≤ j) : cutD l none (some j) = l.take j.toNat := by
  have e : HT.sIx l.length l.length (some j) = min j.toNat l.length := by
    show (if j < 0 then (j + (l.length : Int)).toNat else min j.toNat l.length) = _
    rw [if_neg (by omega)]
  unfold cutD
  rw [e, HT.sIx_none, List.drop_zero, Nat.sub_zero, ← List.take_eq_take_min]
theorem gSl_sq (h : 0 ≤ j) : gSl (sqD b xs) none (some j) = .ok (sqD b (xs.take j.toNat)) := by
  cases b
  · show R.ok (D.lst (cutD xs none (some j))) = _
    rw [cut_hi h] <;> rfl
  · show R.ok (D.tup (cutD xs none (some j))) = _
    rw [cut_hi h] <;> rfl
theorem gSl_lst (h : 0 ≤ j) : gSl (.lst xs) none (some j) = .ok (.lst (xs.take j.toNat)) := gSl_sq (b := false) h
end
theorem enum_get {xs : List D} : ∀ {k i : Nat}, (enumD k xs)[i]? = xs[i]?.map fun d => .tup [.int ((k + i : Nat) : Int), d] := by
  induction xs with
  | nil => intro k i; rfl
  | cons d r ih =>
    intro k i
    cases i with
    | zero => rfl
    | succ i =>
      show (enumD (k + 1) r)[i]? = _
      rw [ih, List.getElem?_cons_succ, show k + 1 + i = k + (i + 1) by omega]
theorem enum_len {xs : List D} : ∀ {k : Nat}, (enumD k xs).length = xs.length := by
  induction xs with
  | nil => intro k; rfl
  | cons d r ih => intro k; show (enumD (k + 1) r).length + 1 = _; rw [ih]; rfl
theorem loop_en {α : Type} {inj : α → D} {h : Tg} {body : Ev → SO} (I : Nat → Ev → Prop) {l : List α} {ρ : Ev} (h0 : I 0 ρ) (hs : ∀ i a ρ, l[i]? = some a → I i ρ → ∃ ρ1, h (.tup [.int (i : Int), inj a]) ρ = some ρ1 ∧ SO.goes (body ρ1) (I (i + 1))) : ∃ ρ', loop h body (enumD 0 (l.map inj)) ρ = .nx ρ' ∧ I l.length ρ' := by
  obtain ⟨ρ', e1, e2⟩ := loop_inv I (ds := enumD 0 (l.map inj)) (ρ := ρ) 0 h0 fun i d ρ q hI => by
    rw [enum_get, List.getElem?_map] at q
    obtain ⟨d', q1, rfl⟩ := Option.map_eq_some_iff.mp q
    obtain ⟨a, q2, rfl⟩ := Option.map_eq_some_iff.mp q1
    rw [Nat.zero_add] at hI ⊢
    exact hs i a ρ q2 hI
  rw [enum_len, List.length_map, Nat.zero_add] at e2
  exact ⟨ρ', e1, e2⟩
theorem lc_all {α : Type} {inj : α → D} {h : Tg} {t : Ev → R Bool} {fe : Ev → R D} {ρ : Ev} (f : α → D) {l : List α} (H : ∀ a ∈ l, ∃ ρ1, h (inj a) ρ = some ρ1 ∧ t ρ1 = .ok true ∧ fe ρ1 = .ok (f a)) : lcL h t fe ρ (l.map inj) = .ok (l.map f) := by
  rw [lc_map (fun _ => true) f fun a m => by
    obtain ⟨ρ1, e1, e2, e3⟩ := H a m
    exact ⟨ρ1, e1, e2, fun _ => e3⟩, List.filter_eq_self.mpr fun _ _ => rfl]
theorem ints_map : ∀ ns : List Int, intsOf (ns.map .int) = some ns
  | [] => rfl
  | n :: ns => by
    show (intsOf (ns.map .int)).map (n :: ·) = _
    rw [ints_map ns]
    rfl
theorem bols_map : ∀ ns : List Bool, bolsOf (ns.map .bl) = some ns
  | [] => rfl
  | n :: ns => by
    show (bolsOf (ns.map .bl)).map (n :: ·) = _
    rw [bols_map ns]
    rfl
@[simp] theorem gAll_map {ns : List Bool} : gAll [.lst (ns.map .bl)] = .ok (.bl (ns.all id)) := by
  show (optR (bolsOf (ns.map .bl))).bind _ = _
  rw [bols_map]
  rfl
@[simp] theorem gSum_map {ns : List Int} : gSum [.lst (ns.map .int)] = .ok (.int ns.sum) := by
  show (optR (intsOf (ns.map .int))).bind _ = _
  rw [ints_map]
  rfl
theorem occ_abc : ∀ c : Nat, c < 26 → (!(Builtin.Str.occurrences (S abc) (S [c + 97]) 0 (S abc).length 1).isEmpty) = true := by decide +kernel
theorem in_abc {c : Nat} (h : 97 ≤ c ∧ c ≤ 122) : gInS false (.str (S [c])) (.str (S abc)) = .ok (.bl true) := by
  show R.ok (D.bl (!(Builtin.Str.occurrences (S abc) (S [c]) 0 (S abc).length 1).isEmpty)) = _
  have := occ_abc (c - 97) (by omega)
  rw [show c - 97 + 97 = c by omega] at this
  rw [this]
theorem is_name_ok {w : List Nat} (h : okName w) : F_is_name [.str (S w)] = .ok (.bl true) := by
  obtain ⟨h1, h2, h3⟩ := h
  have l : gLen [.str (S w)] = .ok (.int (w.length : Int)) := by rw [gLen_str (by rw [S_len, sz24]; omega), S_len]
  have c1 : decide ((1 : Int) ≤ (w.length : Int)) = true := decide_eq_true (by omega)
  have c2 : decide ((w.length : Int) ≤ 8) = true := decide_eq_true (by omega)
  have e := lc_all (inj := fun c => D.str (S [c])) (h := gN 1) (t := tsY) (fe := e2 (gInS false) (eV 1) (eC (.str (S abc)))) (ρ := [.v (.str (S w)), .no]) (fun _ => D.bl true) (l := w) fun c m =>
    ⟨[.v (.str (S w)), .v (.str (S [c]))], rfl, rfl, by simp only [e2_ap, eV_succ, eV_zero, eC_ap, bind_ok, in_abc (h3 c m)]⟩
  have sg : signs (S w) = w.map fun c => D.str (S [c]) := rfl
  have sz : (w.map fun c => D.str (S [c])).length ≤ sizeLine := by rw [List.length_map, sz24]; omega
  have all : w.map (fun _ => D.bl true) = (w.map fun _ => true).map D.bl := by rw [List.map_map]; rfl
  have all2 : (w.map fun _ => true).all id = true := by simp
  unfold F_is_name G_is_name
  simp only [abc_eq, runF_ap, show startE 2 [.str (S w)] = [.v (.str (S w)), .no] from rfl, sSq_ap, sIf_ap, tNot_ap, tV_ap, eChain_ap, eC_ap, eA_ap, aC_ap, aN_ap, eV_zero, bind_ok, l, gLe_int, Bof_bl, c1, c2, if_true, Bool.not_true, from_ok, if_false, Bool.false_eq_true, sN_ap, sq_nx, sRet_ap, eLc_ap, iSq_ap, gIt_str, sg, sz, wipeE_cons, wipeE_nil, List.set_cons_succ, List.set_cons_zero, e, all, gAll_map, all2, out_rt]
abbrev Bd := List Nat × Int × Int
def okBd (b : Bd) : Prop := okName b.1 ∧ 1 ≤ b.2.1 ∧ b.2.1 ≤ 1000 ∧ 0 ≤ b.2.2 ∧ b.2.2 ≤ 1000000000
structure okCrew (bs : List Bd) : Prop where
  len : bs.length ≤ 6
  each : ∀ b ∈ bs, okBd b
  nd : (bs.map (·.1)).Nodup
theorem okCrew.rev {bs : List Bd} (h : okCrew bs) : okCrew bs.reverse := ⟨by rw [List.length_reverse]; exact h.len, fun b m => h.each b (List.mem_reverse.mp m), by rw [List.map_reverse]; exact List.pairwise_reverse.mpr (h.nd.imp Ne.symm)⟩
end Tk
namespace Tk
open PySem PySem.Spec L2 PyProof.Rows
end Tk
local macro_rules
  | `(tactic| simp_arith [$xs,*]) => `(tactic| simp only [Tk.sq_nx, Tk.sq_rt, Tk.sq_ro, Tk.sq_bk, Tk.sq_ct, Tk.sq_ex, Tk.sq_bad, Tk.lp_nx, Tk.lp_ct, Tk.lp_bk, Tk.lp_rt, Tk.lp_ro, Tk.lp_ex, Tk.lp_bad, Tk.sSq_ap, Tk.sN_ap, Tk.sBad_ap, Tk.sRet_ap, Tk.sRetN_ap, Tk.sDrop_ap, Tk.sIf_ap, Tk.sSet_ap, Tk.sBk_ap, Tk.sCt_ap, Tk.sAsg_ap, Tk.ofO_none, Tk.ofO_some, Tk.sFor_ap, Tk.loop_nil, Tk.eV_zero, Tk.eV_succ, Tk.eC_ap, Tk.e1_ap, Tk.e2_ap, Tk.eA_ap, Tk.aN_ap, Tk.aC_ap, Tk.Bof_bl, Tk.tV_ap, Tk.tAnd_ap, Tk.tOr_ap, Tk.tNot_ap, Tk.eAnd_ap, Tk.eOr_ap, Tk.eNot_ap, Tk.eIf_ap, Tk.eChain_ap, Tk.gN_ap, Tk.gsN_ap, Tk.gsC_ap, Tk.gT_ap, Tk.frzE_zero, Tk.frzE_succ, Tk.frzS_l, Tk.frzS_v, Tk.frzS_no, Tk.frzA_nil, Tk.frzA_cons, Tk.sFrz_ap, Tk.ownL_zero, Tk.ownL_succ, Tk.lDisp_ap, Tk.lList_ap, Tk.sOwn_ap, Tk.sApp_ap, Tk.sMut_ap, Tk.sPop_ap, Tk.eBor_ap, Tk.tBor_ap, Tk.wipeE_nil, Tk.wipeE_cons, Tk.eLc_ap, Tk.tsY_ap, Tk.iSq_ap, Tk.gIt_lst, Tk.gIt_tup, Tk.gIt_str, Tk.iR1_ap, Tk.iR2_ap, Tk.iEn2_ap, Tk.iZp2_ap, Tk.seqD_lst, Tk.seqD_tup, Tk.oN_ap, Tk.oS_ap, Tk.eSl_ap, Tk.eCall_ap, Tk.eCallK_ap, Tk.out_nx, Tk.out_rt, Tk.out_ro, Tk.out_ex, Tk.nL_ap, Tk.own_lT, Tk.sNew_ap, Tk.sRetV_ap, Tk.sRetF_ap, Tk.runO_ap, Tk.outO_ro, Tk.oCall_ap, Tk.lLc_ap, Tk.sPutL_ap, Tk.eOwnIx_ap, Tk.frzR_l, Tk.runF_ap, Tk.start_nil, Tk.start_cons', Tk.gSub_int, Tk.gAdd_int, Tk.gNeg_int, Tk.gLt_int, Tk.gLe_int, Tk.gGt_int, Tk.gGe_int, Tk.gEq_int, Tk.gEq_str, Tk.gEq_bl, Tk.gNe_def, Tk.rNot_bl, Tk.gInt_int, Tk.gInt_bl, Tk.gAbs_int, Tk.gLen_lst, Tk.gLen_tup, Tk.gLen_scr, Tk.gMin_int, Tk.gMax_int, Tk.gList_lst, Tk.gList_tup, Tk.gTuple_lst, Tk.gTuple_tup, Tk.gIsN_non, Tk.gNotN_non, Tk.gRev_lst, Tk.gRev_tup, Tk.goes_nx, Tk.goes_ct, Tk.quiet_ok, Tk.from_ok, Tk.from_exc, Tk.from_bad, Tk.bind_ok, Tk.bind_exc, Tk.bind_bad, List.set_cons_succ, List.set_cons_zero, List.map_nil, List.map_cons, List.length_cons, List.length_nil, Nat.zero_add, Nat.reduceAdd, Nat.reduceSub, Nat.reduceEqDiff, Nat.add_one_sub_one, and_self, if_true, if_false, Bool.not_true, Bool.not_false, Bool.false_eq_true, eq_self_iff_true, List.reduceReplicate, Nat.succ_ne_zero, List.cons_append, List.nil_append, Option.bind_some, decide_true, decide_false, $xs,*])
namespace Tk
open PySem PySem.Spec L2 PyProof.Rows
theorem tst : startE 5 [.non, .bl true] = [.v .non, .v (.bl true), .no, .no, .no] := by
  simp_arith []
theorem sz0 : (0 : Nat) ≤ sizeLine := Nat.zero_le _
theorem szle {n : Nat} (h : n ≤ 1000) : n ≤ sizeLine := by rw [sz24]; omega
theorem szlt {n : Nat} (h : n ≤ 1000) : n < sizeLine := by rw [sz24]; omega
end Tk
namespace Tk
open PySem PySem.Spec L2 PyProof.Rows
section
variable {ρ : Ev} {d : D} {s : Sl} {i : Nat}
theorem eFrz_ap {f : Ev → R Sl} : eFrz f ρ = (f ρ).bind frzR := (rfl)
theorem frzR_k {xs : List (Key × D)} : frzR (.k xs) = .ok (.dK xs) := (rfl)
theorem frzR_o {g : Option Addr} {c : Nat} {fs : List (Nat × D)} : frzR (.o g c fs) = .ok (.ins c fs) := (rfl)
theorem nMakeK_ap {c n m p : Nat} {F : Addr → List D → R (List (Nat × D))} {gD : List D → List D → List D} {fa fk : Ev → R (List D)} : nMakeK c n m p F gD fa fk ρ = (fa ρ).bind fun ds => (fk ρ).bind fun zs => if ds.length = n ∧ zs.length = m ∧ (gD ds zs).length + 1 = p then (unA fun a => F a (gD ds zs)).bind fun fs => .ok (.o none c fs) else .bad := (rfl)
theorem ownO_zero {g : Option Addr} {c : Nat} {fs : List (Nat × D)} : ownO (.o g c fs :: ρ) 0 = .ok (g, c, fs) := (rfl)
theorem sFldO_ap {cs : List Nat} {f : Nat} {fe : Ev → R D} : sFldO cs i f fe ρ = SO.from ρ (fe ρ) fun d => SO.from ρ (ownO ρ i) fun q => if q.2.1 ∈ cs ∧ q.2.2.length < 1000 then .nx (ρ.set i (.o q.1 q.2.1 (putN f d q.2.2))) else .bad := (rfl)
theorem eFldO_ap {cs : List Nat} {f : Nat} : eFldO cs i f ρ = (ownO ρ i).bind fun q => if q.2.1 ∈ cs then optR (q.2.2.lookup f) else .bad := (rfl)
theorem runI_ap {c n : Nat} {g : Ev → SO} {a : Addr} {ds : List D} : runI c n g a ds = (g (startI a c n ds)).outI a c := (rfl)
theorem outI_nx {a : Addr} {c : Nat} {fs : List (Nat × D)} : SO.outI a c (.nx (.o (some a) c fs :: ρ)) = .ok fs := by
  show (if some a = some a ∧ c = c then R.ok fs else .bad) = _
  rw [if_pos ⟨rfl, rfl⟩]
theorem nDc_ap {zs : List Nat} {fi : Ev → R (List D)} {h : Tg} {t : Ev → R Bool} {fk fv : Ev → R D} : nDc zs fi h t fk fv ρ = (fi ρ).bind fun ds => if ds.length ≤ sizeLine then (dcL h t fk fv (wipeE ρ zs) [] ds).bind fun kvs => .ok (.k kvs) else .bad := (rfl)
theorem eGet2_ap {fo fa fb : Ev → R D} : eGet2 fo fa fb ρ = (fo ρ).bind fun o => if isDict o = true then (fa ρ).bind fun a => (fb ρ).bind fun b => gGet2 o a b else .bad := (rfl)
theorem eIsi_ap {tab : List (Kd × Bool)} {f : Ev → R D} : eIsi tab f ρ = (f ρ).bind fun d => (optR (isiTab tab d)).bind fun b => .ok (.bl b) := (rfl)
theorem gFld_ins {cs : List Nat} {f c : Nat} {fs : List (Nat × D)} : gFld cs f (.ins c fs) = if c ∈ cs ∧ (fs.map (·.1)).all (fun k => k ≤ 1000) = true then optR (fs.lookup f) else .bad := (rfl)
end
end Tk
namespace Tk
open PySem PySem.Spec L2 PyProof.Rows
abbrev Bal := List (List Nat)
abbrev Row := Bal × Int
def bD (b : Bal) : D := .tup (b.map nD)
def zD (b : Bal) : D := .tpz (b.map nD)
def rowD (r : Row) : D := .tup [bD r.1, .int r.2]
def keyW (w : List Nat) : Key := .inr (S w)
def keyB (b : Bal) : List Key := b.map keyW
theorem keyW_inj {a b : List Nat} (h : keyW a = keyW b) : a = b := S_inj (Sum.inr.inj h)
theorem keyB_inj : ∀ {a b : Bal}, keyB a = keyB b → a = b
  | [], [], _ => rfl
  | [], _ :: _, h => by cases h
  | _ :: _, [], h => by cases h
  | x :: a, y :: b, h => by
    injection h with h1 h2
    rw [keyW_inj h1, keyB_inj h2]
theorem keysD_names : ∀ b : Bal, keysD (b.map nD) = some (keyB b)
  | [] => rfl
  | w :: b => by
    show (match keyD (nD w), keysD (b.map nD) with
      | some k, some ks => some (k :: ks)
      | _, _ => none) = _
    rw [keysD_names b]
    rfl
theorem keyT_bD {b : Bal} : keyT (bD b) = some (keyB b) := keysD_names b
theorem dKey_keyB {b : Bal} : (keyB b).map dKey = b.map nD := by unfold keyB; rw [List.map_map]; rfl
structure okOpts (os : Bal) : Prop where
  pos : 1 ≤ os.length
  few : os.length ≤ 4
  each : ∀ w ∈ os, okName w
  nd : os.Nodup
structure okBal (os b : Bal) : Prop where
  nd : b.Nodup
  sub : ∀ w ∈ b, w ∈ os
theorem sub_len {α : Type} [DecidableEq α] : ∀ {b os : List α}, b.Nodup → (∀ w ∈ b, w ∈ os) → b.length ≤ os.length
  | [], _, _, _ => Nat.zero_le _
  | w :: b, os, h, s => by
    have hw := s w List.mem_cons_self
    have hn := List.nodup_cons.mp h
    have := sub_len (b := b) (os := os.erase w) hn.2 fun x m => (List.mem_erase_of_ne (fun e => hn.1 (by rw [← e]; exact m))).mpr (s x (List.mem_cons_of_mem _ m))
    rw [List.length_erase_of_mem hw] at this
    have : 0 < os.length := List.length_pos_of_mem hw
    rw [List.length_cons]
    omega
theorem nd_get {α : Type} {l : List α} (h : l.Nodup) {i j : Nat} {a : α} (h1 : l[i]? = some a) (h2 : l[j]? = some a) : i = j := by
  obtain ⟨i1, e1⟩ := List.getElem?_eq_some_iff.mp h1
  obtain ⟨j1, e2⟩ := List.getElem?_eq_some_iff.mp h2
  have p := List.pairwise_iff_getElem.mp h
  rcases Nat.lt_trichotomy i j with z | z | z
  · exact absurd (e1.trans e2.symm) (p i j i1 j1 z)
  · exact z
  · exact absurd (e2.trans e1.symm) (p j i j1 i1 z)
theorem nd_take {α : Type} {l : List α} (h : l.Nodup) {i : Nat} {a : α} (q : l[i]? = some a) : a ∉ l.take i := fun m => by
  obtain ⟨k, k1, k2⟩ := List.getElem_of_mem m
  rw [List.length_take] at k1
  rw [List.getElem_take] at k2
  have := nd_get h q (j := k) (List.getElem?_eq_some_iff.mpr ⟨by omega, k2⟩)
  omega
theorem okBal.len {os b : Bal} (h : okBal os b) : b.length ≤ os.length := sub_len h.nd h.sub
theorem okBal.nil {os : Bal} : okBal os [] := ⟨.nil, fun _ m => nomatch m⟩
section
variable {xs : List D} {b : Bal} {w : List Nat}
@[simp] theorem gIt_tpz : gIt (.tpz xs) = .ok xs := (rfl)
@[simp] theorem gIt_tp0 : gIt .tp0 = .ok [] := (rfl)
@[simp] theorem gLen_tpz : gLen [.tpz xs] = .ok (.int xs.length) := (rfl)
@[simp] theorem gList_tpz : gList [.tpz xs] = .ok (.lst xs) := (rfl)
@[simp] theorem gTuple_tpz : gTuple [.tpz xs] = .ok (.tpz xs) := (rfl)
@[simp] theorem gTupZ_lst : gTupZ [.lst xs] = .ok (.tpz xs) := (rfl)
@[simp] theorem gTupZ_tpz : gTupZ [.tpz xs] = .ok (.tpz xs) := (rfl)
@[simp] theorem seqD_tpz : seqD (.tpz xs) = some (true, xs) := (rfl)
theorem in_tpz {ws : Bal} : gInS false (nD w) (.tpz (ws.map nD)) = .ok (.bl (decide (w ∈ ws))) := by
  show (if flatD (nD w) = true ∧ (ws.map nD).all flatD = true then R.ok (D.bl (if false = true then !inV (toV (nD w)) ((ws.map nD).map toV) else inV (toV (nD w)) ((ws.map nD).map toV))) else .bad) = _
  rw [if_pos ⟨rfl, flat_names⟩, if_neg Bool.false_ne_true, inV_names]
theorem nin_tpz {ws : Bal} : gInS true (nD w) (.tpz (ws.map nD)) = .ok (.bl (!decide (w ∈ ws))) := by
  show (if flatD (nD w) = true ∧ (ws.map nD).all flatD = true then R.ok (D.bl (if true = true then !inV (toV (nD w)) ((ws.map nD).map toV) else inV (toV (nD w)) ((ws.map nD).map toV))) else .bad) = _
  rw [if_pos ⟨rfl, flat_names⟩, if_pos rfl, inV_names]
theorem gIx_tpz {j : Int} (h : 0 ≤ j) (h2 : j < xs.length) : gIx (.tpz xs) (.int j) = optR xs[j.toNat]? := by
  show optR (L2.atI xs j) = _
  rw [atI_nn h h2]
theorem gIx_mapZ {α : Type} {inj : α → D} {l : List α} {j : Int} {a : α} (h : 0 ≤ j) (e : l[j.toNat]? = some a) : gIx (.tpz (l.map inj)) (.int j) = .ok (inj a) := by
  have h2 : j.toNat < l.length := (List.getElem?_eq_some_iff.mp e).1
  rw [gIx_tpz h (by rw [List.length_map]; omega), List.getElem?_map, e]
  rfl
theorem sPutT_ap {ρ : Ev} {i : Nat} {f fi : Ev → R D} : sPutT i fi f ρ = SO.from ρ (f ρ) fun d => SO.from ρ (ownT ρ i) fun kvs => SO.from ρ (fi ρ) fun y => match keyT y with
  | some k => if kvs.length < sizeLine then .nx (ρ.set i (.t (putG kvs k d))) else .bad
  | none => .bad := (rfl)
theorem nDT_ap {ρ : Ev} : nDT ρ = .ok (.t []) := (rfl)
theorem ownT_zero {ρ : Ev} {kvs : List (List Key × D)} : ownT (.t kvs :: ρ) 0 = .ok kvs := (rfl)
theorem ownT_succ {ρ : Ev} {s : Sl} {i : Nat} : ownT (s :: ρ) (i + 1) = ownT ρ i := (rfl)
theorem frzS_t {kvs : List (List Key × D)} : frzS (.t kvs) = .v (.dT kvs) := (rfl)
theorem frzS_o {g : Option Addr} {c : Nat} {fs : List (Nat × D)} : frzS (.o g c fs) = .v (.ins c fs) := (rfl)
theorem own_t {kvs : List (List Key × D)} : Sl.own (.t kvs) = true := (rfl)
theorem iKeyT_zT {ρ : Ev} {fo : Ev → R D} : iKeyT fo ρ = (fo ρ).bind fun d => match d with
  | .zT kvs => .ok (kvs.map fun kv => .tup (kv.1.map dKey))
  | _ => .bad := (rfl)
end
theorem checkB_ok {os b : Bal} (h4 : os.length ≤ 4) (h : okBal os b) : F_check_ballot [zD os, bD b] = .ok .non := by
  have hl := h.len
  obtain ⟨ρ', e, s1, s2, rfl⟩ := loop_en (inj := nD) (h := gT 2 (gsC (gN 2) (gsC (gN 3) (gsN)))) (body := B_check_ballot_1) (l := b) (ρ := [.v (zD os), .v (bD b), .no, .no])
    (fun _ ρ => ∃ s1 s2 : Sl, ρ = [.v (zD os), .v (bD b), s1, s2]) ⟨_, _, rfl⟩ (by
      rintro i w ρ q ⟨s1, s2, rfl⟩
      refine ⟨[.v (zD os), .v (bD b), .v (.int (i : Int)), .v (nD w)], rfl, ?_⟩
      have m : w ∈ os := h.sub w (List.mem_of_getElem? q)
      have n1 : gInS true (nD w) (zD os) = .ok (.bl false) := by unfold zD; rw [nin_tpz, decide_eq_true m]; rfl
      have sl : gSl (bD b) none (some (i : Int)) = .ok (bD (b.take i)) := by
        have := gSl_sq (b := true) (xs := b.map nD) (j := (i : Int)) (by omega)
        rw [Int.toNat_natCast, ← List.map_take] at this
        exact this
      have n2 : gInS false (nD w) (bD (b.take i)) = .ok (.bl false) := by
        unfold bD
        rw [in_tup, decide_eq_false]
        exact nd_take h.nd q
      unfold B_check_ballot_1
      simp_arith [n1, sl, n2]
      exact ⟨_, _, rfl⟩)
  unfold F_check_ballot G_check_ballot
  have sq : seqD (bD b) = some (true, b.map nD) := rfl
  simp_arith [sq, optR_some, e]
def nmsD : Bool → Bal → D
  | false, os => .lst (os.map nD)
  | true, os => zD os
theorem checkN_ok {z : Bool} {os : Bal} (h : okOpts os) : F_checked_names [nmsD z os, .int 4, .bl false] = .ok (zD os) := by
  have sl : ∀ i : Nat, ∃ d, gSl (nmsD z os) none (some (i : Int)) = .ok d ∧ ∀ w, gInS false (nD w) d = .ok (.bl (decide (w ∈ os.take i))) := fun i => by
    cases z with
    | false =>
      refine ⟨_, gSl_lst (xs := os.map nD) (j := (i : Int)) (by omega), fun w => ?_⟩
      rw [Int.toNat_natCast, ← List.map_take, in_lst]
    | true =>
      by_cases c : HT.sIx (os.map nD).length 0 none = 0 ∧ HT.sIx (os.map nD).length (os.map nD).length (some (i : Int)) = (os.map nD).length
      · refine ⟨zD os, if_pos c, fun w => ?_⟩
        have e : cutD (os.map nD) none (some (i : Int)) = os.map nD := by
          unfold cutD
          rw [c.1, c.2, List.drop_zero, Nat.sub_zero, List.take_length]
        rw [cut_hi (by omega), Int.toNat_natCast] at e
        have l : (os.map nD).length ≤ i := by
          have := congrArg List.length e
          rw [List.length_take] at this
          omega
        rw [List.length_map] at l
        rw [List.take_of_length_le l]
        exact in_tpz
      · refine ⟨.tup (cutD (os.map nD) none (some (i : Int))), if_neg c, fun w => ?_⟩
        rw [cut_hi (by omega), Int.toNat_natCast, ← List.map_take, in_tup]
  obtain ⟨ρ', e, s1, s2, rfl⟩ := loop_en (inj := nD) (h := gT 2 (gsC (gN 3) (gsC (gN 4) (gsN)))) (body := B_checked_names_1) (l := os) (ρ := [.v (nmsD z os), .v (.int 4), .v (.bl false), .no, .no])
    (fun _ ρ => ∃ s1 s2 : Sl, ρ = [.v (nmsD z os), .v (.int 4), .v (.bl false), s1, s2]) ⟨_, _, rfl⟩ (by
      rintro i w ρ q ⟨s1, s2, rfl⟩
      refine ⟨[.v (nmsD z os), .v (.int 4), .v (.bl false), .v (.int (i : Int)), .v (nD w)], rfl, ?_⟩
      have nm := is_name_ok (h.each w (List.mem_of_getElem? q))
      obtain ⟨d, sd, hd⟩ := sl i
      have n2 : gInS false (nD w) d = .ok (.bl false) := by
        rw [hd, decide_eq_false]
        exact nd_take h.nd q
      unfold B_checked_names_1
      simp_arith [nm, sd, n2]
      exact ⟨_, _, rfl⟩)
  have c1 : decide ((1 : Int) ≤ (os.length : Int)) = true := decide_eq_true (by have := h.pos; omega)
  have c2 : decide ((os.length : Int) ≤ 4) = true := decide_eq_true (by have := h.few; omega)
  have sq : ∃ b, seqD (nmsD z os) = some (b, os.map nD) := by cases z <;> exact ⟨_, rfl⟩
  obtain ⟨bb, sq⟩ := sq
  have ln : gLen [nmsD z os] = .ok (.int os.length) := by
    cases z with
    | false => show gLen [.lst (os.map nD)] = _; rw [gLen_lst, List.length_map]
    | true => show gLen [.tpz (os.map nD)] = _; rw [gLen_tpz, List.length_map]
  have tz : gTupZ [nmsD z os] = .ok (zD os) := by cases z <;> rfl
  unfold F_checked_names G_checked_names
  simp_arith [ln, c1, c2, sq, optR_some, e, tz]
end Tk
namespace Tk
open PySem PySem.Spec L2 PyProof.Rows
theorem idx_name {ms : List (List Nat)} (nd : ms.Nodup) {i : Nat} {w : List Nat} (h : ms[i]? = some w) : ms.idxOf w = i := by
  obtain ⟨hi, e⟩ := List.getElem?_eq_some_iff.mp h
  have m : w ∈ ms := List.mem_of_getElem? h
  have h2 : ms.idxOf w < ms.length := List.idxOf_lt_length_iff.mpr m
  have h3 : ms[ms.idxOf w] = w := List.getElem_idxOf h2
  exact (List.getElem_inj nd).mp (h3.trans e.symm)
end Tk
namespace Tk
open PySem PySem.Spec L2 PyProof.Rows
section
variable {κ κ' α β : Type} [DecidableEq κ] [DecidableEq κ']
theorem getG_map {f : κ → κ'} {g : α → β} (hf : ∀ a b, f a = f b → a = b) (k : κ) : ∀ cs : List (κ × α), getG (cs.map fun r => (f r.1, g r.2)) (f k) = (getG cs k).map g
  | [] => rfl
  | c :: cs => by
    have ih := getG_map (g := g) hf k cs
    unfold getG at ih ⊢
    rw [List.map_cons]
    by_cases z : c.1 = k
    · rw [List.find?_cons_of_pos (by simp [z]), List.find?_cons_of_pos (by simp [z])]
      rfl
    · have z2 : ¬ f c.1 = f k := fun e => z (hf _ _ e)
      rw [List.find?_cons_of_neg (by simp [z2]), List.find?_cons_of_neg (by simp [z])]
      exact ih
theorem putG_map {f : κ → κ'} {g : α → β} (hf : ∀ a b, f a = f b → a = b) (k : κ) (v : α) (cs : List (κ × α)) : putG (cs.map fun r => (f r.1, g r.2)) (f k) (g v) = (putG cs k v).map fun r => (f r.1, g r.2) := by
  have e : ((cs.map fun r => (f r.1, g r.2)).any fun kv => decide (kv.1 = f k)) = cs.any fun kv => decide (kv.1 = k) := by
    rw [List.any_map]
    congr 1
    funext r
    show decide (f r.1 = f k) = _
    rw [decide_eq_decide]
    exact ⟨hf _ _, fun h => by rw [h]⟩
  unfold putG
  rw [e]
  split
  · rw [List.map_map, List.map_map]
    refine List.map_congr_left fun r _ => ?_
    show (if f r.1 = f k then (f r.1, g v) else (f r.1, g r.2)) = _
    by_cases z : r.1 = k
    · rw [if_pos (by rw [z])]
      show _ = (fun r : κ × α => (f r.1, g r.2)) (if r.1 = k then (r.1, v) else r)
      rw [if_pos z]
    · rw [if_neg fun e => z (hf _ _ e)]
      show _ = (fun r : κ × α => (f r.1, g r.2)) (if r.1 = k then (r.1, v) else r)
      rw [if_neg z]
  · rw [List.map_append]; rfl
theorem getG_some {cs : List (κ × α)} {k : κ} {v : α} (nd : (cs.map (·.1)).Nodup) (m : (k, v) ∈ cs) : getG cs k = some v := by
  induction cs with
  | nil => cases m
  | cons c cs ih =>
    rw [List.map_cons, List.nodup_cons] at nd
    unfold getG
    rcases List.mem_cons.mp m with rfl | m
    · rw [List.find?_cons_of_pos (by simp)]; rfl
    · have : ¬ c.1 = k := fun e => nd.1 (by rw [e]; exact List.mem_map.mpr ⟨_, m, rfl⟩)
      rw [List.find?_cons_of_neg (by simp [this])]
      exact ih nd.2 m
theorem getG_none {cs : List (κ × α)} {k : κ} (h : k ∉ cs.map (·.1)) : getG cs k = none := by
  unfold getG
  rw [List.find?_eq_none.mpr fun c m => by
    simp only [decide_eq_true_eq]
    intro e
    exact h (by rw [← e]; exact List.mem_map.mpr ⟨_, m, rfl⟩)]
  rfl
theorem any_key {cs : List (κ × α)} {k : κ} : (cs.any fun kv => decide (kv.1 = k)) = true ↔ k ∈ cs.map (·.1) := by
  rw [List.any_eq_true, List.mem_map]
  constructor
  · rintro ⟨c, m, e⟩; exact ⟨c, m, of_decide_eq_true e⟩
  · rintro ⟨c, m, e⟩; exact ⟨c, m, decide_eq_true e⟩
theorem putG_in {cs : List (κ × α)} {k : κ} {v : α} (h : k ∈ cs.map (·.1)) : putG cs k v = cs.map fun kv => if kv.1 = k then (kv.1, v) else kv := by
  unfold putG; rw [if_pos (any_key.mpr h)]
theorem putG_out {cs : List (κ × α)} {k : κ} {v : α} (h : k ∉ cs.map (·.1)) : putG cs k v = cs ++ [(k, v)] := by
  unfold putG; rw [if_neg fun z => h (any_key.mp z)]
theorem putG_keys {cs : List (κ × α)} {k : κ} {v : α} : (putG cs k v).map (·.1) = if k ∈ cs.map (·.1) then cs.map (·.1) else cs.map (·.1) ++ [k] := by
  by_cases h : k ∈ cs.map (·.1)
  · rw [if_pos h, putG_in h, List.map_map]
    refine List.map_congr_left fun r _ => ?_
    show (if r.1 = k then (r.1, v) else r).1 = r.1
    split <;> rfl
  · rw [if_neg h, putG_out h, List.map_append]; rfl
theorem putG_nd {cs : List (κ × α)} {k : κ} {v : α} (nd : (cs.map (·.1)).Nodup) : ((putG cs k v).map (·.1)).Nodup := by
  rw [putG_keys]
  split
  · exact nd
  · rename_i h
    exact List.nodup_append.mpr ⟨nd, by simp, fun a m b n e => h (by rw [List.mem_singleton.mp n] at e; rw [← e]; exact m)⟩
theorem putG_mem {cs : List (κ × α)} {k : κ} {v : α} {c : κ × α} (m : c ∈ putG cs k v) : c = (k, v) ∨ c ∈ cs := by
  by_cases h : k ∈ cs.map (·.1)
  · rw [putG_in h] at m
    obtain ⟨d, d1, d2⟩ := List.mem_map.mp m
    by_cases z : d.1 = k
    · rw [if_pos z] at d2; exact .inl (by rw [← d2, z])
    · rw [if_neg z] at d2; exact .inr (by rw [← d2]; exact d1)
  · rw [putG_out h] at m
    rcases List.mem_append.mp m with m | m
    · exact .inr m
    · exact .inl (List.mem_singleton.mp m)
end
def cD (cs : List Row) : List (List Key × D) := cs.map fun r => (keyB r.1, .int r.2)
theorem getG_cD (cs : List Row) (b : Bal) : getG (cD cs) (keyB b) = (getG cs b).map .int := getG_map (f := keyB) (g := D.int) (fun _ _ => keyB_inj) b cs
theorem putG_cD (cs : List Row) (b : Bal) (n : Int) : putG (cD cs) (keyB b) (.int n) = cD (putG cs b n) := putG_map (f := keyB) (g := D.int) (fun _ _ => keyB_inj) b n cs
def sumP (p : Bal → Bool) (rs : List Row) : Int := ((rs.filter fun r => p r.1).map (·.2)).sum
theorem sumP_nil {p : Bal → Bool} : sumP p [] = 0 := rfl
theorem sumP_cons {p : Bal → Bool} {r : Row} {rs : List Row} : sumP p (r :: rs) = (if p r.1 then r.2 else 0) + sumP p rs := by
  unfold sumP
  cases h : p r.1 with
  | true => rw [List.filter_cons_of_pos (p := fun r : Row => p r.1) h, List.map_cons, List.sum_cons, if_pos rfl]
  | false => rw [List.filter_cons_of_neg (p := fun r : Row => p r.1) (by rw [h]; decide), if_neg Bool.false_ne_true, Int.zero_add]
theorem sumP_append {p : Bal → Bool} : ∀ {rs qs : List Row}, sumP p (rs ++ qs) = sumP p rs + sumP p qs
  | [], qs => by rw [List.nil_append, sumP_nil, Int.zero_add]
  | r :: rs, qs => by rw [List.cons_append, sumP_cons, sumP_cons, sumP_append, Int.add_assoc]
theorem sumP_perm {p : Bal → Bool} {rs qs : List Row} (h : rs.Perm qs) : sumP p rs = sumP p qs := by
  induction h with
  | nil => rfl
  | cons x _ ih => rw [sumP_cons, sumP_cons, ih]
  | swap x y l => rw [sumP_cons, sumP_cons, sumP_cons, sumP_cons]; omega
  | trans _ _ a b => exact a.trans b
theorem sumP_pos {p : Bal → Bool} : ∀ {rs : List Row}, (∀ r ∈ rs, 0 ≤ r.2) → sumP p (rs.filter fun r => decide (0 < r.2)) = sumP p rs
  | [], _ => rfl
  | r :: rs, h => by
    have ih := sumP_pos (p := p) (rs := rs) fun x m => h x (List.mem_cons_of_mem _ m)
    have h0 := h r List.mem_cons_self
    by_cases z : 0 < r.2
    · rw [List.filter_cons_of_pos (by simpa using z), sumP_cons, sumP_cons, ih]
    · have : r.2 = 0 := by omega
      rw [List.filter_cons_of_neg (by simpa using z), ih, sumP_cons, this]
      split <;> omega
def addR (cs : List Row) (r : Row) : List Row := putG cs r.1 ((getG cs r.1).getD 0 + r.2)
theorem sumP_map_upd {p : Bal → Bool} {b : Bal} {v : Int} : ∀ {cs : List Row}, (cs.map (·.1)).Nodup → ∀ {v0 : Int}, (b, v0) ∈ cs → sumP p (cs.map fun kv => if kv.1 = b then (kv.1, v) else kv) = sumP p cs + (if p b then v - v0 else 0)
  | [], _, _, m => by cases m
  | c :: cs, nd, v0, m => by
    rw [List.map_cons, List.nodup_cons] at nd
    rw [List.map_cons, sumP_cons, sumP_cons]
    by_cases z : c.1 = b
    · have hout : ∀ d ∈ cs, ¬ d.1 = b := fun d md e => nd.1 (by rw [z, ← e]; exact List.mem_map.mpr ⟨_, md, rfl⟩)
      have e1 : cs.map (fun kv => if kv.1 = b then (kv.1, v) else kv) = cs := by
        conv => rhs; rw [← List.map_id cs]
        exact List.map_congr_left fun d md => if_neg (hout d md)
      have ec : c = (b, v0) := by
        rcases List.mem_cons.mp m with e | m
        · exact e.symm
        · exact absurd rfl (hout _ m)
      rw [e1, if_pos z, ec]
      show (if p b = true then v else 0) + sumP p cs = (if p b = true then v0 else 0) + sumP p cs + _
      split <;> omega
    · have m2 : (b, v0) ∈ cs := by
        rcases List.mem_cons.mp m with e | m
        · exact absurd (by rw [← e]) z
        · exact m
      rw [if_neg z, sumP_map_upd nd.2 m2]
      omega
theorem sumP_addR {p : Bal → Bool} {cs : List Row} {r : Row} (nd : (cs.map (·.1)).Nodup) : sumP p (addR cs r) = sumP p cs + (if p r.1 then r.2 else 0) := by
  unfold addR
  by_cases h : r.1 ∈ cs.map (·.1)
  · obtain ⟨c, m, e⟩ := List.mem_map.mp h
    have m2 : (r.1, c.2) ∈ cs := by rw [← e]; exact m
    rw [getG_some nd m2, putG_in h, sumP_map_upd nd m2]
    show _ + (if p r.1 = true then c.2 + r.2 - c.2 else 0) = _
    split <;> omega
  · rw [getG_none h, putG_out h, sumP_append, sumP_cons, sumP_nil]
    show _ + ((if p r.1 = true then 0 + r.2 else 0) + 0) = _
    split <;> omega
def tally (rs : List Row) : List Row := rs.foldl addR []
structure okRows (os : Bal) (rs : List Row) : Prop where
  bal : ∀ r ∈ rs, okBal os r.1
  nn : ∀ r ∈ rs, 0 ≤ r.2
theorem okRows.app {os : Bal} {rs qs : List Row} (h : okRows os rs) (g : okRows os qs) : okRows os (rs ++ qs) := ⟨fun r m => (List.mem_append.mp m).elim (h.bal r) (g.bal r), fun r m => (List.mem_append.mp m).elim (h.nn r) (g.nn r)⟩
theorem okRows.nil {os : Bal} : okRows os [] := ⟨fun _ m => (nomatch m), fun _ m => (nomatch m)⟩
theorem okRows.take {os : Bal} {rs : List Row} (h : okRows os rs) (n : Nat) : okRows os (rs.take n) := ⟨fun r m => h.bal r (List.mem_of_mem_take m), fun r m => h.nn r (List.mem_of_mem_take m)⟩
theorem tally_all {os : Bal} : ∀ {rs : List Row}, okRows os rs → ((tally rs).map (·.1)).Nodup ∧ (okRows os (tally rs)) ∧ (tally rs).length ≤ rs.length ∧ ∀ p, sumP p (tally rs) = sumP p rs := by
  intro rs
  suffices go : ∀ (rs cs : List Row), okRows os rs → okRows os cs → (cs.map (·.1)).Nodup → ((rs.foldl addR cs).map (·.1)).Nodup ∧ okRows os (rs.foldl addR cs) ∧ (rs.foldl addR cs).length ≤ cs.length + rs.length ∧ ∀ p, sumP p (rs.foldl addR cs) = sumP p cs + sumP p rs by
    intro h
    obtain ⟨h1, h2, h3, h4⟩ := go rs [] h .nil .nil
    refine ⟨h1, h2, (by rw [List.length_nil, Nat.zero_add] at h3; exact h3), fun p => ?_⟩
    have := h4 p
    rw [sumP_nil, Int.zero_add] at this
    exact this
  intro rs
  induction rs with
  | nil => intro cs h g nd; exact ⟨nd, g, by simp, fun p => by rw [sumP_nil]; simp⟩
  | cons r rs ih =>
    intro cs h g nd
    have hr : okRows os rs := ⟨fun x m => h.bal x (List.mem_cons_of_mem _ m), fun x m => h.nn x (List.mem_cons_of_mem _ m)⟩
    have g0 : 0 ≤ (getG cs r.1).getD 0 := by
      by_cases z : r.1 ∈ cs.map (·.1)
      · obtain ⟨c, m, e⟩ := List.mem_map.mp z
        rw [getG_some nd (by rw [← e]; exact m : (r.1, c.2) ∈ cs)]
        exact g.nn c m
      · rw [getG_none z]; exact Int.le_refl _
    have h0 := h.nn r List.mem_cons_self
    have g2 : okRows os (addR cs r) := ⟨fun x m => (putG_mem m).elim (fun e => (by rw [e]; exact h.bal r List.mem_cons_self)) (g.bal x), fun x m => (putG_mem m).elim (fun e => (by rw [e]; show 0 ≤ (getG cs r.1).getD 0 + r.2; omega)) (g.nn x)⟩
    obtain ⟨h1, h2, h3, h4⟩ := ih (addR cs r) hr g2 (putG_nd nd)
    rw [List.foldl_cons]
    refine ⟨h1, h2, ?_, fun p => ?_⟩
    · have := putG_len cs r.1 ((getG cs r.1).getD 0 + r.2)
      have l : (addR cs r).length ≤ cs.length + 1 := this
      rw [List.length_cons]
      omega
    · rw [h4, sumP_addR nd, sumP_cons]
      omega
end Tk
namespace Tk
open PySem PySem.Spec L2 PyProof.Rows
def idx (os : Bal) (w : List Nat) : Int := ((os.idxOf w : Nat) : Int)
def plD (os : Bal) : List (Key × D) := os.zipIdx.map fun p => (keyW p.1, .int (p.2 : Int))
theorem pl_get {os : Bal} {w : List Nat} (nd : os.Nodup) (m : w ∈ os) : getG (plD os) (keyW w) = some (.int (idx os w)) := by
  refine getG_some ?_ ?_
  · unfold plD
    rw [List.map_map]
    have e : (List.map ((fun x : Key × D => x.1) ∘ fun p : List Nat × Nat => (keyW p.1, D.int (p.2 : Int))) os.zipIdx) = os.map keyW := by
      apply List.ext_getElem?
      intro i
      rw [List.getElem?_map, List.getElem?_map, List.getElem?_zipIdx, Option.map_map]
      rfl
    rw [e]
    exact List.pairwise_map.mpr (nd.imp fun h e => h (keyW_inj e))
  · refine List.mem_map.mpr ⟨(w, os.idxOf w), ?_, rfl⟩
    refine List.mem_iff_getElem?.mpr ⟨os.idxOf w, ?_⟩
    have hl := List.idxOf_lt_length_iff.mpr m
    rw [List.getElem?_zipIdx, List.getElem?_eq_getElem hl, List.getElem_idxOf hl]
    simp
theorem pl_dc {os : Bal} {ρ : Ev} {d : D} {x y : Sl} {u2 u3 u4 u7 u8 : Sl} {v0 v1 : D} (nd : os.Nodup) :
    dcL (gT 2 (gsC (gN 5) (gsC (gN 6) (gsN)))) (tsY) (eV 6) (eV 5) [.v v0, .v v1, u2, u3, u4, .no, .no, u7, u8] [] (enumD 0 (os.map nD)) = .ok (plD os) := by
  have go : ∀ (l : Bal) (k : Nat) (acc : List (Key × D)), (∀ w ∈ l, keyW w ∉ acc.map (·.1)) → l.Nodup → dcL (gT 2 (gsC (gN 5) (gsC (gN 6) (gsN)))) (tsY) (eV 6) (eV 5) [.v v0, .v v1, u2, u3, u4, .no, .no, u7, u8] acc (enumD k (l.map nD)) = .ok (acc ++ (l.zipIdx k).map fun p => (keyW p.1, D.int (p.2 : Int))) := by
    intro l
    induction l with
    | nil => intro k acc _ _; show R.ok acc = _; rw [List.zipIdx_nil, List.map_nil, List.append_nil]
    | cons w l ih =>
      intro k acc h n
      obtain ⟨n1, n2⟩ := List.nodup_cons.mp n
      have e : putG acc (keyW w) (D.int (k : Int)) = acc ++ [(keyW w, .int (k : Int))] := putG_out (h w List.mem_cons_self)
      show dcL _ _ _ _ _ (putG acc (keyW w) (D.int (k : Int))) (enumD (k + 1) (l.map nD)) = _
      rw [e, ih (k + 1) _ (fun u m => ?_) n2, List.zipIdx_cons, List.map_cons, List.append_assoc]
      · rfl
      · rw [List.map_append, List.mem_append, not_or]
        refine ⟨h u (List.mem_cons_of_mem _ m), fun z => n1 ?_⟩
        rw [← keyW_inj (List.mem_singleton.mp z)]
        exact m
  rw [go os 0 [] (fun _ _ m => nomatch m) nd, List.nil_append]
  rfl
def places (os : Bal) (b : Bal) : List Int := b.map (idx os)
def back (os : Bal) (r : List Int) : Bal := r.map fun i => os.getD i.toNat []
theorem back_places {os b : Bal} (h : ∀ w ∈ b, w ∈ os) : back os (places os b) = b := by
  unfold back places
  rw [List.map_map]
  conv => rhs; rw [← List.map_id b]
  refine List.map_congr_left fun w m => ?_
  show os.getD ((os.idxOf w : Nat) : Int).toNat [] = w
  have hl := List.idxOf_lt_length_iff.mpr (h w m)
  rw [Int.toNat_natCast, List.getD_eq_getElem?_getD, List.getElem?_eq_getElem hl, List.getElem_idxOf hl]
  rfl
def posR (cs : List Row) : List Row := cs.filter fun r => decide (0 < r.2)
def ordR (os : Bal) (cs : List Row) : List Row := (srtL ((posR cs).map fun r => places os r.1)).map fun row => (back os row, (getG cs (back os row)).getD 0)
theorem ordR_perm {os : Bal} {cs : List Row} (nd : (cs.map (·.1)).Nodup) (h : okRows os cs) : (ordR os cs).Perm (posR cs) := by
  have p : (srtL ((posR cs).map fun r => places os r.1)).Perm ((posR cs).map fun r => places os r.1) := List.mergeSort_perm _ _
  have q := p.map fun row => (back os row, (getG cs (back os row)).getD 0)
  have e : ((posR cs).map fun r => places os r.1).map (fun row => (back os row, (getG cs (back os row)).getD 0)) = posR cs := by
    rw [List.map_map]
    conv => rhs; rw [← List.map_id (posR cs)]
    refine List.map_congr_left fun r m => ?_
    have mc := (List.mem_filter.mp m).1
    show (back os (places os r.1), (getG cs (back os (places os r.1))).getD 0) = r
    rw [back_places (h.bal r mc).sub, getG_some nd mc]
    rfl
  rw [e] at q
  exact q
theorem tints_map : ∀ ps : List (List Int), tintsOf (ps.map dTI) = some ps
  | [] => rfl
  | p :: ps => by
    show (tintOf (dTI p)).bind (fun q => (tintsOf (ps.map dTI)).map (q :: ·)) = _
    rw [tints_map ps]
    show ((intsOf (p.map .int)).bind fun q => _) = _
    rw [ints_map]
    rfl
theorem tupL_tints : ∀ ps : List (List Int), tupL (ps.map dTI) = true
  | [] => by rw [List.map_nil, tupL]
  | p :: ps => by
    have h : ∀ l : List Int, tupL (l.map D.int) = true := fun l => by
      induction l with
      | nil => rw [List.map_nil, tupL]
      | cons i l ih => rw [List.map_cons, tupL, tupD, ih]; rfl
    rw [List.map_cons, tupL, tupL_tints ps, Bool.and_true]
    show tupD (.tup (p.map .int)) = true
    rw [tupD, h]
theorem gSrtT_map {ps : List (List Int)} : gSrtT [.lst (ps.map dTI)] = .ok (.lst ((srtL ps).map dTI)) := by
  show (optR (tintsOf (ps.map dTI))).bind _ = _
  rw [tints_map]
  rfl
theorem ordered_ok {os : Bal} {cs : List Row} (ho : okOpts os) (nd : (cs.map (·.1)).Nodup) (h : okRows os cs) (hl : cs.length ≤ 1000) : F_ordered_rows [zD os, .dT (cD cs)] = .ok (.tup ((ordR os cs).map rowD)) := by
  have few := ho.few
  have e1 : ∀ u2 u3 u4 u7 u8 : Sl, dcL (gT 2 (gsC (gN 5) (gsC (gN 6) (gsN)))) (tsY) (eV 6) (eV 5) [.v (zD os), .v (.dT (cD cs)), u2, u3, u4, .no, .no, u7, u8] [] (enumD 0 (os.map nD)) = .ok (plD os) := fun u2 u3 u4 u7 u8 => pl_dc (ρ := []) (d := .non) (x := .no) (y := .no) ho.nd
  have s1 : (enumD 0 (os.map nD)).length ≤ sizeLine := by rw [enum_len, List.length_map]; exact szle (by omega)
  -- one row's places
  have hp : ∀ (r : Row) (u3 u4 u5 u8 : Sl) (v1 : D), r ∈ cs → lcL (gN 6) tsY (e2 gIxA (eV 2) (eV 6)) [.v (zD os), .v v1, .v (.dK (plD os)), u3, u4, u5, .no, .v (bD r.1), u8] (r.1.map nD) = .ok ((places os r.1).map .int) := fun r u3 u4 u5 u8 v1 m => by
    rw [lc_all (inj := nD) (fun w => D.int (idx os w)) fun w mw => ⟨[.v (zD os), .v v1, .v (.dK (plD os)), u3, u4, u5, .v (nD w), .v (bD r.1), u8], rfl, rfl, by
      have g : gIxA (.dK (plD os)) (nD w) = .ok (.int (idx os w)) := by
        show (optR (keyD (nD w))).bind (fun k => optR (getG (plD os) k)) = _
        show optR (getG (plD os) (keyW w)) = _
        rw [pl_get ho.nd ((h.bal r m).sub w mw)]
        rfl
      simp_arith [g]⟩]
    unfold places
    rw [List.map_map]
    rfl
  have g3 : ∀ r ∈ cs, gIxA (.zT (cD cs)) (bD r.1) = .ok (.int r.2) := fun r m => by
    show (optR (keyT (bD r.1))).bind (fun k => optR (getG (cD cs) k)) = _
    rw [keyT_bD]
    show optR (getG (cD cs) (keyB r.1)) = _
    rw [getG_cD, getG_some nd m]
    rfl
  have bl : ∀ r ∈ cs, (r.1.map nD).length ≤ sizeLine := fun r m => by
    have := (h.bal r m).len
    rw [List.length_map]
    exact szle (by omega)
  have e3 : ∀ u3 u4 : Sl, lcL (gN 7) (tV (e2 gGt (e2 gIxA (eV 1) (eV 7)) (eC (.int 0)))) (eA gTuple (aC (eLc [6] (iSq (eV 7)) (gN 6) (tsY) (e2 gIxA (eV 2) (eV 6))) (aN))) [.v (zD os), .v (.zT (cD cs)), .v (.dK (plD os)), u3, u4, .no, .no, .no, .no] ((cD cs).map fun kv => .tup (kv.1.map dKey)) = .ok (((posR cs).map fun r => places os r.1).map dTI) := fun u3 u4 => by
    have em : ((cD cs).map fun kv => D.tup (kv.1.map dKey)) = cs.map fun r : Row => bD r.1 := by
      unfold cD
      rw [List.map_map]
      refine List.map_congr_left fun r _ => ?_
      show D.tup ((keyB r.1).map dKey) = _
      rw [dKey_keyB]
      rfl
    rw [em, lc_map (inj := fun r : Row => bD r.1) (fun r => decide (0 < r.2)) (fun r => dTI (places os r.1)) fun r m => ⟨[.v (zD os), .v (.zT (cD cs)), .v (.dK (plD os)), u3, u4, .no, .no, .v (bD r.1), .no], rfl, by
      have g := g3 r m
      simp_arith [g], fun _ => by
      have e := hp r u3 u4 .no .no (.zT (cD cs)) m
      have bz := bl r m
      have gi : gIt (bD r.1) = .ok (r.1.map nD) := rfl
      simp_arith [gi, bz, e]
      rfl⟩]
    unfold posR
    rw [List.map_map]
    rfl
  have lk : ∀ u3 u4 : Sl, eLckT 1 (eLc [7] (iKeyT (eV 1)) (gN 7) (tV (e2 gGt (e2 gIxA (eV 1) (eV 7)) (eC (.int 0)))) (eA gTuple (aC (eLc [6] (iSq (eV 7)) (gN 6) (tsY) (e2 gIxA (eV 2) (eV 6))) (aN)))) [.v (zD os), .v (.dT (cD cs)), .v (.dK (plD os)), u3, u4, .no, .no, .no, .no] = .ok (.lst (((posR cs).map fun r => places os r.1).map dTI)) := fun u3 u4 => by
    have sz : ((cD cs).map fun kv => D.tup (kv.1.map dKey)).length ≤ sizeLine := by unfold cD; rw [List.length_map, List.length_map]; exact szle hl
    have e := e3 u3 u4
    show (R.quiet (eLc [7] (iKeyT (eV 1)) (gN 7) (tV (e2 gGt (e2 gIxA (eV 1) (eV 7)) (eC (.int 0)))) (eA gTuple (aC (eLc [6] (iSq (eV 7)) (gN 6) (tsY) (e2 gIxA (eV 2) (eV 6))) (aN))) [.v (zD os), .v (.zT (cD cs)), .v (.dK (plD os)), u3, u4, .no, .no, .no, .no])).bind _ = _
    simp_arith [iKeyT_zT, sz, e, tupL_tints]
  have e4 : ∀ u3 u4 u6 u7 : Sl, lcL (gN 8) tsY (eA gTuple (aC (eLc [5] (iSq (eV 8)) (gN 5) (tsY) (e2 gIx (eV 0) (eV 5))) (aN))) [.v (zD os), .v (.dT (cD cs)), .v (.dK (plD os)), u3, u4, .no, u6, u7, .no] ((srtL ((posR cs).map fun r => places os r.1)).map dTI) = .ok ((srtL ((posR cs).map fun r => places os r.1)).map fun row => bD (back os row)) := fun u3 u4 u6 u7 => by
    refine lc_all (inj := dTI) (fun row => bD (back os row)) fun row m => ⟨[.v (zD os), .v (.dT (cD cs)), .v (.dK (plD os)), u3, u4, .no, u6, u7, .v (dTI row)], rfl, rfl, ?_⟩
    have p : (srtL ((posR cs).map fun r => places os r.1)).Perm ((posR cs).map fun r => places os r.1) := List.mergeSort_perm _ _
    obtain ⟨r, m1, rfl⟩ := List.mem_map.mp (p.mem_iff.mp m)
    have mc := (List.mem_filter.mp m1).1
    have rl : ((places os r.1).map D.int).length ≤ sizeLine := by
      have := (h.bal r mc).len
      unfold places
      rw [List.length_map, List.length_map]
      exact szle (by omega)
    have e5 : lcL (gN 5) tsY (e2 gIx (eV 0) (eV 5)) [.v (zD os), .v (.dT (cD cs)), .v (.dK (plD os)), u3, u4, .no, u6, u7, .v (dTI (places os r.1))] ((places os r.1).map .int) = .ok ((places os r.1).map fun i => nD (os.getD i.toNat [])) :=
      lc_all (inj := D.int) (fun i => nD (os.getD i.toNat [])) fun i mi => ⟨[.v (zD os), .v (.dT (cD cs)), .v (.dK (plD os)), u3, u4, .v (.int i), u6, u7, .v (dTI (places os r.1))], rfl, rfl, by
        obtain ⟨w, mw, rfl⟩ := List.mem_map.mp mi
        have hw := List.idxOf_lt_length_iff.mpr ((h.bal r mc).sub w mw)
        have g : gIx (zD os) (.int (idx os w)) = .ok (nD (os.getD (idx os w).toNat [])) := gIx_mapZ (inj := nD) (by unfold idx; omega) (by
          unfold idx
          rw [Int.toNat_natCast, List.getD_eq_getElem?_getD, List.getElem?_eq_getElem hw]
          rfl)
        simp_arith [g]⟩
    have gi : gIt (dTI (places os r.1)) = .ok ((places os r.1).map .int) := rfl
    simp_arith [gi, rl, e5]
    unfold bD back
    rw [List.map_map]
    rfl
  have e6 : ∀ u3 u4 u5 u6 u8 : Sl, lcL (gN 7) tsY (eA gTup (aC (eV 7) (aC (e2 gIxA (eV 1) (eV 7)) (aN)))) [.v (zD os), .v (.dT (cD cs)), .v (.dK (plD os)), u3, u4, u5, u6, .no, u8] ((srtL ((posR cs).map fun r => places os r.1)).map fun row => bD (back os row)) = .ok ((ordR os cs).map rowD) := fun u3 u4 u5 u6 u8 => by
    rw [lc_all (inj := fun row => bD (back os row)) (fun row => rowD (back os row, (getG cs (back os row)).getD 0)) fun row m => ⟨[.v (zD os), .v (.dT (cD cs)), .v (.dK (plD os)), u3, u4, u5, u6, .v (bD (back os row)), u8], rfl, rfl, by
      have p : (srtL ((posR cs).map fun r => places os r.1)).Perm ((posR cs).map fun r => places os r.1) := List.mergeSort_perm _ _
      obtain ⟨r, m1, rfl⟩ := List.mem_map.mp (p.mem_iff.mp m)
      have mc := (List.mem_filter.mp m1).1
      have bp := back_places (h.bal r mc).sub
      have g : gIxA (.dT (cD cs)) (bD r.1) = .ok (.int r.2) := g3 r mc
      have gs := getG_some nd mc
      have gt : gTup [bD r.1, .int r.2] = .ok (rowD r) := if_pos (szle (by simp))
      rw [bp, gs]
      simp_arith [g, gt]
      rfl⟩]
    unfold ordR
    rw [List.map_map]
    rfl
  have ls : (srtL ((posR cs).map fun r => places os r.1)).length ≤ 1000 := by
    have p : (srtL ((posR cs).map fun r => places os r.1)).Perm ((posR cs).map fun r => places os r.1) := List.mergeSort_perm _ _
    rw [p.length_eq, List.length_map]
    exact Nat.le_trans (List.length_filter_le _ _) hl
  have l1 : ((srtL ((posR cs).map fun r => places os r.1)).map dTI).length ≤ sizeLine := by rw [List.length_map]; exact szle ls
  have l2 : ((srtL ((posR cs).map fun r => places os r.1)).map fun row => bD (back os row)).length ≤ sizeLine := by rw [List.length_map]; exact szle ls
  have sq : seqD (zD os) = some (true, os.map nD) := rfl
  unfold F_ordered_rows G_ordered_rows
  simp_arith [eFrz_ap, nDc_ap, sq, optR_some, s1, e1, frzR_k, lk, gSrtT_map, l1, e4, l2, e6]
end Tk
namespace Tk
open PySem PySem.Spec L2 PyProof.Rows
def optD : Option Int → D
  | none => .non
  | some i => .int i
def normR (os : Bal) (rs : List Row) : List Row := ordR os (tally rs)
def totR (ns : List Row) : Int := (ns.map (·.2)).sum
def rollD (os : Bal) (ns : List Row) : D := .ins 52 [(44, zD os), (51, .tup (ns.map rowD)), (4, .int (totR ns))]
structure okNorm (os : Bal) (ns : List Row) : Prop where
  nd : (ns.map (·.1)).Nodup
  bal : ∀ r ∈ ns, okBal os r.1
  pos : ∀ r ∈ ns, 0 < r.2
theorem okNorm.rows {os : Bal} {ns : List Row} (h : okNorm os ns) : okRows os ns := ⟨h.bal, fun r m => Int.le_of_lt (h.pos r m)⟩
theorem norm_ok {os : Bal} {rs : List Row} (h : okRows os rs) : okNorm os (normR os rs) ∧ (normR os rs).length ≤ rs.length ∧ ∀ p, sumP p (normR os rs) = sumP p rs := by
  obtain ⟨h1, h2, h3, h4⟩ := tally_all h
  have p : (normR os rs).Perm (posR (tally rs)) := ordR_perm h1 h2
  have sub : ∀ r ∈ normR os rs, r ∈ tally rs ∧ 0 < r.2 := fun r m => by
    have := List.mem_filter.mp (p.mem_iff.mp m)
    exact ⟨this.1, of_decide_eq_true this.2⟩
  refine ⟨⟨?_, fun r m => h2.bal r (sub r m).1, fun r m => (sub r m).2⟩, ?_, fun q => ?_⟩
  · refine (p.map (·.1)).nodup_iff.mpr ?_
    exact h1.sublist (List.Sublist.map _ List.filter_sublist)
  · rw [p.length_eq]
    exact Nat.le_trans (List.length_filter_le _ _) h3
  · rw [sumP_perm p]
    exact (sumP_pos h2.nn).trans (h4 q)
theorem sumP_tot {ns : List Row} : sumP (fun _ => true) ns = totR ns := by
  unfold sumP totR
  rw [List.filter_eq_self.mpr fun _ _ => rfl]
theorem tot_norm {os : Bal} {rs : List Row} (h : okRows os rs) : totR (normR os rs) = totR rs := by
  rw [← sumP_tot, ← sumP_tot, (norm_ok h).2.2]
def rinE (a : Addr) (z : Bool) (os : Bal) (rv : D) (lg : Option Int) (cs : List Row) (s5 s6 : Sl) : Ev := [.o (some a) 52 [(44, zD os)], .v (nmsD z os), .v rv, .v (optD lg), .t (cD cs), s5, s6]
theorem tally_snoc {rs : List Row} {r : Row} : tally (rs ++ [r]) = addR (tally rs) r := by unfold tally; rw [List.foldl_append]; rfl
theorem rin_loop {a : Addr} {z : Bool} {os : Bal} {rv : D} {lg : Option Int} {rs : List Row} (ho : okOpts os) (h : okRows os rs) (hg : ∀ l, lg = some l → ∀ r ∈ rs, r.2 ≤ l) (hl : rs.length ≤ 1000) : ∃ s5 s6 : Sl, loop (gT 2 (gsC (gN 5) (gsC (gN 6) (gsN)))) B_Roll___init___1 (rs.map rowD) (rinE a z os rv lg [] .no .no) = .nx (rinE a z os rv lg (tally rs) s5 s6) := by
  obtain ⟨ρ', e, s5, s6, rfl⟩ := loop_map (inj := rowD) (h := gT 2 (gsC (gN 5) (gsC (gN 6) (gsN)))) (body := B_Roll___init___1) (l := rs) (ρ := rinE a z os rv lg [] .no .no)
    (fun i ρ => ∃ s5 s6 : Sl, ρ = rinE a z os rv lg (tally (rs.take i)) s5 s6) ⟨_, _, rfl⟩ (by
      rintro i r ρ q ⟨s5, s6, rfl⟩
      refine ⟨rinE a z os rv lg (tally (rs.take i)) (.v (bD r.1)) (.v (.int r.2)), rfl, ?_⟩
      have mr := List.mem_of_getElem? q
      have cb := checkB_ok ho.few (h.bal r mr)
      have h0 : decide (r.2 < 0) = false := decide_eq_false (by have := h.nn r mr; omega)
      have tk : tally (rs.take (i + 1)) = addR (tally (rs.take i)) r := by rw [List.take_succ, q]; exact tally_snoc
      have ta := tally_all (h.take i)
      have tl : (cD (tally (rs.take i))).length < sizeLine := by
        unfold cD
        rw [List.length_map]
        have := ta.2.2.1
        rw [List.length_take] at this
        exact szlt (by omega)
      have gg : gGet2 (.dT (cD (tally (rs.take i)))) (bD r.1) (.int 0) = .ok (.int ((getG (tally (rs.take i)) r.1).getD 0)) := by
        show (optR (keyT (bD r.1))).bind (fun k => R.ok ((getG (cD (tally (rs.take i))) k).getD (.int 0))) = _
        rw [keyT_bD]
        show R.ok ((getG (cD (tally (rs.take i))) (keyB r.1)).getD (.int 0)) = _
        rw [getG_cD]
        cases getG (tally (rs.take i)) r.1 <;> rfl
      have lt : ∀ b : Bool, (if b = true then R.ok true else R.ok (b && true)) = R.ok (b && true) := fun b => by cases b <;> rfl
      have st : B_Roll___init___1 (rinE a z os rv lg (tally (rs.take i)) (.v (bD r.1)) (.v (.int r.2))) = .nx (rinE a z os rv lg (tally (rs.take (i + 1))) (.v (bD r.1)) (.v (.int r.2))) := by
        rw [tk]
        unfold rinE B_Roll___init___1
        have fo : optR (List.lookup 44 [(44, zD os)]) = .ok (zD os) := rfl
        have pk : ∀ n : Int, putG (cD (tally (rs.take i))) (keyB r.1) (.int n) = cD (putG (tally (rs.take i)) r.1 n) := putG_cD _ _
        cases lg with
        | none =>
          simp_arith [eFldO_ap, ownO_zero, List.mem_singleton, fo, cb, h0, optD, isNon_non, isNon_int, show gNotN .non .non = R.ok (.bl false) from rfl, sPutT_ap, ownT_succ, ownT_zero, frzS_o, frzS_t, eGet2_ap, show isDict (.dT (cD (tally (rs.take i)))) = true from rfl, gg, scalD, keyT_bD, tl, pk]
          rfl
        | some l =>
          have h2 : decide (l < r.2) = false := decide_eq_false (by have := hg l rfl r mr; omega)
          simp_arith [eFldO_ap, ownO_zero, List.mem_singleton, fo, cb, h0, optD, isNon_non, isNon_int, show gNotN (.int l) .non = R.ok (.bl true) from rfl, h2, sPutT_ap, ownT_succ, ownT_zero, frzS_o, frzS_t, eGet2_ap, show isDict (.dT (cD (tally (rs.take i)))) = true from rfl, gg, scalD, keyT_bD, tl, pk]
          rfl
      rw [st]
      exact ⟨_, _, rfl⟩)
  rw [List.take_length] at e
  exact ⟨s5, s6, e⟩
theorem roll_ok {a : Addr} {z : Bool} {os : Bal} {rv : D} {lg : Option Int} {rs : List Row} (ho : okOpts os) (h : okRows os rs) (hg : ∀ l, lg = some l → ∀ r ∈ rs, r.2 ≤ l) (hl : rs.length ≤ 1000) (hr : gIt rv = .ok (rs.map rowD)) :
    F_Roll___init__ a [nmsD z os, rv, optD lg] = .ok [(44, zD os), (51, .tup ((normR os rs).map rowD)), (4, .int (totR (normR os rs)))] := by
  obtain ⟨s5, s6, e⟩ := rin_loop (a := a) (z := z) (rv := rv) ho h hg hl
  have ta := tally_all h
  have od := ordered_ok ho ta.1 ta.2.1 (by have := ta.2.2.1; omega)
  have cn := checkN_ok (z := z) ho
  have nl : ((normR os rs).map rowD).length ≤ sizeLine := by
    rw [List.length_map]
    have := (norm_ok h).2.1
    exact szle (by omega)
  have e7 : ∀ s0 s1 s2 s3 s4 : Sl, lcL (gT 2 (gsC (gN 5) (gsC (gN 6) (gsN)))) tsY (eV 6) [s0, s1, s2, s3, s4, .no, .no] ((normR os rs).map rowD) = .ok (((normR os rs).map (·.2)).map .int) := fun s0 s1 s2 s3 s4 => by
    rw [lc_all (inj := rowD) (fun r => D.int r.2) fun r m => ⟨[s0, s1, s2, s3, s4, .v (bD r.1), .v (.int r.2)], rfl, rfl, rfl⟩, List.map_map]
    rfl
  unfold rinE at e
  have e : loop (gT 2 (gsC (gN 5) (gsC (gN 6) (gsN)))) B_Roll___init___1 (rs.map rowD) [.o (some a) 52 [(44, zD os)], .v (nmsD z os), .v rv, .v (optD lg), .t [], .no, .no] = _ := e
  have st : startI a 52 7 [nmsD z os, rv, optD lg] = [.o (some a) 52 [], .v (nmsD z os), .v rv, .v (optD lg), .no, .no, .no] := rfl
  have gk : gDk [0, 1, 2] [.bl false] [nmsD z os, .int 4] [] = [nmsD z os, .int 4, .bl false] := rfl
  have l44 : optR (List.lookup 44 [(44, zD os)]) = .ok (zD os) := rfl
  have l44' : optR (List.lookup 44 [(44, zD os), (51, .tup ((normR os rs).map rowD))]) = .ok (zD os) := rfl
  have l51 : optR (List.lookup 51 [(44, zD os), (51, .tup ((normR os rs).map rowD))]) = .ok (.tup ((normR os rs).map rowD)) := rfl
  have p1 : putN 44 (zD os) [] = [(44, zD os)] := rfl
  have p2 : putN 51 (.tup ((normR os rs).map rowD)) [(44, zD os)] = [(44, zD os), (51, .tup ((normR os rs).map rowD))] := rfl
  have p3 : ∀ d : D, putN 4 d [(44, zD os), (51, .tup ((normR os rs).map rowD))] = [(44, zD os), (51, .tup ((normR os rs).map rowD)), (4, d)] := fun _ => rfl
  have od : F_ordered_rows [zD os, .dT (cD (tally rs))] = .ok (.tup ((normR os rs).map rowD)) := od
  unfold F_Roll___init__ G_Roll___init__
  simp_arith [runI_ap, st, sFldO_ap, Nat.reduceLT, gk, cn, ownO_zero, List.mem_singleton, p1, p2, p3, nDT_ap, own_t, hr, e, frzS_t, eFldO_ap, l44, od, l51, nl, e7, gSum_map, outI_nx]
  rfl
end Tk
namespace Tk
open PySem PySem.Spec L2 PyProof.Rows
def mixB5 (x k : Int) : Int := (x * 16807 + x / 127773 + (k + 7) * 7919) % 2147483629
theorem mixed15_eq {c k : Int} (h0 : 0 ≤ k) (hk : k < 1000000) : F__law_mixed_k15 [.int c, .int k] = .ok (.int (mixB5 (mixA c k) k / 11)) := by
  unfold F__law_mixed_k15 G__law_mixed_k15
  simp [gMul_r, mixA, mixB5]
theorem mixed15_ok {c k : Int} (h0 : 0 ≤ k) (hk : k < 1000000) : ∃ v : Int, 0 ≤ v ∧ v < 2147483648 ∧ F__law_mixed_k15 [.int c, .int k] = .ok (.int v) := by
  refine ⟨_, ?_, ?_, mixed15_eq h0 hk⟩
  · unfold mixB5; omega
  · unfold mixB5; omega
theorem pool15_ok {c n : Int} (hn : 0 ≤ n) (hn2 : n < 1000000) : ∃ ps : List Int, ps.length = n.toNat ∧ (∀ p ∈ ps, 0 ≤ p ∧ p < 2147483648) ∧ F__law_pool_k15 [.int c, .int n] = .ok (.lst (ps.map .int)) := by
  unfold F__law_pool_k15 G__law_pool_k15
  generalize hr : (if c < 0 then -c else c) = rest
  have hr0 : 0 ≤ rest := by subst hr; split <;> omega
  obtain ⟨ρ', e, s, r2, ps, _, hl, hp, rfl⟩ := loop_rg (h := gN 5) (body := B__law_pool_k15_1) (lo := 0) (n := n.toNat) (ρ := [.v (.int c), .v (.int n), .v (.int rest), .v (.bl (decide (1000000000000000000 ≤ rest))), .l [], .no])
    (fun i ρ => ∃ (s : Sl) (r : Int) (ps : List Int), 0 ≤ r ∧ ps.length = i ∧ (∀ p ∈ ps, 0 ≤ p ∧ p < 2147483648) ∧ ρ = [.v (.int c), .v (.int n), .v (.int r), .v (.bl (decide (1000000000000000000 ≤ rest))), .l (ps.map .int), s])
    ⟨.no, rest, [], hr0, rfl, (fun p m => nomatch m), rfl⟩ (by
      rintro i ρ hi ⟨s, r, ps, hr1, hl, hp, rfl⟩
      refine ⟨_, rfl, ?_⟩
      have si : i < sizeLine := by unfold sizeLine; omega
      unfold B__law_pool_k15_1
      by_cases q : 1000000000000000000 ≤ rest ∧ 0 < r
      · have st : sIf (tAnd (tV (eV 3)) (tV (e2 gGt (eV 2) (eC (.int 0))))) (sSq (sApp 4 (e2 gMod (eV 2) (eC (.int 5040)))) (sSet 2 (e2 gDiv (eV 2) (eC (.int 5040))))) (sApp 4 (eCall 2 F__law_mixed_k15 (aC (eV 0) (aC (eV 5) (aN))))) [.v (.int c), .v (.int n), .v (.int r), .v (.bl (decide (1000000000000000000 ≤ rest))), .l (ps.map .int), .v (.int (0 + (i : Int)))] =
            .nx [.v (.int c), .v (.int n), .v (.int (r / 5040)), .v (.bl (decide (1000000000000000000 ≤ rest))), .l ((ps ++ [r % 5040]).map .int), .v (.int (i : Int))] := by
          simp [q.1, q.2, hl, si]
        show SO.goes (sIf _ _ _ [.v (.int c), .v (.int n), .v (.int r), .v (.bl (decide (1000000000000000000 ≤ rest))), .l (ps.map .int), .v (.int (0 + (i : Int)))]) _
        rw [st]
        refine ⟨_, _, _, by omega, ?_, ?_, rfl⟩
        · rw [List.length_append, hl]; rfl
        · intro p m
          rcases List.mem_append.mp m with m | m
          · exact hp p m
          · rw [List.mem_singleton.mp m]; omega
      · obtain ⟨v, v1, v2, ve⟩ := mixed15_ok (c := c) (k := (i : Int)) (by omega) (by omega)
        have st : sIf (tAnd (tV (eV 3)) (tV (e2 gGt (eV 2) (eC (.int 0))))) (sSq (sApp 4 (e2 gMod (eV 2) (eC (.int 5040)))) (sSet 2 (e2 gDiv (eV 2) (eC (.int 5040))))) (sApp 4 (eCall 2 F__law_mixed_k15 (aC (eV 0) (aC (eV 5) (aN))))) [.v (.int c), .v (.int n), .v (.int r), .v (.bl (decide (1000000000000000000 ≤ rest))), .l (ps.map .int), .v (.int (0 + (i : Int)))] =
            .nx [.v (.int c), .v (.int n), .v (.int r), .v (.bl (decide (1000000000000000000 ≤ rest))), .l ((ps ++ [v]).map .int), .v (.int (i : Int))] := by
          by_cases q1 : 1000000000000000000 ≤ rest
          · have q2 : ¬ 0 < r := fun z => q ⟨q1, z⟩
            simp [q1, q2, hl, ve, si]
          · simp [q1, hl, ve]
            unfold sizeLine
            omega
        show SO.goes (sIf _ _ _ [.v (.int c), .v (.int n), .v (.int r), .v (.bl (decide (1000000000000000000 ≤ rest))), .l (ps.map .int), .v (.int (0 + (i : Int)))]) _
        rw [st]
        refine ⟨_, _, _, hr1, ?_, ?_, rfl⟩
        · rw [List.length_append, hl]; rfl
        · intro p m
          rcases List.mem_append.mp m with m | m
          · exact hp p m
          · rw [List.mem_singleton.mp m]; omega)
  refine ⟨ps, hl, hp, ?_⟩
  have sm : small62 n := small_rg hn (by omega)
  simp [hr, sm, e]
theorem big_ok {ps : List Int} {spot least crest : Int} (h0 : 0 ≤ spot) (h1 : spot + 2 < ps.length) (hc : least ≤ crest) : ∃ v : Int, least ≤ v ∧ v ≤ crest ∧ F__law_big [.lst (ps.map .int), .int spot, .int least, .int crest] = .ok (.int v) := by
  generalize hf : (ps.getD spot.toNat 0 % 5040 * 25401600 + ps.getD (spot + 1).toNat 0 % 5040 * 5040 + ps.getD (spot + 2).toNat 0 % 5040) = far
  have m1 := Int.emod_nonneg far (by omega : crest - least + 1 ≠ 0)
  have m2 := Int.emod_lt_of_pos far (by omega : 0 < crest - least + 1)
  refine ⟨least + far % (crest - least + 1), by omega, by omega, ?_⟩
  have g1 := gIx_getD (l := ps) (j := spot) h0 (by omega)
  have g2 := gIx_getD (l := ps) (j := spot + 1) (by omega) (by omega)
  have g3 := gIx_getD (l := ps) (j := spot + 2) (by omega) (by omega)
  have d1 : ∀ z : Int, gMod (.int z) (.int 5040) = .ok (.int (z % 5040)) := fun z => gMod_int (by decide)
  have d2 : ∀ z : Int, gMod (.int z) (.int (crest - least + 1)) = .ok (.int (z % (crest - least + 1))) := fun z => gMod_int (by omega)
  have q1 : ∀ z : Int, gMul (.int z) (.int 25401600) = .ok (.int (z * 25401600)) := fun z => gMul_r (by decide) (by decide)
  have q2 : ∀ z : Int, gMul (.int z) (.int 5040) = .ok (.int (z * 5040)) := fun z => gMul_r (by decide) (by decide)
  unfold F__law_big G__law_big
  simp_arith [g1, g2, g3, d1, q1, q2, hf, d2]
end Tk
namespace Tk
open PySem PySem.Spec L2 PyProof.Rows
theorem sAppPop_ap {i j : Nat} {f : Ev → R D} {ρ : Ev} : sAppPop i j f ρ = SO.from ρ (ownL ρ i) fun xs => SO.from ρ (ownL ρ j) fun ys => SO.from ρ (f ρ) fun d => match d with
  | .int n => if 0 ≤ n ∧ n < 9223372036854775808 ∧ xs.length < sizeLine then (match ys[n.toNat]? with
    | some y => .nx ((ρ.set j (.l (ys.eraseIdx n.toNat))).set i (.l (xs ++ [y])))
    | none => .bad) else .bad
  | _ => .bad := (rfl)
theorem cons_erase {α : Type} {l : List α} {i : Nat} (h : i < l.length) : (l[i] :: l.eraseIdx i).Perm l := by
  rw [List.eraseIdx_eq_take_drop_succ]
  refine (List.perm_middle (l₁ := l.take i) (l₂ := l.drop (i + 1)) (a := l[i])).symm.trans ?_
  rw [List.getElem_cons_drop, List.take_append_drop]
def w4 (l : List Int) (j : Nat) : Int := l.getD j 0
theorem gLst4 {a b c d : D} : gLst [a, b, c, d] = .ok (.lst [a, b, c, d]) := if_pos (szle (by simp))
theorem ix4 {l : List Int} {j : Nat} (h : j < l.length) : gIx (.lst (l.map .int)) (.int (j : Int)) = .ok (.int (w4 l j)) := by
  have := gIx_getD (l := l) (j := (j : Int)) (by omega) (by omega)
  rw [Int.toNat_natCast] at this
  exact this
theorem ix1_4 {j : Nat} (h : j < 4) : gIx (.lst [.int 1, .int 4, .int 12, .int 24]) (.int (j : Int)) = .ok (.int (w4 [1, 4, 12, 24] j)) := ix4 (l := [1, 4, 12, 24]) h
theorem ix4_1 {j : Nat} (h : j < 4) : gIx (.lst [.int 4, .int 3, .int 2, .int 1]) (.int (j : Int)) = .ok (.int (w4 [4, 3, 2, 1] j)) := ix4 (l := [4, 3, 2, 1]) h
theorem w4_1 : ∀ j < 4, 1 ≤ w4 [1, 4, 12, 24] j ∧ w4 [1, 4, 12, 24] j ≤ 24 := by decide
theorem w4_2 : ∀ j < 4, 1 ≤ w4 [4, 3, 2, 1] j ∧ w4 [4, 3, 2, 1] j ≤ 4 := by decide
def blE (ps : List Int) (spot number : Int) (os : Bal) (rs : List Row) (k : Nat) (left slip : Bal) (s8 s9 : Sl) : Ev := [.v (.lst (ps.map .int)), .v (.int spot), .v (.lst (os.map nD)), .v (.int number), .l (rs.map rowD), .v (.int (k : Int)), .l (left.map nD), .l (slip.map nD), s8, s9]
theorem bal_in {ps : List Int} {spot number : Int} {os : Bal} {rs : List Row} {k : Nat} {s8' s9 : Sl} {m : Nat} (ho : okOpts os) (h0 : 0 ≤ spot) (h1 : spot + 2 * k + 1 < ps.length) (hm : m ≤ os.length) :
    ∃ left slip s8, (slip ++ left).Perm os ∧ loop (gN 8) B__law_ballots_1 (rgD 0 m) (blE ps spot number os rs k os [] s8' s9) = .nx (blE ps spot number os rs k left slip s8 s9) := by
  have few := ho.few
  obtain ⟨ρ', e, left, slip, s8, pm, ls, rfl⟩ := loop_rg (h := gN 8) (body := B__law_ballots_1) (lo := 0) (n := m) (ρ := blE ps spot number os rs k os [] s8' s9)
    (fun j ρ => ∃ (left slip : Bal) (s8 : Sl), (slip ++ left).Perm os ∧ slip.length = j ∧ ρ = blE ps spot number os rs k left slip s8 s9) ⟨os, [], s8', .refl _, rfl, rfl⟩ (by
      rintro j ρ hj ⟨left, slip, s8, pm, ls, rfl⟩
      refine ⟨blE ps spot number os rs k left slip (.v (.int (j : Int))) s9, by rw [Int.zero_add]; rfl, ?_⟩
      have j4 : j < 4 := by omega
      have pl := pm.length_eq
      rw [List.length_append] at pl
      have a := w4_1 j j4
      have b := w4_2 j j4
      have pt := part_ok (ps := ps) (spot := spot + 2 * (k : Int) + 1) (under := w4 [1, 4, 12, 24] j) (size := w4 [4, 3, 2, 1] j) (by omega) (by omega) (by omega) (by omega) (by omega)
      have p0 := part_lo (ps := ps) (spot := spot + 2 * (k : Int) + 1) (under := w4 [1, 4, 12, 24] j) (size := w4 [4, 3, 2, 1] j) (by omega)
      generalize part ps (spot + 2 * (k : Int) + 1) (w4 [1, 4, 12, 24] j) (w4 [4, 3, 2, 1] j) = x at *
      have ll : (0 : Int) < (left.length : Int) := by omega
      have m1 := Int.emod_nonneg x (by omega : (left.length : Int) ≠ 0)
      have m2 := Int.emod_lt_of_pos x ll
      have md : gMod (.int x) (.int (left.length : Int)) = .ok (.int (x % (left.length : Int))) := gMod_int ll
      have mk : gMul (.int 2) (.int (k : Int)) = .ok (.int (2 * (k : Int))) := gMul_l (by decide) (by decide)
      obtain ⟨i, hi⟩ : ∃ i : Nat, x % (left.length : Int) = (i : Int) := ⟨(x % (left.length : Int)).toNat, by omega⟩
      have il : i < left.length := by omega
      have gt : (left.map nD)[i]? = some (nD left[i]) := by rw [List.getElem?_map, List.getElem?_eq_getElem il]; rfl
      have sz : (slip.map nD).length < sizeLine := by rw [List.length_map]; exact szlt (by omega)
      have cnd : 0 ≤ (i : Int) ∧ (i : Int) < 9223372036854775808 ∧ (slip.map nD).length < sizeLine := ⟨by omega, by omega, sz⟩
      have mp1 : (left.map nD).eraseIdx i = (left.eraseIdx i).map nD := by
        rw [List.eraseIdx_eq_take_drop_succ, List.eraseIdx_eq_take_drop_succ, List.map_append, List.map_take, List.map_drop]
      have mp2 : slip.map nD ++ [nD left[i]] = (slip ++ [left[i]]).map nD := by rw [List.map_append]; rfl
      have st : B__law_ballots_1 (blE ps spot number os rs k left slip (.v (.int (j : Int))) s9) = .nx (blE ps spot number os rs k (left.eraseIdx i) (slip ++ [left[i]]) (.v (.int (j : Int))) s9) := by
        unfold blE B__law_ballots_1
        rw [← mp1, ← mp2]
        simp_arith [sAppPop_ap, mk, gLst4, ix1_4 j4, ix4_1 j4, pt, List.length_map, md, hi, scalD, cnd, Int.toNat_natCast, gt]
        rw [List.length_map] at sz
        rw [if_pos ⟨trivial, trivial, sz⟩]
      rw [st]
      refine ⟨_, _, _, ?_, ?_, rfl⟩
      · refine List.Perm.trans ?_ pm
        rw [List.append_assoc]
        refine List.Perm.append_left _ ?_
        exact cons_erase il
      · rw [List.length_append, ls]; rfl)
  exact ⟨left, slip, s8, pm, e⟩
structure okGiv (os : Bal) (rs : List Row) : Prop extends okRows os rs where
  few : rs.length ≤ 400
  big : ∀ r ∈ rs, r.2 ≤ 1000000000
theorem gTup2 (x y : D) : gTup [x, y] = .ok (.tup [x, y]) := if_pos (szle (by simp))
theorem ballots_ok {ps : List Int} {spot number : Int} {os : Bal} (ho : okOpts os) (h0 : 0 ≤ spot) (hn : 0 ≤ number) (hn2 : number ≤ 400) (h1 : spot + 2 * number ≤ ps.length) :
    ∃ rs, okGiv os rs ∧ rs.length = number.toNat ∧ F__law_ballots [.lst (ps.map .int), .int spot, .lst (os.map nD), .int number] = .ok (.lst (rs.map rowD)) := by
  have few := ho.few
  have ol : ((os.map nD).length : Int) = os.length := by rw [List.length_map]
  obtain ⟨ρ', e, rs, u6, u7, u8, u9, u5, lr, okr, bg, rfl⟩ := loop_rg (h := gN 5) (body := B__law_ballots_2) (lo := 0) (n := number.toNat) (ρ := [.v (.lst (ps.map .int)), .v (.int spot), .v (.lst (os.map nD)), .v (.int number), .l [], .no, .no, .no, .no, .no])
    (fun i ρ => ∃ (rs : List Row) (u6 u7 u8 u9 u5 : Sl), rs.length = i ∧ okRows os rs ∧ (∀ r ∈ rs, r.2 ≤ 1000000000) ∧ ρ = [.v (.lst (ps.map .int)), .v (.int spot), .v (.lst (os.map nD)), .v (.int number), .l (rs.map rowD), u5, u6, u7, u8, u9])
    ⟨[], .no, .no, .no, .no, .no, rfl, .nil, fun _ m => (nomatch m), rfl⟩ (by
      rintro k ρ hk ⟨rs, u6, u7, u8, u9, u5, lr, okr, bg, rfl⟩
      refine ⟨[.v (.lst (ps.map .int)), .v (.int spot), .v (.lst (os.map nD)), .v (.int number), .l (rs.map rowD), .v (.int (k : Int)), u6, u7, u8, u9], by rw [Int.zero_add]; rfl, ?_⟩
      have mk : gMul (.int 2) (.int (k : Int)) = .ok (.int (2 * (k : Int))) := gMul_l (by decide) (by decide)
      have p1 := part_ok (ps := ps) (spot := spot + 2 * (k : Int)) (under := 1) (size := 60) (by omega) (by omega) (by decide) (by decide) (by decide)
      have p2 := part_ok (ps := ps) (spot := spot + 2 * (k : Int)) (under := 60) (size := 7) (by omega) (by omega) (by decide) (by decide) (by decide)
      have p3 := part_ok (ps := ps) (spot := spot + 2 * (k : Int)) (under := 420) (size := 12) (by omega) (by omega) (by decide) (by decide) (by decide)
      have a2 := part_lo (ps := ps) (spot := spot + 2 * (k : Int)) (under := 60) (size := 7) (by decide)
      have b2 := part_hi (ps := ps) (spot := spot + 2 * (k : Int)) (under := 60) (size := 7) (by decide)
      generalize part ps (spot + 2 * (k : Int)) 1 60 = x1 at *
      generalize part ps (spot + 2 * (k : Int)) 60 7 = x2 at *
      generalize part ps (spot + 2 * (k : Int)) 420 12 = x3 at *
      have md : gMod (.int x1) (.int ((os.length : Int) + 1)) = .ok (.int (x1 % ((os.length : Int) + 1))) := gMod_int (by omega)
      have m1 := Int.emod_nonneg x1 (by omega : (os.length : Int) + 1 ≠ 0)
      have m2 := Int.emod_lt_of_pos x1 (by omega : (0 : Int) < (os.length : Int) + 1)
      have sm : small62 (x1 % ((os.length : Int) + 1)) := small_rg m1 (by omega)
      obtain ⟨left, slip, s8, pm, lp⟩ := bal_in (ps := ps) (spot := spot) (number := number) (os := os) (rs := rs) (k := k) (s8' := u8) (s9 := u9) (m := (x1 % ((os.length : Int) + 1)).toNat) ho h0 (by omega) (by omega)
      have osz : (os.map nD).length ≤ sizeLine := by rw [List.length_map]; exact szle (by omega)
      have pw : gPow (.int 10) (.int 9) = .ok (.int 1000000000) := gPow_int (by decide) (by decide) (by decide) (by decide)
      have rz : rs.length < sizeLine := szlt (by omega)
      have ob : okBal os slip := by
        have nd := pm.nodup_iff.mpr ho.nd
        exact ⟨(List.nodup_append.mp nd).1, fun w m => pm.mem_iff.mp (List.mem_append_left _ m)⟩
      have st : ∃ t : Int, 0 ≤ t ∧ t ≤ 1000000000 ∧ B__law_ballots_2 [.v (.lst (ps.map .int)), .v (.int spot), .v (.lst (os.map nD)), .v (.int number), .l (rs.map rowD), .v (.int (k : Int)), u6, u7, u8, u9] =
          .nx [.v (.lst (ps.map .int)), .v (.int spot), .v (.lst (os.map nD)), .v (.int number), .l ((rs ++ [(slip, t)]).map rowD), .v (.int (k : Int)), .l (left.map nD), .v (.lst (slip.map nD)), s8, .v (.int t)] := by
        have mp : ∀ t : Int, (rs ++ [(slip, t)]).map rowD = rs.map rowD ++ [.tup [bD slip, .int t]] := fun t => by rw [List.map_append]; rfl
        unfold blE at lp
        have lp : loop (gN 8) B__law_ballots_1 (rgD 0 (x1 % ((os.length : Int) + 1)).toNat) [.v (.lst (ps.map .int)), .v (.int spot), .v (.lst (os.map nD)), .v (.int number), .l (rs.map rowD), .v (.int (k : Int)), .l (os.map nD), .l [], u8, u9] = _ := lp
        by_cases z : x3 = 11
        · refine ⟨1000000000 - x2, by omega, by omega, ?_⟩
          rw [mp]
          unfold B__law_ballots_2
          simp_arith [mk, sz0, p1, List.length_map, md, sm, lp, p2, p3, decide_eq_true z, pw, gTup2, rz]
          rfl
        · refine ⟨x2, by omega, by omega, ?_⟩
          rw [mp]
          unfold B__law_ballots_2
          simp_arith [mk, sz0, p1, List.length_map, md, sm, lp, p2, p3, decide_eq_false z, pw, gTup2, rz]
          rfl
      obtain ⟨t, t0, t1, st⟩ := st
      rw [st]
      refine ⟨_, _, _, _, _, _, by rw [List.length_append, lr]; rfl, okr.app ⟨fun r m => by rw [List.mem_singleton.mp m]; exact ob, fun r m => by rw [List.mem_singleton.mp m]; exact t0⟩, fun r m => ?_, rfl⟩
      rcases List.mem_append.mp m with m | m
      · exact bg r m
      · rw [List.mem_singleton.mp m]; exact t1)
  have sm : small62 number := small_rg hn (by omega)
  refine ⟨rs, ⟨okr, by omega, bg⟩, lr, ?_⟩
  have z0 := sz0
  unfold F__law_ballots G__law_ballots
  simp_arith [sz0, sm, e]
end Tk
namespace Tk
open PySem PySem.Spec L2 PyProof.Rows
section
variable {α β : Type} [DecidableEq α] [DecidableEq β]
def extB (os : List α) (size : Nat) (b : List α) : List (List α) := b :: (if b.length = size then (os.filter fun c => !decide (c ∈ b)).map fun c => b ++ [c] else [])
def stepB (os : List α) (bs : List (List α)) (size : Nat) : List (List α) := bs.flatMap (extB os size)
def allB (os : List α) : List (List α) := (List.range os.length).foldl (stepB os) [[]]
theorem mem_map_inj {f : α → β} (hf : ∀ a b, f a = f b → a = b) {a : α} {l : List α} : f a ∈ l.map f ↔ a ∈ l := by
  rw [List.mem_map]
  exact ⟨fun ⟨b, m, e⟩ => by rw [← hf _ _ e]; exact m, fun m => ⟨a, m, rfl⟩⟩
theorem extB_map {f : α → β} (hf : ∀ a b, f a = f b → a = b) (os : List α) (n : Nat) (b : List α) : extB (os.map f) n (b.map f) = (extB os n b).map (·.map f) := by
  unfold extB
  rw [List.map_cons, List.length_map]
  congr 1
  split
  · rw [List.filter_map, List.map_map, List.map_map]
    have e : ((fun c => !decide (c ∈ b.map f)) ∘ f) = fun c => !decide (c ∈ b) := by
      funext c
      show (!decide (f c ∈ b.map f)) = _
      congr 1
      rw [decide_eq_decide]
      exact mem_map_inj hf
    rw [e]
    refine List.map_congr_left fun c _ => ?_
    show b.map f ++ [f c] = (b ++ [c]).map f
    rw [List.map_append]; rfl
  · rfl
theorem stepB_map {f : α → β} (hf : ∀ a b, f a = f b → a = b) (os : List α) (n : Nat) (bs : List (List α)) : stepB (os.map f) (bs.map (·.map f)) n = (stepB os bs n).map (·.map f) := by
  unfold stepB
  rw [List.flatMap_map, List.map_flatMap]
  congr 1
  funext b
  exact extB_map hf os n b
theorem allB_map {f : α → β} (hf : ∀ a b, f a = f b → a = b) (os : List α) : allB (os.map f) = (allB os).map (·.map f) := by
  unfold allB
  rw [List.length_map]
  have go : ∀ (ns : List Nat) (bs : List (List α)), ns.foldl (stepB (os.map f)) (bs.map (·.map f)) = (ns.foldl (stepB os) bs).map (·.map f) := by
    intro ns
    induction ns with
    | nil => intro bs; rfl
    | cons n ns ih =>
      intro bs
      rw [List.foldl_cons, List.foldl_cons, stepB_map hf]
      exact ih _
  exact go _ [[]]
theorem extB_len {os : List α} {n : Nat} {b : List α} : (extB os n b).length ≤ os.length + 1 := by
  unfold extB
  rw [List.length_cons]
  split
  · rw [List.length_map]
    have := List.length_filter_le (fun c => !decide (c ∈ b)) os
    omega
  · simp
theorem flat_len {γ δ : Type} {f : γ → List δ} {k : Nat} : ∀ {l : List γ}, (∀ a ∈ l, (f a).length ≤ k) → (l.flatMap f).length ≤ l.length * k
  | [], _ => by simp
  | a :: l, h => by
    have := flat_len (l := l) fun b m => h b (List.mem_cons_of_mem _ m)
    have h0 := h a List.mem_cons_self
    rw [List.flatMap_cons, List.length_append, List.length_cons, Nat.succ_mul]
    omega
theorem okB_ext {os : List α} (nd : os.Nodup) {n : Nat} {b c : List α} (hb : b.Nodup ∧ ∀ w ∈ b, w ∈ os) (m : c ∈ extB os n b) : c.Nodup ∧ ∀ w ∈ c, w ∈ os := by
  unfold extB at m
  rcases List.mem_cons.mp m with rfl | m
  · exact hb
  · split at m
    · obtain ⟨w, m1, rfl⟩ := List.mem_map.mp m
      obtain ⟨w1, w2⟩ := List.mem_filter.mp m1
      have w3 : w ∉ b := by simpa using w2
      refine ⟨List.nodup_append.mpr ⟨hb.1, by simp, fun x mx y my e => ?_⟩, fun x mx => ?_⟩
      · rw [List.mem_singleton.mp my] at e
        exact w3 (by rw [← e]; exact mx)
      · rcases List.mem_append.mp mx with mx | mx
        · exact hb.2 x mx
        · rw [List.mem_singleton.mp mx]; exact w1
    · cases m
theorem allB_sub {os : List α} (nd : os.Nodup) {b : List α} (m : b ∈ allB os) : b.Nodup ∧ ∀ w ∈ b, w ∈ os := by
  have go : ∀ (ns : List Nat) (bs : List (List α)), (∀ b ∈ bs, b.Nodup ∧ ∀ w ∈ b, w ∈ os) → ∀ b ∈ ns.foldl (stepB os) bs, b.Nodup ∧ ∀ w ∈ b, w ∈ os := by
    intro ns
    induction ns with
    | nil => intro bs h; exact h
    | cons n ns ih =>
      intro bs h
      refine ih _ fun b mb => ?_
      obtain ⟨a, ma, mb⟩ := List.mem_flatMap.mp mb
      exact okB_ext nd (h a ma) mb
  exact go _ _ (fun b mb => by rw [List.mem_singleton.mp mb]; exact ⟨.nil, fun _ m => nomatch m⟩) b m
end
theorem fin_all : ∀ n : Fin 5, (allB (List.finRange n.val)).length ≤ 65 ∧ [] ∈ allB (List.finRange n.val) ∧ (0 < n.val → ∃ b ∈ allB (List.finRange n.val), b.length + 1 = n.val) := by decide +kernel
theorem os_fin (os : Bal) : os = (List.finRange os.length).map os.get := by
  apply List.ext_getElem
  · rw [List.length_map, List.length_finRange]
  · intro i h1 h2
    rw [List.getElem_map, List.getElem_finRange]
    rfl
theorem get_inj {os : Bal} (nd : os.Nodup) (a b : Fin os.length) (h : os.get a = os.get b) : a = b := Fin.ext (nd_get nd (a := os.get b) (by rw [← h]; exact List.getElem?_eq_getElem a.2) (List.getElem?_eq_getElem b.2))
theorem allB_fin {os : Bal} (nd : os.Nodup) : allB os = (allB (List.finRange os.length)).map (·.map os.get) := by
  conv => lhs; rw [os_fin os]
  exact allB_map (get_inj nd) _
theorem allB_few {os : Bal} (ho : okOpts os) : (allB os).length ≤ 65 ∧ [] ∈ allB os := by
  have := fin_all ⟨os.length, by have := ho.few; omega⟩
  rw [allB_fin ho.nd, List.length_map]
  exact ⟨this.1, List.mem_map.mpr ⟨[], this.2.1, rfl⟩⟩
theorem allB_ok {os b : Bal} (ho : okOpts os) (m : b ∈ allB os) : okBal os b := let ⟨h1, h2⟩ := allB_sub ho.nd m; ⟨h1, h2⟩
theorem tupL_bals : ∀ bs : List Bal, tupL (bs.map bD) = true
  | [] => by rw [List.map_nil, tupL]
  | b :: bs => by
    have h : ∀ l : Bal, tupL (l.map nD) = true := fun l => by
      induction l with
      | nil => rw [List.map_nil, tupL]
      | cons i l ih => rw [List.map_cons, tupL, tupD, ih]; rfl
    rw [List.map_cons, tupL, tupL_bals bs, Bool.and_true]
    show tupD (.tup (b.map nD)) = true
    rw [tupD, h]
theorem oBor_ap {f : Ev → R Sl} {ρ : Ev} : oBor f ρ = (f (frzA ρ)).quiet.bind fun s => match s with
  | .l xs => if tupL xs = true then .ok (.l xs) else .bad
  | _ => .bad := (rfl)
theorem lCat_ap {f g : Ev → R D} {ρ : Ev} : lCat f g ρ = (f ρ).bind fun a => (g ρ).bind fun b => match a, b with
  | .lst xs, .lst ys => if xs.length + ys.length ≤ sizeLine then .ok (xs ++ ys) else .bad
  | _, _ => .bad := (rfl)
theorem extB_bal {os b : Bal} {n : Nat} : extB os n b = b :: (if b.length = n then (os.filter fun c => !decide (c ∈ b)).map fun c => b ++ [c] else []) := by
  unfold extB
  congr 3
  refine List.filter_congr fun c _ => ?_
  congr 1
  exact decide_eq_decide.mpr Iff.rfl
def abE (os : Bal) (bs : List Bal) (n : Nat) (lg : List Bal) (s4 : Sl) : Ev := [.v (.lst (os.map nD)), .v (.lst (bs.map bD)), .v (.int (n : Int)), .l (lg.map bD), s4, .no]
theorem all_in {os : Bal} {bs : List Bal} {n : Nat} {s4 : Sl} (few : os.length ≤ 4) (hb : ∀ b ∈ bs, b.length ≤ 1000) (hl : bs.length ≤ 1000) : ∃ s4', loop (gN 4) B__law_all_ballots_1 (bs.map bD) (abE os bs n [] s4) = .nx (abE os bs n (stepB os bs n) s4') := by
  obtain ⟨ρ', e, s, rfl⟩ := loop_map (inj := bD) (h := gN 4) (body := B__law_all_ballots_1) (l := bs) (ρ := abE os bs n [] s4)
    (fun i ρ => ∃ s : Sl, ρ = abE os bs n ((bs.take i).flatMap (extB os n)) s) ⟨_, rfl⟩ (by
      rintro i b ρ q ⟨s, rfl⟩
      refine ⟨abE os bs n ((bs.take i).flatMap (extB os n)) (.v (bD b)), rfl, ?_⟩
      have mb := hb b (List.mem_of_getElem? q)
      have fl : ((bs.take i).flatMap (extB os n)).length ≤ 5000 := by
        have := flat_len (f := extB os n) (k := 5) (l := bs.take i) fun a _ => Nat.le_trans extB_len (by omega)
        rw [List.length_take] at this
        omega
      have sz : (((bs.take i).flatMap (extB os n)).map bD).length < sizeLine := by rw [List.length_map, sz24]; omega
      have osz : (os.map nD).length ≤ sizeLine := by rw [List.length_map]; exact szle (by omega)
      have fe : os.filter (fun c => !decide (c ∈ b)) = os.filter (fun c => !decide (c ∈ b)) := rfl
      have lc : lcL (gN 5) (tV (e2 (gInS true) (eV 5) (eV 4))) (e2 gAdd (eV 4) (eA gTup (aC (eV 5) (aN)))) [.v (.lst (os.map nD)), .v (.lst (bs.map bD)), .v (.int (n : Int)), .v (.lst (((bs.take i).flatMap (extB os n)).map bD ++ [bD b])), .v (bD b), .no] (os.map nD) = .ok ((os.filter fun c => !decide (c ∈ b)).map fun c => bD (b ++ [c])) :=
        lc_map (inj := nD) (fun c => !decide (c ∈ b)) (fun c => bD (b ++ [c])) fun c _ => ⟨[.v (.lst (os.map nD)), .v (.lst (bs.map bD)), .v (.int (n : Int)), .v (.lst (((bs.take i).flatMap (extB os n)).map bD ++ [bD b])), .v (bD b), .v (nD c)], rfl, by
          have g : gInS true (nD c) (bD b) = .ok (.bl (!decide (c ∈ b))) := nin_tup
          simp_arith [g], fun _ => by
          have g1 : gTup [nD c] = .ok (.tup [nD c]) := if_pos (szle (by simp))
          have g2 : gAdd (bD b) (.tup [nD c]) = .ok (bD (b ++ [c])) := by
            show (if (b.map nD).length + [nD c].length ≤ sizeLine then R.ok (D.tup (b.map nD ++ [nD c])) else .bad) = _
            rw [if_pos (by rw [List.length_map, sz24]; simp; omega)]
            unfold bD
            rw [List.map_append]
            rfl
          simp_arith [g1, g2]⟩
      have sz2 : (((bs.take i).flatMap (extB os n)).map bD ++ [bD b]).length + ((os.filter fun c => !decide (c ∈ b)).map fun c => bD (b ++ [c])).length ≤ sizeLine := by
        have := List.length_filter_le (fun c => !decide (c ∈ b)) os
        simp only [List.length_append, List.length_map, List.length_cons, List.length_nil]
        rw [sz24]
        omega
      have nx : (bs.take (i + 1)).flatMap (extB os n) = (bs.take i).flatMap (extB os n) ++ extB os n b := by
        rw [List.take_succ, q, List.flatMap_append]
        simp
      have lb : gLen [bD b] = .ok (.int (b.length : Int)) := by show gLen [.tup (b.map nD)] = _; rw [gLen_tup, List.length_map]
      have st : B__law_all_ballots_1 (abE os bs n ((bs.take i).flatMap (extB os n)) (.v (bD b))) = .nx (abE os bs n ((bs.take (i + 1)).flatMap (extB os n)) (.v (bD b))) := by
        rw [nx]
        by_cases c : b.length = n
        · have ex : (((bs.take i).flatMap (extB os n) ++ extB os n b).map bD) = ((bs.take i).flatMap (extB os n)).map bD ++ [bD b] ++ ((os.filter fun c => !decide (c ∈ b)).map fun c => bD (b ++ [c])) := by
            rw [extB_bal, if_pos c, List.map_append, List.append_assoc, List.map_cons, List.map_map, List.singleton_append]
            rfl
          have tl : tupL (((bs.take i).flatMap (extB os n)).map bD ++ [bD b] ++ ((os.filter fun c => !decide (c ∈ b)).map fun c => bD (b ++ [c]))) = true := by rw [← ex]; exact tupL_bals _
          unfold abE
          rw [ex]
          unfold B__law_all_ballots_1
          simp_arith [sz, lb, decide_eq_true (show (b.length : Int) = (n : Int) by omega), oBor_ap, lCat_ap, osz, lc, sz2, tl]
        · have ex : (((bs.take i).flatMap (extB os n) ++ extB os n b).map bD) = ((bs.take i).flatMap (extB os n)).map bD ++ [bD b] := by
            unfold extB
            rw [if_neg c, List.map_append]
            rfl
          unfold abE
          rw [ex]
          unfold B__law_all_ballots_1
          simp_arith [sz, lb, decide_eq_false (show ¬ (b.length : Int) = (n : Int) by omega)]
      rw [st]
      exact ⟨_, rfl⟩)
  rw [List.take_length] at e
  exact ⟨s, e⟩
theorem all_ok {os : Bal} (ho : okOpts os) : F__law_all_ballots [.lst (os.map nD)] = .ok (.lst ((allB os).map bD)) := by
  have few := ho.few
  have sub : ∀ n, n ≤ os.length → ((List.range n).foldl (stepB os) [[]]).length ≤ 5 ^ n ∧ ∀ b ∈ (List.range n).foldl (stepB os) [[]], okBal os b := by
    intro n
    induction n with
    | zero => intro _; exact ⟨by simp, fun b m => by rw [List.mem_singleton.mp m]; exact .nil⟩
    | succ n ih =>
      intro hn
      obtain ⟨i1, i2⟩ := ih (by omega)
      rw [List.range_succ, List.foldl_append]
      refine ⟨?_, fun b m => ?_⟩
      · have := flat_len (f := extB os n) (k := 5) (l := (List.range n).foldl (stepB os) [[]]) fun a _ => Nat.le_trans extB_len (by omega)
        show (((List.range n).foldl (stepB os) [[]]).flatMap (extB os n)).length ≤ _
        rw [Nat.pow_succ]
        omega
      · obtain ⟨a, ma, mb⟩ := List.mem_flatMap.mp (show b ∈ stepB os _ n from m)
        have := okB_ext ho.nd (let z := i2 a ma; ⟨z.nd, z.sub⟩) mb
        exact ⟨this.1, this.2⟩
  obtain ⟨ρ', e, u2, u3, u4, rfl⟩ := loop_rg (h := gN 2) (body := B__law_all_ballots_2) (lo := 0) (n := os.length) (ρ := [.v (.lst (os.map nD)), .v (.lst (([[]] : List Bal).map bD)), .no, .no, .no, .no])
    (fun i ρ => ∃ u2 u3 u4 : Sl, ρ = [.v (.lst (os.map nD)), .v (.lst (((List.range i).foldl (stepB os) [[]]).map bD)), u2, u3, u4, .no]) ⟨_, _, _, rfl⟩ (by
      rintro n ρ hn ⟨u2, u3, u4, rfl⟩
      refine ⟨[.v (.lst (os.map nD)), .v (.lst (((List.range n).foldl (stepB os) [[]]).map bD)), .v (.int (n : Int)), u3, u4, .no], by rw [Int.zero_add]; rfl, ?_⟩
      obtain ⟨l1, l2⟩ := sub n (by omega)
      have l3 : ((List.range n).foldl (stepB os) [[]]).length ≤ 1000 := by
        have : 5 ^ n ≤ 5 ^ 4 := Nat.pow_le_pow_right (by decide) (by omega)
        omega
      obtain ⟨s4, lp⟩ := all_in (os := os) (bs := (List.range n).foldl (stepB os) [[]]) (n := n) (s4 := u4) few (fun b m => by have := (l2 b m).len; omega) l3
      unfold abE at lp
      have lp : loop (gN 4) B__law_all_ballots_1 (((List.range n).foldl (stepB os) [[]]).map bD) [.v (.lst (os.map nD)), .v (.lst (((List.range n).foldl (stepB os) [[]]).map bD)), .v (.int (n : Int)), .l [], u4, .no] = _ := lp
      have nx : (List.range (n + 1)).foldl (stepB os) [[]] = stepB os ((List.range n).foldl (stepB os) [[]]) n := by rw [List.range_succ, List.foldl_append]; rfl
      have st : B__law_all_ballots_2 [.v (.lst (os.map nD)), .v (.lst (((List.range n).foldl (stepB os) [[]]).map bD)), .v (.int (n : Int)), u3, u4, .no] = .nx [.v (.lst (os.map nD)), .v (.lst (((List.range (n + 1)).foldl (stepB os) [[]]).map bD)), .v (.int (n : Int)), .v (.lst ((stepB os ((List.range n).foldl (stepB os) [[]]) n).map bD)), s4, .no] := by
        rw [nx]
        unfold B__law_all_ballots_2
        simp_arith [sz0, lp]
      rw [st]
      exact ⟨_, _, _, rfl⟩)
  have e : loop (gN 2) B__law_all_ballots_2 (rgD 0 os.length) [.v (.lst (os.map nD)), .v (.lst [.tup []]), .no, .no, .no, .no] = _ := e
  have g0 : gTup [] = .ok (.tup []) := if_pos (szle (by simp))
  have g1 : gLst [.tup []] = .ok (.lst [.tup []]) := if_pos (szle (by simp))
  have sm : small62 (os.length : Int) := small_rg (by omega) (by omega)
  unfold F__law_all_ballots G__law_all_ballots
  simp_arith [g0, g1, List.length_map, sm, Int.toNat_natCast, e]
  rfl
end Tk
namespace Tk
open PySem PySem.Spec L2 PyProof.Rows
theorem ix_lit {l : List Int} {x : Int} (h0 : 0 ≤ x) (h : x < l.length) : gIx (.lst (l.map .int)) (.int x) = .ok (.int (l.getD x.toNat 0)) := gIx_getD h0 h
theorem c3_all : ∀ j < 3, 1 ≤ ([2, 4, 70] : List Int).getD j 0 ∧ ([2, 4, 70] : List Int).getD j 0 ≤ 70 := by decide
theorem u2_all : ∀ j < 2, 1 ≤ ([1, 70] : List Int).getD j 0 ∧ ([1, 70] : List Int).getD j 0 ≤ 70 := by decide
end Tk
namespace Tk
open PySem PySem.Spec L2 PyProof.Rows
theorem okGiv.take {os : Bal} {rs : List Row} (h : okGiv os rs) (n : Nat) : okGiv os (rs.take n) := ⟨h.tookRows.take n, by rw [List.length_take]; have := h.few; omega, fun r m => h.big r (List.mem_of_mem_take m)⟩
end Tk
namespace Tk
open PySem PySem.Spec L2 PyProof.Rows
inductive Sh where | l | t | z
def Sh.D : Sh → Bal → D
  | .l, b => .lst (b.map nD)
  | .t, b => bD b
  | .z, b => zD b
theorem clean_w {w : List Nat} (h : okName w) : cleanD 0 (nD w) = true := by
  have : PyData.strOk (S w) = true := S_ok fun c m => by have := (h.2.2 c m).2; omega
  simpa [cleanD] using this
theorem nD_inj {a b : List Nat} (h : nD a = nD b) : a = b := S_inj (D.str.inj h)
theorem roll_it {os : Bal} {ns : List Row} : F_Roll___iter__ [rollD os ns] = .ok (.tup (ns.map rowD)) := by
  have gf : gFld [52] 51 (rollD os ns) = .ok (.tup (ns.map rowD)) := by
    unfold rollD
    rw [gFld_ins, if_pos (by simp)]
    rfl
  unfold F_Roll___iter__ G_Roll___iter__
  simp_arith [gf]
end Tk
namespace Tk
open PySem PySem.Spec L2 PyProof.Rows
def outB (left : Bal) (lv : List Nat) : Bal := left.filter fun w => !decide (w = lv)
section
variable {os : Bal} {ns : List Row}
abbrev SS (ns : List Row) : (Bal → Bool) → Int := fun p => sumP p ns
theorem gF44 : gFld [52] 44 (rollD os ns) = .ok (zD os) := by
  unfold rollD
  rw [gFld_ins, if_pos (by simp)]
  rfl
end
end Tk
namespace Tk
open PySem PySem.Spec L2 PyProof.Rows
section
variable {xs : List D}
@[simp] theorem is9z : gIsi [.tpz xs, .ty "int"] = .ok (.bl false) := gIsi_of rfl kb9
@[simp] theorem is10z : gIsi [.tpz xs, .ty "str"] = .ok (.bl false) := gIsi_of rfl kb10
@[simp] theorem is11z : gIsi [.tpz xs, .ty "tuple"] = .ok (.bl true) := gIsi_of rfl kb11
@[simp] theorem is12z : gIsi [.tpz xs, .ty "list"] = .ok (.bl false) := gIsi_of rfl kb12
@[simp] theorem ib6z {b : Bool} : gIsB false (.tpz xs) (.bl b) = .ok (.bl false) := (rfl)
@[simp] theorem isNon_tpz : isNon (.tpz xs) = false := rfl
end
def SamZ : Nat → D → D → Prop
  | 0, a, b => a = b ∧ scalD a = true
  | n + 1, a, b => (a = b ∧ scalD a = true) ∨ ∃ xs ys, ((a = .lst xs ∧ b = .lst ys) ∨ ((a = .tup xs ∨ a = .tpz xs) ∧ (b = .tup ys ∨ b = .tpz ys))) ∧ xs.length = ys.length ∧ ys.length ≤ 1000000 ∧ ∀ (i : Nat) (x y : D), xs[i]? = some x → ys[i]? = some y → SamZ n x y
theorem same_scal {n : Nat} {a : D} (h : scalD a = true) : Fr__law_same (n + 1) [a, a] = .ok (.bl true) := by
  refine same_n n ?_
  cases a <;> first | rfl | cases h
theorem samez_loop {n : Nat} {a b : D} {xs ys : List D} (hl : xs.length = ys.length) (ga : ∀ i, (h : i < xs.length) → gIx a (.int (i : Int)) = .ok xs[i]) (gb : ∀ i, (h : i < ys.length) → gIx b (.int (i : Int)) = .ok ys[i])
    (ih : ∀ (i : Nat) (x y : D), xs[i]? = some x → ys[i]? = some y → Fr__law_same n [x, y] = .ok (.bl true)) : ∃ s, loop (gN 2) (B__law_same_1 (Fr__law_same n)) (rgD 0 ys.length) [.v a, .v b, .no] = .nx [.v a, .v b, s] := by
  obtain ⟨ρ', e, s, rfl⟩ := loop_rg (h := gN 2) (body := B__law_same_1 (Fr__law_same n)) (lo := 0) (n := ys.length) (ρ := [.v a, .v b, .no]) (fun _ ρ => ∃ s : Sl, ρ = [.v a, .v b, s]) ⟨_, rfl⟩ (by
    rintro i ρ hi ⟨s, rfl⟩
    refine ⟨_, rfl, ?_⟩
    have g1 := ga i (by omega)
    have g2 := gb i hi
    have h := ih i _ _ (List.getElem?_eq_getElem (by omega : i < xs.length)) (List.getElem?_eq_getElem hi)
    unfold B__law_same_1
    simp [g1, g2, h])
  exact ⟨s, e⟩
theorem samez_n : ∀ (n : Nat) {a b : D}, SamZ n a b → Fr__law_same (n + 1) [a, b] = .ok (.bl true)
  | 0, a, b, ⟨e, h⟩ => by subst e; exact same_scal h
  | n + 1, a, b, h => by
    rcases h with ⟨e, h⟩ | ⟨xs, ys, k, hl, l6, ih⟩
    · subst e; exact same_scal h
    · have ih : ∀ (i : Nat) (x y : D), xs[i]? = some x → ys[i]? = some y → Fr__law_same (n + 1) [x, y] = .ok (.bl true) := fun i x y h1 h2 => samez_n n (ih i x y h1 h2)
      have sm : small62 (ys.length : Int) := small_rg (by omega) (by omega)
      have g1 : ∀ {zs : List D} (i : Nat) (h : i < zs.length), gIx (.lst zs) (.int (i : Int)) = .ok zs[i] := fun i h => by rw [gIx_lst (by omega) (by omega), Int.toNat_natCast, List.getElem?_eq_getElem h]; rfl
      have g2 : ∀ {zs : List D} (i : Nat) (h : i < zs.length), gIx (.tup zs) (.int (i : Int)) = .ok zs[i] := fun i h => by rw [gIx_tup (by omega) (by omega), Int.toNat_natCast, List.getElem?_eq_getElem h]; rfl
      have g3 : ∀ {zs : List D} (i : Nat) (h : i < zs.length), gIx (.tpz zs) (.int (i : Int)) = .ok zs[i] := fun i h => by rw [gIx_tpz (by omega) (by omega), Int.toNat_natCast, List.getElem?_eq_getElem h]; rfl
      rcases k with ⟨rfl, rfl⟩ | ⟨rfl | rfl, rfl | rfl⟩
      · obtain ⟨s, e⟩ := samez_loop (n := n + 1) hl g1 g1 ih
        show runF 3 (G__law_same (Fr__law_same (n + 1))) [.lst xs, .lst ys] = _
        unfold G__law_same
        simp [sm, e, hl]
      · obtain ⟨s, e⟩ := samez_loop (n := n + 1) hl g2 g2 ih
        show runF 3 (G__law_same (Fr__law_same (n + 1))) [.tup xs, .tup ys] = _
        unfold G__law_same
        simp [sm, e, hl]
      · obtain ⟨s, e⟩ := samez_loop (n := n + 1) hl g2 g3 ih
        show runF 3 (G__law_same (Fr__law_same (n + 1))) [.tup xs, .tpz ys] = _
        unfold G__law_same
        simp [sm, e, hl]
      · obtain ⟨s, e⟩ := samez_loop (n := n + 1) hl g3 g2 ih
        show runF 3 (G__law_same (Fr__law_same (n + 1))) [.tpz xs, .tup ys] = _
        unfold G__law_same
        simp [sm, e, hl]
      · obtain ⟨s, e⟩ := samez_loop (n := n + 1) hl g3 g3 ih
        show runF 3 (G__law_same (Fr__law_same (n + 1))) [.tpz xs, .tpz ys] = _
        unfold G__law_same
        simp [sm, e, hl]
theorem samez_ok {a b : D} (h : SamZ 5 a b) : F__law_same [a, b] = .ok (.bl true) := samez_n 5 h
theorem samz_scal {n : Nat} {a : D} (h : scalD a = true) : SamZ n a a := by
  cases n with
  | zero => exact ⟨rfl, h⟩
  | succ n => exact .inl ⟨rfl, h⟩
theorem samz_map {α : Type} {f g : α → D} {l : List α} {n : Nat} (hl : l.length ≤ 1000000) (h : ∀ a ∈ l, SamZ n (f a) (g a)) : ∀ (i : Nat) (x y : D), (l.map f)[i]? = some x → (l.map g)[i]? = some y → SamZ n x y := fun i x y h1 h2 => by
  rw [List.getElem?_map] at h1 h2
  obtain ⟨a, a1, rfl⟩ := Option.map_eq_some_iff.mp h1
  rw [a1] at h2
  cases h2
  exact h a (List.mem_of_getElem? a1)
end Tk
namespace Tk
open PySem PySem.Spec L2 PyProof.Rows
section
variable {os left : Bal} {rs : List Row}
end
end Tk
namespace Tk
open PySem PySem.Spec L2 PyProof.Rows
end Tk
namespace Tk
open PySem PySem.Spec L2 PyProof.Rows
end Tk
namespace Tk
open PySem PySem.Spec L2 PyProof.Rows
def Ord (os left : Bal) : Prop := left.Pairwise fun a b => os.idxOf a < os.idxOf b
theorem Ord.self {os : Bal} (nd : os.Nodup) : Ord os os := by
  refine List.pairwise_iff_getElem.mpr fun i j hi hj hij => ?_
  have e : ∀ k (hk : k < os.length), os.idxOf os[k] = k := fun k hk => by
    have hl := List.idxOf_lt_length_iff.mpr (List.getElem_mem hk)
    exact nd_get nd (i := os.idxOf os[k]) (j := k) (a := os[k]) (by rw [List.getElem?_eq_getElem hl, List.getElem_idxOf hl]) (List.getElem?_eq_getElem hk)
  rw [e i hi, e j hj]
  exact hij
theorem Ord.out {os left : Bal} {lv : List Nat} (h : Ord os left) : Ord os (outB left lv) := h.sublist List.filter_sublist
section
variable {os : Bal} {rs : List Row}
theorem eq_bals {a b : Bal} (ha : ∀ w ∈ a, okName w) (hb : ∀ w ∈ b, okName w) : gEq (bD a) (bD b) = .ok (.bl (decide (a = b))) := by
  have c : ∀ {x : Bal}, (∀ w ∈ x, okName w) → cleanD 1 (bD x) = true := fun {x} h => by
    show cleanL 0 (x.map nD) = true
    rw [cleanL_all]
    intro d m
    obtain ⟨w, mw, rfl⟩ := List.mem_map.mp m
    exact clean_w (h w mw)
  obtain ⟨h1, h2⟩ := gEq_clean (n := 1) (m := 1) (by decide) (by decide) (c ha) (c hb)
  by_cases z : a = b
  · rw [h1 (by rw [z]), decide_eq_true z]
  · rw [h2 (fun e => z ?_), decide_eq_false z]
    have e2 : a.map nD = b.map nD := D.tup.inj e
    exact List.map_inj_right (fun _ _ => nD_inj) |>.mp e2
end
end Tk
namespace Tk
open PySem PySem.Spec L2 PyProof.Rows
theorem gEq_tpz {xs ys : List D} : gEq (.tpz xs) (.tpz ys) = gEq (.tup xs) (.tup ys) := by
  have a : ∀ zs : List D, toP (.tpz zs) = toP (.tup zs) := fun zs => by simp only [toP]
  show gEqP (.tpz xs) (.tpz ys) = gEqP (.tup xs) (.tup ys)
  unfold gEqP
  rw [a, a]
theorem gF51 {os : Bal} {ns : List Row} : gFld [52] 51 (rollD os ns) = .ok (.tup (ns.map rowD)) := by
  unfold rollD
  rw [gFld_ins, if_pos (by simp)]
  rfl
end Tk
namespace Tk
open PySem PySem.Spec L2 PyProof.Rows
theorem stage_mem {os b : Bal} (h : okBal os b) : ∀ n, b.take n ∈ (List.range n).foldl (stepB os) [[]] ∨ b.length < n
  | 0 => .inl (by simp)
  | n + 1 => by
    rw [List.range_succ, List.foldl_append]
    show b.take (n + 1) ∈ stepB os ((List.range n).foldl (stepB os) [[]]) n ∨ _
    rcases stage_mem h n with m | m
    · by_cases c : n < b.length
      · refine .inl (List.mem_flatMap.mpr ⟨b.take n, m, ?_⟩)
        rw [extB_bal, if_pos (by rw [List.length_take]; omega)]
        refine List.mem_cons_of_mem _ (List.mem_map.mpr ⟨b[n], List.mem_filter.mpr ⟨h.sub _ (List.getElem_mem c), ?_⟩, ?_⟩)
        · have := nd_take h.nd (List.getElem?_eq_getElem c)
          simpa using this
        · rw [List.take_succ, List.getElem?_eq_getElem c]; rfl
      · exact .inr (by omega)
    · exact .inr (by omega)
theorem keep_mem {os b : Bal} {bs : List Bal} {n : Nat} (m : b ∈ bs) : b ∈ stepB os bs n := List.mem_flatMap.mpr ⟨b, m, by unfold extB; exact List.mem_cons_self⟩
theorem allB_mem {os b : Bal} (h : okBal os b) : b ∈ allB os := by
  have hl := h.len
  have m : b ∈ (List.range b.length).foldl (stepB os) [[]] := by
    rcases stage_mem h b.length with m | m
    · rw [List.take_length] at m; exact m
    · omega
  have go : ∀ k, b ∈ (List.range (b.length + k)).foldl (stepB os) [[]] := fun k => by
    induction k with
    | zero => exact m
    | succ k ih =>
      rw [← Nat.add_assoc, List.range_succ, List.foldl_append]
      exact keep_mem ih
  have := go (os.length - b.length)
  rw [show b.length + (os.length - b.length) = os.length by omega] at this
  exact this
def cntB (rs : List Row) (b : Bal) : Int := SS rs (fun c => decide (c = b))
def fullR (os : Bal) (rs : List Row) : List Row := ((allB os).map fun b => (b, cntB rs b)).filter fun r => decide (0 < r.2)
def ltB (os : Bal) (x y : Bal) : Bool := ltL (places os x) (places os y)
theorem fin_sort : ∀ n : Fin 5, ((allB (List.finRange n.val)).Pairwise fun x y => ltL (y.map fun i => (i.val : Int)) (x.map fun i => (i.val : Int)) = false) ∧ (allB (List.finRange n.val)).Nodup := by decide +kernel
theorem places_fin {os : Bal} (nd : os.Nodup) (b : List (Fin os.length)) : places os (b.map os.get) = b.map fun i => (i.val : Int) := by
  unfold places
  rw [List.map_map]
  refine List.map_congr_left fun i _ => ?_
  show idx os (os.get i) = _
  unfold idx
  rw [idx_name nd (i := i.val) (w := os.get i) (List.getElem?_eq_getElem i.2)]
theorem allB_sort {os : Bal} (ho : okOpts os) : ((allB os).Pairwise fun x y => ltB os y x = false) ∧ (allB os).Nodup := by
  have := fin_sort ⟨os.length, by have := ho.few; omega⟩
  rw [allB_fin ho.nd]
  refine ⟨List.pairwise_map.mpr (this.1.imp fun {x y} h => ?_), List.pairwise_map.mpr (this.2.imp fun {x y} h e => h ?_)⟩
  · unfold ltB
    rw [places_fin ho.nd, places_fin ho.nd]
    exact h
  · exact List.map_inj_right (fun a b => get_inj ho.nd a b) |>.mp e
theorem cnt_cons {q : Row} {ns : List Row} {b : Bal} : cntB (q :: ns) b = (if q.1 = b then q.2 else 0) + cntB ns b := by
  unfold cntB SS
  rw [sumP_cons]
  by_cases c : q.1 = b
  · rw [if_pos c, if_pos (by simpa using c)]
  · rw [if_neg c, if_neg (by simpa using c)]
theorem cnt_nil {b : Bal} : cntB [] b = 0 := rfl
theorem cnt_app {rs qs : List Row} {b : Bal} : cntB (rs ++ qs) b = cntB rs b + cntB qs b := by
  unfold cntB SS
  exact sumP_append ..
theorem cnt_zero {b : Bal} : ∀ {ns : List Row}, (∀ q ∈ ns, q.1 ≠ b) → cntB ns b = 0
  | [], _ => rfl
  | q :: ns, h => by rw [cnt_cons, if_neg (h q List.mem_cons_self), cnt_zero fun r m => h r (List.mem_cons_of_mem _ m)]; rfl
theorem cnt_nn {b : Bal} : ∀ {ns : List Row}, (∀ r ∈ ns, 0 ≤ r.2) → 0 ≤ cntB ns b
  | [], _ => Int.le_refl _
  | q :: ns, h => by
    rw [cnt_cons]
    have := cnt_nn (b := b) fun r m => h r (List.mem_cons_of_mem q m)
    have := h q List.mem_cons_self
    split <;> omega
theorem cnt_in : ∀ {ns : List Row}, (ns.map (·.1)).Nodup → ∀ {r : Row}, r ∈ ns → cntB ns r.1 = r.2
  | [], _, _, m => nomatch m
  | q :: ns, nd, r, m => by
    rw [List.map_cons] at nd
    obtain ⟨n1, n2⟩ := List.nodup_cons.mp nd
    rw [cnt_cons]
    rcases List.mem_cons.mp m with rfl | m
    · rw [if_pos rfl, cnt_zero fun q mq e => n1 (by rw [← e]; exact List.mem_map.mpr ⟨q, mq, rfl⟩)]
      omega
    · have : q.1 ≠ r.1 := fun e => n1 (by rw [e]; exact List.mem_map.mpr ⟨r, m, rfl⟩)
      rw [if_neg this, cnt_in n2 m]
      omega
theorem cnt_out {b : Bal} : ∀ {ns : List Row}, 0 < cntB ns b → ∃ r ∈ ns, r.1 = b
  | [], h => absurd h (by rw [cnt_nil]; omega)
  | q :: ns, h => by
    rw [cnt_cons] at h
    by_cases c : q.1 = b
    · exact ⟨q, List.mem_cons_self, c⟩
    · rw [if_neg c] at h
      obtain ⟨r, m, e⟩ := cnt_out (b := b) (ns := ns) (by omega)
      exact ⟨r, List.mem_cons_of_mem _ m, e⟩
theorem ordR_sort {os : Bal} {cs : List Row} (h : okRows os cs) : (ordR os cs).Pairwise fun x y => ltB os y.1 x.1 = false := by
  unfold ordR
  refine List.pairwise_map.mpr ?_
  have p : (srtL ((posR cs).map fun r => places os r.1)).Perm ((posR cs).map fun r => places os r.1) := List.mergeSort_perm _ _
  have s2 : (srtL ((posR cs).map fun r => places os r.1)).Pairwise fun x y => (!ltL y x) = true := List.pairwise_mergeSort (fun a b c h1 h2 => by
    rw [Bool.not_eq_true'] at *
    exact ltL_tr a b c h1 h2) (fun a b => by
    cases h : ltL b a with
    | false => rfl
    | true => rw [ltL_asym _ _ h]; rfl) _
  have back_ok : ∀ row ∈ srtL ((posR cs).map fun r => places os r.1), places os (back os row) = row := fun row m => by
    obtain ⟨r, m1, rfl⟩ := List.mem_map.mp (p.mem_iff.mp m)
    rw [back_places (h.bal r (List.mem_filter.mp m1).1).sub]
  refine List.Pairwise.imp_of_mem (fun {x y} mx my h => ?_) s2
  unfold ltB
  show ltL (places os (back os y)) (places os (back os x)) = false
  rw [back_ok x mx, back_ok y my]
  simpa using h
theorem places_inj {os x y : Bal} (hx : ∀ w ∈ x, w ∈ os) (hy : ∀ w ∈ y, w ∈ os) (e : places os x = places os y) : x = y := by
  rw [← back_places hx, ← back_places hy, e]
theorem norm_full {os : Bal} {rs : List Row} (ho : okOpts os) (h : okRows os rs) : normR os rs = fullR os rs := by
  obtain ⟨n1, n2, n3⟩ := norm_ok h
  obtain ⟨h1, h2, h3, h4⟩ := tally_all h
  have ce : ∀ b, cntB (normR os rs) b = cntB rs b := fun b => by unfold cntB SS; exact n3 _
  obtain ⟨a1, a2⟩ := allB_sort ho
  have sF : (fullR os rs).Pairwise fun x y => ltB os y.1 x.1 = false := by
    unfold fullR
    exact (List.pairwise_map.mpr (a1.imp fun h => h)).filter _
  have mF : ∀ r, r ∈ fullR os rs ↔ r.1 ∈ allB os ∧ r.2 = cntB rs r.1 ∧ 0 < r.2 := fun r => by
    unfold fullR
    rw [List.mem_filter, List.mem_map]
    constructor
    · rintro ⟨⟨b, mb, rfl⟩, hp⟩
      exact ⟨mb, rfl, by simpa using hp⟩
    · rintro ⟨mb, e, hp⟩
      exact ⟨⟨r.1, mb, by rw [← e]⟩, by simpa using hp⟩
  have ndF : (fullR os rs).Nodup := by
    unfold fullR
    refine List.Pairwise.filter _ (List.pairwise_map.mpr (a2.imp fun {x y} h e => h (Prod.mk.inj e).1))
  have ndN : (normR os rs).Nodup := (List.pairwise_map.mp n1.nd).imp fun {x y} h e => h (by rw [e])
  have mN : ∀ r, r ∈ normR os rs ↔ r.1 ∈ allB os ∧ r.2 = cntB rs r.1 ∧ 0 < r.2 := fun r => by
    constructor
    · intro m
      exact ⟨allB_mem (n1.bal r m), by rw [← ce, cnt_in n1.nd m], n1.pos r m⟩
    · rintro ⟨mb, e, hp⟩
      obtain ⟨q, mq, eq⟩ := cnt_out (ns := normR os rs) (b := r.1) (by rw [ce, ← e]; exact hp)
      have c := cnt_in n1.nd mq
      rw [eq, ce, ← e] at c
      have : q = r := Prod.ext eq c.symm
      rw [← this]
      exact mq
  have p : (normR os rs).Perm (fullR os rs) := (List.perm_ext_iff_of_nodup ndN ndF).mpr fun r => (mN r).trans (mF r).symm
  refine List.Perm.eq_of_pairwise (fun a b ma mb l1 l2 => ?_) (ordR_sort h2) sF p
  have e1 := ltL_anti _ _ l2 l1
  have ka := (mN a).mp ma
  have kb := (mF b).mp mb
  have e2 := places_inj (allB_ok ho ka.1).sub (allB_ok ho kb.1).sub e1
  exact Prod.ext e2 (by rw [ka.2.1, kb.2.1, e2])
theorem full_same {os : Bal} {rs qs : List Row} (h : ∀ b ∈ allB os, cntB rs b = cntB qs b) : fullR os rs = fullR os qs := by
  unfold fullR
  rw [List.map_congr_left fun b m => by rw [h b m]]
theorem full_iff {os : Bal} {rs qs : List Row} (hr : ∀ r ∈ rs, 0 ≤ r.2) (hq : ∀ r ∈ qs, 0 ≤ r.2) : fullR os rs = fullR os qs ↔ ∀ b ∈ allB os, cntB rs b = cntB qs b := by
  refine ⟨fun e b m => ?_, full_same⟩
  have nn : ∀ {ns : List Row}, (∀ r ∈ ns, 0 ≤ r.2) → 0 ≤ cntB ns b := cnt_nn
  have k : ∀ ns : List Row, 0 < cntB ns b ↔ (b, cntB ns b) ∈ fullR os ns := fun ns => by
    unfold fullR
    rw [List.mem_filter, List.mem_map]
    exact ⟨fun h => ⟨⟨b, m, rfl⟩, by simpa using h⟩, fun h => by simpa using h.2⟩
  have u : ∀ {ns : List Row} {v : Int}, (b, v) ∈ fullR os ns → v = cntB ns b := fun {ns v} h => by
    unfold fullR at h
    obtain ⟨c, mc, ec⟩ := List.mem_map.mp (List.mem_filter.mp h).1
    cases ec
    rfl
  have n1 := nn hr
  have n2 := nn hq
  by_cases c : 0 < cntB rs b
  · have := (k rs).mp c
    rw [e] at this
    exact u this
  · by_cases d : 0 < cntB qs b
    · have := (k qs).mp d
      rw [← e] at this
      exact (u this).symm
    · omega
end Tk
namespace Tk
open PySem PySem.Spec L2 PyProof.Rows
noncomputable section
def isT_Roll : List (Kd × Bool) := isT [52] []
def B__law_nested_1 : Ev → SO := sSet 1 (e2 gAdd (eV 1) (eC (.int 1)))
def B__law_nested_2 : Ev → SO := sFor (iDun 52 F_Roll___iter__ (eV 0)) (gN 3) (B__law_nested_1)
def G__law_nested : Ev → SO := sSq (sSet 1 (eC (.int 0))) (sSq (sFor (iDun 52 F_Roll___iter__ (eV 0)) (gN 2) (B__law_nested_2)) (sRet (eV 1)))
def F__law_nested : List D → R D := runF 4 G__law_nested
def B__law_no_ballots_1 : Ev → SO := sSq (sApp 3 (e2 gAdd (eV 4) (eA gTup (aC (eV 2) (aN))))) (sSq (sApp 3 (e2 gAdd (eA gTup (aC (eV 2) (aN))) (eV 4))) (sIf (tV (e2 gNe (eV 4) (eA gTup (aN)))) (sApp 3 (e2 gAdd (eV 4) (eA gTup (aC (e2 gIx (eV 4) (eC (.int 0))) (aN))))) (sN)))
def G__law_no_ballots : Ev → SO := sSq (sOwn 3 (lDisp (aC (eA gTup (aC (eV 2) (aN))) (aC (eA gTup (aC (eC (.str "")) (aN))) (aC (eA gTup (aC (e2 gIx (eV 0) (eC (.int 0))) (aC (e2 gIx (eV 0) (eC (.int 0))) (aN)))) (aC (e2 gAdd (eA gTuple (aC (eV 0) (aN))) (eA gTup (aC (e2 gIx (eV 0) (e1 gNeg (eC (.int 1)))) (aN)))) (aC (eA gTup (aC (eV 2) (aC (e2 gIx (eV 0) (eC (.int 0))) (aN)))) (aN)))))))) (sSq (sFor (iSq (eV 1)) (gT 2 (gsC (gN 4) (gsC (gN 5) (gsN)))) (B__law_no_ballots_1)) (sFrz 3 (sRet (eV 3))))
def F__law_no_ballots : List D → R D := runF 6 G__law_no_ballots
def B__law_as_told_1 : Ev → SO := sSq (sSet 5 (eCall 2 F__law_times (aC (eV 2) (aC (eV 4) (aN))))) (sSq (sIf (tV (e2 gGt (eV 5) (eC (.int 0)))) (sApp 3 (eA gTup (aC (eV 4) (aC (eV 5) (aN))))) (sN)) (sIf (tOr (tNot (tV (eCall 2 F__law_same (aC (e2 (gDun 52 F_Roll___getitem__) (eV 0) (eV 4)) (aC (eV 5) (aN)))))) (tNot (tV (eCall 2 F__law_same (aC (e2 (gDunIn 52 false F_Roll___contains__) (eV 4) (eV 0)) (aC (e2 gGt (eV 5) (eC (.int 0))) (aN))))))) (sRet (eC (.bl false))) (sN)))
def B__law_as_told_2 : Ev → SO := sIf (tOr (tNot (tV (eCall 2 F__law_same (aC (e2 (gDun 52 F_Roll___getitem__) (eV 0) (eV 4)) (aC (eC (.int 0)) (aN)))))) (tNot (tV (eCall 2 F__law_same (aC (e2 (gDunIn 52 false F_Roll___contains__) (eV 4) (eV 0)) (aC (eC (.bl false)) (aN))))))) (sRet (eC (.bl false))) (sN)
def G__law_as_told : Ev → SO := sSq (sOwn 3 (lDisp (aN))) (sSq (sFor (iSq (eCall 1 F__law_all_ballots (aC (eV 1) (aN)))) (gN 4) (B__law_as_told_1)) (sSq (sFor (iSq (eCall 3 F__law_no_ballots (aC (eV 1) (aC (eV 2) (aC (eCall 1 F__law_strange (aC (eV 1) (aN))) (aN)))))) (gN 4) (B__law_as_told_2)) (sSq (sFrz 3 (sIf (tOr (tNot (tV (eCall 2 F__law_same (aC (e1 (gFld [52] 44) (eV 0)) (aC (eA gTuple (aC (eV 1) (aN))) (aN)))))) (tNot (tV (eCall 2 F__law_same (aC (eA (gListO 52 F_Roll___iter__ F_Roll___len__) (aC (eV 0) (aN))) (aC (eV 3) (aN))))))) (sRet (eC (.bl false))) (sN))) (sSq (sIf (tNot (tV (eCall 2 F__law_same (aC (e1 (gFld [52] 4) (eV 0)) (aC (eA gSum (aC (eLc [4, 6] (iSq (eV 2)) (gT 2 (gsC (gN 4) (gsC (gN 6) (gsN)))) (tsY) (eV 6)) (aN))) (aN)))))) (sRet (eC (.bl false))) (sN)) (sFrz 3 (sRet (eAnd (eCall 2 F__law_same (aC (eA (gDunLen 52 F_Roll___len__) (aC (eV 0) (aN))) (aC (eA gLen (aC (eV 3) (aN))) (aN)))) (e2 gEq (eCall 1 F__law_nested (aC (eV 0) (aN))) (e2 gMul (eA gLen (aC (eV 3) (aN))) (eA gLen (aC (eV 3) (aN))))))))))))
def F__law_as_told : List D → R D := runF 7 G__law_as_told
def G__law_of : Ev → SO := sSq (sIf (tV (e2 gEq (eA gLen (aC (eV 1) (aN))) (eC (.int 0)))) (sRet (eFrz (nCmS 52 1 1 3 F_Roll_of (gDk [0, 1, 2] []) (aC (eV 0) (aN)) (aC (eV 2) (aN))))) (sN)) (sSq (sIf (tV (e2 gEq (eA gLen (aC (eV 1) (aN))) (eC (.int 1)))) (sRet (eFrz (nCmS 52 1 1 3 F_Roll_of (gDk [0, 1, 2] []) (aC (eV 0) (aC (e2 gIx (eV 1) (eC (.int 0))) (aN))) (aC (eV 2) (aN))))) (sN)) (sSq (sIf (tV (e2 gEq (eA gLen (aC (eV 1) (aN))) (eC (.int 2)))) (sRet (eFrz (nCmS 52 1 1 3 F_Roll_of (gDk [0, 1, 2] []) (aC (eV 0) (aC (e2 gIx (eV 1) (eC (.int 0))) (aC (e2 gIx (eV 1) (eC (.int 1))) (aN)))) (aC (eV 2) (aN))))) (sN)) (sSq (sIf (tV (e2 gEq (eA gLen (aC (eV 1) (aN))) (eC (.int 3)))) (sRet (eFrz (nCmS 52 1 1 3 F_Roll_of (gDk [0, 1, 2] []) (aC (eV 0) (aC (e2 gIx (eV 1) (eC (.int 0))) (aC (e2 gIx (eV 1) (eC (.int 1))) (aC (e2 gIx (eV 1) (eC (.int 2))) (aN))))) (aC (eV 2) (aN))))) (sN)) (sSq (sIf (tV (e2 gEq (eA gLen (aC (eV 1) (aN))) (eC (.int 4)))) (sRet (eFrz (nCmS 52 1 1 3 F_Roll_of (gDk [0, 1, 2] []) (aC (eV 0) (aC (e2 gIx (eV 1) (eC (.int 0))) (aC (e2 gIx (eV 1) (eC (.int 1))) (aC (e2 gIx (eV 1) (eC (.int 2))) (aC (e2 gIx (eV 1) (eC (.int 3))) (aN)))))) (aC (eV 2) (aN))))) (sN)) (sSq (sIf (tV (e2 gEq (eA gLen (aC (eV 1) (aN))) (eC (.int 5)))) (sRet (eFrz (nCmS 52 1 1 3 F_Roll_of (gDk [0, 1, 2] []) (aC (eV 0) (aC (e2 gIx (eV 1) (eC (.int 0))) (aC (e2 gIx (eV 1) (eC (.int 1))) (aC (e2 gIx (eV 1) (eC (.int 2))) (aC (e2 gIx (eV 1) (eC (.int 3))) (aC (e2 gIx (eV 1) (eC (.int 4))) (aN))))))) (aC (eV 2) (aN))))) (sN)) (sRet (eFrz (nCmS 52 1 1 3 F_Roll_of (gDk [0, 1, 2] []) (aC (eV 0) (aC (e2 gIx (eV 1) (eC (.int 0))) (aC (e2 gIx (eV 1) (eC (.int 1))) (aC (e2 gIx (eV 1) (eC (.int 2))) (aC (e2 gIx (eV 1) (eC (.int 3))) (aC (e2 gIx (eV 1) (eC (.int 4))) (aC (e2 gIx (eV 1) (eC (.int 5))) (aN)))))))) (aC (eV 2) (aN))))))))))
def F__law_of : List D → R D := runF 3 G__law_of
def G__law_of_once : Ev → SO := sSq (sIf (tV (e2 gEq (eA gLen (aC (eV 1) (aN))) (eC (.int 0)))) (sRet (eFrz (nCmS 52 1 0 3 F_Roll_of (gDk [0, 1, 2] [.int 1]) (aC (eV 0) (aN)) (aN)))) (sN)) (sSq (sIf (tV (e2 gEq (eA gLen (aC (eV 1) (aN))) (eC (.int 1)))) (sRet (eFrz (nCmS 52 1 0 3 F_Roll_of (gDk [0, 1, 2] [.int 1]) (aC (eV 0) (aC (e2 gIx (eV 1) (eC (.int 0))) (aN))) (aN)))) (sN)) (sSq (sIf (tV (e2 gEq (eA gLen (aC (eV 1) (aN))) (eC (.int 2)))) (sRet (eFrz (nCmS 52 1 0 3 F_Roll_of (gDk [0, 1, 2] [.int 1]) (aC (eV 0) (aC (e2 gIx (eV 1) (eC (.int 0))) (aC (e2 gIx (eV 1) (eC (.int 1))) (aN)))) (aN)))) (sN)) (sRet (eFrz (nCmS 52 1 0 3 F_Roll_of (gDk [0, 1, 2] [.int 1]) (aC (eV 0) (aC (e2 gIx (eV 1) (eC (.int 0))) (aC (e2 gIx (eV 1) (eC (.int 1))) (aC (e2 gIx (eV 1) (eC (.int 2))) (aN))))) (aN))))))
def F__law_of_once : List D → R D := runF 2 G__law_of_once
def G_Roll___eq__ : Ev → SO := sRet (eAnd (eIsi isT_Roll (eV 1)) (eAnd (e2 gEq (e1 (gFld [52] 44) (eV 0)) (e1 (gFld [52] 44) (eV 1))) (e2 gEq (e1 (gFld [52] 51) (eV 0)) (e1 (gFld [52] 51) (eV 1)))))
def F_Roll___eq__ : List D → R D := runF 2 G_Roll___eq__
def G__law_of_right : Ev → SO := sSq (sSet 4 (eLc [8] (iSq (eV 1)) (gN 8) (tsY) (eA gTup (aC (eV 8) (aC (eV 2) (aN)))))) (sSq (sOwn 5 (lList (eV 0))) (sSq (sIf (tAnd (tV (eV 3)) (tV (e2 gLt (eA gLen (aC (eV 1) (aN))) (eC (.int 4))))) (sSq (sSet 4 (eLc [8] (iSq (eV 1)) (gN 8) (tsY) (eA gTup (aC (eV 8) (aC (eC (.int 1)) (aN)))))) (sSet 6 (eBorL (eCall 2 F__law_of_once (aC (eV 5) (aC (eV 1) (aN))))))) (sSet 6 (eBorL (eCall 3 F__law_of (aC (eV 5) (aC (eV 1) (aC (eV 2) (aN)))))))) (sSq (sIf (tBor (tOr (tV (e2 gNe (eV 5) (eV 0))) (tNot (tV (eCall 3 F__law_as_told (aC (eV 6) (aC (eV 0) (aC (eV 4) (aN))))))))) (sRet (eC (.bl false))) (sN)) (sSq (sMut 5 mClr aN) (sSq (sSet 7 (e2 (gOwn 52 F_Roll___eq__) (eV 6) (eFrz (nMakeK 52 2 0 4 F_Roll___init__ (gDk [0, 1, 3] [.tp0, .int 1000000000]) (aC (eA gList (aC (eV 0) (aN))) (aC (e1 gRev (eV 4)) (aN))) (aN))))) (sRet (eAnd (eCall 2 F__law_same (aC (eV 7) (aC (eC (.bl true)) (aN)))) (eCall 3 F__law_as_told (aC (eV 6) (aC (eV 0) (aC (eV 4) (aN))))))))))))
def F__law_of_right : List D → R D := runF 9 G__law_of_right
def G_law : Ev → SO := sSq (sSet 1 (eCall 2 F__law_pool_k15 (aC (eCall 2 F__law_cell (aC (eV 0) (aC (eC (.int 0)) (aN)))) (aC (eC (.int 8)) (aN))))) (sSq (sSet 2 (eCall 3 F__law_names (aC (eV 1) (aC (eC (.int 0)) (aC (e2 gAdd (eC (.int 1)) (eCall 4 F__law_part (aC (eV 1) (aC (eC (.int 5)) (aC (eC (.int 1)) (aC (eC (.int 4)) (aN))))))) (aN)))))) (sSq (sSet 3 (eCall 2 F__law_pool_k15 (aC (eCall 2 F__law_cell (aC (eV 0) (aC (eC (.int 1)) (aN)))) (aC (eC (.int 36)) (aN))))) (sSq (sSet 4 (eCall 4 F__law_ballots (aC (eV 3) (aC (eC (.int 0)) (aC (eV 2) (aC (eCall 4 F__law_part (aC (eV 1) (aC (eC (.int 5)) (aC (eC (.int 4)) (aC (eC (.int 13)) (aN)))))) (aN))))))) (sSq (sIf (tV (e2 gEq (eCall 4 F__law_part (aC (eV 1) (aC (eC (.int 5)) (aC (eC (.int 52)) (aC (eC (.int 3)) (aN)))))) (eC (.int 1)))) (sSet 4 (eLc [12] (iR1 (eA gLen (aC (eV 4) (aN)))) (gN 12) (tsY) (eA gTup (aC (e2 gIx (e2 gIx (eV 4) (e2 gMod (eV 12) (eC (.int 3)))) (eC (.int 0))) (aC (e2 gIx (e2 gIx (eV 4) (eV 12)) (eC (.int 1))) (aN)))))) (sN)) (sSq (sSet 5 (eLc [13, 14] (iSq (eCall 4 F__law_ballots (aC (eV 3) (aC (eC (.int 24)) (aC (eV 2) (aC (eCall 4 F__law_part (aC (eV 1) (aC (eC (.int 6)) (aC (eC (.int 1)) (aC (eC (.int 7)) (aN)))))) (aN))))))) (gT 2 (gsC (gN 13) (gsC (gN 14) (gsN)))) (tsY) (eV 13))) (sSq (sIf (tV (e2 gEq (eCall 4 F__law_part (aC (eV 1) (aC (eC (.int 6)) (aC (eC (.int 7)) (aC (eC (.int 2)) (aN)))))) (eC (.int 1)))) (sSet 5 (eLc [12] (iR1 (eA gLen (aC (eV 5) (aN)))) (gN 12) (tsY) (e2 gIx (eV 5) (e2 gDiv (eV 12) (eC (.int 2)))))) (sN)) (sSq (sSet 6 (eCall 4 F__law_part (aC (eV 1) (aC (eC (.int 7)) (aC (eC (.int 1)) (aC (eC (.int 7)) (aN))))))) (sSq (sSet 7 (eCall 2 F__law_pool_k15 (aC (eCall 2 F__law_cell (aC (eV 0) (aC (eC (.int 2)) (aN)))) (aC (eC (.int 39)) (aN))))) (sSq (sIf (tV (e2 gEq (eCall 4 F__law_part (aC (eV 1) (aC (eC (.int 6)) (aC (eC (.int 14)) (aC (eC (.int 3)) (aN)))))) (eC (.int 2)))) (sSq (sSet 4 (eLc [12] (iR1 (eA gLen (aC (eV 4) (aN)))) (gN 12) (tsY) (eA gTup (aC (e2 gIx (e2 gIx (eV 4) (eV 12)) (eC (.int 0))) (aC (eCall 4 F__law_big (aC (eV 7) (aC (e2 gMul (eC (.int 3)) (eV 12)) (aC (eC (.int 0)) (aC (e2 gPow (eC (.int 10)) (eC (.int 9))) (aN)))))) (aN)))))) (sSet 6 (eCall 4 F__law_big (aC (eV 7) (aC (eC (.int 36)) (aC (eC (.int 0)) (aC (e2 gPow (eC (.int 10)) (eC (.int 9))) (aN)))))))) (sN)) (sSq (sIf (tV (e2 gEq (eCall 4 F__law_part (aC (eV 1) (aC (eC (.int 7)) (aC (eC (.int 7)) (aC (eC (.int 8)) (aN)))))) (eC (.int 3)))) (sSet 4 (e1 gRev (eCall 2 F__law_each_ballot (aC (eV 2) (aC (eCall 2 F__law_pool_k15 (aC (eCall 2 F__law_cell (aC (eV 0) (aC (eC (.int 3)) (aN)))) (aC (eC (.int 34)) (aN)))) (aN)))))) (sN)) (sSq (sTreeL 8 (osC (nL (lList (eV 2))) (osC (nL (lList (eV 4))) (osN)))) (sSq (sSet 9 (eBorL (eFrz (nMakeK 52 0 2 4 F_Roll___init__ (gDk [2, 3, 1] [.tp0, .int 1000000000]) (aN) (aC (e2 gIx (eV 8) (eC (.int 0))) (aC (e2 gIx (eV 8) (eC (.int 1))) (aN))))))) (sSq (sIf (tBor (tOr (tV (e2 gNe (e2 gIx (eV 8) (eC (.int 0))) (eV 2))) (tOr (tV (e2 gNe (e2 gIx (eV 8) (eC (.int 1))) (eV 4))) (tNot (tV (eCall 3 F__law_as_told (aC (eV 9) (aC (eV 2) (aC (eV 4) (aN)))))))))) (sRet (eC (.bl false))) (sN)) (sSq (sMutT 8 (eC (.int 0)) mClr aN) (sSq (sMutT 8 (eC (.int 1)) mClr aN) (sSq (sIf (tNot (tV (eCall 4 F__law_of_right (aC (eV 2) (aC (eV 5) (aC (eV 6) (aC (e2 gEq (eCall 4 F__law_part (aC (eV 1) (aC (eC (.int 6)) (aC (eC (.int 42)) (aC (eC (.int 2)) (aN)))))) (eC (.int 1))) (aN)))))))) (sRet (eC (.bl false))) (sN)) (sSq (sIf (tOr (tNot (tV (eCall 3 F__law_as_told (aC (eFrz (nMakeK 52 1 0 4 F_Roll___init__ (gDk [0, 1, 2] [.tp0, .int 1000000000]) (aC (eA gList (aC (eV 2) (aN))) (aN)) (aN))) (aC (eV 2) (aC (eA gLst (aN)) (aN))))))) (tNot (tV (eCall 3 F__law_as_told (aC (eV 9) (aC (eV 2) (aC (eV 4) (aN)))))))) (sRet (eC (.bl false))) (sN)) (sSq (sSet 10 (eFrz (nMakeK 52 2 0 4 F_Roll___init__ (gDk [0, 1, 3] [.tp0, .int 1000000000]) (aC (eA gTupZ (aC (eV 2) (aN))) (aC (eA gTuple (aC (e1 gRev (eV 4)) (aN))) (aN))) (aN)))) (sSq (sSet 11 (eFrz (nMakeK 52 2 0 4 F_Roll___init__ (gDk [0, 1, 3] [.tp0, .int 1000000000]) (aC (eA gList (aC (eV 2) (aN))) (aC (e2 gAdd (eV 4) (eA gLst (aC (eA gTup (aC (eA gTup (aN)) (aC (eC (.int 0)) (aN)))) (aN)))) (aN))) (aN)))) (sSq (sIf (tOr (tNot (tV (eCall 2 F__law_same (aC (e2 (gOwn 52 F_Roll___eq__) (eV 9) (eV 10)) (aC (eC (.bl true)) (aN)))))) (tNot (tV (eCall 2 F__law_same (aC (e2 (gOwn 52 F_Roll___eq__) (eV 11) (eV 9)) (aC (eC (.bl true)) (aN))))))) (sRet (eC (.bl false))) (sN)) (sRet (eAnd (eCall 3 F__law_as_told (aC (eV 10) (aC (eV 2) (aC (eV 4) (aN))))) (eCall 3 F__law_as_told (aC (eV 11) (aC (eV 2) (aC (eV 4) (aN)))))))))))))))))))))))))))
def F_law : List D → R D := runF 15 G_law
end
end Tk
namespace Tk
open PySem PySem.Spec L2 PyProof.Rows
section
variable {b : Ev → SO} {hs : List Hn} {ρ ρ' : Ev} {x : Ex} {c : Nat} {fs : List Nat} {fa : Ev → R (List D)} {cs : List Nat} {i f : Nat} {s : Sl} {fb : Ev → R D} {tab : List (Nat × List (Kd × Bool))}
end
end Tk
namespace Tk
open PySem PySem.Spec L2 PyProof.Rows
theorem loop_fndN {α : Type} {inj : α → D} {h : Tg} {body : Ev → SO} (I : Ev → Prop) (p : α → Bool) (g : α → D) : ∀ {l : List α} {ρ : Ev}, I ρ → (∀ a ∈ l, ∀ ρ, I ρ → ∃ ρ1, h (inj a) ρ = some ρ1 ∧ (p a = true → body ρ1 = .rt (g a)) ∧ (p a = false → ∃ ρ2, body ρ1 = .nx ρ2 ∧ I ρ2)) →
    (∃ a, l.find? p = some a ∧ loop h body (l.map inj) ρ = .rt (g a)) ∨ (l.find? p = none ∧ ∃ ρ', loop h body (l.map inj) ρ = .nx ρ' ∧ I ρ')
  | [], ρ, h0, _ => .inr ⟨rfl, ρ, rfl, h0⟩
  | a :: l, ρ, h0, hs => by
    obtain ⟨ρ1, e1, e2, e3⟩ := hs a List.mem_cons_self ρ h0
    rw [List.map_cons, loop_cons, e1, ofO_some]
    cases z : p a with
    | true =>
      left
      exact ⟨a, by rw [List.find?_cons, z], by rw [e2 z]; rfl⟩
    | false =>
      obtain ⟨ρ2, e4, h2⟩ := e3 z
      rw [List.find?_cons, z, e4]
      exact loop_fndN I p g h2 fun b m => hs b (List.mem_cons_of_mem _ m)
theorem strange_ok {ws : Bal} (hl : ws.length ≤ 25) : ∃ c, okName [c] ∧ [c] ∉ ws ∧ F__law_strange [.lst (ws.map nD)] = .ok (nD [c]) := by
  have sg : gIt (.str (S abc)) = .ok (abc.map fun c => nD [c]) := by
    show (if (S abc).length ≤ sizeLine then R.ok (signs (S abc)) else .bad) = _
    rw [if_pos (by rw [S_len, abc_len, sz24]; omega)]
    rfl
  rcases loop_fndN (inj := fun c => nD [c]) (h := gN 1) (body := B__law_strange_1) (l := abc) (ρ := [.v (.lst (ws.map nD)), .no]) (fun ρ => ∃ s1 : Sl, ρ = [.v (.lst (ws.map nD)), s1]) (fun c => !decide ([c] ∈ ws)) (fun c => nD [c]) ⟨.no, rfl⟩ (by
    rintro c mc ρ ⟨s1, rfl⟩
    refine ⟨[.v (.lst (ws.map nD)), .v (nD [c])], rfl, fun z => ?_, fun z => ⟨[.v (.lst (ws.map nD)), .v (nD [c])], ?_, _, rfl⟩⟩
    · unfold B__law_strange_1
      simp_arith [nin_lst, z]
    · unfold B__law_strange_1
      simp_arith [nin_lst, z]) with ⟨c, f, e⟩ | ⟨f, _⟩
  · have mc := List.mem_of_find?_eq_some f
    have nc := List.find?_some f
    have nc : [c] ∉ ws := by simpa using nc
    obtain ⟨i, hi, rfl⟩ := List.mem_map.mp mc
    have hi := List.mem_range.mp hi
    refine ⟨i + 97, ⟨by simp, by simp, low_one (by omega) (by omega)⟩, nc, ?_⟩
    unfold F__law_strange G__law_strange
    simp_arith [abc_eq, sg, e]
  · exfalso
    have all : ∀ c ∈ abc, [c] ∈ ws := fun c m => by
      have := List.find?_eq_none.mp f c m
      simpa using this
    have nd : (abc.map fun c => [c]).Nodup := by decide +kernel
    have := sub_len (b := abc.map fun c => [c]) (os := ws) nd fun w m => by
      obtain ⟨c, mc, rfl⟩ := List.mem_map.mp m
      exact all c mc
    rw [List.length_map, abc_len] at this
    omega
end Tk
namespace Tk
open PySem PySem.Spec L2 PyProof.Rows
def okW (w : List Nat) : Prop := PyData.strOk (S w) = true
theorem okW_of {w : List Nat} (h : okName w) : okW w := S_ok fun c m => by have := (h.2.2 c m).2; omega
theorem okW_nil : okW [] := S_ok fun c m => nomatch m
theorem clean_W {w : List Nat} (h : okW w) : cleanD 0 (nD w) = true := by simpa [cleanD] using (show PyData.strOk (S w) = true from h)
theorem eq_balsW {a b : Bal} (ha : ∀ w ∈ a, okW w) (hb : ∀ w ∈ b, okW w) : gEq (bD a) (bD b) = .ok (.bl (decide (a = b))) := by
  have c : ∀ {x : Bal}, (∀ w ∈ x, okW w) → cleanD 1 (bD x) = true := fun {x} h => by
    show cleanL 0 (x.map nD) = true
    rw [cleanL_all]
    intro d m
    obtain ⟨w, mw, rfl⟩ := List.mem_map.mp m
    exact clean_W (h w mw)
  obtain ⟨h1, h2⟩ := gEq_clean (n := 1) (m := 1) (by decide) (by decide) (c ha) (c hb)
  by_cases z : a = b
  · rw [h1 (by rw [z]), decide_eq_true z]
  · rw [h2 (fun e => z ?_), decide_eq_false z]
    have e2 : a.map nD = b.map nD := D.tup.inj e
    exact List.map_inj_right (fun _ _ => nD_inj) |>.mp e2
section
variable {os : Bal} {rs ns : List Row}
theorem loop_fndA {α : Type} {inj : α → D} {h : Tg} {body : Ev → SO} (I : Ev → Prop) (p : α → Bool) (g : α → D) : ∀ {l : List α} {ρ : Ev}, I ρ → (∀ a ∈ l, ∀ ρ, I ρ → ∃ ρ1, h (inj a) ρ = some ρ1 ∧ (p a = true → body ρ1 = .rt (g a)) ∧ (p a = false → ∃ ρ2, body ρ1 = .nx ρ2 ∧ I ρ2)) →
    (∃ a, l.find? p = some a ∧ loop h body (l.map inj) ρ = .rt (g a)) ∨ (l.find? p = none ∧ ∃ ρ', loop h body (l.map inj) ρ = .nx ρ' ∧ I ρ')
  | [], ρ, h0, _ => .inr ⟨rfl, ρ, rfl, h0⟩
  | a :: l, ρ, h0, hs => by
    obtain ⟨ρ1, e1, e2, e3⟩ := hs a List.mem_cons_self ρ h0
    rw [List.map_cons, loop_cons, e1, ofO_some]
    cases z : p a with
    | true => exact .inl ⟨a, by rw [List.find?_cons, z], by rw [e2 z]; rfl⟩
    | false =>
      obtain ⟨ρ2, e4, h2⟩ := e3 z
      rw [List.find?_cons, z, e4]
      exact loop_fndA I p g h2 fun b m => hs b (List.mem_cons_of_mem _ m)
theorem cnt_filter {b : Bal} : ∀ {rs : List Row}, ((rs.filter fun r => decide (r.1 = b)).map fun r => r.2).sum = cntB rs b
  | [] => rfl
  | r :: rs => by
    rw [cnt_cons]
    by_cases c : r.1 = b
    · rw [List.filter_cons_of_pos (by simpa using c), List.map_cons, List.sum_cons, cnt_filter, if_pos c]
    · rw [List.filter_cons_of_neg (by simpa using c), cnt_filter, if_neg c, Int.zero_add]
theorem names_bal (ho : okOpts os) {b : Bal} (h : okBal os b) : ∀ w ∈ b, okName w := fun w m => ho.each w (h.sub w m)
theorem times_ok (ho : okOpts os) (okr : okRows os rs) (hl : rs.length ≤ 1000) {b : Bal} (hb : ∀ w ∈ b, okW w) : F__law_times [.lst (rs.map rowD), bD b] = .ok (.int (cntB rs b)) := by
  have sz : (rs.map rowD).length ≤ sizeLine := by rw [List.length_map]; exact szle hl
  have lc : lcL (gT 2 (gsC (gN 2) (gsC (gN 3) (gsN)))) (tV (e2 gEq (eV 2) (eV 1))) (eV 3) [.v (.lst (rs.map rowD)), .v (bD b), .no, .no] (rs.map rowD) = .ok (((rs.filter fun r => decide (r.1 = b)).map fun r => r.2).map .int) := by
    rw [lc_map (inj := rowD) (fun r => decide (r.1 = b)) (fun r => D.int r.2) fun r m => ⟨[.v (.lst (rs.map rowD)), .v (bD b), .v (bD r.1), .v (.int r.2)], rfl, by
      have e := eq_balsW (fun w mw => okW_of (names_bal ho (okr.bal r m) w mw)) hb
      simp_arith [e], fun _ => rfl⟩, List.map_map]
    rfl
  unfold F__law_times G__law_times
  simp_arith [sz, lc, gSum_map, cnt_filter]
theorem getit_ok (ho : okOpts os) (hn : okNorm os ns) {b : Bal} (hb : ∀ w ∈ b, okW w) : F_Roll___getitem__ [rollD os ns, bD b] = .ok (.int (cntB ns b)) := by
  rcases loop_fndA (inj := rowD) (h := gT 2 (gsC (gN 2) (gsC (gN 3) (gsN)))) (body := B_Roll___getitem___1) (l := ns) (ρ := [.v (rollD os ns), .v (bD b), .no, .no]) (fun ρ => ∃ s t : Sl, ρ = [.v (rollD os ns), .v (bD b), s, t]) (fun r => decide (r.1 = b)) (fun r => .int r.2) ⟨_, _, rfl⟩ (by
    rintro r m ρ ⟨s, t, rfl⟩
    have e := eq_balsW (fun w mw => okW_of (names_bal ho (hn.bal r m) w mw)) hb
    refine ⟨[.v (rollD os ns), .v (bD b), .v (bD r.1), .v (.int r.2)], rfl, fun z => ?_, fun z => ⟨[.v (rollD os ns), .v (bD b), .v (bD r.1), .v (.int r.2)], ?_, _, _, rfl⟩⟩
    · unfold B_Roll___getitem___1
      simp_arith [e, z]
    · unfold B_Roll___getitem___1
      simp_arith [e, z]) with ⟨r, f, e⟩ | ⟨f, ρ', e, s, t, rfl⟩
  · have m := List.mem_of_find?_eq_some f
    have eb : r.1 = b := by simpa using List.find?_some f
    have c := cnt_in hn.nd m
    rw [eb] at c
    unfold F_Roll___getitem__ G_Roll___getitem__
    simp_arith [gF51, e, c]
  · have c : cntB ns b = 0 := cnt_zero fun q mq => by simpa using List.find?_eq_none.mp f q mq
    unfold F_Roll___getitem__ G_Roll___getitem__
    simp_arith [gF51, e, c]
theorem isIns_roll : isIns 52 (rollD os ns) = true := decide_eq_true (p := (52 : Nat) = 52) rfl
theorem getd_ok (ho : okOpts os) (hn : okNorm os ns) {b : Bal} (hb : ∀ w ∈ b, okW w) : gDun 52 F_Roll___getitem__ (rollD os ns) (bD b) = .ok (.int (cntB ns b)) := by
  show (if isIns 52 (rollD os ns) = true then F_Roll___getitem__ [rollD os ns, bD b] else .bad) = _
  rw [if_pos isIns_roll, getit_ok ho hn hb]
theorem has_ok (ho : okOpts os) (hn : okNorm os ns) {b : Bal} (hb : ∀ w ∈ b, okW w) : gDunIn 52 false F_Roll___contains__ (bD b) (rollD os ns) = .ok (.bl (decide (0 < cntB ns b))) := by
  have g := getd_ok ho hn hb
  have c : F_Roll___contains__ [rollD os ns, bD b] = .ok (.bl (decide (0 < cntB ns b))) := by
    unfold F_Roll___contains__ G_Roll___contains__
    simp_arith [g]
  show (if isIns 52 (rollD os ns) = true then R.b false (F_Roll___contains__ [rollD os ns, bD b]) else .bad) = _
  rw [if_pos isIns_roll, c]
  show R.ok (D.bl (xor false (decide (0 < cntB ns b)))) = _
  rw [Bool.false_xor]
theorem rlen0 : F_Roll___len__ [rollD os ns] = .ok (.int (ns.length : Int)) := by
  unfold F_Roll___len__ G_Roll___len__
  simp_arith [gF51, List.length_map]
theorem rlen_ok (hl : ns.length ≤ 1000) : gDunLen 52 F_Roll___len__ [rollD os ns] = .ok (.int (ns.length : Int)) := by
  show (if isIns 52 (rollD os ns) = true then R.len (F_Roll___len__ [rollD os ns]) else .bad) = _
  rw [rlen0, if_pos isIns_roll]
  unfold R.len
  simp only []
  rw [if_pos ⟨by omega, by omega⟩]
theorem rlist_ok (hl : ns.length ≤ 1000) : gListO 52 F_Roll___iter__ F_Roll___len__ [rollD os ns] = .ok (.lst (ns.map rowD)) := by
  have it := roll_it (os := os) (ns := ns)
  show (if isIns 52 (rollD os ns) = true then (match F_Roll___iter__ [rollD os ns], F_Roll___len__ [rollD os ns] with
    | .ok (.tup ys), .ok (.int n) => if ys.length ≤ sizeLine ∧ 0 ≤ n ∧ n ≤ (sizeLine : Int) then R.ok (D.lst ys) else .bad
    | _, _ => .bad) else .bad) = _
  rw [if_pos isIns_roll, it, rlen0]
  have sz : (ns.map rowD).length ≤ sizeLine := by rw [List.length_map]; exact szle hl
  have s2 := szle hl
  exact if_pos ⟨sz, by omega, by omega⟩
theorem same_rl (hl : ns.length ≤ 1000) (hb : ∀ r ∈ ns, r.1.length ≤ 1000) : F__law_same [.lst (ns.map rowD), .lst (ns.map rowD)] = .ok (.bl true) := same_ok (by
  show (decide ((ns.map rowD).length ≤ 1000000) && plainL 4 (ns.map rowD)) = true
  rw [List.length_map, decide_eq_true (by omega), Bool.true_and, plainL_all]
  rintro d m
  obtain ⟨r, mr, rfl⟩ := List.mem_map.mp m
  show (decide (2 ≤ 1000000) && ((decide ((r.1.map nD).length ≤ 1000000) && plainL 2 (r.1.map nD)) && (true && true))) = true
  have h := hb r mr
  rw [decide_eq_true (by omega), List.length_map, decide_eq_true (by omega), Bool.true_and, Bool.true_and, Bool.and_true, Bool.and_true, plainL_all]
  rintro d m
  obtain ⟨x, _, rfl⟩ := List.mem_map.mp m
  rfl)
end
section
variable {os : Bal} {rs qs : List Row}
def rlD (os : Bal) (rs : List Row) : D := rollD os (normR os rs)
theorem cnt_norm (h : okRows os rs) {b : Bal} : cntB (normR os rs) b = cntB rs b := by unfold cntB SS; exact (norm_ok h).2.2 _
theorem rl_same (ho : okOpts os) (hr : okRows os rs) (hq : okRows os qs) (h : ∀ b ∈ allB os, cntB rs b = cntB qs b) : rlD os rs = rlD os qs := by
  unfold rlD
  rw [norm_full ho hr, norm_full ho hq, full_same h]
theorem gF4' {ns : List Row} : gFld [52] 4 (rollD os ns) = .ok (.int (totR ns)) := by
  unfold rollD
  rw [gFld_ins, if_pos (by simp)]
  rfl
def atE (os : Bal) (roll : D) (rs ws : List Row) (s4 s5 : Sl) : Ev := [.v roll, .v (.lst (os.map nD)), .v (.lst (rs.map rowD)), .l (ws.map rowD), s4, s5, .no]
theorem same_int {i : Int} : F__law_same [.int i, .int i] = .ok (.bl true) := same_ok rfl
theorem same_b13 {i : Bool} : F__law_same [.bl i, .bl i] = .ok (.bl true) := same_ok rfl
theorem told_step (ho : okOpts os) (okr : okRows os rs) (hl : rs.length ≤ 1000) {ws : List Row} (wl : ws.length ≤ 900) {b : Bal} (hb : okBal os b) {s5 : Sl} :
    B__law_as_told_1 (atE os (rlD os rs) rs ws (.v (bD b)) s5) = .nx (atE os (rlD os rs) rs (ws ++ (if 0 < cntB rs b then [(b, cntB rs b)] else [])) (.v (bD b)) (.v (.int (cntB rs b)))) := by
  have nb : ∀ w ∈ b, okW w := fun w m => okW_of (names_bal ho hb w m)
  have t := times_ok ho okr hl nb
  have hn := (norm_ok okr).1
  have g := getd_ok ho hn nb
  have c := has_ok ho hn nb
  rw [cnt_norm okr] at g c
  have wz : ws.length < sizeLine := szlt (by omega)
  have gt : gTup [bD b, .int (cntB rs b)] = .ok (rowD (b, cntB rs b)) := if_pos (szle (by simp))
  unfold atE rlD B__law_as_told_1
  by_cases z : 0 < cntB rs b
  · rw [if_pos z]
    simp_arith [t, decide_eq_true z, gt, List.length_map, wz, g, c, same_int, same_b13, List.map_append]
  · rw [if_neg z, List.append_nil]
    simp_arith [t, decide_eq_false z, g, c, same_int, same_b13]
theorem clean_bal {n : Nat} {b : Bal} (h : ∀ w ∈ b, okName w) : cleanD (n + 1) (bD b) = true := by
  show cleanL n (b.map nD) = true
  rw [cleanL_all]
  intro d m
  obtain ⟨w, mw, rfl⟩ := List.mem_map.mp m
  exact clean_w (h w mw)
theorem eq_rowsT (ho : okOpts os) {os' : Bal} (ho' : okOpts os') {ns ms : List Row} (hn : ∀ r ∈ ns, okBal os r.1) (hm : ∀ r ∈ ms, okBal os' r.1) : gEq (.tup (ns.map rowD)) (.tup (ms.map rowD)) = .ok (.bl (decide (ns = ms))) := by
  have cl : ∀ {os : Bal} {ns : List Row}, okOpts os → (∀ r ∈ ns, okBal os r.1) → cleanD 3 (.tup (ns.map rowD)) = true := fun {os ns} ho hn => by
    show cleanL 2 (ns.map rowD) = true
    rw [cleanL_all]
    intro d m
    obtain ⟨r, mr, rfl⟩ := List.mem_map.mp m
    show cleanL 1 [bD r.1, .int r.2] = true
    rw [cleanL_all]
    intro d m
    rcases List.mem_cons.mp m with rfl | m
    · exact clean_bal (n := 0) (names_bal ho (hn r mr))
    · rw [List.mem_singleton.mp m]; rfl
  obtain ⟨h1, h2⟩ := gEq_clean (n := 3) (m := 3) (a := .tup (ns.map rowD)) (b := .tup (ms.map rowD)) (by decide) (by decide) (cl ho hn) (cl ho' hm)
  by_cases z : ns = ms
  · rw [h1 (by rw [z]), decide_eq_true z]
  · refine (h2 (fun e => z ?_)).trans (by rw [decide_eq_false z])
    have e := D.tup.inj e
    have inj : ∀ {x y : Row}, rowD x = rowD y → x = y := fun {x y} e => by
      obtain ⟨x1, x2⟩ := x
      obtain ⟨y1, y2⟩ := y
      have e := D.tup.inj e
      simp only [List.cons.injEq, D.int.injEq, and_true] at e
      have e1 := D.tup.inj e.1
      have : x1 = y1 := List.map_inj_right (fun a b h => S_inj (D.str.inj h)) |>.mp e1
      rw [this, e.2]
    exact List.map_inj_right (fun a b h => inj h) |>.mp e
theorem eq_os (ho : okOpts os) {os' : Bal} (ho' : okOpts os') : gEq (zD os) (zD os') = .ok (.bl (decide (os = os'))) := by
  unfold zD
  rw [gEq_tpz]
  exact eq_bals (a := os) (b := os') ho.each ho'.each
theorem isr_roll {ns : List Row} : isiTab isT_Roll (rollD os ns) = some true := rfl
theorem eq0 (ho : okOpts os) {os' : Bal} (ho' : okOpts os') (okr : okRows os rs) (okq : okRows os' qs) : F_Roll___eq__ [rlD os rs, rlD os' qs] = .ok (.bl (decide (os = os') && decide (normR os rs = normR os' qs))) := by
  have e1 := eq_os ho ho'
  have e2 := eq_rowsT ho ho' (norm_ok okr).1.bal (norm_ok okq).1.bal
  have i1 := isr_roll (os := os') (ns := normR os' qs)
  unfold rlD F_Roll___eq__ G_Roll___eq__
  by_cases z : os = os'
  · simp_arith [eIsi_ap, i1, optR_some, gF44, e1, decide_eq_true z, gF51, e2, Bool.true_and]
  · simp_arith [eIsi_ap, i1, optR_some, gF44, e1, decide_eq_false z, Bool.false_and]
theorem own_eq (ho : okOpts os) {os' : Bal} (ho' : okOpts os') (okr : okRows os rs) (okq : okRows os' qs) : gOwn 52 F_Roll___eq__ (rlD os rs) (rlD os' qs) = .ok (.bl (decide (os = os') && decide (normR os rs = normR os' qs))) := by
  unfold gOwn
  rw [eq0 ho ho' okr okq]
  exact if_pos (by rw [show isIns 52 (rlD os rs) = true from isIns_roll, show eqOk 52 (rlD os' qs) = true from isIns_roll (os := os') (ns := normR os' qs)]; rfl)
theorem norm_iff (ho : okOpts os) (okr : okRows os rs) (okq : okRows os qs) : normR os rs = normR os qs ↔ ∀ b ∈ allB os, cntB rs b = cntB qs b := by
  rw [norm_full ho okr, norm_full ho okq]
  exact full_iff okr.nn okq.nn
theorem cnt_perm {rs qs : List Row} (p : rs.Perm qs) {b : Bal} : cntB rs b = cntB qs b := by
  induction p with
  | nil => rfl
  | cons x _ ih => rw [cnt_cons, cnt_cons, ih]
  | swap x y l => rw [cnt_cons, cnt_cons, cnt_cons, cnt_cons]; omega
  | trans _ _ a b => exact a.trans b
theorem gAdd_rows (h : rs.length + qs.length ≤ 1000) : gAdd (.lst (rs.map rowD)) (.lst (qs.map rowD)) = .ok (.lst ((rs ++ qs).map rowD)) := by
  show (if (rs.map rowD).length + (qs.map rowD).length ≤ sizeLine then R.ok (D.lst (rs.map rowD ++ qs.map rowD)) else .bad) = _
  rw [if_pos (by rw [List.length_map, List.length_map]; exact szle h), List.map_append]
theorem eq_yes (ho : okOpts os) (okr : okRows os rs) (okq : okRows os qs) (h : ∀ b, cntB rs b = cntB qs b) : gOwn 52 F_Roll___eq__ (rlD os rs) (rlD os qs) = .ok (.bl true) := by
  rw [own_eq ho ho okr okq, decide_eq_true rfl, decide_eq_true ((norm_iff ho okr okq).mpr fun b _ => h b)]
  rfl
theorem nCmS_ap {c n nk np : Nat} {F : List D → R Sl} {gD : List D → List D → List D} {fa fk : Ev → R (List D)} {ρ : Ev} : nCmS c n nk np F gD fa fk ρ = (fa ρ).bind fun ds => (fk ρ).bind fun zs =>
  if n ≤ ds.length ∧ ds.length < 1000 ∧ zs.length = nk ∧ (gD (.cl c :: ds.take n) zs).length = np then F (gD (.cl c :: ds.take n) zs ++ [.tup (ds.drop n)]) else .bad := (rfl)
theorem nMakeVK_ap {c n m p : Nat} {F : Addr → List D → R (List (Nat × D))} {gD : List D → List D → List D} {ff : Ev → R D} {fa fk : Ev → R (List D)} {ρ : Ev} : nMakeVK c n m p F gD ff fa fk ρ = (ff ρ).bind fun d => if isCl c d = true then nMakeK c n m p F gD fa fk ρ else .bad := (rfl)
theorem isCl_52 : isCl 52 (.cl 52) = true := by decide
def tmR (m : Int) (b : Bal) : Row := (b, m)
theorem rollof_ok {m : Int} {bs : List Bal} (ho : okOpts os) (hb : ∀ b ∈ bs, okBal os b) (hl : bs.length ≤ 900) (m0 : 0 ≤ m) (m1 : m ≤ 1000000000) : F_Roll_of [.cl 52, .lst (os.map nD), .int m, .tup (bs.map bD)] = .ok (.o none 52 [(44, zD os), (51, .tup ((normR os (bs.map (tmR m))).map rowD)), (4, .int (totR (normR os (bs.map (tmR m)))))]) := by
  have okr : okRows os (bs.map (tmR m)) := ⟨fun r mr => by obtain ⟨b, mb, rfl⟩ := List.mem_map.mp mr; exact hb b mb, fun r mr => by obtain ⟨b, mb, rfl⟩ := List.mem_map.mp mr; exact m0⟩
  have r1 := unA_eq fun a => roll_ok (a := a) (z := false) (rv := .lst ((bs.map (tmR m)).map rowD)) (lg := some 1000000000) ho okr (fun l e r mr => by
    cases e
    obtain ⟨b, mb, rfl⟩ := List.mem_map.mp mr
    exact m1) (by rw [List.length_map]; omega) rfl
  have r1 : (unA fun a => F_Roll___init__ a [.lst (os.map nD), .lst ((bs.map (tmR m)).map rowD), .int 1000000000]) = _ := r1
  have lc : ∀ s4 : Sl, lcL (gN 4) tsY (eA gTup (aC (eV 4) (aC (eV 2) (aN)))) [.v (.cl 52), .v (.lst (os.map nD)), .v (.int m), .v (.tup (bs.map bD)), s4] (bs.map bD) = .ok ((bs.map (tmR m)).map rowD) := fun s4 => by
    rw [lc_all (inj := bD) (fun b => rowD (tmR m b)) fun b _ => ⟨[.v (.cl 52), .v (.lst (os.map nD)), .v (.int m), .v (.tup (bs.map bD)), .v (bD b)], rfl, rfl, by simp_arith [gTup2]; rfl⟩, List.map_map]
    rfl
  have bz : (bs.map bD).length ≤ sizeLine := by rw [List.length_map]; exact szle (by omega)
  have gk : ∀ a b : D, gDk [0, 1, 3] [.tp0, .int 1000000000] [a, b] [] = [a, b, .int 1000000000] := fun _ _ => rfl
  unfold F_Roll_of G_Roll_of
  simp_arith [nMakeVK_ap, isCl_52, nMakeK_ap, bz, lc, gk, r1]
  rfl
theorem mk_roll (ho : okOpts os) (okr : okRows os rs) (big : ∀ r ∈ rs, r.2 ≤ 1000000000) (hl : rs.length ≤ 1000) : (unA fun a => F_Roll___init__ a [.lst (os.map nD), .lst (rs.map rowD), .int 1000000000]) = .ok [(44, zD os), (51, .tup ((normR os rs).map rowD)), (4, .int (totR (normR os rs)))] :=
  unA_eq fun a => roll_ok (a := a) (z := false) (rv := .lst (rs.map rowD)) (lg := some 1000000000) ho okr (fun l e r m => by cases e; exact big r m) hl rfl
theorem rl_def : D.ins 52 [(44, zD os), (51, .tup ((normR os rs).map rowD)), (4, .int (totR (normR os rs)))] = rlD os rs := rfl
theorem each_len {ps : List Int} {os : Bal} (ho : okOpts os) (hp : ps.length = 34) : ∃ rs, okGiv os rs ∧ rs.length ≤ 65 ∧ F__law_each_ballot [.lst (os.map nD), .lst (ps.map .int)] = .ok (.lst (rs.map rowD)) := by
  obtain ⟨few, _⟩ := allB_few ho
  have p0 := part_ok (ps := ps) (spot := 33) (under := 1) (size := 3) (by decide) (by omega) (by decide) (by decide) (by decide)
  have a0 := part_lo (ps := ps) (spot := 33) (under := 1) (size := 3) (by decide)
  have b0 := part_hi (ps := ps) (spot := 33) (under := 1) (size := 3) (by decide)
  generalize part ps 33 1 3 = x at *
  have cr := c3_all x.toNat (by omega)
  have gx : gIx (.lst [.int 2, .int 4, .int 70]) (.int x) = .ok (.int (([2, 4, 70] : List Int).getD x.toNat 0)) := ix_lit (l := [2, 4, 70]) a0 (by show x < ((3 : Nat) : Int); omega)
  generalize ([2, 4, 70] : List Int).getD x.toNat 0 = cc at *
  have g3 : ∀ a b c : D, gLst [a, b, c] = .ok (.lst [a, b, c]) := fun _ _ _ => if_pos (szle (by simp))
  have g2 : ∀ a b : D, gLst [a, b] = .ok (.lst [a, b]) := fun _ _ => if_pos (szle (by simp))
  have sz : ((allB os).map bD).length ≤ sizeLine := by rw [List.length_map]; exact szle (by omega)
  have sm : small62 ((allB os).length : Int) := small_rg (by omega) (by omega)
  have rz : (rgD 0 (allB os).length).length ≤ sizeLine := by rw [rgD_len]; exact szle (by omega)
  let val : Nat → Int := fun k => part ps ((k : Int) / 2) (([1, 70] : List Int).getD (k % 2) 0) 70 % cc
  have lc : ∀ u2 u3 : Sl, u2 = .v (.int cc) → u3 = .v (.lst ((allB os).map bD)) → lcL (gN 4) tsY (eA gTup (aC (e2 gIx (eV 3) (eV 4)) (aC (e2 gMod (eCall 4 F__law_part (aC (eV 1) (aC (e2 gDiv (eV 4) (eC (.int 2))) (aC (e2 gIx (eA gLst (aC (eC (.int 1)) (aC (eC (.int 70)) (aN)))) (e2 gMod (eV 4) (eC (.int 2)))) (aC (eC (.int 70)) (aN)))))) (eV 2)) (aN)))) [.v (.lst (os.map nD)), .v (.lst (ps.map .int)), u2, u3, .no] (rgD 0 (allB os).length) = .ok (((List.range (allB os).length).filter fun _ => true).map fun k => rowD ((allB os).getD k [], val k)) := fun u2 u3 e2' e3' => by
    subst e2' e3'
    refine lc_rg (fun _ => true) (fun k => rowD ((allB os).getD k [], val k)) fun k hk => ⟨[.v (.lst (os.map nD)), .v (.lst (ps.map .int)), .v (.int cc), .v (.lst ((allB os).map bD)), .v (.int (k : Int))], rfl, rfl, fun _ => ?_⟩
    have gi : gIx (.lst ((allB os).map bD)) (.int (k : Int)) = .ok (bD ((allB os).getD k [])) := gIx_map (inj := bD) (by omega) (by rw [Int.toNat_natCast, List.getD_eq_getElem?_getD, List.getElem?_eq_getElem hk]; rfl)
    have d2 : gDiv (.int (k : Int)) (.int 2) = .ok (.int ((k : Int) / 2)) := gDiv_int (by decide) (by decide)
    have m2 : gMod (.int (k : Int)) (.int 2) = .ok (.int ((k : Int) % 2)) := gMod_int (by decide)
    have u := u2_all (k % 2) (by omega)
    have gu : gIx (.lst [.int 1, .int 70]) (.int ((k : Int) % 2)) = .ok (.int (([1, 70] : List Int).getD (k % 2) 0)) := by
      have e := ix_lit (l := [1, 70]) (x := (k : Int) % 2) (by omega) (by show (k : Int) % 2 < ((2 : Nat) : Int); omega)
      rw [show ((k : Int) % 2).toNat = k % 2 by omega] at e
      exact e
    have pt := part_ok (ps := ps) (spot := (k : Int) / 2) (under := ([1, 70] : List Int).getD (k % 2) 0) (size := 70) (by omega) (by omega) (by omega) (by omega) (by decide)
    have mc : ∀ z : Int, gMod (.int z) (.int cc) = .ok (.int (z % cc)) := fun z => gMod_int (by omega)
    simp_arith [gi, d2, m2, g2, gu, pt, mc, gTup2]
    rfl
  have lc := lc _ _ rfl rfl
  refine ⟨(List.range (allB os).length).map fun k => ((allB os).getD k [], val k), ⟨⟨fun r m => ?_, fun r m => ?_⟩, by rw [List.length_map, List.length_range]; omega, fun r m => ?_⟩, by rw [List.length_map, List.length_range]; omega, ?_⟩
  · obtain ⟨k, mk, rfl⟩ := List.mem_map.mp m
    have hk := List.mem_range.mp mk
    rw [List.getD_eq_getElem?_getD, List.getElem?_eq_getElem hk]
    exact allB_ok ho (List.getElem_mem hk)
  · obtain ⟨k, mk, rfl⟩ := List.mem_map.mp m
    exact Int.emod_nonneg _ (by omega)
  · obtain ⟨k, mk, rfl⟩ := List.mem_map.mp m
    have := Int.emod_lt_of_pos (part ps ((k : Int) / 2) (([1, 70] : List Int).getD (k % 2) 0) 70) (by omega : 0 < cc)
    show part ps ((k : Int) / 2) (([1, 70] : List Int).getD (k % 2) 0) 70 % cc ≤ 1000000000
    omega
  · rw [List.filter_eq_self.mpr fun _ _ => rfl] at lc
    have ab := all_ok ho
    unfold F__law_each_ballot G__law_each_ballot
    simp_arith [g3, p0, gx, ab, List.length_map, sm, Int.toNat_natCast, rz, lc]
    rw [List.map_map]
    rfl
theorem ix_row {gs : List Row} {k : Nat} (hk : k < gs.length) : gIx (.lst (gs.map rowD)) (.int (k : Int)) = .ok (rowD (gs.getD k ([], 0))) := gIx_map (inj := rowD) (by omega) (by rw [Int.toNat_natCast, List.getD_eq_getElem?_getD, List.getElem?_eq_getElem hk]; rfl)
theorem getD_mem {gs : List Row} {k : Nat} (hk : k < gs.length) : gs.getD k ([], 0) ∈ gs := by
  rw [List.getD_eq_getElem?_getD, List.getElem?_eq_getElem hk]
  exact List.getElem_mem hk
theorem row_0 {r : Row} : gIx (rowD r) (.int 0) = .ok (bD r.1) := rfl
theorem row_1 {r : Row} : gIx (rowD r) (.int 1) = .ok (.int r.2) := rfl
theorem okGiv_map {gs : List Row} {n : Nat} (g : Nat → Row) (hn : n ≤ 400) (h : ∀ k < n, okBal os (g k).1 ∧ 0 ≤ (g k).2 ∧ (g k).2 ≤ 1000000000) : okGiv os ((List.range n).map g) :=
  ⟨⟨fun r m => by obtain ⟨k, mk, rfl⟩ := List.mem_map.mp m; exact (h k (List.mem_range.mp mk)).1, fun r m => by obtain ⟨k, mk, rfl⟩ := List.mem_map.mp m; exact (h k (List.mem_range.mp mk)).2.1⟩, by rw [List.length_map, List.length_range]; exact hn, fun r m => by obtain ⟨k, mk, rfl⟩ := List.mem_map.mp m; exact (h k (List.mem_range.mp mk)).2.2⟩
theorem pw9 : gPow (.int 10) (.int 9) = .ok (.int 1000000000) := gPow_int (by decide) (by decide) (by decide) (by decide)
end
end Tk
namespace Tk
open PySem PySem.Spec L2 PyProof.Rows
variable {os : Bal} {rs ns : List Row}
theorem firstK {os : Bal} (h : 0 < os.length) : gIx (.lst (os.map nD)) (.int 0) = .ok (nD (os.getD 0 [])) := gIx_map (inj := nD) (by decide) (by show os[(0 : Int).toNat]? = _; rw [List.getD_eq_getElem?_getD, show (0 : Int).toNat = 0 from rfl, List.getElem?_eq_getElem h]; rfl)
theorem firstT {b : Bal} (h : 0 < b.length) : gIx (bD b) (.int 0) = .ok (nD (b.getD 0 [])) := gIx_mapT (inj := nD) (by decide) (by show b[(0 : Int).toNat]? = _; rw [List.getD_eq_getElem?_getD, show (0 : Int).toNat = 0 from rfl, List.getElem?_eq_getElem h]; rfl)
theorem first_mem {b : Bal} (h : 0 < b.length) : b.getD 0 [] ∈ b := by
  rw [List.getD_eq_getElem?_getD, List.getElem?_eq_getElem h]
  exact List.getElem_mem h
theorem lastK {os : Bal} (ne : os ≠ []) : ∃ w ∈ os, gIx (.lst (os.map nD)) (.int (-1)) = .ok (nD w) := by
  refine ⟨os.getLast ne, List.getLast_mem ne, ?_⟩
  have e : os.map nD = os.dropLast.map nD ++ [nD (os.getLast ne)] := by
    conv => lhs; rw [← List.dropLast_concat_getLast ne]
    rw [List.map_append]
    rfl
  rw [e]
  generalize os.dropLast.map nD = ys
  generalize nD (os.getLast ne) = d
  show optR (L2.atI (ys ++ [d]) (-1)) = _
  have e : L2.atI (ys ++ [d]) (-1) = some d := by
    unfold L2.atI L2.ixN
    rw [if_neg (by decide), if_pos (by rw [List.length_append]; simp; omega)]
    show (ys ++ [d])[((-1 : Int) + ((ys ++ [d]).length : Int)).toNat]? = some d
    rw [show ((-1 : Int) + ((ys ++ [d]).length : Int)).toNat = ys.length by rw [List.length_append]; simp; omega, List.getElem?_append_right (Nat.le_refl _), Nat.sub_self]
    rfl
  rw [e]
  rfl
theorem addT {a b : Bal} (h : a.length + b.length ≤ 1000) : gAdd (bD a) (bD b) = .ok (bD (a ++ b)) := by
  have e : (a.map nD).length + (b.map nD).length ≤ sizeLine := by rw [List.length_map, List.length_map]; exact szle h
  show (if _ then _ else _) = _
  rw [if_pos e, ← List.map_append]
  rfl
structure odd (os b : Bal) : Prop where
  w : ∀ x ∈ b, okW x
  no : ¬ okBal os b
  len : b.length ≤ 10
theorem odd.cnt {b : Bal} (h : odd os b) (okr : okRows os rs) : cntB rs b = 0 := cnt_zero fun q m e => h.no (e ▸ okr.bal q m)
theorem dup_no {b : Bal} {w : List Nat} (m : w ∈ b) : ¬ okBal os (b ++ [w]) := fun h => by
  have := (List.nodup_append.mp h.nd).2.2 w m w (List.mem_singleton.mpr rfl)
  exact this rfl
theorem str_no {b c : Bal} {w : List Nat} (hw : w ∉ os) : ¬ okBal os (b ++ w :: c) := fun h => hw (h.sub w (List.mem_append_right _ List.mem_cons_self))
theorem okW_app {a b : Bal} (h : ∀ x ∈ a, okW x) (g : ∀ x ∈ b, okW x) : ∀ x ∈ a ++ b, okW x := fun x m => (List.mem_append.mp m).elim (h x) (g x)
theorem okW_one {w : List Nat} (h : okW w) : ∀ x ∈ [w], okW x := fun x m => by rw [List.mem_singleton.mp m]; exact h
theorem nob_ok {w : List Nat} (ho : okOpts os) (okr : okRows os rs) (hl : rs.length ≤ 140) (hw : okName w) (hn : w ∉ os) :
    ∃ odds : List Bal, (∀ b ∈ odds, odd os b) ∧ odds.length ≤ 900 ∧ F__law_no_ballots [.lst (os.map nD), .lst (rs.map rowD), nD w] = .ok (.lst (odds.map bD)) := by
  have few := ho.few
  have p0 : 0 < os.length := ho.pos
  have ne : os ≠ [] := fun e => by rw [e] at p0; simp at p0
  obtain ⟨lw, lm, le⟩ := lastK ne
  have f0 := firstK p0
  have fm := first_mem p0
  generalize os.getD 0 [] = c0 at *
  have oW : ∀ x ∈ os, okW x := fun x m => okW_of (ho.each x m)
  have wW := okW_of hw
  have t1 : ∀ x : D, gTup [x] = .ok (.tup [x]) := fun x => if_pos (szle (by simp))
  have t2 : ∀ x y : D, gTup [x, y] = .ok (.tup [x, y]) := fun x y => if_pos (szle (by simp))
  have a1 : gAdd (.tup (os.map nD)) (.tup [nD lw]) = .ok (bD (os ++ [lw])) := addT (a := os) (b := [lw]) (by show os.length + 1 ≤ 1000; omega)
  have neg : gNeg (.int 1) = .ok (.int (-1)) := rfl
  have base : ∀ b ∈ [[w], [[]], [c0, c0], os ++ [lw], [w, c0]], odd os b := fun b m => by
    simp only [List.mem_cons, List.not_mem_nil, or_false] at m
    rcases m with rfl | rfl | rfl | rfl | rfl
    · exact ⟨okW_one wW, str_no (b := []) (c := []) hn, by simp⟩
    · exact ⟨okW_one okW_nil, fun h => by
        have := (ho.each [] (h.sub [] (List.mem_singleton.mpr rfl))).1
        simp at this, by simp⟩
    · exact ⟨okW_app (okW_one (oW c0 fm)) (okW_one (oW c0 fm)), dup_no (b := [c0]) (List.mem_singleton.mpr rfl), by simp⟩
    · exact ⟨okW_app oW (okW_one (oW lw lm)), dup_no lm, by rw [List.length_append]; show _ + 1 ≤ 10; omega⟩
    · exact ⟨okW_app (okW_one wW) (okW_one (oW c0 fm)), str_no (b := []) (c := [c0]) hn, by simp⟩
  obtain ⟨ρ', e, odds, s4, s5, hb, hlen, rfl⟩ := loop_map (inj := rowD) (h := gT 2 (gsC (gN 4) (gsC (gN 5) (gsN)))) (body := B__law_no_ballots_1) (l := rs) (ρ := [.v (.lst (os.map nD)), .v (.lst (rs.map rowD)), .v (nD w), .l ([[w], [[]], [c0, c0], os ++ [lw], [w, c0]].map bD), .no, .no])
    (fun k ρ => ∃ (odds : List Bal) (s4 s5 : Sl), (∀ b ∈ odds, odd os b) ∧ odds.length ≤ 5 + 3 * k ∧ ρ = [.v (.lst (os.map nD)), .v (.lst (rs.map rowD)), .v (nD w), .l (odds.map bD), s4, s5]) ⟨_, _, _, base, by simp, rfl⟩ (by
      rintro k r ρ q ⟨odds, s4, s5, hb, hlen, rfl⟩
      refine ⟨[.v (.lst (os.map nD)), .v (.lst (rs.map rowD)), .v (nD w), .l (odds.map bD), .v (bD r.1), .v (.int r.2)], rfl, ?_⟩
      have kl := (List.getElem?_eq_some_iff.mp q).1
      have ob := okr.bal r (List.mem_of_getElem? q)
      have rl := ob.len
      have rW : ∀ x ∈ r.1, okW x := fun x m => oW x (ob.sub x m)
      have b1 : gAdd (bD r.1) (.tup [nD w]) = .ok (bD (r.1 ++ [w])) := addT (a := r.1) (b := [w]) (by show r.1.length + 1 ≤ 1000; omega)
      have b2 : gAdd (.tup [nD w]) (bD r.1) = .ok (bD ([w] ++ r.1)) := addT (a := [w]) (b := r.1) (by show 1 + r.1.length ≤ 1000; omega)
      have g0 : gTup [] = .ok (bD []) := rfl
      have en : gEq (bD r.1) (bD []) = .ok (.bl (decide (r.1 = []))) := eq_balsW rW fun _ m => nomatch m
      have l1 : odds.length < sizeLine := szlt (by omega)
      have l2 : odds.length + 1 < sizeLine := szlt (by omega)
      have l3 : odds.length + 1 + 1 < sizeLine := szlt (by omega)
      have o1 : odd os (r.1 ++ [w]) := ⟨okW_app rW (okW_one wW), str_no (c := []) hn, by rw [List.length_append]; show _ + 1 ≤ 10; omega⟩
      have o2 : odd os ([w] ++ r.1) := ⟨okW_app (okW_one wW) rW, str_no (b := []) hn, by rw [List.length_append]; show 1 + _ ≤ 10; omega⟩
      by_cases z : r.1 = []
      · have st : B__law_no_ballots_1 [.v (.lst (os.map nD)), .v (.lst (rs.map rowD)), .v (nD w), .l (odds.map bD), .v (bD r.1), .v (.int r.2)] = .nx [.v (.lst (os.map nD)), .v (.lst (rs.map rowD)), .v (nD w), .l ((odds ++ [r.1 ++ [w], [w] ++ r.1]).map bD), .v (bD r.1), .v (.int r.2)] := by
          unfold B__law_no_ballots_1
          simp_arith [t1, b1, b2, g0, en, decide_eq_true z, List.length_map, List.length_append, l1, l2, List.map_append, List.append_assoc]
        rw [st]
        refine ⟨_, _, _, fun b m => ?_, ?_, rfl⟩
        · rcases List.mem_append.mp m with m | m
          · exact hb b m
          · simp only [List.mem_cons, List.not_mem_nil, or_false] at m
            rcases m with rfl | rfl
            · exact o1
            · exact o2
        · rw [List.length_append]; show _ + 2 ≤ _; omega
      · have rp : 0 < r.1.length := List.length_pos_iff.mpr z
        have ft := firstT rp
        have fmm := first_mem rp
        generalize r.1.getD 0 [] = x0 at *
        have b3 : gAdd (bD r.1) (.tup [nD x0]) = .ok (bD (r.1 ++ [x0])) := addT (a := r.1) (b := [x0]) (by show r.1.length + 1 ≤ 1000; omega)
        have o3 : odd os (r.1 ++ [x0]) := ⟨okW_app rW (okW_one (rW x0 fmm)), dup_no fmm, by rw [List.length_append]; show _ + 1 ≤ 10; omega⟩
        have st : B__law_no_ballots_1 [.v (.lst (os.map nD)), .v (.lst (rs.map rowD)), .v (nD w), .l (odds.map bD), .v (bD r.1), .v (.int r.2)] = .nx [.v (.lst (os.map nD)), .v (.lst (rs.map rowD)), .v (nD w), .l ((odds ++ [r.1 ++ [w], [w] ++ r.1, r.1 ++ [x0]]).map bD), .v (bD r.1), .v (.int r.2)] := by
          unfold B__law_no_ballots_1
          simp_arith [t1, b1, b2, g0, en, decide_eq_false z, ft, b3, List.length_map, List.length_append, l1, l2, l3, List.map_append, List.append_assoc]
        rw [st]
        refine ⟨_, _, _, fun b m => ?_, ?_, rfl⟩
        · rcases List.mem_append.mp m with m | m
          · exact hb b m
          · simp only [List.mem_cons, List.not_mem_nil, or_false] at m
            rcases m with rfl | rfl | rfl
            · exact o1
            · exact o2
            · exact o3
        · rw [List.length_append]; show _ + 3 ≤ _; omega)
  refine ⟨odds, hb, by omega, ?_⟩
  have e0 : [bD [w], bD [[]], bD [c0, c0], bD (os ++ [lw]), bD [w, c0]] = [D.tup [nD w], .tup [.str ""], .tup [nD c0, nD c0], bD (os ++ [lw]), .tup [nD w, nD c0]] := rfl
  simp only [List.map_cons, List.map_nil] at e
  rw [e0] at e
  unfold F__law_no_ballots G__law_no_ballots
  simp_arith [t1, t2, f0, neg, le, a1, szle (show 5 ≤ 1000 by decide), e]
theorem nest_ok (hl : ns.length ≤ 1000) : F__law_nested [rollD os ns] = .ok (.int ((ns.length : Int) * (ns.length : Int))) := by
  have it : iDun 52 F_Roll___iter__ (eV 0) = iDun 52 F_Roll___iter__ (eV 0) := rfl
  have ti : ∀ s1 s2 s3, iDun 52 F_Roll___iter__ (eV 0) [.v (rollD os ns), s1, s2, s3] = .ok (ns.map rowD) := fun s1 s2 s3 => by
    show (if isIns 52 (rollD os ns) = true then R.tup (F_Roll___iter__ [rollD os ns]) else .bad) = _
    rw [if_pos isIns_roll, roll_it]
    rfl
  have inner : ∀ (n : Int) (s2 s3 : Sl), ∃ t3, loop (gN 3) B__law_nested_1 (ns.map rowD) [.v (rollD os ns), .v (.int n), s2, s3] = .nx [.v (rollD os ns), .v (.int (n + (ns.length : Int))), s2, t3] := fun n s2 s3 => by
    obtain ⟨ρ', e, t3, rfl⟩ := loop_map (inj := rowD) (h := gN 3) (body := B__law_nested_1) (l := ns) (ρ := [.v (rollD os ns), .v (.int n), s2, s3])
      (fun k ρ => ∃ t3, ρ = [.v (rollD os ns), .v (.int (n + (k : Int))), s2, t3]) ⟨s3, by simp⟩ (by
        rintro k r ρ q ⟨t3, rfl⟩
        refine ⟨[.v (rollD os ns), .v (.int (n + (k : Int))), s2, .v (rowD r)], rfl, ?_⟩
        unfold B__law_nested_1
        simp_arith []
        refine ⟨.v (rowD r), ?_⟩
        rw [show n + (k : Int) + 1 = n + ((k + 1 : Nat) : Int) by omega])
    exact ⟨t3, e⟩
  obtain ⟨ρ', e, t2, t3, rfl⟩ := loop_map (inj := rowD) (h := gN 2) (body := B__law_nested_2) (l := ns) (ρ := [.v (rollD os ns), .v (.int 0), .no, .no])
    (fun k ρ => ∃ t2 t3, ρ = [.v (rollD os ns), .v (.int ((k : Int) * (ns.length : Int))), t2, t3]) ⟨.no, .no, by simp⟩ (by
      rintro k r ρ q ⟨t2, t3, rfl⟩
      refine ⟨[.v (rollD os ns), .v (.int ((k : Int) * (ns.length : Int))), .v (rowD r), t3], rfl, ?_⟩
      obtain ⟨u3, ei⟩ := inner ((k : Int) * (ns.length : Int)) (.v (rowD r)) t3
      unfold B__law_nested_2
      simp_arith [ti, ei]
      refine ⟨.v (rowD r), u3, ?_⟩
      rw [show (k : Int) * (ns.length : Int) + (ns.length : Int) = ((k + 1 : Nat) : Int) * (ns.length : Int) by
        rw [Int.natCast_add, Int.add_mul]; simp])
  unfold F__law_nested G__law_nested
  simp_arith [ti, e]
end Tk
namespace Tk
open PySem PySem.Spec L2 PyProof.Rows
variable {os : Bal} {rs qs : List Row}
theorem odd_step (ho : okOpts os) (okr : okRows os rs) {b : Bal} (hb : odd os b) {s1 s2 s3 s5 s6 : Sl} : B__law_as_told_2 [.v (rlD os rs), s1, s2, s3, .v (bD b), s5, s6] = .nx [.v (rlD os rs), s1, s2, s3, .v (bD b), s5, s6] := by
  have hn := (norm_ok okr).1
  have g := getd_ok ho hn hb.w
  have c := has_ok ho hn hb.w
  rw [cnt_norm okr, hb.cnt okr] at g c
  have c0 : decide ((0 : Int) < 0) = false := rfl
  rw [c0] at c
  unfold rlD B__law_as_told_2
  simp_arith [g, c, same_int, same_b13]
theorem told_ok (ho : okOpts os) (okr : okRows os rs) (hl : rs.length ≤ 140) : F__law_as_told [rlD os rs, .lst (os.map nD), .lst (rs.map rowD)] = .ok (.bl true) := by
  have al := all_ok ho
  obtain ⟨ab1, ab2⟩ := allB_few ho
  obtain ⟨ρ', e, s4, s5, rfl⟩ := loop_map (inj := bD) (h := gN 4) (body := B__law_as_told_1) (l := allB os) (ρ := atE os (rlD os rs) rs [] .no .no)
    (fun i ρ => ∃ s4 s5 : Sl, ρ = atE os (rlD os rs) rs (((allB os).take i).flatMap fun b => if 0 < cntB rs b then [(b, cntB rs b)] else []) s4 s5) ⟨_, _, rfl⟩ (by
      rintro i b ρ q ⟨s4, s5, rfl⟩
      have ob := allB_ok ho (List.mem_of_getElem? q)
      refine ⟨atE os (rlD os rs) rs (((allB os).take i).flatMap fun b => if 0 < cntB rs b then [(b, cntB rs b)] else []) (.v (bD b)) s5, rfl, ?_⟩
      have lw : (((allB os).take i).flatMap fun b => if 0 < cntB rs b then [(b, cntB rs b)] else []).length ≤ 900 := by
        have go : ∀ l : List Bal, (l.flatMap fun b => if 0 < cntB rs b then [(b, cntB rs b)] else []).length ≤ l.length := fun l => by
          induction l with
          | nil => simp
          | cons b l ih =>
            rw [List.flatMap_cons, List.length_append, List.length_cons]
            split
            · rw [List.length_singleton]; omega
            · rw [List.length_nil]; omega
        have := go ((allB os).take i)
        rw [List.length_take] at this
        omega
      have st := told_step ho okr (by omega) lw ob (s5 := s5)
      have tk : ((allB os).take (i + 1)).flatMap (fun b => if 0 < cntB rs b then [(b, cntB rs b)] else []) = (((allB os).take i).flatMap fun b => if 0 < cntB rs b then [(b, cntB rs b)] else []) ++ (if 0 < cntB rs b then [(b, cntB rs b)] else []) := by
        rw [List.take_succ, q, List.flatMap_append]
        simp
      rw [tk, st]
      exact ⟨_, _, rfl⟩)
  rw [List.take_length] at e
  have fe : ((allB os).flatMap fun b => if 0 < cntB rs b then [(b, cntB rs b)] else []) = normR os rs := by
    rw [norm_full ho okr]
    unfold fullR
    clear e
    induction allB os with
    | nil => rfl
    | cons b l ih =>
      rw [List.flatMap_cons, List.map_cons, ih]
      by_cases z : 0 < cntB rs b
      · rw [if_pos z, List.filter_cons_of_pos (by simpa using z)]; rfl
      · rw [if_neg z, List.filter_cons_of_neg (by simpa using z)]; rfl
  rw [fe] at e
  obtain ⟨hn, nl, _⟩ := norm_ok okr
  have few := ho.few
  obtain ⟨c, hc, hcn, st⟩ := strange_ok (ws := os) (by omega)
  obtain ⟨odds, hodd, ol, oe⟩ := nob_ok ho okr hl hc hcn
  have e2 : ∀ (s1 s2 s3 s5 s6 s4 : Sl), ∃ t4, loop (gN 4) B__law_as_told_2 (odds.map bD) [.v (rlD os rs), s1, s2, s3, s4, s5, s6] = .nx [.v (rlD os rs), s1, s2, s3, t4, s5, s6] := fun s1 s2 s3 s5 s6 s4 => by
    obtain ⟨ρ', e, t4, rfl⟩ := loop_map (inj := bD) (h := gN 4) (body := B__law_as_told_2) (l := odds) (ρ := [.v (rlD os rs), s1, s2, s3, s4, s5, s6])
      (fun k ρ => ∃ t4, ρ = [.v (rlD os rs), s1, s2, s3, t4, s5, s6]) ⟨_, rfl⟩ (by
        rintro k b ρ q ⟨t4, rfl⟩
        refine ⟨[.v (rlD os rs), s1, s2, s3, .v (bD b), s5, s6], rfl, ?_⟩
        rw [odd_step ho okr (hodd b (List.mem_of_getElem? q))]
        exact ⟨_, rfl⟩)
    exact ⟨t4, e⟩
  obtain ⟨t4, e2⟩ := e2 (.v (.lst (os.map nD))) (.v (.lst (rs.map rowD))) (.l ((normR os rs).map rowD)) s5 .no s4
  have sm2 : F__law_same [zD os, .tup (os.map nD)] = .ok (.bl true) := samez_ok (.inr ⟨os.map nD, os.map nD, .inr ⟨.inr rfl, .inl rfl⟩, rfl, by rw [List.length_map]; omega, samz_map (by omega) fun w _ => samz_scal rfl⟩)
  have rl := rlist_ok (os := os) (ns := normR os rs) (by omega)
  have sr := same_rl (ns := normR os rs) (by omega) fun r m => by have := (hn.bal r m).len; omega
  have ln := rlen_ok (os := os) (ns := normR os rs) (by omega)
  have nt := nest_ok (os := os) (ns := normR os rs) (by omega)
  have sz : rs.length ≤ sizeLine := szle (by omega)
  have lc : ∀ s0 s1 s3 s5 : Sl, lcL (gT 2 (gsC (gN 4) (gsC (gN 6) (gsN)))) tsY (eV 6) [s0, s1, .v (.lst (rs.map rowD)), s3, .no, s5, .no] (rs.map rowD) = .ok ((rs.map fun r => r.2).map .int) := fun s0 s1 s3 s5 => by
    rw [lc_all (inj := rowD) (fun r => D.int r.2) fun r m => ⟨[s0, s1, .v (.lst (rs.map rowD)), s3, .v (bD r.1), s5, .v (.int r.2)], rfl, rfl, rfl⟩, List.map_map]
    rfl
  have tt : totR (normR os rs) = (rs.map fun r => r.2).sum := tot_norm okr
  have gm : gMul (.int ((normR os rs).length : Int)) (.int ((normR os rs).length : Int)) = .ok (.int (((normR os rs).length : Int) * ((normR os rs).length : Int))) := gMul_l (by omega) (by omega)
  have ii : decide ((((normR os rs).length : Int) * ((normR os rs).length : Int)) = (((normR os rs).length : Int) * ((normR os rs).length : Int))) = true := decide_eq_true rfl
  unfold atE rlD at e
  unfold rlD at e2
  simp only [List.map_nil] at e
  unfold rlD F__law_as_told G__law_as_told
  simp_arith [sz0, al, e, st, oe, e2, gF44, sm2, rl, sr, ln, List.length_map, same_int, gF4', sz, lc, gSum_map, tt, nt, gm, ii]
end Tk
namespace Tk
open PySem PySem.Spec L2 PyProof.Rows
variable {os : Bal}
theorem gd_cm1 : ∀ a b c : D, gDk [0, 1, 2] [] [a, b] [c] = [a, b, c] := fun _ _ _ => rfl
theorem gd_cm0 : ∀ a b : D, gDk [0, 1, 2] [.int 1] [a, b] [] = [a, b, .int 1] := fun _ _ => rfl
theorem ofm0 {m : Int} (m0 : 0 ≤ m) (m1 : m ≤ 1000000000) (ho : okOpts os) (hb : ∀ b ∈ ([] : List Bal), okBal os b) : F__law_of [.lst (os.map nD), .lst (([] : List Bal).map bD), .int m] = .ok (rlD os (([] : List Bal).map (tmR m))) := by
  have e := rollof_ok (m := m) (bs := []) ho hb (by simp) m0 m1
  simp only [List.map_cons, List.map_nil] at e
  have c0 : decide (((0 : Nat) : Int) = 0) = true := rfl
  have c1 : decide (((0 : Nat) : Int) = 1) = false := rfl
  have c2 : decide (((0 : Nat) : Int) = 2) = false := rfl
  have c3 : decide (((0 : Nat) : Int) = 3) = false := rfl
  have c4 : decide (((0 : Nat) : Int) = 4) = false := rfl
  have c5 : decide (((0 : Nat) : Int) = 5) = false := rfl
  have c6 : decide (((0 : Nat) : Int) = 6) = false := rfl
  unfold F__law_of G__law_of
  simp_arith [List.map_cons, List.map_nil, c0, c1, c2, c3, c4, c5, c6, eFrz_ap, nCmS_ap, List.take_succ_cons, List.take_zero, List.drop_succ_cons, List.drop_zero, gd_cm1, Nat.reduceLT, Nat.reduceLeDiff, Nat.lt_irrefl, Nat.le_refl, Nat.zero_lt_succ, e]
  rfl
theorem ofm1 {b0 : Bal} {m : Int} (m0 : 0 ≤ m) (m1 : m ≤ 1000000000) (ho : okOpts os) (hb : ∀ b ∈ ([b0] : List Bal), okBal os b) : F__law_of [.lst (os.map nD), .lst (([b0] : List Bal).map bD), .int m] = .ok (rlD os (([b0] : List Bal).map (tmR m))) := by
  have e := rollof_ok (m := m) (bs := [b0]) ho hb (by simp) m0 m1
  simp only [List.map_cons, List.map_nil] at e
  have g0 : gIx (.lst [bD b0]) (.int 0) = .ok (bD b0) := rfl
  have c0 : decide (((1 : Nat) : Int) = 0) = false := rfl
  have c1 : decide (((1 : Nat) : Int) = 1) = true := rfl
  have c2 : decide (((1 : Nat) : Int) = 2) = false := rfl
  have c3 : decide (((1 : Nat) : Int) = 3) = false := rfl
  have c4 : decide (((1 : Nat) : Int) = 4) = false := rfl
  have c5 : decide (((1 : Nat) : Int) = 5) = false := rfl
  have c6 : decide (((1 : Nat) : Int) = 6) = false := rfl
  unfold F__law_of G__law_of
  simp_arith [List.map_cons, List.map_nil, c0, c1, c2, c3, c4, c5, c6, g0, eFrz_ap, nCmS_ap, List.take_succ_cons, List.take_zero, List.drop_succ_cons, List.drop_zero, gd_cm1, Nat.reduceLT, Nat.reduceLeDiff, Nat.lt_irrefl, Nat.le_refl, Nat.zero_lt_succ, e]
  rfl
theorem ofm2 {b0 b1 : Bal} {m : Int} (m0 : 0 ≤ m) (m1 : m ≤ 1000000000) (ho : okOpts os) (hb : ∀ b ∈ ([b0, b1] : List Bal), okBal os b) : F__law_of [.lst (os.map nD), .lst (([b0, b1] : List Bal).map bD), .int m] = .ok (rlD os (([b0, b1] : List Bal).map (tmR m))) := by
  have e := rollof_ok (m := m) (bs := [b0, b1]) ho hb (by simp) m0 m1
  simp only [List.map_cons, List.map_nil] at e
  have g0 : gIx (.lst [bD b0, bD b1]) (.int 0) = .ok (bD b0) := rfl
  have g1 : gIx (.lst [bD b0, bD b1]) (.int 1) = .ok (bD b1) := rfl
  have c0 : decide (((2 : Nat) : Int) = 0) = false := rfl
  have c1 : decide (((2 : Nat) : Int) = 1) = false := rfl
  have c2 : decide (((2 : Nat) : Int) = 2) = true := rfl
  have c3 : decide (((2 : Nat) : Int) = 3) = false := rfl
  have c4 : decide (((2 : Nat) : Int) = 4) = false := rfl
  have c5 : decide (((2 : Nat) : Int) = 5) = false := rfl
  have c6 : decide (((2 : Nat) : Int) = 6) = false := rfl
  unfold F__law_of G__law_of
  simp_arith [List.map_cons, List.map_nil, c0, c1, c2, c3, c4, c5, c6, g0, g1, eFrz_ap, nCmS_ap, List.take_succ_cons, List.take_zero, List.drop_succ_cons, List.drop_zero, gd_cm1, Nat.reduceLT, Nat.reduceLeDiff, Nat.lt_irrefl, Nat.le_refl, Nat.zero_lt_succ, e]
  rfl
theorem ofm3 {b0 b1 b2 : Bal} {m : Int} (m0 : 0 ≤ m) (m1 : m ≤ 1000000000) (ho : okOpts os) (hb : ∀ b ∈ ([b0, b1, b2] : List Bal), okBal os b) : F__law_of [.lst (os.map nD), .lst (([b0, b1, b2] : List Bal).map bD), .int m] = .ok (rlD os (([b0, b1, b2] : List Bal).map (tmR m))) := by
  have e := rollof_ok (m := m) (bs := [b0, b1, b2]) ho hb (by simp) m0 m1
  simp only [List.map_cons, List.map_nil] at e
  have g0 : gIx (.lst [bD b0, bD b1, bD b2]) (.int 0) = .ok (bD b0) := rfl
  have g1 : gIx (.lst [bD b0, bD b1, bD b2]) (.int 1) = .ok (bD b1) := rfl
  have g2 : gIx (.lst [bD b0, bD b1, bD b2]) (.int 2) = .ok (bD b2) := rfl
  have c0 : decide (((3 : Nat) : Int) = 0) = false := rfl
  have c1 : decide (((3 : Nat) : Int) = 1) = false := rfl
  have c2 : decide (((3 : Nat) : Int) = 2) = false := rfl
  have c3 : decide (((3 : Nat) : Int) = 3) = true := rfl
  have c4 : decide (((3 : Nat) : Int) = 4) = false := rfl
  have c5 : decide (((3 : Nat) : Int) = 5) = false := rfl
  have c6 : decide (((3 : Nat) : Int) = 6) = false := rfl
  unfold F__law_of G__law_of
  simp_arith [List.map_cons, List.map_nil, c0, c1, c2, c3, c4, c5, c6, g0, g1, g2, eFrz_ap, nCmS_ap, List.take_succ_cons, List.take_zero, List.drop_succ_cons, List.drop_zero, gd_cm1, Nat.reduceLT, Nat.reduceLeDiff, Nat.lt_irrefl, Nat.le_refl, Nat.zero_lt_succ, e]
  rfl
theorem ofm4 {b0 b1 b2 b3 : Bal} {m : Int} (m0 : 0 ≤ m) (m1 : m ≤ 1000000000) (ho : okOpts os) (hb : ∀ b ∈ ([b0, b1, b2, b3] : List Bal), okBal os b) : F__law_of [.lst (os.map nD), .lst (([b0, b1, b2, b3] : List Bal).map bD), .int m] = .ok (rlD os (([b0, b1, b2, b3] : List Bal).map (tmR m))) := by
  have e := rollof_ok (m := m) (bs := [b0, b1, b2, b3]) ho hb (by simp) m0 m1
  simp only [List.map_cons, List.map_nil] at e
  have g0 : gIx (.lst [bD b0, bD b1, bD b2, bD b3]) (.int 0) = .ok (bD b0) := rfl
  have g1 : gIx (.lst [bD b0, bD b1, bD b2, bD b3]) (.int 1) = .ok (bD b1) := rfl
  have g2 : gIx (.lst [bD b0, bD b1, bD b2, bD b3]) (.int 2) = .ok (bD b2) := rfl
  have g3 : gIx (.lst [bD b0, bD b1, bD b2, bD b3]) (.int 3) = .ok (bD b3) := rfl
  have c0 : decide (((4 : Nat) : Int) = 0) = false := rfl
  have c1 : decide (((4 : Nat) : Int) = 1) = false := rfl
  have c2 : decide (((4 : Nat) : Int) = 2) = false := rfl
  have c3 : decide (((4 : Nat) : Int) = 3) = false := rfl
  have c4 : decide (((4 : Nat) : Int) = 4) = true := rfl
  have c5 : decide (((4 : Nat) : Int) = 5) = false := rfl
  have c6 : decide (((4 : Nat) : Int) = 6) = false := rfl
  unfold F__law_of G__law_of
  simp_arith [List.map_cons, List.map_nil, c0, c1, c2, c3, c4, c5, c6, g0, g1, g2, g3, eFrz_ap, nCmS_ap, List.take_succ_cons, List.take_zero, List.drop_succ_cons, List.drop_zero, gd_cm1, Nat.reduceLT, Nat.reduceLeDiff, Nat.lt_irrefl, Nat.le_refl, Nat.zero_lt_succ, e]
  rfl
theorem ofm5 {b0 b1 b2 b3 b4 : Bal} {m : Int} (m0 : 0 ≤ m) (m1 : m ≤ 1000000000) (ho : okOpts os) (hb : ∀ b ∈ ([b0, b1, b2, b3, b4] : List Bal), okBal os b) : F__law_of [.lst (os.map nD), .lst (([b0, b1, b2, b3, b4] : List Bal).map bD), .int m] = .ok (rlD os (([b0, b1, b2, b3, b4] : List Bal).map (tmR m))) := by
  have e := rollof_ok (m := m) (bs := [b0, b1, b2, b3, b4]) ho hb (by simp) m0 m1
  simp only [List.map_cons, List.map_nil] at e
  have g0 : gIx (.lst [bD b0, bD b1, bD b2, bD b3, bD b4]) (.int 0) = .ok (bD b0) := rfl
  have g1 : gIx (.lst [bD b0, bD b1, bD b2, bD b3, bD b4]) (.int 1) = .ok (bD b1) := rfl
  have g2 : gIx (.lst [bD b0, bD b1, bD b2, bD b3, bD b4]) (.int 2) = .ok (bD b2) := rfl
  have g3 : gIx (.lst [bD b0, bD b1, bD b2, bD b3, bD b4]) (.int 3) = .ok (bD b3) := rfl
  have g4 : gIx (.lst [bD b0, bD b1, bD b2, bD b3, bD b4]) (.int 4) = .ok (bD b4) := rfl
  have c0 : decide (((5 : Nat) : Int) = 0) = false := rfl
  have c1 : decide (((5 : Nat) : Int) = 1) = false := rfl
  have c2 : decide (((5 : Nat) : Int) = 2) = false := rfl
  have c3 : decide (((5 : Nat) : Int) = 3) = false := rfl
  have c4 : decide (((5 : Nat) : Int) = 4) = false := rfl
  have c5 : decide (((5 : Nat) : Int) = 5) = true := rfl
  have c6 : decide (((5 : Nat) : Int) = 6) = false := rfl
  unfold F__law_of G__law_of
  simp_arith [List.map_cons, List.map_nil, c0, c1, c2, c3, c4, c5, c6, g0, g1, g2, g3, g4, eFrz_ap, nCmS_ap, List.take_succ_cons, List.take_zero, List.drop_succ_cons, List.drop_zero, gd_cm1, Nat.reduceLT, Nat.reduceLeDiff, Nat.lt_irrefl, Nat.le_refl, Nat.zero_lt_succ, e]
  rfl
theorem ofm6 {b0 b1 b2 b3 b4 b5 : Bal} {m : Int} (m0 : 0 ≤ m) (m1 : m ≤ 1000000000) (ho : okOpts os) (hb : ∀ b ∈ ([b0, b1, b2, b3, b4, b5] : List Bal), okBal os b) : F__law_of [.lst (os.map nD), .lst (([b0, b1, b2, b3, b4, b5] : List Bal).map bD), .int m] = .ok (rlD os (([b0, b1, b2, b3, b4, b5] : List Bal).map (tmR m))) := by
  have e := rollof_ok (m := m) (bs := [b0, b1, b2, b3, b4, b5]) ho hb (by simp) m0 m1
  simp only [List.map_cons, List.map_nil] at e
  have g0 : gIx (.lst [bD b0, bD b1, bD b2, bD b3, bD b4, bD b5]) (.int 0) = .ok (bD b0) := rfl
  have g1 : gIx (.lst [bD b0, bD b1, bD b2, bD b3, bD b4, bD b5]) (.int 1) = .ok (bD b1) := rfl
  have g2 : gIx (.lst [bD b0, bD b1, bD b2, bD b3, bD b4, bD b5]) (.int 2) = .ok (bD b2) := rfl
  have g3 : gIx (.lst [bD b0, bD b1, bD b2, bD b3, bD b4, bD b5]) (.int 3) = .ok (bD b3) := rfl
  have g4 : gIx (.lst [bD b0, bD b1, bD b2, bD b3, bD b4, bD b5]) (.int 4) = .ok (bD b4) := rfl
  have g5 : gIx (.lst [bD b0, bD b1, bD b2, bD b3, bD b4, bD b5]) (.int 5) = .ok (bD b5) := rfl
  have c0 : decide (((6 : Nat) : Int) = 0) = false := rfl
  have c1 : decide (((6 : Nat) : Int) = 1) = false := rfl
  have c2 : decide (((6 : Nat) : Int) = 2) = false := rfl
  have c3 : decide (((6 : Nat) : Int) = 3) = false := rfl
  have c4 : decide (((6 : Nat) : Int) = 4) = false := rfl
  have c5 : decide (((6 : Nat) : Int) = 5) = false := rfl
  have c6 : decide (((6 : Nat) : Int) = 6) = true := rfl
  unfold F__law_of G__law_of
  simp_arith [List.map_cons, List.map_nil, c0, c1, c2, c3, c4, c5, c6, g0, g1, g2, g3, g4, g5, eFrz_ap, nCmS_ap, List.take_succ_cons, List.take_zero, List.drop_succ_cons, List.drop_zero, gd_cm1, Nat.reduceLT, Nat.reduceLeDiff, Nat.lt_irrefl, Nat.le_refl, Nat.zero_lt_succ, e]
  rfl
theorem of10 (ho : okOpts os) (hb : ∀ b ∈ ([] : List Bal), okBal os b) : F__law_of_once [.lst (os.map nD), .lst (([] : List Bal).map bD)] = .ok (rlD os (([] : List Bal).map (tmR 1))) := by
  have e := rollof_ok (m := 1) (bs := []) ho hb (by simp) (by decide) (by decide)
  simp only [List.map_cons, List.map_nil] at e
  have c0 : decide (((0 : Nat) : Int) = 0) = true := rfl
  have c1 : decide (((0 : Nat) : Int) = 1) = false := rfl
  have c2 : decide (((0 : Nat) : Int) = 2) = false := rfl
  have c3 : decide (((0 : Nat) : Int) = 3) = false := rfl
  have c4 : decide (((0 : Nat) : Int) = 4) = false := rfl
  have c5 : decide (((0 : Nat) : Int) = 5) = false := rfl
  have c6 : decide (((0 : Nat) : Int) = 6) = false := rfl
  unfold F__law_of_once G__law_of_once
  simp_arith [List.map_cons, List.map_nil, c0, c1, c2, c3, c4, c5, c6, eFrz_ap, nCmS_ap, List.take_succ_cons, List.take_zero, List.drop_succ_cons, List.drop_zero, gd_cm0, Nat.reduceLT, Nat.reduceLeDiff, Nat.lt_irrefl, Nat.le_refl, Nat.zero_lt_succ, e]
  rfl
theorem of11 {b0 : Bal} (ho : okOpts os) (hb : ∀ b ∈ ([b0] : List Bal), okBal os b) : F__law_of_once [.lst (os.map nD), .lst (([b0] : List Bal).map bD)] = .ok (rlD os (([b0] : List Bal).map (tmR 1))) := by
  have e := rollof_ok (m := 1) (bs := [b0]) ho hb (by simp) (by decide) (by decide)
  simp only [List.map_cons, List.map_nil] at e
  have g0 : gIx (.lst [bD b0]) (.int 0) = .ok (bD b0) := rfl
  have c0 : decide (((1 : Nat) : Int) = 0) = false := rfl
  have c1 : decide (((1 : Nat) : Int) = 1) = true := rfl
  have c2 : decide (((1 : Nat) : Int) = 2) = false := rfl
  have c3 : decide (((1 : Nat) : Int) = 3) = false := rfl
  have c4 : decide (((1 : Nat) : Int) = 4) = false := rfl
  have c5 : decide (((1 : Nat) : Int) = 5) = false := rfl
  have c6 : decide (((1 : Nat) : Int) = 6) = false := rfl
  unfold F__law_of_once G__law_of_once
  simp_arith [List.map_cons, List.map_nil, c0, c1, c2, c3, c4, c5, c6, g0, eFrz_ap, nCmS_ap, List.take_succ_cons, List.take_zero, List.drop_succ_cons, List.drop_zero, gd_cm0, Nat.reduceLT, Nat.reduceLeDiff, Nat.lt_irrefl, Nat.le_refl, Nat.zero_lt_succ, e]
  rfl
theorem of12 {b0 b1 : Bal} (ho : okOpts os) (hb : ∀ b ∈ ([b0, b1] : List Bal), okBal os b) : F__law_of_once [.lst (os.map nD), .lst (([b0, b1] : List Bal).map bD)] = .ok (rlD os (([b0, b1] : List Bal).map (tmR 1))) := by
  have e := rollof_ok (m := 1) (bs := [b0, b1]) ho hb (by simp) (by decide) (by decide)
  simp only [List.map_cons, List.map_nil] at e
  have g0 : gIx (.lst [bD b0, bD b1]) (.int 0) = .ok (bD b0) := rfl
  have g1 : gIx (.lst [bD b0, bD b1]) (.int 1) = .ok (bD b1) := rfl
  have c0 : decide (((2 : Nat) : Int) = 0) = false := rfl
  have c1 : decide (((2 : Nat) : Int) = 1) = false := rfl
  have c2 : decide (((2 : Nat) : Int) = 2) = true := rfl
  have c3 : decide (((2 : Nat) : Int) = 3) = false := rfl
  have c4 : decide (((2 : Nat) : Int) = 4) = false := rfl
  have c5 : decide (((2 : Nat) : Int) = 5) = false := rfl
  have c6 : decide (((2 : Nat) : Int) = 6) = false := rfl
  unfold F__law_of_once G__law_of_once
  simp_arith [List.map_cons, List.map_nil, c0, c1, c2, c3, c4, c5, c6, g0, g1, eFrz_ap, nCmS_ap, List.take_succ_cons, List.take_zero, List.drop_succ_cons, List.drop_zero, gd_cm0, Nat.reduceLT, Nat.reduceLeDiff, Nat.lt_irrefl, Nat.le_refl, Nat.zero_lt_succ, e]
  rfl
theorem of13 {b0 b1 b2 : Bal} (ho : okOpts os) (hb : ∀ b ∈ ([b0, b1, b2] : List Bal), okBal os b) : F__law_of_once [.lst (os.map nD), .lst (([b0, b1, b2] : List Bal).map bD)] = .ok (rlD os (([b0, b1, b2] : List Bal).map (tmR 1))) := by
  have e := rollof_ok (m := 1) (bs := [b0, b1, b2]) ho hb (by simp) (by decide) (by decide)
  simp only [List.map_cons, List.map_nil] at e
  have g0 : gIx (.lst [bD b0, bD b1, bD b2]) (.int 0) = .ok (bD b0) := rfl
  have g1 : gIx (.lst [bD b0, bD b1, bD b2]) (.int 1) = .ok (bD b1) := rfl
  have g2 : gIx (.lst [bD b0, bD b1, bD b2]) (.int 2) = .ok (bD b2) := rfl
  have c0 : decide (((3 : Nat) : Int) = 0) = false := rfl
  have c1 : decide (((3 : Nat) : Int) = 1) = false := rfl
  have c2 : decide (((3 : Nat) : Int) = 2) = false := rfl
  have c3 : decide (((3 : Nat) : Int) = 3) = true := rfl
  have c4 : decide (((3 : Nat) : Int) = 4) = false := rfl
  have c5 : decide (((3 : Nat) : Int) = 5) = false := rfl
  have c6 : decide (((3 : Nat) : Int) = 6) = false := rfl
  unfold F__law_of_once G__law_of_once
  simp_arith [List.map_cons, List.map_nil, c0, c1, c2, c3, c4, c5, c6, g0, g1, g2, eFrz_ap, nCmS_ap, List.take_succ_cons, List.take_zero, List.drop_succ_cons, List.drop_zero, gd_cm0, Nat.reduceLT, Nat.reduceLeDiff, Nat.lt_irrefl, Nat.le_refl, Nat.zero_lt_succ, e]
  rfl
theorem of_ok {m : Int} (m0 : 0 ≤ m) (m1 : m ≤ 1000000000) (ho : okOpts os) : ∀ {bs : List Bal}, (∀ b ∈ bs, okBal os b) → bs.length ≤ 6 → F__law_of [.lst (os.map nD), .lst (bs.map bD), .int m] = .ok (rlD os (bs.map (tmR m)))
  | [], hb, _ => ofm0 m0 m1 ho hb
  | [_], hb, _ => ofm1 m0 m1 ho hb
  | [_, _], hb, _ => ofm2 m0 m1 ho hb
  | [_, _, _], hb, _ => ofm3 m0 m1 ho hb
  | [_, _, _, _], hb, _ => ofm4 m0 m1 ho hb
  | [_, _, _, _, _], hb, _ => ofm5 m0 m1 ho hb
  | [_, _, _, _, _, _], hb, _ => ofm6 m0 m1 ho hb
  | _ :: _ :: _ :: _ :: _ :: _ :: _ :: _, _, h => absurd h (by simp)
theorem once_ok (ho : okOpts os) : ∀ {bs : List Bal}, (∀ b ∈ bs, okBal os b) → bs.length ≤ 3 → F__law_of_once [.lst (os.map nD), .lst (bs.map bD)] = .ok (rlD os (bs.map (tmR 1)))
  | [], hb, _ => of10 ho hb
  | [_], hb, _ => of11 ho hb
  | [_, _], hb, _ => of12 ho hb
  | [_, _, _], hb, _ => of13 ho hb
  | _ :: _ :: _ :: _ :: _, _, h => absurd h (by simp)
end Tk
namespace Tk
open PySem PySem.Spec L2 PyProof.Rows
variable {os : Bal} {rs : List Row}
theorem eBorL_ap {f : Ev → R D} {ρ : Ev} : eBorL f ρ = (f (frzA ρ)).quiet.bind fun d => if (noLD d && onlyL ρ) = true then .ok d else .bad := (rfl)
theorem noL_nms : ∀ {l : Bal}, noLL (l.map nD) = true
  | [] => rfl
  | w :: l => by
    show (noLD (nD w) && noLL (l.map nD)) = true
    rw [noL_nms (l := l)]
    rfl
theorem noL_rows : ∀ {ns : List Row}, noLL (ns.map rowD) = true
  | [] => rfl
  | r :: ns => by
    show ((noLL (r.1.map nD) && true) && noLL (ns.map rowD)) = true
    rw [noL_nms, noL_rows (ns := ns)]
    rfl
theorem noL_roll {ns : List Row} : noLD (rollD os ns) = true := by
  show (noLL (os.map nD) && (noLL (ns.map rowD) && (true && true))) = true
  rw [noL_nms, noL_rows]
  rfl
theorem eq_osL (ho : okOpts os) : gEq (.lst (os.map nD)) (.lst (os.map nD)) = .ok (.bl true) := by
  have c : cleanD 1 (.lst (os.map nD)) = true := by
    show cleanL 0 (os.map nD) = true
    rw [cleanL_all]
    intro d m
    obtain ⟨w, mw, rfl⟩ := List.mem_map.mp m
    exact clean_w (ho.each w mw)
  exact (gEq_clean (n := 1) (m := 1) (by decide) (by decide) c c).1 rfl
theorem eq_rowsL (ho : okOpts os) (okr : okRows os rs) : gEq (.lst (rs.map rowD)) (.lst (rs.map rowD)) = .ok (.bl true) := by
  have c : cleanD 3 (.lst (rs.map rowD)) = true := by
    show cleanL 2 (rs.map rowD) = true
    rw [cleanL_all]
    intro d m
    obtain ⟨r, mr, rfl⟩ := List.mem_map.mp m
    show cleanL 1 [bD r.1, .int r.2] = true
    rw [cleanL_all]
    intro d m
    rcases List.mem_cons.mp m with rfl | m
    · exact clean_bal (n := 0) (names_bal ho (okr.bal r mr))
    · rw [List.mem_singleton.mp m]; rfl
  exact (gEq_clean (n := 3) (m := 3) (by decide) (by decide) c c).1 rfl
theorem rev_rows : gRev (.lst (rs.map rowD)) = .ok (.lst (rs.reverse.map rowD)) := by
  rw [gRev_lst, List.map_reverse]
theorem okRows.rev {rs : List Row} (h : okRows os rs) : okRows os rs.reverse := ⟨fun r m => h.bal r (List.mem_reverse.mp m), fun r m => h.nn r (List.mem_reverse.mp m)⟩
theorem right_ok {bs : List Bal} {m : Int} {o : Bool} (ho : okOpts os) (hb : ∀ b ∈ bs, okBal os b) (hl : bs.length ≤ 6) (m0 : 0 ≤ m) (m1 : m ≤ 1000000000) :
    F__law_of_right [.lst (os.map nD), .lst (bs.map bD), .int m, .bl o] = .ok (.bl true) := by
  have zb : bs.length ≤ sizeLine := szle (by omega)
  have t2 : ∀ x y : D, gTup [x, y] = .ok (.tup [x, y]) := fun x y => if_pos (szle (by simp))
  have lcm : ∀ s0 s3 s4 s5 s6 s7 : Sl, lcL (gN 8) tsY (eA gTup (aC (eV 8) (aC (eV 2) (aN)))) [s0, .v (.lst (bs.map bD)), .v (.int m), s3, s4, s5, s6, s7, .no] (bs.map bD) = .ok ((bs.map (tmR m)).map rowD) := fun s0 s3 s4 s5 s6 s7 => by
    rw [List.map_map]
    exact lc_all (inj := bD) (h := gN 8) (t := tsY) (fe := eA gTup (aC (eV 8) (aC (eV 2) (aN)))) (ρ := [s0, .v (.lst (bs.map bD)), .v (.int m), s3, s4, s5, s6, s7, .no]) (rowD ∘ tmR m) (l := bs) fun b mb => ⟨[s0, .v (.lst (bs.map bD)), .v (.int m), s3, s4, s5, s6, s7, .v (bD b)], rfl, rfl, by
      simp_arith [t2]
      rfl⟩
  have lc1 : ∀ s0 s3 s4 s5 s6 s7 : Sl, lcL (gN 8) tsY (eA gTup (aC (eV 8) (aC (eC (.int 1)) (aN)))) [s0, .v (.lst (bs.map bD)), .v (.int m), s3, s4, s5, s6, s7, .no] (bs.map bD) = .ok ((bs.map (tmR 1)).map rowD) := fun s0 s3 s4 s5 s6 s7 => by
    rw [List.map_map]
    exact lc_all (inj := bD) (h := gN 8) (t := tsY) (fe := eA gTup (aC (eV 8) (aC (eC (.int 1)) (aN)))) (ρ := [s0, .v (.lst (bs.map bD)), .v (.int m), s3, s4, s5, s6, s7, .no]) (rowD ∘ tmR 1) (l := bs) fun b mb => ⟨[s0, .v (.lst (bs.map bD)), .v (.int m), s3, s4, s5, s6, s7, .v (bD b)], rfl, rfl, by
      simp_arith [t2]
      rfl⟩
  have eo := eq_osL ho
  have tail : ∀ k : Int, 0 ≤ k → k ≤ 1000000000 → F__law_as_told [rlD os (bs.map (tmR k)), .lst (os.map nD), .lst ((bs.map (tmR k)).map rowD)] = .ok (.bl true) ∧ gRev (.lst ((bs.map (tmR k)).map rowD)) = .ok (.lst ((bs.map (tmR k)).reverse.map rowD)) ∧
      (unA fun a => F_Roll___init__ a [.lst (os.map nD), .lst ((bs.map (tmR k)).reverse.map rowD), .int 1000000000]) = .ok [(44, zD os), (51, .tup ((normR os (bs.map (tmR k)).reverse).map rowD)), (4, .int (totR (normR os (bs.map (tmR k)).reverse)))] ∧
      gOwn 52 F_Roll___eq__ (rlD os (bs.map (tmR k))) (rlD os (bs.map (tmR k)).reverse) = .ok (.bl true) := fun k k0 k1 => by
    have okr : okRows os (bs.map (tmR k)) := ⟨fun r mr => by obtain ⟨b, mb, rfl⟩ := List.mem_map.mp mr; exact hb b mb, fun r mr => by obtain ⟨b, mb, rfl⟩ := List.mem_map.mp mr; exact k0⟩
    have len : (bs.map (tmR k)).length ≤ 6 := by rw [List.length_map]; exact hl
    exact ⟨told_ok ho okr (by omega), rev_rows, mk_roll ho okr.rev (fun r mr => by obtain ⟨b, mb, rfl⟩ := List.mem_map.mp (List.mem_reverse.mp mr); exact k1) (by rw [List.length_reverse]; omega), eq_yes ho okr okr.rev fun b => cnt_perm (List.reverse_perm _).symm⟩
  have gd : ∀ a b : D, gDk [0, 1, 3] [.tp0, .int 1000000000] [a, b] [] = [a, b, .int 1000000000] := fun _ _ => rfl
  have b1 : ∀ s0 s1 s2 s3 s4 : D, onlyL [.v s0, .v s1, .v s2, .v s3, .v s4, .l (os.map nD), .no, .no, .no] = true := fun _ _ _ _ _ => rfl
  have nl : ∀ k, noLD (rlD os (bs.map (tmR k))) = true := fun k => noL_roll
  have mc : mClr (os.map nD) [] = some [] := rfl
  by_cases c : o = true ∧ bs.length < 4
  · obtain ⟨rfl, c2⟩ := c
    obtain ⟨e1, e2, e3, e4⟩ := tail 1 (by decide) (by decide)
    have oe := once_ok ho hb (by omega)
    have d : decide (((bs.length : Nat) : Int) < 4) = true := decide_eq_true (by omega)
    unfold F__law_of_right G__law_of_right
    simp_arith [zb, lcm, lc1, List.length_map, d, eBorL_ap, oe, nl, b1, Bool.and_self, eo, e1, mc, gd, e2, nMakeK_ap, eFrz_ap, e3, frzR_o, rl_def, e4, same_b13]
  · obtain ⟨e1, e2, e3, e4⟩ := tail m m0 m1
    have oe := of_ok m0 m1 ho hb hl
    cases o with
    | true =>
      have d : decide (((bs.length : Nat) : Int) < 4) = false := decide_eq_false (by
        intro h
        exact c ⟨rfl, by omega⟩)
      unfold F__law_of_right G__law_of_right
      simp_arith [zb, lcm, List.length_map, d, eBorL_ap, oe, nl, b1, Bool.and_self, eo, e1, mc, gd, e2, nMakeK_ap, eFrz_ap, e3, frzR_o, rl_def, e4, same_b13]
    | false =>
      unfold F__law_of_right G__law_of_right
      simp_arith [zb, lcm, List.length_map, eBorL_ap, oe, nl, b1, Bool.and_self, eo, e1, mc, gd, e2, nMakeK_ap, eFrz_ap, e3, frzR_o, rl_def, e4, same_b13]
end Tk
namespace Tk
open PySem PySem.Spec L2 PyProof.Rows
noncomputable def st_pair : Ev → SO := sIf (tV (e2 gEq (eCall 4 F__law_part (aC (eV 1) (aC (eC (.int 5)) (aC (eC (.int 52)) (aC (eC (.int 3)) (aN)))))) (eC (.int 1)))) (sSet 4 (eLc [12] (iR1 (eA gLen (aC (eV 4) (aN)))) (gN 12) (tsY) (eA gTup (aC (e2 gIx (e2 gIx (eV 4) (e2 gMod (eV 12) (eC (.int 3)))) (eC (.int 0))) (aC (e2 gIx (e2 gIx (eV 4) (eV 12)) (eC (.int 1))) (aN)))))) (sN)
noncomputable def st_twin : Ev → SO := sIf (tV (e2 gEq (eCall 4 F__law_part (aC (eV 1) (aC (eC (.int 6)) (aC (eC (.int 7)) (aC (eC (.int 2)) (aN)))))) (eC (.int 1)))) (sSet 5 (eLc [12] (iR1 (eA gLen (aC (eV 5) (aN)))) (gN 12) (tsY) (e2 gIx (eV 5) (e2 gDiv (eV 12) (eC (.int 2)))))) (sN)
noncomputable def st_bigK : Ev → SO := sIf (tV (e2 gEq (eCall 4 F__law_part (aC (eV 1) (aC (eC (.int 6)) (aC (eC (.int 14)) (aC (eC (.int 3)) (aN)))))) (eC (.int 2)))) (sSq (sSet 4 (eLc [12] (iR1 (eA gLen (aC (eV 4) (aN)))) (gN 12) (tsY) (eA gTup (aC (e2 gIx (e2 gIx (eV 4) (eV 12)) (eC (.int 0))) (aC (eCall 4 F__law_big (aC (eV 7) (aC (e2 gMul (eC (.int 3)) (eV 12)) (aC (eC (.int 0)) (aC (e2 gPow (eC (.int 10)) (eC (.int 9))) (aN)))))) (aN)))))) (sSet 6 (eCall 4 F__law_big (aC (eV 7) (aC (eC (.int 36)) (aC (eC (.int 0)) (aC (e2 gPow (eC (.int 10)) (eC (.int 9))) (aN)))))))) (sN)
noncomputable def st_eachK : Ev → SO := sIf (tV (e2 gEq (eCall 4 F__law_part (aC (eV 1) (aC (eC (.int 7)) (aC (eC (.int 7)) (aC (eC (.int 8)) (aN)))))) (eC (.int 3)))) (sSet 4 (e1 gRev (eCall 2 F__law_each_ballot (aC (eV 2) (aC (eCall 2 F__law_pool_k15 (aC (eCall 2 F__law_cell (aC (eV 0) (aC (eC (.int 3)) (aN)))) (aC (eC (.int 34)) (aN)))) (aN)))))) (sN)
noncomputable def tlK : Ev → SO := sSq (sTreeL 8 (osC (nL (lList (eV 2))) (osC (nL (lList (eV 4))) (osN)))) (sSq (sSet 9 (eBorL (eFrz (nMakeK 52 0 2 4 F_Roll___init__ (gDk [2, 3, 1] [.tp0, .int 1000000000]) (aN) (aC (e2 gIx (eV 8) (eC (.int 0))) (aC (e2 gIx (eV 8) (eC (.int 1))) (aN))))))) (sSq (sIf (tBor (tOr (tV (e2 gNe (e2 gIx (eV 8) (eC (.int 0))) (eV 2))) (tOr (tV (e2 gNe (e2 gIx (eV 8) (eC (.int 1))) (eV 4))) (tNot (tV (eCall 3 F__law_as_told (aC (eV 9) (aC (eV 2) (aC (eV 4) (aN)))))))))) (sRet (eC (.bl false))) (sN)) (sSq (sMutT 8 (eC (.int 0)) mClr aN) (sSq (sMutT 8 (eC (.int 1)) mClr aN) (sSq (sIf (tNot (tV (eCall 4 F__law_of_right (aC (eV 2) (aC (eV 5) (aC (eV 6) (aC (e2 gEq (eCall 4 F__law_part (aC (eV 1) (aC (eC (.int 6)) (aC (eC (.int 42)) (aC (eC (.int 2)) (aN)))))) (eC (.int 1))) (aN)))))))) (sRet (eC (.bl false))) (sN)) (sSq (sIf (tOr (tNot (tV (eCall 3 F__law_as_told (aC (eFrz (nMakeK 52 1 0 4 F_Roll___init__ (gDk [0, 1, 2] [.tp0, .int 1000000000]) (aC (eA gList (aC (eV 2) (aN))) (aN)) (aN))) (aC (eV 2) (aC (eA gLst (aN)) (aN))))))) (tNot (tV (eCall 3 F__law_as_told (aC (eV 9) (aC (eV 2) (aC (eV 4) (aN)))))))) (sRet (eC (.bl false))) (sN)) (sSq (sSet 10 (eFrz (nMakeK 52 2 0 4 F_Roll___init__ (gDk [0, 1, 3] [.tp0, .int 1000000000]) (aC (eA gTupZ (aC (eV 2) (aN))) (aC (eA gTuple (aC (e1 gRev (eV 4)) (aN))) (aN))) (aN)))) (sSq (sSet 11 (eFrz (nMakeK 52 2 0 4 F_Roll___init__ (gDk [0, 1, 3] [.tp0, .int 1000000000]) (aC (eA gList (aC (eV 2) (aN))) (aC (e2 gAdd (eV 4) (eA gLst (aC (eA gTup (aC (eA gTup (aN)) (aC (eC (.int 0)) (aN)))) (aN)))) (aN))) (aN)))) (sSq (sIf (tOr (tNot (tV (eCall 2 F__law_same (aC (e2 (gOwn 52 F_Roll___eq__) (eV 9) (eV 10)) (aC (eC (.bl true)) (aN)))))) (tNot (tV (eCall 2 F__law_same (aC (e2 (gOwn 52 F_Roll___eq__) (eV 11) (eV 9)) (aC (eC (.bl true)) (aN))))))) (sRet (eC (.bl false))) (sN)) (sRet (eAnd (eCall 3 F__law_as_told (aC (eV 10) (aC (eV 2) (aC (eV 4) (aN))))) (eCall 3 F__law_as_told (aC (eV 11) (aC (eV 2) (aC (eV 4) (aN))))))))))))))))
theorem G_split : G_law = sSq (sSet 1 (eCall 2 F__law_pool_k15 (aC (eCall 2 F__law_cell (aC (eV 0) (aC (eC (.int 0)) (aN)))) (aC (eC (.int 8)) (aN))))) (sSq (sSet 2 (eCall 3 F__law_names (aC (eV 1) (aC (eC (.int 0)) (aC (e2 gAdd (eC (.int 1)) (eCall 4 F__law_part (aC (eV 1) (aC (eC (.int 5)) (aC (eC (.int 1)) (aC (eC (.int 4)) (aN))))))) (aN)))))) (sSq (sSet 3 (eCall 2 F__law_pool_k15 (aC (eCall 2 F__law_cell (aC (eV 0) (aC (eC (.int 1)) (aN)))) (aC (eC (.int 36)) (aN))))) (sSq (sSet 4 (eCall 4 F__law_ballots (aC (eV 3) (aC (eC (.int 0)) (aC (eV 2) (aC (eCall 4 F__law_part (aC (eV 1) (aC (eC (.int 5)) (aC (eC (.int 4)) (aC (eC (.int 13)) (aN)))))) (aN))))))) (sSq (st_pair) (sSq (sSet 5 (eLc [13, 14] (iSq (eCall 4 F__law_ballots (aC (eV 3) (aC (eC (.int 24)) (aC (eV 2) (aC (eCall 4 F__law_part (aC (eV 1) (aC (eC (.int 6)) (aC (eC (.int 1)) (aC (eC (.int 7)) (aN)))))) (aN))))))) (gT 2 (gsC (gN 13) (gsC (gN 14) (gsN)))) (tsY) (eV 13))) (sSq (st_twin) (sSq (sSet 6 (eCall 4 F__law_part (aC (eV 1) (aC (eC (.int 7)) (aC (eC (.int 1)) (aC (eC (.int 7)) (aN))))))) (sSq (sSet 7 (eCall 2 F__law_pool_k15 (aC (eCall 2 F__law_cell (aC (eV 0) (aC (eC (.int 2)) (aN)))) (aC (eC (.int 39)) (aN))))) (sSq (st_bigK) (sSq (st_eachK) (tlK))))))))))) := rfl
variable {os : Bal} {ns hs ps : List Int} {f : List Row} {bs : List Bal}
def E12 (ns hs ps : List Int) (os : Bal) (f : List Row) (s5 s6 s7 : Sl) : Ev := [.v (.scr ns), .v (.lst (hs.map .int)), .v (.lst (os.map nD)), .v (.lst (ps.map .int)), .v (.lst (f.map rowD)), s5, s6, s7, .no, .no, .no, .no, .no, .no, .no]
theorem pair_st (hh : hs.length = 8) (okf : okGiv os f) (fl : f.length ≤ 12) {s5 s6 s7 : Sl} : ∃ f' : List Row, okGiv os f' ∧ f'.length ≤ 12 ∧ st_pair (E12 ns hs ps os f s5 s6 s7) = .nx (E12 ns hs ps os f' s5 s6 s7) := by
  have p := part_ok (ps := hs) (spot := 5) (under := 52) (size := 3) (by decide) (by omega) (by decide) (by decide) (by decide)
  generalize part hs 5 52 3 = x at *
  by_cases c : x = 1
  · have lc : lcL (gN 12) (tsY) (eA gTup (aC (e2 gIx (e2 gIx (eV 4) (e2 gMod (eV 12) (eC (.int 3)))) (eC (.int 0))) (aC (e2 gIx (e2 gIx (eV 4) (eV 12)) (eC (.int 1))) (aN)))) (E12 ns hs ps os f s5 s6 s7) (rgD 0 f.length) = .ok (((List.range f.length).map fun k => ((f.getD (k % 3) ([], 0)).1, (f.getD k ([], 0)).2)).map rowD) := by
      rw [lc_rg (fun _ => true) (fun k => rowD ((f.getD (k % 3) ([], 0)).1, (f.getD k ([], 0)).2)) fun k hk => ⟨[.v (.scr ns), .v (.lst (hs.map .int)), .v (.lst (os.map nD)), .v (.lst (ps.map .int)), .v (.lst (f.map rowD)), s5, s6, s7, .no, .no, .no, .no, .v (.int (k : Int)), .no, .no], rfl, rfl, fun _ => by
        have gi := ix_row hk
        have gm := ix_row (gs := f) (k := k % 3) (by omega)
        have md : gMod (.int (k : Int)) (.int 3) = .ok (.int ((k % 3 : Nat) : Int)) := by rw [gMod_int (by decide)]; rfl
        simp_arith [gi, gm, md, row_0, row_1, gTup2]
        rfl⟩, List.filter_eq_self.mpr (fun _ _ => rfl), List.map_map]
      rfl
    have sf : small62 (f.length : Int) := small_rg (by omega) (by omega)
    have zf : f.length ≤ sizeLine := szle (by omega)
    refine ⟨_, okGiv_map (gs := f) (fun k => ((f.getD (k % 3) ([], 0)).1, (f.getD k ([], 0)).2)) (by omega) fun k hk => ⟨okf.bal (f.getD (k % 3) ([], 0)) (getD_mem (by omega)), okf.nn (f.getD k ([], 0)) (getD_mem hk), okf.big (f.getD k ([], 0)) (getD_mem hk)⟩, by rw [List.length_map, List.length_range]; exact fl, ?_⟩
    unfold E12 at lc ⊢
    unfold st_pair
    simp_arith [p, decide_eq_true c, List.length_map, sf, Int.toNat_natCast, rgD_len, zf, lc]
  · refine ⟨f, okf, fl, ?_⟩
    unfold st_pair E12
    simp_arith [p, decide_eq_false c]
theorem twin_st (hh : hs.length = 8) (hb : ∀ b ∈ bs, okBal os b) (bl : bs.length ≤ 6) {s6 s7 : Sl} : ∃ bs' : List Bal, (∀ b ∈ bs', okBal os b) ∧ bs'.length ≤ 6 ∧ st_twin (E12 ns hs ps os f (.v (.lst (bs.map bD))) s6 s7) = .nx (E12 ns hs ps os f (.v (.lst (bs'.map bD))) s6 s7) := by
  have p := part_ok (ps := hs) (spot := 6) (under := 7) (size := 2) (by decide) (by omega) (by decide) (by decide) (by decide)
  generalize part hs 6 7 2 = x at *
  have mem : ∀ {k : Nat}, k < bs.length → bs.getD k [] ∈ bs := fun {k} hk => by
    rw [List.getD_eq_getElem?_getD, List.getElem?_eq_getElem hk]
    exact List.getElem_mem hk
  by_cases c : x = 1
  · have lc : lcL (gN 12) (tsY) (e2 gIx (eV 5) (e2 gDiv (eV 12) (eC (.int 2)))) (E12 ns hs ps os f (.v (.lst (bs.map bD))) s6 s7) (rgD 0 bs.length) = .ok (((List.range bs.length).map fun k => bs.getD (k / 2) []).map bD) := by
      rw [lc_rg (fun _ => true) (fun k => bD (bs.getD (k / 2) [])) fun k hk => ⟨[.v (.scr ns), .v (.lst (hs.map .int)), .v (.lst (os.map nD)), .v (.lst (ps.map .int)), .v (.lst (f.map rowD)), .v (.lst (bs.map bD)), s6, s7, .no, .no, .no, .no, .v (.int (k : Int)), .no, .no], rfl, rfl, fun _ => by
        have dv : gDiv (.int (k : Int)) (.int 2) = .ok (.int ((k / 2 : Nat) : Int)) := by rw [gDiv_int (by decide) (by decide)]; rfl
        have gi : gIx (.lst (bs.map bD)) (.int ((k / 2 : Nat) : Int)) = .ok (bD (bs.getD (k / 2) [])) := gIx_map (inj := bD) (by omega) (by rw [Int.toNat_natCast, List.getD_eq_getElem?_getD, List.getElem?_eq_getElem (by omega : k / 2 < bs.length)]; rfl)
        simp_arith [dv, gi]⟩, List.filter_eq_self.mpr (fun _ _ => rfl), List.map_map]
      rfl
    have sf : small62 (bs.length : Int) := small_rg (by omega) (by omega)
    have zf : bs.length ≤ sizeLine := szle (by omega)
    refine ⟨(List.range bs.length).map fun k => bs.getD (k / 2) [], fun b m => ?_, by rw [List.length_map, List.length_range]; exact bl, ?_⟩
    · obtain ⟨k, mk, rfl⟩ := List.mem_map.mp m
      have := List.mem_range.mp mk
      exact hb _ (mem (by omega))
    · unfold E12 at lc ⊢
      unfold st_twin
      simp_arith [p, decide_eq_true c, List.length_map, sf, Int.toNat_natCast, rgD_len, zf, lc]
  · refine ⟨bs, hb, bl, ?_⟩
    unfold st_twin E12
    simp_arith [p, decide_eq_false c]
theorem bigK_st {fs : List Int} {m : Int} (hh : hs.length = 8) (lf : fs.length = 39) (okf : okGiv os f) (fl : f.length ≤ 12) (m0 : 0 ≤ m) (m1 : m ≤ 1000000000) {s5 : Sl} : ∃ (f' : List Row) (m' : Int), okGiv os f' ∧ f'.length ≤ 12 ∧ 0 ≤ m' ∧ m' ≤ 1000000000 ∧
    st_bigK (E12 ns hs ps os f s5 (.v (.int m)) (.v (.lst (fs.map .int)))) = .nx (E12 ns hs ps os f' s5 (.v (.int m')) (.v (.lst (fs.map .int)))) := by
  have p := part_ok (ps := hs) (spot := 6) (under := 14) (size := 3) (by decide) (by omega) (by decide) (by decide) (by decide)
  generalize part hs 6 14 3 = x at *
  by_cases c : x = 2
  · have hv : ∀ k : Nat, k < 12 → ∃ v : Int, 0 ≤ v ∧ v ≤ 1000000000 ∧ F__law_big [.lst (fs.map .int), .int (3 * (k : Int)), .int 0, .int 1000000000] = .ok (.int v) := fun k hk => big_ok (by omega) (by rw [lf]; show 3 * (k : Int) + 2 < ((39 : Nat) : Int); omega) (by decide)
    obtain ⟨va, hva⟩ : ∃ val : Nat → Int, ∀ k : Nat, k < 12 → 0 ≤ val k ∧ val k ≤ 1000000000 ∧ F__law_big [.lst (fs.map .int), .int (3 * (k : Int)), .int 0, .int 1000000000] = .ok (.int (val k)) := by
      refine ⟨fun k => if h : k < 12 then (hv k h).choose else 0, fun k hk => ?_⟩
      simp only [dif_pos hk]
      exact (hv k hk).choose_spec
    obtain ⟨m', a0, a1, ae⟩ := big_ok (ps := fs) (spot := 36) (least := 0) (crest := 1000000000) (by decide) (by rw [lf]; decide) (by decide)
    have lc : lcL (gN 12) (tsY) (eA gTup (aC (e2 gIx (e2 gIx (eV 4) (eV 12)) (eC (.int 0))) (aC (eCall 4 F__law_big (aC (eV 7) (aC (e2 gMul (eC (.int 3)) (eV 12)) (aC (eC (.int 0)) (aC (e2 gPow (eC (.int 10)) (eC (.int 9))) (aN)))))) (aN)))) (E12 ns hs ps os f s5 (.v (.int m)) (.v (.lst (fs.map .int)))) (rgD 0 f.length) = .ok (((List.range f.length).map fun k => ((f.getD k ([], 0)).1, va k)).map rowD) := by
      rw [lc_rg (fun _ => true) (fun k => rowD ((f.getD k ([], 0)).1, va k)) fun k hk => ⟨[.v (.scr ns), .v (.lst (hs.map .int)), .v (.lst (os.map nD)), .v (.lst (ps.map .int)), .v (.lst (f.map rowD)), s5, .v (.int m), .v (.lst (fs.map .int)), .no, .no, .no, .no, .v (.int (k : Int)), .no, .no], rfl, rfl, fun _ => by
        have gi := ix_row hk
        have m3 : gMul (.int 3) (.int (k : Int)) = .ok (.int (3 * (k : Int))) := gMul_l (by decide) (by decide)
        have bg := (hva k (by omega)).2.2
        simp_arith [gi, row_0, m3, pw9, bg, gTup2]
        rfl⟩, List.filter_eq_self.mpr (fun _ _ => rfl), List.map_map]
      rfl
    have sf : small62 (f.length : Int) := small_rg (by omega) (by omega)
    have zf : f.length ≤ sizeLine := szle (by omega)
    refine ⟨_, m', okGiv_map (gs := f) (fun k => ((f.getD k ([], 0)).1, va k)) (by omega) fun k hk => ⟨okf.bal (f.getD k ([], 0)) (getD_mem hk), (hva k (by omega)).1, (hva k (by omega)).2.1⟩, by rw [List.length_map, List.length_range]; exact fl, a0, a1, ?_⟩
    unfold E12 at lc ⊢
    unfold st_bigK
    simp_arith [p, decide_eq_true c, List.length_map, sf, Int.toNat_natCast, rgD_len, zf, lc, pw9, ae]
  · refine ⟨f, m, okf, fl, m0, m1, ?_⟩
    unfold st_bigK E12
    simp_arith [p, decide_eq_false c]
theorem eachK_st (ho : okOpts os) (hh : hs.length = 8) (okf : okGiv os f) (fl : f.length ≤ 12) (hns : ns.length ≤ 63) {s5 s6 s7 : Sl} : ∃ f' : List Row, okGiv os f' ∧ f'.length ≤ 65 ∧ st_eachK (E12 ns hs ps os f s5 s6 s7) = .nx (E12 ns hs ps os f' s5 s6 s7) := by
  have p := part_ok (ps := hs) (spot := 7) (under := 7) (size := 8) (by decide) (by omega) (by decide) (by decide) (by decide)
  generalize part hs 7 7 8 = x at *
  by_cases c : x = 3
  · obtain ⟨v3, c3⟩ := cell_ok (ns := ns) (k := 3) (by decide) (by omega)
    obtain ⟨qs, lq, _, p34⟩ := pool15_ok (c := v3) (n := 34) (by decide) (by decide)
    obtain ⟨es, oe, le, ee⟩ := each_len (ps := qs) ho (by rw [lq]; rfl)
    refine ⟨es.reverse, ⟨⟨fun r m => oe.bal r (List.mem_reverse.mp m), fun r m => oe.nn r (List.mem_reverse.mp m)⟩, by rw [List.length_reverse]; exact oe.few, fun r m => oe.big r (List.mem_reverse.mp m)⟩, by rw [List.length_reverse]; exact le, ?_⟩
    unfold st_eachK E12
    simp_arith [p, decide_eq_true c, c3, p34, ee, List.map_reverse]
  · refine ⟨f, okf, by omega, ?_⟩
    unfold st_eachK E12
    simp_arith [p, decide_eq_false c]
end Tk
namespace Tk
open PySem PySem.Spec L2 PyProof.Rows
def top (i : Nat) : Stmt := PySem.Challenge.pw_turnsandkeys_k12_roll_rows.main.body.getD i (.Pass ⟨0, 0, 0, 0⟩)
abbrev s__law_all_ballots : Stmt := top 30
abbrev s_Roll___iter__ : Stmt := clMeth (top 18) 3
abbrev s__law_nested : Stmt := top 34
abbrev s__law_no_ballots : Stmt := top 33
abbrev s__law_integer : Stmt := top 28
abbrev s__law_same : Stmt := top 29
abbrev s__law_strange : Stmt := top 25
abbrev s__law_times : Stmt := top 32
abbrev s_Roll___getitem__ : Stmt := clMeth (top 18) 4
abbrev s_Roll___contains__ : Stmt := clMeth (top 18) 5
abbrev s_Roll___len__ : Stmt := clMeth (top 18) 2
abbrev s__law_as_told : Stmt := top 35
abbrev s__law_part : Stmt := top 23
abbrev s__law_ballots : Stmt := top 27
abbrev s__law_big : Stmt := top 26
abbrev s__law_cell : Stmt := top 20
abbrev s__law_each_ballot : Stmt := top 31
abbrev s__law_names : Stmt := top 24
abbrev s_check_ballot : Stmt := top 16
abbrev s_is_name : Stmt := top 11
abbrev s_checked_names : Stmt := top 12
abbrev s_ordered_rows : Stmt := top 17
abbrev s_Roll___init__ : Stmt := clMeth (top 18) 0
abbrev s__law_of : Stmt := top 36
abbrev s__law_of_once : Stmt := top 37
abbrev s_Roll___eq__ : Stmt := clMeth (top 18) 7
abbrev s__law_of_right : Stmt := top 38
abbrev s__law_mixed : Stmt := top 21
abbrev s__law_pool : Stmt := top 22
abbrev s_law : Stmt := top 39
abbrev s_Roll_of : Stmt := clMeth (top 18) 1
def df__law_all_ballots : He.DefD := dfD ("_law_all_ballots", none) "_law_all_ballots" "_law_all_ballots" s__law_all_ballots [] []
def df_Roll___iter__ : He.DefD := dfD ("Roll", some "__iter__") "__iter__" "Roll.__iter__" s_Roll___iter__ [] []
def df__law_nested : He.DefD := dfD ("_law_nested", none) "_law_nested" "_law_nested" s__law_nested [] []
def df__law_no_ballots : He.DefD := dfD ("_law_no_ballots", none) "_law_no_ballots" "_law_no_ballots" s__law_no_ballots [] []
def df__law_integer : He.DefD := dfD ("_law_integer", none) "_law_integer" "_law_integer" s__law_integer [] []
def df__law_same : He.DefD := dfD ("_law_same", none) "_law_same" "_law_same" s__law_same [] []
def df__law_strange : He.DefD := dfD ("_law_strange", none) "_law_strange" "_law_strange" s__law_strange [] []
def df__law_times : He.DefD := dfD ("_law_times", none) "_law_times" "_law_times" s__law_times [] []
def df_Roll___getitem__ : He.DefD := dfD ("Roll", some "__getitem__") "__getitem__" "Roll.__getitem__" s_Roll___getitem__ [] []
def df_Roll___contains__ : He.DefD := dfD ("Roll", some "__contains__") "__contains__" "Roll.__contains__" s_Roll___contains__ [] []
def df_Roll___len__ : He.DefD := dfD ("Roll", some "__len__") "__len__" "Roll.__len__" s_Roll___len__ [] []
def df__law_as_told : He.DefD := dfD ("_law_as_told", none) "_law_as_told" "_law_as_told" s__law_as_told [] []
def df__law_part : He.DefD := dfD ("_law_part", none) "_law_part" "_law_part" s__law_part [] []
def df__law_ballots : He.DefD := dfD ("_law_ballots", none) "_law_ballots" "_law_ballots" s__law_ballots [] []
def df__law_big : He.DefD := dfD ("_law_big", none) "_law_big" "_law_big" s__law_big [] []
def df__law_cell : He.DefD := dfD ("_law_cell", none) "_law_cell" "_law_cell" s__law_cell [] []
def df__law_each_ballot : He.DefD := dfD ("_law_each_ballot", none) "_law_each_ballot" "_law_each_ballot" s__law_each_ballot [] []
def df__law_names : He.DefD := dfD ("_law_names", none) "_law_names" "_law_names" s__law_names [] []
def df_check_ballot : He.DefD := dfD ("check_ballot", none) "check_ballot" "check_ballot" s_check_ballot [] []
def df_is_name : He.DefD := dfD ("is_name", none) "is_name" "is_name" s_is_name [] []
def df_checked_names : He.DefD := dfD ("checked_names", none) "checked_names" "checked_names" s_checked_names [] [("hook", .bl false)]
def df_ordered_rows : He.DefD := dfD ("ordered_rows", none) "ordered_rows" "ordered_rows" s_ordered_rows [] []
def df_Roll___init__ : He.DefD := dfDI "Roll" "Roll.__init__" s_Roll___init__ [.tp0] [("largest", .int 1000000000)]
def df__law_of : He.DefD := dfD ("_law_of", none) "_law_of" "_law_of" s__law_of [] []
def df__law_of_once : He.DefD := dfD ("_law_of_once", none) "_law_of_once" "_law_of_once" s__law_of_once [] []
def df_Roll___eq__ : He.DefD := dfD ("Roll", some "__eq__") "__eq__" "Roll.__eq__" s_Roll___eq__ [] []
def df__law_of_right : He.DefD := dfD ("_law_of_right", none) "_law_of_right" "_law_of_right" s__law_of_right [] []
def df__law_mixed : He.DefD := dfD ("_law_mixed", none) "_law_mixed" "_law_mixed" s__law_mixed [] []
def df__law_pool : He.DefD := dfD ("_law_pool", none) "_law_pool" "_law_pool" s__law_pool [] []
def df_law : He.DefD := dfD ("law", none) "law" "law" s_law [] []
def fa : List He.Fa := faB ++ [.int "MOST_LETTERS" (8), .str "LETTERS" "abcdefghijklmnopqrstuvwxyz", .int "MOST_OPTIONS" (4), .glo "_law_all_ballots", .glo "_law_nested", .glo "_law_no_ballots", .glo "_law_integer", .glo "_law_same", .glo "_law_strange", .glo "_law_times", .glo "_law_as_told", .glo "_law_part", .glo "_law_ballots", .glo "_law_big", .glo "_law_cell", .glo "_law_each_ballot", .glo "_law_names", .glo "check_ballot", .glo "is_name", .glo "checked_names", .glo "ordered_rows", .glo "_law_of", .glo "_law_of_once", .glo "_law_of_right", .glo "_law_mixed", .glo "_law_pool", .glo "law", .glo "Roll", .cls "Roll", .mkr "Roll", .free "iter", .meth "Roll" "__iter__", .meth "Roll" "__getitem__", .meth "Roll" "__contains__", .meth "Roll" "__len__", .meth "Roll" "__eq__", .noat "Roll" "_rows", .noat "Roll" "options", .noat "Roll" "total"]
def fn : List He.DefD := [df__law_all_ballots, df_Roll___iter__, df__law_nested, df__law_no_ballots, df__law_integer, df__law_same, df__law_strange, df__law_times, df_Roll___getitem__, df_Roll___contains__, df_Roll___len__, df__law_as_told, df__law_part, df__law_ballots, df__law_big, df__law_cell, df__law_each_ballot, df__law_names, df_check_ballot, df_is_name, df_checked_names, df_ordered_rows, df_Roll___init__, df__law_of, df__law_of_once, df_Roll___eq__, df__law_of_right, df__law_mixed, df__law_pool, df_law]
def fwL : List He5.DefA := [dfW "Roll" "of" "Roll.of" s_Roll_of [] [("many", .int 1)]]
def exL (K : PySem.W.Frag) : Bool := [cmB K "Roll" "of", (dfW "Roll" "of" "Roll.of" s_Roll_of [] [("many", .int 1)]).ok K, eqTyB K (He.ga K "Roll"), tp0B K (He.dflAt ("Roll", some "__init__") 0 K), kitB2 K clsL "Roll" isT_Roll, insTyB K "Roll"].all fun b => b
section
variable {P : Program} {w : World} {K : PySem.W.Frag} {mg : Str → Option Value} {base : Heap}
theorem fn__rows : ∀ k, (cnL K).n k = (cnL K).n 51 → k = 51 := nm_inj (f := 51) fld_nd (by decide +kernel) fld_ne
theorem ff_Roll__rows (T : SaysC fa fn exL fwL K mg) : ∀ c ∈ [52], ∀ C, (cnL K).a c = some C → Cls K C ∧ NoAttr K C "_rows" := fun c m C e => by
  cases List.mem_singleton.mp m
  exact T.fld 46 54 (Option.some.inj e)
theorem fn_options : ∀ k, (cnL K).n k = (cnL K).n 44 → k = 44 := nm_inj (f := 44) fld_nd (by decide +kernel) fld_ne
theorem ff_Roll_options (T : SaysC fa fn exL fwL K mg) : ∀ c ∈ [52], ∀ C, (cnL K).a c = some C → Cls K C ∧ NoAttr K C "options" := fun c m C e => by
  cases List.mem_singleton.mp m
  exact T.fld 46 55 (Option.some.inj e)
theorem fn_total : ∀ k, (cnL K).n k = (cnL K).n 4 → k = 4 := nm_inj (f := 4) fld_nd (by decide +kernel) fld_ne
theorem ff_Roll_total (T : SaysC fa fn exL fwL K mg) : ∀ c ∈ [52], ∀ C, (cnL K).a c = some C → Cls K C ∧ NoAttr K C "total" := fun c m C e => by
  cases List.mem_singleton.mp m
  exact T.fld 46 56 (Option.some.inj e)
theorem fa__rows_52 (T : SaysC fa fn exL fwL K mg) : ∀ c ∈ [52], ∀ C, (cnL K).a c = some C → Cls K C ∧ NoAttr K C "_rows" := fun c m C e => by
  simp only [List.mem_cons, List.not_mem_nil, or_false] at m
  rcases m with rfl
  · exact ff_Roll__rows T _ (by decide) C e
theorem fa_options_52 (T : SaysC fa fn exL fwL K mg) : ∀ c ∈ [52], ∀ C, (cnL K).a c = some C → Cls K C ∧ NoAttr K C "options" := fun c m C e => by
  simp only [List.mem_cons, List.not_mem_nil, or_false] at m
  rcases m with rfl
  · exact ff_Roll_options T _ (by decide) C e
theorem fa_total_52 (T : SaysC fa fn exL fwL K mg) : ∀ c ∈ [52], ∀ C, (cnL K).a c = some C → Cls K C ∧ NoAttr K C "total" := fun c m C e => by
  simp only [List.mem_cons, List.not_mem_nil, or_false] at m
  rcases m with rfl
  · exact ff_Roll_total T _ (by decide) C e
theorem eq_Roll (T : SaysC fa fn exL fwL K mg) : eqTyB K (He.ga K "Roll") = true := List.all_eq_true.mp T.u _ (by simp)
theorem gl_Roll (T : SaysC fa fn exL fwL K mg) : mg "Roll" = some (.ref (He.ga K "Roll")) := T.glo 45
theorem is_Roll (T : SaysC fa fn exL fwL K mg) : IsiOk K (cnL K) (He.ga K "Roll") isT_Roll := by
  have u := List.all_eq_true.mp T.u
  refine isi_ok (cls := clsL) (fun _ => rfl) (u _ (by simp)) fun c y e q => ?_
  have key : c ∈ [52] := by
    obtain ⟨b, hb⟩ := q
    simp [isT_Roll, isT] at hb ⊢
    omega
  simp only [List.mem_cons, List.not_mem_nil, or_false] at key
  rcases key with rfl
  · cases e; exact insTy_ok (He.cls_ok (T.c.fact 46 rfl)) (u _ (by simp))
abbrev N_Roll_of : List Str := ["cls", "options", "many", "ballots", "ballot"]
theorem sc_Roll_of : FnScope N_Roll_of ((["cls", "options", "many"] : List Str) ++ (["ballots"] : List Str)) (defScope s_Roll_of) := ⟨rfl, rfl, rfl, by decide +kernel, rfl, by decide +kernel, by decide +kernel⟩
theorem kb_Roll_of_1 {K : PySem.W.Frag} {ca : Cn} {f : Addr} {fd : FuncData} (F : FD K "of" "Roll.of" s_Roll_of [] [("many", .int 1)] f fd) : KBs K ca fd ["cls", "options", "many"] "ballots" 2 [] (gDk [0, 1, 2] [.int 1]) := kbs_k (kd := [("many", .int 1)]) F 2 [] [0, 1, 2] [("many", .int 1)] (by simp) (by decide +kernel) rfl fun _ _ _ _ _ _ us rs mv ws l1 l2 l3 => match us, l1, rs, mv, l2, ws, l3 with | [_a0, _a1], _, [], [_m0], _, [], _ => ⟨_, _, _, _, _, _, rfl, rfl, rfl⟩ | [_a0, _a1], _, _r :: _rs, [_m0], _, [], _ => ⟨_, _, _, _, _, _, rfl, rfl, rfl⟩
theorem kb_Roll_of_1_many {K : PySem.W.Frag} {ca : Cn} {f : Addr} {fd : FuncData} (F : FD K "of" "Roll.of" s_Roll_of [] [("many", .int 1)] f fd) : KBs K ca fd ["cls", "options", "many"] "ballots" 2 ["many"] (gDk [0, 1, 2] []) := kbs_n (kd := [("many", .int 1)]) F 2 ["many"] [0, 1, 2] fun _ _ _ _ _ _ us rs ws l1 l2 => match us, l1, rs, ws, l2 with | [_a0, _a1], _, [], [_w0], _ => rfl | [_a0, _a1], _, _r :: _rs, [_w0], _ => rfl
abbrev N__law_all_ballots : List Str := ["choices", "ballots", "size", "longer", "ballot", "choice"]
theorem sc__law_all_ballots : FnScope N__law_all_ballots ["choices"] (defScope s__law_all_ballots) := ⟨rfl, rfl, rfl, by decide +kernel, rfl, by decide +kernel, by decide +kernel⟩
theorem b__law_all_ballots {K : PySem.W.Frag} {f : Addr} {fd : FuncData} (F : FD K "_law_all_ballots" "_law_all_ballots" s__law_all_ballots [] [] f fd) : Binds K fd ["choices"] [] := FunD.bindsN (ps := ["choices"]) F fun _ _ _ _ _ _ us hl => match us, hl with | [_a0], _ => rfl
abbrev N_Roll___iter__ : List Str := ["self"]
theorem sc_Roll___iter__ : FnScope N_Roll___iter__ ["self"] (defScope s_Roll___iter__) := ⟨rfl, rfl, rfl, by decide +kernel, rfl, by decide +kernel, by decide +kernel⟩
theorem b_Roll___iter__ {K : PySem.W.Frag} {f : Addr} {fd : FuncData} (F : FD K "__iter__" "Roll.__iter__" s_Roll___iter__ [] [] f fd) : Binds K fd ["self"] [] := FunD.bindsN (ps := ["self"]) F fun _ _ _ _ _ _ us hl => match us, hl with | [_a0], _ => rfl
abbrev N__law_nested : List Str := ["roll", "seen", "pair", "other"]
theorem sc__law_nested : FnScope N__law_nested ["roll"] (defScope s__law_nested) := ⟨rfl, rfl, rfl, by decide +kernel, rfl, by decide +kernel, by decide +kernel⟩
theorem b__law_nested {K : PySem.W.Frag} {f : Addr} {fd : FuncData} (F : FD K "_law_nested" "_law_nested" s__law_nested [] [] f fd) : Binds K fd ["roll"] [] := FunD.bindsN (ps := ["roll"]) F fun _ _ _ _ _ _ us hl => match us, hl with | [_a0], _ => rfl
abbrev N__law_no_ballots : List Str := ["choices", "given", "strange", "odd", "ballot", "times"]
theorem sc__law_no_ballots : FnScope N__law_no_ballots ["choices", "given", "strange"] (defScope s__law_no_ballots) := ⟨rfl, rfl, rfl, by decide +kernel, rfl, by decide +kernel, by decide +kernel⟩
theorem b__law_no_ballots {K : PySem.W.Frag} {f : Addr} {fd : FuncData} (F : FD K "_law_no_ballots" "_law_no_ballots" s__law_no_ballots [] [] f fd) : Binds K fd ["choices", "given", "strange"] [] := FunD.bindsN (ps := ["choices", "given", "strange"]) F fun _ _ _ _ _ _ us hl => match us, hl with | [_a0, _a1, _a2], _ => rfl
abbrev N__law_integer : List Str := ["got"]
theorem sc__law_integer : FnScope N__law_integer ["got"] (defScope s__law_integer) := ⟨rfl, rfl, rfl, by decide +kernel, rfl, by decide +kernel, by decide +kernel⟩
theorem b__law_integer {K : PySem.W.Frag} {f : Addr} {fd : FuncData} (F : FD K "_law_integer" "_law_integer" s__law_integer [] [] f fd) : Binds K fd ["got"] [] := FunD.bindsN (ps := ["got"]) F fun _ _ _ _ _ _ us hl => match us, hl with | [_a0], _ => rfl
abbrev N__law_same : List Str := ["got", "wanted", "k"]
theorem sc__law_same : FnScope N__law_same ["got", "wanted"] (defScope s__law_same) := ⟨rfl, rfl, rfl, by decide +kernel, rfl, by decide +kernel, by decide +kernel⟩
theorem b__law_same {K : PySem.W.Frag} {f : Addr} {fd : FuncData} (F : FD K "_law_same" "_law_same" s__law_same [] [] f fd) : Binds K fd ["got", "wanted"] [] := FunD.bindsN (ps := ["got", "wanted"]) F fun _ _ _ _ _ _ us hl => match us, hl with | [_a0, _a1], _ => rfl
abbrev N__law_strange : List Str := ["names", "letter"]
theorem sc__law_strange : FnScope N__law_strange ["names"] (defScope s__law_strange) := ⟨rfl, rfl, rfl, by decide +kernel, rfl, by decide +kernel, by decide +kernel⟩
theorem b__law_strange {K : PySem.W.Frag} {f : Addr} {fd : FuncData} (F : FD K "_law_strange" "_law_strange" s__law_strange [] [] f fd) : Binds K fd ["names"] [] := FunD.bindsN (ps := ["names"]) F fun _ _ _ _ _ _ us hl => match us, hl with | [_a0], _ => rfl
abbrev N__law_times : List Str := ["given", "ballot", "other", "times"]
theorem sc__law_times : FnScope N__law_times ["given", "ballot"] (defScope s__law_times) := ⟨rfl, rfl, rfl, by decide +kernel, rfl, by decide +kernel, by decide +kernel⟩
theorem b__law_times {K : PySem.W.Frag} {f : Addr} {fd : FuncData} (F : FD K "_law_times" "_law_times" s__law_times [] [] f fd) : Binds K fd ["given", "ballot"] [] := FunD.bindsN (ps := ["given", "ballot"]) F fun _ _ _ _ _ _ us hl => match us, hl with | [_a0, _a1], _ => rfl
abbrev N_Roll___getitem__ : List Str := ["self", "ballot", "own", "many"]
theorem sc_Roll___getitem__ : FnScope N_Roll___getitem__ ["self", "ballot"] (defScope s_Roll___getitem__) := ⟨rfl, rfl, rfl, by decide +kernel, rfl, by decide +kernel, by decide +kernel⟩
theorem b_Roll___getitem__ {K : PySem.W.Frag} {f : Addr} {fd : FuncData} (F : FD K "__getitem__" "Roll.__getitem__" s_Roll___getitem__ [] [] f fd) : Binds K fd ["self", "ballot"] [] := FunD.bindsN (ps := ["self", "ballot"]) F fun _ _ _ _ _ _ us hl => match us, hl with | [_a0, _a1], _ => rfl
abbrev N_Roll___contains__ : List Str := ["self", "ballot"]
theorem sc_Roll___contains__ : FnScope N_Roll___contains__ ["self", "ballot"] (defScope s_Roll___contains__) := ⟨rfl, rfl, rfl, by decide +kernel, rfl, by decide +kernel, by decide +kernel⟩
theorem b_Roll___contains__ {K : PySem.W.Frag} {f : Addr} {fd : FuncData} (F : FD K "__contains__" "Roll.__contains__" s_Roll___contains__ [] [] f fd) : Binds K fd ["self", "ballot"] [] := FunD.bindsN (ps := ["self", "ballot"]) F fun _ _ _ _ _ _ us hl => match us, hl with | [_a0, _a1], _ => rfl
abbrev N_Roll___len__ : List Str := ["self"]
theorem sc_Roll___len__ : FnScope N_Roll___len__ ["self"] (defScope s_Roll___len__) := ⟨rfl, rfl, rfl, by decide +kernel, rfl, by decide +kernel, by decide +kernel⟩
theorem b_Roll___len__ {K : PySem.W.Frag} {f : Addr} {fd : FuncData} (F : FD K "__len__" "Roll.__len__" s_Roll___len__ [] [] f fd) : Binds K fd ["self"] [] := FunD.bindsN (ps := ["self"]) F fun _ _ _ _ _ _ us hl => match us, hl with | [_a0], _ => rfl
abbrev N__law_as_told : List Str := ["roll", "choices", "given", "wanted", "ballot", "number", "times"]
theorem sc__law_as_told : FnScope N__law_as_told ["roll", "choices", "given"] (defScope s__law_as_told) := ⟨rfl, rfl, rfl, by decide +kernel, rfl, by decide +kernel, by decide +kernel⟩
theorem b__law_as_told {K : PySem.W.Frag} {f : Addr} {fd : FuncData} (F : FD K "_law_as_told" "_law_as_told" s__law_as_told [] [] f fd) : Binds K fd ["roll", "choices", "given"] [] := FunD.bindsN (ps := ["roll", "choices", "given"]) F fun _ _ _ _ _ _ us hl => match us, hl with | [_a0, _a1, _a2], _ => rfl
abbrev N__law_part : List Str := ["pool", "spot", "under", "size"]
theorem sc__law_part : FnScope N__law_part ["pool", "spot", "under", "size"] (defScope s__law_part) := ⟨rfl, rfl, rfl, by decide +kernel, rfl, by decide +kernel, by decide +kernel⟩
theorem b__law_part {K : PySem.W.Frag} {f : Addr} {fd : FuncData} (F : FD K "_law_part" "_law_part" s__law_part [] [] f fd) : Binds K fd ["pool", "spot", "under", "size"] [] := FunD.bindsN (ps := ["pool", "spot", "under", "size"]) F fun _ _ _ _ _ _ us hl => match us, hl with | [_a0, _a1, _a2, _a3], _ => rfl
abbrev N__law_ballots : List Str := ["pool", "spot", "slate", "number", "lines", "k", "left", "ballot", "j", "times"]
theorem sc__law_ballots : FnScope N__law_ballots ["pool", "spot", "slate", "number"] (defScope s__law_ballots) := ⟨rfl, rfl, rfl, by decide +kernel, rfl, by decide +kernel, by decide +kernel⟩
theorem b__law_ballots {K : PySem.W.Frag} {f : Addr} {fd : FuncData} (F : FD K "_law_ballots" "_law_ballots" s__law_ballots [] [] f fd) : Binds K fd ["pool", "spot", "slate", "number"] [] := FunD.bindsN (ps := ["pool", "spot", "slate", "number"]) F fun _ _ _ _ _ _ us hl => match us, hl with | [_a0, _a1, _a2, _a3], _ => rfl
abbrev N__law_big : List Str := ["pool", "spot", "least", "crest", "far"]
theorem sc__law_big : FnScope N__law_big ["pool", "spot", "least", "crest"] (defScope s__law_big) := ⟨rfl, rfl, rfl, by decide +kernel, rfl, by decide +kernel, by decide +kernel⟩
theorem b__law_big {K : PySem.W.Frag} {f : Addr} {fd : FuncData} (F : FD K "_law_big" "_law_big" s__law_big [] [] f fd) : Binds K fd ["pool", "spot", "least", "crest"] [] := FunD.bindsN (ps := ["pool", "spot", "least", "crest"]) F fun _ _ _ _ _ _ us hl => match us, hl with | [_a0, _a1, _a2, _a3], _ => rfl
abbrev N__law_cell : List Str := ["script", "k", "far", "j"]
theorem sc__law_cell : FnScope N__law_cell ["script", "k"] (defScope s__law_cell) := ⟨rfl, rfl, rfl, by decide +kernel, rfl, by decide +kernel, by decide +kernel⟩
theorem b__law_cell {K : PySem.W.Frag} {f : Addr} {fd : FuncData} (F : FD K "_law_cell" "_law_cell" s__law_cell [] [] f fd) : Binds K fd ["script", "k"] [] := FunD.bindsN (ps := ["script", "k"]) F fun _ _ _ _ _ _ us hl => match us, hl with | [_a0, _a1], _ => rfl
abbrev N__law_each_ballot : List Str := ["choices", "draws", "crest", "ballots", "k"]
theorem sc__law_each_ballot : FnScope N__law_each_ballot ["choices", "draws"] (defScope s__law_each_ballot) := ⟨rfl, rfl, rfl, by decide +kernel, rfl, by decide +kernel, by decide +kernel⟩
theorem b__law_each_ballot {K : PySem.W.Frag} {f : Addr} {fd : FuncData} (F : FD K "_law_each_ballot" "_law_each_ballot" s__law_each_ballot [] [] f fd) : Binds K fd ["choices", "draws"] [] := FunD.bindsN (ps := ["choices", "draws"]) F fun _ _ _ _ _ _ us hl => match us, hl with | [_a0, _a1], _ => rfl
abbrev N__law_names : List Str := ["pool", "spot", "number", "letters", "stem", "k", "turn", "cut", "first", "short", "tail", "names", "mark"]
theorem sc__law_names : FnScope N__law_names ["pool", "spot", "number"] (defScope s__law_names) := ⟨rfl, rfl, rfl, by decide +kernel, rfl, by decide +kernel, by decide +kernel⟩
theorem b__law_names {K : PySem.W.Frag} {f : Addr} {fd : FuncData} (F : FD K "_law_names" "_law_names" s__law_names [] [] f fd) : Binds K fd ["pool", "spot", "number"] [] := FunD.bindsN (ps := ["pool", "spot", "number"]) F fun _ _ _ _ _ _ us hl => match us, hl with | [_a0, _a1, _a2], _ => rfl
abbrev N_check_ballot : List Str := ["options", "ballot", "at", "item"]
theorem sc_check_ballot : FnScope N_check_ballot ["options", "ballot"] (defScope s_check_ballot) := ⟨rfl, rfl, rfl, by decide +kernel, rfl, by decide +kernel, by decide +kernel⟩
theorem b_check_ballot {K : PySem.W.Frag} {f : Addr} {fd : FuncData} (F : FD K "check_ballot" "check_ballot" s_check_ballot [] [] f fd) : Binds K fd ["options", "ballot"] [] := FunD.bindsN (ps := ["options", "ballot"]) F fun _ _ _ _ _ _ us hl => match us, hl with | [_a0, _a1], _ => rfl
abbrev N_is_name : List Str := ["word", "letter"]
theorem sc_is_name : FnScope N_is_name ["word"] (defScope s_is_name) := ⟨rfl, rfl, rfl, by decide +kernel, rfl, by decide +kernel, by decide +kernel⟩
theorem b_is_name {K : PySem.W.Frag} {f : Addr} {fd : FuncData} (F : FD K "is_name" "is_name" s_is_name [] [] f fd) : Binds K fd ["word"] [] := FunD.bindsN (ps := ["word"]) F fun _ _ _ _ _ _ us hl => match us, hl with | [_a0], _ => rfl
abbrev N_checked_names : List Str := ["names", "most", "hook", "at", "name"]
theorem sc_checked_names : FnScope N_checked_names ["names", "most", "hook"] (defScope s_checked_names) := ⟨rfl, rfl, rfl, by decide +kernel, rfl, by decide +kernel, by decide +kernel⟩
theorem kb_checked_names_2 {K : PySem.W.Frag} {ca : Cn} {f : Addr} {fd : FuncData} (F : FD K "checked_names" "checked_names" s_checked_names [] [("hook", .bl false)] f fd) : KB K ca fd ["names", "most", "hook"] 2 [] (gDk [0, 1, 2] [.bl false]) := kb_k (kd := [("hook", .bl false)]) F 2 [] [0, 1, 2] [("hook", .bl false)] (by simp) (by decide +kernel) rfl fun _ _ _ _ _ _ us mv ws l1 l2 l3 => match us, l1, mv, l2, ws, l3 with | [_a0, _a1], _, [_m0], _, [], _ => ⟨_, _, _, _, _, _, rfl, rfl, rfl⟩
abbrev N_ordered_rows : List Str := ["options", "counts", "places", "rows", "ballots", "place", "option", "ballot", "row"]
theorem sc_ordered_rows : FnScope N_ordered_rows ["options", "counts"] (defScope s_ordered_rows) := ⟨rfl, rfl, rfl, by decide +kernel, rfl, by decide +kernel, by decide +kernel⟩
theorem b_ordered_rows {K : PySem.W.Frag} {f : Addr} {fd : FuncData} (F : FD K "ordered_rows" "ordered_rows" s_ordered_rows [] [] f fd) : Binds K fd ["options", "counts"] [] := FunD.bindsN (ps := ["options", "counts"]) F fun _ _ _ _ _ _ us hl => match us, hl with | [_a0, _a1], _ => rfl
abbrev N_Roll___init__ : List Str := ["self", "options", "rows", "largest", "counts", "ballot", "many"]
theorem sc_Roll___init__ : FnScope N_Roll___init__ ["self", "options", "rows", "largest"] (defScope s_Roll___init__) := ⟨rfl, rfl, rfl, by decide +kernel, rfl, by decide +kernel, by decide +kernel⟩
theorem kb_Roll___init___0_options_rows {K : PySem.W.Frag} {ca : Cn} {f : Addr} {fd : FuncData} (F : FDI K "Roll.__init__" s_Roll___init__ [.tp0] [("largest", .int 1000000000)] f fd) : KBI K ca fd ["self", "options", "rows", "largest"] 0 ["options", "rows"] (gDk [2, 3, 1] [.tp0, .int 1000000000]) := kbi_dkD (dd := [.tp0]) (kd := [("largest", .int 1000000000)]) F 0 ["options", "rows"] [3, 4, 2] [("largest", .int 1000000000)] (by decide) (by simp) (by simp) (by decide +kernel) rfl fun _ _ _ _ _ _ _ us its mv ws l1 l2 l3 l4 => match us, l1, its, l2, mv, l3, ws, l4 with | [_a0], _, [_i0], _, [_m0], _, [_w0, _w1], _ => ⟨_, rfl, ⟨_, _, _, _, _, _, rfl, rfl, rfl⟩⟩
theorem kb_Roll___init___1 {K : PySem.W.Frag} {ca : Cn} {f : Addr} {fd : FuncData} (F : FDI K "Roll.__init__" s_Roll___init__ [.tp0] [("largest", .int 1000000000)] f fd) : KBI K ca fd ["self", "options", "rows", "largest"] 1 [] (gDk [0, 1, 2] [.tp0, .int 1000000000]) := kbi_dkD (dd := [.tp0]) (kd := [("largest", .int 1000000000)]) F 1 [] [1, 2, 3] [("largest", .int 1000000000)] (by decide) (by simp) (by simp) (by decide +kernel) rfl fun _ _ _ _ _ _ _ us its mv ws l1 l2 l3 l4 => match us, l1, its, l2, mv, l3, ws, l4 with | [_a0, _a1], _, [_i0], _, [_m0], _, [], _ => ⟨_, rfl, ⟨_, _, _, _, _, _, rfl, rfl, rfl⟩⟩
theorem kb_Roll___init___2 {K : PySem.W.Frag} {ca : Cn} {f : Addr} {fd : FuncData} (F : FDI K "Roll.__init__" s_Roll___init__ [.tp0] [("largest", .int 1000000000)] f fd) : KBI K ca fd ["self", "options", "rows", "largest"] 2 [] (gDk [0, 1, 3] [.tp0, .int 1000000000]) := kbi_dkD (dd := [.tp0]) (kd := [("largest", .int 1000000000)]) F 2 [] [1, 2, 4] [("largest", .int 1000000000)] (by decide) (by simp) (by simp) (by decide +kernel) rfl fun _ _ _ _ _ _ _ us its mv ws l1 l2 l3 l4 => match us, l1, its, l2, mv, l3, ws, l4 with | [_a0, _a1, _a2], _, [_i0], _, [_m0], _, [], _ => ⟨_, rfl, ⟨_, _, _, _, _, _, rfl, rfl, rfl⟩⟩
abbrev N__law_of : List Str := ["choices", "ballots", "times"]
theorem sc__law_of : FnScope N__law_of ["choices", "ballots", "times"] (defScope s__law_of) := ⟨rfl, rfl, rfl, by decide +kernel, rfl, by decide +kernel, by decide +kernel⟩
theorem b__law_of {K : PySem.W.Frag} {f : Addr} {fd : FuncData} (F : FD K "_law_of" "_law_of" s__law_of [] [] f fd) : Binds K fd ["choices", "ballots", "times"] [] := FunD.bindsN (ps := ["choices", "ballots", "times"]) F fun _ _ _ _ _ _ us hl => match us, hl with | [_a0, _a1, _a2], _ => rfl
abbrev N__law_of_once : List Str := ["choices", "ballots"]
theorem sc__law_of_once : FnScope N__law_of_once ["choices", "ballots"] (defScope s__law_of_once) := ⟨rfl, rfl, rfl, by decide +kernel, rfl, by decide +kernel, by decide +kernel⟩
theorem b__law_of_once {K : PySem.W.Frag} {f : Addr} {fd : FuncData} (F : FD K "_law_of_once" "_law_of_once" s__law_of_once [] [] f fd) : Binds K fd ["choices", "ballots"] [] := FunD.bindsN (ps := ["choices", "ballots"]) F fun _ _ _ _ _ _ us hl => match us, hl with | [_a0, _a1], _ => rfl
abbrev N_Roll___eq__ : List Str := ["self", "other"]
theorem sc_Roll___eq__ : FnScope N_Roll___eq__ ["self", "other"] (defScope s_Roll___eq__) := ⟨rfl, rfl, rfl, by decide +kernel, rfl, by decide +kernel, by decide +kernel⟩
theorem b_Roll___eq__ {K : PySem.W.Frag} {f : Addr} {fd : FuncData} (F : FD K "__eq__" "Roll.__eq__" s_Roll___eq__ [] [] f fd) : Binds K fd ["self", "other"] [] := FunD.bindsN (ps := ["self", "other"]) F fun _ _ _ _ _ _ us hl => match us, hl with | [_a0, _a1], _ => rfl
abbrev N__law_of_right : List Str := ["choices", "ballots", "times", "once", "given", "passed", "roll", "same", "ballot"]
theorem sc__law_of_right : FnScope N__law_of_right ["choices", "ballots", "times", "once"] (defScope s__law_of_right) := ⟨rfl, rfl, rfl, by decide +kernel, rfl, by decide +kernel, by decide +kernel⟩
theorem b__law_of_right {K : PySem.W.Frag} {f : Addr} {fd : FuncData} (F : FD K "_law_of_right" "_law_of_right" s__law_of_right [] [] f fd) : Binds K fd ["choices", "ballots", "times", "once"] [] := FunD.bindsN (ps := ["choices", "ballots", "times", "once"]) F fun _ _ _ _ _ _ us hl => match us, hl with | [_a0, _a1, _a2, _a3], _ => rfl
abbrev N__law_mixed : List Str := ["cell", "k", "x"]
theorem sc__law_mixed : FnScope N__law_mixed ["cell", "k"] (defScope s__law_mixed) := ⟨rfl, rfl, rfl, by decide +kernel, rfl, by decide +kernel, by decide +kernel⟩
theorem b__law_mixed {K : PySem.W.Frag} {f : Addr} {fd : FuncData} (F : FD K "_law_mixed" "_law_mixed" s__law_mixed [] [] f fd) : Binds K fd ["cell", "k"] [] := FunD.bindsN (ps := ["cell", "k"]) F fun _ _ _ _ _ _ us hl => match us, hl with | [_a0, _a1], _ => rfl
abbrev N__law_pool : List Str := ["cell", "number", "rest", "deep", "pool", "k"]
theorem sc__law_pool : FnScope N__law_pool ["cell", "number"] (defScope s__law_pool) := ⟨rfl, rfl, rfl, by decide +kernel, rfl, by decide +kernel, by decide +kernel⟩
theorem b__law_pool {K : PySem.W.Frag} {f : Addr} {fd : FuncData} (F : FD K "_law_pool" "_law_pool" s__law_pool [] [] f fd) : Binds K fd ["cell", "number"] [] := FunD.bindsN (ps := ["cell", "number"]) F fun _ _ _ _ _ _ us hl => match us, hl with | [_a0, _a1], _ => rfl
abbrev N_law : List Str := ["script", "head", "choices", "pool", "given", "ballots", "times", "far", "passed", "roll", "other", "more", "k", "ballot", "number"]
theorem sc_law : FnScope N_law ["script"] (defScope s_law) := ⟨rfl, rfl, rfl, by decide +kernel, rfl, by decide +kernel, by decide +kernel⟩
theorem d__law_all_ballots (T : SaysC fa fn exL fwL K mg) : DefA P w K mg base (cnL K) 1 "_law_all_ballots" s__law_all_ballots [] [] ["choices"] F__law_all_ballots :=
  DefA.of (N := N__law_all_ballots) (g := G__law_all_ballots) (T.dfn (dd := []) (kd := []) 21 0) sc__law_all_ballots fun f cdv A outer s H E hr => fss_cons (fs_set (i := 1) sc__law_all_ballots.nd rfl (fe_lst (fa_cons (fe_tup (fa_nil)) (fa_nil)))) (fss_cons (fs_for (zs := [2]) (passes_of rfl) rfl (fi_r1 rfl T.bt.range (fe_len T.bt (fa_cons (fe_v 0) (fa_nil)))) (fg_n (i := 2) sc__law_all_ballots.nd rfl) (fss_cons (fs_own (i := 3) sc__law_all_ballots.nd rfl (fl_lst (fa_nil))) (fss_cons (fs_for (zs := [4]) (passes_of rfl) rfl (fi_sq (fe_listc T.bt (fa_cons (fe_v 1) (fa_nil)))) (fg_n (i := 4) sc__law_all_ballots.nd rfl) (fss_cons (fs_app (i := 3) rfl (fe_v 4)) (fss_one (fs_if (ft_cmp (op_eqA (hu64 hr)) v2_eq (by first | exact nomark _ | rfl) (fe_len T.bt (fa_cons (fe_v 4) (fa_nil))) (fe_v 2)) (fss_one (fs_frz 3 (fs_new (i := 3) sc__law_all_ballots.nd rfl (fn_bor (fn_l (fl_cat (fe_v 3) (fe_lc (own := [("choice", 5)]) rfl sc__law_all_ballots.nd (fi_sq (fe_v 0)) (blkOk_by (own := [("choice", 5)]) (N := N__law_all_ballots) (sc := defScope s__law_all_ballots) (by decide +kernel)) (fun _ _ _ _ _ => fg_n (i := 5) sc__law_all_ballots.nd rfl) (fun _ _ _ _ _ => fts_one (ft_cmp (op_ninA (hu65 hr)) v2_nin (by first | exact nomark _ | rfl) (fe_v 5) (fe_v 4))) (fun _ _ _ _ _ => fe_op op_addA v2_add (fe_v 4) (fe_tup (fa_cons (fe_v 5) (fa_nil))))))))))) (fss_nil))))) (fss_one (fs_frz 3 (fs_set (i := 1) sc__law_all_ballots.nd rfl (fe_v 3))))))) (fss_one (fs_ret (fe_v 1))))
theorem d_Roll___iter__ (T : SaysC fa fn exL fwL K mg) : DefT P w K mg base (cnL K) 1 52 "Roll.__iter__" s_Roll___iter__ F_Roll___iter__ :=
  DefT.of (N := N_Roll___iter__) (fa := e1 (gFld [52] 51) (eV 0)) (T.met (x := "Roll") (dd := []) (kd := []) 46 49 1 rfl) sc_Roll___iter__ rfl b_Roll___iter__ (fun _ _ _ _ _ _ _ => ⟨rfl, rfl⟩) (T.free 48) (by decide +kernel) fun f cdv A outer s H E hr => fe_fld (cs := [52]) (f := 51) rfl fn__rows (fa__rows_52 T) (fe_v 0)
theorem d__law_nested (T : SaysC fa fn exL fwL K mg) : DefA P w K mg base (cnL K) 2 "_law_nested" s__law_nested [] [] ["roll"] F__law_nested :=
  DefA.of (N := N__law_nested) (g := G__law_nested) (T.dfn (dd := []) (kd := []) 22 2) sc__law_nested fun f cdv A outer s H E hr => fss_cons (fs_set (i := 1) sc__law_nested.nd rfl (fe_int)) (fss_cons (fs_for (zs := [2]) (passes_of rfl) rfl (fi_own (d_Roll___iter__ T) hr (fe_v 0)) (fg_n (i := 2) sc__law_nested.nd rfl) (fss_one (fs_for (zs := [3]) (passes_of rfl) rfl (fi_own (d_Roll___iter__ T) hr (fe_v 0)) (fg_n (i := 3) sc__law_nested.nd rfl) (fss_one (fs_set (i := 1) sc__law_nested.nd rfl (fe_op op_addA v2_add (fe_v 1) (fe_int))))))) (fss_one (fs_ret (fe_v 1))))
theorem d__law_no_ballots (T : SaysC fa fn exL fwL K mg) : DefA P w K mg base (cnL K) 1 "_law_no_ballots" s__law_no_ballots [] [] ["choices", "given", "strange"] F__law_no_ballots :=
  DefA.of (N := N__law_no_ballots) (g := G__law_no_ballots) (T.dfn (dd := []) (kd := []) 23 3) sc__law_no_ballots fun f cdv A outer s H E hr => fss_cons (fs_own (i := 3) sc__law_no_ballots.nd rfl (fl_lst (fa_cons (fe_tup (fa_cons (fe_v 2) (fa_nil))) (fa_cons (fe_tup (fa_cons (fe_str) (fa_nil))) (fa_cons (fe_tup (fa_cons (fe_ix (fun _ _ => rfl) (fe_v 0) (fe_int)) (fa_cons (fe_ix (fun _ _ => rfl) (fe_v 0) (fe_int)) (fa_nil)))) (fa_cons (fe_op op_addA v2_add (fe_tuplec T.bt (fa_cons (fe_v 0) (fa_nil))) (fe_tup (fa_cons (fe_ix (fun _ _ => rfl) (fe_v 0) (fe_un un_neg v1_neg (fe_int))) (fa_nil)))) (fa_cons (fe_tup (fa_cons (fe_v 2) (fa_cons (fe_ix (fun _ _ => rfl) (fe_v 0) (fe_int)) (fa_nil)))) (fa_nil)))))))) (fss_cons (fs_for (zs := [4, 5]) (passes_of rfl) rfl (fi_sq (fe_v 1)) (fg_t rfl (fgs_c (fg_n (i := 4) sc__law_no_ballots.nd rfl) (fgs_c (fg_n (i := 5) sc__law_no_ballots.nd rfl) (fgs_n)))) (fss_cons (fs_app (i := 3) rfl (fe_op op_addA v2_add (fe_v 4) (fe_tup (fa_cons (fe_v 2) (fa_nil))))) (fss_cons (fs_app (i := 3) rfl (fe_op op_addA v2_add (fe_tup (fa_cons (fe_v 2) (fa_nil))) (fe_v 4))) (fss_one (fs_if (ft_cmp (op_neA (hu64 hr)) v2_ne (by first | exact nomark _ | rfl) (fe_v 4) (fe_tup (fa_nil))) (fss_one (fs_app (i := 3) rfl (fe_op op_addA v2_add (fe_v 4) (fe_tup (fa_cons (fe_ix (fun _ _ => rfl) (fe_v 4) (fe_int)) (fa_nil)))))) (fss_nil)))))) (fss_one (fs_frz 3 (fs_ret (fe_v 3)))))
theorem d__law_integer (T : SaysC fa fn exL fwL K mg) : DefA P w K mg base (cnL K) 1 "_law_integer" s__law_integer [] [] ["got"] F__law_integer :=
  DefA.of (N := N__law_integer) (g := G__law_integer) (T.dfn (dd := []) (kd := []) 24 4) sc__law_integer fun f cdv A outer s H E hr => fss_one (fs_ret (fe_and (fe_isi T.bt (fa_cons (fe_v 0) (fa_cons (fe_ty_int T.bt) (fa_nil)))) (fe_one (fe_not (fe_isi T.bt (fa_cons (fe_v 0) (fa_cons (fe_ty_bool T.bt) (fa_nil))))))))
theorem dr__law_same (T : SaysC fa fn exL fwL K mg) : ∀ n : Nat, DefA P w K mg base (cnL K) (2 + n) "_law_same" s__law_same [] [] ["got", "wanted"] (Fr__law_same n)
  | 0 => DefA.of (N := N__law_same) (g := sBad) (k := 1) (T.dfn (dd := []) (kd := []) 25 5) sc__law_same fun f cdv A outer s H E hr => fss_never
  | n + 1 => have ih : DefA P w K mg base (cnL K) (2 + n) "_law_same" s__law_same [] [] ["got", "wanted"] (Fr__law_same n) := dr__law_same T n
    DefA.of (N := N__law_same) (g := G__law_same (Fr__law_same n)) (k := 2 + n) (T.dfn (dd := []) (kd := []) 25 5) sc__law_same fun f cdv A outer s H E hr => fss_cons (fs_if (ft_cmp op_isN v2_isN (by first | exact nomark _ | rfl) (fe_v 1) (fe_non)) (fss_one (fs_ret (fe_cmp op_isN v2_isN (by first | exact nomark _ | rfl) (fe_v 0) (fe_non)))) (fss_nil)) (fss_cons (fs_if (ft_cmp op_isB v2_isB (by first | exact nomark _ | rfl) (fe_v 1) (fe_bl)) (fss_one (fs_ret (fe_cmp op_isB v2_isB (by first | exact nomark _ | rfl) (fe_v 0) (fe_bl)))) (fss_nil)) (fss_cons (fs_if (ft_cmp op_isB v2_isB (by first | exact nomark _ | rfl) (fe_v 1) (fe_bl)) (fss_one (fs_ret (fe_cmp op_isB v2_isB (by first | exact nomark _ | rfl) (fe_v 0) (fe_bl)))) (fss_nil)) (fss_cons (fs_if (ft_val (fe_isi T.bt (fa_cons (fe_v 1) (fa_cons (fe_ty_int T.bt) (fa_nil))))) (fss_one (fs_ret (fe_and (fe_a (hk := by omega) (d__law_integer T) b__law_integer hr (takes_of rfl rfl rfl rfl) (fa_cons (fe_v 0) (fa_nil))) (fe_one (fe_cmp (op_eqA (hu64 hr)) v2_eq (by first | exact nomark _ | rfl) (fe_v 0) (fe_v 1)))))) (fss_nil)) (fss_cons (fs_if (ft_val (fe_isi T.bt (fa_cons (fe_v 1) (fa_cons (fe_ty_str T.bt) (fa_nil))))) (fss_one (fs_ret (fe_and (fe_isi T.bt (fa_cons (fe_v 0) (fa_cons (fe_ty_str T.bt) (fa_nil)))) (fe_one (fe_cmp (op_eqA (hu64 hr)) v2_eq (by first | exact nomark _ | rfl) (fe_v 0) (fe_v 1)))))) (fss_nil)) (fss_cons (fs_if (ft_w (fw_and (ft_val (fe_isi T.bt (fa_cons (fe_v 1) (fa_cons (fe_ty_tuple T.bt) (fa_nil))))) (fw_and1 (ft_not (ft_val (fe_isi T.bt (fa_cons (fe_v 0) (fa_cons (fe_ty_tuple T.bt) (fa_nil))))))))) (fss_one (fs_ret (fe_bl))) (fss_nil)) (fss_cons (fs_if (ft_w (fw_and (ft_val (fe_isi T.bt (fa_cons (fe_v 1) (fa_cons (fe_ty_list T.bt) (fa_nil))))) (fw_and1 (ft_not (ft_val (fe_isi T.bt (fa_cons (fe_v 0) (fa_cons (fe_ty_list T.bt) (fa_nil))))))))) (fss_one (fs_ret (fe_bl))) (fss_nil)) (fss_cons (fs_if (ft_cmp (op_neA (hu64 hr)) v2_ne (by first | exact nomark _ | rfl) (fe_len T.bt (fa_cons (fe_v 0) (fa_nil))) (fe_len T.bt (fa_cons (fe_v 1) (fa_nil)))) (fss_one (fs_ret (fe_bl))) (fss_nil)) (fss_cons (fs_for (zs := [2]) (passes_of rfl) rfl (fi_r1 rfl T.bt.range (fe_len T.bt (fa_cons (fe_v 1) (fa_nil)))) (fg_n (i := 2) sc__law_same.nd rfl) (fss_one (fs_if (ft_not (ft_val (fe_a (hk := Nat.le_refl _) ih b__law_same hr (takes_of rfl rfl rfl rfl) (fa_cons (fe_ix (fun _ _ => rfl) (fe_v 0) (fe_v 2)) (fa_cons (fe_ix (fun _ _ => rfl) (fe_v 1) (fe_v 2)) (fa_nil)))))) (fss_one (fs_ret (fe_bl))) (fss_nil)))) (fss_one (fs_ret (fe_bl)))))))))))
theorem d__law_same (T : SaysC fa fn exL fwL K mg) : DefA P w K mg base (cnL K) 8 "_law_same" s__law_same [] [] ["got", "wanted"] F__law_same := dr__law_same T 6
theorem d__law_strange (T : SaysC fa fn exL fwL K mg) : DefA P w K mg base (cnL K) 1 "_law_strange" s__law_strange [] [] ["names"] F__law_strange :=
  DefA.of (N := N__law_strange) (g := G__law_strange) (T.dfn (dd := []) (kd := []) 26 6) sc__law_strange fun f cdv A outer s H E hr => fss_cons (fs_for (zs := [1]) (passes_of rfl) rfl (fi_sq (fe_str)) (fg_n (i := 1) sc__law_strange.nd rfl) (fss_one (fs_if (ft_cmp (op_ninA (hu65 hr)) v2_nin (by first | exact nomark _ | rfl) (fe_v 1) (fe_v 0)) (fss_one (fs_ret (fe_v 1))) (fss_nil)))) (fss_one (fs_ret (fe_str)))
theorem d__law_times (T : SaysC fa fn exL fwL K mg) : DefA P w K mg base (cnL K) 1 "_law_times" s__law_times [] [] ["given", "ballot"] F__law_times :=
  DefA.of (N := N__law_times) (g := G__law_times) (T.dfn (dd := []) (kd := []) 27 7) sc__law_times fun f cdv A outer s H E hr => fss_one (fs_ret (fe_sum T.bt (fa_cons (fe_lc (own := [("other", 2), ("times", 3)]) rfl sc__law_times.nd (fi_sq (fe_v 0)) (blkOk_by (own := [("other", 2), ("times", 3)]) (N := N__law_times) (sc := defScope s__law_times) (by decide +kernel)) (fun _ _ _ _ _ => fg_t rfl (fgs_c (fg_n (i := 2) sc__law_times.nd rfl) (fgs_c (fg_n (i := 3) sc__law_times.nd rfl) (fgs_n)))) (fun _ _ _ _ _ => fts_one (ft_cmp (op_eqA (hu64 hr)) v2_eq (by first | exact nomark _ | rfl) (fe_v 2) (fe_v 1))) (fun _ _ _ _ _ => fe_v 3)) (fa_nil))))
theorem d_Roll___getitem__ (T : SaysC fa fn exL fwL K mg) : DefM P w K mg base (cnL K) 1 52 "__getitem__" "Roll.__getitem__" s_Roll___getitem__ [] [] ["self", "ballot"] F_Roll___getitem__ :=
  DefM.of (N := N_Roll___getitem__) (g := G_Roll___getitem__) (T.met (x := "Roll") (dd := []) (kd := []) 46 50 8 rfl) sc_Roll___getitem__ fun f cdv A outer s H E hr => fss_cons (fs_for (zs := [2, 3]) (passes_of rfl) rfl (fi_sq (fe_fld (cs := [52]) (f := 51) rfl fn__rows (fa__rows_52 T) (fe_v 0))) (fg_t rfl (fgs_c (fg_n (i := 2) sc_Roll___getitem__.nd rfl) (fgs_c (fg_n (i := 3) sc_Roll___getitem__.nd rfl) (fgs_n)))) (fss_one (fs_if (ft_cmp (op_eqA (hu64 hr)) v2_eq (by first | exact nomark _ | rfl) (fe_v 2) (fe_v 1)) (fss_one (fs_ret (fe_v 3))) (fss_nil)))) (fss_one (fs_ret (fe_int)))
theorem d_Roll___contains__ (T : SaysC fa fn exL fwL K mg) : DefM P w K mg base (cnL K) 3 52 "__contains__" "Roll.__contains__" s_Roll___contains__ [] [] ["self", "ballot"] F_Roll___contains__ :=
  DefM.of (N := N_Roll___contains__) (g := G_Roll___contains__) (T.met (x := "Roll") (dd := []) (kd := []) 46 51 9 rfl) sc_Roll___contains__ fun f cdv A outer s H E hr => fss_one (fs_ret (fe_cmp op_gt v2_gt (by first | exact nomark _ | rfl) (fe_subO (d_Roll___getitem__ T) b_Roll___getitem__ hr (takes_of rfl rfl rfl rfl) (fe_v 0) (fe_v 1)) (fe_int)))
theorem d_Roll___len__ (T : SaysC fa fn exL fwL K mg) : DefM P w K mg base (cnL K) 1 52 "__len__" "Roll.__len__" s_Roll___len__ [] [] ["self"] F_Roll___len__ :=
  DefM.of (N := N_Roll___len__) (g := G_Roll___len__) (T.met (x := "Roll") (dd := []) (kd := []) 46 52 10 rfl) sc_Roll___len__ fun f cdv A outer s H E hr => fss_one (fs_ret (fe_len T.bt (fa_cons (fe_fld (cs := [52]) (f := 51) rfl fn__rows (fa__rows_52 T) (fe_v 0)) (fa_nil))))
theorem d__law_as_told (T : SaysC fa fn exL fwL K mg) : DefA P w K mg base (cnL K) 9 "_law_as_told" s__law_as_told [] [] ["roll", "choices", "given"] F__law_as_told :=
  DefA.of (N := N__law_as_told) (g := G__law_as_told) (T.dfn (dd := []) (kd := []) 28 11) sc__law_as_told fun f cdv A outer s H E hr => fss_cons (fs_own (i := 3) sc__law_as_told.nd rfl (fl_lst (fa_nil))) (fss_cons (fs_for (zs := [4]) (passes_of rfl) rfl (fi_sq (fe_a (d__law_all_ballots T) b__law_all_ballots hr (takes_of rfl rfl rfl rfl) (fa_cons (fe_v 1) (fa_nil)))) (fg_n (i := 4) sc__law_as_told.nd rfl) (fss_cons (fs_set (i := 5) sc__law_as_told.nd rfl (fe_a (d__law_times T) b__law_times hr (takes_of rfl rfl rfl rfl) (fa_cons (fe_v 2) (fa_cons (fe_v 4) (fa_nil))))) (fss_cons (fs_if (ft_cmp op_gt v2_gt (by first | exact nomark _ | rfl) (fe_v 5) (fe_int)) (fss_one (fs_app (i := 3) rfl (fe_tup (fa_cons (fe_v 4) (fa_cons (fe_v 5) (fa_nil)))))) (fss_nil)) (fss_one (fs_if (ft_w (fw_or (ft_not (ft_val (fe_a (d__law_same T) b__law_same hr (takes_of rfl rfl rfl rfl) (fa_cons (fe_subO (d_Roll___getitem__ T) b_Roll___getitem__ hr (takes_of rfl rfl rfl rfl) (fe_v 0) (fe_v 4)) (fa_cons (fe_v 5) (fa_nil)))))) (fw_or1 (ft_not (ft_val (fe_a (d__law_same T) b__law_same hr (takes_of rfl rfl rfl rfl) (fa_cons (fe_inO false (d_Roll___contains__ T) b_Roll___contains__ hr (takes_of rfl rfl rfl rfl) (fe_v 4) (fe_v 0)) (fa_cons (fe_cmp op_gt v2_gt (by first | exact nomark _ | rfl) (fe_v 5) (fe_int)) (fa_nil))))))))) (fss_one (fs_ret (fe_bl))) (fss_nil)))))) (fss_cons (fs_for (zs := [4]) (passes_of rfl) rfl (fi_sq (fe_a (d__law_no_ballots T) b__law_no_ballots hr (takes_of rfl rfl rfl rfl) (fa_cons (fe_v 1) (fa_cons (fe_v 2) (fa_cons (fe_a (d__law_strange T) b__law_strange hr (takes_of rfl rfl rfl rfl) (fa_cons (fe_v 1) (fa_nil))) (fa_nil)))))) (fg_n (i := 4) sc__law_as_told.nd rfl) (fss_one (fs_if (ft_w (fw_or (ft_not (ft_val (fe_a (d__law_same T) b__law_same hr (takes_of rfl rfl rfl rfl) (fa_cons (fe_subO (d_Roll___getitem__ T) b_Roll___getitem__ hr (takes_of rfl rfl rfl rfl) (fe_v 0) (fe_v 4)) (fa_cons (fe_int) (fa_nil)))))) (fw_or1 (ft_not (ft_val (fe_a (d__law_same T) b__law_same hr (takes_of rfl rfl rfl rfl) (fa_cons (fe_inO false (d_Roll___contains__ T) b_Roll___contains__ hr (takes_of rfl rfl rfl rfl) (fe_v 4) (fe_v 0)) (fa_cons (fe_bl) (fa_nil))))))))) (fss_one (fs_ret (fe_bl))) (fss_nil)))) (fss_cons (fs_frz 3 (fs_if (ft_w (fw_or (ft_not (ft_val (fe_a (d__law_same T) b__law_same hr (takes_of rfl rfl rfl rfl) (fa_cons (fe_fld (cs := [52]) (f := 44) rfl fn_options (fa_options_52 T) (fe_v 0)) (fa_cons (fe_tuplec T.bt (fa_cons (fe_v 1) (fa_nil))) (fa_nil)))))) (fw_or1 (ft_not (ft_val (fe_a (d__law_same T) b__law_same hr (takes_of rfl rfl rfl rfl) (fa_cons (fe_listO T.bt (d_Roll___iter__ T) (d_Roll___len__ T) b_Roll___len__ hr (fa_cons (fe_v 0) (fa_nil))) (fa_cons (fe_v 3) (fa_nil))))))))) (fss_one (fs_ret (fe_bl))) (fss_nil))) (fss_cons (fs_if (ft_not (ft_val (fe_a (d__law_same T) b__law_same hr (takes_of rfl rfl rfl rfl) (fa_cons (fe_fld (cs := [52]) (f := 4) rfl fn_total (fa_total_52 T) (fe_v 0)) (fa_cons (fe_sum T.bt (fa_cons (fe_lc (own := [("ballot", 4), ("times", 6)]) rfl sc__law_as_told.nd (fi_sq (fe_v 2)) (blkOk_by (own := [("ballot", 4), ("times", 6)]) (N := N__law_as_told) (sc := defScope s__law_as_told) (by decide +kernel)) (fun _ _ _ _ _ => fg_t rfl (fgs_c (fg_n (i := 4) sc__law_as_told.nd rfl) (fgs_c (fg_n (i := 6) sc__law_as_told.nd rfl) (fgs_n)))) (fun _ _ _ _ _ => fts_nil) (fun _ _ _ _ _ => fe_v 6)) (fa_nil))) (fa_nil)))))) (fss_one (fs_ret (fe_bl))) (fss_nil)) (fss_one (fs_frz 3 (fs_ret (fe_and (fe_a (d__law_same T) b__law_same hr (takes_of rfl rfl rfl rfl) (fa_cons (fe_lenO T.bt (d_Roll___len__ T) b_Roll___len__ hr (fa_cons (fe_v 0) (fa_nil))) (fa_cons (fe_len T.bt (fa_cons (fe_v 3) (fa_nil))) (fa_nil)))) (fe_one (fe_cmp (op_eqA (hu64 hr)) v2_eq (by first | exact nomark _ | rfl) (fe_a (d__law_nested T) b__law_nested hr (takes_of rfl rfl rfl rfl) (fa_cons (fe_v 0) (fa_nil))) (fe_op op_mul2 v2_mul (fe_len T.bt (fa_cons (fe_v 3) (fa_nil))) (fe_len T.bt (fa_cons (fe_v 3) (fa_nil))))))))))))))
theorem d__law_part (T : SaysC fa fn exL fwL K mg) : DefA P w K mg base (cnL K) 1 "_law_part" s__law_part [] [] ["pool", "spot", "under", "size"] F__law_part :=
  DefA.of (N := N__law_part) (g := G__law_part) (T.dfn (dd := []) (kd := []) 29 12) sc__law_part fun f cdv A outer s H E hr => fss_one (fs_ret (fe_op op_mod v2_mod (fe_op op_fdivW v2_div (fe_intc T.bt (fa_cons (fe_ix (fun _ _ => rfl) (fe_v 0) (fe_v 1)) (fa_nil))) (fe_v 2)) (fe_v 3)))
theorem d__law_ballots (T : SaysC fa fn exL fwL K mg) : DefA P w K mg base (cnL K) 2 "_law_ballots" s__law_ballots [] [] ["pool", "spot", "slate", "number"] F__law_ballots :=
  DefA.of (N := N__law_ballots) (g := G__law_ballots) (T.dfn (dd := []) (kd := []) 30 13) sc__law_ballots fun f cdv A outer s H E hr => fss_cons (fs_own (i := 4) sc__law_ballots.nd rfl (fl_lst (fa_nil))) (fss_cons (fs_for (zs := [5]) (passes_of rfl) rfl (fi_r1 rfl T.bt.range (fe_v 3)) (fg_n (i := 5) sc__law_ballots.nd rfl) (fss_cons (fs_own (i := 6) sc__law_ballots.nd rfl (fl_list rfl T.bt.list bb_list (fe_v 2))) (fss_cons (fs_own (i := 7) sc__law_ballots.nd rfl (fl_lst (fa_nil))) (fss_cons (fs_for (zs := [8]) (passes_of rfl) rfl (fi_r1 rfl T.bt.range (fe_op op_mod v2_mod (fe_a (d__law_part T) b__law_part hr (takes_of rfl rfl rfl rfl) (fa_cons (fe_v 0) (fa_cons (fe_op op_addA v2_add (fe_v 1) (fe_op op_mul2 v2_mul (fe_int) (fe_v 5))) (fa_cons (fe_int) (fa_cons (fe_int) (fa_nil)))))) (fe_op op_addA v2_add (fe_len T.bt (fa_cons (fe_v 2) (fa_nil))) (fe_int)))) (fg_n (i := 8) sc__law_ballots.nd rfl) (fss_one (fs_appPop (i := 7) (j := 6) rfl rfl (fe_bor (fe_op op_mod v2_mod (fe_a (d__law_part T) b__law_part hr (takes_of rfl rfl rfl rfl) (fa_cons (fe_v 0) (fa_cons (fe_op op_addA v2_add (fe_op op_addA v2_add (fe_v 1) (fe_op op_mul2 v2_mul (fe_int) (fe_v 5))) (fe_int)) (fa_cons (fe_ix (fun _ _ => rfl) (fe_lst (fa_cons (fe_int) (fa_cons (fe_int) (fa_cons (fe_int) (fa_cons (fe_int) (fa_nil)))))) (fe_v 8)) (fa_cons (fe_ix (fun _ _ => rfl) (fe_lst (fa_cons (fe_int) (fa_cons (fe_int) (fa_cons (fe_int) (fa_cons (fe_int) (fa_nil)))))) (fe_v 8)) (fa_nil)))))) (fe_len T.bt (fa_cons (fe_v 6) (fa_nil)))))))) (fss_cons (fs_set (i := 9) sc__law_ballots.nd rfl (fe_a (d__law_part T) b__law_part hr (takes_of rfl rfl rfl rfl) (fa_cons (fe_v 0) (fa_cons (fe_op op_addA v2_add (fe_v 1) (fe_op op_mul2 v2_mul (fe_int) (fe_v 5))) (fa_cons (fe_int) (fa_cons (fe_int) (fa_nil))))))) (fss_cons (fs_if (ft_cmp (op_eqA (hu64 hr)) v2_eq (by first | exact nomark _ | rfl) (fe_a (d__law_part T) b__law_part hr (takes_of rfl rfl rfl rfl) (fa_cons (fe_v 0) (fa_cons (fe_op op_addA v2_add (fe_v 1) (fe_op op_mul2 v2_mul (fe_int) (fe_v 5))) (fa_cons (fe_int) (fa_cons (fe_int) (fa_nil)))))) (fe_int)) (fss_one (fs_set (i := 9) sc__law_ballots.nd rfl (fe_op op_sub v2_sub (fe_op op_pow v2_pow (fe_int) (fe_int)) (fe_v 9)))) (fss_nil)) (fss_one (fs_frz 7 (fs_app (i := 4) rfl (fe_tup (fa_cons (fe_tuplec T.bt (fa_cons (fe_v 7) (fa_nil))) (fa_cons (fe_v 9) (fa_nil))))))))))))) (fss_one (fs_frz 4 (fs_ret (fe_v 4)))))
theorem d__law_big (T : SaysC fa fn exL fwL K mg) : DefA P w K mg base (cnL K) 1 "_law_big" s__law_big [] [] ["pool", "spot", "least", "crest"] F__law_big :=
  DefA.of (N := N__law_big) (g := G__law_big) (T.dfn (dd := []) (kd := []) 31 14) sc__law_big fun f cdv A outer s H E hr => fss_cons (fs_set (i := 4) sc__law_big.nd rfl (fe_op op_addA v2_add (fe_op op_addA v2_add (fe_op op_mul2 v2_mul (fe_op op_mod v2_mod (fe_intc T.bt (fa_cons (fe_ix (fun _ _ => rfl) (fe_v 0) (fe_v 1)) (fa_nil))) (fe_int)) (fe_int)) (fe_op op_mul2 v2_mul (fe_op op_mod v2_mod (fe_intc T.bt (fa_cons (fe_ix (fun _ _ => rfl) (fe_v 0) (fe_op op_addA v2_add (fe_v 1) (fe_int))) (fa_nil))) (fe_int)) (fe_int))) (fe_op op_mod v2_mod (fe_intc T.bt (fa_cons (fe_ix (fun _ _ => rfl) (fe_v 0) (fe_op op_addA v2_add (fe_v 1) (fe_int))) (fa_nil))) (fe_int)))) (fss_one (fs_ret (fe_op op_addA v2_add (fe_v 2) (fe_op op_mod v2_mod (fe_intc T.bt (fa_cons (fe_v 4) (fa_nil))) (fe_op op_addA v2_add (fe_op op_sub v2_sub (fe_v 3) (fe_v 2)) (fe_int))))))
theorem d__law_cell (T : SaysC fa fn exL fwL K mg) : DefA P w K mg base (cnL K) 1 "_law_cell" s__law_cell [] [] ["script", "k"] F__law_cell :=
  DefA.of (N := N__law_cell) (g := G__law_cell) (T.dfn (dd := []) (kd := []) 32 15) sc__law_cell fun f cdv A outer s H E hr => fss_cons (fs_if (ft_cmp op_lt v2_lt (by first | exact nomark _ | rfl) (fe_v 1) (fe_len T.bt (fa_cons (fe_v 0) (fa_nil)))) (fss_one (fs_ret (fe_ix (fun _ _ => rfl) (fe_v 0) (fe_v 1)))) (fss_nil)) (fss_cons (fs_set (i := 2) sc__law_cell.nd rfl (fe_op op_mul2 v2_mul (fe_int) (fe_op op_addA v2_add (fe_v 1) (fe_int)))) (fss_cons (fs_for (zs := [3]) (passes_of rfl) rfl (fi_r1 rfl T.bt.range (fe_len T.bt (fa_cons (fe_v 0) (fa_nil)))) (fg_n (i := 3) sc__law_cell.nd rfl) (fss_one (fs_set (i := 2) sc__law_cell.nd rfl (fe_op op_mod v2_mod (fe_op op_addA v2_add (fe_v 2) (fe_op op_mul2 v2_mul (fe_op op_mul2 v2_mul (fe_op op_addA v2_add (fe_v 3) (fe_int)) (fe_op op_mod v2_mod (fe_abs T.bt (fa_cons (fe_ix (fun _ _ => rfl) (fe_v 0) (fe_v 3)) (fa_nil))) (fe_int))) (fe_int))) (fe_int))))) (fss_one (fs_ret (fe_v 2)))))
theorem d__law_each_ballot (T : SaysC fa fn exL fwL K mg) : DefA P w K mg base (cnL K) 2 "_law_each_ballot" s__law_each_ballot [] [] ["choices", "draws"] F__law_each_ballot :=
  DefA.of (N := N__law_each_ballot) (g := G__law_each_ballot) (T.dfn (dd := []) (kd := []) 33 16) sc__law_each_ballot fun f cdv A outer s H E hr => fss_cons (fs_set (i := 2) sc__law_each_ballot.nd rfl (fe_ix (fun _ _ => rfl) (fe_lst (fa_cons (fe_int) (fa_cons (fe_int) (fa_cons (fe_int) (fa_nil))))) (fe_a (d__law_part T) b__law_part hr (takes_of rfl rfl rfl rfl) (fa_cons (fe_v 1) (fa_cons (fe_int) (fa_cons (fe_int) (fa_cons (fe_int) (fa_nil)))))))) (fss_cons (fs_set (i := 3) sc__law_each_ballot.nd rfl (fe_a (d__law_all_ballots T) b__law_all_ballots hr (takes_of rfl rfl rfl rfl) (fa_cons (fe_v 0) (fa_nil)))) (fss_one (fs_ret (fe_lc (own := [("k", 4)]) rfl sc__law_each_ballot.nd (fi_r1 rfl T.bt.range (fe_len T.bt (fa_cons (fe_v 3) (fa_nil)))) (blkOk_by (own := [("k", 4)]) (N := N__law_each_ballot) (sc := defScope s__law_each_ballot) (by decide +kernel)) (fun _ _ _ _ _ => fg_n (i := 4) sc__law_each_ballot.nd rfl) (fun _ _ _ _ _ => fts_nil) (fun _ _ _ _ _ => fe_tup (fa_cons (fe_ix (fun _ _ => rfl) (fe_v 3) (fe_v 4)) (fa_cons (fe_op op_mod v2_mod (fe_a (d__law_part T) b__law_part hr takes0 (fa_cons (fe_v 1) (fa_cons (fe_op op_fdivW v2_div (fe_v 4) (fe_int)) (fa_cons (fe_ix (fun _ _ => rfl) (fe_lst (fa_cons (fe_int) (fa_cons (fe_int) (fa_nil)))) (fe_op op_mod v2_mod (fe_v 4) (fe_int))) (fa_cons (fe_int) (fa_nil)))))) (fe_v 2)) (fa_nil))))))))
theorem d__law_names (T : SaysC fa fn exL fwL K mg) : DefA P w K mg base (cnL K) 2 "_law_names" s__law_names [] [] ["pool", "spot", "number"] F__law_names :=
  DefA.of (N := N__law_names) (g := G__law_names) (T.dfn (dd := []) (kd := []) 34 17) sc__law_names fun f cdv A outer s H E hr => fss_cons (fs_set (i := 3) sc__law_names.nd rfl (fe_str)) (fss_cons (fs_set (i := 4) sc__law_names.nd rfl (fe_str)) (fss_cons (fs_for (zs := [5]) (passes_of rfl) rfl (fi_r1 rfl T.bt.range (fe_int)) (fg_n (i := 5) sc__law_names.nd rfl) (fss_one (fs_set (i := 4) sc__law_names.nd rfl (fe_op op_addA v2_add (fe_op op_addA v2_add (fe_v 4) (fe_ix (fun _ _ => rfl) (fe_v 3) (fe_a (d__law_part T) b__law_part hr (takes_of rfl rfl rfl rfl) (fa_cons (fe_v 0) (fa_cons (fe_op op_addA v2_add (fe_v 1) (fe_v 5)) (fa_cons (fe_int) (fa_cons (fe_int) (fa_nil)))))))) (fe_ix (fun _ _ => rfl) (fe_v 3) (fe_a (d__law_part T) b__law_part hr (takes_of rfl rfl rfl rfl) (fa_cons (fe_v 0) (fa_cons (fe_op op_addA v2_add (fe_v 1) (fe_v 5)) (fa_cons (fe_int) (fa_cons (fe_int) (fa_nil))))))))))) (fss_cons (fs_set (i := 6) sc__law_names.nd rfl (fe_a (d__law_part T) b__law_part hr (takes_of rfl rfl rfl rfl) (fa_cons (fe_v 0) (fa_cons (fe_op op_addA v2_add (fe_v 1) (fe_int)) (fa_cons (fe_int) (fa_cons (fe_int) (fa_nil))))))) (fss_cons (fs_set (i := 7) sc__law_names.nd rfl (fe_a (d__law_part T) b__law_part hr (takes_of rfl rfl rfl rfl) (fa_cons (fe_v 0) (fa_cons (fe_op op_addA v2_add (fe_v 1) (fe_int)) (fa_cons (fe_int) (fa_cons (fe_int) (fa_nil))))))) (fss_cons (fs_set (i := 8) sc__law_names.nd rfl (fe_a (d__law_part T) b__law_part hr (takes_of rfl rfl rfl rfl) (fa_cons (fe_v 0) (fa_cons (fe_op op_addA v2_add (fe_v 1) (fe_int)) (fa_cons (fe_int) (fa_cons (fe_int) (fa_nil))))))) (fss_cons (fs_set (i := 9) sc__law_names.nd rfl (fe_sl (fe_v 4) (fo_n) (fo_s (fe_a (d__law_part T) b__law_part hr (takes_of rfl rfl rfl rfl) (fa_cons (fe_v 0) (fa_cons (fe_op op_addA v2_add (fe_v 1) (fe_int)) (fa_cons (fe_int) (fa_cons (fe_int) (fa_nil))))))))) (fss_cons (fs_set (i := 10) sc__law_names.nd rfl (fe_sl (fe_v 4) (fo_n) (fo_s (fe_a (d__law_part T) b__law_part hr (takes_of rfl rfl rfl rfl) (fa_cons (fe_v 0) (fa_cons (fe_op op_addA v2_add (fe_v 1) (fe_int)) (fa_cons (fe_int) (fa_cons (fe_int) (fa_nil))))))))) (fss_cons (fs_own (i := 11) sc__law_names.nd rfl (fl_lst (fa_nil))) (fss_cons (fs_for (zs := [5]) (passes_of rfl) rfl (fi_r1 rfl T.bt.range (fe_v 2)) (fg_n (i := 5) sc__law_names.nd rfl) (fss_cons (fs_set (i := 12) sc__law_names.nd rfl (fe_op op_mod v2_mod (fe_intc T.bt (fa_cons (fe_op op_addA v2_add (fe_v 5) (fe_v 6)) (fa_nil))) (fe_int))) (fss_one (fs_if (ft_cmp (op_eqA (hu64 hr)) v2_eq (by first | exact nomark _ | rfl) (fe_a (d__law_part T) b__law_part hr (takes_of rfl rfl rfl rfl) (fa_cons (fe_v 0) (fa_cons (fe_op op_addA v2_add (fe_v 1) (fe_int)) (fa_cons (fe_int) (fa_cons (fe_int) (fa_nil)))))) (fe_int)) (fss_one (fs_app (i := 11) rfl (fe_op op_addA v2_add (fe_op op_addA v2_add (fe_op op_addA v2_add (fe_sl (fe_v 9) (fo_n) (fo_s (fe_v 7))) (fe_ix (fun _ _ => rfl) (fe_v 3) (fe_op op_mod v2_mod (fe_intc T.bt (fa_cons (fe_op op_addA v2_add (fe_v 8) (fe_op op_mul2 v2_mul (fe_int) (fe_v 12))) (fa_nil))) (fe_int)))) (fe_sl (fe_v 9) (fo_s (fe_v 7)) (fo_n))) (fe_v 10)))) (fss_one (fs_app (i := 11) rfl (fe_sl (fe_v 4) (fo_n) (fo_s (fe_op op_addA v2_add (fe_v 12) (fe_int)))))))))) (fss_one (fs_frz 11 (fs_ret (fe_v 11)))))))))))))
theorem d_check_ballot (T : SaysC fa fn exL fwL K mg) : DefA P w K mg base (cnL K) 1 "check_ballot" s_check_ballot [] [] ["options", "ballot"] F_check_ballot :=
  DefA.of (N := N_check_ballot) (g := G_check_ballot) (T.dfn (dd := []) (kd := []) 35 18) sc_check_ballot fun f cdv A outer s H E hr => fss_one (fs_for (zs := [2, 3]) (passes_of rfl) rfl (fi_en2 rfl T.bt.enumerate (fe_v 1)) (fg_t rfl (fgs_c (fg_n (i := 2) sc_check_ballot.nd rfl) (fgs_c (fg_n (i := 3) sc_check_ballot.nd rfl) (fgs_n)))) (fss_cons (fs_if (ft_cmp (op_ninA (hu65 hr)) v2_nin (by first | exact nomark _ | rfl) (fe_v 3) (fe_v 0)) (fss_never) (fss_nil)) (fss_one (fs_if (ft_cmp (op_inA (hu65 hr)) v2_in (by first | exact nomark _ | rfl) (fe_v 3) (fe_sl (fe_v 1) (fo_n) (fo_s (fe_v 2)))) (fss_never) (fss_nil)))))
theorem d_is_name (T : SaysC fa fn exL fwL K mg) : DefA P w K mg base (cnL K) 1 "is_name" s_is_name [] [] ["word"] F_is_name :=
  DefA.of (N := N_is_name) (g := G_is_name) (T.dfn (dd := []) (kd := []) 36 19) sc_is_name fun f cdv A outer s H E hr => fss_cons (fs_if (ft_not (ft_chain op_le v2_le op_le v2_le (fe_int) (fe_len T.bt (fa_cons (fe_v 0) (fa_nil))) (fe_glb (T.int 18)))) (fss_one (fs_ret (fe_bl))) (fss_nil)) (fss_one (fs_ret (fe_all T.bt (fa_cons (fe_lc (own := [("letter", 1)]) rfl sc_is_name.nd (fi_sq (fe_v 0)) (blkOk_by (own := [("letter", 1)]) (N := N_is_name) (sc := defScope s_is_name) (by decide +kernel)) (fun _ _ _ _ _ => fg_n (i := 1) sc_is_name.nd rfl) (fun _ _ _ _ _ => fts_nil) (fun _ _ _ _ _ => fe_cmp (op_inA (hu65 hr)) v2_in (by first | exact nomark _ | rfl) (fe_v 1) (fe_glb (T.str 19)))) (fa_nil)))))
theorem d_checked_names (T : SaysC fa fn exL fwL K mg) : DefA P w K mg base (cnL K) 2 "checked_names" s_checked_names [] [("hook", .bl false)] ["names", "most", "hook"] F_checked_names :=
  DefA.of (N := N_checked_names) (g := G_checked_names) (T.dfn (dd := []) (kd := [("hook", .bl false)]) 37 20) sc_checked_names fun f cdv A outer s H E hr => fss_cons (fs_if (ft_not (ft_chain op_le v2_le op_le v2_le (fe_int) (fe_len T.bt (fa_cons (fe_v 0) (fa_nil))) (fe_v 1))) (fss_never) (fss_nil)) (fss_cons (fs_for (zs := [3, 4]) (passes_of rfl) rfl (fi_en2 rfl T.bt.enumerate (fe_v 0)) (fg_t rfl (fgs_c (fg_n (i := 3) sc_checked_names.nd rfl) (fgs_c (fg_n (i := 4) sc_checked_names.nd rfl) (fgs_n)))) (fss_cons (fs_if (ft_w (fw_and (ft_not (ft_val (fe_a (d_is_name T) b_is_name hr (takes_of rfl rfl rfl rfl) (fa_cons (fe_v 4) (fa_nil))))) (fw_and1 (ft_not (ft_w (fw_and (ft_val (fe_v 2)) (fw_and1 (ft_cmp (op_eqA (hu64 hr)) v2_eq (by first | exact nomark _ | rfl) (fe_v 4) (fe_str))))))))) (fss_never) (fss_nil)) (fss_one (fs_if (ft_cmp (op_inA (hu65 hr)) v2_in (by first | exact nomark _ | rfl) (fe_v 4) (fe_sl (fe_v 0) (fo_n) (fo_s (fe_v 3)))) (fss_never) (fss_nil))))) (fss_one (fs_ret (fe_tupz T.bt (fa_cons (fe_v 0) (fa_nil))))))
theorem d_ordered_rows (T : SaysC fa fn exL fwL K mg) : DefA P w K mg base (cnL K) 1 "ordered_rows" s_ordered_rows [] [] ["options", "counts"] F_ordered_rows :=
  DefA.of (N := N_ordered_rows) (g := G_ordered_rows) (T.dfn (dd := []) (kd := []) 38 21) sc_ordered_rows fun f cdv A outer s H E hr => fss_cons (fs_set (i := 2) sc_ordered_rows.nd rfl (fe_new (fn_dc (own := [("place", 5), ("option", 6)]) rfl sc_ordered_rows.nd (fi_en2 rfl T.bt.enumerate (fe_v 0)) (blkOk_by (own := [("place", 5), ("option", 6)]) (N := N_ordered_rows) (sc := defScope s_ordered_rows) (by decide +kernel)) (fun _ _ _ _ _ => fg_t rfl (fgs_c (fg_n (i := 5) sc_ordered_rows.nd rfl) (fgs_c (fg_n (i := 6) sc_ordered_rows.nd rfl) (fgs_n)))) (fun _ _ _ _ _ => fts_nil) (fun _ _ _ _ _ => fe_v 6) (fun _ _ _ _ _ => fe_v 5)))) (fss_cons (fs_set (i := 3) sc_ordered_rows.nd rfl (fe_sortedT (hu65 hr) T.bt (fa_cons (fe_lckT 1 (fe_lc (own := [("ballot", 7)]) rfl sc_ordered_rows.nd (fi_keyT (fe_v 1)) (blkOk_by (own := [("ballot", 7)]) (N := N_ordered_rows) (sc := defScope s_ordered_rows) (by decide +kernel)) (fun _ _ _ _ _ => fg_n (i := 7) sc_ordered_rows.nd rfl) (fun _ _ _ _ _ => fts_one (ft_cmp op_gt v2_gt (by first | exact nomark _ | rfl) (fe_ixA (hu65 hr) (fun _ _ => rfl) (fe_v 1) (fe_v 7)) (fe_int))) (fun _ _ _ _ _ => fe_tuplec T.bt (fa_cons (fe_lc (own := [("option", 6)]) rfl sc_ordered_rows.nd (fi_sq (fe_v 7)) (blkOk_by (own := [("option", 6)]) (by kernel_rfl)) (fun _ _ _ _ _ => fg_n (i := 6) sc_ordered_rows.nd rfl) (fun _ _ _ _ _ => fts_nil) (fun _ _ _ _ _ => fe_ixA (hu65 hr) (fun _ _ => rfl) (fe_v 2) (fe_v 6))) (fa_nil))))) (fa_nil)))) (fss_cons (fs_setLc (own := [("row", 8)]) (i := 4) rfl sc_ordered_rows.nd rfl rfl (sw_true rfl rfl rfl (by decide +kernel)) (fi_sq (fe_v 3)) (blkOk_by (own := [("row", 8)]) (N := N_ordered_rows) (sc := defScope s_ordered_rows) (by decide +kernel)) (fun _ _ _ _ _ => fg_n (i := 8) sc_ordered_rows.nd rfl) (fun _ _ _ _ _ => fts_nil) (fun _ _ _ _ _ => fe_tuplec T.bt (fa_cons (fe_lc (own := [("place", 5)]) rfl sc_ordered_rows.nd (fi_sq (fe_v 8)) (blkOk_by (own := [("place", 5)]) (by kernel_rfl)) (fun _ _ _ _ _ => fg_n (i := 5) sc_ordered_rows.nd rfl) (fun _ _ _ _ _ => fts_nil) (fun _ _ _ _ _ => fe_ix (fun _ _ => rfl) (fe_v 0) (fe_v 5))) (fa_nil)))) (fss_one (fs_ret (fe_tuplec T.bt (fa_cons (fe_lc (own := [("ballot", 7)]) rfl sc_ordered_rows.nd (fi_sq (fe_v 4)) (blkOk_by (own := [("ballot", 7)]) (N := N_ordered_rows) (sc := defScope s_ordered_rows) (by decide +kernel)) (fun _ _ _ _ _ => fg_n (i := 7) sc_ordered_rows.nd rfl) (fun _ _ _ _ _ => fts_nil) (fun _ _ _ _ _ => fe_tup (fa_cons (fe_v 7) (fa_cons (fe_ixA (hu65 hr) (fun _ _ => rfl) (fe_v 1) (fe_v 7)) (fa_nil))))) (fa_nil)))))))
theorem d_Roll___init__ (T : SaysC fa fn exL fwL K mg) : DefI P w K mg base (cnL K) 3 52 "Roll" "Roll.__init__" s_Roll___init__ [.tp0] [("largest", .int 1000000000)] ["self", "options", "rows", "largest"] F_Roll___init__ :=
  DefI.of (N := N_Roll___init__) (g := G_Roll___init__) (T.cltD (dd := [.tp0]) (kd := [("largest", .int 1000000000)]) 47 45 22 rfl (fun p m e => by
    simp only [List.zipIdx_cons, List.zipIdx_nil, List.mem_cons, List.not_mem_nil, or_false] at m
    subst m
    · exact List.all_eq_true.mp T.u _ (by simp)) ) sc_Roll___init__ (by decide) fun f cdv A outer s H E hr => fss_cons (fs_fldO (i := 0) (f := 44) rfl rfl fn_options (ff_Roll_options T) (fe_ak (d_checked_names T) (fun F => kb_checked_names_2 F) hr (takes_of rfl rfl rfl rfl) (fa_cons (fe_v 1) (fa_cons (fe_glb (T.int 20)) (fa_nil))) (fk_nil))) (fss_cons (fs_new (i := 4) sc_Roll___init__.nd rfl fn_dT) (fss_cons (fs_for (zs := [5, 6]) (passes_of rfl) rfl (fi_sq (fe_v 2)) (fg_t rfl (fgs_c (fg_n (i := 5) sc_Roll___init__.nd rfl) (fgs_c (fg_n (i := 6) sc_Roll___init__.nd rfl) (fgs_n)))) (fss_cons (fs_expr (fe_a (d_check_ballot T) b_check_ballot hr (takes_of rfl rfl rfl rfl) (fa_cons (fe_fldO (i := 0) (f := 44) rfl rfl fn_options (ff_Roll_options T)) (fa_cons (fe_v 5) (fa_nil))))) (fss_cons (fs_if (ft_w (fw_or (ft_cmp op_lt v2_lt (by first | exact nomark _ | rfl) (fe_v 6) (fe_int)) (fw_or1 (ft_w (fw_and (ft_cmp op_notN v2_notN (by first | exact nomark _ | rfl) (fe_v 3) (fe_non)) (fw_and1 (ft_cmp op_gt v2_gt (by first | exact nomark _ | rfl) (fe_v 6) (fe_v 3)))))))) (fss_never) (fss_nil)) (fss_one (fs_putT (i := 4) (hu65 hr) rfl (fe_bor (fe_op op_addA v2_add (fe_get2 (hu65 hr) (fe_v 4) (fe_v 5) (fe_int)) (fe_v 6))) (fe_v 5)))))) (fss_cons (fs_frz 4 (fs_fldO (i := 0) (f := 51) rfl rfl fn__rows (ff_Roll__rows T) (fe_a (d_ordered_rows T) b_ordered_rows hr (takes_of rfl rfl rfl rfl) (fa_cons (fe_fldO (i := 0) (f := 44) rfl rfl fn_options (ff_Roll_options T)) (fa_cons (fe_v 4) (fa_nil)))))) (fss_one (fs_fldO (i := 0) (f := 4) rfl rfl fn_total (ff_Roll_total T) (fe_sum T.bt (fa_cons (fe_lc (own := [("ballot", 5), ("many", 6)]) rfl sc_Roll___init__.nd (fi_sq (fe_fldO (i := 0) (f := 51) rfl rfl fn__rows (ff_Roll__rows T))) (blkOk_by (own := [("ballot", 5), ("many", 6)]) (N := N_Roll___init__) (sc := defScope s_Roll___init__) (by decide +kernel)) (fun _ _ _ _ _ => fg_t rfl (fgs_c (fg_n (i := 5) sc_Roll___init__.nd rfl) (fgs_c (fg_n (i := 6) sc_Roll___init__.nd rfl) (fgs_n)))) (fun _ _ _ _ _ => fts_nil) (fun _ _ _ _ _ => fe_v 6)) (fa_nil))))))))
theorem d_Roll_of (T : SaysC fa fn exL fwL K mg) : DefCm P w K mg base (cnL K) 5 52 "Roll" "of" "Roll.of" s_Roll_of [] [("many", .int 1)] ["cls", "options", "many"] "ballots" F_Roll_of :=
  DefCm.of (N := N_Roll_of) (g := G_Roll_of) (T.cm (x := "Roll") (dd := []) (kd := [("many", .int 1)]) 45 0 rfl (List.all_eq_true.mp T.u _ (by simp)) (List.all_eq_true.mp T.u _ (by simp))) sc_Roll_of fun f cdv A outer s H E hr => fss_one (fs_retF (fn_makeVK (d_Roll___init__ T) (fun F => kb_Roll___init___2 F) hr (takes_of rfl rfl rfl rfl) (fe_v 0) (fa_cons (fe_v 1) (fa_cons (fe_lc (own := [("ballot", 4)]) rfl sc_Roll_of.nd (fi_sq (fe_v 3)) (blkOk_by (own := [("ballot", 4)]) (N := N_Roll_of) (sc := defScope s_Roll_of) (by decide +kernel)) (fun _ _ _ _ _ => fg_n (i := 4) sc_Roll_of.nd rfl) (fun _ _ _ _ _ => fts_nil) (fun _ _ _ _ _ => fe_tup (fa_cons (fe_v 4) (fa_cons (fe_v 2) (fa_nil))))) (fa_nil))) (fk_nil)))
theorem d__law_of (T : SaysC fa fn exL fwL K mg) : DefA P w K mg base (cnL K) 6 "_law_of" s__law_of [] [] ["choices", "ballots", "times"] F__law_of :=
  DefA.of (N := N__law_of) (g := G__law_of) (T.dfn (dd := []) (kd := []) 39 23) sc__law_of fun f cdv A outer s H E hr => fss_cons (fs_if (ft_cmp (op_eqA (hu64 hr)) v2_eq (by first | exact nomark _ | rfl) (fe_len T.bt (fa_cons (fe_v 1) (fa_nil))) (fe_int)) (fss_one (fs_ret (fe_new (fn_cmS (d_Roll_of T) (fun F => kb_Roll_of_1_many F) hr (takes_of rfl rfl rfl rfl) (fa_cons (fe_v 0) (fa_nil)) (fk_cons (fe_v 2) (fk_nil)))))) (fss_nil)) (fss_cons (fs_if (ft_cmp (op_eqA (hu64 hr)) v2_eq (by first | exact nomark _ | rfl) (fe_len T.bt (fa_cons (fe_v 1) (fa_nil))) (fe_int)) (fss_one (fs_ret (fe_new (fn_cmS (d_Roll_of T) (fun F => kb_Roll_of_1_many F) hr (takes_of rfl rfl rfl rfl) (fa_cons (fe_v 0) (fa_cons (fe_ix (fun _ _ => rfl) (fe_v 1) (fe_int)) (fa_nil))) (fk_cons (fe_v 2) (fk_nil)))))) (fss_nil)) (fss_cons (fs_if (ft_cmp (op_eqA (hu64 hr)) v2_eq (by first | exact nomark _ | rfl) (fe_len T.bt (fa_cons (fe_v 1) (fa_nil))) (fe_int)) (fss_one (fs_ret (fe_new (fn_cmS (d_Roll_of T) (fun F => kb_Roll_of_1_many F) hr (takes_of rfl rfl rfl rfl) (fa_cons (fe_v 0) (fa_cons (fe_ix (fun _ _ => rfl) (fe_v 1) (fe_int)) (fa_cons (fe_ix (fun _ _ => rfl) (fe_v 1) (fe_int)) (fa_nil)))) (fk_cons (fe_v 2) (fk_nil)))))) (fss_nil)) (fss_cons (fs_if (ft_cmp (op_eqA (hu64 hr)) v2_eq (by first | exact nomark _ | rfl) (fe_len T.bt (fa_cons (fe_v 1) (fa_nil))) (fe_int)) (fss_one (fs_ret (fe_new (fn_cmS (d_Roll_of T) (fun F => kb_Roll_of_1_many F) hr (takes_of rfl rfl rfl rfl) (fa_cons (fe_v 0) (fa_cons (fe_ix (fun _ _ => rfl) (fe_v 1) (fe_int)) (fa_cons (fe_ix (fun _ _ => rfl) (fe_v 1) (fe_int)) (fa_cons (fe_ix (fun _ _ => rfl) (fe_v 1) (fe_int)) (fa_nil))))) (fk_cons (fe_v 2) (fk_nil)))))) (fss_nil)) (fss_cons (fs_if (ft_cmp (op_eqA (hu64 hr)) v2_eq (by first | exact nomark _ | rfl) (fe_len T.bt (fa_cons (fe_v 1) (fa_nil))) (fe_int)) (fss_one (fs_ret (fe_new (fn_cmS (d_Roll_of T) (fun F => kb_Roll_of_1_many F) hr (takes_of rfl rfl rfl rfl) (fa_cons (fe_v 0) (fa_cons (fe_ix (fun _ _ => rfl) (fe_v 1) (fe_int)) (fa_cons (fe_ix (fun _ _ => rfl) (fe_v 1) (fe_int)) (fa_cons (fe_ix (fun _ _ => rfl) (fe_v 1) (fe_int)) (fa_cons (fe_ix (fun _ _ => rfl) (fe_v 1) (fe_int)) (fa_nil)))))) (fk_cons (fe_v 2) (fk_nil)))))) (fss_nil)) (fss_cons (fs_if (ft_cmp (op_eqA (hu64 hr)) v2_eq (by first | exact nomark _ | rfl) (fe_len T.bt (fa_cons (fe_v 1) (fa_nil))) (fe_int)) (fss_one (fs_ret (fe_new (fn_cmS (d_Roll_of T) (fun F => kb_Roll_of_1_many F) hr (takes_of rfl rfl rfl rfl) (fa_cons (fe_v 0) (fa_cons (fe_ix (fun _ _ => rfl) (fe_v 1) (fe_int)) (fa_cons (fe_ix (fun _ _ => rfl) (fe_v 1) (fe_int)) (fa_cons (fe_ix (fun _ _ => rfl) (fe_v 1) (fe_int)) (fa_cons (fe_ix (fun _ _ => rfl) (fe_v 1) (fe_int)) (fa_cons (fe_ix (fun _ _ => rfl) (fe_v 1) (fe_int)) (fa_nil))))))) (fk_cons (fe_v 2) (fk_nil)))))) (fss_nil)) (fss_one (fs_ret (fe_new (fn_cmS (d_Roll_of T) (fun F => kb_Roll_of_1_many F) hr (takes_of rfl rfl rfl rfl) (fa_cons (fe_v 0) (fa_cons (fe_ix (fun _ _ => rfl) (fe_v 1) (fe_int)) (fa_cons (fe_ix (fun _ _ => rfl) (fe_v 1) (fe_int)) (fa_cons (fe_ix (fun _ _ => rfl) (fe_v 1) (fe_int)) (fa_cons (fe_ix (fun _ _ => rfl) (fe_v 1) (fe_int)) (fa_cons (fe_ix (fun _ _ => rfl) (fe_v 1) (fe_int)) (fa_cons (fe_ix (fun _ _ => rfl) (fe_v 1) (fe_int)) (fa_nil)))))))) (fk_cons (fe_v 2) (fk_nil)))))))))))
theorem d__law_of_once (T : SaysC fa fn exL fwL K mg) : DefA P w K mg base (cnL K) 6 "_law_of_once" s__law_of_once [] [] ["choices", "ballots"] F__law_of_once :=
  DefA.of (N := N__law_of_once) (g := G__law_of_once) (T.dfn (dd := []) (kd := []) 40 24) sc__law_of_once fun f cdv A outer s H E hr => fss_cons (fs_if (ft_cmp (op_eqA (hu64 hr)) v2_eq (by first | exact nomark _ | rfl) (fe_len T.bt (fa_cons (fe_v 1) (fa_nil))) (fe_int)) (fss_one (fs_ret (fe_new (fn_cmS (d_Roll_of T) (fun F => kb_Roll_of_1 F) hr (takes_of rfl rfl rfl rfl) (fa_cons (fe_v 0) (fa_nil)) (fk_nil))))) (fss_nil)) (fss_cons (fs_if (ft_cmp (op_eqA (hu64 hr)) v2_eq (by first | exact nomark _ | rfl) (fe_len T.bt (fa_cons (fe_v 1) (fa_nil))) (fe_int)) (fss_one (fs_ret (fe_new (fn_cmS (d_Roll_of T) (fun F => kb_Roll_of_1 F) hr (takes_of rfl rfl rfl rfl) (fa_cons (fe_v 0) (fa_cons (fe_ix (fun _ _ => rfl) (fe_v 1) (fe_int)) (fa_nil))) (fk_nil))))) (fss_nil)) (fss_cons (fs_if (ft_cmp (op_eqA (hu64 hr)) v2_eq (by first | exact nomark _ | rfl) (fe_len T.bt (fa_cons (fe_v 1) (fa_nil))) (fe_int)) (fss_one (fs_ret (fe_new (fn_cmS (d_Roll_of T) (fun F => kb_Roll_of_1 F) hr (takes_of rfl rfl rfl rfl) (fa_cons (fe_v 0) (fa_cons (fe_ix (fun _ _ => rfl) (fe_v 1) (fe_int)) (fa_cons (fe_ix (fun _ _ => rfl) (fe_v 1) (fe_int)) (fa_nil)))) (fk_nil))))) (fss_nil)) (fss_one (fs_ret (fe_new (fn_cmS (d_Roll_of T) (fun F => kb_Roll_of_1 F) hr (takes_of rfl rfl rfl rfl) (fa_cons (fe_v 0) (fa_cons (fe_ix (fun _ _ => rfl) (fe_v 1) (fe_int)) (fa_cons (fe_ix (fun _ _ => rfl) (fe_v 1) (fe_int)) (fa_cons (fe_ix (fun _ _ => rfl) (fe_v 1) (fe_int)) (fa_nil))))) (fk_nil)))))))
theorem d_Roll___eq__ (T : SaysC fa fn exL fwL K mg) : DefM P w K mg base (cnL K) 1 52 "__eq__" "Roll.__eq__" s_Roll___eq__ [] [] ["self", "other"] F_Roll___eq__ :=
  DefM.of (N := N_Roll___eq__) (g := G_Roll___eq__) (T.met (x := "Roll") (dd := []) (kd := []) 46 53 25 rfl) sc_Roll___eq__ fun f cdv A outer s H E hr => fss_one (fs_ret (fe_and (fe_isic rfl T.bt.isinstance bb_isinstance rfl (gl_Roll T) (is_Roll T) (fe_v 1)) (fe_and (fe_cmp (op_eqA (hu64 hr)) v2_eq (by first | exact nomark _ | rfl) (fe_fld (cs := [52]) (f := 44) rfl fn_options (fa_options_52 T) (fe_v 0)) (fe_fld (cs := [52]) (f := 44) rfl fn_options (fa_options_52 T) (fe_v 1))) (fe_one (fe_cmp (op_eqA (hu64 hr)) v2_eq (by first | exact nomark _ | rfl) (fe_fld (cs := [52]) (f := 51) rfl fn__rows (fa__rows_52 T) (fe_v 0)) (fe_fld (cs := [52]) (f := 51) rfl fn__rows (fa__rows_52 T) (fe_v 1)))))))
theorem d__law_of_right (T : SaysC fa fn exL fwL K mg) : DefA P w K mg base (cnL K) 10 "_law_of_right" s__law_of_right [] [] ["choices", "ballots", "times", "once"] F__law_of_right :=
  DefA.of (N := N__law_of_right) (g := G__law_of_right) (T.dfn (dd := []) (kd := []) 41 26) sc__law_of_right fun f cdv A outer s H E hr => fss_cons (fs_setLc (own := [("ballot", 8)]) (i := 4) rfl sc__law_of_right.nd rfl rfl (sw_true rfl rfl rfl (by decide +kernel)) (fi_sq (fe_v 1)) (blkOk_by (own := [("ballot", 8)]) (N := N__law_of_right) (sc := defScope s__law_of_right) (by decide +kernel)) (fun _ _ _ _ _ => fg_n (i := 8) sc__law_of_right.nd rfl) (fun _ _ _ _ _ => fts_nil) (fun _ _ _ _ _ => fe_tup (fa_cons (fe_v 8) (fa_cons (fe_v 2) (fa_nil))))) (fss_cons (fs_own (i := 5) sc__law_of_right.nd rfl (fl_list rfl T.bt.list bb_list (fe_v 0))) (fss_cons (fs_if (ft_w (fw_and (ft_val (fe_v 3)) (fw_and1 (ft_cmp op_lt v2_lt (by first | exact nomark _ | rfl) (fe_len T.bt (fa_cons (fe_v 1) (fa_nil))) (fe_int))))) (fss_cons (fs_setLc (own := [("ballot", 8)]) (i := 4) rfl sc__law_of_right.nd rfl rfl (sw_true rfl rfl rfl (by decide +kernel)) (fi_sq (fe_v 1)) (blkOk_by (own := [("ballot", 8)]) (N := N__law_of_right) (sc := defScope s__law_of_right) (by decide +kernel)) (fun _ _ _ _ _ => fg_n (i := 8) sc__law_of_right.nd rfl) (fun _ _ _ _ _ => fts_nil) (fun _ _ _ _ _ => fe_tup (fa_cons (fe_v 8) (fa_cons (fe_int) (fa_nil))))) (fss_one (fs_set (i := 6) sc__law_of_right.nd rfl (fe_borL (fe_a (d__law_of_once T) b__law_of_once hr (takes_of rfl rfl rfl rfl) (fa_cons (fe_v 5) (fa_cons (fe_v 1) (fa_nil)))))))) (fss_one (fs_set (i := 6) sc__law_of_right.nd rfl (fe_borL (fe_a (d__law_of T) b__law_of hr (takes_of rfl rfl rfl rfl) (fa_cons (fe_v 5) (fa_cons (fe_v 1) (fa_cons (fe_v 2) (fa_nil))))))))) (fss_cons (fs_if (ft_bor (ft_w (fw_or (ft_cmp (op_neA (hu64 hr)) v2_ne (by first | exact nomark _ | rfl) (fe_v 5) (fe_v 0)) (fw_or1 (ft_not (ft_val (fe_a (d__law_as_told T) b__law_as_told hr (takes_of rfl rfl rfl rfl) (fa_cons (fe_v 6) (fa_cons (fe_v 0) (fa_cons (fe_v 4) (fa_nil))))))))))) (fss_one (fs_ret (fe_bl))) (fss_nil)) (fss_cons (fs_mut0 (i := 5) PySem.F.slot_list_clear PySem.F.type_list_clear mt_clear mut_clr rfl) (fss_cons (fs_set (i := 7) sc__law_of_right.nd rfl (fe_own (C := He.ga K "Roll") (d_Roll___eq__ T) rfl (eq_Roll T) b_Roll___eq__ hr (fe_v 6) (fe_new (fn_makeK (d_Roll___init__ T) (fun F => kb_Roll___init___2 F) hr (takes_of rfl rfl rfl rfl) (fa_cons (fe_listc T.bt (fa_cons (fe_v 0) (fa_nil))) (fa_cons (fe_rev (fe_v 4)) (fa_nil))) (fk_nil))))) (fss_one (fs_ret (fe_and (fe_a (d__law_same T) b__law_same hr (takes_of rfl rfl rfl rfl) (fa_cons (fe_v 7) (fa_cons (fe_bl) (fa_nil)))) (fe_one (fe_a (d__law_as_told T) b__law_as_told hr (takes_of rfl rfl rfl rfl) (fa_cons (fe_v 6) (fa_cons (fe_v 0) (fa_cons (fe_v 4) (fa_nil))))))))))))))
theorem d__law_mixed (T : SaysC fa fn exL fwL K mg) : DefA P w K mg base (cnL K) 1 "_law_mixed" s__law_mixed [] [] ["cell", "k"] F__law_mixed_k15 :=
  DefA.of (N := N__law_mixed) (g := G__law_mixed_k15) (T.dfn (dd := []) (kd := []) 42 27) sc__law_mixed fun f cdv A outer s H E hr => fss_cons (fs_set (i := 2) sc__law_mixed.nd rfl (fe_op op_mod v2_mod (fe_op op_addA v2_add (fe_op op_mul2 v2_mul (fe_op op_mod v2_mod (fe_abs T.bt (fa_cons (fe_v 0) (fa_nil))) (fe_int)) (fe_int)) (fe_op op_mul2 v2_mul (fe_op op_addA v2_add (fe_v 1) (fe_int)) (fe_int))) (fe_int))) (fss_cons (fs_set (i := 2) sc__law_mixed.nd rfl (fe_op op_mod v2_mod (fe_op op_addA v2_add (fe_op op_addA v2_add (fe_op op_mul2 v2_mul (fe_v 2) (fe_int)) (fe_op op_fdivW v2_div (fe_v 2) (fe_int))) (fe_op op_mul2 v2_mul (fe_op op_addA v2_add (fe_v 1) (fe_int)) (fe_int))) (fe_int))) (fss_one (fs_ret (fe_op op_fdivW v2_div (fe_v 2) (fe_int)))))
theorem d__law_pool (T : SaysC fa fn exL fwL K mg) : DefA P w K mg base (cnL K) 2 "_law_pool" s__law_pool [] [] ["cell", "number"] F__law_pool_k15 :=
  DefA.of (N := N__law_pool) (g := G__law_pool_k15) (T.dfn (dd := []) (kd := []) 43 28) sc__law_pool fun f cdv A outer s H E hr => fss_cons (fs_set (i := 2) sc__law_pool.nd rfl (fe_abs T.bt (fa_cons (fe_v 0) (fa_nil)))) (fss_cons (fs_set (i := 3) sc__law_pool.nd rfl (fe_cmp op_ge v2_ge (by first | exact nomark _ | rfl) (fe_v 2) (fe_op op_pow v2_pow (fe_int) (fe_int)))) (fss_cons (fs_own (i := 4) sc__law_pool.nd rfl (fl_lst (fa_nil))) (fss_cons (fs_for (zs := [5]) (passes_of rfl) rfl (fi_r1 rfl T.bt.range (fe_v 1)) (fg_n (i := 5) sc__law_pool.nd rfl) (fss_one (fs_if (ft_w (fw_and (ft_val (fe_v 3)) (fw_and1 (ft_cmp op_gt v2_gt (by first | exact nomark _ | rfl) (fe_v 2) (fe_int))))) (fss_cons (fs_app (i := 4) rfl (fe_op op_mod v2_mod (fe_v 2) (fe_int))) (fss_one (fs_set (i := 2) sc__law_pool.nd rfl (fe_op op_fdivW v2_div (fe_v 2) (fe_int))))) (fss_one (fs_app (i := 4) rfl (fe_a (d__law_mixed T) b__law_mixed hr (takes_of rfl rfl rfl rfl) (fa_cons (fe_v 0) (fa_cons (fe_v 5) (fa_nil))))))))) (fss_one (fs_frz 4 (fs_ret (fe_v 4)))))))
theorem d_law (T : SaysC fa fn exL fwL K mg) : DefA P w K mg base (cnL K) 11 "law" s_law [] [] ["script"] F_law :=
  DefA.of (N := N_law) (g := G_law) (T.dfn (dd := []) (kd := []) 44 29) sc_law fun f cdv A outer s H E hr => fss_cons (fs_set (i := 1) sc_law.nd rfl (fe_a (d__law_pool T) b__law_pool hr (takes_of rfl rfl rfl rfl) (fa_cons (fe_a (d__law_cell T) b__law_cell hr (takes_of rfl rfl rfl rfl) (fa_cons (fe_v 0) (fa_cons (fe_int) (fa_nil)))) (fa_cons (fe_int) (fa_nil))))) (fss_cons (fs_set (i := 2) sc_law.nd rfl (fe_a (d__law_names T) b__law_names hr (takes_of rfl rfl rfl rfl) (fa_cons (fe_v 1) (fa_cons (fe_int) (fa_cons (fe_op op_addA v2_add (fe_int) (fe_a (d__law_part T) b__law_part hr (takes_of rfl rfl rfl rfl) (fa_cons (fe_v 1) (fa_cons (fe_int) (fa_cons (fe_int) (fa_cons (fe_int) (fa_nil))))))) (fa_nil)))))) (fss_cons (fs_set (i := 3) sc_law.nd rfl (fe_a (d__law_pool T) b__law_pool hr (takes_of rfl rfl rfl rfl) (fa_cons (fe_a (d__law_cell T) b__law_cell hr (takes_of rfl rfl rfl rfl) (fa_cons (fe_v 0) (fa_cons (fe_int) (fa_nil)))) (fa_cons (fe_int) (fa_nil))))) (fss_cons (fs_set (i := 4) sc_law.nd rfl (fe_a (d__law_ballots T) b__law_ballots hr (takes_of rfl rfl rfl rfl) (fa_cons (fe_v 3) (fa_cons (fe_int) (fa_cons (fe_v 2) (fa_cons (fe_a (d__law_part T) b__law_part hr (takes_of rfl rfl rfl rfl) (fa_cons (fe_v 1) (fa_cons (fe_int) (fa_cons (fe_int) (fa_cons (fe_int) (fa_nil)))))) (fa_nil))))))) (fss_cons (fs_if (ft_cmp (op_eqA (hu64 hr)) v2_eq (by first | exact nomark _ | rfl) (fe_a (d__law_part T) b__law_part hr (takes_of rfl rfl rfl rfl) (fa_cons (fe_v 1) (fa_cons (fe_int) (fa_cons (fe_int) (fa_cons (fe_int) (fa_nil)))))) (fe_int)) (fss_one (fs_set (i := 4) sc_law.nd rfl (fe_lc (own := [("k", 12)]) rfl sc_law.nd (fi_r1 rfl T.bt.range (fe_len T.bt (fa_cons (fe_v 4) (fa_nil)))) (blkOk_by (own := [("k", 12)]) (N := N_law) (sc := defScope s_law) (by decide +kernel)) (fun _ _ _ _ _ => fg_n (i := 12) sc_law.nd rfl) (fun _ _ _ _ _ => fts_nil) (fun _ _ _ _ _ => fe_tup (fa_cons (fe_ix (fun _ _ => rfl) (fe_ix (fun _ _ => rfl) (fe_v 4) (fe_op op_mod v2_mod (fe_v 12) (fe_int))) (fe_int)) (fa_cons (fe_ix (fun _ _ => rfl) (fe_ix (fun _ _ => rfl) (fe_v 4) (fe_v 12)) (fe_int)) (fa_nil))))))) (fss_nil)) (fss_cons (fs_set (i := 5) sc_law.nd rfl (fe_lc (own := [("ballot", 13), ("number", 14)]) rfl sc_law.nd (fi_sq (fe_a (d__law_ballots T) b__law_ballots hr (takes_of rfl rfl rfl rfl) (fa_cons (fe_v 3) (fa_cons (fe_int) (fa_cons (fe_v 2) (fa_cons (fe_a (d__law_part T) b__law_part hr (takes_of rfl rfl rfl rfl) (fa_cons (fe_v 1) (fa_cons (fe_int) (fa_cons (fe_int) (fa_cons (fe_int) (fa_nil)))))) (fa_nil))))))) (blkOk_by (own := [("ballot", 13), ("number", 14)]) (N := N_law) (sc := defScope s_law) (by decide +kernel)) (fun _ _ _ _ _ => fg_t rfl (fgs_c (fg_n (i := 13) sc_law.nd rfl) (fgs_c (fg_n (i := 14) sc_law.nd rfl) (fgs_n)))) (fun _ _ _ _ _ => fts_nil) (fun _ _ _ _ _ => fe_v 13))) (fss_cons (fs_if (ft_cmp (op_eqA (hu64 hr)) v2_eq (by first | exact nomark _ | rfl) (fe_a (d__law_part T) b__law_part hr (takes_of rfl rfl rfl rfl) (fa_cons (fe_v 1) (fa_cons (fe_int) (fa_cons (fe_int) (fa_cons (fe_int) (fa_nil)))))) (fe_int)) (fss_one (fs_set (i := 5) sc_law.nd rfl (fe_lc (own := [("k", 12)]) rfl sc_law.nd (fi_r1 rfl T.bt.range (fe_len T.bt (fa_cons (fe_v 5) (fa_nil)))) (blkOk_by (own := [("k", 12)]) (N := N_law) (sc := defScope s_law) (by decide +kernel)) (fun _ _ _ _ _ => fg_n (i := 12) sc_law.nd rfl) (fun _ _ _ _ _ => fts_nil) (fun _ _ _ _ _ => fe_ix (fun _ _ => rfl) (fe_v 5) (fe_op op_fdivW v2_div (fe_v 12) (fe_int)))))) (fss_nil)) (fss_cons (fs_set (i := 6) sc_law.nd rfl (fe_a (d__law_part T) b__law_part hr (takes_of rfl rfl rfl rfl) (fa_cons (fe_v 1) (fa_cons (fe_int) (fa_cons (fe_int) (fa_cons (fe_int) (fa_nil))))))) (fss_cons (fs_set (i := 7) sc_law.nd rfl (fe_a (d__law_pool T) b__law_pool hr (takes_of rfl rfl rfl rfl) (fa_cons (fe_a (d__law_cell T) b__law_cell hr (takes_of rfl rfl rfl rfl) (fa_cons (fe_v 0) (fa_cons (fe_int) (fa_nil)))) (fa_cons (fe_int) (fa_nil))))) (fss_cons (fs_if (ft_cmp (op_eqA (hu64 hr)) v2_eq (by first | exact nomark _ | rfl) (fe_a (d__law_part T) b__law_part hr (takes_of rfl rfl rfl rfl) (fa_cons (fe_v 1) (fa_cons (fe_int) (fa_cons (fe_int) (fa_cons (fe_int) (fa_nil)))))) (fe_int)) (fss_cons (fs_set (i := 4) sc_law.nd rfl (fe_lc (own := [("k", 12)]) rfl sc_law.nd (fi_r1 rfl T.bt.range (fe_len T.bt (fa_cons (fe_v 4) (fa_nil)))) (blkOk_by (own := [("k", 12)]) (N := N_law) (sc := defScope s_law) (by decide +kernel)) (fun _ _ _ _ _ => fg_n (i := 12) sc_law.nd rfl) (fun _ _ _ _ _ => fts_nil) (fun _ _ _ _ _ => fe_tup (fa_cons (fe_ix (fun _ _ => rfl) (fe_ix (fun _ _ => rfl) (fe_v 4) (fe_v 12)) (fe_int)) (fa_cons (fe_a (d__law_big T) b__law_big hr takes0 (fa_cons (fe_v 7) (fa_cons (fe_op op_mul2 v2_mul (fe_int) (fe_v 12)) (fa_cons (fe_int) (fa_cons (fe_op op_pow v2_pow (fe_int) (fe_int)) (fa_nil)))))) (fa_nil)))))) (fss_one (fs_set (i := 6) sc_law.nd rfl (fe_a (d__law_big T) b__law_big hr (takes_of rfl rfl rfl rfl) (fa_cons (fe_v 7) (fa_cons (fe_int) (fa_cons (fe_int) (fa_cons (fe_op op_pow v2_pow (fe_int) (fe_int)) (fa_nil))))))))) (fss_nil)) (fss_cons (fs_if (ft_cmp (op_eqA (hu64 hr)) v2_eq (by first | exact nomark _ | rfl) (fe_a (d__law_part T) b__law_part hr (takes_of rfl rfl rfl rfl) (fa_cons (fe_v 1) (fa_cons (fe_int) (fa_cons (fe_int) (fa_cons (fe_int) (fa_nil)))))) (fe_int)) (fss_one (fs_set (i := 4) sc_law.nd rfl (fe_rev (fe_a (d__law_each_ballot T) b__law_each_ballot hr (takes_of rfl rfl rfl rfl) (fa_cons (fe_v 2) (fa_cons (fe_a (d__law_pool T) b__law_pool hr (takes_of rfl rfl rfl rfl) (fa_cons (fe_a (d__law_cell T) b__law_cell hr (takes_of rfl rfl rfl rfl) (fa_cons (fe_v 0) (fa_cons (fe_int) (fa_nil)))) (fa_cons (fe_int) (fa_nil)))) (fa_nil))))))) (fss_nil)) (fss_cons (fs_treeL (i := 8) sc_law.nd rfl (fos_c (fn_l (fl_list rfl T.bt.list bb_list (fe_v 2))) (fos_c (fn_l (fl_list rfl T.bt.list bb_list (fe_v 4))) (fos_n)))) (fss_cons (fs_set (i := 9) sc_law.nd rfl (fe_borL (fe_new (fn_makeK0 (d_Roll___init__ T) (fun F => kb_Roll___init___0_options_rows F) hr (takes_of rfl rfl rfl rfl) (fk_cons (fe_ix (fun _ _ => rfl) (fe_v 8) (fe_int)) (fk_cons (fe_ix (fun _ _ => rfl) (fe_v 8) (fe_int)) (fk_nil))))))) (fss_cons (fs_if (ft_bor (ft_w (fw_or (ft_cmp (op_neA (hu64 hr)) v2_ne (by first | exact nomark _ | rfl) (fe_ix (fun _ _ => rfl) (fe_v 8) (fe_int)) (fe_v 2)) (fw_or (ft_cmp (op_neA (hu64 hr)) v2_ne (by first | exact nomark _ | rfl) (fe_ix (fun _ _ => rfl) (fe_v 8) (fe_int)) (fe_v 4)) (fw_or1 (ft_not (ft_val (fe_a (d__law_as_told T) b__law_as_told hr (takes_of rfl rfl rfl rfl) (fa_cons (fe_v 9) (fa_cons (fe_v 2) (fa_cons (fe_v 4) (fa_nil)))))))))))) (fss_one (fs_ret (fe_bl))) (fss_nil)) (fss_cons (fs_mutT0 (i := 8) PySem.F.slot_list_clear PySem.F.type_list_clear mt_clear mut_clr (fun _ _ => rfl) rfl (fe_int)) (fss_cons (fs_mutT0 (i := 8) PySem.F.slot_list_clear PySem.F.type_list_clear mt_clear mut_clr (fun _ _ => rfl) rfl (fe_int)) (fss_cons (fs_if (ft_not (ft_val (fe_a (d__law_of_right T) b__law_of_right hr (takes_of rfl rfl rfl rfl) (fa_cons (fe_v 2) (fa_cons (fe_v 5) (fa_cons (fe_v 6) (fa_cons (fe_cmp (op_eqA (hu64 hr)) v2_eq (by first | exact nomark _ | rfl) (fe_a (d__law_part T) b__law_part hr (takes_of rfl rfl rfl rfl) (fa_cons (fe_v 1) (fa_cons (fe_int) (fa_cons (fe_int) (fa_cons (fe_int) (fa_nil)))))) (fe_int)) (fa_nil)))))))) (fss_one (fs_ret (fe_bl))) (fss_nil)) (fss_cons (fs_if (ft_w (fw_or (ft_not (ft_val (fe_a (d__law_as_told T) b__law_as_told hr (takes_of rfl rfl rfl rfl) (fa_cons (fe_new (fn_makeK (d_Roll___init__ T) (fun F => kb_Roll___init___1 F) hr (takes_of rfl rfl rfl rfl) (fa_cons (fe_listc T.bt (fa_cons (fe_v 2) (fa_nil))) (fa_nil)) (fk_nil))) (fa_cons (fe_v 2) (fa_cons (fe_lst (fa_nil)) (fa_nil))))))) (fw_or1 (ft_not (ft_val (fe_a (d__law_as_told T) b__law_as_told hr (takes_of rfl rfl rfl rfl) (fa_cons (fe_v 9) (fa_cons (fe_v 2) (fa_cons (fe_v 4) (fa_nil)))))))))) (fss_one (fs_ret (fe_bl))) (fss_nil)) (fss_cons (fs_set (i := 10) sc_law.nd rfl (fe_new (fn_makeK (d_Roll___init__ T) (fun F => kb_Roll___init___2 F) hr (takes_of rfl rfl rfl rfl) (fa_cons (fe_tupz T.bt (fa_cons (fe_v 2) (fa_nil))) (fa_cons (fe_tuplec T.bt (fa_cons (fe_rev (fe_v 4)) (fa_nil))) (fa_nil))) (fk_nil)))) (fss_cons (fs_set (i := 11) sc_law.nd rfl (fe_new (fn_makeK (d_Roll___init__ T) (fun F => kb_Roll___init___2 F) hr (takes_of rfl rfl rfl rfl) (fa_cons (fe_listc T.bt (fa_cons (fe_v 2) (fa_nil))) (fa_cons (fe_op op_addA v2_add (fe_v 4) (fe_lst (fa_cons (fe_tup (fa_cons (fe_tup (fa_nil)) (fa_cons (fe_int) (fa_nil)))) (fa_nil)))) (fa_nil))) (fk_nil)))) (fss_cons (fs_if (ft_w (fw_or (ft_not (ft_val (fe_a (d__law_same T) b__law_same hr (takes_of rfl rfl rfl rfl) (fa_cons (fe_own (C := He.ga K "Roll") (d_Roll___eq__ T) rfl (eq_Roll T) b_Roll___eq__ hr (fe_v 9) (fe_v 10)) (fa_cons (fe_bl) (fa_nil)))))) (fw_or1 (ft_not (ft_val (fe_a (d__law_same T) b__law_same hr (takes_of rfl rfl rfl rfl) (fa_cons (fe_own (C := He.ga K "Roll") (d_Roll___eq__ T) rfl (eq_Roll T) b_Roll___eq__ hr (fe_v 11) (fe_v 9)) (fa_cons (fe_bl) (fa_nil))))))))) (fss_one (fs_ret (fe_bl))) (fss_nil)) (fss_one (fs_ret (fe_and (fe_a (d__law_as_told T) b__law_as_told hr (takes_of rfl rfl rfl rfl) (fa_cons (fe_v 10) (fa_cons (fe_v 2) (fa_cons (fe_v 4) (fa_nil))))) (fe_one (fe_a (d__law_as_told T) b__law_as_told hr (takes_of rfl rfl rfl rfl) (fa_cons (fe_v 11) (fa_cons (fe_v 2) (fa_cons (fe_v 4) (fa_nil)))))))))))))))))))))))))))))
end
end Tk
namespace Tk
open PySem PySem.Spec L2 PyProof.Rows
variable {os : Bal} {ns hs ps : List Int} {f : List Row} {bs : List Bal}
theorem frzTL_lf : ∀ {xs : List D}, frzTL (lfL xs) = xs
  | [] => rfl
  | x :: xs => by
    show x :: frzTL (lfL xs) = _
    rw [frzTL_lf]
theorem lsL_lf : ∀ {xs : List D}, lsL (lfL xs) = true
  | [] => rfl
  | x :: xs => by
    show (true && lsL (lfL xs)) = true
    rw [lsL_lf]
    rfl
def twoT (A B : List D) : Sl := .tr (.l [.l (lfL A), .l (lfL B)])
theorem frz_two {A B : List D} : frzS (twoT A B) = .v (.lst [.lst A, .lst B]) := by
  show Sl.v (.lst [.lst (frzTL (lfL A)), .lst (frzTL (lfL B))]) = _
  rw [frzTL_lf, frzTL_lf]
def E12t (ns hs ps : List Int) (os : Bal) (f : List Row) (s5 s6 s7 s8 s9 s10 s11 : Sl) : Ev := [.v (.scr ns), .v (.lst (hs.map .int)), .v (.lst (os.map nD)), .v (.lst (ps.map .int)), .v (.lst (f.map rowD)), s5, s6, s7, s8, s9, s10, s11, .no, .no, .no]
theorem two_new {s5 s6 s7 : Sl} : sTreeL 8 (osC (nL (lList (eV 2))) (osC (nL (lList (eV 4))) (osN))) (E12 ns hs ps os f s5 s6 s7) = .nx (E12t ns hs ps os f s5 s6 s7 (twoT (os.map nD) (f.map rowD)) .no .no .no) := by
  have h1 : (lList (eV 2)) (E12 ns hs ps os f s5 s6 s7) = .ok (os.map nD) := rfl
  have h2 : (lList (eV 4)) (E12 ns hs ps os f s5 s6 s7) = .ok (f.map rowD) := rfl
  have e : (osC (nL (lList (eV 2))) (osC (nL (lList (eV 4))) (osN))) (E12 ns hs ps os f s5 s6 s7) = .ok [.l (lfL (os.map nD)), .l (lfL (f.map rowD))] := by
    unfold osC nL
    rw [h1, h2]
    rfl
  unfold sTreeL
  rw [e, from_ok, if_pos ⟨szle (by simp), by show 8 < 15; decide⟩]
  rfl
theorem two_clr0 {A B : List D} {s5 s6 s7 s9 s10 s11 : Sl} : sMutT 8 (eC (.int 0)) mClr aN (E12t ns hs ps os f s5 s6 s7 (twoT A B) s9 s10 s11) = .nx (E12t ns hs ps os f s5 s6 s7 (twoT [] B) s9 s10 s11) := by
  have h : childL [.l (lfL A), .l (lfL B)] (.int 0) = .ok (0, A) := by
    show (optR (unLs (lfL A))).bind _ = _
    rw [unLs_lf]
    rfl
  have t : treeL (E12t ns hs ps os f s5 s6 s7 (twoT A B) s9 s10 s11) 8 = .ok [.l (lfL A), .l (lfL B)] := rfl
  unfold sMutT
  rw [t]
  show (SO.from _ (childL [.l (lfL A), .l (lfL B)] (.int 0)) _) = _
  rw [h]
  rfl
theorem two_clr1 {A B : List D} {s5 s6 s7 s9 s10 s11 : Sl} : sMutT 8 (eC (.int 1)) mClr aN (E12t ns hs ps os f s5 s6 s7 (twoT A B) s9 s10 s11) = .nx (E12t ns hs ps os f s5 s6 s7 (twoT A []) s9 s10 s11) := by
  have h : childL [.l (lfL A), .l (lfL B)] (.int 1) = .ok (1, B) := by
    show (optR (unLs (lfL B))).bind _ = _
    rw [unLs_lf]
    rfl
  have t : treeL (E12t ns hs ps os f s5 s6 s7 (twoT A B) s9 s10 s11) 8 = .ok [.l (lfL A), .l (lfL B)] := rfl
  unfold sMutT
  rw [t]
  show (SO.from _ (childL [.l (lfL A), .l (lfL B)] (.int 1)) _) = _
  rw [h]
  rfl
theorem only_two {A B : List D} {b m s : D} {s9 s10 s11 : Sl} (h : onlyL [s9, s10, s11, .no, .no, .no] = true) : onlyL (E12t ns hs ps os f (.v b) (.v m) (.v s) (twoT A B) s9 s10 s11) = true := by
  show ((lsL (lfL A) && (lsL (lfL B) && true)) && onlyL [s9, s10, s11, .no, .no, .no]) = true
  rw [lsL_lf, lsL_lf, h]
  rfl
theorem g_two0 {A B : D} : gIx (.lst [A, B]) (.int 0) = .ok A := rfl
theorem g_two1 {A B : D} : gIx (.lst [A, B]) (.int 1) = .ok B := rfl
theorem tlK_ok {m : Int} {fs : List Int} (ho : okOpts os) (okf : okGiv os f) (fl : f.length ≤ 65) (hb : ∀ b ∈ bs, okBal os b) (bl : bs.length ≤ 6) (m0 : 0 ≤ m) (m1 : m ≤ 1000000000) (hh : hs.length = 8) :
    tlK (E12 ns hs ps os f (.v (.lst (bs.map bD))) (.v (.int m)) (.v (.lst (fs.map .int)))) = .rt (.bl true) := by
  have okr := okf.tookRows
  have mk := mk_roll ho okr okf.big (by omega)
  have td := told_ok ho okr (by omega)
  have eo := eq_osL ho
  have er := eq_rowsL ho okr
  have nr : noLD (rlD os f) = true := noL_roll
  have gd2 : ∀ a b : D, gDk [2, 3, 1] [.tp0, .int 1000000000] [] [a, b] = [a, b, .int 1000000000] := fun _ _ => rfl
  have gd1 : ∀ a : D, gDk [0, 1, 2] [.tp0, .int 1000000000] [a] [] = [a, .tp0, .int 1000000000] := fun _ => rfl
  have gd0 : ∀ a b : D, gDk [0, 1, 3] [.tp0, .int 1000000000] [a, b] [] = [a, b, .int 1000000000] := fun _ _ => rfl
  have okn : okRows os [] := okRows.nil
  have mkE : (unA fun a => F_Roll___init__ a [.lst (os.map nD), .tp0, .int 1000000000]) = .ok [(44, zD os), (51, .tup ((normR os []).map rowD)), (4, .int (totR (normR os [])))] := unA_eq fun a => roll_ok (z := false) (lg := some 1000000000) (rv := .tp0) ho okn (fun l e r mr => nomatch mr) (by simp) rfl
  have tdE : F__law_as_told [rlD os [], .lst (os.map nD), .lst []] = .ok (.bl true) := told_ok ho okn (by simp)
  have okv := okr.rev
  have mkT : (unA fun a => F_Roll___init__ a [.tpz (os.map nD), .tup (f.reverse.map rowD), .int 1000000000]) = .ok [(44, zD os), (51, .tup ((normR os f.reverse).map rowD)), (4, .int (totR (normR os f.reverse)))] := unA_eq fun a => roll_ok (z := true) (lg := some 1000000000) (rv := .tup (f.reverse.map rowD)) ho okv (fun l e r mr => by
    cases e
    exact okf.big r (List.mem_reverse.mp mr)) (by rw [List.length_reverse]; omega) rfl
  have okm : okRows os (f ++ [([], 0)]) := okr.app ⟨fun r mr => by rw [List.mem_singleton.mp mr]; exact .nil, fun r mr => by rw [List.mem_singleton.mp mr]; exact Int.le_refl 0⟩
  have ga : gAdd (.lst (f.map rowD)) (.lst [.tup [.tup [], .int 0]]) = .ok (.lst ((f ++ [([], 0)]).map rowD)) := gAdd_rows (rs := f) (qs := [([], 0)]) (by show f.length + 1 ≤ 1000; omega)
  have mkM := mk_roll ho okm (fun r mr => by
    rcases List.mem_append.mp mr with mr | mr
    · exact okf.big r mr
    · rw [List.mem_singleton.mp mr]; show (0 : Int) ≤ 1000000000; decide) (by rw [List.length_append]; show _ + 1 ≤ 1000; omega)
  have c1 : ∀ b, cntB f b = cntB f.reverse b := fun b => cnt_perm (List.reverse_perm _).symm
  have c2 : ∀ b, cntB (f ++ [([], 0)]) b = cntB f b := fun b => by
    rw [cnt_app, cnt_cons, cnt_nil]
    split <;> omega
  have e1 := eq_yes ho okr okv c1
  have e2' := eq_yes ho okm okr c2
  have r1 : rlD os f.reverse = rlD os f := rl_same ho okv okr fun b _ => (c1 b).symm
  have r2 : rlD os (f ++ [([], 0)]) = rlD os f := rl_same ho okm okr fun b _ => c2 b
  rw [r1] at e1
  rw [r2] at e2'
  have p := part_ok (ps := hs) (spot := 6) (under := 42) (size := 2) (by decide) (by omega) (by decide) (by decide) (by decide)
  generalize part hs 6 42 2 = x at *
  have ri := right_ok (o := decide (x = 1)) ho hb bl m0 m1
  have t0 : gTup [] = .ok (.tup []) := rfl
  have gl0 : gLst [] = .ok (.lst []) := rfl
  have l1 : ∀ d : D, gLst [d] = .ok (.lst [d]) := fun d => if_pos (szle (by simp))
  have d1 : D.ins 52 [(44, zD os), (51, .tup ((normR os f).map rowD)), (4, .int (totR (normR os f)))] = rlD os f := rfl
  have d2 : D.ins 52 [(44, zD os), (51, .tup ((normR os f.reverse).map rowD)), (4, .int (totR (normR os f.reverse)))] = rlD os f := r1
  have d3 : D.ins 52 [(44, zD os), (51, .tup ((normR os (f ++ [([], 0)])).map rowD)), (4, .int (totR (normR os (f ++ [([], 0)]))))] = rlD os f := r2
  have d0 : D.ins 52 [(44, zD os), (51, .tup ((normR os []).map rowD)), (4, .int (totR (normR os [])))] = rlD os [] := rfl
  have ol := only_two (ns := ns) (hs := hs) (ps := ps) (os := os) (f := f) (A := os.map nD) (B := f.map rowD) (b := .lst (bs.map bD)) (m := .int m) (s := .lst (fs.map .int)) (s9 := .no) (s10 := .no) (s11 := .no) rfl
  have n9 : (sSet 9 (eBorL (eFrz (nMakeK 52 0 2 4 F_Roll___init__ (gDk [2, 3, 1] [.tp0, .int 1000000000]) (aN) (aC (e2 gIx (eV 8) (eC (.int 0))) (aC (e2 gIx (eV 8) (eC (.int 1))) (aN))))))) (E12t ns hs ps os f (.v (.lst (bs.map bD))) (.v (.int m)) (.v (.lst (fs.map .int))) (twoT (os.map nD) (f.map rowD)) .no .no .no) = .nx (E12t ns hs ps os f (.v (.lst (bs.map bD))) (.v (.int m)) (.v (.lst (fs.map .int))) (twoT (os.map nD) (f.map rowD)) (.v (rlD os f)) .no .no) := by
    unfold E12t at ol ⊢
    simp_arith [eBorL_ap, frz_two, eFrz_ap, nMakeK_ap, g_two0, g_two1, gd2, mk, frzR_o, d1, nr, ol, Bool.and_self]
  have tst : ∀ s9 : D, ∀ s5 s6 s7, (sIf (tBor (tOr (tV (e2 gNe (e2 gIx (eV 8) (eC (.int 0))) (eV 2))) (tOr (tV (e2 gNe (e2 gIx (eV 8) (eC (.int 1))) (eV 4))) (tNot (tV (eCall 3 F__law_as_told (aC (eV 9) (aC (eV 2) (aC (eV 4) (aN)))))))))) (sRet (eC (.bl false))) (sN)) (E12t ns hs ps os f (.v s5) (.v s6) (.v s7) (twoT (os.map nD) (f.map rowD)) (.v (rlD os f)) .no .no) = .nx (E12t ns hs ps os f (.v s5) (.v s6) (.v s7) (twoT (os.map nD) (f.map rowD)) (.v (rlD os f)) .no .no) := fun s9 s5 s6 s7 => by
    unfold E12t
    simp_arith [frz_two, g_two0, g_two1, eo, er, td]
  have rvr : (f.map rowD).reverse = f.reverse.map rowD := List.map_reverse.symm
  unfold tlK
  simp only [sSq_ap, two_new, sq_nx, n9, tst .non, two_clr0, two_clr1]
  unfold E12t
  simp_arith [p, ri, eFrz_ap, nMakeK_ap, gd1, mkE, frzR_o, d0, gl0, tdE, td, gTupZ_lst, rvr, gTuple_lst, gd0, mkT, d2, t0, gTup2, l1, ga, mkM, d3, e1, e2', same_b13]
theorem law_true : forall ns : List Int, ns.length <= 63 -> F_law [.scr ns] = .ok (.bl true) := by
  intro ns hns
  obtain ⟨v0, c0⟩ := cell_ok (ns := ns) (k := 0) (by decide) (by omega)
  obtain ⟨v1, c1⟩ := cell_ok (ns := ns) (k := 1) (by decide) (by omega)
  obtain ⟨v2, c2⟩ := cell_ok (ns := ns) (k := 2) (by decide) (by omega)
  obtain ⟨hs, hl, _, p8⟩ := pool15_ok (c := v0) (n := 8) (by decide) (by decide)
  obtain ⟨ps, pl, _, p36⟩ := pool15_ok (c := v1) (n := 36) (by decide) (by decide)
  obtain ⟨fs, lf, _, p39⟩ := pool15_ok (c := v2) (n := 39) (by decide) (by decide)
  have hl : hs.length = 8 := hl
  have pl : ps.length = 36 := pl
  have lf : fs.length = 39 := lf
  have q1 := part_ok (ps := hs) (spot := 5) (under := 1) (size := 4) (by decide) (by omega) (by decide) (by decide) (by decide)
  have a1 := part_lo (ps := hs) (spot := 5) (under := 1) (size := 4) (by decide)
  have b1 := part_hi (ps := hs) (spot := 5) (under := 1) (size := 4) (by decide)
  have q2 := part_ok (ps := hs) (spot := 5) (under := 4) (size := 13) (by decide) (by omega) (by decide) (by decide) (by decide)
  have a2 := part_lo (ps := hs) (spot := 5) (under := 4) (size := 13) (by decide)
  have b2 := part_hi (ps := hs) (spot := 5) (under := 4) (size := 13) (by decide)
  have q3 := part_ok (ps := hs) (spot := 6) (under := 1) (size := 7) (by decide) (by omega) (by decide) (by decide) (by decide)
  have a3 := part_lo (ps := hs) (spot := 6) (under := 1) (size := 7) (by decide)
  have b3 := part_hi (ps := hs) (spot := 6) (under := 1) (size := 7) (by decide)
  have q4 := part_ok (ps := hs) (spot := 7) (under := 1) (size := 7) (by decide) (by omega) (by decide) (by decide) (by decide)
  have a4 := part_lo (ps := hs) (spot := 7) (under := 1) (size := 7) (by decide)
  have b4 := part_hi (ps := hs) (spot := 7) (under := 1) (size := 7) (by decide)
  generalize part hs 5 1 4 = x1 at *
  generalize part hs 5 4 13 = x2 at *
  generalize part hs 6 1 7 = x3 at *
  generalize part hs 7 1 7 = x4 at *
  obtain ⟨os, lo, oo, on, nm⟩ := names_ok (ps := hs) (spot := 0) (number := 1 + x1) (by decide) (by omega) (by omega) (by omega)
  have ho : okOpts os := ⟨by omega, by omega, oo, on⟩
  have nmE : F__law_names [.lst (hs.map .int), .int 0, .int (1 + x1)] = .ok (.lst (os.map nD)) := nm
  obtain ⟨f, of_, lfn, bf⟩ := ballots_ok (ps := ps) (spot := 0) (number := x2) ho (by decide) a2 (by omega) (by omega)
  obtain ⟨g, og, lg, bg⟩ := ballots_ok (ps := ps) (spot := 24) (number := x3) ho (by decide) a3 (by omega) (by omega)
  have zg : g.length ≤ sizeLine := szle (by omega)
  have lc : ∀ s0 s1 s2 s3 s4 s5 s6 s7 s8 s9 s10 s11 s12 : Sl, lcL (gT 2 (gsC (gN 13) (gsC (gN 14) (gsN)))) tsY (eV 13) [s0, s1, s2, s3, s4, s5, s6, s7, s8, s9, s10, s11, s12, .no, .no] (g.map rowD) = .ok ((g.map fun r => r.1).map bD) := fun s0 s1 s2 s3 s4 s5 s6 s7 s8 s9 s10 s11 s12 => by
    rw [List.map_map]
    exact lc_all (inj := rowD) (h := gT 2 (gsC (gN 13) (gsC (gN 14) (gsN)))) (t := tsY) (fe := eV 13) (ρ := [s0, s1, s2, s3, s4, s5, s6, s7, s8, s9, s10, s11, s12, .no, .no]) (bD ∘ fun r => r.1) (l := g) fun r m => ⟨[s0, s1, s2, s3, s4, s5, s6, s7, s8, s9, s10, s11, s12, .v (bD r.1), .v (.int r.2)], rfl, rfl, rfl⟩
  have gb : ∀ b ∈ g.map (fun r => r.1), okBal os b := fun b m => by
    obtain ⟨r, mr, rfl⟩ := List.mem_map.mp m
    exact og.bal r mr
  have gl : (g.map fun r => r.1).length ≤ 6 := by rw [List.length_map]; omega
  generalize g.map (fun r => r.1) = bs at *
  obtain ⟨f1, of1, l1, e1⟩ := pair_st (ns := ns) (hs := hs) (ps := ps) (s5 := .no) (s6 := .no) (s7 := .no) hl of_ (by omega)
  obtain ⟨bs2, hb2, lb2, e2'⟩ := twin_st (ns := ns) (hs := hs) (ps := ps) (f := f1) (s6 := .no) (s7 := .no) hl gb gl
  obtain ⟨f3, m3, of3, l3, m30, m31, e3⟩ := bigK_st (ns := ns) (hs := hs) (ps := ps) (m := x4) (s5 := .v (.lst (bs2.map bD))) hl lf of1 l1 a4 (by omega)
  obtain ⟨f4, of4, l4, e4⟩ := eachK_st (ns := ns) (hs := hs) (ps := ps) (s5 := .v (.lst (bs2.map bD))) (s6 := .v (.int m3)) (s7 := .v (.lst (fs.map .int))) ho hl of3 l3 hns
  have e5 := tlK_ok (ns := ns) (hs := hs) (ps := ps) (fs := fs) ho of4 l4 hb2 lb2 m30 m31 hl
  unfold E12 at e1 e2' e3 e4 e5
  unfold F_law
  rw [G_split]
  simp_arith [c0, p8, q1, nmE, c1, p36, q2, bf, e1, q3, bg, List.length_map, zg, lc, e2', q4, c2, p39, e3, e4, e5]
end Tk
set_option maxHeartbeats 0
namespace Tk
open PySem PySem.Spec L2 PyProof.Rows
abbrev Rw : PySem.W.OpenRow := PySem.W.OpenLaw.row PySem.Challenge.rw_turnsandkeys_k12_roll_rows
abbrev hookL : PySem.W.Hook := hookC 5 fa fn exL fwL
def obL (s : PySem.W.SharedT) : AlC := obsC 5 fa fn exL fwL (HandSHeadRun.getT s)
theorem obL_eq (s : PySem.W.SharedT) : obL s = hookL.obs s.abs := obsC_eq (HandSHeadRun.getT_eq s)
def loose : List PySem.Str := (["HouseError", "BadName", "DoubledName", "UnknownName", "BadNumber", "BadCount", "OtherNames", "LETTERS", "MOST_LETTERS", "is_name", "checked_names", "MOST_OPTIONS", "LARGEST_COUNT", "check_ballot", "ordered_rows", "Roll", "_law_cell", "_law_mixed", "_law_pool", "_law_part", "_law_names", "_law_strange", "_law_big", "_law_ballots", "_law_integer", "_law_same", "_law_all_ballots", "_law_each_ballot", "_law_times", "_law_no_ballots"] : List PySem.Str) ++ (["_law_nested", "_law_as_told", "_law_of", "_law_of_once", "_law_of_right"] : List PySem.Str)
theorem runL (w : World) : HandSHeadRun.RunEq Rw (PySem.W.view Rw.prog [39]) hookL obL 8000 loose w := by
  intro os
  kernel_rfl
theorem head_ok {w : World} {K : PySem.W.Frag} {h : Heap} {mg : Str → Option Value} {f : Addr} (X : K.In h) (G : h.Ns mainGlobals mg) (hfa : mg ("law" : Str) = some (.ref f)) (c : (He.SaysD fa fn K ∧ exL K = true) ∧ fwL.map (fun d => He5.fnA K (d.at_ K)) = fwL.map He5.DefA.val) : LawOk PySem.Challenge.rw_turnsandkeys_k12_roll_rows F_law 11 w mg f h := by
  have T : SaysC fa fn exL fwL K mg := ⟨⟨⟨⟨h, X, G⟩, c.1.1⟩, c.1.2⟩, c.2⟩
  obtain ⟨fd, F⟩ := T.fd (dd := []) (kd := []) 29 rfl rfl rfl
  have e := hfa.symm.trans (He.glo_ok X G (T.c.fact 44 (f := .glo "law") rfl))
  cases e
  refine ⟨K, fd, cnL K, X, fun s u => FunD.bindsA (ps := ["script"]) F (fun _ _ _ _ _ _ us hl => match us, hl with | [_], _ => rfl) s [u] rfl, fun b KB NB => ?_⟩
  have T2 : SaysC fa fn exL fwL K mg := ⟨⟨⟨⟨b, KB, NB⟩, c.1.1⟩, c.1.2⟩, c.2⟩
  obtain ⟨f2, fd2, F2, h2, h3⟩ := (d_law (P := (PySem.Challenge.rw_turnsandkeys_k12_roll_rows).prog) (w := w) (base := b) T2).ex
  have e2 := (He.glo_ok X G (T.c.fact 44 (f := .glo "law") rfl)).symm.trans h2
  cases e2
  have e3 : fd2 = fd := FunD.same h3 F
  rw [← e3]
  exact F2
end Tk
open PySem PySem.W PySem.Calls PyProof.Rows
theorem PySem.Challenge.cw_turnsandkeys_k12_roll_rows_holds : PySem.Challenge.rw_turnsandkeys_k12_roll_rows.Holds := by
  w_on; o_law
  refine HandSHeadRun.head_any (r := OpenLaw.row PySem.Challenge.rw_turnsandkeys_k12_roll_rows) (q := view (OpenLaw.row PySem.Challenge.rw_turnsandkeys_k12_roll_rows).prog [39]) (H := Tk.hookL) (ob := Tk.obL) (M := 8000) (loose := Tk.loose) (d := HandSHeadRun.topDef (OpenLaw.row PySem.Challenge.rw_turnsandkeys_k12_roll_rows).prog 39) (kwd := []) Tk.obL_eq
    (by kernel_rfl) (fun s => by kernel_rfl) Tk.runL (by kernel_rfl) (by kernel_rfl) (by kernel_rfl) (by rfl) (by first | assumption | decide +kernel) (by decide +kernel) ⟨rfl, rfl, rfl, rfl, rfl, by decide +kernel⟩ ?hw ?hc
  case hw => w_witness2
  case hc =>
    refine Tk.law_walk (l := PySem.Challenge.rw_turnsandkeys_k12_roll_rows) (k := 11) (F := Tk.F_law) rfl (by kernel_rfl) ⟨rfl, by decide, by decide⟩ ?F Tk.law_true
    intro w mg fa h Y G hmg0
    obtain ⟨K, KX, c⟩ := Y
    refine Tk.head_ok KX G ?_ c
    have e : (HandSHeadRun.topDef (OpenLaw.row PySem.Challenge.rw_turnsandkeys_k12_roll_rows).prog 39).name = ("law" : PySem.Str) := by kernel_rfl
    rw [← e]
    exact hmg0
