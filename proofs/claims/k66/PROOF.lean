import PyProof.Rows.All
import Wide.All
import OpenK.AllK
import Wide.FinOn
import HandS.ForMost
import HandS.Wide
import HandS.Property
import HandS.TupAny
import HandS.TupMul
import HandS.Style
import HandS.IsInst
import HandS.RaiseMore
import HandS.Conv
import PySem.Challenge.RW_sharerows_k66_values_beyond_walls
set_option Elab.async false
set_option linter.all false
set_option maxRecDepth 100000
/-! Zr: values as plain data, the heap out of sight. -/
namespace Zr
open PySem L2

/-- data -/
inductive D where
  | non | bl (b : Bool) | int (i : Int) | str (x : Str)
  | tup (xs : List D) | lst (xs : List D) | ob (c : Nat) (fs : List D) | fn (a : Addr)
  /-- a list of ints that is read only -/
  | scr (ns : List Int)

/-- the classes: where they stand, their fields in order -/
structure Cls where
  K : PySem.W.Frag
  adr : Nat → Addr
  fld : Nat → List Str

mutual
def Rep (G : Cls) (S : Hp) : D → V → Prop
  | .non, v => v = .non
  | .bl b, v => v = .bl b
  | .int i, v => v = .int i
  | .str x, v => v = .str x
  | .tup ds, v => ∃ a vs, v = .ref a ∧ SqT G.K S a vs ∧ RepL G S ds vs
  | .lst ds, v => ∃ a vs, v = .ref a ∧ S a = some (.lst vs) ∧ RepL G S ds vs
  | .ob c ds, v => ∃ a dx vs, v = .ref a ∧ S a = some (.ins (G.adr c) dx ((G.fld c).zip vs)) ∧ vs.length ≤ (G.fld c).length ∧ RepL G S ds vs
  | .fn a, v => v = .ref a
  | .scr ns, v => ∃ a, v = .ref a ∧ SqL G.K S a (ns.map V.int)
def RepL (G : Cls) (S : Hp) : List D → List V → Prop
  | [], vs => vs = []
  | d :: ds, vs => ∃ v r, vs = v :: r ∧ Rep G S d v ∧ RepL G S ds r
end

theorem same_seqT {K : PySem.W.Frag} {H H' : Hp} {a : Addr} {xs : List V} (e : Same H H') (h : SqT K H a xs) : SqT K H' a xs := by
  rcases h with (h | ⟨o, h⟩) | h
  · exact .inl (.inl (e _ _ h))
  · exact .inl (.inr ⟨o, e _ _ h⟩)
  · exact .inr h

mutual
theorem Rep.mono {G : Cls} {S S' : Hp} (e : Same S S') : ∀ {d : D} {v : V}, Rep G S d v → Rep G S' d v
  | .non, _, h => h
  | .bl _, _, h => h
  | .int _, _, h => h
  | .str _, _, h => h
  | .tup _, _, h => by
    unfold Rep at h ⊢
    obtain ⟨a, vs, h1, h2, h3⟩ := h
    exact ⟨a, vs, h1, same_seqT e h2, RepL.mono e h3⟩
  | .lst _, _, h => by
    unfold Rep at h ⊢
    obtain ⟨a, vs, h1, h2, h3⟩ := h
    exact ⟨a, vs, h1, e _ _ h2, RepL.mono e h3⟩
  | .ob _ _, _, h => by
    unfold Rep at h ⊢
    obtain ⟨a, dx, vs, h1, h2, h4, h3⟩ := h
    exact ⟨a, dx, vs, h1, e _ _ h2, h4, RepL.mono e h3⟩
  | .fn _, _, h => h
  | .scr _, _, h => by
    unfold Rep at h ⊢
    obtain ⟨a, h1, h2⟩ := h
    exact ⟨a, h1, e.seq h2⟩
theorem RepL.mono {G : Cls} {S S' : Hp} (e : Same S S') : ∀ {ds : List D} {vs : List V}, RepL G S ds vs → RepL G S' ds vs
  | [], _, h => h
  | _ :: _, _, h => by
    unfold RepL at h ⊢
    obtain ⟨v, r, h1, h2, h3⟩ := h
    exact ⟨v, r, h1, Rep.mono e h2, RepL.mono e h3⟩
end

section
variable {G : Cls} {S S' H H' : Hp} {d : D} {ds es : List D} {v : V} {vs us : List V}
theorem RepL.length : ∀ {ds : List D} {vs : List V}, RepL G S ds vs → ds.length = vs.length
  | [], _, h => by unfold RepL at h; subst h; rfl
  | _ :: _, _, h => by
    unfold RepL at h
    obtain ⟨v, r, h1, _, h3⟩ := h
    subst h1
    simp [RepL.length h3]
theorem RepL.nil : RepL G S [] [] := by unfold RepL; rfl
theorem RepL.cons (h : Rep G S d v) (t : RepL G S ds vs) : RepL G S (d :: ds) (v :: vs) := by unfold RepL; exact ⟨v, vs, rfl, h, t⟩
theorem RepL.append : ∀ {ds : List D} {vs : List V}, RepL G S ds vs → RepL G S es us → RepL G S (ds ++ es) (vs ++ us)
  | [], _, h, t => by unfold RepL at h; subst h; exact t
  | _ :: _, _, h, t => by
    unfold RepL at h
    obtain ⟨v, r, h1, h2, h3⟩ := h
    subst h1
    exact .cons h2 (RepL.append h3 t)
theorem RepL.get : ∀ {ds : List D} {vs : List V} {i : Nat} {d : D}, RepL G S ds vs → ds[i]? = some d → ∃ v, vs[i]? = some v ∧ Rep G S d v
  | [], _, _, _, _, e => by simp at e
  | _ :: _, _, 0, _, h, e => by
    unfold RepL at h
    obtain ⟨v, r, h1, h2, h3⟩ := h
    subst h1
    simp at e; subst e
    exact ⟨v, rfl, h2⟩
  | _ :: _, _, i + 1, _, h, e => by
    unfold RepL at h
    obtain ⟨v, r, h1, h2, h3⟩ := h
    subst h1
    obtain ⟨v', e', h'⟩ := RepL.get (i := i) h3 (by simpa using e)
    exact ⟨v', by simpa using e', h'⟩
theorem RepL.set : ∀ {ds : List D} {vs : List V} (i : Nat), RepL G S ds vs → Rep G S d v → RepL G S (ds.set i d) (vs.set i v)
  | [], _, _, h, _ => by unfold RepL at h; subst h; exact .nil
  | _ :: _, _, 0, h, t => by
    unfold RepL at h
    obtain ⟨v, r, h1, h2, h3⟩ := h
    subst h1
    exact .cons t h3
  | _ :: _, _, i + 1, h, t => by
    unfold RepL at h
    obtain ⟨v, r, h1, h2, h3⟩ := h
    subst h1
    exact .cons h2 (RepL.set i h3 t)
theorem RepL.take : ∀ {ds : List D} {vs : List V} (n : Nat), RepL G S ds vs → RepL G S (ds.take n) (vs.take n)
  | _, _, 0, _ => by simp only [List.take_zero]; exact .nil
  | [], _, _ + 1, h => by unfold RepL at h; subst h; exact .nil
  | _ :: _, _, n + 1, h => by
    unfold RepL at h
    obtain ⟨v, r, h1, h2, h3⟩ := h
    subst h1
    exact .cons h2 (RepL.take n h3)
theorem RepL.drop : ∀ {ds : List D} {vs : List V} (n : Nat), RepL G S ds vs → RepL G S (ds.drop n) (vs.drop n)
  | _, _, 0, h => h
  | [], _, _ + 1, h => by unfold RepL at h; subst h; exact .nil
  | _ :: _, _, n + 1, h => by
    unfold RepL at h
    obtain ⟨v, r, h1, h2, h3⟩ := h
    subst h1
    exact RepL.drop n h3
theorem RepL.rev : ∀ {ds : List D} {vs : List V}, RepL G S ds vs → RepL G S ds.reverse vs.reverse
  | [], _, h => by unfold RepL at h; subst h; exact .nil
  | _ :: _, _, h => by
    unfold RepL at h
    obtain ⟨v, r, h1, h2, h3⟩ := h
    subst h1
    simp only [List.reverse_cons]
    exact (RepL.rev h3).append (.cons h2 .nil)
theorem RepL.ints : ∀ {ns : List Int}, RepL G S (ns.map D.int) (ns.map V.int)
  | [] => .nil
  | _ :: _ => .cons (by unfold Rep; rfl) RepL.ints
theorem rep_int {i : Int} : Rep G S (.int i) (.int i) := by unfold Rep; rfl
theorem rep_bl {b : Bool} : Rep G S (.bl b) (.bl b) := by unfold Rep; rfl
theorem rep_non : Rep G S .non .non := by unfold Rep; rfl
theorem rep_str {x : Str} : Rep G S (.str x) (.str x) := by unfold Rep; rfl
theorem rep_fn {a : Addr} : Rep G S (.fn a) (.ref a) := by unfold Rep; rfl
theorem inv_scr {ns : List Int} (h : Rep G S (.scr ns) v) : ∃ a, v = .ref a ∧ SqL G.K S a (ns.map V.int) := by unfold Rep at h; exact h
theorem inv_int {i : Int} (h : Rep G S (.int i) v) : v = .int i := by unfold Rep at h; exact h
theorem inv_bl {i : Bool} (h : Rep G S (.bl i) v) : v = .bl i := by unfold Rep at h; exact h
theorem inv_non (h : Rep G S .non v) : v = .non := by unfold Rep at h; exact h
theorem inv_str {i : Str} (h : Rep G S (.str i) v) : v = .str i := by unfold Rep at h; exact h
theorem inv_tup (h : Rep G S (.tup ds) v) : ∃ a vs, v = .ref a ∧ SqT G.K S a vs ∧ RepL G S ds vs := by unfold Rep at h; exact h
theorem inv_lst (h : Rep G S (.lst ds) v) : ∃ a vs, v = .ref a ∧ S a = some (.lst vs) ∧ RepL G S ds vs := by unfold Rep at h; exact h
end

/-! ### slots, the state -/
inductive Sl where
  /-- nothing known -/
  | no
  /-- a value that stays -/
  | va (d : D)
  /-- an object of one's own that may be changed: its content -/
  | ow (d : D)
  /-- an object that was handed in to be changed -/
  | io (d : D)
abbrev Ev := List Sl
structure Gh where
  B : Hp
  S0 : Hp
  H0 : Hp
  io : Nat → Option Addr

def Cont (G : Cls) (S H : Hp) (a : Addr) : D → Prop
  | .lst ds => ∃ vs, H a = some (.lst vs) ∧ RepL G S ds vs
  | .ob c ds => ∃ dx vs, H a = some (.ins (G.adr c) dx ((G.fld c).zip vs)) ∧ vs.length ≤ (G.fld c).length ∧ RepL G S ds vs
  | _ => False
theorem Cont.mono {G : Cls} {S S' H H' : Hp} {a : Addr} (e : Same S S') (q : H' a = H a) : ∀ {d : D}, Cont G S H a d → Cont G S' H' a d
  | .lst _, ⟨vs, h1, h2⟩ => ⟨vs, q.trans h1, h2.mono e⟩
  | .ob _ _, ⟨dx, vs, h1, h3, h2⟩ => ⟨dx, vs, q.trans h1, h3, h2.mono e⟩
  | .non, h => h.elim
  | .bl _, h => h.elim
  | .int _, h => h.elim
  | .str _, h => h.elim
  | .tup _, h => h.elim
  | .fn _, h => h.elim
  | .scr _, h => h.elim
theorem Cont.has {G : Cls} {S H : Hp} {a : Addr} : ∀ {d : D}, Cont G S H a d → ∃ o, H a = some o ∧ Mut (some o)
  | .lst _, ⟨_, h1, _⟩ => ⟨_, h1, trivial⟩
  | .ob _ _, ⟨_, _, h1, _, _⟩ => ⟨_, h1, trivial⟩
  | .non, h => h.elim
  | .bl _, h => h.elim
  | .int _, h => h.elim
  | .str _, h => h.elim
  | .tup _, h => h.elim
  | .fn _, h => h.elim
  | .scr _, h => h.elim

def SlOk (G : Cls) (g : Gh) (S H : Hp) (i : Nat) (x : Option V) : Sl → Prop
  | .no => True
  | .va d => ∃ v, x = some v ∧ Rep G S d v
  | .ow d => ∃ a, x = some (.ref a) ∧ Cont G S H a d ∧ S a = none ∧ g.B a = none ∧ g.H0 a = none
  | .io d => ∃ a, x = some (.ref a) ∧ g.io i = some a ∧ Cont G S H a d ∧ S a = none ∧ g.B a = none ∧ ∃ o, g.H0 a = some o
/-- the slot holds a changeable object -/
def Sl.isO : Sl → Bool
  | .ow _ => true
  | .io _ => true
  | _ => false
/-- slot i holds a changeable object, at a -/
def OwnAt (d : Ev) (s : St) (i : Nat) (a : Addr) : Prop := ∃ x, d[i]? = some x ∧ x.isO = true ∧ s[i]? = some (some (.ref a))

structure Zt (G : Cls) (g : Gh) (S : Hp) (s : St) (H : Hp) (d : Ev) : Prop where
  sh : Same S H
  bh : Same g.B H
  s0 : ∀ b o, S b = some o → g.S0 b = some o ∨ g.H0 b = none
  s1 : Same g.S0 S
  dm : ∀ b, H b = none → g.H0 b = none
  ln : s.length = d.length
  sl : ∀ i x, d[i]? = some x → ∃ y, s[i]? = some y ∧ SlOk G g S H i y x
  ap : ∀ i j a, i ≠ j → OwnAt d s i a → OwnAt d s j a → False
  ic : ∀ i a, g.io i = some a → ∃ x, d[i]? = some (.io x)

/-- nothing that stood is changed; what is new among the kept is new -/
structure Ext (S H S' H' : Hp) : Prop where
  s : Same S S'
  h : Same H H'
  sh : Same S' H'
  new : ∀ b o, S' b = some o → S b = some o ∨ H b = none
theorem Ext.refl {S H : Hp} (h : Same S H) : Ext S H S H := ⟨.refl _, .refl _, h, fun _ _ e => .inl e⟩
theorem Ext.trans {S H S1 H1 S2 H2 : Hp} (a : Ext S H S1 H1) (b : Ext S1 H1 S2 H2) : Ext S H S2 H2 :=
  ⟨a.s.trans b.s, a.h.trans b.h, b.sh, fun c o e => by
    rcases b.new c o e with z | z
    · exact a.new c o z
    · exact .inr (a.h.free z)⟩
theorem Ext.alloc {S H : Hp} {p : Addr} {o : HO} (h : Same S H) (hp : H p = none) : Ext S H (upd S p o) (upd H p o) := by
  have hs : S p = none := h.free hp
  refine ⟨fun b u e => ?_, fun b u e => ?_, fun b u e => ?_, fun b u e => ?_⟩
  · rw [upd_ne (ne_of_none e hs)]; exact e
  · rw [upd_ne (ne_of_none e hp)]; exact e
  · by_cases hb : b = p
    · subst hb; rw [upd_same] at e ⊢; exact e
    · rw [upd_ne hb] at e ⊢; exact h _ _ e
  · by_cases hb : b = p
    · subst hb; exact .inr hp
    · rw [upd_ne hb] at e; exact .inl e

section
variable {G : Cls} {g : Gh} {S S' H H' : Hp} {s : St} {d : Ev} {i j : Nat} {a : Addr} {x : Sl}
theorem Zt.ownAddr (z : Zt G g S s H d) (o : OwnAt d s i a) : (∃ o, H a = some o) ∧ S a = none ∧ g.B a = none := by
  obtain ⟨x, h1, h2, h3⟩ := o
  obtain ⟨y, e, k⟩ := z.sl i x h1
  rw [h3] at e
  cases e
  cases x with
  | no => cases h2
  | va _ => cases h2
  | ow _ =>
    obtain ⟨b, e, c, h4, h5, h6⟩ := k
    cases e
    obtain ⟨o, e, _⟩ := c.has
    exact ⟨⟨o, e⟩, h4, h5⟩
  | io _ =>
    obtain ⟨b, e, _, c, h4, h5, h6⟩ := k
    cases e
    obtain ⟨o, e, _⟩ := c.has
    exact ⟨⟨o, e⟩, h4, h5⟩
/-- the kept and the heap grow -/
theorem Zt.ext (z : Zt G g S s H d) (e : Ext S H S' H') : Zt G g S' s H' d where
  sh := e.sh
  bh := z.bh.trans e.h
  s0 := fun b o q => by
    rcases e.new b o q with r | r
    · exact z.s0 b o r
    · exact .inr (z.dm b r)
  s1 := z.s1.trans e.s
  dm := fun b q => z.dm b (e.h.free q)
  ln := z.ln
  sl := fun i x q => by
    obtain ⟨y, h1, h2⟩ := z.sl i x q
    refine ⟨y, h1, ?_⟩
    have own : ∀ a, (∃ o, H a = some o) → S a = none → H' a = H a ∧ S' a = none := fun a ⟨o, ho⟩ hs => by
      refine ⟨by rw [e.h _ _ ho, ho], ?_⟩
      cases q : S' a with
      | none => rfl
      | some u =>
        rcases e.new a u q with r | r
        · rw [hs] at r; cases r
        · rw [ho] at r; cases r
    cases x with
    | no => trivial
    | va d => obtain ⟨v, e1, r⟩ := h2; exact ⟨v, e1, r.mono e.s⟩
    | ow d =>
      obtain ⟨a, e1, c, h3, h4, h5⟩ := h2
      obtain ⟨o, ho, _⟩ := c.has
      obtain ⟨k1, k2⟩ := own a ⟨o, ho⟩ h3
      exact ⟨a, e1, c.mono e.s k1, k2, h4, h5⟩
    | io d =>
      obtain ⟨a, e1, e2, c, h3, h4, h5⟩ := h2
      obtain ⟨o, ho, _⟩ := c.has
      obtain ⟨k1, k2⟩ := own a ⟨o, ho⟩ h3
      exact ⟨a, e1, e2, c.mono e.s k1, k2, h4, h5⟩
  ap := z.ap
  ic := z.ic
theorem getElem?_set_cases {α : Type} {l : List α} {i j : Nat} {x y : α} (h : (l.set i x)[j]? = some y) : (j = i ∧ y = x ∧ i < l.length) ∨ (j ≠ i ∧ l[j]? = some y) := by
  by_cases e : j = i
  · subst e
    by_cases hl : j < l.length
    · rw [List.getElem?_set_self hl] at h
      exact .inl ⟨rfl, (Option.some.inj h).symm, hl⟩
    · rw [List.getElem?_eq_none (by simpa using hl)] at h
      cases h
  · rw [List.getElem?_set_ne (Ne.symm e)] at h
    exact .inr ⟨e, h⟩
theorem set_get {α : Type} {l : List α} {i : Nat} {x : α} (h : i < l.length) : (l.set i x)[i]? = some x := List.getElem?_set_self h
theorem OwnAt.of_set {v : Option V} (o : OwnAt (d.set i x) (s.set i v) j a) : (j = i ∧ x.isO = true ∧ v = some (.ref a) ∧ i < d.length) ∨ (j ≠ i ∧ OwnAt d s j a) := by
  obtain ⟨y, h1, h2, h3⟩ := o
  rcases getElem?_set_cases h1 with ⟨e, e1, hl⟩ | ⟨e, e1⟩
  · subst e; subst e1
    rcases getElem?_set_cases h3 with ⟨_, e2, _⟩ | ⟨q, _⟩
    · exact .inl ⟨rfl, h2, e2.symm, hl⟩
    · exact absurd rfl q
  · rw [List.getElem?_set_ne (Ne.symm e)] at h3
    exact .inr ⟨e, y, e1, h2, h3⟩
/-- slot i is no object that was handed in -/
def notIo (d : Ev) (i : Nat) : Bool := match d[i]? with
  | some (.io _) => false
  | some _ => true
  | none => false
theorem notIo_lt (h : notIo d i = true) : i < d.length := by
  unfold notIo at h
  split at h
  · cases h
  · rename_i e; exact (List.getElem?_eq_some_iff.mp e).1
  · cases h
theorem notIo_ne {y : D} (h : notIo d i = true) : d[i]? ≠ some (.io y) := by
  unfold notIo at h
  intro e
  rw [e] at h
  cases h
/-- a slot is set -/
theorem Zt.set {v : Option V} (z : Zt G g S s H d) (hi : notIo d i = true) (h : SlOk G g S H i v x) (hx : ∀ y, x ≠ .io y) (ho : ∀ a, x.isO = true → v = some (.ref a) → ∀ j, ¬ OwnAt d s j a) : Zt G g S (s.set i v) H (d.set i x) where
  sh := z.sh
  bh := z.bh
  s0 := z.s0
  s1 := z.s1
  dm := z.dm
  ln := by simpa using z.ln
  sl := fun j y q => by
    rcases getElem?_set_cases q with ⟨e, e1, hl⟩ | ⟨e, e1⟩
    · subst e; subst e1
      exact ⟨v, set_get (by rw [z.ln]; exact hl), h⟩
    · obtain ⟨w, h1, h2⟩ := z.sl j y e1
      exact ⟨w, by rw [List.getElem?_set_ne (Ne.symm e)]; exact h1, h2⟩
  ap := fun j k a hn h1 h2 => by
    rcases h1.of_set with ⟨e1, o1, v1, _⟩ | ⟨e1, o1⟩ <;> rcases h2.of_set with ⟨e2, o2, v2, _⟩ | ⟨e2, o2⟩
    · exact hn (e1.trans e2.symm)
    · exact ho a o1 v1 k o2
    · exact ho a o2 v2 j o1
    · exact z.ap j k a hn o1 o2
  ic := fun j a e => by
    obtain ⟨y, h1⟩ := z.ic j a e
    have : j ≠ i := fun q => by subst q; exact notIo_ne hi h1
    exact ⟨y, by rw [List.getElem?_set_ne (Ne.symm this)]; exact h1⟩
theorem Zt.setVa {v : V} {y : D} (z : Zt G g S s H d) (hi : notIo d i = true) (h : Rep G S y v) : Zt G g S (s.set i (some v)) H (d.set i (.va y)) :=
  z.set hi ⟨v, rfl, h⟩ (fun _ q => nomatch q) fun _ q => nomatch q
end
end Zr

/-! Zr: the judgements over plain data, and the rules. -/
namespace Zr
open PySem L2

abbrev DE := Ev → Option (D × Ev)
abbrev DT := Ev → Option (Bool × Ev)
abbrev DA := Ev → Option (List D × Ev)
inductive Fl where
  | nx | bk | ct | rt (x : D) | rf (x : D)
abbrev DS := Ev → Option (Fl × Ev)

theorem pe_weak {X : Cx} {e : Expr} {t t' : TE} (h : PE X e t) (w : ∀ s H Q, t' s H Q → t s H Q) : PE X e t' := ⟨fun pins s σ H Q I q => h.run pins s σ H Q I (w _ _ _ q)⟩
theorem pt_weak {X : Cx} {e : Expr} {t t' : TT} (h : PT X e t) (w : ∀ s H Q, t' s H Q → t s H Q) : PT X e t' := ⟨fun pins s σ H Q I q => h.run pins s σ H Q I (w _ _ _ q)⟩
theorem pw_weak {X : Cx} {e : Expr} {t t' : TT} (h : PW X e t) (w : ∀ s H Q, t' s H Q → t s H Q) : PW X e t' := ⟨fun wh pins s σ H Q I q => h.run wh pins s σ H Q I (w _ _ _ q)⟩
theorem pa_weak {X : Cx} {e : List Expr} {t t' : TA} (h : PA X e t) (w : ∀ s H Q, t' s H Q → t s H Q) : PA X e t' := ⟨fun pos pins s σ H Q I q => h.run pos pins s σ H Q I (w _ _ _ q)⟩
theorem ps_weak {X : Cx} {e : Stmt} {t t' : TS} (h : PS X e t) (w : ∀ D s H, t' D s H → t D s H) : PS X e t' := ⟨fun pins s σ H D I q => h.run pins s σ H D I (w _ _ _ q)⟩
theorem pss_weak {X : Cx} {e : List Stmt} {t t' : TS} (h : PSs X e t) (w : ∀ D s H, t' D s H → t D s H) : PSs X e t' := ⟨fun pins s σ H D I q => h.run pins s σ H D I (w _ _ _ q)⟩
theorem pg_weak {X : Cx} {e : Expr} {t t' : TG} (h : PG X e t) (w : ∀ v s H Q, t' v s H Q → t v s H Q) : PG X e t' := ⟨fun pins s σ H v u Q I r q => h.run pins s σ H v u Q I r (w _ _ _ _ q)⟩
theorem pgs_weak {X : Cx} {e : List Expr} {t t' : TGs} (h : PGs X e t) (w : ∀ v s H Q, t' v s H Q → t v s H Q) : PGs X e t' := ⟨fun pins s σ H v u Q I r q => h.run pins s σ H v u Q I r (w _ _ _ _ q)⟩
theorem pi_weak {X : Cx} {tg e : Expr} {t t' : TI} (h : PI X tg e t) (w : ∀ s H Q, t' s H Q → t s H Q) : PI X tg e t' := ⟨fun pins s σ H Q I q => h.run pins s σ H Q I (w _ _ _ q)⟩

def liftE (G : Cls) (f : DE) : TE := fun s H Q => ∃ g S d x d', Zt G g S s H d ∧ f d = some (x, d') ∧ ∀ v H' S', Same S S' → Zt G g S' s H' d' → Rep G S' x v → Q v H'
/-- a new object of one's own -/
def liftF (G : Cls) (f : DE) : TE := fun s H Q => ∃ g S d x d', Zt G g S s H d ∧ f d = some (x, d') ∧
  ∀ a H' S', Same S S' → Zt G g S' s H' d' → Cont G S' H' a x → S' a = none → g.B a = none → g.H0 a = none → (∀ j, ¬ OwnAt d' s j a) → Q (.ref a) H'
def liftT (G : Cls) (f : DT) : TT := fun s H Q => ∃ g S d x d', Zt G g S s H d ∧ f d = some (x, d') ∧ ∀ H' S', Same S S' → Zt G g S' s H' d' → Q x H'
def liftA (G : Cls) (f : DA) : TA := fun s H Q => ∃ g S d x d', Zt G g S s H d ∧ f d = some (x, d') ∧ ∀ v H' S', Same S S' → Zt G g S' s H' d' → RepL G S' x v → Q v H'
def EndOf (G : Cls) (g : Gh) (S : Hp) (D : Ends) (d' : Ev) : Fl → Prop
  | .nx => ∀ s' H' S', Same S S' → Zt G g S' s' H' d' → D.nx s' H'
  | .bk => ∀ s' H' S', Same S S' → Zt G g S' s' H' d' → D.bk s' H'
  | .ct => ∀ s' H' S', Same S S' → Zt G g S' s' H' d' → D.ct s' H'
  | .rt x => ∀ v s' H' S', Same S S' → Zt G g S' s' H' d' → Rep G S' x v → D.rt v H'
  | .rf x => ∀ a s' H' S', Same S S' → Zt G g S' s' H' d' → Cont G S' H' a x → S' a = none → g.B a = none → g.H0 a = none → D.rt (.ref a) H'
theorem EndOf.mono {G : Cls} {g : Gh} {S S1 : Hp} {D : Ends} {d : Ev} {fl : Fl} (e : Same S S1) (h : EndOf G g S D d fl) : EndOf G g S1 D d fl := by
  cases fl with
  | nx => exact fun s' H' S' q => h s' H' S' (e.trans q)
  | bk => exact fun s' H' S' q => h s' H' S' (e.trans q)
  | ct => exact fun s' H' S' q => h s' H' S' (e.trans q)
  | rt x => exact fun v s' H' S' q => h v s' H' S' (e.trans q)
  | rf x => exact fun v s' H' S' q => h v s' H' S' (e.trans q)
def liftS (G : Cls) (f : DS) : TS := fun D s H => ∃ g S d fl d', Zt G g S s H d ∧ f d = some (fl, d') ∧ EndOf G g S D d' fl

abbrev LE (G : Cls) (X : Cx) (e : Expr) (f : DE) : Prop := PE X e (liftE G f)
abbrev LF (G : Cls) (X : Cx) (e : Expr) (f : DE) : Prop := PE X e (liftF G f)
abbrev LT (G : Cls) (X : Cx) (e : Expr) (f : DT) : Prop := PT X e (liftT G f)
abbrev LW (G : Cls) (X : Cx) (e : Expr) (f : DT) : Prop := PW X e (liftT G f)
abbrev LA (G : Cls) (X : Cx) (e : List Expr) (f : DA) : Prop := PA X e (liftA G f)
abbrev LS (G : Cls) (X : Cx) (e : Stmt) (f : DS) : Prop := PS X e (liftS G f)
abbrev LSs (G : Cls) (X : Cx) (e : List Stmt) (f : DS) : Prop := PSs X e (liftS G f)

section
variable {G : Cls} {X : Cx} {e a b c : Expr} {es : List Expr} {f h k : DE} {fa : DA} {ft gt : DT} {pos : Pos} {st : Stmt} {sts : List Stmt} {B B1 B2 : DS}

/-! ### a fresh object is kept -/
theorem Zt.keep {g : Gh} {S H : Hp} {s : St} {d : Ev} {a : Addr} {o : HO} (z : Zt G g S s H d) (ha : H a = some o) (hs : S a = none) (h0 : g.H0 a = none) (ho : ∀ j, ¬ OwnAt d s j a) : Zt G g (upd S a o) s H d ∧ Same S (upd S a o) := by
  have sm : Same S (upd S a o) := fun b u e => by rw [upd_ne (ne_of_none e hs)]; exact e
  refine ⟨⟨fun b u e => ?_, z.bh, fun b u e => ?_, z.s1.trans sm, z.dm, z.ln, fun i x q => ?_, z.ap, z.ic⟩, sm⟩
  · by_cases hb : b = a
    · subst hb; rw [upd_same] at e; rw [ha]; exact e
    · rw [upd_ne hb] at e; exact z.sh _ _ e
  · by_cases hb : b = a
    · subst hb; exact .inr h0
    · rw [upd_ne hb] at e; exact z.s0 _ _ e
  · obtain ⟨y, h1, h2⟩ := z.sl i x q
    refine ⟨y, h1, ?_⟩
    cases x with
    | no => trivial
    | va d => obtain ⟨v, e1, r⟩ := h2; exact ⟨v, e1, r.mono sm⟩
    | ow d =>
      obtain ⟨b, e1, c, h3, h4, h5⟩ := h2
      have hb : b ≠ a := fun w => ho i ⟨_, q, rfl, by rw [h1, e1, w]⟩
      exact ⟨b, e1, c.mono sm rfl, by rw [upd_ne hb]; exact h3, h4, h5⟩
    | io d =>
      obtain ⟨b, e1, e2, c, h3, h4, h5⟩ := h2
      have hb : b ≠ a := fun w => ho i ⟨_, q, rfl, by rw [h1, e1, w]⟩
      exact ⟨b, e1, e2, c.mono sm rfl, by rw [upd_ne hb]; exact h3, h4, h5⟩
theorem Cont.rep {S S' H : Hp} {a : Addr} {o : HO} (ha : H a = some o) (hs : S' a = some o) (e : Same S S') : ∀ {x : D}, Cont G S H a x → Rep G S' x (.ref a)
  | .lst _, ⟨vs, h1, h2⟩ => by
    rw [ha] at h1; cases h1
    unfold Rep
    exact ⟨a, vs, rfl, hs, h2.mono e⟩
  | .ob _ _, ⟨dx, vs, h1, h3, h2⟩ => by
    rw [ha] at h1; cases h1
    unfold Rep
    exact ⟨a, dx, vs, rfl, hs, h3, h2.mono e⟩
  | .non, q => q.elim
  | .bl _, q => q.elim
  | .int _, q => q.elim
  | .str _, q => q.elim
  | .tup _, q => q.elim
  | .fn _, q => q.elim
  | .scr _, q => q.elim
theorem le_fz (hf : LF G X e f) : LE G X e f := pe_weak hf fun s H Q ⟨g, S, d, x, d', z, e, q⟩ => ⟨g, S, d, x, d', z, e, fun a H' S' sm z' ct hs _ h0 ho => by
  obtain ⟨o, ha, _⟩ := ct.has
  obtain ⟨z2, sm2⟩ := z'.keep ha hs h0 ho
  exact q _ _ _ (sm.trans sm2) z2 (ct.rep ha upd_same sm2)⟩

/-! ### names, constants -/
def frz : D → Bool
  | .lst _ => true
  | .ob _ _ => true
  | _ => false
def nm (i : Nat) : DE := fun d => match d[i]? with
  | some (.va x) => some (x, d)
  | some (.ow x) => some (x, d.set i (.va x))
  | _ => none
theorem le_nm (i : Nat) {x : Str} (hN : X.N[i]? = some x := by rfl) (hv : Vis X.env.scope x := by first | exact Or.inl rfl | exact Or.inr (Or.inl rfl) | exact Or.inr (Or.inr rfl)) (hd : (x == ("__debug__" : Str)) = false := by decide) (hcd : (x == ("__classdict__" : Str)) = false := by decide) : LE G X (.Name x pos) (nm i) := by
  refine pe_weak (pe_var hN hv hd hcd) fun s H Q ⟨g, S, d, x, d', z, e, q⟩ => ?_
  unfold nm at e
  split at e
  · rename_i y he
    cases e
    obtain ⟨w, h1, v, rfl, r⟩ := z.sl i _ he
    exact ⟨v, h1, q v H S (.refl _) z r⟩
  · rename_i y he
    cases e
    obtain ⟨w, h1, a, rfl, ct, h3, h4, h5⟩ := z.sl i _ he
    obtain ⟨o, ha, _⟩ := ct.has
    have z1 : Zt G g S (s.set i (some (.ref a))) H (d.set i .no) := z.set (by unfold notIo; rw [he]) trivial (fun _ q => nomatch q) fun _ q => nomatch q
    have es : s.set i (some (.ref a)) = s := by
      have hl := (List.getElem?_eq_some_iff.mp h1)
      obtain ⟨hl, hg⟩ := hl
      rw [← hg]; exact List.set_getElem_self hl
    rw [es] at z1
    have il : i < d.length := (List.getElem?_eq_some_iff.mp he).1
    have no : ∀ j, ¬ OwnAt (d.set i .no) s j a := fun j o => by
      obtain ⟨y, o1, o2, o3⟩ := o
      rcases getElem?_set_cases o1 with ⟨e1, e2, _⟩ | ⟨e1, e2⟩
      · subst e2; cases o2
      · exact z.ap j i a e1 ⟨y, e2, o2, o3⟩ ⟨_, he, rfl, h1⟩
    obtain ⟨z2, sm⟩ := z1.keep ha h3 h5 no
    have z3 := z2.setVa (i := i) (v := .ref a) (y := x) (by unfold notIo; rw [set_get il]) (ct.rep ha upd_same sm)
    rw [es, List.set_set] at z3
    exact ⟨.ref a, h1, q _ _ _ sm z3 (ct.rep ha upd_same sm)⟩
  · cases e

def kc (x : D) : DE := fun d => some (x, d)
theorem lift_const {v : V} {x : D} (r : ∀ S, Rep G S x v) (hp : PE X e (tC v)) : LE G X e (kc x) :=
  pe_weak hp fun s H Q ⟨g, S, d, y, d', z, e, q⟩ => by cases e; exact q _ _ _ (.refl _) z (r S)
theorem le_int {i j} : LE G X (.Constant (.int i) j pos) (kc (.int i)) := lift_const (fun _ => rep_int) pe_int
theorem le_bl {i j} : LE G X (.Constant (.bool i) j pos) (kc (.bl i)) := lift_const (fun _ => rep_bl) pe_bl
theorem le_non {j} : LE G X (.Constant .none j pos) (kc .non) := lift_const (fun _ => rep_non) pe_non
theorem le_str {i j} : LE G X (.Constant (.str i) j pos) (kc (.str i)) := lift_const (fun _ => rep_str) pe_str

/-! ### operators -/
def R1D (G : Cls) (k : D → Option D) (r : V → Hp → VK → Prop) : Prop := ∀ S H x z v (Q : VK), Same S H → Rep G S x v → k x = some z → (∀ u S' H', Ext S H S' H' → Rep G S' z u → Q u H') → r v H Q
def R2D (G : Cls) (k : D → D → Option D) (r : R2) : Prop := ∀ S H x y z v w (Q : VK), Same S H → Rep G S x v → Rep G S y w → k x y = some z → (∀ u S' H', Ext S H S' H' → Rep G S' z u → Q u H') → r v w H Q
def RnD (G : Cls) (k : List D → Option D) (r : List V → Hp → VK → Prop) : Prop := ∀ S H xs z vs (Q : VK), Same S H → RepL G S xs vs → k xs = some z → (∀ u S' H', Ext S H S' H' → Rep G S' z u → Q u H') → r vs H Q
def u1 (k : D → Option D) (f : DE) : DE := fun d => match f d with
  | some (x, d1) => match k x with
    | some z => some (z, d1)
    | none => none
  | none => none
def b2 (k : D → D → Option D) (f h : DE) : DE := fun d => match f d with
  | some (x, d1) => match h d1 with
    | some (y, d2) => match k x y with
      | some z => some (z, d2)
      | none => none
    | none => none
  | none => none
theorem b2_inv {k : D → D → Option D} {d d' : Ev} {z : D} (e : b2 k f h d = some (z, d')) : ∃ x d1 y, f d = some (x, d1) ∧ h d1 = some (y, d') ∧ k x y = some z := by
  unfold b2 at e
  split at e
  · rename_i x d1 e1
    split at e
    · rename_i y d2 e2
      split at e
      · rename_i w e3
        cases e
        exact ⟨x, d1, y, e1, e2, e3⟩
      · cases e
    · cases e
  · cases e
theorem u1_inv {k : D → Option D} {d d' : Ev} {z : D} (e : u1 k f d = some (z, d')) : ∃ x, f d = some (x, d') ∧ k x = some z := by
  unfold u1 at e
  split at e
  · rename_i x d1 e1
    split at e
    · rename_i w e3
      cases e
      exact ⟨x, e1, e3⟩
    · cases e
  · cases e
/-- two in a row -/
theorem lift2 {k : D → D → Option D} {r : R2} (hr : R2D G k r) {s : St} {H : Hp} {Q : VK} (q : liftE G (b2 k f h) s H Q) : tOp r (liftE G f) (liftE G h) s H Q := by
  obtain ⟨g, S, d, z, d', zt, e, q⟩ := q
  obtain ⟨x, d1, y, e1, e2, e3⟩ := b2_inv e
  refine ⟨g, S, d, x, d1, zt, e1, fun v H1 S1 s1 z1 r1 => ⟨g, S1, d1, y, d', z1, e2, fun w H2 S2 s2 z2 r2 => ?_⟩⟩
  exact hr S2 H2 x y z v w Q z2.sh (r1.mono s2) r2 e3 fun u S' H' ex ru => q u H' S' ((s1.trans s2).trans ex.s) (z2.ext ex) ru
theorem le_bin {op : Operator} {k : D → D → Option D} {r : R2} (hr : R2D G k r) (ho : OpR X (binaryOp op) r) (ha : LE G X a f) (hb : LE G X b h) : LE G X (.BinOp a op b pos) (b2 k f h) :=
  pe_weak (pe_op ho ha hb) fun _ _ _ => lift2 hr
theorem le_un {op : UnaryOp} {k : D → Option D} {r : V → Hp → VK → Prop} (hr : R1D G k r) (ho : UnR X (unaryOp op) r) (ha : LE G X a f) : LE G X (.UnaryOp op a pos) (u1 k f) := by
  refine pe_weak (pe_un ho ha) fun s H Q ⟨g, S, d, z, d', zt, e, q⟩ => ?_
  obtain ⟨x, e1, e3⟩ := u1_inv e
  exact ⟨g, S, d, x, d', zt, e1, fun v H1 S1 s1 z1 r1 => hr S1 H1 x z v Q z1.sh r1 e3 fun u S' H' ex ru => q u H' S' (s1.trans ex.s) (z1.ext ex) ru⟩
theorem le_cmp {op : CmpOp} {k : D → D → Option D} {r : R2} (hr : R2D G k r) (ho : OpR X (compareOp op) r) (ha : LE G X a f) (hb : LE G X b h) (hm : behindInMarks op b = false := by first | exact nobehind _ (by decide) (by decide) | rfl) : LE G X (.Compare a [op] [b] pos) (b2 k f h) :=
  pe_weak (pe_cmpR ho ha hb hm) fun _ _ _ => lift2 hr
/-- a value that is a bool, as a test -/
def tb (f : DE) : DT := fun d => match f d with
  | some (.bl x, d1) => some (x, d1)
  | _ => none
theorem tb_inv {d d' : Ev} {z : Bool} (e : tb f d = some (z, d')) : f d = some (.bl z, d') := by
  unfold tb at e
  split at e
  · cases e; assumption
  · cases e
theorem liftT_of {s : St} {H : Hp} {Q : Bool → Hp → Prop} (q : liftT G (tb f) s H Q) : liftE G f s H (fun x H' => ∃ c, x = .bl c ∧ Q c H') := by
  obtain ⟨g, S, d, z, d', zt, e, q⟩ := q
  exact ⟨g, S, d, .bl z, d', zt, tb_inv e, fun v H' S' sm z' r => ⟨z, inv_bl r, q H' S' sm z'⟩⟩
theorem lt_cmp {op : CmpOp} {k : D → D → Option D} {r : R2} (hr : R2D G k r) (ho : OpR X (compareOp op) r) (ha : LE G X a f) (hb : LE G X b h) (hm : behindInMarks op b = false := by first | exact nobehind _ (by decide) (by decide) | rfl) : LT G X (.Compare a [op] [b] pos) (tb (b2 k f h)) :=
  pt_weak (pt_cmpR ho ha hb hm) fun _ _ _ q => lift2 hr (liftT_of q)
theorem lt_val (he : LE G X e f) (hw : ∀ whole, isTrue e X.env whole = (do let v ← whole; standAt e.pos; holding [v] (truthy v)) := by intro _; rfl) : LT G X e (tb f) :=
  pt_weak (pt_val he hw) fun _ _ _ q => liftT_of q

/-! ### chains: a < b < c -/
def ch (k k' : D → D → Option D) (f h m : DE) : DE := fun d => match f d with
  | some (x, d1) => match h d1 with
    | some (y, d2) => match k x y with
      | some (.bl true) => match m d2 with
        | some (w, d3) => match k' y w with
          | some z => some (z, d3)
          | none => none
        | none => none
      | some (.bl false) => some (.bl false, d2)
      | _ => none
    | none => none
  | none => none
theorem lift_chain {k k' : D → D → Option D} {r r' : R2} {m : DE} (hr : R2D G k r) (hr' : R2D G k' r') {s : St} {H : Hp} {Q : VK} (q : liftE G (ch k k' f h m) s H Q) : tChain r r' (liftE G f) (liftE G h) (liftE G m) s H Q := by
  obtain ⟨g, S, d, z, d', zt, e, q⟩ := q
  unfold ch at e
  split at e
  · rename_i x d1 e1
    split at e
    · rename_i y d2 e2
      refine ⟨g, S, d, x, d1, zt, e1, fun v H1 S1 s1 z1 r1 => ⟨g, S1, d1, y, d2, z1, e2, fun w H2 S2 s2 z2 r2 => ?_⟩⟩
      split at e
      · rename_i e3
        split at e
        · rename_i w' d3 e4
          split at e
          · rename_i z' e5
            cases e
            refine hr S2 H2 x y (.bl true) v w _ z2.sh (r1.mono s2) r2 e3 fun u S' H' ex ru => ⟨true, inv_bl ru, ?_⟩
            rw [if_pos rfl]
            refine ⟨g, S', d2, w', d', z2.ext ex, e4, fun v4 H4 S4 s4 z4 r4 => ?_⟩
            exact hr' S4 H4 y w' z w v4 Q z4.sh ((r2.mono ex.s).mono s4) r4 e5 fun u5 S5 H5 ex5 ru5 => q u5 H5 S5 ((((s1.trans s2).trans ex.s).trans s4).trans ex5.s) (z4.ext ex5) ru5
          · cases e
        · cases e
      · rename_i e3
        cases e
        refine hr S2 H2 x y (.bl false) v w _ z2.sh (r1.mono s2) r2 e3 fun u S' H' ex ru => ⟨false, inv_bl ru, ?_⟩
        rw [if_neg Bool.false_ne_true]
        exact q _ H' S' ((s1.trans s2).trans ex.s) (z2.ext ex) rep_bl
      · cases e
    · cases e
  · cases e
end
end Zr

/-! Zr: tests, displays, statements, loops, comprehensions. -/
namespace Zr
open PySem L2
section
variable {G : Cls} {X : Cx} {e a b c : Expr} {es : List Expr} {f h k : DE} {fa : DA} {ft : DT} {pos : Pos} {st : Stmt} {sts : List Stmt} {B B1 B2 : DS}
theorem le_chain {op op' : CmpOp} {k k' : D → D → Option D} {r r' : R2} {m : DE} (hr : R2D G k r) (hr' : R2D G k' r') (ho : OpR X (compareOp op) r) (ho' : OpR X (compareOp op') r') (ha : LE G X a f) (hb : LE G X b h) (hc : LE G X c m)
    (hm : lastMarks [op, op'] [b, c] = false := by with_unfolding_all rfl) : LE G X (.Compare a [op, op'] [b, c] pos) (ch k k' f h m) := pe_weak (pe_chain ho ho' ha hb hc hm) fun _ _ _ => lift_chain hr hr'
theorem lt_chain {op op' : CmpOp} {k k' : D → D → Option D} {r r' : R2} {m : DE} (hr : R2D G k r) (hr' : R2D G k' r') (ho : OpR X (compareOp op) r) (ho' : OpR X (compareOp op') r') (ha : LE G X a f) (hb : LE G X b h) (hc : LE G X c m)
    (hm : lastMarks [op, op'] [b, c] = false := by with_unfolding_all rfl) : LT G X (.Compare a [op, op'] [b, c] pos) (tb (ch k k' f h m)) := pt_weak (pt_chain ho ho' ha hb hc hm) fun _ _ _ q => lift_chain hr hr' (liftT_of q)

/-! ### not, and, or -/
def tnot (f : DT) : DT := fun d => match f d with
  | some (x, d1) => some (!x, d1)
  | none => none
def tand (f h : DT) : DT := fun d => match f d with
  | some (true, d1) => h d1
  | some (false, d1) => some (false, d1)
  | none => none
def tor (f h : DT) : DT := fun d => match f d with
  | some (true, d1) => some (true, d1)
  | some (false, d1) => h d1
  | none => none
theorem lt_not {t : DT} (ha : LT G X a t) : LT G X (.UnaryOp .Not a pos) (tnot t) := pt_weak (pt_not ha) fun s H Q ⟨g, S, d, x, d', z, e, q⟩ => by
  unfold tnot at e
  split at e
  · rename_i y d1 e1
    cases e
    exact ⟨g, S, d, y, d', z, e1, q⟩
  · cases e
theorem lw_and1 {t : DT} (ha : LT G X a t) : LW G X (.BoolOp .And [a] pos) t := pw_and1 ha
theorem lw_or1 {t : DT} (ha : LT G X a t) : LW G X (.BoolOp .Or [a] pos) t := pw_or1 ha
theorem lift_and {t u : DT} {s : St} {H : Hp} {Q : Bool → Hp → Prop} (q : liftT G (tand t u) s H Q) : tAnd (liftT G t) (liftT G u) s H Q := by
  obtain ⟨g, S, d, x, d', z, e, q⟩ := q
  unfold tand at e
  split at e
  · rename_i d1 e1
    refine ⟨g, S, d, true, d1, z, e1, fun H' S' sm z' => ?_⟩
    refine iteT ?_
    exact ⟨g, S', d1, x, d', z', e, fun H2 S2 sm2 z2 => q H2 S2 (sm.trans sm2) z2⟩
  · rename_i d1 e1
    cases e
    refine ⟨g, S, d, false, d', z, e1, fun H' S' sm z' => ?_⟩
    refine iteF ?_
    exact q H' S' sm z'
  · cases e
theorem lift_or {t u : DT} {s : St} {H : Hp} {Q : Bool → Hp → Prop} (q : liftT G (tor t u) s H Q) : tOr (liftT G t) (liftT G u) s H Q := by
  obtain ⟨g, S, d, x, d', z, e, q⟩ := q
  unfold tor at e
  split at e
  · rename_i d1 e1
    cases e
    refine ⟨g, S, d, true, d', z, e1, fun H' S' sm z' => ?_⟩
    refine iteT ?_
    exact q H' S' sm z'
  · rename_i d1 e1
    refine ⟨g, S, d, false, d1, z, e1, fun H' S' sm z' => ?_⟩
    refine iteF ?_
    exact ⟨g, S', d1, x, d', z', e, fun H2 S2 sm2 z2 => q H2 S2 (sm.trans sm2) z2⟩
  · cases e
theorem lw_and {t u : DT} (ha : LT G X a t) (hb : LW G X (.BoolOp .And (b :: es) pos) u) : LW G X (.BoolOp .And (a :: b :: es) pos) (tand t u) := pw_weak (pw_and ha hb) fun _ _ _ => lift_and
theorem lw_or {t u : DT} (ha : LT G X a t) (hb : LW G X (.BoolOp .Or (b :: es) pos) u) : LW G X (.BoolOp .Or (a :: b :: es) pos) (tor t u) := pw_weak (pw_or ha hb) fun _ _ _ => lift_or
theorem lt_w {t : DT} (h : LW G X e t) : LT G X e t := PW.pt h
/-- as values: bools -/
def tv (f : DT) : DE := fun d => match f d with
  | some (x, d1) => some (.bl x, d1)
  | none => none
def vnot (f : DE) : DE := tv (tnot (tb f))
def vand (f h : DE) : DE := fun d => match f d with
  | some (.bl true, d1) => h d1
  | some (.bl false, d1) => some (.bl false, d1)
  | _ => none
def vor (f h : DE) : DE := fun d => match f d with
  | some (.bl true, d1) => some (.bl true, d1)
  | some (.bl false, d1) => h d1
  | _ => none
theorem le_one {op} (ha : LE G X a f) : LE G X (.BoolOp op [a] pos) f := pe_one ha
theorem le_and (ha : LE G X a f) (hb : LE G X (.BoolOp .And (b :: es) pos) h) : LE G X (.BoolOp .And (a :: b :: es) pos) (vand f h) := pe_weak (pe_and ha hb) fun s H Q ⟨g, S, d, x, d', z, e, q⟩ => by
  unfold vand at e
  split at e
  · rename_i d1 e1
    refine ⟨g, S, d, _, d1, z, e1, fun v H' S' sm z' r => ⟨true, inv_bl r, ?_⟩⟩
    refine iteT ?_
    exact ⟨g, S', d1, x, d', z', e, fun v2 H2 S2 sm2 z2 => q v2 H2 S2 (sm.trans sm2) z2⟩
  · rename_i d1 e1
    cases e
    refine ⟨g, S, d, _, d', z, e1, fun v H' S' sm z' r => ⟨false, inv_bl r, ?_⟩⟩
    refine iteF ?_
    exact q _ H' S' sm z' rep_bl
  · cases e
theorem le_or (ha : LE G X a f) (hb : LE G X (.BoolOp .Or (b :: es) pos) h) : LE G X (.BoolOp .Or (a :: b :: es) pos) (vor f h) := pe_weak (pe_or ha hb) fun s H Q ⟨g, S, d, x, d', z, e, q⟩ => by
  unfold vor at e
  split at e
  · rename_i d1 e1
    cases e
    refine ⟨g, S, d, _, d', z, e1, fun v H' S' sm z' r => ⟨true, inv_bl r, ?_⟩⟩
    refine iteT ?_
    exact q _ H' S' sm z' rep_bl
  · rename_i d1 e1
    refine ⟨g, S, d, _, d1, z, e1, fun v H' S' sm z' r => ⟨false, inv_bl r, ?_⟩⟩
    refine iteF ?_
    exact ⟨g, S', d1, x, d', z', e, fun v2 H2 S2 sm2 z2 => q v2 H2 S2 (sm.trans sm2) z2⟩
  · cases e
theorem le_not (ha : LE G X a f) : LE G X (.UnaryOp .Not a pos) (vnot f) := pe_weak (pe_not ha) fun s H Q ⟨g, S, d, x, d', z, e, q⟩ => by
  unfold vnot tv tnot at e
  split at e
  · rename_i y d1 e1
    split at e1
    · rename_i y2 d2 e2
      cases e1; cases e
      refine ⟨g, S, d, .bl y2, d', z, tb_inv e2, fun v H' S' sm z' r => ⟨y2, inv_bl r, ?_⟩⟩
      exact q _ H' S' sm z' rep_bl
    · cases e1
  · cases e
/-- a if t else b -/
def fi (t : DT) (f h : DE) : DE := fun d => match t d with
  | some (true, d1) => f d1
  | some (false, d1) => h d1
  | none => none
theorem le_if {t : DT} (hc : LT G X c t) (ha : LE G X a f) (hb : LE G X b h) : LE G X (.IfExp c a b pos) (fi t f h) := pe_weak (pe_ifExp hc ha hb) fun s H Q ⟨g, S, d, x, d', z, e, q⟩ => by
  unfold fi at e
  split at e
  · rename_i d1 e1
    refine ⟨g, S, d, _, d1, z, e1, fun H' S' sm z' => ?_⟩
    refine iteT ?_
    exact ⟨g, S', d1, x, d', z', e, fun v2 H2 S2 sm2 z2 => q v2 H2 S2 (sm.trans sm2) z2⟩
  · rename_i d1 e1
    refine ⟨g, S, d, _, d1, z, e1, fun H' S' sm z' => ?_⟩
    refine iteF ?_
    exact ⟨g, S', d1, x, d', z', e, fun v2 H2 S2 sm2 z2 => q v2 H2 S2 (sm.trans sm2) z2⟩
  · cases e

/-! ### argument lists, displays -/
def an : DA := fun d => some ([], d)
def ac (f : DE) (r : DA) : DA := fun d => match f d with
  | some (x, d1) => match r d1 with
    | some (xs, d2) => some (x :: xs, d2)
    | none => none
  | none => none
theorem ac_inv {r : DA} {d d' : Ev} {zs : List D} (e : ac f r d = some (zs, d')) : ∃ x d1 xs, f d = some (x, d1) ∧ r d1 = some (xs, d') ∧ zs = x :: xs := by
  unfold ac at e
  split at e
  · rename_i x d1 e1
    split at e
    · rename_i xs d2 e2
      cases e
      exact ⟨x, d1, xs, e1, e2, rfl⟩
    · cases e
  · cases e
theorem la_nil : LA G X [] an := pa_weak pa_nil fun s H Q ⟨g, S, d, x, d', z, e, q⟩ => by cases e; exact q [] H S (.refl _) z .nil
theorem la_cons {r : DA} (ha : LE G X e f) (hr : LA G X es r) (hs : starEach (e :: es) X.env = (false, eval e X.env) :: starEach es X.env := by rfl) : LA G X (e :: es) (ac f r) := pa_weak (pa_cons ha hr hs) fun s H Q ⟨g, S, d, x, d', z, e, q⟩ => by
  obtain ⟨y, d1, ys, e1, e2, rfl⟩ := ac_inv e
  exact ⟨g, S, d, y, d1, z, e1, fun v H' S' sm z' r1 => ⟨g, S', d1, ys, d', z', e2, fun vs H2 S2 sm2 z2 r2 => q _ H2 S2 (sm.trans sm2) z2 (.cons (r1.mono sm2) r2)⟩⟩
def dt (r : DA) : DE := fun d => match r d with
  | some (xs, d1) => if xs.length ≤ sizeLine then some (.tup xs, d1) else none
  | none => none
def dl (r : DA) : DE := fun d => match r d with
  | some (xs, d1) => if xs.length ≤ sizeLine then some (.lst xs, d1) else none
  | none => none
theorem le_tup {r : DA} {x1} (h : LA G X es r) : LE G X (.Tuple es x1 pos) (dt r) := pe_weak (pe_tup h) fun s H Q ⟨g, S, d, x, d', z, e, q⟩ => by
  unfold dt at e
  split at e
  · rename_i xs d1 e1
    split at e
    · rename_i hl
      cases e
      refine ⟨g, S, d, xs, d', z, e1, fun vs H' S' sm z' r1 => ⟨by rw [← r1.length]; exact hl, fun p hp => ?_⟩⟩
      have ex := Ext.alloc (o := .tup vs) z'.sh hp
      exact q _ _ _ (sm.trans ex.s) (z'.ext ex) (by unfold Rep; exact ⟨p, vs, rfl, SqT.of upd_same, r1.mono ex.s⟩)
    · cases e
  · cases e
/-- a new object in the heap, not among the kept -/
theorem Zt.fresh {g : Gh} {S H : Hp} {s : St} {d : Ev} {p : Addr} {o : HO} (z : Zt G g S s H d) (hp : H p = none) : Zt G g S s (upd H p o) d ∧ S p = none ∧ g.B p = none ∧ g.H0 p = none ∧ ∀ j, ¬ OwnAt d s j p := by
  have no : ∀ j, ¬ OwnAt d s j p := fun j q => by
    obtain ⟨⟨u, hu⟩, _⟩ := z.ownAddr q
    rw [hp] at hu; cases hu
  have eH : ∀ b u, H b = some u → upd H p o b = some u := fun b u e => by rw [upd_ne (ne_of_none e hp)]; exact e
  refine ⟨⟨fun b u e => eH b u (z.sh b u e), fun b u e => eH b u (z.bh b u e), z.s0, z.s1, fun b e => ?_, z.ln, fun i x q => ?_, z.ap, z.ic⟩, z.sh.free hp, z.bh.free hp, z.dm p hp, no⟩
  · by_cases hb : b = p
    · subst hb; rw [upd_same] at e; cases e
    · rw [upd_ne hb] at e; exact z.dm b e
  · obtain ⟨y, h1, h2⟩ := z.sl i x q
    refine ⟨y, h1, ?_⟩
    have un : ∀ {b : Addr} {u : D}, Cont G S H b u → Cont G S (upd H p o) b u := fun {b u} ct => by
      obtain ⟨w, hw, _⟩ := ct.has
      exact ct.mono (.refl _) (upd_ne (ne_of_none hw hp))
    cases x with
    | no => trivial
    | va d => exact h2
    | ow d => obtain ⟨b, e1, c, h3⟩ := h2; exact ⟨b, e1, un c, h3⟩
    | io d => obtain ⟨b, e1, e2, c, h3⟩ := h2; exact ⟨b, e1, e2, un c, h3⟩
theorem lf_lst {r : DA} (h : LA G X es r) : LF G X (.List es pos) (dl r) := pe_weak (pe_lst h) fun s H Q ⟨g, S, d, x, d', z, e, q⟩ => by
  unfold dl at e
  split at e
  · rename_i xs d1 e1
    split at e
    · rename_i hl
      cases e
      refine ⟨g, S, d, xs, d', z, e1, fun vs H' S' sm z' r1 => ⟨by rw [← r1.length]; exact hl, fun p hp => ?_⟩⟩
      obtain ⟨z2, n1, n2, n3, n4⟩ := z'.fresh (o := .lst vs) hp
      exact q p _ S' sm z2 ⟨vs, upd_same, r1⟩ n1 n2 n3 n4
    · cases e
  · cases e
theorem le_lst {r : DA} (h : LA G X es r) : LE G X (.List es pos) (dl r) := le_fz (lf_lst h)

/-! ### built-ins that are called -/
def cn (k : List D → Option D) (r : DA) : DE := fun d => match r d with
  | some (xs, d1) => match k xs with
    | some z => some (z, d1)
    | none => none
  | none => none
theorem cn_inv {k : List D → Option D} {r : DA} {d d' : Ev} {z : D} (e : cn k r d = some (z, d')) : ∃ xs, r d = some (xs, d') ∧ k xs = some z := by
  unfold cn at e
  split at e
  · rename_i xs d1 e1
    split at e
    · rename_i y e2
      cases e
      exact ⟨xs, e1, e2⟩
    · cases e
  · cases e
theorem lift_cn {k : List D → Option D} {r : DA} {rr : List V → Hp → VK → Prop} (hr : RnD G k rr) {s : St} {H : Hp} {Q : VK} (q : liftE G (cn k r) s H Q) : tCB rr (liftA G r) s H Q := by
  obtain ⟨g, S, d, x, d', z, e, q⟩ := q
  obtain ⟨xs, e1, e2⟩ := cn_inv e
  exact ⟨g, S, d, xs, d', z, e1, fun vs H' S' sm z' r1 => hr S' H' xs x vs Q z'.sh r1 e2 fun u S2 H2 ex ru => q u H2 S2 (sm.trans ex.s) (z'.ext ex) ru⟩
theorem le_callB {x : Str} {p : Pos} {id : String} {k : List D → Option D} {r : DA} {rr : List V → Hp → VK → Prop} (hr : RnD G k rr) (hc : CallR X (.builtin id) rr) (hg : Gl X x) (hm : X.mg x = none) (hv : bootBuiltins x = some (.builtin id)) (ha : LA G X (e :: es) r)
    (hn : x ≠ "__name__" := by decide) (hdb : (x == ("__debug__" : Str)) = false := by decide) (he : starEach (e :: es) X.env = (false, eval e X.env) :: starEach es X.env := by rfl) (hpl : (backTo pos (starEach es X.env)).any (·.1) = false := by rfl) :
    LE G X (.Call (.Name x p) (e :: es) [] pos) (cn k r) := pe_weak (pe_callB hc hg hm hv ha hn hdb he hpl) fun _ _ _ => lift_cn hr
theorem le_callTy {x : Str} {p : Pos} {T : String} {k : List D → Option D} {r : DA} {rr : List V → Hp → VK → Prop} (hr : RnD G k rr) (hc : CallR X (.type T) rr) (hg : Gl X x) (hm : X.mg x = none) (hv : bootBuiltins x = some (.type T)) (ha : LA G X (e :: es) r)
    (hn : x ≠ "__name__" := by decide) (hdb : (x == ("__debug__" : Str)) = false := by decide) (he : starEach (e :: es) X.env = (false, eval e X.env) :: starEach es X.env := by rfl) (hpl : (backTo pos (starEach es X.env)).any (·.1) = false := by rfl) :
    LE G X (.Call (.Name x p) (e :: es) [] pos) (cn k r) := pe_weak (pe_callTy hc hg hm hv ha hn hdb he hpl) fun _ _ _ => lift_cn hr

/-! ### targets -/
abbrev DG := D → Ev → Option Ev
/-- the slots but those of ts are as they were -/
def Sm (ts : List Nat) (s s' : St) : Prop := s'.length = s.length ∧ ∀ j, j ∉ ts → s'[j]? = s[j]?
theorem Sm.refl {ts : List Nat} {s : St} : Sm ts s s := ⟨rfl, fun _ _ => rfl⟩
theorem Sm.trans {ts us : List Nat} {s s1 s2 : St} (a : Sm ts s s1) (b : Sm us s1 s2) : Sm (ts ++ us) s s2 := ⟨b.1.trans a.1, fun j h => by
  rw [List.mem_append, not_or] at h
  rw [b.2 j h.2, a.2 j h.1]⟩
def liftG (G : Cls) (t : DG) (ts : List Nat) : TG := fun v s H Q => ∃ g S d x d', Zt G g S s H d ∧ Rep G S x v ∧ t x d = some d' ∧ ∀ s' H' S', Same S S' → Sm ts s s' → Zt G g S' s' H' d' → Q s' H'
def liftGs (G : Cls) (t : List D → Ev → Option Ev) (ts : List Nat) : TGs := fun vs s H Q => ∃ g S d xs d', Zt G g S s H d ∧ RepL G S xs vs ∧ t xs d = some d' ∧ ∀ s' H' S', Same S S' → Sm ts s s' → Zt G g S' s' H' d' → Q s' H'
abbrev LG (G : Cls) (X : Cx) (e : Expr) (t : DG) (ts : List Nat) : Prop := PG X e (liftG G t ts)
abbrev LGs (G : Cls) (X : Cx) (e : List Expr) (t : List D → Ev → Option Ev) (ts : List Nat) : Prop := PGs X e (liftGs G t ts)
def gn (i : Nat) : DG := fun x d => if notIo d i then some (d.set i (.va x)) else none
theorem lg_nm {i : Nat} {x : Str} (hN : X.N.Nodup) (hi : X.N[i]? = some x) (hx : Loc X.env.scope x) (hf : X.fn x = true ∨ X.env.scope.names.lookup x = some .local := by first | exact .inl rfl | exact .inr rfl | assumption) : LG G X (.Name x pos) (gn i) [i] := by
  refine pg_weak (pg_name hN hi hx hf) fun v s H Q ⟨g, S, d, y, d', z, r, e, q⟩ => ?_
  unfold gn at e
  split at e
  · rename_i hi
    cases e
    exact q _ _ _ (.refl _) ⟨List.length_set, fun j h => List.getElem?_set_ne fun w => h (by rw [w]; exact List.mem_cons_self)⟩ (z.setVa hi r)
  · cases e
def gsn : List D → Ev → Option Ev := fun xs d => match xs with
  | [] => some d
  | _ => none
def gsc (t : DG) (u : List D → Ev → Option Ev) : List D → Ev → Option Ev := fun xs d => match xs with
  | x :: r => match t x d with
    | some d1 => u r d1
    | none => none
  | [] => none
theorem lgs_nil : LGs G X [] gsn [] := pgs_weak pgs_nil fun vs s H Q ⟨g, S, d, xs, d', z, r, e, q⟩ => by
  cases xs with
  | nil => cases e; unfold RepL at r; exact ⟨r, q _ _ _ (.refl _) .refl z⟩
  | cons _ _ => cases e
theorem lgs_cons {t : DG} {u : List D → Ev → Option Ev} {ts us : List Nat} (h1 : LG G X e t ts) (h2 : LGs G X es u us) (hs : (assignEach (e :: es) X.env).map (·.2) = assign e X.env :: (assignEach es X.env).map (·.2) := by rfl) : LGs G X (e :: es) (gsc t u) (ts ++ us) :=
  pgs_weak (pgs_cons h1 h2 hs) fun vs s H Q ⟨g, S, d, xs, d', z, r, e, q⟩ => by
    cases xs with
    | nil => cases e
    | cons x xr =>
      unfold RepL at r
      obtain ⟨v, vr, rfl, r1, r2⟩ := r
      unfold gsc at e
      simp only at e
      split at e
      · rename_i d1 e1
        exact ⟨v, vr, rfl, g, S, d, x, d1, z, r1, e1, fun s' H' S' sm w1 z' => ⟨g, S', d1, xr, d', z', r2.mono sm, e, fun s2 H2 S2 sm2 w2 z2 => q s2 H2 S2 (sm.trans sm2) (w1.trans w2) z2⟩⟩
      · cases e
def gtp (n : Nat) (u : List D → Ev → Option Ev) : DG := fun x d => match x with
  | .tup xs => if xs.length = n then u xs d else none
  | _ => none
theorem lg_tup {k n : Nat} {u : List D → Ev → Option Ev} {us : List Nat} (hK : G.K = X.K) (hc : X.calm = true) (h : LGs G X es u us) (hn : (assignEach es X.env).length = n := by rfl) (hst : (assignEach es X.env).findIdx? (·.1) = none := by rfl) : LG G X (.Tuple es k pos) (gtp n u) us :=
  pg_weak (pg_tup hc h hn hst) fun v s H Q ⟨g, S, d, x, d', z, r, e, q⟩ => by
    cases x with
    | tup xs =>
      unfold gtp at e
      simp only at e
      split at e
      · rename_i hl
        obtain ⟨a, vs, rfl, h1, h2⟩ := inv_tup r
        rw [hK] at h1
        exact ⟨a, vs, rfl, same_seqT z.sh h1, by rw [← h2.length]; exact hl, g, S, d, xs, d', z, h2, e, q⟩
      · cases e
    | non => cases e
    | bl _ => cases e
    | int _ => cases e
    | str _ => cases e
    | lst _ => cases e
    | ob _ _ => cases e
    | fn _ => cases e
    | scr _ => cases e

/-! ### statements -/
def sk : DS := fun d => some (.nx, d)
def sq (A B : DS) : DS := fun d => match A d with
  | some (.nx, d1) => B d1
  | r => r
theorem lss_nil : LSs G X [] sk := pss_weak pss_nil fun D s H ⟨g, S, d, fl, d', z, e, q⟩ => by cases e; exact q s H S (.refl _) z
theorem lift_sq {s : St} {H : Hp} {D : Ends} (q : liftS G (sq B1 B2) D s H) : tSeq (liftS G B1) (liftS G B2) D s H := by
  obtain ⟨g, S, d, fl, d', z, e, q⟩ := q
  unfold sq at e
  split at e
  · rename_i d1 e1
    exact ⟨g, S, d, .nx, d1, z, e1, fun s' H' S' sm z' => ⟨g, S', d1, fl, d', z', e, q.mono sm⟩⟩
  · rename_i r hn
    refine ⟨g, S, d, fl, d', z, e, ?_⟩
    cases fl with
    | nx => exact absurd e (hn d')
    | bk => exact q
    | ct => exact q
    | rt _ => exact q
    | rf _ => exact q
theorem lss_cons (h1 : LS G X st B1) (h2 : LSs G X sts B2) : LSs G X (st :: sts) (sq B1 B2) := pss_weak (pss_cons h1 h2) fun _ _ _ => lift_sq
theorem lss_one (h1 : LS G X st B1) : LSs G X [st] B1 := pss_one h1
theorem ls_pass : LS G X (.Pass pos) sk := ps_weak ps_pass fun D s H ⟨g, S, d, fl, d', z, e, q⟩ => by cases e; exact q s H S (.refl _) z
def sbk : DS := fun d => some (.bk, d)
def sct : DS := fun d => some (.ct, d)
theorem ls_break : LS G X (.Break pos) sbk := ps_weak ps_break fun D s H ⟨g, S, d, fl, d', z, e, q⟩ => by cases e; exact q s H S (.refl _) z
theorem ls_cont : LS G X (.Continue pos) sct := ps_weak ps_continue fun D s H ⟨g, S, d, fl, d', z, e, q⟩ => by cases e; exact q s H S (.refl _) z
def sv : DS := fun _ => none
theorem ls_never : LS G X st sv := ps_weak ps_never fun D s H ⟨g, S, d, fl, d', z, e, q⟩ => by cases e
theorem lss_never : LSs G X sts sv := pss_weak pss_never fun D s H ⟨g, S, d, fl, d', z, e, q⟩ => by cases e
def sx (f : DE) : DS := fun d => match f d with
  | some (_, d1) => some (.nx, d1)
  | none => none
theorem ls_expr (he : LE G X e f) (hs : swapsWith e none pos.line X.env = pure false := by rfl) : LS G X (.Expr e pos) (sx f) := ps_weak (ps_expr he hs) fun D s H ⟨g, S, d, fl, d', z, e, q⟩ => by
  unfold sx at e
  split at e
  · rename_i x d1 e1
    cases e
    exact ⟨g, S, d, x, d', z, e1, fun v H' S' sm z' _ => q s H' S' sm z'⟩
  · cases e
def sr (f : DE) : DS := fun d => match f d with
  | some (x, d1) => some (.rt x, d1)
  | none => none
def srf (f : DE) : DS := fun d => match f d with
  | some (x, d1) => some (.rf x, d1)
  | none => none
theorem ls_ret (he : LE G X e f) : LS G X (.Return (some e) pos) (sr f) := ps_weak (ps_ret he) fun D s H ⟨g, S, d, fl, d', z, e, q⟩ => by
  unfold sr at e
  split at e
  · rename_i x d1 e1
    cases e
    exact ⟨g, S, d, x, d', z, e1, fun v H' S' sm z' r => q v s H' S' sm z' r⟩
  · cases e
theorem ls_retF (he : LF G X e f) : LS G X (.Return (some e) pos) (srf f) := ps_weak (ps_ret he) fun D s H ⟨g, S, d, fl, d', z, e, q⟩ => by
  unfold srf at e
  split at e
  · rename_i x d1 e1
    cases e
    exact ⟨g, S, d, x, d', z, e1, fun a H' S' sm z' ct h1 h2 h3 _ => q a s H' S' sm z' ct h1 h2 h3⟩
  · cases e
def srn : DS := fun d => some (.rt .non, d)
theorem ls_retN : LS G X (.Return none pos) srn := ps_weak ps_retN fun D s H ⟨g, S, d, fl, d', z, e, q⟩ => by cases e; exact q _ s H S (.refl _) z rep_non
def ss (t : DT) (A B : DS) : DS := fun d => match t d with
  | some (true, d1) => A d1
  | some (false, d1) => B d1
  | none => none
theorem ls_if {as bs : List Stmt} {t : DT} (hc : LT G X c t) (ha : LSs G X as B1) (hb : LSs G X bs B2) : LS G X (.If c as bs pos) (ss t B1 B2) := ps_weak (ps_if hc ha hb) fun D s H ⟨g, S, d, fl, d', z, e, q⟩ => by
  unfold ss at e
  split at e
  · rename_i d1 e1
    refine ⟨g, S, d, _, d1, z, e1, fun H' S' sm z' => ?_⟩
    refine iteT ?_
    exact ⟨g, S', d1, fl, d', z', e, q.mono sm⟩
  · rename_i d1 e1
    refine ⟨g, S, d, _, d1, z, e1, fun H' S' sm z' => ?_⟩
    refine iteF ?_
    exact ⟨g, S', d1, fl, d', z', e, q.mono sm⟩
  · cases e
/-- target = e -/
def sa (f : DE) (t : DG) : DS := fun d => match f d with
  | some (x, d1) => match t x d1 with
    | some d2 => some (.nx, d2)
    | none => none
  | none => none
theorem lift_sa {t : DG} {ts : List Nat} {s : St} {H : Hp} {D : Ends} (q : liftS G (sa f t) D s H) : liftE G f s H fun v H1 => liftG G t ts v s H1 D.nx := by
  obtain ⟨g, S, d, fl, d', z, e, q⟩ := q
  unfold sa at e
  split at e
  · rename_i x d1 e1
    split at e
    · rename_i d2 e2
      cases e
      exact ⟨g, S, d, x, d1, z, e1, fun v H' S' sm z' r => ⟨g, S', d1, x, d', z', r, e2, fun s2 H2 S2 sm2 _ z2 => q s2 H2 S2 (sm.trans sm2) z2⟩⟩
    · cases e
  · cases e
theorem ls_asg {tg : Expr} {t : DG} {ts : List Nat} (he : LE G X e f) (hg : LG G X tg t ts) (hs : swapsWithSole [tg] e pos.line X.env = pure false := by rfl) (hw : swappedStores [tg] e X.env = pure none := by rfl)
    (h1 : (assignEach [tg] X.env).map (·.2) = [assign tg X.env] := by rfl) : LS G X (.Assign [tg] e pos) (sa f t) := ps_weak (ps_asg he hg hs hw h1) fun _ _ _ => lift_sa
theorem gName_of {i : Nat} {v : V} {s : St} {H : Hp} {Q : St → Hp → Prop} (q : liftG G (gn i) [i] v s H Q) : gName i v s H Q := by
  obtain ⟨g, S, d, y, d', z, r, e, q⟩ := q
  unfold gn at e
  split at e
  · rename_i hi
    cases e
    exact q _ _ _ (.refl _) ⟨List.length_set, fun j h => List.getElem?_set_ne fun w => h (by rw [w]; exact List.mem_cons_self)⟩ (z.setVa hi r)
  · cases e
theorem ls_set {i : Nat} {x : Str} {pos' : Pos} (hN : X.N.Nodup) (hi : X.N[i]? = some x) (hx : Loc X.env.scope x) (he : LE G X e f) (hs : swapsWith e (some (.Name x pos')) pos.line X.env = pure false := by rfl) (hf : X.fn x = true ∨ X.env.scope.names.lookup x = some .local := by first | exact .inl rfl | exact .inr rfl | assumption) :
    LS G X (.Assign [.Name x pos'] e pos) (sa f (gn i)) := ps_weak (ps_set hN hi hx he hs hf) fun D s H q => by
  obtain ⟨g, S, d, x, d', z, e, q⟩ := lift_sa q
  exact ⟨g, S, d, x, d', z, e, fun v H' S' sm z' r => gName_of (q v H' S' sm z' r)⟩
/-- x = e, e a new object that will be changed -/
def so (i : Nat) (f : DE) : DS := fun d => match f d with
  | some (x, d1) => if notIo d1 i then some (.nx, d1.set i (.ow x)) else none
  | none => none
theorem ls_own {i : Nat} {x : Str} {pos' : Pos} (hN : X.N.Nodup) (hi : X.N[i]? = some x) (hx : Loc X.env.scope x) (he : LF G X e f) (hs : swapsWith e (some (.Name x pos')) pos.line X.env = pure false := by rfl) (hf : X.fn x = true ∨ X.env.scope.names.lookup x = some .local := by first | exact .inl rfl | exact .inr rfl | assumption) :
    LS G X (.Assign [.Name x pos'] e pos) (so i f) := ps_weak (ps_set hN hi hx he hs hf) fun D s H ⟨g, S, d, fl, d', z, e, q⟩ => by
  unfold so at e
  split at e
  · rename_i x d1 e1
    split at e
    · rename_i hi
      cases e
      refine ⟨g, S, d, x, d1, z, e1, fun a H' S' sm z' ct h1 h2 h3 h4 => ?_⟩
      exact q _ H' S' sm (z'.set hi ⟨a, rfl, ct, h1, h2, h3⟩ (fun _ q => nomatch q) fun b _ eb j => by cases eb; exact h4 j)
    · cases e
  · cases e
end
end Zr

/-! Zr: loops, comprehensions. -/
namespace Zr
open PySem L2

/-- the iterator J yields the data xs -/
structure ItD (G : Cls) (J : It) (S : Hp) (xs : List D) : Prop where
  go : ∀ i S1 H1, Same S S1 → Same S1 H1 → i < xs.length → J.go i H1
  stop : ∀ S1 H1, Same S S1 → Same S1 H1 → J.stop xs.length H1
  yld : ∀ i S1 H1 v H' x, Same S S1 → Same S1 H1 → xs[i]? = some x → J.yld i H1 v H' → ∃ S', Ext S1 H1 S' H' ∧ Rep G S' x v
theorem ItD.mono {G : Cls} {J : It} {S S' : Hp} {xs : List D} (e : Same S S') (h : ItD G J S xs) : ItD G J S' xs :=
  ⟨fun i S1 H1 s => h.go i S1 H1 (e.trans s), fun S1 H1 s => h.stop S1 H1 (e.trans s), fun i S1 H1 v H' x s => h.yld i S1 H1 v H' x (e.trans s)⟩
def liftI (G : Cls) (f : DA) : TI := fun s H R => ∃ g S d xs d', Zt G g S s H d ∧ f d = some (xs, d') ∧ ∀ J H' S', Same S S' → Zt G g S' s H' d' → ItD G J S' xs → R J H'
abbrev LI (G : Cls) (X : Cx) (tg e : Expr) (f : DA) : Prop := PI X tg e (liftI G f)

/-! ### for -/
def fo (t : DG) (B : DS) : List D → DS
  | [], d => some (.nx, d)
  | x :: xs, d => match t x d with
    | none => none
    | some d1 => match B d1 with
      | some (.nx, d2) => fo t B xs d2
      | some (.ct, d2) => fo t B xs d2
      | some (.bk, d2) => some (.nx, d2)
      | r => r
def sf (f : DA) (t : DG) (B : DS) : DS := fun d => match f d with
  | some (xs, d1) => fo t B xs d1
  | none => none
section
variable {G : Cls} {X : Cx} {e a b c tg iter : Expr} {es : List Expr} {f h k : DE} {fa : DA} {pos : Pos} {st : Stmt} {sts body : List Stmt} {B B1 B2 : DS} {t : DG} {ts : List Nat}
theorem drop_cons {α : Type} {l : List α} {i : Nat} (h : i < l.length) : l.drop i = l[i] :: l.drop (i + 1) := List.drop_eq_getElem_cons h
theorem ls_for (hp : PassesOwn (model X.prog X.w) X.A X.env X.xe) (hc : X.calm = true) (hi : LI G X tg iter fa) (hg : LG G X tg t ts) (hb : LSs G X body B)
    (hs : ∀ x, foldedSetIterable iter X.env x = pure x := by intro _; rfl) : LS G X (.For tg iter body [] pos) (sf fa t B) := by
  refine ps_weak (ps_for hp hc hi hg hb hs) fun D s H ⟨g, S, d, fl, d', z, e, q⟩ => ?_
  unfold sf at e
  split at e
  · rename_i xs d1 e1
    refine ⟨g, S, d, xs, d1, z, e1, fun J H' S' sm z' it => ?_⟩
    refine ⟨fun i m s1 H1 => m = xs.length - i ∧ i ≤ xs.length ∧ ∃ S1 d2, Same S' S1 ∧ Zt G g S1 s1 H1 d2 ∧ fo t B (xs.drop i) d2 = some (fl, d'), ⟨xs.length, rfl, Nat.zero_le _, S', d1, .refl _, z', e⟩, ?_⟩
    rintro i m s1 H1 ⟨rfl, hle, S1, d2, sm1, z1, e2⟩
    by_cases hlt : i < xs.length
    · rw [drop_cons hlt] at e2
      unfold fo at e2
      refine .inr ⟨it.go i S1 H1 sm1 z1.sh hlt, fun s3 H3 => xs.length - (i + 1) = xs.length - (i + 1) ∧ i + 1 ≤ xs.length ∧ ∃ S3 d3, Same S' S3 ∧ Zt G g S3 s3 H3 d3 ∧ fo t B (xs.drop (i + 1)) d3 = some (fl, d'), fun s3 H3 w => ⟨xs.length - (i + 1), by omega, w⟩, fun v H2 y => ?_⟩
      obtain ⟨S2, ex, r⟩ := it.yld i S1 H1 v H2 xs[i] sm1 z1.sh (List.getElem?_eq_getElem hlt) y
      have z2 := z1.ext ex
      split at e2
      · cases e2
      · rename_i d3 e3
        refine ⟨g, S2, d2, _, d3, z2, r, e3, fun s4 H4 S4 sm4 _ z4 => ?_⟩
        have sm' : Same S' S4 := sm1.trans (ex.s.trans sm4)
        split at e2
        · rename_i d5 e5
          exact ⟨g, S4, d3, .nx, d5, z4, e5, fun s6 H6 S6 sm6 z6 => ⟨rfl, hlt, S6, d5, sm'.trans sm6, z6, e2⟩⟩
        · rename_i d5 e5
          exact ⟨g, S4, d3, .ct, d5, z4, e5, fun s6 H6 S6 sm6 z6 => ⟨rfl, hlt, S6, d5, sm'.trans sm6, z6, e2⟩⟩
        · rename_i d5 e5
          cases e2
          exact ⟨g, S4, d3, .bk, _, z4, e5, fun s6 H6 S6 sm6 z6 => q s6 H6 S6 (sm.trans (sm'.trans sm6)) z6⟩
        · rename_i w h1 h2 h3
          refine ⟨g, S4, d3, fl, d', z4, e2, ?_⟩
          cases fl with
          | nx => exact absurd e2 (h1 _)
          | ct => exact absurd e2 (h2 _)
          | bk => exact absurd e2 (h3 _)
          | rt x => exact fun v6 s6 H6 S6 sm6 => q v6 s6 H6 S6 (sm.trans (sm'.trans sm6))
          | rf x => exact fun v6 s6 H6 S6 sm6 => q v6 s6 H6 S6 (sm.trans (sm'.trans sm6))
    · have ei : i = xs.length := by omega
      subst ei
      rw [List.drop_length] at e2
      cases e2
      exact .inl ⟨it.stop S1 H1 sm1 z1.sh, q s1 H1 S1 (sm.trans sm1) z1⟩
  · cases e

/-! ### while -/
def whN (c : DT) (B : DS) : Nat → DS
  | 0, _ => none
  | n + 1, d => match c d with
    | none => none
    | some (false, d1) => some (.nx, d1)
    | some (true, d1) => match B d1 with
      | some (.nx, d2) => whN c B n d2
      | some (.ct, d2) => whN c B n d2
      | some (.bk, d2) => some (.nx, d2)
      | r => r
theorem whN_more (c : DT) (B : DS) : ∀ (n m : Nat) (d : Ev) (r : Fl × Ev), whN c B n d = some r → n ≤ m → whN c B m d = some r
  | 0, _, _, _, h, _ => by cases h
  | n + 1, 0, _, _, _, h => by omega
  | n + 1, m + 1, d, r, h, hl => by
    unfold whN at h ⊢
    split at h
    · cases h
    · exact h
    · split at h
      · rename_i e
        try simp only [e]
        exact whN_more c B n m _ _ h (by omega)
      · rename_i e
        try simp only [e]
        exact whN_more c B n m _ _ h (by omega)
      · rename_i e
        try simp only [e]
        exact h
      · rename_i w h1 h2 h3
        first
          | exact h
          | (split
             · rename_i e; exact absurd e (h1 _)
             · rename_i e; exact absurd e (h2 _)
             · rename_i e; exact absurd e (h3 _)
             · exact h)
open Classical in
/-- while: what comes of it where it ends -/
noncomputable def wh (c : DT) (B : DS) : DS := fun d => if h : ∃ n r, whN c B n d = some r then some (Classical.choose (Classical.choose_spec h)) else none
theorem wh_some {c : DT} {B : DS} {d : Ev} {r : Fl × Ev} (h : wh c B d = some r) : ∃ n, whN c B n d = some r := by
  unfold wh at h
  split at h
  · rename_i hh
    cases h
    exact ⟨_, Classical.choose_spec (Classical.choose_spec hh)⟩
  · cases h
theorem wh_of {c : DT} {B : DS} {d : Ev} {r : Fl × Ev} {n : Nat} (h : whN c B n d = some r) : wh c B d = some r := by
  unfold wh
  have hh : ∃ n r, whN c B n d = some r := ⟨n, r, h⟩
  rw [dif_pos hh]
  have e := Classical.choose_spec (Classical.choose_spec hh)
  have e1 := whN_more c B _ (max n (Classical.choose hh)) d _ e (Nat.le_max_right _ _)
  have e2 := whN_more c B _ (max n (Classical.choose hh)) d _ h (Nat.le_max_left _ _)
  rw [e1] at e2
  exact e2
theorem wh_eq (c : DT) (B : DS) (d : Ev) : wh c B d = (match c d with
    | none => none
    | some (false, d1) => some (.nx, d1)
    | some (true, d1) => match B d1 with
      | some (.nx, d2) => wh c B d2
      | some (.ct, d2) => wh c B d2
      | some (.bk, d2) => some (.nx, d2)
      | r => r) := by
  have key : ∀ r, wh c B d = some r ↔ (match c d with
    | none => none
    | some (false, d1) => some (.nx, d1)
    | some (true, d1) => match B d1 with
      | some (.nx, d2) => wh c B d2
      | some (.ct, d2) => wh c B d2
      | some (.bk, d2) => some (.nx, d2)
      | r => r) = some r := fun r => by
    constructor
    · intro h
      obtain ⟨n, h⟩ := wh_some h
      cases n with
      | zero => cases h
      | succ n =>
        unfold whN at h
        split at h
        · cases h
        · rename_i e
          try simp only [e]
          exact h
        · rename_i e
          try simp only [e]
          split at h
          · rename_i e2
            try simp only [e2]
            exact wh_of h
          · rename_i e2
            try simp only [e2]
            exact wh_of h
          · rename_i e2
            try simp only [e2]
            exact h
          · rename_i w h1 h2 h3
            first
              | exact h
              | (split
                 · rename_i e; exact absurd e (h1 _)
                 · rename_i e; exact absurd e (h2 _)
                 · rename_i e; exact absurd e (h3 _)
                 · exact h)
    · intro h
      have one : ∀ n, whN c B (n + 1) d = some r → wh c B d = some r := fun n h => wh_of h
      split at h
      · cases h
      · rename_i e
        refine one 0 ?_
        unfold whN
        try simp only [e]
        exact h
      · rename_i d1 e
        split at h
        · rename_i e2
          obtain ⟨n, h⟩ := wh_some h
          refine one n ?_
          unfold whN
          try simp only [e, e2]
          exact h
        · rename_i e2
          obtain ⟨n, h⟩ := wh_some h
          refine one n ?_
          unfold whN
          try simp only [e, e2]
          exact h
        · rename_i e2
          refine one 0 ?_
          unfold whN
          try simp only [e, e2]
          exact h
        · rename_i w h1 h2 h3
          refine one 0 ?_
          unfold whN
          simp only [e]
          first
            | exact h
            | (split
               · rename_i e; exact absurd e (h1 _)
               · rename_i e; exact absurd e (h2 _)
               · rename_i e; exact absurd e (h3 _)
               · exact h)
  cases e : wh c B d with
  | some r => exact ((key r).mp e).symm
  | none =>
    symm
    rw [Option.eq_none_iff_forall_ne_some]
    intro r hr
    have := (key r).mpr hr
    rw [e] at this
    cases this
theorem ls_while {t : DT} (hp : PassesOwn (model X.prog X.w) X.A X.env X.xe) (hc : LT G X c t) (hb : LSs G X body B) : LS G X (.While c body [] pos) (wh t B) := by
  refine ps_weak (ps_while hp hc hb) fun D s H ⟨g, S, d, fl, d', z, e, q⟩ => ?_
  obtain ⟨n, e⟩ := wh_some e
  refine ⟨fun m s1 H1 => ∃ S1 d1, Same S S1 ∧ Zt G g S1 s1 H1 d1 ∧ whN t B m d1 = some (fl, d'), ⟨n, S, d, .refl _, z, e⟩, ?_⟩
  rintro m s1 H1 ⟨S1, d1, sm1, z1, e1⟩
  cases m with
  | zero => cases e1
  | succ m =>
    unfold whN at e1
    split at e1
    · cases e1
    · rename_i d2 e2
      cases e1
      refine ⟨g, S1, d1, false, _, z1, e2, fun H2 S2 sm2 z2 => iteF ?_⟩
      exact q s1 H2 S2 (sm1.trans sm2) z2
    · rename_i d2 e2
      refine ⟨g, S1, d1, true, d2, z1, e2, fun H2 S2 sm2 z2 => iteT ?_⟩
      refine ⟨fun s3 H3 => ∃ S3 d3, Same S S3 ∧ Zt G g S3 s3 H3 d3 ∧ whN t B m d3 = some (fl, d'), fun s3 H3 w => ⟨m, Nat.lt_succ_self _, w⟩, ?_⟩
      split at e1
      · rename_i d4 e4
        exact ⟨g, S2, d2, .nx, d4, z2, e4, fun s5 H5 S5 sm5 z5 => ⟨S5, d4, sm1.trans (sm2.trans sm5), z5, e1⟩⟩
      · rename_i d4 e4
        exact ⟨g, S2, d2, .ct, d4, z2, e4, fun s5 H5 S5 sm5 z5 => ⟨S5, d4, sm1.trans (sm2.trans sm5), z5, e1⟩⟩
      · rename_i d4 e4
        cases e1
        exact ⟨g, S2, d2, .bk, _, z2, e4, fun s5 H5 S5 sm5 z5 => q s5 H5 S5 (sm1.trans (sm2.trans sm5)) z5⟩
      · rename_i w h1 h2 h3
        refine ⟨g, S2, d2, fl, d', z2, e1, ?_⟩
        cases fl with
        | nx => exact absurd e1 (h1 _)
        | ct => exact absurd e1 (h2 _)
        | bk => exact absurd e1 (h3 _)
        | rt x => exact fun v6 s6 H6 S6 sm6 => q v6 s6 H6 S6 (sm1.trans (sm2.trans sm6))
        | rf x => exact fun v6 s6 H6 S6 sm6 => q v6 s6 H6 S6 (sm1.trans (sm2.trans sm6))

/-! ### comprehensions -/
/-- the block's own slots forgotten -/
def wp (d : Ev) : List Nat → Ev
  | [] => d
  | i :: is => (wp d is).set i .no
/-- .. and as they were ahead -/
def bk (own : List Nat) (d0 d : Ev) : Ev := own.foldr (fun i r => r.set i ((d0[i]?).getD .no)) d
/-- no own slot holds a changeable object -/
def okO (d : Ev) (own : List Nat) : Bool := own.all fun i => match d[i]? with
  | some x => !x.isO
  | none => false
def cl (own : List Nat) (t : DG) (c : DT) (f : DE) : List D → Ev → Option (List D × Ev)
  | [], d => some ([], d)
  | x :: xs, d => if okO d own then match t x (wp d own) with
      | none => none
      | some d1 => match c d1 with
        | none => none
        | some (false, d2) => if okO d2 own then cl own t c f xs (bk own d d2) else none
        | some (true, d2) => match f d2 with
          | none => none
          | some (y, d3) => if okO d3 own then match cl own t c f xs (bk own d d3) with
              | none => none
              | some (ys, d4) => some (y :: ys, d4)
            else none
    else none
def lc (own : List Nat) (fi : DA) (t : DG) (c : DT) (f : DE) : DE := fun d => match fi d with
  | some (xs, d1) => if xs.length ≤ sizeLine then match cl own t c f xs d1 with
      | some (ys, d2) => some (.lst ys, d2)
      | none => none
    else none
  | none => none
def yes : DT := fun d => some (true, d)

theorem wp_len (d : Ev) : ∀ is : List Nat, (wp d is).length = d.length
  | [] => rfl
  | i :: is => by unfold wp; rw [List.length_set, wp_len d is]
theorem bk_len (d0 d : Ev) : ∀ is : List Nat, (bk is d0 d).length = d.length
  | [] => rfl
  | i :: is => by unfold bk; simp only [List.foldr_cons, List.length_set]; exact bk_len d0 d is
theorem bk_get (d0 d : Ev) (h : d0.length = d.length) (j : Nat) : ∀ is : List Nat, (bk is d0 d)[j]? = if j ∈ is then d0[j]? else d[j]?
  | [] => by simp [bk]
  | i :: is => by
    have ih := bk_get d0 d h j is
    have e : bk (i :: is) d0 d = (bk is d0 d).set i ((d0[i]?).getD .no) := rfl
    rw [e]
    by_cases q : i = j
    · subst q
      rw [if_pos List.mem_cons_self]
      by_cases hl : i < d0.length
      · rw [List.getElem?_set_self (by rw [bk_len, ← h]; exact hl), List.getElem?_eq_getElem hl]; rfl
      · rw [List.getElem?_eq_none (by rw [List.length_set, bk_len, ← h]; omega), List.getElem?_eq_none (by omega)]
    · rw [List.getElem?_set_ne q, ih]
      have : (j ∈ i :: is) ↔ j ∈ is := by simp [List.mem_cons, Ne.symm q]
      by_cases m : j ∈ is
      · rw [if_pos m, if_pos (this.mpr m)]
      · rw [if_neg m, if_neg (fun w => m (this.mp w))]
theorem wp_get (d : Ev) (j : Nat) : ∀ is : List Nat, (wp d is)[j]? = if j ∈ is then (if j < d.length then some .no else none) else d[j]?
  | [] => by simp [wp]
  | i :: is => by
    have ih := wp_get d j is
    unfold wp
    by_cases q : i = j
    · subst q
      rw [if_pos List.mem_cons_self]
      by_cases hl : i < d.length
      · rw [List.getElem?_set_self (by rw [wp_len]; exact hl), if_pos hl]
      · rw [List.getElem?_eq_none (by rw [List.length_set, wp_len]; omega), if_neg hl]
    · rw [List.getElem?_set_ne q, ih]
      have : (j ∈ i :: is) ↔ j ∈ is := by simp [List.mem_cons, Ne.symm q]
      by_cases m : j ∈ is
      · rw [if_pos m, if_pos (this.mpr m)]
      · rw [if_neg m, if_neg (fun w => m (this.mp w))]
theorem wipe_get (s : St) (j : Nat) : ∀ is : List Nat, (wipe s is)[j]? = if j ∈ is then (if j < s.length then some none else none) else s[j]?
  | [] => by simp [wipe]
  | i :: is => by
    have ih := wipe_get s j is
    unfold wipe
    by_cases q : i = j
    · subst q
      rw [if_pos List.mem_cons_self]
      by_cases hl : i < s.length
      · rw [List.getElem?_set_self (by rw [wipe_length]; exact hl), if_pos hl]
      · rw [List.getElem?_eq_none (by rw [List.length_set, wipe_length]; omega), if_neg hl]
    · rw [List.getElem?_set_ne q, ih]
      have : (j ∈ i :: is) ↔ j ∈ is := by simp [List.mem_cons, Ne.symm q]
      by_cases m : j ∈ is
      · rw [if_pos m, if_pos (this.mpr m)]
      · rw [if_neg m, if_neg (fun w => m (this.mp w))]
theorem okO_at {d : Ev} {own : List Nat} (h : okO d own = true) {i : Nat} (hi : i ∈ own) : ∃ x, d[i]? = some x ∧ x.isO = false := by
  have q := List.all_eq_true.mp h i hi
  split at q
  · rename_i x e
    exact ⟨x, e, by simpa using q⟩
  · cases q
theorem OwnAt.out {d : Ev} {s : St} {own : List Nat} {i : Nat} {a : Addr} (h : okO d own = true) (o : OwnAt d s i a) : i ∉ own := fun hi => by
  obtain ⟨x, e, n⟩ := okO_at h hi
  obtain ⟨y, e1, e2, _⟩ := o
  rw [e] at e1
  cases e1
  rw [n] at e2
  cases e2
/-- into the block -/
theorem Zt.wipe {g : Gh} {S H : Hp} {s : St} {d : Ev} {own : List Nat} (z : Zt G g S s H d) (ho : okO d own = true) : Zt G g S (wipe s own) H (wp d own) where
  sh := z.sh
  bh := z.bh
  s0 := z.s0
  s1 := z.s1
  dm := z.dm
  ln := by rw [wipe_length, wp_len]; exact z.ln
  sl := fun i x e => by
    rw [wp_get] at e
    rw [wipe_get, z.ln]
    by_cases m : i ∈ own
    · rw [if_pos m] at e ⊢
      split at e
      · rename_i hl
        cases e
        exact ⟨_, if_pos hl, trivial⟩
      · cases e
    · rw [if_neg m] at e ⊢
      exact z.sl i x e
  ap := fun i j a hn h1 h2 => by
    have conv : ∀ {k}, OwnAt (wp d own) (L2.wipe s own) k a → OwnAt d s k a := fun {k} o => by
      obtain ⟨x, e1, e2, e3⟩ := o
      rw [wp_get] at e1
      rw [wipe_get] at e3
      by_cases m : k ∈ own
      · rw [if_pos m] at e1
        split at e1
        · cases e1; cases e2
        · cases e1
      · rw [if_neg m] at e1 e3
        exact ⟨x, e1, e2, e3⟩
    exact z.ap i j a hn (conv h1) (conv h2)
  ic := fun i a e => by
    obtain ⟨x, h1⟩ := z.ic i a e
    refine ⟨x, ?_⟩
    rw [wp_get]
    by_cases m : i ∈ own
    · obtain ⟨y, e1, e2⟩ := okO_at ho m
      rw [h1] at e1; cases e1; cases e2
    · rw [if_neg m]; exact h1
/-- .. and out of it -/
theorem Zt.back {g : Gh} {S S1 H H1 : Hp} {s s1 : St} {d d1 : Ev} {own : List Nat} (z : Zt G g S s H d) (z1 : Zt G g S1 s1 H1 d1) (sm : Same S S1) (hs : s1.length = s.length) (hj : ∀ j, j ∉ own → s1[j]? = s[j]?)
    (ho : okO d own = true) (ho1 : okO d1 own = true) : Zt G g S1 s H1 (bk own d d1) where
  sh := z1.sh
  bh := z1.bh
  s0 := z1.s0
  s1 := z1.s1
  dm := z1.dm
  ln := by rw [bk_len, ← z1.ln, hs]
  sl := fun i x e => by
    rw [bk_get _ _ (by rw [← z.ln, ← z1.ln, hs])] at e
    by_cases m : i ∈ own
    · rw [if_pos m] at e
      obtain ⟨y, h1, h2⟩ := z.sl i x e
      refine ⟨y, h1, ?_⟩
      obtain ⟨x', e1, e2⟩ := okO_at ho m
      rw [e] at e1; cases e1
      cases x with
      | no => trivial
      | va w => obtain ⟨v, e3, r⟩ := h2; exact ⟨v, e3, r.mono sm⟩
      | ow _ => cases e2
      | io _ => cases e2
    · rw [if_neg m] at e
      obtain ⟨y, h1, h2⟩ := z1.sl i x e
      exact ⟨y, by rw [← hj i m]; exact h1, h2⟩
  ap := fun i j a hn h1 h2 => by
    have conv : ∀ {k}, OwnAt (bk own d d1) s k a → OwnAt d1 s1 k a := fun {k} o => by
      obtain ⟨x, e1, e2, e3⟩ := o
      rw [bk_get _ _ (by rw [← z.ln, ← z1.ln, hs])] at e1
      by_cases m : k ∈ own
      · rw [if_pos m] at e1
        obtain ⟨x', e4, e5⟩ := okO_at ho m
        rw [e1] at e4; cases e4
        rw [e2] at e5; cases e5
      · rw [if_neg m] at e1
        exact ⟨x, e1, e2, by rw [hj k m]; exact e3⟩
    exact z1.ap i j a hn (conv h1) (conv h2)
  ic := fun i a e => by
    obtain ⟨x, h1⟩ := z1.ic i a e
    refine ⟨x, ?_⟩
    rw [bk_get _ _ (by rw [← z.ln, ← z1.ln, hs])]
    by_cases m : i ∈ own
    · obtain ⟨y, e1, e2⟩ := okO_at ho1 m
      rw [h1] at e1; cases e1; cases e2
    · rw [if_neg m]; exact h1

/-- an object that nothing speaks of is guarded -/
def grd (g : Gh) (p : Addr) (o : HO) : Gh := { g with B := upd g.B p o, H0 := upd g.H0 p o }
theorem Zt.guard {g : Gh} {S H : Hp} {s : St} {d : Ev} {p : Addr} {o : HO} (z : Zt G g S s H d) (hp : H p = some o) (hs : S p = none) (ho : ∀ j, ¬ OwnAt d s j p) : Zt G (grd g p o) S s H d where
  sh := z.sh
  bh := fun b u e => by
    by_cases hb : b = p
    · subst hb
      have e : upd g.B b o b = some u := e
      rw [upd_same] at e
      rw [hp]; exact e
    · have e : upd g.B p o b = some u := e
      rw [upd_ne hb] at e
      exact z.bh b u e
  s0 := fun b u e => by
    rcases z.s0 b u e with r | r
    · exact .inl r
    · refine .inr ?_
      have hb : b ≠ p := fun w => by rw [w, hs] at e; cases e
      show upd g.H0 p o b = none
      rw [upd_ne hb]; exact r
  s1 := z.s1
  dm := fun b e => by
    have hb : b ≠ p := fun w => by rw [w, hp] at e; cases e
    show upd g.H0 p o b = none
    rw [upd_ne hb]; exact z.dm b e
  ln := z.ln
  sl := fun i x e => by
    obtain ⟨y, h1, h2⟩ := z.sl i x e
    refine ⟨y, h1, ?_⟩
    cases x with
    | no => trivial
    | va w => exact h2
    | ow w =>
      obtain ⟨a, e1, c, h3, h4, h5⟩ := h2
      have ha : a ≠ p := fun w' => ho i ⟨_, e, rfl, by rw [h1, e1, w']⟩
      exact ⟨a, e1, c, h3, by show upd g.B p o a = none; rw [upd_ne ha]; exact h4, by show upd g.H0 p o a = none; rw [upd_ne ha]; exact h5⟩
    | io w =>
      obtain ⟨a, e1, e2, c, h3, h4, u, h5⟩ := h2
      have ha : a ≠ p := fun w' => ho i ⟨_, e, rfl, by rw [h1, e1, w']⟩
      exact ⟨a, e1, e2, c, h3, by show upd g.B p o a = none; rw [upd_ne ha]; exact h4, u, by show upd g.H0 p o a = some u; rw [upd_ne ha]; exact h5⟩
  ap := z.ap
  ic := z.ic
theorem Zt.unguard {g : Gh} {S H : Hp} {s : St} {d : Ev} {p : Addr} {o : HO} (z : Zt G (grd g p o) S s H d) (hb : g.B p = none) (h0 : g.H0 p = none) (hs0 : g.S0 p = none) :
    Zt G g S s H d ∧ H p = some o ∧ S p = none ∧ ∀ j, ¬ OwnAt d s j p := by
  have bB : ∀ a, upd g.B p o a = none → a ≠ p ∧ g.B a = none := fun a e => by
    have ha : a ≠ p := fun w => by rw [w, upd_same] at e; cases e
    rw [upd_ne ha] at e
    exact ⟨ha, e⟩
  refine ⟨⟨z.sh, fun b u e => ?_, fun b u e => ?_, z.s1, fun b e => ?_, z.ln, fun i x e => ?_, z.ap, z.ic⟩, ?_, ?_, ?_⟩
  · have hne : b ≠ p := fun w => by rw [w, hb] at e; cases e
    exact z.bh b u (by show upd g.B p o b = some u; rw [upd_ne hne]; exact e)
  · rcases z.s0 b u e with r | r
    · exact .inl r
    · have r : upd g.H0 p o b = none := r
      have hne : b ≠ p := fun w => by rw [w, upd_same] at r; cases r
      rw [upd_ne hne] at r
      exact .inr r
  · have r : upd g.H0 p o b = none := z.dm b e
    have hne : b ≠ p := fun w => by rw [w, upd_same] at r; cases r
    rw [upd_ne hne] at r
    exact r
  · obtain ⟨y, h1, h2⟩ := z.sl i x e
    refine ⟨y, h1, ?_⟩
    cases x with
    | no => trivial
    | va w => exact h2
    | ow w =>
      obtain ⟨a, e1, c, h3, h4, h5⟩ := h2
      obtain ⟨ha, h4'⟩ := bB a h4
      have h5 : upd g.H0 p o a = none := h5
      rw [upd_ne ha] at h5
      exact ⟨a, e1, c, h3, h4', h5⟩
    | io w =>
      obtain ⟨a, e1, e2, c, h3, h4, u, h5⟩ := h2
      obtain ⟨ha, h4'⟩ := bB a h4
      have h5 : upd g.H0 p o a = some u := h5
      rw [upd_ne ha] at h5
      exact ⟨a, e1, e2, c, h3, h4', u, h5⟩
  · exact z.bh p o upd_same
  · cases q : S p with
    | none => rfl
    | some u =>
      rcases z.s0 p u q with r | r
      · have r : g.S0 p = some u := r
        rw [hs0] at r; cases r
      · have r : upd g.H0 p o p = none := r
        rw [upd_same] at r; cases r
  · intro j o'
    obtain ⟨_, _, r⟩ := z.ownAddr o'
    exact (bB p r).1 rfl
/-- such an object is changed -/
theorem Zt.poke {g : Gh} {S H : Hp} {s : St} {d : Ev} {p : Addr} {o : HO} (z : Zt G g S s H d) (hp : ∃ u, H p = some u) (hs : S p = none) (hb : g.B p = none) (ho : ∀ j, ¬ OwnAt d s j p) : Zt G g S s (upd H p o) d where
  sh := fun b u e => by
    have hne : b ≠ p := fun w => by rw [w, hs] at e; cases e
    rw [upd_ne hne]; exact z.sh b u e
  bh := fun b u e => by
    have hne : b ≠ p := fun w => by rw [w, hb] at e; cases e
    rw [upd_ne hne]; exact z.bh b u e
  s0 := z.s0
  s1 := z.s1
  dm := fun b e => by
    have hne : b ≠ p := fun w => by rw [w, upd_same] at e; cases e
    rw [upd_ne hne] at e; exact z.dm b e
  ln := z.ln
  sl := fun i x e => by
    obtain ⟨y, h1, h2⟩ := z.sl i x e
    refine ⟨y, h1, ?_⟩
    cases x with
    | no => trivial
    | va w => exact h2
    | ow w =>
      obtain ⟨a, e1, c, h3⟩ := h2
      have ha : a ≠ p := fun w' => ho i ⟨_, e, rfl, by rw [h1, e1, w']⟩
      exact ⟨a, e1, c.mono (.refl _) (upd_ne ha), h3⟩
    | io w =>
      obtain ⟨a, e1, e2, c, h3⟩ := h2
      have ha : a ≠ p := fun w' => ho i ⟨_, e, rfl, by rw [h1, e1, w']⟩
      exact ⟨a, e1, e2, c.mono (.refl _) (upd_ne ha), h3⟩
  ap := z.ap
  ic := z.ic
theorem sm_wipe {ts own : List Nat} {s s2 : St} (h : Sm ts (wipe s own) s2) (hts : ∀ i ∈ ts, i ∈ own) : wipe s2 own = wipe s own := by
  refine List.ext_getElem? fun j => ?_
  rw [wipe_get, wipe_get]
  have hl := h.1
  rw [wipe_length] at hl
  by_cases m : j ∈ own
  · rw [if_pos m, if_pos m, hl]
  · rw [if_neg m, if_neg m, h.2 j fun w => m (hts j w), wipe_get, if_neg m]
theorem lift_lc {c : DT} {own : List Nat} {s : St} {H : Hp} {Q : VK} (hts : ∀ i ∈ ts, i ∈ own) (q : liftF G (lc own fa t c f) s H Q) : tLc (liftI G fa) (liftG G t ts) (liftT G c) (liftE G f) own s H Q := by
  obtain ⟨g, S, d, x, d', z, e, q⟩ := q
  unfold lc at e
  split at e
  · rename_i xs d1 e1
    split at e
    · rename_i hsz
      split at e
      · rename_i ys d2 e2
        cases e
        refine ⟨g, S, d, xs, d1, z, e1, fun J H1 S1 sm1 z1 it D hD => ?_⟩
        obtain ⟨z2, n1, n2, n3, n4⟩ := z1.fresh (o := .lst []) hD
        have nS0 : g.S0 D = none := z1.s1.free n1
        refine ⟨fun i m H2 => m = xs.length - i ∧ i ≤ xs.length ∧ ∃ S2 d3 vs ws us, Same S1 S2 ∧ Zt G g S2 s H2 d3 ∧ H2 D = some (.lst vs) ∧ RepL G S2 ws vs ∧ ws.length ≤ i ∧ S2 D = none ∧ (∀ j, ¬ OwnAt d3 s j D) ∧ cl own t c f (xs.drop i) d3 = some (us, d') ∧ ys = ws ++ us,
          ⟨xs.length, rfl, Nat.zero_le _, S1, d1, [], [], ys, .refl _, z2, upd_same, .nil, Nat.le_refl _, n1, n4, e2, rfl⟩, ?_⟩
        rintro i m H2 ⟨rfl, hle, S2, d3, vs, ws, us, sm2, z3, hv, rw1, hws, hs2, ho2, e3, ey⟩
        by_cases hlt : i < xs.length
        · rw [drop_cons hlt] at e3
          unfold cl at e3
          split at e3
          · rename_i okd
            refine .inr ⟨it.go i S2 H2 sm2 z3.sh hlt, _, fun H3 w => ⟨xs.length - (i + 1), by omega, rfl, w⟩, fun v H3 y => ?_⟩
            obtain ⟨S3, ex, r⟩ := it.yld i S2 H2 v H3 xs[i] sm2 z3.sh (List.getElem?_eq_getElem hlt) y
            have z4 := z3.ext ex
            have hv3 : H3 D = some (.lst vs) := ex.h _ _ hv
            have hs3 : S3 D = none := by
              cases q' : S3 D with
              | none => rfl
              | some u =>
                rcases ex.new D u q' with w | w
                · rw [hs2] at w; cases w
                · rw [hv] at w; cases w
            have z5 := (z4.guard hv3 hs3 ho2)
            have z6 := z5.wipe okd
            split at e3
            · cases e3
            · rename_i d4 e4
              refine ⟨grd g D (.lst vs), S3, wp d3 own, _, d4, z6, r, e4, fun s4 H4 S4 sm4 w4 z7 => ⟨sm_wipe w4 hts, ?_⟩⟩
              have fin : ∀ {S5 H5 d5}, Same S4 S5 → Zt G (grd g D (.lst vs)) S5 s4 H5 d5 → okO d5 own = true → Zt G g S5 s H5 (bk own d3 d5) ∧ H5 D = some (.lst vs) ∧ S5 D = none ∧ ∀ j, ¬ OwnAt (bk own d3 d5) s j D := fun {S5 H5 d5} sm5 z8 ok5 => by
                have zb := z5.back (s1 := s4) z8 (sm4.trans sm5) (by rw [w4.1, wipe_length]) (fun j hj => by rw [w4.2 j fun w => hj (hts j w), wipe_get, if_neg hj]) okd ok5
                exact zb.unguard n2 n3 nS0
              split at e3
              · cases e3
              · rename_i d5 e5
                split at e3
                · rename_i ok5
                  refine ⟨grd g D (.lst vs), S4, d4, false, d5, z7, e5, fun H5 S5 sm5 z8 => iteF ?_⟩
                  obtain ⟨z9, k1, k2, k3⟩ := fin sm5 z8 ok5
                  have smA : Same S2 S5 := ex.s.trans (sm4.trans sm5)
                  exact ⟨hlt, S5, _, vs, ws, us, sm2.trans smA, z9, k1, rw1.mono smA, Nat.le_succ_of_le hws, k2, k3, e3, ey⟩
                · cases e3
              · rename_i d5 e5
                split at e3
                · cases e3
                · rename_i y' d6 e6
                  split at e3
                  · rename_i ok6
                    split at e3
                    · cases e3
                    · rename_i ys' d7 e7
                      cases e3
                      refine ⟨grd g D (.lst vs), S4, d4, true, d5, z7, e5, fun H5 S5 sm5 z8 => iteT ?_⟩
                      refine ⟨grd g D (.lst vs), S5, d5, y', d6, z8, e6, fun v6 H6 S6 sm6 z9 r6 => ?_⟩
                      obtain ⟨zA, k1, k2, k3⟩ := fin (sm5.trans sm6) z9 ok6
                      have smA : Same S2 S6 := ex.s.trans (sm4.trans (sm5.trans sm6))
                      have lv : vs.length = ws.length := rw1.length.symm
                      refine ⟨vs, k1, by omega, hlt, S6, _, vs ++ [v6], ws ++ [y'], ys', sm2.trans smA, zA.poke ⟨_, k1⟩ k2 n2 k3, upd_same, (rw1.mono smA).append (.cons r6 .nil), by rw [List.length_append]; show ws.length + 1 ≤ i + 1; omega, k2, k3, e7, by rw [ey, List.append_assoc]; rfl⟩
                  · cases e3
          · cases e3
        · have ei : i = xs.length := by omega
          subst ei
          rw [List.drop_length] at e3
          cases e3
          rw [List.append_nil] at ey
          subst ey
          exact .inl ⟨it.stop S2 H2 sm2 z3.sh, q D H2 S2 (sm1.trans sm2) z3 ⟨vs, hv, rw1⟩ hs2 n2 n3 ho2⟩
      · cases e
    · cases e
  · cases e
section
variable {scope : Scope} {own : List (Str × Nat)} {c : DT} {ifs : List Expr} {elt : Expr}
theorem lf_lc (hc : X.calm = true) (hN : X.N.Nodup) (hi : LI G X tg iter fa) (ok : BlkOk X.N X.env.scope scope own)
    (hg : ∀ (s : Shared) (H : Hp) (C : Addr) (cl : List (Str × Addr)) (fp : List Addr), LG G (X.blk s H scope (compEnvC scope cl C X.env) fp) tg t ts) (ht : ∀ (s : Shared) (H : Hp) (C : Addr) (cl : List (Str × Addr)) (fp : List Addr), PTs (X.blk s H scope (compEnvC scope cl C X.env) fp) ifs (liftT G c))
    (he : ∀ (s : Shared) (H : Hp) (C : Addr) (cl : List (Str × Addr)) (fp : List Addr), LE G (X.blk s H scope (compEnvC scope cl C X.env) fp) elt f) (hts : ∀ i ∈ ts, i ∈ own.map (·.2) := by decide) (hs : ∀ x, foldedSetIterable iter X.env x = pure x := by intro _; rfl) :
    LF G X (.ListComp elt [⟨tg, iter, ifs, 0⟩] scope pos) (lc (own.map (·.2)) fa t c f) := pe_weak (pe_lc hc hN hi ok hg ht he hs) fun _ _ _ => lift_lc hts
theorem lts_nil : PTs X [] (liftT G yes) := ⟨fun pins s σ H Q I ⟨g, S, d, x, d', z, e, q⟩ => pts_nil.run pins s σ H Q I (by cases e; exact q H S (.refl _) z)⟩
theorem lts_one {e : Expr} (h : LT G X e c) : PTs X [e] (liftT G c) := pts_one h
/-- name = [..] on one line -/
theorem ls_setLc {i : Nat} {y : Str} {py spos : Pos} (hc : X.calm = true) (hN : X.N.Nodup) (hy : X.N[i]? = some y) (hyl : X.env.scope.names.lookup y = some .local)
    (hsw : swapsWith (.ListComp elt [⟨tg, iter, ifs, 0⟩] scope pos) (some (.Name y py)) spos.line X.env = pure true) (hi : LI G X tg iter fa) (ok : BlkOk X.N X.env.scope scope own)
    (hg : ∀ (s : Shared) (H : Hp) (C : Addr) (cl : List (Str × Addr)) (fp : List Addr), LG G (X.blk s H scope (compEnvC scope cl C X.env) fp) tg t ts) (ht : ∀ (s : Shared) (H : Hp) (C : Addr) (cl : List (Str × Addr)) (fp : List Addr), PTs (X.blk s H scope (compEnvC scope cl C X.env) fp) ifs (liftT G c))
    (he : ∀ (s : Shared) (H : Hp) (C : Addr) (cl : List (Str × Addr)) (fp : List Addr), LE G (X.blk s H scope (compEnvC scope cl C X.env) fp) elt f) (hts : ∀ i ∈ ts, i ∈ own.map (·.2) := by decide) (hs : ∀ x, foldedSetIterable iter X.env x = pure x := by intro _; rfl) :
    LS G X (.Assign [.Name y py] (.ListComp elt [⟨tg, iter, ifs, 0⟩] scope pos) spos) (sa (lc (own.map (·.2)) fa t c f) (gn i)) := ps_weak (ps_setLc hc hN hy hyl hsw hi ok hg ht he hs) fun D s H q => by
  refine lift_lc hts ?_
  obtain ⟨g, S, d, x, d', z, e, q⟩ := lift_sa (ts := [i]) q
  refine ⟨g, S, d, x, d', z, e, fun a H' S' sm z' ct h1 h2 h3 h4 => ?_⟩
  obtain ⟨o, ha, _⟩ := ct.has
  obtain ⟨z2, sm2⟩ := z'.keep ha h1 h3 h4
  exact gName_of (q _ _ _ (sm.trans sm2) z2 (ct.rep ha upd_same sm2))
theorem ls_ownLc {i : Nat} {y : Str} {py spos : Pos} (hc : X.calm = true) (hN : X.N.Nodup) (hy : X.N[i]? = some y) (hyl : X.env.scope.names.lookup y = some .local)
    (hsw : swapsWith (.ListComp elt [⟨tg, iter, ifs, 0⟩] scope pos) (some (.Name y py)) spos.line X.env = pure true) (hi : LI G X tg iter fa) (ok : BlkOk X.N X.env.scope scope own)
    (hg : ∀ (s : Shared) (H : Hp) (C : Addr) (cl : List (Str × Addr)) (fp : List Addr), LG G (X.blk s H scope (compEnvC scope cl C X.env) fp) tg t ts) (ht : ∀ (s : Shared) (H : Hp) (C : Addr) (cl : List (Str × Addr)) (fp : List Addr), PTs (X.blk s H scope (compEnvC scope cl C X.env) fp) ifs (liftT G c))
    (he : ∀ (s : Shared) (H : Hp) (C : Addr) (cl : List (Str × Addr)) (fp : List Addr), LE G (X.blk s H scope (compEnvC scope cl C X.env) fp) elt f) (hts : ∀ i ∈ ts, i ∈ own.map (·.2) := by decide) (hs : ∀ x, foldedSetIterable iter X.env x = pure x := by intro _; rfl) :
    LS G X (.Assign [.Name y py] (.ListComp elt [⟨tg, iter, ifs, 0⟩] scope pos) spos) (so i (lc (own.map (·.2)) fa t c f)) := ps_weak (ps_setLc hc hN hy hyl hsw hi ok hg ht he hs) fun D s H q => by
  refine lift_lc hts ?_
  obtain ⟨g, S, d, fl, d', z, e, q⟩ := q
  unfold so at e
  split at e
  · rename_i x d1 e1
    split at e
    · rename_i hi
      cases e
      refine ⟨g, S, d, x, d1, z, e1, fun a H' S' sm z' ct h1 h2 h3 h4 => ?_⟩
      exact q _ H' S' sm (z'.set hi ⟨a, rfl, ct, h1, h2, h3⟩ (fun _ q => nomatch q) fun b _ eb j => by cases eb; exact h4 j)
    · cases e
  · cases e
end
end
end Zr

/-! Zr: defs, calls, instances. -/
namespace Zr
open PySem L2

/-- a def's meaning: the parameters' slots in, the value and these slots out -/
abbrev FD := Ev → Option (D × Ev)
def spD (G : Cls) (n : Nat) (F : FD) : Sp := fun vs H Q _ => vs.length = n ∧ ∃ g S d x d', Zt G g S (vs.map some) H d ∧ F d = some (x, d') ∧ ∀ v H' S', Same S S' → Zt G g S' (vs.map some) H' d' → Rep G S' x v → Q v H'
/-- .. that hands back a new object of one's own -/
def spF (G : Cls) (n : Nat) (F : FD) : Sp := fun vs H Q _ => vs.length = n ∧ ∃ g S d x d', Zt G g S (vs.map some) H d ∧ F d = some (x, d') ∧
  ∀ a H' S', Same S S' → Zt G g S' (vs.map some) H' d' → Cont G S' H' a x → S' a = none → g.B a = none → g.H0 a = none → Q (.ref a) H'
def outs : Nat → Ev → Ev
  | 0, _ => []
  | n + 1, [] => .no :: outs n []
  | n + 1, .io y :: r => .io y :: outs n r
  | n + 1, _ :: r => .no :: outs n r
theorem outs_len : ∀ (n : Nat) (d : Ev), (outs n d).length = n
  | 0, _ => rfl
  | n + 1, [] => by simp [outs, outs_len n []]
  | n + 1, .io y :: r => by simp [outs, outs_len n r]
  | n + 1, .no :: r => by simp [outs, outs_len n r]
  | n + 1, .va _ :: r => by simp [outs, outs_len n r]
  | n + 1, .ow _ :: r => by simp [outs, outs_len n r]
theorem outs_io : ∀ {n : Nat} {d : Ev} {i : Nat} {x : Sl}, (outs n d)[i]? = some x → i < n ∧ ((∃ y, x = .io y ∧ d[i]? = some (.io y)) ∨ x = .no)
  | 0, _, _, _, h => by simp [outs] at h
  | n + 1, [], 0, _, h => by simp [outs] at h; exact ⟨Nat.succ_pos _, .inr h.symm⟩
  | n + 1, .io y :: r, 0, _, h => by simp [outs] at h; exact ⟨Nat.succ_pos _, .inl ⟨y, h.symm, rfl⟩⟩
  | n + 1, .no :: r, 0, _, h => by simp [outs] at h; exact ⟨Nat.succ_pos _, .inr h.symm⟩
  | n + 1, .va _ :: r, 0, _, h => by simp [outs] at h; exact ⟨Nat.succ_pos _, .inr h.symm⟩
  | n + 1, .ow _ :: r, 0, _, h => by simp [outs] at h; exact ⟨Nat.succ_pos _, .inr h.symm⟩
  | n + 1, [], i + 1, x, h => by
    have q := outs_io (n := n) (d := []) (i := i) (x := x) (by simpa [outs] using h)
    exact ⟨Nat.succ_lt_succ q.1, by simpa using q.2⟩
  | n + 1, .io y :: r, i + 1, x, h => by
    have q := outs_io (n := n) (d := r) (i := i) (x := x) (by simpa [outs] using h)
    exact ⟨Nat.succ_lt_succ q.1, by simpa using q.2⟩
  | n + 1, .no :: r, i + 1, x, h => by
    have q := outs_io (n := n) (d := r) (i := i) (x := x) (by simpa [outs] using h)
    exact ⟨Nat.succ_lt_succ q.1, by simpa using q.2⟩
  | n + 1, .va _ :: r, i + 1, x, h => by
    have q := outs_io (n := n) (d := r) (i := i) (x := x) (by simpa [outs] using h)
    exact ⟨Nat.succ_lt_succ q.1, by simpa using q.2⟩
  | n + 1, .ow _ :: r, i + 1, x, h => by
    have q := outs_io (n := n) (d := r) (i := i) (x := x) (by simpa [outs] using h)
    exact ⟨Nat.succ_lt_succ q.1, by simpa using q.2⟩
theorem outs_at : ∀ {n : Nat} {d : Ev} {i : Nat} {y : D}, i < n → d[i]? = some (.io y) → (outs n d)[i]? = some (.io y)
  | n + 1, .io y :: r, 0, _, _, h => by simp at h; simp [outs, h]
  | n + 1, .no :: r, 0, _, _, h => by simp at h
  | n + 1, .va _ :: r, 0, _, _, h => by simp at h
  | n + 1, .ow _ :: r, 0, _, _, h => by simp at h
  | n + 1, .io _ :: r, i + 1, y, hl, h => by simpa [outs] using outs_at (n := n) (d := r) (i := i) (y := y) (Nat.lt_of_succ_lt_succ hl) (by simpa using h)
  | n + 1, .no :: r, i + 1, y, hl, h => by simpa [outs] using outs_at (n := n) (d := r) (i := i) (y := y) (Nat.lt_of_succ_lt_succ hl) (by simpa using h)
  | n + 1, .va _ :: r, i + 1, y, hl, h => by simpa [outs] using outs_at (n := n) (d := r) (i := i) (y := y) (Nat.lt_of_succ_lt_succ hl) (by simpa using h)
  | n + 1, .ow _ :: r, i + 1, y, hl, h => by simpa [outs] using outs_at (n := n) (d := r) (i := i) (y := y) (Nat.lt_of_succ_lt_succ hl) (by simpa using h)
  | 0, _, _, _, hl, _ => by omega
  | _ + 1, [], _, _, _, h => by simp at h
def fnD (n m : Nat) (B : DS) : FD := fun d => if d.length = n then match B (d ++ List.replicate m .no) with
  | some (.rt x, d') => some (x, outs n d')
  | some (.nx, d') => some (.non, outs n d')
  | _ => none
  else none
def fnF (n m : Nat) (B : DS) : FD := fun d => if d.length = n then match B (d ++ List.replicate m .no) with
  | some (.rf x, d') => some (x, outs n d')
  | _ => none
  else none

section
variable {G : Cls} {g : Gh} {S S' H H' : Hp} {d d' : Ev} {vs : List V} {N : List Str}
theorem Zt.pad {m : Nat} (z : Zt G g S (vs.map some) H d) (hm : m = N.length - vs.length) : Zt G g S (L2.start N vs) H (d ++ List.replicate m .no) := by
  have hl : vs.length = d.length := by simpa using z.ln
  unfold L2.start
  refine ⟨z.sh, z.bh, z.s0, z.s1, z.dm, by simp [hl, hm], fun i x e => ?_, fun i j a hn h1 h2 => ?_, fun i a e => ?_⟩
  · by_cases hi : i < d.length
    · rw [List.getElem?_append_left hi] at e
      obtain ⟨y, h1, h2⟩ := z.sl i x e
      exact ⟨y, by rw [List.getElem?_append_left (by simpa [hl] using hi)]; exact h1, h2⟩
    · rw [List.getElem?_append_right (by omega), List.getElem?_replicate] at e
      split at e
      · rename_i h
        cases e
        exact ⟨none, by rw [List.getElem?_append_right (by simp; omega), List.getElem?_replicate]; simp; omega, trivial⟩
      · cases e
  · have conv : ∀ {k}, OwnAt (d ++ List.replicate m .no) (vs.map some ++ List.replicate (N.length - vs.length) none) k a → OwnAt d (vs.map some) k a := fun {k} o => by
      obtain ⟨x, e1, e2, e3⟩ := o
      by_cases hi : k < d.length
      · rw [List.getElem?_append_left hi] at e1
        rw [List.getElem?_append_left (by simpa [hl] using hi)] at e3
        exact ⟨x, e1, e2, e3⟩
      · rw [List.getElem?_append_right (by omega), List.getElem?_replicate] at e1
        split at e1
        · cases e1; cases e2
        · cases e1
    exact z.ap i j a hn (conv h1) (conv h2)
  · obtain ⟨x, h1⟩ := z.ic i a e
    have hi : i < d.length := (List.getElem?_eq_some_iff.mp h1).1
    exact ⟨x, by rw [List.getElem?_append_left hi]; exact h1⟩
theorem Zt.outs {s' : St} {S0 H0 : Hp} (z : Zt G g S0 (vs.map some) H0 d) (z' : Zt G g S s' H d') : Zt G g S (vs.map some) H (Zr.outs d.length d') where
  sh := z'.sh
  bh := z'.bh
  s0 := z'.s0
  s1 := z'.s1
  dm := z'.dm
  ln := by rw [outs_len, z.ln]
  sl := fun i x e => by
    obtain ⟨hi, h⟩ := outs_io e
    obtain ⟨w, hw⟩ : ∃ w, (vs.map some)[i]? = some w := by
      have : i < (vs.map some).length := by rw [z.ln]; exact hi
      exact ⟨_, List.getElem?_eq_getElem this⟩
    refine ⟨w, hw, ?_⟩
    rcases h with ⟨y, rfl, ey⟩ | rfl
    · obtain ⟨u, h1, a, rfl, h2, h3, h4, h5, h6⟩ := z'.sl i _ ey
      obtain ⟨x0, h7⟩ := z.ic i a h2
      obtain ⟨u', h8, a', rfl, h9, _⟩ := z.sl i _ h7
      rw [h2] at h9
      cases h9
      rw [hw] at h8
      cases h8
      exact ⟨a, rfl, h2, h3, h4, h5, h6⟩
    · trivial
  ap := fun i j a hn h1 h2 => by
    have conv : ∀ {k}, OwnAt (Zr.outs d.length d') (vs.map some) k a → OwnAt d' s' k a := fun {k} o => by
      obtain ⟨x, e1, e2, e3⟩ := o
      obtain ⟨hi, h⟩ := outs_io e1
      rcases h with ⟨y, rfl, ey⟩ | rfl
      · obtain ⟨u, q1, b, rfl, q2, _⟩ := z'.sl k _ ey
        obtain ⟨x0, h7⟩ := z.ic k b q2
        obtain ⟨u', h8, a', rfl, h9, _⟩ := z.sl k _ h7
        rw [q2] at h9
        cases h9
        rw [e3] at h8
        cases h8
        exact ⟨_, ey, rfl, q1⟩
      · cases e2
    exact z'.ap i j a hn (conv h1) (conv h2)
  ic := fun i a e => by
    obtain ⟨x0, h7⟩ := z.ic i a e
    have hi : i < d.length := (List.getElem?_eq_some_iff.mp h7).1
    obtain ⟨y, ey⟩ := z'.ic i a e
    exact ⟨y, outs_at hi ey⟩

variable {P : Program} {w : World} {K : PySem.W.Frag} {mg : Str → Option Value} {base : Heap} {x qual : Str} {st : Stmt} {f : Addr} {fd : FuncData} {ps : List Str} {k m n : Nat} {B : DS}
theorem fn_ok (F : Fun K x qual st f fd) (Sc : FnScope N ps (defScope st)) (hn : n = ps.length) (hm : m = N.length - n)
    (hb : ∀ (cdv : Value) (A : Around) (outer : List Env) (s : Shared) (H : Hp) (E : XK), Room k (A.deeper (PyProof.Rows.envOfC qual (defScope st) s.heap.objs.size f cdv)) → LSs G (cxOf CX0 P w K mg base N qual (defScope st) f cdv A outer s H E).nox (defBody st) B) :
    FnOk P w K mg base CX0 (k + 1) f fd ps (spD G n (fnD n m B)) := by
  refine F.ok Sc (fun vs H Q E h => h.1.trans hn) fun cdv A outer s H vs Q E hr h => ?_
  obtain ⟨hl, g, S, d, x, d', z, e, q⟩ := h
  refine ⟨_, hb cdv A outer s H E hr, ?_⟩
  have hd : d.length = n := by rw [← hl, ← z.ln, List.length_map]
  unfold fnD at e
  rw [if_pos hd] at e
  have z1 := z.pad (N := N) (m := m) (by rw [hm, hl])
  split at e
  · rename_i y d2 e2
    cases e
    rw [← hd] at q
    exact ⟨g, S, _, _, d2, z1, e2, fun v s' H' S' sm z' r => q v H' S' sm (z.outs z') r⟩
  · rename_i d2 e2
    cases e
    rw [← hd] at q
    exact ⟨g, S, _, _, d2, z1, e2, fun s' H' S' sm z' => q _ H' S' sm (z.outs z') rep_non⟩
  · cases e
theorem fn_okF (F : Fun K x qual st f fd) (Sc : FnScope N ps (defScope st)) (hn : n = ps.length) (hm : m = N.length - n)
    (hb : ∀ (cdv : Value) (A : Around) (outer : List Env) (s : Shared) (H : Hp) (E : XK), Room k (A.deeper (PyProof.Rows.envOfC qual (defScope st) s.heap.objs.size f cdv)) → LSs G (cxOf CX0 P w K mg base N qual (defScope st) f cdv A outer s H E).nox (defBody st) B) :
    FnOk P w K mg base CX0 (k + 1) f fd ps (spF G n (fnF n m B)) := by
  refine F.ok Sc (fun vs H Q E h => h.1.trans hn) fun cdv A outer s H vs Q E hr h => ?_
  obtain ⟨hl, g, S, d, x, d', z, e, q⟩ := h
  refine ⟨_, hb cdv A outer s H E hr, ?_⟩
  have hd : d.length = n := by rw [← hl, ← z.ln, List.length_map]
  unfold fnF at e
  rw [if_pos hd] at e
  have z1 := z.pad (N := N) (m := m) (by rw [hm, hl])
  split at e
  · rename_i y d2 e2
    cases e
    rw [← hd] at q
    exact ⟨g, S, _, _, d2, z1, e2, fun a s' H' S' sm z' => q a H' S' sm (z.outs z')⟩
  · cases e
end

/-! ### arguments: values, and slots that are handed in to be changed -/
inductive Ar where
  | va (x : D)
  | io (i : Nat)
abbrev DB := Ev → Option (List Ar × Ev)
def ArOk (G : Cls) (S : Hp) (s : St) (v : V) : Ar → Prop
  | .va x => Rep G S x v
  | .io i => s[i]? = some (some v)
def ArL (G : Cls) (S : Hp) (s : St) : List Ar → List V → Prop
  | [], vs => vs = []
  | x :: xs, vs => ∃ v r, vs = v :: r ∧ ArOk G S s v x ∧ ArL G S s xs r
theorem ArOk.mono {G : Cls} {S S' : Hp} {s : St} {v : V} (e : Same S S') : ∀ {x : Ar}, ArOk G S s v x → ArOk G S' s v x
  | .va _, h => Rep.mono e h
  | .io _, h => h
theorem ArL.mono {G : Cls} {S S' : Hp} {s : St} (e : Same S S') : ∀ {xs : List Ar} {vs : List V}, ArL G S s xs vs → ArL G S' s xs vs
  | [], _, h => h
  | _ :: _, _, ⟨v, r, h1, h2, h3⟩ => ⟨v, r, h1, h2.mono e, ArL.mono e h3⟩
theorem ArL.length {G : Cls} {S : Hp} {s : St} : ∀ {xs : List Ar} {vs : List V}, ArL G S s xs vs → xs.length = vs.length
  | [], _, h => by cases h; rfl
  | _ :: _, _, ⟨v, r, h1, h2, h3⟩ => by subst h1; simp [ArL.length h3]
theorem ArL.get {G : Cls} {S : Hp} {s : St} : ∀ {xs : List Ar} {vs : List V} {i : Nat} {x : Ar}, ArL G S s xs vs → xs[i]? = some x → ∃ v, vs[i]? = some v ∧ ArOk G S s v x
  | [], _, _, _, _, e => by simp at e
  | _ :: _, _, 0, _, ⟨v, r, h1, h2, h3⟩, e => by subst h1; simp at e; subst e; exact ⟨v, rfl, h2⟩
  | _ :: _, _, i + 1, _, ⟨v, r, h1, h2, h3⟩, e => by
    subst h1
    obtain ⟨v', e', h'⟩ := ArL.get (i := i) h3 (by simpa using e)
    exact ⟨v', by simpa using e', h'⟩
theorem ArL.ofRep {G : Cls} {S : Hp} {s : St} : ∀ {ds : List D} {vs : List V}, RepL G S ds vs → ArL G S s (ds.map Ar.va) vs
  | [], _, h => by unfold RepL at h; exact h
  | _ :: _, _, h => by
    unfold RepL at h
    obtain ⟨v, r, h1, h2, h3⟩ := h
    exact ⟨v, r, h1, h2, ArL.ofRep h3⟩
theorem ArL.append {G : Cls} {S : Hp} {s : St} : ∀ {xs ys : List Ar} {vs us : List V}, ArL G S s xs vs → ArL G S s ys us → ArL G S s (xs ++ ys) (vs ++ us)
  | [], _, _, _, h, t => by cases h; exact t
  | _ :: _, _, _, _, ⟨v, r, h1, h2, h3⟩, t => by subst h1; exact ⟨v, _, rfl, h2, ArL.append h3 t⟩
def liftB (G : Cls) (f : DB) : TA := fun s H Q => ∃ g S d xs d', Zt G g S s H d ∧ f d = some (xs, d') ∧ ∀ vs H' S', Same S S' → Zt G g S' s H' d' → ArL G S' s xs vs → Q vs H'
abbrev LB (G : Cls) (X : Cx) (e : List Expr) (f : DB) : Prop := PA X e (liftB G f)

/-- the callee's slots -/
def argsD : List Ar → Ev → Option Ev
  | [], _ => some []
  | .va x :: r, d => match argsD r d with
    | some t => some (.va x :: t)
    | none => none
  | .io i :: r, d => match argsD r d with
    | some t => match d[i]? with
      | some (.ow y) => some (.io y :: t)
      | some (.io y) => some (.io y :: t)
      | _ => none
    | none => none
/-- .. and what they are behind, put back -/
def putD : List Ar → Ev → Ev → Option Ev
  | [], _, d => some d
  | .va _ :: r, _ :: t, d => putD r t d
  | .io i :: r, .io y :: t, d => match d[i]? with
    | some (.ow _) => putD r t (d.set i (.ow y))
    | some (.io _) => putD r t (d.set i (.io y))
    | _ => none
  | _, _, _ => none
def iosOf : List Ar → List Nat
  | [] => []
  | .va _ :: r => iosOf r
  | .io i :: r => i :: iosOf r
/-- no slot twice -/
def onceD : List Nat → Bool
  | [] => true
  | i :: r => !r.contains i && onceD r
def callD (F : FD) (f : DB) : DE := fun d => match f d with
  | some (xs, d1) => if onceD (iosOf xs) then match argsD xs d1 with
      | some t => match F t with
        | some (x, t') => match putD xs t' d1 with
          | some d2 => some (x, d2)
          | none => none
        | none => none
      | none => none
    else none
  | none => none

section
variable {G : Cls} {g : Gh} {S S' H H' : Hp} {d d' t t' : Ev} {s : St} {xs : List Ar} {vs : List V}
theorem argsD_len : ∀ {xs : List Ar} {d t : Ev}, argsD xs d = some t → t.length = xs.length
  | [], _, _, e => by cases e; rfl
  | .va x :: r, d, t, e => by
    unfold argsD at e
    split at e
    · rename_i t' e'; cases e; simp [argsD_len e']
    · cases e
  | .io i :: r, d, t, e => by
    unfold argsD at e
    split at e
    · rename_i t' e'
      split at e
      · cases e; simp [argsD_len e']
      · cases e; simp [argsD_len e']
      · cases e
    · cases e
theorem argsD_get : ∀ {xs : List Ar} {d t : Ev} {k : Nat} {x : Sl}, argsD xs d = some t → t[k]? = some x →
    (∃ y, xs[k]? = some (.va y) ∧ x = .va y) ∨ ∃ i y, xs[k]? = some (.io i) ∧ x = .io y ∧ (d[i]? = some (.ow y) ∨ d[i]? = some (.io y))
  | [], _, _, _, _, e, h => by cases e; simp at h
  | .va x :: r, d, t, k, _, e, h => by
    unfold argsD at e
    split at e
    · rename_i t' e'
      cases e
      cases k with
      | zero => simp at h; exact .inl ⟨x, rfl, h.symm⟩
      | succ k => simpa using argsD_get (k := k) e' (by simpa using h)
    · cases e
  | .io i :: r, d, t, k, _, e, h => by
    unfold argsD at e
    split at e
    · rename_i t' e'
      split at e
      · rename_i y ey
        cases e
        cases k with
        | zero => simp at h; exact .inr ⟨i, y, rfl, h.symm, .inl ey⟩
        | succ k => simpa using argsD_get (k := k) e' (by simpa using h)
      · rename_i y ey
        cases e
        cases k with
        | zero => simp at h; exact .inr ⟨i, y, rfl, h.symm, .inr ey⟩
        | succ k => simpa using argsD_get (k := k) e' (by simpa using h)
      · cases e
    · cases e
theorem putD_get : ∀ {xs : List Ar} {t d d' : Ev}, putD xs t d = some d' → d'.length = d.length ∧ ∀ {j : Nat} {x : Sl}, d'[j]? = some x →
    (j ∉ iosOf xs ∧ d[j]? = some x) ∨ ∃ (k : Nat) (y : D), xs[k]? = some (Ar.io j) ∧ t[k]? = some (Sl.io y) ∧ ((x = .ow y ∧ ∃ w, d[j]? = some (.ow w)) ∨ (x = .io y ∧ ∃ w, d[j]? = some (.io w)))
  | [], _, _, _, e => by unfold putD at e; cases e; exact ⟨rfl, fun h => .inl ⟨by simp [iosOf], h⟩⟩
  | .va _ :: r, [], _, _, e => by simp [putD] at e
  | .io _ :: r, [], _, _, e => by simp [putD] at e
  | .io _ :: r, .no :: _, _, _, e => by simp [putD] at e
  | .io _ :: r, .va _ :: _, _, _, e => by simp [putD] at e
  | .io _ :: r, .ow _ :: _, _, _, e => by simp [putD] at e
  | .va _ :: r, y :: t, d, d', e => by
    have e : putD r t d = some d' := by simpa [putD] using e
    obtain ⟨h1, h2⟩ := putD_get e
    refine ⟨h1, fun {j x} h => ?_⟩
    rcases h2 h with q | ⟨k, y, a, b, c⟩
    · exact .inl q
    · exact .inr ⟨k + 1, y, by simpa using a, by simpa using b, c⟩
  | .io i :: r, .io y :: t, d, d', e => by
    have key : ∀ (z : Sl), z.isO = true → (∃ w, (z = .ow y ∧ d[i]? = some (.ow w)) ∨ (z = .io y ∧ d[i]? = some (.io w))) → putD r t (d.set i z) = some d' → d'.length = d.length ∧ ∀ {j : Nat} {x : Sl}, d'[j]? = some x →
        (j ∉ iosOf (.io i :: r) ∧ d[j]? = some x) ∨ ∃ (k : Nat) (y' : D), (Ar.io i :: r)[k]? = some (Ar.io j) ∧ (Sl.io y :: t)[k]? = some (Sl.io y') ∧ ((x = .ow y' ∧ ∃ w, d[j]? = some (.ow w)) ∨ (x = .io y' ∧ ∃ w, d[j]? = some (.io w))) := by
      intro z _ hz e
      obtain ⟨h1, h2⟩ := putD_get e
      refine ⟨by simpa using h1, fun {j x} h => ?_⟩
      rcases h2 h with ⟨q1, q2⟩ | ⟨k, y', a, b, c⟩
      · rcases getElem?_set_cases q2 with ⟨e1, e2, _⟩ | ⟨e1, e2⟩
        · subst e1
          refine .inr ⟨0, y, rfl, rfl, ?_⟩
          obtain ⟨w, hz⟩ := hz
          rcases hz with ⟨z1, z2⟩ | ⟨z1, z2⟩
          · exact .inl ⟨e2.trans z1, w, z2⟩
          · exact .inr ⟨e2.trans z1, w, z2⟩
        · refine .inl ⟨?_, e2⟩
          show j ∉ i :: iosOf r
          rw [List.mem_cons, not_or]
          exact ⟨e1, q1⟩
      · refine .inr ⟨k + 1, y', by simpa using a, by simpa using b, ?_⟩
        rcases c with ⟨c1, w, c2⟩ | ⟨c1, w, c2⟩
        · rcases getElem?_set_cases c2 with ⟨e1, e2, _⟩ | ⟨_, e2⟩
          · subst e1
            obtain ⟨w', hz⟩ := hz
            rcases hz with ⟨z1, z2⟩ | ⟨z1, z2⟩
            · exact .inl ⟨c1, w', z2⟩
            · rw [← e2] at z1; cases z1
          · exact .inl ⟨c1, w, e2⟩
        · rcases getElem?_set_cases c2 with ⟨e1, e2, _⟩ | ⟨_, e2⟩
          · subst e1
            obtain ⟨w', hz⟩ := hz
            rcases hz with ⟨z1, z2⟩ | ⟨z1, z2⟩
            · rw [← e2] at z1; cases z1
            · exact .inr ⟨c1, w', z2⟩
          · exact .inr ⟨c1, w, e2⟩
    unfold putD at e
    split at e
    · rename_i w hw; exact key _ rfl ⟨w, .inl ⟨rfl, hw⟩⟩ e
    · rename_i w hw; exact key _ rfl ⟨w, .inr ⟨rfl, hw⟩⟩ e
    · cases e
theorem mem_ios : ∀ {xs : List Ar} {l i : Nat}, xs[l]? = some (Ar.io i) → i ∈ iosOf xs
  | [], _, _, h => by simp at h
  | .va _ :: r, 0, _, h => by simp at h
  | .va _ :: r, l + 1, i, h => mem_ios (xs := r) (l := l) (by simpa using h)
  | .io j :: r, 0, i, h => by
    have h : j = i := by simpa using h
    subst h; exact List.mem_cons_self
  | .io j :: r, l + 1, i, h => List.mem_cons_of_mem _ (mem_ios (xs := r) (l := l) (by simpa using h))
theorem onceD_ne : ∀ {xs : List Ar} {i k l : Nat}, onceD (iosOf xs) = true → xs[k]? = some (.io i) → xs[l]? = some (.io i) → k = l
  | [], _, _, _, _, h, _ => by simp at h
  | .va _ :: r, i, 0, _, _, h, _ => by simp at h
  | .va _ :: r, i, _ + 1, 0, _, _, h => by simp at h
  | .va _ :: r, i, k + 1, l + 1, o, h1, h2 => by
    have := onceD_ne (xs := r) (k := k) (l := l) o (by simpa using h1) (by simpa using h2)
    omega
  | .io j :: r, i, 0, 0, _, _, _ => rfl
  | .io j :: r, i, k + 1, l + 1, o, h1, h2 => by
    have o : (!(iosOf r).contains j && onceD (iosOf r)) = true := o
    rw [Bool.and_eq_true] at o
    have := onceD_ne (xs := r) (k := k) (l := l) o.2 (by simpa using h1) (by simpa using h2)
    omega
  | .io j :: r, i, 0, l + 1, o, h1, h2 => by
    have o : (!(iosOf r).contains j && onceD (iosOf r)) = true := o
    rw [Bool.and_eq_true] at o
    have h1 : j = i := by simpa using h1
    have m : i ∈ iosOf r := mem_ios (l := l) (by simpa using h2)
    subst h1
    simp [m] at o
  | .io j :: r, i, k + 1, 0, o, h1, h2 => by
    have := onceD_ne (xs := .io j :: r) (k := 0) (l := k + 1) o h2 h1
    omega
open Classical in
/-- the callee's view -/
noncomputable def ghC (S H : Hp) (ios : Nat → Option Addr) : Gh := ⟨fun b => if ∃ k, ios k = some b then none else H b, S, H, ios⟩
theorem ghC_le {S H : Hp} {ios : Nat → Option Addr} {b : Addr} {o : HO} (q : (ghC S H ios).B b = some o) : H b = some o := by
  unfold ghC at q
  simp only at q
  split at q
  · cases q
  · exact q
theorem ghC_in {S H : Hp} {ios : Nat → Option Addr} {b : Addr} {k : Nat} (h : ios k = some b) : (ghC S H ios).B b = none := by
  unfold ghC
  simp only
  rw [if_pos ⟨k, h⟩]
theorem ghC_out {S H : Hp} {ios : Nat → Option Addr} {b : Addr} (h : ∀ k, ios k ≠ some b) : (ghC S H ios).B b = H b := by
  unfold ghC
  simp only
  rw [if_neg fun ⟨k, q⟩ => h k q]
def ioA (xs : List Ar) (vs : List V) : Nat → Option Addr := fun k => match xs[k]?, vs[k]? with
  | some (.io _), some (.ref a) => some a
  | _, _ => none
theorem ioA_some {k : Nat} {a : Addr} (h : ioA xs vs k = some a) : (∃ i, xs[k]? = some (.io i)) ∧ vs[k]? = some (.ref a) := by
  unfold ioA at h
  split at h
  · rename_i h1 h2; cases h; exact ⟨⟨_, h1⟩, h2⟩
  · cases h
theorem Zt.isOwn {i : Nat} {x : Sl} (z : Zt G g S s H d) (h : d[i]? = some x) (ho : x.isO = true) : ∃ a y, s[i]? = some (some (.ref a)) ∧ OwnAt d s i a ∧ (x = .ow y ∨ x = .io y) ∧ Cont G S H a y ∧ S a = none ∧ g.B a = none := by
  obtain ⟨u, h1, h2⟩ := z.sl i x h
  cases x with
  | no => cases ho
  | va _ => cases ho
  | ow y => obtain ⟨a, rfl, c, h3, h4, h5⟩ := h2; exact ⟨a, y, h1, ⟨_, h, rfl, h1⟩, .inl rfl, c, h3, h4⟩
  | io y => obtain ⟨a, rfl, _, c, h3, h4, h5⟩ := h2; exact ⟨a, y, h1, ⟨_, h, rfl, h1⟩, .inr rfl, c, h3, h4⟩
theorem call_in (z : Zt G g S s H d) (ha : ArL G S s xs vs) (e : argsD xs d = some t) (ho : onceD (iosOf xs) = true) : Zt G (ghC S H (ioA xs vs)) S (vs.map some) H t where
  sh := z.sh
  bh := fun b o q => ghC_le q
  s0 := fun b o q => .inl q
  s1 := .refl _
  dm := fun b q => q
  ln := by rw [List.length_map, argsD_len e, ha.length]
  sl := fun k x q => by
    rcases argsD_get e q with ⟨y, h1, rfl⟩ | ⟨i, y, h1, rfl, h2⟩
    · obtain ⟨v, h3, h4⟩ := ha.get h1
      exact ⟨some v, by rw [List.getElem?_map, h3]; rfl, v, rfl, h4⟩
    · obtain ⟨v, h3, h4⟩ := ha.get h1
      have h4 : s[i]? = some (some v) := h4
      have fin : ∀ x, d[i]? = some x → x.isO = true → (x = .ow y ∨ x = .io y) → ∃ w, (vs.map some)[k]? = some w ∧ SlOk G (ghC S H (ioA xs vs)) S H k w (.io y) := fun x hx hO hy => by
        obtain ⟨a, y', e1, e2, e3, e4, e5, e6⟩ := z.isOwn hx hO
        rw [e1] at h4
        cases h4
        have : y' = y := by
          rcases e3 with r | r <;> rcases hy with r' | r' <;> (rw [r] at r'; cases r'; try rfl)
        subst this
        have io : ioA xs vs k = some a := by unfold ioA; rw [h1, h3]
        obtain ⟨o, ho, _⟩ := e4.has
        refine ⟨_, by rw [List.getElem?_map, h3]; rfl, a, rfl, io, e4, e5, ghC_in io, o, ho⟩
      rcases h2 with h2 | h2
      · exact fin _ h2 rfl (.inl rfl)
      · exact fin _ h2 rfl (.inr rfl)
  ap := fun k l a hn h1 h2 => by
    have conv : ∀ {k}, OwnAt t (vs.map some) k a → ∃ i, xs[k]? = some (.io i) ∧ OwnAt d s i a := fun {k} o => by
      obtain ⟨x, e1, e2, e3⟩ := o
      rcases argsD_get e e1 with ⟨y, h1, rfl⟩ | ⟨i, y, h1, rfl, h2⟩
      · cases e2
      · obtain ⟨v, h3, h4⟩ := ha.get h1
        have h4 : s[i]? = some (some v) := h4
        rw [List.getElem?_map, h3] at e3
        cases e3
        rcases h2 with h2 | h2
        · exact ⟨i, h1, _, h2, rfl, h4⟩
        · exact ⟨i, h1, _, h2, rfl, h4⟩
    obtain ⟨i, i1, o1⟩ := conv h1
    obtain ⟨j, j1, o2⟩ := conv h2
    by_cases hij : i = j
    · subst hij; exact hn (onceD_ne ho i1 j1)
    · exact z.ap i j a hij o1 o2
  ic := fun k a q => by
    obtain ⟨⟨i, h1⟩, h2⟩ := ioA_some q
    have hk : k < t.length := by rw [argsD_len e]; exact (List.getElem?_eq_some_iff.mp h1).1
    rcases argsD_get e (List.getElem?_eq_getElem hk) with ⟨y, h3, h4⟩ | ⟨j, y, h3, h4, _⟩
    · rw [h1] at h3; cases h3
    · exact ⟨y, by rw [List.getElem?_eq_getElem hk, h4]⟩
theorem call_out {S2 H2 : Hp} (z : Zt G g S s H d) (ha : ArL G S s xs vs) (e : argsD xs d = some t) (ho : onceD (iosOf xs) = true) (sm : Same S S2) (z2 : Zt G (ghC S H (ioA xs vs)) S2 (vs.map some) H2 t') (e2 : putD xs t' d = some d') :
    Zt G g S2 s H2 d' ∧ (∀ i a, OwnAt d' s i a → OwnAt d s i a) := by
  obtain ⟨hl, hg⟩ := putD_get e2
  have ioOwn : ∀ {k a}, ioA xs vs k = some a → ∃ i, xs[k]? = some (.io i) ∧ OwnAt d s i a := fun {k a} q => by
    obtain ⟨⟨i, h1⟩, h2⟩ := ioA_some q
    have hk : k < t.length := by rw [argsD_len e]; exact (List.getElem?_eq_some_iff.mp h1).1
    obtain ⟨v, h3, h4⟩ := ha.get h1
    have h4 : s[i]? = some (some v) := h4
    rw [h2] at h3; cases h3
    rcases argsD_get e (List.getElem?_eq_getElem hk) with ⟨y, h3, h5⟩ | ⟨j, y, h3, h5, h6⟩
    · rw [h1] at h3; cases h3
    · rw [h1] at h3; cases h3
      rcases h6 with h6 | h6
      · exact ⟨i, h1, _, h6, rfl, h4⟩
      · exact ⟨i, h1, _, h6, rfl, h4⟩
  have back : ∀ i a, OwnAt d' s i a → OwnAt d s i a := fun i a o => by
    obtain ⟨x, h1, h2, h3⟩ := o
    rcases hg h1 with ⟨_, q⟩ | ⟨k, y, q1, q2, q3⟩
    · exact ⟨x, q, h2, h3⟩
    · rcases q3 with ⟨_, w, q4⟩ | ⟨_, w, q4⟩
      · exact ⟨_, q4, rfl, h3⟩
      · exact ⟨_, q4, rfl, h3⟩
  have newS : ∀ a, (∃ o, H a = some o) → S a = none → S2 a = none := fun a ⟨o, ha⟩ hs => by
    cases q : S2 a with
    | none => rfl
    | some u =>
      rcases z2.s0 a u q with r | r
      · have r : S a = some u := r
        rw [hs] at r; cases r
      · have r : H a = none := r
        rw [ha] at r; cases r
  have kept : ∀ b o, H b = some o → (∀ k, ioA xs vs k ≠ some b) → H2 b = some o := fun b o hb hk => z2.bh b o ((ghC_out hk).trans hb)
  refine ⟨⟨z2.sh, fun b o q => ?_, fun b o q => ?_, z.s1.trans sm, fun b q => z.dm b (z2.dm b q), by rw [hl]; exact z.ln, fun j x q => ?_, fun i j a hn o1 o2 => z.ap i j a hn (back i a o1) (back j a o2), fun i a q => ?_⟩, back⟩
  · refine kept b o (z.bh b o q) fun k hk => ?_
    obtain ⟨i, _, o'⟩ := ioOwn hk
    have := (z.ownAddr o').2.2
    rw [q] at this; cases this
  · rcases z2.s0 b o q with r | r
    · exact z.s0 b o r
    · exact .inr (z.dm b r)
  · rcases hg q with ⟨hj, q1⟩ | ⟨k, y, q1, q2, q3⟩
    · obtain ⟨u, h1, h2⟩ := z.sl j x q1
      refine ⟨u, h1, ?_⟩
      have own : ∀ a, OwnAt d s j a → ∀ w, Cont G S H a w → Cont G S2 H2 a w ∧ S2 a = none := fun a oa w c => by
        obtain ⟨o, hoa, _⟩ := c.has
        obtain ⟨_, hs, _⟩ := z.ownAddr oa
        refine ⟨c.mono sm ?_, newS a ⟨o, hoa⟩ hs⟩
        rw [hoa]
        refine kept a o hoa fun k hk => ?_
        obtain ⟨i, hi, o'⟩ := ioOwn hk
        have hij : i ≠ j := fun w => by
          subst w
          exact hj (mem_ios hi)
        exact z.ap i j a hij o' oa
      cases x with
      | no => trivial
      | va w => obtain ⟨v, e1, r⟩ := h2; exact ⟨v, e1, r.mono sm⟩
      | ow w =>
        obtain ⟨a, rfl, c, h3, h4, h5⟩ := h2
        obtain ⟨c', h3'⟩ := own a ⟨_, q1, rfl, h1⟩ w c
        exact ⟨a, rfl, c', h3', h4, h5⟩
      | io w =>
        obtain ⟨a, rfl, h0, c, h3, h4, h5⟩ := h2
        obtain ⟨c', h3'⟩ := own a ⟨_, q1, rfl, h1⟩ w c
        exact ⟨a, rfl, h0, c', h3', h4, h5⟩
    · obtain ⟨u, h1, a, rfl, h2, h3, h4, _, _⟩ := z2.sl k _ q2
      have h2 : ioA xs vs k = some a := h2
      obtain ⟨i, hi, oa⟩ := ioOwn h2
      rw [q1] at hi; cases hi
      rcases q3 with ⟨rfl, w, q4⟩ | ⟨rfl, w, q4⟩
      · obtain ⟨u, h5, b, rfl, c, h6, h7, h8⟩ := z.sl j _ q4
        obtain ⟨_, _, _, h9⟩ := oa
        rw [h5] at h9; cases h9
        exact ⟨_, h5, a, rfl, h3, h4, h7, h8⟩
      · obtain ⟨u, h5, b, rfl, h0, c, h6, h7, h8⟩ := z.sl j _ q4
        obtain ⟨_, _, _, h9⟩ := oa
        rw [h5] at h9; cases h9
        exact ⟨_, h5, a, rfl, h0, h3, h4, h7, h8⟩
  · obtain ⟨x, h1⟩ := z.ic i a q
    have hi : i < d'.length := by rw [hl]; exact (List.getElem?_eq_some_iff.mp h1).1
    rcases hg (List.getElem?_eq_getElem hi) with ⟨_, q1⟩ | ⟨k, y, _, _, q3⟩
    · rw [h1] at q1
      exact ⟨x, by rw [List.getElem?_eq_getElem hi]; exact q1.symm⟩
    · rcases q3 with ⟨_, w, q4⟩ | ⟨q5, w, q4⟩
      · rw [h1] at q4; cases q4
      · exact ⟨y, by rw [List.getElem?_eq_getElem hi, q5]⟩
/-- a call's reading -/
theorem call_sp {n : Nat} {F : FD} {x : D} {Q : VK} {E : XK} (z : Zt G g S s H d) (ha : ArL G S s xs vs) (hn : vs.length = n) (ho : onceD (iosOf xs) = true) (e1 : argsD xs d = some t) (e2 : F t = some (x, t')) (e3 : putD xs t' d = some d')
    (q : ∀ v H' S', Same S S' → Zt G g S' s H' d' → Rep G S' x v → Q v H') : spD G n F vs H Q E :=
  ⟨hn, _, S, t, x, t', call_in z ha e1 ho, e2, fun v H' S' sm z' r => q v H' S' sm (call_out z ha e1 ho sm z' e3).1 r⟩
theorem call_spF {n : Nat} {F : FD} {x : D} {Q : VK} {E : XK} (z : Zt G g S s H d) (ha : ArL G S s xs vs) (hn : vs.length = n) (ho : onceD (iosOf xs) = true) (e1 : argsD xs d = some t) (e2 : F t = some (x, t')) (e3 : putD xs t' d = some d')
    (q : ∀ a H' S', Same S S' → Zt G g S' s H' d' → Cont G S' H' a x → S' a = none → g.B a = none → g.H0 a = none → (∀ j, ¬ OwnAt d' s j a) → Q (.ref a) H') : spF G n F vs H Q E :=
  ⟨hn, _, S, t, x, t', call_in z ha e1 ho, e2, fun a H' S' sm z' c h1 h2 h3 => by
    have h3 : H a = none := h3
    obtain ⟨z2, own⟩ := call_out z ha e1 ho sm z' e3
    refine q a H' S' sm z2 c h1 (z.bh.free h3) (z.dm a h3) fun j o => ?_
    obtain ⟨⟨u, hu⟩, _⟩ := z.ownAddr (own j a o)
    rw [h3] at hu; cases hu⟩
end
end Zr

/-! Zr: calls, instances, one's own objects. -/
namespace Zr
open PySem L2

/-! ### arguments -/
def bn : DB := fun d => some ([], d)
def bv (f : DE) (r : DB) : DB := fun d => match f d with
  | some (x, d1) => match r d1 with
    | some (xs, d2) => some (.va x :: xs, d2)
    | none => none
  | none => none
def bi (i : Nat) (r : DB) : DB := fun d => match d[i]? with
  | some (.ow _) => match r d with
    | some (xs, d2) => some (.io i :: xs, d2)
    | none => none
  | some (.io _) => match r d with
    | some (xs, d2) => some (.io i :: xs, d2)
    | none => none
  | _ => none
section
variable {G : Cls} {X : Cx} {e a b c o : Expr} {es : List Expr} {f h k : DE} {r : DB} {fa : DA} {ft : DT} {pos : Pos} {x : Str} {p : Pos}
theorem lb_nil : LB G X [] bn := pa_weak pa_nil fun s H Q ⟨g, S, d, x, d', z, e, q⟩ => by cases e; exact q [] H S (.refl _) z rfl
theorem lb_va (ha : LE G X e f) (hr : LB G X es r) (hs : starEach (e :: es) X.env = (false, eval e X.env) :: starEach es X.env := by rfl) : LB G X (e :: es) (bv f r) := pa_weak (pa_cons ha hr hs) fun s H Q ⟨g, S, d, x, d', z, e, q⟩ => by
  unfold bv at e
  split at e
  · rename_i y d1 e1
    split at e
    · rename_i ys d2 e2
      cases e
      exact ⟨g, S, d, y, d1, z, e1, fun v H' S' sm z' r1 => ⟨g, S', d1, ys, d', z', e2, fun vs H2 S2 sm2 z2 r2 => q _ H2 S2 (sm.trans sm2) z2 ⟨v, vs, rfl, r1.mono sm2, r2⟩⟩⟩
    · cases e
  · cases e
theorem lb_io (i : Nat) (hr : LB G X es r) (hN : X.N[i]? = some x := by rfl) (hv : Vis X.env.scope x := by first | exact Or.inl rfl | exact Or.inr (Or.inl rfl) | exact Or.inr (Or.inr rfl)) (hd : (x == ("__debug__" : Str)) = false := by decide) (hcd : (x == ("__classdict__" : Str)) = false := by decide)
    (hs : starEach (.Name x pos :: es) X.env = (false, eval (.Name x pos) X.env) :: starEach es X.env := by rfl) : LB G X (.Name x pos :: es) (bi i r) := pa_weak (pa_cons (pe_var hN hv hd hcd) hr hs) fun s H Q ⟨g, S, d, y, d', z, e, q⟩ => by
  have key : ∀ w, d[i]? = some w → w.isO = true → (match r d with | some (xs, d2) => some (Ar.io i :: xs, d2) | none => none) = some (y, d') → tCons (tVar i) (liftB G r) s H Q := fun w hw ho e => by
    obtain ⟨a, u, h1, _⟩ := z.isOwn hw ho
    split at e
    · rename_i xs d2 e2
      cases e
      exact ⟨_, h1, g, S, d, xs, d', z, e2, fun vs H2 S2 sm2 z2 r2 => q _ H2 S2 sm2 z2 ⟨_, vs, rfl, h1, r2⟩⟩
    · cases e
  unfold bi at e
  split at e
  · rename_i w hw; exact key _ hw rfl e
  · rename_i w hw; exact key _ hw rfl e
  · cases e

/-! ### calls of defs -/
/-- the defaults behind the written arguments -/
def dflt (ds : List D) (r : DB) : DB := fun d => match r d with
  | some (xs, d1) => some (xs ++ ds.map Ar.va, d1)
  | none => none
theorem callD_inv {F : FD} {d d' : Ev} {z : D} (e : callD F r d = some (z, d')) : ∃ xs d1 t t', r d = some (xs, d1) ∧ onceD (iosOf xs) = true ∧ argsD xs d1 = some t ∧ F t = some (z, t') ∧ putD xs t' d1 = some d' := by
  unfold callD at e
  split at e
  · rename_i xs d1 e1
    split at e
    · rename_i e2
      split at e
      · rename_i t e3
        split at e
        · rename_i x t' e4
          split at e
          · rename_i d2 e5
            cases e
            exact ⟨xs, d1, t, t', e1, e2, e3, e4, e5⟩
          · cases e
        · cases e
      · cases e
    · cases e
  · cases e
theorem dflt_inv {ds : List D} {d d' : Ev} {zs : List Ar} (e : dflt ds r d = some (zs, d')) : ∃ xs, r d = some (xs, d') ∧ zs = xs ++ ds.map Ar.va := by
  unfold dflt at e
  split at e
  · rename_i xs d1 e1
    cases e
    exact ⟨xs, e1, rfl⟩
  · cases e
variable {CX : CXT} {lv n : Nat} {fA C : Addr} {fd : FuncData} {ps : List Str} {F : FD} {dvs : List V} {ds : List Value} {dd : List D} {E : XK}
theorem lift_call (hdd : ∀ S, RepL G S dd dvs) {s : St} {H : Hp} {Q : VK} (hn : ∀ d xs d', r d = some (xs, d') → xs.length + dd.length = n) (q : liftE G (callD F (dflt dd r)) s H Q) : tCall (spD G n F) dvs E (liftB G r) s H Q := by
  obtain ⟨g, S, d, x, d', z, e, q⟩ := q
  obtain ⟨xs, d1, t, t', e1, e2, e3, e4, e5⟩ := callD_inv e
  obtain ⟨ys, e6, rfl⟩ := dflt_inv e1
  refine ⟨g, S, d, ys, d1, z, e6, fun vs H' S' sm z' ra => ?_⟩
  have hall := ra.append (ArL.ofRep (s := s) (hdd S'))
  exact call_sp z' hall (by rw [← hall.length, List.length_append, List.length_map]; exact hn _ _ _ e6) e2 e3 e4 e5 fun v H2 S2 sm2 z2 rv => q v H2 S2 (sm.trans sm2) z2 rv
theorem lift_callF (hdd : ∀ S, RepL G S dd dvs) {s : St} {H : Hp} {Q : VK} (hn : ∀ d xs d', r d = some (xs, d') → xs.length + dd.length = n) (q : liftF G (callD F (dflt dd r)) s H Q) : tCall (spF G n F) dvs E (liftB G r) s H Q := by
  obtain ⟨g, S, d, x, d', z, e, q⟩ := q
  obtain ⟨xs, d1, t, t', e1, e2, e3, e4, e5⟩ := callD_inv e
  obtain ⟨ys, e6, rfl⟩ := dflt_inv e1
  refine ⟨g, S, d, ys, d1, z, e6, fun vs H' S' sm z' ra => ?_⟩
  have hall := ra.append (ArL.ofRep (s := s) (hdd S'))
  exact call_spF z' hall (by rw [← hall.length, List.length_append, List.length_map]; exact hn _ _ _ e6) e2 e3 e4 e5 fun v H2 S2 sm2 z2 rv => q v H2 S2 (sm.trans sm2) z2 rv
/-- how many arguments -/
class inductive Many : DB → Nat → Prop
  | nil : Many bn 0
  | va {f : DE} {r : DB} {n : Nat} : Many r n → Many (bv f r) (n + 1)
  | io {i : Nat} {r : DB} {n : Nat} : Many r n → Many (bi i r) (n + 1)
theorem Many.len {n : Nat} (m : Many r n) : ∀ {d xs d'}, r d = some (xs, d') → xs.length = n := by
  induction m with
  | nil => intro d xs d' e; cases e; rfl
  | va m ih =>
    intro d xs d' e
    unfold bv at e
    split at e
    · split at e
      · rename_i e2; cases e; simp [ih e2]
      · cases e
    · cases e
  | io m ih =>
    intro d xs d' e
    unfold bi at e
    split at e
    · split at e
      · rename_i e2; cases e; simp [ih e2]
      · cases e
    · split at e
      · rename_i e2; cases e; simp [ih e2]
      · cases e
    · cases e
theorem repl_nil : ∀ S, RepL G S [] [] := fun _ => .nil
theorem le_call {m : Nat} (Fk : FnOk X.prog X.w X.K X.mg X.base CX0 lv fA fd ps (spD G n F)) (hr : Room lv X.A) (hg : Gl X x) (hm : X.mg x = some (.ref fA)) (hk : PySem.W.keepIn X.K (.ref fA) = true) (hb : Binds X.K fd ps ds) (hd : Vals dvs ds) (hdd : ∀ S, RepL G S dd dvs)
    (ha : LB G X (e :: es) r) (hM : Many r m) (hn : m + dd.length = n) (hdb : (x == ("__debug__" : Str)) = false := by decide) (he : starEach (e :: es) X.env = (false, eval e X.env) :: starEach es X.env := by rfl) (hpl : (backTo pos (starEach es X.env)).any (·.1) = false := by rfl) :
    LE G X (.Call (.Name x p) (e :: es) [] pos) (callD F (dflt dd r)) := pe_weak (pe_call Fk hr hg hm hk hb hd pass0 ha hdb he hpl) fun _ _ _ => lift_call hdd fun _ _ _ e => by rw [hM.len e]; exact hn
theorem lf_call {m : Nat} (Fk : FnOk X.prog X.w X.K X.mg X.base CX0 lv fA fd ps (spF G n F)) (hr : Room lv X.A) (hg : Gl X x) (hm : X.mg x = some (.ref fA)) (hk : PySem.W.keepIn X.K (.ref fA) = true) (hb : Binds X.K fd ps ds) (hd : Vals dvs ds) (hdd : ∀ S, RepL G S dd dvs)
    (ha : LB G X (e :: es) r) (hM : Many r m) (hn : m + dd.length = n) (hdb : (x == ("__debug__" : Str)) = false := by decide) (he : starEach (e :: es) X.env = (false, eval e X.env) :: starEach es X.env := by rfl) (hpl : (backTo pos (starEach es X.env)).any (·.1) = false := by rfl) :
    LF G X (.Call (.Name x p) (e :: es) [] pos) (callD F (dflt dd r)) := pe_weak (pe_call Fk hr hg hm hk hb hd pass0 ha hdb he hpl) fun _ _ _ => lift_callF hdd fun _ _ _ e => by rw [hM.len e]; exact hn

/-! ### instances: fields -/
theorem zip_lookup {α : Type} : ∀ {fl : List Str} {vs : List α} {k : Nat} {f : Str}, fl.Nodup → fl[k]? = some f → (fl.zip vs).lookup f = vs[k]?
  | [], _, _, _, _, h => by simp at h
  | y :: fl, [], k, f, _, _ => by simp
  | y :: fl, v :: vs, 0, f, _, h => by simp at h; subst h; simp
  | y :: fl, v :: vs, k + 1, f, nd, h => by
    have h : fl[k]? = some f := by simpa using h
    have hne : (f == y) = false := by
      have : f ∈ fl := List.mem_of_getElem? h
      have q : f ≠ y := fun w => (List.nodup_cons.mp nd).1 (w ▸ this)
      simpa using q
    rw [List.zip_cons_cons, List.lookup_cons, hne]
    simpa using zip_lookup (List.nodup_cons.mp nd).2 h
theorem zip_none {α : Type} {f : Str} : ∀ {fl : List Str} {vs : List α}, f ∉ fl → (fl.zip vs).lookup f = none
  | [], _, _ => by simp
  | y :: fl, [], _ => by simp
  | y :: fl, v :: vs, h => by
    rw [List.mem_cons, not_or] at h
    have hne : (f == y) = false := by simpa using h.1
    rw [List.zip_cons_cons, List.lookup_cons, hne]
    exact zip_none h.2
theorem putF_zip {f : Str} {v : V} : ∀ {fl : List Str} {vs : List V} {k : Nat}, fl.Nodup → fl[k]? = some f → k ≤ vs.length → putF f v (fl.zip vs) = fl.zip (if k < vs.length then vs.set k v else vs ++ [v])
  | [], _, _, _, h, _ => by simp at h
  | y :: fl, [], 0, _, h, _ => by simp at h; subst h; simp [putF]
  | y :: fl, [], k + 1, _, _, hl => by simp at hl
  | y :: fl, w :: vs, 0, _, h, _ => by simp at h; subst h; simp [putF]
  | y :: fl, w :: vs, k + 1, nd, h, hl => by
    have h : fl[k]? = some f := by simpa using h
    have hne : ¬ y = f := fun w => (List.nodup_cons.mp nd).1 (w ▸ List.mem_of_getElem? h)
    have ih := putF_zip (v := v) (vs := vs) (List.nodup_cons.mp nd).2 h (by simpa using hl)
    have e : putF f v ((y, w) :: fl.zip vs) = (y, w) :: putF f v (fl.zip vs) := by
      show (if y = f then _ else _) = _
      rw [if_neg hne]
    rw [List.zip_cons_cons, e, ih]
    by_cases q : k < vs.length
    · rw [if_pos q, if_pos (by simpa using q)]; rfl
    · rw [if_neg q, if_neg (by simpa using q)]; rfl
/-- what the text says of a class's fields: the k-th one is called x -/
structure FldOk (G : Cls) (K : PySem.W.Frag) (c k : Nat) (x : Str) : Prop where
  nd : (G.fld c).Nodup
  at_ : (G.fld c)[k]? = some x
  cl : L2.Cls K (G.adr c)
  no : NoAttr K (G.adr c) x
  few : (G.fld c).length < 1000
def ofld (tb : List (Nat × Nat)) : D → Option D
  | .ob c fs => match tb.lookup c with
    | some k => fs[k]?
    | none => none
  | _ => none
/-- e.x of a value -/
def fld (tb : List (Nat × Nat)) (f : DE) : DE := u1 (ofld tb) f
theorem inv_ob {S : Hp} {c : Nat} {fs : List D} {v : V} (h : Rep G S (.ob c fs) v) : ∃ a dx vs, v = .ref a ∧ S a = some (.ins (G.adr c) dx ((G.fld c).zip vs)) ∧ vs.length ≤ (G.fld c).length ∧ RepL G S fs vs := by unfold Rep at h; exact h
theorem lookup_mem {α : Type} : ∀ {tb : List (Nat × α)} {c : Nat} {k : α}, tb.lookup c = some k → (c, k) ∈ tb
  | [], _, _, h => by simp at h
  | (a, b) :: r, c, k, h => by
    rw [List.lookup_cons] at h
    split at h
    · rename_i e
      have e : c = a := by simpa using e
      cases h
      subst e
      exact List.mem_cons_self
    · exact List.mem_cons_of_mem _ (lookup_mem h)
theorem le_fld {tb : List (Nat × Nat)} (ht : ∀ q ∈ tb, FldOk G X.K q.1 q.2 x) (he : LE G X e f) (hb : attributeBase e x X.env (eval e X.env) = eval e X.env := by rfl) : LE G X (.Attribute e x pos) (fld tb f) := pe_weak (pe_fld he hb) fun s H Q ⟨g, S, d, y, d', z, e, q⟩ => by
  obtain ⟨w, e1, e2⟩ := u1_inv e
  refine ⟨g, S, d, w, d', z, e1, fun v H' S' sm z' r1 => ?_⟩
  cases w with
  | ob c fs =>
    unfold ofld at e2
    simp only at e2
    split at e2
    · rename_i k hk
      have T := ht (c, k) (lookup_mem hk)
      obtain ⟨a, dx, vs, rfl, h1, h2, h3⟩ := inv_ob r1
      obtain ⟨u, h4, h5⟩ := h3.get e2
      exact ⟨a, _, dx, _, u, rfl, z'.sh _ _ h1, T.cl, T.no, by rw [zip_lookup T.nd T.at_]; exact h4, q u H' S' sm z' h5⟩
    · cases e2
  | non => cases e2
  | bl _ => cases e2
  | int _ => cases e2
  | str _ => cases e2
  | tup _ => cases e2
  | lst _ => cases e2
  | fn _ => cases e2
  | scr _ => cases e2
/-- x.f of the object in slot i -/
def sld (i : Nat) (tb : List (Nat × Nat)) : DE := fun d => match d[i]? with
  | some (.ow y) => match ofld tb y with
    | some w => some (w, d)
    | none => none
  | some (.io y) => match ofld tb y with
    | some w => some (w, d)
    | none => none
  | _ => none
theorem le_sld (i : Nat) {tb : List (Nat × Nat)} {y : Str} (ht : ∀ q ∈ tb, FldOk G X.K q.1 q.2 x) (hN : X.N[i]? = some y := by rfl) (hv : Vis X.env.scope y := by first | exact Or.inl rfl | exact Or.inr (Or.inl rfl) | exact Or.inr (Or.inr rfl)) (hd : (y == ("__debug__" : Str)) = false := by decide) (hcd : (y == ("__classdict__" : Str)) = false := by decide)
    (hb : attributeBase (.Name y p) x X.env (eval (.Name y p) X.env) = eval (.Name y p) X.env := by rfl) : LE G X (.Attribute (.Name y p) x pos) (sld i tb) := pe_weak (pe_fld (pe_var hN hv hd hcd) hb) fun s H Q ⟨g, S, d, y, d', z, e, q⟩ => by
  have key : ∀ w w', d[i]? = some w → w.isO = true → (w = .ow w' ∨ w = .io w') → (match ofld tb w' with | some u => some (u, d) | none => none) = some (y, d') → tFld X.K (tVar i) x s H Q := fun w w' hw ho hww e => by
    obtain ⟨a, u, h1, _, h2, h3, _⟩ := z.isOwn hw ho
    have : u = w' := by rcases h2 with r | r <;> rcases hww with r' | r' <;> (rw [r] at r'; cases r'; try rfl)
    subst this
    split at e
    · rename_i v e2
      cases e
      cases u with
      | ob c fs =>
        unfold ofld at e2
        simp only at e2
        split at e2
        · rename_i k hk
          have T := ht (c, k) (lookup_mem hk)
          obtain ⟨dx, vs, h4, h5, h6⟩ := h3
          obtain ⟨v', h7, h8⟩ := h6.get e2
          exact ⟨_, h1, a, _, dx, _, v', rfl, h4, T.cl, T.no, by rw [zip_lookup T.nd T.at_]; exact h7, q v' H S (.refl _) z h8⟩
        · cases e2
      | non => cases e2
      | bl _ => cases e2
      | int _ => cases e2
      | str _ => cases e2
      | tup _ => cases e2
      | lst _ => cases e2
      | fn _ => cases e2
      | scr _ => cases e2
    · cases e
  unfold sld at e
  split at e
  · rename_i w hw; exact key _ _ hw rfl (.inl rfl) e
  · rename_i w hw; exact key _ _ hw rfl (.inr rfl) e
  · cases e

/-! ### the object in a slot is changed -/
def own (d : Ev) (i : Nat) : Option D := match d[i]? with
  | some (.ow y) => some y
  | some (.io y) => some y
  | _ => none
def put (d : Ev) (i : Nat) (y : D) : Ev := match d[i]? with
  | some (.ow _) => d.set i (.ow y)
  | some (.io _) => d.set i (.io y)
  | _ => d
theorem Zt.at_own {g : Gh} {S H : Hp} {s : St} {d : Ev} {i : Nat} {y : D} (z : Zt G g S s H d) (e : own d i = some y) : ∃ a, s[i]? = some (some (.ref a)) ∧ Cont G S H a y ∧ OwnAt d s i a ∧ S a = none ∧ g.B a = none := by
  unfold own at e
  split at e
  · rename_i w hw
    cases e
    obtain ⟨a, u, h1, h2, h3, h4, h5, h6⟩ := z.isOwn hw rfl
    rcases h3 with r | r
    · cases r; exact ⟨a, h1, h4, h2, h5, h6⟩
    · cases r
  · rename_i w hw
    cases e
    obtain ⟨a, u, h1, h2, h3, h4, h5, h6⟩ := z.isOwn hw rfl
    rcases h3 with r | r
    · cases r
    · cases r; exact ⟨a, h1, h4, h2, h5, h6⟩
  · cases e
theorem Zt.put {g : Gh} {S H : Hp} {s : St} {d : Ev} {i : Nat} {y y' : D} {a : Addr} {u : HO} (z : Zt G g S s H d) (e : own d i = some y) (ha : s[i]? = some (some (.ref a))) (c : Cont G S (upd H a u) a y') : Zt G g S s (upd H a u) (Zr.put d i y') := by
  obtain ⟨b, h1, h2, h3, h4, h5⟩ := z.at_own e
  rw [ha] at h1
  cases h1
  obtain ⟨o, hH, _⟩ := h2.has
  have hx : ∃ x x', d[i]? = some x ∧ Zr.put d i y' = d.set i x' ∧ x.isO = true ∧ ((x = .ow y ∧ x' = .ow y') ∨ (x = .io y ∧ x' = .io y')) := by
    unfold own at e
    unfold Zr.put
    split at e
    · rename_i w hw; cases e; exact ⟨_, _, hw, rfl, rfl, .inl ⟨rfl, rfl⟩⟩
    · rename_i w hw; cases e; exact ⟨_, _, hw, rfl, rfl, .inr ⟨rfl, rfl⟩⟩
    · cases e
  obtain ⟨x, x', hxi, ep, hxo, hk⟩ := hx
  rw [ep]
  have ho' : x'.isO = true := by rcases hk with ⟨_, rfl⟩ | ⟨_, rfl⟩ <;> rfl
  have back : ∀ {j b}, OwnAt (d.set i x') s j b → OwnAt d s j b := fun {j b} o' => by
    obtain ⟨w, o1, o2, o3⟩ := o'
    rcases getElem?_set_cases o1 with ⟨e1, e2, _⟩ | ⟨_, e2⟩
    · subst e1; exact ⟨x, hxi, hxo, o3⟩
    · exact ⟨w, e2, o2, o3⟩
  refine ⟨fun b o' q => ?_, fun b o' q => ?_, z.s0, z.s1, fun b q => ?_, by simpa using z.ln, fun j w q => ?_, fun j k b hn o1 o2 => z.ap j k b hn (back o1) (back o2), fun j b q => ?_⟩
  · rw [upd_ne fun w => by rw [w, h4] at q; cases q]; exact z.sh b o' q
  · rw [upd_ne fun w => by rw [w, h5] at q; cases q]; exact z.bh b o' q
  · have hne : b ≠ a := fun w => by rw [w, upd_same] at q; cases q
    rw [upd_ne hne] at q; exact z.dm b q
  · rcases getElem?_set_cases q with ⟨e1, e2, _⟩ | ⟨e1, e2⟩
    · subst e1
      obtain ⟨v, q1, q2⟩ := z.sl _ _ hxi
      rw [ha] at q1
      cases q1
      refine ⟨_, ha, ?_⟩
      rcases hk with ⟨rfl, rfl⟩ | ⟨rfl, rfl⟩
      · subst e2
        obtain ⟨b, e3, _, k1, k2, k3⟩ := q2
        cases e3
        exact ⟨a, rfl, c, k1, k2, k3⟩
      · subst e2
        obtain ⟨b, e3, k0, _, k1, k2, k3⟩ := q2
        cases e3
        exact ⟨a, rfl, k0, c, k1, k2, k3⟩
    · obtain ⟨v, q1, q2⟩ := z.sl j w e2
      refine ⟨v, q1, ?_⟩
      have ne : ∀ b, OwnAt d s j b → b ≠ a := fun b ob w => by subst w; exact z.ap j i b e1 ob h3
      cases w with
      | no => trivial
      | va _ => exact q2
      | ow w =>
        obtain ⟨b, rfl, k1, k2⟩ := q2
        exact ⟨b, rfl, k1.mono (.refl _) (upd_ne (ne b ⟨_, e2, rfl, q1⟩)), k2⟩
      | io w =>
        obtain ⟨b, rfl, k0, k1, k2⟩ := q2
        exact ⟨b, rfl, k0, k1.mono (.refl _) (upd_ne (ne b ⟨_, e2, rfl, q1⟩)), k2⟩
  · obtain ⟨w, h6⟩ := z.ic j b q
    by_cases hj : j = i
    · subst hj
      rw [hxi] at h6
      cases h6
      rcases hk with ⟨r, _⟩ | ⟨_, rfl⟩
      · cases r
      · exact ⟨y', set_get (List.getElem?_eq_some_iff.mp hxi).1⟩
    · exact ⟨w, by rw [List.getElem?_set_ne (Ne.symm hj)]; exact h6⟩
/-- self.x = e -/
def setF (k : Nat) (w : D) : D → Option D
  | .ob c fs => if k < fs.length then some (.ob c (fs.set k w)) else if k = fs.length then some (.ob c (fs ++ [w])) else none
  | _ => none
def isOb (c : Nat) : D → Bool
  | .ob c' _ => c == c'
  | _ => false
def sfl (i c k : Nat) (f : DE) : DS := fun d => match f d with
  | some (w, d1) => match Zr.own d1 i with
    | some y => if isOb c y then match setF k w y with
        | some y' => some (.nx, Zr.put d1 i y')
        | none => none
      else none
    | none => none
  | none => none
theorem ls_fld (i c k : Nat) {y : Str} {pos' : Pos} (T : FldOk G X.K c k x) (he : LE G X e f) (hN : X.N[i]? = some y := by rfl) (hv : Vis X.env.scope y := by first | exact Or.inl rfl | exact Or.inr (Or.inl rfl) | exact Or.inr (Or.inr rfl)) (hd : (y == ("__debug__" : Str)) = false := by decide) (hcd : (y == ("__classdict__" : Str)) = false := by decide)
    (hs : swapsWith e (some (.Attribute (.Name y p) x pos')) pos.line X.env = pure false := by rfl) : LS G X (.Assign [.Attribute (.Name y p) x pos'] e pos) (sfl i c k f) := ps_weak (ps_fld (pe_var hN hv hd hcd) he hs) fun D s H ⟨g, S, d, fl, d', z, e, q⟩ => by
  unfold sfl at e
  split at e
  · rename_i w d1 e1
    split at e
    · rename_i yy e2
      split at e
      · rename_i e3
        split at e
        · rename_i y' e4
          cases e
          refine ⟨g, S, d, w, d1, z, e1, fun v H' S' sm z' r => ?_⟩
          obtain ⟨a, h1, h2, _⟩ := z'.at_own e2
          cases yy with
          | ob c' fs =>
            have hc : c = c' := by simpa [isOb] using e3
            subst hc
            obtain ⟨dx, vs, h3, h4, h5⟩ := h2
            have hl := h5.length
            have kl : k < (G.fld c).length := (List.getElem?_eq_some_iff.mp T.at_).1
            refine ⟨_, h1, a, _, dx, _, rfl, h3, T.cl, T.no, ?_, ?_⟩
            · have := T.few; rw [List.length_zip]; omega
            · refine q s _ S' sm (z'.put e2 h1 ?_)
              unfold setF at e4
              simp only at e4
              split at e4
              · rename_i hk
                cases e4
                rw [putF_zip T.nd T.at_ (by omega), if_pos (by omega)]
                exact ⟨dx, _, upd_same, by simpa using h4, h5.set k r⟩
              · split at e4
                · rename_i hk
                  cases e4
                  rw [putF_zip T.nd T.at_ (by omega), if_neg (by omega)]
                  exact ⟨dx, _, upd_same, by simp; omega, h5.append (.cons r .nil)⟩
                · cases e4
          | non => cases e3
          | bl _ => cases e3
          | int _ => cases e3
          | str _ => cases e3
          | tup _ => cases e3
          | lst _ => cases e3
          | fn _ => cases e3
          | scr _ => cases e3
        · cases e
      · cases e
    · cases e
  · cases e

/-! ### a list in a slot -/
def asL : D → Option (List D)
  | .lst ds => some ds
  | _ => none
theorem cont_lst {S H : Hp} {a : Addr} {y : D} {ds : List D} (e : asL y = some ds) (c : Cont G S H a y) : ∃ vs, H a = some (.lst vs) ∧ RepL G S ds vs := by
  cases y with
  | lst _ => cases e; exact c
  | non => cases e
  | bl _ => cases e
  | int _ => cases e
  | str _ => cases e
  | tup _ => cases e
  | ob _ _ => cases e
  | fn _ => cases e
  | scr _ => cases e
def ownL (d : Ev) (i : Nat) : Option (List D) := (Zr.own d i).bind asL
theorem ownL_inv {d : Ev} {i : Nat} {ds : List D} (e : ownL d i = some ds) : ∃ y, Zr.own d i = some y ∧ asL y = some ds := Option.bind_eq_some_iff.mp e
/-- x.append(e) -/
def app (i : Nat) (f : DE) : DE := fun d => match ownL d i with
  | some _ => match f d with
    | some (w, d1) => match ownL d1 i with
      | some ds => if ds.length < sizeLine then some (.non, Zr.put d1 i (.lst (ds ++ [w]))) else none
      | none => none
    | none => none
  | none => none
theorem le_app (i : Nat) {y : Str} {apos : Pos} (hK : G.K = X.K) (he : LE G X e f) (hN : X.N[i]? = some y := by rfl) (hv : Vis X.env.scope y := by first | exact Or.inl rfl | exact Or.inr (Or.inl rfl) | exact Or.inr (Or.inr rfl)) (hd : (y == ("__debug__" : Str)) = false := by decide) (hcd : (y == ("__classdict__" : Str)) = false := by decide)
    (hbase : attributeBase (.Name y p) "append" X.env (eval (.Name y p) X.env) = eval (.Name y p) X.env := by rfl)
    (hfew : ((backTo pos (starEach [e] X.env)).all (fun x => !x.1) && (backToKw pos (keywordEach [] X.env)).all (fun x => x.1.isSome)
      && decide (([e] : List Expr).length + ([] : List Keyword).length + (if ([] : List Keyword).isEmpty then 0 else 1) < 30)) = true := by rfl)
    (hline : (apos.endLine == pos.line) = true := by rfl) (hs : starEach [e] X.env = (false, eval e X.env) :: starEach [] X.env := by rfl) (hplain : (backTo pos (starEach [] X.env)).any (·.1) = false := by rfl) :
    LE G X (.Call (.Attribute (.Name y p) "append" apos) [e] [] pos) (app i f) :=
  pe_weak (pe_bm PySem.F.plainAttrs_list PySem.F.slot_list_append PySem.F.type_list_append mt_append (pe_var hN hv hd hcd) (pa_cons he pa_nil hs) hbase hfew hline hs hplain) fun s H Q ⟨g, S, d, y, d', z, e, q⟩ => by
    unfold app at e
    split at e
    · rename_i ds0 e0
      obtain ⟨y0, e01, e02⟩ := ownL_inv e0
      obtain ⟨a, h1, h2, _⟩ := z.at_own e01
      obtain ⟨vs0, h3, _⟩ := cont_lst e02 h2
      split at e
      · rename_i w d1 e1
        split at e
        · rename_i ds e2
          split at e
          · rename_i hsz
            cases e
            refine ⟨_, h1, .inl ⟨rfl, _, SqL.of h3⟩, g, S, d, w, d1, z, e1, fun v H' S' sm z' r => ?_⟩
            obtain ⟨y1, e11, e12⟩ := ownL_inv e2
            obtain ⟨b, k1, k2, _⟩ := z'.at_own e11
            rw [h1] at k1; cases k1
            obtain ⟨vs, k3, k4⟩ := cont_lst e12 k2
            refine ⟨a, vs, v, rfl, rfl, k3, by rw [← k4.length]; exact hsz, ?_⟩
            exact q _ _ S' sm (z'.put e11 h1 ⟨_, upd_same, k4.append (.cons r .nil)⟩) rep_non
          · cases e
        · cases e
      · cases e
    · cases e
/-- x[j], x the list in slot i -/
def oix (i : Nat) (f : DE) : DE := fun d => match ownL d i with
  | some _ => match f d with
    | some (.int j, d1) => match ownL d1 i with
      | some ds => match atI ds j with
        | some w => some (w, d1)
        | none => none
      | none => none
    | _ => none
  | none => none
theorem RepL.atI {S : Hp} {ds : List D} {vs : List V} {j : Int} {w : D} (r : RepL G S ds vs) (e : L2.atI ds j = some w) : ∃ v, L2.atI vs j = some v ∧ Rep G S w v := by
  unfold L2.atI at e ⊢
  rw [← r.length]
  obtain ⟨k, e1, e2⟩ := Option.bind_eq_some_iff.mp e
  obtain ⟨v, h1, h2⟩ := r.get e2
  exact ⟨v, by rw [e1]; exact h1, h2⟩
theorem le_oix (i : Nat) {y : Str} (he : LE G X e f) (hs : PlainIx e) (hN : X.N[i]? = some y := by rfl) (hv : Vis X.env.scope y := by first | exact Or.inl rfl | exact Or.inr (Or.inl rfl) | exact Or.inr (Or.inr rfl)) (hd : (y == ("__debug__" : Str)) = false := by decide) (hcd : (y == ("__classdict__" : Str)) = false := by decide) :
    LE G X (.Subscript (.Name y p) e pos) (oix i f) := pe_weak (pe_ix ix_list (pe_var hN hv hd hcd) he hs) fun s H Q ⟨g, S, d, y, d', z, e, q⟩ => by
  unfold oix at e
  split at e
  · rename_i ds0 e0
    obtain ⟨y0, e01, _⟩ := ownL_inv e0
    obtain ⟨a, h1, _⟩ := z.at_own e01
    split at e
    · rename_i j d1 e1
      split at e
      · rename_i ds e2
        split at e
        · rename_i w e3
          cases e
          obtain ⟨y1, e11, e12⟩ := ownL_inv e2
          refine ⟨_, h1, g, S, d, _, d', z, e1, fun v H' S' sm z' r => ?_⟩
          obtain ⟨b, k1, k2, _⟩ := z'.at_own e11
          rw [h1] at k1; cases k1
          obtain ⟨vs, k3, k4⟩ := cont_lst e12 k2
          obtain ⟨u, k5, k6⟩ := k4.atI e3
          exact ⟨a, vs, j, u, rfl, inv_int r, SqL.of k3, k5, q u H' S' sm z' k6⟩
        · cases e
      · cases e
    · cases e
  · cases e
/-- len(x), x the list in slot i -/
def oln (i : Nat) : DE := fun d => match ownL d i with
  | some ds => some (.int ds.length, d)
  | none => none
theorem le_oln (i : Nat) {y : Str} {pp : Pos} (hK : G.K = X.K) (hg : Gl X "len") (hm : X.mg "len" = none) (hN : X.N[i]? = some y := by rfl) (hv : Vis X.env.scope y := by first | exact Or.inl rfl | exact Or.inr (Or.inl rfl) | exact Or.inr (Or.inr rfl)) (hd : (y == ("__debug__" : Str)) = false := by decide) (hcd : (y == ("__classdict__" : Str)) = false := by decide)
    (hs : starEach [.Name y p] X.env = (false, eval (.Name y p) X.env) :: starEach [] X.env := by rfl) (hpl : (backTo pos (starEach [] X.env)).any (·.1) = false := by rfl) :
    LE G X (.Call (.Name "len" pp) [.Name y p] [] pos) (oln i) := pe_weak (pe_callB call_len_seq hg hm PySem.boot_len (pa_cons (pe_var hN hv hd hcd) pa_nil hs) (by decide) (by decide) hs hpl) fun s H Q ⟨g, S, d, y, d', z, e, q⟩ => by
  unfold oln at e
  split at e
  · rename_i ds e1
    cases e
    obtain ⟨y1, e11, e12⟩ := ownL_inv e1
    obtain ⟨a, h1, h2, _⟩ := z.at_own e11
    obtain ⟨vs, k3, k4⟩ := cont_lst e12 h2
    refine ⟨_, h1, a, vs, rfl, .inl (SqL.of k3), ?_⟩
    rw [← k4.length]
    exact q _ H S (.refl _) z rep_int
  · cases e
/-- x[j] = .., x the list in slot i -/
def gst (i : Nat) (f : DE) : DG := fun w d => match ownL d i with
  | some _ => match f d with
    | some (.int j, d1) => match ownL d1 i with
      | some ds => match ixN ds.length j with
        | some k => some (Zr.put d1 i (.lst (ds.set k w)))
        | none => none
      | none => none
    | _ => none
  | none => none
theorem lg_set (i : Nat) {y : Str} (he : LE G X e f) (hN : X.N[i]? = some y := by rfl) (hv : Vis X.env.scope y := by first | exact Or.inl rfl | exact Or.inr (Or.inl rfl) | exact Or.inr (Or.inr rfl)) (hd : (y == ("__debug__" : Str)) = false := by decide) (hcd : (y == ("__classdict__" : Str)) = false := by decide)
    (ha : ∀ v, assign (.Subscript (.Name y p) e pos) X.env v = (do
      let ov ← holding [v] (eval (.Name y p) X.env)
      let iv ← holding [v, ov] (eval e X.env)
      standAt pos
      holding [v, ov, iv] (setItem ov iv v)
      release [v, ov, iv] []) := by intro _; rfl) : LG G X (.Subscript (.Name y p) e pos) (gst i f) [] := pg_weak (pg_sub (pe_var hN hv hd hcd) he set_list ha) fun v s H Q ⟨g, S, d, w, d', z, r, e, q⟩ => by
  unfold gst at e
  split at e
  · rename_i ds0 e0
    obtain ⟨y0, e01, _⟩ := ownL_inv e0
    obtain ⟨a, h1, _⟩ := z.at_own e01
    split at e
    · rename_i j d1 e1
      split at e
      · rename_i ds e2
        split at e
        · rename_i k e3
          cases e
          obtain ⟨y1, e11, e12⟩ := ownL_inv e2
          refine ⟨_, h1, g, S, d, _, d1, z, e1, fun u H' S' sm z' ru => ?_⟩
          obtain ⟨b, k1, k2, _⟩ := z'.at_own e11
          rw [h1] at k1; cases k1
          obtain ⟨vs, k3, k4⟩ := cont_lst e12 k2
          refine ⟨a, vs, j, k, rfl, inv_int ru, k3, by rw [← k4.length]; exact e3, ?_⟩
          exact q s _ S' sm .refl (z'.put e11 h1 ⟨_, upd_same, k4.set k (r.mono sm)⟩)
        · cases e
      · cases e
    · cases e
  · cases e
theorem get_listV {X : Cx} : PGet X (rIxL X.K) := by
  intro pins s σ H x y v u Q I rx ry h
  obtain ⟨p, xs, i, z, rfl, rfl, hq, he, q⟩ := h
  cases rx
  obtain ⟨t, rfl⟩ := ry
  obtain ⟨its, r, pl, hz⟩ := I.list hq
  obtain ⟨j, h1, h2, h3, h4, h5⟩ := atI_get he
  obtain ⟨w, ew, rw'⟩ := r.get h2
  have hl := r.length
  have hn := line63
  have fin : EP X pins σ Q w s := ⟨z, H, I, rw', q⟩
  by_cases h0 : 0 ≤ i
  · have hj : i.toNat = j := by
      rw [seqIndex_of h0 h5] at h1
      exact Option.some.inj h1
    exact wpAny_getItem_list pl.isList h0 (by omega) (by rw [hj]; simpa using ew) fin
  · have hj : (i + (its.toArray.size : Int)).toNat = j := by
      rw [seqIndex_neg (by omega) h4] at h1
      rw [List.size_toArray, ← hl]
      exact Option.some.inj h1
    exact wpAny_getItem_list_neg pl.isList (by omega) (by rw [List.size_toArray] <;> omega) (by omega) (by rw [hj]; simpa using ew) fin
/-- x[j] op= e of ints, x the list in slot i -/
def sau (i : Nat) (op : Int → Int → Int) (f h : DE) : DS := fun d => match ownL d i with
  | some _ => match f d with
    | some (.int j, d1) => match ownL d1 i with
      | some ds => match atI ds j with
        | some (.int a) => match h d1 with
          | some (.int b, d2) => match ownL d2 i with
            | some ds2 => match ixN ds2.length j with
              | some k => some (.nx, Zr.put d2 i (.lst (ds2.set k (.int (op a b)))))
              | none => none
            | none => none
          | _ => none
        | _ => none
      | none => none
    | _ => none
  | none => none
theorem ls_auS (i : Nat) {y : Str} {tpos : Pos} {op : Operator} {oi : Int → Int → Int} (hp : PIp X op (ipI oi)) (he : LE G X e f) (hh : LE G X a h) (hN : X.N[i]? = some y := by rfl) (hv : Vis X.env.scope y := by first | exact Or.inl rfl | exact Or.inr (Or.inl rfl) | exact Or.inr (Or.inr rfl)) (hd : (y == ("__debug__" : Str)) = false := by decide) (hcd : (y == ("__classdict__" : Str)) = false := by decide)
    (ha : ∀ ov iv new, augStore e ov iv new = (do holding [new, ov, iv] (setItem ov iv new); release [new, ov, iv] []; pure .next) := by intros; rfl) : LS G X (.AugAssign (.Subscript (.Name y p) e tpos) op a pos) (sau i oi f h) :=
  ps_weak (ps_augS (pe_var hN hv hd hcd) he get_listV hh hp set_list ha) fun D s H ⟨g, S, d, fl, d', z, e, q⟩ => by
  unfold sau at e
  split at e
  · rename_i ds0 e0
    obtain ⟨y0, e01, _⟩ := ownL_inv e0
    obtain ⟨l, h1, _⟩ := z.at_own e01
    split at e
    · rename_i j d1 e1
      split at e
      · rename_i ds e2
        split at e
        · rename_i x1 e3
          split at e
          · rename_i x2 d2 e4
            split at e
            · rename_i ds2 e5
              split at e
              · rename_i k e6
                cases e
                refine ⟨_, h1, g, S, d, _, d1, z, e1, fun u H1 S1 sm1 z1 ru => ?_⟩
                obtain ⟨y1, e11, e12⟩ := ownL_inv e2
                obtain ⟨b, k1, k2, _⟩ := z1.at_own e11
                rw [h1] at k1; cases k1
                obtain ⟨vs, k3, k4⟩ := cont_lst e12 k2
                obtain ⟨w, k5, k6⟩ := k4.atI e3
                refine ⟨l, vs, j, w, rfl, inv_int ru, SqL.of k3, k5, g, S1, d1, _, d2, z1, e4, fun u2 H2 S2 sm2 z2 ru2 => ?_⟩
                obtain ⟨y2, e21, e22⟩ := ownL_inv e5
                obtain ⟨b2, m1, m2, _⟩ := z2.at_own e21
                rw [h1] at m1; cases m1
                obtain ⟨vs2, m3, m4⟩ := cont_lst e22 m2
                refine ⟨x1, x2, inv_int k6, inv_int ru2, l, vs2, j, k, rfl, inv_int ru, m3, by rw [← m4.length]; exact e6, ?_⟩
                exact q s _ S2 (sm1.trans sm2) (z2.put e21 h1 ⟨_, upd_same, m4.set k rep_int⟩)
              · cases e
            · cases e
          · cases e
        · cases e
      · cases e
    · cases e
  · cases e
/-- x op= e of ints -/
def sag (i : Nat) (op : Int → Int → Option Int) (f : DE) : DS := fun d => match d[i]? with
  | some (.va (.int a)) => match f d with
    | some (.int b, d1) => match op a b with
      | some c => if notIo d1 i then some (.nx, d1.set i (.va (.int c))) else none
      | none => none
    | _ => none
  | _ => none
/-- an in-place operator on ints, where it is defined -/
def PIpD (X : Cx) (op : Operator) (oi : Int → Int → Option Int) : Prop := PIp X op (fun x y H Q => ∃ i j k, x = .int i ∧ y = .int j ∧ oi i j = some k ∧ Q (.int k) H)
theorem ls_aug (i : Nat) {y : Str} {pos' : Pos} {op : Operator} {oi : Int → Int → Option Int} (hN : X.N.Nodup) (ho : PIpD X op oi) (he : LE G X e f) (hi : X.N[i]? = some y) (hx : Loc X.env.scope y) (hf : X.fn y = true ∨ X.env.scope.names.lookup y = some .local := by first | exact .inl rfl | exact .inr rfl | assumption) :
    LS G X (.AugAssign (.Name y pos') op e pos) (sag i oi f) := ps_weak (ps_aug hN hi hx he ho hf) fun D s H ⟨g, S, d, fl, d', z, e, q⟩ => by
  unfold sag at e
  split at e
  · rename_i a e1
    split at e
    · rename_i b d1 e2
      split at e
      · rename_i c e3
        split at e
        · rename_i e4
          cases e
          obtain ⟨w, h1, v, rfl, r⟩ := z.sl i _ e1
          cases inv_int r
          refine ⟨_, h1, g, S, d, _, d1, z, e2, fun u H' S' sm z' ru => ?_⟩
          exact ⟨a, b, c, rfl, inv_int ru, e3, q _ H' S' sm (z'.setVa e4 rep_int)⟩
        · cases e
      · cases e
    · cases e
  · cases e
end
end Zr

/-! Zr: operators and built-ins over data. -/
namespace Zr
open PySem L2

/-! ### ints -/
def ii (k : Int → Int → Option Int) : D → D → Option D
  | .int a, .int b => match k a b with
    | some c => some (.int c)
    | none => none
  | _, _ => none
def ib (k : Int → Int → Bool) : D → D → Option D
  | .int a, .int b => some (.bl (k a b))
  | _, _ => none
def iMul (a b : Int) : Option Int := if a.natAbs.log2 + b.natAbs.log2 < 1000000 then some (a * b) else none
def iDiv (a b : Int) : Option Int := if b ≠ 0 ∧ b.natAbs.log2 < 9000 then some (a.fdiv b) else none
def iMod (a b : Int) : Option Int := if b ≠ 0 then some (a.fmod b) else none
def iPow (a b : Int) : Option Int := if 0 ≤ b ∧ b ≤ 1000000 ∧ a.natAbs < 2 ^ 64 then some (a ^ b.toNat) else none
section
variable {G : Cls} {X : Cx} {S H : Hp} {d : D} {ds : List D} {v w : V}
theorem ii_inv {k : Int → Int → Option Int} {x y z : D} (e : ii k x y = some z) : ∃ a b c, x = .int a ∧ y = .int b ∧ z = .int c ∧ k a b = some c := by
  unfold ii at e
  split at e
  · rename_i a b
    split at e
    · rename_i c e1; cases e; exact ⟨a, b, c, rfl, rfl, rfl, e1⟩
    · cases e
  · cases e
theorem ib_inv {k : Int → Int → Bool} {x y z : D} (e : ib k x y = some z) : ∃ a b, x = .int a ∧ y = .int b ∧ z = .bl (k a b) := by
  unfold ib at e
  split at e
  · rename_i a b; cases e; exact ⟨a, b, rfl, rfl, rfl⟩
  · cases e
theorem r_ii {C : Int → Int → Prop} {g : Int → Int → Int} {k : Int → Int → Option Int} (h : ∀ a b c, k a b = some c → C a b ∧ c = g a b) : R2D G (ii k) (rI C fun i j => .int (g i j)) := fun S H x y z v w Q sm rx ry e q => by
  obtain ⟨a, b, c, rfl, rfl, rfl, e1⟩ := ii_inv e
  obtain ⟨h1, rfl⟩ := h a b c e1
  exact ⟨a, b, inv_int rx, inv_int ry, h1, q _ S H (.refl sm) rep_int⟩
theorem r_ib {k : Int → Int → Bool} : R2D G (ib k) (rI0 fun i j => .bl (k i j)) := fun S H x y z v w Q sm rx ry e q => by
  obtain ⟨a, b, rfl, rfl, rfl⟩ := ib_inv e
  exact ⟨a, b, inv_int rx, inv_int ry, q _ S H (.refl sm) rep_bl⟩
theorem r_sub : R2D G (ii fun a b => some (a - b)) (rI0 fun i j => .int (i - j)) := fun S H x y z v w Q sm rx ry e q => by
  obtain ⟨a, b, c, rfl, rfl, rfl, e1⟩ := ii_inv e
  cases e1
  exact ⟨a, b, inv_int rx, inv_int ry, q _ S H (.refl sm) rep_int⟩
theorem r_mul : R2D G (ii iMul) (rI CMulW fun i j => .int (i * j)) := r_ii fun a b c e => by
  unfold iMul at e
  split at e
  · rename_i h; cases e; exact ⟨h, rfl⟩
  · cases e
def CDivA (_ j : Int) : Prop := j ≠ 0 ∧ j.natAbs.log2 < 9000
theorem op_fdivA : OpR X (binaryOp .FloorDiv) (rI CDivA fun i j => .int (i.fdiv j)) := opI fun i j _ _ _ _ _ hc q => PyProof.Rows.floordiv_int hc.1 q (.inl (PyProof.noPylong_of_log2 hc.2))
theorem r_div : R2D G (ii iDiv) (rI CDivA fun i j => .int (i.fdiv j)) := r_ii fun a b c e => by
  unfold iDiv at e
  split at e
  · rename_i h; cases e; exact ⟨h, rfl⟩
  · cases e
theorem r_mod : R2D G (ii iMod) (rI (fun _ j => j ≠ 0) fun i j => .int (i.fmod j)) := r_ii fun a b c e => by
  unfold iMod at e
  split at e
  · rename_i h; cases e; exact ⟨h, rfl⟩
  · cases e
theorem r_pow : R2D G (ii iPow) (rI CPow fun i j => .int (i ^ j.toNat)) := r_ii fun a b c e => by
  unfold iPow at e
  split at e
  · rename_i h; cases e; exact ⟨h, rfl⟩
  · cases e
def iNeg : D → Option D
  | .int a => some (.int (-a))
  | _ => none
theorem r_neg : R1D G iNeg (rU fun i => .int (-i)) := fun S H x z v Q sm rx e q => by
  unfold iNeg at e
  split at e
  · cases e; exact ⟨_, inv_int rx, q _ S H (.refl sm) rep_int⟩
  · cases e
theorem pip_of {op : Operator} {C : Int → Int → Prop} {g : Int → Int → Int} {k : Int → Int → Option Int} (ho : OpR X (inplaceOp op) (rI C fun i j => .int (g i j))) (h : ∀ a b c, k a b = some c → C a b ∧ c = g a b) : PIpD X op k := by
  intro pins s σ H x y v u Q I r1 r2 hh
  obtain ⟨i, j, c, rfl, rfl, e, q⟩ := hh
  obtain ⟨h1, rfl⟩ := h i j c e
  exact ho pins s σ H _ _ v u Q I r1 r2 ⟨i, j, rfl, rfl, h1, q⟩
theorem pip_add : PIpD X .Add (fun a b => some (a + b)) := by
  intro pins s σ H x y v u Q I r1 r2 hh
  obtain ⟨i, j, c, rfl, rfl, e, q⟩ := hh
  cases e
  exact iop_add pins s σ H _ _ v u Q I r1 r2 ⟨i, j, rfl, rfl, q⟩
theorem pip_sub : PIpD X .Sub (fun a b => some (a - b)) := by
  intro pins s σ H x y v u Q I r1 r2 hh
  obtain ⟨i, j, c, rfl, rfl, e, q⟩ := hh
  cases e
  exact iop_sub pins s σ H _ _ v u Q I r1 r2 ⟨i, j, rfl, rfl, q⟩
theorem iop_mulW : OpR X (inplaceOp .Mult) (rI CMulW fun i j => .int (i * j)) := opI fun _ _ _ _ _ _ _ hc q => PyProof.Rows.imul_int q hc.ok
theorem pip_mul : PIpD X .Mult iMul := pip_of iop_mulW fun a b c e => by
  unfold iMul at e
  split at e
  · rename_i h; cases e; exact ⟨h, rfl⟩
  · cases e

/-! ### + -/
def addD : D → D → Option D
  | .int a, .int b => some (.int (a + b))
  | .str a, .str b => if a.length + b.length ≤ sizeLine then some (.str (a ++ b)) else none
  | .tup a, .tup b => if a.length + b.length ≤ sizeLine then some (.tup (a ++ b)) else none
  | .lst a, .lst b => if a.length + b.length ≤ sizeLine then some (.lst (a ++ b)) else none
  | _, _ => none
def rAdd (K : PySem.W.Frag) : R2 := fun x y H Q => (rI0 (fun i j => .int (i + j)) x y H Q ∨ (∃ i j, x = .str i ∧ y = .str j ∧ i.length + j.length ≤ sizeLine ∧ Q (.str (i ++ j)) H)) ∨ (rCatA K x y H Q ∨ rCat x y H Q)
theorem op_addD : OpR X (binaryOp .Add) (rAdd X.K) := OpR.or (OpR.or op_add op_add_str) (OpR.or op_catA op_cat)
theorem rep_tup_new {p : Addr} {vs : List V} (h : S p = some (.tup vs)) (r : RepL G S ds vs) : Rep G S (.tup ds) (.ref p) := by unfold Rep; exact ⟨p, vs, rfl, SqT.of h, r⟩
theorem rep_lst_new {p : Addr} {vs : List V} (h : S p = some (.lst vs)) (r : RepL G S ds vs) : Rep G S (.lst ds) (.ref p) := by unfold Rep; exact ⟨p, vs, rfl, h, r⟩
theorem r_add (hK : G.K = X.K) : R2D G addD (rAdd X.K) := fun S H x y z v w Q sm rx ry e q => by
  unfold addD at e
  split at e
  · cases e; exact .inl (.inl ⟨_, _, inv_int rx, inv_int ry, q _ S H (.refl sm) rep_int⟩)
  · split at e
    · rename_i h; cases e; exact .inl (.inr ⟨_, _, inv_str rx, inv_str ry, h, q _ S H (.refl sm) rep_str⟩)
    · cases e
  · rename_i ds es
    split at e
    · rename_i h
      cases e
      obtain ⟨a, vs, rfl, h1, r1⟩ := inv_tup rx
      obtain ⟨b, us, rfl, h2, r2⟩ := inv_tup ry
      have l1 := r1.length
      have l2 := r2.length
      rw [hK] at h1 h2
      refine .inr (.inl ⟨a, b, vs, us, rfl, rfl, same_seqT sm h1, same_seqT sm h2, by omega, fun e0 => ?_, fun _ e0 => ?_, fun _ _ p hp => ?_⟩)
      · subst e0
        have : ds = [] := List.length_eq_zero_iff.mp l1
        subst this
        exact q _ S H (.refl sm) ry
      · subst e0
        have : es = [] := List.length_eq_zero_iff.mp l2
        subst this
        rw [List.append_nil] at q
        exact q _ S H (.refl sm) rx
      · have ex := Ext.alloc (o := .tup (vs ++ us)) sm hp
        exact q _ _ _ ex (rep_tup_new upd_same ((r1.append r2).mono ex.s))
    · cases e
  · rename_i ds es
    split at e
    · rename_i h
      cases e
      obtain ⟨a, vs, rfl, h1, r1⟩ := inv_lst rx
      obtain ⟨b, us, rfl, h2, r2⟩ := inv_lst ry
      have l1 := r1.length
      have l2 := r2.length
      refine .inr (.inr ⟨a, b, vs, us, rfl, rfl, sm _ _ h1, sm _ _ h2, by omega, fun p hp => ?_⟩)
      have ex := Ext.alloc (o := .lst (vs ++ us)) sm hp
      exact q _ _ _ ex (rep_lst_new upd_same ((r1.append r2).mono ex.s))
    · cases e
  · cases e
/-- * of ints, of a short tuple and a number -/
def repT (ds : List D) (k : Int) : Option D := if ds.length = 1 ∧ 2 ≤ k ∧ k ≤ 1000 then some (.tup (List.replicate k.toNat ds).flatten) else none
def mulD : D → D → Option D
  | .int a, .int b => match iMul a b with
    | some c => some (.int c)
    | none => none
  | .tup a, .int b => repT a b
  | _, _ => none
def rMulA (K : PySem.W.Frag) : R2 := fun x y H Q => rI CMulW (fun i j => .int (i * j)) x y H Q ∨ rRepT K x y H Q
theorem op_mulD : OpR X (binaryOp .Mult) (rMulA X.K) := OpR.or op_mulW op_repT
theorem RepL.repl : ∀ {ds : List D} {vs : List V} (n : Nat), RepL G S ds vs → RepL G S (List.replicate n ds).flatten (List.replicate n vs).flatten
  | _, _, 0, _ => by simp; exact .nil
  | _, _, n + 1, h => by simp only [List.replicate_succ, List.flatten_cons]; exact h.append (RepL.repl n h)
theorem r_mulD (hK : G.K = X.K) : R2D G mulD (rMulA X.K) := fun S H x y z v w Q sm rx ry e q => by
  unfold mulD at e
  split at e
  · rename_i a b
    exact .inl (r_mul S H _ _ z v w Q sm rx ry e q)
  · rename_i ds b
    unfold repT at e
    split at e
    · rename_i h
      cases e
      obtain ⟨a, vs, rfl, h1, r1⟩ := inv_tup rx
      rw [hK] at h1
      have l1 := r1.length
      refine .inr ⟨a, b, vs, rfl, inv_int ry, same_seqT sm h1, (fun e0 => by subst e0; rw [h.1] at l1; cases l1), h.2.1, h.2.2, by omega, fun p hp => ?_⟩
      have ex := Ext.alloc (o := .tup (List.replicate b.toNat vs).flatten) sm hp
      exact q _ _ _ ex (rep_tup_new upd_same ((r1.repl _).mono ex.s))
    · cases e
  · cases e

/-! ### == of plain data -/
mutual
def py : D → Option PyData
  | .non => some .none
  | .bl b => some (.bool b)
  | .int i => some (.int i)
  | .str x => some (.str x)
  | .tup ds => match pyL ds with
    | some t => some (.tuple t)
    | none => none
  | .lst ds => match pyL ds with
    | some t => some (.list t)
    | none => none
  | .scr ns => some (.list (ns.map PyData.int))
  | .ob _ _ => none
  | .fn _ => none
def pyL : List D → Option (List PyData)
  | [] => some []
  | d :: ds => match py d with
    | some x => match pyL ds with
      | some xs => some (x :: xs)
      | none => none
    | none => none
end
theorem dpAll_ints {K : PySem.W.Frag} : ∀ ns : List Int, DpAll K H (ns.map V.int) (ns.map PyData.int)
  | [] => .nil
  | n :: r => .cons (.int n) (dpAll_ints r)
mutual
theorem py_dp (hK : G.K = X.K) (sm : Same S H) : ∀ {d : D} {v : V} {p : PyData}, Rep G S d v → py d = some p → Dp X.K H v p
  | .non, _, _, r, e => by cases e; rw [inv_non r]; exact .non
  | .bl _, _, _, r, e => by cases e; rw [inv_bl r]; exact .bl _
  | .int _, _, _, r, e => by cases e; rw [inv_int r]; exact .int _
  | .str _, _, _, r, e => by cases e; rw [inv_str r]; exact .str _
  | .tup ds, _, _, r, e => by
    unfold py at e
    split at e
    · rename_i t e1
      cases e
      obtain ⟨a, vs, rfl, h1, r1⟩ := inv_tup r
      rw [hK] at h1
      exact .tup (same_seqT sm h1) (py_dpL hK sm r1 e1)
    · cases e
  | .lst ds, _, _, r, e => by
    unfold py at e
    split at e
    · rename_i t e1
      cases e
      obtain ⟨a, vs, rfl, h1, r1⟩ := inv_lst r
      exact .lst (SqL.of (sm _ _ h1)) (py_dpL hK sm r1 e1)
    · cases e
  | .scr ns, _, _, r, e => by
    cases e
    obtain ⟨a, rfl, h1⟩ := inv_scr r
    rw [hK] at h1
    exact .lst (sm.seq h1) (dpAll_ints ns)
  | .ob _ _, _, _, _, e => by simp [py] at e
  | .fn _, _, _, _, e => by simp [py] at e
theorem py_dpL (hK : G.K = X.K) (sm : Same S H) : ∀ {ds : List D} {vs : List V} {p : List PyData}, RepL G S ds vs → pyL ds = some p → DpAll X.K H vs p
  | [], _, _, r, e => by cases e; unfold RepL at r; subst r; exact .nil
  | d :: ds, _, _, r, e => by
    unfold RepL at r
    obtain ⟨v, vr, rfl, r1, r2⟩ := r
    unfold pyL at e
    split at e
    · rename_i x e1
      split at e
      · rename_i xs e2
        cases e
        exact .cons (py_dp hK sm r1 e1) (py_dpL hK sm r2 e2)
      · cases e
    · cases e
end
def eqP (x y : D) : Option Bool := match py x, py y with
  | some a, some b => if SeqAt.shaped a && SeqAt.shaped b then some (PyData.eqv a b) else none
  | _, _ => none
def eqD (x y : D) : Option D := match eqP x y with
  | some b => some (.bl b)
  | none => none
def neD (x y : D) : Option D := match eqP x y with
  | some b => some (.bl !b)
  | none => none
theorem eqP_inv (hK : G.K = X.K) (sm : Same S H) {x y : D} {b : Bool} (rx : Rep G S x v) (ry : Rep G S y w) (e : eqP x y = some b) : ∃ d e, Dp X.K H v d ∧ Dp X.K H w e ∧ SeqAt.shaped d = true ∧ SeqAt.shaped e = true ∧ b = PyData.eqv d e := by
  unfold eqP at e
  split at e
  · rename_i p q e1 e2
    split at e
    · rename_i h
      rw [Bool.and_eq_true] at h
      cases e
      exact ⟨p, q, py_dp hK sm rx e1, py_dp hK sm ry e2, h.1, h.2, rfl⟩
    · cases e
  · cases e
theorem r_eq (hK : G.K = X.K) : R2D G eqD (rEqD X.K) := fun S H x y z v w Q sm rx ry e q => by
  unfold eqD at e
  split at e
  · rename_i b e1
    cases e
    obtain ⟨p, p', h1, h2, h3, h4, rfl⟩ := eqP_inv hK sm rx ry e1
    exact ⟨p, p', h1, h2, h3, h4, q _ S H (.refl sm) rep_bl⟩
  · cases e
theorem r_ne (hK : G.K = X.K) : R2D G neD (rNeD X.K) := fun S H x y z v w Q sm rx ry e q => by
  unfold neD at e
  split at e
  · rename_i b e1
    cases e
    obtain ⟨p, p', h1, h2, h3, h4, rfl⟩ := eqP_inv hK sm rx ry e1
    exact ⟨p, p', h1, h2, h3, h4, q _ S H (.refl sm) rep_bl⟩
  · cases e
def isNonD : D → Bool
  | .non => true
  | _ => false
/-- is None, is True .. -/
def isN : D → D → Option D
  | x, .non => some (.bl (isNonD x))
  | .bl a, .bl b => some (.bl (a == b))
  | _, _ => none
def noN : D → D → Option D
  | x, .non => some (.bl (!isNonD x))
  | .bl a, .bl b => some (.bl (!(a == b)))
  | _, _ => none
theorem rep_isNon {x : D} (r : Rep G S x v) : decide (v = .non) = isNonD x := by
  cases x with
  | non => rw [inv_non r]; rfl
  | bl _ => rw [inv_bl r]; rfl
  | int _ => rw [inv_int r]; rfl
  | str _ => rw [inv_str r]; rfl
  | tup _ => obtain ⟨a, vs, rfl, _⟩ := inv_tup r; rfl
  | lst _ => obtain ⟨a, vs, rfl, _⟩ := inv_lst r; rfl
  | scr _ => obtain ⟨a, rfl, _⟩ := inv_scr r; rfl
  | ob _ _ => obtain ⟨a, _, vs, rfl, _⟩ := inv_ob r; rfl
  | fn _ => unfold Rep at r; subst r; rfl
def rIsA : R2 := fun x y H Q => (y = .non ∧ Q (.bl (decide (x = .non))) H) ∨ rIsB x y H Q
def rNotA : R2 := fun x y H Q => (y = .non ∧ Q (.bl (!decide (x = .non))) H) ∨ rNotB x y H Q
theorem op_isA : OpR X (compareOp .Is) rIsA := OpR.or op_isN op_isBl
theorem op_notA : OpR X (compareOp .IsNot) rNotA := OpR.or op_notN op_notBl
theorem r_is : R2D G isN rIsA := fun S H x y z v w Q sm rx ry e q => by
  unfold isN at e
  split at e
  · cases e
    refine .inl ⟨inv_non ry, ?_⟩
    rw [rep_isNon rx]
    exact q _ S H (.refl sm) rep_bl
  · rename_i a b
    cases e
    refine .inr ⟨a, b, inv_bl rx, inv_bl ry, ?_⟩
    rw [← Bool.beq_eq_decide_eq]
    exact q _ S H (.refl sm) rep_bl
  · cases e
theorem r_no : R2D G noN rNotA := fun S H x y z v w Q sm rx ry e q => by
  unfold noN at e
  split at e
  · cases e
    refine .inl ⟨inv_non ry, ?_⟩
    rw [rep_isNon rx]
    exact q _ S H (.refl sm) rep_bl
  · rename_i a b
    cases e
    refine .inr ⟨a, b, inv_bl rx, inv_bl ry, ?_⟩
    rw [← Bool.beq_eq_decide_eq]
    exact q _ S H (.refl sm) rep_bl
  · cases e

/-! ### in -/
def flat : D → Option V
  | .non => some .non
  | .bl b => some (.bl b)
  | .int i => some (.int i)
  | .str x => some (.str x)
  | _ => none
def flatL : List D → Option (List V)
  | [] => some []
  | d :: ds => match flat d with
    | some x => match flatL ds with
      | some xs => some (x :: xs)
      | none => none
    | none => none
theorem flat_rep {x : D} {u : V} (r : Rep G S x v) (e : flat x = some u) : v = u ∧ flatV v = true := by
  cases x with
  | non => cases e; exact ⟨inv_non r, by rw [inv_non r]; rfl⟩
  | bl _ => cases e; exact ⟨inv_bl r, by rw [inv_bl r]; rfl⟩
  | int _ => cases e; exact ⟨inv_int r, by rw [inv_int r]; rfl⟩
  | str _ => cases e; exact ⟨inv_str r, by rw [inv_str r]; rfl⟩
  | tup _ => cases e
  | lst _ => cases e
  | scr _ => cases e
  | ob _ _ => cases e
  | fn _ => cases e
theorem flatL_rep : ∀ {ds : List D} {vs us : List V}, RepL G S ds vs → flatL ds = some us → vs = us ∧ vs.all flatV = true
  | [], _, _, r, e => by cases e; unfold RepL at r; subst r; exact ⟨rfl, rfl⟩
  | d :: ds, _, _, r, e => by
    unfold RepL at r
    obtain ⟨v, vr, rfl, r1, r2⟩ := r
    unfold flatL at e
    split at e
    · rename_i x e1
      split at e
      · rename_i xs e2
        cases e
        obtain ⟨h1, h2⟩ := flat_rep r1 e1
        obtain ⟨h3, h4⟩ := flatL_rep r2 e2
        exact ⟨by rw [h1, h3], by rw [List.all_cons, h2, h4]; rfl⟩
      · cases e
    · cases e
/-- the members, where all is flat -/
def inB (x : D) (ds : List D) : Option Bool := match flat x, flatL ds with
  | some u, some us => some (inV u us)
  | _, _ => none
def inD : D → D → Option D
  | x, .tup ds => match inB x ds with
    | some b => some (.bl b)
    | none => none
  | x, .lst ds => match inB x ds with
    | some b => some (.bl b)
    | none => none
  | .str a, .str b => some (.bl (!(Builtin.Str.occurrences b a 0 b.length 1).isEmpty))
  | _, _ => none
def niD : D → D → Option D
  | x, .tup ds => match inB x ds with
    | some b => some (.bl !b)
    | none => none
  | x, .lst ds => match inB x ds with
    | some b => some (.bl !b)
    | none => none
  | .str a, .str b => some (.bl (!(!(Builtin.Str.occurrences b a 0 b.length 1).isEmpty)))
  | _, _ => none
theorem inB_rep {x : D} {ds : List D} {vs : List V} {b : Bool} (r : Rep G S x v) (rs : RepL G S ds vs) (e : inB x ds = some b) : flatV v = true ∧ vs.all flatV = true ∧ b = inV v vs := by
  unfold inB at e
  split at e
  · rename_i u us e1 e2
    cases e
    obtain ⟨h1, h2⟩ := flat_rep r e1
    obtain ⟨h3, h4⟩ := flatL_rep rs e2
    exact ⟨h2, h4, by rw [h1, h3]⟩
  · cases e
def rInA (K : PySem.W.Frag) : R2 := fun x y H Q => rIn K false x y H Q ∨ ∃ i j, x = .str i ∧ y = .str j ∧ Q (.bl (!(Builtin.Str.occurrences j i 0 j.length 1).isEmpty)) H
def rNiA (K : PySem.W.Frag) : R2 := fun x y H Q => rIn K true x y H Q ∨ ∃ i j, x = .str i ∧ y = .str j ∧ Q (.bl (!(!(Builtin.Str.occurrences j i 0 j.length 1).isEmpty))) H
theorem op_inA : OpR X (compareOp .In) (rInA X.K) := OpR.or op_in_seq op_in_str
theorem op_niA : OpR X (compareOp .NotIn) (rNiA X.K) := OpR.or op_notIn_seq op_notIn_str
theorem r_in (hK : G.K = X.K) : R2D G inD (rInA X.K) := fun S H x y z v w Q sm rx ry e q => by
  unfold inD at e
  split at e
  · split at e
    · rename_i b e1
      cases e
      obtain ⟨a, vs, rfl, h1, r1⟩ := inv_tup ry
      rw [hK] at h1
      obtain ⟨f1, f2, rfl⟩ := inB_rep rx r1 e1
      exact .inl ⟨a, vs, rfl, .inr (same_seqT sm h1), f1, f2, q _ S H (.refl sm) rep_bl⟩
    · cases e
  · split at e
    · rename_i b e1
      cases e
      obtain ⟨a, vs, rfl, h1, r1⟩ := inv_lst ry
      obtain ⟨f1, f2, rfl⟩ := inB_rep rx r1 e1
      exact .inl ⟨a, vs, rfl, .inl (SqL.of (sm _ _ h1)), f1, f2, q _ S H (.refl sm) rep_bl⟩
    · cases e
  · cases e
    exact .inr ⟨_, _, inv_str rx, inv_str ry, q _ S H (.refl sm) rep_bl⟩
  · cases e
theorem r_ni (hK : G.K = X.K) : R2D G niD (rNiA X.K) := fun S H x y z v w Q sm rx ry e q => by
  unfold niD at e
  split at e
  · split at e
    · rename_i b e1
      cases e
      obtain ⟨a, vs, rfl, h1, r1⟩ := inv_tup ry
      rw [hK] at h1
      obtain ⟨f1, f2, rfl⟩ := inB_rep rx r1 e1
      exact .inl ⟨a, vs, rfl, .inr (same_seqT sm h1), f1, f2, q _ S H (.refl sm) rep_bl⟩
    · cases e
  · split at e
    · rename_i b e1
      cases e
      obtain ⟨a, vs, rfl, h1, r1⟩ := inv_lst ry
      obtain ⟨f1, f2, rfl⟩ := inB_rep rx r1 e1
      exact .inl ⟨a, vs, rfl, .inl (SqL.of (sm _ _ h1)), f1, f2, q _ S H (.refl sm) rep_bl⟩
    · cases e
  · cases e
    exact .inr ⟨_, _, inv_str rx, inv_str ry, q _ S H (.refl sm) rep_bl⟩
  · cases e

/-! ### items, slices -/
def ixD : D → D → Option D
  | .tup ds, .int j => atI ds j
  | .lst ds, .int j => atI ds j
  | .scr ns, .int j => match atI ns j with
    | some n => some (.int n)
    | none => none
  | .str z, .int j => if z.length ≤ sizeLine then match atI z.cps.toList j with
      | some c => some (.str ⟨#[c]⟩)
      | none => none
    else none
  | _, _ => none
theorem atI_map {α β : Type} (f : α → β) {xs : List α} {j : Int} {y : α} (e : atI xs j = some y) : atI (xs.map f) j = some (f y) := by
  unfold atI at e ⊢
  obtain ⟨k, e1, e2⟩ := Option.bind_eq_some_iff.mp e
  rw [List.length_map, e1]
  show (xs.map f)[k]? = _
  rw [List.getElem?_map, e2]
  rfl
theorem r_ix (hK : G.K = X.K) : R2D G ixD (rIx X.K) := fun S H x y z v w Q sm rx ry e q => by
  unfold ixD at e
  split at e
  · obtain ⟨a, vs, rfl, h1, r1⟩ := inv_tup rx
    rw [hK] at h1
    obtain ⟨u, e1, r2⟩ := r1.atI e
    exact .inr (.inl ⟨a, vs, _, u, rfl, inv_int ry, same_seqT sm h1, e1, q u S H (.refl sm) r2⟩)
  · obtain ⟨a, vs, rfl, h1, r1⟩ := inv_lst rx
    obtain ⟨u, e1, r2⟩ := r1.atI e
    exact .inl ⟨a, vs, _, u, rfl, inv_int ry, SqL.of (sm _ _ h1), e1, q u S H (.refl sm) r2⟩
  · split at e
    · rename_i n e1
      cases e
      obtain ⟨a, rfl, h1⟩ := inv_scr rx
      rw [hK] at h1
      exact .inl ⟨a, _, _, _, rfl, inv_int ry, sm.seq h1, atI_map V.int e1, q _ S H (.refl sm) rep_int⟩
    · cases e
  · split at e
    · rename_i hl
      split at e
      · rename_i c e1
        cases e
        exact .inr (.inr ⟨_, _, c, inv_str rx, inv_int ry, hl, e1, q _ S H (.refl sm) rep_str⟩)
      · cases e
    · cases e
  · cases e
end
section
variable {G : Cls} {X : Cx} {e a b c o : Expr} {es : List Expr} {f h k : DE} {pos p2 : Pos}
theorem le_ix (hK : G.K = X.K) (ha : LE G X a f) (hb : LE G X b h) (hs : PlainIx b) : LE G X (.Subscript a b pos) (b2 ixD f h) := pe_weak (pe_ix ix_seq ha hb hs) fun _ _ _ => lift2 (r_ix hK)
/-- a slice's parts -/
abbrev DO := Ev → Option (Option Int × Ev)
def oN : DO := fun d => some (none, d)
def oS (f : DE) : DO := fun d => match f d with
  | some (.int i, d1) => some (some i, d1)
  | _ => none
def liftO (G : Cls) (f : DO) : TO := fun s H Q => ∃ g S d x d', Zt G g S s H d ∧ f d = some (x, d') ∧ ∀ H' S', Same S S' → Zt G g S' s H' d' → Q x H'
abbrev LO (G : Cls) (X : Cx) (e : Option Expr) (f : DO) : Prop := PO X e (liftO G f)
theorem lo_none : LO G X none oN := ⟨fun pins s σ H Q I ⟨g, S, d, x, d', z, e, q⟩ => by cases e; exact po_none.run pins s σ H Q I (q H S (.refl _) z)⟩
theorem lo_some (he : LE G X e f) : LO G X (some e) (oS f) := ⟨fun pins s σ H Q I ⟨g, S, d, x, d', z, e, q⟩ => (po_some he).run pins s σ H Q I (by
  unfold oS at e
  split at e
  · rename_i i d1 e1
    cases e
    exact ⟨g, S, d, .int i, d', z, e1, fun v H' S' sm z' r => ⟨i, inv_int r, q H' S' sm z'⟩⟩
  · cases e)⟩
/-- the items from lo to hi -/
def cutL {α : Type} (xs : List α) (lo hi : Option Int) : List α := (xs.drop (HT.sIx xs.length 0 lo)).take (HT.sIx xs.length xs.length hi - HT.sIx xs.length 0 lo)
def slD : D → Option Int → Option Int → Option D
  | .tup ds, lo, hi => some (.tup (cutL ds lo hi))
  | .lst ds, lo, hi => some (.lst (cutL ds lo hi))
  | .scr ns, lo, hi => some (.lst ((cutL ns lo hi).map D.int))
  | .str z, lo, hi => if z.length ≤ sizeLine then some (.str (cutS z lo hi)) else none
  | _, _, _ => none
def sl (f : DE) (lo hi : DO) : DE := fun d => match f d with
  | some (x, d1) => match lo d1 with
    | some (i, d2) => match hi d2 with
      | some (j, d3) => match slD x i j with
        | some z => some (z, d3)
        | none => none
      | none => none
    | none => none
  | none => none
def rSl (K : PySem.W.Frag) : V → Option Int → Option Int → Hp → VK → Prop := fun x lo hi H Q => rSlA K x lo hi H Q ∨ (rSlL K x lo hi H Q ∨ rSlS x lo hi H Q)
theorem sl_all : SlR X (rSl X.K) := sl_tupA.or (sl_list.or sl_str)
theorem RepL.cut {S : Hp} {ds : List D} {vs : List V} (r : RepL G S ds vs) (lo hi : Option Int) : RepL G S (cutL ds lo hi) (cutV vs lo hi) := by
  unfold cutL cutV
  rw [r.length]
  exact (r.drop _).take _
theorem cutL_all {α : Type} {xs : List α} {lo hi : Option Int} (h : HT.sIx xs.length 0 lo = 0 ∧ HT.sIx xs.length xs.length hi = xs.length) : cutL xs lo hi = xs := by
  unfold cutL
  rw [h.1, h.2]
  simp
theorem le_slice {lo hi : Option Expr} {fl fh : DO} (hK : G.K = X.K) (he : LE G X e f) (hl : LO G X lo fl) (hh : LO G X hi fh) : LE G X (.Subscript e (.Slice lo hi none p2) pos) (sl f fl fh) := pe_weak (pe_slice sl_all he hl hh) fun s H Q ⟨g, S, d, y, d', z, e, q⟩ => by
  unfold sl at e
  split at e
  · rename_i x d1 e1
    split at e
    · rename_i i d2 e2
      split at e
      · rename_i j d3 e3
        split at e
        · rename_i w e4
          cases e
          refine ⟨g, S, d, x, d1, z, e1, fun v H1 S1 sm1 z1 r1 => ⟨g, S1, d1, i, d2, z1, e2, fun H2 S2 sm2 z2 => ⟨g, S2, d2, j, d', z2, e3, fun H3 S3 sm3 z3 => ?_⟩⟩⟩
          have r3 := (r1.mono sm2).mono sm3
          have fin : ∀ u S' H', Ext S3 H3 S' H' → Rep G S' y u → Q u H' := fun u S' H' ex ru => q u H' S' (((sm1.trans sm2).trans sm3).trans ex.s) (z3.ext ex) ru
          unfold slD at e4
          split at e4
          · rename_i ds
            cases e4
            obtain ⟨a, vs, rfl, h1, r4⟩ := inv_tup r3
            rw [hK] at h1
            refine .inl ⟨a, vs, rfl, same_seqT z3.sh h1, fun e5 => ?_, fun _ p hp => ?_⟩
            · rw [← r4.length] at e5
              rw [cutL_all e5] at fin
              exact fin _ S3 H3 (.refl z3.sh) r3
            · have ex := Ext.alloc (o := .tup (cutV vs i j)) z3.sh hp
              exact fin _ _ _ ex (rep_tup_new upd_same ((r4.cut i j).mono ex.s))
          · rename_i ds
            cases e4
            obtain ⟨a, vs, rfl, h1, r4⟩ := inv_lst r3
            refine .inr (.inl ⟨a, vs, rfl, SqL.of (z3.sh _ _ h1), fun p hp => ?_⟩)
            have ex := Ext.alloc (o := .lst (cutV vs i j)) z3.sh hp
            exact fin _ _ _ ex (rep_lst_new upd_same ((r4.cut i j).mono ex.s))
          · rename_i ns
            cases e4
            obtain ⟨a, rfl, h1⟩ := inv_scr r3
            rw [hK] at h1
            refine .inr (.inl ⟨a, _, rfl, z3.sh.seq h1, fun p hp => ?_⟩)
            have ex := Ext.alloc (o := .lst (cutV (ns.map V.int) i j)) z3.sh hp
            have r4 : RepL G S3 (ns.map D.int) (ns.map V.int) := RepL.ints
            have r5 := r4.cut i j
            have ec : cutL (ns.map D.int) i j = (cutL ns i j).map D.int := by
              unfold cutL
              rw [List.length_map, ← List.map_drop, ← List.map_take]
            rw [ec] at r5
            exact fin _ _ _ ex (rep_lst_new upd_same (r5.mono ex.s))
          · rename_i z'
            split at e4
            · rename_i hl
              cases e4
              exact .inr (.inr ⟨_, inv_str r3, hl, fin _ S3 H3 (.refl z3.sh) rep_str⟩)
            · cases e4
          · cases e4
        · cases e
      · cases e
    · cases e
  · cases e
end

/-! ### built-in functions -/
section
variable {G : Cls} {X : Cx}
def nLen : List D → Option D
  | [.tup ds] => some (.int ds.length)
  | [.lst ds] => some (.int ds.length)
  | [.scr ns] => some (.int ns.length)
  | [.str z] => if z.length ≤ sizeLine then some (.int z.length) else none
  | _ => none
theorem repL1 {S : Hp} {x : D} {vs : List V} (r : RepL G S [x] vs) : ∃ v, vs = [v] ∧ Rep G S x v := by
  unfold RepL at r
  obtain ⟨v, r', rfl, h1, h2⟩ := r
  unfold RepL at h2
  subst h2
  exact ⟨v, rfl, h1⟩
theorem repL2 {S : Hp} {x y : D} {vs : List V} (r : RepL G S [x, y] vs) : ∃ v w, vs = [v, w] ∧ Rep G S x v ∧ Rep G S y w := by
  unfold RepL at r
  obtain ⟨v, r', rfl, h1, h2⟩ := r
  obtain ⟨w, rfl, h3⟩ := repL1 h2
  exact ⟨v, w, rfl, h1, h3⟩
theorem r_len (hK : G.K = X.K) : RnD G nLen (fun xs H Q => ∃ x n, xs = [x] ∧ LenV X.K x H n ∧ Q (.int n) H) := fun S H xs z vs Q sm r e q => by
  unfold nLen at e
  split at e
  · cases e
    obtain ⟨v, rfl, r1⟩ := repL1 r
    obtain ⟨a, us, rfl, h1, r2⟩ := inv_tup r1
    rw [hK] at h1
    exact ⟨_, _, rfl, .inr ⟨us, same_seqT sm h1, rfl⟩, by rw [← r2.length]; exact q _ S H (.refl sm) rep_int⟩
  · cases e
    obtain ⟨v, rfl, r1⟩ := repL1 r
    obtain ⟨a, us, rfl, h1, r2⟩ := inv_lst r1
    exact ⟨_, _, rfl, .inl ⟨us, SqL.of (sm _ _ h1), rfl⟩, by rw [← r2.length]; exact q _ S H (.refl sm) rep_int⟩
  · cases e
    obtain ⟨v, rfl, r1⟩ := repL1 r
    obtain ⟨a, rfl, h1⟩ := inv_scr r1
    rw [hK] at h1
    exact ⟨_, _, rfl, .inl ⟨_, sm.seq h1, rfl⟩, by rw [List.length_map]; exact q _ S H (.refl sm) rep_int⟩
  · split at e
    · rename_i hl
      cases e
      obtain ⟨v, rfl, r1⟩ := repL1 r
      cases inv_str r1
      exact ⟨_, _, rfl, ⟨hl, rfl⟩, q _ S H (.refl sm) rep_int⟩
    · cases e
  · cases e
def nAbs : List D → Option D
  | [.int a] => some (.int (if a < 0 then -a else a))
  | _ => none
theorem r_abs : RnD G nAbs (fun xs H Q => ∃ i, xs = [.int i] ∧ Q (.int (if i < 0 then -i else i)) H) := fun S H xs z vs Q sm r e q => by
  unfold nAbs at e
  split at e
  · cases e
    obtain ⟨v, rfl, r1⟩ := repL1 r
    cases inv_int r1
    exact ⟨_, rfl, q _ S H (.refl sm) rep_int⟩
  · cases e
def nMax2 : List D → Option D
  | [.int a, .int b] => some (.int (if b > a then b else a))
  | _ => none
def nMin2 : List D → Option D
  | [.int a, .int b] => some (.int (if b < a then b else a))
  | _ => none
theorem r_max2 : RnD G nMax2 (fun xs H Q => ∃ i j, xs = [.int i, .int j] ∧ Q (.int (if j > i then j else i)) H) := fun S H xs z vs Q sm r e q => by
  unfold nMax2 at e
  split at e
  · cases e
    obtain ⟨v, w, rfl, r1, r2⟩ := repL2 r
    cases inv_int r1
    cases inv_int r2
    exact ⟨_, _, rfl, q _ S H (.refl sm) rep_int⟩
  · cases e
theorem r_min2 : RnD G nMin2 (fun xs H Q => ∃ i j, xs = [.int i, .int j] ∧ Q (.int (if j < i then j else i)) H) := fun S H xs z vs Q sm r e q => by
  unfold nMin2 at e
  split at e
  · cases e
    obtain ⟨v, w, rfl, r1, r2⟩ := repL2 r
    cases inv_int r1
    cases inv_int r2
    exact ⟨_, _, rfl, q _ S H (.refl sm) rep_int⟩
  · cases e
def nInt : List D → Option D
  | [.int a] => some (.int a)
  | [.bl b] => some (.int (if b then 1 else 0))
  | _ => none
theorem r_int : RnD G nInt (fun xs H Q => (∃ i, xs = [.int i] ∧ Q (.int i) H) ∨ ∃ k, xs = [.bl k] ∧ Q (.int (if k then 1 else 0)) H) := fun S H xs z vs Q sm r e q => by
  unfold nInt at e
  split at e
  · cases e
    obtain ⟨v, rfl, r1⟩ := repL1 r
    cases inv_int r1
    exact .inl ⟨_, rfl, q _ S H (.refl sm) rep_int⟩
  · cases e
    obtain ⟨v, rfl, r1⟩ := repL1 r
    cases inv_bl r1
    exact .inr ⟨_, rfl, q _ S H (.refl sm) rep_int⟩
  · cases e
def nStr : List D → Option D
  | [.int a] => if a.natAbs.log2 < 1920 then some (.str (toString a)) else none
  | _ => none
theorem r_str : RnD G nStr (fun xs H Q => ∃ i, xs = [.int i] ∧ i.natAbs.log2 < 1920 ∧ Q (.str (toString i)) H) := fun S H xs z vs Q sm r e q => by
  unfold nStr at e
  split at e
  · split at e
    · rename_i hl
      cases e
      obtain ⟨v, rfl, r1⟩ := repL1 r
      cases inv_int r1
      exact ⟨_, rfl, hl, q _ S H (.refl sm) rep_str⟩
    · cases e
  · cases e
def nTup : List D → Option D
  | [.tup ds] => some (.tup ds)
  | [.lst ds] => some (.tup ds)
  | _ => none
theorem r_tup (hK : G.K = X.K) : RnD G nTup (fun xs H Q => ∃ p ys, xs = [.ref p] ∧ ((SqL X.K H p ys ∧ ∀ l, H l = none → Q (.ref l) (upd H l (.tup ys))) ∨ (SqT X.K H p ys ∧ Q (.ref p) H))) := fun S H xs z vs Q sm r e q => by
  unfold nTup at e
  split at e
  · cases e
    obtain ⟨v, rfl, r1⟩ := repL1 r
    obtain ⟨a, us, rfl, h1, r2⟩ := inv_tup r1
    rw [hK] at h1
    exact ⟨a, us, rfl, .inr ⟨same_seqT sm h1, q _ S H (.refl sm) r1⟩⟩
  · cases e
    obtain ⟨v, rfl, r1⟩ := repL1 r
    obtain ⟨a, us, rfl, h1, r2⟩ := inv_lst r1
    refine ⟨a, us, rfl, .inl ⟨SqL.of (sm _ _ h1), fun p hp => ?_⟩⟩
    have ex := Ext.alloc (o := .tup us) sm hp
    exact q _ _ _ ex (rep_tup_new upd_same (r2.mono ex.s))
  · cases e
def nLst : List D → Option D
  | [.tup ds] => some (.lst ds)
  | [.lst ds] => some (.lst ds)
  | [.scr ns] => some (.lst (ns.map D.int))
  | _ => none
theorem r_lst (hK : G.K = X.K) : RnD G nLst (fun xs H Q => ∃ p ys, xs = [.ref p] ∧ (SqL X.K H p ys ∨ SqT X.K H p ys) ∧ ∀ l, H l = none → Q (.ref l) (upd H l (.lst ys))) := fun S H xs z vs Q sm r e q => by
  have key : ∀ {a us ds}, (SqL X.K H a us ∨ SqT X.K H a us) → RepL G S ds us → vs = [V.ref a] → z = .lst ds → ∃ p ys, vs = [.ref p] ∧ (SqL X.K H p ys ∨ SqT X.K H p ys) ∧ ∀ l, H l = none → Q (.ref l) (upd H l (.lst ys)) := fun {a us ds} h r2 ev ez => by
    subst ez
    refine ⟨a, us, ev, h, fun p hp => ?_⟩
    have ex := Ext.alloc (o := .lst us) sm hp
    exact q _ _ _ ex (rep_lst_new upd_same (r2.mono ex.s))
  unfold nLst at e
  split at e
  · cases e
    obtain ⟨v, rfl, r1⟩ := repL1 r
    obtain ⟨a, us, rfl, h1, r2⟩ := inv_tup r1
    rw [hK] at h1
    exact key (.inr (same_seqT sm h1)) r2 rfl rfl
  · cases e
    obtain ⟨v, rfl, r1⟩ := repL1 r
    obtain ⟨a, us, rfl, h1, r2⟩ := inv_lst r1
    exact key (.inl (SqL.of (sm _ _ h1))) r2 rfl rfl
  · cases e
    obtain ⟨v, rfl, r1⟩ := repL1 r
    obtain ⟨a, rfl, h1⟩ := inv_scr r1
    rw [hK] at h1
    exact key (.inl (sm.seq h1)) RepL.ints rfl rfl
  · cases e
/-- the ints of some data -/
def asInts : List D → Option (List Int)
  | [] => some []
  | .int a :: r => match asInts r with
    | some t => some (a :: t)
    | none => none
  | _ => none
theorem asInts_rep {S : Hp} : ∀ {ds : List D} {ns : List Int} {vs : List V}, asInts ds = some ns → RepL G S ds vs → vs = ns.map V.int
  | [], _, _, e, r => by cases e; unfold RepL at r; exact r
  | .int a :: ds, _, _, e, r => by
    unfold asInts at e
    split at e
    · rename_i t e1
      cases e
      unfold RepL at r
      obtain ⟨v, vr, rfl, r1, r2⟩ := r
      rw [inv_int r1, asInts_rep e1 r2]; rfl
    · cases e
  | .non :: _, _, _, e, _ => by simp [asInts] at e
  | .bl _ :: _, _, _, e, _ => by simp [asInts] at e
  | .str _ :: _, _, _, e, _ => by simp [asInts] at e
  | .tup _ :: _, _, _, e, _ => by simp [asInts] at e
  | .lst _ :: _, _, _, e, _ => by simp [asInts] at e
  | .ob _ _ :: _, _, _, e, _ => by simp [asInts] at e
  | .fn _ :: _, _, _, e, _ => by simp [asInts] at e
  | .scr _ :: _, _, _, e, _ => by simp [asInts] at e
def asBls : List D → Option (List Bool)
  | [] => some []
  | .bl a :: r => match asBls r with
    | some t => some (a :: t)
    | none => none
  | _ => none
theorem asBls_rep {S : Hp} : ∀ {ds : List D} {ns : List Bool} {vs : List V}, asBls ds = some ns → RepL G S ds vs → vs = ns.map V.bl
  | [], _, _, e, r => by cases e; unfold RepL at r; exact r
  | .bl a :: ds, _, _, e, r => by
    unfold asBls at e
    split at e
    · rename_i t e1
      cases e
      unfold RepL at r
      obtain ⟨v, vr, rfl, r1, r2⟩ := r
      rw [inv_bl r1, asBls_rep e1 r2]; rfl
    · cases e
  | .non :: _, _, _, e, _ => by simp [asBls] at e
  | .int _ :: _, _, _, e, _ => by simp [asBls] at e
  | .str _ :: _, _, _, e, _ => by simp [asBls] at e
  | .tup _ :: _, _, _, e, _ => by simp [asBls] at e
  | .lst _ :: _, _, _, e, _ => by simp [asBls] at e
  | .ob _ _ :: _, _, _, e, _ => by simp [asBls] at e
  | .fn _ :: _, _, _, e, _ => by simp [asBls] at e
  | .scr _ :: _, _, _, e, _ => by simp [asBls] at e
def nAll : List D → Option D
  | [.lst ds] => match asBls ds with
    | some bs => some (.bl (bs.all id))
    | none => none
  | _ => none
def nAny : List D → Option D
  | [.lst ds] => match asBls ds with
    | some bs => some (.bl (bs.any id))
    | none => none
  | _ => none
theorem r_all (hK : G.K = X.K) : RnD G nAll (rAll X.K) := fun S H xs z vs Q sm r e q => by
  unfold nAll at e
  split at e
  · split at e
    · rename_i bs e1
      cases e
      obtain ⟨v, rfl, r1⟩ := repL1 r
      obtain ⟨a, us, rfl, h1, r2⟩ := inv_lst r1
      have := asBls_rep e1 r2
      subst this
      exact ⟨a, bs, rfl, SqL.of (sm _ _ h1), q _ S H (.refl sm) rep_bl⟩
    · cases e
  · cases e
theorem r_any (hK : G.K = X.K) : RnD G nAny (rAny X.K) := fun S H xs z vs Q sm r e q => by
  unfold nAny at e
  split at e
  · split at e
    · rename_i bs e1
      cases e
      obtain ⟨v, rfl, r1⟩ := repL1 r
      obtain ⟨a, us, rfl, h1, r2⟩ := inv_lst r1
      have := asBls_rep e1 r2
      subst this
      exact ⟨a, bs, rfl, SqL.of (sm _ _ h1), q _ S H (.refl sm) rep_bl⟩
    · cases e
  · cases e
end
end Zr

/-! Zr: what loops walk; isinstance; names of the module. -/
namespace Zr
open PySem L2
section
variable {G : Cls} {X : Cx} {tg e a b : Expr} {es : List Expr} {f h : DE} {r : DA} {pos p : Pos} {x : Str}

/-- the items of a list, a tuple -/
def itD : D → Option (List D)
  | .lst ds => some ds
  | .tup ds => some ds
  | .scr ns => some (ns.map D.int)
  | _ => none
def is (f : DE) : DA := fun d => match f d with
  | some (x, d1) => match itD x with
    | some xs => some (xs, d1)
    | none => none
  | none => none
theorem itl_ok {S : Hp} {a : Addr} {vs : List V} {ds : List D} (h : SqL G.K S a vs) (r : RepL G S ds vs) : ItD G (Itl G.K a) S ds where
  go := fun i S1 H1 s1 s2 hi => by
    have hi' : i < vs.length := by rw [← r.length]; exact hi
    exact ⟨vs, vs[i], (s1.trans s2).seq h, List.getElem?_eq_getElem hi'⟩
  stop := fun S1 H1 s1 s2 => ⟨vs, (s1.trans s2).seq h, by rw [r.length]; exact Nat.le_refl _⟩
  yld := fun i S1 H1 v H' x s1 s2 hx y => by
    obtain ⟨rfl, y⟩ := y
    obtain ⟨u, e1, r1⟩ := r.get hx
    have := y vs ((s1.trans s2).seq h)
    rw [e1] at this
    cases this
    exact ⟨S1, .refl s2, r1.mono s1⟩
theorem itt_ok {S : Hp} {a : Addr} {vs : List V} {ds : List D} (h : SqT G.K S a vs) (r : RepL G S ds vs) : ItD G (Itt G.K a) S ds where
  go := fun i S1 H1 s1 s2 hi => by
    have hi' : i < vs.length := by rw [← r.length]; exact hi
    exact ⟨vs, vs[i], same_seqT (s1.trans s2) h, List.getElem?_eq_getElem hi'⟩
  stop := fun S1 H1 s1 s2 => ⟨vs, same_seqT (s1.trans s2) h, by rw [r.length]; exact Nat.le_refl _⟩
  yld := fun i S1 H1 v H' x s1 s2 hx y => by
    obtain ⟨rfl, y⟩ := y
    obtain ⟨u, e1, r1⟩ := r.get hx
    have := y vs (same_seqT (s1.trans s2) h)
    rw [e1] at this
    cases this
    exact ⟨S1, .refl s2, r1.mono s1⟩
theorem li_seq (hK : G.K = X.K) (he : LE G X e f) : LI G X tg e (is f) := ⟨fun pins s σ H R I ⟨g, S, d, xs, d', z, e, q⟩ => by
  unfold is at e
  split at e
  · rename_i y d1 e1
    split at e
    · rename_i ys e2
      cases e
      have lst : ∀ {a : Addr} {H' : Hp} {S' : Hp} {vs : List V}, Same S S' → Zt G g S' σ H' d' → SqL G.K S' a vs → RepL G S' xs vs → ∃ a', V.ref a = .ref a' ∧ (∃ xs, SqL X.K H' a' xs) ∧ R (Itl X.K a') H' := fun {a H' S' vs} sm z' h1 r1 => by
        refine ⟨a, rfl, ⟨vs, by rw [← hK]; exact z'.sh.seq h1⟩, ?_⟩
        have := q (Itl G.K a) H' S' sm z' (itl_ok h1 r1)
        rw [hK] at this
        exact this
      cases y with
      | lst ds =>
        cases e2
        refine (pi_list he).run pins s σ H R I ⟨g, S, d, _, d', z, e1, fun v H' S' sm z' rv => ?_⟩
        obtain ⟨a, vs, rfl, h1, r1⟩ := inv_lst rv
        exact lst sm z' (SqL.of h1) r1
      | scr ns =>
        cases e2
        refine (pi_list he).run pins s σ H R I ⟨g, S, d, _, d', z, e1, fun v H' S' sm z' rv => ?_⟩
        obtain ⟨a, rfl, h1⟩ := inv_scr rv
        exact lst sm z' h1 RepL.ints
      | tup ds =>
        cases e2
        refine (pi_tup he).run pins s σ H R I ⟨g, S, d, _, d', z, e1, fun v H' S' sm z' rv => ?_⟩
        obtain ⟨a, vs, rfl, h1, r1⟩ := inv_tup rv
        refine ⟨a, rfl, ⟨vs, by rw [← hK]; exact same_seqT z'.sh h1⟩, ?_⟩
        have := q (Itt G.K a) H' S' sm z' (itt_ok h1 r1)
        rw [hK] at this
        exact this
      | non => cases e2
      | bl _ => cases e2
      | int _ => cases e2
      | str _ => cases e2
      | ob _ _ => cases e2
      | fn _ => cases e2
    · cases e
  · cases e⟩

/-- lo, lo + 1, .. -/
def rgD (lo hi : Int) : List D := (List.range (hi - lo).toNat).map fun i => D.int (lo + (i : Nat))
def rgOk (lo hi : Int) : Bool := decide (-(2 ^ 62) ≤ lo ∧ lo < 2 ^ 62 ∧ -(2 ^ 62) ≤ hi ∧ hi < 2 ^ 62)
theorem itr_ok {S : Hp} {lo hi : Int} : ItD G (Itr lo (hi - lo).toNat) S (rgD lo hi) where
  go := fun i S1 H1 s1 s2 hi => by
    show i < _
    unfold rgD at hi
    rw [List.length_map, List.length_range] at hi
    exact hi
  stop := fun S1 H1 s1 s2 => by show _ ≤ _; unfold rgD; simp
  yld := fun i S1 H1 v H' x s1 s2 hx y => by
    obtain ⟨rfl, rfl⟩ := y
    unfold rgD at hx
    rw [List.getElem?_map] at hx
    cases e : (List.range _)[i]? with
    | none => rw [e] at hx; cases hx
    | some k =>
      rw [e] at hx
      cases hx
      obtain ⟨hl, hk⟩ := List.getElem?_eq_some_iff.mp e
      have : k = i := by simpa using hk.symm
      subst this
      exact ⟨S1, .refl s2, rep_int⟩
/-- range(hi) -/
def r1 (f : DE) : DA := fun d => match f d with
  | some (.int j, d1) => if rgOk 0 j then some (rgD 0 j, d1) else none
  | _ => none
/-- range(lo, hi) -/
def r2 (f h : DE) : DA := fun d => match f d with
  | some (.int i, d1) => match h d1 with
    | some (.int j, d2) => if rgOk i j then some (rgD i j, d2) else none
    | _ => none
  | _ => none
theorem rgOk_of {lo hi : Int} (h : rgOk lo hi = true) : -(2 ^ 62) ≤ lo ∧ lo < 2 ^ 62 ∧ -(2 ^ 62) ≤ hi ∧ hi < 2 ^ 62 := of_decide_eq_true h
theorem li_range1 (hg : Gl X "range") (hm : X.mg "range" = none) (he : LE G X a f) (hs : starEach [a] X.env = [(false, eval a X.env)] := by rfl) : LI G X tg (.Call (.Name "range" p) [a] [] pos) (r1 f) :=
  pi_weak (pi_range1 hg hm (pa_cons he pa_nil hs) hs) fun s H R ⟨g, S, d, xs, d', z, e, q⟩ => by
    unfold r1 at e
    split at e
    · rename_i j d1 e1
      split at e
      · rename_i hok
        cases e
        obtain ⟨_, _, h3, h4⟩ := rgOk_of hok
        refine ⟨g, S, d, _, d', z, e1, fun v H' S' sm z' r => ?_⟩
        refine ⟨j, by rw [inv_int r], h3, h4, ?_⟩
        have := q (Itr 0 (j - 0).toNat) H' S' sm z' itr_ok
        rw [Int.sub_zero] at this
        exact this
      · cases e
    · cases e
theorem li_range2 (hg : Gl X "range") (hm : X.mg "range" = none) (he : LE G X a f) (hh : LE G X b h) (hs : starEach [a, b] X.env = [(false, eval a X.env), (false, eval b X.env)] := by rfl) (hs2 : starEach [b] X.env = [(false, eval b X.env)] := by rfl) :
    LI G X tg (.Call (.Name "range" p) [a, b] [] pos) (r2 f h) :=
  pi_weak (pi_range2 hg hm (pa_cons he (pa_cons hh pa_nil hs2) (by rw [hs, hs2])) hs hs2) fun s H R ⟨g, S, d, xs, d', z, e, q⟩ => by
    unfold r2 at e
    split at e
    · rename_i i d1 e1
      split at e
      · rename_i j d2 e2
        split at e
        · rename_i hok
          cases e
          refine ⟨g, S, d, _, d1, z, e1, fun v H' S' sm z' r => ⟨g, S', d1, _, d', z', e2, fun v2 H2 S2 sm2 z2 r2 => ?_⟩⟩
          refine ⟨i, j, by rw [inv_int r, inv_int r2], rgOk_of hok, ?_⟩
          exact q _ H2 S2 (sm.trans sm2) z2 itr_ok
        · cases e
      · cases e
    · cases e
/-- list(range(..)) -/
def lr (r : DA) : DE := fun d => match r d with
  | some (xs, d1) => if xs.length ≤ 2 ^ 24 then some (.lst xs, d1) else none
  | none => none
theorem repL_rg {S : Hp} (i j : Int) : RepL G S (rgD i j) (rgV i j) := by
  unfold rgD rgV
  generalize List.range _ = l
  induction l with
  | nil => exact .nil
  | cons k l ih => exact .cons rep_int ih
theorem le_listRg2 {pl pos2 : Pos} (hc : X.calm = true) (hgl : Gl X "list") (hml : X.mg "list" = none) (hg : Gl X "range") (hm : X.mg "range" = none) (he : LE G X a f) (hh : LE G X b h)
    (na : starEach [a, b] X.env = (false, eval a X.env) :: starEach [b] X.env := by rfl) (nb : starEach [b] X.env = (false, eval b X.env) :: starEach [] X.env := by rfl)
    (nc : starEach [.Call (.Name "range" p) [a, b] [] pos] X.env = (false, eval (.Call (.Name "range" p) [a, b] [] pos) X.env) :: starEach [] X.env := by rfl) (nd : (backTo pos (starEach [b] X.env)).any (·.1) = false := by rfl) :
    LE G X (.Call (.Name "list" pl) [.Call (.Name "range" p) [a, b] [] pos] [] pos2) (lr (r2 f h)) := pe_weak (pe_listRg hc hgl hml (prg_2 hg hm he hh na nb nd) nc) fun s H Q ⟨g, S, d, x, d', z, e, q⟩ => by
  unfold lr at e
  split at e
  · rename_i xs d1 e0
    split at e
    · rename_i hsz
      cases e
      unfold r2 at e0
      split at e0
      · rename_i i d1 e1
        split at e0
        · rename_i j d2 e2
          split at e0
          · rename_i hok
            cases e0
            refine ⟨g, S, d, _, d1, z, e1, fun v H' S' sm z' r => ⟨g, S', d1, _, d', z', e2, fun v2 H2 S2 sm2 z2 r2 => ?_⟩⟩
            obtain ⟨h1, h2, h3, h4⟩ := rgOk_of hok
            refine ⟨i, j, inv_int r, inv_int r2, ⟨h1, h2, h3, h4, by unfold rgD at hsz; simpa using hsz⟩, fun p hp => ?_⟩
            have ex := Ext.alloc (o := .lst (rgV i j)) z2.sh hp
            exact q _ _ _ ((sm.trans sm2).trans ex.s) (z2.ext ex) (rep_lst_new upd_same (repL_rg i j))
          · cases e0
        · cases e0
      · cases e0
    · cases e
  · cases e

/-! ### isinstance -/
/-- the kinds of data -/
def kind : D → Nat
  | .non => 0
  | .bl _ => 1
  | .int _ => 2
  | .str _ => 3
  | .tup _ => 4
  | .lst _ => 5
  | .scr _ => 5
  | .fn _ => 6
  | .ob c _ => 7 + c
/-- a kind's class -/
def tyOf (G : Cls) : Nat → Value
  | 0 => .type "NoneType"
  | 1 => .type "bool"
  | 2 => .type "int"
  | 3 => .type "str"
  | 4 => .type "tuple"
  | 5 => .type "list"
  | 6 => .none
  | c + 7 => .ref (G.adr c)
/-- what an own class's instances want -/
structure InsTy (K : PySem.W.Frag) (C : Addr) : Prop where
  cl : L2.Cls K C
  ha : PySem.W.findIn K (.ref C) "__class__" = some (some (.builtin "object.__class__"))
  hn : PySem.W.specialIn K (.builtin "object.__class__") "__get__" = some (some (.builtin "getset_descriptor.__get__"))
  htk : PySem.W.takesIn K (.builtin "object.__class__") = some true
  hm : PySem.W.mroIn K C (.type "object") = some true
/-- which classes the table speaks of -/
def TabOk (G : Cls) (K : PySem.W.Frag) (tb : List (Nat × Bool)) : Prop := ∀ q ∈ tb, q.1 ≠ 6 ∧ ∀ c, q.1 = 7 + c → InsTy K (G.adr c)
theorem rep_ty {S H : Hp} {y : D} {v : V} {tb : List (Nat × Bool)} {b : Bool} (hK : G.K = X.K) (ht : TabOk G X.K tb) (sm : Same S H) (r : Rep G S y v) (e : tb.lookup (kind y) = some b) : TyX X.K H v (tyOf G (kind y)) := by
  have T := ht _ (lookup_mem e)
  cases y with
  | non => rw [inv_non r]; exact .base .non
  | bl _ => rw [inv_bl r]; exact .base (.bl _)
  | int _ => rw [inv_int r]; exact .base (.int _)
  | str _ => rw [inv_str r]; exact .base (.str _)
  | tup _ =>
    obtain ⟨a, vs, rfl, h1, _⟩ := inv_tup r
    rw [hK] at h1
    rcases same_seqT sm h1 with (h | ⟨o, h⟩) | ⟨o, its, n, h, hc, _⟩
    · exact .base (.tup h)
    · exact .fTuple h
    · exact .kTuple h hc
  | lst _ =>
    obtain ⟨a, vs, rfl, h1, _⟩ := inv_lst r
    exact .base (.lst (sm _ _ h1))
  | scr _ =>
    obtain ⟨a, rfl, h1⟩ := inv_scr r
    rw [hK] at h1
    rcases sm.seq h1 with (h | ⟨o, h⟩) | ⟨o, its, n, h, hc, _⟩
    · exact .base (.lst h)
    · exact .base (.frz h)
    · exact .kList h hc
  | fn _ => exact absurd rfl T.1
  | ob c _ =>
    obtain ⟨a, dx, vs, rfl, h1, _⟩ := inv_ob r
    have I := T.2 c rfl
    have e7 : tyOf G (kind (.ob c ‹_›)) = .ref (G.adr c) := by
      show tyOf G (7 + c) = _
      rw [Nat.add_comm]
      rfl
    rw [e7]
    exact .base (.ins (sm _ _ h1) I.cl I.ha I.hn I.htk I.hm)
def isi (tb : List (Nat × Bool)) : D → Option D := fun y => match tb.lookup (kind y) with
  | some b => some (.bl b)
  | none => none
/-- isinstance(e, C) -/
theorem le_isi {tb : List (Nat × Bool)} {c : Expr} {cv : V} {u : Value} (hK : G.K = X.K) (ht : TabOk G X.K tb) (hk : ∀ q ∈ tb, PySem.W.kitOne X.K (tyOf G q.1) u = some q.2) (hg : Gl X "isinstance") (hm : X.mg "isinstance" = none)
    (hv : ClsV cv u) (he : LE G X e f) (hc : PE X c (tC cv)) (hs : starEach [e, c] X.env = (false, eval e X.env) :: starEach [c] X.env := by rfl) (hs2 : starEach [c] X.env = (false, eval c X.env) :: starEach [] X.env := by rfl)
    (hpl : (backTo pos (starEach [c] X.env)).any (·.1) = false := by rfl) : LE G X (.Call (.Name "isinstance" p) [e, c] [] pos) (u1 (isi tb) f) :=
  pe_weak (pe_callB call_isi hg hm (by decide +kernel) (pa_cons he (pa_cons hc pa_nil hs2) hs) (by decide) (by decide) hs hpl) fun s H Q ⟨g, S, d, y, d', z, e, q⟩ => by
    obtain ⟨w, e1, e2⟩ := u1_inv e
    unfold isi at e2
    split at e2
    · rename_i b e3
      cases e2
      refine ⟨g, S, d, w, d', z, e1, fun v H' S' sm z' r => ?_⟩
      exact ⟨v, cv, _, u, b, rfl, hv, rep_ty hK ht z'.sh r e3, hk _ (lookup_mem e3), q _ H' S' sm z' rep_bl⟩
    · cases e2
/-- isinstance(e, (C1, C2)) -/
theorem le_isi2 {tb : List (Nat × Bool)} {c c2 : Expr} {cv cv2 : V} {u u2 : Value} {tk : Nat} {tp : Pos} (hK : G.K = X.K) (ht : TabOk G X.K tb) (hk : ∀ q ∈ tb, PySem.W.kitAny X.K (tyOf G q.1) [u, u2] = some q.2) (hg : Gl X "isinstance") (hm : X.mg "isinstance" = none)
    (hv : ClsV cv u) (hv2 : ClsV cv2 u2) (he : LE G X e f) (hc : PE X c (tC cv)) (hc2 : PE X c2 (tC cv2)) (hs : starEach [e, .Tuple [c, c2] tk tp] X.env = (false, eval e X.env) :: starEach [.Tuple [c, c2] tk tp] X.env := by rfl)
    (hs2 : starEach [.Tuple [c, c2] tk tp] X.env = (false, eval (.Tuple [c, c2] tk tp) X.env) :: starEach [] X.env := by rfl) (hs3 : starEach [c, c2] X.env = (false, eval c X.env) :: starEach [c2] X.env := by rfl) (hs4 : starEach [c2] X.env = (false, eval c2 X.env) :: starEach [] X.env := by rfl)
    (hpl : (backTo pos (starEach [.Tuple [c, c2] tk tp] X.env)).any (·.1) = false := by rfl) : LE G X (.Call (.Name "isinstance" p) [e, .Tuple [c, c2] tk tp] [] pos) (u1 (isi tb) f) :=
  pe_weak (pe_callB call_isiT hg hm (by decide +kernel) (pa_cons he (pa_cons (pe_tup (pa_cons hc (pa_cons hc2 pa_nil hs4) hs3)) pa_nil hs2) hs) (by decide) (by decide) hs hpl) fun s H Q ⟨g, S, d, y, d', z, e, q⟩ => by
    obtain ⟨w, e1, e2⟩ := u1_inv e
    unfold isi at e2
    split at e2
    · rename_i b e3
      cases e2
      refine ⟨g, S, d, w, d', z, e1, fun v H' S' sm z' r => ⟨by show 2 ≤ sizeLine; decide, fun tp htp => ?_⟩⟩
      have ex := Ext.alloc (o := .tup [cv, cv2]) z'.sh htp
      have hne : upd H' tp (.tup [cv, cv2]) tp = some (.tup [cv, cv2]) := upd_same
      refine ⟨v, tp, [cv, cv2], _, [u, u2], b, rfl, hne, .cons hv (.cons hv2 .nil), rep_ty hK ht ex.sh (r.mono ex.s) e3, hk _ (lookup_mem e3), ?_⟩
      exact q _ _ _ (sm.trans ex.s) (z'.ext ex) rep_bl
    · cases e2

/-! ### repr, str of ints -/
theorem le_repr (hg : Gl X "repr") (hm : X.mg "repr" = none) (ha : LA G X [e] r) (hs : starEach [e] X.env = (false, eval e X.env) :: starEach [] X.env := by rfl) (hpl : (backTo pos (starEach [] X.env)).any (·.1) = false := by rfl) :
    LE G X (.Call (.Name "repr" p) [e] [] pos) (cn nStr r) := le_callB r_str SkE.call_repr_int hg hm (by decide +kernel) ha (by decide) (by decide) hs hpl
end
end Zr

/-! Zr: the module's constants; several targets at once; the law's end. -/
namespace Zr
open PySem L2
def subD : D → D → Option D := ii fun a b => some (a - b)
def divD : D → D → Option D := ii iDiv
def modD : D → D → Option D := ii iMod
def powD : D → D → Option D := ii iPow
def ltD : D → D → Option D := ib fun i j => decide (i < j)
def leD : D → D → Option D := ib fun i j => decide (i ≤ j)
def gtD : D → D → Option D := ib fun i j => decide (j < i)
def geD : D → D → Option D := ib fun i j => decide (j ≤ i)
section
variable {G : Cls} {X : Cx} {tg e a b c : Expr} {es : List Expr} {f h k : DE} {pos p : Pos} {x : Str}
theorem r_subD : R2D G subD (rI0 fun i j => .int (i - j)) := r_sub
theorem r_divD : R2D G divD (rI CDivA fun i j => .int (i.fdiv j)) := r_div
theorem r_modD : R2D G modD (rI (fun _ j => j ≠ 0) fun i j => .int (i.fmod j)) := r_mod
theorem r_powD : R2D G powD (rI CPow fun i j => .int (i ^ j.toNat)) := r_pow
theorem r_ltD : R2D G ltD (rI0 fun i j => .bl (decide (i < j))) := r_ib
theorem r_leD : R2D G leD (rI0 fun i j => .bl (decide (i ≤ j))) := r_ib
theorem r_gtD : R2D G gtD (rI0 fun i j => .bl (decide (j < i))) := r_ib
theorem r_geD : R2D G geD (rI0 fun i j => .bl (decide (j ≤ i))) := r_ib

/-- a constant of the module -/
theorem le_gl {v : V} {u : Value} {d : D} (hg : Gl X x) (hm : X.mg x = some u) (r : RelV v u) (hd : ∀ S, Rep G S d v) (hdb : (x == ("__debug__" : Str)) = false := by decide) : LE G X (.Name x pos) (kc d) := lift_const hd (pe_glob hg hm r hdb)

theorem vs_s {x : Str} {t : Tok} {vs : List V} {us : List Value} (h : Vals vs us) : Vals (.str x :: vs) (.str x t :: us) := .cons ⟨_, rfl⟩ h
theorem vs_i {x : Int} {t : Tok} {vs : List V} {us : List Value} (h : Vals vs us) : Vals (.int x :: vs) (.int x t :: us) := .cons ⟨_, rfl⟩ h
theorem small_le {n m : Nat} (h : n = m) (hm : m ≤ 1000) : n ≤ sizeLine := by
  subst h
  exact Nat.le_of_lt (small1000 hm)
/-- a tuple of the module's -/
theorem rep_ktup {K : PySem.W.Frag} {ad : Nat → Addr} {fl : Nat → List Str} {S : Hp} {a : Addr} {od : Option Addr} {its : Array Value} {n : Nat} {sl : Array (Option Value)} {vs : List V} {ds : List D} (h : K.lookup a = some ⟨.type "tuple", od, .seq its n, sl⟩) (hz : its.size ≤ sizeLine)
    (r : Vals vs its.toList) (d : RepL ⟨K, ad, fl⟩ S ds vs) : Rep ⟨K, ad, fl⟩ S (.tup ds) (.ref a) := by
  unfold Rep
  exact ⟨a, vs, rfl, .inr ⟨_, its, n, h, rfl, rfl, hz, r⟩, d⟩

/-! ### a, b = e1, e2 -/
def sp2 (i j : Nat) (f h : DE) : DS := fun d => match f d with
  | some (x, d1) => match h d1 with
    | some (y, d2) => if notIo d2 i && notIo d2 j then some (.nx, (d2.set i (.va x)).set j (.va y)) else none
    | none => none
  | none => none
theorem notIo_set {d : Ev} {i j : Nat} {x : D} (h : notIo d j = true) (hi : notIo d i = true) : notIo (d.set i (.va x)) j = true := by
  unfold notIo
  by_cases e : j = i
  · subst e; rw [set_get (notIo_lt hi)]
  · rw [List.getElem?_set_ne (Ne.symm e)]; exact h
theorem ls_par {i j : Nat} {x y : Str} {px py pt : Pos} {kt k2 pt2} (hc : X.calm = true) (hN : X.N.Nodup) (hi : X.N[i]? = some x) (hj : X.N[j]? = some y) (hij : i ≠ j)
    (hx : X.env.scope.names.lookup x = some .local) (hy : X.env.scope.names.lookup y = some .local) (ha : LE G X a f) (hb : LE G X b h)
    (hw : swappedStores [.Tuple [.Name x px, .Name y py] kt pt] (.Tuple [a, b] k2 pt2) X.env = pure (some [x, y]))
    (hs : swapsWithSole [.Tuple [.Name x px, .Name y py] kt pt] (.Tuple [a, b] k2 pt2) pos.line X.env = pure false := by rfl)
    (h1 : starEach [a, b] X.env = (false, eval a X.env) :: starEach [b] X.env := by rfl) (h2 : starEach [b] X.env = (false, eval b X.env) :: starEach [] X.env := by rfl) :
    LS G X (.Assign [.Tuple [.Name x px, .Name y py] kt pt] (.Tuple [a, b] k2 pt2) pos) (sp2 i j f h) := ps_weak (ps_par hc hN hi hj hij hx hy (pa_cons ha (pa_cons hb pa_nil h2) h1) hw hs) fun D s H ⟨g, S, d, fl, d', z, e, q⟩ => by
  unfold sp2 at e
  split at e
  · rename_i x1 d1 e1
    split at e
    · rename_i x2 d2 e2
      split at e
      · rename_i e3
        rw [Bool.and_eq_true] at e3
        cases e
        refine ⟨g, S, d, x1, d1, z, e1, fun v H1 S1 sm1 z1 r1 => ⟨g, S1, d1, x2, d2, z1, e2, fun w H2 S2 sm2 z2 r2 => ⟨v, w, rfl, ?_⟩⟩⟩
        exact q _ H2 S2 (sm1.trans sm2) ((z2.setVa e3.1 (r1.mono sm2)).setVa (notIo_set e3.2 e3.1) r2)
      · cases e
    · cases e
  · cases e
/-- the second one a new object of one's own -/
def sp2F (i j : Nat) (f h : DE) : DS := fun d => match f d with
  | some (x, d1) => match h d1 with
    | some (y, d2) => if notIo d2 i && notIo d2 j then some (.nx, (d2.set i (.va x)).set j (.ow y)) else none
    | none => none
  | none => none
theorem ls_parF {i j : Nat} {x y : Str} {px py pt : Pos} {kt k2 pt2} (hc : X.calm = true) (hN : X.N.Nodup) (hi : X.N[i]? = some x) (hj : X.N[j]? = some y) (hij : i ≠ j)
    (hx : X.env.scope.names.lookup x = some .local) (hy : X.env.scope.names.lookup y = some .local) (ha : LE G X a f) (hb : LF G X b h)
    (hw : swappedStores [.Tuple [.Name x px, .Name y py] kt pt] (.Tuple [a, b] k2 pt2) X.env = pure (some [x, y]))
    (hs : swapsWithSole [.Tuple [.Name x px, .Name y py] kt pt] (.Tuple [a, b] k2 pt2) pos.line X.env = pure false := by rfl)
    (h1 : starEach [a, b] X.env = (false, eval a X.env) :: starEach [b] X.env := by rfl) (h2 : starEach [b] X.env = (false, eval b X.env) :: starEach [] X.env := by rfl) :
    LS G X (.Assign [.Tuple [.Name x px, .Name y py] kt pt] (.Tuple [a, b] k2 pt2) pos) (sp2F i j f h) := ps_weak (ps_par hc hN hi hj hij hx hy (pa_cons ha (pa_cons hb pa_nil h2) h1) hw hs) fun D s H ⟨g, S, d, fl, d', z, e, q⟩ => by
  unfold sp2F at e
  split at e
  · rename_i x1 d1 e1
    split at e
    · rename_i x2 d2 e2
      split at e
      · rename_i e3
        rw [Bool.and_eq_true] at e3
        cases e
        refine ⟨g, S, d, x1, d1, z, e1, fun v H1 S1 sm1 z1 r1 => ⟨g, S1, d1, x2, d2, z1, e2, fun a H2 S2 sm2 z2 ct k1 k2 k3 k4 => ⟨v, _, rfl, ?_⟩⟩⟩
        refine q _ H2 S2 (sm1.trans sm2) ((z2.setVa e3.1 (r1.mono sm2)).set (notIo_set e3.2 e3.1) ⟨a, rfl, ct, k1, k2, k3⟩ (fun _ q => nomatch q) fun b _ eb m o => ?_)
        cases eb
        rcases o.of_set with ⟨_, o1, _⟩ | ⟨_, o1⟩
        · cases o1
        · exact k4 m o1
      · cases e
    · cases e
  · cases e
end

/-! ### the end -/
section
variable {P : Program} {w : World} {K : PySem.W.Frag} {mg : Str → Option Value} {base : Heap} {f : Addr} {fd : FuncData} {k : Nat} {x : Str} {F : FD}
def spLaw (K : PySem.W.Frag) : Sp := fun vs H Q _ => ∃ (a : Addr) (ns : List Int), vs = [.ref a] ∧ SqL K H a (ns.map V.int) ∧ ns.length ≤ 63 ∧ ∀ H', Q (.bl true) H'
theorem law_ok {G : Cls} (hK : G.K = K) (h : FnOk P w K mg base CX0 k f fd [x] (spD G 1 F)) (m : ∀ ns : List Int, ns.length ≤ 63 → F [.va (.scr ns)] = some (.bl true, [.no])) : FnOk P w K mg base CX0 k f fd [x] (spLaw K) := h.imp fun vs H Q E ⟨a, ns, e, hs, hl, q⟩ => by
  subst e
  refine ⟨rfl, ⟨H, H, H, fun _ => none⟩, H, [.va (.scr ns)], .bl true, [.no], ?_, m ns hl, fun v H' S' _ _ r => by rw [inv_bl r]; exact q H'⟩
  refine ⟨.refl _, .refl _, fun b o e => .inl e, .refl _, fun b e => e, rfl, fun i x e => ?_, fun i j a _ o => ?_, fun i a e => nomatch e⟩
  · cases i with
    | zero =>
      cases e
      exact ⟨_, rfl, _, rfl, by unfold Rep; exact ⟨a, rfl, by rw [hK]; exact hs⟩⟩
    | succ i => simp at e
  · obtain ⟨x, e1, e2, _⟩ := o
    cases i with
    | zero => cases e1; cases e2
    | succ i => simp at e1
end
end Zr

/-! Zr: reckoning with the data functions. -/
namespace Zr
open PySem L2
def Sl.nio : Sl → Bool
  | .io _ => false
  | _ => true
theorem notIo_eq (d : Ev) (i : Nat) : notIo d i = (match d[i]? with | some x => x.nio | none => false) := by
  unfold notIo
  split <;> (rename_i e; simp only [e])
  · rfl
  · rename_i h
    cases ‹Sl› with
    | io y => exact absurd rfl (h y)
    | no => rfl
    | va _ => rfl
    | ow _ => rfl
theorem nio_no : Sl.nio .no = true := rfl
theorem nio_va {x : D} : Sl.nio (.va x) = true := rfl
theorem nio_ow {x : D} : Sl.nio (.ow x) = true := rfl
theorem isO_no : Sl.isO .no = false := rfl
theorem isO_va {x : D} : Sl.isO (.va x) = false := rfl
theorem isO_ow {x : D} : Sl.isO (.ow x) = true := rfl
theorem isO_io {x : D} : Sl.isO (.io x) = true := rfl
theorem nio_of {x : Sl} (h : x.isO = false) : x.nio = true := by cases x <;> first | rfl | cases h
/-- ints: what an operation gives where its sizes fit -/
theorem iMul_of {a b : Int} (h : CMulW a b) : iMul a b = some (a * b) := if_pos h
theorem iDiv_pos {a b : Int} (h : 0 < b) (hb : b.natAbs.log2 < 9000) : iDiv a b = some (a / b) := by
  unfold iDiv
  rw [if_pos ⟨by omega, hb⟩, Int.fdiv_eq_ediv_of_nonneg a (by omega)]
theorem iMod_pos {a b : Int} (h : 0 < b) : iMod a b = some (a % b) := by
  unfold iMod
  rw [if_pos (by omega), Int.fmod_eq_emod_of_nonneg a (by omega)]
theorem log2_lt {n k : Nat} (h : n < 2 ^ k) (hk : 0 < k) : n.log2 < k := PySem.Flt.log2_lt_of hk h
/-- both below 2 ^ 400000 -/
def sm (a : Int) : Prop := a.natAbs.log2 < 400000
theorem sm_of {a : Int} {k : Nat} (h : a.natAbs < 2 ^ k) (h0 : 0 < k) (hk : k ≤ 400000) : sm a := Nat.lt_of_lt_of_le (log2_lt h h0) hk
theorem sm64 {a : Int} (h : a.natAbs < 2 ^ 64) : sm a := sm_of h (by decide) (by decide)
theorem iMul_sm {a b : Int} (ha : sm a) (hb : sm b) : iMul a b = some (a * b) := iMul_of (by unfold sm at ha hb; show _ + _ < 1000000; omega)
/-- a multiplier below 2 ^ 64 by one below 2 ^ 64 -/
theorem iMul_64 {a b : Int} (ha : a.natAbs < 2 ^ 64) (hb : b.natAbs < 2 ^ 64) : iMul a b = some (a * b) := iMul_sm (sm64 ha) (sm64 hb)
theorem iDiv_64 {a b : Int} (h : 0 < b) (hb : b.natAbs < 2 ^ 64) : iDiv a b = some (a / b) := iDiv_pos h (Nat.lt_of_lt_of_le (log2_lt hb (by decide)) (by decide))

theorem atI_pos {α : Type} {xs : List α} {i : Int} (h : 0 ≤ i) : atI xs i = xs[i.toNat]? := by
  unfold atI ixN
  rw [if_pos h]
  split
  · rfl
  · rename_i q
    show none = _
    rw [List.getElem?_eq_none (by omega)]
theorem atI_neg {α : Type} {xs : List α} {i : Int} (h : i < 0) (h2 : -(xs.length : Int) ≤ i) : atI xs i = xs[(i + xs.length).toNat]? := by
  unfold atI ixN
  rw [if_neg (by omega), if_pos h2]
  rfl
theorem atI_0 {α : Type} {xs : List α} : atI xs 0 = xs[0]? := atI_pos (by decide)
theorem atI_1 {α : Type} {xs : List α} : atI xs 1 = xs[1]? := atI_pos (by decide)
theorem atI_2 {α : Type} {xs : List α} : atI xs 2 = xs[2]? := atI_pos (by decide)
theorem atI_3 {α : Type} {xs : List α} : atI xs 3 = xs[3]? := atI_pos (by decide)
theorem ixN_pos {n : Nat} {i : Int} (h : 0 ≤ i) (h2 : i < n) : ixN n i = some i.toNat := by
  unfold ixN
  rw [if_pos h, if_pos h2]
theorem ixN_0 {n : Nat} : ixN (n + 1) 0 = some 0 := ixN_pos (by decide) (by omega)
theorem ixN_1 {n : Nat} : ixN (n + 2) 1 = some 1 := ixN_pos (by decide) (by omega)
theorem ixN_2 {n : Nat} : ixN (n + 3) 2 = some 2 := ixN_pos (by decide) (by omega)
/-! the primitives at data of known form -/
def oI : Option Int → Option D
  | some c => some (.int c)
  | none => none
theorem oI_some {c : Int} : oI (some c) = some (.int c) := rfl
section
variable {a b : Int} {x y : D} {ds es : List D} {ns : List Int} {p q : Bool} {s t : Str}
theorem ii_int {k : Int → Int → Option Int} : ii k (.int a) (.int b) = oI (k a b) := by
  show (match k a b with | some c => some (D.int c) | none => none) = _
  cases k a b <;> rfl
theorem subD_int : subD (.int a) (.int b) = some (.int (a - b)) := rfl
theorem divD_int : divD (.int a) (.int b) = oI (iDiv a b) := ii_int
theorem modD_int : modD (.int a) (.int b) = oI (iMod a b) := ii_int
theorem powD_int : powD (.int a) (.int b) = oI (iPow a b) := ii_int
theorem mulD_int : mulD (.int a) (.int b) = oI (iMul a b) := by
  show (match iMul a b with | some c => some (D.int c) | none => none) = _
  cases iMul a b <;> rfl
theorem addD_int : addD (.int a) (.int b) = some (.int (a + b)) := rfl
theorem addD_lst : addD (.lst ds) (.lst es) = (if ds.length + es.length ≤ sizeLine then some (.lst (ds ++ es)) else none) := rfl
theorem addD_tup : addD (.tup ds) (.tup es) = (if ds.length + es.length ≤ sizeLine then some (.tup (ds ++ es)) else none) := rfl
theorem addD_str : addD (.str s) (.str t) = (if s.length + t.length ≤ sizeLine then some (.str (s ++ t)) else none) := rfl
theorem iNeg_int : iNeg (.int a) = some (.int (-a)) := rfl
theorem ltD_int : ltD (.int a) (.int b) = some (.bl (decide (a < b))) := rfl
theorem leD_int : leD (.int a) (.int b) = some (.bl (decide (a ≤ b))) := rfl
theorem gtD_int : gtD (.int a) (.int b) = some (.bl (decide (b < a))) := rfl
theorem geD_int : geD (.int a) (.int b) = some (.bl (decide (b ≤ a))) := rfl
theorem nInt_int : nInt [.int a] = some (.int a) := rfl
theorem nInt_bl : nInt [.bl p] = some (.int (if p then 1 else 0)) := rfl
theorem nAbs_int : nAbs [.int a] = some (.int (if a < 0 then -a else a)) := rfl
theorem nLen_lst : nLen [.lst ds] = some (.int ds.length) := rfl
theorem nLen_tup : nLen [.tup ds] = some (.int ds.length) := rfl
theorem nLen_scr : nLen [.scr ns] = some (.int ns.length) := rfl
theorem nMax2_int : nMax2 [.int a, .int b] = some (.int (if b > a then b else a)) := rfl
theorem nMin2_int : nMin2 [.int a, .int b] = some (.int (if b < a then b else a)) := rfl
theorem nStr_int : nStr [.int a] = (if a.natAbs.log2 < 1920 then some (.str (toString a)) else none) := rfl
theorem nTup_tup : nTup [.tup ds] = some (.tup ds) := rfl
theorem nTup_lst : nTup [.lst ds] = some (.tup ds) := rfl
theorem nLst_tup : nLst [.tup ds] = some (.lst ds) := rfl
theorem nLst_lst : nLst [.lst ds] = some (.lst ds) := rfl
theorem nLst_scr : nLst [.scr ns] = some (.lst (ns.map D.int)) := rfl
theorem ixD_lst : ixD (.lst ds) (.int a) = atI ds a := rfl
theorem ixD_tup : ixD (.tup ds) (.int a) = atI ds a := rfl
theorem ixD_scr {n : Int} (h : atI ns a = some n) : ixD (.scr ns) (.int a) = some (.int n) := by
  show (match atI ns a with | some n => some (D.int n) | none => none) = _
  rw [h]
theorem itD_lst : itD (.lst ds) = some ds := rfl
theorem itD_tup : itD (.tup ds) = some ds := rfl
theorem itD_scr : itD (.scr ns) = some (ns.map D.int) := rfl
theorem isN_non : isN x .non = some (.bl (isNonD x)) := by cases x <;> rfl
theorem noN_non : noN x .non = some (.bl (!isNonD x)) := by cases x <;> rfl
theorem isN_bl : isN (.bl p) (.bl q) = some (.bl (p == q)) := rfl
theorem noN_bl : noN (.bl p) (.bl q) = some (.bl (!(p == q))) := rfl
theorem slD_lst {lo hi : Option Int} : slD (.lst ds) lo hi = some (.lst (cutL ds lo hi)) := rfl
theorem slD_tup {lo hi : Option Int} : slD (.tup ds) lo hi = some (.tup (cutL ds lo hi)) := rfl
theorem slD_scr {lo hi : Option Int} : slD (.scr ns) lo hi = some (.lst ((cutL ns lo hi).map D.int)) := rfl
theorem isNonD_non : isNonD .non = true := rfl
theorem isNonD_int : isNonD (.int a) = false := rfl
theorem isNonD_tup : isNonD (.tup ds) = false := rfl
theorem isNonD_lst : isNonD (.lst ds) = false := rfl
theorem isNonD_str : isNonD (.str s) = false := rfl
theorem isNonD_bl : isNonD (.bl p) = false := rfl
theorem asL_lst : asL (.lst ds) = some ds := rfl
theorem kind_int : kind (.int a) = 2 := rfl
theorem kind_bl : kind (.bl p) = 1 := rfl
theorem kind_non : kind .non = 0 := rfl
theorem kind_str : kind (.str s) = 3 := rfl
theorem kind_tup : kind (.tup ds) = 4 := rfl
theorem kind_lst : kind (.lst ds) = 5 := rfl
theorem kind_ob {c : Nat} : kind (.ob c ds) = 7 + c := rfl
end
theorem rgD_mem {lo hi : Int} {x : D} (h : x ∈ rgD lo hi) : ∃ k : Int, x = .int k ∧ lo ≤ k ∧ k < hi := by
  unfold rgD at h
  obtain ⟨i, hi, rfl⟩ := List.mem_map.mp h
  have := List.mem_range.mp hi
  exact ⟨_, rfl, by omega, by omega⟩
theorem rgD_len {lo hi : Int} : (rgD lo hi).length = (hi - lo).toNat := by unfold rgD; simp
theorem rgOk_small {lo hi : Int} (h1 : -1000000000 ≤ lo) (h2 : lo ≤ 1000000000) (h3 : -1000000000 ≤ hi) (h4 : hi ≤ 1000000000) : rgOk lo hi = true := decide_eq_true ⟨by omega, by omega, by omega, by omega⟩
theorem fo_nx {t : DG} {B : DS} {x : D} {xs : List D} {d d1 d2 : Ev} (ht : t x d = some d1) (hb : B d1 = some (.nx, d2)) : fo t B (x :: xs) d = fo t B xs d2 := by
  conv => lhs; unfold fo
  simp only [ht, hb]
theorem fo_ct {t : DG} {B : DS} {x : D} {xs : List D} {d d1 d2 : Ev} (ht : t x d = some d1) (hb : B d1 = some (.ct, d2)) : fo t B (x :: xs) d = fo t B xs d2 := by
  conv => lhs; unfold fo
  simp only [ht, hb]
theorem fo_rt {t : DG} {B : DS} {x v : D} {xs : List D} {d d1 d2 : Ev} (ht : t x d = some d1) (hb : B d1 = some (.rt v, d2)) : fo t B (x :: xs) d = some (.rt v, d2) := by
  conv => lhs; unfold fo
  simp only [ht, hb]
/-- a loop that ends each turn at its end, by an invariant -/
theorem fo_inv {t : DG} {B : DS} (I : Ev → Prop) : ∀ {xs : List D} {d : Ev}, (∀ x ∈ xs, ∀ d, I d → ∃ d1 d2, t x d = some d1 ∧ B d1 = some (.nx, d2) ∧ I d2) → I d → ∃ d', fo t B xs d = some (.nx, d') ∧ I d'
  | [], d, _, h => ⟨d, rfl, h⟩
  | x :: xs, d, step, h => by
    obtain ⟨d1, d2, e1, e2, h2⟩ := step x List.mem_cons_self d h
    obtain ⟨d', e3, h3⟩ := fo_inv I (xs := xs) (fun y hy => step y (List.mem_cons_of_mem _ hy)) h2
    exact ⟨d', by unfold fo; simp only [e1, e2]; exact e3, h3⟩
/-- .. with the turn's number and what was walked -/
theorem fo_invI {t : DG} {B : DS} (I : Nat → Ev → Prop) : ∀ {xs : List D} {d : Ev} (k : Nat), (∀ i x d, xs[i]? = some x → I (k + i) d → ∃ d1 d2, t x d = some d1 ∧ B d1 = some (.nx, d2) ∧ I (k + i + 1) d2) → I k d → ∃ d', fo t B xs d = some (.nx, d') ∧ I (k + xs.length) d'
  | [], d, k, _, h => ⟨d, rfl, h⟩
  | x :: xs, d, k, step, h => by
    obtain ⟨d1, d2, e1, e2, h2⟩ := step 0 x d rfl h
    obtain ⟨d', e3, h3⟩ := fo_invI I (xs := xs) (k + 1) (fun i y d hy hi => by
      have e : k + 1 + i = k + (i + 1) := by omega
      rw [e] at hi ⊢
      exact step (i + 1) y d (by simpa using hy) hi) h2
    refine ⟨d', by unfold fo; simp only [e1, e2]; exact e3, ?_⟩
    have e : k + 1 + xs.length = k + (x :: xs).length := by simp only [List.length_cons]; omega
    rw [e] at h3
    exact h3
/-- a comprehension without a test -/
theorem cl_inv {own : List Nat} {t : DG} {f : DE} (I : Ev → Prop) (R : D → D → Prop) : ∀ {xs : List D} {d : Ev},
    (∀ x ∈ xs, ∀ d, I d → okO d own = true ∧ ∃ d1 y d2, t x (wp d own) = some d1 ∧ f d1 = some (y, d2) ∧ okO d2 own = true ∧ R x y ∧ I (bk own d d2)) → I d →
    ∃ (ys : List D) (d' : Ev), cl own t yes f xs d = some (ys, d') ∧ I d' ∧ ys.length = xs.length ∧ ∀ (i : Nat) (x y : D), xs[i]? = some x → ys[i]? = some y → R x y
  | [], d, _, h => ⟨[], d, rfl, h, rfl, fun i x y e _ => by simp at e⟩
  | x :: xs, d, step, h => by
    obtain ⟨o1, d1, y, d2, e1, e2, o2, r, h2⟩ := step x List.mem_cons_self d h
    obtain ⟨ys, d', e3, h3, hl, hr⟩ := cl_inv I R (xs := xs) (fun y hy => step y (List.mem_cons_of_mem _ hy)) h2
    refine ⟨y :: ys, d', by unfold cl; simp only [o1, e1, yes, e2, o2, e3, if_true], h3, by simp [hl], fun i a b ea eb => ?_⟩
    cases i with
    | zero => simp at ea eb; subst ea; subst eb; exact r
    | succ i => exact hr i a b (by simpa using ea) (by simpa using eb)
/-- .. of ints -/
theorem cl_ints {own : List Nat} {t : DG} {f : DE} (I : Ev → Prop) (P : Int → Prop) : ∀ {xs : List D} {d : Ev},
    (∀ x ∈ xs, ∀ d, I d → okO d own = true ∧ ∃ d1 v d2, t x (wp d own) = some d1 ∧ f d1 = some (.int v, d2) ∧ okO d2 own = true ∧ P v ∧ I (bk own d d2)) → I d →
    ∃ (vs : List Int) (d' : Ev), cl own t yes f xs d = some (vs.map D.int, d') ∧ I d' ∧ vs.length = xs.length ∧ ∀ v ∈ vs, P v
  | [], d, _, h => ⟨[], d, rfl, h, rfl, fun v e => nomatch e⟩
  | x :: xs, d, step, h => by
    obtain ⟨o1, d1, v, d2, e1, e2, o2, r, h2⟩ := step x List.mem_cons_self d h
    obtain ⟨vs, d', e3, h3, hl, hr⟩ := cl_ints I P (xs := xs) (fun y hy => step y (List.mem_cons_of_mem _ hy)) h2
    refine ⟨v :: vs, d', by unfold cl; simp only [o1, e1, yes, e2, o2, e3, if_true, List.map_cons], h3, by simp [hl], fun w hw => ?_⟩
    rcases List.mem_cons.mp hw with rfl | hw
    · exact r
    · exact hr w hw
/-- .. that leaves the slots as they are and gives a function's values -/
theorem cl_map {own : List Nat} {t : DG} {f : DE} {d : Ev} (g : D → D) (ho : okO d own = true) : ∀ {xs : List D},
    (∀ x ∈ xs, ∃ d1 d2, t x (wp d own) = some d1 ∧ f d1 = some (g x, d2) ∧ okO d2 own = true ∧ bk own d d2 = d) → cl own t yes f xs d = some (xs.map g, d)
  | [], _ => rfl
  | x :: xs, step => by
    obtain ⟨d1, d2, e1, e2, o2, h2⟩ := step x List.mem_cons_self
    have ih := cl_map (xs := xs) g ho fun y hy => step y (List.mem_cons_of_mem _ hy)
    unfold cl
    simp only [ho, e1, yes, e2, o2, h2, ih, if_true, List.map_cons]
end Zr

/-! Zr: == of plain data is equality. -/
namespace Zr
open PySem L2
mutual
/-- plain data: b: with bools and no ints, else with ints and no bools -/
def pl (b : Bool) : Nat → D → Bool
  | _, .non => true
  | _, .bl _ => b
  | _, .int _ => !b
  | _, .str x => PyData.strOk x
  | n + 1, .tup ds => plL b n ds
  | n + 1, .lst ds => plL b n ds
  | _, _ => false
def plL (b : Bool) : Nat → List D → Bool
  | _, [] => true
  | n, d :: ds => pl b n d && plL b n ds
end
mutual
theorem pl_py {b : Bool} : ∀ {n : Nat} {d : D}, pl b n d = true → ∃ p, py d = some p ∧ p.canLay0 = true ∧ p.depth ≤ n
  | _, .non, _ => ⟨_, rfl, rfl, Nat.zero_le _⟩
  | _, .bl _, _ => ⟨_, rfl, rfl, Nat.zero_le _⟩
  | _, .int _, _ => ⟨_, rfl, rfl, Nat.zero_le _⟩
  | n, .str x, h => by cases n <;> exact ⟨_, rfl, h, Nat.zero_le _⟩
  | n + 1, .tup ds, h => by
    have h : plL b n ds = true := h
    obtain ⟨ps, e, c, d⟩ := plL_py h
    exact ⟨.tuple ps, by unfold py; rw [e], c, by show PyData.depthAll ps + 1 ≤ n + 1; omega⟩
  | n + 1, .lst ds, h => by
    have h : plL b n ds = true := h
    obtain ⟨ps, e, c, d⟩ := plL_py h
    exact ⟨.list ps, by unfold py; rw [e], c, by show PyData.depthAll ps + 1 ≤ n + 1; omega⟩
  | 0, .tup _, h => by cases h
  | 0, .lst _, h => by cases h
  | 0, .ob _ _, h => by cases h
  | 0, .fn _, h => by cases h
  | 0, .scr _, h => by cases h
  | _ + 1, .ob _ _, h => by cases h
  | _ + 1, .fn _, h => by cases h
  | _ + 1, .scr _, h => by cases h
theorem plL_py {b : Bool} : ∀ {n : Nat} {ds : List D}, plL b n ds = true → ∃ ps, pyL ds = some ps ∧ PyData.canLayAll0 ps = true ∧ PyData.depthAll ps ≤ n
  | _, [], _ => ⟨[], rfl, rfl, Nat.zero_le _⟩
  | n, d :: ds, h => by
    have h : (pl b n d && plL b n ds) = true := by cases n <;> exact h
    rw [Bool.and_eq_true] at h
    obtain ⟨p, e, c, q⟩ := pl_py h.1
    obtain ⟨ps, es, cs, qs⟩ := plL_py h.2
    refine ⟨p :: ps, by unfold pyL; rw [e]; simp only [es], ?_, ?_⟩
    · show (p.canLay0 && PyData.canLayAll0 ps) = true
      rw [c, cs]; rfl
    · show max p.depth (PyData.depthAll ps) ≤ n
      omega
end
mutual
theorem pl_inj {b : Bool} : ∀ {n m : Nat} {d e : D} {p q : PyData}, pl b n d = true → pl b m e = true → py d = some p → py e = some q → (PyData.eqv p q = true ↔ d = e)
  | n, m, .non, e, p, q, h1, h2, ep, eq => by
    cases ep
    cases e with
    | non => cases eq; exact ⟨fun _ => rfl, fun _ => rfl⟩
    | bl y => cases eq; exact ⟨fun h => Bool.noConfusion (show false = true from h), fun h => by cases h⟩
    | int y => cases eq; exact ⟨fun h => Bool.noConfusion (show false = true from h), fun h => by cases h⟩
    | str y => cases eq; exact ⟨fun h => Bool.noConfusion (show false = true from h), fun h => by cases h⟩
    | tup ys =>
      unfold py at eq
      split at eq
      · cases eq; exact ⟨fun h => Bool.noConfusion (show false = true from h), fun h => by cases h⟩
      · cases eq
    | lst ys =>
      unfold py at eq
      split at eq
      · cases eq; exact ⟨fun h => Bool.noConfusion (show false = true from h), fun h => by cases h⟩
      · cases eq
    | scr ys => cases eq; exact ⟨fun h => Bool.noConfusion (show false = true from h), fun h => by cases h⟩
    | ob y z => unfold py at eq; cases eq
    | fn y => unfold py at eq; cases eq
  | n, m, .bl x, e, p, q, h1, h2, ep, eq => by
    cases ep
    have hb : b = true := by cases n <;> exact h1
    subst hb
    cases e with
    | non  => cases eq; exact ⟨fun h => Bool.noConfusion (show false = true from h), fun h => by cases h⟩
    | bl y => cases eq; exact ⟨fun h => by rw [eq_of_beq (show (x == y) = true from h)], fun h => by cases h; exact beq_self_eq_true _⟩
    | int y => cases m <;> cases h2
    | str y => cases eq; exact ⟨fun h => Bool.noConfusion (show false = true from h), fun h => by cases h⟩
    | tup ys =>
      unfold py at eq
      split at eq
      · cases eq; exact ⟨fun h => Bool.noConfusion (show false = true from h), fun h => by cases h⟩
      · cases eq
    | lst ys =>
      unfold py at eq
      split at eq
      · cases eq; exact ⟨fun h => Bool.noConfusion (show false = true from h), fun h => by cases h⟩
      · cases eq
    | scr ys => cases eq; exact ⟨fun h => Bool.noConfusion (show false = true from h), fun h => by cases h⟩
    | ob y z => unfold py at eq; cases eq
    | fn y => unfold py at eq; cases eq
  | n, m, .int x, e, p, q, h1, h2, ep, eq => by
    cases ep
    have hb : b = false := by cases n <;> simpa [pl] using h1
    subst hb
    cases e with
    | non  => cases eq; exact ⟨fun h => Bool.noConfusion (show false = true from h), fun h => by cases h⟩
    | bl y => cases m <;> cases h2
    | int y => cases eq; exact ⟨fun h => by rw [eq_of_beq (show (x == y) = true from h)], fun h => by cases h; exact beq_self_eq_true _⟩
    | str y => cases eq; exact ⟨fun h => Bool.noConfusion (show false = true from h), fun h => by cases h⟩
    | tup ys =>
      unfold py at eq
      split at eq
      · cases eq; exact ⟨fun h => Bool.noConfusion (show false = true from h), fun h => by cases h⟩
      · cases eq
    | lst ys =>
      unfold py at eq
      split at eq
      · cases eq; exact ⟨fun h => Bool.noConfusion (show false = true from h), fun h => by cases h⟩
      · cases eq
    | scr ys => cases eq; exact ⟨fun h => Bool.noConfusion (show false = true from h), fun h => by cases h⟩
    | ob y z => unfold py at eq; cases eq
    | fn y => unfold py at eq; cases eq
  | n, m, .str x, e, p, q, h1, h2, ep, eq => by
    cases ep
    cases e with
    | non  => cases eq; exact ⟨fun h => Bool.noConfusion (show false = true from h), fun h => by cases h⟩
    | bl y => cases eq; exact ⟨fun h => Bool.noConfusion (show false = true from h), fun h => by cases h⟩
    | int y => cases eq; exact ⟨fun h => Bool.noConfusion (show false = true from h), fun h => by cases h⟩
    | str y => cases eq; exact ⟨fun h => by rw [eq_of_beq (show (x == y) = true from h)], fun h => by cases h; exact beq_self_eq_true _⟩
    | tup ys =>
      unfold py at eq
      split at eq
      · cases eq; exact ⟨fun h => Bool.noConfusion (show false = true from h), fun h => by cases h⟩
      · cases eq
    | lst ys =>
      unfold py at eq
      split at eq
      · cases eq; exact ⟨fun h => Bool.noConfusion (show false = true from h), fun h => by cases h⟩
      · cases eq
    | scr ys => cases eq; exact ⟨fun h => Bool.noConfusion (show false = true from h), fun h => by cases h⟩
    | ob y z => unfold py at eq; cases eq
    | fn y => unfold py at eq; cases eq
  | n + 1, m, .tup xs, e, p, q, h1, h2, ep, eq => by
    have h1 : plL b n xs = true := h1
    unfold py at ep
    split at ep
    · rename_i ps e1
      cases ep
      cases e with
      | tup ys =>
        cases m with
        | zero => cases h2
        | succ m =>
          have h2 : plL b m ys = true := h2
          unfold py at eq
          split at eq
          · rename_i qs e2
            cases eq
            have := plL_inj h1 h2 e1 e2
            exact ⟨fun h => by rw [this.mp (show PyData.eqvAll ps qs = true from h)], fun h => this.mpr (by cases h; rfl)⟩
          · cases eq
      | lst ys =>
        unfold py at eq
        split at eq
        · cases eq; exact ⟨fun h => Bool.noConfusion (show false = true from h), fun h => by cases h⟩
        · cases eq
      | non => cases eq; exact ⟨fun h => Bool.noConfusion (show false = true from h), fun h => by cases h⟩
      | bl _ => cases eq; exact ⟨fun h => Bool.noConfusion (show false = true from h), fun h => by cases h⟩
      | int _ => cases eq; exact ⟨fun h => Bool.noConfusion (show false = true from h), fun h => by cases h⟩
      | str _ => cases eq; exact ⟨fun h => Bool.noConfusion (show false = true from h), fun h => by cases h⟩
      | scr _ => cases eq; exact ⟨fun h => Bool.noConfusion (show false = true from h), fun h => by cases h⟩
      | ob _ _ => cases eq
      | fn _ => cases eq
    · cases ep
  | n + 1, m, .lst xs, e, p, q, h1, h2, ep, eq => by
    have h1 : plL b n xs = true := h1
    unfold py at ep
    split at ep
    · rename_i ps e1
      cases ep
      cases e with
      | lst ys =>
        cases m with
        | zero => cases h2
        | succ m =>
          have h2 : plL b m ys = true := h2
          unfold py at eq
          split at eq
          · rename_i qs e2
            cases eq
            have := plL_inj h1 h2 e1 e2
            exact ⟨fun h => by rw [this.mp (show PyData.eqvAll ps qs = true from h)], fun h => this.mpr (by cases h; rfl)⟩
          · cases eq
      | tup ys =>
        unfold py at eq
        split at eq
        · cases eq; exact ⟨fun h => Bool.noConfusion (show false = true from h), fun h => by cases h⟩
        · cases eq
      | scr _ => cases m <;> cases h2
      | non => cases eq; exact ⟨fun h => Bool.noConfusion (show false = true from h), fun h => by cases h⟩
      | bl _ => cases eq; exact ⟨fun h => Bool.noConfusion (show false = true from h), fun h => by cases h⟩
      | int _ => cases eq; exact ⟨fun h => Bool.noConfusion (show false = true from h), fun h => by cases h⟩
      | str _ => cases eq; exact ⟨fun h => Bool.noConfusion (show false = true from h), fun h => by cases h⟩
      | ob _ _ => cases eq
      | fn _ => cases eq
    · cases ep
  | 0, _, .tup _, _, _, _, h, _, _, _ => by cases h
  | 0, _, .lst _, _, _, _, h, _, _, _ => by cases h
  | 0, _, .scr _, _, _, _, h, _, _, _ => by cases h
  | _ + 1, _, .scr _, _, _, _, h, _, _, _ => by cases h
  | _, _, .ob _ _, _, _, _, _, _, h, _ => by cases h
  | _, _, .fn _, _, _, _, _, _, h, _ => by cases h
termination_by _ _ d => sizeOf d
theorem plL_inj {b : Bool} : ∀ {n m : Nat} {ds es : List D} {ps qs : List PyData}, plL b n ds = true → plL b m es = true → pyL ds = some ps → pyL es = some qs → (PyData.eqvAll ps qs = true ↔ ds = es)
  | _, _, [], [], _, _, _, _, e1, e2 => by cases e1; cases e2; simp [PyData.eqvAll]
  | _, _, [], e :: es, _, qs, _, _, e1, e2 => by
    cases e1
    unfold pyL at e2
    split at e2
    · split at e2
      · cases e2; simp [PyData.eqvAll]
      · cases e2
    · cases e2
  | _, _, d :: ds, [], ps, _, _, _, e1, e2 => by
    cases e2
    unfold pyL at e1
    split at e1
    · split at e1
      · cases e1; simp [PyData.eqvAll]
      · cases e1
    · cases e1
  | n, m, d :: ds, e :: es, ps, qs, h1, h2, e1, e2 => by
    have h1 : (pl b n d && plL b n ds) = true := by cases n <;> exact h1
    have h2 : (pl b m e && plL b m es) = true := by cases m <;> exact h2
    rw [Bool.and_eq_true] at h1 h2
    unfold pyL at e1 e2
    split at e1
    · rename_i p ep
      split at e1
      · rename_i ps' eps
        cases e1
        split at e2
        · rename_i q eq
          split at e2
          · rename_i qs' eqs
            cases e2
            have i1 := pl_inj h1.1 h2.1 ep eq
            have i2 := plL_inj h1.2 h2.2 eps eqs
            simp only [PyData.eqvAll, Bool.and_eq_true, i1, i2, List.cons.injEq]
          · cases e2
        · cases e2
      · cases e1
    · cases e1
termination_by _ _ d => sizeOf d
end
open Classical in
theorem eqP_pl {b : Bool} {x y : D} (hx : pl b 64 x = true) (hy : pl b 64 y = true) : eqP x y = some (decide (x = y)) := by
  obtain ⟨p, e1, c1, d1⟩ := pl_py hx
  obtain ⟨q, e2, c2, d2⟩ := pl_py hy
  unfold eqP
  rw [e1, e2]
  have s1 : SeqAt.shaped p = true := by unfold SeqAt.shaped; rw [c1, decide_eq_true d1]; rfl
  have s2 : SeqAt.shaped q = true := by unfold SeqAt.shaped; rw [c2, decide_eq_true d2]; rfl
  simp only [s1, s2, Bool.and_self, if_true]
  have i := pl_inj hx hy e1 e2
  by_cases h : x = y
  · rw [decide_eq_true h, i.mpr h]
  · rw [decide_eq_false h]
    cases hq : PyData.eqv p q with
    | false => rfl
    | true => exact absurd (i.mp hq) h
theorem eqD_same {b : Bool} {x : D} (hx : pl b 64 x = true) : eqD x x = some (.bl true) := by unfold eqD; rw [eqP_pl hx hx]; simp
theorem neD_same {b : Bool} {x : D} (hx : pl b 64 x = true) : neD x x = some (.bl false) := by unfold neD; rw [eqP_pl hx hx]; simp
theorem eqD_ne {b : Bool} {x y : D} (hx : pl b 64 x = true) (hy : pl b 64 y = true) (h : x ≠ y) : eqD x y = some (.bl false) := by unfold eqD; rw [eqP_pl hx hy]; simp [h]
theorem neD_ne {b : Bool} {x y : D} (hx : pl b 64 x = true) (hy : pl b 64 y = true) (h : x ≠ y) : neD x y = some (.bl true) := by unfold neD; rw [eqP_pl hx hy]; simp [h]
theorem eqD_int {a b : Int} : eqD (.int a) (.int b) = some (.bl (decide (a = b))) := by
  unfold eqD; rw [eqP_pl (b := false) rfl rfl]; simp
theorem neD_int {a b : Int} : neD (.int a) (.int b) = some (.bl (!decide (a = b))) := by
  unfold neD; rw [eqP_pl (b := false) rfl rfl]; simp
theorem strOk_of (s : String) : PyData.strOk (Str.ofString s) = true := by
  unfold PyData.strOk
  rw [Str.ofString_eq_toList]
  simp only [List.all_toArray, List.all_map, List.all_eq_true, Function.comp_apply, decide_eq_true_eq]
  intro c _
  have := c.valid
  unfold UInt32.isValidChar Nat.isValidChar at this
  show c.val.toNat < _
  omega
theorem eqD_str {x y : Str} (hx : PyData.strOk x = true) (hy : PyData.strOk y = true) : eqD (.str x) (.str y) = some (.bl (decide (x = y))) := by
  unfold eqD; rw [eqP_pl (b := false) (x := .str x) (y := .str y) hx hy]; simp
theorem neD_str {x y : Str} (hx : PyData.strOk x = true) (hy : PyData.strOk y = true) : neD (.str x) (.str y) = some (.bl (!decide (x = y))) := by
  unfold neD; rw [eqP_pl (b := false) (x := .str x) (y := .str y) hx hy]; simp
theorem plL_ints {n : Nat} : ∀ ns : List Int, plL false n (ns.map D.int) = true
  | [] => by cases n <;> rfl
  | a :: r => by
    have ih := plL_ints (n := n) r
    cases n <;> (show (true && plL false _ (r.map D.int)) = true; rw [ih]; rfl)
theorem pl_ints {n : Nat} (ns : List Int) : pl false (n + 1) (.lst (ns.map D.int)) = true := plL_ints ns
theorem pl_tints {n : Nat} (ns : List Int) : pl false (n + 1) (.tup (ns.map D.int)) = true := plL_ints ns
end Zr

namespace K66
open PySem L2 Zr
def c_WALLS : D := (.tup [(.str "ring"), (.str "mirror"), (.str "zero")])
def tab_str : List (Nat × Bool) := [(0, false), (1, false), (2, false), (3, true), (4, false), (5, false)]
/- 0 _law_values, 1 _law_shut, 2 _law_cell, 3 _law_size, 4 _law_sign, 5 _law_turn -/
noncomputable def L_law_beyond_1 : DS :=
  (sq (ss (tb (ch leD ltD (kc (.int 0)) (nm 2) (nm 3)))
  (sr (b2 mulD (nm 4) (b2 ixD (nm 0) (nm 2))))
  sk)
  (ss (tb (b2 eqD (nm 1) (kc (.str "ring"))))
  (sa (fi (tb (b2 ltD (nm 2) (kc (.int 0)))) (b2 addD (nm 2) (nm 3)) (b2 subD (nm 2) (nm 3))) (gn 2))
  (ss (tb (b2 eqD (nm 1) (kc (.str "mirror"))))
  (sa (fi (tb (b2 ltD (nm 2) (kc (.int 0)))) (b2 subD (b2 subD (kc (.int 0)) (kc (.int 1))) (nm 2)) (b2 subD (b2 subD (b2 mulD (kc (.int 2)) (nm 3)) (kc (.int 1))) (nm 2))) (gn 2))
  (ss (tb (b2 inD (nm 2) (dt (ac (b2 subD (kc (.int 0)) (kc (.int 1))) (ac (nm 3) an)))))
  (sr (kc (.int 0)))
  (sp2 2 4 (fi (tb (b2 ltD (nm 2) (kc (.int 0)))) (b2 subD (b2 subD (kc (.int 0)) (kc (.int 2))) (nm 2)) (b2 subD (b2 mulD (kc (.int 2)) (nm 3)) (nm 2))) (b2 subD (kc (.int 0)) (nm 4)))))))
noncomputable def B_law_beyond : DS :=
  (sq (sp2 3 4 (cn nLen (ac (nm 0) an)) (kc (.int 1)))
  (sq (sf (r1 (kc (.int 200))) (gn 5)
  L_law_beyond_1)
  (sr (kc (.int 0)))))
noncomputable def F_law_beyond : FD := fnD 3 3 B_law_beyond
/- 0 _law_box, 1 _law_many, 2 _law_digit, 3 _law_raw -/
noncomputable def B_law_choose : DS :=
  (sq (ss (tb (b2 gtD (oix 0 (kc (.int 0))) (kc (.int 0))))
  (sq (sa (b2 modD (cn nInt (ac (oix 0 (kc (.int 0))) an)) (nm 1)) (gn 2))
  (sq (sa (b2 divD (oix 0 (kc (.int 0))) (nm 1)) (gst 0 (kc (.int 0))))
  (sr (nm 2))))
  sk)
  (sq (sa (b2 modD (cn nInt (ac (b2 addD (b2 mulD (oix 0 (kc (.int 1))) (kc (.int 40014))) (kc (.int 59))) an)) (kc (.int 2147483563))) (gn 3))
  (sq (sa (b2 addD (b2 modD (cn nInt (ac (b2 addD (b2 mulD (nm 3) (kc (.int 40692))) (kc (.int 4871))) an)) (kc (.int 2147483629))) (kc (.int 1))) (gst 0 (kc (.int 1))))
  (sr (b2 modD (cn nInt (ac (b2 divD (b2 addD (b2 mulD (nm 3) (kc (.int 2147483647))) (oix 0 (kc (.int 1)))) (kc (.int 8191))) an)) (nm 1))))))
noncomputable def F_law_choose : FD := fnD 2 2 B_law_choose
/- 0 _law_script, 1 _law_k, 2 _law_cell, 3 _law_great -/
noncomputable def B_law_seed : DS :=
  (sq (sa (b2 addD (b2 mulD (kc (.int 8161)) (nm 1)) (kc (.int 89))) (gn 2))
  (sq (ss (tb (b2 ltD (nm 1) (cn nLen (ac (nm 0) an))))
  (sa (cn nAbs (ac (b2 ixD (nm 0) (nm 1)) an)) (gn 2))
  (ss (tb (b2 gtD (cn nLen (ac (nm 0) an)) (kc (.int 0))))
  (sa (b2 addD (nm 2) (b2 mulD (b2 modD (cn nInt (ac (cn nAbs (ac (b2 ixD (nm 0) (b2 modD (cn nInt (ac (nm 1) an)) (cn nLen (ac (nm 0) an)))) an)) an)) (kc (.int 2147483629))) (kc (.int 45007)))) (gn 2))
  sk))
  (sq (sa (fi (tb (b2 geD (nm 2) (b2 powD (kc (.int 10)) (kc (.int 18))))) (nm 2) (kc (.int 0))) (gn 3))
  (srf (dl (ac (nm 3) (ac (b2 addD (b2 modD (cn nInt (ac (b2 addD (b2 mulD (b2 modD (cn nInt (ac (nm 2) an)) (kc (.int 2147483629))) (kc (.int 48271))) (b2 mulD (kc (.int 43003)) (nm 1))) an)) (kc (.int 2147483629))) (kc (.int 1))) an)))))))
noncomputable def F_law_seed : FD := fnF 2 2 B_law_seed
/- 0 values, 1 wall, 2 cell, 3 many, 4 at -/
noncomputable def B_beyond : DS :=
  (sq (sa (cn nLen (ac (nm 0) an)) (gn 3))
  (sq (ss (tb (b2 eqD (nm 1) (kc (.str "ring"))))
  (sr (b2 ixD (nm 0) (b2 modD (nm 2) (nm 3))))
  sk)
  (sq (ss (tb (b2 eqD (nm 1) (kc (.str "mirror"))))
  (sq (sa (b2 modD (nm 2) (b2 mulD (kc (.int 2)) (nm 3))) (gn 4))
  (sr (fi (tb (b2 ltD (nm 4) (nm 3))) (b2 ixD (nm 0) (nm 4)) (b2 ixD (nm 0) (b2 subD (b2 subD (b2 mulD (kc (.int 2)) (nm 3)) (kc (.int 1))) (nm 4))))))
  sk)
  (sq (sa (b2 modD (b2 addD (nm 2) (kc (.int 1))) (b2 addD (b2 mulD (kc (.int 2)) (nm 3)) (kc (.int 2)))) (gn 4))
  (sq (ss (tb (b2 inD (nm 4) (dt (ac (kc (.int 0)) (ac (b2 addD (nm 3) (kc (.int 1))) an)))))
  (sr (kc (.int 0)))
  sk)
  (sr (fi (tb (b2 leD (nm 4) (nm 3))) (b2 ixD (nm 0) (b2 subD (nm 4) (kc (.int 1)))) (u1 iNeg (b2 ixD (nm 0) (b2 subD (b2 addD (b2 mulD (kc (.int 2)) (nm 3)) (kc (.int 1))) (nm 4)))))))))))
noncomputable def F_beyond : FD := fnD 3 2 B_beyond
/- 0 wall -/
noncomputable def B_need_wall : DS :=
  (ss (tor (tnot (tb (u1 (isi tab_str) (nm 0)))) (tb (b2 niD (nm 0) (kc c_WALLS))))
  sv
  sk)
noncomputable def F_need_wall : FD := fnD 1 0 B_need_wall
/- 0 values, 1 wall, 2 cell -/
noncomputable def B_go_on : DS :=
  (sq (sx (callD F_need_wall (dflt [] (bv (nm 1) bn))))
  (sr (callD F_beyond (dflt [] (bv (nm 0) (bv (nm 1) (bv (nm 2) bn)))))))
noncomputable def F_go_on : FD := fnD 3 0 B_go_on
/- 0 _law_script, 1 _law_k, 2 _law_box, 3 _law_turn, 4 _law_values, 5 _law_given, 6 _law_shut, 7 _law_cell -/
noncomputable def Q_law_1 : DE :=
  (callD F_go_on (dflt [] (bv (dl (ac (kc (.int 5)) an)) (bv (kc (.str "zero")) (bv (nm 7) bn)))))
noncomputable def L_law_1 : DS :=
  (ss (tb (b2 neD (cn nStr (ac (callD F_go_on (dflt [] (bv (nm 5) (bv (nm 6) (bv (nm 7) bn))))) an)) (cn nStr (ac (callD F_law_beyond (dflt [] (bv (nm 4) (bv (nm 6) (bv (nm 7) bn))))) an))))
  (sr (kc (.bl false)))
  sk)
noncomputable def L_law_2 : DS :=
  (sf (is (b2 addD (lr (r2 (b2 subD (kc (.int 0)) (kc (.int 14))) (kc (.int 24)))) (dl (ac (b2 subD (callD F_law_choose (dflt [] (bi 2 (bv (kc (.int 61)) bn)))) (kc (.int 30))) (ac (b2 subD (kc (.int 0)) (kc (.int 30))) (ac (kc (.int 31)) an)))))) (gn 7)
  L_law_1)
noncomputable def Q_law_2 : DE :=
  (b2 subD (callD F_law_choose (dflt [] (bi 2 (bv (kc (.int 201)) bn)))) (kc (.int 100)))
noncomputable def L_law_3 : DS :=
  (sq (sa (lc [7] (r1 (b2 addD (kc (.int 1)) (callD F_law_choose (dflt [] (bi 2 (bv (kc (.int 9)) bn)))))) (gn 7) yes Q_law_2) (gn 4))
  (sq (sa (fi (tb (b2 eqD (b2 modD (nm 3) (kc (.int 2))) (kc (.int 0)))) (cn nTup (ac (nm 4) an)) (cn nLst (ac (nm 4) an))) (gn 5))
  (sq (sf (is (dt (ac (kc (.str "ring")) (ac (kc (.str "mirror")) (ac (kc (.str "zero")) an))))) (gn 6)
  L_law_2)
  (ss (tb (b2 neD (cn nLst (ac (nm 5) an)) (nm 4)))
  (sr (kc (.bl false)))
  sk))))
noncomputable def L_law_4 : DS :=
  (sq (so 2 (callD F_law_seed (dflt [] (bv (nm 0) (bv (nm 1) bn)))))
  (sf (r1 (kc (.int 5))) (gn 3)
  L_law_3))
noncomputable def B_law : DS :=
  (sq (sf (r1 (cn nMax2 (ac (kc (.int 1)) (ac (cn nMin2 (ac (kc (.int 4)) (ac (cn nLen (ac (nm 0) an)) an))) an)))) (gn 1)
  L_law_4)
  (sr (b2 eqD (lc [7] (r2 (b2 subD (kc (.int 0)) (kc (.int 3))) (kc (.int 4))) (gn 7) yes Q_law_1) (dl (ac (kc (.int 0)) (ac (b2 subD (kc (.int 0)) (kc (.int 5))) (ac (kc (.int 0)) (ac (kc (.int 5)) (ac (kc (.int 0)) (ac (b2 subD (kc (.int 0)) (kc (.int 5))) (ac (kc (.int 0)) an)))))))))))
noncomputable def F_law : FD := fnD 1 7 B_law
end K66

namespace K66
open PySem L2 Zr
local macro_rules | `(tactic| walk_at "zs") => `(tactic| simp only [nm, kc, u1, b2, ac, an, cn, dl, dt, tb, tv, vnot, vand, vor, tnot, tand, tor, fi, ss, sq, sk, sa, gn, so, sr, srf, sx, sv, srn, sbk, sct, callD, dflt, bv, bi, bn, argsD, putD, iosOf, onceD, fnD, fnF, outs, oix, oln, app, gst, sag, sau, ownL, own, put, asL_lst, ch, sp2, sp2F, is, r1, r2, lr, oN, oS, sl, isi, sf, lc, gtp, gsc, gsn,
  subD_int, divD_int, modD_int, powD_int, mulD_int, oI_some, addD_int, iNeg_int, ltD_int, leD_int, gtD_int, geD_int, nInt_int, nInt_bl, nAbs_int, nLen_lst, nLen_tup, nLen_scr, nMax2_int, nMin2_int, nTup_tup, nTup_lst, nLst_tup, nLst_lst, nLst_scr, ixD_lst, ixD_tup, itD_lst, itD_tup, itD_scr, isN_non, noN_non, isN_bl, noN_bl, slD_lst, slD_tup, slD_scr, isNonD_non, isNonD_int, isNonD_tup, isNonD_lst, isNonD_str, isNonD_bl, kind_int, kind_bl, kind_non, kind_str, kind_tup, kind_lst, kind_ob, eqD_int, neD_int,
  notIo_eq, nio_no, nio_va, nio_ow, isO_no, isO_va, isO_ow, isO_io, List.set_cons_zero, List.set_cons_succ, List.getElem?_cons_zero, List.getElem?_cons_succ, List.length_cons, List.length_nil, List.replicate, List.append, List.cons_append, List.nil_append, if_true, if_false, ite_true, ite_false, Option.bind_some, Option.bind_none, List.map_nil, List.append_nil, Nat.reduceAdd, Nat.reduceEqDiff, Nat.reduceLT, atI_0, atI_1, atI_2, ixN_0, ixN_1, ixN_2, Bool.and_true, Bool.true_and, Bool.not_true, Bool.not_false, Bool.and_self, Bool.and_false, Bool.false_and, List.contains_nil, Bool.false_eq_true, sizeLine_eq, Nat.reduceLeDiff, Nat.reducePow, addD_lst, addD_tup, Nat.zero_le, Nat.le_refl])
local macro_rules | `(tactic| walk_at "zh") => `(tactic| simp only [nm, kc, u1, b2, ac, an, cn, dl, dt, tb, tv, vnot, vand, vor, tnot, tand, tor, fi, ss, sq, sk, sa, gn, so, sr, srf, sx, sv, srn, sbk, sct, callD, dflt, bv, bi, bn, argsD, putD, iosOf, onceD, fnD, fnF, outs, oix, oln, app, gst, sag, sau, ownL, own, put, asL_lst, ch, sp2, sp2F, is, r1, r2, lr, oN, oS, sl, isi, sf, lc, gtp, gsc, gsn,
  subD_int, divD_int, modD_int, powD_int, mulD_int, oI_some, addD_int, iNeg_int, ltD_int, leD_int, gtD_int, geD_int, nInt_int, nInt_bl, nAbs_int, nLen_lst, nLen_tup, nLen_scr, nMax2_int, nMin2_int, nTup_tup, nTup_lst, nLst_tup, nLst_lst, nLst_scr, ixD_lst, ixD_tup, itD_lst, itD_tup, itD_scr, isN_non, noN_non, isN_bl, noN_bl, slD_lst, slD_tup, slD_scr, isNonD_non, isNonD_int, isNonD_tup, isNonD_lst, isNonD_str, isNonD_bl, kind_int, kind_bl, kind_non, kind_str, kind_tup, kind_lst, kind_ob, eqD_int, neD_int,
  notIo_eq, nio_no, nio_va, nio_ow, isO_no, isO_va, isO_ow, isO_io, List.set_cons_zero, List.set_cons_succ, List.getElem?_cons_zero, List.getElem?_cons_succ, List.length_cons, List.length_nil, List.replicate, List.append, List.cons_append, List.nil_append, if_true, if_false, ite_true, ite_false, Option.bind_some, Option.bind_none, List.map_nil, List.append_nil, Nat.reduceAdd, Nat.reduceEqDiff, Nat.reduceLT, atI_0, atI_1, atI_2, ixN_0, ixN_1, ixN_2, Bool.and_true, Bool.true_and, Bool.not_true, Bool.not_false, Bool.and_self, Bool.and_false, Bool.false_and, List.contains_nil, Bool.false_eq_true, sizeLine_eq, Nat.reduceLeDiff, Nat.reducePow, addD_lst, addD_tup, Nat.zero_le, Nat.le_refl, decide_true, decide_false, *])

def BoxOk (d : D) : Prop := ∃ a b : Int, d = .lst [.int a, .int b] ∧ 0 ≤ b ∧ b < 4294967296
theorem choose_eq {x : D} (hx : BoxOk x) (m : Int) (hm : 0 < m) (hm2 : m < 1000000000) : ∃ r x', F_law_choose [.io x, .va (.int m)] = some (.int r, [.io x', .no]) ∧ 0 ≤ r ∧ r < m ∧ BoxOk x' := by
  obtain ⟨a, b, rfl, hb, hb2⟩ := hx
  unfold F_law_choose B_law_choose
  have e1 : ∀ x, iMod x m = some (x % m) := fun x => iMod_pos hm
  have e2 : ∀ x, iDiv x m = some (x / m) := fun x => iDiv_64 hm (by omega)
  by_cases h : 0 < a
  · walk_at "zh"
    exact ⟨_, _, rfl, Int.emod_nonneg a (by omega), Int.emod_lt_of_pos a hm, _, _, rfl, hb, hb2⟩
  · have e3 : iMul b 40014 = some (b * 40014) := iMul_64 (by omega) (by decide)
    have e4 : iMod (b * 40014 + 59) 2147483563 = some ((b * 40014 + 59) % 2147483563) := iMod_pos (by decide)
    generalize hx : (b * 40014 + 59) % 2147483563 = x at e4
    have x0 : 0 ≤ x ∧ x < 2147483563 := by omega
    have e5 : iMul x 40692 = some (x * 40692) := iMul_64 (by omega) (by decide)
    have e6 : iMod (x * 40692 + 4871) 2147483629 = some ((x * 40692 + 4871) % 2147483629) := iMod_pos (by decide)
    generalize hy : (x * 40692 + 4871) % 2147483629 = y at e6
    have y0 : 0 ≤ y ∧ y < 2147483629 := by omega
    have e7 : iMul x 2147483647 = some (x * 2147483647) := iMul_64 (by omega) (by decide)
    have e8 : ∀ x, iDiv x 8191 = some (x / 8191) := fun x => iDiv_64 (by decide) (by decide)
    walk_at "zh"
    exact ⟨_, _, rfl, Int.emod_nonneg _ (by omega), Int.emod_lt_of_pos _ hm, _, _, rfl, by omega, by omega⟩
theorem seed_eq (ns : List Int) (k : Int) (h0 : 0 ≤ k) (h1 : k < 4) : ∃ x, F_law_seed [.va (.scr ns), .va (.int k)] = some (x, [.no, .no]) ∧ BoxOk x := by
  unfold F_law_seed B_law_seed
  have e1 : iMul 8161 k = some (8161 * k) := iMul_64 (by decide) (by omega)
  have e2 : ∀ x, iMod x 2147483629 = some (x % 2147483629) := fun x => iMod_pos (by decide)
  have e3 : iPow 10 18 = some 1000000000000000000 := by decide
  have e4 : ∀ x, iMul (x % 2147483629) 48271 = some (x % 2147483629 * 48271) := fun x => iMul_64 (by omega) (by decide)
  have e5 : iMul 43003 k = some (43003 * k) := iMul_64 (by decide) (by omega)
  have e6 : ∀ x, iMul (x % 2147483629) 45007 = some (x % 2147483629 * 45007) := fun x => iMul_64 (by omega) (by decide)
  by_cases hk : k < ns.length
  · obtain ⟨n, hn⟩ : ∃ n, atI ns k = some n := by
      rw [atI_pos h0]
      exact ⟨ns[k.toNat]'(by omega), List.getElem?_eq_getElem _⟩
    have hn := ixD_scr hn
    walk_at "zh"
    generalize (if n < 0 then -n else n) = c
    by_cases h : (1000000000000000000 : Int) ≤ c
    · walk_at "zh"; exact ⟨_, rfl, _, _, rfl, by omega, by omega⟩
    · walk_at "zh"; exact ⟨_, rfl, _, _, rfl, by omega, by omega⟩
  · by_cases hl : 0 < (ns.length : Int)
    · have e7 : iMod k ns.length = some (k % ns.length) := iMod_pos hl
      have g1 := Int.emod_nonneg k (show (ns.length : Int) ≠ 0 by omega)
      have g2 := Int.emod_lt_of_pos k hl
      obtain ⟨n, hn⟩ : ∃ n, atI ns (k % ns.length) = some n := by
        rw [atI_pos g1]
        exact ⟨ns[(k % ns.length).toNat]'(by omega), List.getElem?_eq_getElem _⟩
      have hn := ixD_scr hn
      walk_at "zh"
      generalize (8161 * k + 89 + (if n < 0 then -n else n) % 2147483629 * 45007) = c
      by_cases h : (1000000000000000000 : Int) ≤ c
      · walk_at "zh"; exact ⟨_, rfl, _, _, rfl, by omega, by omega⟩
      · walk_at "zh"; exact ⟨_, rfl, _, _, rfl, by omega, by omega⟩
    · walk_at "zh"
      generalize (8161 * k + 89) = c
      by_cases h : (1000000000000000000 : Int) ≤ c
      · walk_at "zh"; exact ⟨_, rfl, _, _, rfl, by omega, by omega⟩
      · walk_at "zh"; exact ⟨_, rfl, _, _, rfl, by omega, by omega⟩

/-! the walls -/
def W3 (w : Str) : Prop := w = ("ring" : Str) ∨ w = ("mirror" : Str) ∨ w = ("zero" : Str)
theorem w_rm : (("ring" : Str) = "mirror") = False := by simp; decide +kernel
theorem w_mr : (("mirror" : Str) = "ring") = False := by simp; decide +kernel
theorem w_zr : (("zero" : Str) = "ring") = False := by simp; decide +kernel
theorem w_zm : (("zero" : Str) = "mirror") = False := by simp; decide +kernel
theorem ni_ok {w : Str} (h : W3 w) : niD (.str w) c_WALLS = some (.bl false) := by
  rcases h with rfl | rfl | rfl <;> kernel_rfl
theorem need_ok {w : Str} (h : W3 w) : F_need_wall [.va (.str w)] = some (.non, [.no]) := by
  have e := ni_ok h
  have e2 : tab_str.lookup 3 = some true := rfl
  unfold F_need_wall B_need_wall
  generalize niD = ni at e
  walk_at "zh"
def progIx (w n : Nat) (c : Int) : Int × Nat :=
  if w = 0 then (1, (c % n).toNat)
  else if w = 1 then (if c % (2 * n) < n then (1, (c % (2 * n)).toNat) else (1, (2 * n - 1 - c % (2 * n)).toNat))
  else if (c + 1) % (2 * n + 2) = 0 ∨ (c + 1) % (2 * n + 2) = n + 1 then (0, 0)
  else if (c + 1) % (2 * n + 2) ≤ n then (1, ((c + 1) % (2 * n + 2) - 1).toNat)
  else (-1, (2 * n + 1 - (c + 1) % (2 * n + 2)).toNat)
def lawIx (w n : Nat) : Nat → Int → Int → Option (Int × Nat)
  | 0, _, _ => none
  | k + 1, c, s => if 0 ≤ c ∧ c < n then some (s, c.toNat)
    else if w = 0 then lawIx w n k (if c < 0 then c + n else c - n) s
    else if w = 1 then lawIx w n k (if c < 0 then 0 - 1 - c else 2 * n - 1 - c) s
    else if c = -1 ∨ c = n then some (0, 0)
    else lawIx w n k (if c < 0 then 0 - 2 - c else 2 * n - c) (0 - s)
def allIx : Bool := (List.range 9).all fun i => (List.range 3).all fun w => (List.range 62).all fun j => lawIx w (i + 1) 200 ((j : Int) - 30) 1 == some (progIx w (i + 1) ((j : Int) - 30)) && decide ((progIx w (i + 1) ((j : Int) - 30)).2 < i + 1)
theorem allIx_ok : allIx = true := by decide +kernel
theorem ix_eq {w n : Nat} {c : Int} (h1 : 1 ≤ n) (h2 : n ≤ 9) (hw : w < 3) (h3 : -30 ≤ c) (h4 : c ≤ 31) : lawIx w n 200 c 1 = some (progIx w n c) ∧ (progIx w n c).2 < n := by
  have h := allIx_ok
  unfold allIx at h
  have a := List.all_eq_true.mp h (n - 1) (List.mem_range.mpr (by omega))
  have b := List.all_eq_true.mp a w (List.mem_range.mpr hw)
  have d := List.all_eq_true.mp b (c + 30).toNat (List.mem_range.mpr (by omega))
  have e : (((c + 30).toNat : Nat) : Int) - 30 = c := by omega
  have e2 : n - 1 + 1 = n := by omega
  rw [e, e2, Bool.and_eq_true] at d
  exact ⟨eq_of_beq d.1, of_decide_eq_true d.2⟩
def wOf : Nat → Str
  | 0 => "ring"
  | 1 => "mirror"
  | _ => "zero"
theorem w3_of (w : Nat) : W3 (wOf w) := by
  match w with
  | 0 => exact .inl rfl
  | 1 => exact .inr (.inl rfl)
  | _ + 2 => exact .inr (.inr rfl)
theorem strOk_w (w : Nat) : PyData.strOk (wOf w) = true := by
  match w with
  | 0 => exact strOk_of _
  | 1 => exact strOk_of _
  | _ + 2 => exact strOk_of _
theorem eq_ring (w : Nat) (hw : w < 3) : eqD (.str (wOf w)) (.str "ring") = some (.bl (decide (w = 0))) := by
  rw [eqD_str (strOk_w w) (strOk_of _)]
  match w, hw with
  | 0, _ => simp [wOf]
  | 1, _ => simp [wOf, w_mr]
  | 2, _ => simp [wOf, w_zr]
theorem eq_mirror (w : Nat) (hw : w < 3) : eqD (.str (wOf w)) (.str "mirror") = some (.bl (decide (w = 1))) := by
  rw [eqD_str (strOk_w w) (strOk_of _)]
  match w, hw with
  | 0, _ => simp [wOf, w_rm]
  | 1, _ => simp [wOf]
  | 2, _ => simp [wOf, w_zm]
/-- list or tuple -/
def seqD (b : Bool) (vs : List Int) : D := if b then .tup (vs.map D.int) else .lst (vs.map D.int)
theorem ixD_seq (b : Bool) (vs : List Int) (i : Int) (h0 : 0 ≤ i) (h1 : i.toNat < vs.length) : ixD (seqD b vs) (.int i) = some (.int (vs.getD i.toNat 0)) := by
  have e : (vs.map D.int)[i.toNat]? = some (.int (vs.getD i.toNat 0)) := by
    rw [List.getElem?_map, List.getElem?_eq_getElem h1, List.getD_eq_getElem?_getD, List.getElem?_eq_getElem h1]; rfl
  unfold seqD
  cases b
  · show atI _ i = _; rw [atI_pos h0, e]
  · show atI _ i = _; rw [atI_pos h0, e]
theorem nLen_seq (b : Bool) (vs : List Int) : nLen [seqD b vs] = some (.int vs.length) := by
  unfold seqD
  cases b <;> (unfold nLen; simp)
theorem in_two (a x y : Int) : inD (.int a) (.tup [.int x, .int y]) = some (.bl (decide (a = x ∨ a = y))) := by
  show some (D.bl (inV _ _)) = _
  have e : inV (.int a) [.int x, .int y] = decide (a = x ∨ a = y) := by
    unfold inV
    simp only [List.any_cons, List.any_nil, eqV]
    rw [Bool.eq_iff_iff]
    simp only [Bool.or_false, Bool.or_eq_true, beq_iff_eq, decide_eq_true_eq]
    constructor <;> (rintro (h | h) <;> simp [h])
  rw [e]
theorem prog_zero {n : Nat} {c : Int} : progIx 2 n c = (if (c + 1) % (2 * n + 2) = 0 ∨ (c + 1) % (2 * n + 2) = n + 1 then (0, 0)
  else if (c + 1) % (2 * n + 2) ≤ n then (1, ((c + 1) % (2 * n + 2) - 1).toNat)
  else (-1, (2 * n + 1 - (c + 1) % (2 * n + 2)).toNat)) := rfl
theorem beyond_eq (b : Bool) (vs : List Int) (w : Nat) (hw : w < 3) (c : Int) (h1 : 1 ≤ vs.length) (h2 : vs.length ≤ 9) (h3 : -30 ≤ c) (h4 : c ≤ 31) :
    F_beyond [.va (seqD b vs), .va (.str (wOf w)), .va (.int c)] = some (.int ((progIx w vs.length c).1 * vs.getD (progIx w vs.length c).2 0), [.no, .no, .no]) := by
  have hi := (ix_eq h1 h2 hw h3 h4).2
  have r1 := eq_ring w hw
  have r2 := eq_mirror w hw
  have hl := nLen_seq b vs
  generalize hn : (vs.length : Int) = n at hl
  have n0 : 0 < n ∧ n ≤ 9 := by omega
  have m1 : ∀ x, iMod x n = some (x % n) := fun x => iMod_pos (by omega)
  have m2 : iMul 2 n = some (2 * n) := iMul_64 (by decide) (by omega)
  have m3 : ∀ x, iMod x (2 * n) = some (x % (2 * n)) := fun x => iMod_pos (by omega)
  have m4 : ∀ x, iMod x (2 * n + 2) = some (x % (2 * n + 2)) := fun x => iMod_pos (by omega)
  have ix := ixD_seq b vs
  unfold F_beyond B_beyond
  match w, hw with
  | 0, _ =>
    have e0 := ix (c % n) (Int.emod_nonneg _ (by omega)) (by have := Int.emod_lt_of_pos c n0.1; have := Int.emod_nonneg c (show n ≠ 0 by omega); omega)
    simp only [progIx, if_true, hn]
    generalize seqD b vs = gv at *
    walk_at "zh"
    rw [Int.one_mul]
  | 1, _ =>
    have g1 := Int.emod_lt_of_pos c (show 0 < 2 * n by omega)
    have g2 := Int.emod_nonneg c (show 2 * n ≠ 0 by omega)
    simp only [progIx, if_true, hn]
    by_cases h : c % (2 * n) < n
    · have e0 := ix (c % (2 * n)) g2 (by omega)
      generalize seqD b vs = gv at *
      generalize hm : c % (2 * n) = m at *
      walk_at "zh"
      simp
    · have e0 := ix (2 * n - 1 - c % (2 * n)) (by omega) (by omega)
      generalize seqD b vs = gv at *
      generalize hm : c % (2 * n) = m at *
      walk_at "zh"
      simp
  | 2, _ =>
    have g1 := Int.emod_lt_of_pos (c + 1) (show 0 < 2 * n + 2 by omega)
    have g2 := Int.emod_nonneg (c + 1) (show 2 * n + 2 ≠ 0 by omega)
    rw [prog_zero, hn]
    generalize hm : (c + 1) % (2 * n + 2) = m at *
    have i2 := in_two m 0 (n + 1)
    by_cases h : m = 0 ∨ m = n + 1
    · rw [if_pos h]
      generalize seqD b vs = gv at *
      rw [decide_eq_true h] at i2
      walk_at "zh"
      simp
    · rw [if_neg h]
      rw [decide_eq_false h] at i2
      by_cases h' : m ≤ n
      · have e0 := ix (m - 1) (by omega) (by omega)
        rw [if_pos h']
        generalize seqD b vs = gv at *
        walk_at "zh"
        simp
      · have e0 := ix (2 * n + 1 - m) (by omega) (by omega)
        rw [if_neg h']
        generalize seqD b vs = gv at *
        walk_at "zh"
        simp

theorem lb_loop {vs : List Int} {w : Nat} (hw : w < 3) (h1 : 1 ≤ vs.length) (h2 : vs.length ≤ 9) (hv : ∀ v ∈ vs, v.natAbs ≤ 1000) : ∀ (xs : List D) (c s : Int) (x5 : Sl) (s' : Int) (i : Nat), x5.nio = true → (s = 1 ∨ s = -1) → i < vs.length → lawIx w vs.length xs.length c s = some (s', i) →
    ∃ d', fo (gn 5) L_law_beyond_1 xs [.va (.lst (vs.map D.int)), .va (.str (wOf w)), .va (.int c), .va (.int vs.length), .va (.int s), x5] = some (.rt (.int (s' * vs.getD i 0)), d') ∧ outs 3 d' = [.no, .no, .no]
  | [], c, s, x5, s', i, _, _, _, e => by cases e
  | y :: ys, c, s, x5, s', i, hx, hs, hi, e => by
    have r1 := eq_ring w hw
    have r2 := eq_mirror w hw
    have ih := fun c s hs e => lb_loop hw h1 h2 hv ys c s (.va y) s' i rfl hs hi e
    have m2 : iMul 2 (vs.length : Int) = some (2 * (vs.length : Int)) := iMul_64 (by decide) (by omega)
    have hl : nLen [.lst (vs.map D.int)] = some (.int vs.length) := by rw [nLen_lst, List.length_map]
    have ht : gn 5 y [.va (.lst (vs.map D.int)), .va (.str (wOf w)), .va (.int c), .va (.int vs.length), .va (.int s), x5] = some [.va (.lst (vs.map D.int)), .va (.str (wOf w)), .va (.int c), .va (.int vs.length), .va (.int s), .va y] := by walk_at "zh"
    rw [List.length_cons] at e
    unfold lawIx at e
    by_cases a1 : 0 ≤ c ∧ c < vs.length
    · rw [if_pos a1] at e
      cases e
      have e0 := ixD_seq false vs c a1.1 hi
      have m3 : iMul s (vs.getD c.toNat 0) = some (s * vs.getD c.toNat 0) := by
        have : (vs.getD c.toNat 0).natAbs ≤ 1000 := by
          rw [List.getD_eq_getElem?_getD, List.getElem?_eq_getElem hi]
          exact hv _ (List.getElem_mem hi)
        exact iMul_64 (by omega) (by omega)
      have a2 := a1.1
      have a3 := a1.2
      simp only [seqD, if_false, Bool.false_eq_true] at e0
      refine ⟨[.va (.lst (vs.map D.int)), .va (.str (wOf w)), .va (.int c), .va (.int vs.length), .va (.int s), .va y], fo_rt ht ?_, rfl⟩
      clear ih ht
      generalize D.lst (vs.map D.int) = gv at *
      unfold L_law_beyond_1
      walk_at "zh"
    · rw [if_neg a1] at e
      have cc : ch leD ltD (kc (.int 0)) (nm 2) (nm 3) [.va (.lst (vs.map D.int)), .va (.str (wOf w)), .va (.int c), .va (.int vs.length), .va (.int s), .va y] = some (.bl false, [.va (.lst (vs.map D.int)), .va (.str (wOf w)), .va (.int c), .va (.int vs.length), .va (.int s), .va y]) := by
        clear ih ht
        by_cases a2 : 0 ≤ c
        · have a3 : ¬ c < vs.length := fun q => a1 ⟨a2, q⟩
          walk_at "zh"
        · walk_at "zh"
      have body : ∀ c' s', (if w = 0 then (if c < 0 then c + vs.length else c - vs.length) else if w = 1 then (if c < 0 then 0 - 1 - c else 2 * (vs.length : Int) - 1 - c) else (if c < 0 then 0 - 2 - c else 2 * (vs.length : Int) - c)) = c' → (if w = 2 then 0 - s else s) = s' → ¬ (w = 2 ∧ (c = -1 ∨ c = vs.length)) →
          L_law_beyond_1 [.va (.lst (vs.map D.int)), .va (.str (wOf w)), .va (.int c), .va (.int vs.length), .va (.int s), .va y] = some (.nx, [.va (.lst (vs.map D.int)), .va (.str (wOf w)), .va (.int c'), .va (.int vs.length), .va (.int s'), .va y]) := by
        intro c' s' ec es hz
        clear ih ht e
        have i2 := in_two c (0 - 1) vs.length
        unfold L_law_beyond_1
        generalize ch leD ltD (kc (.int 0)) (nm 2) (nm 3) = cf at cc
        match w, hw with
        | 0, _ =>
          simp only [if_true, Nat.reduceEqDiff, if_false] at ec es
          subst es
          by_cases a2 : c < 0
          · simp only [a2, if_true] at ec
            subst ec
            walk_at "zh"
          · simp only [a2, if_false] at ec
            subst ec
            walk_at "zh"
        | 1, _ =>
          simp only [if_true, Nat.reduceEqDiff, if_false] at ec es
          subst es
          by_cases a2 : c < 0
          · simp only [a2, if_true] at ec
            subst ec
            walk_at "zh"
          · simp only [a2, if_false] at ec
            subst ec
            walk_at "zh"
        | 2, _ =>
          simp only [if_true, Nat.reduceEqDiff, if_false] at ec es
          subst es
          rw [decide_eq_false (show ¬ (c = 0 - 1 ∨ c = (vs.length : Int)) from fun q => hz ⟨rfl, q⟩)] at i2
          by_cases a2 : c < 0
          · simp only [a2, if_true] at ec
            subst ec
            walk_at "zh"
          · simp only [a2, if_false] at ec
            subst ec
            walk_at "zh"
      match w, hw with
      | 0, _ =>
        rw [if_pos rfl] at e
        rw [fo_nx ht (body _ _ rfl rfl (by omega))]
        exact ih _ _ hs e
      | 1, _ =>
        rw [if_neg (by decide), if_pos rfl] at e
        rw [fo_nx ht (body _ _ rfl rfl (by omega))]
        exact ih _ _ hs e
      | 2, _ =>
        rw [if_neg (by decide), if_neg (by decide)] at e
        by_cases a4 : c = -1 ∨ c = vs.length
        · rw [if_pos a4] at e
          cases e
          have i2 := in_two c (0 - 1) vs.length
          rw [decide_eq_true (show c = 0 - 1 ∨ c = (vs.length : Int) from a4)] at i2
          refine ⟨[.va (.lst (vs.map D.int)), .va (.str (wOf 2)), .va (.int c), .va (.int vs.length), .va (.int s), .va y], fo_rt ht ?_, rfl⟩
          clear ih ht body
          rw [Int.zero_mul]
          unfold L_law_beyond_1
          generalize ch leD ltD (kc (.int 0)) (nm 2) (nm 3) = cf at cc
          walk_at "zh"
        · rw [if_neg a4] at e
          rw [fo_nx ht (body _ _ rfl rfl (fun q => a4 q.2))]
          exact ih _ _ (by rw [if_pos rfl]; omega) e
theorem law_beyond_eq {vs : List Int} {w : Nat} (hw : w < 3) (h1 : 1 ≤ vs.length) (h2 : vs.length ≤ 9) (hv : ∀ v ∈ vs, v.natAbs ≤ 1000) (c : Int) (h3 : -30 ≤ c) (h4 : c ≤ 31) :
    F_law_beyond [.va (.lst (vs.map D.int)), .va (.str (wOf w)), .va (.int c)] = some (.int ((progIx w vs.length c).1 * vs.getD (progIx w vs.length c).2 0), [.no, .no, .no]) := by
  obtain ⟨e, hi⟩ := ix_eq h1 h2 hw h3 h4
  have hl : nLen [.lst (vs.map D.int)] = some (.int vs.length) := by rw [nLen_lst, List.length_map]
  have rg : rgOk 0 200 = true := by decide
  have hlen : (rgD 0 200).length = 200 := by unfold rgD; simp
  generalize hp : progIx w vs.length c = p at *
  obtain ⟨s', i⟩ := p
  obtain ⟨d', e2, e3⟩ := lb_loop hw h1 h2 hv (rgD 0 200) c 1 .no s' i rfl (.inl rfl) hi (by rw [hlen]; exact e)
  unfold F_law_beyond B_law_beyond
  generalize D.lst (vs.map D.int) = gv at *
  walk_at "zh"
/-! the law -/
theorem str_ne (v : Int) (h : v.natAbs ≤ 100000) : nStr [.int v] = some (.str (toString v)) := by
  rw [nStr_int, if_pos]
  exact Nat.lt_of_lt_of_le (log2_lt (k := 64) (by omega) (by decide)) (by decide)
theorem prog_small {w n : Nat} {c : Int} : (progIx w n c).1.natAbs ≤ 1 := by
  unfold progIx
  repeat' split
  all_goals first | (show (1 : Int).natAbs ≤ 1; decide) | (show (-1 : Int).natAbs ≤ 1; decide) | (show (0 : Int).natAbs ≤ 1; decide)
/-- the two values are one -/
theorem same_val {vs : List Int} {w : Nat} (hw : w < 3) (h1 : 1 ≤ vs.length) (h2 : vs.length ≤ 9) (hv : ∀ v ∈ vs, v.natAbs ≤ 1000) (c : Int) (h3 : -30 ≤ c) (h4 : c ≤ 31) (b : Bool) :
    ∃ v : Int, v.natAbs ≤ 100000 ∧ F_law_beyond [.va (.lst (vs.map D.int)), .va (.str (wOf w)), .va (.int c)] = some (.int v, [.no, .no, .no]) ∧ F_go_on [.va (seqD b vs), .va (.str (wOf w)), .va (.int c)] = some (.int v, [.no, .no, .no]) := by
  refine ⟨(progIx w vs.length c).1 * vs.getD (progIx w vs.length c).2 0, ?_, law_beyond_eq hw h1 h2 hv c h3 h4, ?_⟩
  · rw [Int.natAbs_mul]
    have a1 := prog_small (w := w) (n := vs.length) (c := c)
    have a2 : (vs.getD (progIx w vs.length c).2 0).natAbs ≤ 1000 := by
      have hi := (ix_eq h1 h2 hw h3 h4).2
      rw [List.getD_eq_getElem?_getD, List.getElem?_eq_getElem hi]
      exact hv _ (List.getElem_mem hi)
    have := Nat.mul_le_mul a1 a2
    omega
  · have e1 := need_ok (w3_of w)
    have e2 := beyond_eq b vs w hw c h1 h2 h3 h4
    unfold F_go_on B_go_on
    generalize seqD b vs = gv at *
    walk_at "zh"
def Env (ns : List Int) (x : D) (s1 s3 s4 s5 s6 s7 : Sl) : Ev := [.va (.scr ns), s1, .ow x, s3, s4, s5, s6, s7]
theorem cell_turn {ns : List Int} {x : D} {s1 s3 s6 s7 : Sl} {vs : List Int} {w : Nat} {b : Bool} {c : Int} (hw : w < 3) (h1 : 1 ≤ vs.length) (h2 : vs.length ≤ 9) (hv : ∀ v ∈ vs, v.natAbs ≤ 1000) (h3 : -30 ≤ c) (h4 : c ≤ 31) (n7 : s7.isO = false) :
    ∃ d1 d2, gn 7 (.int c) (Env ns x s1 s3 (.va (.lst (vs.map D.int))) (.va (seqD b vs)) (.va (.str (wOf w))) s7) = some d1 ∧ L_law_1 d1 = some (.nx, d2) ∧ d2 = Env ns x s1 s3 (.va (.lst (vs.map D.int))) (.va (seqD b vs)) (.va (.str (wOf w))) (.va (.int c)) := by
  obtain ⟨v, hs, e1, e2⟩ := same_val hw h1 h2 hv c h3 h4 b
  have e3 := str_ne v hs
  have e4 : neD (.str (toString v)) (.str (toString v)) = some (.bl false) := neD_same (b := false) (strOk_of _)
  have q7 := nio_of n7
  refine ⟨Env ns x s1 s3 (.va (.lst (vs.map D.int))) (.va (seqD b vs)) (.va (.str (wOf w))) (.va (.int c)), _, ?_, ?_, rfl⟩
  · unfold Env
    walk_at "zh"
  · unfold Env
    generalize seqD b vs = gv at *
    generalize D.lst (vs.map D.int) = gw at *
    unfold L_law_1
    walk_at "zh"
/-- the cells of one wall -/
theorem cells_loop {ns : List Int} {x : D} {s1 s3 s6 s7 : Sl} {vs : List Int} {w : Nat} {b : Bool} {xs : List D} (hw : w < 3) (h1 : 1 ≤ vs.length) (h2 : vs.length ≤ 9) (hv : ∀ v ∈ vs, v.natAbs ≤ 1000) (hx : ∀ y ∈ xs, ∃ c : Int, y = .int c ∧ -30 ≤ c ∧ c ≤ 31) (n7 : s7.isO = false) :
    ∃ d', fo (gn 7) L_law_1 xs (Env ns x s1 s3 (.va (.lst (vs.map D.int))) (.va (seqD b vs)) (.va (.str (wOf w))) s7) = some (.nx, d') ∧ ∃ s7', s7'.isO = false ∧ d' = Env ns x s1 s3 (.va (.lst (vs.map D.int))) (.va (seqD b vs)) (.va (.str (wOf w))) s7' := by
  refine fo_inv (fun d => ∃ s7', s7'.isO = false ∧ d = Env ns x s1 s3 (.va (.lst (vs.map D.int))) (.va (seqD b vs)) (.va (.str (wOf w))) s7') ?_ ⟨s7, n7, rfl⟩
  rintro y hy d ⟨s7', n7', rfl⟩
  obtain ⟨c, rfl, h3, h4⟩ := hx y hy
  obtain ⟨d1, d2, e1, e2, rfl⟩ := cell_turn (ns := ns) (x := x) (s1 := s1) (s3 := s3) (s6 := s6) (b := b) hw h1 h2 hv h3 h4 n7'
  exact ⟨d1, _, e1, e2, _, rfl, rfl⟩
theorem wall_turn {ns : List Int} {x : D} {s1 s3 s6 s7 : Sl} {vs : List Int} {w : Nat} {b : Bool} (hw : w < 3) (h1 : 1 ≤ vs.length) (h2 : vs.length ≤ 9) (hv : ∀ v ∈ vs, v.natAbs ≤ 1000) (n6 : s6.isO = false) (n7 : s7.isO = false) (hx : BoxOk x) :
    ∃ d1 d2, gn 6 (.str (wOf w)) (Env ns x s1 s3 (.va (.lst (vs.map D.int))) (.va (seqD b vs)) s6 s7) = some d1 ∧ L_law_2 d1 = some (.nx, d2) ∧ ∃ x' s6' s7', BoxOk x' ∧ s6'.isO = false ∧ s7'.isO = false ∧ d2 = Env ns x' s1 s3 (.va (.lst (vs.map D.int))) (.va (seqD b vs)) s6' s7' := by
  obtain ⟨r, x', e1, r0, r1, hx'⟩ := choose_eq hx 61 (by decide) (by decide)
  have q6 := nio_of n6
  have rg : rgOk (0 - 14) 24 = true := by decide
  obtain ⟨d', e2, s7', n7', rfl⟩ := cells_loop (ns := ns) (x := x') (s1 := s1) (s3 := s3) (s6 := s6) (s7 := s7) (b := b) (xs := rgD (0 - 14) 24 ++ [.int (r - 30), .int (0 - 30), .int 31]) hw h1 h2 hv (fun y hy => by
    rcases List.mem_append.mp hy with h | h
    · obtain ⟨c, rfl, a, b⟩ := rgD_mem h
      exact ⟨c, rfl, by omega, by omega⟩
    · simp only [List.mem_cons, List.not_mem_nil, or_false] at h
      rcases h with rfl | rfl | rfl <;> exact ⟨_, rfl, by omega, by omega⟩) n7
  have hl : (rgD (0 - 14) 24).length = 38 := by rw [rgD_len]; rfl
  refine ⟨Env ns x s1 s3 (.va (.lst (vs.map D.int))) (.va (seqD b vs)) (.va (.str (wOf w))) s7, _, ?_, ?_, x', .va (.str (wOf w)), s7', hx', rfl, n7', rfl⟩
  · clear e2
    unfold Env
    generalize seqD b vs = gv at *
    generalize D.lst (vs.map D.int) = gw at *
    walk_at "zh"
  · unfold Env at *
    generalize seqD b vs = gv at *
    generalize D.lst (vs.map D.int) = gw at *
    unfold L_law_2
    walk_at "zh"
theorem walls_loop {ns : List Int} {x : D} {s1 s3 s6 s7 : Sl} {vs : List Int} {b : Bool} (h1 : 1 ≤ vs.length) (h2 : vs.length ≤ 9) (hv : ∀ v ∈ vs, v.natAbs ≤ 1000) (n6 : s6.isO = false) (n7 : s7.isO = false) (hx : BoxOk x) :
    ∃ x' s6' s7', BoxOk x' ∧ s6'.isO = false ∧ s7'.isO = false ∧ fo (gn 6) L_law_2 [.str "ring", .str "mirror", .str "zero"] (Env ns x s1 s3 (.va (.lst (vs.map D.int))) (.va (seqD b vs)) s6 s7) = some (.nx, Env ns x' s1 s3 (.va (.lst (vs.map D.int))) (.va (seqD b vs)) s6' s7') := by
  obtain ⟨d', e, x', s6', s7', hx', h6, h7, rfl⟩ := fo_inv (t := gn 6) (B := L_law_2) (xs := [.str "ring", .str "mirror", .str "zero"]) (fun d => ∃ x' s6' s7', BoxOk x' ∧ s6'.isO = false ∧ s7'.isO = false ∧ d = Env ns x' s1 s3 (.va (.lst (vs.map D.int))) (.va (seqD b vs)) s6' s7')
    (fun y hy d hd => by
      obtain ⟨x1, t6, t7, hx1, q6, q7, rfl⟩ := hd
      obtain ⟨w, hw, rfl⟩ : ∃ w, w < 3 ∧ y = .str (wOf w) := by
        simp only [List.mem_cons, List.not_mem_nil, or_false] at hy
        rcases hy with rfl | rfl | rfl
        · exact ⟨0, by decide, rfl⟩
        · exact ⟨1, by decide, rfl⟩
        · exact ⟨2, by decide, rfl⟩
      exact wall_turn hw h1 h2 hv q6 q7 hx1) ⟨x, s6, s7, hx, n6, n7, rfl⟩
  exact ⟨x', s6', s7', hx', h6, h7, e⟩
theorem wp_env {ns : List Int} {x : D} {s1 s3 s4 s5 s6 s7 : Sl} : wp (Env ns x s1 s3 s4 s5 s6 s7) [7] = Env ns x s1 s3 s4 s5 s6 .no := rfl
theorem okO_env {ns : List Int} {x : D} {s1 s3 s4 s5 s6 s7 : Sl} (h : s7.isO = false) : okO (Env ns x s1 s3 s4 s5 s6 s7) [7] = true := by
  show (!s7.isO && true) = true
  rw [h]; rfl
theorem bk_env {ns : List Int} {x x' : D} {s1 s3 s4 s5 s6 s7 t7 : Sl} : bk [7] (Env ns x s1 s3 s4 s5 s6 s7) (Env ns x' s1 s3 s4 s5 s6 t7) = Env ns x' s1 s3 s4 s5 s6 s7 := rfl
theorem drawn {ns : List Int} {x : D} {s1 s3 s4 s5 s6 s7 : Sl} (h7 : s7.isO = false) (hx : BoxOk x) (n : Int) : ∃ (vs : List Int) (x' : D), BoxOk x' ∧ cl [7] (gn 7) yes Q_law_2 (rgD 0 n) (Env ns x s1 s3 s4 s5 s6 s7) = some (vs.map D.int, Env ns x' s1 s3 s4 s5 s6 s7) ∧ vs.length = n.toNat ∧ ∀ v ∈ vs, v.natAbs ≤ 1000 := by
  obtain ⟨vs, d', e, ⟨x', hx', rfl⟩, hl, hv⟩ := cl_ints (own := [7]) (t := gn 7) (f := Q_law_2) (xs := rgD 0 n) (fun d => ∃ x', BoxOk x' ∧ d = Env ns x' s1 s3 s4 s5 s6 s7) (fun v => v.natAbs ≤ 1000) (fun y hy d hd => by
    obtain ⟨x1, hx1, rfl⟩ := hd
    obtain ⟨r, x2, e1, p0, p1, hx2⟩ := choose_eq hx1 201 (by decide) (by decide)
    refine ⟨okO_env h7, Env ns x1 s1 s3 s4 s5 s6 (.va y), r - 100, Env ns x2 s1 s3 s4 s5 s6 (.va y), ?_, ?_, okO_env rfl, by omega, x2, hx2, bk_env⟩
    · rw [wp_env]
      unfold Env
      walk_at "zh"
    · unfold Env Q_law_2
      walk_at "zh") ⟨x, hx, rfl⟩
  rw [rgD_len, Int.sub_zero] at hl
  exact ⟨vs, x', hx', e, hl, hv⟩
theorem same_list (b : Bool) (vs : List Int) : nLst [seqD b vs] = some (.lst (vs.map D.int)) := by cases b <;> rfl
theorem turn3 {ns : List Int} {x : D} {s1 s3 s4 s5 s6 s7 : Sl} {k : Int} (k0 : 0 ≤ k) (h3 : s3.isO = false) (h4 : s4.isO = false) (h5 : s5.isO = false) (h6 : s6.isO = false) (h7 : s7.isO = false) (hx : BoxOk x) :
    ∃ d1 d2, gn 3 (.int k) (Env ns x s1 s3 s4 s5 s6 s7) = some d1 ∧ L_law_3 d1 = some (.nx, d2) ∧ ∃ x' t3 t4 t5 t6 t7, BoxOk x' ∧ t3.isO = false ∧ t4.isO = false ∧ t5.isO = false ∧ t6.isO = false ∧ t7.isO = false ∧ d2 = Env ns x' s1 t3 t4 t5 t6 t7 := by
  obtain ⟨r, x1, e1, p0, p1, hx1⟩ := choose_eq hx 9 (by decide) (by decide)
  obtain ⟨vs, x2, hx2, e2, hl, hv⟩ := drawn (ns := ns) (s1 := s1) (s3 := .va (.int k)) (s4 := s4) (s5 := s5) (s6 := s6) h7 hx1 (1 + r)
  obtain ⟨b, hb⟩ : ∃ b : Bool, b = decide (k % 2 = 0) := ⟨_, rfl⟩
  obtain ⟨x3, t6, t7, hx3, n6, n7, e3⟩ := walls_loop (ns := ns) (s1 := s1) (s3 := .va (.int k)) (b := b) (by omega) (by omega) hv h6 h7 hx2
  have q3 := nio_of h3
  have q4 := nio_of h4
  have q5 := nio_of h5
  have rg : rgOk 0 (1 + r) = true := rgOk_small (by omega) (by omega) (by omega) (by omega)
  have hlr : (rgD 0 (1 + r)).length ≤ 16777216 := by rw [rgD_len]; omega
  have m1 : iMod k 2 = some (k % 2) := iMod_pos (by decide)
  have hsl := same_list b vs
  have ne : neD (.lst (vs.map D.int)) (.lst (vs.map D.int)) = some (.bl false) := neD_same (pl_ints vs)
  refine ⟨Env ns x s1 (.va (.int k)) s4 s5 s6 s7, Env ns x3 s1 (.va (.int k)) (.va (.lst (vs.map D.int))) (.va (seqD b vs)) t6 t7, ?_, ?_, x3, _, _, _, _, _, hx3, rfl, rfl, rfl, n6, n7, rfl⟩
  · unfold Env
    walk_at "zh"
  · have hc : fi (tb (b2 eqD (b2 modD (nm 3) (kc (.int 2))) (kc (.int 0)))) (cn nTup (ac (nm 4) an)) (cn nLst (ac (nm 4) an)) (Env ns x2 s1 (.va (.int k)) (.va (.lst (vs.map D.int))) s5 s6 s7) = some (seqD b vs, Env ns x2 s1 (.va (.int k)) (.va (.lst (vs.map D.int))) s5 s6 s7) := by
      subst hb
      unfold Env
      by_cases h : k % 2 = 0
      · simp only [h, decide_true, seqD, if_true]
        walk_at "zh"
      · simp only [h, decide_false, seqD, Bool.false_eq_true, if_false]
        walk_at "zh"
    unfold L_law_3
    generalize fi (tb (b2 eqD (b2 modD (nm 3) (kc (.int 2))) (kc (.int 0)))) (cn nTup (ac (nm 4) an)) (cn nLst (ac (nm 4) an)) = ff at *
    unfold Env at *
    clear hb h3 h4 h5 h6 h7 hx hx1 hx2 hx3 n6 n7 hv
    generalize seqD b vs = gv at *
    generalize hgw : vs.map D.int = gw at *
    walk_at "zh"
def Good (ns : List Int) (s1 : Sl) (d : Ev) : Prop := ∃ x t3 t4 t5 t6 t7, BoxOk x ∧ t3.isO = false ∧ t4.isO = false ∧ t5.isO = false ∧ t6.isO = false ∧ t7.isO = false ∧ d = Env ns x s1 t3 t4 t5 t6 t7
theorem turns_loop {ns : List Int} {x : D} {s1 s3 s4 s5 s6 s7 : Sl} (h3 : s3.isO = false) (h4 : s4.isO = false) (h5 : s5.isO = false) (h6 : s6.isO = false) (h7 : s7.isO = false) (hx : BoxOk x) :
    ∃ x' t3 t4 t5 t6 t7, BoxOk x' ∧ t3.isO = false ∧ t4.isO = false ∧ t5.isO = false ∧ t6.isO = false ∧ t7.isO = false ∧ fo (gn 3) L_law_3 (rgD 0 5) (Env ns x s1 s3 s4 s5 s6 s7) = some (.nx, Env ns x' s1 t3 t4 t5 t6 t7) := by
  obtain ⟨d', e, x', t3, t4, t5, t6, t7, q, q3, q4, q5, q6, q7, rfl⟩ := fo_inv (t := gn 3) (B := L_law_3) (xs := rgD 0 5) (Good ns s1)
    (fun y hy d hd => by
      obtain ⟨x, t3, t4, t5, t6, t7, q, q3, q4, q5, q6, q7, rfl⟩ := hd
      obtain ⟨k, rfl, k0, k1⟩ := rgD_mem hy
      exact turn3 k0 q3 q4 q5 q6 q7 q) ⟨x, s3, s4, s5, s6, s7, hx, h3, h4, h5, h6, h7, rfl⟩
  exact ⟨x', t3, t4, t5, t6, t7, q, q3, q4, q5, q6, q7, e⟩
/-- one round -/
def Out (ns : List Int) (d : Ev) : Prop := ∃ s1 s2 t3 t4 t5 t6 t7, s1.isO = false ∧ s2.nio = true ∧ t3.isO = false ∧ t4.isO = false ∧ t5.isO = false ∧ t6.isO = false ∧ t7.isO = false ∧ d = [.va (.scr ns), s1, s2, t3, t4, t5, t6, t7]
theorem round {ns : List Int} {k : Int} (k0 : 0 ≤ k) (k1 : k < 4) {d : Ev} (hd : Out ns d) : ∃ d1 d2, gn 1 (.int k) d = some d1 ∧ L_law_4 d1 = some (.nx, d2) ∧ Out ns d2 := by
  obtain ⟨s1, s2, s3, s4, s5, s6, s7, h1, h2, h3, h4, h5, h6, h7, rfl⟩ := hd
  obtain ⟨x, e1, hx⟩ := seed_eq ns k k0 k1
  obtain ⟨x', t3, t4, t5, t6, t7, q, q3, q4, q5, q6, q7, e2⟩ := turns_loop (ns := ns) (s1 := .va (.int k)) h3 h4 h5 h6 h7 hx
  have n1 := nio_of h1
  have rg : rgOk 0 5 = true := by decide
  refine ⟨[.va (.scr ns), .va (.int k), s2, s3, s4, s5, s6, s7], Env ns x' (.va (.int k)) t3 t4 t5 t6 t7, ?_, ?_, .va (.int k), .ow x', t3, t4, t5, t6, t7, rfl, rfl, q3, q4, q5, q6, q7, rfl⟩
  · walk_at "zh"
  · unfold Env at *
    clear h1 h3 h4 h5 h6 h7 hx q q3 q4 q5 q6 q7
    unfold L_law_4
    walk_at "zh"
theorem rounds {ns : List Int} {n : Int} (hn : n ≤ 4) {d : Ev} (hd : Out ns d) : ∃ d', fo (gn 1) L_law_4 (rgD 0 n) d = some (.nx, d') ∧ Out ns d' :=
  fo_inv (Out ns) (fun y hy d hd => by
    obtain ⟨k, rfl, k0, k1⟩ := rgD_mem hy
    exact round k0 (by omega) hd) hd
/-- the last row: 5 in a zero wall -/
def zrD : D → D
  | .int c => .int ((progIx 2 1 c).1 * 5)
  | _ => .non
theorem last_cell {ns : List Int} {s1 s2 s3 s4 s5 s6 s7 : Sl} (h7 : s7.isO = false) (h2 : s2.nio = true) :
    cl [7] (gn 7) yes Q_law_1 (rgD (0 - 3) 4) [.va (.scr ns), s1, s2, s3, s4, s5, s6, s7] = some ((rgD (0 - 3) 4).map zrD, [.va (.scr ns), s1, s2, s3, s4, s5, s6, s7]) := by
  refine cl_map _ (by show (!s7.isO && true) = true; rw [h7]; rfl) fun y hy => ?_
  obtain ⟨c, rfl, c0, c1⟩ := rgD_mem hy
  refine ⟨[.va (.scr ns), s1, s2, s3, s4, s5, s6, .va (.int c)], [.va (.scr ns), s1, s2, s3, s4, s5, s6, .va (.int c)], ?_, ?_, rfl, rfl⟩
  · have n7 := nio_of h7
    show gn 7 _ [.va (.scr ns), s1, s2, s3, s4, s5, s6, .no] = _
    walk_at "zh"
  · have e1 := need_ok (w3_of 2)
    have e2 := beyond_eq false [5] 2 (by decide) c (by decide) (by decide) (by omega) (by omega)
    have hi := (ix_eq (w := 2) (n := 1) (c := c) (by decide) (by decide) (by decide) (by omega) (by omega)).2
    have hi : (progIx 2 1 c).2 = 0 := by omega
    have e3 : ([5] : List Int).getD (progIx 2 1 c).2 0 = 5 := by rw [hi]; rfl
    simp only [List.length_cons, List.length_nil, Nat.zero_add] at e2
    rw [e3] at e2
    simp only [seqD, Bool.false_eq_true, if_false, List.map_cons, List.map_nil, wOf] at e2 e1
    have e4 : F_go_on [.va (.lst [.int 5]), .va (.str "zero"), .va (.int c)] = some (.int ((progIx 2 1 c).1 * 5), [.no, .no, .no]) := by
      unfold F_go_on B_go_on
      walk_at "zh"
    unfold Q_law_1
    walk_at "zh"
    rfl
theorem row_eq : ((rgD (0 - 3) 4).map zrD) = [.int 0, .int (0 - 5), .int 0, .int 5, .int 0, .int (0 - 5), .int 0] := by kernel_rfl
theorem main_law (ns : List Int) (hn : ns.length ≤ 63) : F_law [.va (.scr ns)] = some (.bl true, [.no]) := by
  obtain ⟨n, hn, n1⟩ : ∃ n : Int, (if (if (ns.length : Int) < 4 then (ns.length : Int) else 4) > 1 then (if (ns.length : Int) < 4 then (ns.length : Int) else 4) else 1) = n ∧ n ≤ 4 := ⟨_, rfl, by split <;> (try split) <;> omega⟩
  obtain ⟨d', e, s1, s2, s3, s4, s5, s6, s7, h1, h2, h3, h4, h5, h6, h7, rfl⟩ := rounds (ns := ns) n1 (d := [.va (.scr ns), .no, .no, .no, .no, .no, .no, .no]) ⟨.no, .no, .no, .no, .no, .no, .no, rfl, rfl, rfl, rfl, rfl, rfl, rfl, rfl⟩
  have e2 := last_cell (ns := ns) (s1 := s1) (s3 := s3) (s4 := s4) (s5 := s5) (s6 := s6) h7 h2
  rw [row_eq] at e2
  have hl : (rgD (0 - 3) 4).length ≤ 16777216 := by rw [rgD_len]; decide
  have rg : rgOk (0 - 3) 4 = true := by decide
  have rg2 : rgOk 0 n = true := rgOk_small (by omega) (by omega) (by rw [← hn]; split <;> (try split) <;> omega) (by omega)
  have q : eqD (.lst [.int 0, .int (0 - 5), .int 0, .int 5, .int 0, .int (0 - 5), .int 0]) (.lst [.int 0, .int (0 - 5), .int 0, .int 5, .int 0, .int (0 - 5), .int 0]) = some (.bl true) := eqD_same (b := false) (by decide)
  unfold F_law B_law
  walk_at "zh"
end K66

namespace K66
open PySem L2 Zr
def topS (i : Nat) : Stmt := PySem.Challenge.pw_sharerows_k66_values_beyond_walls.main.body.getD i (.Pass ⟨0, 0, 0, 0⟩)
abbrev s_law_beyond : Stmt := (topS 11)
abbrev N_law_beyond : List Str := ["_law_values", "_law_shut", "_law_cell", "_law_size", "_law_sign", "_law_turn"]
abbrev s_law_choose : Stmt := (topS 10)
abbrev N_law_choose : List Str := ["_law_box", "_law_many", "_law_digit", "_law_raw"]
abbrev s_law_seed : Stmt := (topS 9)
abbrev N_law_seed : List Str := ["_law_script", "_law_k", "_law_cell", "_law_great"]
abbrev s_beyond : Stmt := (topS 6)
abbrev N_beyond : List Str := ["values", "wall", "cell", "many", "at"]
abbrev s_need_wall : Stmt := (topS 5)
abbrev N_need_wall : List Str := ["wall"]
abbrev s_go_on : Stmt := (topS 7)
abbrev N_go_on : List Str := ["values", "wall", "cell"]
abbrev s_law : Stmt := (topS 12)
abbrev N_law : List Str := ["_law_script", "_law_k", "_law_box", "_law_turn", "_law_values", "_law_given", "_law_shut", "_law_cell"]
def flds : Nat → List Str := fun c => []
abbrev GG (K : PySem.W.Frag) (ad : Nat → Addr) : Cls := ⟨K, ad, flds⟩
structure Txt (K : PySem.W.Frag) (mg : Str → Option Value) (ad : Nat → Addr) where
  a_WALLS : Value
  w_WALLS : V
  m_WALLS : mg "WALLS" = some a_WALLS
  v_WALLS : RelV w_WALLS a_WALLS
  r_WALLS : ∀ S, Rep (GG K ad) S c_WALLS w_WALLS
  a_law_beyond : Addr
  d_law_beyond : FuncData
  f_law_beyond : Fun K "_law_beyond" "_law_beyond" s_law_beyond a_law_beyond d_law_beyond
  m_law_beyond : mg "_law_beyond" = some (.ref a_law_beyond)
  b_law_beyond : Binds K d_law_beyond ["_law_values", "_law_shut", "_law_cell"] []
  a_law_choose : Addr
  d_law_choose : FuncData
  f_law_choose : Fun K "_law_choose" "_law_choose" s_law_choose a_law_choose d_law_choose
  m_law_choose : mg "_law_choose" = some (.ref a_law_choose)
  b_law_choose : Binds K d_law_choose ["_law_box", "_law_many"] []
  a_law_seed : Addr
  d_law_seed : FuncData
  f_law_seed : Fun K "_law_seed" "_law_seed" s_law_seed a_law_seed d_law_seed
  m_law_seed : mg "_law_seed" = some (.ref a_law_seed)
  b_law_seed : Binds K d_law_seed ["_law_script", "_law_k"] []
  a_beyond : Addr
  d_beyond : FuncData
  f_beyond : Fun K "beyond" "beyond" s_beyond a_beyond d_beyond
  m_beyond : mg "beyond" = some (.ref a_beyond)
  b_beyond : Binds K d_beyond ["values", "wall", "cell"] []
  a_need_wall : Addr
  d_need_wall : FuncData
  f_need_wall : Fun K "need_wall" "need_wall" s_need_wall a_need_wall d_need_wall
  m_need_wall : mg "need_wall" = some (.ref a_need_wall)
  b_need_wall : Binds K d_need_wall ["wall"] []
  a_go_on : Addr
  d_go_on : FuncData
  f_go_on : Fun K "go_on" "go_on" s_go_on a_go_on d_go_on
  m_go_on : mg "go_on" = some (.ref a_go_on)
  b_go_on : Binds K d_go_on ["values", "wall", "cell"] []
  a_law : Addr
  d_law : FuncData
  f_law : Fun K "law" "law" s_law a_law d_law
  m_law : mg "law" = some (.ref a_law)
  b_law : Binds K d_law ["_law_script"] []
  z_abs : mg "abs" = none
  z_int : mg "int" = none
  z_isinstance : mg "isinstance" = none
  z_len : mg "len" = none
  z_list : mg "list" = none
  z_max : mg "max" = none
  z_min : mg "min" = none
  z_range : mg "range" = none
  z_repr : mg "repr" = none
  z_str : mg "str" = none
  z_tuple : mg "tuple" = none
section
variable {P : Program} {w : World} {K : PySem.W.Frag} {mg : Str → Option Value} {base : Heap} {ad : Nat → Addr}
theorem tab_str_ok (T : Txt K mg ad) : TabOk (GG K ad) K tab_str := by
  intro q hq
  simp only [tab_str, List.mem_cons, List.not_mem_nil, or_false] at hq
  rcases hq with rfl | rfl | rfl | rfl | rfl | rfl
  · exact ⟨by decide, fun c h => by have h : 0 = 7 + c := h; omega⟩
  · exact ⟨by decide, fun c h => by have h : 1 = 7 + c := h; omega⟩
  · exact ⟨by decide, fun c h => by have h : 2 = 7 + c := h; omega⟩
  · exact ⟨by decide, fun c h => by have h : 3 = 7 + c := h; omega⟩
  · exact ⟨by decide, fun c h => by have h : 4 = 7 + c := h; omega⟩
  · exact ⟨by decide, fun c h => by have h : 5 = 7 + c := h; omega⟩
theorem tab_str_k (T : Txt K mg ad) : ∀ q ∈ tab_str, PySem.W.kitOne K (tyOf (GG K ad) q.1) (.type "str") = some q.2 := by
  intro q hq
  simp only [tab_str, List.mem_cons, List.not_mem_nil, or_false] at hq
  rcases hq with rfl | rfl | rfl | rfl | rfl | rfl
  · exact (kit_ty (by decide +kernel))
  · exact (kit_ty (by decide +kernel))
  · exact (kit_ty (by decide +kernel))
  · exact (kit_ty (by decide +kernel))
  · exact (kit_ty (by decide +kernel))
  · exact (kit_ty (by decide +kernel))
theorem sc_law_beyond : FnScope N_law_beyond ["_law_values", "_law_shut", "_law_cell"] (defScope s_law_beyond) := ⟨rfl, rfl, rfl, by decide +kernel, rfl, by decide +kernel, by decide +kernel⟩
set_option maxHeartbeats 4000000 in
theorem ok_law_beyond (T : Txt K mg ad) : FnOk P w K mg base CX0 1 T.a_law_beyond T.d_law_beyond ["_law_values", "_law_shut", "_law_cell"] (spD (GG K ad) 3 F_law_beyond) :=
  fn_ok T.f_law_beyond sc_law_beyond rfl rfl fun cdv A outer s H E hr => by
    have hu := hr.units
    exact (lss_cons (ls_par (i := 3) (j := 4) rfl sc_law_beyond.nd rfl rfl (by decide) rfl rfl (le_callB (r_len rfl) call_len rfl T.z_len (by decide +kernel) (la_cons (le_nm 0) la_nil)) le_int (by rfl))
  (lss_cons (ls_for PassesOwn.never rfl (li_range1 rfl T.z_range le_int) (lg_nm (i := 5) sc_law_beyond.nd rfl (by first | exact Or.inl rfl | exact Or.inr rfl))
  (lss_cons (ls_if (lt_chain r_leD r_ltD op_le op_lt le_int (le_nm 2) (le_nm 3))
  (lss_one (ls_ret (le_bin (r_mulD rfl) op_mulD (le_nm 4) (le_ix rfl (le_nm 0) (le_nm 2) (fun _ _ => rfl)))))
  lss_nil)
  (lss_one (ls_if (lt_cmp (r_eq rfl) (op_eqD hu) (le_nm 1) le_str)
  (lss_one (ls_set (i := 2) sc_law_beyond.nd rfl (by first | exact Or.inl rfl | exact Or.inr rfl) (le_if (lt_cmp r_ltD op_lt (le_nm 2) le_int) (le_bin (r_add rfl) op_addD (le_nm 2) (le_nm 3)) (le_bin r_subD op_sub (le_nm 2) (le_nm 3)))))
  (lss_one (ls_if (lt_cmp (r_eq rfl) (op_eqD hu) (le_nm 1) le_str)
  (lss_one (ls_set (i := 2) sc_law_beyond.nd rfl (by first | exact Or.inl rfl | exact Or.inr rfl) (le_if (lt_cmp r_ltD op_lt (le_nm 2) le_int) (le_bin r_subD op_sub (le_bin r_subD op_sub le_int le_int) (le_nm 2)) (le_bin r_subD op_sub (le_bin r_subD op_sub (le_bin (r_mulD rfl) op_mulD le_int (le_nm 3)) le_int) (le_nm 2)))))
  (lss_one (ls_if (lt_cmp (r_in rfl) op_inA (le_nm 2) (le_tup (la_cons (le_bin r_subD op_sub le_int le_int) (la_cons (le_nm 3) la_nil))))
  (lss_one (ls_ret le_int))
  (lss_one (ls_par (i := 2) (j := 4) rfl sc_law_beyond.nd rfl rfl (by decide) rfl rfl (le_if (lt_cmp r_ltD op_lt (le_nm 2) le_int) (le_bin r_subD op_sub (le_bin r_subD op_sub le_int le_int) (le_nm 2)) (le_bin r_subD op_sub (le_bin (r_mulD rfl) op_mulD le_int (le_nm 3)) (le_nm 2))) (le_bin r_subD op_sub le_int (le_nm 4)) (by rfl)))))))))))
  (lss_one (ls_ret le_int))))
theorem sc_law_choose : FnScope N_law_choose ["_law_box", "_law_many"] (defScope s_law_choose) := ⟨rfl, rfl, rfl, by decide +kernel, rfl, by decide +kernel, by decide +kernel⟩
set_option maxHeartbeats 4000000 in
theorem ok_law_choose (T : Txt K mg ad) : FnOk P w K mg base CX0 1 T.a_law_choose T.d_law_choose ["_law_box", "_law_many"] (spD (GG K ad) 2 F_law_choose) :=
  fn_ok T.f_law_choose sc_law_choose rfl rfl fun cdv A outer s H E hr => by
    exact (lss_cons (ls_if (lt_cmp r_gtD op_gt (le_oix 0 le_int (fun _ _ => rfl)) le_int)
  (lss_cons (ls_set (i := 2) sc_law_choose.nd rfl (by first | exact Or.inl rfl | exact Or.inr rfl) (le_bin r_modD op_modN (le_callTy r_int call_int1 rfl T.z_int (by decide +kernel) (la_cons (le_oix 0 le_int (fun _ _ => rfl)) la_nil)) (le_nm 1)))
  (lss_cons (ls_asg (le_bin r_divD op_fdivA (le_oix 0 le_int (fun _ _ => rfl)) (le_nm 1)) (lg_set 0 le_int))
  (lss_one (ls_ret (le_nm 2)))))
  lss_nil)
  (lss_cons (ls_set (i := 3) sc_law_choose.nd rfl (by first | exact Or.inl rfl | exact Or.inr rfl) (le_bin r_modD op_modN (le_callTy r_int call_int1 rfl T.z_int (by decide +kernel) (la_cons (le_bin (r_add rfl) op_addD (le_bin (r_mulD rfl) op_mulD (le_oix 0 le_int (fun _ _ => rfl)) le_int) le_int) la_nil)) le_int))
  (lss_cons (ls_asg (le_bin (r_add rfl) op_addD (le_bin r_modD op_modN (le_callTy r_int call_int1 rfl T.z_int (by decide +kernel) (la_cons (le_bin (r_add rfl) op_addD (le_bin (r_mulD rfl) op_mulD (le_nm 3) le_int) le_int) la_nil)) le_int) le_int) (lg_set 0 le_int))
  (lss_one (ls_ret (le_bin r_modD op_modN (le_callTy r_int call_int1 rfl T.z_int (by decide +kernel) (la_cons (le_bin r_divD op_fdivA (le_bin (r_add rfl) op_addD (le_bin (r_mulD rfl) op_mulD (le_nm 3) le_int) (le_oix 0 le_int (fun _ _ => rfl))) le_int) la_nil)) (le_nm 1)))))))
theorem sc_law_seed : FnScope N_law_seed ["_law_script", "_law_k"] (defScope s_law_seed) := ⟨rfl, rfl, rfl, by decide +kernel, rfl, by decide +kernel, by decide +kernel⟩
set_option maxHeartbeats 4000000 in
theorem ok_law_seed (T : Txt K mg ad) : FnOk P w K mg base CX0 1 T.a_law_seed T.d_law_seed ["_law_script", "_law_k"] (spF (GG K ad) 2 F_law_seed) :=
  fn_okF T.f_law_seed sc_law_seed rfl rfl fun cdv A outer s H E hr => by
    exact (lss_cons (ls_set (i := 2) sc_law_seed.nd rfl (by first | exact Or.inl rfl | exact Or.inr rfl) (le_bin (r_add rfl) op_addD (le_bin (r_mulD rfl) op_mulD le_int (le_nm 1)) le_int))
  (lss_cons (ls_if (lt_cmp r_ltD op_lt (le_nm 1) (le_callB (r_len rfl) call_len rfl T.z_len (by decide +kernel) (la_cons (le_nm 0) la_nil)))
  (lss_one (ls_set (i := 2) sc_law_seed.nd rfl (by first | exact Or.inl rfl | exact Or.inr rfl) (le_callB r_abs call_abs rfl T.z_abs (by decide +kernel) (la_cons (le_ix rfl (le_nm 0) (le_nm 1) (fun _ _ => rfl)) la_nil))))
  (lss_one (ls_if (lt_cmp r_gtD op_gt (le_callB (r_len rfl) call_len rfl T.z_len (by decide +kernel) (la_cons (le_nm 0) la_nil)) le_int)
  (lss_one (ls_set (i := 2) sc_law_seed.nd rfl (by first | exact Or.inl rfl | exact Or.inr rfl) (le_bin (r_add rfl) op_addD (le_nm 2) (le_bin (r_mulD rfl) op_mulD (le_bin r_modD op_modN (le_callTy r_int call_int1 rfl T.z_int (by decide +kernel) (la_cons (le_callB r_abs call_abs rfl T.z_abs (by decide +kernel) (la_cons (le_ix rfl (le_nm 0) (le_bin r_modD op_modN (le_callTy r_int call_int1 rfl T.z_int (by decide +kernel) (la_cons (le_nm 1) la_nil)) (le_callB (r_len rfl) call_len rfl T.z_len (by decide +kernel) (la_cons (le_nm 0) la_nil))) (fun _ _ => rfl)) la_nil)) la_nil)) le_int) le_int))))
  lss_nil)))
  (lss_cons (ls_set (i := 3) sc_law_seed.nd rfl (by first | exact Or.inl rfl | exact Or.inr rfl) (le_if (lt_cmp r_geD op_ge (le_nm 2) (le_bin r_powD op_pow le_int le_int)) (le_nm 2) le_int))
  (lss_one (ls_retF (lf_lst (la_cons (le_nm 3) (la_cons (le_bin (r_add rfl) op_addD (le_bin r_modD op_modN (le_callTy r_int call_int1 rfl T.z_int (by decide +kernel) (la_cons (le_bin (r_add rfl) op_addD (le_bin (r_mulD rfl) op_mulD (le_bin r_modD op_modN (le_callTy r_int call_int1 rfl T.z_int (by decide +kernel) (la_cons (le_nm 2) la_nil)) le_int) le_int) (le_bin (r_mulD rfl) op_mulD le_int (le_nm 1))) la_nil)) le_int) le_int) la_nil))))))))
theorem sc_beyond : FnScope N_beyond ["values", "wall", "cell"] (defScope s_beyond) := ⟨rfl, rfl, rfl, by decide +kernel, rfl, by decide +kernel, by decide +kernel⟩
set_option maxHeartbeats 4000000 in
theorem ok_beyond (T : Txt K mg ad) : FnOk P w K mg base CX0 1 T.a_beyond T.d_beyond ["values", "wall", "cell"] (spD (GG K ad) 3 F_beyond) :=
  fn_ok T.f_beyond sc_beyond rfl rfl fun cdv A outer s H E hr => by
    have hu := hr.units
    exact (lss_cons (ls_set (i := 3) sc_beyond.nd rfl (by first | exact Or.inl rfl | exact Or.inr rfl) (le_callB (r_len rfl) call_len rfl T.z_len (by decide +kernel) (la_cons (le_nm 0) la_nil)))
  (lss_cons (ls_if (lt_cmp (r_eq rfl) (op_eqD hu) (le_nm 1) le_str)
  (lss_one (ls_ret (le_ix rfl (le_nm 0) (le_bin r_modD op_modN (le_nm 2) (le_nm 3)) (fun _ _ => rfl))))
  lss_nil)
  (lss_cons (ls_if (lt_cmp (r_eq rfl) (op_eqD hu) (le_nm 1) le_str)
  (lss_cons (ls_set (i := 4) sc_beyond.nd rfl (by first | exact Or.inl rfl | exact Or.inr rfl) (le_bin r_modD op_modN (le_nm 2) (le_bin (r_mulD rfl) op_mulD le_int (le_nm 3))))
  (lss_one (ls_ret (le_if (lt_cmp r_ltD op_lt (le_nm 4) (le_nm 3)) (le_ix rfl (le_nm 0) (le_nm 4) (fun _ _ => rfl)) (le_ix rfl (le_nm 0) (le_bin r_subD op_sub (le_bin r_subD op_sub (le_bin (r_mulD rfl) op_mulD le_int (le_nm 3)) le_int) (le_nm 4)) (fun _ _ => rfl))))))
  lss_nil)
  (lss_cons (ls_set (i := 4) sc_beyond.nd rfl (by first | exact Or.inl rfl | exact Or.inr rfl) (le_bin r_modD op_modN (le_bin (r_add rfl) op_addD (le_nm 2) le_int) (le_bin (r_add rfl) op_addD (le_bin (r_mulD rfl) op_mulD le_int (le_nm 3)) le_int)))
  (lss_cons (ls_if (lt_cmp (r_in rfl) op_inA (le_nm 4) (le_tup (la_cons le_int (la_cons (le_bin (r_add rfl) op_addD (le_nm 3) le_int) la_nil))))
  (lss_one (ls_ret le_int))
  lss_nil)
  (lss_one (ls_ret (le_if (lt_cmp r_leD op_le (le_nm 4) (le_nm 3)) (le_ix rfl (le_nm 0) (le_bin r_subD op_sub (le_nm 4) le_int) (fun _ _ => rfl)) (le_un r_neg un_neg (le_ix rfl (le_nm 0) (le_bin r_subD op_sub (le_bin (r_add rfl) op_addD (le_bin (r_mulD rfl) op_mulD le_int (le_nm 3)) le_int) (le_nm 4)) (fun _ _ => rfl)))))))))))
theorem sc_need_wall : FnScope N_need_wall ["wall"] (defScope s_need_wall) := ⟨rfl, rfl, rfl, by decide +kernel, rfl, by decide +kernel, by decide +kernel⟩
set_option maxHeartbeats 4000000 in
theorem ok_need_wall (T : Txt K mg ad) : FnOk P w K mg base CX0 1 T.a_need_wall T.d_need_wall ["wall"] (spD (GG K ad) 1 F_need_wall) :=
  fn_ok T.f_need_wall sc_need_wall rfl rfl fun cdv A outer s H E hr => by
    exact (lss_one (ls_if (lt_w (lw_or (lt_not (lt_val (le_isi rfl (tab_str_ok T) (tab_str_k T) rfl T.z_isinstance (.ty _) (le_nm 0) (pe_bltn (v := .ty "str") rfl T.z_str (by decide +kernel) rfl)))) (lw_or1 (lt_cmp (r_ni rfl) op_niA (le_nm 0) (le_gl rfl T.m_WALLS T.v_WALLS T.r_WALLS)))))
  (lss_one ls_never)
  lss_nil))
theorem sc_go_on : FnScope N_go_on ["values", "wall", "cell"] (defScope s_go_on) := ⟨rfl, rfl, rfl, by decide +kernel, rfl, by decide +kernel, by decide +kernel⟩
set_option maxHeartbeats 4000000 in
theorem ok_go_on (T : Txt K mg ad) : FnOk P w K mg base CX0 2 T.a_go_on T.d_go_on ["values", "wall", "cell"] (spD (GG K ad) 3 F_go_on) :=
  fn_ok T.f_go_on sc_go_on rfl rfl fun cdv A outer s H E hr => by
    exact (lss_cons (ls_expr (le_call (ok_need_wall T) (hr.mono (by decide)) rfl T.m_need_wall T.f_need_wall.kp T.b_need_wall .nil repl_nil (lb_va (le_nm 1) lb_nil) (.va .nil) rfl))
  (lss_one (ls_ret (le_call (ok_beyond T) (hr.mono (by decide)) rfl T.m_beyond T.f_beyond.kp T.b_beyond .nil repl_nil (lb_va (le_nm 0) (lb_va (le_nm 1) (lb_va (le_nm 2) lb_nil))) (.va (.va (.va .nil))) rfl))))
theorem sc_law : FnScope N_law ["_law_script"] (defScope s_law) := ⟨rfl, rfl, rfl, by decide +kernel, rfl, by decide +kernel, by decide +kernel⟩
set_option maxHeartbeats 4000000 in
theorem ok_law (T : Txt K mg ad) : FnOk P w K mg base CX0 3 T.a_law T.d_law ["_law_script"] (spD (GG K ad) 1 F_law) :=
  fn_ok T.f_law sc_law rfl rfl fun cdv A outer s H E hr => by
    have hu := hr.units
    exact (lss_cons (ls_for PassesOwn.never rfl (li_range1 rfl T.z_range (le_callB r_max2 (call_max2 rfl) rfl T.z_max (by decide +kernel) (la_cons le_int (la_cons (le_callB r_min2 (call_min2 rfl) rfl T.z_min (by decide +kernel) (la_cons le_int (la_cons (le_callB (r_len rfl) call_len rfl T.z_len (by decide +kernel) (la_cons (le_nm 0) la_nil)) la_nil))) la_nil)))) (lg_nm (i := 1) sc_law.nd rfl (by first | exact Or.inl rfl | exact Or.inr rfl))
  (lss_cons (ls_own (i := 2) sc_law.nd rfl (by first | exact Or.inl rfl | exact Or.inr rfl) (lf_call (ok_law_seed T) (hr.mono (by decide)) rfl T.m_law_seed T.f_law_seed.kp T.b_law_seed .nil repl_nil (lb_va (le_nm 0) (lb_va (le_nm 1) lb_nil)) (.va (.va .nil)) rfl))
  (lss_one (ls_for PassesOwn.never rfl (li_range1 rfl T.z_range le_int) (lg_nm (i := 3) sc_law.nd rfl (by first | exact Or.inl rfl | exact Or.inr rfl))
  (lss_cons (ls_setLc (own := [("_law_cell", 7)]) (i := 4) rfl sc_law.nd rfl rfl (sw_true rfl rfl rfl (by decide +kernel)) (li_range1 rfl T.z_range (le_bin (r_add rfl) op_addD le_int (le_call (ok_law_choose T) (hr.mono (by decide)) rfl T.m_law_choose T.f_law_choose.kp T.b_law_choose .nil repl_nil (lb_io 2 (lb_va le_int lb_nil)) (.io (.va .nil)) rfl))) (blkOk_by (own := [("_law_cell", 7)]) (N := N_law) (sc := defScope s_law) (by decide +kernel)) (fun _ _ _ _ _ => (lg_nm (i := 7) sc_law.nd rfl (by first | exact Or.inl rfl | exact Or.inr rfl))) (fun _ _ _ _ _ => lts_nil) (fun _ _ _ _ _ => (le_bin r_subD op_sub (le_call (ok_law_choose T) (hr.mono (by decide)) rfl T.m_law_choose T.f_law_choose.kp T.b_law_choose .nil repl_nil (lb_io 2 (lb_va le_int lb_nil)) (.io (.va .nil)) rfl) le_int)))
  (lss_cons (ls_set (i := 5) sc_law.nd rfl (by first | exact Or.inl rfl | exact Or.inr rfl) (le_if (lt_cmp (r_eq rfl) (op_eqD hu) (le_bin r_modD op_modN (le_nm 3) le_int) le_int) (le_callTy (r_tup rfl) call_tuple_of rfl T.z_tuple (by decide +kernel) (la_cons (le_nm 4) la_nil)) (le_callTy (r_lst rfl) call_list_of rfl T.z_list (by decide +kernel) (la_cons (le_nm 4) la_nil))))
  (lss_cons (ls_for PassesOwn.never rfl (li_seq rfl (le_tup (la_cons le_str (la_cons le_str (la_cons le_str la_nil))))) (lg_nm (i := 6) sc_law.nd rfl (by first | exact Or.inl rfl | exact Or.inr rfl))
  (lss_one (ls_for PassesOwn.never rfl (li_seq rfl (le_bin (r_add rfl) op_addD (le_listRg2 rfl rfl T.z_list rfl T.z_range (le_bin r_subD op_sub le_int le_int) le_int) (le_lst (la_cons (le_bin r_subD op_sub (le_call (ok_law_choose T) (hr.mono (by decide)) rfl T.m_law_choose T.f_law_choose.kp T.b_law_choose .nil repl_nil (lb_io 2 (lb_va le_int lb_nil)) (.io (.va .nil)) rfl) le_int) (la_cons (le_bin r_subD op_sub le_int le_int) (la_cons le_int la_nil)))))) (lg_nm (i := 7) sc_law.nd rfl (by first | exact Or.inl rfl | exact Or.inr rfl))
  (lss_one (ls_if (lt_cmp (r_ne rfl) (op_neD hu) (le_repr rfl T.z_repr (la_cons (le_call (ok_go_on T) (hr.mono (by decide)) rfl T.m_go_on T.f_go_on.kp T.b_go_on .nil repl_nil (lb_va (le_nm 5) (lb_va (le_nm 6) (lb_va (le_nm 7) lb_nil))) (.va (.va (.va .nil))) rfl) la_nil)) (le_repr rfl T.z_repr (la_cons (le_call (ok_law_beyond T) (hr.mono (by decide)) rfl T.m_law_beyond T.f_law_beyond.kp T.b_law_beyond .nil repl_nil (lb_va (le_nm 4) (lb_va (le_nm 6) (lb_va (le_nm 7) lb_nil))) (.va (.va (.va .nil))) rfl) la_nil)))
  (lss_one (ls_ret le_bl))
  lss_nil)))))
  (lss_one (ls_if (lt_cmp (r_ne rfl) (op_neD hu) (le_callTy (r_lst rfl) call_list_of rfl T.z_list (by decide +kernel) (la_cons (le_nm 5) la_nil)) (le_nm 4))
  (lss_one (ls_ret le_bl))
  lss_nil)))))))))
  (lss_one (ls_ret (le_cmp (r_eq rfl) (op_eqD hu) (le_fz (lf_lc (own := [("_law_cell", 7)]) rfl sc_law.nd (li_range2 rfl T.z_range (le_bin r_subD op_sub le_int le_int) le_int) (blkOk_by (own := [("_law_cell", 7)]) (N := N_law) (sc := defScope s_law) (by decide +kernel)) (fun _ _ _ _ _ => (lg_nm (i := 7) sc_law.nd rfl (by first | exact Or.inl rfl | exact Or.inr rfl))) (fun _ _ _ _ _ => lts_nil) (fun _ _ _ _ _ => (le_call (ok_go_on T) (hr.mono (by decide)) rfl T.m_go_on T.f_go_on.kp T.b_go_on .nil repl_nil (lb_va (le_lst (la_cons le_int la_nil)) (lb_va le_str (lb_va (le_nm 7) lb_nil))) (.va (.va (.va .nil))) rfl)))) (le_lst (la_cons le_int (la_cons (le_bin r_subD op_sub le_int le_int) (la_cons le_int (la_cons le_int (la_cons le_int (la_cons (le_bin r_subD op_sub le_int le_int) (la_cons le_int la_nil))))))))))))
end
theorem all_mk {l : PySem.W.OpenLaw} {w : World} {K : PySem.W.Frag} {h : Heap} {mg : Str → Option Value} {fa : Addr} {f0 : Addr} {od0 an0 : Option Addr} {sl0 : Array (Option Value)} {oc0 kV0 dc0 pm0 cd0 ct0 : Value} {f1 : Addr} {od1 an1 : Option Addr} {sl1 : Array (Option Value)} {oc1 kV1 dc1 pm1 cd1 ct1 : Value} {f2 : Addr} {od2 an2 : Option Addr} {sl2 : Array (Option Value)} {oc2 kV2 dc2 pm2 cd2 ct2 : Value} {f3 : Addr} {od3 an3 : Option Addr} {sl3 : Array (Option Value)} {oc3 kV3 dc3 pm3 cd3 ct3 : Value} {f4 : Addr} {od4 an4 : Option Addr} {sl4 : Array (Option Value)} {oc4 kV4 dc4 pm4 cd4 ct4 : Value} {f5 : Addr} {od5 an5 : Option Addr} {sl5 : Array (Option Value)} {oc5 kV5 dc5 pm5 cd5 ct5 : Value} {f6 : Addr} {od6 an6 : Option Addr} {sl6 : Array (Option Value)} {oc6 kV6 dc6 pm6 cd6 ct6 : Value} {tWALLS0 tWALLS1 tWALLS2 : Tok} {aWALLS : Addr} {odWALLS : Option Addr} {nWALLS : Nat} {slWALLS : Array (Option Value)} (X : K.In h) (G : h.Ns mainGlobals mg) (hfa : mg "law" = some (.ref fa))
    (a0 : PySem.W.nsIn K mainGlobals "_law_beyond" = some (some (.ref f0)))
    (l0 : K.lookup f0 = some ⟨oc0, od0, .func (PySem.W.fnOf "_law_beyond" "_law_beyond" (defArgs s_law_beyond) (defBody s_law_beyond) (defScope s_law_beyond) .none kV0 dc0 pm0 an0 cd0 ct0), sl0⟩)
    (c0 : PySem.W.codeIn K cd0 "_law_beyond" = true)
    (k0 : PySem.W.keepIn K (.ref f0) = true)
    (a1 : PySem.W.nsIn K mainGlobals "_law_choose" = some (some (.ref f1)))
    (l1 : K.lookup f1 = some ⟨oc1, od1, .func (PySem.W.fnOf "_law_choose" "_law_choose" (defArgs s_law_choose) (defBody s_law_choose) (defScope s_law_choose) .none kV1 dc1 pm1 an1 cd1 ct1), sl1⟩)
    (c1 : PySem.W.codeIn K cd1 "_law_choose" = true)
    (k1 : PySem.W.keepIn K (.ref f1) = true)
    (a2 : PySem.W.nsIn K mainGlobals "_law_seed" = some (some (.ref f2)))
    (l2 : K.lookup f2 = some ⟨oc2, od2, .func (PySem.W.fnOf "_law_seed" "_law_seed" (defArgs s_law_seed) (defBody s_law_seed) (defScope s_law_seed) .none kV2 dc2 pm2 an2 cd2 ct2), sl2⟩)
    (c2 : PySem.W.codeIn K cd2 "_law_seed" = true)
    (k2 : PySem.W.keepIn K (.ref f2) = true)
    (a3 : PySem.W.nsIn K mainGlobals "beyond" = some (some (.ref f3)))
    (l3 : K.lookup f3 = some ⟨oc3, od3, .func (PySem.W.fnOf "beyond" "beyond" (defArgs s_beyond) (defBody s_beyond) (defScope s_beyond) .none kV3 dc3 pm3 an3 cd3 ct3), sl3⟩)
    (c3 : PySem.W.codeIn K cd3 "beyond" = true)
    (k3 : PySem.W.keepIn K (.ref f3) = true)
    (a4 : PySem.W.nsIn K mainGlobals "need_wall" = some (some (.ref f4)))
    (l4 : K.lookup f4 = some ⟨oc4, od4, .func (PySem.W.fnOf "need_wall" "need_wall" (defArgs s_need_wall) (defBody s_need_wall) (defScope s_need_wall) .none kV4 dc4 pm4 an4 cd4 ct4), sl4⟩)
    (c4 : PySem.W.codeIn K cd4 "need_wall" = true)
    (k4 : PySem.W.keepIn K (.ref f4) = true)
    (a5 : PySem.W.nsIn K mainGlobals "go_on" = some (some (.ref f5)))
    (l5 : K.lookup f5 = some ⟨oc5, od5, .func (PySem.W.fnOf "go_on" "go_on" (defArgs s_go_on) (defBody s_go_on) (defScope s_go_on) .none kV5 dc5 pm5 an5 cd5 ct5), sl5⟩)
    (c5 : PySem.W.codeIn K cd5 "go_on" = true)
    (k5 : PySem.W.keepIn K (.ref f5) = true)
    (a6 : PySem.W.nsIn K mainGlobals "law" = some (some (.ref f6)))
    (l6 : K.lookup f6 = some ⟨oc6, od6, .func (PySem.W.fnOf "law" "law" (defArgs s_law) (defBody s_law) (defScope s_law) .none kV6 dc6 pm6 an6 cd6 ct6), sl6⟩)
    (c6 : PySem.W.codeIn K cd6 "law" = true)
    (k6 : PySem.W.keepIn K (.ref f6) = true)
    (gWALLS : PySem.W.nsIn K mainGlobals "WALLS" = some (some (.ref aWALLS)))
    (hWALLS : K.lookup aWALLS = some ⟨.type "tuple", odWALLS, .seq #[.str "ring" tWALLS0, .str "mirror" tWALLS1, .str "zero" tWALLS2] nWALLS, slWALLS⟩)
    (zabs : PySem.W.nsIn K mainGlobals "abs" = some none)
    (zint : PySem.W.nsIn K mainGlobals "int" = some none)
    (zisinstance : PySem.W.nsIn K mainGlobals "isinstance" = some none)
    (zlen : PySem.W.nsIn K mainGlobals "len" = some none)
    (zlist : PySem.W.nsIn K mainGlobals "list" = some none)
    (zmax : PySem.W.nsIn K mainGlobals "max" = some none)
    (zmin : PySem.W.nsIn K mainGlobals "min" = some none)
    (zrange : PySem.W.nsIn K mainGlobals "range" = some none)
    (zrepr : PySem.W.nsIn K mainGlobals "repr" = some none)
    (zstr : PySem.W.nsIn K mainGlobals "str" = some none)
    (ztuple : PySem.W.nsIn K mainGlobals "tuple" = some none) :
    ∃ fd : FuncData, (∀ (s : Shared) (v : Value), BindsTo s fd ⟨[v], []⟩ [("_law_script", v)]) ∧ ∀ base : Heap, K.In base → base.Ns mainGlobals mg → FnOk l.prog w K mg base CX0 3 fa fd ["_law_script"] (spLaw K) := by
  have e := hfa.symm.trans (PySem.W.mg_of X G a6)
  cases e
  let T : Txt K mg (fun _ => 0) := {
    a_WALLS := .ref aWALLS,
    w_WALLS := .ref aWALLS,
    m_WALLS := PySem.W.mg_of X G gWALLS,
    v_WALLS := rfl,
    r_WALLS := fun S => rep_ktup hWALLS (small_le (m := 3) rfl (by decide)) (vs_s (vs_s (vs_s .nil))) (.cons rep_str (.cons rep_str (.cons rep_str .nil))),
    a_law_beyond := f0,
    d_law_beyond := _,
    f_law_beyond := fun_mk l0 c0 k0,
    m_law_beyond := PySem.W.mg_of X G a0,
    b_law_beyond := (fun_mk l0 c0 k0).binds (ps := ["_law_values", "_law_shut", "_law_cell"]) fun _ _ _ _ _ _ us hl => match us, hl with | [_, _, _], _ => rfl,
    a_law_choose := f1,
    d_law_choose := _,
    f_law_choose := fun_mk l1 c1 k1,
    m_law_choose := PySem.W.mg_of X G a1,
    b_law_choose := (fun_mk l1 c1 k1).binds (ps := ["_law_box", "_law_many"]) fun _ _ _ _ _ _ us hl => match us, hl with | [_, _], _ => rfl,
    a_law_seed := f2,
    d_law_seed := _,
    f_law_seed := fun_mk l2 c2 k2,
    m_law_seed := PySem.W.mg_of X G a2,
    b_law_seed := (fun_mk l2 c2 k2).binds (ps := ["_law_script", "_law_k"]) fun _ _ _ _ _ _ us hl => match us, hl with | [_, _], _ => rfl,
    a_beyond := f3,
    d_beyond := _,
    f_beyond := fun_mk l3 c3 k3,
    m_beyond := PySem.W.mg_of X G a3,
    b_beyond := (fun_mk l3 c3 k3).binds (ps := ["values", "wall", "cell"]) fun _ _ _ _ _ _ us hl => match us, hl with | [_, _, _], _ => rfl,
    a_need_wall := f4,
    d_need_wall := _,
    f_need_wall := fun_mk l4 c4 k4,
    m_need_wall := PySem.W.mg_of X G a4,
    b_need_wall := (fun_mk l4 c4 k4).binds (ps := ["wall"]) fun _ _ _ _ _ _ us hl => match us, hl with | [_], _ => rfl,
    a_go_on := f5,
    d_go_on := _,
    f_go_on := fun_mk l5 c5 k5,
    m_go_on := PySem.W.mg_of X G a5,
    b_go_on := (fun_mk l5 c5 k5).binds (ps := ["values", "wall", "cell"]) fun _ _ _ _ _ _ us hl => match us, hl with | [_, _, _], _ => rfl,
    a_law := fa,
    d_law := _,
    f_law := fun_mk l6 c6 k6,
    m_law := PySem.W.mg_of X G a6,
    b_law := (fun_mk l6 c6 k6).binds (ps := ["_law_script"]) fun _ _ _ _ _ _ us hl => match us, hl with | [_], _ => rfl,
    z_abs := PySem.W.mg_none_of X G zabs,
    z_int := PySem.W.mg_none_of X G zint,
    z_isinstance := PySem.W.mg_none_of X G zisinstance,
    z_len := PySem.W.mg_none_of X G zlen,
    z_list := PySem.W.mg_none_of X G zlist,
    z_max := PySem.W.mg_none_of X G zmax,
    z_min := PySem.W.mg_none_of X G zmin,
    z_range := PySem.W.mg_none_of X G zrange,
    z_repr := PySem.W.mg_none_of X G zrepr,
    z_str := PySem.W.mg_none_of X G zstr,
    z_tuple := PySem.W.mg_none_of X G ztuple }
  exact ⟨T.d_law, fun s v => .of_eq rfl, fun base _ _ => law_ok rfl (ok_law T) main_law⟩
theorem walk {l : PySem.W.OpenLaw} {q : Program} {loose : List Str} {XP : (Str → Option Value) → Heap → Prop} {YP : World → Heap → Prop} {d : DefRec} {K : Params → PySem.W.Frag} (hn : l.most = some 63) (hdf : d.params.defaults = [])
    (hY : ∀ (w : World) (h : Heap), YP w h → (K w.params).In h)
    (F : ∀ (w : World) (mg : Str → Option Value) (fa : Addr) (h : Heap), (K w.params).In h → h.Ns mainGlobals mg → mg d.name = some (.ref fa) →
      ∃ fd : FuncData, (∀ (s : Shared) (u : Value), BindsTo s fd ⟨[u], []⟩ [("_law_script", u)]) ∧ ∀ base : Heap, (K w.params).In base → base.Ns mainGlobals mg → FnOk l.prog w (K w.params) mg base CX0 3 fa fd ["_law_script"] (spLaw (K w.params))) :
    PySem.W.WalkO q loose XP YP l.row.toRowW d [] (fun f vs => PySem.call f vs) :=
  L2.walk_of (n := 63) (k := 3) (x := "_law_script") (CX := fun _ => CX0) (sp := fun w => spLaw (K w.params)) hn (by decide) hdf ⟨rfl, by decide, by decide⟩ hY F (fun _ _ a ns hl _ hS => ⟨a, ns, rfl, hS, hl, fun _ => rfl⟩) fun _ _ _ _ _ z => z
end K66
open PySem PySem.W PyProof.Rows
set_option maxRecDepth 100000 in
set_option maxHeartbeats 0 in
theorem PySem.Challenge.cw_sharerows_k66_values_beyond_walls_holds : PySem.Challenge.rw_sharerows_k66_values_beyond_walls.Holds := by
  w_on; o_law; k_head; (case hw => w_witness2)
  k_fill
  refine K66.walk (l := PySem.Challenge.rw_sharerows_k66_values_beyond_walls) rfl rfl (fun w h Y => PySem.W.kIn_of Y) ?F
  case F =>
    intro w mg fa h KX G hmg
    refine' K66.all_mk KX G hmg ?a0 ?l0 ?c0 ?k0 ?a1 ?l1 ?c1 ?k1 ?a2 ?l2 ?c2 ?k2 ?a3 ?l3 ?c3 ?k3 ?a4 ?l4 ?c4 ?k4 ?a5 ?l5 ?c5 ?k5 ?a6 ?l6 ?c6 ?k6 ?gWALLS ?hWALLS ?zabs ?zint ?zisinstance ?zlen ?zlist ?zmax ?zmin ?zrange ?zrepr ?zstr ?ztuple
    (case a0 => k_is)
    (case l0 => k_is)
    (case c0 => k_is)
    (case k0 => k_is)
    (case a1 => k_is)
    (case l1 => k_is)
    (case c1 => k_is)
    (case k1 => k_is)
    (case a2 => k_is)
    (case l2 => k_is)
    (case c2 => k_is)
    (case k2 => k_is)
    (case a3 => k_is)
    (case l3 => k_is)
    (case c3 => k_is)
    (case k3 => k_is)
    (case a4 => k_is)
    (case l4 => k_is)
    (case c4 => k_is)
    (case k4 => k_is)
    (case a5 => k_is)
    (case l5 => k_is)
    (case c5 => k_is)
    (case k5 => k_is)
    (case a6 => k_is)
    (case l6 => k_is)
    (case c6 => k_is)
    (case k6 => k_is)
    (case gWALLS => k_is)
    (case hWALLS => k_is)
    (case zabs => k_is)
    (case zint => k_is)
    (case zisinstance => k_is)
    (case zlen => k_is)
    (case zlist => k_is)
    (case zmax => k_is)
    (case zmin => k_is)
    (case zrange => k_is)
    (case zrepr => k_is)
    (case zstr => k_is)
    (case ztuple => k_is)
