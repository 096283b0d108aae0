import PyProof.Rows.All
import Wide.All
import OpenK.AllK
import Wide.FinOn
import HandS.ForMost
import HandS.Wide
import HandS.Lambda
import HandS.ExcInit
import HandS.Property
import HandS.TupAny
import HandS.TupMul
import HandS.Style
import HandS.IsInst
import HandS.RaiseMore
import HandS.Conv
import HandS.Deep
import KE.GoesNew
import KE.KStar
import HandS.Defaults
import HandS.OwnEq
import HandS.SlotsOwn
import OpenK.KMeth
import OpenK.KLine
import KE.KTupSum
import HandS.NoneIn
import PyProof.WalkInts
import PyProof.NeKinds
import HandS.CallLocal
import HandS.FStr
import HandS.Text
import KE.KCallOwn
import HandS.Ends
import PyProof.ReprRoads
import HandS.ClsMeth
import KE.IntTextLaws
import HandS.MakeKw
import HandS.MakeKwOnly
import HandS.Head0
import HandS.Head1
import HandS.Head2
import HandS.HeadEnd
import HandS.HeadHook1
import HandS.HeadHook2
import HandS.HeadNt
import HandS.Exc
import HandS.WordsExc
import HandS.ExcSuper
import KE.KSuper
import KE.KExcSuper
import HandS.ExcIs
import HandS.ExcField
import HandS.ExcOwn
import HandS.CallSlots
import KE.KExcIs
import HandS.TryMany
import HandS.SortInts
import HandS.DictComp
import KE.RegKIsAll
import PySem.Challenge.RW_sharerows_k01_errors_and_what_they_keep
set_option Elab.async false
set_option linter.all false
set_option maxRecDepth 100000
/-! Zr: values as plain data, the heap out of sight. -/
namespace Zr
open PySem L2

/-- data -/
inductive D where
  | non | bl (b : Bool) | int (i : Int) | str (x : Str)
  | tup (xs : List D) | lst (xs : List D) | ob (c : Nat) (fs : List D) | fn (a : Nat)
  /-- a list of ints that is read only -/
  | scr (ns : List Int)
  /-- a dict of ints by ints -/
  | dic (kv : List (Int × Int))
  /-- a dict of texts by texts -/
  | dis (kv : List (Str × Str))
  /-- a dict of values by keys -/
  | dil (ks : List Key) (ds : List D)
  /-- an own exception, of the class adr (200 + t) -/
  | ex (t : Nat)
def dV (kv : List (Int × Int)) : List (Key × V) := kv.map fun p => (Sum.inl p.1, V.int p.2)
def dS (kv : List (Str × Str)) : List (Key × V) := kv.map fun p => (Sum.inr p.1, V.str p.2)
/-- dicts -/
def isDc : D → Bool
  | .dic _ => true
  | .dis _ => true
  | .dil _ _ => true
  | _ => false

/-- the classes: where they stand, their fields in order -/
structure Cls where
  K : PySem.W.Frag
  adr : Nat → Addr
  fld : Nat → List Str

/-- an own exception stands at a -/
def ExAt (S : Hp) (a C : Addr) : Prop := S a = some (exo a C none) ∨ ∃ dx fs, S a = some (exo a C (some dx)) ∧ S dx = some (exd dx fs)
theorem ExAt.mono {S S' : Hp} {a C : Addr} (e : Same S S') (h : ExAt S a C) : ExAt S' a C := by
  rcases h with h | ⟨dx, fs, h1, h2⟩
  · exact .inl (e _ _ h)
  · exact .inr ⟨dx, fs, e _ _ h1, e _ _ h2⟩

mutual
def Rep (G : Cls) (S : Hp) : D → V → Prop
  | .non, v => v = .non
  | .bl b, v => v = .bl b
  | .int i, v => v = .int i
  | .str x, v => v = .str x
  | .tup ds, v => ∃ a vs, v = .ref a ∧ SqT G.K S a vs ∧ RepL G S ds vs
  | .lst ds, v => ∃ a vs, v = .ref a ∧ S a = some (.lst vs) ∧ RepL G S ds vs
  | .ob c ds, v => ∃ a dx vs, v = .ref a ∧ S a = some (.ins (G.adr c) dx ((G.fld c).zip vs)) ∧ vs.length ≤ (G.fld c).length ∧ RepL G S ds vs
  | .fn a, v => v = .ref (G.adr a)
  | .scr ns, v => ∃ a, v = .ref a ∧ SqL G.K S a (ns.map V.int)
  | .dic kv, v => ∃ a o, v = .ref a ∧ S a = some (.frz o (.dK (dV kv)))
  | .dis kv, v => ∃ a o, v = .ref a ∧ S a = some (.frz o (.dK (dS kv)))
  | .dil ks ds, v => ∃ a o us, v = .ref a ∧ S a = some (.frz o (.dK (ks.zip us))) ∧ ks.length = us.length ∧ RepL G S ds us
  | .ex t, v => ∃ a, v = .ref a ∧ ExAt S a (G.adr (200 + t))
def RepL (G : Cls) (S : Hp) : List D → List V → Prop
  | [], vs => vs = []
  | d :: ds, vs => ∃ v r, vs = v :: r ∧ Rep G S d v ∧ RepL G S ds r
end

theorem same_seqT {K : PySem.W.Frag} {H H' : Hp} {a : Addr} {xs : List V} (e : Same H H') (h : SqT K H a xs) : SqT K H' a xs := by
  rcases h with (h | ⟨o, h⟩) | h
  · exact .inl (.inl (e _ _ h))
  · exact .inl (.inr ⟨o, e _ _ h⟩)
  · exact .inr h

mutual
theorem Rep.mono {G : Cls} {S S' : Hp} (e : Same S S') : ∀ {d : D} {v : V}, Rep G S d v → Rep G S' d v
  | .non, _, h => h
  | .bl _, _, h => h
  | .int _, _, h => h
  | .str _, _, h => h
  | .tup _, _, h => by
    unfold Rep at h ⊢
    obtain ⟨a, vs, h1, h2, h3⟩ := h
    exact ⟨a, vs, h1, same_seqT e h2, RepL.mono e h3⟩
  | .lst _, _, h => by
    unfold Rep at h ⊢
    obtain ⟨a, vs, h1, h2, h3⟩ := h
    exact ⟨a, vs, h1, e _ _ h2, RepL.mono e h3⟩
  | .ob _ _, _, h => by
    unfold Rep at h ⊢
    obtain ⟨a, dx, vs, h1, h2, h4, h3⟩ := h
    exact ⟨a, dx, vs, h1, e _ _ h2, h4, RepL.mono e h3⟩
  | .fn _, _, h => h
  | .scr _, _, h => by
    unfold Rep at h ⊢
    obtain ⟨a, h1, h2⟩ := h
    exact ⟨a, h1, e.seq h2⟩
  | .dic _, _, h => by
    unfold Rep at h ⊢
    obtain ⟨a, o, h1, h2⟩ := h
    exact ⟨a, o, h1, e _ _ h2⟩
  | .dis _, _, h => by
    unfold Rep at h ⊢
    obtain ⟨a, o, h1, h2⟩ := h
    exact ⟨a, o, h1, e _ _ h2⟩
  | .dil _ _, _, h => by
    unfold Rep at h ⊢
    obtain ⟨a, o, us, h1, h2, h3, h4⟩ := h
    exact ⟨a, o, us, h1, e _ _ h2, h3, RepL.mono e h4⟩
  | .ex _, _, h => by
    unfold Rep at h ⊢
    obtain ⟨a, h1, h2⟩ := h
    exact ⟨a, h1, h2.mono e⟩
theorem RepL.mono {G : Cls} {S S' : Hp} (e : Same S S') : ∀ {ds : List D} {vs : List V}, RepL G S ds vs → RepL G S' ds vs
  | [], _, h => h
  | _ :: _, _, h => by
    unfold RepL at h ⊢
    obtain ⟨v, r, h1, h2, h3⟩ := h
    exact ⟨v, r, h1, Rep.mono e h2, RepL.mono e h3⟩
end

section
variable {G : Cls} {S S' H H' : Hp} {d : D} {ds es : List D} {v : V} {vs us : List V}
theorem RepL.length : ∀ {ds : List D} {vs : List V}, RepL G S ds vs → ds.length = vs.length
  | [], _, h => by unfold RepL at h; subst h; rfl
  | _ :: _, _, h => by
    unfold RepL at h
    obtain ⟨v, r, h1, _, h3⟩ := h
    subst h1
    simp [RepL.length h3]
theorem RepL.nil : RepL G S [] [] := by unfold RepL; rfl
theorem RepL.cons (h : Rep G S d v) (t : RepL G S ds vs) : RepL G S (d :: ds) (v :: vs) := by unfold RepL; exact ⟨v, vs, rfl, h, t⟩
theorem RepL.append : ∀ {ds : List D} {vs : List V}, RepL G S ds vs → RepL G S es us → RepL G S (ds ++ es) (vs ++ us)
  | [], _, h, t => by unfold RepL at h; subst h; exact t
  | _ :: _, _, h, t => by
    unfold RepL at h
    obtain ⟨v, r, h1, h2, h3⟩ := h
    subst h1
    exact .cons h2 (RepL.append h3 t)
theorem RepL.get : ∀ {ds : List D} {vs : List V} {i : Nat} {d : D}, RepL G S ds vs → ds[i]? = some d → ∃ v, vs[i]? = some v ∧ Rep G S d v
  | [], _, _, _, _, e => by simp at e
  | _ :: _, _, 0, _, h, e => by
    unfold RepL at h
    obtain ⟨v, r, h1, h2, h3⟩ := h
    subst h1
    simp at e; subst e
    exact ⟨v, rfl, h2⟩
  | _ :: _, _, i + 1, _, h, e => by
    unfold RepL at h
    obtain ⟨v, r, h1, h2, h3⟩ := h
    subst h1
    obtain ⟨v', e', h'⟩ := RepL.get (i := i) h3 (by simpa using e)
    exact ⟨v', by simpa using e', h'⟩
theorem RepL.set : ∀ {ds : List D} {vs : List V} (i : Nat), RepL G S ds vs → Rep G S d v → RepL G S (ds.set i d) (vs.set i v)
  | [], _, _, h, _ => by unfold RepL at h; subst h; exact .nil
  | _ :: _, _, 0, h, t => by
    unfold RepL at h
    obtain ⟨v, r, h1, h2, h3⟩ := h
    subst h1
    exact .cons t h3
  | _ :: _, _, i + 1, h, t => by
    unfold RepL at h
    obtain ⟨v, r, h1, h2, h3⟩ := h
    subst h1
    exact .cons h2 (RepL.set i h3 t)
theorem RepL.take : ∀ {ds : List D} {vs : List V} (n : Nat), RepL G S ds vs → RepL G S (ds.take n) (vs.take n)
  | _, _, 0, _ => by simp only [List.take_zero]; exact .nil
  | [], _, _ + 1, h => by unfold RepL at h; subst h; exact .nil
  | _ :: _, _, n + 1, h => by
    unfold RepL at h
    obtain ⟨v, r, h1, h2, h3⟩ := h
    subst h1
    exact .cons h2 (RepL.take n h3)
theorem RepL.drop : ∀ {ds : List D} {vs : List V} (n : Nat), RepL G S ds vs → RepL G S (ds.drop n) (vs.drop n)
  | _, _, 0, h => h
  | [], _, _ + 1, h => by unfold RepL at h; subst h; exact .nil
  | _ :: _, _, n + 1, h => by
    unfold RepL at h
    obtain ⟨v, r, h1, h2, h3⟩ := h
    subst h1
    exact RepL.drop n h3
theorem RepL.rev : ∀ {ds : List D} {vs : List V}, RepL G S ds vs → RepL G S ds.reverse vs.reverse
  | [], _, h => by unfold RepL at h; subst h; exact .nil
  | _ :: _, _, h => by
    unfold RepL at h
    obtain ⟨v, r, h1, h2, h3⟩ := h
    subst h1
    simp only [List.reverse_cons]
    exact (RepL.rev h3).append (.cons h2 .nil)
theorem RepL.ints : ∀ {ns : List Int}, RepL G S (ns.map D.int) (ns.map V.int)
  | [] => .nil
  | _ :: _ => .cons (by unfold Rep; rfl) RepL.ints
theorem rep_int {i : Int} : Rep G S (.int i) (.int i) := by unfold Rep; rfl
theorem rep_bl {b : Bool} : Rep G S (.bl b) (.bl b) := by unfold Rep; rfl
theorem rep_non : Rep G S .non .non := by unfold Rep; rfl
theorem rep_str {x : Str} : Rep G S (.str x) (.str x) := by unfold Rep; rfl
theorem rep_fn {a : Nat} : Rep G S (.fn a) (.ref (G.adr a)) := by unfold Rep; rfl
theorem inv_scr {ns : List Int} (h : Rep G S (.scr ns) v) : ∃ a, v = .ref a ∧ SqL G.K S a (ns.map V.int) := by unfold Rep at h; exact h
theorem inv_dic {kv : List (Int × Int)} (h : Rep G S (.dic kv) v) : ∃ a o, v = .ref a ∧ S a = some (.frz o (.dK (dV kv))) := by unfold Rep at h; exact h
theorem inv_dis {kv : List (Str × Str)} (h : Rep G S (.dis kv) v) : ∃ a o, v = .ref a ∧ S a = some (.frz o (.dK (dS kv))) := by unfold Rep at h; exact h
theorem inv_ex {t : Nat} (h : Rep G S (.ex t) v) : ∃ a, v = .ref a ∧ ExAt S a (G.adr (200 + t)) := by unfold Rep at h; exact h
theorem inv_dil {ks : List Key} (h : Rep G S (.dil ks ds) v) : ∃ a o us, v = .ref a ∧ S a = some (.frz o (.dK (ks.zip us))) ∧ ks.length = us.length ∧ RepL G S ds us := by unfold Rep at h; exact h
theorem inv_int {i : Int} (h : Rep G S (.int i) v) : v = .int i := by unfold Rep at h; exact h
theorem inv_bl {i : Bool} (h : Rep G S (.bl i) v) : v = .bl i := by unfold Rep at h; exact h
theorem inv_non (h : Rep G S .non v) : v = .non := by unfold Rep at h; exact h
theorem inv_str {i : Str} (h : Rep G S (.str i) v) : v = .str i := by unfold Rep at h; exact h
theorem inv_tup (h : Rep G S (.tup ds) v) : ∃ a vs, v = .ref a ∧ SqT G.K S a vs ∧ RepL G S ds vs := by unfold Rep at h; exact h
theorem inv_lst (h : Rep G S (.lst ds) v) : ∃ a vs, v = .ref a ∧ S a = some (.lst vs) ∧ RepL G S ds vs := by unfold Rep at h; exact h
end

/-! ### slots, the state -/
inductive Sl where
  /-- nothing known -/
  | no
  /-- a value that stays -/
  | va (d : D)
  /-- an object of one's own that may be changed: its content -/
  | ow (d : D)
  /-- an object that was handed in to be changed -/
  | io (d : D)
  /-- no variable: the table of code objects at P is known -/
  | tb (n : Nat) (q : Str)
abbrev Ev := List Sl
structure Gh where
  B : Hp
  S0 : Hp
  H0 : Hp
  io : Nat → Option Addr
  /-- tables of code objects -/
  T : List (Addr × Str)
/-- a thing that is no changeable content -/
def Hard : HO → Prop
  | .tbl _ => True
  | .ext _ => True
  | _ => False
def Keeps (H H' : Hp) : Prop := ∀ b o, H b = some o → Hard o → H' b = some o
theorem tabS_keeps {H H' : Hp} {P : Addr} {q : Str} (t : LamX.TabS H P q) (e : Keeps H H') : LamX.TabS H' P q := by
  obtain ⟨ps, h1, h2, h3⟩ := t
  refine ⟨ps, e _ _ h1 trivial, h2, fun pos cv hc => ?_⟩
  obtain ⟨c, e1, e2⟩ := h3 pos cv hc
  exact ⟨c, e1, e _ _ e2 trivial⟩
def Tbs (g : Gh) (H : Hp) : Prop := ∀ p ∈ g.T, LamX.TabS H p.1 p.2 ∧ g.S0 p.1 = none ∧ g.B p.1 = none ∧ ∃ o, g.H0 p.1 = some o
theorem Tbs.keeps {g : Gh} {H H' : Hp} (t : Tbs g H) (e : Keeps H H') : Tbs g H' := fun p hp => ⟨tabS_keeps (t p hp).1 e, (t p hp).2⟩
theorem Tbs.same {g : Gh} {H H' : Hp} (t : Tbs g H) (e : Same H H') : Tbs g H' := t.keeps fun b o q _ => e b o q
theorem Tbs.upd {g : Gh} {H : Hp} {a : Addr} {o u : HO} (t : Tbs g H) (h : H a = some o) (n : ¬ Hard o) : Tbs g (upd H a u) := t.keeps fun b o' q k => by
  rw [upd_ne (fun z => by rw [z, h] at q; cases q; exact n k)]
  exact q
theorem Tbs.nil {B S0 H0 H : Hp} {io : Nat → Option Addr} : Tbs ⟨B, S0, H0, io, []⟩ H := fun p hp => nomatch hp
theorem Tbs.ne {g : Gh} {H : Hp} {p : Addr × Str} {a : Addr} {o : HO} (t : Tbs g H) (hp : p ∈ g.T) (h : H a = some o) (n : ¬ Hard o) : p.1 ≠ a := fun z => by
  obtain ⟨ps, e, _⟩ := (t p hp).1
  rw [z, h] at e
  cases e
  exact n trivial
def Cont (G : Cls) (S H : Hp) (a : Addr) : D → Prop
  | .lst ds => ∃ vs, H a = some (.lst vs) ∧ RepL G S ds vs
  | .ob c ds => ∃ dx vs, H a = some (.ins (G.adr c) dx ((G.fld c).zip vs)) ∧ vs.length ≤ (G.fld c).length ∧ RepL G S ds vs
  | .dic kv => H a = some (.dK (dV kv))
  | .dis kv => H a = some (.dK (dS kv))
  | .dil ks ds => ∃ us, H a = some (.dK (ks.zip us)) ∧ ks.length = us.length ∧ RepL G S ds us
  | _ => False
theorem Cont.mono {G : Cls} {S S' H H' : Hp} {a : Addr} (e : Same S S') (q : H' a = H a) : ∀ {d : D}, Cont G S H a d → Cont G S' H' a d
  | .lst _, ⟨vs, h1, h2⟩ => ⟨vs, q.trans h1, h2.mono e⟩
  | .ob _ _, ⟨dx, vs, h1, h3, h2⟩ => ⟨dx, vs, q.trans h1, h3, h2.mono e⟩
  | .non, h => h.elim
  | .bl _, h => h.elim
  | .int _, h => h.elim
  | .str _, h => h.elim
  | .tup _, h => h.elim
  | .fn _, h => h.elim
  | .scr _, h => h.elim
  | .ex _, h => h.elim
  | .dic _, h => q.trans h
  | .dis _, h => q.trans h
  | .dil _ _, ⟨us, h1, h3, h2⟩ => ⟨us, q.trans h1, h3, h2.mono e⟩
theorem Cont.has {G : Cls} {S H : Hp} {a : Addr} : ∀ {d : D}, Cont G S H a d → ∃ o, H a = some o ∧ Mut (some o)
  | .lst _, ⟨_, h1, _⟩ => ⟨_, h1, trivial⟩
  | .ob _ _, ⟨_, _, h1, _, _⟩ => ⟨_, h1, trivial⟩
  | .non, h => h.elim
  | .bl _, h => h.elim
  | .int _, h => h.elim
  | .str _, h => h.elim
  | .tup _, h => h.elim
  | .fn _, h => h.elim
  | .scr _, h => h.elim
  | .ex _, h => h.elim
  | .dic _, h => ⟨_, h, trivial⟩
  | .dis _, h => ⟨_, h, trivial⟩
  | .dil _ _, ⟨_, h1, _, _⟩ => ⟨_, h1, trivial⟩
theorem Cont.soft {G : Cls} {S H : Hp} {a : Addr} : ∀ {d : D}, Cont G S H a d → ∃ o, H a = some o ∧ ¬ Hard o
  | .lst _, ⟨_, h1, _⟩ => ⟨_, h1, id⟩
  | .ob _ _, ⟨_, _, h1, _, _⟩ => ⟨_, h1, id⟩
  | .non, h => h.elim
  | .bl _, h => h.elim
  | .int _, h => h.elim
  | .str _, h => h.elim
  | .tup _, h => h.elim
  | .fn _, h => h.elim
  | .scr _, h => h.elim
  | .ex _, h => h.elim
  | .dic _, h => ⟨_, h, id⟩
  | .dis _, h => ⟨_, h, id⟩
  | .dil _ _, ⟨_, h1, _, _⟩ => ⟨_, h1, id⟩
theorem Cont.dc {G : Cls} {S H : Hp} {a : Addr} : ∀ {x : D}, isDc x = true → Cont G S H a x → ∃ o, H a = some o ∧ ∀ S' od, Same S S' → S' a = some (.frz od o) → Rep G S' x (.ref a)
  | .dic _, _, h => ⟨_, h, fun _ od _ q => by unfold Rep; exact ⟨a, od, rfl, q⟩⟩
  | .dis _, _, h => ⟨_, h, fun _ od _ q => by unfold Rep; exact ⟨a, od, rfl, q⟩⟩
  | .dil _ _, _, ⟨us, h1, h2, h3⟩ => ⟨_, h1, fun _ od sm q => by unfold Rep; exact ⟨a, od, us, rfl, q, h2, h3.mono sm⟩⟩
  | .lst _, e, _ => nomatch e
  | .ob _ _, e, _ => nomatch e
  | .non, e, _ => nomatch e
  | .bl _, e, _ => nomatch e
  | .int _, e, _ => nomatch e
  | .str _, e, _ => nomatch e
  | .tup _, e, _ => nomatch e
  | .fn _, e, _ => nomatch e
  | .scr _, e, _ => nomatch e
  | .ex _, e, _ => nomatch e

def SlOk (G : Cls) (g : Gh) (S H : Hp) (i : Nat) (x : Option V) : Sl → Prop
  | .no => True
  | .va d => ∃ v, x = some v ∧ Rep G S d v
  | .ow d => ∃ a, x = some (.ref a) ∧ Cont G S H a d ∧ S a = none ∧ g.B a = none ∧ g.H0 a = none
  | .tb n q => (G.adr n, q) ∈ g.T ∧ ∀ p ∈ g.T, p.1 = G.adr n → p.2 = q
  | .io d => ∃ a, x = some (.ref a) ∧ g.io i = some a ∧ Cont G S H a d ∧ S a = none ∧ g.B a = none ∧ ∃ o, g.H0 a = some o
/-- the slot holds a changeable object -/
def Sl.isO : Sl → Bool
  | .ow _ => true
  | .io _ => true
  | _ => false
/-- slot i holds a changeable object, at a -/
def OwnAt (d : Ev) (s : St) (i : Nat) (a : Addr) : Prop := ∃ x, d[i]? = some x ∧ x.isO = true ∧ s[i]? = some (some (.ref a))

structure Zt (G : Cls) (g : Gh) (S : Hp) (s : St) (H : Hp) (d : Ev) : Prop where
  sh : Same S H
  bh : Same g.B H
  s0 : ∀ b o, S b = some o → g.S0 b = some o ∨ g.H0 b = none
  s1 : Same g.S0 S
  dm : ∀ b, H b = none → g.H0 b = none
  ln : s.length = d.length
  sl : ∀ i x, d[i]? = some x → ∃ y, s[i]? = some y ∧ SlOk G g S H i y x
  ap : ∀ i j a, i ≠ j → OwnAt d s i a → OwnAt d s j a → False
  ic : ∀ i a, g.io i = some a → ∃ x, d[i]? = some (.io x)
  tb : Tbs g H

/-- nothing that stood is changed; what is new among the kept is new -/
structure Ext (S H S' H' : Hp) : Prop where
  s : Same S S'
  h : Same H H'
  sh : Same S' H'
  new : ∀ b o, S' b = some o → S b = some o ∨ H b = none
theorem Ext.refl {S H : Hp} (h : Same S H) : Ext S H S H := ⟨.refl _, .refl _, h, fun _ _ e => .inl e⟩
theorem Ext.trans {S H S1 H1 S2 H2 : Hp} (a : Ext S H S1 H1) (b : Ext S1 H1 S2 H2) : Ext S H S2 H2 :=
  ⟨a.s.trans b.s, a.h.trans b.h, b.sh, fun c o e => by
    rcases b.new c o e with z | z
    · exact a.new c o z
    · exact .inr (a.h.free z)⟩
theorem Ext.alloc {S H : Hp} {p : Addr} {o : HO} (h : Same S H) (hp : H p = none) : Ext S H (upd S p o) (upd H p o) := by
  have hs : S p = none := h.free hp
  refine ⟨fun b u e => ?_, fun b u e => ?_, fun b u e => ?_, fun b u e => ?_⟩
  · rw [upd_ne (ne_of_none e hs)]; exact e
  · rw [upd_ne (ne_of_none e hp)]; exact e
  · by_cases hb : b = p
    · subst hb; rw [upd_same] at e ⊢; exact e
    · rw [upd_ne hb] at e ⊢; exact h _ _ e
  · by_cases hb : b = p
    · subst hb; exact .inr hp
    · rw [upd_ne hb] at e; exact .inl e

section
variable {G : Cls} {g : Gh} {S S' H H' : Hp} {s : St} {d : Ev} {i j : Nat} {a : Addr} {x : Sl}
theorem Zt.ownAddr (z : Zt G g S s H d) (o : OwnAt d s i a) : (∃ o, H a = some o) ∧ S a = none ∧ g.B a = none := by
  obtain ⟨x, h1, h2, h3⟩ := o
  obtain ⟨y, e, k⟩ := z.sl i x h1
  rw [h3] at e
  cases e
  cases x with
  | tb _ _ => cases h2
  | no => cases h2
  | va _ => cases h2
  | ow _ =>
    obtain ⟨b, e, c, h4, h5, h6⟩ := k
    cases e
    obtain ⟨o, e, _⟩ := c.has
    exact ⟨⟨o, e⟩, h4, h5⟩
  | io _ =>
    obtain ⟨b, e, _, c, h4, h5, h6⟩ := k
    cases e
    obtain ⟨o, e, _⟩ := c.has
    exact ⟨⟨o, e⟩, h4, h5⟩
/-- the kept and the heap grow -/
theorem Zt.ext (z : Zt G g S s H d) (e : Ext S H S' H') : Zt G g S' s H' d where
  sh := e.sh
  bh := z.bh.trans e.h
  s0 := fun b o q => by
    rcases e.new b o q with r | r
    · exact z.s0 b o r
    · exact .inr (z.dm b r)
  s1 := z.s1.trans e.s
  dm := fun b q => z.dm b (e.h.free q)
  ln := z.ln
  sl := fun i x q => by
    obtain ⟨y, h1, h2⟩ := z.sl i x q
    refine ⟨y, h1, ?_⟩
    have own : ∀ a, (∃ o, H a = some o) → S a = none → H' a = H a ∧ S' a = none := fun a ⟨o, ho⟩ hs => by
      refine ⟨by rw [e.h _ _ ho, ho], ?_⟩
      cases q : S' a with
      | none => rfl
      | some u =>
        rcases e.new a u q with r | r
        · rw [hs] at r; cases r
        · rw [ho] at r; cases r
    cases x with
    | tb _ _ => exact h2
    | no => trivial
    | va d => obtain ⟨v, e1, r⟩ := h2; exact ⟨v, e1, r.mono e.s⟩
    | ow d =>
      obtain ⟨a, e1, c, h3, h4, h5⟩ := h2
      obtain ⟨o, ho, _⟩ := c.has
      obtain ⟨k1, k2⟩ := own a ⟨o, ho⟩ h3
      exact ⟨a, e1, c.mono e.s k1, k2, h4, h5⟩
    | io d =>
      obtain ⟨a, e1, e2, c, h3, h4, h5⟩ := h2
      obtain ⟨o, ho, _⟩ := c.has
      obtain ⟨k1, k2⟩ := own a ⟨o, ho⟩ h3
      exact ⟨a, e1, e2, c.mono e.s k1, k2, h4, h5⟩
  ap := z.ap
  ic := z.ic
  tb := z.tb.same e.h
theorem getElem?_set_cases {α : Type} {l : List α} {i j : Nat} {x y : α} (h : (l.set i x)[j]? = some y) : (j = i ∧ y = x ∧ i < l.length) ∨ (j ≠ i ∧ l[j]? = some y) := by
  by_cases e : j = i
  · subst e
    by_cases hl : j < l.length
    · rw [List.getElem?_set_self hl] at h
      exact .inl ⟨rfl, (Option.some.inj h).symm, hl⟩
    · rw [List.getElem?_eq_none (by simpa using hl)] at h
      cases h
  · rw [List.getElem?_set_ne (Ne.symm e)] at h
    exact .inr ⟨e, h⟩
theorem set_get {α : Type} {l : List α} {i : Nat} {x : α} (h : i < l.length) : (l.set i x)[i]? = some x := List.getElem?_set_self h
theorem OwnAt.of_set {v : Option V} (o : OwnAt (d.set i x) (s.set i v) j a) : (j = i ∧ x.isO = true ∧ v = some (.ref a) ∧ i < d.length) ∨ (j ≠ i ∧ OwnAt d s j a) := by
  obtain ⟨y, h1, h2, h3⟩ := o
  rcases getElem?_set_cases h1 with ⟨e, e1, hl⟩ | ⟨e, e1⟩
  · subst e; subst e1
    rcases getElem?_set_cases h3 with ⟨_, e2, _⟩ | ⟨q, _⟩
    · exact .inl ⟨rfl, h2, e2.symm, hl⟩
    · exact absurd rfl q
  · rw [List.getElem?_set_ne (Ne.symm e)] at h3
    exact .inr ⟨e, y, e1, h2, h3⟩
/-- slot i is no object that was handed in -/
def notIo (d : Ev) (i : Nat) : Bool := match d[i]? with
  | some (.io _) => false
  | some _ => true
  | none => false
theorem notIo_lt (h : notIo d i = true) : i < d.length := by
  unfold notIo at h
  split at h
  · cases h
  · rename_i e; exact (List.getElem?_eq_some_iff.mp e).1
  · cases h
theorem notIo_ne {y : D} (h : notIo d i = true) : d[i]? ≠ some (.io y) := by
  unfold notIo at h
  intro e
  rw [e] at h
  cases h
/-- a slot is set -/
theorem Zt.set {v : Option V} (z : Zt G g S s H d) (hi : notIo d i = true) (h : SlOk G g S H i v x) (hx : ∀ y, x ≠ .io y) (ho : ∀ a, x.isO = true → v = some (.ref a) → ∀ j, ¬ OwnAt d s j a) : Zt G g S (s.set i v) H (d.set i x) where
  sh := z.sh
  bh := z.bh
  s0 := z.s0
  s1 := z.s1
  dm := z.dm
  ln := by simpa using z.ln
  sl := fun j y q => by
    rcases getElem?_set_cases q with ⟨e, e1, hl⟩ | ⟨e, e1⟩
    · subst e; subst e1
      exact ⟨v, set_get (by rw [z.ln]; exact hl), h⟩
    · obtain ⟨w, h1, h2⟩ := z.sl j y e1
      exact ⟨w, by rw [List.getElem?_set_ne (Ne.symm e)]; exact h1, h2⟩
  ap := fun j k a hn h1 h2 => by
    rcases h1.of_set with ⟨e1, o1, v1, _⟩ | ⟨e1, o1⟩ <;> rcases h2.of_set with ⟨e2, o2, v2, _⟩ | ⟨e2, o2⟩
    · exact hn (e1.trans e2.symm)
    · exact ho a o1 v1 k o2
    · exact ho a o2 v2 j o1
    · exact z.ap j k a hn o1 o2
  ic := fun j a e => by
    obtain ⟨y, h1⟩ := z.ic j a e
    have : j ≠ i := fun q => by subst q; exact notIo_ne hi h1
    exact ⟨y, by rw [List.getElem?_set_ne (Ne.symm this)]; exact h1⟩
  tb := z.tb
theorem Zt.setVa {v : V} {y : D} (z : Zt G g S s H d) (hi : notIo d i = true) (h : Rep G S y v) : Zt G g S (s.set i (some v)) H (d.set i (.va y)) :=
  z.set hi ⟨v, rfl, h⟩ (fun _ q => nomatch q) fun _ q => nomatch q
end
end Zr

/-! Zr: the judgements over plain data, and the rules. -/
namespace Zr
open PySem L2

abbrev DE := Ev → Option (D × Ev)
abbrev DT := Ev → Option (Bool × Ev)
abbrev DA := Ev → Option (List D × Ev)
inductive Fl where
  | nx | bk | ct | rt (x : D) | rf (x : D)
abbrev DS := Ev → Option (Fl × Ev)

theorem pe_weak {X : Cx} {e : Expr} {t t' : TE} (h : PE X e t) (w : ∀ s H Q, t' s H Q → t s H Q) : PE X e t' := ⟨fun pins s σ H Q I q => h.run pins s σ H Q I (w _ _ _ q)⟩
theorem pt_weak {X : Cx} {e : Expr} {t t' : TT} (h : PT X e t) (w : ∀ s H Q, t' s H Q → t s H Q) : PT X e t' := ⟨fun pins s σ H Q I q => h.run pins s σ H Q I (w _ _ _ q)⟩
theorem pw_weak {X : Cx} {e : Expr} {t t' : TT} (h : PW X e t) (w : ∀ s H Q, t' s H Q → t s H Q) : PW X e t' := ⟨fun wh pins s σ H Q I q => h.run wh pins s σ H Q I (w _ _ _ q)⟩
theorem pa_weak {X : Cx} {e : List Expr} {t t' : TA} (h : PA X e t) (w : ∀ s H Q, t' s H Q → t s H Q) : PA X e t' := ⟨fun pos pins s σ H Q I q => h.run pos pins s σ H Q I (w _ _ _ q)⟩
theorem ps_weak {X : Cx} {e : Stmt} {t t' : TS} (h : PS X e t) (w : ∀ D s H, t' D s H → t D s H) : PS X e t' := ⟨fun pins s σ H D I q => h.run pins s σ H D I (w _ _ _ q)⟩
theorem pss_weak {X : Cx} {e : List Stmt} {t t' : TS} (h : PSs X e t) (w : ∀ D s H, t' D s H → t D s H) : PSs X e t' := ⟨fun pins s σ H D I q => h.run pins s σ H D I (w _ _ _ q)⟩
theorem pg_weak {X : Cx} {e : Expr} {t t' : TG} (h : PG X e t) (w : ∀ v s H Q, t' v s H Q → t v s H Q) : PG X e t' := ⟨fun pins s σ H v u Q I r q => h.run pins s σ H v u Q I r (w _ _ _ _ q)⟩
theorem pgs_weak {X : Cx} {e : List Expr} {t t' : TGs} (h : PGs X e t) (w : ∀ v s H Q, t' v s H Q → t v s H Q) : PGs X e t' := ⟨fun pins s σ H v u Q I r q => h.run pins s σ H v u Q I r (w _ _ _ _ q)⟩
theorem pi_weak {X : Cx} {tg e : Expr} {t t' : TI} (h : PI X tg e t) (w : ∀ s H Q, t' s H Q → t s H Q) : PI X tg e t' := ⟨fun pins s σ H Q I q => h.run pins s σ H Q I (w _ _ _ q)⟩

def liftE (G : Cls) (f : DE) : TE := fun s H Q => ∃ g S d x d', Zt G g S s H d ∧ f d = some (x, d') ∧ ∀ v H' S', Same S S' → Zt G g S' s H' d' → Rep G S' x v → Q v H'
/-- a new object of one's own -/
def liftF (G : Cls) (f : DE) : TE := fun s H Q => ∃ g S d x d', Zt G g S s H d ∧ f d = some (x, d') ∧
  ∀ a H' S', Same S S' → Zt G g S' s H' d' → Cont G S' H' a x → S' a = none → g.B a = none → g.H0 a = none → (∀ j, ¬ OwnAt d' s j a) → Q (.ref a) H'
def liftT (G : Cls) (f : DT) : TT := fun s H Q => ∃ g S d x d', Zt G g S s H d ∧ f d = some (x, d') ∧ ∀ H' S', Same S S' → Zt G g S' s H' d' → Q x H'
def liftA (G : Cls) (f : DA) : TA := fun s H Q => ∃ g S d x d', Zt G g S s H d ∧ f d = some (x, d') ∧ ∀ v H' S', Same S S' → Zt G g S' s H' d' → RepL G S' x v → Q v H'
def EndOf (G : Cls) (g : Gh) (S : Hp) (D : Ends) (d' : Ev) : Fl → Prop
  | .nx => ∀ s' H' S', Same S S' → Zt G g S' s' H' d' → D.nx s' H'
  | .bk => ∀ s' H' S', Same S S' → Zt G g S' s' H' d' → D.bk s' H'
  | .ct => ∀ s' H' S', Same S S' → Zt G g S' s' H' d' → D.ct s' H'
  | .rt x => ∀ v s' H' S', Same S S' → Zt G g S' s' H' d' → Rep G S' x v → D.rt v H'
  | .rf x => ∀ a s' H' S', Same S S' → Zt G g S' s' H' d' → Cont G S' H' a x → S' a = none → g.B a = none → g.H0 a = none → D.rt (.ref a) H'
theorem EndOf.mono {G : Cls} {g : Gh} {S S1 : Hp} {D : Ends} {d : Ev} {fl : Fl} (e : Same S S1) (h : EndOf G g S D d fl) : EndOf G g S1 D d fl := by
  cases fl with
  | nx => exact fun s' H' S' q => h s' H' S' (e.trans q)
  | bk => exact fun s' H' S' q => h s' H' S' (e.trans q)
  | ct => exact fun s' H' S' q => h s' H' S' (e.trans q)
  | rt x => exact fun v s' H' S' q => h v s' H' S' (e.trans q)
  | rf x => exact fun v s' H' S' q => h v s' H' S' (e.trans q)
def liftS (G : Cls) (f : DS) : TS := fun D s H => ∃ g S d fl d', Zt G g S s H d ∧ f d = some (fl, d') ∧ EndOf G g S D d' fl

abbrev LE (G : Cls) (X : Cx) (e : Expr) (f : DE) : Prop := PE X e (liftE G f)
abbrev LF (G : Cls) (X : Cx) (e : Expr) (f : DE) : Prop := PE X e (liftF G f)
abbrev LT (G : Cls) (X : Cx) (e : Expr) (f : DT) : Prop := PT X e (liftT G f)
abbrev LW (G : Cls) (X : Cx) (e : Expr) (f : DT) : Prop := PW X e (liftT G f)
abbrev LA (G : Cls) (X : Cx) (e : List Expr) (f : DA) : Prop := PA X e (liftA G f)
abbrev LS (G : Cls) (X : Cx) (e : Stmt) (f : DS) : Prop := PS X e (liftS G f)
abbrev LSs (G : Cls) (X : Cx) (e : List Stmt) (f : DS) : Prop := PSs X e (liftS G f)

section
variable {G : Cls} {X : Cx} {e a b c : Expr} {es : List Expr} {f h k : DE} {fa : DA} {ft gt : DT} {pos : Pos} {st : Stmt} {sts : List Stmt} {B B1 B2 : DS}

/-! ### a fresh object is kept -/
theorem Zt.keep {g : Gh} {S H : Hp} {s : St} {d : Ev} {a : Addr} {o : HO} (z : Zt G g S s H d) (ha : H a = some o) (hs : S a = none) (h0 : g.H0 a = none) (ho : ∀ j, ¬ OwnAt d s j a) : Zt G g (upd S a o) s H d ∧ Same S (upd S a o) := by
  have sm : Same S (upd S a o) := fun b u e => by rw [upd_ne (ne_of_none e hs)]; exact e
  refine ⟨⟨fun b u e => ?_, z.bh, fun b u e => ?_, z.s1.trans sm, z.dm, z.ln, fun i x q => ?_, z.ap, z.ic, z.tb⟩, sm⟩
  · by_cases hb : b = a
    · subst hb; rw [upd_same] at e; rw [ha]; exact e
    · rw [upd_ne hb] at e; exact z.sh _ _ e
  · by_cases hb : b = a
    · subst hb; exact .inr h0
    · rw [upd_ne hb] at e; exact z.s0 _ _ e
  · obtain ⟨y, h1, h2⟩ := z.sl i x q
    refine ⟨y, h1, ?_⟩
    cases x with
    | tb _ _ => exact h2
    | no => trivial
    | va d => obtain ⟨v, e1, r⟩ := h2; exact ⟨v, e1, r.mono sm⟩
    | ow d =>
      obtain ⟨b, e1, c, h3, h4, h5⟩ := h2
      have hb : b ≠ a := fun w => ho i ⟨_, q, rfl, by rw [h1, e1, w]⟩
      exact ⟨b, e1, c.mono sm rfl, by rw [upd_ne hb]; exact h3, h4, h5⟩
    | io d =>
      obtain ⟨b, e1, e2, c, h3, h4, h5⟩ := h2
      have hb : b ≠ a := fun w => ho i ⟨_, q, rfl, by rw [h1, e1, w]⟩
      exact ⟨b, e1, e2, c.mono sm rfl, by rw [upd_ne hb]; exact h3, h4, h5⟩
theorem Cont.rep {S S' H : Hp} {a : Addr} {o : HO} (ha : H a = some o) (hs : S' a = some o) (e : Same S S') : ∀ {x : D}, Cont G S H a x → isDc x = false → Rep G S' x (.ref a)
  | .lst _, ⟨vs, h1, h2⟩, _ => by
    rw [ha] at h1; cases h1
    unfold Rep
    exact ⟨a, vs, rfl, hs, h2.mono e⟩
  | .ob _ _, ⟨dx, vs, h1, h3, h2⟩, _ => by
    rw [ha] at h1; cases h1
    unfold Rep
    exact ⟨a, dx, vs, rfl, hs, h3, h2.mono e⟩
  | .non, q, _ => q.elim
  | .bl _, q, _ => q.elim
  | .int _, q, _ => q.elim
  | .str _, q, _ => q.elim
  | .tup _, q, _ => q.elim
  | .fn _, q, _ => q.elim
  | .scr _, q, _ => q.elim
  | .dic _, _, q => nomatch q
  | .dis _, _, q => nomatch q
  | .dil _ _, _, q => nomatch q
  | .ex _, q, _ => q.elim
/-- such an object is changed -/
theorem Zt.poke {g : Gh} {S H : Hp} {s : St} {d : Ev} {p : Addr} {o : HO} (z : Zt G g S s H d) (hp : ∃ u, H p = some u ∧ ¬ Hard u) (hs : S p = none) (hb : g.B p = none) (ho : ∀ j, ¬ OwnAt d s j p) : Zt G g S s (upd H p o) d where
  sh := fun b u e => by
    have hne : b ≠ p := fun w => by rw [w, hs] at e; cases e
    rw [upd_ne hne]; exact z.sh b u e
  bh := fun b u e => by
    have hne : b ≠ p := fun w => by rw [w, hb] at e; cases e
    rw [upd_ne hne]; exact z.bh b u e
  s0 := z.s0
  s1 := z.s1
  dm := fun b e => by
    have hne : b ≠ p := fun w => by rw [w, upd_same] at e; cases e
    rw [upd_ne hne] at e; exact z.dm b e
  ln := z.ln
  sl := fun i x e => by
    obtain ⟨y, h1, h2⟩ := z.sl i x e
    refine ⟨y, h1, ?_⟩
    cases x with
    | tb _ _ => exact h2
    | no => trivial
    | va w => exact h2
    | ow w =>
      obtain ⟨a, e1, c, h3⟩ := h2
      have ha : a ≠ p := fun w' => ho i ⟨_, e, rfl, by rw [h1, e1, w']⟩
      exact ⟨a, e1, c.mono (.refl _) (upd_ne ha), h3⟩
    | io w =>
      obtain ⟨a, e1, e2, c, h3⟩ := h2
      have ha : a ≠ p := fun w' => ho i ⟨_, e, rfl, by rw [h1, e1, w']⟩
      exact ⟨a, e1, e2, c.mono (.refl _) (upd_ne ha), h3⟩
  ap := z.ap
  ic := z.ic
  tb := let ⟨_, h, n⟩ := hp; z.tb.upd h n
def tKeep (t : TE) : TE := fun σ H Q => t σ H fun v H' => Q v H' ∨ ∃ p u, H' p = some u ∧ Mut (some u) ∧ ∀ od, Q v (upd H' p (.frz od u))
theorem pe_keep {t : TE} (h : PE X e t) : PE X e (tKeep t) := by
  refine ⟨fun pins s σ H Q I hw => ?_⟩
  refine thn (h.run pins s σ H _ I hw) fun v s1 ⟨x, H1, I1, r, q⟩ => ?_
  rcases q with q | ⟨p, u, hd, mu, q⟩
  · exact ⟨x, H1, I1, r, q⟩
  · obtain ⟨od, I2⟩ := I1.lock hd mu
    exact ⟨x, _, I2, r, q od⟩
theorem Zt.stow {g : Gh} {S H : Hp} {s : St} {d : Ev} {a : Addr} {x : D} (z : Zt G g S s H d) (ct : Cont G S H a x) (hs : S a = none) (hb : g.B a = none) (h0 : g.H0 a = none) (ho : ∀ j, ¬ OwnAt d s j a) :
    (∃ S', Same S S' ∧ Zt G g S' s H d ∧ Rep G S' x (.ref a)) ∨ ∃ u, H a = some u ∧ Mut (some u) ∧ ∀ od, ∃ S', Same S S' ∧ Zt G g S' s (upd H a (.frz od u)) d ∧ Rep G S' x (.ref a) := by
  obtain ⟨o, ha, mu⟩ := ct.has
  have nh : ¬ Hard o := by
    obtain ⟨u, hu, n⟩ := ct.soft
    rw [ha] at hu
    cases hu
    exact n
  cases hx : isDc x with
  | true =>
    refine .inr ⟨o, ha, mu, fun od => ?_⟩
    have z1 := z.poke (o := .frz od o) ⟨o, ha, nh⟩ hs hb ho
    obtain ⟨z2, sm⟩ := z1.keep upd_same hs h0 ho
    refine ⟨_, sm, z2, ?_⟩
    obtain ⟨o', h1, h2⟩ := ct.dc hx
    rw [ha] at h1
    cases h1
    exact h2 _ od sm upd_same
  | false =>
    obtain ⟨z2, sm⟩ := z.keep ha hs h0 ho
    exact .inl ⟨_, sm, z2, ct.rep ha upd_same sm hx⟩
theorem le_fz (hf : LF G X e f) : LE G X e f := pe_weak (pe_keep hf) fun s H Q ⟨g, S, d, x, d', z, e, q⟩ => ⟨g, S, d, x, d', z, e, fun a H' S' sm z' ct hs hb h0 ho => by
  rcases z'.stow ct hs hb h0 ho with ⟨S2, sm2, z2, r⟩ | ⟨u, hu, mu, w⟩
  · exact .inl (q _ _ _ (sm.trans sm2) z2 r)
  · refine .inr ⟨a, u, hu, mu, fun od => ?_⟩
    obtain ⟨S2, sm2, z2, r⟩ := w od
    exact q _ _ _ (sm.trans sm2) z2 r⟩

/-! ### names, constants -/
def frz : D → Bool
  | .lst _ => true
  | .ob _ _ => true
  | _ => false
def nm (i : Nat) : DE := fun d => match d[i]? with
  | some (.va x) => some (x, d)
  | some (.ow x) => some (x, d.set i (.va x))
  | _ => none
theorem le_nm (i : Nat) {x : Str} (hN : X.N[i]? = some x := by rfl) (hv : Vis X.env.scope x := by first | exact Or.inl rfl | exact Or.inr (Or.inl rfl) | exact Or.inr (Or.inr rfl)) (hd : (x == ("__debug__" : Str)) = false := by decide) (hcd : (x == ("__classdict__" : Str)) = false := by decide) : LE G X (.Name x pos) (nm i) := by
  refine pe_weak (pe_keep (pe_var hN hv hd hcd)) fun s H Q ⟨g, S, d, x, d', z, e, q⟩ => ?_
  unfold nm at e
  split at e
  · rename_i y he
    cases e
    obtain ⟨w, h1, v, rfl, r⟩ := z.sl i _ he
    exact ⟨v, h1, .inl (q v H S (.refl _) z r)⟩
  · rename_i y he
    cases e
    obtain ⟨w, h1, a, rfl, ct, h3, h4, h5⟩ := z.sl i _ he
    obtain ⟨o, ha, _⟩ := ct.has
    have z1 : Zt G g S (s.set i (some (.ref a))) H (d.set i .no) := z.set (by unfold notIo; rw [he]) trivial (fun _ q => nomatch q) fun _ q => nomatch q
    have es : s.set i (some (.ref a)) = s := by
      have hl := (List.getElem?_eq_some_iff.mp h1)
      obtain ⟨hl, hg⟩ := hl
      rw [← hg]; exact List.set_getElem_self hl
    rw [es] at z1
    have il : i < d.length := (List.getElem?_eq_some_iff.mp he).1
    have no : ∀ j, ¬ OwnAt (d.set i .no) s j a := fun j o => by
      obtain ⟨y, o1, o2, o3⟩ := o
      rcases getElem?_set_cases o1 with ⟨e1, e2, _⟩ | ⟨e1, e2⟩
      · subst e2; cases o2
      · exact z.ap j i a e1 ⟨y, e2, o2, o3⟩ ⟨_, he, rfl, h1⟩
    refine ⟨.ref a, h1, ?_⟩
    rcases z1.stow ct h3 h4 h5 no with ⟨S2, sm, z2, r⟩ | ⟨u, hu, mu, w⟩
    · have z3 := z2.setVa (i := i) (v := .ref a) (y := x) (by unfold notIo; rw [set_get il]) r
      rw [es, List.set_set] at z3
      exact .inl (q _ _ _ sm z3 r)
    · refine .inr ⟨a, u, hu, mu, fun od => ?_⟩
      obtain ⟨S2, sm, z2, r⟩ := w od
      have z3 := z2.setVa (i := i) (v := .ref a) (y := x) (by unfold notIo; rw [set_get il]) r
      rw [es, List.set_set] at z3
      exact q _ _ _ sm z3 r
  · cases e

def kc (x : D) : DE := fun d => some (x, d)
theorem lift_const {v : V} {x : D} (r : ∀ S, Rep G S x v) (hp : PE X e (tC v)) : LE G X e (kc x) :=
  pe_weak hp fun s H Q ⟨g, S, d, y, d', z, e, q⟩ => by cases e; exact q _ _ _ (.refl _) z (r S)
theorem le_int {i j} : LE G X (.Constant (.int i) j pos) (kc (.int i)) := lift_const (fun _ => rep_int) pe_int
theorem le_bl {i j} : LE G X (.Constant (.bool i) j pos) (kc (.bl i)) := lift_const (fun _ => rep_bl) pe_bl
theorem le_non {j} : LE G X (.Constant .none j pos) (kc .non) := lift_const (fun _ => rep_non) pe_non
theorem le_str {i j} : LE G X (.Constant (.str i) j pos) (kc (.str i)) := lift_const (fun _ => rep_str) pe_str

/-! ### operators -/
def R1D (G : Cls) (k : D → Option D) (r : V → Hp → VK → Prop) : Prop := ∀ S H x z v (Q : VK), Same S H → Rep G S x v → k x = some z → (∀ u S' H', Ext S H S' H' → Rep G S' z u → Q u H') → r v H Q
def R2D (G : Cls) (k : D → D → Option D) (r : R2) : Prop := ∀ S H x y z v w (Q : VK), Same S H → Rep G S x v → Rep G S y w → k x y = some z → (∀ u S' H', Ext S H S' H' → Rep G S' z u → Q u H') → r v w H Q
def RnD (G : Cls) (k : List D → Option D) (r : List V → Hp → VK → Prop) : Prop := ∀ S H xs z vs (Q : VK), Same S H → RepL G S xs vs → k xs = some z → (∀ u S' H', Ext S H S' H' → Rep G S' z u → Q u H') → r vs H Q
def u1 (k : D → Option D) (f : DE) : DE := fun d => match f d with
  | some (x, d1) => match k x with
    | some z => some (z, d1)
    | none => none
  | none => none
def b2 (k : D → D → Option D) (f h : DE) : DE := fun d => match f d with
  | some (x, d1) => match h d1 with
    | some (y, d2) => match k x y with
      | some z => some (z, d2)
      | none => none
    | none => none
  | none => none
theorem b2_inv {k : D → D → Option D} {d d' : Ev} {z : D} (e : b2 k f h d = some (z, d')) : ∃ x d1 y, f d = some (x, d1) ∧ h d1 = some (y, d') ∧ k x y = some z := by
  unfold b2 at e
  split at e
  · rename_i x d1 e1
    split at e
    · rename_i y d2 e2
      split at e
      · rename_i w e3
        cases e
        exact ⟨x, d1, y, e1, e2, e3⟩
      · cases e
    · cases e
  · cases e
theorem u1_inv {k : D → Option D} {d d' : Ev} {z : D} (e : u1 k f d = some (z, d')) : ∃ x, f d = some (x, d') ∧ k x = some z := by
  unfold u1 at e
  split at e
  · rename_i x d1 e1
    split at e
    · rename_i w e3
      cases e
      exact ⟨x, e1, e3⟩
    · cases e
  · cases e
/-- two in a row -/
theorem lift2 {k : D → D → Option D} {r : R2} (hr : R2D G k r) {s : St} {H : Hp} {Q : VK} (q : liftE G (b2 k f h) s H Q) : tOp r (liftE G f) (liftE G h) s H Q := by
  obtain ⟨g, S, d, z, d', zt, e, q⟩ := q
  obtain ⟨x, d1, y, e1, e2, e3⟩ := b2_inv e
  refine ⟨g, S, d, x, d1, zt, e1, fun v H1 S1 s1 z1 r1 => ⟨g, S1, d1, y, d', z1, e2, fun w H2 S2 s2 z2 r2 => ?_⟩⟩
  exact hr S2 H2 x y z v w Q z2.sh (r1.mono s2) r2 e3 fun u S' H' ex ru => q u H' S' ((s1.trans s2).trans ex.s) (z2.ext ex) ru
theorem le_bin {op : Operator} {k : D → D → Option D} {r : R2} (hr : R2D G k r) (ho : OpR X (binaryOp op) r) (ha : LE G X a f) (hb : LE G X b h) : LE G X (.BinOp a op b pos) (b2 k f h) :=
  pe_weak (pe_op ho ha hb) fun _ _ _ => lift2 hr
theorem le_un {op : UnaryOp} {k : D → Option D} {r : V → Hp → VK → Prop} (hr : R1D G k r) (ho : UnR X (unaryOp op) r) (ha : LE G X a f) : LE G X (.UnaryOp op a pos) (u1 k f) := by
  refine pe_weak (pe_un ho ha) fun s H Q ⟨g, S, d, z, d', zt, e, q⟩ => ?_
  obtain ⟨x, e1, e3⟩ := u1_inv e
  exact ⟨g, S, d, x, d', zt, e1, fun v H1 S1 s1 z1 r1 => hr S1 H1 x z v Q z1.sh r1 e3 fun u S' H' ex ru => q u H' S' (s1.trans ex.s) (z1.ext ex) ru⟩
theorem le_cmp {op : CmpOp} {k : D → D → Option D} {r : R2} (hr : R2D G k r) (ho : OpR X (compareOp op) r) (ha : LE G X a f) (hb : LE G X b h) (hm : behindInMarks op b = false := by first | exact nobehind _ (by decide) (by decide) | rfl) : LE G X (.Compare a [op] [b] pos) (b2 k f h) :=
  pe_weak (pe_cmpR ho ha hb hm) fun _ _ _ => lift2 hr
/-- a value that is a bool, as a test -/
def tb (f : DE) : DT := fun d => match f d with
  | some (.bl x, d1) => some (x, d1)
  | _ => none
theorem tb_inv {d d' : Ev} {z : Bool} (e : tb f d = some (z, d')) : f d = some (.bl z, d') := by
  unfold tb at e
  split at e
  · cases e; assumption
  · cases e
theorem liftT_of {s : St} {H : Hp} {Q : Bool → Hp → Prop} (q : liftT G (tb f) s H Q) : liftE G f s H (fun x H' => ∃ c, x = .bl c ∧ Q c H') := by
  obtain ⟨g, S, d, z, d', zt, e, q⟩ := q
  exact ⟨g, S, d, .bl z, d', zt, tb_inv e, fun v H' S' sm z' r => ⟨z, inv_bl r, q H' S' sm z'⟩⟩
theorem lt_cmp {op : CmpOp} {k : D → D → Option D} {r : R2} (hr : R2D G k r) (ho : OpR X (compareOp op) r) (ha : LE G X a f) (hb : LE G X b h) (hm : behindInMarks op b = false := by first | exact nobehind _ (by decide) (by decide) | rfl) : LT G X (.Compare a [op] [b] pos) (tb (b2 k f h)) :=
  pt_weak (pt_cmpR ho ha hb hm) fun _ _ _ q => lift2 hr (liftT_of q)
theorem lt_val (he : LE G X e f) (hw : ∀ whole, isTrue e X.env whole = (do let v ← whole; standAt e.pos; holding [v] (truthy v)) := by intro _; rfl) : LT G X e (tb f) :=
  pt_weak (pt_val he hw) fun _ _ _ q => liftT_of q

/-! ### chains: a < b < c -/
def ch (k k' : D → D → Option D) (f h m : DE) : DE := fun d => match f d with
  | some (x, d1) => match h d1 with
    | some (y, d2) => match k x y with
      | some (.bl true) => match m d2 with
        | some (w, d3) => match k' y w with
          | some z => some (z, d3)
          | none => none
        | none => none
      | some (.bl false) => some (.bl false, d2)
      | _ => none
    | none => none
  | none => none
theorem lift_chain {k k' : D → D → Option D} {r r' : R2} {m : DE} (hr : R2D G k r) (hr' : R2D G k' r') {s : St} {H : Hp} {Q : VK} (q : liftE G (ch k k' f h m) s H Q) : tChain r r' (liftE G f) (liftE G h) (liftE G m) s H Q := by
  obtain ⟨g, S, d, z, d', zt, e, q⟩ := q
  unfold ch at e
  split at e
  · rename_i x d1 e1
    split at e
    · rename_i y d2 e2
      refine ⟨g, S, d, x, d1, zt, e1, fun v H1 S1 s1 z1 r1 => ⟨g, S1, d1, y, d2, z1, e2, fun w H2 S2 s2 z2 r2 => ?_⟩⟩
      split at e
      · rename_i e3
        split at e
        · rename_i w' d3 e4
          split at e
          · rename_i z' e5
            cases e
            refine hr S2 H2 x y (.bl true) v w _ z2.sh (r1.mono s2) r2 e3 fun u S' H' ex ru => ⟨true, inv_bl ru, ?_⟩
            rw [if_pos rfl]
            refine ⟨g, S', d2, w', d', z2.ext ex, e4, fun v4 H4 S4 s4 z4 r4 => ?_⟩
            exact hr' S4 H4 y w' z w v4 Q z4.sh ((r2.mono ex.s).mono s4) r4 e5 fun u5 S5 H5 ex5 ru5 => q u5 H5 S5 ((((s1.trans s2).trans ex.s).trans s4).trans ex5.s) (z4.ext ex5) ru5
          · cases e
        · cases e
      · rename_i e3
        cases e
        refine hr S2 H2 x y (.bl false) v w _ z2.sh (r1.mono s2) r2 e3 fun u S' H' ex ru => ⟨false, inv_bl ru, ?_⟩
        rw [if_neg Bool.false_ne_true]
        exact q _ H' S' ((s1.trans s2).trans ex.s) (z2.ext ex) rep_bl
      · cases e
    · cases e
  · cases e
end
end Zr

/-! Zr: tests, displays, statements, loops, comprehensions. -/
namespace Zr
open PySem L2
section
variable {G : Cls} {X : Cx} {e a b c : Expr} {es : List Expr} {f h k : DE} {fa : DA} {ft : DT} {pos : Pos} {st : Stmt} {sts : List Stmt} {B B1 B2 : DS}
theorem le_chain {op op' : CmpOp} {k k' : D → D → Option D} {r r' : R2} {m : DE} (hr : R2D G k r) (hr' : R2D G k' r') (ho : OpR X (compareOp op) r) (ho' : OpR X (compareOp op') r') (ha : LE G X a f) (hb : LE G X b h) (hc : LE G X c m)
    (hm : lastMarks [op, op'] [b, c] = false := by with_unfolding_all rfl) : LE G X (.Compare a [op, op'] [b, c] pos) (ch k k' f h m) := pe_weak (pe_chain ho ho' ha hb hc hm) fun _ _ _ => lift_chain hr hr'
theorem lt_chain {op op' : CmpOp} {k k' : D → D → Option D} {r r' : R2} {m : DE} (hr : R2D G k r) (hr' : R2D G k' r') (ho : OpR X (compareOp op) r) (ho' : OpR X (compareOp op') r') (ha : LE G X a f) (hb : LE G X b h) (hc : LE G X c m)
    (hm : lastMarks [op, op'] [b, c] = false := by with_unfolding_all rfl) : LT G X (.Compare a [op, op'] [b, c] pos) (tb (ch k k' f h m)) := pt_weak (pt_chain ho ho' ha hb hc hm) fun _ _ _ q => lift_chain hr hr' (liftT_of q)

/-! ### not, and, or -/
def tnot (f : DT) : DT := fun d => match f d with
  | some (x, d1) => some (!x, d1)
  | none => none
def tand (f h : DT) : DT := fun d => match f d with
  | some (true, d1) => h d1
  | some (false, d1) => some (false, d1)
  | none => none
def tor (f h : DT) : DT := fun d => match f d with
  | some (true, d1) => some (true, d1)
  | some (false, d1) => h d1
  | none => none
theorem lt_not {t : DT} (ha : LT G X a t) : LT G X (.UnaryOp .Not a pos) (tnot t) := pt_weak (pt_not ha) fun s H Q ⟨g, S, d, x, d', z, e, q⟩ => by
  unfold tnot at e
  split at e
  · rename_i y d1 e1
    cases e
    exact ⟨g, S, d, y, d', z, e1, q⟩
  · cases e
theorem lw_and1 {t : DT} (ha : LT G X a t) : LW G X (.BoolOp .And [a] pos) t := pw_and1 ha
theorem lw_or1 {t : DT} (ha : LT G X a t) : LW G X (.BoolOp .Or [a] pos) t := pw_or1 ha
theorem lift_and {t u : DT} {s : St} {H : Hp} {Q : Bool → Hp → Prop} (q : liftT G (tand t u) s H Q) : tAnd (liftT G t) (liftT G u) s H Q := by
  obtain ⟨g, S, d, x, d', z, e, q⟩ := q
  unfold tand at e
  split at e
  · rename_i d1 e1
    refine ⟨g, S, d, true, d1, z, e1, fun H' S' sm z' => ?_⟩
    refine iteT ?_
    exact ⟨g, S', d1, x, d', z', e, fun H2 S2 sm2 z2 => q H2 S2 (sm.trans sm2) z2⟩
  · rename_i d1 e1
    cases e
    refine ⟨g, S, d, false, d', z, e1, fun H' S' sm z' => ?_⟩
    refine iteF ?_
    exact q H' S' sm z'
  · cases e
theorem lift_or {t u : DT} {s : St} {H : Hp} {Q : Bool → Hp → Prop} (q : liftT G (tor t u) s H Q) : tOr (liftT G t) (liftT G u) s H Q := by
  obtain ⟨g, S, d, x, d', z, e, q⟩ := q
  unfold tor at e
  split at e
  · rename_i d1 e1
    cases e
    refine ⟨g, S, d, true, d', z, e1, fun H' S' sm z' => ?_⟩
    refine iteT ?_
    exact q H' S' sm z'
  · rename_i d1 e1
    refine ⟨g, S, d, false, d1, z, e1, fun H' S' sm z' => ?_⟩
    refine iteF ?_
    exact ⟨g, S', d1, x, d', z', e, fun H2 S2 sm2 z2 => q H2 S2 (sm.trans sm2) z2⟩
  · cases e
theorem lw_and {t u : DT} (ha : LT G X a t) (hb : LW G X (.BoolOp .And (b :: es) pos) u) : LW G X (.BoolOp .And (a :: b :: es) pos) (tand t u) := pw_weak (pw_and ha hb) fun _ _ _ => lift_and
theorem lw_or {t u : DT} (ha : LT G X a t) (hb : LW G X (.BoolOp .Or (b :: es) pos) u) : LW G X (.BoolOp .Or (a :: b :: es) pos) (tor t u) := pw_weak (pw_or ha hb) fun _ _ _ => lift_or
theorem lt_w {t : DT} (h : LW G X e t) : LT G X e t := PW.pt h
/-- as values: bools -/
def tv (f : DT) : DE := fun d => match f d with
  | some (x, d1) => some (.bl x, d1)
  | none => none
def vnot (f : DE) : DE := tv (tnot (tb f))
def vand (f h : DE) : DE := fun d => match f d with
  | some (.bl true, d1) => h d1
  | some (.bl false, d1) => some (.bl false, d1)
  | _ => none
def vor (f h : DE) : DE := fun d => match f d with
  | some (.bl true, d1) => some (.bl true, d1)
  | some (.bl false, d1) => h d1
  | _ => none
theorem le_one {op} (ha : LE G X a f) : LE G X (.BoolOp op [a] pos) f := pe_one ha
theorem le_and (ha : LE G X a f) (hb : LE G X (.BoolOp .And (b :: es) pos) h) : LE G X (.BoolOp .And (a :: b :: es) pos) (vand f h) := pe_weak (pe_and ha hb) fun s H Q ⟨g, S, d, x, d', z, e, q⟩ => by
  unfold vand at e
  split at e
  · rename_i d1 e1
    refine ⟨g, S, d, _, d1, z, e1, fun v H' S' sm z' r => ⟨true, inv_bl r, ?_⟩⟩
    refine iteT ?_
    exact ⟨g, S', d1, x, d', z', e, fun v2 H2 S2 sm2 z2 => q v2 H2 S2 (sm.trans sm2) z2⟩
  · rename_i d1 e1
    cases e
    refine ⟨g, S, d, _, d', z, e1, fun v H' S' sm z' r => ⟨false, inv_bl r, ?_⟩⟩
    refine iteF ?_
    exact q _ H' S' sm z' rep_bl
  · cases e
theorem le_or (ha : LE G X a f) (hb : LE G X (.BoolOp .Or (b :: es) pos) h) : LE G X (.BoolOp .Or (a :: b :: es) pos) (vor f h) := pe_weak (pe_or ha hb) fun s H Q ⟨g, S, d, x, d', z, e, q⟩ => by
  unfold vor at e
  split at e
  · rename_i d1 e1
    cases e
    refine ⟨g, S, d, _, d', z, e1, fun v H' S' sm z' r => ⟨true, inv_bl r, ?_⟩⟩
    refine iteT ?_
    exact q _ H' S' sm z' rep_bl
  · rename_i d1 e1
    refine ⟨g, S, d, _, d1, z, e1, fun v H' S' sm z' r => ⟨false, inv_bl r, ?_⟩⟩
    refine iteF ?_
    exact ⟨g, S', d1, x, d', z', e, fun v2 H2 S2 sm2 z2 => q v2 H2 S2 (sm.trans sm2) z2⟩
  · cases e
theorem le_not (ha : LE G X a f) : LE G X (.UnaryOp .Not a pos) (vnot f) := pe_weak (pe_not ha) fun s H Q ⟨g, S, d, x, d', z, e, q⟩ => by
  unfold vnot tv tnot at e
  split at e
  · rename_i y d1 e1
    split at e1
    · rename_i y2 d2 e2
      cases e1; cases e
      refine ⟨g, S, d, .bl y2, d', z, tb_inv e2, fun v H' S' sm z' r => ⟨y2, inv_bl r, ?_⟩⟩
      exact q _ H' S' sm z' rep_bl
    · cases e1
  · cases e
/-- a if t else b -/
def fi (t : DT) (f h : DE) : DE := fun d => match t d with
  | some (true, d1) => f d1
  | some (false, d1) => h d1
  | none => none
theorem le_if {t : DT} (hc : LT G X c t) (ha : LE G X a f) (hb : LE G X b h) : LE G X (.IfExp c a b pos) (fi t f h) := pe_weak (pe_ifExp hc ha hb) fun s H Q ⟨g, S, d, x, d', z, e, q⟩ => by
  unfold fi at e
  split at e
  · rename_i d1 e1
    refine ⟨g, S, d, _, d1, z, e1, fun H' S' sm z' => ?_⟩
    refine iteT ?_
    exact ⟨g, S', d1, x, d', z', e, fun v2 H2 S2 sm2 z2 => q v2 H2 S2 (sm.trans sm2) z2⟩
  · rename_i d1 e1
    refine ⟨g, S, d, _, d1, z, e1, fun H' S' sm z' => ?_⟩
    refine iteF ?_
    exact ⟨g, S', d1, x, d', z', e, fun v2 H2 S2 sm2 z2 => q v2 H2 S2 (sm.trans sm2) z2⟩
  · cases e

/-! ### argument lists, displays -/
def an : DA := fun d => some ([], d)
def ac (f : DE) (r : DA) : DA := fun d => match f d with
  | some (x, d1) => match r d1 with
    | some (xs, d2) => some (x :: xs, d2)
    | none => none
  | none => none
theorem ac_inv {r : DA} {d d' : Ev} {zs : List D} (e : ac f r d = some (zs, d')) : ∃ x d1 xs, f d = some (x, d1) ∧ r d1 = some (xs, d') ∧ zs = x :: xs := by
  unfold ac at e
  split at e
  · rename_i x d1 e1
    split at e
    · rename_i xs d2 e2
      cases e
      exact ⟨x, d1, xs, e1, e2, rfl⟩
    · cases e
  · cases e
theorem la_nil : LA G X [] an := pa_weak pa_nil fun s H Q ⟨g, S, d, x, d', z, e, q⟩ => by cases e; exact q [] H S (.refl _) z .nil
theorem la_cons {r : DA} (ha : LE G X e f) (hr : LA G X es r) (hs : starEach (e :: es) X.env = (false, eval e X.env) :: starEach es X.env := by rfl) : LA G X (e :: es) (ac f r) := pa_weak (pa_cons ha hr hs) fun s H Q ⟨g, S, d, x, d', z, e, q⟩ => by
  obtain ⟨y, d1, ys, e1, e2, rfl⟩ := ac_inv e
  exact ⟨g, S, d, y, d1, z, e1, fun v H' S' sm z' r1 => ⟨g, S', d1, ys, d', z', e2, fun vs H2 S2 sm2 z2 r2 => q _ H2 S2 (sm.trans sm2) z2 (.cons (r1.mono sm2) r2)⟩⟩
def dt (r : DA) : DE := fun d => match r d with
  | some (xs, d1) => if xs.length ≤ sizeLine then some (.tup xs, d1) else none
  | none => none
def dl (r : DA) : DE := fun d => match r d with
  | some (xs, d1) => if xs.length ≤ sizeLine then some (.lst xs, d1) else none
  | none => none
theorem le_tup {r : DA} {x1} (h : LA G X es r) : LE G X (.Tuple es x1 pos) (dt r) := pe_weak (pe_tup h) fun s H Q ⟨g, S, d, x, d', z, e, q⟩ => by
  unfold dt at e
  split at e
  · rename_i xs d1 e1
    split at e
    · rename_i hl
      cases e
      refine ⟨g, S, d, xs, d', z, e1, fun vs H' S' sm z' r1 => ⟨by rw [← r1.length]; exact hl, fun p hp => ?_⟩⟩
      have ex := Ext.alloc (o := .tup vs) z'.sh hp
      exact q _ _ _ (sm.trans ex.s) (z'.ext ex) (by unfold Rep; exact ⟨p, vs, rfl, SqT.of upd_same, r1.mono ex.s⟩)
    · cases e
  · cases e
/-- a new object in the heap, not among the kept -/
theorem Zt.fresh {g : Gh} {S H : Hp} {s : St} {d : Ev} {p : Addr} {o : HO} (z : Zt G g S s H d) (hp : H p = none) : Zt G g S s (upd H p o) d ∧ S p = none ∧ g.B p = none ∧ g.H0 p = none ∧ ∀ j, ¬ OwnAt d s j p := by
  have no : ∀ j, ¬ OwnAt d s j p := fun j q => by
    obtain ⟨⟨u, hu⟩, _⟩ := z.ownAddr q
    rw [hp] at hu; cases hu
  have eH : ∀ b u, H b = some u → upd H p o b = some u := fun b u e => by rw [upd_ne (ne_of_none e hp)]; exact e
  refine ⟨⟨fun b u e => eH b u (z.sh b u e), fun b u e => eH b u (z.bh b u e), z.s0, z.s1, fun b e => ?_, z.ln, fun i x q => ?_, z.ap, z.ic, z.tb.same eH⟩, z.sh.free hp, z.bh.free hp, z.dm p hp, no⟩
  · by_cases hb : b = p
    · subst hb; rw [upd_same] at e; cases e
    · rw [upd_ne hb] at e; exact z.dm b e
  · obtain ⟨y, h1, h2⟩ := z.sl i x q
    refine ⟨y, h1, ?_⟩
    have un : ∀ {b : Addr} {u : D}, Cont G S H b u → Cont G S (upd H p o) b u := fun {b u} ct => by
      obtain ⟨w, hw, _⟩ := ct.has
      exact ct.mono (.refl _) (upd_ne (ne_of_none hw hp))
    cases x with
    | tb _ _ => exact h2
    | no => trivial
    | va d => exact h2
    | ow d => obtain ⟨b, e1, c, h3⟩ := h2; exact ⟨b, e1, un c, h3⟩
    | io d => obtain ⟨b, e1, e2, c, h3⟩ := h2; exact ⟨b, e1, e2, un c, h3⟩
theorem lf_lst {r : DA} (h : LA G X es r) : LF G X (.List es pos) (dl r) := pe_weak (pe_lst h) fun s H Q ⟨g, S, d, x, d', z, e, q⟩ => by
  unfold dl at e
  split at e
  · rename_i xs d1 e1
    split at e
    · rename_i hl
      cases e
      refine ⟨g, S, d, xs, d', z, e1, fun vs H' S' sm z' r1 => ⟨by rw [← r1.length]; exact hl, fun p hp => ?_⟩⟩
      obtain ⟨z2, n1, n2, n3, n4⟩ := z'.fresh (o := .lst vs) hp
      exact q p _ S' sm z2 ⟨vs, upd_same, r1⟩ n1 n2 n3 n4
    · cases e
  · cases e
theorem le_lst {r : DA} (h : LA G X es r) : LE G X (.List es pos) (dl r) := le_fz (lf_lst h)

/-! ### built-ins that are called -/
def cn (k : List D → Option D) (r : DA) : DE := fun d => match r d with
  | some (xs, d1) => match k xs with
    | some z => some (z, d1)
    | none => none
  | none => none
theorem cn_inv {k : List D → Option D} {r : DA} {d d' : Ev} {z : D} (e : cn k r d = some (z, d')) : ∃ xs, r d = some (xs, d') ∧ k xs = some z := by
  unfold cn at e
  split at e
  · rename_i xs d1 e1
    split at e
    · rename_i y e2
      cases e
      exact ⟨xs, e1, e2⟩
    · cases e
  · cases e
theorem lift_cn {k : List D → Option D} {r : DA} {rr : List V → Hp → VK → Prop} (hr : RnD G k rr) {s : St} {H : Hp} {Q : VK} (q : liftE G (cn k r) s H Q) : tCB rr (liftA G r) s H Q := by
  obtain ⟨g, S, d, x, d', z, e, q⟩ := q
  obtain ⟨xs, e1, e2⟩ := cn_inv e
  exact ⟨g, S, d, xs, d', z, e1, fun vs H' S' sm z' r1 => hr S' H' xs x vs Q z'.sh r1 e2 fun u S2 H2 ex ru => q u H2 S2 (sm.trans ex.s) (z'.ext ex) ru⟩
theorem le_callB {x : Str} {p : Pos} {id : String} {k : List D → Option D} {r : DA} {rr : List V → Hp → VK → Prop} (hr : RnD G k rr) (hc : CallR X (.builtin id) rr) (hg : Gl X x) (hm : X.mg x = none) (hv : bootBuiltins x = some (.builtin id)) (ha : LA G X (e :: es) r)
    (hn : x ≠ "__name__" := by decide) (hdb : (x == ("__debug__" : Str)) = false := by decide) (he : starEach (e :: es) X.env = (false, eval e X.env) :: starEach es X.env := by rfl) (hpl : (backTo pos (starEach es X.env)).any (·.1) = false := by rfl) :
    LE G X (.Call (.Name x p) (e :: es) [] pos) (cn k r) := pe_weak (pe_callB hc hg hm hv ha hn hdb he hpl) fun _ _ _ => lift_cn hr
theorem le_callTy {x : Str} {p : Pos} {T : String} {k : List D → Option D} {r : DA} {rr : List V → Hp → VK → Prop} (hr : RnD G k rr) (hc : CallR X (.type T) rr) (hg : Gl X x) (hm : X.mg x = none) (hv : bootBuiltins x = some (.type T)) (ha : LA G X (e :: es) r)
    (hn : x ≠ "__name__" := by decide) (hdb : (x == ("__debug__" : Str)) = false := by decide) (he : starEach (e :: es) X.env = (false, eval e X.env) :: starEach es X.env := by rfl) (hpl : (backTo pos (starEach es X.env)).any (·.1) = false := by rfl) :
    LE G X (.Call (.Name x p) (e :: es) [] pos) (cn k r) := pe_weak (pe_callTy hc hg hm hv ha hn hdb he hpl) fun _ _ _ => lift_cn hr

/-! ### targets -/
abbrev DG := D → Ev → Option Ev
/-- the slots but those of ts are as they were -/
def Sm (ts : List Nat) (s s' : St) : Prop := s'.length = s.length ∧ ∀ j, j ∉ ts → s'[j]? = s[j]?
theorem Sm.refl {ts : List Nat} {s : St} : Sm ts s s := ⟨rfl, fun _ _ => rfl⟩
theorem Sm.trans {ts us : List Nat} {s s1 s2 : St} (a : Sm ts s s1) (b : Sm us s1 s2) : Sm (ts ++ us) s s2 := ⟨b.1.trans a.1, fun j h => by
  rw [List.mem_append, not_or] at h
  rw [b.2 j h.2, a.2 j h.1]⟩
def liftG (G : Cls) (t : DG) (ts : List Nat) : TG := fun v s H Q => ∃ g S d x d', Zt G g S s H d ∧ Rep G S x v ∧ t x d = some d' ∧ ∀ s' H' S', Same S S' → Sm ts s s' → Zt G g S' s' H' d' → Q s' H'
def liftGs (G : Cls) (t : List D → Ev → Option Ev) (ts : List Nat) : TGs := fun vs s H Q => ∃ g S d xs d', Zt G g S s H d ∧ RepL G S xs vs ∧ t xs d = some d' ∧ ∀ s' H' S', Same S S' → Sm ts s s' → Zt G g S' s' H' d' → Q s' H'
abbrev LG (G : Cls) (X : Cx) (e : Expr) (t : DG) (ts : List Nat) : Prop := PG X e (liftG G t ts)
abbrev LGs (G : Cls) (X : Cx) (e : List Expr) (t : List D → Ev → Option Ev) (ts : List Nat) : Prop := PGs X e (liftGs G t ts)
def gn (i : Nat) : DG := fun x d => if notIo d i then some (d.set i (.va x)) else none
theorem lg_nm {i : Nat} {x : Str} (hN : X.N.Nodup) (hi : X.N[i]? = some x) (hx : Loc X.env.scope x) (hf : X.fn x = true ∨ X.env.scope.names.lookup x = some .local := by first | exact .inl rfl | exact .inr rfl | assumption) : LG G X (.Name x pos) (gn i) [i] := by
  refine pg_weak (pg_name hN hi hx hf) fun v s H Q ⟨g, S, d, y, d', z, r, e, q⟩ => ?_
  unfold gn at e
  split at e
  · rename_i hi
    cases e
    exact q _ _ _ (.refl _) ⟨List.length_set, fun j h => List.getElem?_set_ne fun w => h (by rw [w]; exact List.mem_cons_self)⟩ (z.setVa hi r)
  · cases e
def gsn : List D → Ev → Option Ev := fun xs d => match xs with
  | [] => some d
  | _ => none
def gsc (t : DG) (u : List D → Ev → Option Ev) : List D → Ev → Option Ev := fun xs d => match xs with
  | x :: r => match t x d with
    | some d1 => u r d1
    | none => none
  | [] => none
theorem lgs_nil : LGs G X [] gsn [] := pgs_weak pgs_nil fun vs s H Q ⟨g, S, d, xs, d', z, r, e, q⟩ => by
  cases xs with
  | nil => cases e; unfold RepL at r; exact ⟨r, q _ _ _ (.refl _) .refl z⟩
  | cons _ _ => cases e
theorem lgs_cons {t : DG} {u : List D → Ev → Option Ev} {ts us : List Nat} (h1 : LG G X e t ts) (h2 : LGs G X es u us) (hs : (assignEach (e :: es) X.env).map (·.2) = assign e X.env :: (assignEach es X.env).map (·.2) := by rfl) : LGs G X (e :: es) (gsc t u) (ts ++ us) :=
  pgs_weak (pgs_cons h1 h2 hs) fun vs s H Q ⟨g, S, d, xs, d', z, r, e, q⟩ => by
    cases xs with
    | nil => cases e
    | cons x xr =>
      unfold RepL at r
      obtain ⟨v, vr, rfl, r1, r2⟩ := r
      unfold gsc at e
      simp only at e
      split at e
      · rename_i d1 e1
        exact ⟨v, vr, rfl, g, S, d, x, d1, z, r1, e1, fun s' H' S' sm w1 z' => ⟨g, S', d1, xr, d', z', r2.mono sm, e, fun s2 H2 S2 sm2 w2 z2 => q s2 H2 S2 (sm.trans sm2) (w1.trans w2) z2⟩⟩
      · cases e
def gtp (n : Nat) (u : List D → Ev → Option Ev) : DG := fun x d => match x with
  | .tup xs => if xs.length = n then u xs d else none
  | _ => none
theorem lg_tup {k n : Nat} {u : List D → Ev → Option Ev} {us : List Nat} (hK : G.K = X.K) (hc : X.calm = true) (h : LGs G X es u us) (hn : (assignEach es X.env).length = n := by rfl) (hst : (assignEach es X.env).findIdx? (·.1) = none := by rfl) : LG G X (.Tuple es k pos) (gtp n u) us :=
  pg_weak (pg_tup hc h hn hst) fun v s H Q ⟨g, S, d, x, d', z, r, e, q⟩ => by
    cases x with
    | tup xs =>
      unfold gtp at e
      simp only at e
      split at e
      · rename_i hl
        obtain ⟨a, vs, rfl, h1, h2⟩ := inv_tup r
        rw [hK] at h1
        exact ⟨a, vs, rfl, same_seqT z.sh h1, by rw [← h2.length]; exact hl, g, S, d, xs, d', z, h2, e, q⟩
      · cases e
    | non => cases e
    | bl _ => cases e
    | int _ => cases e
    | str _ => cases e
    | lst _ => cases e
    | ob _ _ => cases e
    | fn _ => cases e
    | scr _ => cases e
    | dic _ => cases e
    | dis _ => cases e
    | dil _ _ => cases e
    | ex _ => cases e

/-! ### statements -/
def sk : DS := fun d => some (.nx, d)
def sq (A B : DS) : DS := fun d => match A d with
  | some (.nx, d1) => B d1
  | r => r
theorem lss_nil : LSs G X [] sk := pss_weak pss_nil fun D s H ⟨g, S, d, fl, d', z, e, q⟩ => by cases e; exact q s H S (.refl _) z
theorem lift_sq {s : St} {H : Hp} {D : Ends} (q : liftS G (sq B1 B2) D s H) : tSeq (liftS G B1) (liftS G B2) D s H := by
  obtain ⟨g, S, d, fl, d', z, e, q⟩ := q
  unfold sq at e
  split at e
  · rename_i d1 e1
    exact ⟨g, S, d, .nx, d1, z, e1, fun s' H' S' sm z' => ⟨g, S', d1, fl, d', z', e, q.mono sm⟩⟩
  · rename_i r hn
    refine ⟨g, S, d, fl, d', z, e, ?_⟩
    cases fl with
    | nx => exact absurd e (hn d')
    | bk => exact q
    | ct => exact q
    | rt _ => exact q
    | rf _ => exact q
theorem lss_cons (h1 : LS G X st B1) (h2 : LSs G X sts B2) : LSs G X (st :: sts) (sq B1 B2) := pss_weak (pss_cons h1 h2) fun _ _ _ => lift_sq
theorem lss_one (h1 : LS G X st B1) : LSs G X [st] B1 := pss_one h1
theorem ls_pass : LS G X (.Pass pos) sk := ps_weak ps_pass fun D s H ⟨g, S, d, fl, d', z, e, q⟩ => by cases e; exact q s H S (.refl _) z
def sbk : DS := fun d => some (.bk, d)
def sct : DS := fun d => some (.ct, d)
theorem ls_break : LS G X (.Break pos) sbk := ps_weak ps_break fun D s H ⟨g, S, d, fl, d', z, e, q⟩ => by cases e; exact q s H S (.refl _) z
theorem ls_cont : LS G X (.Continue pos) sct := ps_weak ps_continue fun D s H ⟨g, S, d, fl, d', z, e, q⟩ => by cases e; exact q s H S (.refl _) z
def sv : DS := fun _ => none
theorem ls_never : LS G X st sv := ps_weak ps_never fun D s H ⟨g, S, d, fl, d', z, e, q⟩ => by cases e
theorem lss_never : LSs G X sts sv := pss_weak pss_never fun D s H ⟨g, S, d, fl, d', z, e, q⟩ => by cases e
def sx (f : DE) : DS := fun d => match f d with
  | some (_, d1) => some (.nx, d1)
  | none => none
theorem ls_expr (he : LE G X e f) (hs : swapsWith e none pos.line X.env = pure false := by rfl) : LS G X (.Expr e pos) (sx f) := ps_weak (ps_expr he hs) fun D s H ⟨g, S, d, fl, d', z, e, q⟩ => by
  unfold sx at e
  split at e
  · rename_i x d1 e1
    cases e
    exact ⟨g, S, d, x, d', z, e1, fun v H' S' sm z' _ => q s H' S' sm z'⟩
  · cases e
def sr (f : DE) : DS := fun d => match f d with
  | some (x, d1) => some (.rt x, d1)
  | none => none
def srf (f : DE) : DS := fun d => match f d with
  | some (x, d1) => some (.rf x, d1)
  | none => none
theorem ls_ret (he : LE G X e f) : LS G X (.Return (some e) pos) (sr f) := ps_weak (ps_ret he) fun D s H ⟨g, S, d, fl, d', z, e, q⟩ => by
  unfold sr at e
  split at e
  · rename_i x d1 e1
    cases e
    exact ⟨g, S, d, x, d', z, e1, fun v H' S' sm z' r => q v s H' S' sm z' r⟩
  · cases e
theorem ls_retF (he : LF G X e f) : LS G X (.Return (some e) pos) (srf f) := ps_weak (ps_ret he) fun D s H ⟨g, S, d, fl, d', z, e, q⟩ => by
  unfold srf at e
  split at e
  · rename_i x d1 e1
    cases e
    exact ⟨g, S, d, x, d', z, e1, fun a H' S' sm z' ct h1 h2 h3 _ => q a s H' S' sm z' ct h1 h2 h3⟩
  · cases e
def srn : DS := fun d => some (.rt .non, d)
theorem ls_retN : LS G X (.Return none pos) srn := ps_weak ps_retN fun D s H ⟨g, S, d, fl, d', z, e, q⟩ => by cases e; exact q _ s H S (.refl _) z rep_non
def ss (t : DT) (A B : DS) : DS := fun d => match t d with
  | some (true, d1) => A d1
  | some (false, d1) => B d1
  | none => none
theorem ls_if {as bs : List Stmt} {t : DT} (hc : LT G X c t) (ha : LSs G X as B1) (hb : LSs G X bs B2) : LS G X (.If c as bs pos) (ss t B1 B2) := ps_weak (ps_if hc ha hb) fun D s H ⟨g, S, d, fl, d', z, e, q⟩ => by
  unfold ss at e
  split at e
  · rename_i d1 e1
    refine ⟨g, S, d, _, d1, z, e1, fun H' S' sm z' => ?_⟩
    refine iteT ?_
    exact ⟨g, S', d1, fl, d', z', e, q.mono sm⟩
  · rename_i d1 e1
    refine ⟨g, S, d, _, d1, z, e1, fun H' S' sm z' => ?_⟩
    refine iteF ?_
    exact ⟨g, S', d1, fl, d', z', e, q.mono sm⟩
  · cases e
/-- target = e -/
def sa (f : DE) (t : DG) : DS := fun d => match f d with
  | some (x, d1) => match t x d1 with
    | some d2 => some (.nx, d2)
    | none => none
  | none => none
theorem lift_sa {t : DG} {ts : List Nat} {s : St} {H : Hp} {D : Ends} (q : liftS G (sa f t) D s H) : liftE G f s H fun v H1 => liftG G t ts v s H1 D.nx := by
  obtain ⟨g, S, d, fl, d', z, e, q⟩ := q
  unfold sa at e
  split at e
  · rename_i x d1 e1
    split at e
    · rename_i d2 e2
      cases e
      exact ⟨g, S, d, x, d1, z, e1, fun v H' S' sm z' r => ⟨g, S', d1, x, d', z', r, e2, fun s2 H2 S2 sm2 _ z2 => q s2 H2 S2 (sm.trans sm2) z2⟩⟩
    · cases e
  · cases e
theorem ls_asg {tg : Expr} {t : DG} {ts : List Nat} (he : LE G X e f) (hg : LG G X tg t ts) (hs : swapsWithSole [tg] e pos.line X.env = pure false := by rfl) (hw : swappedStores [tg] e X.env = pure none := by rfl)
    (h1 : (assignEach [tg] X.env).map (·.2) = [assign tg X.env] := by rfl) : LS G X (.Assign [tg] e pos) (sa f t) := ps_weak (ps_asg he hg hs hw h1) fun _ _ _ => lift_sa
theorem gName_of {i : Nat} {v : V} {s : St} {H : Hp} {Q : St → Hp → Prop} (q : liftG G (gn i) [i] v s H Q) : gName i v s H Q := by
  obtain ⟨g, S, d, y, d', z, r, e, q⟩ := q
  unfold gn at e
  split at e
  · rename_i hi
    cases e
    exact q _ _ _ (.refl _) ⟨List.length_set, fun j h => List.getElem?_set_ne fun w => h (by rw [w]; exact List.mem_cons_self)⟩ (z.setVa hi r)
  · cases e
theorem ls_set {i : Nat} {x : Str} {pos' : Pos} (hN : X.N.Nodup) (hi : X.N[i]? = some x) (hx : Loc X.env.scope x) (he : LE G X e f) (hs : swapsWith e (some (.Name x pos')) pos.line X.env = pure false := by rfl) (hf : X.fn x = true ∨ X.env.scope.names.lookup x = some .local := by first | exact .inl rfl | exact .inr rfl | assumption) :
    LS G X (.Assign [.Name x pos'] e pos) (sa f (gn i)) := ps_weak (ps_set hN hi hx he hs hf) fun D s H q => by
  obtain ⟨g, S, d, x, d', z, e, q⟩ := lift_sa q
  exact ⟨g, S, d, x, d', z, e, fun v H' S' sm z' r => gName_of (q v H' S' sm z' r)⟩
/-- x = e, e a new object that will be changed -/
def so (i : Nat) (f : DE) : DS := fun d => match f d with
  | some (x, d1) => if notIo d1 i then some (.nx, d1.set i (.ow x)) else none
  | none => none
theorem ls_own {i : Nat} {x : Str} {pos' : Pos} (hN : X.N.Nodup) (hi : X.N[i]? = some x) (hx : Loc X.env.scope x) (he : LF G X e f) (hs : swapsWith e (some (.Name x pos')) pos.line X.env = pure false := by rfl) (hf : X.fn x = true ∨ X.env.scope.names.lookup x = some .local := by first | exact .inl rfl | exact .inr rfl | assumption) :
    LS G X (.Assign [.Name x pos'] e pos) (so i f) := ps_weak (ps_set hN hi hx he hs hf) fun D s H ⟨g, S, d, fl, d', z, e, q⟩ => by
  unfold so at e
  split at e
  · rename_i x d1 e1
    split at e
    · rename_i hi
      cases e
      refine ⟨g, S, d, x, d1, z, e1, fun a H' S' sm z' ct h1 h2 h3 h4 => ?_⟩
      exact q _ H' S' sm (z'.set hi ⟨a, rfl, ct, h1, h2, h3⟩ (fun _ q => nomatch q) fun b _ eb j => by cases eb; exact h4 j)
    · cases e
  · cases e
end
end Zr

/-! Zr: loops, comprehensions. -/
namespace Zr
open PySem L2

/-- the iterator J yields the data xs -/
structure ItD (G : Cls) (J : It) (S : Hp) (xs : List D) : Prop where
  go : ∀ i S1 H1, Same S S1 → Same S1 H1 → i < xs.length → J.go i H1
  stop : ∀ S1 H1, Same S S1 → Same S1 H1 → J.stop xs.length H1
  yld : ∀ i S1 H1 v H' x, Same S S1 → Same S1 H1 → xs[i]? = some x → J.yld i H1 v H' → ∃ S', Ext S1 H1 S' H' ∧ Rep G S' x v
theorem ItD.mono {G : Cls} {J : It} {S S' : Hp} {xs : List D} (e : Same S S') (h : ItD G J S xs) : ItD G J S' xs :=
  ⟨fun i S1 H1 s => h.go i S1 H1 (e.trans s), fun S1 H1 s => h.stop S1 H1 (e.trans s), fun i S1 H1 v H' x s => h.yld i S1 H1 v H' x (e.trans s)⟩
def liftI (G : Cls) (f : DA) : TI := fun s H R => ∃ g S d xs d', Zt G g S s H d ∧ f d = some (xs, d') ∧ ∀ J H' S', Same S S' → Zt G g S' s H' d' → ItD G J S' xs → R J H'
abbrev LI (G : Cls) (X : Cx) (tg e : Expr) (f : DA) : Prop := PI X tg e (liftI G f)

/-! ### for -/
def fo (t : DG) (B : DS) : List D → DS
  | [], d => some (.nx, d)
  | x :: xs, d => match t x d with
    | none => none
    | some d1 => match B d1 with
      | some (.nx, d2) => fo t B xs d2
      | some (.ct, d2) => fo t B xs d2
      | some (.bk, d2) => some (.nx, d2)
      | r => r
def sf (f : DA) (t : DG) (B : DS) : DS := fun d => match f d with
  | some (xs, d1) => fo t B xs d1
  | none => none
section
variable {G : Cls} {X : Cx} {e a b c tg iter : Expr} {es : List Expr} {f h k : DE} {fa : DA} {pos : Pos} {st : Stmt} {sts body : List Stmt} {B B1 B2 : DS} {t : DG} {ts : List Nat}
theorem drop_cons {α : Type} {l : List α} {i : Nat} (h : i < l.length) : l.drop i = l[i] :: l.drop (i + 1) := List.drop_eq_getElem_cons h
theorem ls_for (hp : PassesOwn (model X.prog X.w) X.A X.env X.xe) (hc : X.calm = true) (hi : LI G X tg iter fa) (hg : LG G X tg t ts) (hb : LSs G X body B)
    (hs : ∀ x, foldedSetIterable iter X.env x = pure x := by intro _; rfl) : LS G X (.For tg iter body [] pos) (sf fa t B) := by
  refine ps_weak (ps_for hp hc hi hg hb hs) fun D s H ⟨g, S, d, fl, d', z, e, q⟩ => ?_
  unfold sf at e
  split at e
  · rename_i xs d1 e1
    refine ⟨g, S, d, xs, d1, z, e1, fun J H' S' sm z' it => ?_⟩
    refine ⟨fun i m s1 H1 => m = xs.length - i ∧ i ≤ xs.length ∧ ∃ S1 d2, Same S' S1 ∧ Zt G g S1 s1 H1 d2 ∧ fo t B (xs.drop i) d2 = some (fl, d'), ⟨xs.length, rfl, Nat.zero_le _, S', d1, .refl _, z', e⟩, ?_⟩
    rintro i m s1 H1 ⟨rfl, hle, S1, d2, sm1, z1, e2⟩
    by_cases hlt : i < xs.length
    · rw [drop_cons hlt] at e2
      unfold fo at e2
      refine .inr ⟨it.go i S1 H1 sm1 z1.sh hlt, fun s3 H3 => xs.length - (i + 1) = xs.length - (i + 1) ∧ i + 1 ≤ xs.length ∧ ∃ S3 d3, Same S' S3 ∧ Zt G g S3 s3 H3 d3 ∧ fo t B (xs.drop (i + 1)) d3 = some (fl, d'), fun s3 H3 w => ⟨xs.length - (i + 1), by omega, w⟩, fun v H2 y => ?_⟩
      obtain ⟨S2, ex, r⟩ := it.yld i S1 H1 v H2 xs[i] sm1 z1.sh (List.getElem?_eq_getElem hlt) y
      have z2 := z1.ext ex
      split at e2
      · cases e2
      · rename_i d3 e3
        refine ⟨g, S2, d2, _, d3, z2, r, e3, fun s4 H4 S4 sm4 _ z4 => ?_⟩
        have sm' : Same S' S4 := sm1.trans (ex.s.trans sm4)
        split at e2
        · rename_i d5 e5
          exact ⟨g, S4, d3, .nx, d5, z4, e5, fun s6 H6 S6 sm6 z6 => ⟨rfl, hlt, S6, d5, sm'.trans sm6, z6, e2⟩⟩
        · rename_i d5 e5
          exact ⟨g, S4, d3, .ct, d5, z4, e5, fun s6 H6 S6 sm6 z6 => ⟨rfl, hlt, S6, d5, sm'.trans sm6, z6, e2⟩⟩
        · rename_i d5 e5
          cases e2
          exact ⟨g, S4, d3, .bk, _, z4, e5, fun s6 H6 S6 sm6 z6 => q s6 H6 S6 (sm.trans (sm'.trans sm6)) z6⟩
        · rename_i w h1 h2 h3
          refine ⟨g, S4, d3, fl, d', z4, e2, ?_⟩
          cases fl with
          | nx => exact absurd e2 (h1 _)
          | ct => exact absurd e2 (h2 _)
          | bk => exact absurd e2 (h3 _)
          | rt x => exact fun v6 s6 H6 S6 sm6 => q v6 s6 H6 S6 (sm.trans (sm'.trans sm6))
          | rf x => exact fun v6 s6 H6 S6 sm6 => q v6 s6 H6 S6 (sm.trans (sm'.trans sm6))
    · have ei : i = xs.length := by omega
      subst ei
      rw [List.drop_length] at e2
      cases e2
      exact .inl ⟨it.stop S1 H1 sm1 z1.sh, q s1 H1 S1 (sm.trans sm1) z1⟩
  · cases e

/-! ### while -/
def whN (c : DT) (B : DS) : Nat → DS
  | 0, _ => none
  | n + 1, d => match c d with
    | none => none
    | some (false, d1) => some (.nx, d1)
    | some (true, d1) => match B d1 with
      | some (.nx, d2) => whN c B n d2
      | some (.ct, d2) => whN c B n d2
      | some (.bk, d2) => some (.nx, d2)
      | r => r
theorem whN_more (c : DT) (B : DS) : ∀ (n m : Nat) (d : Ev) (r : Fl × Ev), whN c B n d = some r → n ≤ m → whN c B m d = some r
  | 0, _, _, _, h, _ => by cases h
  | n + 1, 0, _, _, _, h => by omega
  | n + 1, m + 1, d, r, h, hl => by
    unfold whN at h ⊢
    split at h
    · cases h
    · exact h
    · split at h
      · rename_i e
        try simp only [e]
        exact whN_more c B n m _ _ h (by omega)
      · rename_i e
        try simp only [e]
        exact whN_more c B n m _ _ h (by omega)
      · rename_i e
        try simp only [e]
        exact h
      · rename_i w h1 h2 h3
        first
          | exact h
          | (split
             · rename_i e; exact absurd e (h1 _)
             · rename_i e; exact absurd e (h2 _)
             · rename_i e; exact absurd e (h3 _)
             · exact h)
open Classical in
/-- while: what comes of it where it ends -/
noncomputable def wh (c : DT) (B : DS) : DS := fun d => if h : ∃ n r, whN c B n d = some r then some (Classical.choose (Classical.choose_spec h)) else none
theorem wh_some {c : DT} {B : DS} {d : Ev} {r : Fl × Ev} (h : wh c B d = some r) : ∃ n, whN c B n d = some r := by
  unfold wh at h
  split at h
  · rename_i hh
    cases h
    exact ⟨_, Classical.choose_spec (Classical.choose_spec hh)⟩
  · cases h
theorem wh_of {c : DT} {B : DS} {d : Ev} {r : Fl × Ev} {n : Nat} (h : whN c B n d = some r) : wh c B d = some r := by
  unfold wh
  have hh : ∃ n r, whN c B n d = some r := ⟨n, r, h⟩
  rw [dif_pos hh]
  have e := Classical.choose_spec (Classical.choose_spec hh)
  have e1 := whN_more c B _ (max n (Classical.choose hh)) d _ e (Nat.le_max_right _ _)
  have e2 := whN_more c B _ (max n (Classical.choose hh)) d _ h (Nat.le_max_left _ _)
  rw [e1] at e2
  exact e2
theorem wh_eq (c : DT) (B : DS) (d : Ev) : wh c B d = (match c d with
    | none => none
    | some (false, d1) => some (.nx, d1)
    | some (true, d1) => match B d1 with
      | some (.nx, d2) => wh c B d2
      | some (.ct, d2) => wh c B d2
      | some (.bk, d2) => some (.nx, d2)
      | r => r) := by
  have key : ∀ r, wh c B d = some r ↔ (match c d with
    | none => none
    | some (false, d1) => some (.nx, d1)
    | some (true, d1) => match B d1 with
      | some (.nx, d2) => wh c B d2
      | some (.ct, d2) => wh c B d2
      | some (.bk, d2) => some (.nx, d2)
      | r => r) = some r := fun r => by
    constructor
    · intro h
      obtain ⟨n, h⟩ := wh_some h
      cases n with
      | zero => cases h
      | succ n =>
        unfold whN at h
        split at h
        · cases h
        · rename_i e
          try simp only [e]
          exact h
        · rename_i e
          try simp only [e]
          split at h
          · rename_i e2
            try simp only [e2]
            exact wh_of h
          · rename_i e2
            try simp only [e2]
            exact wh_of h
          · rename_i e2
            try simp only [e2]
            exact h
          · rename_i w h1 h2 h3
            first
              | exact h
              | (split
                 · rename_i e; exact absurd e (h1 _)
                 · rename_i e; exact absurd e (h2 _)
                 · rename_i e; exact absurd e (h3 _)
                 · exact h)
    · intro h
      have one : ∀ n, whN c B (n + 1) d = some r → wh c B d = some r := fun n h => wh_of h
      split at h
      · cases h
      · rename_i e
        refine one 0 ?_
        unfold whN
        try simp only [e]
        exact h
      · rename_i d1 e
        split at h
        · rename_i e2
          obtain ⟨n, h⟩ := wh_some h
          refine one n ?_
          unfold whN
          try simp only [e, e2]
          exact h
        · rename_i e2
          obtain ⟨n, h⟩ := wh_some h
          refine one n ?_
          unfold whN
          try simp only [e, e2]
          exact h
        · rename_i e2
          refine one 0 ?_
          unfold whN
          try simp only [e, e2]
          exact h
        · rename_i w h1 h2 h3
          refine one 0 ?_
          unfold whN
          simp only [e]
          first
            | exact h
            | (split
               · rename_i e; exact absurd e (h1 _)
               · rename_i e; exact absurd e (h2 _)
               · rename_i e; exact absurd e (h3 _)
               · exact h)
  cases e : wh c B d with
  | some r => exact ((key r).mp e).symm
  | none =>
    symm
    rw [Option.eq_none_iff_forall_ne_some]
    intro r hr
    have := (key r).mpr hr
    rw [e] at this
    cases this
theorem ls_while {t : DT} (hp : PassesOwn (model X.prog X.w) X.A X.env X.xe) (hc : LT G X c t) (hb : LSs G X body B) : LS G X (.While c body [] pos) (wh t B) := by
  refine ps_weak (ps_while hp hc hb) fun D s H ⟨g, S, d, fl, d', z, e, q⟩ => ?_
  obtain ⟨n, e⟩ := wh_some e
  refine ⟨fun m s1 H1 => ∃ S1 d1, Same S S1 ∧ Zt G g S1 s1 H1 d1 ∧ whN t B m d1 = some (fl, d'), ⟨n, S, d, .refl _, z, e⟩, ?_⟩
  rintro m s1 H1 ⟨S1, d1, sm1, z1, e1⟩
  cases m with
  | zero => cases e1
  | succ m =>
    unfold whN at e1
    split at e1
    · cases e1
    · rename_i d2 e2
      cases e1
      refine ⟨g, S1, d1, false, _, z1, e2, fun H2 S2 sm2 z2 => iteF ?_⟩
      exact q s1 H2 S2 (sm1.trans sm2) z2
    · rename_i d2 e2
      refine ⟨g, S1, d1, true, d2, z1, e2, fun H2 S2 sm2 z2 => iteT ?_⟩
      refine ⟨fun s3 H3 => ∃ S3 d3, Same S S3 ∧ Zt G g S3 s3 H3 d3 ∧ whN t B m d3 = some (fl, d'), fun s3 H3 w => ⟨m, Nat.lt_succ_self _, w⟩, ?_⟩
      split at e1
      · rename_i d4 e4
        exact ⟨g, S2, d2, .nx, d4, z2, e4, fun s5 H5 S5 sm5 z5 => ⟨S5, d4, sm1.trans (sm2.trans sm5), z5, e1⟩⟩
      · rename_i d4 e4
        exact ⟨g, S2, d2, .ct, d4, z2, e4, fun s5 H5 S5 sm5 z5 => ⟨S5, d4, sm1.trans (sm2.trans sm5), z5, e1⟩⟩
      · rename_i d4 e4
        cases e1
        exact ⟨g, S2, d2, .bk, _, z2, e4, fun s5 H5 S5 sm5 z5 => q s5 H5 S5 (sm1.trans (sm2.trans sm5)) z5⟩
      · rename_i w h1 h2 h3
        refine ⟨g, S2, d2, fl, d', z2, e1, ?_⟩
        cases fl with
        | nx => exact absurd e1 (h1 _)
        | ct => exact absurd e1 (h2 _)
        | bk => exact absurd e1 (h3 _)
        | rt x => exact fun v6 s6 H6 S6 sm6 => q v6 s6 H6 S6 (sm1.trans (sm2.trans sm6))
        | rf x => exact fun v6 s6 H6 S6 sm6 => q v6 s6 H6 S6 (sm1.trans (sm2.trans sm6))

/-! ### comprehensions -/
/-- the block's own slots forgotten -/
def wp (d : Ev) : List Nat → Ev
  | [] => d
  | i :: is => (wp d is).set i .no
/-- .. and as they were ahead -/
def bk (own : List Nat) (d0 d : Ev) : Ev := own.foldr (fun i r => r.set i ((d0[i]?).getD .no)) d
/-- no own slot holds a changeable object -/
def okO (d : Ev) (own : List Nat) : Bool := own.all fun i => match d[i]? with
  | some x => !x.isO
  | none => false
def cl (own : List Nat) (t : DG) (c : DT) (f : DE) : List D → Ev → Option (List D × Ev)
  | [], d => some ([], d)
  | x :: xs, d => if okO d own then match t x (wp d own) with
      | none => none
      | some d1 => match c d1 with
        | none => none
        | some (false, d2) => if okO d2 own then cl own t c f xs (bk own d d2) else none
        | some (true, d2) => match f d2 with
          | none => none
          | some (y, d3) => if okO d3 own then match cl own t c f xs (bk own d d3) with
              | none => none
              | some (ys, d4) => some (y :: ys, d4)
            else none
    else none
def lc (own : List Nat) (fi : DA) (t : DG) (c : DT) (f : DE) : DE := fun d => match fi d with
  | some (xs, d1) => if xs.length ≤ sizeLine then match cl own t c f xs d1 with
      | some (ys, d2) => some (.lst ys, d2)
      | none => none
    else none
  | none => none
def yes : DT := fun d => some (true, d)

theorem wp_len (d : Ev) : ∀ is : List Nat, (wp d is).length = d.length
  | [] => rfl
  | i :: is => by unfold wp; rw [List.length_set, wp_len d is]
theorem bk_len (d0 d : Ev) : ∀ is : List Nat, (bk is d0 d).length = d.length
  | [] => rfl
  | i :: is => by unfold bk; simp only [List.foldr_cons, List.length_set]; exact bk_len d0 d is
theorem bk_get (d0 d : Ev) (h : d0.length = d.length) (j : Nat) : ∀ is : List Nat, (bk is d0 d)[j]? = if j ∈ is then d0[j]? else d[j]?
  | [] => by simp [bk]
  | i :: is => by
    have ih := bk_get d0 d h j is
    have e : bk (i :: is) d0 d = (bk is d0 d).set i ((d0[i]?).getD .no) := rfl
    rw [e]
    by_cases q : i = j
    · subst q
      rw [if_pos List.mem_cons_self]
      by_cases hl : i < d0.length
      · rw [List.getElem?_set_self (by rw [bk_len, ← h]; exact hl), List.getElem?_eq_getElem hl]; rfl
      · rw [List.getElem?_eq_none (by rw [List.length_set, bk_len, ← h]; omega), List.getElem?_eq_none (by omega)]
    · rw [List.getElem?_set_ne q, ih]
      have : (j ∈ i :: is) ↔ j ∈ is := by simp [List.mem_cons, Ne.symm q]
      by_cases m : j ∈ is
      · rw [if_pos m, if_pos (this.mpr m)]
      · rw [if_neg m, if_neg (fun w => m (this.mp w))]
theorem wp_get (d : Ev) (j : Nat) : ∀ is : List Nat, (wp d is)[j]? = if j ∈ is then (if j < d.length then some .no else none) else d[j]?
  | [] => by simp [wp]
  | i :: is => by
    have ih := wp_get d j is
    unfold wp
    by_cases q : i = j
    · subst q
      rw [if_pos List.mem_cons_self]
      by_cases hl : i < d.length
      · rw [List.getElem?_set_self (by rw [wp_len]; exact hl), if_pos hl]
      · rw [List.getElem?_eq_none (by rw [List.length_set, wp_len]; omega), if_neg hl]
    · rw [List.getElem?_set_ne q, ih]
      have : (j ∈ i :: is) ↔ j ∈ is := by simp [List.mem_cons, Ne.symm q]
      by_cases m : j ∈ is
      · rw [if_pos m, if_pos (this.mpr m)]
      · rw [if_neg m, if_neg (fun w => m (this.mp w))]
theorem wipe_get (s : St) (j : Nat) : ∀ is : List Nat, (wipe s is)[j]? = if j ∈ is then (if j < s.length then some none else none) else s[j]?
  | [] => by simp [wipe]
  | i :: is => by
    have ih := wipe_get s j is
    unfold wipe
    by_cases q : i = j
    · subst q
      rw [if_pos List.mem_cons_self]
      by_cases hl : i < s.length
      · rw [List.getElem?_set_self (by rw [wipe_length]; exact hl), if_pos hl]
      · rw [List.getElem?_eq_none (by rw [List.length_set, wipe_length]; omega), if_neg hl]
    · rw [List.getElem?_set_ne q, ih]
      have : (j ∈ i :: is) ↔ j ∈ is := by simp [List.mem_cons, Ne.symm q]
      by_cases m : j ∈ is
      · rw [if_pos m, if_pos (this.mpr m)]
      · rw [if_neg m, if_neg (fun w => m (this.mp w))]
theorem okO_at {d : Ev} {own : List Nat} (h : okO d own = true) {i : Nat} (hi : i ∈ own) : ∃ x, d[i]? = some x ∧ x.isO = false := by
  have q := List.all_eq_true.mp h i hi
  split at q
  · rename_i x e
    exact ⟨x, e, by simpa using q⟩
  · cases q
theorem OwnAt.out {d : Ev} {s : St} {own : List Nat} {i : Nat} {a : Addr} (h : okO d own = true) (o : OwnAt d s i a) : i ∉ own := fun hi => by
  obtain ⟨x, e, n⟩ := okO_at h hi
  obtain ⟨y, e1, e2, _⟩ := o
  rw [e] at e1
  cases e1
  rw [n] at e2
  cases e2
/-- into the block -/
theorem Zt.wipe {g : Gh} {S H : Hp} {s : St} {d : Ev} {own : List Nat} (z : Zt G g S s H d) (ho : okO d own = true) : Zt G g S (wipe s own) H (wp d own) where
  sh := z.sh
  bh := z.bh
  s0 := z.s0
  s1 := z.s1
  dm := z.dm
  ln := by rw [wipe_length, wp_len]; exact z.ln
  sl := fun i x e => by
    rw [wp_get] at e
    rw [wipe_get, z.ln]
    by_cases m : i ∈ own
    · rw [if_pos m] at e ⊢
      split at e
      · rename_i hl
        cases e
        exact ⟨_, if_pos hl, trivial⟩
      · cases e
    · rw [if_neg m] at e ⊢
      exact z.sl i x e
  ap := fun i j a hn h1 h2 => by
    have conv : ∀ {k}, OwnAt (wp d own) (L2.wipe s own) k a → OwnAt d s k a := fun {k} o => by
      obtain ⟨x, e1, e2, e3⟩ := o
      rw [wp_get] at e1
      rw [wipe_get] at e3
      by_cases m : k ∈ own
      · rw [if_pos m] at e1
        split at e1
        · cases e1; cases e2
        · cases e1
      · rw [if_neg m] at e1 e3
        exact ⟨x, e1, e2, e3⟩
    exact z.ap i j a hn (conv h1) (conv h2)
  ic := fun i a e => by
    obtain ⟨x, h1⟩ := z.ic i a e
    refine ⟨x, ?_⟩
    rw [wp_get]
    by_cases m : i ∈ own
    · obtain ⟨y, e1, e2⟩ := okO_at ho m
      rw [h1] at e1; cases e1; cases e2
    · rw [if_neg m]; exact h1
  tb := z.tb
/-- .. and out of it -/
theorem Zt.back {g : Gh} {S S1 H H1 : Hp} {s s1 : St} {d d1 : Ev} {own : List Nat} (z : Zt G g S s H d) (z1 : Zt G g S1 s1 H1 d1) (sm : Same S S1) (hs : s1.length = s.length) (hj : ∀ j, j ∉ own → s1[j]? = s[j]?)
    (ho : okO d own = true) (ho1 : okO d1 own = true) : Zt G g S1 s H1 (bk own d d1) where
  sh := z1.sh
  bh := z1.bh
  s0 := z1.s0
  s1 := z1.s1
  dm := z1.dm
  ln := by rw [bk_len, ← z1.ln, hs]
  sl := fun i x e => by
    rw [bk_get _ _ (by rw [← z.ln, ← z1.ln, hs])] at e
    by_cases m : i ∈ own
    · rw [if_pos m] at e
      obtain ⟨y, h1, h2⟩ := z.sl i x e
      refine ⟨y, h1, ?_⟩
      obtain ⟨x', e1, e2⟩ := okO_at ho m
      rw [e] at e1; cases e1
      cases x with
      | tb _ _ => exact h2
      | no => trivial
      | va w => obtain ⟨v, e3, r⟩ := h2; exact ⟨v, e3, r.mono sm⟩
      | ow _ => cases e2
      | io _ => cases e2
    · rw [if_neg m] at e
      obtain ⟨y, h1, h2⟩ := z1.sl i x e
      exact ⟨y, by rw [← hj i m]; exact h1, h2⟩
  ap := fun i j a hn h1 h2 => by
    have conv : ∀ {k}, OwnAt (bk own d d1) s k a → OwnAt d1 s1 k a := fun {k} o => by
      obtain ⟨x, e1, e2, e3⟩ := o
      rw [bk_get _ _ (by rw [← z.ln, ← z1.ln, hs])] at e1
      by_cases m : k ∈ own
      · rw [if_pos m] at e1
        obtain ⟨x', e4, e5⟩ := okO_at ho m
        rw [e1] at e4; cases e4
        rw [e2] at e5; cases e5
      · rw [if_neg m] at e1
        exact ⟨x, e1, e2, by rw [hj k m]; exact e3⟩
    exact z1.ap i j a hn (conv h1) (conv h2)
  ic := fun i a e => by
    obtain ⟨x, h1⟩ := z1.ic i a e
    refine ⟨x, ?_⟩
    rw [bk_get _ _ (by rw [← z.ln, ← z1.ln, hs])]
    by_cases m : i ∈ own
    · obtain ⟨y, e1, e2⟩ := okO_at ho1 m
      rw [h1] at e1; cases e1; cases e2
    · rw [if_neg m]; exact h1
  tb := z1.tb

/-- an object that nothing speaks of is guarded -/
def grd (g : Gh) (p : Addr) (o : HO) : Gh := { g with B := upd g.B p o, H0 := upd g.H0 p o }
theorem Zt.guard {g : Gh} {S H : Hp} {s : St} {d : Ev} {p : Addr} {o : HO} (z : Zt G g S s H d) (hp : H p = some o) (hs : S p = none) (ho : ∀ j, ¬ OwnAt d s j p) (nh : ¬ Hard o := by exact fun h => h) : Zt G (grd g p o) S s H d where
  sh := z.sh
  bh := fun b u e => by
    by_cases hb : b = p
    · subst hb
      have e : upd g.B b o b = some u := e
      rw [upd_same] at e
      rw [hp]; exact e
    · have e : upd g.B p o b = some u := e
      rw [upd_ne hb] at e
      exact z.bh b u e
  s0 := fun b u e => by
    rcases z.s0 b u e with r | r
    · exact .inl r
    · refine .inr ?_
      have hb : b ≠ p := fun w => by rw [w, hs] at e; cases e
      show upd g.H0 p o b = none
      rw [upd_ne hb]; exact r
  s1 := z.s1
  dm := fun b e => by
    have hb : b ≠ p := fun w => by rw [w, hp] at e; cases e
    show upd g.H0 p o b = none
    rw [upd_ne hb]; exact z.dm b e
  ln := z.ln
  sl := fun i x e => by
    obtain ⟨y, h1, h2⟩ := z.sl i x e
    refine ⟨y, h1, ?_⟩
    cases x with
    | tb _ _ => exact h2
    | no => trivial
    | va w => exact h2
    | ow w =>
      obtain ⟨a, e1, c, h3, h4, h5⟩ := h2
      have ha : a ≠ p := fun w' => ho i ⟨_, e, rfl, by rw [h1, e1, w']⟩
      exact ⟨a, e1, c, h3, by show upd g.B p o a = none; rw [upd_ne ha]; exact h4, by show upd g.H0 p o a = none; rw [upd_ne ha]; exact h5⟩
    | io w =>
      obtain ⟨a, e1, e2, c, h3, h4, u, h5⟩ := h2
      have ha : a ≠ p := fun w' => ho i ⟨_, e, rfl, by rw [h1, e1, w']⟩
      exact ⟨a, e1, e2, c, h3, by show upd g.B p o a = none; rw [upd_ne ha]; exact h4, u, by show upd g.H0 p o a = some u; rw [upd_ne ha]; exact h5⟩
  ap := z.ap
  ic := z.ic
  tb := fun q hq => by
    obtain ⟨t1, t2, t3, t4⟩ := z.tb q hq
    have hne := z.tb.ne hq hp nh
    exact ⟨t1, t2, by show upd g.B p o q.1 = none; rw [upd_ne hne]; exact t3, by show ∃ u, upd g.H0 p o q.1 = some u; rw [upd_ne hne]; exact t4⟩
theorem Zt.unguard {g : Gh} {S H : Hp} {s : St} {d : Ev} {p : Addr} {o : HO} (z : Zt G (grd g p o) S s H d) (hb : g.B p = none) (h0 : g.H0 p = none) (hs0 : g.S0 p = none) :
    Zt G g S s H d ∧ H p = some o ∧ S p = none ∧ ∀ j, ¬ OwnAt d s j p := by
  have bB : ∀ a, upd g.B p o a = none → a ≠ p ∧ g.B a = none := fun a e => by
    have ha : a ≠ p := fun w => by rw [w, upd_same] at e; cases e
    rw [upd_ne ha] at e
    exact ⟨ha, e⟩
  refine ⟨⟨z.sh, fun b u e => ?_, fun b u e => ?_, z.s1, fun b e => ?_, z.ln, fun i x e => ?_, z.ap, z.ic, fun q hq => ?_⟩, ?_, ?_, ?_⟩
  · have hne : b ≠ p := fun w => by rw [w, hb] at e; cases e
    exact z.bh b u (by show upd g.B p o b = some u; rw [upd_ne hne]; exact e)
  · rcases z.s0 b u e with r | r
    · exact .inl r
    · have r : upd g.H0 p o b = none := r
      have hne : b ≠ p := fun w => by rw [w, upd_same] at r; cases r
      rw [upd_ne hne] at r
      exact .inr r
  · have r : upd g.H0 p o b = none := z.dm b e
    have hne : b ≠ p := fun w => by rw [w, upd_same] at r; cases r
    rw [upd_ne hne] at r
    exact r
  · obtain ⟨y, h1, h2⟩ := z.sl i x e
    refine ⟨y, h1, ?_⟩
    cases x with
    | tb _ _ => exact h2
    | no => trivial
    | va w => exact h2
    | ow w =>
      obtain ⟨a, e1, c, h3, h4, h5⟩ := h2
      obtain ⟨ha, h4'⟩ := bB a h4
      have h5 : upd g.H0 p o a = none := h5
      rw [upd_ne ha] at h5
      exact ⟨a, e1, c, h3, h4', h5⟩
    | io w =>
      obtain ⟨a, e1, e2, c, h3, h4, u, h5⟩ := h2
      obtain ⟨ha, h4'⟩ := bB a h4
      have h5 : upd g.H0 p o a = some u := h5
      rw [upd_ne ha] at h5
      exact ⟨a, e1, e2, c, h3, h4', u, h5⟩
  · obtain ⟨t1, t2, t3, t4⟩ := z.tb q hq
    have t3 : upd g.B p o q.1 = none := t3
    have hne : q.1 ≠ p := fun w => by rw [w, upd_same] at t3; cases t3
    rw [upd_ne hne] at t3
    obtain ⟨u, t4⟩ := t4
    have t4 : upd g.H0 p o q.1 = some u := t4
    rw [upd_ne hne] at t4
    exact ⟨t1, t2, t3, u, t4⟩
  · exact z.bh p o upd_same
  · cases q : S p with
    | none => rfl
    | some u =>
      rcases z.s0 p u q with r | r
      · have r : g.S0 p = some u := r
        rw [hs0] at r; cases r
      · have r : upd g.H0 p o p = none := r
        rw [upd_same] at r; cases r
  · intro j o'
    obtain ⟨_, _, r⟩ := z.ownAddr o'
    exact (bB p r).1 rfl
theorem sm_wipe {ts own : List Nat} {s s2 : St} (h : Sm ts (wipe s own) s2) (hts : ∀ i ∈ ts, i ∈ own) : wipe s2 own = wipe s own := by
  refine List.ext_getElem? fun j => ?_
  rw [wipe_get, wipe_get]
  have hl := h.1
  rw [wipe_length] at hl
  by_cases m : j ∈ own
  · rw [if_pos m, if_pos m, hl]
  · rw [if_neg m, if_neg m, h.2 j fun w => m (hts j w), wipe_get, if_neg m]
theorem lift_lc {c : DT} {own : List Nat} {s : St} {H : Hp} {Q : VK} (hts : ∀ i ∈ ts, i ∈ own) (q : liftF G (lc own fa t c f) s H Q) : tLc (liftI G fa) (liftG G t ts) (liftT G c) (liftE G f) own s H Q := by
  obtain ⟨g, S, d, x, d', z, e, q⟩ := q
  unfold lc at e
  split at e
  · rename_i xs d1 e1
    split at e
    · rename_i hsz
      split at e
      · rename_i ys d2 e2
        cases e
        refine ⟨g, S, d, xs, d1, z, e1, fun J H1 S1 sm1 z1 it D hD => ?_⟩
        obtain ⟨z2, n1, n2, n3, n4⟩ := z1.fresh (o := .lst []) hD
        have nS0 : g.S0 D = none := z1.s1.free n1
        refine ⟨fun i m H2 => m = xs.length - i ∧ i ≤ xs.length ∧ ∃ S2 d3 vs ws us, Same S1 S2 ∧ Zt G g S2 s H2 d3 ∧ H2 D = some (.lst vs) ∧ RepL G S2 ws vs ∧ ws.length ≤ i ∧ S2 D = none ∧ (∀ j, ¬ OwnAt d3 s j D) ∧ cl own t c f (xs.drop i) d3 = some (us, d') ∧ ys = ws ++ us,
          ⟨xs.length, rfl, Nat.zero_le _, S1, d1, [], [], ys, .refl _, z2, upd_same, .nil, Nat.le_refl _, n1, n4, e2, rfl⟩, ?_⟩
        rintro i m H2 ⟨rfl, hle, S2, d3, vs, ws, us, sm2, z3, hv, rw1, hws, hs2, ho2, e3, ey⟩
        by_cases hlt : i < xs.length
        · rw [drop_cons hlt] at e3
          unfold cl at e3
          split at e3
          · rename_i okd
            refine .inr ⟨it.go i S2 H2 sm2 z3.sh hlt, _, fun H3 w => ⟨xs.length - (i + 1), by omega, rfl, w⟩, fun v H3 y => ?_⟩
            obtain ⟨S3, ex, r⟩ := it.yld i S2 H2 v H3 xs[i] sm2 z3.sh (List.getElem?_eq_getElem hlt) y
            have z4 := z3.ext ex
            have hv3 : H3 D = some (.lst vs) := ex.h _ _ hv
            have hs3 : S3 D = none := by
              cases q' : S3 D with
              | none => rfl
              | some u =>
                rcases ex.new D u q' with w | w
                · rw [hs2] at w; cases w
                · rw [hv] at w; cases w
            have z5 := (z4.guard hv3 hs3 ho2)
            have z6 := z5.wipe okd
            split at e3
            · cases e3
            · rename_i d4 e4
              refine ⟨grd g D (.lst vs), S3, wp d3 own, _, d4, z6, r, e4, fun s4 H4 S4 sm4 w4 z7 => ⟨sm_wipe w4 hts, ?_⟩⟩
              have fin : ∀ {S5 H5 d5}, Same S4 S5 → Zt G (grd g D (.lst vs)) S5 s4 H5 d5 → okO d5 own = true → Zt G g S5 s H5 (bk own d3 d5) ∧ H5 D = some (.lst vs) ∧ S5 D = none ∧ ∀ j, ¬ OwnAt (bk own d3 d5) s j D := fun {S5 H5 d5} sm5 z8 ok5 => by
                have zb := z5.back (s1 := s4) z8 (sm4.trans sm5) (by rw [w4.1, wipe_length]) (fun j hj => by rw [w4.2 j fun w => hj (hts j w), wipe_get, if_neg hj]) okd ok5
                exact zb.unguard n2 n3 nS0
              split at e3
              · cases e3
              · rename_i d5 e5
                split at e3
                · rename_i ok5
                  refine ⟨grd g D (.lst vs), S4, d4, false, d5, z7, e5, fun H5 S5 sm5 z8 => iteF ?_⟩
                  obtain ⟨z9, k1, k2, k3⟩ := fin sm5 z8 ok5
                  have smA : Same S2 S5 := ex.s.trans (sm4.trans sm5)
                  exact ⟨hlt, S5, _, vs, ws, us, sm2.trans smA, z9, k1, rw1.mono smA, Nat.le_succ_of_le hws, k2, k3, e3, ey⟩
                · cases e3
              · rename_i d5 e5
                split at e3
                · cases e3
                · rename_i y' d6 e6
                  split at e3
                  · rename_i ok6
                    split at e3
                    · cases e3
                    · rename_i ys' d7 e7
                      cases e3
                      refine ⟨grd g D (.lst vs), S4, d4, true, d5, z7, e5, fun H5 S5 sm5 z8 => iteT ?_⟩
                      refine ⟨grd g D (.lst vs), S5, d5, y', d6, z8, e6, fun v6 H6 S6 sm6 z9 r6 => ?_⟩
                      obtain ⟨zA, k1, k2, k3⟩ := fin (sm5.trans sm6) z9 ok6
                      have smA : Same S2 S6 := ex.s.trans (sm4.trans (sm5.trans sm6))
                      have lv : vs.length = ws.length := rw1.length.symm
                      refine ⟨vs, k1, by omega, hlt, S6, _, vs ++ [v6], ws ++ [y'], ys', sm2.trans smA, zA.poke ⟨_, k1, id⟩ k2 n2 k3, upd_same, (rw1.mono smA).append (.cons r6 .nil), by rw [List.length_append]; show ws.length + 1 ≤ i + 1; omega, k2, k3, e7, by rw [ey, List.append_assoc]; rfl⟩
                  · cases e3
          · cases e3
        · have ei : i = xs.length := by omega
          subst ei
          rw [List.drop_length] at e3
          cases e3
          rw [List.append_nil] at ey
          subst ey
          exact .inl ⟨it.stop S2 H2 sm2 z3.sh, q D H2 S2 (sm1.trans sm2) z3 ⟨vs, hv, rw1⟩ hs2 n2 n3 ho2⟩
      · cases e
    · cases e
  · cases e
section
variable {scope : Scope} {own : List (Str × Nat)} {c : DT} {ifs : List Expr} {elt : Expr}
theorem lf_lc (hc : X.calm = true) (hN : X.N.Nodup) (hi : LI G X tg iter fa) (ok : BlkOk X.N X.env.scope scope own)
    (hg : ∀ (s : Shared) (H : Hp) (C : Addr) (cl : List (Str × Addr)) (fp : List Addr), LG G (X.blk s H scope (compEnvC scope cl C X.env) fp) tg t ts) (ht : ∀ (s : Shared) (H : Hp) (C : Addr) (cl : List (Str × Addr)) (fp : List Addr), PTs (X.blk s H scope (compEnvC scope cl C X.env) fp) ifs (liftT G c))
    (he : ∀ (s : Shared) (H : Hp) (C : Addr) (cl : List (Str × Addr)) (fp : List Addr), LE G (X.blk s H scope (compEnvC scope cl C X.env) fp) elt f) (hts : ∀ i ∈ ts, i ∈ own.map (·.2) := by decide) (hs : ∀ x, foldedSetIterable iter X.env x = pure x := by intro _; rfl) :
    LF G X (.ListComp elt [⟨tg, iter, ifs, 0⟩] scope pos) (lc (own.map (·.2)) fa t c f) := pe_weak (pe_lc hc hN hi ok hg ht he hs) fun _ _ _ => lift_lc hts
theorem lts_nil : PTs X [] (liftT G yes) := ⟨fun pins s σ H Q I ⟨g, S, d, x, d', z, e, q⟩ => pts_nil.run pins s σ H Q I (by cases e; exact q H S (.refl _) z)⟩
theorem lts_one {e : Expr} (h : LT G X e c) : PTs X [e] (liftT G c) := pts_one h
/-- name = [..] on one line -/
theorem ls_setLc {i : Nat} {y : Str} {py spos : Pos} (hc : X.calm = true) (hN : X.N.Nodup) (hy : X.N[i]? = some y) (hyl : X.env.scope.names.lookup y = some .local)
    (hsw : swapsWith (.ListComp elt [⟨tg, iter, ifs, 0⟩] scope pos) (some (.Name y py)) spos.line X.env = pure true) (hi : LI G X tg iter fa) (ok : BlkOk X.N X.env.scope scope own)
    (hg : ∀ (s : Shared) (H : Hp) (C : Addr) (cl : List (Str × Addr)) (fp : List Addr), LG G (X.blk s H scope (compEnvC scope cl C X.env) fp) tg t ts) (ht : ∀ (s : Shared) (H : Hp) (C : Addr) (cl : List (Str × Addr)) (fp : List Addr), PTs (X.blk s H scope (compEnvC scope cl C X.env) fp) ifs (liftT G c))
    (he : ∀ (s : Shared) (H : Hp) (C : Addr) (cl : List (Str × Addr)) (fp : List Addr), LE G (X.blk s H scope (compEnvC scope cl C X.env) fp) elt f) (hts : ∀ i ∈ ts, i ∈ own.map (·.2) := by decide) (hs : ∀ x, foldedSetIterable iter X.env x = pure x := by intro _; rfl) :
    LS G X (.Assign [.Name y py] (.ListComp elt [⟨tg, iter, ifs, 0⟩] scope pos) spos) (sa (lc (own.map (·.2)) fa t c f) (gn i)) := ps_weak (ps_setLc hc hN hy hyl hsw hi ok hg ht he hs) fun D s H q => by
  refine lift_lc hts ?_
  obtain ⟨g, S, d, x, d', z, e, q⟩ := lift_sa (ts := [i]) q
  have hx : isDc x = false := by
    unfold lc at e
    split at e
    · split at e
      · split at e <;> (cases e <;> rfl)
      · cases e
    · cases e
  refine ⟨g, S, d, x, d', z, e, fun a H' S' sm z' ct h1 h2 h3 h4 => ?_⟩
  obtain ⟨o, ha, _⟩ := ct.has
  obtain ⟨z2, sm2⟩ := z'.keep ha h1 h3 h4
  exact gName_of (q _ _ _ (sm.trans sm2) z2 (ct.rep ha upd_same sm2 hx))
theorem ls_ownLc {i : Nat} {y : Str} {py spos : Pos} (hc : X.calm = true) (hN : X.N.Nodup) (hy : X.N[i]? = some y) (hyl : X.env.scope.names.lookup y = some .local)
    (hsw : swapsWith (.ListComp elt [⟨tg, iter, ifs, 0⟩] scope pos) (some (.Name y py)) spos.line X.env = pure true) (hi : LI G X tg iter fa) (ok : BlkOk X.N X.env.scope scope own)
    (hg : ∀ (s : Shared) (H : Hp) (C : Addr) (cl : List (Str × Addr)) (fp : List Addr), LG G (X.blk s H scope (compEnvC scope cl C X.env) fp) tg t ts) (ht : ∀ (s : Shared) (H : Hp) (C : Addr) (cl : List (Str × Addr)) (fp : List Addr), PTs (X.blk s H scope (compEnvC scope cl C X.env) fp) ifs (liftT G c))
    (he : ∀ (s : Shared) (H : Hp) (C : Addr) (cl : List (Str × Addr)) (fp : List Addr), LE G (X.blk s H scope (compEnvC scope cl C X.env) fp) elt f) (hts : ∀ i ∈ ts, i ∈ own.map (·.2) := by decide) (hs : ∀ x, foldedSetIterable iter X.env x = pure x := by intro _; rfl) :
    LS G X (.Assign [.Name y py] (.ListComp elt [⟨tg, iter, ifs, 0⟩] scope pos) spos) (so i (lc (own.map (·.2)) fa t c f)) := ps_weak (ps_setLc hc hN hy hyl hsw hi ok hg ht he hs) fun D s H q => by
  refine lift_lc hts ?_
  obtain ⟨g, S, d, fl, d', z, e, q⟩ := q
  unfold so at e
  split at e
  · rename_i x d1 e1
    split at e
    · rename_i hi
      cases e
      refine ⟨g, S, d, x, d1, z, e1, fun a H' S' sm z' ct h1 h2 h3 h4 => ?_⟩
      exact q _ H' S' sm (z'.set hi ⟨a, rfl, ct, h1, h2, h3⟩ (fun _ q => nomatch q) fun b _ eb j => by cases eb; exact h4 j)
    · cases e
  · cases e
end
end
end Zr

/-! Zr: defs, calls, instances. -/
namespace Zr
open PySem L2

/-- a def's meaning: the parameters' slots in, the value and these slots out -/
abbrev FD := Ev → Option (D × Ev)
def spD (G : Cls) (n : Nat) (F : FD) : Sp := fun vs H Q _ => vs.length = n ∧ ∃ g S d x d', Zt G g S (vs.map some) H d ∧ F d = some (x, d') ∧ ∀ v H' S', Same S S' → Zt G g S' (vs.map some) H' d' → Rep G S' x v → Q v H'
/-- .. that hands back a new object of one's own -/
def spF (G : Cls) (n : Nat) (F : FD) : Sp := fun vs H Q _ => vs.length = n ∧ ∃ g S d x d', Zt G g S (vs.map some) H d ∧ F d = some (x, d') ∧
  ∀ a H' S', Same S S' → Zt G g S' (vs.map some) H' d' → Cont G S' H' a x → S' a = none → g.B a = none → g.H0 a = none → Q (.ref a) H'
def outs : Nat → Ev → Ev
  | 0, _ => []
  | n + 1, [] => .no :: outs n []
  | n + 1, .io y :: r => .io y :: outs n r
  | n + 1, _ :: r => .no :: outs n r
theorem outs_len : ∀ (n : Nat) (d : Ev), (outs n d).length = n
  | 0, _ => rfl
  | n + 1, [] => by simp [outs, outs_len n []]
  | n + 1, .io y :: r => by simp [outs, outs_len n r]
  | n + 1, .no :: r => by simp [outs, outs_len n r]
  | n + 1, .va _ :: r => by simp [outs, outs_len n r]
  | n + 1, .ow _ :: r => by simp [outs, outs_len n r]
  | n + 1, .tb _ _ :: r => by simp [outs, outs_len n r]
theorem outs_io : ∀ {n : Nat} {d : Ev} {i : Nat} {x : Sl}, (outs n d)[i]? = some x → i < n ∧ ((∃ y, x = .io y ∧ d[i]? = some (.io y)) ∨ x = .no)
  | 0, _, _, _, h => by simp [outs] at h
  | n + 1, [], 0, _, h => by simp [outs] at h; exact ⟨Nat.succ_pos _, .inr h.symm⟩
  | n + 1, .io y :: r, 0, _, h => by simp [outs] at h; exact ⟨Nat.succ_pos _, .inl ⟨y, h.symm, rfl⟩⟩
  | n + 1, .no :: r, 0, _, h => by simp [outs] at h; exact ⟨Nat.succ_pos _, .inr h.symm⟩
  | n + 1, .va _ :: r, 0, _, h => by simp [outs] at h; exact ⟨Nat.succ_pos _, .inr h.symm⟩
  | n + 1, .ow _ :: r, 0, _, h => by simp [outs] at h; exact ⟨Nat.succ_pos _, .inr h.symm⟩
  | n + 1, .tb _ _ :: r, 0, _, h => by simp [outs] at h; exact ⟨Nat.succ_pos _, .inr h.symm⟩
  | n + 1, [], i + 1, x, h => by
    have q := outs_io (n := n) (d := []) (i := i) (x := x) (by simpa [outs] using h)
    exact ⟨Nat.succ_lt_succ q.1, by simpa using q.2⟩
  | n + 1, .io y :: r, i + 1, x, h => by
    have q := outs_io (n := n) (d := r) (i := i) (x := x) (by simpa [outs] using h)
    exact ⟨Nat.succ_lt_succ q.1, by simpa using q.2⟩
  | n + 1, .no :: r, i + 1, x, h => by
    have q := outs_io (n := n) (d := r) (i := i) (x := x) (by simpa [outs] using h)
    exact ⟨Nat.succ_lt_succ q.1, by simpa using q.2⟩
  | n + 1, .va _ :: r, i + 1, x, h => by
    have q := outs_io (n := n) (d := r) (i := i) (x := x) (by simpa [outs] using h)
    exact ⟨Nat.succ_lt_succ q.1, by simpa using q.2⟩
  | n + 1, .ow _ :: r, i + 1, x, h => by
    have q := outs_io (n := n) (d := r) (i := i) (x := x) (by simpa [outs] using h)
    exact ⟨Nat.succ_lt_succ q.1, by simpa using q.2⟩
  | n + 1, .tb _ _ :: r, i + 1, x, h => by
    have q := outs_io (n := n) (d := r) (i := i) (x := x) (by simpa [outs] using h)
    exact ⟨Nat.succ_lt_succ q.1, by simpa using q.2⟩
theorem outs_at : ∀ {n : Nat} {d : Ev} {i : Nat} {y : D}, i < n → d[i]? = some (.io y) → (outs n d)[i]? = some (.io y)
  | n + 1, .io y :: r, 0, _, _, h => by simp at h; simp [outs, h]
  | n + 1, .no :: r, 0, _, _, h => by simp at h
  | n + 1, .va _ :: r, 0, _, _, h => by simp at h
  | n + 1, .ow _ :: r, 0, _, _, h => by simp at h
  | n + 1, .tb _ _ :: r, 0, _, _, h => by simp at h
  | n + 1, .io _ :: r, i + 1, y, hl, h => by simpa [outs] using outs_at (n := n) (d := r) (i := i) (y := y) (Nat.lt_of_succ_lt_succ hl) (by simpa using h)
  | n + 1, .no :: r, i + 1, y, hl, h => by simpa [outs] using outs_at (n := n) (d := r) (i := i) (y := y) (Nat.lt_of_succ_lt_succ hl) (by simpa using h)
  | n + 1, .va _ :: r, i + 1, y, hl, h => by simpa [outs] using outs_at (n := n) (d := r) (i := i) (y := y) (Nat.lt_of_succ_lt_succ hl) (by simpa using h)
  | n + 1, .ow _ :: r, i + 1, y, hl, h => by simpa [outs] using outs_at (n := n) (d := r) (i := i) (y := y) (Nat.lt_of_succ_lt_succ hl) (by simpa using h)
  | n + 1, .tb _ _ :: r, i + 1, y, hl, h => by simpa [outs] using outs_at (n := n) (d := r) (i := i) (y := y) (Nat.lt_of_succ_lt_succ hl) (by simpa using h)
  | 0, _, _, _, hl, _ => by omega
  | _ + 1, [], _, _, _, h => by simp at h
def fnD (n m : Nat) (B : DS) : FD := fun d => if d.length = n then match B (d ++ List.replicate m .no) with
  | some (.rt x, d') => some (x, outs n d')
  | some (.nx, d') => some (.non, outs n d')
  | _ => none
  else none
def fnF (n m : Nat) (B : DS) : FD := fun d => if d.length = n then match B (d ++ List.replicate m .no) with
  | some (.rf x, d') => some (x, outs n d')
  | _ => none
  else none

section
variable {G : Cls} {g : Gh} {S S' H H' : Hp} {d d' : Ev} {vs : List V} {N : List Str}
theorem Zt.pad {m : Nat} (z : Zt G g S (vs.map some) H d) (hm : m = N.length - vs.length) : Zt G g S (L2.start N vs) H (d ++ List.replicate m .no) := by
  have hl : vs.length = d.length := by simpa using z.ln
  unfold L2.start
  refine ⟨z.sh, z.bh, z.s0, z.s1, z.dm, by simp [hl, hm], fun i x e => ?_, fun i j a hn h1 h2 => ?_, fun i a e => ?_, z.tb⟩
  · by_cases hi : i < d.length
    · rw [List.getElem?_append_left hi] at e
      obtain ⟨y, h1, h2⟩ := z.sl i x e
      exact ⟨y, by rw [List.getElem?_append_left (by simpa [hl] using hi)]; exact h1, h2⟩
    · rw [List.getElem?_append_right (by omega), List.getElem?_replicate] at e
      split at e
      · rename_i h
        cases e
        exact ⟨none, by rw [List.getElem?_append_right (by simp; omega), List.getElem?_replicate]; simp; omega, trivial⟩
      · cases e
  · have conv : ∀ {k}, OwnAt (d ++ List.replicate m .no) (vs.map some ++ List.replicate (N.length - vs.length) none) k a → OwnAt d (vs.map some) k a := fun {k} o => by
      obtain ⟨x, e1, e2, e3⟩ := o
      by_cases hi : k < d.length
      · rw [List.getElem?_append_left hi] at e1
        rw [List.getElem?_append_left (by simpa [hl] using hi)] at e3
        exact ⟨x, e1, e2, e3⟩
      · rw [List.getElem?_append_right (by omega), List.getElem?_replicate] at e1
        split at e1
        · cases e1; cases e2
        · cases e1
    exact z.ap i j a hn (conv h1) (conv h2)
  · obtain ⟨x, h1⟩ := z.ic i a e
    have hi : i < d.length := (List.getElem?_eq_some_iff.mp h1).1
    exact ⟨x, by rw [List.getElem?_append_left hi]; exact h1⟩
theorem Zt.outs {s' : St} {S0 H0 : Hp} (z : Zt G g S0 (vs.map some) H0 d) (z' : Zt G g S s' H d') : Zt G g S (vs.map some) H (Zr.outs d.length d') where
  sh := z'.sh
  bh := z'.bh
  s0 := z'.s0
  s1 := z'.s1
  dm := z'.dm
  ln := by rw [outs_len, z.ln]
  sl := fun i x e => by
    obtain ⟨hi, h⟩ := outs_io e
    obtain ⟨w, hw⟩ : ∃ w, (vs.map some)[i]? = some w := by
      have : i < (vs.map some).length := by rw [z.ln]; exact hi
      exact ⟨_, List.getElem?_eq_getElem this⟩
    refine ⟨w, hw, ?_⟩
    rcases h with ⟨y, rfl, ey⟩ | rfl
    · obtain ⟨u, h1, a, rfl, h2, h3, h4, h5, h6⟩ := z'.sl i _ ey
      obtain ⟨x0, h7⟩ := z.ic i a h2
      obtain ⟨u', h8, a', rfl, h9, _⟩ := z.sl i _ h7
      rw [h2] at h9
      cases h9
      rw [hw] at h8
      cases h8
      exact ⟨a, rfl, h2, h3, h4, h5, h6⟩
    · trivial
  ap := fun i j a hn h1 h2 => by
    have conv : ∀ {k}, OwnAt (Zr.outs d.length d') (vs.map some) k a → OwnAt d' s' k a := fun {k} o => by
      obtain ⟨x, e1, e2, e3⟩ := o
      obtain ⟨hi, h⟩ := outs_io e1
      rcases h with ⟨y, rfl, ey⟩ | rfl
      · obtain ⟨u, q1, b, rfl, q2, _⟩ := z'.sl k _ ey
        obtain ⟨x0, h7⟩ := z.ic k b q2
        obtain ⟨u', h8, a', rfl, h9, _⟩ := z.sl k _ h7
        rw [q2] at h9
        cases h9
        rw [e3] at h8
        cases h8
        exact ⟨_, ey, rfl, q1⟩
      · cases e2
    exact z'.ap i j a hn (conv h1) (conv h2)
  ic := fun i a e => by
    obtain ⟨x0, h7⟩ := z.ic i a e
    have hi : i < d.length := (List.getElem?_eq_some_iff.mp h7).1
    obtain ⟨y, ey⟩ := z'.ic i a e
    exact ⟨y, outs_at hi ey⟩
  tb := z'.tb

variable {P : Program} {w : World} {K : PySem.W.Frag} {mg : Str → Option Value} {base : Heap} {x qual : Str} {st : Stmt} {f : Addr} {fd : FuncData} {ps : List Str} {k m n : Nat} {B : DS}
theorem fn_ok (F : Fun K x qual st f fd) (Sc : FnScope N ps (defScope st)) (hn : n = ps.length) (hm : m = N.length - n)
    (hb : ∀ (cdv : Value) (A : Around) (outer : List Env) (s : Shared) (H : Hp) (E : XK), Room k (A.deeper (PyProof.Rows.envOfC qual (defScope st) s.heap.objs.size f cdv)) → LSs G (cxOf CX0 P w K mg base N qual (defScope st) f cdv A outer s H E).nox (defBody st) B) :
    FnOk P w K mg base CX0 (k + 1) f fd ps (spD G n (fnD n m B)) := by
  refine F.ok Sc (fun vs H Q E h => h.1.trans hn) fun cdv A outer s H vs Q E hr h => ?_
  obtain ⟨hl, g, S, d, x, d', z, e, q⟩ := h
  refine ⟨_, hb cdv A outer s H E hr, ?_⟩
  have hd : d.length = n := by rw [← hl, ← z.ln, List.length_map]
  unfold fnD at e
  rw [if_pos hd] at e
  have z1 := z.pad (N := N) (m := m) (by rw [hm, hl])
  split at e
  · rename_i y d2 e2
    cases e
    rw [← hd] at q
    exact ⟨g, S, _, _, d2, z1, e2, fun v s' H' S' sm z' r => q v H' S' sm (z.outs z') r⟩
  · rename_i d2 e2
    cases e
    rw [← hd] at q
    exact ⟨g, S, _, _, d2, z1, e2, fun s' H' S' sm z' => q _ H' S' sm (z.outs z') rep_non⟩
  · cases e
theorem fn_okF (F : Fun K x qual st f fd) (Sc : FnScope N ps (defScope st)) (hn : n = ps.length) (hm : m = N.length - n)
    (hb : ∀ (cdv : Value) (A : Around) (outer : List Env) (s : Shared) (H : Hp) (E : XK), Room k (A.deeper (PyProof.Rows.envOfC qual (defScope st) s.heap.objs.size f cdv)) → LSs G (cxOf CX0 P w K mg base N qual (defScope st) f cdv A outer s H E).nox (defBody st) B) :
    FnOk P w K mg base CX0 (k + 1) f fd ps (spF G n (fnF n m B)) := by
  refine F.ok Sc (fun vs H Q E h => h.1.trans hn) fun cdv A outer s H vs Q E hr h => ?_
  obtain ⟨hl, g, S, d, x, d', z, e, q⟩ := h
  refine ⟨_, hb cdv A outer s H E hr, ?_⟩
  have hd : d.length = n := by rw [← hl, ← z.ln, List.length_map]
  unfold fnF at e
  rw [if_pos hd] at e
  have z1 := z.pad (N := N) (m := m) (by rw [hm, hl])
  split at e
  · rename_i y d2 e2
    cases e
    rw [← hd] at q
    exact ⟨g, S, _, _, d2, z1, e2, fun a s' H' S' sm z' => q a H' S' sm (z.outs z')⟩
  · cases e
end

/-! ### arguments: values, and slots that are handed in to be changed -/
inductive Ar where
  | va (x : D)
  | io (i : Nat)
abbrev DB := Ev → Option (List Ar × Ev)
def ArOk (G : Cls) (S : Hp) (s : St) (v : V) : Ar → Prop
  | .va x => Rep G S x v
  | .io i => s[i]? = some (some v)
def ArL (G : Cls) (S : Hp) (s : St) : List Ar → List V → Prop
  | [], vs => vs = []
  | x :: xs, vs => ∃ v r, vs = v :: r ∧ ArOk G S s v x ∧ ArL G S s xs r
theorem ArOk.mono {G : Cls} {S S' : Hp} {s : St} {v : V} (e : Same S S') : ∀ {x : Ar}, ArOk G S s v x → ArOk G S' s v x
  | .va _, h => Rep.mono e h
  | .io _, h => h
theorem ArL.mono {G : Cls} {S S' : Hp} {s : St} (e : Same S S') : ∀ {xs : List Ar} {vs : List V}, ArL G S s xs vs → ArL G S' s xs vs
  | [], _, h => h
  | _ :: _, _, ⟨v, r, h1, h2, h3⟩ => ⟨v, r, h1, h2.mono e, ArL.mono e h3⟩
theorem ArL.length {G : Cls} {S : Hp} {s : St} : ∀ {xs : List Ar} {vs : List V}, ArL G S s xs vs → xs.length = vs.length
  | [], _, h => by cases h; rfl
  | _ :: _, _, ⟨v, r, h1, h2, h3⟩ => by subst h1; simp [ArL.length h3]
theorem ArL.get {G : Cls} {S : Hp} {s : St} : ∀ {xs : List Ar} {vs : List V} {i : Nat} {x : Ar}, ArL G S s xs vs → xs[i]? = some x → ∃ v, vs[i]? = some v ∧ ArOk G S s v x
  | [], _, _, _, _, e => by simp at e
  | _ :: _, _, 0, _, ⟨v, r, h1, h2, h3⟩, e => by subst h1; simp at e; subst e; exact ⟨v, rfl, h2⟩
  | _ :: _, _, i + 1, _, ⟨v, r, h1, h2, h3⟩, e => by
    subst h1
    obtain ⟨v', e', h'⟩ := ArL.get (i := i) h3 (by simpa using e)
    exact ⟨v', by simpa using e', h'⟩
theorem ArL.ofRep {G : Cls} {S : Hp} {s : St} : ∀ {ds : List D} {vs : List V}, RepL G S ds vs → ArL G S s (ds.map Ar.va) vs
  | [], _, h => by unfold RepL at h; exact h
  | _ :: _, _, h => by
    unfold RepL at h
    obtain ⟨v, r, h1, h2, h3⟩ := h
    exact ⟨v, r, h1, h2, ArL.ofRep h3⟩
theorem ArL.append {G : Cls} {S : Hp} {s : St} : ∀ {xs ys : List Ar} {vs us : List V}, ArL G S s xs vs → ArL G S s ys us → ArL G S s (xs ++ ys) (vs ++ us)
  | [], _, _, _, h, t => by cases h; exact t
  | _ :: _, _, _, _, ⟨v, r, h1, h2, h3⟩, t => by subst h1; exact ⟨v, _, rfl, h2, ArL.append h3 t⟩
def liftB (G : Cls) (f : DB) : TA := fun s H Q => ∃ g S d xs d', Zt G g S s H d ∧ f d = some (xs, d') ∧ ∀ vs H' S', Same S S' → Zt G g S' s H' d' → ArL G S' s xs vs → Q vs H'
abbrev LB (G : Cls) (X : Cx) (e : List Expr) (f : DB) : Prop := PA X e (liftB G f)

/-- the callee's slots -/
def argsD : List Ar → Ev → Option Ev
  | [], _ => some []
  | .va x :: r, d => match argsD r d with
    | some t => some (.va x :: t)
    | none => none
  | .io i :: r, d => match argsD r d with
    | some t => match d[i]? with
      | some (.ow y) => some (.io y :: t)
      | some (.io y) => some (.io y :: t)
      | _ => none
    | none => none
/-- .. and what they are behind, put back -/
def putD : List Ar → Ev → Ev → Option Ev
  | [], _, d => some d
  | .va _ :: r, _ :: t, d => putD r t d
  | .io i :: r, .io y :: t, d => match d[i]? with
    | some (.ow _) => putD r t (d.set i (.ow y))
    | some (.io _) => putD r t (d.set i (.io y))
    | _ => none
  | _, _, _ => none
def iosOf : List Ar → List Nat
  | [] => []
  | .va _ :: r => iosOf r
  | .io i :: r => i :: iosOf r
/-- no slot twice -/
def onceD : List Nat → Bool
  | [] => true
  | i :: r => !r.contains i && onceD r
def callD (F : FD) (f : DB) : DE := fun d => match f d with
  | some (xs, d1) => if onceD (iosOf xs) then match argsD xs d1 with
      | some t => match F t with
        | some (x, t') => match putD xs t' d1 with
          | some d2 => some (x, d2)
          | none => none
        | none => none
      | none => none
    else none
  | none => none

section
variable {G : Cls} {g : Gh} {S S' H H' : Hp} {d d' t t' : Ev} {s : St} {xs : List Ar} {vs : List V}
theorem argsD_len : ∀ {xs : List Ar} {d t : Ev}, argsD xs d = some t → t.length = xs.length
  | [], _, _, e => by cases e; rfl
  | .va x :: r, d, t, e => by
    unfold argsD at e
    split at e
    · rename_i t' e'; cases e; simp [argsD_len e']
    · cases e
  | .io i :: r, d, t, e => by
    unfold argsD at e
    split at e
    · rename_i t' e'
      split at e
      · cases e; simp [argsD_len e']
      · cases e; simp [argsD_len e']
      · cases e
    · cases e
theorem argsD_get : ∀ {xs : List Ar} {d t : Ev} {k : Nat} {x : Sl}, argsD xs d = some t → t[k]? = some x →
    (∃ y, xs[k]? = some (.va y) ∧ x = .va y) ∨ ∃ i y, xs[k]? = some (.io i) ∧ x = .io y ∧ (d[i]? = some (.ow y) ∨ d[i]? = some (.io y))
  | [], _, _, _, _, e, h => by cases e; simp at h
  | .va x :: r, d, t, k, _, e, h => by
    unfold argsD at e
    split at e
    · rename_i t' e'
      cases e
      cases k with
      | zero => simp at h; exact .inl ⟨x, rfl, h.symm⟩
      | succ k => simpa using argsD_get (k := k) e' (by simpa using h)
    · cases e
  | .io i :: r, d, t, k, _, e, h => by
    unfold argsD at e
    split at e
    · rename_i t' e'
      split at e
      · rename_i y ey
        cases e
        cases k with
        | zero => simp at h; exact .inr ⟨i, y, rfl, h.symm, .inl ey⟩
        | succ k => simpa using argsD_get (k := k) e' (by simpa using h)
      · rename_i y ey
        cases e
        cases k with
        | zero => simp at h; exact .inr ⟨i, y, rfl, h.symm, .inr ey⟩
        | succ k => simpa using argsD_get (k := k) e' (by simpa using h)
      · cases e
    · cases e
theorem putD_get : ∀ {xs : List Ar} {t d d' : Ev}, putD xs t d = some d' → d'.length = d.length ∧ ∀ {j : Nat} {x : Sl}, d'[j]? = some x →
    (j ∉ iosOf xs ∧ d[j]? = some x) ∨ ∃ (k : Nat) (y : D), xs[k]? = some (Ar.io j) ∧ t[k]? = some (Sl.io y) ∧ ((x = .ow y ∧ ∃ w, d[j]? = some (.ow w)) ∨ (x = .io y ∧ ∃ w, d[j]? = some (.io w)))
  | [], _, _, _, e => by unfold putD at e; cases e; exact ⟨rfl, fun h => .inl ⟨by simp [iosOf], h⟩⟩
  | .va _ :: r, [], _, _, e => by simp [putD] at e
  | .io _ :: r, [], _, _, e => by simp [putD] at e
  | .io _ :: r, .no :: _, _, _, e => by simp [putD] at e
  | .io _ :: r, .va _ :: _, _, _, e => by simp [putD] at e
  | .io _ :: r, .ow _ :: _, _, _, e => by simp [putD] at e
  | .va _ :: r, y :: t, d, d', e => by
    have e : putD r t d = some d' := by simpa [putD] using e
    obtain ⟨h1, h2⟩ := putD_get e
    refine ⟨h1, fun {j x} h => ?_⟩
    rcases h2 h with q | ⟨k, y, a, b, c⟩
    · exact .inl q
    · exact .inr ⟨k + 1, y, by simpa using a, by simpa using b, c⟩
  | .io i :: r, .io y :: t, d, d', e => by
    have key : ∀ (z : Sl), z.isO = true → (∃ w, (z = .ow y ∧ d[i]? = some (.ow w)) ∨ (z = .io y ∧ d[i]? = some (.io w))) → putD r t (d.set i z) = some d' → d'.length = d.length ∧ ∀ {j : Nat} {x : Sl}, d'[j]? = some x →
        (j ∉ iosOf (.io i :: r) ∧ d[j]? = some x) ∨ ∃ (k : Nat) (y' : D), (Ar.io i :: r)[k]? = some (Ar.io j) ∧ (Sl.io y :: t)[k]? = some (Sl.io y') ∧ ((x = .ow y' ∧ ∃ w, d[j]? = some (.ow w)) ∨ (x = .io y' ∧ ∃ w, d[j]? = some (.io w))) := by
      intro z _ hz e
      obtain ⟨h1, h2⟩ := putD_get e
      refine ⟨by simpa using h1, fun {j x} h => ?_⟩
      rcases h2 h with ⟨q1, q2⟩ | ⟨k, y', a, b, c⟩
      · rcases getElem?_set_cases q2 with ⟨e1, e2, _⟩ | ⟨e1, e2⟩
        · subst e1
          refine .inr ⟨0, y, rfl, rfl, ?_⟩
          obtain ⟨w, hz⟩ := hz
          rcases hz with ⟨z1, z2⟩ | ⟨z1, z2⟩
          · exact .inl ⟨e2.trans z1, w, z2⟩
          · exact .inr ⟨e2.trans z1, w, z2⟩
        · refine .inl ⟨?_, e2⟩
          show j ∉ i :: iosOf r
          rw [List.mem_cons, not_or]
          exact ⟨e1, q1⟩
      · refine .inr ⟨k + 1, y', by simpa using a, by simpa using b, ?_⟩
        rcases c with ⟨c1, w, c2⟩ | ⟨c1, w, c2⟩
        · rcases getElem?_set_cases c2 with ⟨e1, e2, _⟩ | ⟨_, e2⟩
          · subst e1
            obtain ⟨w', hz⟩ := hz
            rcases hz with ⟨z1, z2⟩ | ⟨z1, z2⟩
            · exact .inl ⟨c1, w', z2⟩
            · rw [← e2] at z1; cases z1
          · exact .inl ⟨c1, w, e2⟩
        · rcases getElem?_set_cases c2 with ⟨e1, e2, _⟩ | ⟨_, e2⟩
          · subst e1
            obtain ⟨w', hz⟩ := hz
            rcases hz with ⟨z1, z2⟩ | ⟨z1, z2⟩
            · rw [← e2] at z1; cases z1
            · exact .inr ⟨c1, w', z2⟩
          · exact .inr ⟨c1, w, e2⟩
    unfold putD at e
    split at e
    · rename_i w hw; exact key _ rfl ⟨w, .inl ⟨rfl, hw⟩⟩ e
    · rename_i w hw; exact key _ rfl ⟨w, .inr ⟨rfl, hw⟩⟩ e
    · cases e
theorem mem_ios : ∀ {xs : List Ar} {l i : Nat}, xs[l]? = some (Ar.io i) → i ∈ iosOf xs
  | [], _, _, h => by simp at h
  | .va _ :: r, 0, _, h => by simp at h
  | .va _ :: r, l + 1, i, h => mem_ios (xs := r) (l := l) (by simpa using h)
  | .io j :: r, 0, i, h => by
    have h : j = i := by simpa using h
    subst h; exact List.mem_cons_self
  | .io j :: r, l + 1, i, h => List.mem_cons_of_mem _ (mem_ios (xs := r) (l := l) (by simpa using h))
theorem onceD_ne : ∀ {xs : List Ar} {i k l : Nat}, onceD (iosOf xs) = true → xs[k]? = some (.io i) → xs[l]? = some (.io i) → k = l
  | [], _, _, _, _, h, _ => by simp at h
  | .va _ :: r, i, 0, _, _, h, _ => by simp at h
  | .va _ :: r, i, _ + 1, 0, _, _, h => by simp at h
  | .va _ :: r, i, k + 1, l + 1, o, h1, h2 => by
    have := onceD_ne (xs := r) (k := k) (l := l) o (by simpa using h1) (by simpa using h2)
    omega
  | .io j :: r, i, 0, 0, _, _, _ => rfl
  | .io j :: r, i, k + 1, l + 1, o, h1, h2 => by
    have o : (!(iosOf r).contains j && onceD (iosOf r)) = true := o
    rw [Bool.and_eq_true] at o
    have := onceD_ne (xs := r) (k := k) (l := l) o.2 (by simpa using h1) (by simpa using h2)
    omega
  | .io j :: r, i, 0, l + 1, o, h1, h2 => by
    have o : (!(iosOf r).contains j && onceD (iosOf r)) = true := o
    rw [Bool.and_eq_true] at o
    have h1 : j = i := by simpa using h1
    have m : i ∈ iosOf r := mem_ios (l := l) (by simpa using h2)
    subst h1
    simp [m] at o
  | .io j :: r, i, k + 1, 0, o, h1, h2 => by
    have := onceD_ne (xs := .io j :: r) (k := 0) (l := k + 1) o h2 h1
    omega
open Classical in
/-- the callee's view -/
noncomputable def ghC (S H : Hp) (ios : Nat → Option Addr) : Gh := ⟨fun b => if ∃ k, ios k = some b then none else H b, S, H, ios, []⟩
theorem ghC_le {S H : Hp} {ios : Nat → Option Addr} {b : Addr} {o : HO} (q : (ghC S H ios).B b = some o) : H b = some o := by
  unfold ghC at q
  simp only at q
  split at q
  · cases q
  · exact q
theorem ghC_in {S H : Hp} {ios : Nat → Option Addr} {b : Addr} {k : Nat} (h : ios k = some b) : (ghC S H ios).B b = none := by
  unfold ghC
  simp only
  rw [if_pos ⟨k, h⟩]
theorem ghC_out {S H : Hp} {ios : Nat → Option Addr} {b : Addr} (h : ∀ k, ios k ≠ some b) : (ghC S H ios).B b = H b := by
  unfold ghC
  simp only
  rw [if_neg fun ⟨k, q⟩ => h k q]
def ioA (xs : List Ar) (vs : List V) : Nat → Option Addr := fun k => match xs[k]?, vs[k]? with
  | some (.io _), some (.ref a) => some a
  | _, _ => none
theorem ioA_some {k : Nat} {a : Addr} (h : ioA xs vs k = some a) : (∃ i, xs[k]? = some (.io i)) ∧ vs[k]? = some (.ref a) := by
  unfold ioA at h
  split at h
  · rename_i h1 h2; cases h; exact ⟨⟨_, h1⟩, h2⟩
  · cases h
theorem Zt.isOwn {i : Nat} {x : Sl} (z : Zt G g S s H d) (h : d[i]? = some x) (ho : x.isO = true) : ∃ a y, s[i]? = some (some (.ref a)) ∧ OwnAt d s i a ∧ (x = .ow y ∨ x = .io y) ∧ Cont G S H a y ∧ S a = none ∧ g.B a = none := by
  obtain ⟨u, h1, h2⟩ := z.sl i x h
  cases x with
  | tb _ _ => cases ho
  | no => cases ho
  | va _ => cases ho
  | ow y => obtain ⟨a, rfl, c, h3, h4, h5⟩ := h2; exact ⟨a, y, h1, ⟨_, h, rfl, h1⟩, .inl rfl, c, h3, h4⟩
  | io y => obtain ⟨a, rfl, _, c, h3, h4, h5⟩ := h2; exact ⟨a, y, h1, ⟨_, h, rfl, h1⟩, .inr rfl, c, h3, h4⟩
theorem call_in (z : Zt G g S s H d) (ha : ArL G S s xs vs) (e : argsD xs d = some t) (ho : onceD (iosOf xs) = true) : Zt G (ghC S H (ioA xs vs)) S (vs.map some) H t where
  sh := z.sh
  bh := fun b o q => ghC_le q
  s0 := fun b o q => .inl q
  s1 := .refl _
  dm := fun b q => q
  ln := by rw [List.length_map, argsD_len e, ha.length]
  sl := fun k x q => by
    rcases argsD_get e q with ⟨y, h1, rfl⟩ | ⟨i, y, h1, rfl, h2⟩
    · obtain ⟨v, h3, h4⟩ := ha.get h1
      exact ⟨some v, by rw [List.getElem?_map, h3]; rfl, v, rfl, h4⟩
    · obtain ⟨v, h3, h4⟩ := ha.get h1
      have h4 : s[i]? = some (some v) := h4
      have fin : ∀ x, d[i]? = some x → x.isO = true → (x = .ow y ∨ x = .io y) → ∃ w, (vs.map some)[k]? = some w ∧ SlOk G (ghC S H (ioA xs vs)) S H k w (.io y) := fun x hx hO hy => by
        obtain ⟨a, y', e1, e2, e3, e4, e5, e6⟩ := z.isOwn hx hO
        rw [e1] at h4
        cases h4
        have : y' = y := by
          rcases e3 with r | r <;> rcases hy with r' | r' <;> (rw [r] at r'; cases r'; try rfl)
        subst this
        have io : ioA xs vs k = some a := by unfold ioA; rw [h1, h3]
        obtain ⟨o, ho, _⟩ := e4.has
        refine ⟨_, by rw [List.getElem?_map, h3]; rfl, a, rfl, io, e4, e5, ghC_in io, o, ho⟩
      rcases h2 with h2 | h2
      · exact fin _ h2 rfl (.inl rfl)
      · exact fin _ h2 rfl (.inr rfl)
  ap := fun k l a hn h1 h2 => by
    have conv : ∀ {k}, OwnAt t (vs.map some) k a → ∃ i, xs[k]? = some (.io i) ∧ OwnAt d s i a := fun {k} o => by
      obtain ⟨x, e1, e2, e3⟩ := o
      rcases argsD_get e e1 with ⟨y, h1, rfl⟩ | ⟨i, y, h1, rfl, h2⟩
      · cases e2
      · obtain ⟨v, h3, h4⟩ := ha.get h1
        have h4 : s[i]? = some (some v) := h4
        rw [List.getElem?_map, h3] at e3
        cases e3
        rcases h2 with h2 | h2
        · exact ⟨i, h1, _, h2, rfl, h4⟩
        · exact ⟨i, h1, _, h2, rfl, h4⟩
    obtain ⟨i, i1, o1⟩ := conv h1
    obtain ⟨j, j1, o2⟩ := conv h2
    by_cases hij : i = j
    · subst hij; exact hn (onceD_ne ho i1 j1)
    · exact z.ap i j a hij o1 o2
  ic := fun k a q => by
    obtain ⟨⟨i, h1⟩, h2⟩ := ioA_some q
    have hk : k < t.length := by rw [argsD_len e]; exact (List.getElem?_eq_some_iff.mp h1).1
    rcases argsD_get e (List.getElem?_eq_getElem hk) with ⟨y, h3, h4⟩ | ⟨j, y, h3, h4, _⟩
    · rw [h1] at h3; cases h3
    · exact ⟨y, by rw [List.getElem?_eq_getElem hk, h4]⟩
  tb := fun q hq => nomatch hq
theorem call_out {S2 H2 : Hp} (z : Zt G g S s H d) (ha : ArL G S s xs vs) (e : argsD xs d = some t) (ho : onceD (iosOf xs) = true) (sm : Same S S2) (z2 : Zt G (ghC S H (ioA xs vs)) S2 (vs.map some) H2 t') (e2 : putD xs t' d = some d') :
    Zt G g S2 s H2 d' ∧ (∀ i a, OwnAt d' s i a → OwnAt d s i a) := by
  obtain ⟨hl, hg⟩ := putD_get e2
  have ioOwn : ∀ {k a}, ioA xs vs k = some a → ∃ i, xs[k]? = some (.io i) ∧ OwnAt d s i a := fun {k a} q => by
    obtain ⟨⟨i, h1⟩, h2⟩ := ioA_some q
    have hk : k < t.length := by rw [argsD_len e]; exact (List.getElem?_eq_some_iff.mp h1).1
    obtain ⟨v, h3, h4⟩ := ha.get h1
    have h4 : s[i]? = some (some v) := h4
    rw [h2] at h3; cases h3
    rcases argsD_get e (List.getElem?_eq_getElem hk) with ⟨y, h3, h5⟩ | ⟨j, y, h3, h5, h6⟩
    · rw [h1] at h3; cases h3
    · rw [h1] at h3; cases h3
      rcases h6 with h6 | h6
      · exact ⟨i, h1, _, h6, rfl, h4⟩
      · exact ⟨i, h1, _, h6, rfl, h4⟩
  have back : ∀ i a, OwnAt d' s i a → OwnAt d s i a := fun i a o => by
    obtain ⟨x, h1, h2, h3⟩ := o
    rcases hg h1 with ⟨_, q⟩ | ⟨k, y, q1, q2, q3⟩
    · exact ⟨x, q, h2, h3⟩
    · rcases q3 with ⟨_, w, q4⟩ | ⟨_, w, q4⟩
      · exact ⟨_, q4, rfl, h3⟩
      · exact ⟨_, q4, rfl, h3⟩
  have newS : ∀ a, (∃ o, H a = some o) → S a = none → S2 a = none := fun a ⟨o, ha⟩ hs => by
    cases q : S2 a with
    | none => rfl
    | some u =>
      rcases z2.s0 a u q with r | r
      · have r : S a = some u := r
        rw [hs] at r; cases r
      · have r : H a = none := r
        rw [ha] at r; cases r
  have kept : ∀ b o, H b = some o → (∀ k, ioA xs vs k ≠ some b) → H2 b = some o := fun b o hb hk => z2.bh b o ((ghC_out hk).trans hb)
  refine ⟨⟨z2.sh, fun b o q => ?_, fun b o q => ?_, z.s1.trans sm, fun b q => z.dm b (z2.dm b q), by rw [hl]; exact z.ln, fun j x q => ?_, fun i j a hn o1 o2 => z.ap i j a hn (back i a o1) (back j a o2), fun i a q => ?_, z.tb.keeps fun b o hb hd => kept b o hb fun k hk => ?_⟩, back⟩
  · refine kept b o (z.bh b o q) fun k hk => ?_
    obtain ⟨i, _, o'⟩ := ioOwn hk
    have := (z.ownAddr o').2.2
    rw [q] at this; cases this
  · rcases z2.s0 b o q with r | r
    · exact z.s0 b o r
    · exact .inr (z.dm b r)
  · rcases hg q with ⟨hj, q1⟩ | ⟨k, y, q1, q2, q3⟩
    · obtain ⟨u, h1, h2⟩ := z.sl j x q1
      refine ⟨u, h1, ?_⟩
      have own : ∀ a, OwnAt d s j a → ∀ w, Cont G S H a w → Cont G S2 H2 a w ∧ S2 a = none := fun a oa w c => by
        obtain ⟨o, hoa, _⟩ := c.has
        obtain ⟨_, hs, _⟩ := z.ownAddr oa
        refine ⟨c.mono sm ?_, newS a ⟨o, hoa⟩ hs⟩
        rw [hoa]
        refine kept a o hoa fun k hk => ?_
        obtain ⟨i, hi, o'⟩ := ioOwn hk
        have hij : i ≠ j := fun w => by
          subst w
          exact hj (mem_ios hi)
        exact z.ap i j a hij o' oa
      cases x with
      | tb _ _ => exact h2
      | no => trivial
      | va w => obtain ⟨v, e1, r⟩ := h2; exact ⟨v, e1, r.mono sm⟩
      | ow w =>
        obtain ⟨a, rfl, c, h3, h4, h5⟩ := h2
        obtain ⟨c', h3'⟩ := own a ⟨_, q1, rfl, h1⟩ w c
        exact ⟨a, rfl, c', h3', h4, h5⟩
      | io w =>
        obtain ⟨a, rfl, h0, c, h3, h4, h5⟩ := h2
        obtain ⟨c', h3'⟩ := own a ⟨_, q1, rfl, h1⟩ w c
        exact ⟨a, rfl, h0, c', h3', h4, h5⟩
    · obtain ⟨u, h1, a, rfl, h2, h3, h4, _, _⟩ := z2.sl k _ q2
      have h2 : ioA xs vs k = some a := h2
      obtain ⟨i, hi, oa⟩ := ioOwn h2
      rw [q1] at hi; cases hi
      rcases q3 with ⟨rfl, w, q4⟩ | ⟨rfl, w, q4⟩
      · obtain ⟨u, h5, b, rfl, c, h6, h7, h8⟩ := z.sl j _ q4
        obtain ⟨_, _, _, h9⟩ := oa
        rw [h5] at h9; cases h9
        exact ⟨_, h5, a, rfl, h3, h4, h7, h8⟩
      · obtain ⟨u, h5, b, rfl, h0, c, h6, h7, h8⟩ := z.sl j _ q4
        obtain ⟨_, _, _, h9⟩ := oa
        rw [h5] at h9; cases h9
        exact ⟨_, h5, a, rfl, h0, h3, h4, h7, h8⟩
  · obtain ⟨x, h1⟩ := z.ic i a q
    have hi : i < d'.length := by rw [hl]; exact (List.getElem?_eq_some_iff.mp h1).1
    rcases hg (List.getElem?_eq_getElem hi) with ⟨_, q1⟩ | ⟨k, y, _, _, q3⟩
    · rw [h1] at q1
      exact ⟨x, by rw [List.getElem?_eq_getElem hi]; exact q1.symm⟩
    · rcases q3 with ⟨_, w, q4⟩ | ⟨q5, w, q4⟩
      · rw [h1] at q4; cases q4
      · exact ⟨y, by rw [List.getElem?_eq_getElem hi, q5]⟩
  · obtain ⟨i, _, x, e1, e2, e3⟩ := ioOwn hk
    obtain ⟨a', y, q1, _, _, c, _⟩ := z.isOwn e1 e2
    rw [e3] at q1
    cases q1
    obtain ⟨u, hu, n⟩ := c.soft
    rw [hb] at hu
    cases hu
    exact n hd
/-- a call's reading -/
theorem call_sp {n : Nat} {F : FD} {x : D} {Q : VK} {E : XK} (z : Zt G g S s H d) (ha : ArL G S s xs vs) (hn : vs.length = n) (ho : onceD (iosOf xs) = true) (e1 : argsD xs d = some t) (e2 : F t = some (x, t')) (e3 : putD xs t' d = some d')
    (q : ∀ v H' S', Same S S' → Zt G g S' s H' d' → Rep G S' x v → Q v H') : spD G n F vs H Q E :=
  ⟨hn, _, S, t, x, t', call_in z ha e1 ho, e2, fun v H' S' sm z' r => q v H' S' sm (call_out z ha e1 ho sm z' e3).1 r⟩
theorem call_spF {n : Nat} {F : FD} {x : D} {Q : VK} {E : XK} (z : Zt G g S s H d) (ha : ArL G S s xs vs) (hn : vs.length = n) (ho : onceD (iosOf xs) = true) (e1 : argsD xs d = some t) (e2 : F t = some (x, t')) (e3 : putD xs t' d = some d')
    (q : ∀ a H' S', Same S S' → Zt G g S' s H' d' → Cont G S' H' a x → S' a = none → g.B a = none → g.H0 a = none → (∀ j, ¬ OwnAt d' s j a) → Q (.ref a) H') : spF G n F vs H Q E :=
  ⟨hn, _, S, t, x, t', call_in z ha e1 ho, e2, fun a H' S' sm z' c h1 h2 h3 => by
    have h3 : H a = none := h3
    obtain ⟨z2, own⟩ := call_out z ha e1 ho sm z' e3
    refine q a H' S' sm z2 c h1 (z.bh.free h3) (z.dm a h3) fun j o => ?_
    obtain ⟨⟨u, hu⟩, _⟩ := z.ownAddr (own j a o)
    rw [h3] at hu; cases hu⟩
end
end Zr

/-! Zr: calls, instances, one's own objects. -/
namespace Zr
open PySem L2

/-! ### arguments -/
def bn : DB := fun d => some ([], d)
def bv (f : DE) (r : DB) : DB := fun d => match f d with
  | some (x, d1) => match r d1 with
    | some (xs, d2) => some (.va x :: xs, d2)
    | none => none
  | none => none
def bi (i : Nat) (r : DB) : DB := fun d => match d[i]? with
  | some (.ow _) => match r d with
    | some (xs, d2) => some (.io i :: xs, d2)
    | none => none
  | some (.io _) => match r d with
    | some (xs, d2) => some (.io i :: xs, d2)
    | none => none
  | _ => none
section
variable {G : Cls} {X : Cx} {e a b c o : Expr} {es : List Expr} {f h k : DE} {r : DB} {fa : DA} {ft : DT} {pos : Pos} {x : Str} {p : Pos}
theorem lb_nil : LB G X [] bn := pa_weak pa_nil fun s H Q ⟨g, S, d, x, d', z, e, q⟩ => by cases e; exact q [] H S (.refl _) z rfl
theorem lb_va (ha : LE G X e f) (hr : LB G X es r) (hs : starEach (e :: es) X.env = (false, eval e X.env) :: starEach es X.env := by rfl) : LB G X (e :: es) (bv f r) := pa_weak (pa_cons ha hr hs) fun s H Q ⟨g, S, d, x, d', z, e, q⟩ => by
  unfold bv at e
  split at e
  · rename_i y d1 e1
    split at e
    · rename_i ys d2 e2
      cases e
      exact ⟨g, S, d, y, d1, z, e1, fun v H' S' sm z' r1 => ⟨g, S', d1, ys, d', z', e2, fun vs H2 S2 sm2 z2 r2 => q _ H2 S2 (sm.trans sm2) z2 ⟨v, vs, rfl, r1.mono sm2, r2⟩⟩⟩
    · cases e
  · cases e
theorem lb_io (i : Nat) (hr : LB G X es r) (hN : X.N[i]? = some x := by rfl) (hv : Vis X.env.scope x := by first | exact Or.inl rfl | exact Or.inr (Or.inl rfl) | exact Or.inr (Or.inr rfl)) (hd : (x == ("__debug__" : Str)) = false := by decide) (hcd : (x == ("__classdict__" : Str)) = false := by decide)
    (hs : starEach (.Name x pos :: es) X.env = (false, eval (.Name x pos) X.env) :: starEach es X.env := by rfl) : LB G X (.Name x pos :: es) (bi i r) := pa_weak (pa_cons (pe_var hN hv hd hcd) hr hs) fun s H Q ⟨g, S, d, y, d', z, e, q⟩ => by
  have key : ∀ w, d[i]? = some w → w.isO = true → (match r d with | some (xs, d2) => some (Ar.io i :: xs, d2) | none => none) = some (y, d') → tCons (tVar i) (liftB G r) s H Q := fun w hw ho e => by
    obtain ⟨a, u, h1, _⟩ := z.isOwn hw ho
    split at e
    · rename_i xs d2 e2
      cases e
      exact ⟨_, h1, g, S, d, xs, d', z, e2, fun vs H2 S2 sm2 z2 r2 => q _ H2 S2 sm2 z2 ⟨_, vs, rfl, h1, r2⟩⟩
    · cases e
  unfold bi at e
  split at e
  · rename_i w hw; exact key _ hw rfl e
  · rename_i w hw; exact key _ hw rfl e
  · cases e

/-! ### calls of defs -/
/-- the defaults behind the written arguments -/
def dflt (ds : List D) (r : DB) : DB := fun d => match r d with
  | some (xs, d1) => some (xs ++ ds.map Ar.va, d1)
  | none => none
theorem callD_inv {F : FD} {d d' : Ev} {z : D} (e : callD F r d = some (z, d')) : ∃ xs d1 t t', r d = some (xs, d1) ∧ onceD (iosOf xs) = true ∧ argsD xs d1 = some t ∧ F t = some (z, t') ∧ putD xs t' d1 = some d' := by
  unfold callD at e
  split at e
  · rename_i xs d1 e1
    split at e
    · rename_i e2
      split at e
      · rename_i t e3
        split at e
        · rename_i x t' e4
          split at e
          · rename_i d2 e5
            cases e
            exact ⟨xs, d1, t, t', e1, e2, e3, e4, e5⟩
          · cases e
        · cases e
      · cases e
    · cases e
  · cases e
theorem dflt_inv {ds : List D} {d d' : Ev} {zs : List Ar} (e : dflt ds r d = some (zs, d')) : ∃ xs, r d = some (xs, d') ∧ zs = xs ++ ds.map Ar.va := by
  unfold dflt at e
  split at e
  · rename_i xs d1 e1
    cases e
    exact ⟨xs, e1, rfl⟩
  · cases e
variable {CX : CXT} {lv n : Nat} {fA C : Addr} {fd : FuncData} {ps : List Str} {F : FD} {dvs : List V} {ds : List Value} {dd : List D} {E : XK}
theorem lift_call (hdd : ∀ S, RepL G S dd dvs) {s : St} {H : Hp} {Q : VK} (hn : ∀ d xs d', r d = some (xs, d') → xs.length + dd.length = n) (q : liftE G (callD F (dflt dd r)) s H Q) : tCall (spD G n F) dvs E (liftB G r) s H Q := by
  obtain ⟨g, S, d, x, d', z, e, q⟩ := q
  obtain ⟨xs, d1, t, t', e1, e2, e3, e4, e5⟩ := callD_inv e
  obtain ⟨ys, e6, rfl⟩ := dflt_inv e1
  refine ⟨g, S, d, ys, d1, z, e6, fun vs H' S' sm z' ra => ?_⟩
  have hall := ra.append (ArL.ofRep (s := s) (hdd S'))
  exact call_sp z' hall (by rw [← hall.length, List.length_append, List.length_map]; exact hn _ _ _ e6) e2 e3 e4 e5 fun v H2 S2 sm2 z2 rv => q v H2 S2 (sm.trans sm2) z2 rv
theorem lift_callF (hdd : ∀ S, RepL G S dd dvs) {s : St} {H : Hp} {Q : VK} (hn : ∀ d xs d', r d = some (xs, d') → xs.length + dd.length = n) (q : liftF G (callD F (dflt dd r)) s H Q) : tCall (spF G n F) dvs E (liftB G r) s H Q := by
  obtain ⟨g, S, d, x, d', z, e, q⟩ := q
  obtain ⟨xs, d1, t, t', e1, e2, e3, e4, e5⟩ := callD_inv e
  obtain ⟨ys, e6, rfl⟩ := dflt_inv e1
  refine ⟨g, S, d, ys, d1, z, e6, fun vs H' S' sm z' ra => ?_⟩
  have hall := ra.append (ArL.ofRep (s := s) (hdd S'))
  exact call_spF z' hall (by rw [← hall.length, List.length_append, List.length_map]; exact hn _ _ _ e6) e2 e3 e4 e5 fun v H2 S2 sm2 z2 rv => q v H2 S2 (sm.trans sm2) z2 rv
/-- how many arguments -/
class inductive Many : DB → Nat → Prop
  | nil : Many bn 0
  | va {f : DE} {r : DB} {n : Nat} : Many r n → Many (bv f r) (n + 1)
  | io {i : Nat} {r : DB} {n : Nat} : Many r n → Many (bi i r) (n + 1)
theorem Many.len {n : Nat} (m : Many r n) : ∀ {d xs d'}, r d = some (xs, d') → xs.length = n := by
  induction m with
  | nil => intro d xs d' e; cases e; rfl
  | va m ih =>
    intro d xs d' e
    unfold bv at e
    split at e
    · split at e
      · rename_i e2; cases e; simp [ih e2]
      · cases e
    · cases e
  | io m ih =>
    intro d xs d' e
    unfold bi at e
    split at e
    · split at e
      · rename_i e2; cases e; simp [ih e2]
      · cases e
    · split at e
      · rename_i e2; cases e; simp [ih e2]
      · cases e
    · cases e
theorem repl_nil : ∀ S, RepL G S [] [] := fun _ => .nil
theorem le_call {m : Nat} (Fk : FnOk X.prog X.w X.K X.mg X.base CX0 lv fA fd ps (spD G n F)) (hr : Room lv X.A) (hg : Gl X x) (hm : X.mg x = some (.ref fA)) (hk : PySem.W.keepIn X.K (.ref fA) = true) (hb : Binds X.K fd ps ds) (hd : Vals dvs ds) (hdd : ∀ S, RepL G S dd dvs)
    (ha : LB G X (e :: es) r) (hM : Many r m) (hn : m + dd.length = n) (hdb : (x == ("__debug__" : Str)) = false := by decide) (he : starEach (e :: es) X.env = (false, eval e X.env) :: starEach es X.env := by rfl) (hpl : (backTo pos (starEach es X.env)).any (·.1) = false := by rfl) :
    LE G X (.Call (.Name x p) (e :: es) [] pos) (callD F (dflt dd r)) := pe_weak (pe_call Fk hr hg hm hk hb hd pass0 ha hdb he hpl) fun _ _ _ => lift_call hdd fun _ _ _ e => by rw [hM.len e]; exact hn
theorem lf_call {m : Nat} (Fk : FnOk X.prog X.w X.K X.mg X.base CX0 lv fA fd ps (spF G n F)) (hr : Room lv X.A) (hg : Gl X x) (hm : X.mg x = some (.ref fA)) (hk : PySem.W.keepIn X.K (.ref fA) = true) (hb : Binds X.K fd ps ds) (hd : Vals dvs ds) (hdd : ∀ S, RepL G S dd dvs)
    (ha : LB G X (e :: es) r) (hM : Many r m) (hn : m + dd.length = n) (hdb : (x == ("__debug__" : Str)) = false := by decide) (he : starEach (e :: es) X.env = (false, eval e X.env) :: starEach es X.env := by rfl) (hpl : (backTo pos (starEach es X.env)).any (·.1) = false := by rfl) :
    LF G X (.Call (.Name x p) (e :: es) [] pos) (callD F (dflt dd r)) := pe_weak (pe_call Fk hr hg hm hk hb hd pass0 ha hdb he hpl) fun _ _ _ => lift_callF hdd fun _ _ _ e => by rw [hM.len e]; exact hn

/-! ### instances: fields -/
theorem zip_lookup {α : Type} : ∀ {fl : List Str} {vs : List α} {k : Nat} {f : Str}, fl.Nodup → fl[k]? = some f → (fl.zip vs).lookup f = vs[k]?
  | [], _, _, _, _, h => by simp at h
  | y :: fl, [], k, f, _, _ => by simp
  | y :: fl, v :: vs, 0, f, _, h => by simp at h; subst h; simp
  | y :: fl, v :: vs, k + 1, f, nd, h => by
    have h : fl[k]? = some f := by simpa using h
    have hne : (f == y) = false := by
      have : f ∈ fl := List.mem_of_getElem? h
      have q : f ≠ y := fun w => (List.nodup_cons.mp nd).1 (w ▸ this)
      simpa using q
    rw [List.zip_cons_cons, List.lookup_cons, hne]
    simpa using zip_lookup (List.nodup_cons.mp nd).2 h
theorem zip_none {α : Type} {f : Str} : ∀ {fl : List Str} {vs : List α}, f ∉ fl → (fl.zip vs).lookup f = none
  | [], _, _ => by simp
  | y :: fl, [], _ => by simp
  | y :: fl, v :: vs, h => by
    rw [List.mem_cons, not_or] at h
    have hne : (f == y) = false := by simpa using h.1
    rw [List.zip_cons_cons, List.lookup_cons, hne]
    exact zip_none h.2
theorem putF_zip {f : Str} {v : V} : ∀ {fl : List Str} {vs : List V} {k : Nat}, fl.Nodup → fl[k]? = some f → k ≤ vs.length → putF f v (fl.zip vs) = fl.zip (if k < vs.length then vs.set k v else vs ++ [v])
  | [], _, _, _, h, _ => by simp at h
  | y :: fl, [], 0, _, h, _ => by simp at h; subst h; simp [putF]
  | y :: fl, [], k + 1, _, _, hl => by simp at hl
  | y :: fl, w :: vs, 0, _, h, _ => by simp at h; subst h; simp [putF]
  | y :: fl, w :: vs, k + 1, nd, h, hl => by
    have h : fl[k]? = some f := by simpa using h
    have hne : ¬ y = f := fun w => (List.nodup_cons.mp nd).1 (w ▸ List.mem_of_getElem? h)
    have ih := putF_zip (v := v) (vs := vs) (List.nodup_cons.mp nd).2 h (by simpa using hl)
    have e : putF f v ((y, w) :: fl.zip vs) = (y, w) :: putF f v (fl.zip vs) := by
      show (if y = f then _ else _) = _
      rw [if_neg hne]
    rw [List.zip_cons_cons, e, ih]
    by_cases q : k < vs.length
    · rw [if_pos q, if_pos (by simpa using q)]; rfl
    · rw [if_neg q, if_neg (by simpa using q)]; rfl
/-- what the text says of a class's fields: the k-th one is called x -/
structure FldOk (G : Cls) (K : PySem.W.Frag) (c k : Nat) (x : Str) : Prop where
  nd : (G.fld c).Nodup
  at_ : (G.fld c)[k]? = some x
  cl : L2.Cls K (G.adr c)
  no : NoAttr K (G.adr c) x
  few : (G.fld c).length < 1000
def ofld (tb : List (Nat × Nat)) : D → Option D
  | .ob c fs => match tb.lookup c with
    | some k => fs[k]?
    | none => none
  | _ => none
/-- e.x of a value -/
def fld (tb : List (Nat × Nat)) (f : DE) : DE := u1 (ofld tb) f
theorem inv_ob {S : Hp} {c : Nat} {fs : List D} {v : V} (h : Rep G S (.ob c fs) v) : ∃ a dx vs, v = .ref a ∧ S a = some (.ins (G.adr c) dx ((G.fld c).zip vs)) ∧ vs.length ≤ (G.fld c).length ∧ RepL G S fs vs := by unfold Rep at h; exact h
theorem lookup_mem {α : Type} : ∀ {tb : List (Nat × α)} {c : Nat} {k : α}, tb.lookup c = some k → (c, k) ∈ tb
  | [], _, _, h => by simp at h
  | (a, b) :: r, c, k, h => by
    rw [List.lookup_cons] at h
    split at h
    · rename_i e
      have e : c = a := by simpa using e
      cases h
      subst e
      exact List.mem_cons_self
    · exact List.mem_cons_of_mem _ (lookup_mem h)
theorem le_fld {tb : List (Nat × Nat)} (ht : ∀ q ∈ tb, FldOk G X.K q.1 q.2 x) (he : LE G X e f) (hb : attributeBase e x X.env (eval e X.env) = eval e X.env := by rfl) : LE G X (.Attribute e x pos) (fld tb f) := pe_weak (pe_fld he hb) fun s H Q ⟨g, S, d, y, d', z, e, q⟩ => by
  obtain ⟨w, e1, e2⟩ := u1_inv e
  refine ⟨g, S, d, w, d', z, e1, fun v H' S' sm z' r1 => ?_⟩
  cases w with
  | ob c fs =>
    unfold ofld at e2
    simp only at e2
    split at e2
    · rename_i k hk
      have T := ht (c, k) (lookup_mem hk)
      obtain ⟨a, dx, vs, rfl, h1, h2, h3⟩ := inv_ob r1
      obtain ⟨u, h4, h5⟩ := h3.get e2
      exact ⟨a, _, dx, _, u, rfl, z'.sh _ _ h1, T.cl, T.no, by rw [zip_lookup T.nd T.at_]; exact h4, q u H' S' sm z' h5⟩
    · cases e2
  | non => cases e2
  | bl _ => cases e2
  | int _ => cases e2
  | str _ => cases e2
  | tup _ => cases e2
  | lst _ => cases e2
  | fn _ => cases e2
  | scr _ => cases e2
  | dic _ => cases e2
  | dis _ => cases e2
  | dil _ _ => cases e2
  | ex _ => cases e2
/-- x.f of the object in slot i -/
def sld (i : Nat) (tb : List (Nat × Nat)) : DE := fun d => match d[i]? with
  | some (.ow y) => match ofld tb y with
    | some w => some (w, d)
    | none => none
  | some (.io y) => match ofld tb y with
    | some w => some (w, d)
    | none => none
  | _ => none
theorem le_sld (i : Nat) {tb : List (Nat × Nat)} {y : Str} (ht : ∀ q ∈ tb, FldOk G X.K q.1 q.2 x) (hN : X.N[i]? = some y := by rfl) (hv : Vis X.env.scope y := by first | exact Or.inl rfl | exact Or.inr (Or.inl rfl) | exact Or.inr (Or.inr rfl)) (hd : (y == ("__debug__" : Str)) = false := by decide) (hcd : (y == ("__classdict__" : Str)) = false := by decide)
    (hb : attributeBase (.Name y p) x X.env (eval (.Name y p) X.env) = eval (.Name y p) X.env := by rfl) : LE G X (.Attribute (.Name y p) x pos) (sld i tb) := pe_weak (pe_fld (pe_var hN hv hd hcd) hb) fun s H Q ⟨g, S, d, y, d', z, e, q⟩ => by
  have key : ∀ w w', d[i]? = some w → w.isO = true → (w = .ow w' ∨ w = .io w') → (match ofld tb w' with | some u => some (u, d) | none => none) = some (y, d') → tFld X.K (tVar i) x s H Q := fun w w' hw ho hww e => by
    obtain ⟨a, u, h1, _, h2, h3, _⟩ := z.isOwn hw ho
    have : u = w' := by rcases h2 with r | r <;> rcases hww with r' | r' <;> (rw [r] at r'; cases r'; try rfl)
    subst this
    split at e
    · rename_i v e2
      cases e
      cases u with
      | ob c fs =>
        unfold ofld at e2
        simp only at e2
        split at e2
        · rename_i k hk
          have T := ht (c, k) (lookup_mem hk)
          obtain ⟨dx, vs, h4, h5, h6⟩ := h3
          obtain ⟨v', h7, h8⟩ := h6.get e2
          exact ⟨_, h1, a, _, dx, _, v', rfl, h4, T.cl, T.no, by rw [zip_lookup T.nd T.at_]; exact h7, q v' H S (.refl _) z h8⟩
        · cases e2
      | non => cases e2
      | bl _ => cases e2
      | int _ => cases e2
      | str _ => cases e2
      | tup _ => cases e2
      | lst _ => cases e2
      | fn _ => cases e2
      | scr _ => cases e2
      | dic _ => cases e2
      | dis _ => cases e2
      | dil _ _ => cases e2
      | ex _ => cases e2
    · cases e
  unfold sld at e
  split at e
  · rename_i w hw; exact key _ _ hw rfl (.inl rfl) e
  · rename_i w hw; exact key _ _ hw rfl (.inr rfl) e
  · cases e

/-! ### the object in a slot is changed -/
def own (d : Ev) (i : Nat) : Option D := match d[i]? with
  | some (.ow y) => some y
  | some (.io y) => some y
  | _ => none
def put (d : Ev) (i : Nat) (y : D) : Ev := match d[i]? with
  | some (.ow _) => d.set i (.ow y)
  | some (.io _) => d.set i (.io y)
  | _ => d
theorem Zt.at_own {g : Gh} {S H : Hp} {s : St} {d : Ev} {i : Nat} {y : D} (z : Zt G g S s H d) (e : own d i = some y) : ∃ a, s[i]? = some (some (.ref a)) ∧ Cont G S H a y ∧ OwnAt d s i a ∧ S a = none ∧ g.B a = none := by
  unfold own at e
  split at e
  · rename_i w hw
    cases e
    obtain ⟨a, u, h1, h2, h3, h4, h5, h6⟩ := z.isOwn hw rfl
    rcases h3 with r | r
    · cases r; exact ⟨a, h1, h4, h2, h5, h6⟩
    · cases r
  · rename_i w hw
    cases e
    obtain ⟨a, u, h1, h2, h3, h4, h5, h6⟩ := z.isOwn hw rfl
    rcases h3 with r | r
    · cases r
    · cases r; exact ⟨a, h1, h4, h2, h5, h6⟩
  · cases e
theorem Zt.put {g : Gh} {S H : Hp} {s : St} {d : Ev} {i : Nat} {y y' : D} {a : Addr} {u : HO} (z : Zt G g S s H d) (e : own d i = some y) (ha : s[i]? = some (some (.ref a))) (c : Cont G S (upd H a u) a y') : Zt G g S s (upd H a u) (Zr.put d i y') := by
  obtain ⟨b, h1, h2, h3, h4, h5⟩ := z.at_own e
  rw [ha] at h1
  cases h1
  obtain ⟨o, hH, _⟩ := h2.has
  have hx : ∃ x x', d[i]? = some x ∧ Zr.put d i y' = d.set i x' ∧ x.isO = true ∧ ((x = .ow y ∧ x' = .ow y') ∨ (x = .io y ∧ x' = .io y')) := by
    unfold own at e
    unfold Zr.put
    split at e
    · rename_i w hw; cases e; exact ⟨_, _, hw, rfl, rfl, .inl ⟨rfl, rfl⟩⟩
    · rename_i w hw; cases e; exact ⟨_, _, hw, rfl, rfl, .inr ⟨rfl, rfl⟩⟩
    · cases e
  obtain ⟨x, x', hxi, ep, hxo, hk⟩ := hx
  rw [ep]
  have ho' : x'.isO = true := by rcases hk with ⟨_, rfl⟩ | ⟨_, rfl⟩ <;> rfl
  have back : ∀ {j b}, OwnAt (d.set i x') s j b → OwnAt d s j b := fun {j b} o' => by
    obtain ⟨w, o1, o2, o3⟩ := o'
    rcases getElem?_set_cases o1 with ⟨e1, e2, _⟩ | ⟨_, e2⟩
    · subst e1; exact ⟨x, hxi, hxo, o3⟩
    · exact ⟨w, e2, o2, o3⟩
  refine ⟨fun b o' q => ?_, fun b o' q => ?_, z.s0, z.s1, fun b q => ?_, by simpa using z.ln, fun j w q => ?_, fun j k b hn o1 o2 => z.ap j k b hn (back o1) (back o2), fun j b q => ?_, ?_⟩
  · rw [upd_ne fun w => by rw [w, h4] at q; cases q]; exact z.sh b o' q
  · rw [upd_ne fun w => by rw [w, h5] at q; cases q]; exact z.bh b o' q
  · have hne : b ≠ a := fun w => by rw [w, upd_same] at q; cases q
    rw [upd_ne hne] at q; exact z.dm b q
  · rcases getElem?_set_cases q with ⟨e1, e2, _⟩ | ⟨e1, e2⟩
    · subst e1
      obtain ⟨v, q1, q2⟩ := z.sl _ _ hxi
      rw [ha] at q1
      cases q1
      refine ⟨_, ha, ?_⟩
      rcases hk with ⟨rfl, rfl⟩ | ⟨rfl, rfl⟩
      · subst e2
        obtain ⟨b, e3, _, k1, k2, k3⟩ := q2
        cases e3
        exact ⟨a, rfl, c, k1, k2, k3⟩
      · subst e2
        obtain ⟨b, e3, k0, _, k1, k2, k3⟩ := q2
        cases e3
        exact ⟨a, rfl, k0, c, k1, k2, k3⟩
    · obtain ⟨v, q1, q2⟩ := z.sl j w e2
      refine ⟨v, q1, ?_⟩
      have ne : ∀ b, OwnAt d s j b → b ≠ a := fun b ob w => by subst w; exact z.ap j i b e1 ob h3
      cases w with
      | tb _ _ => exact q2
      | no => trivial
      | va _ => exact q2
      | ow w =>
        obtain ⟨b, rfl, k1, k2⟩ := q2
        exact ⟨b, rfl, k1.mono (.refl _) (upd_ne (ne b ⟨_, e2, rfl, q1⟩)), k2⟩
      | io w =>
        obtain ⟨b, rfl, k0, k1, k2⟩ := q2
        exact ⟨b, rfl, k0, k1.mono (.refl _) (upd_ne (ne b ⟨_, e2, rfl, q1⟩)), k2⟩
  · obtain ⟨w, h6⟩ := z.ic j b q
    by_cases hj : j = i
    · subst hj
      rw [hxi] at h6
      cases h6
      rcases hk with ⟨r, _⟩ | ⟨_, rfl⟩
      · cases r
      · exact ⟨y', set_get (List.getElem?_eq_some_iff.mp hxi).1⟩
    · exact ⟨w, by rw [List.getElem?_set_ne (Ne.symm hj)]; exact h6⟩
  · obtain ⟨u', hu, n⟩ := h2.soft
    exact z.tb.upd hu n
/-- self.x = e -/
def setF (k : Nat) (w : D) : D → Option D
  | .ob c fs => if k < fs.length then some (.ob c (fs.set k w)) else if k = fs.length then some (.ob c (fs ++ [w])) else none
  | _ => none
def isOb (c : Nat) : D → Bool
  | .ob c' _ => c == c'
  | _ => false
def sfl (i c k : Nat) (f : DE) : DS := fun d => match f d with
  | some (w, d1) => match Zr.own d1 i with
    | some y => if isOb c y then match setF k w y with
        | some y' => some (.nx, Zr.put d1 i y')
        | none => none
      else none
    | none => none
  | none => none
theorem ls_fld (i c k : Nat) {y : Str} {pos' : Pos} (T : FldOk G X.K c k x) (he : LE G X e f) (hN : X.N[i]? = some y := by rfl) (hv : Vis X.env.scope y := by first | exact Or.inl rfl | exact Or.inr (Or.inl rfl) | exact Or.inr (Or.inr rfl)) (hd : (y == ("__debug__" : Str)) = false := by decide) (hcd : (y == ("__classdict__" : Str)) = false := by decide)
    (hs : swapsWith e (some (.Attribute (.Name y p) x pos')) pos.line X.env = pure false := by rfl) : LS G X (.Assign [.Attribute (.Name y p) x pos'] e pos) (sfl i c k f) := ps_weak (ps_fld (pe_var hN hv hd hcd) he hs) fun D s H ⟨g, S, d, fl, d', z, e, q⟩ => by
  unfold sfl at e
  split at e
  · rename_i w d1 e1
    split at e
    · rename_i yy e2
      split at e
      · rename_i e3
        split at e
        · rename_i y' e4
          cases e
          refine ⟨g, S, d, w, d1, z, e1, fun v H' S' sm z' r => ?_⟩
          obtain ⟨a, h1, h2, _⟩ := z'.at_own e2
          cases yy with
          | ob c' fs =>
            have hc : c = c' := by simpa [isOb] using e3
            subst hc
            obtain ⟨dx, vs, h3, h4, h5⟩ := h2
            have hl := h5.length
            have kl : k < (G.fld c).length := (List.getElem?_eq_some_iff.mp T.at_).1
            refine ⟨_, h1, a, _, dx, _, rfl, h3, T.cl, T.no, ?_, ?_⟩
            · have := T.few; rw [List.length_zip]; omega
            · refine q s _ S' sm (z'.put e2 h1 ?_)
              unfold setF at e4
              simp only at e4
              split at e4
              · rename_i hk
                cases e4
                rw [putF_zip T.nd T.at_ (by omega), if_pos (by omega)]
                exact ⟨dx, _, upd_same, by simpa using h4, h5.set k r⟩
              · split at e4
                · rename_i hk
                  cases e4
                  rw [putF_zip T.nd T.at_ (by omega), if_neg (by omega)]
                  exact ⟨dx, _, upd_same, by simp; omega, h5.append (.cons r .nil)⟩
                · cases e4
          | non => cases e3
          | bl _ => cases e3
          | int _ => cases e3
          | str _ => cases e3
          | tup _ => cases e3
          | lst _ => cases e3
          | fn _ => cases e3
          | scr _ => cases e3
          | dic _ => cases e3
          | dis _ => cases e3
          | dil _ _ => cases e3
          | ex _ => cases e3
        · cases e
      · cases e
    · cases e
  · cases e

/-! ### a list in a slot -/
def asL : D → Option (List D)
  | .lst ds => some ds
  | _ => none
theorem cont_lst {S H : Hp} {a : Addr} {y : D} {ds : List D} (e : asL y = some ds) (c : Cont G S H a y) : ∃ vs, H a = some (.lst vs) ∧ RepL G S ds vs := by
  cases y with
  | lst _ => cases e; exact c
  | non => cases e
  | bl _ => cases e
  | int _ => cases e
  | str _ => cases e
  | tup _ => cases e
  | ob _ _ => cases e
  | fn _ => cases e
  | scr _ => cases e
  | dic _ => cases e
  | dis _ => cases e
  | dil _ _ => cases e
  | ex _ => cases e
def ownL (d : Ev) (i : Nat) : Option (List D) := (Zr.own d i).bind asL
theorem ownL_inv {d : Ev} {i : Nat} {ds : List D} (e : ownL d i = some ds) : ∃ y, Zr.own d i = some y ∧ asL y = some ds := Option.bind_eq_some_iff.mp e
/-- x.append(e) -/
def app (i : Nat) (f : DE) : DE := fun d => match ownL d i with
  | some _ => match f d with
    | some (w, d1) => match ownL d1 i with
      | some ds => if ds.length < sizeLine then some (.non, Zr.put d1 i (.lst (ds ++ [w]))) else none
      | none => none
    | none => none
  | none => none
theorem le_app (i : Nat) {y : Str} {apos : Pos} (hK : G.K = X.K) (he : LE G X e f) (hN : X.N[i]? = some y := by rfl) (hv : Vis X.env.scope y := by first | exact Or.inl rfl | exact Or.inr (Or.inl rfl) | exact Or.inr (Or.inr rfl)) (hd : (y == ("__debug__" : Str)) = false := by decide) (hcd : (y == ("__classdict__" : Str)) = false := by decide)
    (hbase : attributeBase (.Name y p) "append" X.env (eval (.Name y p) X.env) = eval (.Name y p) X.env := by rfl)
    (hfew : ((backTo pos (starEach [e] X.env)).all (fun x => !x.1) && (backToKw pos (keywordEach [] X.env)).all (fun x => x.1.isSome)
      && decide (([e] : List Expr).length + ([] : List Keyword).length + (if ([] : List Keyword).isEmpty then 0 else 1) < 30)) = true := by rfl)
    (hline : (apos.endLine == pos.line) = true := by rfl) (hs : starEach [e] X.env = (false, eval e X.env) :: starEach [] X.env := by rfl) (hplain : (backTo pos (starEach [] X.env)).any (·.1) = false := by rfl) :
    LE G X (.Call (.Attribute (.Name y p) "append" apos) [e] [] pos) (app i f) :=
  pe_weak (pe_bm PySem.F.plainAttrs_list PySem.F.slot_list_append PySem.F.type_list_append mt_append (pe_var hN hv hd hcd) (pa_cons he pa_nil hs) hbase hfew hline hs hplain) fun s H Q ⟨g, S, d, y, d', z, e, q⟩ => by
    unfold app at e
    split at e
    · rename_i ds0 e0
      obtain ⟨y0, e01, e02⟩ := ownL_inv e0
      obtain ⟨a, h1, h2, _⟩ := z.at_own e01
      obtain ⟨vs0, h3, _⟩ := cont_lst e02 h2
      split at e
      · rename_i w d1 e1
        split at e
        · rename_i ds e2
          split at e
          · rename_i hsz
            cases e
            refine ⟨_, h1, .inl ⟨rfl, _, SqL.of h3⟩, g, S, d, w, d1, z, e1, fun v H' S' sm z' r => ?_⟩
            obtain ⟨y1, e11, e12⟩ := ownL_inv e2
            obtain ⟨b, k1, k2, _⟩ := z'.at_own e11
            rw [h1] at k1; cases k1
            obtain ⟨vs, k3, k4⟩ := cont_lst e12 k2
            refine ⟨a, vs, v, rfl, rfl, k3, by rw [← k4.length]; exact hsz, ?_⟩
            exact q _ _ S' sm (z'.put e11 h1 ⟨_, upd_same, k4.append (.cons r .nil)⟩) rep_non
          · cases e
        · cases e
      · cases e
    · cases e
/-- x[j], x the list in slot i -/
def oix (i : Nat) (f : DE) : DE := fun d => match ownL d i with
  | some _ => match f d with
    | some (.int j, d1) => match ownL d1 i with
      | some ds => match atI ds j with
        | some w => some (w, d1)
        | none => none
      | none => none
    | _ => none
  | none => none
theorem RepL.atI {S : Hp} {ds : List D} {vs : List V} {j : Int} {w : D} (r : RepL G S ds vs) (e : L2.atI ds j = some w) : ∃ v, L2.atI vs j = some v ∧ Rep G S w v := by
  unfold L2.atI at e ⊢
  rw [← r.length]
  obtain ⟨k, e1, e2⟩ := Option.bind_eq_some_iff.mp e
  obtain ⟨v, h1, h2⟩ := r.get e2
  exact ⟨v, by rw [e1]; exact h1, h2⟩
theorem le_oix (i : Nat) {y : Str} (he : LE G X e f) (hs : PlainIx e) (hN : X.N[i]? = some y := by rfl) (hv : Vis X.env.scope y := by first | exact Or.inl rfl | exact Or.inr (Or.inl rfl) | exact Or.inr (Or.inr rfl)) (hd : (y == ("__debug__" : Str)) = false := by decide) (hcd : (y == ("__classdict__" : Str)) = false := by decide) :
    LE G X (.Subscript (.Name y p) e pos) (oix i f) := pe_weak (pe_ix ix_list (pe_var hN hv hd hcd) he hs) fun s H Q ⟨g, S, d, y, d', z, e, q⟩ => by
  unfold oix at e
  split at e
  · rename_i ds0 e0
    obtain ⟨y0, e01, _⟩ := ownL_inv e0
    obtain ⟨a, h1, _⟩ := z.at_own e01
    split at e
    · rename_i j d1 e1
      split at e
      · rename_i ds e2
        split at e
        · rename_i w e3
          cases e
          obtain ⟨y1, e11, e12⟩ := ownL_inv e2
          refine ⟨_, h1, g, S, d, _, d', z, e1, fun v H' S' sm z' r => ?_⟩
          obtain ⟨b, k1, k2, _⟩ := z'.at_own e11
          rw [h1] at k1; cases k1
          obtain ⟨vs, k3, k4⟩ := cont_lst e12 k2
          obtain ⟨u, k5, k6⟩ := k4.atI e3
          exact ⟨a, vs, j, u, rfl, inv_int r, SqL.of k3, k5, q u H' S' sm z' k6⟩
        · cases e
      · cases e
    · cases e
  · cases e
/-- len(x), x the list in slot i -/
def oln (i : Nat) : DE := fun d => match ownL d i with
  | some ds => some (.int ds.length, d)
  | none => none
theorem le_oln (i : Nat) {y : Str} {pp : Pos} (hK : G.K = X.K) (hg : Gl X "len") (hm : X.mg "len" = none) (hN : X.N[i]? = some y := by rfl) (hv : Vis X.env.scope y := by first | exact Or.inl rfl | exact Or.inr (Or.inl rfl) | exact Or.inr (Or.inr rfl)) (hd : (y == ("__debug__" : Str)) = false := by decide) (hcd : (y == ("__classdict__" : Str)) = false := by decide)
    (hs : starEach [.Name y p] X.env = (false, eval (.Name y p) X.env) :: starEach [] X.env := by rfl) (hpl : (backTo pos (starEach [] X.env)).any (·.1) = false := by rfl) :
    LE G X (.Call (.Name "len" pp) [.Name y p] [] pos) (oln i) := pe_weak (pe_callB call_len_seq hg hm PySem.boot_len (pa_cons (pe_var hN hv hd hcd) pa_nil hs) (by decide) (by decide) hs hpl) fun s H Q ⟨g, S, d, y, d', z, e, q⟩ => by
  unfold oln at e
  split at e
  · rename_i ds e1
    cases e
    obtain ⟨y1, e11, e12⟩ := ownL_inv e1
    obtain ⟨a, h1, h2, _⟩ := z.at_own e11
    obtain ⟨vs, k3, k4⟩ := cont_lst e12 h2
    refine ⟨_, h1, a, vs, rfl, .inl (SqL.of k3), ?_⟩
    rw [← k4.length]
    exact q _ H S (.refl _) z rep_int
  · cases e
/-- x[j] = .., x the list in slot i -/
def gst (i : Nat) (f : DE) : DG := fun w d => match ownL d i with
  | some _ => match f d with
    | some (.int j, d1) => match ownL d1 i with
      | some ds => match ixN ds.length j with
        | some k => some (Zr.put d1 i (.lst (ds.set k w)))
        | none => none
      | none => none
    | _ => none
  | none => none
theorem lg_set (i : Nat) {y : Str} (he : LE G X e f) (hN : X.N[i]? = some y := by rfl) (hv : Vis X.env.scope y := by first | exact Or.inl rfl | exact Or.inr (Or.inl rfl) | exact Or.inr (Or.inr rfl)) (hd : (y == ("__debug__" : Str)) = false := by decide) (hcd : (y == ("__classdict__" : Str)) = false := by decide)
    (ha : ∀ v, assign (.Subscript (.Name y p) e pos) X.env v = (do
      let ov ← holding [v] (eval (.Name y p) X.env)
      let iv ← holding [v, ov] (eval e X.env)
      standAt pos
      holding [v, ov, iv] (setItem ov iv v)
      release [v, ov, iv] []) := by intro _; rfl) : LG G X (.Subscript (.Name y p) e pos) (gst i f) [] := pg_weak (pg_sub (pe_var hN hv hd hcd) he set_list ha) fun v s H Q ⟨g, S, d, w, d', z, r, e, q⟩ => by
  unfold gst at e
  split at e
  · rename_i ds0 e0
    obtain ⟨y0, e01, _⟩ := ownL_inv e0
    obtain ⟨a, h1, _⟩ := z.at_own e01
    split at e
    · rename_i j d1 e1
      split at e
      · rename_i ds e2
        split at e
        · rename_i k e3
          cases e
          obtain ⟨y1, e11, e12⟩ := ownL_inv e2
          refine ⟨_, h1, g, S, d, _, d1, z, e1, fun u H' S' sm z' ru => ?_⟩
          obtain ⟨b, k1, k2, _⟩ := z'.at_own e11
          rw [h1] at k1; cases k1
          obtain ⟨vs, k3, k4⟩ := cont_lst e12 k2
          refine ⟨a, vs, j, k, rfl, inv_int ru, k3, by rw [← k4.length]; exact e3, ?_⟩
          exact q s _ S' sm .refl (z'.put e11 h1 ⟨_, upd_same, k4.set k (r.mono sm)⟩)
        · cases e
      · cases e
    · cases e
  · cases e
theorem get_listV {X : Cx} : PGet X (rIxL X.K) := by
  intro pins s σ H x y v u Q I rx ry h
  obtain ⟨p, xs, i, z, rfl, rfl, hq, he, q⟩ := h
  cases rx
  obtain ⟨t, rfl⟩ := ry
  obtain ⟨its, r, pl, hz⟩ := I.list hq
  obtain ⟨j, h1, h2, h3, h4, h5⟩ := atI_get he
  obtain ⟨w, ew, rw'⟩ := r.get h2
  have hl := r.length
  have hn := line63
  have fin : EP X pins σ Q w s := ⟨z, H, I, rw', q⟩
  by_cases h0 : 0 ≤ i
  · have hj : i.toNat = j := by
      rw [seqIndex_of h0 h5] at h1
      exact Option.some.inj h1
    exact wpAny_getItem_list pl.isList h0 (by omega) (by rw [hj]; simpa using ew) fin
  · have hj : (i + (its.toArray.size : Int)).toNat = j := by
      rw [seqIndex_neg (by omega) h4] at h1
      rw [List.size_toArray, ← hl]
      exact Option.some.inj h1
    exact wpAny_getItem_list_neg pl.isList (by omega) (by rw [List.size_toArray] <;> omega) (by omega) (by rw [hj]; simpa using ew) fin
/-- x[j] op= e of ints, x the list in slot i -/
def sau (i : Nat) (op : Int → Int → Int) (f h : DE) : DS := fun d => match ownL d i with
  | some _ => match f d with
    | some (.int j, d1) => match ownL d1 i with
      | some ds => match atI ds j with
        | some (.int a) => match h d1 with
          | some (.int b, d2) => match ownL d2 i with
            | some ds2 => match ixN ds2.length j with
              | some k => some (.nx, Zr.put d2 i (.lst (ds2.set k (.int (op a b)))))
              | none => none
            | none => none
          | _ => none
        | _ => none
      | none => none
    | _ => none
  | none => none
theorem ls_auS (i : Nat) {y : Str} {tpos : Pos} {op : Operator} {oi : Int → Int → Int} (hp : PIp X op (ipI oi)) (he : LE G X e f) (hh : LE G X a h) (hN : X.N[i]? = some y := by rfl) (hv : Vis X.env.scope y := by first | exact Or.inl rfl | exact Or.inr (Or.inl rfl) | exact Or.inr (Or.inr rfl)) (hd : (y == ("__debug__" : Str)) = false := by decide) (hcd : (y == ("__classdict__" : Str)) = false := by decide)
    (ha : ∀ ov iv new, augStore e ov iv new = (do holding [new, ov, iv] (setItem ov iv new); release [new, ov, iv] []; pure .next) := by intros; rfl) : LS G X (.AugAssign (.Subscript (.Name y p) e tpos) op a pos) (sau i oi f h) :=
  ps_weak (ps_augS (pe_var hN hv hd hcd) he get_listV hh hp set_list ha) fun D s H ⟨g, S, d, fl, d', z, e, q⟩ => by
  unfold sau at e
  split at e
  · rename_i ds0 e0
    obtain ⟨y0, e01, _⟩ := ownL_inv e0
    obtain ⟨l, h1, _⟩ := z.at_own e01
    split at e
    · rename_i j d1 e1
      split at e
      · rename_i ds e2
        split at e
        · rename_i x1 e3
          split at e
          · rename_i x2 d2 e4
            split at e
            · rename_i ds2 e5
              split at e
              · rename_i k e6
                cases e
                refine ⟨_, h1, g, S, d, _, d1, z, e1, fun u H1 S1 sm1 z1 ru => ?_⟩
                obtain ⟨y1, e11, e12⟩ := ownL_inv e2
                obtain ⟨b, k1, k2, _⟩ := z1.at_own e11
                rw [h1] at k1; cases k1
                obtain ⟨vs, k3, k4⟩ := cont_lst e12 k2
                obtain ⟨w, k5, k6⟩ := k4.atI e3
                refine ⟨l, vs, j, w, rfl, inv_int ru, SqL.of k3, k5, g, S1, d1, _, d2, z1, e4, fun u2 H2 S2 sm2 z2 ru2 => ?_⟩
                obtain ⟨y2, e21, e22⟩ := ownL_inv e5
                obtain ⟨b2, m1, m2, _⟩ := z2.at_own e21
                rw [h1] at m1; cases m1
                obtain ⟨vs2, m3, m4⟩ := cont_lst e22 m2
                refine ⟨x1, x2, inv_int k6, inv_int ru2, l, vs2, j, k, rfl, inv_int ru, m3, by rw [← m4.length]; exact e6, ?_⟩
                exact q s _ S2 (sm1.trans sm2) (z2.put e21 h1 ⟨_, upd_same, m4.set k rep_int⟩)
              · cases e
            · cases e
          · cases e
        · cases e
      · cases e
    · cases e
  · cases e
/-- x op= e of ints -/
def sag (i : Nat) (op : Int → Int → Option Int) (f : DE) : DS := fun d => match d[i]? with
  | some (.va (.int a)) => match f d with
    | some (.int b, d1) => match op a b with
      | some c => if notIo d1 i then some (.nx, d1.set i (.va (.int c))) else none
      | none => none
    | _ => none
  | _ => none
/-- an in-place operator on ints, where it is defined -/
def PIpD (X : Cx) (op : Operator) (oi : Int → Int → Option Int) : Prop := PIp X op (fun x y H Q => ∃ i j k, x = .int i ∧ y = .int j ∧ oi i j = some k ∧ Q (.int k) H)
theorem ls_aug (i : Nat) {y : Str} {pos' : Pos} {op : Operator} {oi : Int → Int → Option Int} (hN : X.N.Nodup) (ho : PIpD X op oi) (he : LE G X e f) (hi : X.N[i]? = some y) (hx : Loc X.env.scope y) (hf : X.fn y = true ∨ X.env.scope.names.lookup y = some .local := by first | exact .inl rfl | exact .inr rfl | assumption) :
    LS G X (.AugAssign (.Name y pos') op e pos) (sag i oi f) := ps_weak (ps_aug hN hi hx he ho hf) fun D s H ⟨g, S, d, fl, d', z, e, q⟩ => by
  unfold sag at e
  split at e
  · rename_i a e1
    split at e
    · rename_i b d1 e2
      split at e
      · rename_i c e3
        split at e
        · rename_i e4
          cases e
          obtain ⟨w, h1, v, rfl, r⟩ := z.sl i _ e1
          cases inv_int r
          refine ⟨_, h1, g, S, d, _, d1, z, e2, fun u H' S' sm z' ru => ?_⟩
          exact ⟨a, b, c, rfl, inv_int ru, e3, q _ H' S' sm (z'.setVa e4 rep_int)⟩
        · cases e
      · cases e
    · cases e
  · cases e
end
end Zr

/-! Zr: operators and built-ins over data. -/
namespace Zr
open PySem L2

/-! ### ints -/
def ii (k : Int → Int → Option Int) : D → D → Option D
  | .int a, .int b => match k a b with
    | some c => some (.int c)
    | none => none
  | _, _ => none
def ib (k : Int → Int → Bool) : D → D → Option D
  | .int a, .int b => some (.bl (k a b))
  | _, _ => none
def iMul (a b : Int) : Option Int := if a.natAbs.log2 + b.natAbs.log2 < 1000000 then some (a * b) else none
def iDiv (a b : Int) : Option Int := if b ≠ 0 ∧ b.natAbs.log2 < 9000 then some (a.fdiv b) else none
def iMod (a b : Int) : Option Int := if b ≠ 0 then some (a.fmod b) else none
def iPow (a b : Int) : Option Int := if 0 ≤ b ∧ b ≤ 1000000 ∧ a.natAbs < 2 ^ 64 then some (a ^ b.toNat) else none
section
variable {G : Cls} {X : Cx} {S H : Hp} {d : D} {ds : List D} {v w : V}
theorem ii_inv {k : Int → Int → Option Int} {x y z : D} (e : ii k x y = some z) : ∃ a b c, x = .int a ∧ y = .int b ∧ z = .int c ∧ k a b = some c := by
  unfold ii at e
  split at e
  · rename_i a b
    split at e
    · rename_i c e1; cases e; exact ⟨a, b, c, rfl, rfl, rfl, e1⟩
    · cases e
  · cases e
theorem ib_inv {k : Int → Int → Bool} {x y z : D} (e : ib k x y = some z) : ∃ a b, x = .int a ∧ y = .int b ∧ z = .bl (k a b) := by
  unfold ib at e
  split at e
  · rename_i a b; cases e; exact ⟨a, b, rfl, rfl, rfl⟩
  · cases e
theorem r_ii {C : Int → Int → Prop} {g : Int → Int → Int} {k : Int → Int → Option Int} (h : ∀ a b c, k a b = some c → C a b ∧ c = g a b) : R2D G (ii k) (rI C fun i j => .int (g i j)) := fun S H x y z v w Q sm rx ry e q => by
  obtain ⟨a, b, c, rfl, rfl, rfl, e1⟩ := ii_inv e
  obtain ⟨h1, rfl⟩ := h a b c e1
  exact ⟨a, b, inv_int rx, inv_int ry, h1, q _ S H (.refl sm) rep_int⟩
theorem r_ib {k : Int → Int → Bool} : R2D G (ib k) (rI0 fun i j => .bl (k i j)) := fun S H x y z v w Q sm rx ry e q => by
  obtain ⟨a, b, rfl, rfl, rfl⟩ := ib_inv e
  exact ⟨a, b, inv_int rx, inv_int ry, q _ S H (.refl sm) rep_bl⟩
theorem r_sub : R2D G (ii fun a b => some (a - b)) (rI0 fun i j => .int (i - j)) := fun S H x y z v w Q sm rx ry e q => by
  obtain ⟨a, b, c, rfl, rfl, rfl, e1⟩ := ii_inv e
  cases e1
  exact ⟨a, b, inv_int rx, inv_int ry, q _ S H (.refl sm) rep_int⟩
theorem r_mul : R2D G (ii iMul) (rI CMulW fun i j => .int (i * j)) := r_ii fun a b c e => by
  unfold iMul at e
  split at e
  · rename_i h; cases e; exact ⟨h, rfl⟩
  · cases e
def CDivA (_ j : Int) : Prop := j ≠ 0 ∧ j.natAbs.log2 < 9000
theorem op_fdivA : OpR X (binaryOp .FloorDiv) (rI CDivA fun i j => .int (i.fdiv j)) := opI fun i j _ _ _ _ _ hc q => PyProof.Rows.floordiv_int hc.1 q (.inl (PyProof.noPylong_of_log2 hc.2))
theorem r_div : R2D G (ii iDiv) (rI CDivA fun i j => .int (i.fdiv j)) := r_ii fun a b c e => by
  unfold iDiv at e
  split at e
  · rename_i h; cases e; exact ⟨h, rfl⟩
  · cases e
theorem r_mod : R2D G (ii iMod) (rI (fun _ j => j ≠ 0) fun i j => .int (i.fmod j)) := r_ii fun a b c e => by
  unfold iMod at e
  split at e
  · rename_i h; cases e; exact ⟨h, rfl⟩
  · cases e
theorem r_pow : R2D G (ii iPow) (rI CPow fun i j => .int (i ^ j.toNat)) := r_ii fun a b c e => by
  unfold iPow at e
  split at e
  · rename_i h; cases e; exact ⟨h, rfl⟩
  · cases e
def iNeg : D → Option D
  | .int a => some (.int (-a))
  | _ => none
theorem r_neg : R1D G iNeg (rU fun i => .int (-i)) := fun S H x z v Q sm rx e q => by
  unfold iNeg at e
  split at e
  · cases e; exact ⟨_, inv_int rx, q _ S H (.refl sm) rep_int⟩
  · cases e
theorem pip_of {op : Operator} {C : Int → Int → Prop} {g : Int → Int → Int} {k : Int → Int → Option Int} (ho : OpR X (inplaceOp op) (rI C fun i j => .int (g i j))) (h : ∀ a b c, k a b = some c → C a b ∧ c = g a b) : PIpD X op k := by
  intro pins s σ H x y v u Q I r1 r2 hh
  obtain ⟨i, j, c, rfl, rfl, e, q⟩ := hh
  obtain ⟨h1, rfl⟩ := h i j c e
  exact ho pins s σ H _ _ v u Q I r1 r2 ⟨i, j, rfl, rfl, h1, q⟩
theorem pip_add : PIpD X .Add (fun a b => some (a + b)) := by
  intro pins s σ H x y v u Q I r1 r2 hh
  obtain ⟨i, j, c, rfl, rfl, e, q⟩ := hh
  cases e
  exact iop_add pins s σ H _ _ v u Q I r1 r2 ⟨i, j, rfl, rfl, q⟩
theorem pip_sub : PIpD X .Sub (fun a b => some (a - b)) := by
  intro pins s σ H x y v u Q I r1 r2 hh
  obtain ⟨i, j, c, rfl, rfl, e, q⟩ := hh
  cases e
  exact iop_sub pins s σ H _ _ v u Q I r1 r2 ⟨i, j, rfl, rfl, q⟩
theorem iop_mulW : OpR X (inplaceOp .Mult) (rI CMulW fun i j => .int (i * j)) := opI fun _ _ _ _ _ _ _ hc q => PyProof.Rows.imul_int q hc.ok
theorem pip_mul : PIpD X .Mult iMul := pip_of iop_mulW fun a b c e => by
  unfold iMul at e
  split at e
  · rename_i h; cases e; exact ⟨h, rfl⟩
  · cases e

/-! ### + -/
def addD : D → D → Option D
  | .int a, .int b => some (.int (a + b))
  | .str a, .str b => if a.length + b.length ≤ sizeLine then some (.str (a ++ b)) else none
  | .tup a, .tup b => if a.length + b.length ≤ sizeLine then some (.tup (a ++ b)) else none
  | .lst a, .lst b => if a.length + b.length ≤ sizeLine then some (.lst (a ++ b)) else none
  | _, _ => none
def rAdd (K : PySem.W.Frag) : R2 := fun x y H Q => (rI0 (fun i j => .int (i + j)) x y H Q ∨ (∃ i j, x = .str i ∧ y = .str j ∧ i.length + j.length ≤ sizeLine ∧ Q (.str (i ++ j)) H)) ∨ (rCatA K x y H Q ∨ rCat x y H Q)
theorem op_addD : OpR X (binaryOp .Add) (rAdd X.K) := OpR.or (OpR.or op_add op_add_str) (OpR.or op_catA op_cat)
theorem rep_tup_new {p : Addr} {vs : List V} (h : S p = some (.tup vs)) (r : RepL G S ds vs) : Rep G S (.tup ds) (.ref p) := by unfold Rep; exact ⟨p, vs, rfl, SqT.of h, r⟩
theorem rep_lst_new {p : Addr} {vs : List V} (h : S p = some (.lst vs)) (r : RepL G S ds vs) : Rep G S (.lst ds) (.ref p) := by unfold Rep; exact ⟨p, vs, rfl, h, r⟩
theorem r_add (hK : G.K = X.K) : R2D G addD (rAdd X.K) := fun S H x y z v w Q sm rx ry e q => by
  unfold addD at e
  split at e
  · cases e; exact .inl (.inl ⟨_, _, inv_int rx, inv_int ry, q _ S H (.refl sm) rep_int⟩)
  · split at e
    · rename_i h; cases e; exact .inl (.inr ⟨_, _, inv_str rx, inv_str ry, h, q _ S H (.refl sm) rep_str⟩)
    · cases e
  · rename_i ds es
    split at e
    · rename_i h
      cases e
      obtain ⟨a, vs, rfl, h1, r1⟩ := inv_tup rx
      obtain ⟨b, us, rfl, h2, r2⟩ := inv_tup ry
      have l1 := r1.length
      have l2 := r2.length
      rw [hK] at h1 h2
      refine .inr (.inl ⟨a, b, vs, us, rfl, rfl, same_seqT sm h1, same_seqT sm h2, by omega, fun e0 => ?_, fun _ e0 => ?_, fun _ _ p hp => ?_⟩)
      · subst e0
        have : ds = [] := List.length_eq_zero_iff.mp l1
        subst this
        exact q _ S H (.refl sm) ry
      · subst e0
        have : es = [] := List.length_eq_zero_iff.mp l2
        subst this
        rw [List.append_nil] at q
        exact q _ S H (.refl sm) rx
      · have ex := Ext.alloc (o := .tup (vs ++ us)) sm hp
        exact q _ _ _ ex (rep_tup_new upd_same ((r1.append r2).mono ex.s))
    · cases e
  · rename_i ds es
    split at e
    · rename_i h
      cases e
      obtain ⟨a, vs, rfl, h1, r1⟩ := inv_lst rx
      obtain ⟨b, us, rfl, h2, r2⟩ := inv_lst ry
      have l1 := r1.length
      have l2 := r2.length
      refine .inr (.inr ⟨a, b, vs, us, rfl, rfl, sm _ _ h1, sm _ _ h2, by omega, fun p hp => ?_⟩)
      have ex := Ext.alloc (o := .lst (vs ++ us)) sm hp
      exact q _ _ _ ex (rep_lst_new upd_same ((r1.append r2).mono ex.s))
    · cases e
  · cases e
/-- * of ints, of a short tuple and a number -/
def repT (ds : List D) (k : Int) : Option D := if ds.length = 1 ∧ 2 ≤ k ∧ k ≤ 1000 then some (.tup (List.replicate k.toNat ds).flatten) else none
def mulD : D → D → Option D
  | .int a, .int b => match iMul a b with
    | some c => some (.int c)
    | none => none
  | .tup a, .int b => repT a b
  | _, _ => none
def rMulA (K : PySem.W.Frag) : R2 := fun x y H Q => rI CMulW (fun i j => .int (i * j)) x y H Q ∨ rRepT K x y H Q
theorem op_mulD : OpR X (binaryOp .Mult) (rMulA X.K) := OpR.or op_mulW op_repT
theorem RepL.repl : ∀ {ds : List D} {vs : List V} (n : Nat), RepL G S ds vs → RepL G S (List.replicate n ds).flatten (List.replicate n vs).flatten
  | _, _, 0, _ => by simp; exact .nil
  | _, _, n + 1, h => by simp only [List.replicate_succ, List.flatten_cons]; exact h.append (RepL.repl n h)
theorem r_mulD (hK : G.K = X.K) : R2D G mulD (rMulA X.K) := fun S H x y z v w Q sm rx ry e q => by
  unfold mulD at e
  split at e
  · rename_i a b
    exact .inl (r_mul S H _ _ z v w Q sm rx ry e q)
  · rename_i ds b
    unfold repT at e
    split at e
    · rename_i h
      cases e
      obtain ⟨a, vs, rfl, h1, r1⟩ := inv_tup rx
      rw [hK] at h1
      have l1 := r1.length
      refine .inr ⟨a, b, vs, rfl, inv_int ry, same_seqT sm h1, (fun e0 => by subst e0; rw [h.1] at l1; cases l1), h.2.1, h.2.2, by omega, fun p hp => ?_⟩
      have ex := Ext.alloc (o := .tup (List.replicate b.toNat vs).flatten) sm hp
      exact q _ _ _ ex (rep_tup_new upd_same ((r1.repl _).mono ex.s))
    · cases e
  · cases e

/-! ### == of plain data -/
mutual
def py : D → Option PyData
  | .non => some .none
  | .bl b => some (.bool b)
  | .int i => some (.int i)
  | .str x => some (.str x)
  | .tup ds => match pyL ds with
    | some t => some (.tuple t)
    | none => none
  | .lst ds => match pyL ds with
    | some t => some (.list t)
    | none => none
  | .scr ns => some (.list (ns.map PyData.int))
  | .ob _ _ => none
  | .fn _ => none
  | .dic _ => none
  | .dis _ => none
  | .dil _ _ => none
  | .ex _ => none
def pyL : List D → Option (List PyData)
  | [] => some []
  | d :: ds => match py d with
    | some x => match pyL ds with
      | some xs => some (x :: xs)
      | none => none
    | none => none
end
theorem dpAll_ints {K : PySem.W.Frag} : ∀ ns : List Int, DpAll K H (ns.map V.int) (ns.map PyData.int)
  | [] => .nil
  | n :: r => .cons (.int n) (dpAll_ints r)
mutual
theorem py_dp (hK : G.K = X.K) (sm : Same S H) : ∀ {d : D} {v : V} {p : PyData}, Rep G S d v → py d = some p → Dp X.K H v p
  | .non, _, _, r, e => by cases e; rw [inv_non r]; exact .non
  | .bl _, _, _, r, e => by cases e; rw [inv_bl r]; exact .bl _
  | .int _, _, _, r, e => by cases e; rw [inv_int r]; exact .int _
  | .str _, _, _, r, e => by cases e; rw [inv_str r]; exact .str _
  | .tup ds, _, _, r, e => by
    unfold py at e
    split at e
    · rename_i t e1
      cases e
      obtain ⟨a, vs, rfl, h1, r1⟩ := inv_tup r
      rw [hK] at h1
      exact .tup (same_seqT sm h1) (py_dpL hK sm r1 e1)
    · cases e
  | .lst ds, _, _, r, e => by
    unfold py at e
    split at e
    · rename_i t e1
      cases e
      obtain ⟨a, vs, rfl, h1, r1⟩ := inv_lst r
      exact .lst (SqL.of (sm _ _ h1)) (py_dpL hK sm r1 e1)
    · cases e
  | .scr ns, _, _, r, e => by
    cases e
    obtain ⟨a, rfl, h1⟩ := inv_scr r
    rw [hK] at h1
    exact .lst (sm.seq h1) (dpAll_ints ns)
  | .ob _ _, _, _, _, e => by simp [py] at e
  | .fn _, _, _, _, e => by simp [py] at e
  | .dic _, _, _, _, e => by simp [py] at e
  | .dis _, _, _, _, e => by simp [py] at e
  | .dil _ _, _, _, _, e => by simp [py] at e
  | .ex _, _, _, _, e => by simp [py] at e
theorem py_dpL (hK : G.K = X.K) (sm : Same S H) : ∀ {ds : List D} {vs : List V} {p : List PyData}, RepL G S ds vs → pyL ds = some p → DpAll X.K H vs p
  | [], _, _, r, e => by cases e; unfold RepL at r; subst r; exact .nil
  | d :: ds, _, _, r, e => by
    unfold RepL at r
    obtain ⟨v, vr, rfl, r1, r2⟩ := r
    unfold pyL at e
    split at e
    · rename_i x e1
      split at e
      · rename_i xs e2
        cases e
        exact .cons (py_dp hK sm r1 e1) (py_dpL hK sm r2 e2)
      · cases e
    · cases e
end
def eqP (x y : D) : Option Bool := match py x, py y with
  | some a, some b => if SeqAt.shaped a && SeqAt.shaped b then some (PyData.eqv a b) else none
  | _, _ => none
def eqD (x y : D) : Option D := match eqP x y with
  | some b => some (.bl b)
  | none => none
def neD (x y : D) : Option D := match eqP x y with
  | some b => some (.bl !b)
  | none => none
theorem eqP_inv (hK : G.K = X.K) (sm : Same S H) {x y : D} {b : Bool} (rx : Rep G S x v) (ry : Rep G S y w) (e : eqP x y = some b) : ∃ d e, Dp X.K H v d ∧ Dp X.K H w e ∧ SeqAt.shaped d = true ∧ SeqAt.shaped e = true ∧ b = PyData.eqv d e := by
  unfold eqP at e
  split at e
  · rename_i p q e1 e2
    split at e
    · rename_i h
      rw [Bool.and_eq_true] at h
      cases e
      exact ⟨p, q, py_dp hK sm rx e1, py_dp hK sm ry e2, h.1, h.2, rfl⟩
    · cases e
  · cases e
theorem r_eq (hK : G.K = X.K) : R2D G eqD (rEqD X.K) := fun S H x y z v w Q sm rx ry e q => by
  unfold eqD at e
  split at e
  · rename_i b e1
    cases e
    obtain ⟨p, p', h1, h2, h3, h4, rfl⟩ := eqP_inv hK sm rx ry e1
    exact ⟨p, p', h1, h2, h3, h4, q _ S H (.refl sm) rep_bl⟩
  · cases e
theorem r_ne (hK : G.K = X.K) : R2D G neD (rNeD X.K) := fun S H x y z v w Q sm rx ry e q => by
  unfold neD at e
  split at e
  · rename_i b e1
    cases e
    obtain ⟨p, p', h1, h2, h3, h4, rfl⟩ := eqP_inv hK sm rx ry e1
    exact ⟨p, p', h1, h2, h3, h4, q _ S H (.refl sm) rep_bl⟩
  · cases e
def isNonD : D → Bool
  | .non => true
  | _ => false
/-- is None, is True .. -/
def isN : D → D → Option D
  | x, .non => some (.bl (isNonD x))
  | .bl a, .bl b => some (.bl (a == b))
  | _, _ => none
def noN : D → D → Option D
  | x, .non => some (.bl (!isNonD x))
  | .bl a, .bl b => some (.bl (!(a == b)))
  | _, _ => none
theorem rep_isNon {x : D} (r : Rep G S x v) : decide (v = .non) = isNonD x := by
  cases x with
  | non => rw [inv_non r]; rfl
  | bl _ => rw [inv_bl r]; rfl
  | int _ => rw [inv_int r]; rfl
  | str _ => rw [inv_str r]; rfl
  | tup _ => obtain ⟨a, vs, rfl, _⟩ := inv_tup r; rfl
  | lst _ => obtain ⟨a, vs, rfl, _⟩ := inv_lst r; rfl
  | scr _ => obtain ⟨a, rfl, _⟩ := inv_scr r; rfl
  | dic _ => obtain ⟨a, o, rfl, _⟩ := inv_dic r; rfl
  | dis _ => obtain ⟨a, o, rfl, _⟩ := inv_dis r; rfl
  | dil _ _ => obtain ⟨a, o, us, rfl, _⟩ := inv_dil r; rfl
  | ex _ => obtain ⟨a, rfl, _⟩ := inv_ex r; rfl
  | ob _ _ => obtain ⟨a, _, vs, rfl, _⟩ := inv_ob r; rfl
  | fn _ => unfold Rep at r; subst r; rfl
def rIsA : R2 := fun x y H Q => (y = .non ∧ Q (.bl (decide (x = .non))) H) ∨ rIsB x y H Q
def rNotA : R2 := fun x y H Q => (y = .non ∧ Q (.bl (!decide (x = .non))) H) ∨ rNotB x y H Q
theorem op_isA : OpR X (compareOp .Is) rIsA := OpR.or op_isN op_isBl
theorem op_notA : OpR X (compareOp .IsNot) rNotA := OpR.or op_notN op_notBl
theorem r_is : R2D G isN rIsA := fun S H x y z v w Q sm rx ry e q => by
  unfold isN at e
  split at e
  · cases e
    refine .inl ⟨inv_non ry, ?_⟩
    rw [rep_isNon rx]
    exact q _ S H (.refl sm) rep_bl
  · rename_i a b
    cases e
    refine .inr ⟨a, b, inv_bl rx, inv_bl ry, ?_⟩
    rw [← Bool.beq_eq_decide_eq]
    exact q _ S H (.refl sm) rep_bl
  · cases e
theorem r_no : R2D G noN rNotA := fun S H x y z v w Q sm rx ry e q => by
  unfold noN at e
  split at e
  · cases e
    refine .inl ⟨inv_non ry, ?_⟩
    rw [rep_isNon rx]
    exact q _ S H (.refl sm) rep_bl
  · rename_i a b
    cases e
    refine .inr ⟨a, b, inv_bl rx, inv_bl ry, ?_⟩
    rw [← Bool.beq_eq_decide_eq]
    exact q _ S H (.refl sm) rep_bl
  · cases e

/-! ### in -/
theorem un65 {k : Nat} {A : Around} (r : Room k A) : A.units + 65 < cLine := by have := r.un; omega
def flat : D → Option V
  | .non => some .non
  | .bl b => some (.bl b)
  | .int i => some (.int i)
  | .str x => some (.str x)
  | _ => none
def flatL : List D → Option (List V)
  | [] => some []
  | d :: ds => match flat d with
    | some x => match flatL ds with
      | some xs => some (x :: xs)
      | none => none
    | none => none
theorem flat_rep {x : D} {u : V} (r : Rep G S x v) (e : flat x = some u) : v = u ∧ flatV v = true := by
  cases x with
  | non => cases e; exact ⟨inv_non r, by rw [inv_non r]; rfl⟩
  | bl _ => cases e; exact ⟨inv_bl r, by rw [inv_bl r]; rfl⟩
  | int _ => cases e; exact ⟨inv_int r, by rw [inv_int r]; rfl⟩
  | str _ => cases e; exact ⟨inv_str r, by rw [inv_str r]; rfl⟩
  | tup _ => cases e
  | lst _ => cases e
  | scr _ => cases e
  | dic _ => cases e
  | dis _ => cases e
  | dil _ _ => cases e
  | ex _ => cases e
  | ob _ _ => cases e
  | fn _ => cases e
theorem flatL_rep : ∀ {ds : List D} {vs us : List V}, RepL G S ds vs → flatL ds = some us → vs = us ∧ vs.all flatV = true
  | [], _, _, r, e => by cases e; unfold RepL at r; subst r; exact ⟨rfl, rfl⟩
  | d :: ds, _, _, r, e => by
    unfold RepL at r
    obtain ⟨v, vr, rfl, r1, r2⟩ := r
    unfold flatL at e
    split at e
    · rename_i x e1
      split at e
      · rename_i xs e2
        cases e
        obtain ⟨h1, h2⟩ := flat_rep r1 e1
        obtain ⟨h3, h4⟩ := flatL_rep r2 e2
        exact ⟨by rw [h1, h3], by rw [List.all_cons, h2, h4]; rfl⟩
      · cases e
    · cases e
/-- the members, where all is flat -/
def inB (x : D) (ds : List D) : Option Bool := match flat x, flatL ds with
  | some u, some us => some (inV u us)
  | _, _ => none
/-- the members of a list, where all is plain -/
def inP (x : D) (ds : List D) : Option Bool := match py x, pyL ds with
  | some a, some bs => if SeqAt.shaped a && SeqAt.shaped (.list bs) then some (bs.any fun z => PyData.eqv z a) else none
  | _, _ => none
theorem inP_inv (hK : G.K = X.K) (sm : Same S H) {x : D} {ds : List D} {b : Bool} (rx : Rep G S x v) (ry : Rep G S (.lst ds) w) (e : inP x ds = some b) : ∃ d es, Dp X.K H v d ∧ Dp X.K H w (.list es) ∧ SeqAt.shaped d = true ∧ SeqAt.shaped (.list es) = true ∧ b = (es.any fun z => PyData.eqv z d) := by
  unfold inP at e
  split at e
  · rename_i p q e1 e2
    split at e
    · rename_i h
      rw [Bool.and_eq_true] at h
      cases e
      exact ⟨p, q, py_dp hK sm rx e1, py_dp hK sm ry (by unfold py; rw [e2]), h.1, h.2, rfl⟩
    · cases e
  · cases e
/-- the members of a tuple, where all is plain -/
def inPT (x : D) (ds : List D) : Option Bool := match py x, pyL ds with
  | some a, some bs => if SeqAt.shaped a && SeqAt.shaped (.tuple bs) then some (bs.any fun z => PyData.eqv z a) else none
  | _, _ => none
theorem inPT_inv (hK : G.K = X.K) (sm : Same S H) {x : D} {ds : List D} {b : Bool} (rx : Rep G S x v) (ry : Rep G S (.tup ds) w) (e : inPT x ds = some b) : ∃ d es, Dp X.K H v d ∧ Dp X.K H w (.tuple es) ∧ SeqAt.shaped d = true ∧ SeqAt.shaped (.tuple es) = true ∧ b = (es.any fun z => PyData.eqv z d) := by
  unfold inPT at e
  split at e
  · rename_i p q e1 e2
    split at e
    · rename_i h
      rw [Bool.and_eq_true] at h
      cases e
      exact ⟨p, q, py_dp hK sm rx e1, py_dp hK sm ry (by unfold py; rw [e2]), h.1, h.2, rfl⟩
    · cases e
  · cases e
def rInT (K : PySem.W.Frag) : R2 := fun x y H Q => ∃ d ds, Dp K H x d ∧ Dp K H y (.tuple ds) ∧ SeqAt.shaped d = true ∧ SeqAt.shaped (.tuple ds) = true ∧ Q (.bl (ds.any fun z => PyData.eqv z d)) H
theorem op_inT (hu : X.A.units + 65 < cLine) : OpR X (compareOp .In) (rInT X.K) := by
  intro pins s σ H x y v u Q I rx ry h
  obtain ⟨d, ds, hd, he, sd, se, q⟩ := h
  obtain ⟨as, r1⟩ := Dp.reads I d x v hd rx
  obtain ⟨bs, r2⟩ := Dp.reads I (.tuple ds) y u he ry
  exact SeqAt.in_tuple_reads r2 r1 (SeqAt.canLay_of_shaped se) (SeqAt.canLay_of_shaped sd) (PyProof.Rows.room_in_shaped sd hu) ⟨.bl _, H, I, rfl, q⟩
def inD : D → D → Option D
  | x, .tup ds => match inB x ds with
    | some b => some (.bl b)
    | none => match inPT x ds with
      | some b => some (.bl b)
      | none => none
  | x, .lst ds => match inB x ds with
    | some b => some (.bl b)
    | none => match inP x ds with
      | some b => some (.bl b)
      | none => none
  | .str a, .str b => some (.bl (!(Builtin.Str.occurrences b a 0 b.length 1).isEmpty))
  | _, _ => none
def niD : D → D → Option D
  | x, .tup ds => match inB x ds with
    | some b => some (.bl !b)
    | none => none
  | x, .lst ds => match inB x ds with
    | some b => some (.bl !b)
    | none => match inP x ds with
      | some b => some (.bl !b)
      | none => none
  | .str a, .str b => some (.bl (!(!(Builtin.Str.occurrences b a 0 b.length 1).isEmpty)))
  | _, _ => none
theorem inB_rep {x : D} {ds : List D} {vs : List V} {b : Bool} (r : Rep G S x v) (rs : RepL G S ds vs) (e : inB x ds = some b) : flatV v = true ∧ vs.all flatV = true ∧ b = inV v vs := by
  unfold inB at e
  split at e
  · rename_i u us e1 e2
    cases e
    obtain ⟨h1, h2⟩ := flat_rep r e1
    obtain ⟨h3, h4⟩ := flatL_rep rs e2
    exact ⟨h2, h4, by rw [h1, h3]⟩
  · cases e
def rInA (K : PySem.W.Frag) : R2 := fun x y H Q => (rIn K false x y H Q ∨ ∃ i j, x = .str i ∧ y = .str j ∧ Q (.bl (!(Builtin.Str.occurrences j i 0 j.length 1).isEmpty)) H) ∨ rInD K x y H Q ∨ rInT K x y H Q
def rNiA (K : PySem.W.Frag) : R2 := fun x y H Q => (rIn K true x y H Q ∨ ∃ i j, x = .str i ∧ y = .str j ∧ Q (.bl (!(!(Builtin.Str.occurrences j i 0 j.length 1).isEmpty))) H) ∨ rNotInD K x y H Q
theorem op_inA (hu : X.A.units + 65 < cLine) : OpR X (compareOp .In) (rInA X.K) := OpR.or (OpR.or op_in_seq op_in_str) (OpR.or (op_inD hu) (op_inT hu))
theorem op_niA (hu : X.A.units + 65 < cLine) : OpR X (compareOp .NotIn) (rNiA X.K) := OpR.or (OpR.or op_notIn_seq op_notIn_str) (op_notInD hu)
theorem r_in (hK : G.K = X.K) : R2D G inD (rInA X.K) := fun S H x y z v w Q sm rx ry e q => by
  unfold inD at e
  split at e
  · split at e
    · rename_i b e1
      cases e
      obtain ⟨a, vs, rfl, h1, r1⟩ := inv_tup ry
      rw [hK] at h1
      obtain ⟨f1, f2, rfl⟩ := inB_rep rx r1 e1
      exact .inl (.inl ⟨a, vs, rfl, .inr (same_seqT sm h1), f1, f2, q _ S H (.refl sm) rep_bl⟩)
    · split at e
      · rename_i b e1
        cases e
        obtain ⟨d, es, h1, h2, h3, h4, rfl⟩ := inPT_inv hK sm rx ry e1
        exact .inr (.inr ⟨d, es, h1, h2, h3, h4, q _ S H (.refl sm) rep_bl⟩)
      · cases e
  · split at e
    · rename_i b e1
      cases e
      obtain ⟨a, vs, rfl, h1, r1⟩ := inv_lst ry
      obtain ⟨f1, f2, rfl⟩ := inB_rep rx r1 e1
      exact .inl (.inl ⟨a, vs, rfl, .inl (SqL.of (sm _ _ h1)), f1, f2, q _ S H (.refl sm) rep_bl⟩)
    · split at e
      · rename_i b e1
        cases e
        obtain ⟨d, es, h1, h2, h3, h4, rfl⟩ := inP_inv hK sm rx ry e1
        exact .inr (.inl ⟨d, es, h1, h2, h3, h4, q _ S H (.refl sm) rep_bl⟩)
      · cases e
  · cases e
    exact .inl (.inr ⟨_, _, inv_str rx, inv_str ry, q _ S H (.refl sm) rep_bl⟩)
  · cases e
theorem r_ni (hK : G.K = X.K) : R2D G niD (rNiA X.K) := fun S H x y z v w Q sm rx ry e q => by
  unfold niD at e
  split at e
  · split at e
    · rename_i b e1
      cases e
      obtain ⟨a, vs, rfl, h1, r1⟩ := inv_tup ry
      rw [hK] at h1
      obtain ⟨f1, f2, rfl⟩ := inB_rep rx r1 e1
      exact .inl (.inl ⟨a, vs, rfl, .inr (same_seqT sm h1), f1, f2, q _ S H (.refl sm) rep_bl⟩)
    · cases e
  · split at e
    · rename_i b e1
      cases e
      obtain ⟨a, vs, rfl, h1, r1⟩ := inv_lst ry
      obtain ⟨f1, f2, rfl⟩ := inB_rep rx r1 e1
      exact .inl (.inl ⟨a, vs, rfl, .inl (SqL.of (sm _ _ h1)), f1, f2, q _ S H (.refl sm) rep_bl⟩)
    · split at e
      · rename_i b e1
        cases e
        obtain ⟨d, es, h1, h2, h3, h4, rfl⟩ := inP_inv hK sm rx ry e1
        exact .inr ⟨d, es, h1, h2, h3, h4, q _ S H (.refl sm) rep_bl⟩
      · cases e
  · cases e
    exact .inl (.inr ⟨_, _, inv_str rx, inv_str ry, q _ S H (.refl sm) rep_bl⟩)
  · cases e

/-! ### items, slices -/
def ixD : D → D → Option D
  | .tup ds, .int j => atI ds j
  | .lst ds, .int j => atI ds j
  | .scr ns, .int j => match atI ns j with
    | some n => some (.int n)
    | none => none
  | .str z, .int j => if z.length ≤ sizeLine then match atI z.cps.toList j with
      | some c => some (.str ⟨#[c]⟩)
      | none => none
    else none
  | _, _ => none
theorem atI_map {α β : Type} (f : α → β) {xs : List α} {j : Int} {y : α} (e : atI xs j = some y) : atI (xs.map f) j = some (f y) := by
  unfold atI at e ⊢
  obtain ⟨k, e1, e2⟩ := Option.bind_eq_some_iff.mp e
  rw [List.length_map, e1]
  show (xs.map f)[k]? = _
  rw [List.getElem?_map, e2]
  rfl
theorem r_ix (hK : G.K = X.K) : R2D G ixD (rIx X.K) := fun S H x y z v w Q sm rx ry e q => by
  unfold ixD at e
  split at e
  · obtain ⟨a, vs, rfl, h1, r1⟩ := inv_tup rx
    rw [hK] at h1
    obtain ⟨u, e1, r2⟩ := r1.atI e
    exact .inr (.inl ⟨a, vs, _, u, rfl, inv_int ry, same_seqT sm h1, e1, q u S H (.refl sm) r2⟩)
  · obtain ⟨a, vs, rfl, h1, r1⟩ := inv_lst rx
    obtain ⟨u, e1, r2⟩ := r1.atI e
    exact .inl ⟨a, vs, _, u, rfl, inv_int ry, SqL.of (sm _ _ h1), e1, q u S H (.refl sm) r2⟩
  · split at e
    · rename_i n e1
      cases e
      obtain ⟨a, rfl, h1⟩ := inv_scr rx
      rw [hK] at h1
      exact .inl ⟨a, _, _, _, rfl, inv_int ry, sm.seq h1, atI_map V.int e1, q _ S H (.refl sm) rep_int⟩
    · cases e
  · split at e
    · rename_i hl
      split at e
      · rename_i c e1
        cases e
        exact .inr (.inr ⟨_, _, c, inv_str rx, inv_int ry, hl, e1, q _ S H (.refl sm) rep_str⟩)
      · cases e
    · cases e
  · cases e
end
section
variable {G : Cls} {X : Cx} {e a b c o : Expr} {es : List Expr} {f h k : DE} {pos p2 : Pos}
theorem le_ix (hK : G.K = X.K) (ha : LE G X a f) (hb : LE G X b h) (hs : PlainIx b) : LE G X (.Subscript a b pos) (b2 ixD f h) := pe_weak (pe_ix ix_seq ha hb hs) fun _ _ _ => lift2 (r_ix hK)
/-- a slice's parts -/
abbrev DO := Ev → Option (Option Int × Ev)
def oN : DO := fun d => some (none, d)
def oS (f : DE) : DO := fun d => match f d with
  | some (.int i, d1) => some (some i, d1)
  | _ => none
def liftO (G : Cls) (f : DO) : TO := fun s H Q => ∃ g S d x d', Zt G g S s H d ∧ f d = some (x, d') ∧ ∀ H' S', Same S S' → Zt G g S' s H' d' → Q x H'
abbrev LO (G : Cls) (X : Cx) (e : Option Expr) (f : DO) : Prop := PO X e (liftO G f)
theorem lo_none : LO G X none oN := ⟨fun pins s σ H Q I ⟨g, S, d, x, d', z, e, q⟩ => by cases e; exact po_none.run pins s σ H Q I (q H S (.refl _) z)⟩
theorem lo_some (he : LE G X e f) : LO G X (some e) (oS f) := ⟨fun pins s σ H Q I ⟨g, S, d, x, d', z, e, q⟩ => (po_some he).run pins s σ H Q I (by
  unfold oS at e
  split at e
  · rename_i i d1 e1
    cases e
    exact ⟨g, S, d, .int i, d', z, e1, fun v H' S' sm z' r => ⟨i, inv_int r, q H' S' sm z'⟩⟩
  · cases e)⟩
/-- the items from lo to hi -/
def cutL {α : Type} (xs : List α) (lo hi : Option Int) : List α := (xs.drop (HT.sIx xs.length 0 lo)).take (HT.sIx xs.length xs.length hi - HT.sIx xs.length 0 lo)
def slD : D → Option Int → Option Int → Option D
  | .tup ds, lo, hi => some (.tup (cutL ds lo hi))
  | .lst ds, lo, hi => some (.lst (cutL ds lo hi))
  | .scr ns, lo, hi => some (.lst ((cutL ns lo hi).map D.int))
  | .str z, lo, hi => if z.length ≤ sizeLine then some (.str (cutS z lo hi)) else none
  | _, _, _ => none
def sl (f : DE) (lo hi : DO) : DE := fun d => match f d with
  | some (x, d1) => match lo d1 with
    | some (i, d2) => match hi d2 with
      | some (j, d3) => match slD x i j with
        | some z => some (z, d3)
        | none => none
      | none => none
    | none => none
  | none => none
def rSl (K : PySem.W.Frag) : V → Option Int → Option Int → Hp → VK → Prop := fun x lo hi H Q => rSlA K x lo hi H Q ∨ (rSlL K x lo hi H Q ∨ rSlS x lo hi H Q)
theorem sl_all : SlR X (rSl X.K) := sl_tupA.or (sl_list.or sl_str)
theorem RepL.cut {S : Hp} {ds : List D} {vs : List V} (r : RepL G S ds vs) (lo hi : Option Int) : RepL G S (cutL ds lo hi) (cutV vs lo hi) := by
  unfold cutL cutV
  rw [r.length]
  exact (r.drop _).take _
theorem cutL_all {α : Type} {xs : List α} {lo hi : Option Int} (h : HT.sIx xs.length 0 lo = 0 ∧ HT.sIx xs.length xs.length hi = xs.length) : cutL xs lo hi = xs := by
  unfold cutL
  rw [h.1, h.2]
  simp
theorem le_slice {lo hi : Option Expr} {fl fh : DO} (hK : G.K = X.K) (he : LE G X e f) (hl : LO G X lo fl) (hh : LO G X hi fh) : LE G X (.Subscript e (.Slice lo hi none p2) pos) (sl f fl fh) := pe_weak (pe_slice sl_all he hl hh) fun s H Q ⟨g, S, d, y, d', z, e, q⟩ => by
  unfold sl at e
  split at e
  · rename_i x d1 e1
    split at e
    · rename_i i d2 e2
      split at e
      · rename_i j d3 e3
        split at e
        · rename_i w e4
          cases e
          refine ⟨g, S, d, x, d1, z, e1, fun v H1 S1 sm1 z1 r1 => ⟨g, S1, d1, i, d2, z1, e2, fun H2 S2 sm2 z2 => ⟨g, S2, d2, j, d', z2, e3, fun H3 S3 sm3 z3 => ?_⟩⟩⟩
          have r3 := (r1.mono sm2).mono sm3
          have fin : ∀ u S' H', Ext S3 H3 S' H' → Rep G S' y u → Q u H' := fun u S' H' ex ru => q u H' S' (((sm1.trans sm2).trans sm3).trans ex.s) (z3.ext ex) ru
          unfold slD at e4
          split at e4
          · rename_i ds
            cases e4
            obtain ⟨a, vs, rfl, h1, r4⟩ := inv_tup r3
            rw [hK] at h1
            refine .inl ⟨a, vs, rfl, same_seqT z3.sh h1, fun e5 => ?_, fun _ p hp => ?_⟩
            · rw [← r4.length] at e5
              rw [cutL_all e5] at fin
              exact fin _ S3 H3 (.refl z3.sh) r3
            · have ex := Ext.alloc (o := .tup (cutV vs i j)) z3.sh hp
              exact fin _ _ _ ex (rep_tup_new upd_same ((r4.cut i j).mono ex.s))
          · rename_i ds
            cases e4
            obtain ⟨a, vs, rfl, h1, r4⟩ := inv_lst r3
            refine .inr (.inl ⟨a, vs, rfl, SqL.of (z3.sh _ _ h1), fun p hp => ?_⟩)
            have ex := Ext.alloc (o := .lst (cutV vs i j)) z3.sh hp
            exact fin _ _ _ ex (rep_lst_new upd_same ((r4.cut i j).mono ex.s))
          · rename_i ns
            cases e4
            obtain ⟨a, rfl, h1⟩ := inv_scr r3
            rw [hK] at h1
            refine .inr (.inl ⟨a, _, rfl, z3.sh.seq h1, fun p hp => ?_⟩)
            have ex := Ext.alloc (o := .lst (cutV (ns.map V.int) i j)) z3.sh hp
            have r4 : RepL G S3 (ns.map D.int) (ns.map V.int) := RepL.ints
            have r5 := r4.cut i j
            have ec : cutL (ns.map D.int) i j = (cutL ns i j).map D.int := by
              unfold cutL
              rw [List.length_map, ← List.map_drop, ← List.map_take]
            rw [ec] at r5
            exact fin _ _ _ ex (rep_lst_new upd_same (r5.mono ex.s))
          · rename_i z'
            split at e4
            · rename_i hl
              cases e4
              exact .inr (.inr ⟨_, inv_str r3, hl, fin _ S3 H3 (.refl z3.sh) rep_str⟩)
            · cases e4
          · cases e4
        · cases e
      · cases e
    · cases e
  · cases e
end

/-! ### built-in functions -/
section
variable {G : Cls} {X : Cx}
def nLen : List D → Option D
  | [.tup ds] => some (.int ds.length)
  | [.lst ds] => some (.int ds.length)
  | [.scr ns] => some (.int ns.length)
  | [.str z] => if z.length ≤ sizeLine then some (.int z.length) else none
  | _ => none
theorem repL1 {S : Hp} {x : D} {vs : List V} (r : RepL G S [x] vs) : ∃ v, vs = [v] ∧ Rep G S x v := by
  unfold RepL at r
  obtain ⟨v, r', rfl, h1, h2⟩ := r
  unfold RepL at h2
  subst h2
  exact ⟨v, rfl, h1⟩
theorem repL2 {S : Hp} {x y : D} {vs : List V} (r : RepL G S [x, y] vs) : ∃ v w, vs = [v, w] ∧ Rep G S x v ∧ Rep G S y w := by
  unfold RepL at r
  obtain ⟨v, r', rfl, h1, h2⟩ := r
  obtain ⟨w, rfl, h3⟩ := repL1 h2
  exact ⟨v, w, rfl, h1, h3⟩
theorem r_len (hK : G.K = X.K) : RnD G nLen (fun xs H Q => ∃ x n, xs = [x] ∧ LenV X.K x H n ∧ Q (.int n) H) := fun S H xs z vs Q sm r e q => by
  unfold nLen at e
  split at e
  · cases e
    obtain ⟨v, rfl, r1⟩ := repL1 r
    obtain ⟨a, us, rfl, h1, r2⟩ := inv_tup r1
    rw [hK] at h1
    exact ⟨_, _, rfl, .inr ⟨us, same_seqT sm h1, rfl⟩, by rw [← r2.length]; exact q _ S H (.refl sm) rep_int⟩
  · cases e
    obtain ⟨v, rfl, r1⟩ := repL1 r
    obtain ⟨a, us, rfl, h1, r2⟩ := inv_lst r1
    exact ⟨_, _, rfl, .inl ⟨us, SqL.of (sm _ _ h1), rfl⟩, by rw [← r2.length]; exact q _ S H (.refl sm) rep_int⟩
  · cases e
    obtain ⟨v, rfl, r1⟩ := repL1 r
    obtain ⟨a, rfl, h1⟩ := inv_scr r1
    rw [hK] at h1
    exact ⟨_, _, rfl, .inl ⟨_, sm.seq h1, rfl⟩, by rw [List.length_map]; exact q _ S H (.refl sm) rep_int⟩
  · split at e
    · rename_i hl
      cases e
      obtain ⟨v, rfl, r1⟩ := repL1 r
      cases inv_str r1
      exact ⟨_, _, rfl, ⟨hl, rfl⟩, q _ S H (.refl sm) rep_int⟩
    · cases e
  · cases e
def nAbs : List D → Option D
  | [.int a] => some (.int (if a < 0 then -a else a))
  | _ => none
theorem r_abs : RnD G nAbs (fun xs H Q => ∃ i, xs = [.int i] ∧ Q (.int (if i < 0 then -i else i)) H) := fun S H xs z vs Q sm r e q => by
  unfold nAbs at e
  split at e
  · cases e
    obtain ⟨v, rfl, r1⟩ := repL1 r
    cases inv_int r1
    exact ⟨_, rfl, q _ S H (.refl sm) rep_int⟩
  · cases e
def nMax2 : List D → Option D
  | [.int a, .int b] => some (.int (if b > a then b else a))
  | _ => none
def nMin2 : List D → Option D
  | [.int a, .int b] => some (.int (if b < a then b else a))
  | _ => none
theorem r_max2 : RnD G nMax2 (fun xs H Q => ∃ i j, xs = [.int i, .int j] ∧ Q (.int (if j > i then j else i)) H) := fun S H xs z vs Q sm r e q => by
  unfold nMax2 at e
  split at e
  · cases e
    obtain ⟨v, w, rfl, r1, r2⟩ := repL2 r
    cases inv_int r1
    cases inv_int r2
    exact ⟨_, _, rfl, q _ S H (.refl sm) rep_int⟩
  · cases e
theorem r_min2 : RnD G nMin2 (fun xs H Q => ∃ i j, xs = [.int i, .int j] ∧ Q (.int (if j < i then j else i)) H) := fun S H xs z vs Q sm r e q => by
  unfold nMin2 at e
  split at e
  · cases e
    obtain ⟨v, w, rfl, r1, r2⟩ := repL2 r
    cases inv_int r1
    cases inv_int r2
    exact ⟨_, _, rfl, q _ S H (.refl sm) rep_int⟩
  · cases e
def nInt : List D → Option D
  | [.int a] => some (.int a)
  | [.bl b] => some (.int (if b then 1 else 0))
  | _ => none
theorem r_int : RnD G nInt (fun xs H Q => (∃ i, xs = [.int i] ∧ Q (.int i) H) ∨ ∃ k, xs = [.bl k] ∧ Q (.int (if k then 1 else 0)) H) := fun S H xs z vs Q sm r e q => by
  unfold nInt at e
  split at e
  · cases e
    obtain ⟨v, rfl, r1⟩ := repL1 r
    cases inv_int r1
    exact .inl ⟨_, rfl, q _ S H (.refl sm) rep_int⟩
  · cases e
    obtain ⟨v, rfl, r1⟩ := repL1 r
    cases inv_bl r1
    exact .inr ⟨_, rfl, q _ S H (.refl sm) rep_int⟩
  · cases e
def nStr : List D → Option D
  | [.int a] => if a.natAbs.log2 < 1920 then some (.str (toString a)) else none
  | _ => none
theorem r_str : RnD G nStr (fun xs H Q => ∃ i, xs = [.int i] ∧ i.natAbs.log2 < 1920 ∧ Q (.str (toString i)) H) := fun S H xs z vs Q sm r e q => by
  unfold nStr at e
  split at e
  · split at e
    · rename_i hl
      cases e
      obtain ⟨v, rfl, r1⟩ := repL1 r
      cases inv_int r1
      exact ⟨_, rfl, hl, q _ S H (.refl sm) rep_str⟩
    · cases e
  · cases e
def nTup : List D → Option D
  | [.tup ds] => some (.tup ds)
  | [.lst ds] => some (.tup ds)
  | _ => none
theorem r_tup (hK : G.K = X.K) : RnD G nTup (fun xs H Q => ∃ p ys, xs = [.ref p] ∧ ((SqL X.K H p ys ∧ ∀ l, H l = none → Q (.ref l) (upd H l (.tup ys))) ∨ (SqT X.K H p ys ∧ Q (.ref p) H))) := fun S H xs z vs Q sm r e q => by
  unfold nTup at e
  split at e
  · cases e
    obtain ⟨v, rfl, r1⟩ := repL1 r
    obtain ⟨a, us, rfl, h1, r2⟩ := inv_tup r1
    rw [hK] at h1
    exact ⟨a, us, rfl, .inr ⟨same_seqT sm h1, q _ S H (.refl sm) r1⟩⟩
  · cases e
    obtain ⟨v, rfl, r1⟩ := repL1 r
    obtain ⟨a, us, rfl, h1, r2⟩ := inv_lst r1
    refine ⟨a, us, rfl, .inl ⟨SqL.of (sm _ _ h1), fun p hp => ?_⟩⟩
    have ex := Ext.alloc (o := .tup us) sm hp
    exact q _ _ _ ex (rep_tup_new upd_same (r2.mono ex.s))
  · cases e
def nLst : List D → Option D
  | [.tup ds] => some (.lst ds)
  | [.lst ds] => some (.lst ds)
  | [.scr ns] => some (.lst (ns.map D.int))
  | _ => none
theorem r_lst (hK : G.K = X.K) : RnD G nLst (fun xs H Q => ∃ p ys, xs = [.ref p] ∧ (SqL X.K H p ys ∨ SqT X.K H p ys) ∧ ∀ l, H l = none → Q (.ref l) (upd H l (.lst ys))) := fun S H xs z vs Q sm r e q => by
  have key : ∀ {a us ds}, (SqL X.K H a us ∨ SqT X.K H a us) → RepL G S ds us → vs = [V.ref a] → z = .lst ds → ∃ p ys, vs = [.ref p] ∧ (SqL X.K H p ys ∨ SqT X.K H p ys) ∧ ∀ l, H l = none → Q (.ref l) (upd H l (.lst ys)) := fun {a us ds} h r2 ev ez => by
    subst ez
    refine ⟨a, us, ev, h, fun p hp => ?_⟩
    have ex := Ext.alloc (o := .lst us) sm hp
    exact q _ _ _ ex (rep_lst_new upd_same (r2.mono ex.s))
  unfold nLst at e
  split at e
  · cases e
    obtain ⟨v, rfl, r1⟩ := repL1 r
    obtain ⟨a, us, rfl, h1, r2⟩ := inv_tup r1
    rw [hK] at h1
    exact key (.inr (same_seqT sm h1)) r2 rfl rfl
  · cases e
    obtain ⟨v, rfl, r1⟩ := repL1 r
    obtain ⟨a, us, rfl, h1, r2⟩ := inv_lst r1
    exact key (.inl (SqL.of (sm _ _ h1))) r2 rfl rfl
  · cases e
    obtain ⟨v, rfl, r1⟩ := repL1 r
    obtain ⟨a, rfl, h1⟩ := inv_scr r1
    rw [hK] at h1
    exact key (.inl (sm.seq h1)) RepL.ints rfl rfl
  · cases e
/-- the ints of some data -/
def asInts : List D → Option (List Int)
  | [] => some []
  | .int a :: r => match asInts r with
    | some t => some (a :: t)
    | none => none
  | _ => none
theorem asInts_rep {S : Hp} : ∀ {ds : List D} {ns : List Int} {vs : List V}, asInts ds = some ns → RepL G S ds vs → vs = ns.map V.int
  | [], _, _, e, r => by cases e; unfold RepL at r; exact r
  | .int a :: ds, _, _, e, r => by
    unfold asInts at e
    split at e
    · rename_i t e1
      cases e
      unfold RepL at r
      obtain ⟨v, vr, rfl, r1, r2⟩ := r
      rw [inv_int r1, asInts_rep e1 r2]; rfl
    · cases e
  | .non :: _, _, _, e, _ => by simp [asInts] at e
  | .bl _ :: _, _, _, e, _ => by simp [asInts] at e
  | .str _ :: _, _, _, e, _ => by simp [asInts] at e
  | .tup _ :: _, _, _, e, _ => by simp [asInts] at e
  | .lst _ :: _, _, _, e, _ => by simp [asInts] at e
  | .ob _ _ :: _, _, _, e, _ => by simp [asInts] at e
  | .fn _ :: _, _, _, e, _ => by simp [asInts] at e
  | .scr _ :: _, _, _, e, _ => by simp [asInts] at e
  | .dic _ :: _, _, _, e, _ => by simp [asInts] at e
  | .dis _ :: _, _, _, e, _ => by simp [asInts] at e
  | .dil _ _ :: _, _, _, e, _ => by simp [asInts] at e
  | .ex _ :: _, _, _, e, _ => by simp [asInts] at e
def asBls : List D → Option (List Bool)
  | [] => some []
  | .bl a :: r => match asBls r with
    | some t => some (a :: t)
    | none => none
  | _ => none
theorem asBls_rep {S : Hp} : ∀ {ds : List D} {ns : List Bool} {vs : List V}, asBls ds = some ns → RepL G S ds vs → vs = ns.map V.bl
  | [], _, _, e, r => by cases e; unfold RepL at r; exact r
  | .bl a :: ds, _, _, e, r => by
    unfold asBls at e
    split at e
    · rename_i t e1
      cases e
      unfold RepL at r
      obtain ⟨v, vr, rfl, r1, r2⟩ := r
      rw [inv_bl r1, asBls_rep e1 r2]; rfl
    · cases e
  | .non :: _, _, _, e, _ => by simp [asBls] at e
  | .int _ :: _, _, _, e, _ => by simp [asBls] at e
  | .str _ :: _, _, _, e, _ => by simp [asBls] at e
  | .tup _ :: _, _, _, e, _ => by simp [asBls] at e
  | .lst _ :: _, _, _, e, _ => by simp [asBls] at e
  | .ob _ _ :: _, _, _, e, _ => by simp [asBls] at e
  | .fn _ :: _, _, _, e, _ => by simp [asBls] at e
  | .scr _ :: _, _, _, e, _ => by simp [asBls] at e
  | .dic _ :: _, _, _, e, _ => by simp [asBls] at e
  | .dis _ :: _, _, _, e, _ => by simp [asBls] at e
  | .dil _ _ :: _, _, _, e, _ => by simp [asBls] at e
  | .ex _ :: _, _, _, e, _ => by simp [asBls] at e
def nAll : List D → Option D
  | [.lst ds] => match asBls ds with
    | some bs => some (.bl (bs.all id))
    | none => none
  | _ => none
def nAny : List D → Option D
  | [.lst ds] => match asBls ds with
    | some bs => some (.bl (bs.any id))
    | none => none
  | _ => none
theorem r_all (hK : G.K = X.K) : RnD G nAll (rAll X.K) := fun S H xs z vs Q sm r e q => by
  unfold nAll at e
  split at e
  · split at e
    · rename_i bs e1
      cases e
      obtain ⟨v, rfl, r1⟩ := repL1 r
      obtain ⟨a, us, rfl, h1, r2⟩ := inv_lst r1
      have := asBls_rep e1 r2
      subst this
      exact ⟨a, bs, rfl, SqL.of (sm _ _ h1), q _ S H (.refl sm) rep_bl⟩
    · cases e
  · cases e
theorem r_any (hK : G.K = X.K) : RnD G nAny (rAny X.K) := fun S H xs z vs Q sm r e q => by
  unfold nAny at e
  split at e
  · split at e
    · rename_i bs e1
      cases e
      obtain ⟨v, rfl, r1⟩ := repL1 r
      obtain ⟨a, us, rfl, h1, r2⟩ := inv_lst r1
      have := asBls_rep e1 r2
      subst this
      exact ⟨a, bs, rfl, SqL.of (sm _ _ h1), q _ S H (.refl sm) rep_bl⟩
    · cases e
  · cases e
end
end Zr

/-! Zr: what loops walk; isinstance; names of the module. -/
namespace Zr
open PySem L2
section
variable {G : Cls} {X : Cx} {tg e a b : Expr} {es : List Expr} {f h : DE} {r : DA} {pos p : Pos} {x : Str}

/-- the items of a list, a tuple -/
def itD : D → Option (List D)
  | .lst ds => some ds
  | .tup ds => some ds
  | .scr ns => some (ns.map D.int)
  | _ => none
def is (f : DE) : DA := fun d => match f d with
  | some (x, d1) => match itD x with
    | some xs => some (xs, d1)
    | none => none
  | none => none
theorem itl_ok {S : Hp} {a : Addr} {vs : List V} {ds : List D} (h : SqL G.K S a vs) (r : RepL G S ds vs) : ItD G (Itl G.K a) S ds where
  go := fun i S1 H1 s1 s2 hi => by
    have hi' : i < vs.length := by rw [← r.length]; exact hi
    exact ⟨vs, vs[i], (s1.trans s2).seq h, List.getElem?_eq_getElem hi'⟩
  stop := fun S1 H1 s1 s2 => ⟨vs, (s1.trans s2).seq h, by rw [r.length]; exact Nat.le_refl _⟩
  yld := fun i S1 H1 v H' x s1 s2 hx y => by
    obtain ⟨rfl, y⟩ := y
    obtain ⟨u, e1, r1⟩ := r.get hx
    have := y vs ((s1.trans s2).seq h)
    rw [e1] at this
    cases this
    exact ⟨S1, .refl s2, r1.mono s1⟩
theorem itt_ok {S : Hp} {a : Addr} {vs : List V} {ds : List D} (h : SqT G.K S a vs) (r : RepL G S ds vs) : ItD G (Itt G.K a) S ds where
  go := fun i S1 H1 s1 s2 hi => by
    have hi' : i < vs.length := by rw [← r.length]; exact hi
    exact ⟨vs, vs[i], same_seqT (s1.trans s2) h, List.getElem?_eq_getElem hi'⟩
  stop := fun S1 H1 s1 s2 => ⟨vs, same_seqT (s1.trans s2) h, by rw [r.length]; exact Nat.le_refl _⟩
  yld := fun i S1 H1 v H' x s1 s2 hx y => by
    obtain ⟨rfl, y⟩ := y
    obtain ⟨u, e1, r1⟩ := r.get hx
    have := y vs (same_seqT (s1.trans s2) h)
    rw [e1] at this
    cases this
    exact ⟨S1, .refl s2, r1.mono s1⟩
theorem li_seq (hK : G.K = X.K) (he : LE G X e f) : LI G X tg e (is f) := ⟨fun pins s σ H R I ⟨g, S, d, xs, d', z, e, q⟩ => by
  unfold is at e
  split at e
  · rename_i y d1 e1
    split at e
    · rename_i ys e2
      cases e
      have lst : ∀ {a : Addr} {H' : Hp} {S' : Hp} {vs : List V}, Same S S' → Zt G g S' σ H' d' → SqL G.K S' a vs → RepL G S' xs vs → ∃ a', V.ref a = .ref a' ∧ (∃ xs, SqL X.K H' a' xs) ∧ R (Itl X.K a') H' := fun {a H' S' vs} sm z' h1 r1 => by
        refine ⟨a, rfl, ⟨vs, by rw [← hK]; exact z'.sh.seq h1⟩, ?_⟩
        have := q (Itl G.K a) H' S' sm z' (itl_ok h1 r1)
        rw [hK] at this
        exact this
      cases y with
      | lst ds =>
        cases e2
        refine (pi_list he).run pins s σ H R I ⟨g, S, d, _, d', z, e1, fun v H' S' sm z' rv => ?_⟩
        obtain ⟨a, vs, rfl, h1, r1⟩ := inv_lst rv
        exact lst sm z' (SqL.of h1) r1
      | scr ns =>
        cases e2
        refine (pi_list he).run pins s σ H R I ⟨g, S, d, _, d', z, e1, fun v H' S' sm z' rv => ?_⟩
        obtain ⟨a, rfl, h1⟩ := inv_scr rv
        exact lst sm z' h1 RepL.ints
      | tup ds =>
        cases e2
        refine (pi_tup he).run pins s σ H R I ⟨g, S, d, _, d', z, e1, fun v H' S' sm z' rv => ?_⟩
        obtain ⟨a, vs, rfl, h1, r1⟩ := inv_tup rv
        refine ⟨a, rfl, ⟨vs, by rw [← hK]; exact same_seqT z'.sh h1⟩, ?_⟩
        have := q (Itt G.K a) H' S' sm z' (itt_ok h1 r1)
        rw [hK] at this
        exact this
      | non => cases e2
      | bl _ => cases e2
      | int _ => cases e2
      | str _ => cases e2
      | ob _ _ => cases e2
      | fn _ => cases e2
      | dic _ => cases e2
      | dis _ => cases e2
      | dil _ _ => cases e2
      | ex _ => cases e2
    · cases e
  · cases e⟩

/-- lo, lo + 1, .. -/
def rgD (lo hi : Int) : List D := (List.range (hi - lo).toNat).map fun i => D.int (lo + (i : Nat))
def rgOk (lo hi : Int) : Bool := decide (-(2 ^ 62) ≤ lo ∧ lo < 2 ^ 62 ∧ -(2 ^ 62) ≤ hi ∧ hi < 2 ^ 62)
theorem itr_ok {S : Hp} {lo hi : Int} : ItD G (Itr lo (hi - lo).toNat) S (rgD lo hi) where
  go := fun i S1 H1 s1 s2 hi => by
    show i < _
    unfold rgD at hi
    rw [List.length_map, List.length_range] at hi
    exact hi
  stop := fun S1 H1 s1 s2 => by show _ ≤ _; unfold rgD; simp
  yld := fun i S1 H1 v H' x s1 s2 hx y => by
    obtain ⟨rfl, rfl⟩ := y
    unfold rgD at hx
    rw [List.getElem?_map] at hx
    cases e : (List.range _)[i]? with
    | none => rw [e] at hx; cases hx
    | some k =>
      rw [e] at hx
      cases hx
      obtain ⟨hl, hk⟩ := List.getElem?_eq_some_iff.mp e
      have : k = i := by simpa using hk.symm
      subst this
      exact ⟨S1, .refl s2, rep_int⟩
/-- range(hi) -/
def r1 (f : DE) : DA := fun d => match f d with
  | some (.int j, d1) => if rgOk 0 j then some (rgD 0 j, d1) else none
  | _ => none
/-- range(lo, hi) -/
def r2 (f h : DE) : DA := fun d => match f d with
  | some (.int i, d1) => match h d1 with
    | some (.int j, d2) => if rgOk i j then some (rgD i j, d2) else none
    | _ => none
  | _ => none
theorem rgOk_of {lo hi : Int} (h : rgOk lo hi = true) : -(2 ^ 62) ≤ lo ∧ lo < 2 ^ 62 ∧ -(2 ^ 62) ≤ hi ∧ hi < 2 ^ 62 := of_decide_eq_true h
theorem li_range1 (hg : Gl X "range") (hm : X.mg "range" = none) (he : LE G X a f) (hs : starEach [a] X.env = [(false, eval a X.env)] := by rfl) : LI G X tg (.Call (.Name "range" p) [a] [] pos) (r1 f) :=
  pi_weak (pi_range1 hg hm (pa_cons he pa_nil hs) hs) fun s H R ⟨g, S, d, xs, d', z, e, q⟩ => by
    unfold r1 at e
    split at e
    · rename_i j d1 e1
      split at e
      · rename_i hok
        cases e
        obtain ⟨_, _, h3, h4⟩ := rgOk_of hok
        refine ⟨g, S, d, _, d', z, e1, fun v H' S' sm z' r => ?_⟩
        refine ⟨j, by rw [inv_int r], h3, h4, ?_⟩
        have := q (Itr 0 (j - 0).toNat) H' S' sm z' itr_ok
        rw [Int.sub_zero] at this
        exact this
      · cases e
    · cases e
theorem li_range2 (hg : Gl X "range") (hm : X.mg "range" = none) (he : LE G X a f) (hh : LE G X b h) (hs : starEach [a, b] X.env = [(false, eval a X.env), (false, eval b X.env)] := by rfl) (hs2 : starEach [b] X.env = [(false, eval b X.env)] := by rfl) :
    LI G X tg (.Call (.Name "range" p) [a, b] [] pos) (r2 f h) :=
  pi_weak (pi_range2 hg hm (pa_cons he (pa_cons hh pa_nil hs2) (by rw [hs, hs2])) hs hs2) fun s H R ⟨g, S, d, xs, d', z, e, q⟩ => by
    unfold r2 at e
    split at e
    · rename_i i d1 e1
      split at e
      · rename_i j d2 e2
        split at e
        · rename_i hok
          cases e
          refine ⟨g, S, d, _, d1, z, e1, fun v H' S' sm z' r => ⟨g, S', d1, _, d', z', e2, fun v2 H2 S2 sm2 z2 r2 => ?_⟩⟩
          refine ⟨i, j, by rw [inv_int r, inv_int r2], rgOk_of hok, ?_⟩
          exact q _ H2 S2 (sm.trans sm2) z2 itr_ok
        · cases e
      · cases e
    · cases e
/-- list(range(..)) -/
def lr (r : DA) : DE := fun d => match r d with
  | some (xs, d1) => if xs.length ≤ 2 ^ 24 then some (.lst xs, d1) else none
  | none => none
theorem repL_rg {S : Hp} (i j : Int) : RepL G S (rgD i j) (rgV i j) := by
  unfold rgD rgV
  generalize List.range _ = l
  induction l with
  | nil => exact .nil
  | cons k l ih => exact .cons rep_int ih
theorem le_listRg2 {pl pos2 : Pos} (hc : X.calm = true) (hgl : Gl X "list") (hml : X.mg "list" = none) (hg : Gl X "range") (hm : X.mg "range" = none) (he : LE G X a f) (hh : LE G X b h)
    (na : starEach [a, b] X.env = (false, eval a X.env) :: starEach [b] X.env := by rfl) (nb : starEach [b] X.env = (false, eval b X.env) :: starEach [] X.env := by rfl)
    (nc : starEach [.Call (.Name "range" p) [a, b] [] pos] X.env = (false, eval (.Call (.Name "range" p) [a, b] [] pos) X.env) :: starEach [] X.env := by rfl) (nd : (backTo pos (starEach [b] X.env)).any (·.1) = false := by rfl) :
    LE G X (.Call (.Name "list" pl) [.Call (.Name "range" p) [a, b] [] pos] [] pos2) (lr (r2 f h)) := pe_weak (pe_listRg hc hgl hml (prg_2 hg hm he hh na nb nd) nc) fun s H Q ⟨g, S, d, x, d', z, e, q⟩ => by
  unfold lr at e
  split at e
  · rename_i xs d1 e0
    split at e
    · rename_i hsz
      cases e
      unfold r2 at e0
      split at e0
      · rename_i i d1 e1
        split at e0
        · rename_i j d2 e2
          split at e0
          · rename_i hok
            cases e0
            refine ⟨g, S, d, _, d1, z, e1, fun v H' S' sm z' r => ⟨g, S', d1, _, d', z', e2, fun v2 H2 S2 sm2 z2 r2 => ?_⟩⟩
            obtain ⟨h1, h2, h3, h4⟩ := rgOk_of hok
            refine ⟨i, j, inv_int r, inv_int r2, ⟨h1, h2, h3, h4, by unfold rgD at hsz; simpa using hsz⟩, fun p hp => ?_⟩
            have ex := Ext.alloc (o := .lst (rgV i j)) z2.sh hp
            exact q _ _ _ ((sm.trans sm2).trans ex.s) (z2.ext ex) (rep_lst_new upd_same (repL_rg i j))
          · cases e0
        · cases e0
      · cases e0
    · cases e
  · cases e

/-! ### isinstance -/
/-- the kinds of data -/
def kind : D → Nat
  | .non => 0
  | .bl _ => 1
  | .int _ => 2
  | .str _ => 3
  | .tup _ => 4
  | .lst _ => 5
  | .scr _ => 5
  | .dic _ => 6
  | .dis _ => 6
  | .dil _ _ => 6
  | .ex _ => 6
  | .fn _ => 6
  | .ob c _ => 7 + c
/-- a kind's class -/
def tyOf (G : Cls) : Nat → Value
  | 0 => .type "NoneType"
  | 1 => .type "bool"
  | 2 => .type "int"
  | 3 => .type "str"
  | 4 => .type "tuple"
  | 5 => .type "list"
  | 6 => .none
  | c + 7 => .ref (G.adr c)
/-- what an own class's instances want -/
structure InsTy (K : PySem.W.Frag) (C : Addr) : Prop where
  cl : L2.Cls K C
  ha : PySem.W.findIn K (.ref C) "__class__" = some (some (.builtin "object.__class__"))
  hn : PySem.W.specialIn K (.builtin "object.__class__") "__get__" = some (some (.builtin "getset_descriptor.__get__"))
  htk : PySem.W.takesIn K (.builtin "object.__class__") = some true
  hm : PySem.W.mroIn K C (.type "object") = some true
/-- which classes the table speaks of -/
def TabOk (G : Cls) (K : PySem.W.Frag) (tb : List (Nat × Bool)) : Prop := ∀ q ∈ tb, q.1 ≠ 6 ∧ ∀ c, q.1 = 7 + c → InsTy K (G.adr c)
theorem rep_ty {S H : Hp} {y : D} {v : V} {tb : List (Nat × Bool)} {b : Bool} (hK : G.K = X.K) (ht : TabOk G X.K tb) (sm : Same S H) (r : Rep G S y v) (e : tb.lookup (kind y) = some b) : TyX X.K H v (tyOf G (kind y)) := by
  have T := ht _ (lookup_mem e)
  cases y with
  | non => rw [inv_non r]; exact .base .non
  | bl _ => rw [inv_bl r]; exact .base (.bl _)
  | int _ => rw [inv_int r]; exact .base (.int _)
  | str _ => rw [inv_str r]; exact .base (.str _)
  | tup _ =>
    obtain ⟨a, vs, rfl, h1, _⟩ := inv_tup r
    rw [hK] at h1
    rcases same_seqT sm h1 with (h | ⟨o, h⟩) | ⟨o, its, n, h, hc, _⟩
    · exact .base (.tup h)
    · exact .fTuple h
    · exact .kTuple h hc
  | lst _ =>
    obtain ⟨a, vs, rfl, h1, _⟩ := inv_lst r
    exact .base (.lst (sm _ _ h1))
  | dic _ => exact absurd rfl T.1
  | dis _ => exact absurd rfl T.1
  | dil _ _ => exact absurd rfl T.1
  | ex _ => exact absurd rfl T.1
  | scr _ =>
    obtain ⟨a, rfl, h1⟩ := inv_scr r
    rw [hK] at h1
    rcases sm.seq h1 with (h | ⟨o, h⟩) | ⟨o, its, n, h, hc, _⟩
    · exact .base (.lst h)
    · exact .base (.frz h)
    · exact .kList h hc
  | fn _ => exact absurd rfl T.1
  | ob c _ =>
    obtain ⟨a, dx, vs, rfl, h1, _⟩ := inv_ob r
    have I := T.2 c rfl
    have e7 : tyOf G (kind (.ob c ‹_›)) = .ref (G.adr c) := by
      show tyOf G (7 + c) = _
      rw [Nat.add_comm]
      rfl
    rw [e7]
    exact .base (.ins (sm _ _ h1) I.cl I.ha I.hn I.htk I.hm)
def isi (tb : List (Nat × Bool)) : D → Option D := fun y => match tb.lookup (kind y) with
  | some b => some (.bl b)
  | none => none
/-- isinstance(e, C) -/
theorem le_isi {tb : List (Nat × Bool)} {c : Expr} {cv : V} {u : Value} (hK : G.K = X.K) (ht : TabOk G X.K tb) (hk : ∀ q ∈ tb, PySem.W.kitOne X.K (tyOf G q.1) u = some q.2) (hg : Gl X "isinstance") (hm : X.mg "isinstance" = none)
    (hv : ClsV cv u) (he : LE G X e f) (hc : PE X c (tC cv)) (hs : starEach [e, c] X.env = (false, eval e X.env) :: starEach [c] X.env := by rfl) (hs2 : starEach [c] X.env = (false, eval c X.env) :: starEach [] X.env := by rfl)
    (hpl : (backTo pos (starEach [c] X.env)).any (·.1) = false := by rfl) : LE G X (.Call (.Name "isinstance" p) [e, c] [] pos) (u1 (isi tb) f) :=
  pe_weak (pe_callB call_isi hg hm (by decide +kernel) (pa_cons he (pa_cons hc pa_nil hs2) hs) (by decide) (by decide) hs hpl) fun s H Q ⟨g, S, d, y, d', z, e, q⟩ => by
    obtain ⟨w, e1, e2⟩ := u1_inv e
    unfold isi at e2
    split at e2
    · rename_i b e3
      cases e2
      refine ⟨g, S, d, w, d', z, e1, fun v H' S' sm z' r => ?_⟩
      exact ⟨v, cv, _, u, b, rfl, hv, rep_ty hK ht z'.sh r e3, hk _ (lookup_mem e3), q _ H' S' sm z' rep_bl⟩
    · cases e2
/-- isinstance(e, (C1, C2)) -/
theorem le_isi2 {tb : List (Nat × Bool)} {c c2 : Expr} {cv cv2 : V} {u u2 : Value} {tk : Nat} {tp : Pos} (hK : G.K = X.K) (ht : TabOk G X.K tb) (hk : ∀ q ∈ tb, PySem.W.kitAny X.K (tyOf G q.1) [u, u2] = some q.2) (hg : Gl X "isinstance") (hm : X.mg "isinstance" = none)
    (hv : ClsV cv u) (hv2 : ClsV cv2 u2) (he : LE G X e f) (hc : PE X c (tC cv)) (hc2 : PE X c2 (tC cv2)) (hs : starEach [e, .Tuple [c, c2] tk tp] X.env = (false, eval e X.env) :: starEach [.Tuple [c, c2] tk tp] X.env := by rfl)
    (hs2 : starEach [.Tuple [c, c2] tk tp] X.env = (false, eval (.Tuple [c, c2] tk tp) X.env) :: starEach [] X.env := by rfl) (hs3 : starEach [c, c2] X.env = (false, eval c X.env) :: starEach [c2] X.env := by rfl) (hs4 : starEach [c2] X.env = (false, eval c2 X.env) :: starEach [] X.env := by rfl)
    (hpl : (backTo pos (starEach [.Tuple [c, c2] tk tp] X.env)).any (·.1) = false := by rfl) : LE G X (.Call (.Name "isinstance" p) [e, .Tuple [c, c2] tk tp] [] pos) (u1 (isi tb) f) :=
  pe_weak (pe_callB call_isiT hg hm (by decide +kernel) (pa_cons he (pa_cons (pe_tup (pa_cons hc (pa_cons hc2 pa_nil hs4) hs3)) pa_nil hs2) hs) (by decide) (by decide) hs hpl) fun s H Q ⟨g, S, d, y, d', z, e, q⟩ => by
    obtain ⟨w, e1, e2⟩ := u1_inv e
    unfold isi at e2
    split at e2
    · rename_i b e3
      cases e2
      refine ⟨g, S, d, w, d', z, e1, fun v H' S' sm z' r => ⟨by show 2 ≤ sizeLine; decide, fun tp htp => ?_⟩⟩
      have ex := Ext.alloc (o := .tup [cv, cv2]) z'.sh htp
      have hne : upd H' tp (.tup [cv, cv2]) tp = some (.tup [cv, cv2]) := upd_same
      refine ⟨v, tp, [cv, cv2], _, [u, u2], b, rfl, hne, .cons hv (.cons hv2 .nil), rep_ty hK ht ex.sh (r.mono ex.s) e3, hk _ (lookup_mem e3), ?_⟩
      exact q _ _ _ (sm.trans ex.s) (z'.ext ex) rep_bl
    · cases e2

/-! ### repr, str of ints -/
theorem le_repr (hg : Gl X "repr") (hm : X.mg "repr" = none) (ha : LA G X [e] r) (hs : starEach [e] X.env = (false, eval e X.env) :: starEach [] X.env := by rfl) (hpl : (backTo pos (starEach [] X.env)).any (·.1) = false := by rfl) :
    LE G X (.Call (.Name "repr" p) [e] [] pos) (cn nStr r) := le_callB r_str SkE.call_repr_int hg hm (by decide +kernel) ha (by decide) (by decide) hs hpl
end
end Zr

/-! Zr: the module's constants; several targets at once; the law's end. -/
namespace Zr
open PySem L2
def subD : D → D → Option D := ii fun a b => some (a - b)
def divD : D → D → Option D := ii iDiv
def modD : D → D → Option D := ii iMod
def powD : D → D → Option D := ii iPow
def ltD : D → D → Option D := ib fun i j => decide (i < j)
def leD : D → D → Option D := ib fun i j => decide (i ≤ j)
def gtD : D → D → Option D := ib fun i j => decide (j < i)
def geD : D → D → Option D := ib fun i j => decide (j ≤ i)
section
variable {G : Cls} {X : Cx} {tg e a b c : Expr} {es : List Expr} {f h k : DE} {pos p : Pos} {x : Str}
theorem r_subD : R2D G subD (rI0 fun i j => .int (i - j)) := r_sub
theorem r_divD : R2D G divD (rI CDivA fun i j => .int (i.fdiv j)) := r_div
theorem r_modD : R2D G modD (rI (fun _ j => j ≠ 0) fun i j => .int (i.fmod j)) := r_mod
theorem r_powD : R2D G powD (rI CPow fun i j => .int (i ^ j.toNat)) := r_pow
theorem r_ltD : R2D G ltD (rI0 fun i j => .bl (decide (i < j))) := r_ib
theorem r_leD : R2D G leD (rI0 fun i j => .bl (decide (i ≤ j))) := r_ib
theorem r_gtD : R2D G gtD (rI0 fun i j => .bl (decide (j < i))) := r_ib
theorem r_geD : R2D G geD (rI0 fun i j => .bl (decide (j ≤ i))) := r_ib

/-- a constant of the module -/
theorem le_gl {v : V} {u : Value} {d : D} (hg : Gl X x) (hm : X.mg x = some u) (r : RelV v u) (hd : ∀ S, Rep G S d v) (hdb : (x == ("__debug__" : Str)) = false := by decide) : LE G X (.Name x pos) (kc d) := lift_const hd (pe_glob hg hm r hdb)

theorem vs_s {x : Str} {t : Tok} {vs : List V} {us : List Value} (h : Vals vs us) : Vals (.str x :: vs) (.str x t :: us) := .cons ⟨_, rfl⟩ h
theorem vs_i {x : Int} {t : Tok} {vs : List V} {us : List Value} (h : Vals vs us) : Vals (.int x :: vs) (.int x t :: us) := .cons ⟨_, rfl⟩ h
theorem small_le {n m : Nat} (h : n = m) (hm : m ≤ 1000) : n ≤ sizeLine := by
  subst h
  exact Nat.le_of_lt (small1000 hm)
/-- a tuple of the module's -/
theorem rep_ktup {K : PySem.W.Frag} {ad : Nat → Addr} {fl : Nat → List Str} {S : Hp} {a : Addr} {od : Option Addr} {its : Array Value} {n : Nat} {sl : Array (Option Value)} {vs : List V} {ds : List D} (h : K.lookup a = some ⟨.type "tuple", od, .seq its n, sl⟩) (hz : its.size ≤ sizeLine)
    (r : Vals vs its.toList) (d : RepL ⟨K, ad, fl⟩ S ds vs) : Rep ⟨K, ad, fl⟩ S (.tup ds) (.ref a) := by
  unfold Rep
  exact ⟨a, vs, rfl, .inr ⟨_, its, n, h, rfl, rfl, hz, r⟩, d⟩

/-! ### a, b = e1, e2 -/
def sp2 (i j : Nat) (f h : DE) : DS := fun d => match f d with
  | some (x, d1) => match h d1 with
    | some (y, d2) => if notIo d2 i && notIo d2 j then some (.nx, (d2.set i (.va x)).set j (.va y)) else none
    | none => none
  | none => none
theorem notIo_set {d : Ev} {i j : Nat} {x : D} (h : notIo d j = true) (hi : notIo d i = true) : notIo (d.set i (.va x)) j = true := by
  unfold notIo
  by_cases e : j = i
  · subst e; rw [set_get (notIo_lt hi)]
  · rw [List.getElem?_set_ne (Ne.symm e)]; exact h
theorem ls_par {i j : Nat} {x y : Str} {px py pt : Pos} {kt k2 pt2} (hc : X.calm = true) (hN : X.N.Nodup) (hi : X.N[i]? = some x) (hj : X.N[j]? = some y) (hij : i ≠ j)
    (hx : X.env.scope.names.lookup x = some .local) (hy : X.env.scope.names.lookup y = some .local) (ha : LE G X a f) (hb : LE G X b h)
    (hw : swappedStores [.Tuple [.Name x px, .Name y py] kt pt] (.Tuple [a, b] k2 pt2) X.env = pure (some [x, y]))
    (hs : swapsWithSole [.Tuple [.Name x px, .Name y py] kt pt] (.Tuple [a, b] k2 pt2) pos.line X.env = pure false := by rfl)
    (h1 : starEach [a, b] X.env = (false, eval a X.env) :: starEach [b] X.env := by rfl) (h2 : starEach [b] X.env = (false, eval b X.env) :: starEach [] X.env := by rfl) :
    LS G X (.Assign [.Tuple [.Name x px, .Name y py] kt pt] (.Tuple [a, b] k2 pt2) pos) (sp2 i j f h) := ps_weak (ps_par hc hN hi hj hij hx hy (pa_cons ha (pa_cons hb pa_nil h2) h1) hw hs) fun D s H ⟨g, S, d, fl, d', z, e, q⟩ => by
  unfold sp2 at e
  split at e
  · rename_i x1 d1 e1
    split at e
    · rename_i x2 d2 e2
      split at e
      · rename_i e3
        rw [Bool.and_eq_true] at e3
        cases e
        refine ⟨g, S, d, x1, d1, z, e1, fun v H1 S1 sm1 z1 r1 => ⟨g, S1, d1, x2, d2, z1, e2, fun w H2 S2 sm2 z2 r2 => ⟨v, w, rfl, ?_⟩⟩⟩
        exact q _ H2 S2 (sm1.trans sm2) ((z2.setVa e3.1 (r1.mono sm2)).setVa (notIo_set e3.2 e3.1) r2)
      · cases e
    · cases e
  · cases e
/-- the second one a new object of one's own -/
def sp2F (i j : Nat) (f h : DE) : DS := fun d => match f d with
  | some (x, d1) => match h d1 with
    | some (y, d2) => if notIo d2 i && notIo d2 j then some (.nx, (d2.set i (.va x)).set j (.ow y)) else none
    | none => none
  | none => none
theorem ls_parF {i j : Nat} {x y : Str} {px py pt : Pos} {kt k2 pt2} (hc : X.calm = true) (hN : X.N.Nodup) (hi : X.N[i]? = some x) (hj : X.N[j]? = some y) (hij : i ≠ j)
    (hx : X.env.scope.names.lookup x = some .local) (hy : X.env.scope.names.lookup y = some .local) (ha : LE G X a f) (hb : LF G X b h)
    (hw : swappedStores [.Tuple [.Name x px, .Name y py] kt pt] (.Tuple [a, b] k2 pt2) X.env = pure (some [x, y]))
    (hs : swapsWithSole [.Tuple [.Name x px, .Name y py] kt pt] (.Tuple [a, b] k2 pt2) pos.line X.env = pure false := by rfl)
    (h1 : starEach [a, b] X.env = (false, eval a X.env) :: starEach [b] X.env := by rfl) (h2 : starEach [b] X.env = (false, eval b X.env) :: starEach [] X.env := by rfl) :
    LS G X (.Assign [.Tuple [.Name x px, .Name y py] kt pt] (.Tuple [a, b] k2 pt2) pos) (sp2F i j f h) := ps_weak (ps_par hc hN hi hj hij hx hy (pa_cons ha (pa_cons hb pa_nil h2) h1) hw hs) fun D s H ⟨g, S, d, fl, d', z, e, q⟩ => by
  unfold sp2F at e
  split at e
  · rename_i x1 d1 e1
    split at e
    · rename_i x2 d2 e2
      split at e
      · rename_i e3
        rw [Bool.and_eq_true] at e3
        cases e
        refine ⟨g, S, d, x1, d1, z, e1, fun v H1 S1 sm1 z1 r1 => ⟨g, S1, d1, x2, d2, z1, e2, fun a H2 S2 sm2 z2 ct k1 k2 k3 k4 => ⟨v, _, rfl, ?_⟩⟩⟩
        refine q _ H2 S2 (sm1.trans sm2) ((z2.setVa e3.1 (r1.mono sm2)).set (notIo_set e3.2 e3.1) ⟨a, rfl, ct, k1, k2, k3⟩ (fun _ q => nomatch q) fun b _ eb m o => ?_)
        cases eb
        rcases o.of_set with ⟨_, o1, _⟩ | ⟨_, o1⟩
        · cases o1
        · exact k4 m o1
      · cases e
    · cases e
  · cases e
end

/-! ### the end -/
section
variable {P : Program} {w : World} {K : PySem.W.Frag} {mg : Str → Option Value} {base : Heap} {f : Addr} {fd : FuncData} {k : Nat} {x : Str} {F : FD}
def spLaw (K : PySem.W.Frag) : Sp := fun vs H Q _ => ∃ (a : Addr) (ns : List Int), vs = [.ref a] ∧ SqL K H a (ns.map V.int) ∧ ns.length ≤ 63 ∧ ∀ H', Q (.bl true) H'
theorem law_ok {G : Cls} (hK : G.K = K) (h : FnOk P w K mg base CX0 k f fd [x] (spD G 1 F)) (m : ∀ ns : List Int, ns.length ≤ 63 → F [.va (.scr ns)] = some (.bl true, [.no])) : FnOk P w K mg base CX0 k f fd [x] (spLaw K) := h.imp fun vs H Q E ⟨a, ns, e, hs, hl, q⟩ => by
  subst e
  refine ⟨rfl, ⟨H, H, H, fun _ => none, []⟩, H, [.va (.scr ns)], .bl true, [.no], ?_, m ns hl, fun v H' S' _ _ r => by rw [inv_bl r]; exact q H'⟩
  refine ⟨.refl _, .refl _, fun b o e => .inl e, .refl _, fun b e => e, rfl, fun i x e => ?_, fun i j a _ o => ?_, (fun i a e => nomatch e), Tbs.nil⟩
  · cases i with
    | zero =>
      cases e
      exact ⟨_, rfl, _, rfl, by unfold Rep; exact ⟨a, rfl, by rw [hK]; exact hs⟩⟩
    | succ i => simp at e
  · obtain ⟨x, e1, e2, _⟩ := o
    cases i with
    | zero => cases e1; cases e2
    | succ i => simp at e1
end
end Zr

/-! Zr: reckoning with the data functions. -/
namespace Zr
open PySem L2
def Sl.nio : Sl → Bool
  | .io _ => false
  | _ => true
theorem notIo_eq (d : Ev) (i : Nat) : notIo d i = (match d[i]? with | some x => x.nio | none => false) := by
  unfold notIo
  split <;> (rename_i e; simp only [e])
  · rfl
  · rename_i h
    cases ‹Sl› with
    | io y => exact absurd rfl (h y)
    | no => rfl
    | va _ => rfl
    | ow _ => rfl
    | tb _ _ => rfl
theorem nio_no : Sl.nio .no = true := rfl
theorem nio_va {x : D} : Sl.nio (.va x) = true := rfl
theorem nio_ow {x : D} : Sl.nio (.ow x) = true := rfl
theorem nio_tb {P : Addr} {q : Str} : Sl.nio (.tb P q) = true := rfl
theorem isO_tb {P : Addr} {q : Str} : Sl.isO (.tb P q) = false := rfl
theorem isO_no : Sl.isO .no = false := rfl
theorem isO_va {x : D} : Sl.isO (.va x) = false := rfl
theorem isO_ow {x : D} : Sl.isO (.ow x) = true := rfl
theorem isO_io {x : D} : Sl.isO (.io x) = true := rfl
theorem nio_of {x : Sl} (h : x.isO = false) : x.nio = true := by cases x <;> first | rfl | cases h
/-- ints: what an operation gives where its sizes fit -/
theorem iMul_of {a b : Int} (h : CMulW a b) : iMul a b = some (a * b) := if_pos h
theorem iDiv_pos {a b : Int} (h : 0 < b) (hb : b.natAbs.log2 < 9000) : iDiv a b = some (a / b) := by
  unfold iDiv
  rw [if_pos ⟨by omega, hb⟩, Int.fdiv_eq_ediv_of_nonneg a (by omega)]
theorem iMod_pos {a b : Int} (h : 0 < b) : iMod a b = some (a % b) := by
  unfold iMod
  rw [if_pos (by omega), Int.fmod_eq_emod_of_nonneg a (by omega)]
theorem log2_lt {n k : Nat} (h : n < 2 ^ k) (hk : 0 < k) : n.log2 < k := PySem.Flt.log2_lt_of hk h
/-- both below 2 ^ 400000 -/
def sm (a : Int) : Prop := a.natAbs.log2 < 400000
theorem sm_of {a : Int} {k : Nat} (h : a.natAbs < 2 ^ k) (h0 : 0 < k) (hk : k ≤ 400000) : sm a := Nat.lt_of_lt_of_le (log2_lt h h0) hk
theorem sm64 {a : Int} (h : a.natAbs < 2 ^ 64) : sm a := sm_of h (by decide) (by decide)
theorem iMul_sm {a b : Int} (ha : sm a) (hb : sm b) : iMul a b = some (a * b) := iMul_of (by unfold sm at ha hb; show _ + _ < 1000000; omega)
/-- a multiplier below 2 ^ 64 by one below 2 ^ 64 -/
theorem iMul_64 {a b : Int} (ha : a.natAbs < 2 ^ 64) (hb : b.natAbs < 2 ^ 64) : iMul a b = some (a * b) := iMul_sm (sm64 ha) (sm64 hb)
theorem iDiv_64 {a b : Int} (h : 0 < b) (hb : b.natAbs < 2 ^ 64) : iDiv a b = some (a / b) := iDiv_pos h (Nat.lt_of_lt_of_le (log2_lt hb (by decide)) (by decide))

theorem atI_pos {α : Type} {xs : List α} {i : Int} (h : 0 ≤ i) : atI xs i = xs[i.toNat]? := by
  unfold atI ixN
  rw [if_pos h]
  split
  · rfl
  · rename_i q
    show none = _
    rw [List.getElem?_eq_none (by omega)]
theorem atI_neg {α : Type} {xs : List α} {i : Int} (h : i < 0) (h2 : -(xs.length : Int) ≤ i) : atI xs i = xs[(i + xs.length).toNat]? := by
  unfold atI ixN
  rw [if_neg (by omega), if_pos h2]
  rfl
theorem atI_0 {α : Type} {xs : List α} : atI xs 0 = xs[0]? := atI_pos (by decide)
theorem atI_1 {α : Type} {xs : List α} : atI xs 1 = xs[1]? := atI_pos (by decide)
theorem atI_2 {α : Type} {xs : List α} : atI xs 2 = xs[2]? := atI_pos (by decide)
theorem atI_3 {α : Type} {xs : List α} : atI xs 3 = xs[3]? := atI_pos (by decide)
theorem ixN_pos {n : Nat} {i : Int} (h : 0 ≤ i) (h2 : i < n) : ixN n i = some i.toNat := by
  unfold ixN
  rw [if_pos h, if_pos h2]
theorem ixN_0 {n : Nat} : ixN (n + 1) 0 = some 0 := ixN_pos (by decide) (by omega)
theorem ixN_1 {n : Nat} : ixN (n + 2) 1 = some 1 := ixN_pos (by decide) (by omega)
theorem ixN_2 {n : Nat} : ixN (n + 3) 2 = some 2 := ixN_pos (by decide) (by omega)
/-! the primitives at data of known form -/
def oI : Option Int → Option D
  | some c => some (.int c)
  | none => none
theorem oI_some {c : Int} : oI (some c) = some (.int c) := rfl
section
variable {a b : Int} {x y : D} {ds es : List D} {ns : List Int} {p q : Bool} {s t : Str}
theorem ii_int {k : Int → Int → Option Int} : ii k (.int a) (.int b) = oI (k a b) := by
  show (match k a b with | some c => some (D.int c) | none => none) = _
  cases k a b <;> rfl
theorem subD_int : subD (.int a) (.int b) = some (.int (a - b)) := rfl
theorem divD_int : divD (.int a) (.int b) = oI (iDiv a b) := ii_int
theorem modD_int : modD (.int a) (.int b) = oI (iMod a b) := ii_int
theorem powD_int : powD (.int a) (.int b) = oI (iPow a b) := ii_int
theorem mulD_int : mulD (.int a) (.int b) = oI (iMul a b) := by
  show (match iMul a b with | some c => some (D.int c) | none => none) = _
  cases iMul a b <;> rfl
theorem addD_int : addD (.int a) (.int b) = some (.int (a + b)) := rfl
theorem addD_lst : addD (.lst ds) (.lst es) = (if ds.length + es.length ≤ sizeLine then some (.lst (ds ++ es)) else none) := rfl
theorem addD_tup : addD (.tup ds) (.tup es) = (if ds.length + es.length ≤ sizeLine then some (.tup (ds ++ es)) else none) := rfl
theorem addD_str : addD (.str s) (.str t) = (if s.length + t.length ≤ sizeLine then some (.str (s ++ t)) else none) := rfl
theorem iNeg_int : iNeg (.int a) = some (.int (-a)) := rfl
theorem ltD_int : ltD (.int a) (.int b) = some (.bl (decide (a < b))) := rfl
theorem leD_int : leD (.int a) (.int b) = some (.bl (decide (a ≤ b))) := rfl
theorem gtD_int : gtD (.int a) (.int b) = some (.bl (decide (b < a))) := rfl
theorem geD_int : geD (.int a) (.int b) = some (.bl (decide (b ≤ a))) := rfl
theorem nInt_int : nInt [.int a] = some (.int a) := rfl
theorem nInt_bl : nInt [.bl p] = some (.int (if p then 1 else 0)) := rfl
theorem nAbs_int : nAbs [.int a] = some (.int (if a < 0 then -a else a)) := rfl
theorem nLen_lst : nLen [.lst ds] = some (.int ds.length) := rfl
theorem nLen_tup : nLen [.tup ds] = some (.int ds.length) := rfl
theorem nLen_scr : nLen [.scr ns] = some (.int ns.length) := rfl
theorem nMax2_int : nMax2 [.int a, .int b] = some (.int (if b > a then b else a)) := rfl
theorem nMin2_int : nMin2 [.int a, .int b] = some (.int (if b < a then b else a)) := rfl
theorem nStr_int : nStr [.int a] = (if a.natAbs.log2 < 1920 then some (.str (toString a)) else none) := rfl
theorem nTup_tup : nTup [.tup ds] = some (.tup ds) := rfl
theorem nTup_lst : nTup [.lst ds] = some (.tup ds) := rfl
theorem nLst_tup : nLst [.tup ds] = some (.lst ds) := rfl
theorem nLst_lst : nLst [.lst ds] = some (.lst ds) := rfl
theorem nLst_scr : nLst [.scr ns] = some (.lst (ns.map D.int)) := rfl
theorem ixD_lst : ixD (.lst ds) (.int a) = atI ds a := rfl
theorem ixD_tup : ixD (.tup ds) (.int a) = atI ds a := rfl
theorem ixD_scr {n : Int} (h : atI ns a = some n) : ixD (.scr ns) (.int a) = some (.int n) := by
  show (match atI ns a with | some n => some (D.int n) | none => none) = _
  rw [h]
theorem itD_lst : itD (.lst ds) = some ds := rfl
theorem itD_tup : itD (.tup ds) = some ds := rfl
theorem itD_scr : itD (.scr ns) = some (ns.map D.int) := rfl
theorem isN_non : isN x .non = some (.bl (isNonD x)) := by cases x <;> rfl
theorem noN_non : noN x .non = some (.bl (!isNonD x)) := by cases x <;> rfl
theorem isN_bl : isN (.bl p) (.bl q) = some (.bl (p == q)) := rfl
theorem noN_bl : noN (.bl p) (.bl q) = some (.bl (!(p == q))) := rfl
theorem slD_lst {lo hi : Option Int} : slD (.lst ds) lo hi = some (.lst (cutL ds lo hi)) := rfl
theorem slD_tup {lo hi : Option Int} : slD (.tup ds) lo hi = some (.tup (cutL ds lo hi)) := rfl
theorem slD_scr {lo hi : Option Int} : slD (.scr ns) lo hi = some (.lst ((cutL ns lo hi).map D.int)) := rfl
theorem isNonD_non : isNonD .non = true := rfl
theorem isNonD_int : isNonD (.int a) = false := rfl
theorem isNonD_tup : isNonD (.tup ds) = false := rfl
theorem isNonD_lst : isNonD (.lst ds) = false := rfl
theorem isNonD_str : isNonD (.str s) = false := rfl
theorem isNonD_bl : isNonD (.bl p) = false := rfl
theorem asL_lst : asL (.lst ds) = some ds := rfl
theorem kind_int : kind (.int a) = 2 := rfl
theorem kind_bl : kind (.bl p) = 1 := rfl
theorem kind_non : kind .non = 0 := rfl
theorem kind_str : kind (.str s) = 3 := rfl
theorem kind_tup : kind (.tup ds) = 4 := rfl
theorem kind_lst : kind (.lst ds) = 5 := rfl
theorem kind_ob {c : Nat} : kind (.ob c ds) = 7 + c := rfl
end
theorem rgD_mem {lo hi : Int} {x : D} (h : x ∈ rgD lo hi) : ∃ k : Int, x = .int k ∧ lo ≤ k ∧ k < hi := by
  unfold rgD at h
  obtain ⟨i, hi, rfl⟩ := List.mem_map.mp h
  have := List.mem_range.mp hi
  exact ⟨_, rfl, by omega, by omega⟩
theorem rgD_len {lo hi : Int} : (rgD lo hi).length = (hi - lo).toNat := by unfold rgD; simp
theorem rgOk_small {lo hi : Int} (h1 : -1000000000 ≤ lo) (h2 : lo ≤ 1000000000) (h3 : -1000000000 ≤ hi) (h4 : hi ≤ 1000000000) : rgOk lo hi = true := decide_eq_true ⟨by omega, by omega, by omega, by omega⟩
theorem fo_nx {t : DG} {B : DS} {x : D} {xs : List D} {d d1 d2 : Ev} (ht : t x d = some d1) (hb : B d1 = some (.nx, d2)) : fo t B (x :: xs) d = fo t B xs d2 := by
  conv => lhs; unfold fo
  simp only [ht, hb]
theorem fo_ct {t : DG} {B : DS} {x : D} {xs : List D} {d d1 d2 : Ev} (ht : t x d = some d1) (hb : B d1 = some (.ct, d2)) : fo t B (x :: xs) d = fo t B xs d2 := by
  conv => lhs; unfold fo
  simp only [ht, hb]
theorem fo_rt {t : DG} {B : DS} {x v : D} {xs : List D} {d d1 d2 : Ev} (ht : t x d = some d1) (hb : B d1 = some (.rt v, d2)) : fo t B (x :: xs) d = some (.rt v, d2) := by
  conv => lhs; unfold fo
  simp only [ht, hb]
/-- a loop that ends each turn at its end, by an invariant -/
theorem fo_inv {t : DG} {B : DS} (I : Ev → Prop) : ∀ {xs : List D} {d : Ev}, (∀ x ∈ xs, ∀ d, I d → ∃ d1 d2, t x d = some d1 ∧ B d1 = some (.nx, d2) ∧ I d2) → I d → ∃ d', fo t B xs d = some (.nx, d') ∧ I d'
  | [], d, _, h => ⟨d, rfl, h⟩
  | x :: xs, d, step, h => by
    obtain ⟨d1, d2, e1, e2, h2⟩ := step x List.mem_cons_self d h
    obtain ⟨d', e3, h3⟩ := fo_inv I (xs := xs) (fun y hy => step y (List.mem_cons_of_mem _ hy)) h2
    exact ⟨d', by unfold fo; simp only [e1, e2]; exact e3, h3⟩
/-- .. with the turn's number and what was walked -/
theorem fo_invI {t : DG} {B : DS} (I : Nat → Ev → Prop) : ∀ {xs : List D} {d : Ev} (k : Nat), (∀ i x d, xs[i]? = some x → I (k + i) d → ∃ d1 d2, t x d = some d1 ∧ B d1 = some (.nx, d2) ∧ I (k + i + 1) d2) → I k d → ∃ d', fo t B xs d = some (.nx, d') ∧ I (k + xs.length) d'
  | [], d, k, _, h => ⟨d, rfl, h⟩
  | x :: xs, d, k, step, h => by
    obtain ⟨d1, d2, e1, e2, h2⟩ := step 0 x d rfl h
    obtain ⟨d', e3, h3⟩ := fo_invI I (xs := xs) (k + 1) (fun i y d hy hi => by
      have e : k + 1 + i = k + (i + 1) := by omega
      rw [e] at hi ⊢
      exact step (i + 1) y d (by simpa using hy) hi) h2
    refine ⟨d', by unfold fo; simp only [e1, e2]; exact e3, ?_⟩
    have e : k + 1 + xs.length = k + (x :: xs).length := by simp only [List.length_cons]; omega
    rw [e] at h3
    exact h3
/-- a comprehension without a test -/
theorem cl_inv {own : List Nat} {t : DG} {f : DE} (I : Ev → Prop) (R : D → D → Prop) : ∀ {xs : List D} {d : Ev},
    (∀ x ∈ xs, ∀ d, I d → okO d own = true ∧ ∃ d1 y d2, t x (wp d own) = some d1 ∧ f d1 = some (y, d2) ∧ okO d2 own = true ∧ R x y ∧ I (bk own d d2)) → I d →
    ∃ (ys : List D) (d' : Ev), cl own t yes f xs d = some (ys, d') ∧ I d' ∧ ys.length = xs.length ∧ ∀ (i : Nat) (x y : D), xs[i]? = some x → ys[i]? = some y → R x y
  | [], d, _, h => ⟨[], d, rfl, h, rfl, fun i x y e _ => by simp at e⟩
  | x :: xs, d, step, h => by
    obtain ⟨o1, d1, y, d2, e1, e2, o2, r, h2⟩ := step x List.mem_cons_self d h
    obtain ⟨ys, d', e3, h3, hl, hr⟩ := cl_inv I R (xs := xs) (fun y hy => step y (List.mem_cons_of_mem _ hy)) h2
    refine ⟨y :: ys, d', by unfold cl; simp only [o1, e1, yes, e2, o2, e3, if_true], h3, by simp [hl], fun i a b ea eb => ?_⟩
    cases i with
    | zero => simp at ea eb; subst ea; subst eb; exact r
    | succ i => exact hr i a b (by simpa using ea) (by simpa using eb)
/-- .. of ints -/
theorem cl_ints {own : List Nat} {t : DG} {f : DE} (I : Ev → Prop) (P : Int → Prop) : ∀ {xs : List D} {d : Ev},
    (∀ x ∈ xs, ∀ d, I d → okO d own = true ∧ ∃ d1 v d2, t x (wp d own) = some d1 ∧ f d1 = some (.int v, d2) ∧ okO d2 own = true ∧ P v ∧ I (bk own d d2)) → I d →
    ∃ (vs : List Int) (d' : Ev), cl own t yes f xs d = some (vs.map D.int, d') ∧ I d' ∧ vs.length = xs.length ∧ ∀ v ∈ vs, P v
  | [], d, _, h => ⟨[], d, rfl, h, rfl, fun v e => nomatch e⟩
  | x :: xs, d, step, h => by
    obtain ⟨o1, d1, v, d2, e1, e2, o2, r, h2⟩ := step x List.mem_cons_self d h
    obtain ⟨vs, d', e3, h3, hl, hr⟩ := cl_ints I P (xs := xs) (fun y hy => step y (List.mem_cons_of_mem _ hy)) h2
    refine ⟨v :: vs, d', by unfold cl; simp only [o1, e1, yes, e2, o2, e3, if_true, List.map_cons], h3, by simp [hl], fun w hw => ?_⟩
    rcases List.mem_cons.mp hw with rfl | hw
    · exact r
    · exact hr w hw
/-- .. that leaves the slots as they are and gives a function's values -/
theorem cl_map {own : List Nat} {t : DG} {f : DE} {d : Ev} (g : D → D) (ho : okO d own = true) : ∀ {xs : List D},
    (∀ x ∈ xs, ∃ d1 d2, t x (wp d own) = some d1 ∧ f d1 = some (g x, d2) ∧ okO d2 own = true ∧ bk own d d2 = d) → cl own t yes f xs d = some (xs.map g, d)
  | [], _ => rfl
  | x :: xs, step => by
    obtain ⟨d1, d2, e1, e2, o2, h2⟩ := step x List.mem_cons_self
    have ih := cl_map (xs := xs) g ho fun y hy => step y (List.mem_cons_of_mem _ hy)
    unfold cl
    simp only [ho, e1, yes, e2, o2, h2, ih, if_true, List.map_cons]
end Zr

/-! Zr: == of plain data is equality. -/
namespace Zr
open PySem L2
mutual
/-- plain data: b: with bools and no ints, else with ints and no bools -/
def pl (b : Bool) : Nat → D → Bool
  | _, .non => true
  | _, .bl _ => b
  | _, .int _ => !b
  | _, .str x => PyData.strOk x
  | n + 1, .tup ds => plL b n ds
  | n + 1, .lst ds => plL b n ds
  | _, _ => false
def plL (b : Bool) : Nat → List D → Bool
  | _, [] => true
  | n, d :: ds => pl b n d && plL b n ds
end
mutual
theorem pl_py {b : Bool} : ∀ {n : Nat} {d : D}, pl b n d = true → ∃ p, py d = some p ∧ p.canLay0 = true ∧ p.depth ≤ n
  | _, .non, _ => ⟨_, rfl, rfl, Nat.zero_le _⟩
  | _, .bl _, _ => ⟨_, rfl, rfl, Nat.zero_le _⟩
  | _, .int _, _ => ⟨_, rfl, rfl, Nat.zero_le _⟩
  | n, .str x, h => by cases n <;> exact ⟨_, rfl, h, Nat.zero_le _⟩
  | n + 1, .tup ds, h => by
    have h : plL b n ds = true := h
    obtain ⟨ps, e, c, d⟩ := plL_py h
    exact ⟨.tuple ps, by unfold py; rw [e], c, by show PyData.depthAll ps + 1 ≤ n + 1; omega⟩
  | n + 1, .lst ds, h => by
    have h : plL b n ds = true := h
    obtain ⟨ps, e, c, d⟩ := plL_py h
    exact ⟨.list ps, by unfold py; rw [e], c, by show PyData.depthAll ps + 1 ≤ n + 1; omega⟩
  | 0, .tup _, h => by cases h
  | 0, .lst _, h => by cases h
  | 0, .ob _ _, h => by cases h
  | 0, .fn _, h => by cases h
  | 0, .scr _, h => by cases h
  | 0, .dic _, h => by cases h
  | 0, .dis _, h => by cases h
  | 0, .dil _ _, h => by cases h
  | 0, .ex _, h => by cases h
  | _ + 1, .ob _ _, h => by cases h
  | _ + 1, .fn _, h => by cases h
  | _ + 1, .scr _, h => by cases h
  | _ + 1, .dic _, h => by cases h
  | _ + 1, .dis _, h => by cases h
  | _ + 1, .dil _ _, h => by cases h
  | _ + 1, .ex _, h => by cases h
theorem plL_py {b : Bool} : ∀ {n : Nat} {ds : List D}, plL b n ds = true → ∃ ps, pyL ds = some ps ∧ PyData.canLayAll0 ps = true ∧ PyData.depthAll ps ≤ n
  | _, [], _ => ⟨[], rfl, rfl, Nat.zero_le _⟩
  | n, d :: ds, h => by
    have h : (pl b n d && plL b n ds) = true := by cases n <;> exact h
    rw [Bool.and_eq_true] at h
    obtain ⟨p, e, c, q⟩ := pl_py h.1
    obtain ⟨ps, es, cs, qs⟩ := plL_py h.2
    refine ⟨p :: ps, by unfold pyL; rw [e]; simp only [es], ?_, ?_⟩
    · show (p.canLay0 && PyData.canLayAll0 ps) = true
      rw [c, cs]; rfl
    · show max p.depth (PyData.depthAll ps) ≤ n
      omega
end
mutual
theorem pl_inj {b : Bool} : ∀ {n m : Nat} {d e : D} {p q : PyData}, pl b n d = true → pl b m e = true → py d = some p → py e = some q → (PyData.eqv p q = true ↔ d = e)
  | n, m, .non, e, p, q, h1, h2, ep, eq => by
    cases ep
    cases e with
    | non => cases eq; exact ⟨fun _ => rfl, fun _ => rfl⟩
    | bl y => cases eq; exact ⟨fun h => Bool.noConfusion (show false = true from h), fun h => by cases h⟩
    | int y => cases eq; exact ⟨fun h => Bool.noConfusion (show false = true from h), fun h => by cases h⟩
    | str y => cases eq; exact ⟨fun h => Bool.noConfusion (show false = true from h), fun h => by cases h⟩
    | tup ys =>
      unfold py at eq
      split at eq
      · cases eq; exact ⟨fun h => Bool.noConfusion (show false = true from h), fun h => by cases h⟩
      · cases eq
    | lst ys =>
      unfold py at eq
      split at eq
      · cases eq; exact ⟨fun h => Bool.noConfusion (show false = true from h), fun h => by cases h⟩
      · cases eq
    | scr ys => cases eq; exact ⟨fun h => Bool.noConfusion (show false = true from h), fun h => by cases h⟩
    | ob y z => unfold py at eq; cases eq
    | fn y => unfold py at eq; cases eq
    | dic y => unfold py at eq; cases eq
    | dis y => unfold py at eq; cases eq
    | dil y y2 => unfold py at eq; cases eq
    | ex y => unfold py at eq; cases eq
  | n, m, .bl x, e, p, q, h1, h2, ep, eq => by
    cases ep
    have hb : b = true := by cases n <;> exact h1
    subst hb
    cases e with
    | non  => cases eq; exact ⟨fun h => Bool.noConfusion (show false = true from h), fun h => by cases h⟩
    | bl y => cases eq; exact ⟨fun h => by rw [eq_of_beq (show (x == y) = true from h)], fun h => by cases h; exact beq_self_eq_true _⟩
    | int y => cases m <;> cases h2
    | str y => cases eq; exact ⟨fun h => Bool.noConfusion (show false = true from h), fun h => by cases h⟩
    | tup ys =>
      unfold py at eq
      split at eq
      · cases eq; exact ⟨fun h => Bool.noConfusion (show false = true from h), fun h => by cases h⟩
      · cases eq
    | lst ys =>
      unfold py at eq
      split at eq
      · cases eq; exact ⟨fun h => Bool.noConfusion (show false = true from h), fun h => by cases h⟩
      · cases eq
    | scr ys => cases eq; exact ⟨fun h => Bool.noConfusion (show false = true from h), fun h => by cases h⟩
    | ob y z => unfold py at eq; cases eq
    | fn y => unfold py at eq; cases eq
    | dic y => unfold py at eq; cases eq
    | dis y => unfold py at eq; cases eq
    | dil y y2 => unfold py at eq; cases eq
    | ex y => unfold py at eq; cases eq
  | n, m, .int x, e, p, q, h1, h2, ep, eq => by
    cases ep
    have hb : b = false := by cases n <;> simpa [pl] using h1
    subst hb
    cases e with
    | non  => cases eq; exact ⟨fun h => Bool.noConfusion (show false = true from h), fun h => by cases h⟩
    | bl y => cases m <;> cases h2
    | int y => cases eq; exact ⟨fun h => by rw [eq_of_beq (show (x == y) = true from h)], fun h => by cases h; exact beq_self_eq_true _⟩
    | str y => cases eq; exact ⟨fun h => Bool.noConfusion (show false = true from h), fun h => by cases h⟩
    | tup ys =>
      unfold py at eq
      split at eq
      · cases eq; exact ⟨fun h => Bool.noConfusion (show false = true from h), fun h => by cases h⟩
      · cases eq
    | lst ys =>
      unfold py at eq
      split at eq
      · cases eq; exact ⟨fun h => Bool.noConfusion (show false = true from h), fun h => by cases h⟩
      · cases eq
    | scr ys => cases eq; exact ⟨fun h => Bool.noConfusion (show false = true from h), fun h => by cases h⟩
    | ob y z => unfold py at eq; cases eq
    | fn y => unfold py at eq; cases eq
    | dic y => unfold py at eq; cases eq
    | dis y => unfold py at eq; cases eq
    | dil y y2 => unfold py at eq; cases eq
    | ex y => unfold py at eq; cases eq
  | n, m, .str x, e, p, q, h1, h2, ep, eq => by
    cases ep
    cases e with
    | non  => cases eq; exact ⟨fun h => Bool.noConfusion (show false = true from h), fun h => by cases h⟩
    | bl y => cases eq; exact ⟨fun h => Bool.noConfusion (show false = true from h), fun h => by cases h⟩
    | int y => cases eq; exact ⟨fun h => Bool.noConfusion (show false = true from h), fun h => by cases h⟩
    | str y => cases eq; exact ⟨fun h => by rw [eq_of_beq (show (x == y) = true from h)], fun h => by cases h; exact beq_self_eq_true _⟩
    | tup ys =>
      unfold py at eq
      split at eq
      · cases eq; exact ⟨fun h => Bool.noConfusion (show false = true from h), fun h => by cases h⟩
      · cases eq
    | lst ys =>
      unfold py at eq
      split at eq
      · cases eq; exact ⟨fun h => Bool.noConfusion (show false = true from h), fun h => by cases h⟩
      · cases eq
    | scr ys => cases eq; exact ⟨fun h => Bool.noConfusion (show false = true from h), fun h => by cases h⟩
    | ob y z => unfold py at eq; cases eq
    | fn y => unfold py at eq; cases eq
    | dic y => unfold py at eq; cases eq
    | dis y => unfold py at eq; cases eq
    | dil y y2 => unfold py at eq; cases eq
    | ex y => unfold py at eq; cases eq
  | n + 1, m, .tup xs, e, p, q, h1, h2, ep, eq => by
    have h1 : plL b n xs = true := h1
    unfold py at ep
    split at ep
    · rename_i ps e1
      cases ep
      cases e with
      | tup ys =>
        cases m with
        | zero => cases h2
        | succ m =>
          have h2 : plL b m ys = true := h2
          unfold py at eq
          split at eq
          · rename_i qs e2
            cases eq
            have := plL_inj h1 h2 e1 e2
            exact ⟨fun h => by rw [this.mp (show PyData.eqvAll ps qs = true from h)], fun h => this.mpr (by cases h; rfl)⟩
          · cases eq
      | lst ys =>
        unfold py at eq
        split at eq
        · cases eq; exact ⟨fun h => Bool.noConfusion (show false = true from h), fun h => by cases h⟩
        · cases eq
      | non => cases eq; exact ⟨fun h => Bool.noConfusion (show false = true from h), fun h => by cases h⟩
      | bl _ => cases eq; exact ⟨fun h => Bool.noConfusion (show false = true from h), fun h => by cases h⟩
      | int _ => cases eq; exact ⟨fun h => Bool.noConfusion (show false = true from h), fun h => by cases h⟩
      | str _ => cases eq; exact ⟨fun h => Bool.noConfusion (show false = true from h), fun h => by cases h⟩
      | scr _ => cases eq; exact ⟨fun h => Bool.noConfusion (show false = true from h), fun h => by cases h⟩
      | dic _ => cases eq
      | dis _ => cases eq
      | dil _ _ => cases eq
      | ex _ => cases eq
      | ob _ _ => cases eq
      | fn _ => cases eq
    · cases ep
  | n + 1, m, .lst xs, e, p, q, h1, h2, ep, eq => by
    have h1 : plL b n xs = true := h1
    unfold py at ep
    split at ep
    · rename_i ps e1
      cases ep
      cases e with
      | lst ys =>
        cases m with
        | zero => cases h2
        | succ m =>
          have h2 : plL b m ys = true := h2
          unfold py at eq
          split at eq
          · rename_i qs e2
            cases eq
            have := plL_inj h1 h2 e1 e2
            exact ⟨fun h => by rw [this.mp (show PyData.eqvAll ps qs = true from h)], fun h => this.mpr (by cases h; rfl)⟩
          · cases eq
      | tup ys =>
        unfold py at eq
        split at eq
        · cases eq; exact ⟨fun h => Bool.noConfusion (show false = true from h), fun h => by cases h⟩
        · cases eq
      | scr _ => cases m <;> cases h2
      | dic _ => cases m <;> cases h2
      | dis _ => cases m <;> cases h2
      | dil _ _ => cases m <;> cases h2
      | ex _ => cases m <;> cases h2
      | non => cases eq; exact ⟨fun h => Bool.noConfusion (show false = true from h), fun h => by cases h⟩
      | bl _ => cases eq; exact ⟨fun h => Bool.noConfusion (show false = true from h), fun h => by cases h⟩
      | int _ => cases eq; exact ⟨fun h => Bool.noConfusion (show false = true from h), fun h => by cases h⟩
      | str _ => cases eq; exact ⟨fun h => Bool.noConfusion (show false = true from h), fun h => by cases h⟩
      | ob _ _ => cases eq
      | fn _ => cases eq
    · cases ep
  | 0, _, .tup _, _, _, _, h, _, _, _ => by cases h
  | 0, _, .lst _, _, _, _, h, _, _, _ => by cases h
  | 0, _, .scr _, _, _, _, h, _, _, _ => by cases h
  | 0, _, .dic _, _, _, _, h, _, _, _ => by cases h
  | 0, _, .dis _, _, _, _, h, _, _, _ => by cases h
  | 0, _, .dil _ _, _, _, _, h, _, _, _ => by cases h
  | 0, _, .ex _, _, _, _, h, _, _, _ => by cases h
  | _ + 1, _, .scr _, _, _, _, h, _, _, _ => by cases h
  | _ + 1, _, .dic _, _, _, _, h, _, _, _ => by cases h
  | _ + 1, _, .dis _, _, _, _, h, _, _, _ => by cases h
  | _ + 1, _, .dil _ _, _, _, _, h, _, _, _ => by cases h
  | _ + 1, _, .ex _, _, _, _, h, _, _, _ => by cases h
  | _, _, .ob _ _, _, _, _, _, _, h, _ => by cases h
  | _, _, .fn _, _, _, _, _, _, h, _ => by cases h
termination_by _ _ d => sizeOf d
theorem plL_inj {b : Bool} : ∀ {n m : Nat} {ds es : List D} {ps qs : List PyData}, plL b n ds = true → plL b m es = true → pyL ds = some ps → pyL es = some qs → (PyData.eqvAll ps qs = true ↔ ds = es)
  | _, _, [], [], _, _, _, _, e1, e2 => by cases e1; cases e2; simp [PyData.eqvAll]
  | _, _, [], e :: es, _, qs, _, _, e1, e2 => by
    cases e1
    unfold pyL at e2
    split at e2
    · split at e2
      · cases e2; simp [PyData.eqvAll]
      · cases e2
    · cases e2
  | _, _, d :: ds, [], ps, _, _, _, e1, e2 => by
    cases e2
    unfold pyL at e1
    split at e1
    · split at e1
      · cases e1; simp [PyData.eqvAll]
      · cases e1
    · cases e1
  | n, m, d :: ds, e :: es, ps, qs, h1, h2, e1, e2 => by
    have h1 : (pl b n d && plL b n ds) = true := by cases n <;> exact h1
    have h2 : (pl b m e && plL b m es) = true := by cases m <;> exact h2
    rw [Bool.and_eq_true] at h1 h2
    unfold pyL at e1 e2
    split at e1
    · rename_i p ep
      split at e1
      · rename_i ps' eps
        cases e1
        split at e2
        · rename_i q eq
          split at e2
          · rename_i qs' eqs
            cases e2
            have i1 := pl_inj h1.1 h2.1 ep eq
            have i2 := plL_inj h1.2 h2.2 eps eqs
            simp only [PyData.eqvAll, Bool.and_eq_true, i1, i2, List.cons.injEq]
          · cases e2
        · cases e2
      · cases e1
    · cases e1
termination_by _ _ d => sizeOf d
end
open Classical in
theorem eqP_pl {b : Bool} {x y : D} (hx : pl b 64 x = true) (hy : pl b 64 y = true) : eqP x y = some (decide (x = y)) := by
  obtain ⟨p, e1, c1, d1⟩ := pl_py hx
  obtain ⟨q, e2, c2, d2⟩ := pl_py hy
  unfold eqP
  rw [e1, e2]
  have s1 : SeqAt.shaped p = true := by unfold SeqAt.shaped; rw [c1, decide_eq_true d1]; rfl
  have s2 : SeqAt.shaped q = true := by unfold SeqAt.shaped; rw [c2, decide_eq_true d2]; rfl
  simp only [s1, s2, Bool.and_self, if_true]
  have i := pl_inj hx hy e1 e2
  by_cases h : x = y
  · rw [decide_eq_true h, i.mpr h]
  · rw [decide_eq_false h]
    cases hq : PyData.eqv p q with
    | false => rfl
    | true => exact absurd (i.mp hq) h
theorem eqD_same {b : Bool} {x : D} (hx : pl b 64 x = true) : eqD x x = some (.bl true) := by unfold eqD; rw [eqP_pl hx hx]; simp
theorem neD_same {b : Bool} {x : D} (hx : pl b 64 x = true) : neD x x = some (.bl false) := by unfold neD; rw [eqP_pl hx hx]; simp
theorem eqD_ne {b : Bool} {x y : D} (hx : pl b 64 x = true) (hy : pl b 64 y = true) (h : x ≠ y) : eqD x y = some (.bl false) := by unfold eqD; rw [eqP_pl hx hy]; simp [h]
theorem neD_ne {b : Bool} {x y : D} (hx : pl b 64 x = true) (hy : pl b 64 y = true) (h : x ≠ y) : neD x y = some (.bl true) := by unfold neD; rw [eqP_pl hx hy]; simp [h]
theorem eqD_int {a b : Int} : eqD (.int a) (.int b) = some (.bl (decide (a = b))) := by
  unfold eqD; rw [eqP_pl (b := false) rfl rfl]; simp
theorem neD_int {a b : Int} : neD (.int a) (.int b) = some (.bl (!decide (a = b))) := by
  unfold neD; rw [eqP_pl (b := false) rfl rfl]; simp
theorem strOk_of (s : String) : PyData.strOk (Str.ofString s) = true := by
  unfold PyData.strOk
  rw [Str.ofString_eq_toList]
  simp only [List.all_toArray, List.all_map, List.all_eq_true, Function.comp_apply, decide_eq_true_eq]
  intro c _
  have := c.valid
  unfold UInt32.isValidChar Nat.isValidChar at this
  show c.val.toNat < _
  omega
theorem eqD_str {x y : Str} (hx : PyData.strOk x = true) (hy : PyData.strOk y = true) : eqD (.str x) (.str y) = some (.bl (decide (x = y))) := by
  unfold eqD; rw [eqP_pl (b := false) (x := .str x) (y := .str y) hx hy]; simp
theorem neD_str {x y : Str} (hx : PyData.strOk x = true) (hy : PyData.strOk y = true) : neD (.str x) (.str y) = some (.bl (!decide (x = y))) := by
  unfold neD; rw [eqP_pl (b := false) (x := .str x) (y := .str y) hx hy]; simp
theorem plL_ints {n : Nat} : ∀ ns : List Int, plL false n (ns.map D.int) = true
  | [] => by cases n <;> rfl
  | a :: r => by
    have ih := plL_ints (n := n) r
    cases n <;> (show (true && plL false _ (r.map D.int)) = true; rw [ih]; rfl)
theorem pl_ints {n : Nat} (ns : List Int) : pl false (n + 1) (.lst (ns.map D.int)) = true := plL_ints ns
theorem pl_tints {n : Nat} (ns : List Int) : pl false (n + 1) (.tup (ns.map D.int)) = true := plL_ints ns
end Zr

/-! Zr: instances made, methods and properties asked. -/
namespace Zr
open PySem L2

section
variable {G : Cls} {g : Gh} {S H : Hp} {s : St} {d : Ev} {a : Addr} {v : Option V} {x : Sl} {y : D}
theorem getElem?_snoc {α : Type} {l : List α} {x y : α} {i : Nat} (h : (l ++ [x])[i]? = some y) : (i < l.length ∧ l[i]? = some y) ∨ (i = l.length ∧ y = x) := by
  by_cases e : i < l.length
  · rw [List.getElem?_append_left e] at h; exact .inl ⟨e, h⟩
  · rw [List.getElem?_append_right (by omega)] at h
    have : i - l.length = 0 := by
      have := (List.getElem?_eq_some_iff.mp h).1
      simp at this; omega
    rw [this] at h
    simp at h
    exact .inr ⟨by omega, h.symm⟩
theorem snoc_lt {α : Type} {l : List α} {x : α} {i : Nat} (h : i < l.length) : (l ++ [x])[i]? = l[i]? := List.getElem?_append_left h
theorem snoc_at {α : Type} {l : List α} {x : α} : (l ++ [x])[l.length]? = some x := by simp
theorem OwnAt.of_snoc {i : Nat} {b : Addr} (hl : s.length = d.length) (o : OwnAt (d ++ [x]) (s ++ [v]) i b) : (i < d.length ∧ OwnAt d s i b) ∨ (i = d.length ∧ v = some (.ref b) ∧ x.isO = true) := by
  obtain ⟨w, h1, h2, h3⟩ := o
  rcases getElem?_snoc h1 with ⟨hi, h1⟩ | ⟨hi, rfl⟩
  · rw [snoc_lt (by rw [hl]; exact hi)] at h3
    exact .inl ⟨hi, w, h1, h2, h3⟩
  · rw [hi, ← hl, snoc_at] at h3
    exact .inr ⟨hi, Option.some.inj h3, h2⟩
/-- one more slot -/
theorem Zt.push (z : Zt G g S s H d) (c : Cont G S H a y) (hs : S a = none) (hb : g.B a = none) (h0 : g.H0 a = none) (ho : ∀ j, ¬ OwnAt d s j a) : Zt G g S (s ++ [some (.ref a)]) H (d ++ [.ow y]) where
  sh := z.sh
  bh := z.bh
  s0 := z.s0
  s1 := z.s1
  dm := z.dm
  ln := by simp [z.ln]
  sl := fun i x q => by
    rcases getElem?_snoc q with ⟨hi, q⟩ | ⟨hi, rfl⟩
    · obtain ⟨w, h1, h2⟩ := z.sl i x q
      exact ⟨w, by rw [snoc_lt (by rw [z.ln]; exact hi)]; exact h1, h2⟩
    · exact ⟨_, by rw [hi, ← z.ln, snoc_at], a, rfl, c, hs, hb, h0⟩
  ap := fun i j b hn h1 h2 => by
    rcases h1.of_snoc z.ln with ⟨i1, o1⟩ | ⟨i1, o1, _⟩ <;> rcases h2.of_snoc z.ln with ⟨j1, o2⟩ | ⟨j1, o2, _⟩
    · exact z.ap i j b hn o1 o2
    · cases o2; exact ho i o1
    · cases o1; exact ho j o2
    · omega
  ic := fun i b e => by
    obtain ⟨w, h1⟩ := z.ic i b e
    exact ⟨w, by rw [snoc_lt (List.getElem?_eq_some_iff.mp h1).1]; exact h1⟩
  tb := z.tb
theorem OwnAt.snoc {i : Nat} {b : Addr} (hl : s.length = d.length) (o : OwnAt d s i b) : OwnAt (d ++ [x]) (s ++ [v]) i b := by
  obtain ⟨w, h1, h2, h3⟩ := o
  have hi := (List.getElem?_eq_some_iff.mp h1).1
  exact ⟨w, by rw [snoc_lt hi]; exact h1, h2, by rw [snoc_lt (by rw [hl]; exact hi)]; exact h3⟩
theorem Zt.pop (z : Zt G g S (s ++ [v]) H (d ++ [x])) (hx : ∀ y, x ≠ .io y) (hl : s.length = d.length) : Zt G g S s H d where
  sh := z.sh
  bh := z.bh
  s0 := z.s0
  s1 := z.s1
  dm := z.dm
  ln := hl
  sl := fun i x q => by
    have hi := (List.getElem?_eq_some_iff.mp q).1
    obtain ⟨w, h1, h2⟩ := z.sl i x (by rw [snoc_lt hi]; exact q)
    exact ⟨w, by rw [snoc_lt (by rw [hl]; exact hi)] at h1; exact h1, h2⟩
  ap := fun i j b hn h1 h2 => z.ap i j b hn (h1.snoc hl) (h2.snoc hl)
  ic := fun i b e => by
    obtain ⟨w, h1⟩ := z.ic i b e
    rcases getElem?_snoc h1 with ⟨hi, h1⟩ | ⟨hi, h1⟩
    · exact ⟨w, h1⟩
    · exact absurd h1.symm (hx w)
  tb := z.tb
end

/-! ### values handed over -/
theorem iosOf_va : ∀ (xs : List D), iosOf (xs.map Ar.va) = []
  | [] => rfl
  | _ :: xs => iosOf_va xs
theorem argsD_va : ∀ (xs : List D) (d : Ev), argsD (xs.map Ar.va) d = some (xs.map Sl.va)
  | [], _ => rfl
  | x :: xs, d => by
    show (match argsD (xs.map Ar.va) d with | some t => some (Sl.va x :: t) | none => none) = _
    rw [argsD_va xs d]; rfl
theorem putD_va : ∀ (xs : List D) (t d : Ev), t.length = xs.length → putD (xs.map Ar.va) t d = some d
  | [], _, _, _ => rfl
  | x :: xs, [], _, h => by simp at h
  | x :: xs, _ :: t, d, h => putD_va xs t d (by simpa using h)

/-- every value of the arguments, then the defaults -/
def mkD (c : Nat) (F : FD) (ds : List D) (r : DA) : DE := fun d => match r d with
  | some (xs, d1) => match F (.io (.ob c []) :: (xs ++ ds).map Sl.va) with
    | some (.non, .io y :: t') => if t'.length = (xs ++ ds).length then some (y, d1) else none
    | _ => none
  | none => none
/-- o.m(..), o a value of class c -/
def mtD (c : Nat) (F : FD) (ds : List D) (f : DE) (r : DA) : DE := fun d => match f d with
  | some (.ob c' fs, d1) => if c' = c then match r d1 with
      | some (xs, d2) => match F (.va (.ob c fs) :: (xs ++ ds).map Sl.va) with
        | some (x, t') => if t'.length = (xs ++ ds).length + 1 then some (x, d2) else none
        | none => none
      | none => none
    else none
  | _ => none
/-- o.p, o a value of class c -/
def prD (c : Nat) (F : FD) (f : DE) : DE := fun d => match f d with
  | some (.ob c' fs, d1) => if c' = c then match F [.va (.ob c fs)] with
      | some (x, t') => if t'.length = 1 then some (x, d1) else none
      | none => none
    else none
  | _ => none

section
variable {G : Cls} {X : Cx} {e o : Expr} {es : List Expr} {f : DE} {r : DA} {pos p apos : Pos} {x m : Str} {F : FD} {lv n c : Nat} {fI fA : Addr} {fd : FuncData} {ps : List Str} {dvs : List V} {ds : List Value} {dd : List D} {E : XK}
theorem fnD_len {n m : Nat} {B : DS} {d : Ev} {y : D × Ev} (h : fnD n m B d = some y) : d.length = n := by
  unfold fnD at h
  split at h
  · assumption
  · cases h
theorem mkD_inv {d d' : Ev} {y : D} (h : mkD c F dd r d = some (y, d')) : ∃ xs t', r d = some (xs, d') ∧ F (.io (.ob c []) :: (xs ++ dd).map Sl.va) = some (.non, .io y :: t') ∧ t'.length = (xs ++ dd).length := by
  unfold mkD at h
  split at h
  · rename_i xs d1 e1
    split at h
    · rename_i z t' e2
      split at h
      · rename_i e3
        cases h
        exact ⟨xs, t', e1, e2, e3⟩
      · cases h
    · cases h
  · cases h
theorem make_at {g : Gh} {S1 H1 : Hp} {s : St} {d' t' : Ev} {xs : List D} {vs : List V} {y : D} {Q : VK} (hF : ∀ d y, F d = some y → d.length = n) (hdd : ∀ S, RepL G S dd dvs) (z1 : Zt G g S1 s H1 d') (ra : RepL G S1 xs vs)
    (e2 : F (Sl.io (.ob c []) :: (xs ++ dd).map Sl.va) = some (.non, Sl.io y :: t')) (e3 : t'.length = (xs ++ dd).length)
    (q : ∀ a H' S', Same S1 S' → Zt G g S' s H' d' → Cont G S' H' a y → S' a = none → g.B a = none → g.H0 a = none → (∀ j, ¬ OwnAt d' s j a) → Q (.ref a) H') :
    ∀ a dx, H1 a = none → H1 dx = none → dx ≠ a → spD G n F (.ref a :: (vs ++ dvs)) (upd (upd H1 dx (.own a)) a (.ins (G.adr c) dx [])) (fun v H2 => v = .non ∧ Q (.ref a) H2) E := by
  intro a dx ha hdx hne
  have hs : S1 a = none := z1.sh.free ha
  have hb : g.B a = none := z1.bh.free ha
  have h0 : g.H0 a = none := z1.dm a ha
  have ho : ∀ j, ¬ OwnAt d' s j a := fun j o => by
    obtain ⟨⟨u, hu⟩, _⟩ := z1.ownAddr o
    rw [ha] at hu; cases hu
  have hH : Same H1 (upd (upd H1 dx (.own a)) a (.ins (G.adr c) dx [])) := fun b u q => by
    rw [upd_ne (ne_of_none q ha), upd_ne (ne_of_none q hdx)]; exact q
  have z2 : Zt G g S1 s (upd (upd H1 dx (.own a)) a (.ins (G.adr c) dx [])) d' := z1.ext ⟨.refl _, hH, fun b u q => hH b u (z1.sh b u q), fun b u q => .inl q⟩
  have z3 := z2.push (y := .ob c []) ⟨dx, [], by rw [upd_same]; simp, by simp, .nil⟩ hs hb h0 ho
  have hall : ArL G S1 (s ++ [some (.ref a)]) (.io d'.length :: (xs ++ dd).map Ar.va) (.ref a :: (vs ++ dvs)) :=
    ⟨_, _, rfl, by show (s ++ [some (V.ref a)])[d'.length]? = _; rw [← z2.ln, snoc_at], ArL.ofRep (ra.append (hdd S1))⟩
  have hn : (V.ref a :: (vs ++ dvs)).length = n := by
    have k := hF _ _ e2
    have l := hall.length
    rw [← l]
    simpa using k
  refine call_sp z3 hall hn ?_ (t := .io (.ob c []) :: (xs ++ dd).map Sl.va) (t' := .io y :: t') (d' := d' ++ [.ow y]) (x := .non) ?_ e2 ?_ fun v H2 S2 sm2 z4 rv => ?_
  · show onceD (d'.length :: iosOf ((xs ++ dd).map Ar.va)) = true
    rw [iosOf_va]; rfl
  · show (match argsD ((xs ++ dd).map Ar.va) (d' ++ [.ow (.ob c [])]) with
      | some t => match (d' ++ [Sl.ow (.ob c [])])[d'.length]? with
        | some (.ow y) => some (Sl.io y :: t)
        | some (.io y) => some (Sl.io y :: t)
        | _ => none
      | none => none) = _
    rw [argsD_va, snoc_at]
  · show (match (d' ++ [Sl.ow (.ob c [])])[d'.length]? with
      | some (.ow _) => putD ((xs ++ dd).map Ar.va) t' ((d' ++ [Sl.ow (.ob c [])]).set d'.length (.ow y))
      | some (.io _) => putD ((xs ++ dd).map Ar.va) t' ((d' ++ [Sl.ow (.ob c [])]).set d'.length (.io y))
      | _ => none) = _
    rw [snoc_at]
    show putD _ _ _ = _
    rw [putD_va _ _ _ e3, List.set_append_right _ _ (Nat.le_refl _)]
    simp
  · refine ⟨by unfold Rep at rv; exact rv, ?_⟩
    have zp := z4.pop (fun _ q => nomatch q) z2.ln
    obtain ⟨w, h1, b, h2, h3, h4, h5, h6⟩ := z4.sl d'.length (.ow y) (by simp)
    rw [← z2.ln, snoc_at] at h1
    cases h1
    cases h2
    refine q a H2 S2 sm2 zp h3 h4 h5 h6 fun j o => ?_
    refine z4.ap j d'.length a ?_ (o.snoc z2.ln) ⟨.ow y, by simp, rfl, by rw [← z2.ln, snoc_at]⟩
    obtain ⟨w, h7, _⟩ := o
    have := (List.getElem?_eq_some_iff.mp h7).1
    omega
theorem lf_make (M : Mk X.K (G.adr c) fI) (Fk : FnOk X.prog X.w X.K X.mg X.base CX0 lv fI fd ps (spD G n F)) (hr : Room (lv + 1) X.A) (hg : Gl X x) (hm : X.mg x = some (.ref (G.adr c))) (hb : Binds X.K fd ps ds) (hd : Vals dvs ds) (hdd : ∀ S, RepL G S dd dvs)
    (hF : ∀ d y, F d = some y → d.length = n) (ha : LA G X (e :: es) r) (hdb : (x == ("__debug__" : Str)) = false := by decide) (he : starEach (e :: es) X.env = (false, eval e X.env) :: starEach es X.env := by rfl) (hpl : (backTo pos (starEach es X.env)).any (·.1) = false := by rfl) :
    LF G X (.Call (.Name x p) (e :: es) [] pos) (mkD c F dd r) := pe_weak (pe_make (E := fun _ _ _ => False) M Fk hr hg hm hb hd pass0 ha hdb he hpl) fun _ _ _ ⟨g, S, d, y, d', z, e, q⟩ => by
  obtain ⟨xs, t', e1, e2, e3⟩ := mkD_inv e
  exact ⟨g, S, d, xs, d', z, e1, fun vs H1 S1 sm z1 ra => make_at hF hdd z1 ra e2 e3 fun a H' S' sm' => q a H' S' (sm.trans sm')⟩
theorem lf_make0 (M : Mk X.K (G.adr c) fI) (Fk : FnOk X.prog X.w X.K X.mg X.base CX0 lv fI fd ps (spD G n F)) (hr : Room (lv + 1) X.A) (hg : Gl X x) (hm : X.mg x = some (.ref (G.adr c))) (hb : Binds X.K fd ps ds) (hd : Vals dvs ds) (hdd : ∀ S, RepL G S dd dvs)
    (hF : ∀ d y, F d = some y → d.length = n) (hdb : (x == ("__debug__" : Str)) = false := by decide) :
    LF G X (.Call (.Name x p) [] [] pos) (mkD c F dd an) := pe_weak (pe_make0 (E := fun _ _ _ => False) M Fk hr hg hm hb hd pass0 hdb) fun s H Q ⟨g, S, d, y, d', z, e, q⟩ => by
  obtain ⟨xs, t', e1, e2, e3⟩ := mkD_inv e
  cases e1
  exact make_at hF hdd z .nil e2 e3 fun a H' S' sm' => q a H' S' sm'
/-- a def asked with values alone -/
theorem call_va {g : Gh} {S H : Hp} {s : St} {d t' : Ev} {xs : List D} {vs : List V} {x : D} {Q : VK} (hF : ∀ d y, F d = some y → d.length = n) (z : Zt G g S s H d) (ra : RepL G S xs vs) (e2 : F (xs.map Sl.va) = some (x, t')) (e3 : t'.length = xs.length)
    (q : ∀ v H' S', Same S S' → Zt G g S' s H' d → Rep G S' x v → Q v H') : spD G n F vs H Q E :=
  call_sp z (ArL.ofRep ra) (by rw [← ra.length]; simpa using hF _ _ e2) (by rw [iosOf_va]; rfl) (argsD_va _ _) e2 (putD_va _ _ _ e3) q
/-- of a class: it may be asked, it has no such field -/
structure MethOk (G : Cls) (K : PySem.W.Frag) (c : Nat) (m : Str) (fA : Addr) : Prop where
  cl : L2.Cls K (G.adr c)
  me : Meth K (G.adr c) m fA
  no : m ∉ G.fld c
theorem mtD_inv {d d' : Ev} {y : D} (h : mtD c F dd f r d = some (y, d')) : ∃ fs d1 xs t', f d = some (.ob c fs, d1) ∧ r d1 = some (xs, d') ∧ F (.va (.ob c fs) :: (xs ++ dd).map Sl.va) = some (y, t') ∧ t'.length = (xs ++ dd).length + 1 := by
  unfold mtD at h
  split at h
  · rename_i c' fs d1 e1
    split at h
    · rename_i hc
      subst hc
      split at h
      · rename_i xs d2 e2
        split at h
        · rename_i x t' e3
          split at h
          · rename_i e4
            cases h
            exact ⟨fs, d1, xs, t', e1, e2, e3, e4⟩
          · cases h
        · cases h
      · cases h
    · cases h
  · cases h
theorem le_meth {pl : Sem Bool} (he : LE G X o f) (T : MethOk G X.K c m fA) (Fk : FnOk X.prog X.w X.K X.mg X.base CX0 lv fA fd ps (spD G n F)) (hr : Room lv X.A) (hb : Binds X.K fd ps ds) (hd : Vals dvs ds) (hdd : ∀ S, RepL G S dd dvs)
    (hF : ∀ d y, F d = some y → d.length = n) (ha : LA G X (e :: es) r)
    (hst : starEach (e :: es) X.env = (false, eval e X.env) :: starEach es X.env := by rfl) (hpl : (backTo pos (starEach es X.env)).any (·.1) = false := by rfl)
    (ht : eval (.Call (.Attribute o m apos) (e :: es) [] pos) X.env = (do
      let ov ← eval o X.env
      standAt apos.atName
      let (f, first) ← holding [ov] (getMethod ov m pl)
      callWith pos f first (backTo pos (starEach (e :: es) X.env)) (backToKw pos (keywordEach [] X.env))) := by rfl) :
    LE G X (.Call (.Attribute o m apos) (e :: es) [] pos) (mtD c F dd f r) := pe_weak (pe_meth (E := fun _ _ _ => False) he T.cl T.me Fk hr hb hd pass0 ha hst hpl ht) fun s H Q ⟨g, S, d, y, d', z, e, q⟩ => by
  obtain ⟨fs, d1, xs, t', e1, e2, e3, e4⟩ := mtD_inv e
  refine ⟨g, S, d, _, d1, z, e1, fun v H1 S1 sm1 z1 rv => ?_⟩
  obtain ⟨a, dx, vs, rfl, h1, h2, h3⟩ := inv_ob rv
  refine ⟨a, dx, _, rfl, z1.sh _ _ h1, zip_none T.no, g, S1, d1, xs, d', z1, e2, fun us H2 S2 sm2 z2 ra => ?_⟩
  exact call_va hF z2 (.cons (rv.mono sm2) (ra.append (hdd S2))) e3 (by simpa using e4) fun v H3 S3 sm3 z3 r3 => q v H3 S3 ((sm1.trans sm2).trans sm3) z3 r3
theorem le_meth0 {pl : Sem Bool} (he : LE G X o f) (T : MethOk G X.K c m fA) (Fk : FnOk X.prog X.w X.K X.mg X.base CX0 lv fA fd ps (spD G n F)) (hr : Room lv X.A) (hb : Binds X.K fd ps ds) (hd : Vals dvs ds) (hdd : ∀ S, RepL G S dd dvs)
    (hF : ∀ d y, F d = some y → d.length = n)
    (ht : eval (.Call (.Attribute o m apos) [] [] pos) X.env = (do
      let ov ← eval o X.env
      standAt apos.atName
      let (f, first) ← holding [ov] (getMethod ov m pl)
      callWith pos f first (backTo pos (starEach [] X.env)) (backToKw pos (keywordEach [] X.env))) := by rfl) :
    LE G X (.Call (.Attribute o m apos) [] [] pos) (mtD c F dd f an) := pe_weak (pe_meth0 (E := fun _ _ _ => False) he T.cl T.me Fk hr hb hd pass0 ht) fun s H Q ⟨g, S, d, y, d', z, e, q⟩ => by
  obtain ⟨fs, d1, xs, t', e1, e2, e3, e4⟩ := mtD_inv e
  cases e2
  refine ⟨g, S, d, _, _, z, e1, fun v H1 S1 sm1 z1 rv => ?_⟩
  obtain ⟨a, dx, vs, rfl, h1, h2, h3⟩ := inv_ob rv
  refine ⟨a, dx, _, rfl, z1.sh _ _ h1, zip_none T.no, ?_⟩
  show spD G n F (.ref a :: ([] ++ dvs)) H1 Q (fun _ _ _ => False)
  exact call_va hF z1 (.cons rv (RepL.nil.append (hdd S1))) e3 (by simpa using e4) fun v H3 S3 sm3 z3 r3 => q v H3 S3 (sm1.trans sm3) z3 r3
theorem le_prop {pA : Addr} (he : LE G X e f) (hc : L2.Cls X.K (G.adr c)) (hp : PropOf X.K (G.adr c) m pA fA) (Fk : FnOk X.prog X.w X.K X.mg X.base CX0 lv fA fd ps (spD G n F)) (hr : Room (lv + 1) X.A) (hb : Binds X.K fd ps [])
    (hF : ∀ d y, F d = some y → d.length = n) (hab : attributeBase e m X.env (eval e X.env) = eval e X.env := by rfl) : LE G X (.Attribute e m pos) (prD c F f) := pe_weak (pe_prop (E := fun _ _ _ => False) he hc hp Fk hr hb .nil pass0 hab) fun s H Q ⟨g, S, d, y, d', z, e, q⟩ => by
  unfold prD at e
  split at e
  · rename_i c' fs d1 e1
    split at e
    · rename_i hcc
      subst hcc
      split at e
      · rename_i x t' e3
        split at e
        · rename_i e4
          cases e
          refine ⟨g, S, d, _, _, z, e1, fun v H1 S1 sm1 z1 rv => ?_⟩
          obtain ⟨a, dx, vs, rfl, h1, h2, h3⟩ := inv_ob rv
          refine ⟨a, dx, _, rfl, z1.sh _ _ h1, ?_⟩
          exact call_va (xs := [.ob c' fs]) hF z1 (.cons rv .nil) e3 e4 fun v H3 S3 sm3 z3 r3 => q v H3 S3 (sm1.trans sm3) z3 r3
        · cases e
      · cases e
    · cases e
  · cases e
end
end Zr

/-! Zr: enumerate, zip over lists and tuples in any mix. -/
namespace Zr
open PySem L2

def SqX (k : Bool) (K : PySem.W.Frag) (H : Hp) (a : Addr) (xs : List V) : Prop := match k with
  | true => SqL K H a xs
  | false => SqT K H a xs
def IsX (k : Bool) (h : Heap) (a : Addr) (its : Array Value) : Prop := match k with
  | true => h.IsList a its
  | false => h.IsTuple a its
def ItX (k : Bool) (h : Heap) (it a : Addr) (i : Nat) : Prop := match k with
  | true => h.IsListIter it a i
  | false => h.IsTupleIter it a i
def obX (k : Bool) (a : Addr) : Obj := match k with
  | true => { cls := .type "list_iterator", data := .fields #[.ref a, .int 0 0] }
  | false => { cls := .type "tuple_iterator", data := .fields #[.ref a, .int 0 0] }
section
variable {k : Bool} {X : Cx} {pins : List (Addr × Obj)} {σ : St} {H : Hp} {s : Shared} {a it : Addr} {xs : List V} {h h' : Heap} {its its2 : Array Value} {i : Nat}
theorem SqX.src (I : Inv X pins σ H s) (q : SqX k X.K H a xs) : ∃ its : List Value, Vals xs its ∧ IsX k s.heap a its.toArray := by
  cases k
  · obtain ⟨its, r, p, _⟩ := I.tuple q
    exact ⟨its, r, p⟩
  · obtain ⟨its, r, p, _⟩ := I.list q
    exact ⟨its, r, p.isList⟩
theorem IsX.inj (p : IsX k h a its) (q : IsX k h a its2) : its = its2 := by
  cases k
  · obtain ⟨o, e, _, n, d⟩ := p
    obtain ⟨o', e', _, n', d'⟩ := q
    rw [e] at e'; cases e'
    rw [d] at d'
    injection d'
  · obtain ⟨o, e, _, n, d⟩ := p
    obtain ⟨o', e', _, n', d'⟩ := q
    rw [e] at e'; cases e'
    rw [d] at d'
    injection d'
theorem IsX.lt (p : IsX k h a its) : a < h.objs.size := by
  cases k
  · obtain ⟨o, e, _⟩ := p; exact Heap.lt_size e
  · obtain ⟨o, e, _⟩ := p; exact Heap.lt_size e
theorem draws_x {prog : Program} {w : World} {A : Around} (hh : A.handled = none) (hne : a ≠ it) (items : Array Value) : Draws prog w A it [it, a] items.size (fun i v => items[i]? = some v) (fun i h => ItX k h it a i ∧ IsX k h a items) := by
  cases k
  · exact Draws.tuple hh it a hne items
  · exact Draws.list hh it a hne items
theorem begins_x (items : Array Value) : Begins (.ref a) (obX k a) fun h => IsX k h a items := by
  cases k
  · exact begins_tuple a items
  · exact begins_list a items
theorem ItX.new (e : h.get? it = some (obX k a)) : ItX k h it a 0 := by
  cases k
  · exact ⟨_, e, rfl, rfl⟩
  · exact ⟨_, e, rfl, rfl⟩
theorem ItX.obj (p : ItX k h it a i) : ∃ o, h.get? it = some o ∧ ∀ v, o.data ≠ .cell v := by
  cases k
  · obtain ⟨o, e, _, d⟩ := p; exact ⟨o, e, fun v q => by rw [d] at q; cases q⟩
  · obtain ⟨o, e, _, d⟩ := p; exact ⟨o, e, fun v q => by rw [d] at q; cases q⟩
theorem ItX.keep (p : ItX k h it a i) (e : ∀ o, h.get? it = some o → h'.get? it = some o) : ItX k h' it a i := by
  cases k
  · exact Heap.IsTupleIter.at p e
  · exact Heap.IsListIter.at p e
theorem SqX.inj {ys : List V} (I : Inv X pins σ H s) (p : SqX k X.K H a xs) (q : SqX k X.K H a ys) : xs = ys := by
  cases k
  · exact I.tuple_inj p q
  · exact I.list_inj p q
theorem SqX.mono {K : PySem.W.Frag} {S S' : Hp} (e : Same S S') (q : SqX k K S a xs) : SqX k K S' a xs := by
  cases k
  · exact same_seqT e q
  · exact e.seq q
end

/-! ### enumerate -/
def IteX (k : Bool) (K : PySem.W.Frag) (a : Addr) : It :=
  ⟨fun i H => ∃ (xs : List V) (x : V), SqX k K H a xs ∧ xs[i]? = some x, fun i H v H' => ∃ T x, v = .ref T ∧ H T = none ∧ H' = upd H T (.tup [.int (i : Nat), x]) ∧ ∀ xs, SqX k K H a xs → xs[i]? = some x, fun i H => ∃ xs : List V, SqX k K H a xs ∧ xs.length = i⟩
theorem vals_at {xs : List V} {its : List Value} (r : Vals xs its) {i : Nat} {u : Value} (h : its.toArray[i]? = some u) : ∃ x, xs[i]? = some x ∧ RelV x u := by
  have h : its[i]? = some u := by simpa using h
  have hi : i < xs.length := by rw [r.length]; exact (List.getElem?_eq_some_iff.mp h).1
  obtain ⟨u', hu, ru⟩ := r.get (List.getElem?_eq_getElem hi)
  rw [h] at hu; cases hu
  exact ⟨_, List.getElem?_eq_getElem hi, ru⟩
theorem tup_new {P : Program} {w : World} {H : Hp} {h : Heap} {T : Addr} {x y : V} {u v : Value} (hT : h.IsTuple T #[u, v]) (ru : RelV x u) (rv : RelV y v) : ObjOk P w (upd H T (.tup [x, y])) h T (.tup [x, y]) :=
  ⟨by show 2 ≤ sizeLine; decide, [u, v], .cons ru (.cons rv .nil), hT⟩
theorem turn_enx {k : Bool} {P : Program} {w : World} {K : PySem.W.Frag} {elts : List Expr} {kk : Nat} {tpos : Pos} (a e it : Addr) :
    Turn P w K (.Tuple elts kk tpos) (IteX k K a) [e, it] e (fun i h => (∃ old, IsEnum h e it ((i : Nat) : Int) old) ∧ ItX k h it a i ∧ e ≠ it ∧ e ≠ a ∧ a ≠ it) where
  mem := by simp
  obj := fun i h st b hb => by
    obtain ⟨⟨old, he⟩, hit, _⟩ := st
    have e' : b = e ∨ b = it := by simpa using hb
    rcases e' with z | z
    · rw [z]; exact ⟨_, he, fun v q => nomatch q⟩
    · rw [z]; exact hit.obj
  keep := fun i h h' st k => let ⟨⟨old, he⟩, hi, hne⟩ := st; ⟨⟨old, k e (by simp) _ he⟩, hi.keep fun o q => k it (by simp) o q, hne⟩
  item := by
    intro X hP hw hK hc i pins s σ H E I hf st hg
    subst hP hw hK
    obtain ⟨⟨old, he⟩, hit, n1, n2, n3⟩ := st
    obtain ⟨xs, x, hq, hx⟩ := hg
    obtain ⟨its, rv, p⟩ := hq.src I
    obtain ⟨u, hu, ru⟩ := rv.get hx
    have hi : i < its.toArray.size := by simpa using (List.getElem?_eq_some_iff.mp hu).1
    have hl : ∀ b ∈ [e, it], b < s.heap.objs.size := fun b hb => by
      have e' : b = e ∨ b = it := by simpa using hb
      rcases e' with z | z
      · rw [z]; exact Heap.lt_size he
      · rw [z]; obtain ⟨o, q, _⟩ := hit.obj; exact Heap.lt_size q
    refine (GoesN.enumFrom 0 (draws_x (k := k) (prog := X.prog) (w := X.w) (A := X.A.in1) (show X.A.handled = none from I.ok.hd hc) n3 its.toArray) e n1 (by simp [n1, n2]) (by simp)).goes i s _ E hi ⟨⟨old, by rw [Int.zero_add]; exact he⟩, hit, p⟩ fun v h' tk hY st' hk htk => ?_
    obtain ⟨T, t, y, rfl, hT, hy, hTT⟩ := hY
    obtain ⟨⟨old', he'⟩, hit', _⟩ := st'
    rw [Int.zero_add] at he' hTT
    obtain ⟨x', hx', rx'⟩ := vals_at rv hy
    rw [hx] at hx'; cases hx'
    have I1 : Inv X pins σ (upd H T (.tup [.int (i : Nat), x])) { s with heap := h', toks := tk } :=
      I.turnedNew (ch := [e, it]) (fun b ob hb q => hk b ob hb q) hf hT (tup_new hTT ⟨_, rfl⟩ rx')
    refine ⟨.ref T, _, I1, rfl, ⟨T, x, rfl, I.hok.fresh hT, rfl, fun ys hy => by rw [hy.inj I hq]; exact hx⟩, ⟨⟨old', he'⟩, hit', n1, n2, n3⟩, fun b hb => ?_⟩
    rw [upd_ne (Nat.ne_of_lt (Nat.lt_of_lt_of_le (hl b hb) hT))]
    exact (hf b hb).1
  done := by
    intro X hP hw hK hc i pins s σ H E I hf st hg
    subst hP hw hK
    obtain ⟨⟨old, he⟩, hit, n1, n2, n3⟩ := st
    obtain ⟨xs, hq, hx⟩ := hg
    obtain ⟨its, rv, p⟩ := hq.src I
    have hl : its.toArray.size = i := by rw [← hx, rv.length]; simp
    refine (GoesN.enumFrom (elts := elts) (x1 := kk) (pos := tpos) 0 (draws_x (k := k) (prog := X.prog) (w := X.w) (A := X.A.in1) (show X.A.handled = none from I.ok.hd hc) n3 its.toArray) e n1 (by simp [n1, n2]) (by simp)).stops s _ E ?_ fun h' tk hk htk => ?_
    · rw [hl]; exact ⟨⟨old, by rw [Int.zero_add]; exact he⟩, hit, p⟩
    · exact I.turnedL (t' := tk) (ch := [e, it]) (fun b ob hb q => hk b ob hb q) hf
  self := fun A i s Q E st h => let ⟨⟨_, he⟩, _⟩ := st; wpAny_pyIter_enum he h
set_option maxHeartbeats 1000000 in
theorem meets_enumerate_x {v : Value} {o : Obj} {H : Heap → Prop} (B : Begins v o H) :
    Meets (Builtin.«enumerate.__new__» ⟨[.type "enumerate", v], []⟩) (fun _ R s => H s.heap ∧
      R (.ok (.ret (.ref (s.heap.push o).objs.size))) { s with heap := (s.heap.push o).push { cls := .type "enumerate", data := .fields #[.none, .bool false, .ref s.heap.objs.size, rawInt 0, .none, .none] } }) :=
  .of_wp fun prog w A R s h => by
    obtain ⟨hp, g, d, tk, os⟩ := s; obtain ⟨h1, h⟩ := h
    have hsub := sub_enumerate
    have q1 : ∀ {A' : Around} {E : Value → Shared → Prop} {Q : Value → Shared → Prop}, Q (.ref hp.objs.size) ⟨hp.push o, g, d, tk, os⟩ → wpAny (model prog w) A' (pyIter v) Q E ⟨hp, g, d, tk, os⟩ :=
      fun q => B.iter prog w _ _ ⟨hp, g, d, tk, os⟩ _ h1 q
    wp_walk using q1
    refine wpAny_stack_any fun st => wpAny_pure ?_
    split
    · rename_i c _ _ _ _ _
      cases (c == Value.type "enumerate")
      · wp_walk using q1
        exact ⟨_, rfl, h⟩
      · wp_walk using q1
        exact ⟨_, rfl, h⟩
    · wp_walk using q1
      exact ⟨_, rfl, h⟩
theorem enum_begins_x {prog : Program} {w : World} {A : Around} {E : Value → Shared → Prop} {s : Shared} {v : Value} {o : Obj} {H : Heap → Prop} {Q : Value → Shared → Prop} (B : Begins v o H) (h1 : H s.heap)
    (h : ∀ h', IsEnum h' (s.heap.objs.size + 1) s.heap.objs.size 0 .none → h'.get? s.heap.objs.size = some o → h'.objs.size = s.heap.objs.size + 2 →
      (∀ b o, s.heap.get? b = some o → h'.get? b = some o) → Q (.ref (s.heap.objs.size + 1)) { s with heap := h' }) :
    wpAny (model prog w) A (call (.type "enumerate") [v]) Q E s := by
  refine callType_new F.called_enumerate (by decide) (F.typeCall_enumerate_1 _) (F.newCall_enumerate_1 _) (fun obj => F.args_object_init_2 obj _) F.entry_enumerate_new
    (meets_enumerate_x B) ⟨h1, ?_⟩
  have hz : (s.heap.push o).objs.size = s.heap.objs.size + 1 := Heap.size_push ..
  show _ ∧ _
  rw [hz]
  have he : IsEnum ((s.heap.push o).push { cls := .type "enumerate", data := .fields #[.none, .bool false, .ref s.heap.objs.size, rawInt 0, .none, .none] }) (s.heap.objs.size + 1) s.heap.objs.size 0 .none := by
    have := Heap.get?_push_size (s.heap.push o) (o := { cls := .type "enumerate", data := .fields #[.none, .bool false, .ref s.heap.objs.size, rawInt 0, .none, .none] }) rfl
    rw [hz] at this; exact this
  refine ⟨⟨_, he, rfl⟩, h _ he (Heap.get?_push_of_some _ (Heap.get?_push_size _ B.free)) (by rw [Heap.size_push, hz]) fun b o x => Heap.get?_push_of_some _ (Heap.get?_push_of_some _ x)⟩
def iEnX (K : PySem.W.Frag) (ta : TA) : TI := fun σ H R => ta σ H fun vs H1 => ∃ a xs k, vs = [.ref a] ∧ SqX k K H1 a xs ∧ R (IteX k K a) H1
open PySem.Spec PyProof.Rows in
theorem pi_enx {X : Cx} {e : Expr} {ta : TA} {p pos tpos : Pos} {elts : List Expr} {kk : Nat} (hg : Gl X "enumerate") (hm : X.mg "enumerate" = none) (ha : PA X [e] ta) (hs : starEach [e] X.env = [(false, eval e X.env)] := by rfl) :
    PI X (.Tuple elts kk tpos) (.Call (.Name "enumerate" p) [e] [] pos) (iEnX X.K ta) := by
  refine ⟨fun pins s σ H R I h => ?_⟩
  refine Call_ (ld_blt I hg hm PyProof.Rows.boot_enumerate (PyProof.Rows.callWith_type1 (thn (ha.run pos pins s σ H _ I h) fun us s1 ⟨vs, H1, I1, r1, q1⟩ => ?_) hs rfl))
  obtain ⟨a, xs, k, ex, hq, q⟩ := q1
  subst ex
  cases r1 with
  | cons r rr =>
    cases rr
    cases r
    obtain ⟨its, rv, p'⟩ := hq.src I1
    refine enum_begins_x (begins_x (k := k) its.toArray) p' fun h' he hit hsz hk => wpAny_pyIter_enum he ?_
    have I2 : Inv X pins σ H1 { s1 with heap := h' } := I1.kept (t' := s1.toks) hk
    have ha := p'.lt
    have d1 : (s1.heap.objs.size + 1 : Nat) ≠ a := fun q => by rw [← q] at ha; exact absurd ha (Nat.not_lt.mpr (Nat.le_add_right _ _))
    have d2 : a ≠ s1.heap.objs.size := Nat.ne_of_lt ha
    refine ⟨s1.heap.objs.size + 1, [s1.heap.objs.size + 1, s1.heap.objs.size], _, _, H1, rfl, I2, turn_enx a (s1.heap.objs.size + 1) s1.heap.objs.size, ⟨⟨.none, he⟩, .new hit, Nat.succ_ne_self _, d1, d2⟩, fun b hb => ?_, q⟩
    have e' : b = s1.heap.objs.size + 1 ∨ b = s1.heap.objs.size := by simpa using hb
    have hle : s1.heap.objs.size ≤ b := by
      rcases e' with z | z
      · rw [z]; exact Nat.le_add_right _ _
      · rw [z]; exact Nat.le_refl _
    exact I1.fpOk hle (I1.hok.fresh hle)

/-! ### zip -/
def ItzX (k k2 : Bool) (K : PySem.W.Frag) (a b : Addr) : It :=
  ⟨fun i H => ∃ (xs ys : List V) (x y : V), SqX k K H a xs ∧ SqX k2 K H b ys ∧ xs[i]? = some x ∧ ys[i]? = some y,
    fun i H v H' => ∃ T x y, v = .ref T ∧ H T = none ∧ H' = upd H T (.tup [x, y]) ∧ (∀ xs, SqX k K H a xs → xs[i]? = some x) ∧ ∀ ys, SqX k2 K H b ys → ys[i]? = some y,
    fun i H => ∃ xs ys : List V, SqX k K H a xs ∧ SqX k2 K H b ys ∧ min xs.length ys.length = i⟩
theorem turn_zix {k k2 : Bool} {P : Program} {w : World} {K : PySem.W.Frag} {elts : List Expr} {kk : Nat} {tpos : Pos} {a b z TI TO i1 i2 : Addr} (D : ZipSep2 z TI TO i1 i2 [i1, a] [i2, b]) (na : a ≠ i1) (nb : b ≠ i2) :
    Turn P w K (.Tuple elts kk tpos) (ItzX k k2 K a b) [z, TI, TO, i1, i2] z (fun i h => IsZip h z TI TO .none ∧ IsTupOf2 h TI (.ref i1) (.ref i2) ∧ (∃ x y, IsTupOf2 h TO x y) ∧ ItX k h i1 a i ∧ ItX k2 h i2 b i) where
  mem := by simp
  obj := fun i h st c hc => by
    obtain ⟨hz, hTI, ⟨x, y, hTO⟩, h1, h2⟩ := st
    have e' : c = z ∨ c = TI ∨ c = TO ∨ c = i1 ∨ c = i2 := by simpa using hc
    rcases e' with q | q | q | q | q
    · rw [q]; exact ⟨_, hz, fun v q => nomatch q⟩
    · rw [q]; exact ⟨_, hTI, fun v q => nomatch q⟩
    · rw [q]; exact ⟨_, hTO, fun v q => nomatch q⟩
    · rw [q]; exact h1.obj
    · rw [q]; exact h2.obj
  keep := fun i h h' st k => by
    obtain ⟨hz, hTI, ⟨x, y, hTO⟩, h1, h2⟩ := st
    exact ⟨k z (by simp) _ hz, k TI (by simp) _ hTI, ⟨x, y, k TO (by simp) _ hTO⟩, h1.keep fun o q => k i1 (by simp) o q, h2.keep fun o q => k i2 (by simp) o q⟩
  item := by
    intro X hP hw hK hc i pins s σ H E I hf st hg
    subst hP hw hK
    obtain ⟨hz, hTI, ⟨x0, y0, hTO⟩, h1, h2⟩ := st
    obtain ⟨xs, ys, x, y, hq, hq2, hx, hy⟩ := hg
    obtain ⟨its, rv, p⟩ := hq.src I
    obtain ⟨its2, rv2, p2⟩ := hq2.src I
    obtain ⟨u, hu, ru⟩ := rv.get hx
    obtain ⟨u2, hu2, ru2⟩ := rv2.get hy
    have hi : i < its.toArray.size := by simpa using (List.getElem?_eq_some_iff.mp hu).1
    have hi2 : i < its2.toArray.size := by simpa using (List.getElem?_eq_some_iff.mp hu2).1
    have hl : ∀ c ∈ [z, TI, TO, i1, i2], c < s.heap.objs.size := fun c hb => by
      have e' : c = z ∨ c = TI ∨ c = TO ∨ c = i1 ∨ c = i2 := by simpa using hb
      rcases e' with q | q | q | q | q
      · rw [q]; exact Heap.lt_size hz
      · rw [q]; exact Heap.lt_size hTI
      · rw [q]; exact Heap.lt_size hTO
      · rw [q]; obtain ⟨o, q, _⟩ := h1.obj; exact Heap.lt_size q
      · rw [q]; obtain ⟨o, q, _⟩ := h2.obj; exact Heap.lt_size q
    have hh : X.A.in1.handled = none := show X.A.handled = none from I.ok.hd hc
    refine (GoesN.zip2 D (draws_x (k := k) (prog := X.prog) (w := X.w) hh na its.toArray) (draws_x (k := k2) (prog := X.prog) (w := X.w) hh nb its2.toArray)).goes i s _ E (Nat.lt_min.mpr ⟨hi, hi2⟩) ⟨hz, hTI, ⟨x0, y0, hTO⟩, ⟨h1, p⟩, h2, p2⟩ fun v h' tk hY st' hk htk => ?_
    obtain ⟨T, t, t2, rfl, hT, ht, ht2, hTT⟩ := hY
    obtain ⟨hz', hTI', hTO', ⟨h1', _⟩, h2', _⟩ := st'
    obtain ⟨x', hx', rx'⟩ := vals_at rv ht
    obtain ⟨y', hy', ry'⟩ := vals_at rv2 ht2
    rw [hx] at hx'; cases hx'
    rw [hy] at hy'; cases hy'
    have I1 : Inv X pins σ (upd H T (.tup [x, y])) { s with heap := h', toks := tk } :=
      I.turnedNew (ch := [z, TI, TO, i1, i2]) (fun b ob hb q => hk b ob (fun m => hb (by
        have m' : b = z ∨ b = TO ∨ b = i1 ∨ b = i2 := by simpa using m
        rcases m' with q | q | q | q <;> simp [q])) q) hf hT (tup_new hTT rx' ry')
    refine ⟨.ref T, _, I1, rfl, ⟨T, x, y, rfl, I.hok.fresh hT, rfl, fun l hl => by rw [hl.inj I hq]; exact hx, fun l hl => by rw [hl.inj I hq2]; exact hy⟩, ⟨hz', hTI', hTO', h1', h2'⟩, fun b hb => ?_⟩
    rw [upd_ne (Nat.ne_of_lt (Nat.lt_of_lt_of_le (hl b hb) hT))]
    exact (hf b hb).1
  done := by
    intro X hP hw hK hc i pins s σ H E I hf st hg
    subst hP hw hK
    obtain ⟨hz, hTI, ⟨x0, y0, hTO⟩, h1, h2⟩ := st
    obtain ⟨xs, ys, hq, hq2, hx⟩ := hg
    obtain ⟨its, rv, p⟩ := hq.src I
    obtain ⟨its2, rv2, p2⟩ := hq2.src I
    have hl : min its.toArray.size its2.toArray.size = i := by rw [← hx, rv.length, rv2.length]; simp
    have hh : X.A.in1.handled = none := show X.A.handled = none from I.ok.hd hc
    refine (GoesN.zip2 (elts := elts) (x1 := kk) (pos := tpos) D (draws_x (k := k) (prog := X.prog) (w := X.w) hh na its.toArray) (draws_x (k := k2) (prog := X.prog) (w := X.w) hh nb its2.toArray)).stops s _ E ?_ fun h' tk hk htk => ?_
    · rw [hl]; exact ⟨hz, hTI, ⟨x0, y0, hTO⟩, ⟨h1, p⟩, h2, p2⟩
    · exact I.turnedL (t' := tk) (ch := [z, TI, TO, i1, i2]) (fun b ob hb q => hk b ob (fun m => hb (by
        have m' : b = z ∨ b = TO ∨ b = i1 ∨ b = i2 := by simpa using m
        rcases m' with q | q | q | q <;> simp [q])) q) hf
  self := fun A i s Q E st h => wpAny_pyIter_zip st.1 h
def iZiX (K : PySem.W.Frag) (ta : TA) : TI := fun σ H R => ta σ H fun vs H1 => ∃ a b xs ys k k2, vs = [.ref a, .ref b] ∧ SqX k K H1 a xs ∧ SqX k2 K H1 b ys ∧ R (ItzX k k2 K a b) H1
open PySem.Spec PyProof.Rows in
theorem pi_zix {X : Cx} {e e2 : Expr} {ta : TA} {p pos tpos : Pos} {elts : List Expr} {kk : Nat} (hg : Gl X "zip") (hm : X.mg "zip" = none) (ha : PA X [e, e2] ta)
    (hs : starEach [e, e2] X.env = (false, eval e X.env) :: starEach [e2] X.env := by rfl) (hpl : (backTo pos (starEach [e2] X.env)).any (·.1) = false := by rfl) :
    PI X (.Tuple elts kk tpos) (.Call (.Name "zip" p) [e, e2] [] pos) (iZiX X.K ta) := by
  refine ⟨fun pins s σ H R I h => ?_⟩
  refine Call_ (ld_blt I hg hm PyProof.Rows.boot_zip (PyProof.Rows.callWith_type1 (thn (ha.run pos pins s σ H _ I h) fun us s1 ⟨vs, H1, I1, r1, q1⟩ => ?_) hs hpl))
  obtain ⟨a, b, xs, ys, k, k2, ex, hq, hq2, q⟩ := q1
  subst ex
  cases r1 with
  | cons r rr =>
    cases rr with
    | cons r' rr =>
      cases rr
      cases r
      cases r'
      obtain ⟨its, rv, p1⟩ := hq.src I1
      obtain ⟨its2, rv2, p2⟩ := hq2.src I1
      have l1 := p1.lt
      have l2 := p2.lt
      have n1 : a ≠ s1.heap.objs.size := Nat.ne_of_lt l1
      have n2 : b ≠ s1.heap.objs.size + 1 := fun q => by rw [q] at l2; exact absurd l2 (Nat.not_lt.mpr (Nat.le_add_right _ _))
      refine zip_begins2 (begins_x (k := k) its.toArray) (begins_x (k := k2) its2.toArray) p1 p2 fun h' hz hTI hTO h1 h2 hsz hk => wpAny_pyIter_zip hz ?_
      have I2 : Inv X pins σ H1 { s1 with heap := h' } := I1.kept (t' := s1.toks) hk
      have fresh5 : ∀ c, c ∈ [s1.heap.objs.size + 4, s1.heap.objs.size + 2, s1.heap.objs.size + 3, s1.heap.objs.size, s1.heap.objs.size + 1] → FpOk X pins H1 c := fun c hcm => by
        have e' : c = s1.heap.objs.size + 4 ∨ c = s1.heap.objs.size + 2 ∨ c = s1.heap.objs.size + 3 ∨ c = s1.heap.objs.size ∨ c = s1.heap.objs.size + 1 := by simpa using hcm
        have hle : s1.heap.objs.size ≤ c := by
          rcases e' with z | z | z | z | z
          · rw [z]; exact Nat.le_add_right _ _
          · rw [z]; exact Nat.le_add_right _ _
          · rw [z]; exact Nat.le_add_right _ _
          · rw [z]; exact Nat.le_refl _
          · rw [z]; exact Nat.le_add_right _ _
        exact I1.fpOk hle (I1.hok.fresh hle)
      exact ⟨s1.heap.objs.size + 4, [s1.heap.objs.size + 4, s1.heap.objs.size + 2, s1.heap.objs.size + 3, s1.heap.objs.size, s1.heap.objs.size + 1], _, _, H1, rfl, I2,
        turn_zix (zip_sep2 (fp1 := [a]) (fp2 := [b]) (fun c hc => by rw [List.mem_singleton.mp hc]; exact l1) (fun c hc => by rw [List.mem_singleton.mp hc]; exact l2)) n1 n2, ⟨hz, hTI, ⟨_, _, hTO⟩, .new h1, .new h2⟩, fresh5, q⟩

/-! ### over data -/
def enD : Nat → List D → List D
  | _, [] => []
  | n, x :: xs => .tup [.int (n : Nat), x] :: enD (n + 1) xs
def zpD : List D → List D → List D
  | x :: xs, y :: ys => .tup [x, y] :: zpD xs ys
  | _, _ => []
theorem enD_get : ∀ {xs : List D} {n i : Nat}, (enD n xs)[i]? = xs[i]?.map fun x => D.tup [.int ((n + i : Nat) : Int), x]
  | [], _, _ => by simp [enD]
  | x :: xs, n, 0 => by simp [enD]
  | x :: xs, n, i + 1 => by
    unfold enD
    rw [List.getElem?_cons_succ, List.getElem?_cons_succ, enD_get, show n + 1 + i = n + (i + 1) by omega]
theorem enD_len : ∀ {xs : List D} {n : Nat}, (enD n xs).length = xs.length
  | [], _ => rfl
  | _ :: xs, n => by unfold enD; simp [enD_len]
theorem zpD_get : ∀ {xs ys : List D} {i : Nat} {z : D}, (zpD xs ys)[i]? = some z → ∃ x y, xs[i]? = some x ∧ ys[i]? = some y ∧ z = .tup [x, y]
  | x :: xs, y :: ys, 0, z, h => by unfold zpD at h; simp at h; exact ⟨x, y, rfl, rfl, h.symm⟩
  | x :: xs, y :: ys, i + 1, z, h => by
    unfold zpD at h
    rw [List.getElem?_cons_succ] at h
    obtain ⟨a, b, h1, h2, h3⟩ := zpD_get h
    exact ⟨a, b, by simpa using h1, by simpa using h2, h3⟩
  | [], _, _, _, h => by simp [zpD] at h
  | _ :: _, [], _, _, h => by simp [zpD] at h
theorem zpD_len : ∀ {xs ys : List D}, (zpD xs ys).length = min xs.length ys.length
  | x :: xs, y :: ys => by unfold zpD; simp [zpD_len]
  | [], _ => by simp [zpD]
  | _ :: _, [] => by simp [zpD]
def en (f : DE) : DA := fun d => match f d with
  | some (x, d1) => match itD x with
    | some xs => some (enD 0 xs, d1)
    | none => none
  | none => none
def zp (f h : DE) : DA := fun d => match f d with
  | some (x, d1) => match h d1 with
    | some (y, d2) => match itD x with
      | some xs => match itD y with
        | some ys => some (zpD xs ys, d2)
        | none => none
      | none => none
    | none => none
  | none => none
section
variable {G : Cls} {X : Cx} {a b : Expr} {f h : DE} {pos p tpos : Pos} {elts : List Expr} {kk : Nat}
theorem sq_of {S : Hp} {y : D} {v : V} {ds : List D} (e : itD y = some ds) (r : Rep G S y v) : ∃ a vs k, v = .ref a ∧ SqX k G.K S a vs ∧ RepL G S ds vs := by
  cases y with
  | lst ds' =>
    cases e
    obtain ⟨a, vs, rfl, h1, r1⟩ := inv_lst r
    exact ⟨a, vs, true, rfl, SqL.of h1, r1⟩
  | scr ns =>
    cases e
    obtain ⟨a, rfl, h1⟩ := inv_scr r
    exact ⟨a, _, true, rfl, h1, RepL.ints⟩
  | tup ds' =>
    cases e
    obtain ⟨a, vs, rfl, h1, r1⟩ := inv_tup r
    exact ⟨a, vs, false, rfl, h1, r1⟩
  | non => cases e
  | bl _ => cases e
  | int _ => cases e
  | str _ => cases e
  | ob _ _ => cases e
  | fn _ => cases e
  | dic _ => cases e
  | dis _ => cases e
  | dil _ _ => cases e
  | ex _ => cases e
theorem rep_pair {S1 H1 : Hp} {T : Addr} {x y : V} {ds es : D} (s2 : Same S1 H1) (hT : H1 T = none) (rx : Rep G S1 ds x) (ry : Rep G S1 es y) : ∃ S', Ext S1 H1 S' (upd H1 T (.tup [x, y])) ∧ Rep G S' (.tup [ds, es]) (.ref T) := by
  have E := Ext.alloc (o := .tup [x, y]) s2 hT
  refine ⟨_, E, ?_⟩
  unfold Rep
  exact ⟨T, [x, y], rfl, .inl (.inl upd_same), .cons (rx.mono E.s) (.cons (ry.mono E.s) .nil)⟩
theorem enx_ok {k : Bool} {S : Hp} {a : Addr} {vs : List V} {ds : List D} (h : SqX k G.K S a vs) (r : RepL G S ds vs) : ItD G (IteX k G.K a) S (enD 0 ds) where
  go := fun i S1 H1 s1 s2 hi => by
    have hi' : i < vs.length := by rw [← r.length]; rw [enD_len] at hi; exact hi
    exact ⟨vs, vs[i], h.mono (s1.trans s2), List.getElem?_eq_getElem hi'⟩
  stop := fun S1 H1 s1 s2 => ⟨vs, h.mono (s1.trans s2), by rw [enD_len, r.length]⟩
  yld := fun i S1 H1 v H' x s1 s2 hx y => by
    obtain ⟨T, u, rfl, hT, rfl, hu⟩ := y
    rw [enD_get] at hx
    cases e : ds[i]? with
    | none => rw [e] at hx; cases hx
    | some w =>
      rw [e] at hx
      cases hx
      obtain ⟨u', e1, r1⟩ := r.get e
      have := hu vs (h.mono (s1.trans s2))
      rw [e1] at this
      cases this
      exact rep_pair s2 hT (by rw [Nat.zero_add]; exact rep_int) (r1.mono s1)
theorem zix_ok {k k2 : Bool} {S : Hp} {a b : Addr} {vs us : List V} {ds es : List D} (h : SqX k G.K S a vs) (r : RepL G S ds vs) (h2 : SqX k2 G.K S b us) (r2 : RepL G S es us) : ItD G (ItzX k k2 G.K a b) S (zpD ds es) where
  go := fun i S1 H1 s1 s2 hi => by
    rw [zpD_len] at hi
    have hi' : i < vs.length := by rw [← r.length]; omega
    have hi2 : i < us.length := by rw [← r2.length]; omega
    exact ⟨vs, us, vs[i], us[i], h.mono (s1.trans s2), h2.mono (s1.trans s2), List.getElem?_eq_getElem hi', List.getElem?_eq_getElem hi2⟩
  stop := fun S1 H1 s1 s2 => ⟨vs, us, h.mono (s1.trans s2), h2.mono (s1.trans s2), by rw [zpD_len, r.length, r2.length]⟩
  yld := fun i S1 H1 v H' x s1 s2 hx y => by
    obtain ⟨T, u, u2, rfl, hT, rfl, hu, hu2⟩ := y
    obtain ⟨w, w2, e1, e2, rfl⟩ := zpD_get hx
    obtain ⟨u', e3, r3⟩ := r.get e1
    obtain ⟨u2', e4, r4⟩ := r2.get e2
    have q1 := hu vs (h.mono (s1.trans s2))
    have q2 := hu2 us (h2.mono (s1.trans s2))
    rw [e3] at q1; cases q1
    rw [e4] at q2; cases q2
    exact rep_pair s2 hT (r3.mono s1) (r4.mono s1)
theorem li_en (hK : G.K = X.K) (hg : Gl X "enumerate") (hm : X.mg "enumerate" = none) (he : LE G X a f) (hs : starEach [a] X.env = [(false, eval a X.env)] := by rfl) : LI G X (.Tuple elts kk tpos) (.Call (.Name "enumerate" p) [a] [] pos) (en f) :=
  pi_weak (pi_enx hg hm (pa_cons he pa_nil hs) hs) fun s H R ⟨g, S, d, xs, d', z, e, q⟩ => by
    unfold en at e
    split at e
    · rename_i x d1 e1
      split at e
      · rename_i ys e2
        cases e
        refine ⟨g, S, d, _, d', z, e1, fun v H' S' sm z' r => ?_⟩
        obtain ⟨a, vs, k, rfl, h1, h2⟩ := sq_of e2 r
        refine ⟨a, vs, k, rfl, by rw [← hK]; exact h1.mono z'.sh, ?_⟩
        have := q (IteX k G.K a) H' S' sm z' (enx_ok h1 h2)
        rw [hK] at this
        exact this
      · cases e
    · cases e
theorem li_zp (hK : G.K = X.K) (hg : Gl X "zip") (hm : X.mg "zip" = none) (he : LE G X a f) (hh : LE G X b h) (hs : starEach [a, b] X.env = (false, eval a X.env) :: starEach [b] X.env := by rfl) (hs2 : starEach [b] X.env = [(false, eval b X.env)] := by rfl) (hpl : (backTo pos (starEach [b] X.env)).any (·.1) = false := by rfl) :
    LI G X (.Tuple elts kk tpos) (.Call (.Name "zip" p) [a, b] [] pos) (zp f h) :=
  pi_weak (pi_zix hg hm (pa_cons he (pa_cons hh pa_nil hs2) hs) hs hpl) fun s H R ⟨g, S, d, xs, d', z, e, q⟩ => by
    unfold zp at e
    split at e
    · rename_i x d1 e1
      split at e
      · rename_i y d2 e2
        split at e
        · rename_i xs' e3
          split at e
          · rename_i ys e4
            cases e
            refine ⟨g, S, d, _, d1, z, e1, fun v H' S' sm z' r => ⟨g, S', d1, _, d', z', e2, fun v2 H2 S2 sm2 z2 r2 => ?_⟩⟩
            obtain ⟨a, vs, k, rfl, h1, h2⟩ := sq_of e3 (r.mono sm2)
            obtain ⟨b, us, k2, rfl, h3, h4⟩ := sq_of e4 r2
            refine ⟨a, b, vs, us, k, k2, rfl, by rw [← hK]; exact h1.mono z2.sh, by rw [← hK]; exact h3.mono z2.sh, ?_⟩
            have := q (ItzX k k2 G.K a b) H2 S2 (sm.trans sm2) z2 (zix_ok h1 h2 h3 h4)
            rw [hK] at this
            exact this
          · cases e
        · cases e
      · cases e
    · cases e
end
end Zr

/-! Zr: zip of three over lists and tuples in any mix. -/
namespace Zr
open PySem L2
theorem tup_new3 {P : Program} {w : World} {H : Hp} {h : Heap} {T : Addr} {x y z : V} {u v t : Value} (hT : h.IsTuple T #[u, v, t]) (ru : RelV x u) (rv : RelV y v) (rt : RelV z t) : ObjOk P w (upd H T (.tup [x, y, z])) h T (.tup [x, y, z]) :=
  ⟨by show 3 ≤ sizeLine; decide, [u, v, t], .cons ru (.cons rv (.cons rt .nil)), hT⟩
def ItzX3 (k k2 k3 : Bool) (K : PySem.W.Frag) (a b c : Addr) : It :=
  ⟨fun i H => ∃ (xs ys zs : List V) (x y z : V), SqX k K H a xs ∧ SqX k2 K H b ys ∧ SqX k3 K H c zs ∧ xs[i]? = some x ∧ ys[i]? = some y ∧ zs[i]? = some z,
    fun i H v H' => ∃ T x y z, v = .ref T ∧ H T = none ∧ H' = upd H T (.tup [x, y, z]) ∧ (∀ xs, SqX k K H a xs → xs[i]? = some x) ∧ (∀ ys, SqX k2 K H b ys → ys[i]? = some y) ∧ ∀ zs, SqX k3 K H c zs → zs[i]? = some z,
    fun i H => ∃ xs ys zs : List V, SqX k K H a xs ∧ SqX k2 K H b ys ∧ SqX k3 K H c zs ∧ min (min xs.length ys.length) zs.length = i⟩
theorem turn_zix3 {k k2 k3 : Bool} {P : Program} {w : World} {K : PySem.W.Frag} {elts : List Expr} {kk : Nat} {tpos : Pos} {a b c z TI TO i1 i2 i3 : Addr} (D : ZipSep3 z TI TO i1 i2 i3 [i1, a] [i2, b] [i3, c]) (na : a ≠ i1) (nb : b ≠ i2) (nc : c ≠ i3) :
    Turn P w K (.Tuple elts kk tpos) (ItzX3 k k2 k3 K a b c) [z, TI, TO, i1, i2, i3] z (fun i h => IsZip h z TI TO .none ∧ IsTupOf3 h TI (.ref i1) (.ref i2) (.ref i3) ∧ (∃ x y t, IsTupOf3 h TO x y t) ∧ ItX k h i1 a i ∧ ItX k2 h i2 b i ∧ ItX k3 h i3 c i) where
  mem := by simp
  obj := fun i h st c hc => by
    obtain ⟨hz, hTI, ⟨x, y, t, hTO⟩, h1, h2, h3⟩ := st
    have e' : c = z ∨ c = TI ∨ c = TO ∨ c = i1 ∨ c = i2 ∨ c = i3 := by simpa using hc
    rcases e' with q | q | q | q | q | q
    · rw [q]; exact ⟨_, hz, fun v q => nomatch q⟩
    · rw [q]; exact ⟨_, hTI, fun v q => nomatch q⟩
    · rw [q]; exact ⟨_, hTO, fun v q => nomatch q⟩
    · rw [q]; exact h1.obj
    · rw [q]; exact h2.obj
    · rw [q]; exact h3.obj
  keep := fun i h h' st k => by
    obtain ⟨hz, hTI, ⟨x, y, t, hTO⟩, h1, h2, h3⟩ := st
    exact ⟨k z (by simp) _ hz, k TI (by simp) _ hTI, ⟨x, y, t, k TO (by simp) _ hTO⟩, h1.keep fun o q => k i1 (by simp) o q, h2.keep fun o q => k i2 (by simp) o q, h3.keep fun o q => k i3 (by simp) o q⟩
  item := by
    intro X hP hw hK hc i pins s σ H E I hf st hg
    subst hP hw hK
    obtain ⟨hz, hTI, ⟨x0, y0, z0, hTO⟩, h1, h2, h3⟩ := st
    obtain ⟨xs, ys, zs, x, y, w, hq, hq2, hq3, hx, hy, hw⟩ := hg
    obtain ⟨its, rv, p⟩ := hq.src I
    obtain ⟨its2, rv2, p2⟩ := hq2.src I
    obtain ⟨its3, rv3, p3⟩ := hq3.src I
    obtain ⟨u, hu, ru⟩ := rv.get hx
    obtain ⟨u2, hu2, ru2⟩ := rv2.get hy
    obtain ⟨u3, hu3, ru3⟩ := rv3.get hw
    have hi : i < its.toArray.size := by simpa using (List.getElem?_eq_some_iff.mp hu).1
    have hi2 : i < its2.toArray.size := by simpa using (List.getElem?_eq_some_iff.mp hu2).1
    have hi3 : i < its3.toArray.size := by simpa using (List.getElem?_eq_some_iff.mp hu3).1
    have hl : ∀ c ∈ [z, TI, TO, i1, i2, i3], c < s.heap.objs.size := fun c hb => by
      have e' : c = z ∨ c = TI ∨ c = TO ∨ c = i1 ∨ c = i2 ∨ c = i3 := by simpa using hb
      rcases e' with q | q | q | q | q | q
      · rw [q]; exact Heap.lt_size hz
      · rw [q]; exact Heap.lt_size hTI
      · rw [q]; exact Heap.lt_size hTO
      · rw [q]; obtain ⟨o, q, _⟩ := h1.obj; exact Heap.lt_size q
      · rw [q]; obtain ⟨o, q, _⟩ := h2.obj; exact Heap.lt_size q
      · rw [q]; obtain ⟨o, q, _⟩ := h3.obj; exact Heap.lt_size q
    have hh : X.A.in1.handled = none := show X.A.handled = none from I.ok.hd hc
    refine (GoesN.zip3 D (draws_x (k := k) (prog := X.prog) (w := X.w) hh na its.toArray) (draws_x (k := k2) (prog := X.prog) (w := X.w) hh nb its2.toArray) (draws_x (k := k3) (prog := X.prog) (w := X.w) hh nc its3.toArray)).goes i s _ E (Nat.lt_min.mpr ⟨Nat.lt_min.mpr ⟨hi, hi2⟩, hi3⟩) ⟨hz, hTI, ⟨x0, y0, z0, hTO⟩, ⟨h1, p⟩, ⟨h2, p2⟩, h3, p3⟩ fun v h' tk hY st' hk htk => ?_
    obtain ⟨T, t, t2, t3, rfl, hT, ht, ht2, ht3, hTT⟩ := hY
    obtain ⟨hz', hTI', hTO', ⟨h1', _⟩, ⟨h2', _⟩, h3', _⟩ := st'
    obtain ⟨x', hx', rx'⟩ := vals_at rv ht
    obtain ⟨y', hy', ry'⟩ := vals_at rv2 ht2
    obtain ⟨w', hw', rw'⟩ := vals_at rv3 ht3
    rw [hx] at hx'; cases hx'
    rw [hy] at hy'; cases hy'
    rw [hw] at hw'; cases hw'
    have I1 : Inv X pins σ (upd H T (.tup [x, y, w])) { s with heap := h', toks := tk } :=
      I.turnedNew (ch := [z, TI, TO, i1, i2, i3]) (fun b ob hb q => hk b ob (fun m => hb (by
        have m' : b = z ∨ b = TO ∨ b = i1 ∨ b = i2 ∨ b = i3 := by simpa using m
        rcases m' with q | q | q | q | q <;> simp [q])) q) hf hT (tup_new3 hTT rx' ry' rw')
    refine ⟨.ref T, _, I1, rfl, ⟨T, x, y, w, rfl, I.hok.fresh hT, rfl, fun l hl => by rw [hl.inj I hq]; exact hx, fun l hl => by rw [hl.inj I hq2]; exact hy, fun l hl => by rw [hl.inj I hq3]; exact hw⟩, ⟨hz', hTI', hTO', h1', h2', h3'⟩, fun b hb => ?_⟩
    rw [upd_ne (Nat.ne_of_lt (Nat.lt_of_lt_of_le (hl b hb) hT))]
    exact (hf b hb).1
  done := by
    intro X hP hw hK hc i pins s σ H E I hf st hg
    subst hP hw hK
    obtain ⟨hz, hTI, ⟨x0, y0, z0, hTO⟩, h1, h2, h3⟩ := st
    obtain ⟨xs, ys, zs, hq, hq2, hq3, hx⟩ := hg
    obtain ⟨its, rv, p⟩ := hq.src I
    obtain ⟨its2, rv2, p2⟩ := hq2.src I
    obtain ⟨its3, rv3, p3⟩ := hq3.src I
    have hl : min (min its.toArray.size its2.toArray.size) its3.toArray.size = i := by rw [← hx, rv.length, rv2.length, rv3.length]; simp
    have hh : X.A.in1.handled = none := show X.A.handled = none from I.ok.hd hc
    refine (GoesN.zip3 (elts := elts) (x1 := kk) (pos := tpos) D (draws_x (k := k) (prog := X.prog) (w := X.w) hh na its.toArray) (draws_x (k := k2) (prog := X.prog) (w := X.w) hh nb its2.toArray) (draws_x (k := k3) (prog := X.prog) (w := X.w) hh nc its3.toArray)).stops s _ E ?_ fun h' tk hk htk => ?_
    · rw [hl]; exact ⟨hz, hTI, ⟨x0, y0, z0, hTO⟩, ⟨h1, p⟩, ⟨h2, p2⟩, h3, p3⟩
    · exact I.turnedL (t' := tk) (ch := [z, TI, TO, i1, i2, i3]) (fun b ob hb q => hk b ob (fun m => hb (by
        have m' : b = z ∨ b = TO ∨ b = i1 ∨ b = i2 ∨ b = i3 := by simpa using m
        rcases m' with q | q | q | q | q <;> simp [q])) q) hf
  self := fun A i s Q E st h => wpAny_pyIter_zip st.1 h
def iZiX3 (K : PySem.W.Frag) (ta : TA) : TI := fun σ H R => ta σ H fun vs H1 => ∃ a b c xs ys zs k k2 k3, vs = [.ref a, .ref b, .ref c] ∧ SqX k K H1 a xs ∧ SqX k2 K H1 b ys ∧ SqX k3 K H1 c zs ∧ R (ItzX3 k k2 k3 K a b c) H1
open PySem.Spec PyProof.Rows in
theorem pi_zix3 {X : Cx} {e e2 e3 : Expr} {ta : TA} {p pos tpos : Pos} {elts : List Expr} {kk : Nat} (hg : Gl X "zip") (hm : X.mg "zip" = none) (ha : PA X [e, e2, e3] ta)
    (hs : starEach [e, e2, e3] X.env = (false, eval e X.env) :: starEach [e2, e3] X.env := by rfl) (hpl : (backTo pos (starEach [e2, e3] X.env)).any (·.1) = false := by rfl) :
    PI X (.Tuple elts kk tpos) (.Call (.Name "zip" p) [e, e2, e3] [] pos) (iZiX3 X.K ta) := by
  refine ⟨fun pins s σ H R I h => ?_⟩
  refine Call_ (ld_blt I hg hm PyProof.Rows.boot_zip (PyProof.Rows.callWith_type1 (thn (ha.run pos pins s σ H _ I h) fun us s1 ⟨vs, H1, I1, r1, q1⟩ => ?_) hs hpl))
  obtain ⟨a, b, c, xs, ys, zs, k, k2, k3, ex, hq, hq2, hq3, q⟩ := q1
  subst ex
  cases r1 with
  | cons r rr =>
    cases rr with
    | cons r' rr =>
      cases rr with
      | cons r'' rr =>
        cases rr
        cases r
        cases r'
        cases r''
        obtain ⟨its, rv, p1⟩ := hq.src I1
        obtain ⟨its2, rv2, p2⟩ := hq2.src I1
        obtain ⟨its3, rv3, p3⟩ := hq3.src I1
        have l1 := p1.lt
        have l2 := p2.lt
        have l3 := p3.lt
        have n1 : a ≠ s1.heap.objs.size := Nat.ne_of_lt l1
        have n2 : b ≠ s1.heap.objs.size + 1 := fun q => by rw [q] at l2; exact absurd l2 (Nat.not_lt.mpr (Nat.le_add_right _ _))
        have n3 : c ≠ s1.heap.objs.size + 2 := fun q => by rw [q] at l3; exact absurd l3 (Nat.not_lt.mpr (Nat.le_add_right _ _))
        refine zip_begins3 (begins_x (k := k) its.toArray) (begins_x (k := k2) its2.toArray) (begins_x (k := k3) its3.toArray) p1 p2 p3 fun h' hz hTI hTO h1 h2 h3 hsz hk => wpAny_pyIter_zip hz ?_
        have I2 : Inv X pins σ H1 { s1 with heap := h' } := I1.kept (t' := s1.toks) hk
        have fresh6 : ∀ c, c ∈ [s1.heap.objs.size + 5, s1.heap.objs.size + 3, s1.heap.objs.size + 4, s1.heap.objs.size, s1.heap.objs.size + 1, s1.heap.objs.size + 2] → FpOk X pins H1 c := fun c hcm => by
          have e' : c = s1.heap.objs.size + 5 ∨ c = s1.heap.objs.size + 3 ∨ c = s1.heap.objs.size + 4 ∨ c = s1.heap.objs.size ∨ c = s1.heap.objs.size + 1 ∨ c = s1.heap.objs.size + 2 := by simpa using hcm
          have hle : s1.heap.objs.size ≤ c := by
            rcases e' with z | z | z | z | z | z
            · rw [z]; exact Nat.le_add_right _ _
            · rw [z]; exact Nat.le_add_right _ _
            · rw [z]; exact Nat.le_add_right _ _
            · rw [z]; exact Nat.le_refl _
            · rw [z]; exact Nat.le_add_right _ _
            · rw [z]; exact Nat.le_add_right _ _
          exact I1.fpOk hle (I1.hok.fresh hle)
        exact ⟨s1.heap.objs.size + 5, [s1.heap.objs.size + 5, s1.heap.objs.size + 3, s1.heap.objs.size + 4, s1.heap.objs.size, s1.heap.objs.size + 1, s1.heap.objs.size + 2], _, _, H1, rfl, I2,
          turn_zix3 (zip_sep3 (fp1 := [a]) (fp2 := [b]) (fp3 := [c]) (fun c hc => by rw [List.mem_singleton.mp hc]; exact l1) (fun c hc => by rw [List.mem_singleton.mp hc]; exact l2) (fun c hc => by rw [List.mem_singleton.mp hc]; exact l3)) n1 n2 n3, ⟨hz, hTI, ⟨_, _, _, hTO⟩, .new h1, .new h2, .new h3⟩, fresh6, q⟩
def zpD3 : List D → List D → List D → List D
  | x :: xs, y :: ys, z :: zs => .tup [x, y, z] :: zpD3 xs ys zs
  | _, _, _ => []
theorem zpD3_get : ∀ {xs ys zs : List D} {i : Nat} {w : D}, (zpD3 xs ys zs)[i]? = some w → ∃ x y z, xs[i]? = some x ∧ ys[i]? = some y ∧ zs[i]? = some z ∧ w = .tup [x, y, z]
  | x :: xs, y :: ys, z :: zs, 0, w, h => by unfold zpD3 at h; simp at h; exact ⟨x, y, z, rfl, rfl, rfl, h.symm⟩
  | x :: xs, y :: ys, z :: zs, i + 1, w, h => by
    unfold zpD3 at h
    rw [List.getElem?_cons_succ] at h
    obtain ⟨a, b, c, h1, h2, h3, h4⟩ := zpD3_get h
    exact ⟨a, b, c, by simpa using h1, by simpa using h2, by simpa using h3, h4⟩
  | [], _, _, _, _, h => by simp [zpD3] at h
  | _ :: _, [], _, _, _, h => by simp [zpD3] at h
  | _ :: _, _ :: _, [], _, _, h => by simp [zpD3] at h
theorem zpD3_len : ∀ {xs ys zs : List D}, (zpD3 xs ys zs).length = min (min xs.length ys.length) zs.length
  | x :: xs, y :: ys, z :: zs => by
    unfold zpD3
    rw [List.length_cons, zpD3_len, List.length_cons, List.length_cons, List.length_cons]
    omega
  | [], _, _ => by simp [zpD3]
  | _ :: _, [], _ => by simp [zpD3]
  | _ :: _, _ :: _, [] => by simp [zpD3]
def zp3 (f h k : DE) : DA := fun d => match f d with
  | some (x, d1) => match h d1 with
    | some (y, d2) => match k d2 with
      | some (z, d3) => match itD x with
        | some xs => match itD y with
          | some ys => match itD z with
            | some zs => some (zpD3 xs ys zs, d3)
            | none => none
          | none => none
        | none => none
      | none => none
    | none => none
  | none => none
section
variable {G : Cls} {X : Cx} {a b c : Expr} {f h k : DE} {pos p tpos : Pos} {elts : List Expr} {kk : Nat}
theorem rep_trip {S1 H1 : Hp} {T : Addr} {x y z : V} {ds es gs : D} (s2 : Same S1 H1) (hT : H1 T = none) (rx : Rep G S1 ds x) (ry : Rep G S1 es y) (rz : Rep G S1 gs z) : ∃ S', Ext S1 H1 S' (upd H1 T (.tup [x, y, z])) ∧ Rep G S' (.tup [ds, es, gs]) (.ref T) := by
  have E := Ext.alloc (o := .tup [x, y, z]) s2 hT
  refine ⟨_, E, ?_⟩
  unfold Rep
  exact ⟨T, [x, y, z], rfl, .inl (.inl upd_same), .cons (rx.mono E.s) (.cons (ry.mono E.s) (.cons (rz.mono E.s) .nil))⟩
theorem zix3_ok {k k2 k3 : Bool} {S : Hp} {a b c : Addr} {vs us ws : List V} {ds es gs : List D} (h : SqX k G.K S a vs) (r : RepL G S ds vs) (h2 : SqX k2 G.K S b us) (r2 : RepL G S es us) (h3 : SqX k3 G.K S c ws) (r3 : RepL G S gs ws) : ItD G (ItzX3 k k2 k3 G.K a b c) S (zpD3 ds es gs) where
  go := fun i S1 H1 s1 s2 hi => by
    rw [zpD3_len] at hi
    have hi' : i < vs.length := by rw [← r.length]; omega
    have hi2 : i < us.length := by rw [← r2.length]; omega
    have hi3 : i < ws.length := by rw [← r3.length]; omega
    exact ⟨vs, us, ws, vs[i], us[i], ws[i], h.mono (s1.trans s2), h2.mono (s1.trans s2), h3.mono (s1.trans s2), List.getElem?_eq_getElem hi', List.getElem?_eq_getElem hi2, List.getElem?_eq_getElem hi3⟩
  stop := fun S1 H1 s1 s2 => ⟨vs, us, ws, h.mono (s1.trans s2), h2.mono (s1.trans s2), h3.mono (s1.trans s2), by rw [zpD3_len, r.length, r2.length, r3.length]⟩
  yld := fun i S1 H1 v H' x s1 s2 hx y => by
    obtain ⟨T, u, u2, u3, rfl, hT, rfl, hu, hu2, hu3⟩ := y
    obtain ⟨w, w2, w3, e1, e2, e3, rfl⟩ := zpD3_get hx
    obtain ⟨u', f1, q1'⟩ := r.get e1
    obtain ⟨u2', f2, q2'⟩ := r2.get e2
    obtain ⟨u3', f3, q3'⟩ := r3.get e3
    have q1 := hu vs (h.mono (s1.trans s2))
    have q2 := hu2 us (h2.mono (s1.trans s2))
    have q3 := hu3 ws (h3.mono (s1.trans s2))
    rw [f1] at q1; cases q1
    rw [f2] at q2; cases q2
    rw [f3] at q3; cases q3
    exact rep_trip s2 hT (q1'.mono s1) (q2'.mono s1) (q3'.mono s1)
theorem li_zp3 (hK : G.K = X.K) (hg : Gl X "zip") (hm : X.mg "zip" = none) (he : LE G X a f) (hh : LE G X b h) (hk : LE G X c k) (hs : starEach [a, b, c] X.env = (false, eval a X.env) :: starEach [b, c] X.env := by rfl) (hs2 : starEach [b, c] X.env = (false, eval b X.env) :: starEach [c] X.env := by rfl) (hs3 : starEach [c] X.env = [(false, eval c X.env)] := by rfl) (hpl : (backTo pos (starEach [b, c] X.env)).any (·.1) = false := by rfl) :
    LI G X (.Tuple elts kk tpos) (.Call (.Name "zip" p) [a, b, c] [] pos) (zp3 f h k) :=
  pi_weak (pi_zix3 hg hm (pa_cons he (pa_cons hh (pa_cons hk pa_nil hs3) hs2) hs) hs hpl) fun s H R ⟨g, S, d, xs, d', z, e, q⟩ => by
    unfold zp3 at e
    split at e
    · rename_i x d1 e1
      split at e
      · rename_i y d2 e2
        split at e
        · rename_i w d3 e3
          split at e
          · rename_i xs' g1
            split at e
            · rename_i ys g2
              split at e
              · rename_i zs g3
                cases e
                refine ⟨g, S, d, _, d1, z, e1, fun v H' S' sm z' r => ⟨g, S', d1, _, d2, z', e2, fun v2 H2 S2 sm2 z2 r2 => ⟨g, S2, d2, _, d', z2, e3, fun v3 H3 S3 sm3 z3 r3 => ?_⟩⟩⟩
                obtain ⟨a, vs, k, rfl, h1, h2⟩ := sq_of g1 (r.mono (sm2.trans sm3))
                obtain ⟨b, us, k2, rfl, h3, h4⟩ := sq_of g2 (r2.mono sm3)
                obtain ⟨c, ws, k3, rfl, h5, h6⟩ := sq_of g3 r3
                refine ⟨a, b, c, vs, us, ws, k, k2, k3, rfl, by rw [← hK]; exact h1.mono z3.sh, by rw [← hK]; exact h3.mono z3.sh, by rw [← hK]; exact h5.mono z3.sh, ?_⟩
                have := q (ItzX3 k k2 k3 G.K a b c) H3 S3 ((sm.trans sm2).trans sm3) z3 (zix3_ok h1 h2 h3 h4 h5 h6)
                rw [hK] at this
                exact this
              · cases e
            · cases e
          · cases e
        · cases e
      · cases e
    · cases e
end
end Zr

/-! Zr: displays with a star, lists the other way round, sums. -/
namespace Zr
open PySem L2

section
variable {X : Cx} {pins : List (Addr × Obj)} {σ : St} {H : Hp} {s : Shared} {a : Addr} {xs : List V} {e : Expr} {es : List Expr} {te : TE} {t : TA} {p pos : Pos} {k : Bool}
theorem SqX.full (I : Inv X pins σ H s) (q : SqX k X.K H a xs) : ∃ (its : List Value) (T : String) (o : Obj) (n : Nat), Vals xs its ∧ (T = "list" ∨ T = "tuple") ∧ s.heap.get? a = some o ∧ o.cls = .type T ∧ o.data = .seq its.toArray n ∧ xs.length ≤ sizeLine := by
  cases k
  · obtain ⟨its, r, ⟨o, e, c, n, d⟩, z⟩ := I.tuple q
    exact ⟨its, "tuple", o, n, r, .inr rfl, e, c, d, z⟩
  · obtain ⟨its, r, ⟨o, n, e, c, _, d⟩, z⟩ := I.list q
    exact ⟨its, "list", o, n, r, .inl rfl, e, c, d, z⟩
def tStar (K : PySem.W.Frag) (te : TE) (t : TA) : TA := fun σ H Q => te σ H fun x H1 => ∃ a xs k, x = .ref a ∧ SqX k K H1 a xs ∧ t σ H1 fun ys H2 => Q (xs ++ ys) H2
theorem pa_star (he : PE X e te) (hr : PA X es t) (hs : starEach (.Starred e p :: es) X.env = (true, eval e X.env) :: starEach es X.env := by rfl) : PA X (.Starred e p :: es) (tStar X.K te t) := by
  refine ⟨fun pos pins s σ H Q I h => ?_⟩
  refine PySem.W.items_star (thn (he.run pins s σ H _ I h) fun v s1 ⟨x, H1, I1, rx, q1⟩ => ?_) hs
  obtain ⟨a, xs, k, ex, hq, q⟩ := q1
  subst ex
  obtain rfl : v = Value.ref a := rx
  obtain ⟨its, T, o, n, r, hT, ho, hc, hd, hz⟩ := hq.full I1
  have hT' : s1.TypeIs (.ref a) T := ⟨o, ho, hc⟩
  have hz' : its.toArray.size ≤ sizeLine := by rw [List.size_toArray, ← r.length]; exact hz
  have z : wpAny (model X.prog X.w) X.A (collect (.ref a)) (fun here s2 => wpAny (model X.prog X.w) X.A (spliced (backTo pos (starEach es X.env))) (fun vs s3 => AP X pins σ Q (here ++ vs) s3) X.xe s2) X.xe s1 := by
    refine wpAny_collect_seq a hT ho hc hd (fun h' hk => ?_) hz'
    have I2 : Inv X pins σ H1 { s1 with heap := h' } := I1.kept (t' := s1.toks) hk
    refine thn (hr.run pos pins _ σ H1 _ I2 q) fun us s3 ⟨vs, H3, I3, r3, q3⟩ => ?_
    exact ⟨xs ++ vs, H3, I3, by simpa using r.append r3, q3⟩
  unfold PySem.W.StarOf notIterableAtAll
  rcases hT with rfl | rfl
  · exact wpAny_bind (wpAny_specialOf hT' PySem.F.slot_list_iter.lookup (wpAny_pure ⟨rfl, z⟩))
  · exact wpAny_bind (wpAny_specialOf hT' PySem.F.slot_tuple_iter.lookup (wpAny_pure ⟨rfl, z⟩))
end

section
variable {G : Cls} {X : Cx} {e : Expr} {es : List Expr} {f : DE} {r : DA} {p pos : Pos}
/-- *e among the items -/
def ast (f : DE) (r : DA) : DA := fun d => match f d with
  | some (x, d1) => match itD x with
    | some xs => match r d1 with
      | some (ys, d2) => some (xs ++ ys, d2)
      | none => none
    | none => none
  | none => none
theorem la_star (hK : G.K = X.K) (he : LE G X e f) (hr : LA G X es r) (hs : starEach (.Starred e p :: es) X.env = (true, eval e X.env) :: starEach es X.env := by rfl) : LA G X (.Starred e p :: es) (ast f r) := pa_weak (pa_star he hr hs) fun s H Q ⟨g, S, d, x, d', z, e, q⟩ => by
  unfold ast at e
  split at e
  · rename_i y d1 e1
    split at e
    · rename_i xs e2
      split at e
      · rename_i ys d2 e3
        cases e
        refine ⟨g, S, d, y, d1, z, e1, fun v H1 S1 sm1 z1 r1 => ?_⟩
        obtain ⟨a, vs, k, rfl, h1, h2⟩ := sq_of e2 r1
        refine ⟨a, vs, k, rfl, by rw [← hK]; exact h1.mono z1.sh, g, S1, d1, ys, d', z1, e3, fun us H2 S2 sm2 z2 r2 => ?_⟩
        exact q _ H2 S2 (sm1.trans sm2) z2 ((h2.mono sm2).append r2)
      · cases e
    · cases e
  · cases e
end

/-! ### xs[::-1] of a list -/
section
variable {X : Cx} {e : Expr} {te : TE} {stp : Expr} {to : TO} {p3 pos : Pos}
def tRevX (K : PySem.W.Frag) (te : TE) (to : TO) : TE := fun σ H Q => te σ H fun x H1 => to σ H1 fun o H2 => o = some (-1) ∧ ∃ a xs, x = .ref a ∧ SqL K H2 a xs ∧ ∀ p, H2 p = none → Q (.ref p) (upd H2 p (.lst xs.reverse))
open PySem.Spec PyProof.Rows in
theorem pe_revx (he : PE X e te) (hst : PO X (some stp) to) : PE X (.Subscript e (.Slice none none (some stp) p3) pos) (tRevX X.K te to) := by
  refine ⟨fun pins s σ H Q I h => ?_⟩
  refine Subscript_ (thn (he.run pins s σ H _ I h) fun v s1 ⟨x, H1, I1, r1, q1⟩ => ?_)
  refine wpAny_Slice (thn (po_none.run pins s1 σ H1 (fun o H2 => o = none ∧ H2 = H1) I1 ⟨rfl, rfl⟩) fun vl s2 ⟨l, H2, I2, pl, el, e2⟩ => ?_)
  subst el e2
  refine thn (po_none.run pins s2 σ H2 (fun o H3 => o = none ∧ H3 = H2) I2 ⟨rfl, rfl⟩) fun vu s3 ⟨u, H3, I3, pu, eu, e3⟩ => ?_
  subst eu e3
  refine thn (hst.run pins s3 σ H3 _ I3 q1) fun vs s4 ⟨o, H4, I4, ps, eo, a, xs, ex, hx, q⟩ => ?_
  subst eo ex
  obtain rfl : v = Value.ref a := r1
  have I5 : Inv X pins σ H4 { s4 with heap := s4.heap.push { cls := .type "slice", data := .fields #[vl, vu, vs] } } := I4.kept (t' := s4.toks) fun b ob q => Heap.get?_push_of_some _ q
  obtain ⟨its, r, ht, hz⟩ := I5.list hx
  have hlen := r.length
  show wpAny (model X.prog X.w) X.A (subscriptTail e (.Slice none none (some stp) p3) (.ref a) (.ref s4.heap.objs.size)) (EP X pins σ Q) X.xe { s4 with heap := s4.heap.push { cls := .type "slice", data := .fields #[vl, vu, vs] } }
  refine tail_any (ops := [.ref a, .ref s4.heap.objs.size]) ht.isList.typeIs (PySem.slot_list_getitem.lookup) ?_ (by with_unfolding_all rfl)
  refine wpAny_getItem_list_slice ht.isList (Heap.IsSliceOf.new _ vl vu vs) pl pu ps (by decide) ?_ (by rw [List.size_toArray]; omega)
  rw [PySem.W.krv_pick]
  refine ⟨.ref _, _, I5.laid (t' := s4.toks) (o := .lst xs.reverse) (fun b ob q => Heap.get?_push_of_some _ q) (Nat.le_refl _) ?_, rfl, q _ (I5.hok.fresh (Nat.le_refl _))⟩
  exact ⟨by rw [List.length_reverse]; exact hz, _, 0, r.reverse, Heap.get?_push_size _ rfl⟩
end
section
variable {G : Cls} {X : Cx} {e : Expr} {stp : Expr} {f : DE} {fo : DO} {p3 pos : Pos}
def rvD : D → Option D
  | .lst xs => some (.lst xs.reverse)
  | .scr ns => some (.lst (ns.map D.int).reverse)
  | _ => none
/-- a list turned, the step given -/
def rv (f : DE) (fo : DO) : DE := fun d => match f d with
  | some (x, d1) => match fo d1 with
    | some (some (-1), d2) => match rvD x with
      | some y => some (y, d2)
      | none => none
    | _ => none
  | none => none
theorem lf_rv (hK : G.K = X.K) (he : LE G X e f) (hst : LO G X (some stp) fo) : LF G X (.Subscript e (.Slice none none (some stp) p3) pos) (rv f fo) := pe_weak (pe_revx he hst) fun s H Q ⟨g, S, d, y, d', z, e, q⟩ => by
  unfold rv at e
  split at e
  · rename_i x d1 e1
    split at e
    · rename_i d2 e2
      split at e
      · rename_i w e3
        cases e
        refine ⟨g, S, d, x, d1, z, e1, fun v H1 S1 sm1 z1 r1 => ⟨g, S1, d1, _, d', z1, e2, fun H2 S2 sm2 z2 => ⟨rfl, ?_⟩⟩⟩
        have fin : ∀ vs ds p, H2 p = none → RepL G S2 ds vs → y = .lst ds.reverse → Q (.ref p) (upd H2 p (.lst vs.reverse)) := fun vs ds p hp rr ey => by
          have z3 : Zt G g S2 s (upd H2 p (.lst vs.reverse)) d' := z2.ext ⟨.refl _, fun b u q => by rw [upd_ne (ne_of_none q hp)]; exact q, fun b u q => by rw [upd_ne (ne_of_none (z2.sh b u q) hp)]; exact z2.sh b u q, fun b u q => .inl q⟩
          subst ey
          refine q p _ S2 (sm1.trans sm2) z3 ⟨_, upd_same, rr.rev⟩ (z2.sh.free hp) (z2.bh.free hp) (z2.dm p hp) fun j o => ?_
          obtain ⟨⟨u, hu⟩, _⟩ := z2.ownAddr o
          rw [hp] at hu; cases hu
        have r2 := r1.mono sm2
        cases x with
        | lst ds =>
          cases e3
          obtain ⟨a, vs, rfl, h1, h2⟩ := inv_lst r2
          exact ⟨a, vs, rfl, by rw [← hK]; exact SqL.of (z2.sh _ _ h1), fun p hp => fin vs ds p hp h2 rfl⟩
        | scr ns =>
          cases e3
          obtain ⟨a, rfl, h1⟩ := inv_scr r2
          exact ⟨a, _, rfl, by rw [← hK]; exact z2.sh.seq h1, fun p hp => fin _ _ p hp RepL.ints rfl⟩
        | non => cases e3
        | bl _ => cases e3
        | int _ => cases e3
        | str _ => cases e3
        | tup _ => cases e3
        | ob _ _ => cases e3
        | fn _ => cases e3
        | dic _ => cases e3
        | dis _ => cases e3
        | dil _ _ => cases e3
        | ex _ => cases e3
      · cases e
    · cases e
  · cases e
end
end Zr

/-! Zr: defs with defaults. -/
namespace Zr
open PySem L2
section
variable {G : Cls} {P : Program} {w : World} {K : PySem.W.Frag} {mg : Str → Option Value} {base : Heap} {x qual : Str} {st : Stmt} {f : Addr} {fd : FuncData} {N ps : List Str} {k m n : Nat} {B : DS} {dvs : List V} {kws : List (Str × V)}
abbrev FunW (K : PySem.W.Frag) (x qual : Str) (st : Stmt) (dvs : List V) (f : Addr) (fd : FuncData) : Prop := FunD K x qual (defArgs st) (defBody st) (defScope st) dvs [] f fd
theorem fun_mkw {oc : Value} {od an oT : Option Addr} {osl sT : Array (Option Value)} {kV doc pm cdv ct : Value} {T : Addr} {its : List Value} {nT : Nat} (l : K.lookup f = some ⟨oc, od, .func (PySem.W.fnOf x qual (defArgs st) (defBody st) (defScope st) (.ref T) kV doc pm an cdv ct), osl⟩)
    (c : PySem.W.codeIn K cdv qual = true) (kp : PySem.W.keepIn K (.ref f) = true) (lT : K.lookup T = some ⟨.type "tuple", oT, .seq its.toArray nT, sT⟩) (hv : Vals dvs its) (hne : dvs ≠ []) :
    FunW K x qual st dvs f (PySem.W.fnOf x qual (defArgs st) (defBody st) (defScope st) (.ref T) kV doc pm an cdv ct) :=
  ⟨⟨oc, od, .ref T, kV, doc, pm, an, cdv, ct, osl, rfl, l, c, .inr ⟨hne, T, _, its, nT, rfl, lT, rfl, hv⟩, .inl rfl⟩, kp⟩
theorem fn_okD (F : FunW K x qual st dvs f fd) (Sc : FnScope N ps (defScope st)) (hn : n = ps.length) (hm : m = N.length - n)
    (hb : ∀ (cdv : Value) (A : Around) (outer : List Env) (s : Shared) (H : Hp) (E : XK), Room k (A.deeper (PyProof.Rows.envOfC qual (defScope st) s.heap.objs.size f cdv)) → LSs G (cxOf CX0 P w K mg base N qual (defScope st) f cdv A outer s H E).nox (defBody st) B) :
    FnOk P w K mg base CX0 (k + 1) f fd ps (spD G n (fnD n m B)) := by
  refine F.ok Sc (fun vs H Q E h => h.1.trans hn) fun cdv A outer s H vs Q E hr h => ?_
  obtain ⟨hl, g, S, d, x, d', z, e, q⟩ := h
  refine ⟨_, (hb cdv A outer s H E hr).nox, ?_⟩
  have hd : d.length = n := by rw [← hl, ← z.ln, List.length_map]
  unfold fnD at e
  rw [if_pos hd] at e
  have z1 := z.pad (N := N) (m := m) (by rw [hm, hl])
  split at e
  · rename_i y d2 e2
    cases e
    rw [← hd] at q
    exact ⟨g, S, _, _, d2, z1, e2, fun v s' H' S' sm z' r => q v H' S' sm (z.outs z') r⟩
  · rename_i d2 e2
    cases e
    rw [← hd] at q
    exact ⟨g, S, _, _, d2, z1, e2, fun s' H' S' sm z' => q _ H' S' sm (z.outs z') rep_non⟩
  · cases e
/-- () among the defaults -/
theorem rep_unit {ad : Nat → Addr} {fl : Nat → List Str} {a : Addr} {od : Option Addr} {n : Nat} {sl : Array (Option Value)} (h : K.lookup a = some ⟨.type "tuple", od, .seq #[] n, sl⟩) (S : Hp) : Rep ⟨K, ad, fl⟩ S (.tup []) (.ref a) :=
  rep_ktup (vs := []) h (by decide) .nil .nil
end
end Zr

/-! Zr: sums, the greatest, the least of a list of ints. -/
namespace Zr
open PySem L2
section
variable {G : Cls} {X : Cx}
def nSum : List D → Option D
  | [.lst ds] => match asInts ds with
    | some ns => some (.int ns.sum)
    | none => none
  | _ => none
theorem r_sum (hK : G.K = X.K) : RnD G nSum (rSum X.K) := fun S H xs z vs Q sm r e q => by
  unfold nSum at e
  split at e
  · rename_i ds
    split at e
    · rename_i ns e1
      cases e
      obtain ⟨v, rfl, r1⟩ := repL1 r
      obtain ⟨a, us, rfl, h1, r2⟩ := inv_lst r1
      have eu := asInts_rep e1 r2
      subst eu
      exact ⟨a, ns, rfl, SqL.of (sm _ _ h1), q _ S H (.refl sm) rep_int⟩
    · cases e
  · cases e
end
end Zr

/-! Zr: operators by own defs. -/
namespace PySem.W
open PySem PySem.Spec PySem.Calls PyProof.Rows L2
open Builtin
theorem zo_bind (self : Value) : bindSpecial (.builtin "object.__ne__") self = pure (.builtin "object.__ne__", [self]) :=
  (Slot.of (T := "object") (name := "__ne__") (owner := "object") (n := "__ne__") (by rw [typeLookup_type, builtinLookup_eq_fast]; kernel_rfl) (by decide +kernel) (by decide +kernel) (by decide +kernel)
    (.inl (by decide +kernel)) (by rw [isSubtype_type]; kernel_rfl)).bind self
theorem zo_plain : plainId "object.__ne__" = true := by decide +kernel
section
variable {prog : Program} {w : World} {A : Around} {E : Value → Shared → Prop} {s : Shared} {K : Frag} {x C f L : Addr} {h₀ : Heap} {m : Str → Option Value} {ox : Obj} {od : Option Obj} {b tb : Value}
theorem zo_ifBound {M : Model} {name : Str} {args : List Value} {Q : Option Value → Shared → Prop} (X : K.In s.heap) (I : InstAt s.heap x ox C od) (hs : findIn K (.ref C) name = some (some (.builtin "object.__ne__")))
    (h : wpAny M A (call (.builtin "object.__ne__") (.ref x :: args)) (fun v => Q (some v)) E s) : wpAny M A (callSpecialIfBound? (.ref x) name args) Q E s := by
  simp only [callSpecialIfBound?, bindSpecialIfBound?]
  refine wpAny_holding (wpAny_bind (wpAny_bind (wpAny_bind (I.type.here ((looks_findIn X hs).here ?_)))))
  refine wpAny_bind (wpAny_askSetting (wpAny_ite ?_))
  have fin : wpAny M A (call (.builtin "object.__ne__") ([.ref x] ++ args) >>= fun v => pure (some v)) Q E s := wpAny_bind (wpAny_mono h (fun v s' h' => wpAny_pure h') fun _ _ h' => h')
  split
  · exact wpAny_bind ((Looks.of_pure (zo_bind (.ref x))).here (wpAny_pure (by exact fin)))
  · exact wpAny_tryCatch (wpAny_bind ((Looks.of_pure (zo_bind (.ref x))).here (wpAny_pure (by exact fin))))
theorem zo_entry {Q : Fin → Shared → Prop} (hu : A.units < cLine) (X : K.In s.heap) (I : InstAt s.heap x ox C od) (hs : findIn K (.ref C) "__eq__" = some (some (.ref f))) (hf : isFn K (.ref f) = true)
    (h : wpAny (model prog w) A (call (.ref f) [.ref x, b]) (fun v s' => ∃ r, v = .bool r ∧ Q (.done (.ret (.bool (!r)))) s') E s) :
    wpAny (model prog w) A (Builtin.«object.__ne__» ⟨[.ref x, b], []⟩) Q E s := by
  unfold Builtin.«object.__ne__»
  repeat (first
    | with_reducible refine wpAny_cRoomFor hu ?_
    | (refine wpAny_bind (m := callSpecialIfBound? (.ref x) (Str.ofString "__eq__") [b])
        (ifBound_K X I hs hf (wpAny_mono h (fun r s' hr => by
          obtain ⟨b, rfl, hq⟩ := hr
          repeat (first | exact hq | exact wpAny_pure hq | exact wpAny_truthy_bool hq | (refine wpAny_bind (m := truthy (.bool _)) (wpAny_truthy_bool ?_)) | wp_step)) fun _ _ e => e)))
    | wp_step)
theorem zo_ne {Q : Value → Shared → Prop} (hu : A.units + 1 < cLine) (FR : Fr h₀ L s.heap m) (X₀ : K.In h₀) (I : InstAt s.heap x ox C od) (hb : Looks (model prog w) s.heap (typeOf b) tb) (hn : notFirst K C tb = true)
    (hne : findIn K (.ref C) "__ne__" = some (some (.builtin "object.__ne__"))) (hp : plainOver K C = true)
    (hs : findIn K (.ref C) "__eq__" = some (some (.ref f))) (hf : isFn K (.ref f) = true)
    (h : wpAny (model prog w) A.in1 (call (.ref f) [.ref x, b]) (fun v s' => ∃ r, v = .bool r ∧ Q (.bool (!r)) s') E s) : wpAny (model prog w) A (richCompare .NotEq (.ref x) b) Q E s := by
  have X := X₀.keeps FR.keep
  obtain ⟨cd, hc, ho⟩ := any_some hp
  have ne : cd.mro.isEmpty = false := by cases q : cd.mro with | nil => rw [q] at ho; cases ho | cons _ _ => rfl
  have sub : Looks (model prog w) s.heap (isInstance (.ref x) (.type "object")) true := I.type.andThen (looks_mroIn X (by unfold mroIn; rw [hc, Option.bind_some, if_neg (by rw [ne]; decide), only_has ho]))
  have one : wpAny (model prog w) A (tryCompare (.ref x) (cmpInfo .NotEq).2.1 b) (fun r s' => ∃ v, r = some v ∧ Q v s') E s := by
    unfold tryCompare
    refine wpAny_bind (zo_ifBound X I hne (wpAny_call (codeAny_call_builtin zo_plain PySem.F.cmpEntry_ne
      (@check_slot (model prog w) _ _ s "object.__ne__" "object" "__ne__" (.ref x) [b] [] _ PySem.F.cmpKind_ne PySem.F.cmpSplit_ne sub (PySem.F.cmpArgs_ne _ _) (zo_entry (by show A.units + 1 < cLine; exact hu) X I hs hf (wpAny_mono h (fun v s' hv => ?_) fun _ _ e => e))))))
    obtain ⟨r, rfl, hq⟩ := hv
    first | exact ⟨r, rfl, wpAny_pure ⟨_, rfl, hq⟩⟩ | exact ⟨r, rfl, wpAny_pure (wpAny_pure ⟨_, rfl, hq⟩)⟩ | exact ⟨r, rfl, ⟨_, rfl, hq⟩⟩
  unfold richCompare
  simp only [oneThing_ref]
  refine wpAny_holding (wpAny_bind (wpAny_cRoomFor (Nat.lt_of_succ_lt hu) ?_))
  refine wpAny_bind (I.type.here (wpAny_bind (hb.here ?_)))
  split
  · rename_i q
    have e : subIn K tb (.ref C) = some false := by
      rcases Bool.or_eq_true_iff.mp hn with e | e
      · rw [beq_iff_eq.mp e] at q; simp at q
      · exact beq_iff_eq.mp e
    refine wpAny_bind ((looks_subIn X e).here ?_)
    simp only [Bool.false_eq_true, if_false]
    refine wpAny_bind (wpAny_mono one (fun r s' z => ?_) fun _ _ e => e)
    obtain ⟨v, rfl, hq⟩ := z
    exact wpAny_pure hq
  · refine wpAny_bind (wpAny_pure ?_)
    simp only [Bool.false_eq_true, if_false]
    refine wpAny_bind (wpAny_mono one (fun r s' z => ?_) fun _ _ e => e)
    obtain ⟨v, rfl, hq⟩ := z
    exact wpAny_pure hq
end
end PySem.W
namespace Zr
open PySem PySem.Spec PyProof.Rows L2
/-- a def asked with two values -/
def k2 (c : Nat) (F : FD) : D → D → Option D
  | .ob c1 fs, .ob c2 gs => if c1 = c then if c2 = c then match F [.va (.ob c fs), .va (.ob c gs)] with
      | some (z, t') => if t'.length = 2 then some z else none
      | none => none
    else none
    else none
  | _, _ => none
def notB (k : D → D → Option D) (x y : D) : Option D := match k x y with
  | some (.bl b) => some (.bl (!b))
  | _ => none
def orK (k k' : D → D → Option D) (x y : D) : Option D := match k x y with
  | some z => some z
  | none => k' x y
section
variable {G : Cls} {X : Cx} {F : FD} {c lv : Nat} {fA : Addr} {fd : FuncData} {ps : List Str} {k k' : D → D → Option D} {r r' : R2}
theorem r_or (h : R2D G k r) (h' : R2D G k' r') : R2D G (orK k k') (fun x y H Q => r x y H Q ∨ r' x y H Q) := fun S H x y z v w Q sm rx ry e q => by
  unfold orK at e
  split at e
  · rename_i z' e1; cases e; exact .inl (h S H x y _ v w Q sm rx ry e1 q)
  · exact .inr (h' S H x y z v w Q sm rx ry e q)
/-- x op y by a def of the class -/
def rO2 (G : Cls) (c : Nat) (F : FD) : R2 := fun x y H Q => ∃ a b dx dy fs gs, x = .ref a ∧ y = .ref b ∧ H a = some (.ins (G.adr c) dx fs) ∧ H b = some (.ins (G.adr c) dy gs) ∧ spD G 2 F [x, y] H Q (fun _ _ _ => False)
theorem k2_inv {x y z : D} (e : k2 c F x y = some z) : ∃ fs gs t', x = .ob c fs ∧ y = .ob c gs ∧ F [.va (.ob c fs), .va (.ob c gs)] = some (z, t') ∧ t'.length = 2 := by
  unfold k2 at e
  split at e
  · rename_i c1 fs c2 gs
    split at e
    · rename_i h1
      split at e
      · rename_i h2
        subst h1; subst h2
        split at e
        · rename_i z' t' e1
          split at e
          · rename_i e2
            cases e
            exact ⟨fs, gs, t', rfl, rfl, e1, e2⟩
          · cases e
        · cases e
      · cases e
    · cases e
  · cases e
theorem ext_of {S H S' H' : Hp} (z : Zt G ⟨H, S, H, fun _ => none, []⟩ S' [] H' []) : Ext S H S' H' := ⟨z.s1, z.bh, z.sh, fun b o e => z.s0 b o e⟩
theorem zt_nil {S H : Hp} (sm : Same S H) : Zt G ⟨H, S, H, fun _ => none, []⟩ S [] H [] where
  sh := sm
  bh := .refl _
  s0 := fun b o e => .inl e
  s1 := .refl _
  dm := fun b e => e
  ln := rfl
  sl := fun i x q => by simp at q
  ap := fun i j a _ o => by obtain ⟨x, h, _⟩ := o; simp at h
  ic := fun i a e => nomatch e
  tb := Tbs.nil
theorem sp_va {S H : Hp} {xs : List D} {vs : List V} {n : Nat} {z : D} {t' : Ev} {Q : VK} {E : XK} (hF : ∀ d y, F d = some y → d.length = n) (sm : Same S H) (ra : RepL G S xs vs) (e2 : F (xs.map Sl.va) = some (z, t')) (e3 : t'.length = xs.length)
    (q : ∀ u S' H', Ext S H S' H' → Rep G S' z u → Q u H') : spD G n F vs H Q E :=
  call_va (E := E) hF (zt_nil sm) ra e2 e3 fun v H' S' _ z' r => q v S' H' (ext_of z') r
theorem r_k2 (hF : ∀ d y, F d = some y → d.length = 2) : R2D G (k2 c F) (rO2 G c F) := fun S H x y z v w Q sm rx ry e q => by
  obtain ⟨fs, gs, t', rfl, rfl, e1, e2⟩ := k2_inv e
  obtain ⟨a, dx, vs, rfl, h1, _, _⟩ := inv_ob rx
  obtain ⟨b, dy, us, rfl, h2, _, _⟩ := inv_ob ry
  exact ⟨a, b, dx, dy, _, _, rfl, rfl, sm _ _ h1, sm _ _ h2, sp_va hF sm (.cons rx (.cons ry .nil)) (xs := [.ob c fs, .ob c gs]) e1 e2 q⟩
def rN2 (G : Cls) (c : Nat) (F : FD) : R2 := fun x y H Q => ∃ a b dx dy fs gs, x = .ref a ∧ y = .ref b ∧ H a = some (.ins (G.adr c) dx fs) ∧ H b = some (.ins (G.adr c) dy gs) ∧ spD G 2 F [x, y] H (fun z H' => ∃ r, z = .bl r ∧ Q (.bl !r) H') (fun _ _ _ => False)
theorem r_n2 (hF : ∀ d y, F d = some y → d.length = 2) : R2D G (notB (k2 c F)) (rN2 G c F) := fun S H x y z v w Q sm rx ry e q => by
  unfold notB at e
  split at e
  · rename_i b' eb
    cases e
    obtain ⟨fs, gs, t', rfl, rfl, e1, e2⟩ := k2_inv eb
    obtain ⟨a, dx, vs, rfl, h1, _, _⟩ := inv_ob rx
    obtain ⟨b, dy, us, rfl, h2, _, _⟩ := inv_ob ry
    refine ⟨a, b, dx, dy, _, _, rfl, rfl, sm _ _ h1, sm _ _ h2, sp_va hF sm (.cons rx (.cons ry .nil)) (xs := [.ob c fs, .ob c gs]) e1 e2 fun u S' H' ex ru => ⟨b', inv_bl ru, ?_⟩⟩
    exact q _ S' H' ex rep_bl
  · cases e
/-- what == of a class asks -/
structure EqOk (K : PySem.W.Frag) (C : Addr) (f : Addr) : Prop where
  cl : L2.Cls K C
  eq : PySem.W.findIn K (.ref C) "__eq__" = some (some (.ref f))
  ne : PySem.W.findIn K (.ref C) "__ne__" = some (some (.builtin "object.__ne__"))
  fn : PySem.W.isFn K (.ref f) = true
theorem run_at {sp : Sp} {pins : List (Addr × Obj)} {σ : L2.St} {H : Hp} {s : Shared} {A : Around} {Q : VK} {us : List Value} {ws : List V} (Fk : FnOk X.prog X.w X.K X.mg X.base CX0 lv fA fd ps sp) (hr : Room lv A) (hb : Binds X.K fd ps [])
    (e0 : Env0 X.prog X.w X.K X.mg X.base A X.stack s H) (I : Inv X pins σ H s) (r : Vals ws us) (h : sp ws H Q (fun _ _ _ => False)) :
    codeAny (model X.prog X.w) A (.call (.ref fA) ⟨us, []⟩) (fun r s' => match r with | .ok (.ret v) => EP X pins σ Q v s' | .ok _ => False | .error e => X.xe e s') s := by
  have hl := Fk.len _ _ _ _ h
  refine codeAny_mono (Fk.run A X.stack s H ⟨us, []⟩ us ws Q (fun _ _ _ => False) hr e0 (by
    have := hb s us I.kIn (by simpa [← r.length] using hl)
    simpa using this) r h) fun r s' hq => ?_
  cases r with
  | error e => exact pass0 pins σ H s e s' I hq
  | ok fl =>
    cases fl with
    | ret u => exact I.after hq
    | next => exact False.elim hq
    | brk => exact False.elim hq
    | cont => exact False.elim hq
theorem op_k2eq (T : EqOk X.K (G.adr c) fA) (Fk : FnOk X.prog X.w X.K X.mg X.base CX0 lv fA fd ps (spD G 2 F)) (hr : Room lv X.A) (hb : Binds X.K fd ps []) : OpR X (compareOp .Eq) (rO2 G c F) := by
  intro pins s σ H x y v u Q I rx ry h
  obtain ⟨a, b, dx, dy, fs, gs, rfl, rfl, ha, hb', q⟩ := h
  cases (show v = Value.ref a from rx)
  cases (show u = Value.ref b from ry)
  obtain ⟨mA, J, _⟩ := ins_get I.hok ha
  obtain ⟨mB, J', _⟩ := ins_get I.hok hb'
  obtain ⟨od, J, _⟩ := J.look
  obtain ⟨od', J', _⟩ := J'.look
  obtain ⟨m, hF⟩ := I.fr
  show wpAny _ _ (richCompare .Eq _ _) _ _ _
  refine PySem.W.cmp_K (op := .Eq) (tb := .ref (G.adr c)) hr.units0 hF I.ok.mod.kin J J'.type (by simp [PySem.W.notFirst]) T.eq T.fn ?_
  refine wpAny_mono (wpAny_call (run_at (us := [.ref a, .ref b]) (ws := [.ref a, .ref b]) Fk hr hb I.env0 I (.cons rfl (.cons rfl .nil)) q)) (fun w s' z => ?_) fun _ _ x => x
  obtain ⟨z', H', I', rz, qz⟩ := z
  exact SlX.cmpback rz ⟨z', H', I', rz, qz⟩
theorem op_k2ne (T : EqOk X.K (G.adr c) fA) (Fk : FnOk X.prog X.w X.K X.mg X.base CX0 lv fA fd ps (spD G 2 F)) (hr : Room (lv + 1) X.A) (hb : Binds X.K fd ps []) : OpR X (compareOp .NotEq) (rN2 G c F) := by
  intro pins s σ H x y v u Q I rx ry h
  obtain ⟨a, b, dx, dy, fs, gs, rfl, rfl, ha, hb', q⟩ := h
  cases (show v = Value.ref a from rx)
  cases (show u = Value.ref b from ry)
  obtain ⟨mA, J, _⟩ := ins_get I.hok ha
  obtain ⟨mB, J', _⟩ := ins_get I.hok hb'
  obtain ⟨od, J, _⟩ := J.look
  obtain ⟨od', J', _⟩ := J'.look
  obtain ⟨m, hF⟩ := I.fr
  show wpAny _ _ (richCompare .NotEq _ _) _ _ _
  refine PySem.W.zo_ne (tb := .ref (G.adr c)) (by have := hr.units; omega) hF I.ok.mod.kin J J'.type (by simp [PySem.W.notFirst]) T.ne T.cl.po T.eq T.fn ?_
  refine wpAny_mono (wpAny_call (run_at (us := [.ref a, .ref b]) (ws := [.ref a, .ref b]) Fk hr.in1 hb I.env0.in1 I (.cons rfl (.cons rfl .nil)) q)) (fun w s' z => ?_) fun _ _ x => x
  obtain ⟨z', H', I', rz, r, rfl, qz⟩ := z
  cases (show w = Value.bool r from rz)
  exact ⟨r, rfl, .bl (!r), H', I', rfl, qz⟩
/-- what an operator of a class asks -/
structure BinOk (K : PySem.W.Frag) (C : Addr) (f : Addr) (name : Str) : Prop where
  fi : PySem.W.selfFirst K C = true
  me : PySem.W.findIn K (.ref C) name = some (some (.ref f))
  fn : PySem.W.isFn K (.ref f) = true
theorem op_k2 {op : Operator} (T : BinOk X.K (G.adr c) fA (PySem.dunder op.info.2)) (Fk : FnOk X.prog X.w X.K X.mg X.base CX0 lv fA fd ps (spD G 2 F)) (hr : Room lv X.A) (hb : Binds X.K fd ps []) : OpR X (binaryOp op) (rO2 G c F) := by
  intro pins s σ H x y v u Q I rx ry h
  obtain ⟨a, b, dx, dy, fs, gs, rfl, rfl, ha, hb', q⟩ := h
  cases (show v = Value.ref a from rx)
  cases (show u = Value.ref b from ry)
  obtain ⟨mA, J, _⟩ := ins_get I.hok ha
  obtain ⟨mB, J', _⟩ := ins_get I.hok hb'
  obtain ⟨od, J, _⟩ := J.look
  obtain ⟨od', J', _⟩ := J'.look
  obtain ⟨m, hF⟩ := I.fr
  refine PySem.W.binop_K (op := op) hF I.ok.mod.kin J J'.type T.fi T.me T.fn ?_
  refine wpAny_mono (wpAny_call (run_at (us := [.ref a, .ref b]) (ws := [.ref a, .ref b]) Fk hr hb I.env0 I (.cons rfl (.cons rfl .nil)) q)) (fun w s' z => ?_) fun _ _ x => x
  obtain ⟨z', H', I', rz, qz⟩ := z
  exact SlX.cmpback rz ⟨z', H', I', rz, qz⟩
/-- sums -/
def nSumA : List D → Option D
  | [.tup ds] => match asInts ds with
    | some ns => some (.int ns.sum)
    | none => none
  | [.lst ds] => match asInts ds with
    | some ns => some (.int ns.sum)
    | none => none
  | _ => none
def rSumA (K : PySem.W.Frag) : List V → Hp → VK → Prop := fun vs H Q => rSum K vs H Q ∨ ∃ (a : Addr) (ns : List Int), vs = [V.ref a] ∧ SqT K H a (ns.map V.int) ∧ Q (.int ns.sum) H
theorem sumT_raw {prog : Program} {w : World} {A : Around} {E : Value → Shared → Prop} {s : Shared} {l : Addr} {its : List Value} {ns : List Int} {Q : Value → Shared → Prop} (hh : A.handled = none) (hl : s.heap.IsTuple l its.toArray) (hi : IntsAre its ns)
    (h : ∀ h' tk t', (∀ b o, s.heap.get? b = some o → h'.get? b = some o) → Q (.int ns.sum t') { s with heap := h', toks := tk }) : wpAny (model prog w) A (call (.builtin "sum") [.ref l]) Q E s := by
  obtain ⟨xs, e⟩ := hi.allInts.items
  have hn : numsOf (intItems xs).toList = ns := by rw [← e]; exact hi.numsOf
  rw [nums_intItems] at hn
  rw [e] at hl
  refine PySem.W.ktm_sumG hh hl fun h' tk t' hk => ?_
  have := h h' tk t' hk
  rw [preSum_eq, List.take_of_length_le (by simp), hn]; exact this
theorem cr_sumA (hc : X.calm = true) : CallR X (.builtin "sum") (rSumA X.K) := by
  intro pins s σ H vs us Q I r h
  rcases h with h | h
  · exact cr_sum hc pins s σ H vs us Q I r h
  · obtain ⟨a, ns, rfl, hs, q⟩ := h
    obtain ⟨its, rv, hl, _⟩ := I.tuple hs
    rw [Vals.ref1 r]
    exact sumT_raw (I.ok.hd hc) hl rv.ints fun h' tk t' hk => ⟨.int _, H, I.kept hk, ⟨_, rfl⟩, q⟩
theorem r_sumA (hK : G.K = X.K) : RnD G nSumA (rSumA X.K) := fun S H xs z vs Q sm r e q => by
  unfold nSumA at e
  split at e
  · rename_i ds
    split at e
    · rename_i ns e1
      cases e
      obtain ⟨v, rfl, r1⟩ := repL1 r
      obtain ⟨a, us, rfl, h1, r2⟩ := inv_tup r1
      have eu := asInts_rep e1 r2
      subst eu
      rw [hK] at h1
      exact .inr ⟨a, ns, rfl, same_seqT sm h1, q _ S H (.refl sm) rep_int⟩
    · cases e
  · rename_i ds
    split at e
    · rename_i ns e1
      cases e
      obtain ⟨v, rfl, r1⟩ := repL1 r
      obtain ⟨a, us, rfl, h1, r2⟩ := inv_lst r1
      have eu := asInts_rep e1 r2
      subst eu
      exact .inl ⟨a, ns, rfl, SqL.of (sm _ _ h1), q _ S H (.refl sm) rep_int⟩
    · cases e
  · cases e
end
end Zr

/-! Zr: an own list read by a comprehension, and changed later. -/
namespace Zr
open PySem L2
def flat0 : D → Bool
  | .non => true
  | .bl _ => true
  | .int _ => true
  | .str _ => true
  | _ => false
def flatD : D → Bool
  | .lst ds => ds.all flat0
  | .ob _ ds => ds.all flat0
  | _ => false
def flatSl : Sl → Bool
  | .ow z => flatD z
  | .io z => flatD z
  | _ => true
theorem Rep.flat {G : Cls} {S T : Hp} : ∀ {z : D} {v : V}, flat0 z = true → Rep G S z v → Rep G T z v
  | .non, v, _, h => by unfold Rep at h ⊢; exact h
  | .bl _, v, _, h => by unfold Rep at h ⊢; exact h
  | .int _, v, _, h => by unfold Rep at h ⊢; exact h
  | .str _, v, _, h => by unfold Rep at h ⊢; exact h
  | .tup _, v, e, _ => nomatch e
  | .lst _, v, e, _ => nomatch e
  | .ob _ _, v, e, _ => nomatch e
  | .fn _, v, e, _ => nomatch e
  | .scr _, v, e, _ => nomatch e
  | .dic _, v, e, _ => nomatch e
  | .dis _, v, e, _ => nomatch e
  | .dil _ _, v, e, _ => nomatch e
  | .ex _, v, e, _ => nomatch e
theorem RepL.flat {G : Cls} {S T : Hp} : ∀ {ds : List D} {vs : List V}, ds.all flat0 = true → RepL G S ds vs → RepL G T ds vs
  | [], vs, _, h => by unfold RepL at h ⊢; exact h
  | d :: ds, vs, e, h => by
    unfold RepL at h ⊢
    obtain ⟨v, r, rfl, h1, h2⟩ := h
    rw [List.all_cons, Bool.and_eq_true] at e
    exact ⟨v, r, rfl, h1.flat e.1, h2.flat e.2⟩
theorem Cont.flat {G : Cls} {S T H : Hp} {a : Addr} : ∀ {z : D}, flatD z = true → Cont G S H a z → Cont G T H a z
  | .lst _, e, ⟨vs, h1, h2⟩ => ⟨vs, h1, h2.flat e⟩
  | .ob _ _, e, ⟨dx, vs, h1, h3, h2⟩ => ⟨dx, vs, h1, h3, h2.flat e⟩
  | .non, _, h => h.elim
  | .bl _, _, h => h.elim
  | .int _, _, h => h.elim
  | .str _, _, h => h.elim
  | .tup _, _, h => h.elim
  | .fn _, _, h => h.elim
  | .scr _, _, h => h.elim
  | .dic _, e, _ => nomatch e
  | .dis _, e, _ => nomatch e
  | .dil _ _, e, _ => nomatch e
  | .ex _, e, _ => nomatch e
theorem Cont.ofRep {G : Cls} {S T H H0 : Hp} {a : Addr} (sh : Same S H) : ∀ {z : D}, flatD z = true → Rep G S z (.ref a) → Cont G T H a z
  | .lst _, e, h => by
    unfold Rep at h
    obtain ⟨b, vs, hb, h1, h2⟩ := h
    cases hb
    exact ⟨vs, sh _ _ h1, h2.flat e⟩
  | .ob _ _, e, h => by
    unfold Rep at h
    obtain ⟨b, dx, vs, hb, h1, h3, h2⟩ := h
    cases hb
    exact ⟨dx, vs, sh _ _ h1, h3, h2.flat e⟩
theorem Rep.at {G : Cls} {S : Hp} {a : Addr} : ∀ {z : D}, flatD z = true → Rep G S z (.ref a) → ∃ o, S a = some o
  | .lst _, e, h => by
    unfold Rep at h
    obtain ⟨b, vs, hb, h1, h2⟩ := h
    cases hb
    exact ⟨_, h1⟩
  | .ob _ _, e, h => by
    unfold Rep at h
    obtain ⟨b, dx, vs, hb, h1, h3, h2⟩ := h
    cases hb
    exact ⟨_, h1⟩
open Classical in
noncomputable def thaw (i : Nat) (f : DE) : DE := fun d => match d[i]? with
  | some (.ow y) => match f d with
    | some (x, d') => if d' = d.set i (.va y) ∧ flatD x = true ∧ d.all flatSl = true then some (x, d) else none
    | none => none
  | _ => none
theorem lf_thaw {G : Cls} {X : Cx} {e : Expr} {f : DE} (i : Nat) (hf : LF G X e f) : LF G X e (thaw i f) := pe_weak hf fun s H Q ⟨g, S, d, x, d1, z, e, q⟩ => by
  unfold thaw at e
  split at e
  · rename_i y hy
    split at e
    · rename_i x' d' ef
      split at e
      · rename_i hh
        cases e
        obtain ⟨hd, hx, hall⟩ := hh
        subst hd
        obtain ⟨w, h1, a, rfl, ct, h3, h4, h5⟩ := z.sl i _ hy
        have hfl : ∀ (j : Nat) (t : Sl), d[j]? = some t → flatSl t = true := fun j t ht => List.all_eq_true.mp hall t (List.mem_of_getElem? ht)
        have hfy : flatD y = true := hfl i _ hy
        have il : i < d.length := (List.getElem?_eq_some_iff.mp hy).1
        refine ⟨g, S, d, x, _, z, ef, fun p H' S' sm z' c hs hb h0 ho => ?_⟩
        obtain ⟨w, k1, v, hv, kr⟩ := z'.sl i (.va y) (List.getElem?_set_self il)
        rw [h1] at k1
        cases k1
        cases hv
        obtain ⟨o, hSa⟩ := kr.at hfy
        have hpa : p ≠ a := fun e => by rw [e, hSa] at hs; cases hs
        have hT : ∀ b o, (if b = a then none else S' b) = some o → S' b = some o := fun b o e => by
          by_cases q : b = a
          · rw [if_pos q] at e; cases e
          · rwa [if_neg q] at e
        have hTS : ∀ b o, S b = some o → (if b = a then none else S' b) = some o := fun b o e => by
          rw [if_neg (fun q => by rw [q, h3] at e; cases e)]
          exact sm _ _ e
        refine q p H' (fun b => if b = a then none else S' b) hTS ?_ (c.flat hx) (by show (if p = a then none else S' p) = none; rw [if_neg hpa]; exact hs) hb h0 fun j o => ?_
        · refine ⟨fun b o e => z'.sh b o (hT b o e), z'.bh, fun b o e => z'.s0 b o (hT b o e), fun b o e => hTS b o (z.s1 b o e), z'.dm, z.ln, fun j t ht => ?_, z.ap, z.ic, z'.tb⟩
          by_cases hj : j = i
          · subst hj
            rw [hy] at ht
            cases ht
            exact ⟨_, h1, a, rfl, Cont.ofRep (H0 := H') z'.sh hfy kr, by show (if a = a then none else S' a) = none; rw [if_pos rfl], h4, h5⟩
          · have hd' : (d.set i (Sl.va y))[j]? = some t := by rw [List.getElem?_set_ne (Ne.symm hj)]; exact ht
            have hft := hfl j t ht
            cases t with
            | tb _ _ =>
              obtain ⟨w, g1, g2⟩ := z.sl j _ ht
              exact ⟨w, g1, g2⟩
            | no =>
              obtain ⟨w, g1, _⟩ := z.sl j _ ht
              exact ⟨w, g1, trivial⟩
            | va z0 =>
              obtain ⟨w, g1, v, g2, g3⟩ := z.sl j _ ht
              exact ⟨w, g1, v, g2, g3.mono hTS⟩
            | ow z0 =>
              obtain ⟨w, g1, b, g2, g3, g4, g5, g6⟩ := z'.sl j _ hd'
              exact ⟨w, g1, b, g2, g3.flat hft, by show (if b = a then none else S' b) = none; split; rfl; exact g4, g5, g6⟩
            | io z0 =>
              obtain ⟨w, g1, b, g2, g0, g3, g4, g5, g6⟩ := z'.sl j _ hd'
              exact ⟨w, g1, b, g2, g0, g3.flat hft, by show (if b = a then none else S' b) = none; split; rfl; exact g4, g5, g6⟩
        · obtain ⟨t, o1, o2, o3⟩ := o
          by_cases hj : j = i
          · subst hj
            rw [h1] at o3
            cases o3
            exact hpa rfl
          · exact ho j ⟨t, by rw [List.getElem?_set_ne (Ne.symm hj)]; exact o1, o2, o3⟩
      · cases e
    · cases e
  · cases e
open Classical in
theorem thaw_eq {f : DE} {d : Ev} {i : Nat} {x y : D} (h1 : d[i]? = some (.ow y)) (h2 : f d = some (x, d.set i (.va y))) (h3 : flatD x = true) (h4 : d.all flatSl = true) : thaw i f d = some (x, d) := by
  unfold thaw
  rw [h1]
  show (match f d with | some (x, d') => _ | none => none) = _
  rw [h2]
  show (if _ then _ else _) = _
  rw [if_pos ⟨rfl, h3, h4⟩]
end Zr

/-! Zr: an own list compared, and changed later. -/
namespace Zr
open PySem L2
open Classical in
noncomputable def thawT (i : Nat) (f : DT) : DT := fun d => match d[i]? with
  | some (.ow y) => match f d with
    | some (x, d') => if d' = d.set i (.va y) ∧ d.all flatSl = true then some (x, d) else none
    | none => none
  | _ => none
theorem lt_thaw {G : Cls} {X : Cx} {e : Expr} {f : DT} (i : Nat) (hf : LT G X e f) : LT G X e (thawT i f) := pt_weak hf fun s H Q ⟨g, S, d, x, d1, z, e, q⟩ => by
  unfold thawT at e
  split at e
  · rename_i y hy
    split at e
    · rename_i x' d' ef
      split at e
      · rename_i hh
        cases e
        obtain ⟨hd, hall⟩ := hh
        subst hd
        obtain ⟨w, h1, a, rfl, ct, h3, h4, h5⟩ := z.sl i _ hy
        have hfl : ∀ (j : Nat) (t : Sl), d[j]? = some t → flatSl t = true := fun j t ht => List.all_eq_true.mp hall t (List.mem_of_getElem? ht)
        have hfy : flatD y = true := hfl i _ hy
        have il : i < d.length := (List.getElem?_eq_some_iff.mp hy).1
        refine ⟨g, S, d, x, _, z, ef, fun H' S' sm z' => ?_⟩
        obtain ⟨w, k1, v, hv, kr⟩ := z'.sl i (.va y) (List.getElem?_set_self il)
        rw [h1] at k1
        cases k1
        cases hv
        have hT : ∀ b o, (if b = a then none else S' b) = some o → S' b = some o := fun b o e => by
          by_cases q : b = a
          · rw [if_pos q] at e; cases e
          · rwa [if_neg q] at e
        have hTS : ∀ b o, S b = some o → (if b = a then none else S' b) = some o := fun b o e => by
          rw [if_neg (fun q => by rw [q, h3] at e; cases e)]
          exact sm _ _ e
        refine q H' (fun b => if b = a then none else S' b) hTS ?_
        refine ⟨fun b o e => z'.sh b o (hT b o e), z'.bh, fun b o e => z'.s0 b o (hT b o e), fun b o e => hTS b o (z.s1 b o e), z'.dm, z.ln, fun j t ht => ?_, z.ap, z.ic, z'.tb⟩
        by_cases hj : j = i
        · subst hj
          rw [hy] at ht
          cases ht
          exact ⟨_, h1, a, rfl, Cont.ofRep (H0 := H') z'.sh hfy kr, by show (if a = a then none else S' a) = none; rw [if_pos rfl], h4, h5⟩
        · have hd' : (d.set i (Sl.va y))[j]? = some t := by rw [List.getElem?_set_ne (Ne.symm hj)]; exact ht
          have hft := hfl j t ht
          cases t with
          | tb _ _ =>
            obtain ⟨w, g1, g2⟩ := z.sl j _ ht
            exact ⟨w, g1, g2⟩
          | no =>
            obtain ⟨w, g1, _⟩ := z.sl j _ ht
            exact ⟨w, g1, trivial⟩
          | va z0 =>
            obtain ⟨w, g1, v, g2, g3⟩ := z.sl j _ ht
            exact ⟨w, g1, v, g2, g3.mono hTS⟩
          | ow z0 =>
            obtain ⟨w, g1, b, g2, g3, g4, g5, g6⟩ := z'.sl j _ hd'
            exact ⟨w, g1, b, g2, g3.flat hft, by show (if b = a then none else S' b) = none; split; rfl; exact g4, g5, g6⟩
          | io z0 =>
            obtain ⟨w, g1, b, g2, g0, g3, g4, g5, g6⟩ := z'.sl j _ hd'
            exact ⟨w, g1, b, g2, g0, g3.flat hft, by show (if b = a then none else S' b) = none; split; rfl; exact g4, g5, g6⟩
      · cases e
    · cases e
  · cases e
theorem thawT_eq {f : DT} {d : Ev} {i : Nat} {x : Bool} {y : D} (h1 : d[i]? = some (.ow y)) (h2 : f d = some (x, d.set i (.va y))) (h4 : d.all flatSl = true) : thawT i f d = some (x, d) := by
  unfold thawT
  rw [h1]
  simp only [h2]
  rw [if_pos ⟨trivial, h4⟩]
end Zr

/-! Zr: a list unpacked into names. -/
namespace Zr
open PySem L2
section
variable {G : Cls} {X : Cx} {es : List Expr} {pos : Pos}
def gtl (n : Nat) (u : List D → Ev → Option Ev) : DG := fun x d => match x with
  | .lst xs => if xs.length = n then u xs d else none
  | _ => none
theorem lg_unl {k n : Nat} {u : List D → Ev → Option Ev} {us : List Nat} (hK : G.K = X.K) (hc : X.calm = true) (h : LGs G X es u us) (hn : (assignEach es X.env).length = n := by rfl) (hst : (assignEach es X.env).findIdx? (·.1) = none := by rfl) : LG G X (.Tuple es k pos) (gtl n u) us :=
  pg_weak (pg_unl hc h hn hst) fun v s H Q ⟨g, S, d, x, d', z, r, e, q⟩ => by
    cases x with
    | lst xs =>
      unfold gtl at e
      simp only at e
      split at e
      · rename_i hl
        obtain ⟨a, vs, rfl, h1, h2⟩ := inv_lst r
        exact ⟨a, vs, rfl, SqL.of (z.sh _ _ h1), by rw [← h2.length]; exact hl, g, S, d, xs, d', z, h2, e, q⟩
      · cases e
    | non => cases e
    | bl _ => cases e
    | int _ => cases e
    | str _ => cases e
    | tup _ => cases e
    | ob _ _ => cases e
    | fn _ => cases e
    | scr _ => cases e
    | dic _ => cases e
    | dis _ => cases e
    | dil _ _ => cases e
    | ex _ => cases e
end
end Zr

/-! Zr: a list or a tuple turned. -/
namespace HT
open PySem PySem.Spec PyProof.Rows
section
variable {prog : Program} {w : World} {A : Around} {E : Value → Shared → Prop} {s : Shared}
theorem zr_applied {sl : Addr} {vl vu vs : Value} {n : Nat} {Q : Int × Int × Nat → Shared → Prop} (hs : s.heap.IsSliceOf sl vl vu vs) (pl : IsPart vl none) (pu : IsPart vu none) (ps : IsPart vs (some (-1)))
    (h : Q ((n : Int) - 1, -1, n) s) : wpAny (model prog w) A (Builtin.Slice.sliceApplied (.ref sl) (pure (n : Int))) Q E s := by
  obtain ⟨os, hos, hcs, hds⟩ := id hs
  unfold Builtin.Slice.sliceApplied Builtin.Slice.sliceFields
  refine wpAny_bind (wpAny_bind (wpAny_field hos hds (x := vl) rfl (wpAny_bind (wpAny_field hos hds (x := vu) rfl (wpAny_bind (wpAny_field hos hds (x := vs) rfl (wpAny_pure ?_)))))))
  refine wpAny_bind (slicePart_ ps ?_)
  show wpAny _ _ (if ((-1 : Int) == 0) = true then _ else _) _ _ s
  rw [if_neg (by decide)]
  refine wpAny_bind (slicePart_ pl (wpAny_bind (slicePart_ pu (wpAny_bind (wpAny_pure ?_)))))
  show wpAny _ _ (match Builtin.Slice.sliceAdjust none none (-1) (n : Int) with | (lo, hi) => pure (lo, (-1 : Int), Builtin.Slice.slicePlaces lo hi (-1))) _ _ s
  have e1 : Builtin.Slice.sliceAdjust none none (-1) (n : Int) = ((n : Int) - 1, -1) := rfl
  have e2 : Builtin.Slice.slicePlaces ((n : Int) - 1) (-1) (-1) = n := by
    unfold Builtin.Slice.slicePlaces
    rw [if_neg (by decide)]
    rw [show (-(-1) : Int) = 1 by decide, Int.ediv_one]
    split <;> omega
  rw [e1]
  show wpAny _ _ (pure ((n : Int) - 1, (-1 : Int), Builtin.Slice.slicePlaces ((n : Int) - 1) (-1) (-1))) _ _ s
  rw [e2]
  exact wpAny_pure h
theorem fm_congr {α β : Type} {f g : α → Option β} : ∀ {l : List α}, (∀ m ∈ l, f m = g m) → l.filterMap f = l.filterMap g
  | [], _ => rfl
  | a :: l, h => by
    rw [List.filterMap_cons, List.filterMap_cons, h a List.mem_cons_self, fm_congr fun m hm => h m (List.mem_cons_of_mem _ hm)]
theorem zr_pick (xs : Array Value) : ((List.range xs.size).filterMap fun (m : Nat) => xs[((xs.size : Int) - 1 + (m : Int) * (-1)).toNat]?).toArray = xs.toList.reverse.toArray := by
  have e : ∀ m ∈ List.range xs.size, (fun (m : Nat) => xs[((xs.size : Int) - 1 + (m : Int) * (-1)).toNat]?) m = (fun m => xs[xs.size - 1 - m]?) m := fun m hm => by
    have := List.mem_range.mp hm
    show xs[((xs.size : Int) - 1 + (m : Int) * (-1)).toNat]? = xs[xs.size - 1 - m]?
    rw [show ((xs.size : Int) - 1 + (m : Int) * (-1)).toNat = xs.size - 1 - m by omega]
  rw [fm_congr e]
  have e2 : (List.range xs.size).filterMap (fun m => xs[xs.size - 1 - m]?) = ((List.range xs.size).map (fun k => xs.size - 1 - k)).filterMap (xs[·]?) := by rw [List.filterMap_map]; rfl
  rw [e2, PySem.W.krv_range, List.filterMap_reverse, PySem.W.krv_all]
theorem zr_tupRev {t sl : Addr} {items : Array Value} {vl vu vs : Value} {Q : Value → Shared → Prop} (ht : IsTup s.heap t items) (hs : s.heap.IsSliceOf sl vl vu vs) (pl : IsPart vl none) (pu : IsPart vu none) (ps : IsPart vs (some (-1)))
    (h : Q (.ref s.heap.objs.size) { s with heap := s.heap.push { cls := .type "tuple", data := .seq items.toList.reverse.toArray } })
    (hsz : items.size ≤ sizeLine) : wpAny (model prog w) A (getItem (.ref t) (.ref sl)) Q E s := by
  have htake : sizeOk (.seq items.toList.reverse.toArray) := by
    show items.toList.reverse.toArray.size ≤ sizeLine
    rw [List.size_toArray, List.length_reverse, Array.length_toList]
    exact hsz
  obtain ⟨os, hos, hcs, hds⟩ := id hs
  have hTs : s.TypeIs (.ref sl) "slice" := ⟨os, hos, hcs⟩
  unfold getItem
  try with_reducible refine wpAny_holding ?_
  first | refine wpAny_bind (wpAny_pure ?_) | skip
  refine wpAny_bind (wpAny_sequenceKey ht.typeIs (by decide) ?_)
  refine wpAny_bind (wpAny_callSpecial?_slot (name := Str.ofString "__getitem__") ht.typeIs PyProof.Rows.slot_tuple_getitem
    (wpAny_call_entry PyProof.Rows.slot_tuple_getitem ht.typeIs entry_tuple_getitem ?_ (args_tuple_getitem _ _)))
  show wpAny _ _ (Builtin.Tuple.tupleItemsOf (.ref t) >>= _) _ _ s
  refine wpAny_bind (tupleItemsOf_ ht ?_)
  refine wpAny_bind (wpAny_typeOf hTs ?_)
  rw [if_pos (by decide)]
  refine wpAny_bind (zr_applied hs pl pu ps ?_)
  have hno : ¬ ((((items.size : Int) - 1) == 0 && (-1 : Int) == 1 && items.size == items.size) = true) := by
    intro q
    rw [Bool.and_eq_true, Bool.and_eq_true] at q
    exact absurd q.1.2 (by decide)
  show wpAny _ _ (if (((items.size : Int) - 1) == 0 && (-1 : Int) == 1 && items.size == items.size) = true then _ else _) _ _ s
  rw [if_neg hno, zr_pick]
  first
    | exact wpAny_bind (m := Builtin.Tuple.tupleExact _) (wpAny_newObj_type (wpAny_pure ⟨_, rfl, wpAny_pure h⟩) htake)
    | exact wpAny_bind (m := Builtin.Tuple.tupleExact _) (wpAny_newObj_type (wpAny_bind (wpAny_pure (wpAny_pure ⟨_, rfl, wpAny_pure h⟩))) htake)
    | exact wpAny_bind (wpAny_bind (m := Builtin.Tuple.tupleExact _) (wpAny_newObj_type (wpAny_pure (wpAny_pure ⟨_, rfl, wpAny_pure h⟩)) htake))
    | exact wpAny_bind (wpAny_bind (m := Builtin.Tuple.tupleExact _) (wpAny_newObj_type (wpAny_pure ⟨_, rfl, wpAny_pure h⟩) htake))
end
end HT
namespace Zr
open PySem PySem.Spec PyProof.Rows L2
section
variable {X : Cx} {e : Expr} {te : TE} {stp : Expr} {to : TO} {p3 pos : Pos}
def tRev2 (K : PySem.W.Frag) (te : TE) (to : TO) : TE := fun σ H Q => te σ H fun x H1 => to σ H1 fun o H2 => o = some (-1) ∧ ∃ a xs, x = .ref a ∧ ((SqL K H2 a xs ∧ ∀ p, H2 p = none → Q (.ref p) (upd H2 p (.lst xs.reverse))) ∨ (SqT K H2 a xs ∧ ∀ p, H2 p = none → Q (.ref p) (upd H2 p (.tup xs.reverse))))
theorem pe_rev2 (he : PE X e te) (hst : PO X (some stp) to) : PE X (.Subscript e (.Slice none none (some stp) p3) pos) (tRev2 X.K te to) := by
  refine ⟨fun pins s σ H Q I h => ?_⟩
  refine Subscript_ (thn (he.run pins s σ H _ I h) fun v s1 ⟨x, H1, I1, r1, q1⟩ => ?_)
  refine wpAny_Slice (thn (po_none.run pins s1 σ H1 (fun o H2 => o = none ∧ H2 = H1) I1 ⟨rfl, rfl⟩) fun vl s2 ⟨l, H2, I2, pl, el, e2⟩ => ?_)
  subst el e2
  refine thn (po_none.run pins s2 σ H2 (fun o H3 => o = none ∧ H3 = H2) I2 ⟨rfl, rfl⟩) fun vu s3 ⟨u, H3, I3, pu, eu, e3⟩ => ?_
  subst eu e3
  refine thn (hst.run pins s3 σ H3 _ I3 q1) fun vs s4 ⟨o, H4, I4, ps, eo, a, xs, ex, hx⟩ => ?_
  subst eo ex
  obtain rfl : v = Value.ref a := r1
  have I5 : Inv X pins σ H4 { s4 with heap := s4.heap.push { cls := .type "slice", data := .fields #[vl, vu, vs] } } := I4.kept (t' := s4.toks) fun b ob q => Heap.get?_push_of_some _ q
  show wpAny (model X.prog X.w) X.A (subscriptTail e (.Slice none none (some stp) p3) (.ref a) (.ref s4.heap.objs.size)) (EP X pins σ Q) X.xe { s4 with heap := s4.heap.push { cls := .type "slice", data := .fields #[vl, vu, vs] } }
  rcases hx with ⟨hx, q⟩ | ⟨hx, q⟩
  · obtain ⟨its, r, ht, hz⟩ := I5.list hx
    have hlen := r.length
    refine tail_any (ops := [.ref a, .ref s4.heap.objs.size]) ht.isList.typeIs (PySem.slot_list_getitem.lookup) ?_ (by with_unfolding_all rfl)
    refine wpAny_getItem_list_slice ht.isList (Heap.IsSliceOf.new _ vl vu vs) pl pu ps (by decide) ?_ (by rw [List.size_toArray]; omega)
    rw [PySem.W.krv_pick]
    refine ⟨.ref _, _, I5.laid (t' := s4.toks) (o := .lst xs.reverse) (fun b ob q => Heap.get?_push_of_some _ q) (Nat.le_refl _) ?_, rfl, q _ (I5.hok.fresh (Nat.le_refl _))⟩
    exact ⟨by rw [List.length_reverse]; exact hz, _, 0, r.reverse, Heap.get?_push_size _ rfl⟩
  · obtain ⟨its, r, ht, hz⟩ := I5.tuple hx
    have hlen := r.length
    refine tail_any (ops := [.ref a, .ref s4.heap.objs.size]) ht.typeIs (PyProof.Rows.slot_tuple_getitem.lookup) ?_ (by with_unfolding_all rfl)
    refine HT.zr_tupRev ht (Heap.IsSliceOf.new _ vl vu vs) pl pu ps ?_ (by rw [List.size_toArray]; omega)
    refine ⟨.ref _, _, I5.laid (t' := s4.toks) (o := .tup xs.reverse) (fun b ob q => Heap.get?_push_of_some _ q) (Nat.le_refl _) ?_, rfl, q _ (I5.hok.fresh (Nat.le_refl _))⟩
    exact ⟨by rw [List.length_reverse]; exact hz, _, r.reverse, IsTup.new _ _⟩
end
section
variable {G : Cls} {X : Cx} {e : Expr} {stp : Expr} {f : DE} {fo : DO} {p3 pos : Pos}
def rwD : D → Option D
  | .lst xs => some (.lst xs.reverse)
  | .scr ns => some (.lst (ns.map D.int).reverse)
  | .tup xs => some (.tup xs.reverse)
  | _ => none
/-- a list or a tuple turned, the step given -/
def rw2 (f : DE) (fo : DO) : DE := fun d => match f d with
  | some (x, d1) => match fo d1 with
    | some (some (-1), d2) => match rwD x with
      | some y => some (y, d2)
      | none => none
    | _ => none
  | none => none
theorem le_rw2 (hK : G.K = X.K) (he : LE G X e f) (hst : LO G X (some stp) fo) : LE G X (.Subscript e (.Slice none none (some stp) p3) pos) (rw2 f fo) := pe_weak (pe_rev2 he hst) fun s H Q ⟨g, S, d, y, d', z, e, q⟩ => by
  unfold rw2 at e
  split at e
  · rename_i x d1 e1
    split at e
    · rename_i d2 e2
      split at e
      · rename_i y' e3
        cases e
        refine ⟨g, S, d, x, d1, z, e1, fun v H1 S1 sm1 z1 rv => ⟨g, S1, d1, _, d', z1, e2, fun H2 S2 sm2 z2 => ⟨rfl, ?_⟩⟩⟩
        unfold rwD at e3
        split at e3
        · rename_i xs
          cases e3
          obtain ⟨a, vs, rfl, h1, h2⟩ := inv_lst rv
          refine ⟨a, vs, rfl, .inl ⟨SqL.of (z2.sh _ _ (sm2 _ _ h1)), fun p hp => ?_⟩⟩
          have ex := Ext.alloc (o := .lst vs.reverse) z2.sh hp
          exact q _ _ _ ((sm1.trans sm2).trans ex.s) (z2.ext ex) (rep_lst_new upd_same ((h2.rev.mono sm2).mono ex.s))
        · rename_i ns
          cases e3
          obtain ⟨a, rfl, h1⟩ := inv_scr rv
          rw [hK] at h1
          refine ⟨a, ns.map V.int, rfl, .inl ⟨z2.sh.seq (sm2.seq h1), fun p hp => ?_⟩⟩
          have ex := Ext.alloc (o := .lst (ns.map V.int).reverse) z2.sh hp
          exact q _ _ _ ((sm1.trans sm2).trans ex.s) (z2.ext ex) (rep_lst_new upd_same ((RepL.ints (G := G) (S := S2)).rev.mono ex.s))
        · rename_i xs
          cases e3
          obtain ⟨a, vs, rfl, h1, h2⟩ := inv_tup rv
          rw [hK] at h1
          refine ⟨a, vs, rfl, .inr ⟨same_seqT z2.sh (same_seqT sm2 h1), fun p hp => ?_⟩⟩
          have ex := Ext.alloc (o := .tup vs.reverse) z2.sh hp
          exact q _ _ _ ((sm1.trans sm2).trans ex.s) (z2.ext ex) (rep_tup_new upd_same ((h2.rev.mono sm2).mono ex.s))
        · cases e3
      · cases e
    · cases e
  · cases e
end
end Zr

/-! Zr: pairs and triples of which some are new objects of one's own. -/
namespace Zr
open PySem L2
/-- the ghost while a new object at a is held by nobody -/
def Gh.hold (g : Gh) (a : Addr) (o : HO) : Gh := ⟨upd g.B a o, g.S0, upd g.H0 a o, g.io, g.T⟩
section
variable {G : Cls} {g : Gh} {S H : Hp} {s : St} {d : Ev} {a : Addr} {o : HO}
theorem SlOk.hold {i : Nat} {y : Option V} {x : Sl} (h : SlOk G g S H i y x) (no : ∀ b, x.isO = true → y = some (.ref b) → b ≠ a) : SlOk G (g.hold a o) S H i y x := by
  cases x with
  | tb _ _ => exact h
  | no => trivial
  | va x => exact h
  | ow x =>
    obtain ⟨b, e, c, h1, h2, h3⟩ := h
    have := no b rfl e
    exact ⟨b, e, c, h1, (upd_ne this).trans h2, (upd_ne this).trans h3⟩
  | io x =>
    obtain ⟨b, e, h0, c, h1, h2, u, h3⟩ := h
    have := no b rfl e
    exact ⟨b, e, h0, c, h1, (upd_ne this).trans h2, u, (upd_ne this).trans h3⟩
theorem Zt.hold (z : Zt G g S s H d) (ha : H a = some o) (hs : S a = none) (no : ∀ j, ¬ OwnAt d s j a) (nh : ¬ Hard o := by exact fun h => h) : Zt G (g.hold a o) S s H d where
  sh := z.sh
  bh := fun b u e => by
    by_cases q : b = a
    · subst q
      rw [show (g.hold b o).B b = some o from upd_same] at e
      rw [ha]; exact e
    · exact z.bh b u ((upd_ne q).symm.trans e)
  s0 := fun b u e => by
    have q : b ≠ a := fun q => by rw [q, hs] at e; cases e
    rcases z.s0 b u e with h | h
    · exact .inl h
    · exact .inr ((upd_ne q).trans h)
  s1 := z.s1
  dm := fun b e => by
    have q : b ≠ a := fun q => by rw [q, ha] at e; cases e
    exact (upd_ne q).trans (z.dm b e)
  ln := z.ln
  sl := fun i x e => by
    obtain ⟨y, h1, h2⟩ := z.sl i x e
    exact ⟨y, h1, h2.hold fun b hx hb q => no i ⟨x, e, hx, by rw [h1, hb, q]⟩⟩
  ap := z.ap
  ic := z.ic
  tb := fun q hq => by
    obtain ⟨t1, t2, t3, u, t4⟩ := z.tb q hq
    have hne := z.tb.ne hq ha nh
    exact ⟨t1, t2, (upd_ne hne).trans t3, u, (upd_ne hne).trans t4⟩
theorem SlOk.unhold {i : Nat} {y : Option V} {x : Sl} (h : SlOk G (g.hold a o) S H i y x) : SlOk G g S H i y x ∧ ∀ b, x.isO = true → y = some (.ref b) → b ≠ a := by
  cases x with
  | tb _ _ => exact ⟨h, fun _ q => nomatch q⟩
  | no => exact ⟨trivial, fun _ q => nomatch q⟩
  | va x => exact ⟨h, fun _ q => nomatch q⟩
  | ow x =>
    obtain ⟨b, e, c, h1, h2, h3⟩ := h
    have q : b ≠ a := fun q => by
      subst q
      rw [show (g.hold b o).B b = some o from upd_same] at h2; cases h2
    refine ⟨⟨b, e, c, h1, (upd_ne q).symm.trans h2, (upd_ne q).symm.trans h3⟩, fun b' _ eb => ?_⟩
    rw [e] at eb
    cases eb
    exact q
  | io x =>
    obtain ⟨b, e, h0, c, h1, h2, u, h3⟩ := h
    have q : b ≠ a := fun q => by
      subst q
      rw [show (g.hold b o).B b = some o from upd_same] at h2; cases h2
    refine ⟨⟨b, e, h0, c, h1, (upd_ne q).symm.trans h2, u, (upd_ne q).symm.trans h3⟩, fun b' _ eb => ?_⟩
    rw [e] at eb
    cases eb
    exact q
theorem Zt.unhold (z : Zt G (g.hold a o) S s H d) (hB : g.B a = none) (h0 : g.H0 a = none) (hs0 : g.S0 a = none) : Zt G g S s H d ∧ (∀ j, ¬ OwnAt d s j a) ∧ H a = some o ∧ S a = none := by
  have ha : H a = some o := z.bh a o upd_same
  have hs : S a = none := by
    cases e : S a with
    | none => rfl
    | some u =>
      rcases z.s0 a u e with h | h
      · rw [show (g.hold a o).S0 a = g.S0 a from rfl, hs0] at h; cases h
      · rw [show (g.hold a o).H0 a = some o from upd_same] at h; cases h
  refine ⟨⟨z.sh, fun b u e => ?_, fun b u e => ?_, z.s1, fun b e => ?_, z.ln, fun i x e => ?_, z.ap, z.ic, fun q hq => ?_⟩, fun j q => ?_, ha, hs⟩
  · have q : b ≠ a := fun q => by rw [q, hB] at e; cases e
    exact z.bh b u ((upd_ne q).trans e)
  · have q : b ≠ a := fun q => by rw [q, hs] at e; cases e
    rcases z.s0 b u e with h | h
    · exact .inl h
    · exact .inr ((upd_ne q).symm.trans h)
  · have q : b ≠ a := fun q => by rw [q, ha] at e; cases e
    exact (upd_ne q).symm.trans (z.dm b e)
  · obtain ⟨y, h1, h2⟩ := z.sl i x e
    exact ⟨y, h1, h2.unhold.1⟩
  · obtain ⟨t1, t2, t3, u, t4⟩ := z.tb q hq
    have hne : q.1 ≠ a := fun w => by
      rw [w, show (g.hold a o).B a = some o from upd_same] at t3
      cases t3
    exact ⟨t1, t2, (upd_ne hne).symm.trans t3, u, (upd_ne hne).symm.trans t4⟩
  · obtain ⟨x, h1, h2, h3⟩ := q
    obtain ⟨y, e1, e2⟩ := z.sl j x h1
    rw [h3] at e1
    cases e1
    exact e2.unhold.2 a h2 rfl rfl
theorem notIo_setO {d : Ev} {i j : Nat} {x : D} (h : notIo d j = true) (hi : notIo d i = true) : notIo (d.set i (.ow x)) j = true := by
  unfold notIo
  by_cases e : j = i
  · subst e; rw [set_get (notIo_lt hi)]
  · rw [List.getElem?_set_ne (Ne.symm e)]; exact h
theorem Zt.setOw {i : Nat} {x : D} (z : Zt G g S s H d) (hi : notIo d i = true) (ct : Cont G S H a x) (h1 : S a = none) (h2 : g.B a = none) (h3 : g.H0 a = none) (no : ∀ j, ¬ OwnAt d s j a) : Zt G g S (s.set i (some (.ref a))) H (d.set i (.ow x)) :=
  z.set hi ⟨a, rfl, ct, h1, h2, h3⟩ (fun _ q => nomatch q) fun b _ eb m o => by
    cases eb
    exact no m o
end
section
variable {G : Cls} {X : Cx} {a b c : Expr} {f h k : DE} {pos : Pos}
/-- the first one a new object of one's own -/
def sp2O (i j : Nat) (f h : DE) : DS := fun d => match f d with
  | some (x, d1) => match h d1 with
    | some (y, d2) => if notIo d2 i && notIo d2 j then some (.nx, (d2.set i (.ow x)).set j (.va y)) else none
    | none => none
  | none => none
theorem ls_parO {i j : Nat} {x y : Str} {px py pt : Pos} {kt k2 pt2} (hc : X.calm = true) (hN : X.N.Nodup) (hi : X.N[i]? = some x) (hj : X.N[j]? = some y) (hij : i ≠ j)
    (hx : X.env.scope.names.lookup x = some .local) (hy : X.env.scope.names.lookup y = some .local) (ha : LF G X a f) (hb : LE G X b h)
    (hw : swappedStores [.Tuple [.Name x px, .Name y py] kt pt] (.Tuple [a, b] k2 pt2) X.env = pure (some [x, y]))
    (hs : swapsWithSole [.Tuple [.Name x px, .Name y py] kt pt] (.Tuple [a, b] k2 pt2) pos.line X.env = pure false := by rfl)
    (h1 : starEach [a, b] X.env = (false, eval a X.env) :: starEach [b] X.env := by rfl) (h2 : starEach [b] X.env = (false, eval b X.env) :: starEach [] X.env := by rfl) :
    LS G X (.Assign [.Tuple [.Name x px, .Name y py] kt pt] (.Tuple [a, b] k2 pt2) pos) (sp2O i j f h) := ps_weak (ps_par hc hN hi hj hij hx hy (pa_cons ha (pa_cons hb pa_nil h2) h1) hw hs) fun D s H ⟨g, S, d, fl, d', z, e, q⟩ => by
  unfold sp2O at e
  split at e
  · rename_i x1 d1 e1
    split at e
    · rename_i x2 d2 e2
      split at e
      · rename_i e3
        rw [Bool.and_eq_true] at e3
        cases e
        refine ⟨g, S, d, x1, d1, z, e1, fun a H1 S1 sm1 z1 ct k1 k2 k3 k4 => ?_⟩
        obtain ⟨o, ho, nh⟩ := ct.soft
        have hs0 : g.S0 a = none := z1.s1.free k1
        refine ⟨g.hold a o, S1, d1, x2, d2, z1.hold ho k1 k4 nh, e2, fun w H2 S2 sm2 z2 r2 => ⟨.ref a, w, rfl, ?_⟩⟩
        obtain ⟨z3, n3, a3, s3⟩ := z2.unhold k2 k3 hs0
        exact q _ H2 S2 (sm1.trans sm2) ((z3.setOw e3.1 (ct.mono sm2 (a3.trans ho.symm)) s3 k2 k3 n3).setVa (notIo_setO e3.2 e3.1) r2)
      · cases e
    · cases e
  · cases e
/-- both of them -/
def sp2B (i j : Nat) (f h : DE) : DS := fun d => match f d with
  | some (x, d1) => match h d1 with
    | some (y, d2) => if notIo d2 i && notIo d2 j then some (.nx, (d2.set i (.ow x)).set j (.ow y)) else none
    | none => none
  | none => none
theorem ls_parB {i j : Nat} {x y : Str} {px py pt : Pos} {kt k2 pt2} (hc : X.calm = true) (hN : X.N.Nodup) (hi : X.N[i]? = some x) (hj : X.N[j]? = some y) (hij : i ≠ j)
    (hx : X.env.scope.names.lookup x = some .local) (hy : X.env.scope.names.lookup y = some .local) (ha : LF G X a f) (hb : LF G X b h)
    (hw : swappedStores [.Tuple [.Name x px, .Name y py] kt pt] (.Tuple [a, b] k2 pt2) X.env = pure (some [x, y]))
    (hs : swapsWithSole [.Tuple [.Name x px, .Name y py] kt pt] (.Tuple [a, b] k2 pt2) pos.line X.env = pure false := by rfl)
    (h1 : starEach [a, b] X.env = (false, eval a X.env) :: starEach [b] X.env := by rfl) (h2 : starEach [b] X.env = (false, eval b X.env) :: starEach [] X.env := by rfl) :
    LS G X (.Assign [.Tuple [.Name x px, .Name y py] kt pt] (.Tuple [a, b] k2 pt2) pos) (sp2B i j f h) := ps_weak (ps_par hc hN hi hj hij hx hy (pa_cons ha (pa_cons hb pa_nil h2) h1) hw hs) fun D s H ⟨g, S, d, fl, d', z, e, q⟩ => by
  unfold sp2B at e
  split at e
  · rename_i x1 d1 e1
    split at e
    · rename_i x2 d2 e2
      split at e
      · rename_i e3
        rw [Bool.and_eq_true] at e3
        cases e
        refine ⟨g, S, d, x1, d1, z, e1, fun a H1 S1 sm1 z1 ct k1 k2 k3 k4 => ?_⟩
        obtain ⟨o, ho, nh⟩ := ct.soft
        have hs0 : g.S0 a = none := z1.s1.free k1
        refine ⟨g.hold a o, S1, d1, x2, d2, z1.hold ho k1 k4 nh, e2, fun b H2 S2 sm2 z2 ct2 l1 l2 l3 l4 => ⟨.ref a, .ref b, rfl, ?_⟩⟩
        obtain ⟨z3, n3, a3, s3⟩ := z2.unhold k2 k3 hs0
        have q1 : b ≠ a := fun q1 => by
          subst q1
          rw [show (g.hold b o).B b = some o from upd_same] at l2; cases l2
        refine q _ H2 S2 (sm1.trans sm2) ((z3.setOw e3.1 (ct.mono sm2 (a3.trans ho.symm)) s3 k2 k3 n3).setOw (notIo_setO e3.2 e3.1) ct2 l1 ((upd_ne q1).symm.trans l2) ((upd_ne q1).symm.trans l3) fun m om => ?_)
        rcases om.of_set with ⟨_, _, o2, _⟩ | ⟨_, o1⟩
        · cases o2
          exact q1 rfl
        · exact l4 m o1
      · cases e
    · cases e
  · cases e
/-- of three the second one -/
def sp3M (i j l : Nat) (f h k : DE) : DS := fun d => match f d with
  | some (x, d1) => match h d1 with
    | some (y, d2) => match k d2 with
      | some (w, d3) => if notIo d3 i && (notIo d3 j && notIo d3 l) then some (.nx, ((d3.set i (.va x)).set j (.ow y)).set l (.va w)) else none
      | none => none
    | none => none
  | none => none
theorem ls_par3M {i j l : Nat} {x y t : Str} {px py pz pt : Pos} {kt k2 pt2} (hc : X.calm = true) (hN : X.N.Nodup) (hi : X.N[i]? = some x) (hj : X.N[j]? = some y) (hl : X.N[l]? = some t) (hij : i ≠ j) (hil : i ≠ l) (hjl : j ≠ l)
    (hx : X.env.scope.names.lookup x = some .local) (hy : X.env.scope.names.lookup y = some .local) (ht : X.env.scope.names.lookup t = some .local) (ha : LE G X a f) (hb : LF G X b h) (hd : LE G X c k)
    (hw : swappedStores [.Tuple [.Name x px, .Name y py, .Name t pz] kt pt] (.Tuple [a, b, c] k2 pt2) X.env = pure (some [x, y, t]))
    (hs : swapsWithSole [.Tuple [.Name x px, .Name y py, .Name t pz] kt pt] (.Tuple [a, b, c] k2 pt2) pos.line X.env = pure false := by rfl)
    (h1 : starEach [a, b, c] X.env = (false, eval a X.env) :: starEach [b, c] X.env := by rfl) (h2 : starEach [b, c] X.env = (false, eval b X.env) :: starEach [c] X.env := by rfl) (h3 : starEach [c] X.env = (false, eval c X.env) :: starEach [] X.env := by rfl) :
    LS G X (.Assign [.Tuple [.Name x px, .Name y py, .Name t pz] kt pt] (.Tuple [a, b, c] k2 pt2) pos) (sp3M i j l f h k) := ps_weak (ps_par3 hc hN hi hj hl hij hil hjl hx hy ht (pa_cons ha (pa_cons hb (pa_cons hd pa_nil h3) h2) h1) hw hs) fun D s H ⟨g, S, d, fl, d', z, e, q⟩ => by
  unfold sp3M at e
  split at e
  · rename_i x1 d1 e1
    split at e
    · rename_i x2 d2 e2
      split at e
      · rename_i x3 d3 e4
        split at e
        · rename_i e3
          rw [Bool.and_eq_true, Bool.and_eq_true] at e3
          cases e
          refine ⟨g, S, d, x1, d1, z, e1, fun v H1 S1 sm1 z1 r1 => ⟨g, S1, d1, x2, d2, z1, e2, fun a H2 S2 sm2 z2 ct k1 k2 k3 k4 => ?_⟩⟩
          obtain ⟨o, ho, nh⟩ := ct.soft
          have hs0 : g.S0 a = none := z2.s1.free k1
          refine ⟨g.hold a o, S2, d2, x3, d3, z2.hold ho k1 k4 nh, e4, fun w H3 S3 sm3 z3 r3 => ⟨v, .ref a, w, rfl, ?_⟩⟩
          obtain ⟨z4, n4, a4, s4⟩ := z3.unhold k2 k3 hs0
          refine q _ H3 S3 (sm1.trans (sm2.trans sm3)) (((z4.setVa e3.1 (r1.mono (sm2.trans sm3))).setOw (notIo_set e3.2.1 e3.1) (ct.mono sm3 (a4.trans ho.symm)) s4 k2 k3 fun m om => ?_).setVa (notIo_setO (notIo_set e3.2.2 e3.1) (notIo_set e3.2.1 e3.1)) r3)
          rcases om.of_set with ⟨_, o1, _⟩ | ⟨_, o1⟩
          · cases o1
          · exact n4 m o1
        · cases e
      · cases e
    · cases e
  · cases e
end
end Zr

/-! Zr: new lists by + and list(), the last or one place taken out of one's own list, min and max of a list. -/
namespace Zr
open PySem L2
section
variable {G : Cls} {X : Cx} {a b e : Expr} {es : List Expr} {f h : DE} {pos : Pos} {p : Pos}
def addL : D → D → Option D
  | .lst a, .lst b => if a.length + b.length ≤ sizeLine then some (.lst (a ++ b)) else none
  | _, _ => none
theorem lf_addL (ha : LE G X a f) (hb : LE G X b h) : LF G X (.BinOp a .Add b pos) (b2 addL f h) := pe_weak (pe_op op_cat ha hb) fun s H Q ⟨g, S, d, z, d', zt, e, q⟩ => by
  obtain ⟨x, d1, y, e1, e2, e3⟩ := b2_inv e
  refine ⟨g, S, d, x, d1, zt, e1, fun v H1 S1 s1 z1 r1 => ⟨g, S1, d1, y, d', z1, e2, fun w H2 S2 s2 z2 r2 => ?_⟩⟩
  unfold addL at e3
  split at e3
  · rename_i ds es
    split at e3
    · rename_i hl
      cases e3
      obtain ⟨p, vs, rfl, h1, k1⟩ := inv_lst (r1.mono s2)
      obtain ⟨b, us, rfl, h2, k2⟩ := inv_lst r2
      have l1 := k1.length
      have l2 := k2.length
      refine ⟨p, b, vs, us, rfl, rfl, z2.sh _ _ h1, z2.sh _ _ h2, by omega, fun p hp => ?_⟩
      obtain ⟨z3, n1, n2, n3, n4⟩ := z2.fresh (o := .lst (vs ++ us)) hp
      exact q p _ S2 (s1.trans s2) z3 ⟨vs ++ us, upd_same, k1.append k2⟩ n1 n2 n3 n4
    · cases e3
  · cases e3
/-- a list so many times -/
def mulL : D → D → Option D
  | .lst a, .int k => if 0 ≤ k ∧ k ≤ 1000 ∧ a.length ≤ 1000 then some (.lst (List.replicate k.toNat a).flatten) else none
  | _, _ => none
theorem r_mulL : R2D G mulL rRep := fun S H x y z v w Q sm rx ry e q => by
  unfold mulL at e
  split at e
  · rename_i ds k
    split at e
    · rename_i h
      cases e
      obtain ⟨a, vs, rfl, h1, r1⟩ := inv_lst rx
      have l1 := r1.length
      refine ⟨a, k, vs, rfl, inv_int ry, sm _ _ h1, by omega, by omega, ?_, fun p hp => ?_⟩
      · have : vs.length * k.toNat ≤ 1000 * 1000 := Nat.mul_le_mul (by omega) (by omega)
        rw [sizeLine_eq]
        omega
      · have ex := Ext.alloc (o := .lst (List.replicate k.toNat vs).flatten) sm hp
        exact q _ _ _ ex (rep_lst_new upd_same ((r1.repl _).mono ex.s))
    · cases e
  · cases e
/-- min, max of a list of ints -/
def leastD (ns : List Int) : Option Int := ns.find? fun m => ns.all fun y => decide (m ≤ y)
def mostD (ns : List Int) : Option Int := ns.find? fun m => ns.all fun y => decide (y ≤ m)
def nMin1 : List D → Option D
  | [.lst ds] => match asInts ds with
    | some ns => match leastD ns with
      | some m => some (.int m)
      | none => none
    | none => none
  | _ => none
def nMax1 : List D → Option D
  | [.lst ds] => match asInts ds with
    | some ns => match mostD ns with
      | some m => some (.int m)
      | none => none
    | none => none
  | _ => none
theorem leastD_eq {ns : List Int} {m m' : Int} (e : leastD ns = some m) (h1 : m' ∈ ns) (h2 : ∀ y ∈ ns, m' ≤ y) : m' = m := by
  have k1 := List.find?_some e
  have k2 := List.mem_of_find?_eq_some e
  simp only [List.all_eq_true, decide_eq_true_eq] at k1
  have := k1 m' h1
  have := h2 m k2
  omega
theorem mostD_eq {ns : List Int} {m m' : Int} (e : mostD ns = some m) (h1 : m' ∈ ns) (h2 : ∀ y ∈ ns, y ≤ m') : m' = m := by
  have k1 := List.find?_some e
  have k2 := List.mem_of_find?_eq_some e
  simp only [List.all_eq_true, decide_eq_true_eq] at k1
  have := k1 m' h1
  have := h2 m k2
  omega
theorem r_min1 (hK : G.K = X.K) : RnD G nMin1 (rMin X.K) := fun S H xs z vs Q sm r e q => by
  unfold nMin1 at e
  split at e
  · rename_i ds
    split at e
    · rename_i ns e1
      split at e
      · rename_i m e2
        cases e
        obtain ⟨v, rfl, r1⟩ := repL1 r
        obtain ⟨a, us, rfl, h1, r2⟩ := inv_lst r1
        have eu := asInts_rep e1 r2
        subst eu
        refine ⟨a, ns, rfl, SqL.of (sm _ _ h1), List.length_pos_of_mem (List.mem_of_find?_eq_some e2), fun m' k1 k2 => ?_⟩
        rw [leastD_eq e2 k1 k2]
        exact q _ S H (.refl sm) rep_int
      · cases e
    · cases e
  · cases e
theorem r_max1 (hK : G.K = X.K) : RnD G nMax1 (rMax X.K) := fun S H xs z vs Q sm r e q => by
  unfold nMax1 at e
  split at e
  · rename_i ds
    split at e
    · rename_i ns e1
      split at e
      · rename_i m e2
        cases e
        obtain ⟨v, rfl, r1⟩ := repL1 r
        obtain ⟨a, us, rfl, h1, r2⟩ := inv_lst r1
        have eu := asInts_rep e1 r2
        subst eu
        refine ⟨a, ns, rfl, SqL.of (sm _ _ h1), List.length_pos_of_mem (List.mem_of_find?_eq_some e2), fun m' k1 k2 => ?_⟩
        rw [mostD_eq e2 k1 k2]
        exact q _ S H (.refl sm) rep_int
      · cases e
    · cases e
  · cases e
/-- list(x) as a new object of one's own -/
theorem lf_list {x : Str} {r : DA} (hg : Gl X x) (hm : X.mg x = none) (hv : bootBuiltins x = some (.type "list")) (ha : LA G X (e :: es) r) (hK : G.K = X.K)
    (hn : x ≠ "__name__" := by decide) (hdb : (x == ("__debug__" : Str)) = false := by decide) (he : starEach (e :: es) X.env = (false, eval e X.env) :: starEach es X.env := by rfl) (hpl : (backTo pos (starEach es X.env)).any (·.1) = false := by rfl) :
    LF G X (.Call (.Name x p) (e :: es) [] pos) (cn nLst r) := pe_weak (pe_callTy call_list_of hg hm hv ha hn hdb he hpl) fun s H Q ⟨g, S, d, y, d', z, e, q⟩ => by
  obtain ⟨xs, e1, e2⟩ := cn_inv e
  refine ⟨g, S, d, xs, d', z, e1, fun vs H' S' sm z' r => ?_⟩
  have key : ∀ {a us ds}, (SqL X.K H' a us ∨ SqT X.K H' a us) → RepL G S' ds us → vs = [V.ref a] → y = .lst ds → ∃ p ys, vs = [.ref p] ∧ (SqL X.K H' p ys ∨ SqT X.K H' p ys) ∧ ∀ l, H' l = none → Q (.ref l) (upd H' l (.lst ys)) := fun {a us ds} h r2 ev ez => by
    subst ez
    refine ⟨a, us, ev, h, fun p hp => ?_⟩
    obtain ⟨z3, n1, n2, n3, n4⟩ := z'.fresh (o := .lst us) hp
    exact q p _ S' sm z3 ⟨us, upd_same, r2⟩ n1 n2 n3 n4
  unfold nLst at e2
  split at e2
  · cases e2
    obtain ⟨v, rfl, r1⟩ := repL1 r
    obtain ⟨a, us, rfl, h1, r2⟩ := inv_tup r1
    rw [hK] at h1
    exact key (.inr (same_seqT z'.sh h1)) r2 rfl rfl
  · cases e2
    obtain ⟨v, rfl, r1⟩ := repL1 r
    obtain ⟨a, us, rfl, h1, r2⟩ := inv_lst r1
    exact key (.inl (SqL.of (z'.sh _ _ h1))) r2 rfl rfl
  · cases e2
    obtain ⟨v, rfl, r1⟩ := repL1 r
    obtain ⟨a, rfl, h1⟩ := inv_scr r1
    rw [hK] at h1
    exact key (.inl (z'.sh.seq h1)) RepL.ints rfl rfl
  · cases e2
/-- x.pop() -/
def pop (i : Nat) : DE := fun d => match ownL d i with
  | some ds => match ds[ds.length - 1]? with
    | some w => some (w, Zr.put d i (.lst ds.dropLast))
    | none => none
  | none => none
theorem le_pop (i : Nat) {y : Str} {apos : Pos} (hN : X.N[i]? = some y := by rfl) (hv : Vis X.env.scope y := by first | exact Or.inl rfl | exact Or.inr (Or.inl rfl) | exact Or.inr (Or.inr rfl)) (hd : (y == ("__debug__" : Str)) = false := by decide) (hcd : (y == ("__classdict__" : Str)) = false := by decide)
    (hbase : attributeBase (.Name y p) "pop" X.env (eval (.Name y p) X.env) = eval (.Name y p) X.env := by rfl) (hline : (apos.endLine == pos.line) = true := by rfl) :
    LE G X (.Call (.Attribute (.Name y p) "pop" apos) [] [] pos) (pop i) :=
  pe_weak (pe_bm0 PySem.F.plainAttrs_list PySem.F.slot_list_pop PySem.F.type_list_pop mt_pop (pe_var hN hv hd hcd) hbase hline) fun s H Q ⟨g, S, d, y, d', z, e, q⟩ => by
    unfold pop at e
    split at e
    · rename_i ds e0
      split at e
      · rename_i w e1
        cases e
        obtain ⟨y0, e01, e02⟩ := ownL_inv e0
        obtain ⟨a, h1, h2, _⟩ := z.at_own e01
        obtain ⟨vs, h3, h4⟩ := cont_lst e02 h2
        obtain ⟨v, k1, k2⟩ := h4.get e1
        rw [h4.length] at k1
        refine ⟨_, h1, .inl ⟨rfl, _, SqL.of h3⟩, a, vs, v, rfl, rfl, h3, k1, ?_⟩
        refine q _ _ S (.refl _) (z.put e01 h1 ⟨_, upd_same, ?_⟩) k2
        rw [List.dropLast_eq_take, List.dropLast_eq_take, h4.length]
        exact h4.take _
      · cases e
    · cases e
theorem RepL.eraseAt {S : Hp} {ds : List D} {vs : List V} (h : RepL G S ds vs) (k : Nat) : RepL G S (ds.eraseIdx k) (vs.eraseIdx k) := by
  rw [List.eraseIdx_eq_take_drop_succ, List.eraseIdx_eq_take_drop_succ]
  exact (h.take k).append (h.drop (k + 1))
/-- x.pop(i) -/
def popAt (i : Nat) (f : DE) : DE := fun d => match ownL d i with
  | some _ => match f d with
    | some (.int j, d1) => match ownL d1 i with
      | some ds => if 0 ≤ j ∧ j < ds.length ∧ j < 1000000 then match ds[j.toNat]? with
          | some w => some (w, Zr.put d1 i (.lst (ds.eraseIdx j.toNat)))
          | none => none
        else none
      | none => none
    | _ => none
  | none => none
theorem le_popAt (i : Nat) {y : Str} {apos : Pos} (he : LE G X e f) (hN : X.N[i]? = some y := by rfl) (hv : Vis X.env.scope y := by first | exact Or.inl rfl | exact Or.inr (Or.inl rfl) | exact Or.inr (Or.inr rfl)) (hd : (y == ("__debug__" : Str)) = false := by decide) (hcd : (y == ("__classdict__" : Str)) = false := by decide)
    (hbase : attributeBase (.Name y p) "pop" X.env (eval (.Name y p) X.env) = eval (.Name y p) X.env := by rfl)
    (hfew : ((backTo pos (starEach [e] X.env)).all (fun x => !x.1) && (backToKw pos (keywordEach [] X.env)).all (fun x => x.1.isSome)
      && decide (([e] : List Expr).length + ([] : List Keyword).length + (if ([] : List Keyword).isEmpty then 0 else 1) < 30)) = true := by rfl)
    (hline : (apos.endLine == pos.line) = true := by rfl) (hs : starEach [e] X.env = (false, eval e X.env) :: starEach [] X.env := by rfl) (hplain : (backTo pos (starEach [] X.env)).any (·.1) = false := by rfl) :
    LE G X (.Call (.Attribute (.Name y p) "pop" apos) [e] [] pos) (popAt i f) :=
  pe_weak (pe_bm PySem.F.plainAttrs_list PySem.F.slot_list_pop PySem.F.type_list_pop mt_popAt (pe_var hN hv hd hcd) (pa_cons he pa_nil hs) hbase hfew hline hs hplain) fun s H Q ⟨g, S, d, y, d', z, e, q⟩ => by
    unfold popAt at e
    split at e
    · rename_i ds0 e0
      obtain ⟨y0, e01, e02⟩ := ownL_inv e0
      obtain ⟨a, h1, h2, _⟩ := z.at_own e01
      obtain ⟨vs0, h3, _⟩ := cont_lst e02 h2
      split at e
      · rename_i j d1 e1
        split at e
        · rename_i ds e2
          split at e
          · rename_i hj
            split at e
            · rename_i w ew
              cases e
              refine ⟨_, h1, .inl ⟨rfl, _, SqL.of h3⟩, g, S, d, .int j, d1, z, e1, fun v H' S' sm z' r => ?_⟩
              cases inv_int r
              obtain ⟨y1, e11, e12⟩ := ownL_inv e2
              obtain ⟨b, k1, k2, _⟩ := z'.at_own e11
              rw [h1] at k1; cases k1
              obtain ⟨vs, k3, k4⟩ := cont_lst e12 k2
              obtain ⟨v, m1, m2⟩ := k4.get ew
              refine ⟨a, vs, j, j.toNat, v, rfl, rfl, k3, by omega, by omega, ?_, m1, ?_⟩
              · unfold seqIndex?
                rw [← k4.length]
                simp only [show ¬ j < 0 by omega, if_false]
                rw [if_pos (by simp; omega)]
              · exact q _ _ S' sm (z'.put e11 h1 ⟨_, upd_same, k4.eraseAt _⟩) m2
            · cases e
          · cases e
        · cases e
      · cases e
    · cases e
end
end Zr

set_option maxHeartbeats 4000000
/-! Zr: a tuple so many times, also once and no time. -/
namespace Zr
open PySem PySem.Spec PyProof.Rows L2
theorem tup_mul1 (l : Addr) (items : Array Value) (n : Nat) (dd : Option Addr) (sl : Array (Option Value)) (x : Int) (u : Tok) (c0 : (decide (x < -(2 ^ 63)) || decide (x ≥ 2 ^ 63)) = false) (c1 : (items.isEmpty || x == 1) = true) :
    Meets (Builtin.«tuple.__mul__» ⟨[.ref l, .int x u], []⟩) (fun _ R s => s.heap.get? l = some { cls := .type "tuple", dict := dd, data := .seq items n, slots := sl } ∧ R (.ok (.ret (Value.ref l))) { s with heap := s.heap, toks := s.toks }) :=
  .of_wp fun prog w A R s h => by
    obtain ⟨hp, g, d, tk, os⟩ := s
    obtain ⟨hl, h⟩ := h
    have f1 := AutoSeq1.idx_int
    wp_walk using wpAny_loadPart' hl
    repeat (first
      | (refine wpAny_ite_false (decide_eq_false (by rw [c0]; exact Bool.false_ne_true)) ?_; wp_walk using wpAny_loadPart' hl)
      | (refine wpAny_ite_true (decide_eq_true (by rw [c1])) ?_; wp_walk using wpAny_loadPart' hl))
    exact ⟨_, rfl, h⟩
theorem tup_mul0 (l : Addr) (items : Array Value) (n : Nat) (dd : Option Addr) (sl : Array (Option Value)) (x : Int) (u : Tok) (c0 : (decide (x < -(2 ^ 63)) || decide (x ≥ 2 ^ 63)) = false) (c1 : (items.isEmpty || x == 1) = false) (c2 : (decide (x ≤ 0) || items.isEmpty) = true) :
    Meets (Builtin.«tuple.__mul__» ⟨[.ref l, .int x u], []⟩) (fun _ R s => s.heap.get? l = some { cls := .type "tuple", dict := dd, data := .seq items n, slots := sl } ∧
      R (.ok (.ret (Value.ref s.heap.objs.size))) { s with heap := s.heap.push { cls := Value.type "tuple", data := Data.seq #[] }, toks := s.toks }) :=
  .of_wp fun prog w A R s h => by
    obtain ⟨hp, g, d, tk, os⟩ := s
    obtain ⟨hl, h⟩ := h
    have f1 := AutoSeq1.idx_int
    wp_walk using wpAny_loadPart' hl
    repeat (first
      | (refine wpAny_ite_false (decide_eq_false (by rw [c0]; exact Bool.false_ne_true)) ?_; wp_walk using wpAny_loadPart' hl)
      | (refine wpAny_ite_false (decide_eq_false (by rw [c1]; exact Bool.false_ne_true)) ?_; wp_walk using wpAny_loadPart' hl)
      | (refine wpAny_ite_true (decide_eq_true (by rw [c2])) ?_; wp_walk using wpAny_loadPart' hl))
    exact ⟨_, rfl, h⟩
/-- once: the tuple itself; no time: a new one -/
def rRep1 (K : PySem.W.Frag) : R2 := fun x y H Q => ∃ l xs, x = .ref l ∧ y = .int 1 ∧ SqT K H l xs ∧ Q (.ref l) H
def rRep0 (K : PySem.W.Frag) : R2 := fun x y H Q => ∃ l xs, x = .ref l ∧ y = .int 0 ∧ SqT K H l xs ∧ xs ≠ [] ∧ ∀ p, H p = none → Q (.ref p) (upd H p (.tup []))
section
variable {X : Cx} {G : Cls}
theorem op_rep1 : OpR X (binaryOp .Mult) (rRep1 X.K) := by
  intro pins s σ H x y v u Q I rx ry h
  obtain ⟨l, xs, rfl, rfl, hT, q⟩ := h
  cases rx
  obtain ⟨t, rfl⟩ := ry
  obtain ⟨its, r, ⟨⟨cls, dd, data, sl⟩, ho, hc, n, hd⟩, hs⟩ := I.tuple hT
  simp only at hc hd
  subst hc hd
  refine wpAny_binaryOp_repeat_ref (T := "tuple") (U := "int") (by decide) ⟨_, ho, rfl⟩ (fun s' => typeIs_int s' 1 t) noFill_tuple_mul F.fills_int_mul F.slot_int_rmul repeat_tuple F.slot_int_index.lookup
    (call_meets F.slot_int_rmul (typeIs_int s 1 t) F.entry_int_rmul (F.args_int_rmul_2 _ _) (int_rmul_tuple 1 t l its.toArray n dd sl)
      ⟨ho, rfl, ⟨_, ho, rfl⟩, call_meets F.slot_tuple_mul ⟨_, ho, rfl⟩ F.entry_tuple_mul (F.args_tuple_mul_2 _ _) (tup_mul1 l its.toArray n dd sl 1 t (by decide) (by rw [Bool.or_eq_true]; exact .inr rfl)) ⟨ho, ?_⟩⟩)
  exact ⟨.ref l, H, I, rfl, q⟩
theorem op_rep0 : OpR X (binaryOp .Mult) (rRep0 X.K) := by
  intro pins s σ H x y v u Q I rx ry h
  obtain ⟨l, xs, rfl, rfl, hT, hne, q⟩ := h
  cases rx
  obtain ⟨t, rfl⟩ := ry
  obtain ⟨its, r, ⟨⟨cls, dd, data, sl⟩, ho, hc, n, hd⟩, hs⟩ := I.tuple hT
  simp only at hc hd
  subst hc hd
  have hle : its.length = xs.length := r.length.symm
  have hn : its ≠ [] := fun e => hne (by
    rw [e] at hle
    exact List.eq_nil_of_length_eq_zero hle.symm)
  have hi : its.toArray.isEmpty = false := by
    cases its with
    | nil => exact absurd rfl hn
    | cons a b => rfl
  refine wpAny_binaryOp_repeat_ref (T := "tuple") (U := "int") (by decide) ⟨_, ho, rfl⟩ (fun s' => typeIs_int s' 0 t) noFill_tuple_mul F.fills_int_mul F.slot_int_rmul repeat_tuple F.slot_int_index.lookup
    (call_meets F.slot_int_rmul (typeIs_int s 0 t) F.entry_int_rmul (F.args_int_rmul_2 _ _) (int_rmul_tuple 0 t l its.toArray n dd sl)
      ⟨ho, rfl, ⟨_, ho, rfl⟩, call_meets F.slot_tuple_mul ⟨_, ho, rfl⟩ F.entry_tuple_mul (F.args_tuple_mul_2 _ _) (tup_mul0 l its.toArray n dd sl 0 t (by decide) (by rw [hi]; rfl) (by rw [hi]; rfl)) ⟨ho, ?_⟩⟩)
  refine ⟨.ref s.heap.objs.size, _, I.laid (t' := s.toks) (o := .tup []) (fun b ob q => Heap.get?_push_of_some _ q) (Nat.le_refl _) ?_, rfl, q _ (I.hok.fresh (Nat.le_refl _))⟩
  exact ⟨by rw [sizeLine_eq]; decide, [], .nil, IsTup.new _ _⟩
def mulA : D → D → Option D
  | .tup a, .int b => if b = 1 then some (.tup a) else if b = 0 then (if a = [] then none else some (.tup [])) else repT a b
  | x, y => mulD x y
def rMulB (K : PySem.W.Frag) : R2 := fun x y H Q => rMulA K x y H Q ∨ (rRep1 K x y H Q ∨ rRep0 K x y H Q)
theorem op_mulA : OpR X (binaryOp .Mult) (rMulB X.K) := OpR.or op_mulD (OpR.or op_rep1 op_rep0)
theorem r_mulA (hK : G.K = X.K) : R2D G mulA (rMulB X.K) := fun S H x y z v w Q sm rx ry e q => by
  have old : mulD x y = some z → rMulB X.K v w H Q := fun e => .inl (r_mulD hK S H x y z v w Q sm rx ry e q)
  unfold mulA at e
  split at e
  · rename_i ds b
    split at e
    · rename_i hb
      subst hb
      cases e
      obtain ⟨a, vs, rfl, h1, r1⟩ := inv_tup rx
      rw [hK] at h1
      exact .inr (.inl ⟨a, vs, rfl, inv_int ry, same_seqT sm h1, q _ S H (.refl sm) rx⟩)
    · split at e
      · rename_i hb
        subst hb
        split at e
        · cases e
        · rename_i hne
          cases e
          obtain ⟨a, vs, rfl, h1, r1⟩ := inv_tup rx
          rw [hK] at h1
          refine .inr (.inr ⟨a, vs, rfl, inv_int ry, same_seqT sm h1, fun e0 => ?_, fun p hp => ?_⟩)
          · subst e0
            exact hne (List.length_eq_zero_iff.mp r1.length)
          · have ex := Ext.alloc (o := .tup []) sm hp
            exact q _ _ _ ex (rep_tup_new upd_same .nil)
      · exact old e
  · exact old e
theorem mulA_int {a b : Int} : mulA (.int a) (.int b) = mulD (.int a) (.int b) := rfl
end
end Zr

set_option maxHeartbeats 4000000
/-! Zr: min and max of a tuple of ints. -/
namespace Zr
open PySem PySem.Spec PyProof.Rows L2
section
variable {prog : Program} {w : World} {A : Around} {E : Value → Shared → Prop} {s : Shared} {t : Addr} {its : List Value} {ns : List Int}
theorem min_tup {xs : Array (Int × Tok)} {Q : Value → Shared → Prop} (hh : A.handled = none) (ht : s.heap.IsTuple t (intItems xs)) (hne : 0 < xs.size)
    (h : ∀ v h' tk, (intItems xs)[argBest (fun i j => decide (numAt xs i < numAt xs j)) (xs.size - 1)]? = some v → (∀ b o, s.heap.get? b = some o → h'.get? b = some o) → Q v { s with heap := h', toks := tk }) :
    wpAny (model prog w) A (call (.builtin "min") [.ref t]) Q E s := by
  obtain ⟨o, ho, hc, n, hd⟩ := id ht
  have hne' : t ≠ s.heap.objs.size := Nat.ne_of_lt (Heap.lt_size ho)
  refine call_min_walk (wpAny_pyIter_tuple ht ?_)
  refine ⟨s.heap.objs.size, _, _, _, _, _, _, rfl, Walks.tuple (A := A.in1) hh s.heap.objs.size t hne' (intItems xs), ⟨⟨_, Heap.get?_push_size _ rfl, rfl, rfl⟩, ht.at fun o e => Heap.get?_push_of_some _ e⟩, fun b hb => ?_, by simpa [intItems] using hne, CmpOf.ints_lt (numAt xs) (fun _ _ => intItems_at), fun v h' tk hP hk => ?_⟩
  · rcases List.mem_cons.mp hb with rfl | hb
    · exact Heap.lt_size (Heap.get?_push_size _ rfl)
    · obtain rfl := List.mem_singleton.mp hb
      exact Heap.lt_size (Heap.get?_push_of_some _ ho)
  · exact h v h' tk (by simpa [intItems] using hP) fun b o e => hk b o (fun hb => absurd (Heap.lt_size e) ((List.mem_singleton.mp hb) ▸ Nat.lt_irrefl _)) (Heap.get?_push_of_some _ e)
theorem max_tup {xs : Array (Int × Tok)} {Q : Value → Shared → Prop} (hh : A.handled = none) (ht : s.heap.IsTuple t (intItems xs)) (hne : 0 < xs.size)
    (h : ∀ v h' tk, (intItems xs)[argBest (fun i j => decide (numAt xs i > numAt xs j)) (xs.size - 1)]? = some v → (∀ b o, s.heap.get? b = some o → h'.get? b = some o) → Q v { s with heap := h', toks := tk }) :
    wpAny (model prog w) A (call (.builtin "max") [.ref t]) Q E s := by
  obtain ⟨o, ho, hc, n, hd⟩ := id ht
  have hne' : t ≠ s.heap.objs.size := Nat.ne_of_lt (Heap.lt_size ho)
  refine call_max_walk (wpAny_pyIter_tuple ht ?_)
  refine ⟨s.heap.objs.size, _, _, _, _, _, _, rfl, Walks.tuple (A := A.in1) hh s.heap.objs.size t hne' (intItems xs), ⟨⟨_, Heap.get?_push_size _ rfl, rfl, rfl⟩, ht.at fun o e => Heap.get?_push_of_some _ e⟩, fun b hb => ?_, by simpa [intItems] using hne, CmpOf.ints_gt (numAt xs) (fun _ _ => intItems_at), fun v h' tk hP hk => ?_⟩
  · rcases List.mem_cons.mp hb with rfl | hb
    · exact Heap.lt_size (Heap.get?_push_size _ rfl)
    · obtain rfl := List.mem_singleton.mp hb
      exact Heap.lt_size (Heap.get?_push_of_some _ ho)
  · exact h v h' tk (by simpa [intItems] using hP) fun b o e => hk b o (fun hb => absurd (Heap.lt_size e) ((List.mem_singleton.mp hb) ▸ Nat.lt_irrefl _)) (Heap.get?_push_of_some _ e)
theorem min_rawT {Q : Value → Shared → Prop} (hh : A.handled = none) (hl : s.heap.IsTuple t its.toArray) (hi : IntsAre its ns) (hne : 0 < ns.length)
    (h : ∀ h' tk M t', (∀ b o, s.heap.get? b = some o → h'.get? b = some o) → M ∈ ns → (∀ a, a ∈ ns → M ≤ a) → Q (.int M t') { s with heap := h', toks := tk }) : wpAny (model prog w) A (call (.builtin "min") [.ref t]) Q E s := by
  obtain ⟨xs, e⟩ := hi.allInts.items
  have hn : numsOf (intItems xs).toList = ns := by rw [← e]; exact hi.numsOf
  rw [nums_intItems] at hn
  subst hn
  rw [e] at hl
  have hsz : 0 < xs.size := by simpa using hne
  refine min_tup hh hl hsz fun v h' tk hv hk => ?_
  obtain ⟨t, rfl⟩ := intItems_at hv
  obtain ⟨h1, h2⟩ := argBest_lt (numAt xs) (xs.size - 1)
  refine h h' tk _ t hk ?_ fun a ha => ?_
  · rw [numAt_eq]; exact PySem.getD_mem (by rw [List.length_map, Array.length_toList]; omega)
  · obtain ⟨j, hj, rfl⟩ := mem_getD ha
    rw [List.length_map, Array.length_toList] at hj
    rw [← numAt_eq]; exact h2 j (by omega)
theorem max_rawT {Q : Value → Shared → Prop} (hh : A.handled = none) (hl : s.heap.IsTuple t its.toArray) (hi : IntsAre its ns) (hne : 0 < ns.length)
    (h : ∀ h' tk M t', (∀ b o, s.heap.get? b = some o → h'.get? b = some o) → M ∈ ns → (∀ a, a ∈ ns → a ≤ M) → Q (.int M t') { s with heap := h', toks := tk }) : wpAny (model prog w) A (call (.builtin "max") [.ref t]) Q E s := by
  obtain ⟨xs, e⟩ := hi.allInts.items
  have hn : numsOf (intItems xs).toList = ns := by rw [← e]; exact hi.numsOf
  rw [nums_intItems] at hn
  subst hn
  rw [e] at hl
  have hsz : 0 < xs.size := by simpa using hne
  refine max_tup hh hl hsz fun v h' tk hv hk => ?_
  obtain ⟨t, rfl⟩ := intItems_at hv
  obtain ⟨h1, h2⟩ := argBest_gt (numAt xs) (xs.size - 1)
  refine h h' tk _ t hk ?_ fun a ha => ?_
  · rw [numAt_eq]; exact PySem.getD_mem (by rw [List.length_map, Array.length_toList]; omega)
  · obtain ⟨j, hj, rfl⟩ := mem_getD ha
    rw [List.length_map, Array.length_toList] at hj
    rw [← numAt_eq]; exact h2 j (by omega)
end
section
variable {X : Cx} {G : Cls}
def rMinT (K : PySem.W.Frag) : List V → Hp → VK → Prop := fun vs H Q => ∃ (a : Addr) (ns : List Int), vs = [V.ref a] ∧ SqT K H a (ns.map V.int) ∧ 0 < ns.length ∧ ∀ m, m ∈ ns → (∀ y, y ∈ ns → m ≤ y) → Q (.int m) H
def rMaxT (K : PySem.W.Frag) : List V → Hp → VK → Prop := fun vs H Q => ∃ (a : Addr) (ns : List Int), vs = [V.ref a] ∧ SqT K H a (ns.map V.int) ∧ 0 < ns.length ∧ ∀ m, m ∈ ns → (∀ y, y ∈ ns → y ≤ m) → Q (.int m) H
def rMinA (K : PySem.W.Frag) : List V → Hp → VK → Prop := fun vs H Q => rMin K vs H Q ∨ rMinT K vs H Q
def rMaxA (K : PySem.W.Frag) : List V → Hp → VK → Prop := fun vs H Q => rMax K vs H Q ∨ rMaxT K vs H Q
theorem cr_minA (hc : X.calm = true) : CallR X (.builtin "min") (rMinA X.K) := by
  intro pins s σ H vs us Q I r h
  rcases h with h | h
  · exact cr_min hc pins s σ H vs us Q I r h
  · obtain ⟨a, ns, rfl, hs, hne, q⟩ := h
    obtain ⟨its, rv, hl, _⟩ := I.tuple hs
    rw [Vals.ref1 r]
    exact min_rawT (I.ok.hd hc) hl rv.ints hne fun h' tk m t' hk h1 h2 => ⟨.int _, H, I.kept hk, ⟨_, rfl⟩, q m h1 h2⟩
theorem cr_maxA (hc : X.calm = true) : CallR X (.builtin "max") (rMaxA X.K) := by
  intro pins s σ H vs us Q I r h
  rcases h with h | h
  · exact cr_max hc pins s σ H vs us Q I r h
  · obtain ⟨a, ns, rfl, hs, hne, q⟩ := h
    obtain ⟨its, rv, hl, _⟩ := I.tuple hs
    rw [Vals.ref1 r]
    exact max_rawT (I.ok.hd hc) hl rv.ints hne fun h' tk m t' hk h1 h2 => ⟨.int _, H, I.kept hk, ⟨_, rfl⟩, q m h1 h2⟩
def nMinA : List D → Option D
  | [.tup ds] => nMin1 [.lst ds]
  | xs => nMin1 xs
def nMaxA : List D → Option D
  | [.tup ds] => nMax1 [.lst ds]
  | xs => nMax1 xs
theorem r_minA (hK : G.K = X.K) : RnD G nMinA (rMinA X.K) := fun S H xs z vs Q sm r e q => by
  unfold nMinA at e
  split at e
  · rename_i ds
    unfold nMin1 at e
    simp only at e
    split at e
    · rename_i ns e1
      split at e
      · rename_i m e2
        cases e
        obtain ⟨v, rfl, r1⟩ := repL1 r
        obtain ⟨a, us, rfl, h1, r2⟩ := inv_tup r1
        have eu := asInts_rep e1 r2
        subst eu
        rw [hK] at h1
        refine .inr ⟨a, ns, rfl, same_seqT sm h1, List.length_pos_of_mem (List.mem_of_find?_eq_some e2), fun m' k1 k2 => ?_⟩
        rw [leastD_eq e2 k1 k2]
        exact q _ S H (.refl sm) rep_int
      · cases e
    · cases e
  · exact .inl (r_min1 hK S H _ z vs Q sm r e q)
theorem r_maxA (hK : G.K = X.K) : RnD G nMaxA (rMaxA X.K) := fun S H xs z vs Q sm r e q => by
  unfold nMaxA at e
  split at e
  · rename_i ds
    unfold nMax1 at e
    simp only at e
    split at e
    · rename_i ns e1
      split at e
      · rename_i m e2
        cases e
        obtain ⟨v, rfl, r1⟩ := repL1 r
        obtain ⟨a, us, rfl, h1, r2⟩ := inv_tup r1
        have eu := asInts_rep e1 r2
        subst eu
        rw [hK] at h1
        refine .inr ⟨a, ns, rfl, same_seqT sm h1, List.length_pos_of_mem (List.mem_of_find?_eq_some e2), fun m' k1 k2 => ?_⟩
        rw [mostD_eq e2 k1 k2]
        exact q _ S H (.refl sm) rep_int
      · cases e
    · cases e
  · exact .inl (r_max1 hK S H _ z vs Q sm r e q)
end
end Zr

/-! Zr: more about loops and lists; signs, spots: no program in sight. -/
namespace Zr
open PySem L2

theorem cl_sel {own : List Nat} {t : DG} {c : DT} {f : DE} {d : Ev} (g : D → Option D) (ho : okO d own = true) : ∀ {xs : List D},
    (∀ x ∈ xs, ∃ d1 dc, t x (wp d own) = some d1 ∧ ((g x = none ∧ c d1 = some (false, dc) ∧ okO dc own = true ∧ bk own d dc = d) ∨ ∃ y d2, g x = some y ∧ c d1 = some (true, dc) ∧ f dc = some (y, d2) ∧ okO d2 own = true ∧ bk own d d2 = d)) →
    cl own t c f xs d = some (xs.filterMap g, d)
  | [], _ => rfl
  | x :: xs, step => by
    obtain ⟨d1, dc, e1, e2⟩ := step x List.mem_cons_self
    have ih := cl_sel (xs := xs) g ho fun y hy => step y (List.mem_cons_of_mem _ hy)
    unfold cl
    rw [if_pos ho, e1]
    rcases e2 with ⟨h1, h2, h3, h4⟩ | ⟨y, d2, h1, h2, h3, h4, h5⟩
    · simp only [h2, h3, h4, if_true, List.filterMap_cons, h1]
      exact ih
    · simp only [h2, h3, h4, h5, if_true, List.filterMap_cons, h1, ih]
theorem asBls_true : ∀ {xs : List D}, asBls (xs.map fun _ => D.bl true) = some (xs.map fun _ => true)
  | [] => rfl
  | _ :: xs => by
    show (match asBls (xs.map fun _ => D.bl true) with | some t => some (true :: t) | none => none) = _
    rw [asBls_true]; rfl
theorem nAll_true {xs : List D} : nAll [.lst (xs.map fun _ => D.bl true)] = some (.bl true) := by
  show (match asBls (xs.map fun _ => D.bl true) with | some bs => some (D.bl (bs.all id)) | none => none) = _
  rw [asBls_true]
  simp
/-! ### signs -/
def bs (xs : List Int) : List Bool := (xs.filter (fun x => decide (x ≠ 0))).map fun x => decide (0 < x)
def dif : List Bool → Nat
  | a :: b :: r => (if a = b then 0 else 1) + dif (b :: r)
  | _ => 0
def dfs : List Int → List Int
  | a :: b :: r => (b - a) :: dfs (b :: r)
  | _ => []
theorem bs_nil : bs [] = [] := rfl
theorem bs_cons {x : Int} {xs : List Int} : bs (x :: xs) = if x = 0 then bs xs else decide (0 < x) :: bs xs := by
  unfold bs
  by_cases h : x = 0
  · simp [h]
  · simp [h]
theorem bs_append : ∀ {xs ys : List Int}, bs (xs ++ ys) = bs xs ++ bs ys
  | [], _ => rfl
  | x :: xs, ys => by
    rw [List.cons_append, bs_cons, bs_cons, bs_append]
    split <;> simp
theorem bs_zeros : ∀ {k : Nat}, bs (List.replicate k 0) = []
  | 0 => rfl
  | k + 1 => by rw [List.replicate_succ, bs_cons, if_pos rfl, bs_zeros]
theorem bs_map {f : Int → Int} (h : ∀ x, (f x = 0 ↔ x = 0) ∧ (0 < f x ↔ 0 < x)) : ∀ {xs : List Int}, bs (xs.map f) = bs xs
  | [] => rfl
  | x :: xs => by
    rw [List.map_cons, bs_cons, bs_cons, bs_map h]
    obtain ⟨h1, h2⟩ := h x
    by_cases e : x = 0
    · rw [if_pos e, if_pos (h1.mpr e)]
    · rw [if_neg e, if_neg (fun q => e (h1.mp q))]
      simp [h2]
theorem bs_mapn {f : Int → Int} (h : ∀ x, (f x = 0 ↔ x = 0) ∧ (0 < f x ↔ x < 0)) : ∀ {xs : List Int}, bs (xs.map f) = (bs xs).map (!·)
  | [] => rfl
  | x :: xs => by
    rw [List.map_cons, bs_cons, bs_cons, bs_mapn h]
    obtain ⟨h1, h2⟩ := h x
    by_cases e : x = 0
    · rw [if_pos e, if_pos (h1.mpr e)]
    · rw [if_neg e, if_neg (fun q => e (h1.mp q)), List.map_cons]
      by_cases q : x < 0
      · simp [h2, q, show ¬ 0 < x by omega]
      · simp [h2, q, show 0 < x by omega]
theorem dif_not : ∀ {l : List Bool}, dif (l.map (!·)) = dif l
  | [] => rfl
  | [_] => rfl
  | a :: b :: r => by
    show (if (!a) = (!b) then 0 else 1) + dif ((b :: r).map (!·)) = _
    rw [dif_not (l := b :: r)]
    show _ = (if a = b then 0 else 1) + dif (b :: r)
    cases a <;> cases b <;> rfl
theorem dif_snoc : ∀ {l : List Bool} {a b : Bool}, dif (l ++ [a, b]) = dif (l ++ [a]) + (if a = b then 0 else 1)
  | [], a, b => by show (if a = b then 0 else 1) + 0 = 0 + _; omega
  | [x], a, b => by
    show (if x = a then 0 else 1) + ((if a = b then 0 else 1) + 0) = (if x = a then 0 else 1) + 0 + _
    omega
  | x :: y :: r, a, b => by
    have ih := dif_snoc (l := y :: r) (a := a) (b := b)
    show (if x = y then 0 else 1) + dif ((y :: r) ++ [a, b]) = (if x = y then 0 else 1) + dif ((y :: r) ++ [a]) + _
    omega
theorem dif_rev : ∀ {l : List Bool}, dif l.reverse = dif l
  | [] => rfl
  | [_] => rfl
  | a :: b :: r => by
    have ih := dif_rev (l := b :: r)
    have e : (a :: b :: r).reverse = r.reverse ++ [b, a] := by simp
    have e2 : (b :: r).reverse = r.reverse ++ [b] := by simp
    rw [e, dif_snoc, ← e2, ih]
    show _ = (if a = b then 0 else 1) + dif (b :: r)
    cases a <;> cases b <;> simp <;> omega
theorem bs_rev {xs : List Int} : bs xs.reverse = (bs xs).reverse := by unfold bs; rw [List.filter_reverse, List.map_reverse]
theorem dfs_len : ∀ {xs : List Int}, (dfs xs).length = xs.length - 1
  | [] => rfl
  | [_] => rfl
  | a :: b :: r => by
    show (dfs (b :: r)).length + 1 = _
    rw [dfs_len]; simp
theorem dfs_map (c : Int) : ∀ {xs : List Int}, dfs (xs.map (c * ·)) = (dfs xs).map (c * ·)
  | [] => rfl
  | [_] => rfl
  | a :: b :: r => by
    show (c * b - c * a) :: dfs ((b :: r).map (c * ·)) = (c * (b - a)) :: (dfs (b :: r)).map (c * ·)
    rw [dfs_map c, Int.mul_sub]
theorem dfs_zeros : ∀ {k : Nat} {ys : List Int}, bs (dfs (List.replicate k 0 ++ 0 :: ys)) = bs (dfs (0 :: ys))
  | 0, _ => rfl
  | 1, ys => by
    show bs ((0 - 0) :: dfs (0 :: ys)) = _
    rw [bs_cons, if_pos (by decide)]
  | k + 2, ys => by
    have ih := dfs_zeros (k := k + 1) (ys := ys)
    show bs ((0 - 0) :: dfs (List.replicate (k + 1) 0 ++ 0 :: ys)) = _
    rw [bs_cons, if_pos (by decide)]
    exact ih
theorem dfs_snoc0 : ∀ {xs : List Int} {k : Nat}, bs (dfs (xs ++ 0 :: List.replicate k 0)) = bs (dfs (xs ++ [0]))
  | [], 0 => rfl
  | [], k + 1 => by
    have ih := dfs_snoc0 (xs := []) (k := k)
    show bs ((0 - 0) :: dfs (0 :: List.replicate k 0)) = _
    rw [bs_cons, if_pos (by decide)]
    exact ih
  | [a], k => by
    have ih := dfs_snoc0 (xs := []) (k := k)
    show bs ((0 - a) :: dfs (0 :: List.replicate k 0)) = bs ((0 - a) :: dfs [0])
    rw [bs_cons, bs_cons]
    rw [show bs (dfs (0 :: List.replicate k 0)) = bs (dfs [0]) from ih]
  | a :: b :: r, k => by
    have ih := dfs_snoc0 (xs := b :: r) (k := k)
    show bs ((b - a) :: dfs ((b :: r) ++ 0 :: List.replicate k 0)) = bs ((b - a) :: dfs ((b :: r) ++ [0]))
    rw [bs_cons, bs_cons, ih]
/-- xs is ys times c, with noughts about it -/
def Scaled (xs ys : List Int) : Prop := ∃ (c : Int) (k l : Nat), 0 < c ∧ xs = List.replicate k 0 ++ (ys.map (c * ·) ++ List.replicate l 0)
theorem Scaled.bs_eq {xs ys : List Int} (h : Scaled xs ys) : bs xs = bs ys := by
  obtain ⟨c, k, l, hc, rfl⟩ := h
  rw [bs_append, bs_append, bs_zeros, bs_zeros, List.nil_append, List.append_nil]
  exact bs_map fun x => ⟨⟨fun q => (Int.mul_eq_zero.mp q).resolve_left (by omega), fun q => by rw [q, Int.mul_zero]⟩, ⟨fun q => Int.pos_of_mul_pos_right q (by omega) , fun q => Int.mul_pos hc q⟩⟩
theorem Scaled.pk_eq {xs ys : List Int} (h : Scaled xs ys) : bs (dfs (0 :: (xs ++ [0]))) = bs (dfs (0 :: (ys ++ [0]))) := by
  obtain ⟨c, k, l, hc, rfl⟩ := h
  have e1 : 0 :: (List.replicate k 0 ++ (ys.map (c * ·) ++ List.replicate l 0) ++ [0]) = List.replicate k 0 ++ 0 :: (ys.map (c * ·) ++ 0 :: List.replicate l (0 : Int)) := by
    have z : ∀ n, List.replicate n (0 : Int) ++ [0] = 0 :: List.replicate n 0 := fun n => by rw [← List.replicate_succ', List.replicate_succ]
    have z2 : ∀ n (t : List Int), 0 :: (List.replicate n (0 : Int) ++ t) = List.replicate n 0 ++ 0 :: t := fun n t => by
      rw [show (0 : Int) :: (List.replicate n (0 : Int) ++ t) = (0 :: List.replicate n 0) ++ t from rfl, ← z n, List.append_assoc]; rfl
    rw [List.append_assoc, List.append_assoc, z l, z2]
  rw [e1, dfs_zeros, show (0 : Int) :: (ys.map (c * ·) ++ 0 :: List.replicate l (0 : Int)) = (0 :: ys.map (c * ·)) ++ 0 :: List.replicate l 0 from rfl, dfs_snoc0]
  rw [show (0 :: ys.map (c * ·)) ++ [0] = (0 :: (ys ++ [0])).map (c * ·) by simp, dfs_map]
  exact bs_map fun x => ⟨⟨fun q => (Int.mul_eq_zero.mp q).resolve_left (by omega), fun q => by rw [q, Int.mul_zero]⟩, ⟨fun q => Int.pos_of_mul_pos_right q (by omega), fun q => Int.mul_pos hc q⟩⟩
/-! ### where something stands -/
def spots : Nat → List Int → List Int
  | _, [] => []
  | n, x :: r => if x = 0 then spots (n + 1) r else (n : Int) :: spots (n + 1) r
theorem spots_nil : ∀ {xs : List Int} {n : Nat}, spots n xs = [] → xs = List.replicate xs.length 0
  | [], _, _ => rfl
  | x :: r, n, h => by
    unfold spots at h
    split at h
    · rename_i e
      subst e
      rw [List.length_cons, List.replicate_succ, ← spots_nil h]
    · cases h
theorem spots_dec : ∀ {xs : List Int} {n : Nat}, spots n xs ≠ [] → ∃ (k l : Nat) (mid : List Int), xs = List.replicate k 0 ++ (mid ++ List.replicate l 0) ∧ mid ≠ [] ∧ (spots n xs)[0]? = some ((n : Int) + k) ∧ (spots n xs)[(spots n xs).length - 1]? = some ((n : Int) + k + mid.length - 1)
  | [], _, h => absurd rfl h
  | x :: r, n, h => by
    unfold spots at h ⊢
    split at h
    · rename_i e
      subst e
      obtain ⟨k, l, mid, e1, e2, e3, e4⟩ := spots_dec h
      refine ⟨k + 1, l, mid, by rw [List.replicate_succ, List.cons_append, ← e1], e2, ?_, ?_⟩
      · rw [if_pos rfl, e3]; congr 1; omega
      · rw [if_pos rfl, e4]; congr 1; omega
    · rename_i e
      rw [if_neg e]
      by_cases hn : spots (n + 1) r = []
      · refine ⟨0, r.length, [x], ?_, by simp, by simp, by simp [hn]⟩
        rw [← spots_nil hn]; rfl
      · obtain ⟨k, l, mid, e1, e2, e3, e4⟩ := spots_dec hn
        refine ⟨0, l, x :: (List.replicate k 0 ++ mid), ?_, by simp, by simp, ?_⟩
        · rw [e1]; simp
        · have hl : 0 < (spots (n + 1) r).length := List.length_pos_iff.mpr hn
          rw [List.length_cons, show (spots (n + 1) r).length + 1 - 1 = ((spots (n + 1) r).length - 1) + 1 by omega, List.getElem?_cons_succ, e4]
          congr 1
          simp
          omega
theorem spots_en : ∀ {xs : List Int} {n : Nat} {g : D → Option D}, (∀ i x, g (.tup [.int i, .int x]) = if x = 0 then none else some (.int i)) → (enD n (xs.map D.int)).filterMap g = (spots n xs).map D.int
  | [], _, _, _ => rfl
  | x :: r, n, g, hg => by
    show (D.tup [.int (n : Nat), .int x] :: enD (n + 1) (r.map D.int)).filterMap g = _
    rw [List.filterMap_cons, hg]
    unfold spots
    by_cases e : x = 0
    · rw [if_pos e, if_pos e]; exact spots_en hg
    · rw [if_neg e, if_neg e]; simp [spots_en hg]
theorem cut_mid {α : Type} {a b c : List α} {i j : Int} (hi : i = a.length) (hj : j = (a.length : Int) + b.length) : cutL (a ++ (b ++ c)) (some i) (some j) = b := by
  unfold cutL
  have h1 : HT.sIx (a ++ (b ++ c)).length 0 (some i) = a.length := by
    rw [hi, HT.sIx_nat]; simp
  have h2 : HT.sIx (a ++ (b ++ c)).length (a ++ (b ++ c)).length (some j) = a.length + b.length := by
    rw [hj, show ((a.length : Int) + b.length) = ((a.length + b.length : Nat) : Int) by omega, HT.sIx_nat]; simp <;> omega
  rw [h1, h2, List.drop_left', show a.length + b.length - a.length = b.length by omega, List.take_left']
  · rfl
  · rfl
/-! ### the greatest divisor -/
def gl (a : Int) (xs : List Int) : Int := xs.foldl (fun a x => ((Int.gcd a x : Nat) : Int)) a
theorem gl_dvd : ∀ {xs : List Int} {a : Int}, gl a xs ∣ a ∧ ∀ x ∈ xs, gl a xs ∣ x
  | [], a => ⟨Int.dvd_refl _, fun x h => nomatch h⟩
  | y :: xs, a => by
    obtain ⟨h1, h2⟩ := gl_dvd (xs := xs) (a := ((Int.gcd a y : Nat) : Int))
    refine ⟨Int.dvd_trans h1 (Int.gcd_dvd_left ..), fun x hx => ?_⟩
    rcases List.mem_cons.mp hx with rfl | hx
    · exact Int.dvd_trans h1 (Int.gcd_dvd_right ..)
    · exact h2 x hx
theorem gl_nn : ∀ {xs : List Int} {a : Int}, 0 ≤ a → 0 ≤ gl a xs
  | [], a, h => h
  | y :: xs, a, _ => gl_nn (xs := xs) (Int.natCast_nonneg _)
end Zr
namespace Zr
open PySem L2
theorem gcd_step {a b : Int} : ((Int.gcd b (a % b) : Nat) : Int) = ((Int.gcd a b : Nat) : Int) := by
  have h : a = b * (a / b) + a % b := (Int.mul_ediv_add_emod a b).symm
  have d1 : ((Int.gcd b (a % b) : Nat) : Int) ∣ b := Int.gcd_dvd_left ..
  have d2 : ((Int.gcd b (a % b) : Nat) : Int) ∣ a % b := Int.gcd_dvd_right ..
  have d3 : ((Int.gcd a b : Nat) : Int) ∣ a := Int.gcd_dvd_left ..
  have d4 : ((Int.gcd a b : Nat) : Int) ∣ b := Int.gcd_dvd_right ..
  have d5 : ((Int.gcd b (a % b) : Nat) : Int) ∣ a := by
    have := Int.dvd_add (Int.dvd_trans d1 (Int.dvd_mul_right b (a / b))) d2
    rw [← h] at this
    exact this
  have d6 : ((Int.gcd a b : Nat) : Int) ∣ a % b := by
    rw [show a % b = a - b * (a / b) by omega]
    exact Int.dvd_sub d3 (Int.dvd_trans d4 (Int.dvd_mul_right ..))
  have e1 : ((Int.gcd b (a % b) : Nat) : Int) ∣ ((Int.gcd a b : Nat) : Int) := Int.dvd_coe_gcd d5 d1
  have e2 : ((Int.gcd a b : Nat) : Int) ∣ ((Int.gcd b (a % b) : Nat) : Int) := Int.dvd_coe_gcd d4 d6
  exact congrArg _ (Nat.dvd_antisymm (Int.natCast_dvd_natCast.mp e1) (Int.natCast_dvd_natCast.mp e2))
/-- a list or a tuple of ints -/
def sqD (b : Bool) (vs : List Int) : D := if b then .tup (vs.map D.int) else .lst (vs.map D.int)
theorem itD_sq (b : Bool) (vs : List Int) : itD (sqD b vs) = some (vs.map D.int) := by cases b <;> rfl
end Zr
namespace Zr
open PySem L2
theorem neD_bl (a b : Bool) : neD (.bl a) (.bl b) = some (.bl (!decide (a = b))) := by
  by_cases h : a = b
  · subst h
    rw [neD_same (b := true) rfl, decide_eq_true rfl]; rfl
  · rw [neD_ne (b := true) rfl rfl (fun q => h (by injection q)), decide_eq_false h]; rfl
theorem sel_bs {g : D → Option D} (hg : ∀ x, g (.int x) = if x = 0 then none else some (.bl (decide (0 < x)))) : ∀ {xs : List Int}, (xs.map D.int).filterMap g = (bs xs).map D.bl
  | [] => rfl
  | x :: xs => by
    rw [List.map_cons, List.filterMap_cons, hg, bs_cons]
    by_cases h : x = 0
    · rw [if_pos h, if_pos h]; exact sel_bs hg
    · rw [if_neg h, if_neg h]; simp [sel_bs hg]
theorem sel_dif {g : D → Option D} (hg : ∀ a b, g (.tup [.bl a, .bl b]) = if a = b then none else some (.int 1)) : ∀ {l : List Bool}, (zpD (l.map D.bl) (l.tail.map D.bl)).filterMap g = List.replicate (dif l) (.int 1)
  | [] => rfl
  | [_] => rfl
  | a :: b :: r => by
    show (D.tup [.bl a, .bl b] :: zpD ((b :: r).map D.bl) (((b :: r).tail).map D.bl)).filterMap g = _
    rw [List.filterMap_cons, hg, sel_dif hg (l := b :: r)]
    show _ = List.replicate ((if a = b then 0 else 1) + dif (b :: r)) _
    by_cases h : a = b
    · rw [if_pos h, if_pos h, Nat.zero_add]
    · rw [if_neg h, if_neg h, Nat.add_comm 1, List.replicate_succ]
theorem zp_dfs {g : D → D} (hg : ∀ a b : Int, g (.tup [.int a, .int b]) = .int (b - a)) : ∀ {l : List Int}, (zpD (l.map D.int) (l.tail.map D.int)).map g = (dfs l).map D.int
  | [] => rfl
  | [_] => rfl
  | a :: b :: r => by
    show (D.tup [.int a, .int b] :: zpD ((b :: r).map D.int) (((b :: r).tail).map D.int)).map g = _
    rw [List.map_cons, hg, zp_dfs hg (l := b :: r)]
    rfl
theorem cut_tail {α : Type} {l : List α} : cutL l (some 1) none = l.tail := by
  unfold cutL
  rw [show HT.sIx l.length 0 (some 1) = min 1 l.length from HT.sIx_nat _ _ 1, HT.sIx_none]
  cases l with
  | nil => rfl
  | cons a r => simp
theorem dfs_get : ∀ {l : List Int} {i : Nat}, i + 1 < l.length → (dfs l)[i]? = some (l.getD (i + 1) 0 - l.getD i 0)
  | [], i, h => absurd h (by simp)
  | [_], i, h => by simp at h
  | a :: b :: r, 0, _ => rfl
  | a :: b :: r, i + 1, h => by
    show (dfs (b :: r))[i]? = _
    rw [dfs_get (by simpa using h)]
    rfl
theorem zpD_mem {xs ys : List D} {z : D} (h : z ∈ zpD xs ys) : ∃ x y, x ∈ xs ∧ y ∈ ys ∧ z = .tup [x, y] := by
  obtain ⟨i, hi⟩ := List.getElem?_of_mem h
  obtain ⟨x, y, h1, h2, h3⟩ := zpD_get hi
  exact ⟨x, y, List.mem_of_getElem? h1, List.mem_of_getElem? h2, h3⟩
def dl2 (last : Int) (xs : List Int) : Nat := dif ((if last = 0 then [] else [decide (0 < last)]) ++ bs xs)
theorem dl2_zero {last : Int} {xs : List Int} : dl2 last (0 :: xs) = dl2 last xs := by unfold dl2; rw [bs_cons, if_pos rfl]
theorem dl2_first {x : Int} {xs : List Int} (h : x ≠ 0) : dl2 0 (x :: xs) = dl2 x xs := by unfold dl2; rw [bs_cons, if_neg h, if_pos rfl, if_neg h]; rfl
theorem dl2_step {last x : Int} {xs : List Int} (h : x ≠ 0) (hl : last ≠ 0) : dl2 last (x :: xs) = (if x * last < 0 then 1 else 0) + dl2 x xs := by
  unfold dl2
  rw [bs_cons, if_neg h, if_neg hl, if_neg h]
  show (if decide (0 < last) = decide (0 < x) then 0 else 1) + dif ([decide (0 < x)] ++ bs xs) = _
  congr 1
  by_cases a : 0 < last <;> by_cases b : 0 < x
  · have := Int.mul_pos b a
    rw [if_pos (by simp [a, b]), if_neg (by omega)]
  · have := Int.mul_neg_of_neg_of_pos (show x < 0 by omega) a
    rw [if_neg (by simp [a, b]), if_pos (by omega)]
  · have := Int.mul_neg_of_pos_of_neg b (show last < 0 by omega)
    rw [if_neg (by simp [a, b]), if_pos (by omega)]
  · have := Int.mul_pos_of_neg_of_neg (show x < 0 by omega) (show last < 0 by omega)
    rw [if_pos (by simp [a, b]), if_neg (by omega)]
end Zr
namespace Zr
open PySem L2
theorem cl_intsI {own : List Nat} {t : DG} {f : DE} (I : Nat → Ev → Prop) (P : Int → Prop) (M : Nat) : ∀ {xs : List D} {n : Nat} {d : Ev},
    (∀ x ∈ xs, ∀ n d, n < M → I n d → okO d own = true ∧ ∃ d1 v d2, t x (wp d own) = some d1 ∧ f d1 = some (.int v, d2) ∧ okO d2 own = true ∧ P v ∧ I (n + 1) (bk own d d2)) → n + xs.length ≤ M → I n d →
    ∃ (vs : List Int) (d' : Ev), cl own t yes f xs d = some (vs.map D.int, d') ∧ I (n + xs.length) d' ∧ vs.length = xs.length ∧ ∀ v ∈ vs, P v
  | [], n, d, _, _, h => ⟨[], d, rfl, h, rfl, fun v e => nomatch e⟩
  | x :: xs, n, d, step, hM, h => by
    rw [List.length_cons] at hM
    obtain ⟨o1, d1, v, d2, e1, e2, o2, r, h2⟩ := step x List.mem_cons_self n d (by omega) h
    obtain ⟨vs, d', e3, h3, hl, hr⟩ := cl_intsI I P M (xs := xs) (fun y hy => step y (List.mem_cons_of_mem _ hy)) (by omega) h2
    refine ⟨v :: vs, d', ?_, by rw [List.length_cons, show n + (xs.length + 1) = n + 1 + xs.length by omega]; exact h3, by simp [hl], fun w hw => ?_⟩
    · unfold cl yes
      simp only [o1, e1, e2, o2, if_true]
      unfold yes at e3
      rw [e3]; rfl
    · rcases List.mem_cons.mp hw with rfl | hw
      · exact r
      · exact hr w hw
theorem fo_invK {t : DG} {B : DS} (I : Nat → Ev → Prop) (k M : Nat) : ∀ {xs : List D} {n : Nat} {d : Ev}, (∀ x ∈ xs, ∀ n d, n + k ≤ M → I n d → ∃ d1 d2, t x d = some d1 ∧ B d1 = some (.nx, d2) ∧ I (n + k) d2) → n + k * xs.length ≤ M → I n d → ∃ d', fo t B xs d = some (.nx, d') ∧ I (n + k * xs.length) d'
  | [], n, d, _, _, h => ⟨d, rfl, h⟩
  | x :: xs, n, d, step, hM, h => by
    rw [List.length_cons, Nat.mul_add, Nat.mul_one] at hM ⊢
    obtain ⟨d1, d2, e1, e2, h2⟩ := step x List.mem_cons_self n d (by omega) h
    obtain ⟨d', e3, h3⟩ := fo_invK I k M (xs := xs) (fun y hy => step y (List.mem_cons_of_mem _ hy)) (by omega) h2
    exact ⟨d', by unfold fo; simp only [e1, e2]; exact e3, by rw [show n + (k * xs.length + k) = n + k + k * xs.length by omega]; exact h3⟩
end Zr

/-! Zr: plain laws of mixes, rows, walls, values. -/
namespace Zr
/-- the sum of count times value, from a place on -/
def ev : List Int → Int → (Int → Int) → Int → Int
  | [], _, _, _ => 0
  | a :: c, s, v, x => a * v (x + s) + ev c (s + 1) v x
theorem ev_nil {s x : Int} {v : Int → Int} : ev [] s v x = 0 := rfl
theorem ev_cons {a s x : Int} {c : List Int} {v : Int → Int} : ev (a :: c) s v x = a * v (x + s) + ev c (s + 1) v x := rfl
theorem ev_congr {v w : Int → Int} : ∀ {c : List Int} {s x : Int}, (∀ j : Int, 0 ≤ j → j < c.length → v (x + s + j) = w (x + s + j)) → ev c s v x = ev c s w x
  | [], _, _, _ => rfl
  | a :: c, s, x, h => by
    rw [ev_cons, ev_cons]
    have h0 := h 0 (by omega) (by simp)
    rw [show x + s + 0 = x + s by omega] at h0
    rw [h0, ev_congr (v := v) (w := w) (c := c) fun j j0 j1 => by
      have := h (j + 1) (by omega) (by simp; omega)
      rw [show x + (s + 1) + j = x + s + (j + 1) by omega]
      exact this]
theorem ev_append {v : Int → Int} : ∀ {c e : List Int} {s x : Int}, ev (c ++ e) s v x = ev c s v x + ev e (s + c.length) v x
  | [], e, s, x => by simp [ev_nil]
  | a :: c, e, s, x => by
    rw [List.cons_append, ev_cons, ev_cons, ev_append (c := c), show s + 1 + (c.length : Int) = s + ((a :: c).length : Nat) by simp; omega]
    omega
theorem ev_zeros {v : Int → Int} : ∀ {k : Nat} {s x : Int}, ev (List.replicate k 0) s v x = 0
  | 0, _, _ => rfl
  | k + 1, s, x => by
    rw [List.replicate_succ, ev_cons, ev_zeros (k := k)]; omega
theorem ev_map {v : Int → Int} {g : Int} : ∀ {c : List Int} {s x : Int}, ev (c.map (g * ·)) s v x = g * ev c s v x
  | [], _, _ => by simp [ev_nil]
  | a :: c, s, x => by
    rw [List.map_cons, ev_cons, ev_cons, ev_map (c := c)]
    grind
theorem ev_mul {v : Int → Int} {g : Int} : ∀ {c : List Int} {s x : Int}, ev c s (fun y => g * v y) x = g * ev c s v x
  | [], _, _ => by simp [ev_nil]
  | a :: c, s, x => by
    rw [ev_cons, ev_cons, ev_mul (c := c)]
    grind
theorem ev_add {v w : Int → Int} : ∀ {c : List Int} {s x : Int}, ev c s (fun y => v y + w y) x = ev c s v x + ev c s w x
  | [], _, _ => by simp [ev_nil]
  | a :: c, s, x => by
    rw [ev_cons, ev_cons, ev_cons, ev_add (c := c)]
    grind
theorem ev_zero {c : List Int} {s x : Int} : ev c s (fun _ => 0) x = 0 := by
  have := @ev_mul (fun _ => 0) 0 c s x
  simpa using this
/-- the values moved -/
theorem ev_shift {v : Int → Int} {k : Int} : ∀ {c : List Int} {s x : Int}, ev c s (fun y => v (y + k)) x = ev c s v (x + k)
  | [], _, _ => rfl
  | a :: c, s, x => by
    rw [ev_cons, ev_cons, ev_shift (c := c)]
    show a * v (x + s + k) + _ = _
    rw [show x + s + k = x + k + s by omega]
theorem ev_start {v : Int → Int} {k : Int} : ∀ {c : List Int} {s x : Int}, ev c (s + k) v x = ev c s v (x + k)
  | [], _, _ => rfl
  | a :: c, s, x => by
    rw [ev_cons, ev_cons, show s + k + 1 = s + 1 + k by omega, ev_start (c := c), show x + (s + k) = x + k + s by omega]
/-- the values turned about -/
theorem ev_turn {v : Int → Int} {r : Int} : ∀ {c : List Int} {s x : Int}, ev c s (fun y => v (r - y)) x = ev c.reverse (1 - s - c.length) v (r - x)
  | [], _, _ => rfl
  | a :: c, s, x => by
    rw [List.reverse_cons, ev_append, ev_cons, ev_cons, ev_nil, ev_turn (c := c), List.length_reverse, List.length_cons]
    rw [show (1 : Int) - (s + 1) - c.length = 1 - s - ((c.length + 1 : Nat) : Int) by omega]
    show a * v (r - (x + s)) + _ = _
    rw [show r - (x + s) = r - x + (1 - s - ((c.length + 1 : Nat) : Int) + c.length) by omega]
    omega
/-- one behind another, in each order -/
theorem ev_comm {v : Int → Int} : ∀ {c e : List Int} {s t x : Int}, ev c s (fun y => ev e t v y) x = ev e t (fun y => ev c s v y) x
  | [], e, s, t, x => by
    rw [ev_nil]
    exact ev_zero.symm
  | a :: c, e, s, t, x => by
    have h : ∀ y, ev (a :: c) s v y = a * v (y + s) + ev c (s + 1) v y := fun y => rfl
    have h2 : ev (a :: c) s (fun y => ev e t v y) x = a * ev e t v (x + s) + ev c (s + 1) (fun y => ev e t v y) x := rfl
    rw [h2, ev_comm (c := c)]
    simp only [h]
    rw [ev_add (v := fun y => a * v (y + s)), ev_mul (v := fun y => v (y + s)), ev_shift]
/-! products of lists of counts -/
def gz (b : List Int) (k : Int) : Int := if 0 ≤ k then b.getD k.toNat 0 else 0
theorem gz_neg {b : List Int} {k : Int} (h : k < 0) : gz b k = 0 := by unfold gz; rw [if_neg (by omega)]
theorem gz_big {b : List Int} {k : Int} (h : b.length ≤ k) : gz b k = 0 := by
  unfold gz
  rw [if_pos (by omega), List.getD_eq_getElem?_getD, List.getElem?_eq_none (by omega)]; rfl
theorem gz_nil {k : Int} : gz [] k = 0 := by
  by_cases h : k < 0
  · exact gz_neg h
  · exact gz_big (by simp; omega)
theorem gz_zero {a : Int} {b : List Int} : gz (a :: b) 0 = a := rfl
theorem gz_succ {a : Int} {b : List Int} {k : Int} (h : k ≠ 0) : gz (a :: b) k = gz b (k - 1) := by
  by_cases h0 : k < 0
  · rw [gz_neg h0, gz_neg (by omega)]
  · unfold gz
    rw [if_pos (by omega), if_pos (by omega), show k.toNat = (k - 1).toNat + 1 by omega, List.getD_cons_succ]
/-- count_behind -/
def cb : List Int → List Int → Int → Int
  | [], _, _ => 0
  | a :: c, b, k => a * gz b k + cb c b (k - 1)
theorem cb_neg : ∀ {c b : List Int} {k : Int}, k < 0 → cb c b k = 0
  | [], _, _, _ => rfl
  | a :: c, b, k, h => by
    unfold cb
    rw [gz_neg h, cb_neg (c := c) (by omega)]; omega
/-- the list of the first n of them -/
def tab (f : Int → Int) : Nat → Int → List Int
  | 0, _ => []
  | n + 1, k => f k :: tab f n (k + 1)
theorem tab_len {f : Int → Int} : ∀ {n : Nat} {k : Int}, (tab f n k).length = n
  | 0, _ => rfl
  | n + 1, k => by unfold tab; simp [tab_len]
theorem tab_get {f : Int → Int} : ∀ {n : Nat} {k : Int} {i : Nat}, i < n → (tab f n k)[i]? = some (f (k + i))
  | n + 1, k, 0, _ => by unfold tab; simp
  | n + 1, k, i + 1, h => by
    unfold tab
    rw [List.getElem?_cons_succ, tab_get (by omega), show k + 1 + (i : Int) = k + ((i + 1 : Nat) : Int) by omega]
theorem tab_eq {f : Int → Int} : ∀ {n : Nat} {k : Int}, tab f n k = (List.range n).map fun i => f (k + (i : Nat))
  | 0, _ => rfl
  | n + 1, k => by
    unfold tab
    rw [tab_eq, List.range_succ_eq_map, List.map_cons, List.map_map]
    congr 1
    · simp
    · exact List.map_congr_left fun i _ => by
        show f _ = f _
        rw [show k + 1 + (i : Int) = k + ((i + 1 : Nat) : Int) by omega]
theorem tab_congr {f g : Int → Int} : ∀ {n : Nat} {k : Int}, (∀ j, k ≤ j → j < k + n → f j = g j) → tab f n k = tab g n k
  | 0, _, _ => rfl
  | n + 1, k, h => by
    unfold tab
    rw [h k (by omega) (by omega), tab_congr fun j h1 h2 => h j (by omega) (by omega)]
theorem tab_mem {f : Int → Int} : ∀ {n : Nat} {k y : Int}, y ∈ tab f n k → ∃ j, k ≤ j ∧ j < k + n ∧ y = f j
  | 0, _, _, h => nomatch h
  | n + 1, k, y, h => by
    unfold tab at h
    rcases List.mem_cons.mp h with rfl | h
    · exact ⟨k, by omega, by omega, rfl⟩
    · obtain ⟨j, h1, h2, h3⟩ := tab_mem h
      exact ⟨j, by omega, by omega, h3⟩
/-- sums of f over k .. k + n - 1 -/
def su (f : Int → Int) : Nat → Int → Int
  | 0, _ => 0
  | n + 1, k => f k + su f n (k + 1)
theorem su_zer {f : Int → Int} {k : Int} : su f 0 k = 0 := rfl
theorem su_suc {f : Int → Int} {n : Nat} {k : Int} : su f (n + 1) k = f k + su f n (k + 1) := rfl
theorem ev_su {f v : Int → Int} : ∀ {n : Nat} {k s x : Int}, ev (tab f n k) s v x = su (fun j => f j * v (x + s + (j - k))) n k
  | 0, _, _, _ => rfl
  | n + 1, k, s, x => by
    show f k * v (x + s) + ev (tab f n (k + 1)) (s + 1) v x = f k * v (x + s + (k - k)) + _
    rw [show x + s + (k - k) = x + s by omega, ev_su (n := n)]
    congr 1
    have e : (fun j => f j * v (x + (s + 1) + (j - (k + 1)))) = fun j => f j * v (x + s + (j - k)) := funext fun j => by rw [show x + (s + 1) + (j - (k + 1)) = x + s + (j - k) by omega]
    rw [e]
theorem su_congr {f g : Int → Int} : ∀ {n : Nat} {k : Int}, (∀ j, k ≤ j → j < k + n → f j = g j) → su f n k = su g n k
  | 0, _, _ => rfl
  | n + 1, k, h => by
    rw [su_suc, su_suc, h k (by omega) (by omega), su_congr fun j h1 h2 => h j (by omega) (by omega)]
theorem su_add {f g : Int → Int} : ∀ {n : Nat} {k : Int}, su (fun j => f j + g j) n k = su f n k + su g n k
  | 0, _ => rfl
  | n + 1, k => by rw [su_suc, su_suc, su_suc, su_add]; omega
theorem su_mul {f : Int → Int} {c : Int} : ∀ {n : Nat} {k : Int}, su (fun j => c * f j) n k = c * su f n k
  | 0, _ => by simp [su_zer]
  | n + 1, k => by rw [su_suc, su_suc, su_mul]; grind
theorem su_shift {f : Int → Int} {c : Int} : ∀ {n : Nat} {k : Int}, su (fun j => f (j + c)) n k = su f n (k + c)
  | 0, _ => rfl
  | n + 1, k => by rw [su_suc, su_suc, su_shift, show k + 1 + c = k + c + 1 by omega]
theorem su_last {f : Int → Int} : ∀ {n : Nat} {k : Int}, su f (n + 1) k = su f n k + f (k + n)
  | 0, k => by simp [su_suc, su_zer]
  | n + 1, k => by
    rw [su_suc, su_last (n := n), su_suc, show k + 1 + (n : Int) = k + ((n + 1 : Nat) : Int) by omega]
    omega
theorem su_zero {n : Nat} {k : Int} : su (fun _ => 0) n k = 0 := by
  have := @su_mul (fun _ => 0) 0 n k
  simpa using this
theorem su_app {f : Int → Int} {m : Nat} : ∀ {n : Nat} {k : Int}, su f (n + m) k = su f n k + su f m (k + n)
  | 0, k => by simp [su_zer]
  | n + 1, k => by
    rw [show n + 1 + m = (n + m) + 1 by omega, su_suc, su_suc, su_app, show k + 1 + (n : Int) = k + ((n + 1 : Nat) : Int) by omega]
    omega
/-- ev as a sum -/
theorem ev_gz {v : Int → Int} : ∀ {c : List Int} {s x : Int} {n : Nat}, c.length ≤ n → ev c s v x = su (fun j => gz c j * v (x + s + j)) n 0
  | [], s, x, n, _ => by
    rw [ev_nil]
    refine (su_zero (n := n) (k := 0)).symm.trans (su_congr fun j _ _ => by rw [gz_nil]; omega)
  | a :: c, s, x, 0, h => by simp at h
  | a :: c, s, x, n + 1, h => by
    rw [ev_cons, su_suc, gz_zero, show x + s + 0 = x + s by omega, ev_gz (c := c) (n := n) (by simpa using h)]
    congr 1
    rw [← su_shift (c := 1)]
    refine su_congr fun j h1 h2 => ?_
    rw [gz_succ (by omega), show j + 1 - 1 = j by omega, show x + (s + 1) + j = x + s + (j + 1) by omega]
/-- the product's step is one step behind the other -/
theorem ev_cb {v : Int → Int} : ∀ {a b : List Int} {s t x : Int} {n : Nat}, a.length + b.length ≤ n + 1 → ev (tab (cb a b) n 0) (s + t) v x = ev a s (fun y => ev b t v y) x
  | [], b, s, t, x, n, _ => by
    rw [ev_su, ev_nil]
    exact (su_congr fun j _ _ => by show 0 * v (x + (s + t) + (j - 0)) = 0; omega).trans (su_zero (n := n) (k := 0))
  | a :: c, b, s, t, x, n, h => by
    have h' : c.length + 1 + b.length ≤ n + 1 := h
    rw [ev_su, ev_cons]
    have e : (fun j => cb (a :: c) b j * v (x + (s + t) + (j - 0))) = fun j => a * (gz b j * v (x + s + t + j)) + cb c b (j - 1) * v (x + s + t + j) := funext fun j => by
      show (a * gz b j + cb c b (j - 1)) * _ = _
      rw [show x + (s + t) + (j - 0) = x + s + t + j by omega]
      grind
    rw [e, su_add, su_mul, ← ev_gz (by omega)]
    congr 1
    cases n with
    | zero =>
      have hc : c = [] := by
        cases c with
        | nil => rfl
        | cons => simp at h'; omega
      subst hc
      rfl
    | succ n =>
      rw [su_suc, cb_neg (by omega), ← ev_cb (n := n) (by omega), ev_su, ← su_shift (c := 1), Int.zero_mul, Int.zero_add]
      refine su_congr fun j h1 h2 => ?_
      rw [show j + 1 - 1 = j by omega, show x + s + t + (j + 1) = x + (s + 1 + t) + (j - 0) by omega]
end Zr

/-! Zr: plain laws of walls, values, lowest forms. -/
namespace Zr
/-! ### between walls -/
def bey (w : Nat) (vs : List Int) (x : Int) : Int :=
  if w = 0 then gz vs (x % vs.length)
  else if w = 1 then (if x % (2 * vs.length) < vs.length then gz vs (x % (2 * vs.length)) else gz vs (2 * vs.length - 1 - x % (2 * vs.length)))
  else if (x + 1) % (2 * vs.length + 2) = 0 ∨ (x + 1) % (2 * vs.length + 2) = vs.length + 1 then 0
  else if (x + 1) % (2 * vs.length + 2) ≤ vs.length then gz vs ((x + 1) % (2 * vs.length + 2) - 1)
  else - gz vs (2 * vs.length + 1 - (x + 1) % (2 * vs.length + 2))
section
variable {vs : List Int} {x : Int}
theorem bey_0 : bey 0 vs x = gz vs (x % vs.length) := rfl
theorem bey_1 : bey 1 vs x = (if x % (2 * vs.length) < vs.length then gz vs (x % (2 * vs.length)) else gz vs (2 * vs.length - 1 - x % (2 * vs.length))) := rfl
theorem bey_2 : bey 2 vs x = (if (x + 1) % (2 * vs.length + 2) = 0 ∨ (x + 1) % (2 * vs.length + 2) = vs.length + 1 then 0
  else if (x + 1) % (2 * vs.length + 2) ≤ vs.length then gz vs ((x + 1) % (2 * vs.length + 2) - 1)
  else - gz vs (2 * vs.length + 1 - (x + 1) % (2 * vs.length + 2))) := rfl
end
theorem mod_split (x m : Int) : x % m + (x / m) * m = x := by rw [Int.mul_comm]; exact Int.emod_add_mul_ediv x m
def Sym (w : Nat) (n : Int) (v : Int → Int) : Prop :=
  if w = 0 then ∀ x, v (x + n) = v x
  else if w = 1 then (∀ x, v (x + 2 * n) = v x) ∧ ∀ x, v (-1 - x) = v x
  else (∀ x, v (x + (2 * n + 2)) = v x) ∧ ∀ x, v (-2 - x) = - v x
theorem Sym.ring {n : Int} {v : Int → Int} : Sym 0 n v ↔ ∀ x, v (x + n) = v x := Iff.rfl
theorem Sym.mirror {n : Int} {v : Int → Int} : Sym 1 n v ↔ (∀ x, v (x + 2 * n) = v x) ∧ ∀ x, v (-1 - x) = v x := Iff.rfl
theorem Sym.zero {n : Int} {v : Int → Int} : Sym 2 n v ↔ (∀ x, v (x + (2 * n + 2)) = v x) ∧ ∀ x, v (-2 - x) = - v x := Iff.rfl
theorem per_nat {v : Int → Int} {m : Int} (h : ∀ x, v (x + m) = v x) : ∀ (k : Nat) (x : Int), v (x + k * m) = v x
  | 0, x => by simp
  | k + 1, x => by
    have e : x + ((k + 1 : Nat) : Int) * m = (x + k * m) + m := by rw [Int.natCast_add, Int.add_mul]; simp; omega
    rw [e, h, per_nat h k]
theorem per_int {v : Int → Int} {m : Int} (h : ∀ x, v (x + m) = v x) (k x : Int) : v (x + k * m) = v x := by
  rcases Int.le_total 0 k with hk | hk
  · have := per_nat h k.toNat x
    rwa [Int.toNat_of_nonneg hk] at this
  · have := per_nat h (-k).toNat (x + k * m)
    rw [Int.toNat_of_nonneg (by omega), show x + k * m + -k * m = x by rw [Int.neg_mul]; omega] at this
    exact this.symm
theorem per_mod {v : Int → Int} {m : Int} (h : ∀ x, v (x + m) = v x) (x : Int) : v x = v (x % m) := by
  have e : x % m + (x / m) * m = x := by rw [Int.mul_comm]; exact Int.emod_add_mul_ediv x m
  have := per_int h (x / m) (x % m)
  rw [e] at this
  exact this
theorem gz_in {vs : List Int} {i : Int} (h0 : 0 ≤ i) (h1 : i < vs.length) : vs[i.toNat]? = some (gz vs i) := by
  unfold gz
  rw [if_pos h0, List.getD_eq_getElem?_getD, List.getElem?_eq_getElem (by omega)]; rfl
section
variable {w : Nat} {vs : List Int} {x : Int} {v u : Int → Int}
theorem bey_in (h0 : 0 ≤ x) (h1 : x < vs.length) : bey w vs x = gz vs x := by
  unfold bey
  have e1 : x % vs.length = x := Int.emod_eq_of_lt h0 h1
  have e2 : x % (2 * vs.length) = x := Int.emod_eq_of_lt h0 (by omega)
  have e3 : (x + 1) % (2 * vs.length + 2) = x + 1 := Int.emod_eq_of_lt (by omega) (by omega)
  rw [e1, e2, e3, if_pos h1, if_neg (show ¬ (x + 1 = 0 ∨ x + 1 = vs.length + 1) by omega), if_pos (show x + 1 ≤ vs.length by omega), show x + 1 - 1 = x by omega]
  split
  · rfl
  · split <;> rfl
/-- what goes on so is told by the cells within -/
theorem sym_unique (hw : w < 3) (hn : 0 < vs.length) (h : Sym w vs.length v) (h2 : ∀ i : Int, 0 ≤ i → i < vs.length → v i = gz vs i) : v x = bey w vs x := by
  match w, hw with
  | 0, _ =>
    rw [Sym.ring] at h
    have p0 := Int.emod_nonneg x (show (vs.length : Int) ≠ 0 by omega)
    have p1 := Int.emod_lt_of_pos x (show 0 < (vs.length : Int) by omega)
    rw [per_mod h, h2 _ p0 p1, bey_0]
  | 1, _ =>
    rw [Sym.mirror] at h
    have p0 := Int.emod_nonneg x (show (2 * vs.length : Int) ≠ 0 by omega)
    have p1 := Int.emod_lt_of_pos x (show 0 < (2 * vs.length : Int) by omega)
    rw [per_mod h.1, bey_1]
    generalize x % (2 * vs.length) = r at *
    split
    · rename_i q; exact h2 _ p0 q
    · rw [← h.2 r, ← h.1 (-1 - r), show -1 - r + 2 * (vs.length : Int) = 2 * vs.length - 1 - r by omega]
      exact h2 _ (by omega) (by omega)
  | 2, _ =>
    rw [Sym.zero] at h
    have p0 := Int.emod_nonneg (x + 1) (show (2 * vs.length + 2 : Int) ≠ 0 by omega)
    have p1 := Int.emod_lt_of_pos (x + 1) (show 0 < (2 * vs.length + 2 : Int) by omega)
    have e : v x = v ((x + 1) % (2 * vs.length + 2) - 1) := by
      have := per_int h.1 ((x + 1) / (2 * vs.length + 2)) ((x + 1) % (2 * vs.length + 2) - 1)
      rw [← this]
      congr 1
      have q := mod_split (x + 1) (2 * vs.length + 2)
      omega
    rw [e, bey_2]
    generalize (x + 1) % (2 * vs.length + 2) = r at *
    split
    · rename_i q
      rcases q with rfl | rfl
      · have := h.2 (0 - 1)
        rw [show (-2 : Int) - (0 - 1) = 0 - 1 by omega] at this
        omega
      · have := h.2 ((vs.length : Int) + 1 - 1)
        have t := h.1 (-2 - ((vs.length : Int) + 1 - 1))
        rw [show -2 - ((vs.length : Int) + 1 - 1) + (2 * vs.length + 2) = vs.length + 1 - 1 by omega] at t
        omega
    · split
      · exact h2 _ (by omega) (by omega)
      · have := h.2 (r - 1)
        have t := h.1 (-2 - (r - 1))
        rw [show -2 - (r - 1) + (2 * (vs.length : Int) + 2) = 2 * vs.length + 1 - r by omega] at t
        rw [h2 _ (by omega) (by omega)] at t
        omega
theorem sym_bey (hw : w < 3) (hn : 0 < vs.length) : Sym w vs.length (bey w vs) := by
  match w, hw with
  | 0, _ =>
    rw [Sym.ring]
    intro x
    rw [bey_0, bey_0, Int.add_emod_right]
  | 1, _ =>
    rw [Sym.mirror]
    constructor
    · intro x
      rw [bey_1, bey_1, Int.add_emod_right]
    · intro x
      have p0 := Int.emod_nonneg x (show (2 * vs.length : Int) ≠ 0 by omega)
      have p1 := Int.emod_lt_of_pos x (show 0 < (2 * vs.length : Int) by omega)
      have e : (-1 - x) % (2 * vs.length) = 2 * vs.length - 1 - x % (2 * vs.length) := by
        have q := Int.emod_add_mul_ediv x (2 * vs.length)
        have : -1 - x = (2 * vs.length - 1 - x % (2 * vs.length)) + (2 * vs.length) * (-1 - x / (2 * vs.length)) := by
          rw [Int.mul_sub]; omega
        rw [this, Int.add_mul_emod_self_left]
        exact Int.emod_eq_of_lt (by omega) (by omega)
      rw [bey_1, bey_1, e]
      generalize x % (2 * vs.length) = r at *
      by_cases q : r < vs.length
      · rw [if_neg (by omega), if_pos q]
        congr 1
        omega
      · rw [if_pos (by omega), if_neg q]
  | 2, _ =>
    rw [Sym.zero]
    constructor
    · intro x
      rw [bey_2, bey_2, show x + (2 * (vs.length : Int) + 2) + 1 = x + 1 + (2 * vs.length + 2) by omega, Int.add_emod_right]
    · intro x
      have p0 := Int.emod_nonneg (x + 1) (show (2 * vs.length + 2 : Int) ≠ 0 by omega)
      have p1 := Int.emod_lt_of_pos (x + 1) (show 0 < (2 * vs.length + 2 : Int) by omega)
      rw [bey_2, bey_2]
      have q := Int.emod_add_mul_ediv (x + 1) (2 * vs.length + 2)
      by_cases h0 : (x + 1) % (2 * vs.length + 2) = 0
      · have e : (-2 - x + 1) % (2 * vs.length + 2) = 0 := by
          have : -2 - x + 1 = (2 * vs.length + 2) * (- ((x + 1) / (2 * vs.length + 2))) := by rw [Int.mul_neg]; omega
          rw [this, Int.mul_emod_right]
        rw [e, h0, if_pos (Or.inl rfl)]; rfl
      · have e : (-2 - x + 1) % (2 * vs.length + 2) = 2 * vs.length + 2 - (x + 1) % (2 * vs.length + 2) := by
          have : -2 - x + 1 = (2 * vs.length + 2 - (x + 1) % (2 * vs.length + 2)) + (2 * vs.length + 2) * (-1 - (x + 1) / (2 * vs.length + 2)) := by
            rw [Int.mul_sub]; omega
          rw [this, Int.add_mul_emod_self_left]
          exact Int.emod_eq_of_lt (by omega) (by omega)
        rw [e]
        generalize (x + 1) % (2 * vs.length + 2) = r at *
        by_cases h1 : r = vs.length + 1
        · subst h1
          rw [if_pos (Or.inr rfl), if_pos (Or.inr (by omega))]; rfl
        · rw [if_neg (show ¬ (2 * (vs.length : Int) + 2 - r = 0 ∨ 2 * (vs.length : Int) + 2 - r = vs.length + 1) by omega), if_neg (show ¬ (r = 0 ∨ r = vs.length + 1) by omega)]
          by_cases h2 : r ≤ vs.length
          · rw [if_neg (show ¬ 2 * (vs.length : Int) + 2 - r ≤ vs.length by omega), if_pos h2, show 2 * (vs.length : Int) + 1 - (2 * vs.length + 2 - r) = r - 1 by omega]
          · rw [if_pos (show 2 * (vs.length : Int) + 2 - r ≤ vs.length by omega), if_neg h2, show 2 * (vs.length : Int) + 2 - r - 1 = 2 * vs.length + 1 - r by omega, Int.neg_neg]
/-- a mix that is its turned one -/
def Even (c : List Int) (s : Int) : Prop := c.reverse = c ∧ 1 - s - c.length = s
theorem sym_ev {c : List Int} {s : Int} {n : Int} (h : Sym w n v) (hc : w = 0 ∨ Even c s) : Sym w n (ev c s v) := by
  by_cases h0 : w = 0
  · subst h0
    rw [Sym.ring] at h ⊢
    intro x
    rw [← ev_shift (k := n)]
    exact ev_congr fun j _ _ => h _
  · have he := hc.resolve_left h0
    by_cases h1 : w = 1
    · subst h1
      rw [Sym.mirror] at h ⊢
      refine ⟨fun x => ?_, fun x => ?_⟩
      · rw [← ev_shift (k := 2 * n)]
        exact ev_congr fun j _ _ => h.1 _
      · have := @ev_turn v (-1) c s x
        rw [he.1, he.2] at this
        rw [← this]
        exact ev_congr fun j _ _ => h.2 _
    · unfold Sym at h ⊢
      rw [if_neg h0, if_neg h1] at h ⊢
      refine ⟨fun x => ?_, fun x => ?_⟩
      · rw [← ev_shift (k := 2 * n + 2)]
        exact ev_congr fun j _ _ => h.1 _
      · have := @ev_turn v (-2) c s x
        rw [he.1, he.2] at this
        rw [← this]
        have e2 := @ev_mul v (-1) c s x
        rw [show (-1 : Int) * ev c s v x = - ev c s v x by omega] at e2
        rw [← e2]
        exact ev_congr fun j _ _ => by rw [h.2]; omega
end

/-! ### values in lowest terms -/
def low (a b : Int) : Int × Int := (a / (Int.gcd a b : Nat), b / (Int.gcd a b : Nat))
theorem low_spec {a b : Int} (hb : 0 < b) : ∃ g : Int, 0 < g ∧ a = g * (low a b).1 ∧ b = g * (low a b).2 ∧ 0 < (low a b).2 := by
  have hg : 0 < ((Int.gcd a b : Nat) : Int) := by
    have : Int.gcd a b ≠ 0 := fun h => by
      have := (Int.gcd_eq_zero_iff.mp h).2
      omega
    omega
  have h1 : a = ((Int.gcd a b : Nat) : Int) * (low a b).1 := (Int.mul_ediv_cancel' (Int.gcd_dvd_left a b)).symm
  have h2 : b = ((Int.gcd a b : Nat) : Int) * (low a b).2 := (Int.mul_ediv_cancel' (Int.gcd_dvd_right a b)).symm
  exact ⟨_, hg, h1, h2, Int.ediv_pos_of_pos_of_dvd hb (by omega) (Int.gcd_dvd_right a b)⟩
theorem low_gcd {a b : Int} (hb : 0 < b) : Int.gcd (low a b).1 (low a b).2 = 1 := by
  have : Int.gcd a b ≠ 0 := fun h => by
    have := (Int.gcd_eq_zero_iff.mp h).2
    omega
  exact Int.gcd_ediv_gcd_ediv_gcd (Nat.pos_of_ne_zero this)
theorem dvd_cop {q p t : Int} (h : Int.gcd q p = 1) (d : q ∣ p * t) : q ∣ t := by
  rw [← Int.gcd_eq_natAbs_left_iff_dvd, ← Int.gcd_mul_right_right_of_gcd_eq_one h, Int.gcd_eq_natAbs_left_iff_dvd]
  exact d
theorem low_eq {a b c d : Int} (hb : 0 < b) (hd : 0 < d) (h : a * d = c * b) : low a b = low c d := by
  obtain ⟨g, g0, a1, b1, b2⟩ := low_spec (a := a) hb
  obtain ⟨k, k0, c1, d1, d2⟩ := low_spec (a := c) hd
  have u1 := low_gcd (a := a) hb
  have u2 := low_gcd (a := c) hd
  generalize low a b = x at *
  generalize low c d = y at *
  obtain ⟨p, q⟩ := x
  obtain ⟨r, t⟩ := y
  simp only at *
  have e : p * t = r * q := by
    have : (g * k) * (p * t) = (g * k) * (r * q) := by
      rw [a1, b1, c1, d1] at h
      grind
    exact Int.eq_of_mul_eq_mul_left (by have := Int.mul_pos g0 k0; omega) this
  have i1 : q ∣ t := by
    have : q ∣ p * t := ⟨r, by rw [e, Int.mul_comm]⟩
    exact dvd_cop (by rw [Int.gcd_comm]; exact u1) this
  have i2 : t ∣ q := by
    have : t ∣ r * q := ⟨p, by rw [← e, Int.mul_comm]⟩
    exact dvd_cop (by rw [Int.gcd_comm]; exact u2) this
  have e2 : q = t := Int.dvd_antisymm (by omega) (by omega) i1 i2
  subst e2
  have : p = r := Int.eq_of_mul_eq_mul_right (by omega) e
  rw [this]
theorem low_pos {a b : Int} (hb : 0 < b) : 0 < (low a b).2 := (low_spec hb).elim fun _ h => h.2.2.2
/-- a value is what it stands for -/
theorem low_mul {a b : Int} (hb : 0 < b) : (low a b).1 * b = a * (low a b).2 := by
  obtain ⟨g, g0, a1, b1, b2⟩ := low_spec (a := a) hb
  generalize low a b = x at *
  rw [a1, b1]
  grind
end Zr

/-! Zr: steps through bodies. -/
namespace Zr
open PySem L2
/-- a mix -/
structure Mx where
  c : List Int
  p : Int
  s : Int
def Mx.Can (M : Mx) : Prop := M.c ≠ [] ∧ gz M.c 0 ≠ 0 ∧ gz M.c (M.c.length - 1) ≠ 0 ∧ 1 ≤ M.p ∧ gl 0 (M.c ++ [M.p]) = 1
/-- M is the lowest form of counts xs, parts p, from s on -/
def NormOf (xs : List Int) (p s : Int) (M : Mx) : Prop := M.Can ∧ ∃ (g : Int) (k l : Nat), 1 ≤ g ∧ xs = List.replicate k 0 ++ (M.c.map (g * ·) ++ List.replicate l 0) ∧ p = g * M.p ∧ M.s = s + k
abbrev mixD (M : Mx) : D := .ob 0 [.tup (M.c.map D.int), .int M.p, .int M.s]
/-- below 2 ^ k -/
def bt (k : Nat) (a : Int) : Prop := a.natAbs < 2 ^ k
theorem bt.log {k : Nat} {a : Int} (h : bt k a) (hk : 0 < k) : a.natAbs.log2 < k := log2_lt h hk
theorem bt.mono {k l : Nat} {a : Int} (h : bt k a) (hl : k ≤ l) : bt l a := Nat.lt_of_lt_of_le h (Nat.pow_le_pow_right (by decide) hl)
theorem bt.mul {k l : Nat} {a b : Int} (h : bt k a) (h2 : bt l b) : bt (k + l) (a * b) := by
  unfold bt at *
  rw [Int.natAbs_mul, Nat.pow_add]
  exact Nat.mul_lt_mul'' h h2
theorem bt.add {k : Nat} {a b : Int} (h : bt k a) (h2 : bt k b) : bt (k + 1) (a + b) := by
  unfold bt at *
  rw [Nat.pow_succ]
  omega
theorem bt.neg {k : Nat} {a : Int} (h : bt k a) : bt k (-a) := by unfold bt at *; rwa [Int.natAbs_neg]
theorem bt.zero {k : Nat} : bt k 0 := Nat.two_pow_pos k
theorem bt.le {k : Nat} {a b : Int} (h : bt k b) (ha : a.natAbs ≤ b.natAbs) : bt k a := Nat.lt_of_le_of_lt ha h
theorem bt.dvd {k : Nat} {a b : Int} (h : bt k b) (hb : b ≠ 0) (ha : a ∣ b) : bt k a := h.le (Nat.le_of_dvd (by omega) (Int.natAbs_dvd_natAbs.mpr ha))
theorem iMul_bt {a b : Int} {k l : Nat} (h : bt k a) (h2 : bt l b) (hk : k + l < 900000) : iMul a b = some (a * b) := iMul_of (by
  have e1 := (h.mono (Nat.le_succ k)).log (Nat.succ_pos k)
  have e2 := (h2.mono (Nat.le_succ l)).log (Nat.succ_pos l)
  show _ + _ < 1000000
  omega)
theorem iDiv_bt {a b : Int} {k : Nat} (h : 0 < b) (h2 : bt k b) (hk : k < 9000) : iDiv a b = some (a / b) := iDiv_pos h (by
  have e2 := (h2.mono (Nat.le_succ k)).log (Nat.succ_pos k)
  omega)
theorem spots_mem : ∀ {xs : List Int} {n : Nat} {i : Int}, i ∈ spots n xs → ∃ j : Nat, i = n + j ∧ gz xs j ≠ 0
  | [], n, i, h => by simp [spots] at h
  | x :: xs, n, i, h => by
    have ih : i ∈ spots (n + 1) xs → ∃ j : Nat, i = n + j ∧ gz (x :: xs) j ≠ 0 := fun h => by
      obtain ⟨j, h1, h2⟩ := spots_mem h
      refine ⟨j + 1, by omega, ?_⟩
      rw [gz_succ (by omega), show ((j + 1 : Nat) : Int) - 1 = j by omega]
      exact h2
    by_cases q : x = 0
    · unfold spots at h
      rw [if_pos q] at h
      exact ih h
    · unfold spots at h
      rw [if_neg q] at h
      rcases List.mem_cons.mp h with h | h
      · exact ⟨0, by omega, q⟩
      · exact ih h
theorem gz_app {a b : List Int} {i : Int} (h : (a.length : Int) ≤ i) : gz (a ++ b) i = gz b (i - a.length) := by
  unfold gz
  rw [if_pos (by omega), if_pos (by omega), List.getD_eq_getElem?_getD, List.getElem?_append_right (by omega), List.getD_eq_getElem?_getD, show i.toNat - a.length = (i - a.length).toNat by omega]
theorem gz_app1 {a b : List Int} {i : Int} (h : i < (a.length : Int)) : gz (a ++ b) i = gz a i := by
  by_cases h0 : i < 0
  · rw [gz_neg h0, gz_neg h0]
  · unfold gz
    rw [if_pos (by omega), if_pos (by omega), List.getD_eq_getElem?_getD, List.getElem?_append_left (by omega), List.getD_eq_getElem?_getD]
theorem gz_rep {n : Nat} {i : Int} : gz (List.replicate n 0) i = 0 := by
  unfold gz
  split
  · rw [List.getD_eq_getElem?_getD, List.getElem?_replicate]
    split <;> rfl
  · rfl
theorem gz_map {g : Int} {xs : List Int} {i : Int} : gz (xs.map (g * ·)) i = g * gz xs i := by
  unfold gz
  split
  · rw [List.getD_eq_getElem?_getD, List.getD_eq_getElem?_getD, List.getElem?_map]
    cases xs[i.toNat]? <;> simp
  · simp
theorem gl_mul {g : Int} (hg : 0 ≤ g) : ∀ {xs : List Int} {a : Int}, gl (g * a) (xs.map (g * ·)) = g * gl a xs
  | [], a => rfl
  | x :: xs, a => by
    show gl ((Int.gcd (g * a) (g * x) : Nat) : Int) (xs.map (g * ·)) = g * gl ((Int.gcd a x : Nat) : Int) xs
    have e : ((Int.gcd (g * a) (g * x) : Nat) : Int) = g * ((Int.gcd a x : Nat) : Int) := by
      rw [Int.gcd_mul_left, Int.natCast_mul, Int.natAbs_of_nonneg hg]
    rw [e, gl_mul hg]
theorem gl_div {xs : List Int} (h : 0 < gl 0 xs) : gl 0 (xs.map (· / gl 0 xs)) = 1 := by
  have hm : (xs.map (· / gl 0 xs)).map (gl 0 xs * ·) = xs := by
    rw [List.map_map]
    conv => rhs; rw [← List.map_id xs]
    exact List.map_congr_left fun x hx => Int.mul_ediv_cancel' (gl_dvd.2 x hx)
  have e := @gl_mul (gl 0 xs) (by omega) (xs.map (· / gl 0 xs)) 0
  rw [Int.mul_zero, hm] at e
  generalize gl 0 (xs.map (· / gl 0 xs)) = y at *
  have : gl 0 xs * 1 = gl 0 xs * y := by rw [Int.mul_one]; exact e
  exact (Int.eq_of_mul_eq_mul_left (by omega) this).symm
section
variable {f h : DE} {fa : DA} {t : DG} {A B : DS} {d d1 d2 : Ev} {x : D} {xs : List D} {own : List Nat} {i : Nat} {r : Option (Fl × Ev)}
theorem sqs (h1 : A d = some (.nx, d1)) (h2 : B d1 = r) : sq A B d = r := by
  unfold sq
  rw [h1]
  exact h2
theorem fnD_rt {n m : Nat} {B : DS} {d d' t : Ev} {x : D} (h : d.length = n) (e : B (d ++ List.replicate m .no) = some (.rt x, d')) (o : outs n d' = t) : fnD n m B d = some (x, t) := by
  unfold fnD
  rw [if_pos h, e, ← o]
theorem fnD_nx {n m : Nat} {B : DS} {d d' t : Ev} (h : d.length = n) (e : B (d ++ List.replicate m .no) = some (.nx, d')) (o : outs n d' = t) : fnD n m B d = some (.non, t) := by
  unfold fnD
  rw [if_pos h, e, ← o]
theorem fnF_rf {n m : Nat} {B : DS} {d d' t : Ev} {x : D} (h : d.length = n) (e : B (d ++ List.replicate m .no) = some (.rf x, d')) (o : outs n d' = t) : fnF n m B d = some (x, t) := by
  unfold fnF
  rw [if_pos h, e, ← o]
theorem sqr (h1 : A d = some (.rt x, d1)) : sq A B d = some (.rt x, d1) := by
  unfold sq
  rw [h1]
theorem sr_of (h1 : f d = some (x, d1)) : sr f d = some (.rt x, d1) := by
  unfold sr
  rw [h1]
theorem ss_t {c : DT} (h1 : c d = some (true, d1)) (h2 : A d1 = r) : ss c A B d = r := by
  unfold ss
  rw [h1]
  exact h2
theorem ss_f {c : DT} (h1 : c d = some (false, d1)) (h2 : B d1 = r) : ss c A B d = r := by
  unfold ss
  rw [h1]
  exact h2
theorem sq_ss_t {c : DT} {C : DS} (h1 : c d = some (true, d)) (h2 : A d = some (.rt x, d2)) : sq (ss c A C) B d = some (.rt x, d2) := sqr (ss_t h1 h2)
theorem sq_ss_f {c : DT} (h1 : c d = some (false, d)) (h2 : B d = r) : sq (ss c A sk) B d = r := sqs (ss_f h1 rfl) h2
theorem sa_of (h1 : f d = some (x, d1)) (h2 : t x d1 = some d2) : sa f t d = some (.nx, d2) := by
  unfold sa
  rw [h1]
  show (match t x d1 with | some d2 => _ | none => _) = _
  rw [h2]
theorem so_of (h1 : f d = some (x, d1)) (h2 : notIo d1 i = true) : so i f d = some (.nx, d1.set i (.ow x)) := by
  unfold so
  rw [h1]
  show (if notIo d1 i then _ else _) = _
  rw [if_pos h2]
theorem sl_of {lo hi : DO} {i' j' : Option Int} {d3 : Ev} {z : D} (h1 : f d = some (x, d1)) (h2 : lo d1 = some (i', d2)) (h3 : hi d2 = some (j', d3)) (h4 : slD x i' j' = some z) : sl f lo hi d = some (z, d3) := by
  unfold sl
  rw [h1]
  simp only [h2, h3, h4]
theorem sf_of (h1 : fa d = some (xs, d1)) (h2 : fo t B xs d1 = r) : sf fa t B d = r := by
  unfold sf
  rw [h1]
  exact h2
theorem lc_of {c : DT} {ys : List D} (h1 : fa d = some (xs, d1)) (h2 : xs.length ≤ sizeLine) (h3 : cl own t c f xs d1 = some (ys, d2)) : lc own fa t c f d = some (.lst ys, d2) := by
  unfold lc
  rw [h1]
  show (if xs.length ≤ sizeLine then _ else _) = _
  rw [if_pos h2, h3]
theorem rg_succ (n : Nat) (y : Int) : (List.range (n + 1)).map (fun j : Nat => D.int (y + (j : Nat))) = D.int y :: (List.range n).map fun j : Nat => D.int (y + 1 + (j : Nat)) := by
  rw [List.range_succ_eq_map, List.map_cons, List.map_map]
  congr 1
  · simp
  · refine List.map_congr_left fun j _ => ?_
    simp only [Function.comp]
    congr 1
    omega
theorem rg_all (n : Nat) : (List.range n).map (fun j : Nat => D.int (0 + (j : Nat))) = rgD 0 n := by unfold rgD; rw [show ((n : Int) - 0).toNat = n by omega]
theorem rg_ok {n : Int} (h0 : -1000000 ≤ n) (h : n ≤ 1000000) : rgOk 0 n = true := rgOk_small (by omega) (by omega) (by omega) (by omega)
theorem rg_le {n : Int} (h : n ≤ 1000000) : (rgD 0 n).length ≤ sizeLine := by rw [rgD_len, sizeLine_eq]; omega
theorem r1_of {n : Int} (h1 : f d = some (.int n, d1)) (h2 : rgOk 0 n = true) : Zr.r1 f d = some (rgD 0 n, d1) := by
  unfold Zr.r1
  rw [h1]
  show (if rgOk 0 n then _ else _) = _
  rw [if_pos h2]
/-- over range(n) -/
theorem lc_rg {n : Int} {ys : List D} (h1 : f d = some (.int n, d1)) (h2 : -1000000 ≤ n) (h3 : n ≤ 1000000) {g : DE} {c : DT} (h4 : cl own t c g (rgD 0 n) d1 = some (ys, d2)) : lc own (Zr.r1 f) t c g d = some (.lst ys, d2) :=
  lc_of (r1_of h1 (rg_ok h2 h3)) (rg_le h3) h4
theorem sf_rg {n : Int} (h1 : f d = some (.int n, d1)) (h2 : -1000000 ≤ n) (h3 : n ≤ 1000000) (h4 : fo t B (rgD 0 n) d1 = r) : sf (Zr.r1 f) t B d = r := sf_of (r1_of h1 (rg_ok h2 h3)) h4
/-- a comprehension of a function's values, with a test or none -/
theorem lc_map (g : D → D) (h1 : fa d = some (xs, d1)) (h2 : xs.length ≤ sizeLine) (ho : okO d1 own = true)
    (step : ∀ x ∈ xs, ∃ e1 e2, t x (wp d1 own) = some e1 ∧ f e1 = some (g x, e2) ∧ okO e2 own = true ∧ bk own d1 e2 = d1) : lc own fa t yes f d = some (.lst (xs.map g), d1) :=
  lc_of h1 h2 (cl_map g ho step)
theorem len_64 {n : Nat} (h : n < 16777216) : n ≤ sizeLine := by rw [sizeLine_eq]; omega
/-- items drawn: the box goes on; k counts a turn -/
theorem cl_draw {b k M : Nat} (wr : D → Sl) {Ok : Nat → D → Prop} {P : D → Prop} : ∀ {xs : List D} {d : Ev} {x : D} {n : Nat}, b < d.length → okO d own = true → b ∉ own → n + k * xs.length ≤ M → Ok n x →
    (∀ y ∈ xs, ∀ n x, n + k ≤ M → Ok n x → ∃ e1 e2 v x', t y (wp (d.set b (wr x)) own) = some e1 ∧ f e1 = some (v, e2) ∧ okO e2 own = true ∧ bk own (d.set b (wr x)) e2 = d.set b (wr x') ∧ P v ∧ Ok (n + k) x') →
    ∃ ys x', cl own t yes f xs (d.set b (wr x)) = some (ys, d.set b (wr x')) ∧ ys.length = xs.length ∧ (∀ v ∈ ys, P v) ∧ Ok (n + k * xs.length) x'
  | [], d, x, n, _, _, _, _, hx, _ => ⟨[], x, rfl, rfl, fun v h => (nomatch h), by simpa using hx⟩
  | y :: xs, d, x, n, hb, ho, hn, hM, hx, step => by
    have hl : k * (y :: xs).length = k + k * xs.length := by rw [List.length_cons, Nat.mul_succ]; omega
    have ho2 : okO (d.set b (wr x)) own = true := by
      unfold okO at ho ⊢
      rw [List.all_eq_true] at ho ⊢
      intro i hi
      have := ho i hi
      rwa [List.getElem?_set_ne (fun e => hn (by rw [e]; exact hi))]
    obtain ⟨e1, e2, v, x1, h1, h2, h3, h4, h5, h6⟩ := step y List.mem_cons_self n x (by omega) hx
    obtain ⟨ys, x', k1, k2, k3, k4⟩ := cl_draw wr (xs := xs) hb ho hn (by omega) h6 fun z hz => step z (List.mem_cons_of_mem _ hz)
    refine ⟨v :: ys, x', ?_, by simp [k2], fun w hw => ?_, by rw [hl, ← Nat.add_assoc]; exact k4⟩
    · unfold cl
      simp only [ho2, h1, yes, h2, h3, h4, k1, if_true]
    · rcases List.mem_cons.mp hw with rfl | hw
      · exact h5
      · exact k3 w hw
theorem set_same {b : Nat} {y : Sl} (h : d[b]? = some y) : d.set b y = d := by
  obtain ⟨hl, hg⟩ := List.getElem?_eq_some_iff.mp h
  rw [← hg]; exact List.set_getElem_self hl
theorem lc_draw {b k M n : Nat} (wr : D → Sl) {Ok : Nat → D → Prop} {P : D → Prop} (hb : d1[b]? = some (wr x)) (h1 : fa d = some (xs, d1)) (h2 : xs.length ≤ sizeLine) (ho : okO d1 own = true) (hn : b ∉ own) (hM : n + k * xs.length ≤ M) (hx : Ok n x)
    (step : ∀ y ∈ xs, ∀ n x, n + k ≤ M → Ok n x → ∃ e1 e2 v x', t y (wp (d1.set b (wr x)) own) = some e1 ∧ f e1 = some (v, e2) ∧ okO e2 own = true ∧ bk own (d1.set b (wr x)) e2 = d1.set b (wr x') ∧ P v ∧ Ok (n + k) x') :
    ∃ ys x', lc own fa t yes f d = some (.lst ys, d1.set b (wr x')) ∧ ys.length = xs.length ∧ (∀ v ∈ ys, P v) ∧ Ok (n + k * xs.length) x' := by
  obtain ⟨ys, x', k1, k2, k3, k4⟩ := cl_draw wr (own := own) (t := t) (f := f) (P := P) (List.getElem?_eq_some_iff.mp hb).1 ho hn hM hx step
  rw [set_same hb] at k1
  exact ⟨ys, x', lc_of h1 h2 k1, k2, k3, k4⟩
/-- a list of ints -/
theorem ints_of {P : Int → Prop} : ∀ {ys : List D}, (∀ v ∈ ys, ∃ i, v = .int i ∧ P i) → ∃ is : List Int, ys = is.map D.int ∧ ∀ i ∈ is, P i
  | [], _ => ⟨[], rfl, fun i h => nomatch h⟩
  | y :: ys, h => by
    obtain ⟨i, rfl, hi⟩ := h y List.mem_cons_self
    obtain ⟨is, rfl, hs⟩ := ints_of (ys := ys) fun v hv => h v (List.mem_cons_of_mem _ hv)
    exact ⟨i :: is, rfl, fun j hj => by
      rcases List.mem_cons.mp hj with rfl | hj
      · exact hi
      · exact hs j hj⟩
/-- a loop with a count of its turns -/
theorem fo_cnt {B : DS} (I : Nat → Ev → Prop) (k M : Nat) : ∀ {xs : List D} {n : Nat} {d : Ev}, n + k * xs.length ≤ M → (∀ x ∈ xs, ∀ n d, n + k ≤ M → I n d → ∃ d1 d2, t x d = some d1 ∧ B d1 = some (.nx, d2) ∧ I (n + k) d2) → I n d → ∃ d', fo t B xs d = some (.nx, d') ∧ I (n + k * xs.length) d'
  | [], n, d, _, _, h => ⟨d, rfl, by simpa using h⟩
  | x :: xs, n, d, hM, step, h => by
    have hl : k * (x :: xs).length = k + k * xs.length := by rw [List.length_cons, Nat.mul_succ]; omega
    obtain ⟨d1, d2, e1, e2, h2⟩ := step x List.mem_cons_self n d (by omega) h
    obtain ⟨d', e3, h3⟩ := fo_cnt I k M (xs := xs) (n := n + k) (by omega) (fun y hy => step y (List.mem_cons_of_mem _ hy)) h2
    exact ⟨d', (fo_nx e1 e2).trans e3, by rw [hl, ← Nat.add_assoc]; exact h3⟩
end
end Zr

/-! Zr: what mixes do. -/
namespace Zr
open PySem L2
/-- steps one behind another -/
def evn (c : List Int) (s : Int) : Nat → (Int → Int) → Int → Int
  | 0, v => v
  | n + 1, v => ev c s (evn c s n v)
theorem evn_succ {c : List Int} {s : Int} {n : Nat} {v : Int → Int} : evn c s (n + 1) v = ev c s (evn c s n v) := rfl
theorem evn_in {c : List Int} {s : Int} : ∀ {n : Nat} {v : Int → Int}, evn c s n (ev c s v) = evn c s (n + 1) v
  | 0, _ => rfl
  | n + 1, v => by rw [evn_succ, evn_in]; rfl
theorem evn_mul {c : List Int} {s g : Int} : ∀ {n : Nat} {v : Int → Int} {x : Int}, evn c s n (fun y => g * v y) x = g * evn c s n v x
  | 0, _, _ => rfl
  | n + 1, v, x => by
    rw [evn_succ, evn_succ, ← ev_mul]
    exact ev_congr fun j _ _ => evn_mul
theorem evn_add {c : List Int} {s : Int} : ∀ {n : Nat} {v u : Int → Int} {x : Int}, evn c s n (fun y => v y + u y) x = evn c s n v x + evn c s n u x
  | 0, _, _, _ => rfl
  | n + 1, v, u, x => by
    rw [evn_succ, evn_succ, evn_succ, ← ev_add]
    exact ev_congr fun j _ _ => evn_add
theorem evn_congr {c : List Int} {s : Int} {n : Nat} {v u : Int → Int} {x : Int} (h : ∀ y, v y = u y) : evn c s n v x = evn c s n u x := by rw [funext h]
theorem evn_shift {c : List Int} {s k : Int} : ∀ {n : Nat} {v : Int → Int} {x : Int}, evn c s n (fun y => v (y + k)) x = evn c s n v (x + k)
  | 0, _, _ => rfl
  | n + 1, v, x => by
    rw [evn_succ, evn_succ, ← ev_shift]
    exact ev_congr fun j _ _ => evn_shift
theorem sym_evn {w : Nat} {c : List Int} {s n : Int} {v : Int → Int} (h : Sym w n v) (hc : w = 0 ∨ Even c s) : ∀ k : Nat, Sym w n (evn c s k v)
  | 0 => h
  | k + 1 => sym_ev (sym_evn h hc k) hc
theorem ev_one {c : List Int} : ∀ {s x : Int}, ev c s (fun _ => 1) x = c.sum := by
  induction c with
  | nil => intros; rfl
  | cons a c ih => intro s x; rw [ev_cons, ih, List.sum_cons]; omega
theorem ev_const {c : List Int} {s x k : Int} : ev c s (fun _ => k) x = c.sum * k := by
  have := @ev_mul (fun _ => 1) k c s x
  rw [ev_one] at this
  simp only [Int.mul_one] at this
  rw [this, Int.mul_comm]
theorem evn_const {c : List Int} {s k : Int} : ∀ {n : Nat} {x : Int}, evn c s n (fun _ => k) x = c.sum ^ n * k
  | 0, x => by simp [evn]
  | n + 1, x => by
    rw [evn_succ, show evn c s n (fun _ => k) = fun _ => c.sum ^ n * k from funext fun x => evn_const, ev_const, Int.pow_succ]
    grind
/-- R does what T does, times q -/
def Acts (R : Mx) (T : (Int → Int) → Int → Int) (q : Int) : Prop := ∀ v x, ev R.c R.s v x * q = T v x * R.p
theorem NormOf.acts {xs : List Int} {p s : Int} {M : Mx} (h : NormOf xs p s M) : Acts M (ev xs s) p := by
  obtain ⟨_, g, k, l, g1, h1, h2, h3⟩ := h
  intro v x
  have e : ev xs s v x = g * ev M.c M.s v x := by
    rw [h1, ev_append, ev_zeros, ev_append, ev_zeros, ev_map, List.length_replicate, h3]
    omega
  rw [e, h2]
  grind
theorem Acts.of {R : Mx} {T U : (Int → Int) → Int → Int} {q : Int} (h : Acts R T q) (e : ∀ v x, T v x = U v x) : Acts R U q := fun v x => by rw [h v x, e]
theorem acts_self (M : Mx) : Acts M (ev M.c M.s) M.p := fun _ _ => rfl
/-- a product -/
theorem Acts.mul {M N R : Mx} {T U : (Int → Int) → Int → Int} {q t : Int} (hM : Acts M T q) (hN : Acts N U t) (hp : M.p ≠ 0) (hp2 : N.p ≠ 0) {n : Nat} (hn : M.c.length + N.c.length ≤ n + 1) (hR : NormOf (tab (cb M.c N.c) n 0) (M.p * N.p) (M.s + N.s) R) :
    Acts R (fun v => T (U v)) (q * t) := by
  intro v x
  have h := hR.acts v x
  rw [ev_cb hn] at h
  have e : ev M.c M.s (fun y => ev N.c N.s v y) x * t = ev M.c M.s (U v) x * N.p := by
    rw [Int.mul_comm, ← ev_mul, Int.mul_comm _ N.p, ← ev_mul]
    exact ev_congr fun j _ _ => by
      have := hN v (x + M.s + j)
      rw [Int.mul_comm, this, Int.mul_comm]
  have e2 := hM (U v) x
  have e3 : (ev R.c R.s v x * (q * t)) * (M.p * N.p) = (T (U v) x * R.p) * (M.p * N.p) := by grind
  exact Int.eq_of_mul_eq_mul_right (by
    intro z
    rcases Int.mul_eq_zero.mp z with z | z
    · exact hp z
    · exact hp2 z) e3
/-- sizes -/
structure Mx.Bd (M : Mx) (l m q : Nat) : Prop where
  len : M.c.length ≤ l
  cnt : ∀ x ∈ M.c, bt m x
  prt : bt q M.p
theorem Mx.Can.pos {M : Mx} (h : M.Can) : 0 < M.p := by have := h.2.2.2.1; omega
theorem Mx.Can.len {M : Mx} (h : M.Can) : 0 < M.c.length := List.length_pos_iff.mpr h.1
theorem NormOf.bd {xs : List Int} {p s : Int} {M : Mx} {l m q : Nat} (h : NormOf xs p s M) (h1 : xs.length ≤ l) (h2 : ∀ x ∈ xs, bt m x) (h3 : bt q p) : M.Bd l m q := by
  obtain ⟨hc, g, k, k', g1, e1, e2, e3⟩ := h
  refine ⟨?_, fun x hx => ?_, ?_⟩
  · rw [e1] at h1
    simp at h1
    omega
  · have : g * x ∈ xs := by
      rw [e1]
      simp only [List.mem_append, List.mem_map]
      exact .inr (.inl ⟨x, hx, rfl⟩)
    refine (h2 _ this).le ?_
    rw [Int.natAbs_mul]
    exact Nat.le_mul_of_pos_left _ (by omega)
  · refine h3.le ?_
    rw [e2, Int.natAbs_mul]
    exact Nat.le_mul_of_pos_left _ (by omega)
theorem bt_gz {b : List Int} {n : Nat} {k : Int} (h : ∀ y ∈ b, bt n y) : bt n (gz b k) := by
  by_cases h0 : 0 ≤ k ∧ k < b.length
  · have := gz_in h0.1 h0.2
    exact h _ (List.mem_of_getElem? this)
  · by_cases h1 : k < 0
    · rw [gz_neg h1]; exact bt.zero
    · rw [gz_big (by omega)]; exact bt.zero
theorem bt_cb {b : List Int} {m n : Nat} (h2 : ∀ y ∈ b, bt n y) : ∀ {a : List Int} {k : Int}, (∀ x ∈ a, bt m x) → bt (m + n + a.length) (cb a b k)
  | [], k, _ => bt.zero
  | x :: a, k, h => by
    have := ((h x List.mem_cons_self).mul (bt_gz (k := k) h2)).mono (show m + n ≤ m + n + a.length by omega)
    exact this.add (bt_cb h2 fun y hy => h y (List.mem_cons_of_mem _ hy))
theorem bt_ev {v : Int → Int} {m n : Nat} (h2 : ∀ y, bt n (v y)) : ∀ {c : List Int} {s x : Int}, (∀ y ∈ c, bt m y) → bt (m + n + c.length) (ev c s v x)
  | [], s, x, _ => bt.zero
  | a :: c, s, x, h => by
    have := ((h a List.mem_cons_self).mul (h2 (x + s))).mono (show m + n ≤ m + n + c.length by omega)
    exact this.add (bt_ev h2 fun y hy => h y (List.mem_cons_of_mem _ hy))
theorem bt_bey {w : Nat} {vs : List Int} {n : Nat} {x : Int} (h : ∀ y ∈ vs, bt n y) : bt n (bey w vs x) := by
  unfold bey
  repeat' split
  all_goals first | exact bt_gz h | exact bt.zero | exact (bt_gz h).neg
/-- the cells within after a step -/
def wst (M : Mx) (w : Nat) (vs : List Int) : List Int := tab (fun i => ev M.c M.s (bey w vs) i) vs.length 0
def witer (M : Mx) (w : Nat) : Nat → List Int → List Int
  | 0, vs => vs
  | n + 1, vs => wst M w (witer M w n vs)
theorem wst_len {M : Mx} {w : Nat} {vs : List Int} : (wst M w vs).length = vs.length := tab_len
theorem witer_len {M : Mx} {w : Nat} : ∀ {n : Nat} {vs : List Int}, (witer M w n vs).length = vs.length
  | 0, _ => rfl
  | n + 1, vs => by show (wst _ _ _).length = _; rw [wst_len, witer_len]
theorem gz_tab {f : Int → Int} {n : Nat} {i : Int} (h0 : 0 ≤ i) (h1 : i < n) : gz (tab f n 0) i = f i := by
  have e := @tab_get f n 0 i.toNat (by omega)
  have := gz_in (vs := tab f n 0) h0 (by rw [tab_len]; exact h1)
  rw [e] at this
  rw [← Option.some.inj this]
  congr 1
  omega
/-- what goes on beyond the walls is stepped alike -/
theorem bey_witer {M : Mx} {w : Nat} {vs : List Int} (hw : w < 3) (hv : 0 < vs.length) (hc : w = 0 ∨ Even M.c M.s) : ∀ {n : Nat} {x : Int}, bey w (witer M w n vs) x = evn M.c M.s n (bey w vs) x
  | 0, _ => rfl
  | n + 1, x => by
    have hl : (witer M w (n + 1) vs).length = vs.length := witer_len
    refine (sym_unique (v := evn M.c M.s (n + 1) (bey w vs)) hw (by omega) ?_ fun i h0 h1 => ?_).symm
    · rw [hl]
      exact sym_evn (sym_bey hw hv) hc _
    · rw [hl] at h1
      show _ = gz (tab _ _ 0) i
      rw [witer_len, gz_tab h0 h1]
      exact ev_congr fun j _ _ => (bey_witer hw hv hc).symm
theorem gz_witer {M : Mx} {w : Nat} {vs : List Int} {n : Nat} {x : Int} (hw : w < 3) (hc : w = 0 ∨ Even M.c M.s) (h0 : 0 ≤ x) (h1 : x < vs.length) : gz (witer M w n vs) x = evn M.c M.s n (bey w vs) x := by
  rw [← bey_witer hw (by omega) hc, bey_in h0 (by rw [witer_len]; exact h1)]
theorem bt_wst {M : Mx} {w l m q n : Nat} {vs : List Int} (hM : M.Bd l m q) (h : ∀ y ∈ vs, bt n y) : ∀ y ∈ wst M w vs, bt (m + n + l) y := fun y hy => by
  obtain ⟨j, _, _, rfl⟩ := tab_mem hy
  exact (bt_ev (fun y => bt_bey h) hM.cnt).mono (by have := hM.len; omega)
theorem bt_witer {M : Mx} {w l m q k : Nat} {vs : List Int} (hM : M.Bd l m q) (h : ∀ y ∈ vs, bt k y) : ∀ {n : Nat}, ∀ y ∈ witer M w n vs, bt (k + n * (m + l)) y
  | 0 => fun y hy => by simpa using h y hy
  | n + 1 => fun y hy => (bt_wst hM (bt_witer hM h (n := n)) y hy).mono (by rw [Nat.succ_mul]; omega)
theorem bt_pow {k : Nat} {p : Int} (h : bt k p) : ∀ n : Nat, bt (n * k + 1) (p ^ n)
  | 0 => by unfold bt; simp
  | n + 1 => by
    rw [Int.pow_succ]
    exact ((bt_pow h n).mul h).mono (by rw [Nat.succ_mul]; omega)
end Zr

/-! Zr: even mixes, lists of values, walls' sums. -/
namespace Zr
open PySem L2
theorem gz_rev {c : List Int} : gz c.reverse 0 = gz c (c.length - 1) := by
  cases h : c.length with
  | zero =>
    have : c = [] := List.length_eq_zero_iff.mp h
    subst this
    rfl
  | succ n =>
    have h0 := gz_in (vs := c.reverse) (i := 0) (by decide) (by rw [List.length_reverse]; omega)
    have h1 := gz_in (vs := c) (i := ((n + 1 : Nat) : Int) - 1) (by omega) (by omega)
    rw [show (0 : Int).toNat = 0 from rfl, List.getElem?_reverse (by omega), show c.length - 1 - 0 = (((n + 1 : Nat) : Int) - 1).toNat by omega, h1] at h0
    exact (Option.some.inj h0).symm
theorem norm_even {xs : List Int} {p s : Int} {M : Mx} (hN : NormOf xs p s M) (hr : xs.reverse = xs) (hs : 1 - s - xs.length = s) : Even M.c M.s := by
  obtain ⟨hc, g, k, l, g1, e1, e2, e3⟩ := hN
  obtain ⟨hc0, hc1, hc2, hc3, _⟩ := hc
  have hlen : 0 < M.c.length := List.length_pos_iff.mpr hc0
  have er : xs = List.replicate l 0 ++ ((M.c.map (g * ·)).reverse ++ List.replicate k 0) := by
    rw [← hr, e1]; simp
  have z1 : gz xs k ≠ 0 := by
    rw [e1, gz_app (by simp), gz_app1 (by simp; omega), List.length_replicate, Int.sub_self, gz_map]
    intro q
    rcases Int.mul_eq_zero.mp q with q | q
    · omega
    · exact hc1 q
  have z2 : gz xs l ≠ 0 := by
    rw [er, gz_app (by simp), gz_app1 (by simp; omega), List.length_replicate, Int.sub_self, gz_rev, gz_map, List.length_map]
    intro q
    rcases Int.mul_eq_zero.mp q with q | q
    · omega
    · exact hc2 q
  have hk : k = l := by
    rcases Nat.lt_trichotomy k l with q | q | q
    · rw [er, gz_app1 (by simp; omega), gz_rep] at z1
      exact absurd rfl z1
    · exact q
    · rw [e1, gz_app1 (by simp; omega), gz_rep] at z2
      exact absurd rfl z2
  subst hk
  rw [e1] at er
  have er2 := List.append_cancel_right (List.append_cancel_left er)
  have hrev : M.c.reverse = M.c := by
    rw [← List.map_reverse] at er2
    have : ∀ {a b : List Int}, a.map (g * ·) = b.map (g * ·) → a = b := by
      intro a
      induction a with
      | nil => intro b h; cases b with | nil => rfl | cons => simp at h
      | cons x a ih =>
        intro b h
        cases b with
        | nil => simp at h
        | cons y b =>
          simp only [List.map_cons, List.cons.injEq] at h
          rw [Int.eq_of_mul_eq_mul_left (by omega) h.1, ih h.2]
    exact (this er2).symm
  refine ⟨hrev, ?_⟩
  rw [e1] at hs
  simp only [List.length_append, List.length_replicate, List.length_map] at hs
  omega
/-! lists -/
theorem list_ext {α : Type} {f g : Int → α} : ∀ {xs ys : List Int}, xs.length = ys.length → (∀ i : Int, 0 ≤ i → i < xs.length → f (gz xs i) = g (gz ys i)) → xs.map f = ys.map g
  | [], [], _, _ => rfl
  | [], _ :: _, h, _ => by simp at h
  | _ :: _, [], h, _ => by simp at h
  | x :: xs, y :: ys, h, e => by
    rw [List.map_cons, List.map_cons]
    have h0 := e 0 (by decide) (by simp)
    rw [gz_zero, gz_zero] at h0
    rw [h0, list_ext (by simpa using h) fun i i0 i1 => by
      have := e (i + 1) (by omega) (by simp; omega)
      rw [gz_succ (by omega), gz_succ (by omega), show i + 1 - 1 = i by omega] at this
      exact this]
theorem ints_ext {xs ys : List Int} (h : xs.length = ys.length) (e : ∀ i : Int, 0 ≤ i → i < xs.length → gz xs i = gz ys i) : xs = ys := by
  have := list_ext (f := id) (g := id) h e
  simpa using this
theorem sum_su : ∀ {xs : List Int}, xs.sum = su (gz xs) xs.length 0
  | [] => rfl
  | x :: xs => by
    rw [List.sum_cons, List.length_cons, su_suc, gz_zero, sum_su]
    congr 1
    rw [← su_shift (c := 1)]
    exact su_congr fun j h1 h2 => by rw [gz_succ (by omega), show j + 1 - 1 = j by omega]
/-- around a ring a sum may begin anywhere -/
theorem su_per {v : Int → Int} {n : Nat} (h : ∀ x, v (x + n) = v x) : ∀ k : Int, su v n k = su v n 0 := by
  have one : ∀ k, su v n (k + 1) = su v n k := fun k => by
    cases n with
    | zero => rfl
    | succ n =>
      rw [su_last, su_suc, show k + 1 + (n : Int) = k + ((n + 1 : Nat) : Int) by omega, h]
      omega
  have pos : ∀ (m : Nat) (k : Int), su v n (k + m) = su v n k := by
    intro m
    induction m with
    | zero => intro k; simp
    | succ m ih => intro k; rw [show k + ((m + 1 : Nat) : Int) = k + m + 1 by omega, one, ih]
  intro k
  rcases Int.le_total 0 k with hk | hk
  · have := pos k.toNat 0
    rwa [show (0 : Int) + k.toNat = k by omega] at this
  · have := pos (-k).toNat k
    rw [show k + ((-k).toNat : Int) = 0 by omega] at this
    exact this.symm
theorem su_ev {v : Int → Int} {n : Nat} (h : ∀ x, v (x + n) = v x) : ∀ {c : List Int} {s : Int}, su (ev c s v) n 0 = c.sum * su v n 0
  | [], s => by
    rw [show ev [] s v = fun _ => 0 from funext fun x => ev_nil, su_zero]; simp
  | a :: c, s => by
    rw [show ev (a :: c) s v = fun x => a * v (x + s) + ev c (s + 1) v x from funext fun x => ev_cons, su_add, su_mul, su_shift, su_per h, su_ev h, List.sum_cons]
    grind
theorem evn_per {v : Int → Int} {n : Int} {c : List Int} {s : Int} (h : ∀ x, v (x + n) = v x) (k : Nat) : ∀ x, evn c s k v (x + n) = evn c s k v x := fun x => by
  rw [← evn_shift]
  exact evn_congr h
theorem su_evn {v : Int → Int} {n : Nat} {c : List Int} {s : Int} (h : ∀ x, v (x + n) = v x) : ∀ {k : Nat}, su (evn c s k v) n 0 = c.sum ^ k * su v n 0
  | 0 => by rw [Int.pow_zero, Int.one_mul]; rfl
  | k + 1 => by
    rw [evn_succ, su_ev (evn_per h k), su_evn h, Int.pow_succ]
    grind
/-- mirrors: the sum of two lengths is twice that of one -/
theorem su_mirror {v : Int → Int} {n : Nat} (h : Sym 1 n v) : su v (n + n) 0 = 2 * su v n 0 := by
  rw [Sym.mirror] at h
  rw [su_app]
  have key : ∀ (m : Nat) (k : Int), su v m k = su v m (2 * n - k - m) := by
    intro m
    induction m with
    | zero => intro k; rfl
    | succ m ih =>
      intro k
      rw [su_suc, su_last, ih (k + 1)]
      have e : v (2 * n - k - ((m + 1 : Nat) : Int) + m) = v k := by
        have h1 := h.2 k
        have h2 := h.1 (-1 - k)
        rw [show (2 : Int) * n - k - ((m + 1 : Nat) : Int) + m = -1 - k + 2 * n by omega, h2, h1]
      rw [e, show (2 : Int) * n - (k + 1) - m = 2 * n - k - ((m + 1 : Nat) : Int) by omega]
      omega
  rw [key n (0 + n), show (2 : Int) * n - (0 + n) - n = 0 by omega]
  omega
theorem gz_add {vs us : List Int} (f : Int → Int → Int) (hf : f 0 0 = 0) (hl : us.length = vs.length) {i : Int} : gz (tab (fun i => f (gz vs i) (gz us i)) vs.length 0) i = f (gz vs i) (gz us i) := by
  by_cases h0 : i < 0
  · rw [gz_neg h0, gz_neg h0, gz_neg h0, hf]
  · by_cases h1 : i < vs.length
    · rw [gz_tab (by omega) h1]
    · rw [gz_big (by rw [tab_len]; omega), gz_big (by omega), gz_big (by omega), hf]
theorem bey_add {w : Nat} {vs us : List Int} (hl : us.length = vs.length) {x : Int} : bey w (tab (fun i => gz vs i + gz us i) vs.length 0) x = bey w vs x + bey w us x := by
  have e : ∀ i, gz (tab (fun i => gz vs i + gz us i) vs.length 0) i = gz vs i + gz us i := fun i => gz_add (fun a b => a + b) rfl hl
  unfold bey
  simp only [tab_len, e, hl]
  repeat' split
  all_goals first | rfl | omega
end Zr
namespace Zr
open PySem L2
theorem dvd_gl {d : Int} : ∀ {xs : List Int} {a : Int}, d ∣ a → (∀ x ∈ xs, d ∣ x) → d ∣ gl a xs
  | [], a, h, _ => h
  | x :: xs, a, h, hx => dvd_gl (xs := xs) (Int.dvd_coe_gcd h (hx x List.mem_cons_self)) fun y hy => hx y (List.mem_cons_of_mem _ hy)
/-- what is in lowest form stays -/
theorem norm_id {xs : List Int} {p s : Int} {M : Mx} (h : NormOf xs p s M) (h0 : gz xs 0 ≠ 0) (h1 : gz xs (xs.length - 1) ≠ 0) (hg : gl 0 (xs ++ [p]) = 1) : M = ⟨xs, p, s⟩ := by
  obtain ⟨hc, g, k, l, g1, e1, e2, e3⟩ := h
  have hk : k = 0 := by
    cases k with
    | zero => rfl
    | succ k =>
      rw [e1, gz_app1 (by simp), gz_rep] at h0
      exact absurd rfl h0
  have hl : l = 0 := by
    cases l with
    | zero => rfl
    | succ l =>
      subst hk
      have hx : xs.length = M.c.length + (l + 1) := by rw [e1]; simp
      rw [hx, e1] at h1
      rw [show List.replicate 0 (0 : Int) ++ (M.c.map (g * ·) ++ List.replicate (l + 1) 0) = M.c.map (g * ·) ++ List.replicate (l + 1) 0 from rfl, gz_app (by rw [List.length_map]; omega), gz_rep] at h1
      exact absurd rfl h1
  subst hk
  subst hl
  rw [show List.replicate 0 (0 : Int) ++ (M.c.map (g * ·) ++ List.replicate 0 0) = M.c.map (g * ·) by simp] at e1
  have gd : g ∣ gl 0 (xs ++ [p]) := dvd_gl (Int.dvd_zero g) fun x hx => by
    rcases List.mem_append.mp hx with hx | hx
    · rw [e1] at hx
      obtain ⟨y, _, rfl⟩ := List.mem_map.mp hx
      exact Int.dvd_mul_right g y
    · rw [List.mem_singleton.mp hx, e2]
      exact Int.dvd_mul_right g _
  rw [hg] at gd
  have g2 : g = 1 := by have := Int.le_of_dvd (by decide) gd; omega
  subst g2
  have ec : M.c = xs := by rw [e1]; simp
  obtain ⟨c, p', s'⟩ := M
  simp only at ec e2 e3
  subst ec
  simp at e2 e3
  rw [e2, e3]
theorem low_zero {q : Int} (hq : 0 < q) : low 0 q = (0, 1) := by
  unfold low
  rw [Int.gcd_zero_left, Int.natAbs_of_nonneg (by omega), Int.zero_ediv, Int.ediv_self (by omega)]
theorem low_one {a : Int} : low a 1 = (a, 1) := by
  unfold low
  rw [Int.gcd_one_right]
  simp
end Zr

/-! Zr: what is carried in slot 0 without being looked at. -/
namespace Zr
open PySem L2
def Bq {α : Type} (x y : Sl) (f : Ev → Option (α × Ev)) : Prop := ∀ d, (f (x :: d) = none ∧ f (y :: d) = none) ∨ ∃ v d', f (x :: d) = some (v, x :: d') ∧ f (y :: d) = some (v, y :: d')
def Bg (x y : Sl) (t : DG) : Prop := ∀ z d, (t z (x :: d) = none ∧ t z (y :: d) = none) ∨ ∃ d', t z (x :: d) = some (x :: d') ∧ t z (y :: d) = some (y :: d')
def Bb (x y : Sl) (f : DB) : Prop := ∀ d, (f (x :: d) = none ∧ f (y :: d) = none) ∨ ∃ (vs : List D) (d' : Ev), f (x :: d) = some (vs.map Ar.va, x :: d') ∧ f (y :: d) = some (vs.map Ar.va, y :: d')
section
variable {x y : Sl} {f h : DE} {r s : DA} {b : DB} {t u : DT} {g : DG} {A B : DS}
theorem q_kc {z : D} : Bq x y (kc z) := fun d => .inr ⟨z, d, rfl, rfl⟩
theorem q_nm {i : Nat} : Bq x y (nm (i + 1)) := fun d => by
  unfold nm
  simp only [List.getElem?_cons_succ, List.set_cons_succ]
  split
  · exact .inr ⟨_, _, rfl, rfl⟩
  · exact .inr ⟨_, _, rfl, rfl⟩
  · exact .inl (by first | exact ⟨rfl, rfl⟩ | simp)
theorem q_b2 {k : D → D → Option D} (hf : Bq x y f) (hh : Bq x y h) : Bq x y (b2 k f h) := fun d => by
  unfold b2
  rcases hf d with ⟨a1, a2⟩ | ⟨v, d', a1, a2⟩
  · simp only [a1, a2]; exact .inl (by first | exact ⟨rfl, rfl⟩ | simp)
  · simp only [a1, a2]
    rcases hh d' with ⟨b1, b2⟩ | ⟨w, d2, b1, b2⟩
    · simp only [b1, b2]; exact .inl (by first | exact ⟨rfl, rfl⟩ | simp)
    · simp only [b1, b2]
      cases k v w with
      | none => exact .inl (by first | exact ⟨rfl, rfl⟩ | simp)
      | some z => exact .inr ⟨_, _, rfl, rfl⟩
theorem q_u1 {k : D → Option D} (hf : Bq x y f) : Bq x y (u1 k f) := fun d => by
  unfold u1
  rcases hf d with ⟨a1, a2⟩ | ⟨v, d', a1, a2⟩
  · simp only [a1, a2]; exact .inl (by first | exact ⟨rfl, rfl⟩ | simp)
  · simp only [a1, a2]
    cases k v with
    | none => exact .inl (by first | exact ⟨rfl, rfl⟩ | simp)
    | some z => exact .inr ⟨_, _, rfl, rfl⟩
theorem q_fi (ht : Bq x y t) (hf : Bq x y f) (hh : Bq x y h) : Bq x y (fi t f h) := fun d => by
  unfold fi
  rcases ht d with ⟨a1, a2⟩ | ⟨v, d', a1, a2⟩
  · simp only [a1, a2]; exact .inl (by first | exact ⟨rfl, rfl⟩ | simp)
  · simp only [a1, a2]
    cases v
    · exact hh d'
    · exact hf d'
theorem q_an : Bq x y an := fun d => .inr ⟨[], d, rfl, rfl⟩
theorem q_ac (hf : Bq x y f) (hr : Bq x y r) : Bq x y (ac f r) := fun d => by
  unfold ac
  rcases hf d with ⟨a1, a2⟩ | ⟨v, d', a1, a2⟩
  · simp only [a1, a2]; exact .inl (by first | exact ⟨rfl, rfl⟩ | simp)
  · simp only [a1, a2]
    rcases hr d' with ⟨b1, b2⟩ | ⟨w, d2, b1, b2⟩
    · simp only [b1, b2]; exact .inl (by first | exact ⟨rfl, rfl⟩ | simp)
    · simp only [b1, b2]; exact .inr ⟨_, _, rfl, rfl⟩
theorem q_cn {k : List D → Option D} (hr : Bq x y r) : Bq x y (cn k r) := fun d => by
  unfold cn
  rcases hr d with ⟨a1, a2⟩ | ⟨v, d', a1, a2⟩
  · simp only [a1, a2]; exact .inl (by first | exact ⟨rfl, rfl⟩ | simp)
  · simp only [a1, a2]
    cases k v with
    | none => exact .inl (by first | exact ⟨rfl, rfl⟩ | simp)
    | some z => exact .inr ⟨_, _, rfl, rfl⟩
theorem q_dt (hr : Bq x y r) : Bq x y (dt r) := fun d => by
  unfold dt
  rcases hr d with ⟨a1, a2⟩ | ⟨v, d', a1, a2⟩
  · simp only [a1, a2]; exact .inl (by first | exact ⟨rfl, rfl⟩ | simp)
  · simp only [a1, a2]
    by_cases q : v.length ≤ sizeLine
    · simp only [q, if_true]; exact .inr ⟨_, _, rfl, rfl⟩
    · simp only [q, if_false]; exact .inl (by first | exact ⟨rfl, rfl⟩ | simp)
theorem q_r1 (hf : Bq x y f) : Bq x y (Zr.r1 f) := fun d => by
  unfold Zr.r1
  rcases hf d with ⟨a1, a2⟩ | ⟨v, d', a1, a2⟩
  · simp only [a1, a2]; exact .inl (by first | exact ⟨rfl, rfl⟩ | simp)
  · simp only [a1, a2]
    cases v with
    | int j =>
      simp only
      cases q : rgOk 0 j
      · exact .inl (by first | exact ⟨rfl, rfl⟩ | simp)
      · exact .inr ⟨_, _, rfl, rfl⟩
    | _ => exact .inl (by first | exact ⟨rfl, rfl⟩ | simp)
theorem q_is (hf : Bq x y f) : Bq x y (is f) := fun d => by
  unfold is
  rcases hf d with ⟨a1, a2⟩ | ⟨v, d', a1, a2⟩
  · simp only [a1, a2]; exact .inl (by first | exact ⟨rfl, rfl⟩ | simp)
  · simp only [a1, a2]
    cases itD v with
    | none => exact .inl (by first | exact ⟨rfl, rfl⟩ | simp)
    | some z => exact .inr ⟨_, _, rfl, rfl⟩
theorem q_tb (hf : Bq x y f) : Bq x y (tb f) := fun d => by
  unfold tb
  rcases hf d with ⟨a1, a2⟩ | ⟨v, d', a1, a2⟩
  · simp only [a1, a2]; exact .inl (by first | exact ⟨rfl, rfl⟩ | simp)
  · simp only [a1, a2]
    cases v with
    | bl z => exact .inr ⟨_, _, rfl, rfl⟩
    | _ => exact .inl (by first | exact ⟨rfl, rfl⟩ | simp)
theorem q_yes : Bq x y yes := fun d => .inr ⟨true, d, rfl, rfl⟩
theorem b_bn : Bb x y bn := fun d => .inr ⟨[], d, rfl, rfl⟩
theorem b_bv (hf : Bq x y f) (hr : Bb x y b) : Bb x y (bv f b) := fun d => by
  unfold bv
  rcases hf d with ⟨a1, a2⟩ | ⟨v, d', a1, a2⟩
  · simp only [a1, a2]; exact .inl (by first | exact ⟨rfl, rfl⟩ | simp)
  · simp only [a1, a2]
    rcases hr d' with ⟨b1, b2⟩ | ⟨w, d2, b1, b2⟩
    · simp only [b1, b2]; exact .inl (by first | exact ⟨rfl, rfl⟩ | simp)
    · simp only [b1, b2]; exact .inr ⟨v :: w, _, rfl, rfl⟩
theorem b_dflt {ds : List D} (hr : Bb x y b) : Bb x y (dflt ds b) := fun d => by
  unfold dflt
  rcases hr d with ⟨a1, a2⟩ | ⟨v, d', a1, a2⟩
  · simp only [a1, a2]; exact .inl (by first | exact ⟨rfl, rfl⟩ | simp)
  · simp only [a1, a2]
    exact .inr ⟨v ++ ds, d', by rw [List.map_append], by rw [List.map_append]⟩
theorem iosOf_vs : ∀ vs : List D, iosOf (vs.map Ar.va) = []
  | [] => rfl
  | _ :: vs => iosOf_vs vs
theorem argsD_vs (d : Ev) (vs : List D) : argsD (vs.map Ar.va) d = some (vs.map Sl.va) := argsD_va vs d
theorem putD_vs (d : Ev) : ∀ (vs : List D) (t : Ev), putD (vs.map Ar.va) t d = if vs.length ≤ t.length then some d else none
  | [], t => by cases t <;> rfl
  | v :: vs, [] => rfl
  | v :: vs, z :: t => by
    show putD (vs.map Ar.va) t d = _
    rw [putD_vs d vs t]
    simp only [List.length_cons, Nat.add_le_add_iff_right]
theorem q_call {F : FD} (hb : Bb x y b) : Bq x y (callD F b) := fun d => by
  unfold callD
  rcases hb d with ⟨a1, a2⟩ | ⟨vs, d', a1, a2⟩
  · simp only [a1, a2]; exact .inl (by first | exact ⟨rfl, rfl⟩ | simp)
  · simp only [a1, a2, iosOf_vs, argsD_vs, show onceD [] = true from rfl, if_true]
    cases F (vs.map Sl.va) with
    | none => exact .inl (by first | exact ⟨rfl, rfl⟩ | simp)
    | some p =>
      obtain ⟨z, t'⟩ := p
      simp only [putD_vs]
      by_cases q : vs.length ≤ t'.length
      · simp only [q, if_true]; exact .inr ⟨_, _, rfl, rfl⟩
      · simp only [q, if_false]; exact .inl (by first | exact ⟨rfl, rfl⟩ | simp)
theorem g_gn {i : Nat} : Bg x y (gn (i + 1)) := fun z d => by
  unfold gn notIo
  simp only [List.getElem?_cons_succ, List.set_cons_succ]
  split
  · exact .inr ⟨_, rfl, rfl⟩
  · exact .inl (by first | exact ⟨rfl, rfl⟩ | simp)
theorem q_sa (hf : Bq x y f) (hg : Bg x y g) : Bq x y (sa f g) := fun d => by
  unfold sa
  rcases hf d with ⟨a1, a2⟩ | ⟨v, d', a1, a2⟩
  · simp only [a1, a2]; exact .inl (by first | exact ⟨rfl, rfl⟩ | simp)
  · simp only [a1, a2]
    rcases hg v d' with ⟨b1, b2⟩ | ⟨d2, b1, b2⟩
    · simp only [b1, b2]; exact .inl (by first | exact ⟨rfl, rfl⟩ | simp)
    · simp only [b1, b2]; exact .inr ⟨_, _, rfl, rfl⟩
theorem q_sag {i : Nat} {op : Int → Int → Option Int} (hf : Bq x y f) : Bq x y (sag (i + 1) op f) := fun d => by
  unfold sag
  simp only [List.getElem?_cons_succ]
  split
  · rename_i a e
    rcases hf d with ⟨a1, a2⟩ | ⟨v, d', a1, a2⟩
    · simp only [a1, a2]; exact .inl (by first | exact ⟨rfl, rfl⟩ | simp)
    · simp only [a1, a2]
      cases v with
      | int j =>
        simp only
        cases op a j with
        | none => exact .inl (by first | exact ⟨rfl, rfl⟩ | simp)
        | some c =>
          unfold notIo
          simp only [List.getElem?_cons_succ, List.set_cons_succ]
          split
          · exact .inr ⟨_, _, rfl, rfl⟩
          · exact .inl (by first | exact ⟨rfl, rfl⟩ | simp)
      | _ => exact .inl (by first | exact ⟨rfl, rfl⟩ | simp)
  · exact .inl (by first | exact ⟨rfl, rfl⟩ | simp)
theorem q_ss (ht : Bq x y t) (hA : Bq x y A) (hB : Bq x y B) : Bq x y (ss t A B) := fun d => by
  unfold ss
  rcases ht d with ⟨a1, a2⟩ | ⟨v, d', a1, a2⟩
  · simp only [a1, a2]; exact .inl (by first | exact ⟨rfl, rfl⟩ | simp)
  · simp only [a1, a2]
    cases v
    · exact hB d'
    · exact hA d'
theorem q_sk : Bq x y sk := fun d => .inr ⟨.nx, d, rfl, rfl⟩
theorem q_sq (hA : Bq x y A) (hB : Bq x y B) : Bq x y (sq A B) := fun d => by
  unfold sq
  rcases hA d with ⟨a1, a2⟩ | ⟨v, d', a1, a2⟩
  · simp only [a1, a2]; exact .inl (by first | exact ⟨rfl, rfl⟩ | simp)
  · simp only [a1, a2]
    cases v with
    | nx => exact hB d'
    | _ => exact .inr ⟨_, _, rfl, rfl⟩
theorem q_sr (hf : Bq x y f) : Bq x y (sr f) := fun d => by
  unfold sr
  rcases hf d with ⟨a1, a2⟩ | ⟨v, d', a1, a2⟩
  · simp only [a1, a2]; exact .inl (by first | exact ⟨rfl, rfl⟩ | simp)
  · simp only [a1, a2]; exact .inr ⟨_, _, rfl, rfl⟩
theorem q_fo (hg : Bg x y g) (hB : Bq x y B) : ∀ xs : List D, Bq x y (fo g B xs)
  | [], d => .inr ⟨.nx, d, rfl, rfl⟩
  | z :: xs, d => by
    unfold fo
    rcases hg z d with ⟨a1, a2⟩ | ⟨d', a1, a2⟩
    · simp only [a1, a2]; exact .inl (by first | exact ⟨rfl, rfl⟩ | simp)
    · simp only [a1, a2]
      rcases hB d' with ⟨b1, b2⟩ | ⟨w, d2, b1, b2⟩
      · simp only [b1, b2]; exact .inl (by first | exact ⟨rfl, rfl⟩ | simp)
      · simp only [b1, b2]
        cases w with
        | nx => exact q_fo hg hB xs d2
        | ct => exact q_fo hg hB xs d2
        | bk => exact .inr ⟨_, _, rfl, rfl⟩
        | _ => exact .inr ⟨_, _, rfl, rfl⟩
theorem q_sf (hr : Bq x y r) (hg : Bg x y g) (hB : Bq x y B) : Bq x y (sf r g B) := fun d => by
  unfold sf
  rcases hr d with ⟨a1, a2⟩ | ⟨v, d', a1, a2⟩
  · simp only [a1, a2]; exact .inl (by first | exact ⟨rfl, rfl⟩ | simp)
  · simp only [a1, a2]; exact q_fo hg hB v d'
theorem okO_one {z : Sl} {d : Ev} {i : Nat} : okO (z :: d) [i + 1] = okO d [i] := rfl
theorem q_cl {i : Nat} {c : DT} (hg : Bg x y g) (hc : Bq x y c) (hf : Bq x y f) : ∀ xs : List D, Bq x y (cl [i + 1] g c f xs)
  | [], d => .inr ⟨[], d, rfl, rfl⟩
  | z :: xs, d => by
    have ox : ∀ {q : Sl} {d2 : Ev}, okO d2 [i] = true → okO (q :: d2) [i + 1] = true := fun h => h
    have on : ∀ {q : Sl} {d2 : Ev}, ¬ okO d2 [i] = true → ¬ okO (q :: d2) [i + 1] = true := fun h => h
    unfold cl
    by_cases q0 : okO d [i] = true
    · rw [if_pos (ox q0), if_pos (ox q0)]
      rcases hg z (wp d [i]) with ⟨a1, a2⟩ | ⟨d1, a1, a2⟩
      · rw [show g z (wp (x :: d) [i + 1]) = none from a1, show g z (wp (y :: d) [i + 1]) = none from a2]; exact .inl ⟨rfl, rfl⟩
      · rw [show g z (wp (x :: d) [i + 1]) = some (x :: d1) from a1, show g z (wp (y :: d) [i + 1]) = some (y :: d1) from a2]
        simp only
        rcases hc d1 with ⟨b1, b2⟩ | ⟨w, d2, b1, b2⟩
        · rw [b1, b2]; exact .inl ⟨rfl, rfl⟩
        · rw [b1, b2]
          cases w with
          | false =>
            simp only
            by_cases q1 : okO d2 [i] = true
            · rw [if_pos (ox q1), if_pos (ox q1)]
              exact q_cl hg hc hf xs (bk [i] d d2)
            · rw [if_neg (on q1), if_neg (on q1)]; exact .inl ⟨rfl, rfl⟩
          | true =>
            simp only
            rcases hf d2 with ⟨c1, c2⟩ | ⟨v, d3, c1, c2⟩
            · rw [c1, c2]; exact .inl ⟨rfl, rfl⟩
            · rw [c1, c2]
              simp only
              by_cases q1 : okO d3 [i] = true
              · rw [if_pos (ox q1), if_pos (ox q1)]
                rcases q_cl hg hc hf xs (bk [i] d d3) with ⟨e1, e2⟩ | ⟨ys, d4, e1, e2⟩
                · have k1 : cl [i + 1] g c f xs (bk [i + 1] (x :: d) (x :: d3)) = none := e1
                  have k2 : cl [i + 1] g c f xs (bk [i + 1] (y :: d) (y :: d3)) = none := e2
                  rw [k1, k2]; exact .inl ⟨rfl, rfl⟩
                · have k1 : cl [i + 1] g c f xs (bk [i + 1] (x :: d) (x :: d3)) = some (ys, x :: d4) := e1
                  have k2 : cl [i + 1] g c f xs (bk [i + 1] (y :: d) (y :: d3)) = some (ys, y :: d4) := e2
                  rw [k1, k2]; exact .inr ⟨_, _, rfl, rfl⟩
              · rw [if_neg (on q1), if_neg (on q1)]; exact .inl ⟨rfl, rfl⟩
    · rw [if_neg (on q0), if_neg (on q0)]; exact .inl ⟨rfl, rfl⟩
theorem q_lc {i : Nat} {c : DT} (hr : Bq x y r) (hg : Bg x y g) (hc : Bq x y c) (hf : Bq x y f) : Bq x y (lc [i + 1] r g c f) := fun d => by
  unfold lc
  rcases hr d with ⟨a1, a2⟩ | ⟨v, d', a1, a2⟩
  · simp only [a1, a2]; exact .inl (by simp)
  · simp only [a1, a2]
    by_cases q : v.length ≤ sizeLine
    · simp only [q, if_true]
      rcases q_cl (i := i) hg hc hf v d' with ⟨e1, e2⟩ | ⟨ys, d4, e1, e2⟩
      · simp only [e1, e2]; exact .inl (by simp)
      · simp only [e1, e2]; exact .inr ⟨_, _, rfl, rfl⟩
    · simp only [q, if_false]; exact .inl (by simp)
/-- a def that looks at slot 0 in ways that do not tell x from y -/
theorem q_fn1 {m : Nat} {B : DS} {v w : D} (h : Bq (.va v) (.va w) B) : fnD 1 m B [.va v] = fnD 1 m B [.va w] := by
  have e : ∀ z : Sl, fnD 1 m B [z] = (match B (z :: List.replicate m .no) with
    | some (.rt x, d') => some (x, outs 1 d')
    | some (.nx, d') => some (.non, outs 1 d')
    | _ => none) := fun z => rfl
  rw [e, e]
  rcases h (List.replicate m .no) with ⟨a1, a2⟩ | ⟨u, d', a1, a2⟩
  · rw [a1, a2]
  · rw [a1, a2]
    cases u <;> rfl
end
end Zr

/-! Zr: functions that can be evaluated -/
namespace Zr
open PySem L2
/-- while, with so many turns at hand -/
noncomputable def whG (n : Nat) (c : DT) (B : DS) : DS := fun d => match whN c B n d with
  | some r => some r
  | none => wh c B d
theorem whG_eq (n : Nat) (c : DT) (B : DS) : wh c B = whG n c B := funext fun d => by
  unfold whG
  split
  · rename_i r e
    exact wh_of e
  · rfl
mutual
def D.same : D → D → Bool
  | .non, .non => true
  | .int a, .int b => decide (a = b)
  | .bl a, .bl b => a == b
  | .str a, .str b => decide (a = b)
  | .tup xs, .tup ys => D.sameL xs ys
  | .lst xs, .lst ys => D.sameL xs ys
  | .ob c xs, .ob d ys => decide (c = d) && D.sameL xs ys
  | _, _ => false
def D.sameL : List D → List D → Bool
  | [], [] => true
  | x :: xs, y :: ys => D.same x y && D.sameL xs ys
  | _, _ => false
end
mutual
theorem D.same_eq : ∀ {x y : D}, D.same x y = true → x = y
  | .non, y, h => by cases y <;> first | rfl | simp [D.same] at h
  | .int a, y, h => by cases y <;> simp [D.same] at h; rw [h]
  | .tup xs, y, h => by cases y <;> simp [D.same] at h; rw [D.sameL_eq h]
  | .lst xs, y, h => by cases y <;> simp [D.same] at h; rw [D.sameL_eq h]
  | .ob c xs, y, h => by cases y <;> simp [D.same] at h; rw [h.1, D.sameL_eq h.2]
  | .bl a, y, h => by cases y <;> simp [D.same] at h; rw [h]
  | .str a, y, h => by cases y <;> simp [D.same] at h; rw [h]
  | .fn _, y, h => by cases y <;> simp [D.same] at h
  | .scr _, y, h => by cases y <;> simp [D.same] at h
  | .dic _, y, h => by cases y <;> simp [D.same] at h
  | .dis _, y, h => by cases y <;> simp [D.same] at h
  | .dil _ _, y, h => by cases y <;> simp [D.same] at h
  | .ex _, y, h => by cases y <;> simp [D.same] at h
theorem D.sameL_eq : ∀ {x y : List D}, D.sameL x y = true → x = y
  | [], y, h => by cases y <;> first | rfl | simp [D.sameL] at h
  | x :: xs, y, h => by
    cases y
    · simp [D.sameL] at h
    · simp [D.sameL] at h
      rw [D.same_eq h.1, D.sameL_eq h.2]
end
def sameS : Sl → Sl → Bool
  | .no, .no => true
  | .va x, .va y => D.same x y
  | .ow x, .ow y => D.same x y
  | .io x, .io y => D.same x y
  | _, _ => false
theorem sameS_eq {x y : Sl} (h : sameS x y = true) : x = y := by
  cases x <;> cases y <;> simp [sameS] at h <;> first | rfl | rw [D.same_eq h]
def sameE : Ev → Ev → Bool
  | [], [] => true
  | x :: xs, y :: ys => sameS x y && sameE xs ys
  | _, _ => false
theorem sameE_eq : ∀ {x y : Ev}, sameE x y = true → x = y
  | [], [], _ => rfl
  | [], _ :: _, h => by simp [sameE] at h
  | _ :: _, [], h => by simp [sameE] at h
  | x :: xs, y :: ys, h => by
    simp [sameE] at h
    rw [sameS_eq h.1, sameE_eq h.2]
/-- that a call answers so -/
def ans (o : Option (D × Ev)) (x : D) (e : Ev) : Bool := match o with
  | some (y, e') => D.same y x && sameE e' e
  | none => false
theorem ans_eq {o : Option (D × Ev)} {x : D} {e : Ev} (h : ans o x e = true) : o = some (x, e) := by
  unfold ans at h
  split at h
  · simp at h
    rw [D.same_eq h.1, sameE_eq h.2]
  · cases h
end Zr

/-! Zr: == and != of tuples that hold objects with an own ==, where all items are equal. -/
namespace ZGQ
open PySem PySem.SeqAt GQ
open AutoSeq1 (wpAny_loadPart')
open MeetsSeq MeetsSeq2 MeetsSeq3 SeqRoads2
section
variable {prog : Program} {w : World} {A : Around} {R : Result → Shared → Prop}
theorem tne (p q : Addr) (us vs : Array Value) (m m' : Nat) (d1 d2 : Option Addr) (t1 t2 : Array (Option Value)) (hz : us.size = vs.size) (J : Nat → Shared → Prop)
    (step : ∀ j (a1 : j < us.size) (a2 : j < vs.size) z, J j z → wpAny (model prog w) A.in1 (eqBool us[j] vs[j]) (fun r z' => r = true ∧ J (j + 1) z') (fun e z' => R (.error e) z') z)
    (done : ∀ z, J us.size z → R (.ok (.ret (.bool false))) z) {z : Shared} (h1 : z.heap.get? p = some { cls := .type "tuple", dict := d1, data := .seq us m, slots := t1 }) (h2 : z.heap.get? q = some { cls := .type "tuple", dict := d2, data := .seq vs m', slots := t2 }) (h : J 0 z) :
    wpAny (model prog w) A.in1 (Builtin.«tuple.__ne__» ⟨[.ref p, .ref q], []⟩) (FinOf prog w A R) (fun e z' => R (.error e) z') z := by
  have subT := AutoSeq1.sub_tuple_tuple
  have lenZ : (us.toList.zip vs.toList).length = us.size := by simp [hz]
  have h00 := h
  obtain ⟨hp, g, d, tk, os⟩ := z
  wp_walk using wpAny_loadPart' h1, wpAny_loadPart' h2, wpAny_forIn_list _ (fun left c z' => c.1 = none ∧ ∃ j, left = (us.toList.zip vs.toList).drop j ∧ j ≤ us.size ∧ J j z') _
  case turn =>
    rintro ⟨a, b⟩ left c z' ⟨c0, j, e1, e2, hJ⟩
    have lt0 : j < (us.toList.zip vs.toList).length := Nat.lt_of_not_le fun k => by rw [List.drop_of_length_le k] at e1; cases e1
    have lt1 : j < us.size := lenZ ▸ lt0
    have lt2 : j < vs.size := hz ▸ lt1
    rw [List.drop_eq_getElem_cons lt0] at e1
    injection e1 with e3 e4
    have ea : a = us[j] := by have := congrArg Prod.fst e3; simpa using this
    have eb : b = vs[j] := by have := congrArg Prod.snd e3; simpa using this
    subst ea eb
    refine wpAny_bind (wpAny_mono (step j lt1 lt2 z' hJ) (fun r z2 k => ?_) fun _ _ k => k)
    obtain ⟨rfl, k⟩ := k
    wp_walk
    exact ⟨rfl, j + 1, e4, lt1, k⟩
  case fin =>
    rintro ⟨c1, c2⟩ z' ⟨c0, j, e1, e2, hJ⟩
    simp only at c0
    subst c0
    have ge0 : us.size ≤ j := Nat.le_of_not_lt fun k => by rw [← lenZ] at k; rw [List.drop_eq_getElem_cons k] at e1; cases e1
    obtain rfl : j = us.size := by omega
    have hR : R (.ok (.ret (.bool false))) z' := done z' hJ
    wp_walk
    simpa [Builtin.Tuple.tupleCompareSizes, hz, bne] using hR
  case h =>
    exact ⟨rfl, 0, rfl, Nat.zero_le _, h00⟩
end
section
variable {prog : Program} {w : World} {A : Around} {E : Value → Shared → Prop} {z : Shared}
theorem rc_ne {p q : Addr} {us vs : Array Value} {Q : Value → Shared → Prop} (hz : us.size = vs.size) (hu : A.units < cLine) (J : Nat → Shared → Prop)
    (h1 : z.heap.IsTuple p us) (h2 : z.heap.IsTuple q vs)
    (step : ∀ j (a1 : j < us.size) (a2 : j < vs.size) z, J j z → wpAny (model prog w) A.in1 (eqBool us[j] vs[j]) (fun r z' => r = true ∧ J (j + 1) z') E z)
    (done : ∀ z, J us.size z → Q (.bool false) z) (h : J 0 z) : wpAny (model prog w) A (richCompare .NotEq (.ref p) (.ref q)) Q E z := by
  obtain ⟨⟨c1, d1, a1, t1⟩, o1, k1, m1, l1⟩ := id h1
  obtain ⟨⟨c2, d2, a2, t2⟩, o2, k2, m2, l2⟩ := id h2
  simp only at k1 l1 k2 l2
  subst k1 l1 k2 l2
  refine wpAny_richCompare_same_room (op := .NotEq) ⟨_, o1, rfl⟩ ⟨_, o2, rfl⟩ F.slot_tuple_ne (call_here F.slot_tuple_ne ⟨_, o1, rfl⟩ F.entry_tuple_ne (F.args_tuple_ne_2 _ _) ?_) hu
  exact tne (R := wants (fun v z' => v ≠ .notImplemented ∧ Q v z') E) p q us vs m1 m2 d1 d2 t1 t2 hz J step (fun z' k => ⟨(fun x => nomatch x), done z' k⟩) o1 o2 h
end
end ZGQ
namespace Zr
open PySem PySem.Spec PyProof.Rows L2
section
variable {X : Cx} {n : Nat} {D0 : Eqv}
def RcN (X : Cx) (n : Nat) (D0 : Eqv) : Prop :=
  ∀ (A : Around) (pins : List (Addr × Obj)) (s : Shared) (σ : L2.St) (H : Hp) (x y : V) (u v : Value), Sub X n A → Inv X pins σ H s → RelV x u → RelV y v → D0 x y H →
    wpAny (model X.prog X.w) A (richCompare .NotEq u v) (fun r s' => r = .bool false ∧ ∃ H', Inv X pins σ H' s' ∧ L2.Ext H H') X.xe s
theorem rcN_tup (hD : Mon D0) (h : EqG X n D0) : RcN X (n + 1) (DTup X.K D0) := by
  intro A pins s σ H x y u v sb I rx ry d
  obtain ⟨p, q, xs, ys, rfl, rfl, h1, h2, P⟩ := d
  cases rx
  cases ry
  obtain ⟨us, r1, e1, _⟩ := I.tuple h1
  obtain ⟨vs, r2, e2, _⟩ := I.tuple h2
  have hz : us.toArray.size = vs.toArray.size := by
    have a1 := r1.length
    have a2 := r2.length
    have a3 := P.1
    simp only [List.size_toArray]
    omega
  exact ZGQ.rc_ne hz sb.room.units0 (fun _ s' => LoopI X pins σ H s') e1 e2 (fun i k1 k2 s' l => turnG hD h sb P r1 r2 i k1 k2 s' l) (fun s' l => ⟨rfl, l⟩) ⟨H, I, L2.Ext.rfl'⟩
def rNeG (D0 : Eqv) : R2 := fun x y H Q => D0 x y H ∧ ∀ H', L2.Ext H H' → Q (.bl false) H'
theorem op_neG (h : RcN X n D0) (hr : Room n X.A) : OpR X (compareOp .NotEq) (rNeG D0) := by
  intro pins s σ H x y v u Q I rx ry hq
  obtain ⟨d, q⟩ := hq
  show wpAny (model X.prog X.w) X.A (richCompare .NotEq v u) (EP X pins σ Q) X.xe s
  refine wpAny_mono (h X.A pins s σ H x y v u ⟨hr, rfl⟩ I rx ry d) (fun r s' z => ?_) fun _ _ x => x
  obtain ⟨rfl, H', I', e⟩ := z
  exact ⟨.bl false, H', I', rfl, q H' e⟩
end
/-! data -/
/-- item by item: plain ints and the like, or objects that the own == calls equal -/
def itEq (k : D → D → Option D) (x y : D) : Bool := match flat x, flat y with
  | some u, some v => eqV u v && flatV u && flatV v
  | _, _ => match k x y with
    | some (.bl true) => true
    | _ => false
def itsEq (k : D → D → Option D) : List D → List D → Bool
  | [], [] => true
  | x :: xs, y :: ys => itEq k x y && itsEq k xs ys
  | _, _ => false
def tqD (b : Bool) (k : D → D → Option D) : D → D → Option D
  | .tup xs, .tup ys => if itsEq k xs ys then some (.bl b) else none
  | _, _ => none
section
variable {G : Cls} {X : Cx} {F : FD} {c lv : Nat} {fA : Addr} {fd : FuncData} {ps : List Str}
/-- what the own == finds equal -/
def RqO (G : Cls) (c : Nat) (F : FD) (a b : Addr) (H : Hp) : Prop := ∃ S fs gs t', Same S H ∧ Rep G S (.ob c fs) (.ref a) ∧ Rep G S (.ob c gs) (.ref b) ∧ F [.va (.ob c fs), .va (.ob c gs)] = some (.bl true, t') ∧ t'.length = 2
theorem RqO.mon : ∀ a b H H', L2.Ext H H' → RqO G c F a b H → RqO G c F a b H' := fun a b H H' e ⟨S, fs, gs, t', h1, h2, h3, h4, h5⟩ => ⟨S, fs, gs, t', fun x o q => e x o (h1 x o q), h2, h3, h4, h5⟩
theorem fn_eqO (hF : ∀ d y, F d = some y → d.length = 2) (Fk : FnOk X.prog X.w X.K X.mg X.base CX0 lv fA fd ps (spD G 2 F)) : FnOk X.prog X.w X.K X.mg X.base CX0 lv fA fd ps (spEq (RqO G c F)) := Fk.imp fun vs H Q E q => by
  obtain ⟨a, b, rfl, ⟨S, fs, gs, t', h1, h2, h3, h4, h5⟩, q⟩ := q
  exact sp_va hF h1 (.cons h2 (.cons h3 .nil)) (xs := [.ob c fs, .ob c gs]) h4 h5 fun u S' H' ex ru => by
    rw [inv_bl ru]
    exact q H' ex.h
abbrev EqvO (G : Cls) (c : Nat) (F : FD) : Eqv := fun x y H => DFlat x y H ∨ DIns (G.adr c) (RqO G c F) x y H
theorem eqvO_mon : Mon (EqvO G c F) := Mon.or mon_flat (mon_ins RqO.mon)
theorem eqvO (hF : ∀ d y, F d = some y → d.length = 2) (T : EqOk X.K (G.adr c) fA) (Fk : FnOk X.prog X.w X.K X.mg X.base CX0 lv fA fd ps (spD G 2 F)) (hb : Binds X.K fd ps []) : EqG X lv (EqvO G c F) :=
  EqG.or (eqG_flat.mono (Nat.zero_le _)) (eqG_ins (fn_eqO hF Fk) T.eq T.fn hb pass0)
theorem itsEq_prs {S H : Hp} (sm : Same S H) : ∀ {xs ys : List D} {vs ws : List V}, RepL G S xs vs → RepL G S ys ws → itsEq (k2 c F) xs ys = true → Prs (EqvO G c F) vs ws H
  | [], [], _, _, r1, r2, _ => by unfold RepL at r1 r2; subst r1 r2; exact Prs.nil
  | x :: xs, y :: ys, _, _, r1, r2, e => by
    unfold RepL at r1 r2
    obtain ⟨v, vr, rfl, a1, a2⟩ := r1
    obtain ⟨w, wr, rfl, b1, b2⟩ := r2
    unfold itsEq at e
    rw [Bool.and_eq_true] at e
    refine Prs.cons ?_ (itsEq_prs sm a2 b2 e.2)
    have e1 := e.1
    unfold itEq at e1
    split at e1
    · rename_i u w' f1 f2
      rw [Bool.and_eq_true, Bool.and_eq_true] at e1
      obtain ⟨g1, _⟩ := flat_rep a1 f1
      obtain ⟨g2, _⟩ := flat_rep b1 f2
      exact .inl ⟨by rw [g1]; exact e1.1.2, by rw [g2]; exact e1.2, by rw [g1, g2]; exact e1.1.1⟩
    · split at e1
      · rename_i k
        obtain ⟨fs, gs, t', rfl, rfl, k1, k2⟩ := k2_inv k
        obtain ⟨a, dx, us, rfl, h1, _, _⟩ := inv_ob a1
        obtain ⟨b, dy, us', rfl, h2, _, _⟩ := inv_ob b1
        exact .inr ⟨a, b, dx, dy, _, _, rfl, rfl, sm _ _ h1, sm _ _ h2, S, fs, gs, t', sm, a1, b1, k1, k2⟩
      · cases e1
  | [], _ :: _, _, _, _, _, e => by cases e
  | _ :: _, [], _, _, _, _, e => by cases e
theorem ext1 {S H H' : Hp} (sm : Same S H) (e : L2.Ext H H') : Ext S H S H' := ⟨.refl _, e, fun a o q => e a o (sm a o q), fun _ _ q => .inl q⟩
theorem r_tne (hK : G.K = X.K) : R2D G (tqD false (k2 c F)) (rNeG (DTup X.K (EqvO G c F))) := fun S H x y z v w Q sm rx ry e q => by
  unfold tqD at e
  split at e
  · split at e
    · rename_i e1
      cases e
      obtain ⟨a, vs, rfl, h1, r1⟩ := inv_tup rx
      obtain ⟨b, ws, rfl, h2, r2⟩ := inv_tup ry
      rw [hK] at h1 h2
      exact ⟨⟨a, b, vs, ws, rfl, rfl, same_seqT sm h1, same_seqT sm h2, itsEq_prs sm r1 r2 e1⟩, fun H' e => q _ S H' (ext1 sm e) rep_bl⟩
    · cases e
  · cases e
theorem r_teq (hK : G.K = X.K) : R2D G (tqD true (k2 c F)) (rEqG (DTup X.K (EqvO G c F))) := fun S H x y z v w Q sm rx ry e q => by
  unfold tqD at e
  split at e
  · split at e
    · rename_i e1
      cases e
      obtain ⟨a, vs, rfl, h1, r1⟩ := inv_tup rx
      obtain ⟨b, ws, rfl, h2, r2⟩ := inv_tup ry
      rw [hK] at h1 h2
      exact ⟨⟨a, b, vs, ws, rfl, rfl, same_seqT sm h1, same_seqT sm h2, itsEq_prs sm r1 r2 e1⟩, fun H' e => q _ S H' (ext1 sm e) rep_bl⟩
    · cases e
  · cases e
theorem op_tne (hF : ∀ d y, F d = some y → d.length = 2) (T : EqOk X.K (G.adr c) fA) (Fk : FnOk X.prog X.w X.K X.mg X.base CX0 lv fA fd ps (spD G 2 F)) (hr : Room (lv + 1) X.A) (hb : Binds X.K fd ps []) : OpR X (compareOp .NotEq) (rNeG (DTup X.K (EqvO G c F))) :=
  op_neG (rcN_tup eqvO_mon (eqvO hF T Fk hb)) hr
theorem op_teq (hF : ∀ d y, F d = some y → d.length = 2) (T : EqOk X.K (G.adr c) fA) (Fk : FnOk X.prog X.w X.K X.mg X.base CX0 lv fA fd ps (spD G 2 F)) (hr : Room (lv + 1) X.A) (hb : Binds X.K fd ps []) : OpR X (compareOp .Eq) (rEqG (DTup X.K (EqvO G c F))) :=
  op_eqG (rcG_tup eqvO_mon (eqvO hF T Fk hb)) hr
end
end Zr

/-! Zr: defs as values, and calls of a local that holds one; three targets of which the first is a new object. -/
namespace Zr
open PySem L2
def fvF : List (Nat × FD) → Nat → Option FD
  | [], _ => none
  | (j, F) :: t, k => if k = j then some F else fvF t k
/-- the call of what slot i holds -/
def callL (i : Nat) (tab : List (Nat × FD)) (r : DB) : DE := fun d => match d[i]? with
  | some (.va (.fn k)) => match fvF tab k with
    | some F => callD F (dflt [] r) d
    | none => none
  | _ => none
section
variable {G : Cls} {X : Cx} {F : FD} {lv n m i : Nat} {fA : Addr} {fd : FuncData} {ps : List Str} {x : Str} {p pos : Pos} {e : Expr} {es : List Expr} {r : DB} {tab : List (Nat × FD)}
theorem rep_fnA {S : Hp} {k : Nat} {a : Addr} (h : G.adr k = a) : Rep G S (.fn k) (.ref a) := by subst h; exact rep_fn
theorem le_callLn {e : Expr} : LE G X e (callL i [] r) := ⟨fun pins s σ H Q I ⟨g, S, d, y, d', z, e1, q⟩ => by
  unfold callL at e1
  split at e1
  · cases e1
  · cases e1⟩
theorem le_callLc {k0 : Nat} (Fk : FnOk X.prog X.w X.K X.mg X.base CX0 lv fA fd ps (spD G n F)) (hr : Room lv X.A) (ha0 : G.adr k0 = fA) (hk : PySem.W.keepIn X.K (.ref fA) = true) (hb : Binds X.K fd ps []) (ha : LB G X (e :: es) r) (hM : Many r m) (hn : m = n)
    (ht : LE G X (.Call (.Name x p) (e :: es) [] pos) (callL i tab r)) (hN : X.N[i]? = some x := by rfl) (hv : Vis X.env.scope x := by first | exact Or.inl rfl | exact Or.inr (Or.inl rfl) | exact Or.inr (Or.inr rfl))
    (hdb : (x == ("__debug__" : Str)) = false := by decide) (hcd : (x == ("__classdict__" : Str)) = false := by decide)
    (he : starEach (e :: es) X.env = (false, eval e X.env) :: starEach es X.env := by rfl) (hpl : (backTo pos (starEach es X.env)).any (·.1) = false := by rfl) :
    LE G X (.Call (.Name x p) (e :: es) [] pos) (callL i ((k0, F) :: tab) r) := ⟨fun pins s σ H Q I h => by
  obtain ⟨g, S, d, y, d', z, e1, q⟩ := h
  have e1' := e1
  unfold callL at e1
  split at e1
  · rename_i k hd
    by_cases q0 : k = k0
    · subst q0
      simp only [fvF, if_true] at e1
      obtain ⟨w, h1, w', h2, h3⟩ := z.sl i _ hd
      cases h2
      have h3 : w' = .ref (G.adr k) := by unfold Rep at h3; exact h3
      subst h3
      rw [ha0] at h1
      exact (pe_callL (i := i) (f := fA) (sp := spD G n F) (dvs := []) Fk hr hN hv hk hb .nil pass0 ha hdb hcd he hpl).run pins s σ H Q I ⟨h1, lift_call (F := F) (dd := []) repl_nil (fun _ _ _ e => by rw [hM.len e]; exact hn) ⟨g, S, d, y, d', z, e1, q⟩⟩
    · refine ht.run pins s σ H Q I ⟨g, S, d, y, d', z, ?_, q⟩
      unfold callL
      rw [hd]
      simp only [fvF, if_neg q0] at e1
      exact e1
  · cases e1⟩
end
section
variable {G : Cls} {X : Cx} {a b c : Expr} {f h k : DE} {pos : Pos}
/-- of three the first one -/
def sp3O (i j l : Nat) (f h k : DE) : DS := fun d => match f d with
  | some (x, d1) => match h d1 with
    | some (y, d2) => match k d2 with
      | some (w, d3) => if notIo d3 i && (notIo d3 j && notIo d3 l) then some (.nx, ((d3.set i (.ow x)).set j (.va y)).set l (.va w)) else none
      | none => none
    | none => none
  | none => none
theorem ls_par3O {i j l : Nat} {x y t : Str} {px py pz pt : Pos} {kt k2 pt2} (hc : X.calm = true) (hN : X.N.Nodup) (hi : X.N[i]? = some x) (hj : X.N[j]? = some y) (hl : X.N[l]? = some t) (hij : i ≠ j) (hil : i ≠ l) (hjl : j ≠ l)
    (hx : X.env.scope.names.lookup x = some .local) (hy : X.env.scope.names.lookup y = some .local) (ht : X.env.scope.names.lookup t = some .local) (ha : LF G X a f) (hb : LE G X b h) (hd : LE G X c k)
    (hw : swappedStores [.Tuple [.Name x px, .Name y py, .Name t pz] kt pt] (.Tuple [a, b, c] k2 pt2) X.env = pure (some [x, y, t]))
    (hs : swapsWithSole [.Tuple [.Name x px, .Name y py, .Name t pz] kt pt] (.Tuple [a, b, c] k2 pt2) pos.line X.env = pure false := by rfl)
    (h1 : starEach [a, b, c] X.env = (false, eval a X.env) :: starEach [b, c] X.env := by rfl) (h2 : starEach [b, c] X.env = (false, eval b X.env) :: starEach [c] X.env := by rfl) (h3 : starEach [c] X.env = (false, eval c X.env) :: starEach [] X.env := by rfl) :
    LS G X (.Assign [.Tuple [.Name x px, .Name y py, .Name t pz] kt pt] (.Tuple [a, b, c] k2 pt2) pos) (sp3O i j l f h k) := ps_weak (ps_par3 hc hN hi hj hl hij hil hjl hx hy ht (pa_cons ha (pa_cons hb (pa_cons hd pa_nil h3) h2) h1) hw hs) fun D s H ⟨g, S, d, fl, d', z, e, q⟩ => by
  unfold sp3O at e
  split at e
  · rename_i x1 d1 e1
    split at e
    · rename_i x2 d2 e2
      split at e
      · rename_i x3 d3 e4
        split at e
        · rename_i e3
          rw [Bool.and_eq_true, Bool.and_eq_true] at e3
          cases e
          refine ⟨g, S, d, x1, d1, z, e1, fun a H1 S1 sm1 z1 ct k1 k2 k3 k4 => ?_⟩
          obtain ⟨o, ho, nh⟩ := ct.soft
          have hs0 : g.S0 a = none := z1.s1.free k1
          refine ⟨g.hold a o, S1, d1, x2, d2, z1.hold ho k1 k4 nh, e2, fun v H2 S2 sm2 z2 r2 => ⟨g.hold a o, S2, d2, x3, d3, z2, e4, fun w H3 S3 sm3 z3 r3 => ⟨.ref a, v, w, rfl, ?_⟩⟩⟩
          obtain ⟨z4, n4, a4, s4⟩ := z3.unhold k2 k3 hs0
          refine q _ H3 S3 (sm1.trans (sm2.trans sm3)) (((z4.setOw e3.1 (ct.mono (sm2.trans sm3) (a4.trans ho.symm)) s4 k2 k3 n4).setVa (notIo_setO e3.2.1 e3.1) (r2.mono sm3)).setVa ?_ r3)
          have := notIo_setO (x := x1) e3.2.2 e3.1
          exact notIo_set this (notIo_setO e3.2.1 e3.1)
        · cases e
      · cases e
    · cases e
  · cases e
/-- three values -/
def sp3V (i j l : Nat) (f h k : DE) : DS := fun d => match f d with
  | some (x, d1) => match h d1 with
    | some (y, d2) => match k d2 with
      | some (w, d3) => if notIo d3 i && (notIo d3 j && notIo d3 l) then some (.nx, ((d3.set i (.va x)).set j (.va y)).set l (.va w)) else none
      | none => none
    | none => none
  | none => none
theorem ls_par3V {i j l : Nat} {x y t : Str} {px py pz pt : Pos} {kt k2 pt2} (hc : X.calm = true) (hN : X.N.Nodup) (hi : X.N[i]? = some x) (hj : X.N[j]? = some y) (hl : X.N[l]? = some t) (hij : i ≠ j) (hil : i ≠ l) (hjl : j ≠ l)
    (hx : X.env.scope.names.lookup x = some .local) (hy : X.env.scope.names.lookup y = some .local) (ht : X.env.scope.names.lookup t = some .local) (ha : LE G X a f) (hb : LE G X b h) (hd : LE G X c k)
    (hw : swappedStores [.Tuple [.Name x px, .Name y py, .Name t pz] kt pt] (.Tuple [a, b, c] k2 pt2) X.env = pure (some [x, y, t]))
    (hs : swapsWithSole [.Tuple [.Name x px, .Name y py, .Name t pz] kt pt] (.Tuple [a, b, c] k2 pt2) pos.line X.env = pure false := by rfl)
    (h1 : starEach [a, b, c] X.env = (false, eval a X.env) :: starEach [b, c] X.env := by rfl) (h2 : starEach [b, c] X.env = (false, eval b X.env) :: starEach [c] X.env := by rfl) (h3 : starEach [c] X.env = (false, eval c X.env) :: starEach [] X.env := by rfl) :
    LS G X (.Assign [.Tuple [.Name x px, .Name y py, .Name t pz] kt pt] (.Tuple [a, b, c] k2 pt2) pos) (sp3V i j l f h k) := ps_weak (ps_par3 hc hN hi hj hl hij hil hjl hx hy ht (pa_cons ha (pa_cons hb (pa_cons hd pa_nil h3) h2) h1) hw hs) fun D s H ⟨g, S, d, fl, d', z, e, q⟩ => by
  unfold sp3V at e
  split at e
  · rename_i x1 d1 e1
    split at e
    · rename_i x2 d2 e2
      split at e
      · rename_i x3 d3 e4
        split at e
        · rename_i e3
          rw [Bool.and_eq_true, Bool.and_eq_true] at e3
          cases e
          refine ⟨g, S, d, x1, d1, z, e1, fun v H1 S1 sm1 z1 r1 => ⟨g, S1, d1, x2, d2, z1, e2, fun v2 H2 S2 sm2 z2 r2 => ⟨g, S2, d2, x3, d3, z2, e4, fun w H3 S3 sm3 z3 r3 => ⟨v, v2, w, rfl, ?_⟩⟩⟩⟩
          exact q _ H3 S3 (sm1.trans (sm2.trans sm3)) (((z3.setVa e3.1 (r1.mono (sm2.trans sm3))).setVa (notIo_set e3.2.1 e3.1) (r2.mono sm3)).setVa (notIo_set (notIo_set e3.2.2 e3.1) (notIo_set e3.2.1 e3.1)) r3)
        · cases e
      · cases e
    · cases e
  · cases e
end
end Zr

/-! Zr: texts: join, f-strings, str of one's own objects. -/
namespace Zr
open PySem PySem.Spec PyProof.Rows L2
def asStrs : List D → Option (List Str)
  | [] => some []
  | .str x :: r => match asStrs r with
    | some xs => some (x :: xs)
    | none => none
  | _ => none
theorem asStrs_rep {G : Cls} {S : Hp} : ∀ {ds : List D} {vs : List V} {ys : List Str}, RepL G S ds vs → asStrs ds = some ys → vs = ys.map V.str
  | [], _, _, r, e => by cases e; unfold RepL at r; subst r; rfl
  | d :: ds, _, _, r, e => by
    unfold asStrs at e
    split at e
    · rename_i q; cases q
    · rename_i x r' q
      cases q
      split at e
      · rename_i xs e1
        cases e
        unfold RepL at r
        obtain ⟨v, vr, rfl, r1, r2⟩ := r
        rw [inv_str r1, asStrs_rep r2 e1]; rfl
      · cases e
    · cases e
/-- sep.join(texts) -/
def joinD : D → D → Option D
  | .str a, .lst ds => match asStrs ds with
    | some ys => if (ys.map (·.length)).sum + ys.length * a.length ≤ 16777216 then some (.str (Txt.join a ys)) else none
    | none => none
  | .str a, .tup ds => match asStrs ds with
    | some ys => if (ys.map (·.length)).sum + ys.length * a.length ≤ 16777216 then some (.str (Txt.join a ys)) else none
    | none => none
  | _, _ => none
section
variable {G : Cls} {X : Cx} {f h : DE} {o e : Expr}
theorem le_join {apos pos : Pos} (hK : G.K = X.K) (ho : LE G X o f) (he : LE G X e h) (hs : starEach [e] X.env = [(false, eval e X.env)] := by rfl) (hbase : attributeBase o "join" X.env (eval o X.env) = eval o X.env := by rfl) (hline : (apos.endLine == pos.line) = true := by rfl) :
    LE G X (.Call (.Attribute o "join" apos) [e] [] pos) (b2 joinD f h) := pe_weak (pe_join ho he hs hbase hline) fun s H Q ⟨g, S, d, z, d', zt, q, k⟩ => by
  obtain ⟨x, d1, y, e1, e2, e3⟩ := b2_inv q
  unfold joinD at e3
  split at e3
  · split at e3
    · rename_i a ds _ ys e4
      split at e3
      · rename_i e5
        cases e3
        refine ⟨g, S, d, _, d1, zt, e1, fun v H1 S1 s1 z1 r1 => ⟨⟨a, inv_str r1⟩, g, S1, d1, _, d', z1, e2, fun w H2 S2 s2 z2 r2 => ?_⟩⟩
        obtain ⟨p, us, rfl, h1, h2⟩ := inv_lst r2
        have q1 := asStrs_rep h2 e4
        subst q1
        exact ⟨a, p, ys, inv_str r1, rfl, .inl (SqL.of (z2.sh _ _ h1)), e5, k _ H2 S2 (s1.trans s2) z2 rep_str⟩
      · cases e3
    · cases e3
  · split at e3
    · rename_i a ds _ ys e4
      split at e3
      · rename_i e5
        cases e3
        refine ⟨g, S, d, _, d1, zt, e1, fun v H1 S1 s1 z1 r1 => ⟨⟨a, inv_str r1⟩, g, S1, d1, _, d', z1, e2, fun w H2 S2 s2 z2 r2 => ?_⟩⟩
        obtain ⟨p, us, rfl, h1, h2⟩ := inv_tup r2
        have q1 := asStrs_rep h2 e4
        subst q1
        rw [hK] at h1
        exact ⟨a, p, ys, inv_str r1, rfl, .inr (same_seqT z2.sh h1), e5, k _ H2 S2 (s1.trans s2) z2 rep_str⟩
      · cases e3
    · cases e3
  · cases e3
/-! f-strings -/
def fmtD : D → Option D
  | .str y => if y.length ≤ sizeLine then some (.str y) else none
  | .int i => if i.natAbs.log2 < 1920 then some (.str (toString i)) else none
  | _ => none
theorem le_fmt {pos : Pos} (he : LE G X e f) : LE G X (.FormattedValue e (-1) none pos) (u1 fmtD f) := pe_weak (pe_fmt he) fun s H Q ⟨g, S, d, z, d', zt, q, k⟩ => by
  obtain ⟨x, e1, e3⟩ := u1_inv q
  refine ⟨g, S, d, x, d', zt, e1, fun v H1 S1 s1 z1 r1 => ?_⟩
  unfold fmtD at e3
  split at e3
  · split at e3
    · rename_i hy
      cases e3
      exact .inl ⟨_, inv_str r1, hy, k _ H1 S1 s1 z1 rep_str⟩
    · cases e3
  · split at e3
    · rename_i hy
      cases e3
      exact .inr ⟨_, inv_int r1, hy, k _ H1 S1 s1 z1 rep_str⟩
    · cases e3
  · cases e3
abbrev DJ := Str → Ev → Option (Str × Ev)
def jn : DJ := fun acc d => some (acc, d)
def jc (f : DE) (r : DJ) : DJ := fun acc d => match f d with
  | some (.str y, d1) => if (acc ++ y).length ≤ sizeLine then r (acc ++ y) d1 else none
  | _ => none
def js (r : DJ) : DE := fun d => match r Str.empty d with
  | some (out, d') => some (.str out, d')
  | none => none
def LJ (G : Cls) (X : Cx) (es : List Expr) (r : DJ) : Prop := ∃ ts, PJ X es ts ∧ ∀ acc s H (Q : Str → Hp → Prop) g S d out d', Zt G g S s H d → r acc d = some (out, d') → (∀ H' S', Same S S' → Zt G g S' s H' d' → Q out H') → tJs ts acc s H Q
theorem lj_nil : LJ G X [] jn := ⟨[], .nil, fun acc s H Q g S d out d' zt e q => by cases e; exact q H S (.refl _) zt⟩
theorem lj_cons {es : List Expr} {r : DJ} (he : LE G X e f) (hr : LJ G X es r) : LJ G X (e :: es) (jc f r) := by
  obtain ⟨ts, h1, h2⟩ := hr
  refine ⟨_, .cons he h1, fun acc s H Q g S d out d' zt q k => ?_⟩
  unfold jc at q
  split at q
  · rename_i y d1 e1
    split at q
    · rename_i e2
      exact ⟨g, S, d, _, d1, zt, e1, fun v H1 S1 s1 z1 r1 => ⟨y, inv_str r1, e2, h2 _ s H1 Q g S1 d1 out d' z1 q fun H' S' sm z' => k H' S' (s1.trans sm) z'⟩⟩
    · cases q
  · cases q
theorem le_js {v1 v2 : Expr} {es : List Expr} {r : DJ} {pos : Pos} (h : LJ G X (v1 :: v2 :: es) r) : LE G X (.JoinedStr (v1 :: v2 :: es) pos) (js r) := by
  obtain ⟨ts, h1, h2⟩ := h
  refine pe_weak (pe_joined h1) fun s H Q ⟨g, S, d, z, d', zt, q, k⟩ => ?_
  unfold js at q
  split at q
  · rename_i out d2 e1
    cases q
    exact h2 _ s H _ g S d out d' zt e1 fun H' S' sm z' => k _ H' S' sm z' rep_str
  · cases q
end
/-! str of one's own objects -/
/-- what str of a class asks -/
structure StrOk (K : PySem.W.Frag) (C : Addr) (f : Addr) : Prop where
  st : PySem.W.findIn K (.ref C) "__str__" = some (some (.ref f))
  fn : PySem.W.isFn K (.ref f) = true
section
variable {G : Cls} {X : Cx} {F : FD} {c lv : Nat} {fA : Addr} {fd : FuncData} {ps : List Str}
def rStrO (G : Cls) (c : Nat) (F : FD) : List V → Hp → VK → Prop := fun xs H Q => ∃ a dx fs, xs = [V.ref a] ∧ H a = some (.ins (G.adr c) dx fs) ∧ spD G 1 F [.ref a] H (fun z H' => ∃ t, z = .str t ∧ Q (.str t) H') (fun _ _ _ => False)
theorem cr_strO (T : StrOk X.K (G.adr c) fA) (Fk : FnOk X.prog X.w X.K X.mg X.base CX0 lv fA fd ps (spD G 1 F)) (hr : Room (lv + 2) X.A) (hb : Binds X.K fd ps []) : CallR X (.type "str") (rStrO G c F) := by
  intro pins s σ H xs us Q I r h
  obtain ⟨a, dx, fs, rfl, ha, q⟩ := h
  rw [Vals.ref1 r]
  obtain ⟨mA, J, _⟩ := ins_get I.hok ha
  obtain ⟨od, J, _⟩ := J.look
  refine PySem.W.kso_call (by have := hr.in1.in1.units; omega) I.kIn J T.st T.fn ?_
  refine wpAny_mono (wpAny_call (run_at (us := [.ref a]) (ws := [.ref a]) Fk hr.in1.in1 hb I.env0.in1.in1 I (.cons rfl .nil) q)) (fun w s' z => ?_) fun _ _ x => x
  obtain ⟨z', H', I', rz, t, rfl, qz⟩ := z
  obtain ⟨u, rfl⟩ := rz
  exact ⟨.str t, H', I', ⟨u, rfl⟩, qz⟩
def nStrO (c : Nat) (F : FD) : List D → Option D
  | [.ob c1 fs] => if c1 = c then match F [.va (.ob c fs)] with
      | some (.str t, t') => if t'.length = 1 then some (.str t) else none
      | _ => none
    else none
  | _ => none
theorem r_strO (hF : ∀ d y, F d = some y → d.length = 1) : RnD G (nStrO c F) (rStrO G c F) := fun S H xs z vs Q sm r e q => by
  unfold nStrO at e
  split at e
  · rename_i c1 fs
    split at e
    · rename_i h1
      subst h1
      split at e
      · rename_i t t' e1
        split at e
        · rename_i e2
          cases e
          obtain ⟨v, rfl, r1⟩ := repL1 r
          obtain ⟨a, dx, us, rfl, h2, _, _⟩ := inv_ob r1
          exact ⟨a, dx, _, rfl, sm _ _ h2, sp_va hF sm (.cons r1 .nil) (xs := [.ob c1 fs]) e1 e2 fun u S' H' ex ru => ⟨t, inv_str ru, q _ S' H' ex rep_str⟩⟩
        · cases e
      · cases e
    · cases e
  · cases e
end
end Zr

/-! Zr: defs that are run where no repr is under way (the law itself), and repr of plain data there. -/
namespace Zr
open PySem PySem.Spec PyProof.Rows L2
/-- a def's promise where the guards are known to be none -/
structure FnAt (P : Program) (w : World) (K : PySem.W.Frag) (mg : Str → Option Value) (base : Heap) (k : Nat) (f : Addr) (fd : FuncData) (ps : List Str) (sp : Sp) : Prop where
  len : ∀ vs H Q E, sp vs H Q E → vs.length = ps.length
  run : ∀ (B : Around) (ot : List Env) (z : Shared) (H : Hp) (ar : Args) (us : List Value) (vs : List V) (Q : VK) (E : XK), Room k B → B.guards = some [] → Env0 P w K mg base B ot z H → BindsTo z fd ar (ps.zip us) → Vals vs us → sp vs H Q E →
    codeAny (model P w) B (.call (.ref f) ar) (CR CX0 ot P w H z Q E) z
theorem FnAt.imp {P : Program} {w : World} {K : PySem.W.Frag} {mg : Str → Option Value} {base : Heap} {k : Nat} {f : Addr} {fd : FuncData} {ps : List Str} {sp sp' : Sp} (F : FnAt P w K mg base k f fd ps sp)
    (h : ∀ vs H Q E, sp' vs H Q E → sp vs H Q E) : FnAt P w K mg base k f fd ps sp' :=
  ⟨fun vs H Q E q => F.len vs H Q E (h _ _ _ _ q), fun B ot z H ar us vs Q E hr hg he hb hv hs => F.run B ot z H ar us vs Q E hr hg he hb hv (h _ _ _ _ hs)⟩
section
variable {P : Program} {w : World} {K : PySem.W.Frag} {mg : Str → Option Value} {base : Heap} {N ps : List Str} {k : Nat} {qual x : Str} {st : Stmt} {f : Addr} {fd : FuncData} {n m : Nat} {B : DS} {G : L2.St → Prop}
theorem fun_at {sp : Sp} (F : Fun K x qual st f fd) (Sc : FnScope N ps (defScope st)) (len : ∀ vs H Q E, sp vs H Q E → vs.length = ps.length)
    (hbody : ∀ (cdv : Value) (A : Around) (ot : List Env) (z : Shared) (H : Hp) (vs : List V) (Q : VK) (E : XK), Room k (A.deeper (envOfC qual (defScope st) z.heap.objs.size f cdv)) → A.guards = some [] → sp vs H Q E →
      ∃ t, PSs (cxOf CX0 P w K mg base N qual (defScope st) f cdv A ot z H E).nox (defBody st) t ∧ t { nx := fun _ H' => Q .non H', rt := Q } (start N vs) H) : FnAt P w K mg base (k + 1) f fd ps sp := by
  obtain ⟨oc, od, kV, doc, pm, an, cdv, ct, osl, rfl, look, code⟩ := F.ex
  refine ⟨len, fun A ot z H ar us vs Q E rm gd e0 bd rv hsp => ?_⟩
  have vl := len _ _ _ _ hsp
  have inK : K.In z.heap := e0.mod.kin.keeps fun b o e => (e0.bs b o e).1
  have noL : z.heap.NoLimit := e0.mod.nolimit.keeps fun b o e => (e0.bs b o e).1
  have kinds : ∀ y ∈ ps.zip us, (defScope st).names.lookup y.1 = some .local ∨ ((defScope st).names.lookup y.1 = some .cell ∧ ((cellsFrom (z.heap.objs.size + 1) (defScope st).names []).lookup y.1).isSome = true) := fun ⟨a, b⟩ hy =>
    (Sc.par a (List.of_mem_zip hy).1).elim Or.inl fun q => .inr ⟨q, PySem.W.cellsFrom_some _ _ _ (.inl q)⟩
  refine codeAny_call_function rm.depth (inK _ _ look) rfl Sc.co Sc.gen rfl (PySem.W.codeRec_of inK code) (bd _ _ _ _ ?_)
  refine wpAny_newFunctionEnv_cells Sc.kind kinds fun env henv z1 y => ?_
  subst henv
  refine ⟨noL.keeps y.toInCall.keep, codeAny_func ?_⟩
  obtain ⟨t, body, tq⟩ := hbody cdv A ot z H vs Q E (rm.deeper _) gd hsp
  have J0 : Inv (cxOf CX0 P w K mg base N qual (defScope st) f cdv A ot z H E) [] (start N vs) H z1 := inv_start Sc rm.hd e0 vl rv y
  refine wpAny_mono (body.nox.run [] z1 (start N vs) H _ J0 tq) (fun fl z' hz => ?_) fun e z' hz => hz
  have fin : ∀ {σ' : L2.St} {H' : Hp} {v : V} {u : Value}, Inv (cxOf CX0 P w K mg base N qual (defScope st) f cdv A ot z H E) [] σ' H' z' → RelV v u → Q v H' → CE ot P w H z Q u z' :=
    fun {σ' H' v u} J rv' q => ⟨v, H', J.os, J.bare, J.base, J.hok, rv', q⟩
  cases fl with
  | ret u => exact let ⟨v, σ', H', J, rv', q⟩ := hz; fin J rv' q
  | next => exact let ⟨σ', H', J, q⟩ := hz; fin (v := V.non) (u := Value.none) J rfl q
  | brk => exact let ⟨_, _, _, q⟩ := hz; False.elim q
  | cont => exact let ⟨_, _, _, q⟩ := hz; False.elim q
theorem fn_at {Gc : Cls} (F : Fun K x qual st f fd) (Sc : FnScope N ps (defScope st)) (hn : n = ps.length) (hm : m = N.length - n)
    (hb : ∀ (cdv : Value) (A : Around) (ot : List Env) (z : Shared) (H : Hp) (E : XK), Room k (A.deeper (PyProof.Rows.envOfC qual (defScope st) z.heap.objs.size f cdv)) → A.guards = some [] → LSs Gc (cxOf CX0 P w K mg base N qual (defScope st) f cdv A ot z H E).nox (defBody st) B) :
    FnAt P w K mg base (k + 1) f fd ps (spD Gc n (fnD n m B)) := by
  refine fun_at F Sc (fun vs H Q E h => h.1.trans hn) fun cdv A ot z0 H vs Q E hr hg h => ?_
  obtain ⟨hl, g, S, d, x, d', z, e, q⟩ := h
  refine ⟨_, hb cdv A ot z0 H E hr hg, ?_⟩
  have hd : d.length = n := by rw [← hl, ← z.ln, List.length_map]
  unfold fnD at e
  rw [if_pos hd] at e
  have z1 := z.pad (N := N) (m := m) (by rw [hm, hl])
  split at e
  · rename_i y d2 e2
    cases e
    rw [← hd] at q
    exact ⟨g, S, _, _, d2, z1, e2, fun v s' H' S' sm z' r => q v H' S' sm (z.outs z') r⟩
  · rename_i d2 e2
    cases e
    rw [← hd] at q
    exact ⟨g, S, _, _, d2, z1, e2, fun s' H' S' sm z' => q _ H' S' sm (z.outs z') rep_non⟩
  · cases e
end
/-- the law is called -/
theorem law_at {P : Program} {w : World} {K : PySem.W.Frag} {mg mb : Str → Option Value} {k : Nat} {fa a : Addr} {fd : FuncData} {x : Str} {sp : Sp} {z : Shared} {vs : List Value} {ns : List Int}
    (inK : K.In z.heap) (hns : z.heap.Ns mainGlobals mg) (nb : z.heap.Ns builtinsNs mb) (bb : ∀ x : Str, x ≠ "__name__" → mb x = bootBuiltins x) (noL : z.heap.NoLimit) (gens : z.gens = #[])
    (ha : z.heap.get? a = some { cls := .type "list", data := .seq vs.toArray }) (areI : IntsAre vs ns) (hl : ns.length ≤ sizeLine) (rm : Room k callerA)
    (F : ∀ base : Heap, K.In base → base.Ns mainGlobals mg → FnAt P w K mg base k fa fd [x] sp) (bind : ∀ (s : Shared) (u : Value), BindsTo s fd ⟨[u], []⟩ [(x, u)])
    (hsp : ∀ H : Hp, Only H → SqL K H a (ns.map V.int) → sp [.ref a] H (fun v _ => v = .bl true) fun _ _ _ => False) :
    codeAny (model P w) callerA (.call (.ref fa) ⟨[.ref a], []⟩) (fun r z' => r = .ok (.ret (.bool true)) ∧ OldK z.heap z'.heap ∧ z'.os = z.os ∧ AllBare z'.gens) z := by
  have rv := vals_ints areI
  have lv := areI.length
  have core : ∀ H : Hp, Only H → SqL K H a (ns.map V.int) → HOk P w H z.heap → (∀ b, H b ≠ none → b = a) → (H a ≠ none → K.lookup a = none) →
      codeAny (model P w) callerA (.call (.ref fa) ⟨[.ref a], []⟩) (fun r z' => r = .ok (.ret (.bool true)) ∧ OldK z.heap z'.heap ∧ z'.os = z.os ∧ AllBare z'.gens) z := by
    intro H only sq hok one hid
    have old : ∀ {b : Addr} {o : Obj}, z.heap.get? b = some o → H b = none → (hidT z.heap H).get? b = some o := fun e n => hidT_get e n
    have notA : ∀ {b : Addr} {o : Obj} {es : Array DictEntry} {ep : Nat}, z.heap.get? b = some o → o.data = .dict es ep → H b = none := fun {b o es ep} e d => Classical.byContradiction fun q => by
      obtain rfl := one b q
      rw [ha] at e
      cases e
      exact nomatch (show Data.seq vs.toArray _ = Data.dict es ep from d)
    have nsK : ∀ {b : Addr} {m : Str → Option Value}, z.heap.Ns b m → (hidT z.heap H).Ns b m := fun {b m} ⟨o, es, ep, e, d, r⟩ => ⟨o, es, ep, old e (notA e d), d, r⟩
    have inB : K.In (hidT z.heap H) := fun b o e => old (inK b o e) (Classical.byContradiction fun q => by
      obtain rfl := one b q
      rw [hid q] at e
      cases e)
    have hM : Mod K mg (hidT z.heap H) := ⟨inB, nsK hns, ⟨mb, nsK nb, bb⟩, let ⟨mc, h1, h2⟩ := noL; ⟨mc, nsK h1, h2⟩⟩
    have e0 : Env0 P w K mg (hidT z.heap H) callerA [] z H := ⟨rfl, hM, fun b o e => of_hidT e, Nat.le_of_eq (hidT_size _ _), trivial, fun b hb => absurd (show b ∈ ([] : List Addr) from hb) (by simp), hok, .of_eq gens⟩
    refine codeAny_mono ((F _ inB (nsK hns)).run callerA [] z H ⟨[.ref a], []⟩ [.ref a] [.ref a] _ _ rm rfl e0 (bind z (.ref a)) (.cons rfl .nil) (hsp H only sq)) fun r z' h => ?_
    cases r with
    | error e => exact False.elim h
    | ok fl =>
      cases fl with
      | ret u =>
        obtain ⟨v, H', os, bare, un, hok', r', q⟩ := h
        obtain rfl : v = .bl true := q
        obtain rfl : u = Value.bool true := r'
        refine ⟨rfl, OldK.of_keep fun b o e => ?_, os, bare⟩
        cases q : H b with
        | none => exact un.keep b o e q (by intro y; exact absurd (show b ∈ ([] : List Addr) from y) (by simp)) (by simp)
        | some u =>
          rcases only b with y | ⟨ob, xs, y⟩
          · rw [q] at y; cases y
          · obtain ⟨e1, _⟩ := hok b _ y
            obtain ⟨e2, _⟩ := hok' b _ (un.frzs b ob _ y)
            rw [e] at e1
            cases e1
            exact e2
      | next => exact False.elim h
      | brk => exact False.elim h
      | cont => exact False.elim h
  cases hk : K.lookup a with
  | some o =>
    have e := inK a o hk
    rw [ha] at e
    cases e
    exact core (fun _ => none) (fun _ => .inl rfl) (.inr ⟨_, vs.toArray, _, hk, rfl, rfl, rfl, by rw [List.size_toArray, lv]; exact hl, by simpa using rv⟩) (fun b u y => nomatch (show (none : Option HO) = some u from y)) (fun b y => absurd rfl y) fun y => absurd rfl y
  | none =>
    refine core (fun b => if b = a then some (.frz { cls := .type "list", data := .seq vs.toArray } (.lst (ns.map V.int))) else none) (fun b => ?_) (.inl (.inr ⟨{ cls := .type "list", data := .seq vs.toArray }, if_pos rfl⟩)) (fun b u y => ?_) (fun b y => ?_) fun _ => hk
    · exact (Classical.em (b = a)).elim (fun q => .inr ⟨_, _, if_pos q⟩) fun q => .inl (if_neg q)
    · by_cases q : b = a
      · have y' := (if_pos q).symm.trans y
        cases y'
        subst q
        exact ⟨ha, by rw [List.length_map]; exact hl, vs, _, rv, ha⟩
      · have y' := (if_neg q).symm.trans y
        cases y'
    · exact Classical.byContradiction fun q => absurd (if_neg q) y
theorem walk_at {l : PySem.W.OpenLaw} {n k : Nat} {q : Program} {loose : List Str} {XP : (Str → Option Value) → Heap → Prop} {YP : World → Heap → Prop} {d : DefRec} {K : Params → PySem.W.Frag} {sp : World → Sp} {x : Str}
    (hn : l.most = some n) (hn2 : n ≤ sizeLine) (hdf : d.params.defaults = []) (rm : Room k callerA) (hY : ∀ (w : World) (h : Heap), YP w h → (K w.params).In h)
    (F : ∀ (w : World) (mg : Str → Option Value) (fa : Addr) (h : Heap), (K w.params).In h → h.Ns mainGlobals mg → mg d.name = some (.ref fa) →
      ∃ fd : FuncData, (∀ (s : Shared) (u : Value), BindsTo s fd ⟨[u], []⟩ [(x, u)]) ∧ ∀ base : Heap, (K w.params).In base → base.Ns mainGlobals mg → FnAt l.prog w (K w.params) mg base k fa fd [x] (sp w))
    (hsp : ∀ (w : World) (H : Hp) (a : Addr) (ns : List Int), ns.length ≤ n → Only H → SqL (K w.params) H a (ns.map V.int) → sp w [.ref a] H (fun v _ => v = .bl true) fun _ _ _ => False) :
    PySem.W.WalkO q loose XP YP l.row.toRowW d [] (fun f vs => PySem.call f vs) := by
  refine Att.attach_call hn hdf fun w z0 z1 mg mb fa o pm cd doc a vs ns Gr Y ho hd hcd hmg hobj hints hlen hg => ?_
  obtain ⟨fd, hb, hF⟩ := F w mg fa _ (hY w _ Y) Gr.T.g hmg
  exact law_at (hY w _ Y) Gr.T.g Gr.T.b Gr.T.builtins Gr.T.nolimit hg hobj hints (Nat.le_trans hlen hn2) rm hF hb fun H hO hS => hsp w H a ns hlen hO hS
theorem law_okG {P : Program} {w : World} {K : PySem.W.Frag} {mg : Str → Option Value} {base : Heap} {k : Nat} {f : Addr} {fd : FuncData} {x : Str} {F : FD} {G : Cls} (hK : G.K = K) (h : FnAt P w K mg base k f fd [x] (spD G 1 F)) (m : ∀ ns : List Int, ns.length ≤ 63 → F [.va (.scr ns)] = some (.bl true, [.no])) : FnAt P w K mg base k f fd [x] (spLaw K) := h.imp fun vs H Q E ⟨a, ns, e, hs, hl, q⟩ => by
  subst e
  refine ⟨rfl, ⟨H, H, H, fun _ => none, []⟩, H, [.va (.scr ns)], .bl true, [.no], ?_, m ns hl, fun v H' S' _ _ r => by rw [inv_bl r]; exact q H'⟩
  refine ⟨.refl _, .refl _, fun b o e => .inl e, .refl _, fun b e => e, rfl, fun i x e => ?_, fun i j a _ o => ?_, (fun i a e => nomatch e), Tbs.nil⟩
  · cases i with
    | zero =>
      cases e
      exact ⟨_, rfl, _, rfl, by unfold Rep; exact ⟨a, rfl, by rw [hK]; exact hs⟩⟩
    | succ i => simp at e
  · obtain ⟨x, e1, e2, _⟩ := o
    cases i with
    | zero => cases e1; cases e2
    | succ i => simp at e1
/-! repr of lists and tuples of plain data -/
def showP (p : PyData) : Bool := p.showable && (!p.hasDict && (decide (p.shown.length ≤ sizeLine) && decide (p.depth ≤ 60)))
def nReprP : List D → Option D
  | [.tup ds] => match py (.tup ds) with
    | some p => if showP p then some (.str p.shown) else none
    | none => none
  | [.lst ds] => match py (.lst ds) with
    | some p => if showP p then some (.str p.shown) else none
    | none => none
  | [.int i] => if i.natAbs.log2 < 1920 then some (.str (toString i)) else none
  | [.bl b] => some (.str (if b then "True" else "False"))
  | [.non] => some (.str "None")
  | _ => none
def rReprP (K : PySem.W.Frag) : List V → Hp → VK → Prop := fun vs H Q => (∃ a p, vs = [V.ref a] ∧ Dp K H (.ref a) p ∧ showP p = true ∧ Q (.str p.shown) H) ∨ (∃ i : Int, vs = [.int i] ∧ i.natAbs.log2 < 1920 ∧ Q (.str (toString i)) H) ∨ (∃ b : Bool, vs = [.bl b] ∧ Q (.str (if b then "True" else "False")) H) ∨ (vs = [.non] ∧ Q (.str "None") H)
section
variable {G : Cls} {X : Cx}
theorem cr_reprP (hg : X.A.guards = some []) (hu : X.A.units + 64 < cLine) : CallR X (.builtin "repr") (rReprP X.K) := by
  intro pins s σ H vs us Q I r h
  rcases h with ⟨a, p, rfl, hd, hs, q⟩ | ⟨i, rfl, hi, q⟩ | ⟨b, rfl, q⟩ | ⟨rfl, q⟩
  · rw [Vals.ref1 r]
    obtain ⟨as, rd⟩ := Dp.reads I p (.ref a) (.ref a) hd rfl
    unfold showP at hs
    simp only [Bool.and_eq_true, Bool.not_eq_true', decide_eq_true_eq] at hs
    refine repr_of_reads' rd hs.1 (fun z => by rw [hs.2.1] at z; cases z) hg (by have := hs.2.2.2; omega) (fun b o e => e) (fun h' u tk hk => ⟨.str p.shown, H, I.kept hk, ⟨_, rfl⟩, q⟩) hs.2.2.1
  · exact SkE.call_repr_int pins s σ H [.int i] us Q I r ⟨i, rfl, hi, q⟩
  · obtain ⟨u, rfl, ru⟩ := vals1 r
    obtain rfl : u = .bool b := ru
    exact PySem.P.repr_of_bool ⟨.str _, H, I.tok _, ⟨_, rfl⟩, q⟩
  · obtain ⟨u, rfl, ru⟩ := vals1 r
    obtain rfl : u = .none := ru
    exact PySem.P.repr_of_none ⟨.str _, H, I.tok _, ⟨_, rfl⟩, q⟩
theorem r_reprP (hK : G.K = X.K) : RnD G nReprP (rReprP X.K) := fun S H xs z vs Q sm r e q => by
  unfold nReprP at e
  split at e
  · rename_i ds
    split at e
    · rename_i p e1
      split at e
      · rename_i e2
        cases e
        obtain ⟨v, rfl, r1⟩ := repL1 r
        obtain ⟨a, us, rfl, _, _⟩ := inv_tup r1
        exact .inl ⟨a, p, rfl, py_dp hK sm r1 e1, e2, q _ S H (.refl sm) rep_str⟩
      · cases e
    · cases e
  · rename_i ds
    split at e
    · rename_i p e1
      split at e
      · rename_i e2
        cases e
        obtain ⟨v, rfl, r1⟩ := repL1 r
        obtain ⟨a, us, rfl, _, _⟩ := inv_lst r1
        exact .inl ⟨a, p, rfl, py_dp hK sm r1 e1, e2, q _ S H (.refl sm) rep_str⟩
      · cases e
    · cases e
  · rename_i i
    split at e
    · rename_i hi
      cases e
      obtain ⟨v, rfl, r1⟩ := repL1 r
      exact .inr (.inl ⟨i, by rw [inv_int r1], hi, q _ S H (.refl sm) rep_str⟩)
    · cases e
  · rename_i b
    cases e
    obtain ⟨v, rfl, r1⟩ := repL1 r
    exact .inr (.inr (.inl ⟨b, by rw [inv_bl r1], q _ S H (.refl sm) rep_str⟩))
  · cases e
    obtain ⟨v, rfl, r1⟩ := repL1 r
    exact .inr (.inr (.inr ⟨by rw [inv_non r1], q _ S H (.refl sm) rep_str⟩))
  · cases e
end
end Zr

/-! Zr: a text split. -/
namespace Zr
open PySem PySem.Spec PyProof.Rows L2
theorem RepL.strs {G : Cls} {S : Hp} : ∀ {ys : List Str}, RepL G S (ys.map D.str) (ys.map V.str)
  | [] => .nil
  | _ :: _ => .cons rep_str RepL.strs
def splitD : D → D → Option D
  | .str a, .str b => if (b.length == 0) = false ∧ a.length + 2 ≤ sizeLine then some (.lst ((Txt.split a b).map D.str)) else none
  | _, _ => none
section
variable {G : Cls} {X : Cx} {f h : DE} {o e : Expr}
theorem le_split {apos pos : Pos} (ho : LE G X o f) (he : LE G X e h) (hs : starEach [e] X.env = [(false, eval e X.env)] := by rfl) (hbase : attributeBase o "split" X.env (eval o X.env) = eval o X.env := by rfl) (hline : (apos.endLine == pos.line) = true := by rfl) :
    LE G X (.Call (.Attribute o "split" apos) [e] [] pos) (b2 splitD f h) := pe_weak (pe_split ho he hs hbase hline) fun s H Q ⟨g, S, d, z, d', zt, q, k⟩ => by
  obtain ⟨x, d1, y, e1, e2, e3⟩ := b2_inv q
  unfold splitD at e3
  split at e3
  · split at e3
    · rename_i a b h5
      cases e3
      refine ⟨g, S, d, _, d1, zt, e1, fun v H1 S1 s1 z1 r1 => ⟨⟨a, inv_str r1⟩, g, S1, d1, _, d', z1, e2, fun w H2 S2 s2 z2 r2 => ?_⟩⟩
      refine ⟨a, b, inv_str r1, by rw [inv_str r2], h5.1, h5.2, fun p hp => ?_⟩
      have ex := Ext.alloc (o := .lst ((Txt.split a b).map V.str)) z2.sh hp
      exact k _ _ _ ((s1.trans s2).trans ex.s) (z2.ext ex) (rep_lst_new upd_same RepL.strs)
    · cases e3
  · cases e3
end
end Zr

/-! Zr: classmethods, instances made by a local that holds a class, int of a text. -/
namespace Zr
open PySem PySem.Spec PyProof.Rows L2
section
variable {X : Cx} {CX : CXT} {k i : Nat} {f C : Addr} {fd : FuncData} {ps : List Str} {sp : Sp} {dvs : List V} {ds : List Value} {E : XK} {x : Str} {p pos : Pos} {e : Expr} {es : List Expr} {t : TA}
/-- the i-th slot holds the class at C -/
def tMakeL (i : Nat) (C : Addr) (sp : Sp) (dvs : List V) (E : XK) (t : TA) : TE := fun σ H Q => σ[i]? = some (some (.ref C)) ∧ tMake C sp dvs E t σ H Q
theorem pe_makeL (M : Mk X.K C f) (F : FnOk X.prog X.w X.K X.mg X.base CX k f fd ps sp) (hr : Room (k + 1) X.A) (hN : X.N[i]? = some x) (hv : Vis X.env.scope x) (hb : Binds X.K fd ps ds) (hd : Vals dvs ds) (hx : Passes CX X E) (ha : PA X (e :: es) t)
    (hdb : (x == ("__debug__" : Str)) = false := by decide) (hcd : (x == ("__classdict__" : Str)) = false := by decide)
    (he : starEach (e :: es) X.env = (false, eval e X.env) :: starEach es X.env := by rfl) (hpl : (backTo pos (starEach es X.env)).any (·.1) = false := by rfl) : PE X (.Call (.Name x p) (e :: es) [] pos) (tMakeL i C sp dvs E t) := by
  refine ⟨fun pins s σ H Q I h => ?_⟩
  obtain ⟨hs, ht⟩ := h
  refine wpAny_Call_Name_kw (thn ((pe_var (pos := p) hN hv hdb hcd).run pins s σ H (fun v H1 => v = .ref C ∧ H1 = H) I ⟨.ref C, hs, rfl, rfl⟩) fun u s1 ⟨v, H1, I1, r1, q1⟩ => ?_)
  obtain ⟨rfl, rfl⟩ := q1
  cases r1
  refine PySem.W.callWith_K (h₀ := X.base) I.ok.mod.kin M.kp (thn (ha.run pos pins s1 σ _ _ I1 ht) fun us s2 ⟨vs, H2, I2, r, q⟩ => ⟨I2.kIn, ?_⟩) he hpl
  exact run_make M F hr hb hd hx I2 r q
end
/-- cls(..): slot i holds the class c -/
def mkL (i c : Nat) (F : FD) (dd : List D) (r : DA) : DE := fun d => match d[i]? with
  | some (.va (.fn k)) => if k = c then mkD c F dd r d else none
  | _ => none
/-- C.m(..), m a classmethod of the class c -/
def cmD (c : Nat) (F : FD) (dd : List D) (r : DA) : DE := fun d => match r d with
  | some (xs, d1) => match F (.va (.fn c) :: (xs ++ dd).map Sl.va) with
    | some (x, t') => if t'.length = (xs ++ dd).length + 1 then some (x, d1) else none
    | none => none
  | none => none
section
variable {G : Cls} {X : Cx} {e o : Expr} {es : List Expr} {f : DE} {r : DA} {pos p apos : Pos} {x m : Str} {F : FD} {lv n c i : Nat} {fI fA pA : Addr} {fd : FuncData} {ps : List Str} {dvs : List V} {ds : List Value} {dd : List D} {E : XK} {mc : Value}
theorem lf_makeL (M : Mk X.K (G.adr c) fI) (Fk : FnOk X.prog X.w X.K X.mg X.base CX0 lv fI fd ps (spD G n F)) (hr : Room (lv + 1) X.A) (hb : Binds X.K fd ps ds) (hd : Vals dvs ds) (hdd : ∀ S, RepL G S dd dvs)
    (hF : ∀ d y, F d = some y → d.length = n) (ha : LA G X (e :: es) r) (hN : X.N[i]? = some x := by rfl) (hv : Vis X.env.scope x := by first | exact Or.inl rfl | exact Or.inr (Or.inl rfl) | exact Or.inr (Or.inr rfl))
    (hdb : (x == ("__debug__" : Str)) = false := by decide) (hcd : (x == ("__classdict__" : Str)) = false := by decide)
    (he : starEach (e :: es) X.env = (false, eval e X.env) :: starEach es X.env := by rfl) (hpl : (backTo pos (starEach es X.env)).any (·.1) = false := by rfl) :
    LF G X (.Call (.Name x p) (e :: es) [] pos) (mkL i c F dd r) := pe_weak (pe_makeL (i := i) (E := fun _ _ _ => False) M Fk hr hN hv hb hd pass0 ha hdb hcd he hpl) fun _ _ _ ⟨g, S, d, y, d', z, e, q⟩ => by
  unfold mkL at e
  split at e
  · rename_i k hk
    split at e
    · rename_i hc
      subst hc
      obtain ⟨w, h1, w', h2, h3⟩ := z.sl i _ hk
      cases h2
      have h3 : w' = .ref (G.adr k) := by unfold Rep at h3; exact h3
      subst h3
      obtain ⟨xs, t', e1, e2, e3⟩ := mkD_inv e
      exact ⟨h1, g, S, d, xs, d', z, e1, fun vs H1 S1 sm z1 ra => make_at hF hdd z1 ra e2 e3 fun a H' S' sm' => q a H' S' (sm.trans sm')⟩
    · cases e
  · cases e
theorem le_cmeth {np : Pos} {pl : Sem Bool} (hg : Gl X x) (hm : X.mg x = some (.ref (G.adr c))) (cr : ClX.CRead X.K (G.adr c) mc) (cm : ClX.CMet X.K (G.adr c) mc m pA fA) (Fk : FnOk X.prog X.w X.K X.mg X.base CX0 lv fA fd ps (spD G n F)) (hr : Room lv X.A) (hb : Binds X.K fd ps ds) (hd : Vals dvs ds) (hdd : ∀ S, RepL G S dd dvs)
    (hF : ∀ d y, F d = some y → d.length = n) (ha : LA G X (e :: es) r) (hdb : (x == ("__debug__" : Str)) = false := by decide)
    (hst : starEach (e :: es) X.env = (false, eval e X.env) :: starEach es X.env := by rfl) (hpl : (backTo pos (starEach es X.env)).any (·.1) = false := by rfl)
    (ht : eval (.Call (.Attribute (.Name x np) m apos) (e :: es) [] pos) X.env = (do
      let ov ← eval (.Name x np) X.env
      standAt apos.atName
      let (f, first) ← holding [ov] (getMethod ov m pl)
      callWith pos f first (backTo pos (starEach (e :: es) X.env)) (backToKw pos (keywordEach [] X.env))) := by rfl) :
    LE G X (.Call (.Attribute (.Name x np) m apos) (e :: es) [] pos) (cmD c F dd r) := pe_weak (ClX.pe_cmeth (E := fun _ _ _ => False) (pe_glob (v := .ref (G.adr c)) hg hm rfl hdb) cr cm (Fk.raw hb hd) hr pass0 ha hst hpl ht) fun s H Q ⟨g, S, d, y, d', z, e, q⟩ => by
  unfold cmD at e
  split at e
  · rename_i xs d1 e1
    split at e
    · rename_i x t' e2
      split at e
      · rename_i e3
        cases e
        refine ⟨rfl, g, S, d, xs, _, z, e1, fun vs H1 S1 sm1 z1 ra => ?_⟩
        exact call_va (xs := .fn c :: (xs ++ dd)) hF z1 (.cons rep_fn (ra.append (hdd S1))) e2 (by simpa using e3) fun v H3 S3 sm3 z3 r3 => q v H3 S3 (sm1.trans sm3) z3 r3
      · cases e
    · cases e
  · cases e
end
/-- int of a text too -/
def nIntT : List D → Option D
  | [.str a] => if a.length ≤ 640 then match PySem.intText? a with | some n => some (.int n) | none => none else none
  | _ => none
theorem r_intT {G : Cls} : RnD G nIntT (fun xs H Q => ∃ a n, xs = [.str a] ∧ PySem.intText? a = some n ∧ a.length ≤ 640 ∧ Q (.int n) H) := fun S H xs z vs Q sm r e q => by
  unfold nIntT at e
  split at e
  · split at e
    · split at e
      · rename_i a hl _ n hn
        cases e
        obtain ⟨v, rfl, r1⟩ := repL1 r
        exact ⟨_, n, by rw [inv_str r1], hn, hl, q _ S H (.refl sm) rep_int⟩
      · cases e
    · cases e
  · cases e
section
open TL
/-- the signs of a text -/
def sgD (z : Str) : List D := z.cps.toList.map fun c => D.str ⟨#[c]⟩
def iss (f : DE) : DA := fun d => match f d with
  | some (.str z, d1) => some (sgD z, d1)
  | _ => none
theorem its_ok {G : Cls} {S : Hp} {z : Str} : ItD G (Its z) S (sgD z) where
  go := fun i S1 H1 s1 s2 hi => by
    unfold sgD at hi
    rw [List.length_map, Array.length_toList] at hi
    exact hi
  stop := fun S1 H1 s1 s2 => by
    show _ ≤ _
    unfold sgD
    rw [List.length_map, Array.length_toList]
    exact Nat.le_refl _
  yld := fun i S1 H1 v H' x s1 s2 hx y => by
    obtain ⟨rfl, c, hc, rfl⟩ := y
    unfold sgD at hx
    rw [List.getElem?_map, Array.getElem?_toList, hc] at hx
    cases hx
    exact ⟨S1, .refl s2, rep_str⟩
theorem li_str {G : Cls} {X : Cx} {tg e : Expr} {f : DE} (he : LE G X e f) : LI G X tg e (iss f) := ⟨fun pins s σ H R I ⟨g, S, d, xs, d', z, e, q⟩ => by
  unfold iss at e
  split at e
  · rename_i y d1 e1
    cases e
    exact (pi_str he).run pins s σ H R I ⟨g, S, d, _, _, z, e1, fun v H' S' sm z' rv => ⟨y, inv_str rv, q (Its y) H' S' sm z' its_ok⟩⟩
  · cases e⟩
end
end Zr

/-! Zr: calls with keywords alone: of defs, classes, methods, classmethods. -/
namespace Zr
open PySem PySem.Spec PyProof.Rows L2
/-- the parameters' values: p.1: the p.2-th default, else the p.2-th written one -/
def pickS {α : Type} : List (Bool × Nat) → List α → List α → List α
  | [], _, _ => []
  | (true, i) :: sel, ds, zs => match ds[i]? with
    | some x => x :: pickS sel ds zs
    | none => pickS sel ds zs
  | (false, i) :: sel, ds, zs => match zs[i]? with
    | some x => x :: pickS sel ds zs
    | none => pickS sel ds zs
theorem vals_getN : ∀ {xs : List V} {us : List Value} {i : Nat}, Vals xs us → xs[i]? = none → us[i]? = none := fun r e => by
  rw [List.getElem?_eq_none_iff] at e ⊢
  rw [← r.length]
  exact e
theorem vals_pick {ds zs : List V} {its ws : List Value} (r1 : Vals ds its) (r2 : Vals zs ws) : ∀ sel, Vals (pickS sel ds zs) (pickS sel its ws)
  | [] => .nil
  | (true, i) :: sel => by
    have ih := vals_pick r1 r2 sel
    unfold pickS
    cases e : ds[i]? with
    | none => rw [vals_getN r1 e]; exact ih
    | some x =>
      obtain ⟨u, e2, r⟩ := r1.get e
      rw [e2]
      exact .cons r ih
  | (false, i) :: sel => by
    have ih := vals_pick r1 r2 sel
    unfold pickS
    cases e : zs[i]? with
    | none => rw [vals_getN r2 e]; exact ih
    | some x =>
      obtain ⟨u, e2, r⟩ := r2.get e
      rw [e2]
      exact .cons r ih
theorem repl_get {G : Cls} {S : Hp} : ∀ {xs : List D} {vs : List V} (i : Nat), RepL G S xs vs → (xs[i]? = none ∧ vs[i]? = none) ∨ ∃ x v, xs[i]? = some x ∧ vs[i]? = some v ∧ Rep G S x v
  | [], vs, i, h => by
    unfold RepL at h
    subst h
    exact .inl ⟨rfl, rfl⟩
  | x :: xs, vs, i, h => by
    unfold RepL at h
    obtain ⟨v, r, rfl, h1, h2⟩ := h
    cases i with
    | zero => exact .inr ⟨x, v, rfl, rfl, h1⟩
    | succ i =>
      rcases repl_get i h2 with ⟨a, b⟩ | ⟨y, w, a, b, c⟩
      · exact .inl ⟨a, b⟩
      · exact .inr ⟨y, w, a, b, c⟩
theorem repl_pick {G : Cls} {S : Hp} {ds zs : List D} {dv vs : List V} (r1 : RepL G S ds dv) (r2 : RepL G S zs vs) : ∀ sel, RepL G S (pickS sel ds zs) (pickS sel dv vs)
  | [] => .nil
  | (true, i) :: sel => by
    have ih := repl_pick r1 r2 sel
    unfold pickS
    rcases repl_get i r1 with ⟨a, b⟩ | ⟨y, w, a, b, c⟩
    · rw [a, b]; exact ih
    · rw [a, b]; exact .cons c ih
  | (false, i) :: sel => by
    have ih := repl_pick r1 r2 sel
    unfold pickS
    rcases repl_get i r2 with ⟨a, b⟩ | ⟨y, w, a, b, c⟩
    · rw [a, b]; exact ih
    · rw [a, b]; exact .cons c ih
/-- m written values, put in the parameters' order -/
def prm (m : Nat) (sel : List (Bool × Nat)) (dd : List D) (r : DA) : DA := fun d => match r d with
  | some (zs, d1) => if zs.length = m then some (pickS sel dd zs, d1) else none
  | none => none
theorem prm_inv {m : Nat} {sel : List (Bool × Nat)} {dd : List D} {r : DA} {d d' : Ev} {xs : List D} (e : prm m sel dd r d = some (xs, d')) : ∃ zs, r d = some (zs, d') ∧ zs.length = m ∧ xs = pickS sel dd zs := by
  unfold prm at e
  split at e
  · split at e
    · rename_i h
      cases e
      exact ⟨_, by assumption, h, rfl⟩
    · cases e
  · cases e
/-- f(..), values alone -/
def vcD (F : FD) (r : DA) : DE := fun d => match r d with
  | some (xs, d1) => match F (xs.map Sl.va) with
    | some (x, t') => if t'.length = xs.length then some (x, d1) else none
    | none => none
  | none => none
theorem vcD_inv {F : FD} {r : DA} {d d' : Ev} {y : D} (h : vcD F r d = some (y, d')) : ∃ xs t', r d = some (xs, d') ∧ F (xs.map Sl.va) = some (y, t') ∧ t'.length = xs.length := by
  unfold vcD at h
  split at h
  · rename_i xs d1 e1
    split at h
    · rename_i z t' e2
      split at h
      · rename_i e3
        cases h
        exact ⟨xs, t', e1, e2, e3⟩
      · cases h
    · cases h
  · cases h
/-! ### keywords' values -/
abbrev LK (G : Cls) (X : Cx) (kws : List Keyword) (r : DA) : Prop := PK X kws (liftA G r)
theorem pk_weak {X : Cx} {kws : List Keyword} {t t' : TA} (h : PK X kws t) (w : ∀ s H Q, t' s H Q → t s H Q) : PK X kws t' := ⟨fun pos pins s σ H Q I q => h.run pos pins s σ H Q I (w _ _ _ q)⟩
section
variable {G : Cls} {X : Cx} {e : Expr} {kws : List Keyword} {f : DE} {r : DA} {nm : Option Str} {kpos : Pos}
theorem lk_nil : LK G X [] an := pk_weak pk_nil fun s H Q ⟨g, S, d, x, d', z, e, q⟩ => by cases e; exact q [] H S (.refl _) z .nil
theorem lk_cons (ha : LE G X e f) (hr : LK G X kws r) : LK G X (⟨nm, e, kpos⟩ :: kws) (ac f r) := pk_weak (pk_cons ha hr) fun s H Q ⟨g, S, d, x, d', z, e, q⟩ => by
  obtain ⟨y, d1, ys, e1, e2, rfl⟩ := ac_inv e
  exact ⟨g, S, d, y, d1, z, e1, fun v H' S' sm z' r1 => ⟨g, S', d1, ys, d', z', e2, fun vs H2 S2 sm2 z2 r2 => q _ H2 S2 (sm.trans sm2) z2 (.cons (r1.mono sm2) r2)⟩⟩
end
/-! ### binding -/
/-- n positional values, keywords ks: the parameters' values -/
abbrev KwB (K : PySem.W.Frag) (fd : FuncData) (ps : List Str) (n : Nat) (ks : List Str) (sel : List (Bool × Nat)) (dvs : List V) : Prop := ∃ its : List Value, KBn K fd ps n ks (fun us ws => us ++ pickS sel its ws) (fun vs zs => vs ++ pickS sel dvs zs)
section
variable {K : PySem.W.Frag} {x qual : Str} {st : Stmt} {dvs : List V} {f : Addr} {fd : FuncData} {ps : List Str}
theorem kwb_d (F : FunW K x qual st dvs f fd) (n : Nat) (ks : List Str) (sel : List (Bool × Nat)) (hd : dvs ≠ [])
    (h : ∀ (T : Addr) (kV doc pm : Value) (an : Option Addr) (cdv ct : Value) (us its ws : List Value), us.length = n → its.length = dvs.length → ws.length = ks.length →
      ∃ k, bindArgs (PySem.W.fnOf x qual (defArgs st) (defBody st) (defScope st) (.ref T) kV doc pm an cdv ct) ⟨us, ks.zip ws⟩ = seqItems? (.ref T) >>= k ∧ k (some its.toArray) = pure (ps.zip (us ++ pickS sel its ws))) : KwB K fd ps n ks sel dvs :=
  F.kbindsD n ks (fun vs ds zs => vs ++ pickS sel ds zs) hd (fun r1 r2 r3 => r1.append (vals_pick r2 r3 sel)) h
theorem kwb_n (F : Fun K x qual st f fd) (n : Nat) (ks : List Str) (sel : List (Bool × Nat))
    (h : ∀ (kV doc pm : Value) (an : Option Addr) (cdv ct : Value) (us ws : List Value), us.length = n → ws.length = ks.length →
      bindArgs (PySem.W.fnOf x qual (defArgs st) (defBody st) (defScope st) .none kV doc pm an cdv ct) ⟨us, ks.zip ws⟩ = pure (ps.zip (us ++ pickS sel [] ws))) : KwB K fd ps n ks sel [] := by
  obtain ⟨oc, od, kV, doc, pm, an, cdv, ct, osl, rfl, lk, hcd⟩ := F.ex
  exact ⟨[], ⟨fun s us ws X l1 l2 => .of_eq (h kV doc pm an cdv ct us ws l1 l2), fun r1 r2 => r1.append (vals_pick .nil r2 sel)⟩⟩
end
/-! ### the calls -/
section
variable {X : Cx} {CX : CXT} {k n : Nat} {f C q : Addr} {fd : FuncData} {ps ks : List Str} {sp : Sp} {E : XK} {x m : Str} {p pos apos : Pos} {e o : Expr} {kws : List Keyword} {ta : TE} {tk : TA} {g : List Value → List Value → List Value} {gV : List V → List V → List V}
theorem pe_callN0 (F : FnOk X.prog X.w X.K X.mg X.base CX k f fd ps sp) (hr : Room k X.A) (hg : Gl X x) (hm : X.mg x = some (.ref f)) (hk : PySem.W.keepIn X.K (.ref f) = true) (hb : KBn X.K fd ps 0 ks g gV) (hx : Passes CX X E) (hkw : PK X kws tk)
    (hall : (backToKw pos (keywordEach kws X.env)).all (·.1.isSome) = true := by rfl) (hks : (backToKw pos (keywordEach kws X.env)).filterMap (·.1) = ks := by rfl) (hdb : (x == ("__debug__" : Str)) = false := by decide)
    (hpl : ((backTo pos (starEach [] X.env)).any (·.1) || (backToKw pos (keywordEach kws X.env)).any (·.1.isNone)) = false := by rfl) :
    PE X (.Call (.Name x p) [] kws pos) (fun σ H Q => tk σ H fun zs H2 => zs.length = ks.length ∧ sp (gV [] zs) H2 Q E) := by
  refine ⟨fun pins s σ H Q I h => ?_⟩
  refine wpAny_Call_Name_kw (ld_glob I hg hm ?_ hdb)
  refine PySem.W.callWith_KW0 (h₀ := X.base) I.ok.mod.kin hk hall ?_ hpl
  refine thn (hkw.run pos pins s σ H _ I h) fun ws s2 ⟨zs, H2, I2, rz, l2, q2⟩ => ⟨I2.kIn, ?_⟩
  rw [hks]
  exact run_fnN (us := []) (vs := []) F hr hb hx I2 .nil rz rfl l2 q2
/-- o.m(k = v, ..) -/
theorem pe_methN {pl : Sem Bool} (he : PE X o ta) (c : L2.Cls X.K C) (hm : Meth X.K C m f) (F : FnOk X.prog X.w X.K X.mg X.base CX k f fd ps sp) (hr : Room k X.A) (hb : KBn X.K fd ps 1 ks g gV) (hx : Passes CX X E) (hkw : PK X kws tk)
    (hall : (backToKw pos (keywordEach kws X.env)).all (·.1.isSome) = true := by rfl) (hks : (backToKw pos (keywordEach kws X.env)).filterMap (·.1) = ks := by rfl)
    (hpl : ((backTo pos (starEach [] X.env)).any (·.1) || (backToKw pos (keywordEach kws X.env)).any (·.1.isNone)) = false := by rfl)
    (ht : eval (.Call (.Attribute o m apos) [] kws pos) X.env = (do
      let ov ← eval o X.env
      standAt apos.atName
      let (f, first) ← holding [ov] (getMethod ov m pl)
      callWith pos f first (backTo pos (starEach [] X.env)) (backToKw pos (keywordEach kws X.env))) := by rfl) :
    PE X (.Call (.Attribute o m apos) [] kws pos) (fun σ H Q => ta σ H fun x H1 => ∃ a dx fs, x = .ref a ∧ H1 a = some (.ins C dx fs) ∧ fs.lookup m = none ∧ tk σ H1 fun zs H2 => zs.length = ks.length ∧ sp (gV [x] zs) H2 Q E) := by
  refine ⟨fun pins s σ H Q I h => ?_⟩
  refine PySem.W.methodCall_KW (pl := pl) (thn (he.run pins s σ H _ I h) fun u s1 ⟨x, H1, I1, rx, a, dx, fs, ex, ea, l, q⟩ => ?_) ht
  subst ex
  obtain rfl : u = Value.ref a := rx
  refine getmeth_ok I1 ea c hm l ?_
  refine PySem.W.callWith_KW0 (first := [.ref a]) (h₀ := X.base) I.ok.mod.kin hm.kp hall ?_ hpl
  refine thn (hkw.run pos pins s1 σ H1 _ I1 q) fun ws s2 ⟨zs, H2, I2, rz, l2, q2⟩ => ⟨I2.kIn, ?_⟩
  rw [hks]
  exact run_fnN (us := [.ref a]) (vs := [.ref a]) F hr hb hx I2 (.cons rfl .nil) rz rfl l2 q2
theorem run_cmN {pins : List (Addr × Obj)} {σ : L2.St} {H : Hp} {s : Shared} {Q : VK} {ws : List Value} {zs : List V} {gA : Addr} (F : FnOk X.prog X.w X.K X.mg X.base CX k gA fd ps sp) (hr : Room k X.A) (hb : KBn X.K fd ps 1 ks g gV) (hx : Passes CX X E)
    (I : Inv X ((q, PySem.W.methodObj (.ref gA) (.ref C)) :: pins) σ H s) (rz : Vals zs ws) (l2 : zs.length = ks.length) (h : sp (gV [.ref C] zs) H Q E) : wpAny (model X.prog X.w) X.A (call (.ref q) [] (ks.zip ws)) (EP X pins σ Q) X.xe s := by
  have r2 := hb.rel (show Vals [V.ref C] [Value.ref C] from .cons rfl .nil) rz
  have z : wpAny (model X.prog X.w) X.A (call (.ref q) [] (ks.zip ws)) (EP X ((q, PySem.W.methodObj (.ref gA) (.ref C)) :: pins) σ Q) X.xe s :=
    wpAny_call (PySem.W.method_call (ClX.pin_at I) (codeAny_mono (F.run X.A X.stack s H ⟨[.ref C], ks.zip ws⟩ (g [.ref C] ws) (gV [.ref C] zs) Q E hr I.env0 (hb.to s [.ref C] ws I.kIn rfl (rz.length.symm.trans l2)) r2 h) fun r s' hq => by
      cases r with
      | error e => exact hx _ σ H s e s' I hq
      | ok fl =>
        cases fl with
        | ret u => exact I.after hq
        | next => exact False.elim hq
        | brk => exact False.elim hq
        | cont => exact False.elim hq))
  exact thn z fun _ _ y => ClX.unpinE y
theorem pe_cmethN {pl : Sem Bool} {mc : Value} {gA pA : Addr} (he : PE X o ta) (r : ClX.CRead X.K C mc) (c : ClX.CMet X.K C mc m pA gA) (F : FnOk X.prog X.w X.K X.mg X.base CX k gA fd ps sp) (hr : Room k X.A) (hb : KBn X.K fd ps 1 ks g gV) (hx : Passes CX X E) (hkw : PK X kws tk)
    (hall : (backToKw pos (keywordEach kws X.env)).all (·.1.isSome) = true := by rfl) (hks : (backToKw pos (keywordEach kws X.env)).filterMap (·.1) = ks := by rfl)
    (hpl : ((backTo pos (starEach [] X.env)).any (·.1) || (backToKw pos (keywordEach kws X.env)).any (·.1.isNone)) = false := by rfl)
    (ht : eval (.Call (.Attribute o m apos) [] kws pos) X.env = (do
      let ov ← eval o X.env
      standAt apos.atName
      let (f, first) ← holding [ov] (getMethod ov m pl)
      callWith pos f first (backTo pos (starEach [] X.env)) (backToKw pos (keywordEach kws X.env))) := by rfl) :
    PE X (.Call (.Attribute o m apos) [] kws pos) (fun σ H Q => ta σ H fun x H1 => x = .ref C ∧ tk σ H1 fun zs H2 => zs.length = ks.length ∧ sp (gV [.ref C] zs) H2 Q E) := by
  refine ⟨fun pins s σ H Q I h => ?_⟩
  refine PySem.W.methodCall_KW (pl := pl) (thn (he.run pins s σ H _ I h) fun u s1 ⟨x, H1, I1, rx, ex, q⟩ => ?_) ht
  subst ex
  obtain rfl : u = Value.ref C := rx
  refine ClX.getmethcm_ok I1 r c fun s2 I2 => ?_
  have hq := ClX.pin_at I2
  have hL := (I2.pin (s1.heap.objs.size, PySem.W.methodObj (.ref gA) (.ref C)) (List.mem_append_right _ List.mem_cons_self)).2.2.1
  refine PySem.W.callWith_of (first := []) (P := fun h => PySem.W.MethP X.K s1.heap.objs.size gA (.ref C) h) hpl (PySem.W.keeps_M c.fi) (evalArgs_kw2_nil hall ?_)
  refine thn (hkw.run pos _ s2 σ H1 _ I2 q) fun ws s3 ⟨zs, H2, I3, rz, l2, q2⟩ => ⟨⟨ClX.pin_at I3, I3.kIn⟩, ?_⟩
  rw [hks]
  exact run_cmN F hr hb hx I3 rz l2 q2
end
section
variable {G : Cls} {X : Cx} {e o : Expr} {f : DE} {r : DA} {pos p apos : Pos} {x m : Str} {F : FD} {lv n c : Nat} {fI fA pA : Addr} {fd : FuncData} {ps ks : List Str} {dvs : List V} {dd : List D} {E : XK} {mc : Value} {kws : List Keyword} {sel : List (Bool × Nat)} {nk : Nat}
theorem le_callK (Fk : FnOk X.prog X.w X.K X.mg X.base CX0 lv fA fd ps (spD G n F)) (hr : Room lv X.A) (hg : Gl X x) (hm : X.mg x = some (.ref fA)) (hk : PySem.W.keepIn X.K (.ref fA) = true) (hb : KwB X.K fd ps 0 ks sel dvs) (hdd : ∀ S, RepL G S dd dvs)
    (hF : ∀ d y, F d = some y → d.length = n) (ha : LK G X kws r) (hl : ks.length = nk := by rfl)
    (hall : (backToKw pos (keywordEach kws X.env)).all (·.1.isSome) = true := by rfl) (hks : (backToKw pos (keywordEach kws X.env)).filterMap (·.1) = ks := by rfl) (hdb : (x == ("__debug__" : Str)) = false := by decide)
    (hpl : ((backTo pos (starEach [] X.env)).any (·.1) || (backToKw pos (keywordEach kws X.env)).any (·.1.isNone)) = false := by rfl) :
    LE G X (.Call (.Name x p) [] kws pos) (vcD F (prm nk sel dd r)) := by
  subst hl
  obtain ⟨its, hb⟩ := hb
  refine pe_weak (pe_callN0 (E := fun _ _ _ => False) Fk hr hg hm hk hb pass0 ha hall hks hdb hpl) fun s H Q ⟨g, S, d, y, d', z, e, q⟩ => ?_
  obtain ⟨xs, t', e1, e2, e3⟩ := vcD_inv e
  obtain ⟨zs, e4, e5, rfl⟩ := prm_inv e1
  refine ⟨g, S, d, zs, d', z, e4, fun vs H1 S1 sm z1 ra => ⟨by rw [← ra.length]; exact e5, ?_⟩⟩
  exact call_va hF z1 (repl_pick (hdd S1) ra sel) e2 e3 fun v H3 S3 sm3 z3 r3 => q v H3 S3 (sm.trans sm3) z3 r3
theorem lf_makeK (M : Mk X.K (G.adr c) fI) (Fk : FnOk X.prog X.w X.K X.mg X.base CX0 lv fI fd ps (spD G n F)) (hr : Room (lv + 1) X.A) (hg : Gl X x) (hm : X.mg x = some (.ref (G.adr c))) (hb : KwB X.K fd ps 1 ks sel dvs) (hdd : ∀ S, RepL G S dd dvs)
    (hF : ∀ d y, F d = some y → d.length = n) (ha : LK G X kws r) (hl : ks.length = nk := by rfl)
    (hall : (backToKw pos (keywordEach kws X.env)).all (·.1.isSome) = true := by rfl) (hks : (backToKw pos (keywordEach kws X.env)).filterMap (·.1) = ks := by rfl) (hdb : (x == ("__debug__" : Str)) = false := by decide)
    (hpl : ((backTo pos (starEach [] X.env)).any (·.1) || (backToKw pos (keywordEach kws X.env)).any (·.1.isNone)) = false := by rfl) :
    LF G X (.Call (.Name x p) [] kws pos) (mkD c F [] (prm nk sel dd r)) := by
  subst hl
  obtain ⟨its, hb⟩ := hb
  refine pe_weak (pe_makeK0 (E := fun _ _ _ => False) M Fk hr hg hm hb pass0 ha hall hks hdb hpl) fun s H Q ⟨g, S, d, y, d', z, e, q⟩ => ?_
  obtain ⟨xs, t', e1, e2, e3⟩ := mkD_inv e
  obtain ⟨zs, e4, e5, rfl⟩ := prm_inv e1
  refine ⟨g, S, d, zs, d', z, e4, fun vs H1 S1 sm z1 ra => ⟨rfl, by rw [← ra.length]; exact e5, ?_⟩⟩
  have := make_at (E := fun _ _ _ => False) (dvs := []) hF (fun S => .nil) z1 (repl_pick (hdd S1) ra sel) e2 e3 fun a H' S' sm' => q a H' S' (sm.trans sm')
  rw [List.append_nil] at this
  exact this
theorem le_methK {pl : Sem Bool} (he : LE G X o f) (T : MethOk G X.K c m fA) (Fk : FnOk X.prog X.w X.K X.mg X.base CX0 lv fA fd ps (spD G n F)) (hr : Room lv X.A) (hb : KwB X.K fd ps 1 ks sel dvs) (hdd : ∀ S, RepL G S dd dvs)
    (hF : ∀ d y, F d = some y → d.length = n) (ha : LK G X kws r) (hl : ks.length = nk := by rfl)
    (hall : (backToKw pos (keywordEach kws X.env)).all (·.1.isSome) = true := by rfl) (hks : (backToKw pos (keywordEach kws X.env)).filterMap (·.1) = ks := by rfl)
    (hpl : ((backTo pos (starEach [] X.env)).any (·.1) || (backToKw pos (keywordEach kws X.env)).any (·.1.isNone)) = false := by rfl)
    (ht : eval (.Call (.Attribute o m apos) [] kws pos) X.env = (do
      let ov ← eval o X.env
      standAt apos.atName
      let (f, first) ← holding [ov] (getMethod ov m pl)
      callWith pos f first (backTo pos (starEach [] X.env)) (backToKw pos (keywordEach kws X.env))) := by rfl) :
    LE G X (.Call (.Attribute o m apos) [] kws pos) (mtD c F [] f (prm nk sel dd r)) := by
  subst hl
  obtain ⟨its, hb⟩ := hb
  refine pe_weak (pe_methN (E := fun _ _ _ => False) he T.cl T.me Fk hr hb pass0 ha hall hks hpl ht) fun s H Q ⟨g, S, d, y, d', z, e, q⟩ => ?_
  obtain ⟨fs, d1, xs, t', e1, e2, e3, e4⟩ := mtD_inv e
  obtain ⟨zs, e5, e6, rfl⟩ := prm_inv e2
  refine ⟨g, S, d, _, d1, z, e1, fun v H1 S1 sm1 z1 rv => ?_⟩
  obtain ⟨a, dx, vs, rfl, h1, h2, h3⟩ := inv_ob rv
  refine ⟨a, dx, _, rfl, z1.sh _ _ h1, zip_none T.no, g, S1, d1, zs, d', z1, e5, fun us H2 S2 sm2 z2 ra => ⟨by rw [← ra.length]; exact e6, ?_⟩⟩
  rw [List.append_nil] at e3 e4
  exact call_va (xs := .ob c fs :: pickS sel dd zs) hF z2 (.cons (rv.mono sm2) (repl_pick (hdd S2) ra sel)) e3 (by simpa using e4) fun v H3 S3 sm3 z3 r3 => q v H3 S3 ((sm1.trans sm2).trans sm3) z3 r3
theorem le_cmethK {np : Pos} {pl : Sem Bool} (hg : Gl X x) (hm : X.mg x = some (.ref (G.adr c))) (cr : ClX.CRead X.K (G.adr c) mc) (cm : ClX.CMet X.K (G.adr c) mc m pA fA) (Fk : FnOk X.prog X.w X.K X.mg X.base CX0 lv fA fd ps (spD G n F)) (hr : Room lv X.A) (hb : KwB X.K fd ps 1 ks sel dvs) (hdd : ∀ S, RepL G S dd dvs)
    (hF : ∀ d y, F d = some y → d.length = n) (ha : LK G X kws r) (hl : ks.length = nk := by rfl) (hdb : (x == ("__debug__" : Str)) = false := by decide)
    (hall : (backToKw pos (keywordEach kws X.env)).all (·.1.isSome) = true := by rfl) (hks : (backToKw pos (keywordEach kws X.env)).filterMap (·.1) = ks := by rfl)
    (hpl : ((backTo pos (starEach [] X.env)).any (·.1) || (backToKw pos (keywordEach kws X.env)).any (·.1.isNone)) = false := by rfl)
    (ht : eval (.Call (.Attribute (.Name x np) m apos) [] kws pos) X.env = (do
      let ov ← eval (.Name x np) X.env
      standAt apos.atName
      let (f, first) ← holding [ov] (getMethod ov m pl)
      callWith pos f first (backTo pos (starEach [] X.env)) (backToKw pos (keywordEach kws X.env))) := by rfl) :
    LE G X (.Call (.Attribute (.Name x np) m apos) [] kws pos) (cmD c F [] (prm nk sel dd r)) := by
  subst hl
  obtain ⟨its, hb⟩ := hb
  refine pe_weak (pe_cmethN (E := fun _ _ _ => False) (pe_glob (v := .ref (G.adr c)) hg hm rfl hdb) cr cm Fk hr hb pass0 ha hall hks hpl ht) fun s H Q ⟨g, S, d, y, d', z, e, q⟩ => ?_
  unfold cmD at e
  split at e
  · rename_i xs d1 e1
    split at e
    · rename_i x t' e2
      split at e
      · rename_i e3
        cases e
        obtain ⟨zs, e5, e6, rfl⟩ := prm_inv e1
        rw [List.append_nil] at e2 e3
        refine ⟨rfl, g, S, d, zs, _, z, e5, fun vs H1 S1 sm1 z1 ra => ⟨by rw [← ra.length]; exact e6, ?_⟩⟩
        exact call_va (xs := .fn c :: pickS sel dd zs) hF z1 (.cons rep_fn (repl_pick (hdd S1) ra sel)) e2 (by simpa using e3) fun v H3 S3 sm3 z3 r3 => q v H3 S3 (sm1.trans sm3) z3 r3
      · cases e
    · cases e
  · cases e
end
end Zr

/-! Zr: the text of a text. -/
namespace Zr
open PySem L2
def nReprQ : List D → Option D
  | [.str s] => if (reprText s).length ≤ sizeLine then some (.str (reprText s)) else none
  | xs => nReprP xs
def rReprQ (K : PySem.W.Frag) : List V → Hp → VK → Prop := fun vs H Q => (∃ s, vs = [V.str s] ∧ (reprText s).length ≤ sizeLine ∧ Q (.str (reprText s)) H) ∨ rReprP K vs H Q
section
variable {G : Cls} {X : Cx}
theorem cr_reprQ (hg : X.A.guards = some []) (hu : X.A.units + 64 < cLine) : CallR X (.builtin "repr") (rReprQ X.K) := by
  intro pins s σ H vs us Q I r h
  rcases h with ⟨x, rfl, hl, q⟩ | h
  · obtain ⟨u, rfl, ru⟩ := vals1 r
    obtain ⟨t, rfl⟩ : ∃ t, u = .str x t := ru
    exact PySem.P.repr_of_str ⟨.str _, H, I.tok _, ⟨_, rfl⟩, q⟩ hl
  · exact cr_reprP hg hu pins s σ H vs us Q I r h
theorem r_reprQ (hK : G.K = X.K) : RnD G nReprQ (rReprQ X.K) := fun S H xs z vs Q sm r e q => by
  unfold nReprQ at e
  split at e
  · rename_i s
    split at e
    · rename_i hl
      cases e
      obtain ⟨v, rfl, r1⟩ := repL1 r
      exact .inl ⟨s, by rw [inv_str r1], hl, q _ S H (.refl sm) rep_str⟩
    · cases e
  · exact .inr (r_reprP hK S H _ z vs Q sm r e q)
end
theorem reprQ_counts : nReprQ [.str (.ofString "counts")] = some (.str (.ofString "'counts'")) := by kernel_rfl
end Zr

/-! Zr: the program's top by one run of the kernel; what the walk wants of it, told by a Hook. -/
namespace Zr
open PySem PySem.W PyProof.Rows L2
abbrev AlZ : Type := Bool × List He.FnW
def obsZ (fn : List He5.DefA) (ex : Frag → List Bool) (K : Frag) : AlZ := ((ex K).all id && fn.all fun d => d.ok K, fn.map fun d => He5.fnA K (d.at_ K))
def valZ (fn : List He5.DefA) : AlZ := (true, fn.map He5.DefA.val)
def SaysZ (fn : List He5.DefA) (ex : Frag → List Bool) (K : Frag) : Prop := obsZ fn ex K = valZ fn
/-- all addresses below n -/
def downs : Nat → List Addr
  | 0 => []
  | n + 1 => n :: downs n
def hookZ (fn : List He5.DefA) (ex : Frag → List Bool) : Hook where
  α := AlZ
  obs := fun s => obsZ fn ex (He.frG s.heap.get? (downs s.heap.objs.size))
  val := fun _ => valZ fn
  says := fun _ h => ∃ K : Frag, K.In h ∧ SaysZ fn ex K
  of := fun _ _ e => ⟨_, He.frG_in, e⟩
  keeps := fun _ _ _ ⟨K, hK, c⟩ k => ⟨K, Frag.In.keeps hK k, c⟩
def obZ (fn : List He5.DefA) (ex : Frag → List Bool) (s : SharedT) : AlZ := obsZ fn ex (He.frG (HandSHeadRun.getT s) (downs s.n))
theorem obZ_eq {fn : List He5.DefA} {ex : Frag → List Bool} (s : SharedT) : obZ fn ex s = (hookZ fn ex).obs s.abs := by
  have e : HandSHeadRun.getT s = s.abs.heap.get? := funext (HandSHeadRun.getT_eq s)
  have n : s.abs.heap.objs.size = s.n := by
    show (s.tree.list s.n).toArray.size = s.n
    unfold BT.list
    simp
  show obsZ fn ex _ = obsZ fn ex (He.frG s.abs.heap.get? (downs s.abs.heap.objs.size))
  rw [e, n]
section
variable {fn : List He5.DefA} {ex : Frag → List Bool} {K : Frag}
theorem SaysZ.all (c : SaysZ fn ex K) : (ex K).all id = true ∧ (fn.all fun d => d.ok K) = true := He.ba (congrArg (fun z : AlZ => z.1) c)
theorem all_at {l : List Bool} (h : l.all id = true) (i : Nat) {b : Bool} (e : l[i]? = some b) : b = true :=
  List.all_eq_true.mp h b (List.mem_of_getElem? e)
theorem SaysZ.at (c : SaysZ fn ex K) (i : Nat) {p : Prop} [Decidable p] (e : (ex K)[i]? = some (decide p)) : p := of_decide_eq_true (all_at c.all.1 i e)
theorem SaysZ.bt (c : SaysZ fn ex K) (i : Nat) {b : Bool} (e : (ex K)[i]? = some b) : b = true := all_at c.all.1 i e
theorem SaysZ.def_ (c : SaysZ fn ex K) (i : Nat) {d : He5.DefA} (h : fn[i]? = some d) : ∃ fd, L2.FunD K d.name d.qual d.params d.body d.scope (d.dvs K) (d.kws K) (d.at_ K) fd := by
  have e : fn.map (fun d => He5.fnA K (d.at_ K)) = fn.map He5.DefA.val := congrArg (fun z : AlZ => z.2) c
  have e2 : (fn.map fun d => He5.fnA K (d.at_ K))[i]? = (fn.map He5.DefA.val)[i]? := by rw [e]
  rw [List.getElem?_map, List.getElem?_map, h] at e2
  exact He5.DefA.funD (Option.some.inj e2) (List.all_eq_true.mp c.all.2 d (List.mem_of_getElem? h))
end
section
variable {K : Frag} {h : Heap} {mg : Str → Option Value}
/-- a property of the class at C -/
def propB (K : Frag) (C : Addr) (m : Str) : Bool := decide (findIn K (.ref C) m = some (some (.ref (He.ma K C m)))) && (decide (specialIn K (.ref (He.ma K C m)) "__get__" = some (some (.builtin "property.__get__"))) &&
  (decide (takesIn K (.ref (He.ma K C m)) = some true) && (match recIn K (He.ma K C m) "property" with
    | some (.ref _ :: _) => true
    | _ => false)))
theorem propB_ok {C : Addr} {m : Str} (e : propB K C m = true) : PropOf K C m (He.ma K C m) (He5.wf K C "property" m) := by
  obtain ⟨h1, h2⟩ := He.ba e
  obtain ⟨h3, h4⟩ := He.ba h2
  obtain ⟨h5, h6⟩ := He.ba h4
  refine ⟨of_decide_eq_true h1, of_decide_eq_true h3, of_decide_eq_true h5, ?_⟩
  clear h1 h2 h3 h4 h5
  split at h6
  · rename_i a r q
    refine ⟨r, ?_⟩
    have e2 : He5.wf K C "property" m = a := by
      unfold He5.wf
      rw [q]
    rw [q, e2]
  · cases h6
/-- the module's name x is the value v -/
def cstB (K : Frag) (x : Str) (v : V) : Bool := match nsIn K mainGlobals x with
  | some (some u) => He.relB v u
  | _ => false
theorem cst_ok (X : K.In h) (G : h.Ns mainGlobals mg) {x : Str} {v : V} (e : cstB K x v = true) : ∃ u, mg x = some u ∧ RelV v u := by
  unfold cstB at e
  split at e
  · rename_i u q
    exact ⟨u, mg_of X G q, He.relB_ok e⟩
  · cases e
/-- a tuple of texts among the module's constants -/
theorem rep_texts {ad : Nat → Addr} {fl : Nat → List Str} {S : Hp} : ∀ {xs : List Str}, RepL ⟨K, ad, fl⟩ S (xs.map D.str) ((xs.map He.Dv.str).map (He.Dv.v K))
  | [] => .nil
  | _ :: _ => .cons rep_str rep_texts
theorem rep_ctup {ad : Nat → Addr} {fl : Nat → List Str} {x : Str} {xs : List Str} (e : He.tupB K x (xs.map He.Dv.str) = true) (S : Hp) : Rep ⟨K, ad, fl⟩ S (.tup (xs.map D.str)) (.ref (He.ga K x)) := by
  unfold Rep
  exact ⟨_, _, rfl, He.tupB_ok e S, rep_texts⟩
/-- at a: the empty tuple -/
def unitB (K : Frag) (a : Addr) : Bool := match K.lookup a with
  | some ⟨.type c, _, .seq its _, _⟩ => decide (c = "tuple") && its.toList.isEmpty
  | _ => false
theorem unit_ok {a : Addr} {ad : Nat → Addr} {fl : Nat → List Str} (e : unitB K a = true) (S : Hp) : Rep ⟨K, ad, fl⟩ S (.tup []) (.ref a) := by
  unfold unitB at e
  split at e
  · rename_i c od its n sl q
    obtain ⟨h1, h2⟩ := He.ba e
    have e1 : c = "tuple" := of_decide_eq_true h1
    have e2 : its = #[] := by
      have : its.toList = [] := List.isEmpty_iff.mp h2
      exact Array.toList_eq_nil_iff.mp this
    subst e1 e2
    exact rep_unit q S
  · cases e
end
/-- the end of a law that repr is walked in -/
theorem walk_atE {l : PySem.W.OpenLaw} {n k : Nat} {q : Program} {loose : List Str} {XP : (Str → Option Value) → Heap → Prop} {YP : World → Heap → Prop} {d : DefRec} {x : Str}
    (hn : l.most = some n) (hn2 : n ≤ sizeLine) (hdf : d.params.defaults = []) (rm : Room k callerA)
    (F : ∀ (w : World) (mg : Str → Option Value) (fa : Addr) (h : Heap), YP w h → h.Ns mainGlobals mg → mg d.name = some (.ref fa) →
      ∃ (K : Frag) (fd : FuncData) (sp : Sp), K.In h ∧ (∀ (s : Shared) (u : Value), BindsTo s fd ⟨[u], []⟩ [(x, u)]) ∧
        (∀ (H : Hp) (a : Addr) (ns : List Int), ns.length ≤ n → Only H → SqL K H a (ns.map V.int) → sp [.ref a] H (fun v _ => v = .bl true) fun _ _ _ => False) ∧
        ∀ base : Heap, K.In base → base.Ns mainGlobals mg → FnAt l.prog w K mg base k fa fd [x] sp) :
    PySem.W.WalkO q loose XP YP l.row.toRowW d [] (fun f vs => PySem.call f vs) := by
  refine Att.attach_call hn hdf fun w z0 z1 mg mb fa o pm cd doc a vs ns Gr Y ho hd hcd hmg hobj hints hlen hg => ?_
  obtain ⟨K, fd, sp, KX, hb, hsp, hF⟩ := F w mg fa _ Y Gr.T.g hmg
  exact law_at KX Gr.T.g Gr.T.b Gr.T.builtins Gr.T.nolimit hg hobj hints (Nat.le_trans hlen hn2) rm hF hb fun H hO hS => hsp H a ns hlen hO hS
end Zr

set_option maxHeartbeats 2000000
/-! Zr: an own exception class over ValueError, perhaps with own classes between, whose __init__ says super().__init__(text) and keeps one field -/
namespace Zr
open PySem L2 PySem.Spec PyProof.Rows PySem.W

/-- Exc(word): a new exception with the field -/
def spXI (C : Addr) (fld : Str) : Sp := fun vs H Q _ => ∃ (a : Addr) (y : V), vs = [.ref a, y] ∧ H a = some (exo a C none) ∧ ∀ dx, H dx = none → dx ≠ a → Q .non (upd (upd H dx (exd dx [(fld, y)])) a (exo a C (some dx)))

section
variable {prog : Program} {w : World} {A : Around} {E : Value → Shared → Prop} {h : Heap} {g : Array GenState} {d : Drawn} {t : Nat} {os : OsState}
variable {nm q : Str} {C N : Addr} {bs bm : List Value} {hdct : Bool} {sn : List Str} {sub : List Value} {ab : Bool} {col : Option Bool} {dd : Option Addr} {k0 k1 k2 k3 k5 : Option Value}
theorem call_bwV {u e t0 : Addr} {rest : List Value} {Q : Value → Shared → Prop}
    (hC : h.get? C = some (excClassObj nm q C N bs bm hdct sn sub ab col dd k0 k1 k2 k3 k5 "ValueError.__new__")) (he : h.get? e = some (HandSPX.excO C t0)) (hu : h.get? u = some (kxs_mw "ValueError.__init__" e)) (hrest : rest.length ≤ sizeLine)
    (hq : ∀ h' t1, (∀ b o, b ≠ e → h.get? b = some o → h'.get? b = some o) → h'.get? e = some (HandSPX.excO C t1) → Q .none ⟨h', g, d, t, os⟩) :
    wpAny (model prog w) A (call (.ref u) rest) Q E ⟨h, g, d, t, os⟩ := by
  refine wpAny_call (codeAny_of_tree ?_)
  show wpAny _ A.in1 (callAny (.ref u) ⟨rest, []⟩) _ _ _
  simp only [callAny]
  refine wpAny_bind (wpAny_load hu ?_)
  simp only [kxs_mw, show (Value.type "method-wrapper" == Value.type "method" || Value.type "method-wrapper" == Value.type "builtin_function_or_method" || Value.type "method-wrapper" == Value.type "method-wrapper") = true by decide, if_true]
  refine W.KFB.if_so (by decide) ?_
  refine wpAny_bind (PySem.ESX.check_bound F.excBase_ValueError hC he rfl ?_)
  refine wpAny_bind (wpAny_pure (wpAny_pure ?_))
  refine ⟨Code.quiet_builtin _ (by decide +kernel), codeAny_builtin F.excBase_ValueError.initEntry ?_⟩
  rw [Around.under_plainId F.excBase_ValueError.init.plain _]
  wp_walk
  refine hq _ h.objs.size (fun b o hb ho => ?_) ?_
  · rw [Heap.get?_update_other _ _ (Ne.symm hb)]
    exact Heap.get?_push_of_some _ ho
  · rw [Heap.get?_update_self _ (Heap.get?_push_of_some _ he) rfl]
    rfl
end
section
variable {P : Program} {w : World} {K : Frag} {mg : Str → Option Value} {base : Heap} {k : Nat} {f cc cda C : Addr} {name qual wn fld txt : Str} {params : Arguments} {scope : Scope} {dV kV doc pm ct oc ccl cl : Value} {an od cdd cld : Option Addr} {osl ccs csl : Array (Option Value)} {vs0 : Array Value} {file : Str} {tf : Tok} {cdD : ClassData} {bm : List Value} {ar : Arg}
variable {p0 p1 p2 p4 p5 p6 p7 p8 p9 p3 : Pos} {j : Nat}

abbrev xiSup (p0 p1 : Pos) : Expr := .Call (.Name "super" p0) [] [] p1
abbrev xiBody (txt fld wn : Str) (j : Nat) (p0 p1 p2 p3 p4 p5 p6 p7 p8 p9 : Pos) : List Stmt := [.Expr (.Call (.Attribute (.Call (.Name "super" p0) [] [] p1) "__init__" p2) [.Constant (.str txt) j p3] [] p4) p5, .Assign [.Attribute (.Name "self" p6) fld p7] (.Name wn p8) p9]

/-- Exc.__init__ -/
def XiCall (txt : Str) (j : Nat) (p0 p1 p2 p3 p4 : Pos) : Prop := ∀ env : Env, ∃ pl : Sem Bool, eval (.Call (.Attribute (xiSup p0 p1) "__init__" p2) [.Constant (.str txt) j p3] [] p4) env = (do
      let ov ← attributeBase (xiSup p0 p1) "__init__" env (eval (xiSup p0 p1) env)
      standAt p2.atName
      let (f, first) ← holding [ov] (getMethod ov "__init__" pl)
      callWith p4 f first (backTo p4 (starEach [.Constant (.str txt) j p3] env)) [])
theorem xinit_ok {body : List Stmt} (hcall : XiCall txt j p0 p1 p2 p3 p4) (hbody : body = xiBody txt fld wn j p0 p1 p2 p3 p4 p5 p6 p7 p8 p9)
    (lk : K.lookup f = some ⟨oc, od, .func (ksFn name qual params body scope dV kV doc pm an (.ref cda) ct cc), osl⟩) (hcd : codeIn K (.ref cda) qual = true)
    (hcode : K.lookup cda = some ⟨ccl, cdd, .fields vs0, ccs⟩) (hvs : vs0[2]? = some (.str file tf)) (hfile : ((P.main.file : Str) == file) = true)
    (hcell : K.lookup cc = some ⟨cl, cld, .cell (some (.ref C)), csl⟩) (hD : clsIn K C = some cdD) (hmro : cdD.mro = .ref C :: bm) (T : OexC K C) (hsub : mroIn K C (.ref C) = some true)
    (hpar : (params.posonlyargs ++ params.args).head? = some ar) (har : ar.arg = "self") (hwn : (wn == "self") = false) (hwd : (wn == ("__debug__" : Str)) = false) (hwc : (wn == ("__classdict__" : Str)) = false)
    (hk : scope.kind = .function) (hco : scope.isCoroutine = false) (hgen : scope.isGenerator = false)
    (k1 : scope.names.lookup ("self" : Str) = some .local) (k2 : scope.names.lookup wn = some .local) (k3 : scope.names.lookup ("super" : Str) = some .globalImplicit) (k4 : scope.names.lookup ("__class__" : Str) = some .free)
    (k5 : ∀ x ∈ scope.names, x.2 ≠ .cell) (k6 : ∀ x, scope.names.lookup x = some .free → x = "__class__")
    (hsuper : mg "super" = none) (htop : (P.main.scope.names.lookup ("super" : Str)).isSome = false)
    (hfld : findIn K (.ref C) fld = some none) (hal : alongIn K "__init__" bm = some (some (.builtin "ValueError.__init__"))) (hopq : nsIn K cStatics "thirdparty.any" = some none) (hB : subIn K (.ref C) (.type "ValueError") = some true) :
    FnOk P w K mg base CX0 (k + 1) f (ksFn name qual params body scope dV kV doc pm an (.ref cda) ct cc) ["self", wn] (spXI C fld) := by
  refine ⟨fun vs H Q E ⟨a, y, e, _⟩ => by rw [e]; rfl, fun A outer s H args us vs Q E hr e0 hb r hsp => ?_⟩
  obtain ⟨a, y, rfl, ha, hq⟩ := hsp
  have KX : K.In s.heap := e0.mod.kin.keeps fun b o e => (e0.bs b o e).1
  have lim : s.heap.NoLimit := e0.mod.nolimit.keeps fun b o e => (e0.bs b o e).1
  obtain ⟨u1, u2, rfl, ra, ry⟩ : ∃ u1 u2, us = [u1, u2] ∧ RelV (.ref a) u1 ∧ RelV y u2 := by
    cases r with
    | cons r1 r' => cases r' with
      | cons r2 r'' => cases r''; exact ⟨_, _, rfl, r1, r2⟩
  obtain rfl : u1 = .ref a := ra
  refine ks_codeAny_call_defAt (fd := ksFn name qual params body scope dV kV doc pm an (.ref cda) ct cc) (body := body) (binds := [("self", .ref a), (wn, u2)]) hr.depth (KX _ _ lk) rfl lim (codeRec_of KX hcd) rfl hb k5 (fun x hx => ?_) (fun h1 hns hk1 => ?_) hco hgen hk
  · simp only [List.mem_cons, List.not_mem_nil, or_false] at hx
    rcases hx with rfl | rfl
    · exact k1
    · exact k2
  generalize henv : callEnv (ksFn name qual params body scope dV kV doc pm an (.ref cda) ct cc) s.heap.objs.size f = env
  have ev : env = { scope := scope, locals := s.heap.objs.size, globals := mainGlobals, cells := [("__class__", cc)], qual := qual ++ ".<locals>.", func := some f, code := .ref cda, frame := some s.heap.objs.size, builtins := builtinsNs } := by
    rw [← henv]; rfl
  obtain ⟨X, hX⟩ : ∃ X : Cx, X = { cxOf CX0 P w K mg base ["self", wn] qual scope f (.ref cda) A outer s H E with env := env, A := A.deeper env, stack := env :: outer, fn := fun x => x != "__class__", xe := fun e s' => wpAny (model P w) (A.deeper env) (leaving env e) (fun _ s'' => CX0 outer H s E e s'') (fun e' s'' => CX0 outer H s E e' s'') s' } := ⟨_, rfl⟩
  have eX : X.env = env := by rw [hX]
  have bcc := e0.bs _ _ (e0.mod.kin _ _ hcell)
  have cells : ∀ x c, X.env.cells.lookup x = some c → x = "__class__" ∧ c = cc := fun x c h => by
    rw [eX, ev] at h
    have h : List.lookup x [(("__class__" : Str), cc)] = some c := h
    simp only [List.lookup] at h
    split at h
    · rename_i q
      exact ⟨by simpa using q, (Option.some.inj h).symm⟩
    · cases h
  have I : Inv X [] [some (.ref a), some y] H { s with heap := h1, toks := s.toks + 2 } := by
    have no : ∀ b : Addr, b ∉ X.ex := fun b z => by rw [hX] at z; cases z
    refine ⟨⟨by rw [hX]; exact e0.mod, by rw [eX, ev]; exact hk, by rw [eX, ev], by rw [eX, ev], by rw [eX, ev, hX]; exact Nat.le_refl _, fun x z c h2 h3 => (cells x c h2).1.trans (cells z c h3).1.symm, fun x hx => ?_, fun x c hf h2 => ?_, fun _ => by rw [hX]; exact hr.hd, by rw [hX]; exact Around.frames_deeper e0.frames, .inr ⟨by rw [hX]; rfl, by rw [eX, ev]⟩, fun b z => absurd z (no b), by rw [hX]; exact e0.bs, by rw [hX]; exact e0.bsz, fun b _ _ => no b, fun b z => absurd z (no b), by rw [hX]; exact e0.funs, by rw [hX]; exact e0.frf⟩,
      by rw [hX]; rfl, e0.bare, by rw [hX]; exact Un.kept hk1, ⟨_, by rw [eX, ev]; exact hns, fun i x v g1 g2 g3 => ?_⟩, fun x c h2 => ?_, by rw [eX, ev]; exact e0.hok.fresh (Nat.le_refl _), fun x c h2 => by rw [(cells x c h2).2]; exact bcc.2, fun p hp => ?_, by rw [hX]; exact e0.hok.kept hk1, by rw [hX]; rfl⟩
    · refine ⟨cc, ?_⟩
      rw [eX, ev] at hx ⊢
      have hx : scope.names.lookup x = some .cell ∨ scope.names.lookup x = some .free := hx
      rcases hx with hx | hx
      · exact absurd rfl (k5 _ (PySem.mem_of_lookup hx))
      · rw [k6 x hx]; rfl
    · exfalso
      rw [(cells x c h2).1, hX] at hf
      have hf : ((("__class__" : Str)) != "__class__") = true := hf
      exact absurd hf (by decide)
    · rw [hX] at g1
      match i, g1, g2 with
      | 0, g1, g2 =>
        have e1 : ("self" : Str) = x := Option.some.inj g1
        have e2 : V.ref a = v := Option.some.inj (Option.some.inj g2)
        subst e1 e2
        refine ⟨.ref a, rfl, .inl ⟨by rw [eX, ev]; exact k1, ?_⟩⟩
        have q : (("self" : Str) == wn) = false := by rw [← hwn, BEq.comm]
        show List.lookup ("self" : Str) [(wn, u2), ("self", Value.ref a)] = _
        simp only [List.lookup, q]
        simp
      | 1, g1, g2 =>
        have e1 : wn = x := Option.some.inj g1
        have e2 : y = v := Option.some.inj (Option.some.inj g2)
        subst e1 e2
        refine ⟨u2, ry, .inl ⟨by rw [eX, ev]; exact k2, ?_⟩⟩
        simp [List.lookup]
      | i + 2, g1, g2 => exact absurd g2 (by simp)
    · rw [(cells x c h2).2]
      exact ⟨_, ⟨_, hk1 _ _ bcc.1, rfl⟩⟩
    · rw [hX] at hp
      cases hp
  have kin1 : K.In h1 := KX.keeps hk1
  obtain ⟨mb, mb1, mb2⟩ := e0.mod.blt
  have KF := kxs_ValueError
  obtain ⟨nm, q, N, bs, bm', sn, sub, ab, col, dd, q0, q1, q2, q3, q5, hC, hbm⟩ := id T.cls
  have kev : ∀ {x : Str}, env.kindOf x = scope.names.lookup x := fun {x} => by rw [ev]; rfl
  subst hX
  subst hbody
  obtain ⟨pl, he⟩ := hcall env
  have hint : interactive env = false := by
    unfold interactive
    rw [ev]
    show (scope.kind == .module && _) = false
    rw [hk]
    rfl
  refine ks_wpAt_execs_cons (ks_wpAt_Expr_any (ks_wpAt_MethodCall (pl := pl) ?_ he) hint)
  refine ks_wpAt_super_base (kev.trans k3) (kev.trans k4) (by decide) (by rw [ev]) (hk1 _ _ (KX _ _ lk)) rfl hpar (by rw [ev]) (hk1 _ _ (KX _ _ hcode)) rfl hvs hfile htop ?_
  have hkf : env.scope.kind = .function := by rw [ev]; exact hk
  refine ks_loadName_global hkf (kev.trans k3) (Calls.loadGlobal_builtin (mg := mg) (mb := mb) (by rw [ev]; exact e0.mod.glob.keeps fun b o e => hk1 b o (e0.bs b o e).1) hsuper (by rw [ev]; exact mb1.keeps fun b o e => hk1 b o (e0.bs b o e).1) ((mb2 _ (by decide)).trans (by kernel_rfl)) ⟨rfl, ?_⟩)
  refine wpAny_loadName_free hkf (kev.trans k4) (c := cc) (by rw [ev]; rfl) ⟨_, kin1 _ _ hcell, rfl⟩ ?_
  rw [har]
  obtain ⟨mL, hmL, hLk⟩ := I.loc
  obtain ⟨us, rs, lks⟩ := hLk 0 "self" (.ref a) rfl rfl (.inl (kev.trans k1))
  obtain rfl : us = .ref a := rs
  obtain ⟨t1, hx1⟩ := exo_at I.hok ha
  have lself : mL "self" = some (.ref a) := by
    rcases lks with ⟨_, q⟩ | ⟨q, _⟩
    · exact q
    · exfalso
      rcases q with q | q <;> (have q := (kev.symm.trans q); rw [k1] at q; cases q)
  refine wpAny_loadName_local hkf (kev.trans k1) hmL lself ?_
  refine ks_wpAny_isType_cls (kin1 _ _ hC) rfl ⟨rfl, ?_⟩
  refine ks_wpAny_call_super (kin1 _ _ hC) rfl hx1 rfl (fun c e => by cases e) (looks_mroIn kin1 hsub) (fun h2 e2 kk2 => ?_)
  have kin2 := kin1.keeps kk2
  have hx2 := kk2 _ _ hx1
  have In2 : W.InstAt h2 a ({ cls := .ref C, dict := none, data := .fields #[.ref t1, .none, .none, .none, .bool false, .none] } : Obj) C none := ⟨hx2, rfl, rfl, trivial⟩
  refine kxs_getMethod (l₀ := cdD.mro) (l := bm) KF e2 (looks_opaque kin2 hopq) (fun A Q E s k q => wpAny_bind ((looks_clsIn kin2 hD) A _ E s k (wpAny_pure q))) ?_ kin2 hal (In2.type.andThen (looks_subIn kin2 hB)) (ks_ne kin2 In2 hD) (by decide) ?_
  · rw [hmro]
    exact PySem.ESX.drop_own C bm
  have hst : starEach [Expr.Constant (Const.str txt) j p3] env = [(false, eval (Expr.Constant (Const.str txt) j p3) env)] := rfl
  rw [hst]
  refine kxs_callWith (i := "ValueError.__init__") (x := a) rfl (Calls.evalArgs_plain ?_)
  show wpAny _ _ (spliced ((false, eval (Expr.Constant (Const.str txt) j p3) env) :: backTo p4 [])) _ _ _
  refine Calls.spliced_cons (Calls.Constant_str ?_)
  refine Calls.spliced_nil ?_
  have ku : (h2.push (kxs_mw "ValueError.__init__" a)).get? h2.objs.size = some (kxs_mw "ValueError.__init__" a) := Heap.get?_push_at rfl rfl
  have kk3 : ∀ b o, h1.get? b = some o → (h2.push (kxs_mw "ValueError.__init__" a)).get? b = some o := fun b o e => Heap.get?_push_of_some _ (kk2 b o e)
  refine ⟨ku, ?_⟩
  refine call_bwV (kin1.keeps kk3 _ _ hC) (kk3 _ _ hx1) ku (by rw [sizeLine_eq]; show 1 ≤ 16777216; decide) (fun h4 t4 kk4 hx4 => ?_)
  have I3 := I.kept (t' := s.toks + 2) kk3
  have J := fun (t' : Nat) => I3.write (t' := t') (x := a) (e := a) (o := exo a C none) (by rw [ha]; exact True.intro) (.inl rfl) kk4 ⟨_, hx4⟩ (exo_ok hx4)
  have eu : upd H a (exo a C none) = H := by
    funext b
    by_cases hb : b = a
    · rw [hb, upd_same, ha]
    · rw [upd_ne hb]
  rw [eu] at J
  refine ks_wpAt_execs_cons (wpAt_of_wpAny ?_)
  have st := ps_ost (X := { cxOf CX0 P w K mg base ["self", wn] qual scope f (.ref cda) A outer s H E with env := env, A := A.deeper env, stack := env :: outer, fn := fun x => x != "__class__", xe := fun e s' => wpAny (model P w) (A.deeper env) (leaving env e) (fun _ s'' => CX0 outer H s E e s'') (fun e' s'' => CX0 outer H s E e' s'') s' }) (f := fld) (p' := p7) (pos := p9) (pe_var (pos := p6) (i := 0) (x := "self") rfl (.inl (by show env.scope.names.lookup _ = _; rw [ev]; exact k1))) (pe_var (pos := p8) (i := 1) (x := wn) rfl (.inl (by show env.scope.names.lookup _ = _; rw [ev]; exact k2)) hwd hwc)
  refine wpAny_mono (st.run [] _ _ H { nx := fun _ H' => Q .non H', rt := fun _ _ => False } (J _) ⟨y, rfl, .ref a, rfl, a, C, rfl, T, hfld, .inl ⟨ha, fun dx n ne => hq dx n ne⟩⟩) (fun fl s' hs => ?_) (fun e s' hs => hs)
  cases fl with
  | next =>
    obtain ⟨σ', H', J2, q⟩ := hs
    refine wpAt_of_wpAny (wpAny_execs_nil ?_)
    exact ⟨.non, H', J2.os, J2.bare, J2.base, J2.hok, rfl, q⟩
  | ret u =>
    obtain ⟨_, _, _, _, _, q⟩ := hs
    exact False.elim q
  | brk =>
    obtain ⟨_, _, _, q⟩ := hs
    exact False.elim q
  | cont =>
    obtain ⟨_, _, _, q⟩ := hs
    exact False.elim q
end
end Zr

set_option maxHeartbeats 2000000
/-! Zr: what raises: a second reading, the kind of the exception and what its field holds -/
namespace Zr
open PySem L2

abbrev DR := Ev → Option (Nat × D × Ev)
/-- the classes of exceptions and their fields -/
abbrev XTab := Nat → Addr × Str
def RaiseQ (G : Cls) (T : XTab) (g : Gh) (S : Hp) (W : WX) (t : Nat) (x : D) (d' : Ev) : Prop := ∀ dx v s' H1 S', Same S S' → Zt G g S' s' H1 d' → H1 dx = none → Rep G S' x v → W (.ref (T t).1) (some dx) s' (upd H1 dx (.xd [((T t).2, v)]))
theorem RaiseQ.mono {G : Cls} {T : XTab} {g : Gh} {S S1 : Hp} {W : WX} {t : Nat} {x : D} {d' : Ev} (e : Same S S1) (q : RaiseQ G T g S W t x d') : RaiseQ G T g S1 W t x d' := fun dx v s' H1 S' sm => q dx v s' H1 S' (e.trans sm)
def liftR (G : Cls) (T : XTab) (R : DR) (W : WX) : TS := fun _ s H => ∃ g S d t x d', Zt G g S s H d ∧ R d = some (t, x, d') ∧ RaiseQ G T g S W t x d'
def liftRE (G : Cls) (T : XTab) (R : DR) (W : WX) : TE := fun s H _ => ∃ g S d t x d', Zt G g S s H d ∧ R d = some (t, x, d') ∧ RaiseQ G T g S W t x d'
def LR (G : Cls) (T : XTab) (X : Cx) (st : Stmt) (R : DR) : Prop := ∀ W, Takes X W → PS X st (liftR G T R W)
def LRs (G : Cls) (T : XTab) (X : Cx) (st : List Stmt) (R : DR) : Prop := ∀ W, Takes X W → PSs X st (liftR G T R W)
def LRE (G : Cls) (T : XTab) (X : Cx) (e : Expr) (R : DR) : Prop := ∀ W, Takes X W → PE X e (liftRE G T R W)

theorem ps_nox {X : Cx} {st : Stmt} {t : TS} (h : PS X.nox st t) : PS X st t := ⟨fun pins s σ H D I hw =>
  wpAny_mono (h.run pins s σ H D (I.wish _) hw) (fun _ _ q => q.unwish) fun _ _ z => False.elim z⟩

def rz : DR := fun _ => none
def rr (t : Nat) (f : DE) : DR := fun d => match f d with
  | some (x, d1) => some (t, x, d1)
  | none => none
def rc (R0 : DR) (B : DS) (R : DR) : DR := fun d => match R0 d with
  | some r => some r
  | none => match B d with
    | some (.nx, d1) => R d1
    | _ => none
def rif (ft : DT) (R1 R2 : DR) : DR := fun d => match ft d with
  | some (true, d1) => R1 d1
  | some (false, d1) => R2 d1
  | none => none
section
variable {G : Cls} {T : XTab} {X : Cx} {e a b c : Expr} {es : List Expr} {f : DE} {fa : DA} {ft : DT} {pos pos' p : Pos} {st : Stmt} {sts B1 B2 : List Stmt} {B : DS} {R R0 R1 R2 : DR} {x : Str}
theorem lr_z : LR G T X st rz := fun W tk => ⟨fun pins s σ H D I ⟨_, _, _, _, _, _, _, e, _⟩ => nomatch e⟩
theorem lrs_z : LRs G T X sts rz := fun W tk => ⟨fun pins s σ H D I ⟨_, _, _, _, _, _, _, e, _⟩ => nomatch e⟩
theorem pss_any : PSs X sts (fun _ _ _ => False) := ⟨fun pins s σ H D I h => h.elim⟩
theorem lrs_cons (h0 : LR G T X st R0) (hB : LS G X.nox st B) (h : LRs G T X sts R) : LRs G T X (st :: sts) (rc R0 B R) := fun W tk => by
  refine ⟨fun pins s σ H D I ⟨g, S, d, t, y, d', z, e, q⟩ => ?_⟩
  unfold rc at e
  split at e
  · rename_i r e0
    cases e
    exact (pss_cons (h0 W tk) (pss_any (sts := sts))).run pins s σ H D I ⟨g, S, d, t, y, d', z, e0, q⟩
  · split at e
    · rename_i d1 e1
      refine (pss_cons (ps_nox hB) (h W tk)).run pins s σ H D I ⟨g, S, d, .nx, d1, z, e1, fun s' H' S' sm z' => ?_⟩
      exact ⟨g, S', d1, t, y, d', z', e, q.mono sm⟩
    · cases e
theorem lrs_one (h0 : LR G T X st R0) : LRs G T X [st] R0 := fun W tk => by
  refine ⟨fun pins s σ H D I h => ?_⟩
  exact (pss_cons (h0 W tk) (pss_any (sts := []))).run pins s σ H D I h
theorem lrs_here (h0 : LR G T X st R0) : LRs G T X (st :: sts) R0 := fun W tk => by
  refine ⟨fun pins s σ H D I h => ?_⟩
  exact (pss_cons (h0 W tk) (pss_any (sts := sts))).run pins s σ H D I h
theorem lr_if (ht : LT G X.nox c ft) (h1 : LRs G T X B1 R1) (h2 : LRs G T X B2 R2) : LR G T X (.If c B1 B2 pos) (rif ft R1 R2) := fun W tk => ps_weak (ps_if ht.nox (h1 W tk) (h2 W tk)) fun D s H ⟨g, S, d, t, y, d', z, e, q⟩ => by
  unfold rif at e
  split at e
  · rename_i d1 e1
    refine ⟨g, S, d, true, d1, z, e1, fun H' S' sm z' => ?_⟩
    exact ⟨g, S', d1, t, y, d', z', e, q.mono sm⟩
  · rename_i d1 e1
    refine ⟨g, S, d, false, d1, z, e1, fun H' S' sm z' => ?_⟩
    exact ⟨g, S', d1, t, y, d', z', e, q.mono sm⟩
  · cases e
theorem lr_expr (he : LRE G T X e R) (hs : swapsWith e none pos.line X.env = pure false := by rfl) : LR G T X (.Expr e pos) R := fun W tk => ps_weak (ps_expr (he W tk) hs) fun D s H h => h
theorem lr_ret (he : LRE G T X e R) : LR G T X (.Return (some e) pos) R := fun W tk => ps_weak (ps_ret (he W tk)) fun D s H h => h
theorem lr_set {i : Nat} (hN : X.N.Nodup) (hi : X.N[i]? = some x) (hx : Loc X.env.scope x) (he : LRE G T X e R) (hs : swapsWith e (some (.Name x pos')) pos.line X.env = pure false := by rfl) (hf : X.fn x = true ∨ X.env.scope.names.lookup x = some .local := by first | exact .inl rfl | exact .inr rfl) :
    LR G T X (.Assign [.Name x pos'] e pos) R := fun W tk => ps_weak (ps_set hN hi hx (he W tk) hs hf) fun D s H h => h
theorem lx_upd {H1 : Hp} {a dx C : Addr} {fs : List (Str × V)} {o1 o2 o3 o4 : HO} (ha : H1 a = none) (hne : dx ≠ a) : upd (del (upd (upd (upd H1 a o1) dx o2) a o3) a) dx o4 = upd H1 dx o4 := by
  funext b
  by_cases hb : b = dx
  · subst hb; rw [upd_same, upd_same]
  · rw [upd_ne hb, upd_ne hb]
    by_cases h2 : b = a
    · subst h2; rw [del_same, ha]
    · rw [del_ne h2, upd_ne h2, upd_ne hb, upd_ne h2]
/-- raise C(e) -/
theorem lr_raise {t : Nat} {C fI : Addr} {fld : Str} {k : Nat} {fd : FuncData} {ps : List Str} (hT : T t = (C, fld)) (hc : X.calm = true) (O : OexC X.K C) (iC : PySem.W.findIn X.K (.ref C) "__init__" = some (some (.ref fI))) (tI : PySem.W.typeIn X.K (.ref fI) = some (.type "function"))
    (F1 : FnOk X.prog X.w X.K X.mg X.base CX0 k fI fd ps (spXI C fld)) (hr : Room (k + 1) X.A) (hb : Binds X.K fd ps []) (hg : Gl X x) (hm : X.mg x = some (.ref C)) (he : LE G X.nox e f)
    (hdb : (x == ("__debug__" : Str)) = false := by decide) (hst : starEach [e] X.env = (false, eval e X.env) :: starEach [] X.env := by rfl) :
    LR G T X (.Raise (some (.Call (.Name x p) [e] [] pos)) none pos') (rr t f) := fun W tk => by
  refine ps_weak (ps_raise hc tk (pmk_oex (dvs := []) (ds := []) O iC tI F1 hr hb .nil (fun _ _ _ _ _ _ _ z => z.elim) hg hm (pa_cons he.nox pa_nil hst) hdb hst rfl)) fun D s H ⟨g, S, d, t', y, d', z, e, q⟩ => ?_
  unfold rr at e
  split at e
  · rename_i y1 d1 e1
    cases e
    refine ⟨g, S, d, y, d', z, e1, fun v H1 S1 sm z1 r => ?_⟩
    refine ⟨by simp, fun a ha => ⟨a, v, rfl, upd_same, fun dx hdx hne => ⟨rfl, dx, [(fld, v)], upd_same, ?_, ?_, ?_⟩⟩⟩
    · rw [upd_ne hne, upd_same]
    · rw [upd_ne hne] at hdx; exact hdx
    · rw [upd_ne hne] at hdx
      rw [lx_upd (C := C) (fs := []) ha hne]
      have k := q dx v s H1 S1 sm z1 hdx r
      rw [hT] at k
      exact k
  · cases e
end

/-! ### defs that raise -/
def spR (G : Cls) (T : XTab) (n : Nat) (R : DR) : Sp := fun vs H _ E => vs.length = n ∧ ∃ g S d t x d', Zt G g S (vs.map some) H d ∧ R d = some (t, x, d') ∧
  ∀ dx v H1 S', Same S S' → Zt G g S' (vs.map some) H1 d' → H1 dx = none → Rep G S' x v → E (.ref (T t).1) (some dx) (upd H1 dx (.xd [((T t).2, v)]))
def fnR (n m : Nat) (R : DR) : DR := fun d => if d.length = n then match R (d ++ List.replicate m .no) with
  | some (t, x, d') => some (t, x, outs n d')
  | none => none
  else none
section
variable {G : Cls} {T : XTab} {P : Program} {w : World} {K : PySem.W.Frag} {mg : Str → Option Value} {base : Heap} {x qual : Str} {st : Stmt} {f : Addr} {fd : FuncData} {ps N : List Str} {k m n : Nat} {R : DR} {dvs : List V}
theorem fnR_at {g : Gh} {S H : Hp} {d d' : Ev} {t : Nat} {y : D} {vs : List V} {E : XK} {sc : Scope} {cdv : Value} {A : Around} {outer : List Env} {s : Shared} (hn : n = ps.length) (hm : m = N.length - n) (hl : vs.length = n) (z : Zt G g S (vs.map some) H d) (e : fnR n m R d = some (t, y, d'))
    (q : ∀ dx v H1 S', Same S S' → Zt G g S' (vs.map some) H1 d' → H1 dx = none → Rep G S' y v → E (.ref (T t).1) (some dx) (upd H1 dx (.xd [((T t).2, v)]))) :
    liftR G T R (fun cls d _ H => E cls d H) { nx := fun _ _ => True, rt := fun _ _ => True } (L2.start N vs) H := by
  have hd : d.length = n := by rw [← hl, ← z.ln, List.length_map]
  unfold fnR at e
  rw [if_pos hd] at e
  have z1 := z.pad (N := N) (m := m) (by rw [hm, hl])
  split at e
  · rename_i t2 y2 d2 e2
    cases e
    rw [← hd] at q
    exact ⟨g, S, _, _, _, d2, z1, e2, fun dx v s' H1 S' sm z' hdx r => q dx v H1 S' sm (z.outs z') hdx r⟩
  · cases e
theorem fn_none {lv : Nat} {n : Nat} : FnOk P w K mg base CX0 lv f fd ps (spD G n (fun _ => none)) :=
  ⟨fun vs H Q E ⟨_, _, _, _, _, _, _, e, _⟩ => (nomatch e), fun A outer s H args us vs Q E hr he hb r ⟨_, _, _, _, _, _, _, e, _⟩ => (nomatch e)⟩
theorem fnR_ok (F : Fun K x qual st f fd) (Sc : FnScope N ps (defScope st)) (hn : n = ps.length) (hm : m = N.length - n)
    (hb : ∀ (cdv : Value) (A : Around) (outer : List Env) (s : Shared) (H : Hp) (E : XK), Room k (A.deeper (PyProof.Rows.envOfC qual (defScope st) s.heap.objs.size f cdv)) → LRs G T (cxOf (L2.CX P w) P w K mg base N qual (defScope st) f cdv A outer s H E) (defBody st) R) :
    FnOk P w K mg base (L2.CX P w) (k + 1) f fd ps (spR G T n (fnR n m R)) := by
  refine F.okX Sc (fun vs H Q E h => h.1.trans hn) fun cdv A outer s H vs Q E hr h => ?_
  obtain ⟨hl, g, S, d, t, y, d', z, e, q⟩ := h
  have tk : Takes (cxOf (L2.CX P w) P w K mg base N qual (defScope st) f cdv A outer s H E) (fun cls d _ H => E cls d H) := takes_of rfl rfl rfl (E₁ := fun e' s'' => L2.CX P w outer H s E e' s'') rfl
  exact ⟨_, hb cdv A outer s H E hr _ tk, fnR_at (sc := defScope st) (cdv := cdv) (A := A) (outer := outer) (s := s) hn hm hl z e q⟩
end

/-! ### calls that raise -/
def callR (R : DR) (f : DB) : DR := fun d => match f d with
  | some (xs, d1) => if onceD (iosOf xs) then match argsD xs d1 with
      | some t => match R t with
        | some (k, x, t') => match putD xs t' d1 with
          | some d2 => some (k, x, d2)
          | none => none
        | none => none
      | none => none
    else none
  | none => none
/-- C(..), whose __init__ raises -/
def mkR (c : Nat) (R : DR) (ds : List D) (r : DA) : DR := fun d => match r d with
  | some (xs, d1) => match R (.io (.ob c []) :: (xs ++ ds).map Sl.va) with
    | some (k, x, .io _ :: t') => if t'.length = (xs ++ ds).length then some (k, x, d1) else none
    | _ => none
  | none => none
section
variable {G : Cls} {T : XTab} {X : Cx} {e : Expr} {es : List Expr} {r : DB} {ra : DA} {pos p : Pos} {x : Str} {lv n : Nat} {fA : Addr} {fd : FuncData} {ps : List Str} {R : DR} {dvs : List V} {ds : List Value} {dd : List D}
theorem callR_inv {d d' : Ev} {k : Nat} {z : D} (e : callR R r d = some (k, z, d')) : ∃ xs d1 t t', r d = some (xs, d1) ∧ onceD (iosOf xs) = true ∧ argsD xs d1 = some t ∧ R t = some (k, z, t') ∧ putD xs t' d1 = some d' := by
  unfold callR at e
  split at e
  · rename_i xs d1 e1
    split at e
    · rename_i e2
      split at e
      · rename_i t e3
        split at e
        · rename_i k' x t' e4
          split at e
          · rename_i d2 e5
            cases e
            exact ⟨xs, d1, t, t', e1, e2, e3, e4, e5⟩
          · cases e
        · cases e
      · cases e
    · cases e
  · cases e
theorem call_spR {g : Gh} {S H : Hp} {s : St} {d t t' d' : Ev} {xs : List Ar} {vs : List V} {y : D} {k : Nat} {Q : VK} {E : XK} (z : Zt G g S s H d) (ha : ArL G S s xs vs) (hn : vs.length = n) (ho : onceD (iosOf xs) = true) (e1 : argsD xs d = some t) (e2 : R t = some (k, y, t')) (e3 : putD xs t' d = some d')
    (q : ∀ dx v H1 S', Same S S' → Zt G g S' s H1 d' → H1 dx = none → Rep G S' y v → E (.ref (T k).1) (some dx) (upd H1 dx (.xd [((T k).2, v)]))) : spR G T n R vs H Q E :=
  ⟨hn, _, S, t, k, y, t', call_in z ha e1 ho, e2, fun dx v H' S' sm z' hdx r => q dx v H' S' sm (call_out z ha e1 ho sm z' e3).1 hdx r⟩
theorem lre_call {m : Nat} (Fk : FnOk X.prog X.w X.K X.mg X.base (L2.CX X.prog X.w) lv fA fd ps (spR G T n R)) (hr : Room lv X.A) (hg : Gl X x) (hm : X.mg x = some (.ref fA)) (hk : PySem.W.keepIn X.K (.ref fA) = true) (hb : Binds X.K fd ps ds) (hd : Vals dvs ds) (hdd : ∀ S, RepL G S dd dvs)
    (ha : LB G X.nox (e :: es) r) (hM : Many r m) (hn : m + dd.length = n) (hdb : (x == ("__debug__" : Str)) = false := by decide) (he : starEach (e :: es) X.env = (false, eval e X.env) :: starEach es X.env := by rfl) (hpl : (backTo pos (starEach es X.env)).any (·.1) = false := by rfl) :
    LRE G T X (.Call (.Name x p) (e :: es) [] pos) (callR R (dflt dd r)) := fun W tk =>
  pe_weak (pe_callSD (E := WE W) Fk hr hg hm hk hb hd (passAt tk) (⟨fun pos pins s σ H Q I hw => wpAny_mono (ha.run pos pins s σ H Q (I.wish _) hw) (fun _ _ ⟨v, H', I', r, q⟩ => ⟨v, H', I'.unwish, r, q⟩) fun _ _ z => False.elim z⟩ : PA X (e :: es) (liftB G r)) hdb he hpl) fun s H Q ⟨g, S, d, t, y, d', z, e, q⟩ => by
    obtain ⟨xs, d1, t2, t', e1, e2, e3, e4, e5⟩ := callR_inv e
    obtain ⟨ys, e6, rfl⟩ := dflt_inv e1
    refine ⟨g, S, d, ys, d1, z, e6, fun vs H' S' sm z' ra => ?_⟩
    have hall := ra.append (ArL.ofRep (s := s) (hdd S'))
    exact call_spR z' hall (by rw [← hall.length, List.length_append, List.length_map, hM.len e6]; exact hn) e2 e3 e4 e5 fun dx v H2 S2 sm2 z2 hdx rv => q dx v s H2 S2 (sm.trans sm2) z2 hdx rv
end

section
variable {X : Cx} {CX : CXT} {k : Nat} {f C : Addr} {fd : FuncData} {ps : List Str} {sp : Sp} {dvs : List V} {ds : List Value} {E : St → XK} {x : Str} {p pos : Pos} {e : Expr} {es : List Expr} {t : TA}
theorem run_makeSD {pins : List (Addr × Obj)} {σ : St} {H : Hp} {s : Shared} {Q : VK} {us : List Value} {vs : List V} (M : L2.Mk X.K C f) (F : FnOk X.prog X.w X.K X.mg X.base CX k f fd ps sp) (hr : Room (k + 1) X.A) (hb : Binds X.K fd ps ds) (hd : Vals dvs ds)
    (hx : PassesAt CX X σ (E σ)) (I : Inv X pins σ H s) (r : Vals vs us)
    (h : ∀ x dx, H x = none → H dx = none → dx ≠ x → sp (.ref x :: (vs ++ dvs)) (upd (upd H dx (.own x)) x (.ins C dx [])) (fun v H2 => v = .non ∧ Q (.ref x) H2) (E σ)) :
    wpAny (model X.prog X.w) X.A (call (.ref C) us) (EP X pins σ Q) X.xe s := by
  have hq := h (s.heap.objs.size + 1) s.heap.objs.size (I.hok.fresh (Nat.le_succ _)) (I.hok.fresh (Nat.le_refl _)) (Nat.ne_of_lt (Nat.lt_succ_self _))
  have I2 := Inv.made (C := C) I
  have r2 : Vals (V.ref (s.heap.objs.size + 1) :: (vs ++ dvs)) (Value.ref (s.heap.objs.size + 1) :: (us ++ ds)) := .cons rfl (r.append hd)
  have hl : (Value.ref (s.heap.objs.size + 1) :: us ++ ds).length = ps.length := by
    have e := r2.length
    rw [F.len _ _ _ _ hq] at e
    exact e.symm
  refine wpAny_call (make_map (f := f) I.kIn M.makes M.init (beq_iff_eq.mp M.fn) (codeAny_mono (F.run _ X.stack _ _ ⟨Value.ref (s.heap.objs.size + 1) :: us, []⟩ (Value.ref (s.heap.objs.size + 1) :: (us ++ ds)) _ _ (E σ) (hr.make C us [])
    (I2.env0.make C us []) (hb _ (Value.ref (s.heap.objs.size + 1) :: us) I2.kIn hl) r2 hq) fun r s' hq' => ?_))
  cases r with
  | error e => exact hx pins _ _ e s' I2 hq'
  | ok fl =>
    cases fl with
    | ret u =>
      obtain ⟨v, H', I3, rv, ev, q3⟩ := I2.after hq'
      subst ev
      exact ⟨rv, ⟨V.ref (s.heap.objs.size + 1), H', I3, rfl, q3⟩⟩
    | next => exact False.elim hq'
    | brk => exact False.elim hq'
    | cont => exact False.elim hq'
def tMakeSD (C : Addr) (sp : Sp) (dvs : List V) (E : St → XK) (t : TA) : TE := fun σ H Q => t σ H fun vs H1 => ∀ x dx, H1 x = none → H1 dx = none → dx ≠ x → sp (.ref x :: (vs ++ dvs)) (upd (upd H1 dx (.own x)) x (.ins C dx [])) (fun v H2 => v = .non ∧ Q (.ref x) H2) (E σ)
theorem pe_makeSD (M : L2.Mk X.K C f) (F : FnOk X.prog X.w X.K X.mg X.base CX k f fd ps sp) (hr : Room (k + 1) X.A) (hg : Gl X x) (hm : X.mg x = some (.ref C)) (hb : Binds X.K fd ps ds) (hd : Vals dvs ds) (hx : ∀ σ, PassesAt CX X σ (E σ))
    (ha : PA X (e :: es) t) (hdb : (x == ("__debug__" : Str)) = false := by decide) (he : starEach (e :: es) X.env = (false, eval e X.env) :: starEach es X.env := by rfl) (hpl : (backTo pos (starEach es X.env)).any (·.1) = false := by rfl) :
    PE X (.Call (.Name x p) (e :: es) [] pos) (tMakeSD C sp dvs E t) := by
  refine ⟨fun pins s σ H Q I h => ?_⟩
  refine wpAny_Call_Name_kw (ld_glob I hg hm ?_ hdb)
  refine PySem.W.callWith_K (h₀ := X.base) I.ok.mod.kin M.kp (thn (ha.run pos pins s σ H _ I h) fun us s1 ⟨vs, H1, I1, r, q⟩ => ⟨I1.kIn, ?_⟩) he hpl
  exact run_makeSD M F hr hb hd (hx σ) I1 r q
end
section
variable {G : Cls} {T : XTab} {X : Cx} {e : Expr} {es : List Expr} {r : DA} {pos p : Pos} {x : Str} {c lv n : Nat} {fI : Addr} {fd : FuncData} {ps : List Str} {R : DR} {dvs : List V} {ds : List Value} {dd : List D}
theorem mkR_inv {d d' : Ev} {k : Nat} {y : D} (h : mkR c R dd r d = some (k, y, d')) : ∃ xs z t', r d = some (xs, d') ∧ R (.io (.ob c []) :: (xs ++ dd).map Sl.va) = some (k, y, .io z :: t') ∧ t'.length = (xs ++ dd).length := by
  unfold mkR at h
  split at h
  · rename_i xs d1 e1
    split at h
    · rename_i k' x z t' e2
      split at h
      · rename_i e3
        cases h
        exact ⟨xs, z, t', e1, e2, e3⟩
      · cases h
    · cases h
  · cases h
theorem make_atR {g : Gh} {S1 H1 : Hp} {s : St} {d' t' : Ev} {xs : List D} {vs : List V} {y w : D} {k : Nat} {Q : Addr → VK} {E : XK} (hF : ∀ d y, R d = some y → d.length = n) (hdd : ∀ S, RepL G S dd dvs) (z1 : Zt G g S1 s H1 d') (ra : RepL G S1 xs vs)
    (e2 : R (Sl.io (.ob c []) :: (xs ++ dd).map Sl.va) = some (k, y, Sl.io w :: t')) (e3 : t'.length = (xs ++ dd).length)
    (q : ∀ dx v H' S', Same S1 S' → Zt G g S' s H' d' → H' dx = none → Rep G S' y v → E (.ref (T k).1) (some dx) (upd H' dx (.xd [((T k).2, v)]))) :
    ∀ a dx, H1 a = none → H1 dx = none → dx ≠ a → spR G T n R (.ref a :: (vs ++ dvs)) (upd (upd H1 dx (.own a)) a (.ins (G.adr c) dx [])) (Q a) E := by
  intro a dx ha hdx hne
  have hs : S1 a = none := z1.sh.free ha
  have hb : g.B a = none := z1.bh.free ha
  have h0 : g.H0 a = none := z1.dm a ha
  have ho : ∀ j, ¬ OwnAt d' s j a := fun j o => by
    obtain ⟨⟨u, hu⟩, _⟩ := z1.ownAddr o
    rw [ha] at hu; cases hu
  have hH : Same H1 (upd (upd H1 dx (.own a)) a (.ins (G.adr c) dx [])) := fun b u q => by
    rw [upd_ne (ne_of_none q ha), upd_ne (ne_of_none q hdx)]; exact q
  have z2 : Zt G g S1 s (upd (upd H1 dx (.own a)) a (.ins (G.adr c) dx [])) d' := z1.ext ⟨.refl _, hH, fun b u q => hH b u (z1.sh b u q), fun b u q => .inl q⟩
  have z3 := z2.push (y := .ob c []) ⟨dx, [], by rw [upd_same]; simp, by simp, .nil⟩ hs hb h0 ho
  have hall : ArL G S1 (s ++ [some (.ref a)]) (.io d'.length :: (xs ++ dd).map Ar.va) (.ref a :: (vs ++ dvs)) :=
    ⟨_, _, rfl, by show (s ++ [some (V.ref a)])[d'.length]? = _; rw [← z2.ln, snoc_at], ArL.ofRep (ra.append (hdd S1))⟩
  have hn : (V.ref a :: (vs ++ dvs)).length = n := by
    have k := hF _ _ e2
    have l := hall.length
    rw [← l]
    simpa using k
  refine call_spR z3 hall hn ?_ (t := .io (.ob c []) :: (xs ++ dd).map Sl.va) (t' := .io w :: t') (d' := d' ++ [.ow w]) (y := y) (k := k) ?_ e2 ?_ fun dx2 v H2 S2 sm2 z4 hdx2 rv => ?_
  · show onceD (d'.length :: iosOf ((xs ++ dd).map Ar.va)) = true
    rw [iosOf_va]; rfl
  · show (match argsD ((xs ++ dd).map Ar.va) (d' ++ [.ow (.ob c [])]) with
      | some t => match (d' ++ [Sl.ow (.ob c [])])[d'.length]? with
        | some (.ow y) => some (Sl.io y :: t)
        | some (.io y) => some (Sl.io y :: t)
        | _ => none
      | none => none) = _
    rw [argsD_va, snoc_at]
  · show (match (d' ++ [Sl.ow (.ob c [])])[d'.length]? with
      | some (.ow _) => putD ((xs ++ dd).map Ar.va) t' ((d' ++ [Sl.ow (.ob c [])]).set d'.length (.ow w))
      | some (.io _) => putD ((xs ++ dd).map Ar.va) t' ((d' ++ [Sl.ow (.ob c [])]).set d'.length (.io w))
      | _ => none) = _
    rw [snoc_at]
    show putD _ _ _ = _
    rw [putD_va _ _ _ e3, List.set_append_right _ _ (Nat.le_refl _)]
    simp
  · exact q dx2 v H2 S2 sm2 (z4.pop (fun _ q => nomatch q) z2.ln) hdx2 rv
theorem lre_make (M : L2.Mk X.K (G.adr c) fI) (Fk : FnOk X.prog X.w X.K X.mg X.base (L2.CX X.prog X.w) lv fI fd ps (spR G T n R)) (hr : Room (lv + 1) X.A) (hg : Gl X x) (hm : X.mg x = some (.ref (G.adr c))) (hb : Binds X.K fd ps ds) (hd : Vals dvs ds) (hdd : ∀ S, RepL G S dd dvs)
    (hF : ∀ d y, R d = some y → d.length = n) (ha : LA G X.nox (e :: es) r) (hdb : (x == ("__debug__" : Str)) = false := by decide) (he : starEach (e :: es) X.env = (false, eval e X.env) :: starEach es X.env := by rfl) (hpl : (backTo pos (starEach es X.env)).any (·.1) = false := by rfl) :
    LRE G T X (.Call (.Name x p) (e :: es) [] pos) (mkR c R dd r) := fun W tk =>
  pe_weak (pe_makeSD (E := WE W) M Fk hr hg hm hb hd (passAt tk) (⟨fun pos pins s σ H Q I hw => wpAny_mono (ha.run pos pins s σ H Q (I.wish _) hw) (fun _ _ ⟨v, H', I', r, q⟩ => ⟨v, H', I'.unwish, r, q⟩) fun _ _ z => False.elim z⟩ : PA X (e :: es) (liftA G r)) hdb he hpl) fun s H Q ⟨g, S, d, t, y, d', z, e, q⟩ => by
    obtain ⟨xs, w, t', e1, e2, e3⟩ := mkR_inv e
    exact ⟨g, S, d, xs, d', z, e1, fun vs H1 S1 sm z1 ra => make_atR (Q := fun a v H2 => v = .non ∧ Q (.ref a) H2) hF hdd z1 ra e2 e3 fun dx v H' S' sm' z' hdx rv => q dx v s H' S' (sm.trans sm') z' hdx rv⟩
theorem fnR_len {n m : Nat} {R : DR} {d : Ev} {y : Nat × D × Ev} (e : fnR n m R d = some y) : d.length = n := by
  unfold fnR at e
  split at e
  · assumption
  · cases e
end
end Zr

set_option maxHeartbeats 2000000
/-! Zr: try: .. except C as e: y = .. -/
namespace Zr
open PySem L2

/-- slot i holds the exception, slot j takes the value -/
def tryD (B : DS) (R : DR) (i j : Nat) (h : Nat → Ev → D → Option D) : DS := fun d => match B d with
  | some r => some r
  | none => match R d with
    | some (t, x, d1) => if notIo d1 i then match h t (d1.set i .no) x with
        | some y => if notIo (d1.set i .no) j then some (.nx, ((d1.set i .no).set j (.va y)).set i .no) else none
        | none => none
      else none
    | none => none
theorem notIo_setN {d : Ev} {i j : Nat} {x : Sl} (h : notIo d i = true) (hx : ∀ y, x ≠ .io y) : notIo (d.set j x) i = true := by
  have hl := notIo_lt h
  unfold notIo at h ⊢
  by_cases q : j = i
  · subst q
    rw [List.getElem?_set_self hl]
    cases x with
    | io y => exact absurd rfl (hx y)
    | _ => rfl
  · rw [List.getElem?_set_ne q]
    exact h
/-- what a value in an except suite needs: a the exception, dx its dict, t its kind -/
def tH (G : Cls) (T : XTab) (i : Nat) (h : Nat → Ev → D → Option D) (a dx : Addr) (t : Nat) : TE := fun σ H Q => ∃ (v : V) (g : Gh) (S : Hp) (d : Ev) (x w : D), σ[i]? = some (some (.ref a)) ∧ H dx = some (.xd [((T t).2, v)]) ∧ Zt G g S σ H d ∧ Rep G S x v ∧ h t d x = some w ∧ ∀ u, Rep G S w u → Q u H
section
variable {G : Cls} {T : XTab} {X : Cx} {ex : Expr} {B : DS} {R : DR} {i j : Nat} {h : Nat → Ev → D → Option D} {n y x : Str} {np pos pos' py pa : Pos} {body : List Stmt} {c : Value}
theorem Zt.more {g : Gh} {S H : Hp} {s : St} {d : Ev} {dx : Addr} {o : HO} (z : Zt G g S s H d) (hn : H dx = none) : Zt G g S s (upd H dx o) d :=
  z.ext ⟨.refl _, fun b u q => by rw [upd_ne (ne_of_none q hn)]; exact q, fun b u q => by
    have q := z.sh b u q
    rw [upd_ne (ne_of_none q hn)]; exact q, fun b u q => .inl q⟩
theorem Zt.setNo {g : Gh} {S H : Hp} {s : St} {d : Ev} {i : Nat} {v : Option V} (z : Zt G g S s H d) (hi : notIo d i = true) : Zt G g S (s.set i v) H (d.set i .no) :=
  z.set hi True.intro (fun _ q => nomatch q) fun _ q => nomatch q
theorem ls_try (hs : X.stack = X.env :: X.outer) (hf : X.env.frame = some X.env.locals) (hN : X.N.Nodup) (hi : X.N[i]? = some n) (hln : X.env.kindOf n = some .local) (hj : X.N[j]? = some y) (hjl : X.env.scope.names.lookup y = some .local) (hc : Names X x c)
    (hB : ∀ pn : List (Addr × Obj), LSs G (X.tr pn (fun _ _ => False)) body B) (hR : ∀ (pn : List (Addr × Obj)) (xe : Value → Shared → Prop), PassesOwn (model X.prog X.w) X.A X.env xe → LRs G T (X.tr pn xe) body R)
    (hm : ∀ t d x w, h t d x = some w → PySem.W.exmOne X.K (.ref (T t).1) c = some true)
    (hE : ∀ (a dx : Addr) (t : Nat) (oe : Obj) (pn : List (Addr × Obj)), Zc (.ref (T t).1) (some dx) oe → (∃ vs, oe.data = .fields vs) → PE (X.suite a ((a, oe) :: pn)) ex (tH G T i h a dx t))
    (hsw : swapsWith ex (some (.Name y py)) pa.line X.env = pure false := by rfl) :
    LS G X (.Try body [.ExceptHandler (some (.Name x np)) (some n) [.Assign [.Name y py] ex pa] pos'] [] [] pos) (tryD B R i j h) := by
  refine ps_weak (ps_try_as (Wout := fun _ _ _ _ => False) (tb := fun W D σ H => liftS G B D σ H ∨ liftR G T R W D σ H) (ts := fun a cls d D σ H => ∃ t dx, cls = .ref (T t).1 ∧ d = some dx ∧ tAsg (tH G T i h a dx t) (gName j) D σ H) hs hf hN hi hln hc takes0 (fun W pn xe tk po => ?_) (fun a oe cls d pn hz hfl => ?_)) fun D s H q => ?_
  · refine ⟨fun pins s σ H D I h => ?_⟩
    rcases h with h | h
    · exact (PSs.nox (X := X.tr pn xe) (hB pn)).run pins s σ H D I h
    · exact (hR pn xe po W tk).run pins s σ H D I h
  · refine ⟨fun pins s σ H D I ⟨t, dx, e1, e2, q⟩ => ?_⟩
    subst e1 e2
    exact (pss_cons (ps_set (X := X.suite a ((a, oe) :: pn)) hN hj (.inl hjl) (hE a dx t oe pn hz hfl) hsw (.inr hjl)) pss_nil).run pins s σ H D I q
  · obtain ⟨g, S, d, fl, d', z, e, q⟩ := q
    unfold tryD at e
    split at e
    · rename_i r e0
      cases e
      exact .inl ⟨g, S, d, fl, d', z, e0, q⟩
    · split at e
      · rename_i t y1 d1 e1
        split at e
        · rename_i h1
          split at e
          · rename_i w e2
            split at e
            · rename_i h2
              cases e
              refine .inr ⟨g, S, d, t, y1, d1, z, e1, fun dx v s' H1 S' sm z1 hdx r => ⟨true, hm _ _ _ _ e2, fun _ a ha => ⟨t, dx, rfl, rfl, ?_⟩, fun z => nomatch z⟩⟩
              have z2 := (z1.more (o := .xd [((T t).2, v)]) hdx).setNo (v := some (.ref a)) h1
              have hl : i < s'.length := by rw [z1.ln]; exact notIo_lt h1
              refine ⟨v, g, S', d1.set i .no, y1, w, List.getElem?_set_self hl, upd_same, z2, r, e2, fun u ru => ?_⟩
              have z3 := z2.setVa (v := u) h2 ru
              have z4 := z3.setNo (i := i) (v := none) (notIo_setN (notIo_setN h1 fun _ q => nomatch q) fun _ q => nomatch q)
              exact q _ _ S' sm z4
            · cases e
          · cases e
        · cases e
      · cases e
end
end Zr

set_option maxHeartbeats 2000000
/-! Zr: isinstance of a caught exception that has fields (after HandS.ExcIs, whose exceptions have none) -/
namespace Zr
open PySem PySem.Spec PySem.Calls PyProof.Rows PySem.W L2
theorem call_isX {X : Cx} {a D dx : Addr} {oe : Obj} {pn : List (Addr × Obj)} (C : ExcC X.K D) (hz : Zc (.ref D) (some dx) oe) (hf : ∃ vs, oe.data = .fields vs) : CallR (X.suite a ((a, oe) :: pn)) (.builtin "isinstance") (fun xs H Q => ∃ (c : V) (cv : Value) (b : Bool) (fs : List (Str × V)), xs = [.ref a, c] ∧ (∀ u, RelV c u → u = cv) ∧ H dx = some (.xd fs) ∧ PySem.W.kitOne X.K (.ref D) cv = some b ∧ Q (.bl b) H) := by
  intro pins s σ H xs us Q I r h
  obtain ⟨c, cv, b, fs, rfl, hcv, hd, e, q⟩ := h
  cases r with
  | cons rx rr =>
    cases rr with
    | cons rt rr =>
      cases rr
      cases rx
      have ec := hcv _ rt
      subst ec
      obtain ⟨hget, _⟩ := I.pin (a, oe) (List.mem_append.mpr (.inl List.mem_cons_self))
      obtain ⟨vs, hv⟩ := hf
      have hx : ObjOk X.prog X.w H s.heap dx (.xd fs) := I.hok dx _ hd
      obtain ⟨mA, hns, hr⟩ := hx
      obtain ⟨od, ho, hl⟩ := lookIn_ns hns
      have J : PySem.W.InstAt s.heap a oe D (some od) := by
        obtain ⟨oc, od', oda, osl⟩ := oe
        obtain ⟨h1, h2⟩ := hz
        dsimp only at h1 h2 hv
        subst h1 h2 hv
        exact ⟨hget, rfl, rfl, ho⟩
      exact PySem.W.kia_one (PySem.W.kitx_exc (by obtain ⟨cd, hc, _⟩ := any_some C.hd; rw [hc]; rfl) C.hg C.hk C.hs C.ha C.hn C.ht C.hm) I.kIn J e (fun z => nomatch z) fun tk => ⟨.bl b, H, I.kept (t' := tk) fun _ _ z => z, rfl, q⟩
section
variable {G : Cls} {T : XTab} {X : Cx} {i t : Nat} {h : Nat → Ev → D → Option D} {a dx D C1 C2 : Addr} {oe : Obj} {pn : List (Addr × Obj)} {n c1 c2 fld : Str} {els : Expr} {tO : TE} {q0 q1 q2 q3 q4 q5 q6 q7 q8 q9 qa qb qc : Pos}
/-- isinstance(e, C) in an except suite -/
theorem pe_isX (Ex : ExcC X.K D) (hz : Zc (.ref D) (some dx) oe) (hf : ∃ vs, oe.data = .fields vs) (hN : X.N[i]? = some n) (hv : Vis X.env.scope n) (hd : (n == ("__debug__" : Str)) = false) (hcd : (n == ("__classdict__" : Str)) = false)
    (g1 : Gl X "isinstance") (m1 : X.mg "isinstance" = none) (gc : Gl X c1) (mc : X.mg c1 = some (.ref C1)) (hdc : (c1 == ("__debug__" : Str)) = false) {b : Bool} (k1 : PySem.W.kitOne X.K (.ref D) (.ref C1) = some b) :
    PE (X.suite a ((a, oe) :: pn)) (.Call (.Name "isinstance" q0) [.Name n q1, .Name c1 q2] [] q3) (fun σ H Q => σ[i]? = some (some (.ref a)) ∧ (∃ fs, H dx = some (.xd fs)) ∧ Q (.bl b) H) := by
  have p1 : PE (X.suite a ((a, oe) :: pn)) (.Name n q1) (tVar i) := pe_var hN hv hd hcd
  have p2 : PE (X.suite a ((a, oe) :: pn)) (.Name c1 q2) (tC (.ref C1)) := pe_glob gc mc rfl hdc
  refine ⟨fun pins s σ H Q I ⟨e1, ⟨fs, e2⟩, q⟩ => ?_⟩
  exact (pe_callB (call_isX (pn := pn) Ex hz hf) g1 m1 (by decide +kernel) (pa_cons p1 (pa_cons p2 pa_nil)) (by decide) (by decide)).run pins s σ H Q I ⟨_, e1, .ref C1, .ref C1, b, fs, rfl, fun u r => r, e2, k1, q⟩
/-- e.f if isinstance(e, C1) and not isinstance(e, C2) else .. -/
theorem pe_heard (hT : T t = (D, fld)) (hz : Zc (.ref (T t).1) (some dx) oe) (hf : ∃ vs, oe.data = .fields vs) (Ex : ExcC X.K D) (Xf : XfC X.K D) (hno : PySem.W.findIn X.K (.ref D) fld = some none) (hN : X.N[i]? = some n) (hv : Vis X.env.scope n)
    (g1 : Gl X "isinstance") (m1 : X.mg "isinstance" = none) (gc : Gl X c1) (mc : X.mg c1 = some (.ref C1)) (gc2 : Gl X c2) (mc2 : X.mg c2 = some (.ref C2)) (k1 : PySem.W.kitOne X.K (.ref D) (.ref C1) = some true) (k2 : PySem.W.kitOne X.K (.ref D) (.ref C2) = some false)
    (hels : PE (X.suite a ((a, oe) :: pn)) els tO) (hw : ∀ d x w, h t d x = some w → w = x)
    (hd : (n == ("__debug__" : Str)) = false := by decide) (hcd : (n == ("__classdict__" : Str)) = false := by decide) (hdc : (c1 == ("__debug__" : Str)) = false := by decide) (hdc2 : (c2 == ("__debug__" : Str)) = false := by decide) :
    PE (X.suite a ((a, oe) :: pn)) (.IfExp (.BoolOp .And [.Call (.Name "isinstance" q0) [.Name n q1, .Name c1 q2] [] q3, .UnaryOp .Not (.Call (.Name "isinstance" q4) [.Name n q5, .Name c2 q6] [] q7) q8] q9) (.Attribute (.Name n qa) fld qb) els qc) (tH G T i h a dx t) := by
  have hz' : Zc (.ref D) (some dx) oe := by rw [hT] at hz; exact hz
  have x1 := pe_isX (a := a) (q0 := q0) (q1 := q1) (q2 := q2) (q3 := q3) (pn := pn) Ex hz' hf hN hv hd hcd g1 m1 gc mc hdc k1
  have x2 := pe_isX (a := a) (q0 := q4) (q1 := q5) (q2 := q6) (q3 := q7) (pn := pn) Ex hz' hf hN hv hd hcd g1 m1 gc2 mc2 hdc2 k2
  have p1 : PE (X.suite a ((a, oe) :: pn)) (.Name n qa) (tVar i) := pe_var hN hv hd hcd
  have xf := pe_xf (pn := pn) (pos := qb) (n := fld) (e := .Name n qa) Xf hno hz' hf p1
  refine pe_weak (pe_ifExp (PW.pt (pw_and (pt_val x1) (pw_and1 (pt_not (pt_val x2))))) xf hels) fun σ H Q ⟨v, g, S, d, x, w, e1, e2, z, r, e3, q⟩ => ?_
  have e2' : H dx = some (.xd [(fld, v)]) := by rw [hT] at e2; exact e2
  have ew := hw d x w e3
  subst ew
  refine ⟨e1, ⟨_, e2'⟩, true, rfl, ?_⟩
  show (if true = true then _ else _)
  rw [if_pos rfl]
  refine ⟨e1, ⟨_, e2'⟩, false, rfl, ?_⟩
  show (if (!false) = true then _ else _)
  rw [if_pos (show (!false) = true from rfl)]
  exact ⟨_, e1, rfl, rfl, dx, [(fld, v)], v, rfl, e2', by simp, q v r⟩
end
end Zr

set_option maxHeartbeats 2000000
/-! Zr: several except clauses, each with the exception's name -/
namespace Zr
open PySem PySem.Spec PyProof.Rows L2

/-- what the clauses wish, one after the other; slot i holds the exception -/
def wManyA (K : PySem.W.Frag) (i : Nat) (Wout : WX) (D : Ends) : List (Value × (Addr → Value → Option Addr → TS)) → WX
  | [] => Wout
  | (c, ts) :: r => fun cls d σ H => ∃ b, PySem.W.exmOne K cls c = some b ∧ (b = true → ∀ a, H a = none → ts a cls d { nx := fun σ' H' => D.nx (σ'.set i none) H', rt := D.rt, bk := fun σ' H' => D.bk (σ'.set i none) H', ct := fun σ' H' => D.ct (σ'.set i none) H' } (σ.set i (some (.ref a))) H) ∧ (b = false → wManyA K i Wout D r cls d σ H)
inductive HdsA (X : Cx) (n : Str) : List ExceptHandler → List (Value × (Addr → Value → Option Addr → TS)) → Prop
  | nil : HdsA X n [] []
  | cons {x : Str} {c : Value} {ts : Addr → Value → Option Addr → TS} {b₀ : Stmt} {suite : List Stmt} {np pos' : Pos} {hds : List ExceptHandler} {l : List (Value × (Addr → Value → Option Addr → TS))} (hc : Names X x c)
      (hsu : ∀ (a : Addr) (oe : Obj) (cls : Value) (d : Option Addr) (pn : List (Addr × Obj)), Zc cls d oe → (∃ vs, oe.data = .fields vs) → PSs (X.suite a ((a, oe) :: pn)) (b₀ :: suite) (ts a cls d)) (r : HdsA X n hds l) :
      HdsA X n (.ExceptHandler (some (.Name x np)) (some n) (b₀ :: suite) pos' :: hds) ((c, ts) :: l)
section
variable {X : Cx} {body : List Stmt} {h₀ : ExceptHandler} {hds : List ExceptHandler} {l : List (Value × (Addr → Value → Option Addr → TS))} {pos : Pos} {tb : WX → TS} {Wout : WX} {i : Nat} {n : Str}
theorem ps_try_manyA (hs : X.stack = X.env :: X.outer) (hf : X.env.frame = some X.env.locals) (hN : X.N.Nodup) (hi : X.N[i]? = some n) (hln : X.env.kindOf n = some .local) (tk : Takes X Wout)
    (hb : ∀ (W : WX) (pn : List (Addr × Obj)) (xe : Value → Shared → Prop), Takes (X.tr pn xe) W → PassesOwn (model X.prog X.w) X.A X.env xe → PSs (X.tr pn xe) body (tb W))
    (hh : HdsA X n (h₀ :: hds) l) : PS X (.Try body (h₀ :: hds) [] [] pos) (fun D σ H => tb (wManyA X.K i Wout D l) D σ H) := by
  refine ⟨fun pins s σ H D I h => ?_⟩
  have ok := I.ok
  have hfr : X.A.frames = some (X.env :: X.outer) := by rw [ok.frames, hs]
  have hloc : Loc X.env.scope n := .inl hln
  refine wpAny_Try_except ?_
  refine wpAny_mono ((hb (wManyA X.K i Wout D l) (X.pn ++ pins) (fun e s₁ => wpAny (model X.prog X.w) X.A (noteFrame e X.env) (fun _ s₂ => wpAny (model X.prog X.w) X.A (setFlight e none) (fun _ s₃ =>
    wpAny (model X.prog X.w) X.A (handleBy e X.env (h₀ :: hds)) (SP X pins D) X.xe s₃) X.xe s₂) X.xe s₁) (fun u s' xx => ?_) PassesOwn.looking).run [] s σ H D (I.toTry _) h) (fun f s1 hsp => ?_) (fun e s1 he => he)
  · obtain ⟨a, B, sI, pins', σ', H', cls, d, rfl, J', nb, up, sky, na, os, ag, w⟩ := xx
    have J : Inv X pins σ' H' sI := J'.ofTry ok
    have sky' : Sky B (X.env :: X.outer) a (Zc cls d) X.env.locals s'.heap := by rw [← hs]; exact sky
    show wpAny (model X.prog X.w) X.A (noteFrame (.ref a) X.env) _ _ _
    refine Sky.land Zc.steady hfr hf sky' fun h3 fl3 up3 => ?_
    have J3 : Inv X pins σ' H' { s' with heap := h3 } := J.landed nb fl3.1 (up.trans up3) os ag
    obtain ⟨oe3, vs3, he3, hz3, hd3⟩ := fl3.there
    have nfr : a ∉ frs (X.env :: X.outer) := fun hm => by
      obtain ⟨_, o', e', hnf⟩ := fl3.2.2.1.mem hm
      rw [he3] at e'; cases e'
      exact hnf _ hd3
    have nL : a ≠ X.env.locals := fun z => nfr (List.mem_filterMap.mpr ⟨X.env, List.mem_cons_self, by rw [hf, z]⟩)
    have nF : a ∉ X.fs := fun hm => by
      obtain ⟨e, he, q⟩ := List.mem_filterMap.mp hm
      exact nfr (List.mem_filterMap.mpr ⟨e, List.mem_cons_of_mem _ he, q⟩)
    have S3 := J3.suite he3 hd3 na nL nF
    have go : ∀ {hds' : List ExceptHandler} {l' : List (Value × (Addr → Value → Option Addr → TS))}, HdsA X n hds' l' → wManyA X.K i Wout D l' cls d σ' H' →
        wpAny (model X.prog X.w) X.A (handleBy (.ref a) X.env hds') (SP X pins D) X.xe { s' with heap := h3 } := by
      intro hds' l' hk
      induction hk with
      | nil =>
        intro w
        refine wpAny_handleBy_nil ?_
        obtain ⟨k1, k2, k3, oe, vs, T, oT, ts', he, hz, hd, h1, hr⟩ := id fl3
        unfold PySem.passOn
        refine wpAny_bind (wpAny_field he hd h1 ?_)
        rw [if_neg (show ¬ ((Value.ref T == Value.none) = true) from by simp)]
        have fin : wpAny (model X.prog X.w) X.A (setFlight (.ref a) X.env.frame) (fun _ s4 => wpAny (model X.prog X.w) X.A (throw (.ref a) : Sem Flow) (SP X pins D) X.xe s4) X.xe { s' with heap := h3 } := by
          rw [hf]
          refine HandSPX.setFlight_upZ fl3 fun h4 hh4 up4 => wpAny_throw (tk _ _ ?_)
          exact ⟨a, B, sI, pins, σ', H', cls, d, rfl, J, nb, (up.trans up3).trans up4, .inr (.inr (by rw [hs]; exact hh4)), na, os, ag, w⟩
        first
          | exact wpAny_bind (wpAny_pure (wpAny_bind fin))
          | exact wpAny_bind fin
      | @cons x c ts b₀ suite np pos' hds2 l2 hc hsu r ih =>
        intro w
        obtain ⟨b, hb1, hyes, hno⟩ := w
        refine wpAny_handleBy_cons (codeAny_handlers_test ?_) (by intro q; cases q)
        have LT : PySem.W.Looks (model X.prog X.w) h3 (typeOf (.ref a)) cls := fun A Q E s k q => wpAny_typeOf_ref (k _ _ he3) (by rw [hz3.1]; exact q)
        have LM := PySem.W.exm_one (M := model X.prog X.w) (J3.kIn) LT hb1
        have test : ∀ {Q : Value → Shared → Prop} {E : Value → Shared → Prop}, Q c { s' with heap := h3 } → wpAny (model X.prog X.w) (X.A.mark (some (.ref a))) (eval (.Name x np) X.env) Q E { s' with heap := h3 } := fun {Q E} q => by
          obtain ⟨hg, hdbg, hm | ⟨hm, hv, hnn⟩⟩ := hc
          · exact ld_glob (X := X.suite a ((a, oe3) :: (X.pn ++ pins))) S3 hg hm q hdbg
          · exact ld_blt (X := X.suite a ((a, oe3) :: (X.pn ++ pins))) S3 hg hm hv q hnn hdbg
        refine test (LM.here ?_)
        cases b with
        | true =>
          refine codeAny_handlers_suite_as ?_
          refine HandSPX.lands_againZ fl3 fun h4 fl4 up4 => ?_
          have J4 : Inv X pins σ' H' { s' with heap := h4 } := J.landed nb fl4.1 ((up.trans up3).trans up4) os ag
          obtain ⟨oe4, vs4, he4, hz4, hd4⟩ := fl4.there
          have S4 := J4.suite he4 hd4 na nL nF
          refine store_ok (X := X.suite a ((a, oe4) :: (X.pn ++ pins))) (v := .ref a) S4 hN hi hloc rfl (fun s5 S5 => ?_) (.inr hln)
          refine wpAny_mono ((hsu a oe4 cls d (X.pn ++ pins) hz4 ⟨_, hd4⟩).run [] s5 _ H' _ S5 (hyes rfl a na)) (fun f s6 hsp => ?_) (fun _ _ z => False.elim z)
          have end_ : ∀ {σ6 : L2.St} {H6 : Hp} {Q : Shared → Prop}, Inv (X.suite a ((a, oe4) :: (X.pn ++ pins))) [] σ6 H6 s6 → (∀ s7, Inv X pins (σ6.set i none) H6 s7 → Q s7) →
              wpAny (model X.prog X.w) X.A (do bindName X.env n .none; unbindBehindTheSuite X.env n pos') (fun _ s7 => Q s7) X.xe s6 := fun {σ6 H6 Q} S6 hq => gone_ok (S6.unsuite ok) hN hi hln hq
          cases f with
          | next =>
            obtain ⟨σ6, H6, S6, q6⟩ := hsp
            exact end_ S6 fun s7 J7 => ⟨_, _, J7, q6⟩
          | brk =>
            obtain ⟨σ6, H6, S6, q6⟩ := hsp
            exact end_ S6 fun s7 J7 => ⟨_, _, J7, q6⟩
          | cont =>
            obtain ⟨σ6, H6, S6, q6⟩ := hsp
            exact end_ S6 fun s7 J7 => ⟨_, _, J7, q6⟩
          | ret u =>
            obtain ⟨v6, σ6, H6, S6, r6, q6⟩ := hsp
            exact end_ S6 fun s7 J7 => ⟨_, _, _, J7, r6, q6⟩
        | false =>
          show wpAny _ X.A (handleBy (.ref a) X.env hds2) _ _ _
          exact ih (hno rfl)
    exact go hh w
  · cases f with
    | next =>
      obtain ⟨σ', H', J', q⟩ := hsp
      exact wpAny_execs_nil ⟨σ', H', J'.ofTry ok, q⟩
    | brk =>
      obtain ⟨σ', H', J', q⟩ := hsp
      exact ⟨σ', H', J'.ofTry ok, q⟩
    | cont =>
      obtain ⟨σ', H', J', q⟩ := hsp
      exact ⟨σ', H', J'.ofTry ok, q⟩
    | ret u =>
      obtain ⟨v, σ', H', J', r, q⟩ := hsp
      exact ⟨v, σ', H', J'.ofTry ok, r, q⟩
end
section
variable {G : Cls} {T : XTab} {X : Cx} {ex1 ex2 : Expr} {B : DS} {R : DR} {i j : Nat} {h : Nat → Ev → D → Option D} {n y x1 x2 : Str} {np1 np2 pos pos1 pos2 py1 py2 pa1 pa2 : Pos} {body : List Stmt} {c1 c2 : Value}
/-- try: .. except C1 as e: y = ex1 / except C2 as e: y = ex2 -/
theorem ls_try2 (hs : X.stack = X.env :: X.outer) (hf : X.env.frame = some X.env.locals) (hN : X.N.Nodup) (hi : X.N[i]? = some n) (hln : X.env.kindOf n = some .local) (hj : X.N[j]? = some y) (hjl : X.env.scope.names.lookup y = some .local) (hc1 : Names X x1 c1) (hc2 : Names X x2 c2)
    (hB : ∀ pn : List (Addr × Obj), LSs G (X.tr pn (fun _ _ => False)) body B) (hR : ∀ (pn : List (Addr × Obj)) (xe : Value → Shared → Prop), PassesOwn (model X.prog X.w) X.A X.env xe → LRs G T (X.tr pn xe) body R)
    (hm : ∀ t d x w, h t d x = some w → PySem.W.exmOne X.K (.ref (T t).1) c1 = some true ∨ (PySem.W.exmOne X.K (.ref (T t).1) c1 = some false ∧ PySem.W.exmOne X.K (.ref (T t).1) c2 = some true))
    (hE1 : ∀ (a dx : Addr) (t : Nat) (oe : Obj) (pn : List (Addr × Obj)), Zc (.ref (T t).1) (some dx) oe → (∃ vs, oe.data = .fields vs) → PySem.W.exmOne X.K (.ref (T t).1) c1 = some true → PE (X.suite a ((a, oe) :: pn)) ex1 (tH G T i h a dx t))
    (hE2 : ∀ (a dx : Addr) (t : Nat) (oe : Obj) (pn : List (Addr × Obj)), Zc (.ref (T t).1) (some dx) oe → (∃ vs, oe.data = .fields vs) → PySem.W.exmOne X.K (.ref (T t).1) c1 = some false → PE (X.suite a ((a, oe) :: pn)) ex2 (tH G T i h a dx t))
    (hsw1 : swapsWith ex1 (some (.Name y py1)) pa1.line X.env = pure false := by rfl) (hsw2 : swapsWith ex2 (some (.Name y py2)) pa2.line X.env = pure false := by rfl) :
    LS G X (.Try body [.ExceptHandler (some (.Name x1 np1)) (some n) [.Assign [.Name y py1] ex1 pa1] pos1, .ExceptHandler (some (.Name x2 np2)) (some n) [.Assign [.Name y py2] ex2 pa2] pos2] [] [] pos) (tryD B R i j h) := by
  have hh : HdsA X n [.ExceptHandler (some (.Name x1 np1)) (some n) [.Assign [.Name y py1] ex1 pa1] pos1, .ExceptHandler (some (.Name x2 np2)) (some n) [.Assign [.Name y py2] ex2 pa2] pos2]
      [(c1, fun a cls d D σ H => ∃ t dx, cls = .ref (T t).1 ∧ d = some dx ∧ PySem.W.exmOne X.K (.ref (T t).1) c1 = some true ∧ tAsg (tH G T i h a dx t) (gName j) D σ H), (c2, fun a cls d D σ H => ∃ t dx, cls = .ref (T t).1 ∧ d = some dx ∧ PySem.W.exmOne X.K (.ref (T t).1) c1 = some false ∧ tAsg (tH G T i h a dx t) (gName j) D σ H)] := by
    refine .cons hc1 (fun a oe cls d pn hz hfl => ?_) (.cons hc2 (fun a oe cls d pn hz hfl => ?_) .nil)
    · refine ⟨fun pins s σ H D I ⟨t, dx, e1, e2, m, q⟩ => ?_⟩
      subst e1 e2
      exact (pss_cons (ps_set (X := X.suite a ((a, oe) :: pn)) hN hj (.inl hjl) (hE1 a dx t oe pn hz hfl m) hsw1 (.inr hjl)) pss_nil).run pins s σ H D I q
    · refine ⟨fun pins s σ H D I ⟨t, dx, e1, e2, m, q⟩ => ?_⟩
      subst e1 e2
      exact (pss_cons (ps_set (X := X.suite a ((a, oe) :: pn)) hN hj (.inl hjl) (hE2 a dx t oe pn hz hfl m) hsw2 (.inr hjl)) pss_nil).run pins s σ H D I q
  refine ps_weak (ps_try_manyA (Wout := fun _ _ _ _ => False) (tb := fun W D σ H => liftS G B D σ H ∨ liftR G T R W D σ H) hs hf hN hi hln takes0 (fun W pn xe tk po => ?_) hh) fun D s H q => ?_
  · refine ⟨fun pins s σ H D I h => ?_⟩
    rcases h with h | h
    · exact (PSs.nox (X := X.tr pn xe) (hB pn)).run pins s σ H D I h
    · exact (hR pn xe po W tk).run pins s σ H D I h
  · obtain ⟨g, S, d, fl, d', z, e, q⟩ := q
    unfold tryD at e
    split at e
    · rename_i r e0
      cases e
      exact .inl ⟨g, S, d, fl, d', z, e0, q⟩
    · split at e
      · rename_i t y1 d1 e1
        split at e
        · rename_i h1
          split at e
          · rename_i w e2
            split at e
            · rename_i h2
              cases e
              refine .inr ⟨g, S, d, t, y1, d1, z, e1, fun dx v s' H1 S' sm z1 hdx r => ?_⟩
              have fin : ∀ a : Addr, tAsg (tH G T i h a dx t) (gName j) { nx := fun σ' H' => D.nx (σ'.set i none) H', rt := D.rt, bk := fun σ' H' => D.bk (σ'.set i none) H', ct := fun σ' H' => D.ct (σ'.set i none) H' } (s'.set i (some (.ref a))) (upd H1 dx (.xd [((T t).2, v)]))   := fun a => by
                have z2 := (z1.more (o := .xd [((T t).2, v)]) hdx).setNo (v := some (.ref a)) h1
                have hl : i < s'.length := by rw [z1.ln]; exact notIo_lt h1
                refine ⟨v, g, S', d1.set i .no, y1, w, List.getElem?_set_self hl, upd_same, z2, r, e2, fun u ru => ?_⟩
                have z3 := z2.setVa (v := u) h2 ru
                have z4 := z3.setNo (i := i) (v := none) (notIo_setN (notIo_setN h1 fun _ q => nomatch q) fun _ q => nomatch q)
                exact q _ _ S' sm z4
              rcases hm _ _ _ _ e2 with m | ⟨m, m2⟩
              · exact ⟨true, m, fun _ a ha => ⟨t, dx, rfl, rfl, m, fin a⟩, fun z => nomatch z⟩
              · exact ⟨false, m, (fun z => (nomatch z)), fun _ => ⟨true, m2, fun _ a ha => ⟨t, dx, rfl, rfl, m, fin a⟩, fun z => nomatch z⟩⟩
            · cases e
          · cases e
        · cases e
      · cases e
end
section
variable {G : Cls} {T : XTab} {P : Program} {w : World} {K : PySem.W.Frag} {mg : Str → Option Value} {base : Heap} {x qual : Str} {st : Stmt} {f : Addr} {fd : FuncData} {ps N : List Str} {k m n : Nat} {R : DR} {dvs : List V}
theorem fnR_okD (F : FunW K x qual st dvs f fd) (Sc : FnScope N ps (defScope st)) (hn : n = ps.length) (hm : m = N.length - n)
    (hb : ∀ (cdv : Value) (A : Around) (outer : List Env) (s : Shared) (H : Hp) (E : XK), Room k (A.deeper (PyProof.Rows.envOfC qual (defScope st) s.heap.objs.size f cdv)) → LRs G T (cxOf (L2.CX P w) P w K mg base N qual (defScope st) f cdv A outer s H E) (defBody st) R) :
    FnOk P w K mg base (L2.CX P w) (k + 1) f fd ps (spR G T n (fnR n m R)) := by
  refine FunD.ok (CX := L2.CX P w) F Sc (fun vs H Q E h => h.1.trans hn) fun cdv A outer s H vs Q E hr h => ?_
  obtain ⟨hl, g, S, d, t, y, d', z, e, q⟩ := h
  have tk : Takes (cxOf (L2.CX P w) P w K mg base N qual (defScope st) f cdv A outer s H E) (fun cls d _ H => E cls d H) := takes_of rfl rfl rfl (E₁ := fun e' s'' => L2.CX P w outer H s E e' s'') rfl
  exact ⟨_, hb cdv A outer s H E hr _ tk, fnR_at (sc := defScope st) (cdv := cdv) (A := A) (outer := outer) (s := s) hn hm hl z e q⟩
end
/-- x, if slot i holds the bool b -/
def bAt (i : Nat) (b : Bool) (d : Ev) (x : Zr.D) : Option Zr.D := match d[i]? with
  | some (Sl.va (Zr.D.bl c)) => if c = b then some x else none
  | _ => none
theorem bAt_inv {i : Nat} {b : Bool} {d : Ev} {x w : Zr.D} (e : bAt i b d x = some w) : w = x ∧ d[i]? = some (.va (.bl b)) := by
  unfold bAt at e
  split at e
  · rename_i c q
    split at e
    · rename_i h
      subst h
      exact ⟨(Option.some.inj e).symm, q⟩
    · cases e
  · cases e
section
variable {G : Cls} {T : XTab} {X : Cx} {i t ir : Nat} {h : Nat → Ev → Zr.D → Option Zr.D} {a dx D C1 C2 : Addr} {oe : Obj} {pn : List (Addr × Obj)} {n c1 c2 fld r : Str} {els T3 : Expr} {tO : TE} {q0 q1 q2 q3 q4 q5 q6 q7 q8 q9 qa qb qc : Pos} {b0 : Bool}
/-- a name that holds a bool, as a test -/
theorem pt_nameb {X : Cx} {ir : Nat} {r : Str} {q : Pos} (hN : X.N[ir]? = some r) (hv : Vis X.env.scope r) (hd : (r == ("__debug__" : Str)) = false := by decide) (hcd : (r == ("__classdict__" : Str)) = false := by decide) : PT X (.Name r q) (fun σ H Q => ∃ b, σ[ir]? = some (some (.bl b)) ∧ Q b H) := by
  refine ⟨fun pins s σ H Q I ⟨b, e, q⟩ => ?_⟩
  exact (pt_val (pe_var (pos := _) hN hv hd hcd)).run pins s σ H Q I ⟨_, e, b, rfl, q⟩
theorem pe_heard3 (hT : T t = (D, fld)) (hz : Zc (.ref (T t).1) (some dx) oe) (hf : ∃ vs, oe.data = .fields vs) (Ex : ExcC X.K D) (Xf : XfC X.K D) (hno : PySem.W.findIn X.K (.ref D) fld = some none) (hN : X.N[i]? = some n) (hv : Vis X.env.scope n)
    (g1 : Gl X "isinstance") (m1 : X.mg "isinstance" = none) (gc : Gl X c1) (mc : X.mg c1 = some (.ref C1)) (gc2 : Gl X c2) (mc2 : X.mg c2 = some (.ref C2)) (k1 : PySem.W.kitOne X.K (.ref D) (.ref C1) = some true) (k2 : PySem.W.kitOne X.K (.ref D) (.ref C2) = some false)
    (p3 : PT (X.suite a ((a, oe) :: pn)) T3 (fun σ H Q => σ[ir]? = some (some (.bl b0)) ∧ Q true H))
    (hels : PE (X.suite a ((a, oe) :: pn)) els tO) (hw : ∀ d x w, h t d x = some w → w = x ∧ d[ir]? = some (.va (.bl b0)))
    (hd : (n == ("__debug__" : Str)) = false := by decide) (hcd : (n == ("__classdict__" : Str)) = false := by decide) (hdc : (c1 == ("__debug__" : Str)) = false := by decide) (hdc2 : (c2 == ("__debug__" : Str)) = false := by decide) :
    PE (X.suite a ((a, oe) :: pn)) (.IfExp (.BoolOp .And [.Call (.Name "isinstance" q0) [.Name n q1, .Name c1 q2] [] q3, .UnaryOp .Not (.Call (.Name "isinstance" q4) [.Name n q5, .Name c2 q6] [] q7) q8, T3] q9) (.Attribute (.Name n qa) fld qb) els qc) (tH G T i h a dx t) := by
  have hz' : Zc (.ref D) (some dx) oe := by rw [hT] at hz; exact hz
  have x1 := pe_isX (a := a) (q0 := q0) (q1 := q1) (q2 := q2) (q3 := q3) (pn := pn) Ex hz' hf hN hv hd hcd g1 m1 gc mc hdc k1
  have x2 := pe_isX (a := a) (q0 := q4) (q1 := q5) (q2 := q6) (q3 := q7) (pn := pn) Ex hz' hf hN hv hd hcd g1 m1 gc2 mc2 hdc2 k2
  have p1 : PE (X.suite a ((a, oe) :: pn)) (.Name n qa) (tVar i) := pe_var hN hv hd hcd
  have xf := pe_xf (pn := pn) (pos := qb) (n := fld) (e := .Name n qa) Xf hno hz' hf p1
  refine pe_weak (pe_ifExp (PW.pt (pw_and (pt_val x1) (pw_and (pt_not (pt_val x2)) (pw_and1 p3)))) xf hels) fun σ H Q ⟨v, g, S, d, x, w, e1, e2, z, r, e3, q⟩ => ?_
  have e2' : H dx = some (.xd [(fld, v)]) := by rw [hT] at e2; exact e2
  obtain ⟨ew, ed⟩ := hw d x w e3
  subst ew
  have eb : σ[ir]? = some (some (.bl b0)) := by
    obtain ⟨y, h1, y2, h2, h3⟩ := z.sl ir _ ed
    rw [h1, h2]
    unfold Rep at h3
    rw [h3]
  refine ⟨e1, ⟨_, e2'⟩, true, rfl, ?_⟩
  show (if true = true then _ else _)
  rw [if_pos rfl]
  refine ⟨e1, ⟨_, e2'⟩, false, rfl, ?_⟩
  show (if (!false) = true then _ else _)
  rw [if_pos (show (!false) = true from rfl)]
  refine ⟨eb, ?_⟩
  show (if true = true then _ else _)
  rw [if_pos rfl]
  exact ⟨_, e1, rfl, rfl, dx, [(fld, v)], v, rfl, e2', by simp, q v r⟩
theorem p3_pos (hN : X.N[ir]? = some r) (hv : Vis X.env.scope r) (hd : (r == ("__debug__" : Str)) = false := by decide) (hcd : (r == ("__classdict__" : Str)) = false := by decide) : PT (X.suite a pn) (.Name r q0) (fun σ H Q => σ[ir]? = some (some (.bl true)) ∧ Q true H) := by
  refine ⟨fun pins s σ H Q I ⟨e, q⟩ => ?_⟩
  exact (pt_nameb (X := X.suite a pn) hN hv hd hcd).run pins s σ H Q I ⟨true, e, q⟩
theorem p3_neg (hN : X.N[ir]? = some r) (hv : Vis X.env.scope r) (hd : (r == ("__debug__" : Str)) = false := by decide) (hcd : (r == ("__classdict__" : Str)) = false := by decide) : PT (X.suite a pn) (.UnaryOp .Not (.Name r q0) q1) (fun σ H Q => σ[ir]? = some (some (.bl false)) ∧ Q true H) := by
  refine ⟨fun pins s σ H Q I ⟨e, q⟩ => ?_⟩
  exact (pt_not (pt_nameb (X := X.suite a pn) hN hv hd hcd)).run pins s σ H Q I ⟨false, e, q⟩
end
end Zr

set_option maxHeartbeats 2000000
/-! Zr: the lean head (ZHd) with functions that captured a cell: the __init__ of own exceptions -/
namespace Zr
open PySem PySem.W PyProof.Rows L2
def noC (o : He.FnW) : He.FnW := match o with
  | some (a, b, c, d, e, f, _, g) => some (a, b, c, d, e, f, [], g)
  | none => none
abbrev AlX : Type := Bool × List He.FnW × List He.FnW
def obsXc (fn xn : List He5.DefA) (ex : Frag → List Bool) (K : Frag) : AlX := ((ex K).all id && fn.all fun d => d.ok K, fn.map (fun d => He5.fnA K (d.at_ K)), xn.map fun d => noC (He5.fnA K (d.at_ K)))
def valX (fn xn : List He5.DefA) : AlX := (true, fn.map He5.DefA.val, xn.map He5.DefA.val)
def SaysX (fn xn : List He5.DefA) (ex : Frag → List Bool) (K : Frag) : Prop := obsXc fn xn ex K = valX fn xn
def hookXc (fn xn : List He5.DefA) (ex : Frag → List Bool) : Hook where
  α := AlX
  obs := fun s => obsXc fn xn ex (He.frG s.heap.get? (downs s.heap.objs.size))
  val := fun _ => valX fn xn
  says := fun _ h => ∃ K : Frag, K.In h ∧ SaysX fn xn ex K
  of := fun _ _ e => ⟨_, He.frG_in, e⟩
  keeps := fun _ _ _ ⟨K, hK, c⟩ k => ⟨K, Frag.In.keeps hK k, c⟩
def obXc (fn xn : List He5.DefA) (ex : Frag → List Bool) (s : SharedT) : AlX := obsXc fn xn ex (He.frG (HandSHeadRun.getT s) (downs s.n))
theorem obXc_eq {fn xn : List He5.DefA} {ex : Frag → List Bool} (s : SharedT) : obXc fn xn ex s = (hookXc fn xn ex).obs s.abs := by
  have e : HandSHeadRun.getT s = s.abs.heap.get? := funext (HandSHeadRun.getT_eq s)
  have n : s.abs.heap.objs.size = s.n := by
    show (s.tree.list s.n).toArray.size = s.n
    unfold BT.list
    simp
  show obsXc fn xn ex _ = obsXc fn xn ex (He.frG s.abs.heap.get? (downs s.abs.heap.objs.size))
  rw [e, n]
section
variable {fn xn : List He5.DefA} {ex : Frag → List Bool} {K : Frag}
theorem SaysX.toZ (c : SaysX fn xn ex K) : SaysZ fn ex K := by
  unfold SaysX obsXc valX at c
  unfold SaysZ obsZ valZ
  have a := congrArg (fun z : AlX => z.1) c
  have b := congrArg (fun z : AlX => z.2.1) c
  exact Prod.ext a b
theorem SaysX.bt (c : SaysX fn xn ex K) (i : Nat) {b : Bool} (e : (ex K)[i]? = some b) : b = true := c.toZ.bt i e
theorem SaysX.def_ (c : SaysX fn xn ex K) (i : Nat) {d : He5.DefA} (h : fn[i]? = some d) : ∃ fd, L2.FunD K d.name d.qual d.params d.body d.scope (d.dvs K) (d.kws K) (d.at_ K) fd := c.toZ.def_ i h
theorem SaysX.xdef (c : SaysX fn xn ex K) (i : Nat) {d : He5.DefA} (h : xn[i]? = some d) : noC (He5.fnA K (d.at_ K)) = d.val := by
  have e : xn.map (fun d => noC (He5.fnA K (d.at_ K))) = xn.map He5.DefA.val := congrArg (fun z : AlX => z.2.2) c
  have e2 : (xn.map fun d => noC (He5.fnA K (d.at_ K)))[i]? = (xn.map He5.DefA.val)[i]? := by rw [e]
  rw [List.getElem?_map, List.getElem?_map, h] at e2
  exact Option.some.inj e2
end
/-! ### own exceptions -/
/-- the __init__ of the exception class C: its cell, its code object -/
def xcB (K : Frag) (file : Str) (qual : Str) (C : Addr) : Bool := match K.lookup (He.ma K C "__init__") with
  | some ⟨_, _, .func fd, _⟩ => (match fd.closure, fd.code, fd.defaults with
    | [(n, cc)], .ref cda, .none => decide (n = "__class__") && (codeIn K (.ref cda) qual && ((match K.lookup cc with
        | some ⟨_, _, .cell (some (.ref D)), _⟩ => decide (D = C)
        | _ => false) && (match K.lookup cda with
        | some ⟨_, _, .fields vs, _⟩ => (match vs[2]? with
          | some (Value.str fl _) => file == fl
          | _ => false)
        | _ => false)))
    | _, _, _ => false)
  | _ => false
/-- the class -/
def oexB (K : Frag) (C : Addr) : Bool := (match K.lookup C with
  | some ⟨.type t, _, .cls cd, sl⟩ => (match cd.mro, sl.toList with
    | .ref C' :: bm, [_, _, _, _, some (.builtin n), _] => decide (t = "type") && (decide (C' = C) && (decide (n = "ValueError.__new__") && (!cd.hasDel && (cd.hasDict && (HandSPX.refsVE bm && decide (alongIn K "__init__" bm = some (some (.builtin "ValueError.__init__"))))))))
    | _, _ => false)
  | _ => false) && (decide (findIn K (.ref C) "__setattr__" = some (some (.builtin "object.__setattr__"))) && (decide (subIn K (.ref C) (.type "BaseException") = some true) && (decide (typeIn K (.ref C) = some (.type "type")) && (keepIn K (.ref C) && (decide (mroIn K C (.ref C) = some true) && (decide (subIn K (.ref C) (.type "ValueError") = some true) &&
    (decide (findIn K (.ref C) "__init__" = some (some (.ref (He.ma K C "__init__")))) && decide (typeIn K (.ref (He.ma K C "__init__")) = some (.type "function")))))))))
structure OexF (K : Frag) (C : Addr) : Prop where
  o : OexC K C
  cd : ∃ cdD bm, clsIn K C = some cdD ∧ cdD.mro = .ref C :: bm ∧ alongIn K "__init__" bm = some (some (.builtin "ValueError.__init__"))
  m : mroIn K C (.ref C) = some true
  v : subIn K (.ref C) (.type "ValueError") = some true
  i : findIn K (.ref C) "__init__" = some (some (.ref (He.ma K C "__init__")))
  t : typeIn K (.ref (He.ma K C "__init__")) = some (.type "function")
theorem oexB_ok {K : Frag} {C : Addr} (h : oexB K C = true) : OexF K C := by
  obtain ⟨h0, h⟩ := He.ba h
  obtain ⟨h1, h⟩ := He.ba h
  obtain ⟨h2, h⟩ := He.ba h
  obtain ⟨h3, h⟩ := He.ba h
  obtain ⟨h4, h⟩ := He.ba h
  obtain ⟨h5, h⟩ := He.ba h
  obtain ⟨h6, h⟩ := He.ba h
  obtain ⟨h7, h8⟩ := He.ba h
  have key : (∃ nm q N bs bm sn sub ab col dd k0 k1 k2 k3 k5, K.lookup C = some (excClassObj nm q C N bs bm true sn sub ab col dd k0 k1 k2 k3 k5 "ValueError.__new__") ∧ PySem.HandSPX.refsVE bm = true ∧ alongIn K "__init__" bm = some (some (.builtin "ValueError.__init__"))) := by
    split at h0
    · rename_i t od cd sl ho
      split at h0
      · rename_i C' bm a0 a1 a2 a3 n a5 e1 e2
        obtain ⟨g1, h0⟩ := He.ba h0
        obtain ⟨g2, h0⟩ := He.ba h0
        obtain ⟨g3, h0⟩ := He.ba h0
        obtain ⟨g4, h0⟩ := He.ba h0
        obtain ⟨g5, h0⟩ := He.ba h0
        obtain ⟨g6, g7⟩ := He.ba h0
        have g1 := of_decide_eq_true g1
        have g2 := of_decide_eq_true g2
        have g3 := of_decide_eq_true g3
        have g7 := of_decide_eq_true g7
        subst g1 g2 g3
        obtain ⟨nm, bs, mro, ns, qn, hd, sn, sb, ab, col, dl⟩ := cd
        have es : sl = #[a0, a1, a2, a3, some (.builtin "ValueError.__new__"), a5] := by
          have := congrArg List.toArray e2
          simpa using this
        dsimp only at e1 g4 g5
        subst e1 es
        have g4 : dl = false := by cases dl <;> simp_all
        subst g4 g5
        exact ⟨nm, qn, ns, bs, bm, sn, sb, ab, col, od, a0, a1, a2, a3, a5, ho, g6, g7⟩
      · cases h0
    · cases h0
  obtain ⟨nm, q, N, bs, bm, sn, sub, ab, col, dd, k0, k1, k2, k3, k5, e1, e2, e3⟩ := key
  exact ⟨⟨⟨nm, q, N, bs, bm, sn, sub, ab, col, dd, k0, k1, k2, k3, k5, e1, e2⟩, of_decide_eq_true h1, of_decide_eq_true h2, of_decide_eq_true h3, h4⟩,
    ⟨_, bm, by unfold clsIn; rw [e1] <;> rfl, rfl, e3⟩, of_decide_eq_true h5, of_decide_eq_true h6, of_decide_eq_true h7, of_decide_eq_true h8⟩
theorem xinit_of {P : Program} {w : World} {K : Frag} {mg : Str → Option Value} {base : Heap} {k : Nat} {C : Addr} {d : He5.DefA} {fld wn txt : Str} {ar : Arg} {p0 p1 p2 p3 p4 p5 p6 p7 p8 p9 : Pos} {j : Nat}
    (hat : d.at_ K = He.ma K C "__init__") (e : noC (He5.fnA K (d.at_ K)) = d.val) (hx : xcB K P.main.file d.qual C = true) (O : OexF K C)
    (hbody : d.body = xiBody txt fld wn j p0 p1 p2 p3 p4 p5 p6 p7 p8 p9) (hcall : XiCall txt j p0 p1 p2 p3 p4)
    (hpar : (d.params.posonlyargs ++ d.params.args).head? = some ar) (har : ar.arg = "self") (hwn : (wn == "self") = false) (hwd : (wn == ("__debug__" : Str)) = false) (hwc : (wn == ("__classdict__" : Str)) = false)
    (hk : d.scope.kind = .function) (hco : d.scope.isCoroutine = false) (hgen : d.scope.isGenerator = false)
    (k1 : d.scope.names.lookup ("self" : Str) = some .local) (k2 : d.scope.names.lookup wn = some .local) (k3 : d.scope.names.lookup ("super" : Str) = some .globalImplicit) (k4 : d.scope.names.lookup ("__class__" : Str) = some .free)
    (k5 : ∀ x ∈ d.scope.names, x.2 ≠ .cell) (k6 : ∀ x ∈ d.scope.names, x.2 = .free → x.1 = "__class__")
    (hsuper : mg "super" = none) (htop : (P.main.scope.names.lookup ("super" : Str)).isSome = false)
    (hfld : findIn K (.ref C) fld = some none) (hopq : nsIn K cStatics "thirdparty.any" = some none)
    (hbind : ∀ (cl : List (Str × Addr)) (kV doc pm : Value) (an : Option Addr) (cdv ct : Value) (us : List Value), us.length = (["self", wn] : List Str).length → bindArgs (fnX d.name d.qual d.params d.body d.scope cl .none kV doc pm an cdv ct) ⟨us, []⟩ = pure ((["self", wn] : List Str).zip us)) :
    ∃ fd, FnOk P w K mg base CX0 (k + 1) (He.ma K C "__init__") fd ["self", wn] (spXI C fld) ∧ Binds K fd ["self", wn] [] := by
  rw [hat] at e
  unfold xcB at hx
  unfold He5.fnA at e
  split at hx
  · rename_i oc od fd osl q
    rw [q] at e
    obtain ⟨n1, n2, n3, n4, n5, n6, n7, n8, n9, n10, n11, n12, n13, n14, n15⟩ := fd
    have e2 : (some (n1, n2, n3, n4, n5, n6, [], n15) : He5.FnW) = some (d.name, d.qual, d.params, .stmts d.body, d.scope, mainGlobals, [], builtinsNs) := e
    simp only [Option.some.injEq, Prod.mk.injEq] at e2
    obtain ⟨h1, h2, h3, h4, h5, h6, _, h8⟩ := e2
    subst h1 h2 h3 h4 h5 h6 h8
    dsimp only at hx
    split at hx
    · rename_i n cc cda
      obtain ⟨g1, hx⟩ := He.ba hx
      obtain ⟨g2, hx⟩ := He.ba hx
      obtain ⟨g3, g4⟩ := He.ba hx
      have g1 := of_decide_eq_true g1
      subst g1
      split at g3
      · rename_i cl cld D csl qc
        have g3 := of_decide_eq_true g3
        subst g3
        split at g4
        · rename_i ccl cdd vs0 ccs qd
          split at g4
          · rename_i fl tf qv
            obtain ⟨cdD, bm, c1, c2, c3⟩ := O.cd
            refine ⟨_, xinit_ok (body := d.body) hcall hbody q g2 qd qv g4 qc c1 c2 O.o O.m hpar har hwn hwd hwc hk hco hgen k1 k2 k3 k4 k5 (fun x hx => k6 _ (PySem.mem_of_lookup hx) rfl) hsuper htop hfld c3 hopq O.v, .all fun us hl => hbind _ _ _ _ _ _ _ us hl⟩
          · cases g4
        · cases g4
      · cases g3
    · cases hx
  · cases hx
end Zr

set_option maxHeartbeats 2000000
/-! Zr: own exceptions without a field: InvalidWall() -/
namespace Zr
open PySem L2 PySem.Spec PyProof.Rows PySem.W
/-- Exc(): a new exception, nothing kept -/
def spX0 (C : Addr) : Sp := fun vs H Q _ => ∃ a : Addr, vs = [.ref a] ∧ H a = some (exo a C none) ∧ Q .non H
section
variable {P : Program} {w : World} {K : Frag} {mg : Str → Option Value} {base : Heap} {k : Nat} {f cc cda C : Addr} {name qual txt : Str} {params : Arguments} {scope : Scope} {dV kV doc pm ct oc ccl cl : Value} {an od cdd cld : Option Addr} {osl ccs csl : Array (Option Value)} {vs0 : Array Value} {file : Str} {tf : Tok} {cdD : ClassData} {bm : List Value} {ar : Arg}
variable {p0 p1 p2 p4 p5 p3 : Pos} {j : Nat}
abbrev xiBody0 (txt : Str) (j : Nat) (p0 p1 p2 p3 p4 p5 : Pos) : List Stmt := [.Expr (.Call (.Attribute (.Call (.Name "super" p0) [] [] p1) "__init__" p2) [.Constant (.str txt) j p3] [] p4) p5]
theorem xinit0_ok {body : List Stmt} (hcall : XiCall txt j p0 p1 p2 p3 p4) (hbody : body = xiBody0 txt j p0 p1 p2 p3 p4 p5)
    (lk : K.lookup f = some ⟨oc, od, .func (ksFn name qual params body scope dV kV doc pm an (.ref cda) ct cc), osl⟩) (hcd : codeIn K (.ref cda) qual = true)
    (hcode : K.lookup cda = some ⟨ccl, cdd, .fields vs0, ccs⟩) (hvs : vs0[2]? = some (.str file tf)) (hfile : ((P.main.file : Str) == file) = true)
    (hcell : K.lookup cc = some ⟨cl, cld, .cell (some (.ref C)), csl⟩) (hD : clsIn K C = some cdD) (hmro : cdD.mro = .ref C :: bm) (T : OexC K C) (hsub : mroIn K C (.ref C) = some true)
    (hpar : (params.posonlyargs ++ params.args).head? = some ar) (har : ar.arg = "self")
    (hk : scope.kind = .function) (hco : scope.isCoroutine = false) (hgen : scope.isGenerator = false)
    (k1 : scope.names.lookup ("self" : Str) = some .local) (k3 : scope.names.lookup ("super" : Str) = some .globalImplicit) (k4 : scope.names.lookup ("__class__" : Str) = some .free)
    (k5 : ∀ x ∈ scope.names, x.2 ≠ .cell) (k6 : ∀ x, scope.names.lookup x = some .free → x = "__class__")
    (hsuper : mg "super" = none) (htop : (P.main.scope.names.lookup ("super" : Str)).isSome = false)
    (hal : alongIn K "__init__" bm = some (some (.builtin "ValueError.__init__"))) (hopq : nsIn K cStatics "thirdparty.any" = some none) (hB : subIn K (.ref C) (.type "ValueError") = some true) :
    FnOk P w K mg base CX0 (k + 1) f (ksFn name qual params body scope dV kV doc pm an (.ref cda) ct cc) ["self"] (spX0 C) := by
  refine ⟨fun vs H Q E ⟨a, e, _⟩ => by rw [e]; rfl, fun A outer s H args us vs Q E hr e0 hb r hsp => ?_⟩
  obtain ⟨a, rfl, ha, hq⟩ := hsp
  have KX : K.In s.heap := e0.mod.kin.keeps fun b o e => (e0.bs b o e).1
  have lim : s.heap.NoLimit := e0.mod.nolimit.keeps fun b o e => (e0.bs b o e).1
  obtain ⟨u1, rfl, ra⟩ : ∃ u1, us = [u1] ∧ RelV (.ref a) u1 := by
    cases r with
    | cons r1 r' => cases r'; exact ⟨_, rfl, r1⟩
  obtain rfl : u1 = .ref a := ra
  refine ks_codeAny_call_defAt (fd := ksFn name qual params body scope dV kV doc pm an (.ref cda) ct cc) (body := body) (binds := [("self", .ref a)]) hr.depth (KX _ _ lk) rfl lim (codeRec_of KX hcd) rfl hb k5 (fun x hx => ?_) (fun h1 hns hk1 => ?_) hco hgen hk
  · simp only [List.mem_cons, List.not_mem_nil, or_false] at hx
    subst hx
    exact k1
  generalize henv : callEnv (ksFn name qual params body scope dV kV doc pm an (.ref cda) ct cc) s.heap.objs.size f = env
  have ev : env = { scope := scope, locals := s.heap.objs.size, globals := mainGlobals, cells := [("__class__", cc)], qual := qual ++ ".<locals>.", func := some f, code := .ref cda, frame := some s.heap.objs.size, builtins := builtinsNs } := by
    rw [← henv]; rfl
  obtain ⟨X, hX⟩ : ∃ X : Cx, X = { cxOf CX0 P w K mg base ["self"] qual scope f (.ref cda) A outer s H E with env := env, A := A.deeper env, stack := env :: outer, fn := fun x => x != "__class__", xe := fun e s' => wpAny (model P w) (A.deeper env) (leaving env e) (fun _ s'' => CX0 outer H s E e s'') (fun e' s'' => CX0 outer H s E e' s'') s' } := ⟨_, rfl⟩
  have eX : X.env = env := by rw [hX]
  have bcc := e0.bs _ _ (e0.mod.kin _ _ hcell)
  have cells : ∀ x c, X.env.cells.lookup x = some c → x = "__class__" ∧ c = cc := fun x c h => by
    rw [eX, ev] at h
    have h : List.lookup x [(("__class__" : Str), cc)] = some c := h
    simp only [List.lookup] at h
    split at h
    · rename_i q
      exact ⟨by simpa using q, (Option.some.inj h).symm⟩
    · cases h
  have I : Inv X [] [some (.ref a)] H { s with heap := h1, toks := s.toks + 1 } := by
    have no : ∀ b : Addr, b ∉ X.ex := fun b z => by rw [hX] at z; cases z
    refine ⟨⟨by rw [hX]; exact e0.mod, by rw [eX, ev]; exact hk, by rw [eX, ev], by rw [eX, ev], by rw [eX, ev, hX]; exact Nat.le_refl _, fun x z c h2 h3 => (cells x c h2).1.trans (cells z c h3).1.symm, fun x hx => ?_, fun x c hf h2 => ?_, fun _ => by rw [hX]; exact hr.hd, by rw [hX]; exact Around.frames_deeper e0.frames, .inr ⟨by rw [hX]; rfl, by rw [eX, ev]⟩, fun b z => absurd z (no b), by rw [hX]; exact e0.bs, by rw [hX]; exact e0.bsz, fun b _ _ => no b, fun b z => absurd z (no b), by rw [hX]; exact e0.funs, by rw [hX]; exact e0.frf⟩,
      by rw [hX]; rfl, e0.bare, by rw [hX]; exact Un.kept hk1, ⟨_, by rw [eX, ev]; exact hns, fun i x v g1 g2 g3 => ?_⟩, fun x c h2 => ?_, by rw [eX, ev]; exact e0.hok.fresh (Nat.le_refl _), fun x c h2 => by rw [(cells x c h2).2]; exact bcc.2, fun p hp => ?_, by rw [hX]; exact e0.hok.kept hk1, by rw [hX]; rfl⟩
    · refine ⟨cc, ?_⟩
      rw [eX, ev] at hx ⊢
      have hx : scope.names.lookup x = some .cell ∨ scope.names.lookup x = some .free := hx
      rcases hx with hx | hx
      · exact absurd rfl (k5 _ (PySem.mem_of_lookup hx))
      · rw [k6 x hx]; rfl
    · exfalso
      rw [(cells x c h2).1, hX] at hf
      have hf : ((("__class__" : Str)) != "__class__") = true := hf
      exact absurd hf (by decide)
    · rw [hX] at g1
      match i, g1, g2 with
      | 0, g1, g2 =>
        have e1 : ("self" : Str) = x := Option.some.inj g1
        have e2 : V.ref a = v := Option.some.inj (Option.some.inj g2)
        subst e1 e2
        refine ⟨.ref a, rfl, .inl ⟨by rw [eX, ev]; exact k1, ?_⟩⟩
        simp [List.lookup]
      | i + 1, g1, g2 => exact absurd g2 (by simp)
    · rw [(cells x c h2).2]
      exact ⟨_, ⟨_, hk1 _ _ bcc.1, rfl⟩⟩
    · rw [hX] at hp
      cases hp
  have kin1 : K.In h1 := KX.keeps hk1
  obtain ⟨mb, mb1, mb2⟩ := e0.mod.blt
  have KF := kxs_ValueError
  obtain ⟨nm, q, N, bs, bm', sn, sub, ab, col, dd, q0, q1, q2, q3, q5, hC, hbm⟩ := id T.cls
  have kev : ∀ {x : Str}, env.kindOf x = scope.names.lookup x := fun {x} => by rw [ev]; rfl
  subst hX
  subst hbody
  obtain ⟨pl, he⟩ := hcall env
  have hint : interactive env = false := by
    unfold interactive
    rw [ev]
    show (scope.kind == .module && _) = false
    rw [hk]
    rfl
  refine ks_wpAt_execs_cons (ks_wpAt_Expr_any (ks_wpAt_MethodCall (pl := pl) ?_ he) hint)
  refine ks_wpAt_super_base (kev.trans k3) (kev.trans k4) (by decide) (by rw [ev]) (hk1 _ _ (KX _ _ lk)) rfl hpar (by rw [ev]) (hk1 _ _ (KX _ _ hcode)) rfl hvs hfile htop ?_
  have hkf : env.scope.kind = .function := by rw [ev]; exact hk
  refine ks_loadName_global hkf (kev.trans k3) (Calls.loadGlobal_builtin (mg := mg) (mb := mb) (by rw [ev]; exact e0.mod.glob.keeps fun b o e => hk1 b o (e0.bs b o e).1) hsuper (by rw [ev]; exact mb1.keeps fun b o e => hk1 b o (e0.bs b o e).1) ((mb2 _ (by decide)).trans (by kernel_rfl)) ⟨rfl, ?_⟩)
  refine wpAny_loadName_free hkf (kev.trans k4) (c := cc) (by rw [ev]; rfl) ⟨_, kin1 _ _ hcell, rfl⟩ ?_
  rw [har]
  obtain ⟨mL, hmL, hLk⟩ := I.loc
  obtain ⟨us, rs, lks⟩ := hLk 0 "self" (.ref a) rfl rfl (.inl (kev.trans k1))
  obtain rfl : us = .ref a := rs
  obtain ⟨t1, hx1⟩ := exo_at I.hok ha
  have lself : mL "self" = some (.ref a) := by
    rcases lks with ⟨_, q⟩ | ⟨q, _⟩
    · exact q
    · exfalso
      rcases q with q | q <;> (have q := (kev.symm.trans q); rw [k1] at q; cases q)
  refine wpAny_loadName_local hkf (kev.trans k1) hmL lself ?_
  refine ks_wpAny_isType_cls (kin1 _ _ hC) rfl ⟨rfl, ?_⟩
  refine ks_wpAny_call_super (kin1 _ _ hC) rfl hx1 rfl (fun c e => by cases e) (looks_mroIn kin1 hsub) (fun h2 e2 kk2 => ?_)
  have kin2 := kin1.keeps kk2
  have hx2 := kk2 _ _ hx1
  have In2 : W.InstAt h2 a ({ cls := .ref C, dict := none, data := .fields #[.ref t1, .none, .none, .none, .bool false, .none] } : Obj) C none := ⟨hx2, rfl, rfl, trivial⟩
  refine kxs_getMethod (l₀ := cdD.mro) (l := bm) KF e2 (looks_opaque kin2 hopq) (fun A Q E s k q => wpAny_bind ((looks_clsIn kin2 hD) A _ E s k (wpAny_pure q))) ?_ kin2 hal (In2.type.andThen (looks_subIn kin2 hB)) (ks_ne kin2 In2 hD) (by decide) ?_
  · rw [hmro]
    exact PySem.ESX.drop_own C bm
  have hst : starEach [Expr.Constant (Const.str txt) j p3] env = [(false, eval (Expr.Constant (Const.str txt) j p3) env)] := rfl
  rw [hst]
  refine kxs_callWith (i := "ValueError.__init__") (x := a) rfl (Calls.evalArgs_plain ?_)
  show wpAny _ _ (spliced ((false, eval (Expr.Constant (Const.str txt) j p3) env) :: backTo p4 [])) _ _ _
  refine Calls.spliced_cons (Calls.Constant_str ?_)
  refine Calls.spliced_nil ?_
  have ku : (h2.push (kxs_mw "ValueError.__init__" a)).get? h2.objs.size = some (kxs_mw "ValueError.__init__" a) := Heap.get?_push_at rfl rfl
  have kk3 : ∀ b o, h1.get? b = some o → (h2.push (kxs_mw "ValueError.__init__" a)).get? b = some o := fun b o e => Heap.get?_push_of_some _ (kk2 b o e)
  refine ⟨ku, ?_⟩
  refine call_bwV (kin1.keeps kk3 _ _ hC) (kk3 _ _ hx1) ku (by rw [sizeLine_eq]; show 1 ≤ 16777216; decide) (fun h4 t4 kk4 hx4 => ?_)
  have I3 := I.kept (t' := s.toks + 1) kk3
  have J := fun (t' : Nat) => I3.write (t' := t') (x := a) (e := a) (o := exo a C none) (by rw [ha]; exact True.intro) (.inl rfl) kk4 ⟨_, hx4⟩ (exo_ok hx4)
  have eu : upd H a (exo a C none) = H := by
    funext b
    by_cases hb : b = a
    · rw [hb, upd_same, ha]
    · rw [upd_ne hb]
  rw [eu] at J
  exact wpAt_of_wpAny (wpAny_execs_nil ⟨.non, H, (J _).os, (J _).bare, (J _).base, (J _).hok, rfl, hq⟩)
end
section
variable {X : Cx}
theorem mk_endN {pins : List (Addr × Obj)} {σ : L2.St} {H1 : Hp} {Q : XK} {hp hp2 h2 : Heap} {g1 g2 : Array GenState} {d1 d2 : Drawn} {t1 t2 : Nat} {os1 os2 : OsState} {a C : Addr} (T : Raises X (.ref C)) (I1 : Inv X pins σ H1 ⟨hp, g1, d1, t1, os1⟩)
    (ha : hp.objs.size ≤ a) (k : ∀ b o, hp.get? b = some o → hp2.get? b = some o) (un : Un (frs X.stack) [] (upd H1 a (exo a C none)) (upd H1 a (exo a C none)) hp2 h2) (hok : HOk X.prog X.w (upd H1 a (exo a C none)) h2) (ho : os2 = os1) (hb : AllBare g2) (q : Q (.ref C) none H1) : MkP X pins σ Q (.ref a) ⟨h2, g2, d2, t2, os2⟩ := by
  have hn : H1 a = none := I1.hok.fresh ha
  obtain ⟨t0, hoe⟩ := exo_at hok (upd_same (H := H1) (a := a) (o := exo a C none))
  obtain ⟨G, g1', g2'⟩ := restrict h2 fun b => decide (b ≠ a)
  have gk : ∀ b, b ≠ a → G.get? b = h2.get? b := fun b hb => g1' b (decide_eq_true hb)
  have ge : G.get? a = none := g2' a (by simp)
  have nha : ∀ {b : Addr} {o : Obj}, hp.get? b = some o → b ≠ a := fun {b o} z => Nat.ne_of_lt (Nat.lt_of_lt_of_le (Heap.lt_size z) ha)
  have up : ∀ {b : Addr}, b ≠ a → H1 b = none → upd H1 a (exo a C none) b = none := fun {b} hb n => by rw [upd_ne hb]; exact n
  have U : Un (frs X.stack) [] H1 H1 hp G := {
    keep := fun b o z n hf hx => by
      rw [gk b (nha z)]
      exact un.keep b o (k b o z) (up (nha z) n) hf hx
    slot := fun b o z n hf hx => by
      rw [gk b (nha z)]
      exact un.slot b o (k b o z) (up (nha z) n) hf hx
    free := fun b o z n hx => n
    there := fun b o z hx => by
      rw [gk b (nha z)]
      exact un.there b o (k b o z) hx
    tups := fun b xs z => z
    frzs := fun b o v z => z
    tbls := fun b ps z => ⟨#[], by simpa using z⟩ }
  have ea : upd H1 a (exo a C none) a = some (exo a C none) := upd_same
  have hok3 : HOk X.prog X.w H1 G := fun b o z => by
    have hba : b ≠ a := ne_of_none z hn
    have noa : ∀ {c : Addr}, H1 c = some (.own b) → c ≠ a := fun {c} hc => ne_of_none hc hn
    refine (hok b o (by rw [upd_ne hba]; exact z)).stay (fun c v hc y => by
          have hca : c ≠ a := by
            rcases hc with hc | hc
            · rw [hc]
              exact hba
            · exact at_ne ea hc exo_own
          rw [gk c hca]
          exact y)
        (fun c hc => by rw [upd_ne (at_ne ea hc exo_own)] at hc; exact hc) (fun c xs hc => by rw [upd_ne (at_ne ea hc exo_tup)] at hc; exact hc)
  have J : Inv X pins σ H1 ⟨G, g2, d2, t2, os2⟩ := I1.call' (ch := []) ho U hok3 hb (fun b z => absurd z (by simp))
  refine ⟨a, _, _, ⟨G, g2, d2, t2, os2⟩, H1, .ref C, none, rfl, J, fun b o z => ?_, ge, hoe, ⟨rfl, rfl⟩, rfl, rfl, hn, rfl, hb, T, q⟩
  by_cases hba : b = a
  · rw [hba, ge] at z
    cases z
  · exact (gk b hba).symm.trans z
end
end Zr

set_option maxHeartbeats 4000000
/-! Zr: own exceptions made by a keyword (after HandS.Exc) -/
namespace PySem.ZrK
open PySem.Spec PySem.Calls PyProof.Rows PySem.W PySem.HandSPX
section
variable {M : Model} {A : Around} {E : Value → Shared → Prop} {h : Heap} {g : Array GenState} {d : Drawn} {t : Nat} {os : OsState}
variable {nm q : Str} {C N : Addr} {bs bm bmB : List Value} {hdct : Bool} {sn : List Str} {sub : List Value} {ab : Bool} {col : Option Bool} {dd : Option Addr} {k0 k1 k2 k3 k5 : Option Value} {B newId initId : String} {kn : Str} {kv : Value}
theorem check_new_ownK (F : ExcBaseFacts B newId initId bmB) (hT : ∀ X : String, bm.contains (.type X) = bmB.contains (.type X)) {rest : List Value} {Q : Unit → Shared → Prop}
    (hC : h.get? C = some (excClassObj nm q C N bs bm hdct sn sub ab col dd k0 k1 k2 k3 k5 newId)) (hq : Q () ⟨h, g, d, t, os⟩) : wpAny M A (checkBuiltinCall newId ⟨.ref C :: rest, [(kn, kv)]⟩) Q E ⟨h, g, d, t, os⟩ := by
  have hcont : (Value.ref C :: bm).contains (.type B) = true := by rw [List.contains_cons, hT, F.hasB, Bool.or_true]
  have hstar := F.noStar
  simp only [checkBuiltinCall, F.newKind, F.newSplit, F.newRow]
  repeat (first | refine wpAny_loadPart_at hC ?_ | (refine wpAny_isSubtype_exc hC ?_; rw [hcont]) | refine wpAny_staticBase_exc hC ?_ | refine wpAny_madeBy_exc hC ?_ | simp only [bne_self_eq_false, Bool.false_eq_true, if_false] | wp_step)
  exact hq
end
section
variable {prog : Program} {w : World} {A : Around} {E : Value → Shared → Prop} {R : Result → Shared → Prop} {h : Heap} {g : Array GenState} {d : Drawn} {t : Nat} {os : OsState}
variable {nm q : Str} {C N : Addr} {bs bm bmB : List Value} {hdct : Bool} {sn : List Str} {sub : List Value} {ab : Bool} {col : Option Bool} {dd : Option Addr} {k0 k1 k2 k3 k5 : Option Value} {B newId initId : String} {kn : Str} {kv : Value}
theorem new_ownK (F : ExcBaseFacts B newId initId bmB) (hT : ∀ X : String, bm.contains (.type X) = bmB.contains (.type X)) {rest : List Value}
    (hC : h.get? C = some (excClassObj nm q C N bs bm hdct sn sub ab col dd k0 k1 k2 k3 k5 newId))
    (hq : R (.ok (.ret (.ref (h.objs.size + 1)))) ⟨(h.push { cls := .type "tuple", data := .seq rest.toArray }).push
      { cls := .ref C, data := .fields #[.ref h.objs.size, .none, .none, .none, .bool false, .none] }, g, d, t, os⟩) (hrest : rest.length ≤ sizeLine) :
    codeAny (model prog w) A (.builtin newId ⟨.ref C :: rest, [(kn, kv)]⟩) R ⟨h, g, d, t, os⟩ := by
  have hends := F.ends
  have hcB : (Value.ref C :: bm).contains (.type B) = true := by rw [List.contains_cons, hT, F.hasB, Bool.or_true]
  have hcA : (Value.ref C :: bm).contains (.type "AttributeError") = false := by rw [List.contains_cons, hT, F.noAttr]; rfl
  have hcN : (Value.ref C :: bm).contains (.type "NameError") = false := by rw [List.contains_cons, hT, F.noName]; rfl
  refine codeAny_builtinAt F.entry ?_
  unfold Builtin.«BaseException.__new__»
  refine wpAt_bind ?_
  show wpAt _ _ _ (stack >>= _) _ _ _
  refine wpAt_bind (wpAt_stack fun p below => wpAt_of_wpAny ?_)
  wp_walk
  refine wpAt_of_wpAny ?_
  rw [F.owner]
  repeat (first | with_reducible refine wpAny_madeHere_exc F.canon hC ?_ | with_reducible refine wpAny_loadPart_at hC ?_ | (with_reducible refine wpAny_isSubtype_exc hC ?_; first | rw [hcB] | rw [hcA] | rw [hcN]) | wp_step)
  show R _ _
  rw [Heap.size_push]
  exact hq

theorem type_call_ownK (F : ExcBaseFacts B newId initId bmB) (hT : ∀ X : String, bm.contains (.type X) = bmB.contains (.type X)) {rest : List Value} {fI : Addr} {Q : Fin → Shared → Prop}
    (hC : h.get? C = some (excClassObj nm q C N bs bm hdct sn sub ab col dd k0 k1 k2 k3 k5 newId))
    (hi : W.Looks (model prog w) h (typeLookup (.ref C) "__init__") (some (.ref fI))) (hb : ∀ self, W.Looks (model prog w) h (bindSpecial (.ref fI) self) (.ref fI, [self])) (hrest : rest.length ≤ sizeLine)
    (hq : codeAny (model prog w) A (.call (.ref fI) ⟨.ref (h.objs.size + 1) :: rest, [(kn, kv)]⟩)
      (fun r s' => match r with | .ok (.ret v) => v = .none ∧ Q (.done (.ret (.ref (h.objs.size + 1)))) s' | .ok _ => False | .error e => E e s')
      ⟨(h.push (W.kdv_tup rest)).push (excO C h.objs.size), g, d, t, os⟩) :
    wpAny (model prog w) A (Builtin.«type.__call__» ⟨.ref C :: rest, [(kn, kv)]⟩) Q E ⟨h, g, d, t, os⟩ := by
  repeat (first | with_reducible refine wpAny_loadPart_at hC ?_ | with_reducible refine wpAny_madeBy_exc hC ?_ | wp_step)
  refine codeAny_call_builtin_code (Code.quiet_builtin _ F.quiet) (check_new_ownK F hT hC ?_)
  refine new_ownK F hT hC ?_ hrest
  show wpAny _ _ _ _ _ _
  have k : ∀ b o, h.get? b = some o → ((h.push (W.kdv_tup rest)).push (excO C h.objs.size)).get? b = some o := fun b o e => Heap.get?_push_of_some _ (Heap.get?_push_of_some _ e)
  have hC₁ := k _ _ hC
  have hget : ((h.push (W.kdv_tup rest)).push (excO C h.objs.size)).get? (h.objs.size + 1) = some (excO C h.objs.size) := by heap_get
  have hcC : (Value.ref C :: bm).contains (.ref C) = true := by simp
  have i1 := hi.keeps k
  have b1 := (hb (.ref (h.objs.size + 1))).keeps k
  unfold isInstance
  repeat (first | with_reducible refine wpAny_loadPart_at hget ?_ | (with_reducible refine wpAny_isSubtype_exc hC₁ ?_; rw [hcC]) | wp_step)
  show wpAny _ _ (typeLookup (.ref C) _) _ _ _
  refine i1.at ?_
  refine wpAny_holding (wpAny_bind (b1.at ?_))
  refine wpAny_bind (wpAny_call (codeAny_mono hq fun r s' z => ?_))
  rcases r with e | (v | _ | _ | _) <;> first | exact z | exact z.elim | skip
  obtain ⟨rfl, z⟩ := z
  first
    | exact wpAny_pure (wpAny_pure z)
    | (wp_walk; exact z)

theorem call_ownK (F : ExcBaseFacts B newId initId bmB) (hT : ∀ X : String, bm.contains (.type X) = bmB.contains (.type X)) {rest : List Value} {fI : Addr}
    (hC : h.get? C = some (excClassObj nm q C N bs bm hdct sn sub ab col dd k0 k1 k2 k3 k5 newId))
    (hi : W.Looks (model prog w) h (typeLookup (.ref C) "__init__") (some (.ref fI))) (hb : ∀ self, W.Looks (model prog w) h (bindSpecial (.ref fI) self) (.ref fI, [self])) (hrest : rest.length ≤ sizeLine)
    (hq : codeAny (model prog w) (A.under (.builtin "type.__call__" ⟨.ref C :: rest, [(kn, kv)]⟩)) (.call (.ref fI) ⟨.ref (h.objs.size + 1) :: rest, [(kn, kv)]⟩) (W.InitBack (h.objs.size + 1) R)
      ⟨(h.push (W.kdv_tup rest)).push (excO C h.objs.size), g, d, t, os⟩) :
    codeAny (model prog w) A (.call (.ref C) ⟨rest, [(kn, kv)]⟩) R ⟨h, g, d, t, os⟩ := by
  have f1 := tc_lookup
  have f2 := tc_bind (.ref C)
  have hTy : (⟨h, g, d, t, os⟩ : Shared).TypeIs (.ref C) "type" := ⟨_, hC, rfl⟩
  refine codeAny_of_tree ?_
  show wpAny _ _ (callAny (.ref C) _) _ _ _
  repeat (any_goals (first | assumption | with_reducible refine wpAny_loadPart_at hC ?_ | wp_step))
  refine ⟨rfl, ?_⟩
  refine codeAny_call_builtin_at (Code.quiet_builtin _ (by decide +kernel)) entry_typeCall (wpAny_check_type_call_sub hC (type_call_ownK F hT hC hi hb hrest ?_))
  refine codeAny_mono hq fun r s' z => ?_
  rcases r with e | (v | _ | _ | _) <;> exact z

end
end PySem.ZrK

set_option maxHeartbeats 2000000
/-! Zr: own exceptions as values: C(e), C(k = e), C(), their field, isinstance -/
namespace Zr
open PySem L2 PySem.Spec PyProof.Rows PySem.W
section
variable {X : Cx} {k : Nat} {C fI : Addr} {fd : FuncData} {ps : List Str} {sp : Sp} {x kn : Str} {p pos kpos : Pos} {e : Expr} {es : List Expr} {ta tk : TA} {te : TE}
/-- C(e, ..) as a value -/
def tMkV (C : Addr) (sp : Sp) (ta : TA) : TE := fun σ H Q => ta σ H fun vs H1 => vs.length ≤ 1000 ∧ ∀ a, H1 a = none → sp (.ref a :: vs) (upd H1 a (exo a C none)) (fun v H2 => v = .non ∧ Q (.ref a) H2) (fun _ _ _ => False)
theorem pe_exo (T : OexC X.K C) (iC : PySem.W.findIn X.K (.ref C) "__init__" = some (some (.ref fI))) (tI : PySem.W.typeIn X.K (.ref fI) = some (.type "function"))
    (F1 : FnOk X.prog X.w X.K X.mg X.base CX0 k fI fd ps sp) (hr : Room (k + 1) X.A) (hb : Binds X.K fd ps []) (hg : Gl X x) (hm : X.mg x = some (.ref C)) (ha : PA X (e :: es) ta)
    (hdb : (x == ("__debug__" : Str)) = false := by decide) (he : starEach (e :: es) X.env = (false, eval e X.env) :: starEach es X.env := by rfl) (hpl : (backTo pos (starEach es X.env)).any (·.1) = false := by rfl) :
    PE X (.Call (.Name x p) (e :: es) [] pos) (tMkV C sp ta) := by
  refine ⟨fun pins s σ H Q I h => ?_⟩
  obtain ⟨nm, q, N, bs, bm, sn, sub, ab, col, dd, k0, k1, k2, k3, k5, hC, hbm⟩ := T.cls
  refine wpAny_Call_Name_kw (ld_glob I hg hm ?_ hdb)
  refine PySem.W.callWith_K (h₀ := X.base) I.ok.mod.kin T.kC (thn (ha.run pos pins s σ H _ I h) fun us s1 ⟨vs, H1, I1, r1, hz, q1⟩ => ⟨I1.kIn, ?_⟩) he hpl
  show wpAny _ _ (call (.ref C) us) _ _ _
  obtain ⟨hp, g, dr, tk, os⟩ := s1
  have hsz : hp.objs.size ≤ hp.objs.size + 1 := Nat.le_succ _
  have hn : H1 (hp.objs.size + 1) = none := I1.hok.fresh hsz
  have hq := q1 (hp.objs.size + 1) hn
  have kk : ∀ b o, hp.get? b = some o → ((hp.push (PySem.W.kdv_tup us)).push (PySem.HandSPX.excO C hp.objs.size)).get? b = some o := fun b o e => Heap.get?_push_of_some _ (Heap.get?_push_of_some _ e)
  have hget : ((hp.push (PySem.W.kdv_tup us)).push (PySem.HandSPX.excO C hp.objs.size)).get? (hp.objs.size + 1) = some (PySem.HandSPX.excO C hp.objs.size) := by heap_get
  have I2 : Inv X pins σ (upd H1 (hp.objs.size + 1) (exo (hp.objs.size + 1) C none)) ⟨(hp.push (PySem.W.kdv_tup us)).push (PySem.HandSPX.excO C hp.objs.size), g, dr, tk, os⟩ :=
    I1.laid (t' := tk) (a := hp.objs.size + 1) (o := exo (hp.objs.size + 1) C none) (h' := (hp.push (PySem.W.kdv_tup us)).push (PySem.HandSPX.excO C hp.objs.size)) kk hsz (exo_ok hget)
  have r2 : Vals (V.ref (hp.objs.size + 1) :: vs) ((Value.ref (hp.objs.size + 1) :: us) ++ []) := by
    rw [List.append_nil]
    exact .cons rfl r1
  have hl : (Value.ref (hp.objs.size + 1) :: us ++ []).length = ps.length := by
    have e := r2.length
    rw [F1.len _ _ _ _ hq] at e
    exact e.symm
  have hus : us.length ≤ sizeLine := by
    rw [← Paired.length r1, sizeLine_eq]
    omega
  refine wpAny_call (PySem.HandSPX.call_own F.excBase_ValueError (fun Y => PySem.HandSPX.refsVE_contains Y bm hbm) (I1.kIn _ _ hC) (PySem.W.looks_findIn I1.kIn iC) (fun self => PySem.W.bind_fn I1.kIn self tI) hus
    (codeAny_mono (F1.run _ X.stack _ _ ⟨Value.ref (hp.objs.size + 1) :: us, []⟩ ((Value.ref (hp.objs.size + 1) :: us) ++ []) _ _ (fun _ _ _ => False) (hr.make C us []) (I2.env0.make C us []) (hb _ (Value.ref (hp.objs.size + 1) :: us) I2.kIn hl) r2 hq) fun r s' hq' => ?_))
  cases r with
  | error er => exact hq'.elim
  | ok fl =>
    cases fl with
    | ret u =>
      obtain ⟨v, H', I3, rv, ev, q3⟩ := I2.after hq'
      subst ev
      exact ⟨rv, ⟨V.ref (hp.objs.size + 1), H', I3, rfl, q3⟩⟩
    | next => exact False.elim hq'
    | brk => exact False.elim hq'
    | cont => exact False.elim hq'
/-- C() as a value -/
theorem pe_exo0 (T : OexC X.K C) (iC : PySem.W.findIn X.K (.ref C) "__init__" = some (some (.ref fI))) (tI : PySem.W.typeIn X.K (.ref fI) = some (.type "function"))
    (F1 : FnOk X.prog X.w X.K X.mg X.base CX0 k fI fd ["self"] (spX0 C)) (hr : Room (k + 1) X.A) (hb : Binds X.K fd ["self"] []) (hg : Gl X x) (hm : X.mg x = some (.ref C)) (hdb : (x == ("__debug__" : Str)) = false := by decide) :
    PE X (.Call (.Name x p) [] [] pos) (fun _ H Q => ∀ a, H a = none → Q (.ref a) (upd H a (exo a C none))) := by
  refine ⟨fun pins s σ H Q I h => ?_⟩
  obtain ⟨nm, q, N, bs, bm, sn, sub, ab, col, dd, k0, k1, k2, k3, k5, hC, hbm⟩ := T.cls
  refine wpAny_Call_Name_kw (ld_glob I hg hm ?_ hdb)
  refine PySem.W.callWith_K0 I.kIn T.kC ?_
  show wpAny _ _ (call (.ref C) []) _ _ _
  obtain ⟨hp, g, dr, tk, os⟩ := s
  have hsz : hp.objs.size ≤ hp.objs.size + 1 := Nat.le_succ _
  have hn : H (hp.objs.size + 1) = none := I.hok.fresh hsz
  have hq : spX0 C [.ref (hp.objs.size + 1)] (upd H (hp.objs.size + 1) (exo (hp.objs.size + 1) C none)) (fun v H2 => v = .non ∧ Q (.ref (hp.objs.size + 1)) H2) (fun _ _ _ => False) := ⟨_, rfl, upd_same, rfl, h _ hn⟩
  have kk : ∀ b o, hp.get? b = some o → ((hp.push (PySem.W.kdv_tup [])).push (PySem.HandSPX.excO C hp.objs.size)).get? b = some o := fun b o e => Heap.get?_push_of_some _ (Heap.get?_push_of_some _ e)
  have hget : ((hp.push (PySem.W.kdv_tup [])).push (PySem.HandSPX.excO C hp.objs.size)).get? (hp.objs.size + 1) = some (PySem.HandSPX.excO C hp.objs.size) := by heap_get
  have I2 : Inv X pins σ (upd H (hp.objs.size + 1) (exo (hp.objs.size + 1) C none)) ⟨(hp.push (PySem.W.kdv_tup [])).push (PySem.HandSPX.excO C hp.objs.size), g, dr, tk, os⟩ :=
    I.laid (t' := tk) (a := hp.objs.size + 1) (o := exo (hp.objs.size + 1) C none) (h' := (hp.push (PySem.W.kdv_tup [])).push (PySem.HandSPX.excO C hp.objs.size)) kk hsz (exo_ok hget)
  have r2 : Vals [V.ref (hp.objs.size + 1)] [Value.ref (hp.objs.size + 1)] := .cons rfl .nil
  refine wpAny_call (PySem.HandSPX.call_own F.excBase_ValueError (fun Y => PySem.HandSPX.refsVE_contains Y bm hbm) (I.kIn _ _ hC) (PySem.W.looks_findIn I.kIn iC) (fun self => PySem.W.bind_fn I.kIn self tI) (by rw [sizeLine_eq]; exact Nat.zero_le _)
    (codeAny_mono (F1.run _ X.stack _ _ ⟨[Value.ref (hp.objs.size + 1)], []⟩ [Value.ref (hp.objs.size + 1)] _ _ (fun _ _ _ => False) (hr.make C [] []) (I2.env0.make C [] []) (hb _ [Value.ref (hp.objs.size + 1)] I2.kIn rfl) r2 hq) fun r s' hq' => ?_))
  cases r with
  | error er => exact hq'.elim
  | ok fl =>
    cases fl with
    | ret u =>
      obtain ⟨v, H', I3, rv, ev, q3⟩ := I2.after hq'
      subst ev
      exact ⟨rv, ⟨V.ref (hp.objs.size + 1), H', I3, rfl, q3⟩⟩
    | next => exact False.elim hq'
    | brk => exact False.elim hq'
    | cont => exact False.elim hq'
/-- C(k = e) as a value -/
theorem pe_exoK {g : List Value → List Value → List Value} {gV : List V → List V → List V} (T : OexC X.K C) (iC : PySem.W.findIn X.K (.ref C) "__init__" = some (some (.ref fI))) (tI : PySem.W.typeIn X.K (.ref fI) = some (.type "function"))
    (F1 : FnOk X.prog X.w X.K X.mg X.base CX0 k fI fd ps sp) (hr : Room (k + 1) X.A) (hb : KBn X.K fd ps 1 [kn] g gV) (hg : Gl X x) (hm : X.mg x = some (.ref C)) (hkw : PK X [⟨some kn, e, kpos⟩] tk)
    (hall : (backToKw pos (keywordEach [⟨some kn, e, kpos⟩] X.env)).all (·.1.isSome) = true := by rfl) (hks : (backToKw pos (keywordEach [⟨some kn, e, kpos⟩] X.env)).filterMap (·.1) = [kn] := by rfl) (hdb : (x == ("__debug__" : Str)) = false := by decide)
    (hpl : ((backTo pos (starEach [] X.env)).any (·.1) || (backToKw pos (keywordEach [⟨some kn, e, kpos⟩] X.env)).any (·.1.isNone)) = false := by rfl) :
    PE X (.Call (.Name x p) [] [⟨some kn, e, kpos⟩] pos) (fun σ H Q => tk σ H fun zs H1 => zs.length = 1 ∧ ∀ a, H1 a = none → sp (gV [.ref a] zs) (upd H1 a (exo a C none)) (fun v H2 => v = .non ∧ Q (.ref a) H2) (fun _ _ _ => False)) := by
  refine ⟨fun pins s σ H Q I h => ?_⟩
  obtain ⟨nm, q, N, bs, bm, sn, sub, ab, col, dd, k0, k1, k2, k3, k5, hC, hbm⟩ := T.cls
  refine wpAny_Call_Name_kw (ld_glob I hg hm ?_ hdb)
  refine PySem.W.callWith_KW0 (h₀ := X.base) I.ok.mod.kin T.kC hall ?_ hpl
  refine thn (hkw.run pos pins s σ H _ I h) fun ws s1 ⟨zs, H1, I1, rz, l2, q1⟩ => ⟨I1.kIn, ?_⟩
  rw [hks]
  obtain ⟨u, rfl⟩ : ∃ u, ws = [u] := by
    have e := rz.length
    rw [l2] at e
    match ws, e with
    | [u], _ => exact ⟨u, rfl⟩
  obtain ⟨hp, g', dr, tk', os⟩ := s1
  have hsz : hp.objs.size ≤ hp.objs.size + 1 := Nat.le_succ _
  have hn : H1 (hp.objs.size + 1) = none := I1.hok.fresh hsz
  have hq := q1 (hp.objs.size + 1) hn
  have kk : ∀ b o, hp.get? b = some o → ((hp.push (PySem.W.kdv_tup [])).push (PySem.HandSPX.excO C hp.objs.size)).get? b = some o := fun b o e => Heap.get?_push_of_some _ (Heap.get?_push_of_some _ e)
  have hget : ((hp.push (PySem.W.kdv_tup [])).push (PySem.HandSPX.excO C hp.objs.size)).get? (hp.objs.size + 1) = some (PySem.HandSPX.excO C hp.objs.size) := by heap_get
  have I2 : Inv X pins σ (upd H1 (hp.objs.size + 1) (exo (hp.objs.size + 1) C none)) ⟨(hp.push (PySem.W.kdv_tup [])).push (PySem.HandSPX.excO C hp.objs.size), g', dr, tk', os⟩ :=
    I1.laid (t' := tk') (a := hp.objs.size + 1) (o := exo (hp.objs.size + 1) C none) (h' := (hp.push (PySem.W.kdv_tup [])).push (PySem.HandSPX.excO C hp.objs.size)) kk hsz (exo_ok hget)
  have r2 := hb.rel (show Vals [V.ref (hp.objs.size + 1)] [Value.ref (hp.objs.size + 1)] from .cons rfl .nil) rz
  show wpAny _ _ (call (.ref C) [] [(kn, u)]) _ _ _
  refine wpAny_call (PySem.ZrK.call_ownK F.excBase_ValueError (fun Y => PySem.HandSPX.refsVE_contains Y bm hbm) (I1.kIn _ _ hC) (PySem.W.looks_findIn I1.kIn iC) (fun self => PySem.W.bind_fn I1.kIn self tI) (by rw [sizeLine_eq]; exact Nat.zero_le _)
    (codeAny_mono (F1.run _ X.stack _ _ ⟨[Value.ref (hp.objs.size + 1)], [(kn, u)]⟩ (g [Value.ref (hp.objs.size + 1)] [u]) _ _ (fun _ _ _ => False) (hr.make C [] [(kn, u)]) (I2.env0.make C [] [(kn, u)]) (hb.to _ [Value.ref (hp.objs.size + 1)] [u] I2.kIn rfl rfl) r2 hq) fun r s' hq' => ?_))
  cases r with
  | error er => exact hq'.elim
  | ok fl =>
    cases fl with
    | ret u =>
      obtain ⟨v, H', I3, rv, ev, q3⟩ := I2.after hq'
      subst ev
      exact ⟨rv, ⟨V.ref (hp.objs.size + 1), H', I3, rfl, q3⟩⟩
    | next => exact False.elim hq'
    | brk => exact False.elim hq'
    | cont => exact False.elim hq'
theorem exAt_inst {a C : Addr} {H : Hp} {s : Shared} {pins : List (Addr × Obj)} {σ : L2.St} (I : Inv X pins σ H s) (h : ExAt H a C) : ∃ oe od, PySem.W.InstAt s.heap a oe C od := by
  rcases h with h | ⟨dx, fs, h1, h2⟩
  · obtain ⟨t1, hx⟩ := exo_at I.hok h
    exact ⟨_, none, hx, rfl, rfl, trivial⟩
  · obtain ⟨t1, hx⟩ := exo_at I.hok h1
    obtain ⟨mA, hns, hr⟩ := exd_at I.hok h2
    obtain ⟨od, ho, hl⟩ := lookIn_ns hns
    exact ⟨_, some od, hx, rfl, rfl, ho⟩
/-- e.f, e an own exception -/
theorem pe_exf {fld : Str} (Xf : XfC X.K C) (hno : PySem.W.findIn X.K (.ref C) fld = some none) (he : PE X e te) (hb : attributeBase e fld X.env (eval e X.env) = eval e X.env := by rfl) :
    PE X (.Attribute e fld pos) (fun σ H Q => te σ H fun x H1 => ∃ a dx fs v, x = .ref a ∧ H1 a = some (exo a C (some dx)) ∧ H1 dx = some (exd dx fs) ∧ fs.lookup fld = some v ∧ Q v H1) := by
  refine ⟨fun pins s σ H Q I h => ?_⟩
  refine attr_of hb (thn (he.run pins s σ H _ I h) fun u s1 hh => ?_)
  obtain ⟨x, H1, I1, rx, a, dx, fs, v, ex, h1, h2, l, q⟩ := hh
  subst ex
  obtain rfl : u = Value.ref a := rx
  obtain ⟨t1, hx⟩ := exo_at I1.hok h1
  obtain ⟨mA, hns, hr⟩ := exd_at I1.hok h2
  obtain ⟨od, ho, hl⟩ := lookIn_ns hns
  obtain ⟨u, hu, ru⟩ := RelO.some_of (v := v) (o := mA fld) (by rw [← l]; exact hr fld)
  have J : PySem.W.InstAt s1.heap a ({ cls := .ref C, dict := some dx, data := .fields #[.ref t1, .none, .none, .none, .bool false, .none] } : Obj) C (some od) := ⟨hx, rfl, rfl, ho⟩
  exact HandSPX.exc_get I1.kIn J Xf.ga Xf.gg Xf.exC (PySem.W.findObj_own Xf.hdC hno rfl (by rw [hl, hu])) (handed_of ru) ⟨v, H1, I1.tok _, ru, q⟩
/-- isinstance(e, c), e an own exception -/
theorem call_isO : CallR X (.builtin "isinstance") (fun xs H Q => ∃ (D a : Addr) (c : V) (cv : Value) (b : Bool), xs = [.ref a, c] ∧ (∀ u, RelV c u → u = cv) ∧ ExcC X.K D ∧ ExAt H a D ∧ PySem.W.kitOne X.K (.ref D) cv = some b ∧ Q (.bl b) H) := by
  intro pins s σ H xs us Q I r h
  obtain ⟨D, a, c, cv, b, rfl, hcv, Ec, hd, e, q⟩ := h
  cases r with
  | cons rx rr =>
    cases rr with
    | cons rt rr =>
      cases rr
      cases rx
      have ec := hcv _ rt
      subst ec
      obtain ⟨oe, od, J⟩ := exAt_inst I hd
      exact PySem.W.kia_one (PySem.W.kitx_exc (by obtain ⟨cd, hc, _⟩ := any_some Ec.hd; rw [hc]; rfl) Ec.hg Ec.hk Ec.hs Ec.ha Ec.hn Ec.ht Ec.hm) I.kIn J e (fun z => nomatch z) fun tk => ⟨.bl b, H, I.kept (t' := tk) fun _ _ z => z, rfl, q⟩
end
section
variable {G : Cls} {X : Cx} {k t : Nat} {fI : Addr} {fd : FuncData} {x fld wn : Str} {p pos p2 kpos : Pos} {e : Expr} {f : DE}
theorem Zt.moreH {g : Gh} {S H H' : Hp} {s : L2.St} {d : Ev} (z : Zt G g S s H d) (e : Same H H') : Zt G g S s H' d := z.ext ⟨Same.refl _, e, z.sh.trans e, fun b o q => .inl q⟩
theorem excG_grow {H : Hp} {a dx : Addr} {o1 o2 o3 : HO} (ha : H a = none) (hd : H dx = none) : Same H (upd (upd (upd H a o1) dx o2) a o3) := fun b o e => by
  rw [upd_ne (ne_of_none e ha), upd_ne (ne_of_none e hd), upd_ne (ne_of_none e ha)]
  exact e
theorem acE_one {d d' : Ev} {y : D} (h : f d = some (y, d')) : ac f an d = some ([y], d') := by
  unfold ac
  rw [h]
  rfl
theorem replE_one {S : Hp} {y : D} {vs : List V} (r : RepL G S [y] vs) : ∃ v, vs = [v] ∧ Rep G S y v := by
  unfold RepL at r
  obtain ⟨v, r', rfl, h1, h2⟩ := r
  unfold RepL at h2
  subst h2
  exact ⟨v, rfl, h1⟩
/-- C(e).f -/
theorem le_exF {C : Addr} (T : OexC X.K C) (iC : PySem.W.findIn X.K (.ref C) "__init__" = some (some (.ref fI))) (tI : PySem.W.typeIn X.K (.ref fI) = some (.type "function"))
    (F1 : FnOk X.prog X.w X.K X.mg X.base CX0 k fI fd ["self", wn] (spXI C fld)) (hr : Room (k + 1) X.A) (hb : Binds X.K fd ["self", wn] []) (hg : Gl X x) (hm : X.mg x = some (.ref C))
    (Xf : XfC X.K C) (hno : PySem.W.findIn X.K (.ref C) fld = some none) (he : LE G X e f) (hdb : (x == ("__debug__" : Str)) = false := by decide) (hs : starEach [e] X.env = (false, eval e X.env) :: starEach [] X.env := by rfl) (hpl : (backTo pos (starEach [] X.env)).any (·.1) = false := by rfl)
    (hb2 : attributeBase (.Call (.Name x p) [e] [] pos) fld X.env (eval (.Call (.Name x p) [e] [] pos) X.env) = eval (.Call (.Name x p) [e] [] pos) X.env := by rfl) :
    LE G X (.Attribute (.Call (.Name x p) [e] [] pos) fld p2) f :=
  pe_weak (pe_exf Xf hno (pe_exo T iC tI F1 hr hb hg hm (la_cons he la_nil hs) hdb hs hpl) hb2) fun s H Q ⟨g, S, d, y, d', z, e1, q⟩ => by
    refine ⟨g, S, d, [y], d', z, acE_one e1, fun vs H1 S1 sm z1 r => ?_⟩
    obtain ⟨v, rfl, rv⟩ := replE_one r
    refine ⟨(by show 1 ≤ 1000; decide), fun a ha => ⟨a, v, rfl, upd_same, fun dx hdx hne => ⟨rfl, a, dx, [(fld, v)], v, rfl, upd_same, ?_, ?_, ?_⟩⟩⟩
    · rw [upd_ne hne, upd_same]
    · simp [List.lookup]
    · rw [upd_ne hne] at hdx
      exact q v _ S1 sm (z1.moreH (excG_grow ha hdx)) rv
/-- C(k = e).f -/
theorem le_exFK {C : Addr} {g : List Value → List Value → List Value} (T : OexC X.K C) (iC : PySem.W.findIn X.K (.ref C) "__init__" = some (some (.ref fI))) (tI : PySem.W.typeIn X.K (.ref fI) = some (.type "function"))
    (F1 : FnOk X.prog X.w X.K X.mg X.base CX0 k fI fd ["self", wn] (spXI C fld)) (hr : Room (k + 1) X.A) (hb : KBn X.K fd ["self", wn] 1 [wn] g (fun vs zs => vs ++ zs)) (hg : Gl X x) (hm : X.mg x = some (.ref C))
    (Xf : XfC X.K C) (hno : PySem.W.findIn X.K (.ref C) fld = some none) (he : LE G X e f) (hdb : (x == ("__debug__" : Str)) = false := by decide)
    (hall : (backToKw pos (keywordEach [⟨some wn, e, kpos⟩] X.env)).all (·.1.isSome) = true := by rfl) (hks : (backToKw pos (keywordEach [⟨some wn, e, kpos⟩] X.env)).filterMap (·.1) = [wn] := by rfl)
    (hpl : ((backTo pos (starEach [] X.env)).any (·.1) || (backToKw pos (keywordEach [⟨some wn, e, kpos⟩] X.env)).any (·.1.isNone)) = false := by rfl)
    (hb2 : attributeBase (.Call (.Name x p) [] [⟨some wn, e, kpos⟩] pos) fld X.env (eval (.Call (.Name x p) [] [⟨some wn, e, kpos⟩] pos) X.env) = eval (.Call (.Name x p) [] [⟨some wn, e, kpos⟩] pos) X.env := by rfl) :
    LE G X (.Attribute (.Call (.Name x p) [] [⟨some wn, e, kpos⟩] pos) fld p2) f :=
  pe_weak (pe_exf Xf hno (pe_exoK T iC tI F1 hr hb hg hm (lk_cons he lk_nil) hall hks hdb hpl) hb2) fun s H Q ⟨g, S, d, y, d', z, e1, q⟩ => by
    refine ⟨g, S, d, [y], d', z, acE_one e1, fun vs H1 S1 sm z1 r => ?_⟩
    obtain ⟨v, rfl, rv⟩ := replE_one r
    refine ⟨rfl, fun a ha => ⟨a, v, rfl, upd_same, fun dx hdx hne => ⟨rfl, a, dx, [(fld, v)], v, rfl, upd_same, ?_, ?_, ?_⟩⟩⟩
    · rw [upd_ne hne, upd_same]
    · simp [List.lookup]
    · rw [upd_ne hne] at hdx
      exact q v _ S1 sm (z1.moreH (excG_grow ha hdx)) rv
/-- C(e) as a value -/
def exD (t : Nat) (f : DE) : DE := fun d => match f d with
  | some (_, d1) => some (.ex t, d1)
  | none => none
theorem le_exO (T : OexC X.K (G.adr (200 + t))) (iC : PySem.W.findIn X.K (.ref (G.adr (200 + t))) "__init__" = some (some (.ref fI))) (tI : PySem.W.typeIn X.K (.ref fI) = some (.type "function"))
    (F1 : FnOk X.prog X.w X.K X.mg X.base CX0 k fI fd ["self", wn] (spXI (G.adr (200 + t)) fld)) (hr : Room (k + 1) X.A) (hb : Binds X.K fd ["self", wn] []) (hg : Gl X x) (hm : X.mg x = some (.ref (G.adr (200 + t))))
    (he : LE G X e f) (hdb : (x == ("__debug__" : Str)) = false := by decide) (hs : starEach [e] X.env = (false, eval e X.env) :: starEach [] X.env := by rfl) (hpl : (backTo pos (starEach [] X.env)).any (·.1) = false := by rfl) :
    LE G X (.Call (.Name x p) [e] [] pos) (exD t f) :=
  pe_weak (pe_exo T iC tI F1 hr hb hg hm (la_cons he la_nil hs) hdb hs hpl) fun s H Q ⟨g, S, d, y, d', z, e1, q⟩ => by
    unfold exD at e1
    split at e1
    · rename_i y0 d1 e2
      cases e1
      refine ⟨g, S, d, [y0], d', z, acE_one e2, fun vs H1 S1 sm z1 r => ?_⟩
      obtain ⟨v, rfl, rv⟩ := replE_one r
      refine ⟨(by show 1 ≤ 1000; decide), fun a ha => ⟨a, v, rfl, upd_same, fun dx hdx hne => ⟨rfl, ?_⟩⟩⟩
      rw [upd_ne hne] at hdx
      have sa : S1 a = none := z1.sh.free ha
      have sd : S1 dx = none := z1.sh.free hdx
      have sm2 : Same S1 (upd (upd (upd S1 a (exo a (G.adr (200 + t)) none)) dx (exd dx [(fld, v)])) a (exo a (G.adr (200 + t)) (some dx))) := excG_grow sa sd
      have gr : Same H1 (upd (upd (upd H1 a (exo a (G.adr (200 + t)) none)) dx (exd dx [(fld, v)])) a (exo a (G.adr (200 + t)) (some dx))) := excG_grow ha hdx
      refine q (.ref a) _ _ (sm.trans sm2) (z1.ext ⟨sm2, gr, fun b o w => ?_, fun b o w => ?_⟩) ?_
      · by_cases ba : b = a
        · subst ba; rw [upd_same] at w ⊢; exact w
        · rw [upd_ne ba] at w ⊢
          by_cases bd : b = dx
          · subst bd; rw [upd_same] at w ⊢; exact w
          · rw [upd_ne bd, upd_ne ba] at w ⊢
            exact z1.sh _ _ w
      · by_cases ba : b = a
        · subst ba; exact .inr ha
        · rw [upd_ne ba] at w
          by_cases bd : b = dx
          · subst bd; exact .inr hdx
          · rw [upd_ne bd, upd_ne ba] at w
            exact .inl w
      · unfold Rep
        exact ⟨a, rfl, .inr ⟨dx, [(fld, v)], upd_same, by rw [upd_ne hne, upd_same]⟩⟩
    · cases e1
/-- C() as a value -/
def exD0 (t : Nat) : DE := fun d => some (.ex t, d)
theorem le_exO0 (T : OexC X.K (G.adr (200 + t))) (iC : PySem.W.findIn X.K (.ref (G.adr (200 + t))) "__init__" = some (some (.ref fI))) (tI : PySem.W.typeIn X.K (.ref fI) = some (.type "function"))
    (F1 : FnOk X.prog X.w X.K X.mg X.base CX0 k fI fd ["self"] (spX0 (G.adr (200 + t)))) (hr : Room (k + 1) X.A) (hb : Binds X.K fd ["self"] []) (hg : Gl X x) (hm : X.mg x = some (.ref (G.adr (200 + t)))) (hdb : (x == ("__debug__" : Str)) = false := by decide) :
    LE G X (.Call (.Name x p) [] [] pos) (exD0 t) :=
  pe_weak (pe_exo0 T iC tI F1 hr hb hg hm hdb) fun s H Q ⟨g, S, d, y, d', z, e1, q⟩ => by
    cases e1
    intro a ha
    exact q (.ref a) _ _ (Ext.alloc z.sh ha).s (z.ext (Ext.alloc z.sh ha)) (by unfold Rep; exact ⟨a, rfl, .inl upd_same⟩)
/-- isinstance(e, C), e an own exception -/
def isX (tb : List (Nat × Bool)) : D → Option D
  | .ex t => match tb.lookup t with
    | some b => some (.bl b)
    | none => none
  | _ => none
theorem le_isX {tb : List (Nat × Bool)} {c : Expr} {cv : V} {u : Value} (hk : ∀ q ∈ tb, ExcC X.K (G.adr (200 + q.1)) ∧ PySem.W.kitOne X.K (.ref (G.adr (200 + q.1))) u = some q.2) (hg : Gl X "isinstance") (hm : X.mg "isinstance" = none)
    (hv : ∀ w, RelV cv w → w = u) (he : LE G X e f) (hc : PE X c (tC cv)) (hs : starEach [e, c] X.env = (false, eval e X.env) :: starEach [c] X.env := by rfl) (hs2 : starEach [c] X.env = (false, eval c X.env) :: starEach [] X.env := by rfl)
    (hpl : (backTo pos (starEach [c] X.env)).any (·.1) = false := by rfl) : LE G X (.Call (.Name "isinstance" p) [e, c] [] pos) (u1 (isX tb) f) :=
  pe_weak (pe_callB call_isO hg hm (by decide +kernel) (pa_cons he (pa_cons hc pa_nil hs2) hs) (by decide) (by decide) hs hpl) fun s H Q ⟨g, S, d, y, d', z, e, q⟩ => by
    obtain ⟨w, e1, e2⟩ := u1_inv e
    unfold isX at e2
    split at e2
    · rename_i t
      split at e2
      · rename_i b e3
        cases e2
        refine ⟨g, S, d, _, d', z, e1, fun v H' S' sm z' r => ?_⟩
        obtain ⟨a, rfl, ea⟩ := inv_ex r
        obtain ⟨k1, k2⟩ := hk _ (lookup_mem e3)
        exact ⟨_, a, cv, u, b, rfl, hv, k1, ea.mono z'.sh, k2, q _ H' S' sm z' rep_bl⟩
      · cases e2
    · cases e2
end
end Zr

set_option maxHeartbeats 2000000
/-! Zr: inits of own exceptions, by keywords too; without a field -/
namespace Zr
open PySem PySem.W PyProof.Rows L2
theorem xinitK_of {P : Program} {w : World} {K : Frag} {mg : Str → Option Value} {base : Heap} {k : Nat} {C : Addr} {d : He5.DefA} {fld wn txt : Str} {ar : Arg} {p0 p1 p2 p3 p4 p5 p6 p7 p8 p9 : Pos} {j : Nat}
    (hat : d.at_ K = He.ma K C "__init__") (e : noC (He5.fnA K (d.at_ K)) = d.val) (hx : xcB K P.main.file d.qual C = true) (O : OexF K C)
    (hbody : d.body = xiBody txt fld wn j p0 p1 p2 p3 p4 p5 p6 p7 p8 p9) (hcall : XiCall txt j p0 p1 p2 p3 p4)
    (hpar : (d.params.posonlyargs ++ d.params.args).head? = some ar) (har : ar.arg = "self") (hwn : (wn == "self") = false) (hwd : (wn == ("__debug__" : Str)) = false) (hwc : (wn == ("__classdict__" : Str)) = false)
    (hk : d.scope.kind = .function) (hco : d.scope.isCoroutine = false) (hgen : d.scope.isGenerator = false)
    (k1 : d.scope.names.lookup ("self" : Str) = some .local) (k2 : d.scope.names.lookup wn = some .local) (k3 : d.scope.names.lookup ("super" : Str) = some .globalImplicit) (k4 : d.scope.names.lookup ("__class__" : Str) = some .free)
    (k5 : ∀ x ∈ d.scope.names, x.2 ≠ .cell) (k6 : ∀ x ∈ d.scope.names, x.2 = .free → x.1 = "__class__")
    (hsuper : mg "super" = none) (htop : (P.main.scope.names.lookup ("super" : Str)).isSome = false)
    (hfld : findIn K (.ref C) fld = some none) (hopq : nsIn K cStatics "thirdparty.any" = some none)
    (hbind : ∀ (cl : List (Str × Addr)) (kV doc pm : Value) (an : Option Addr) (cdv ct : Value) (us : List Value), us.length = (["self", wn] : List Str).length → bindArgs (fnX d.name d.qual d.params d.body d.scope cl .none kV doc pm an cdv ct) ⟨us, []⟩ = pure ((["self", wn] : List Str).zip us))
    (hbindK : ∀ (cl : List (Str × Addr)) (kV doc pm : Value) (an : Option Addr) (cdv ct : Value) (us ws : List Value), us.length = 1 → ws.length = 1 → bindArgs (fnX d.name d.qual d.params d.body d.scope cl .none kV doc pm an cdv ct) ⟨us, ([wn] : List Str).zip ws⟩ = pure ((["self", wn] : List Str).zip (us ++ ws))) :
    ∃ fd, FnOk P w K mg base CX0 (k + 1) (He.ma K C "__init__") fd ["self", wn] (spXI C fld) ∧ Binds K fd ["self", wn] [] ∧ KBn K fd ["self", wn] 1 [wn] (fun us ws => us ++ ws) (fun vs zs => vs ++ zs) := by
  rw [hat] at e
  unfold xcB at hx
  unfold He5.fnA at e
  split at hx
  · rename_i oc od fd osl q
    rw [q] at e
    obtain ⟨n1, n2, n3, n4, n5, n6, n7, n8, n9, n10, n11, n12, n13, n14, n15⟩ := fd
    have e2 : (some (n1, n2, n3, n4, n5, n6, [], n15) : He5.FnW) = some (d.name, d.qual, d.params, .stmts d.body, d.scope, mainGlobals, [], builtinsNs) := e
    simp only [Option.some.injEq, Prod.mk.injEq] at e2
    obtain ⟨h1, h2, h3, h4, h5, h6, _, h8⟩ := e2
    subst h1 h2 h3 h4 h5 h6 h8
    dsimp only at hx
    split at hx
    · rename_i n cc cda
      obtain ⟨g1, hx⟩ := He.ba hx
      obtain ⟨g2, hx⟩ := He.ba hx
      obtain ⟨g3, g4⟩ := He.ba hx
      have g1 := of_decide_eq_true g1
      subst g1
      split at g3
      · rename_i cl cld D csl qc
        have g3 := of_decide_eq_true g3
        subst g3
        split at g4
        · rename_i ccl cdd vs0 ccs qd
          split at g4
          · rename_i fl tf qv
            obtain ⟨cdD, bm, c1, c2, c3⟩ := O.cd
            refine ⟨_, xinit_ok (body := d.body) hcall hbody q g2 qd qv g4 qc c1 c2 O.o O.m hpar har hwn hwd hwc hk hco hgen k1 k2 k3 k4 k5 (fun x hx => k6 _ (PySem.mem_of_lookup hx) rfl) hsuper htop hfld c3 hopq O.v, .all fun us hl => hbind _ _ _ _ _ _ _ us hl, ⟨fun s us ws _ l1 l2 => .of_eq (hbindK _ _ _ _ _ _ _ us ws l1 l2), fun r1 r2 => r1.append r2⟩⟩
          · cases g4
        · cases g4
      · cases g3
    · cases hx
  · cases hx
theorem xinit0k_of {P : Program} {w : World} {K : Frag} {mg : Str → Option Value} {base : Heap} {k : Nat} {C : Addr} {d : He5.DefA} {txt : Str} {ar : Arg} {p0 p1 p2 p3 p4 p5 : Pos} {j : Nat}
    (hat : d.at_ K = He.ma K C "__init__") (e : noC (He5.fnA K (d.at_ K)) = d.val) (hx : xcB K P.main.file d.qual C = true) (O : OexF K C)
    (hbody : d.body = xiBody0 txt j p0 p1 p2 p3 p4 p5) (hcall : XiCall txt j p0 p1 p2 p3 p4)
    (hpar : (d.params.posonlyargs ++ d.params.args).head? = some ar) (har : ar.arg = "self")
    (hk : d.scope.kind = .function) (hco : d.scope.isCoroutine = false) (hgen : d.scope.isGenerator = false)
    (k1 : d.scope.names.lookup ("self" : Str) = some .local) (k3 : d.scope.names.lookup ("super" : Str) = some .globalImplicit) (k4 : d.scope.names.lookup ("__class__" : Str) = some .free)
    (k5 : ∀ x ∈ d.scope.names, x.2 ≠ .cell) (k6 : ∀ x ∈ d.scope.names, x.2 = .free → x.1 = "__class__")
    (hsuper : mg "super" = none) (htop : (P.main.scope.names.lookup ("super" : Str)).isSome = false)
    (hopq : nsIn K cStatics "thirdparty.any" = some none)
    (hbind : ∀ (cl : List (Str × Addr)) (kV doc pm : Value) (an : Option Addr) (cdv ct : Value) (us : List Value), us.length = (["self"] : List Str).length → bindArgs (fnX d.name d.qual d.params d.body d.scope cl .none kV doc pm an cdv ct) ⟨us, []⟩ = pure ((["self"] : List Str).zip us)) :
    ∃ fd, FnOk P w K mg base CX0 (k + 1) (He.ma K C "__init__") fd ["self"] (spX0 C) ∧ Binds K fd ["self"] [] := by
  rw [hat] at e
  unfold xcB at hx
  unfold He5.fnA at e
  split at hx
  · rename_i oc od fd osl q
    rw [q] at e
    obtain ⟨n1, n2, n3, n4, n5, n6, n7, n8, n9, n10, n11, n12, n13, n14, n15⟩ := fd
    have e2 : (some (n1, n2, n3, n4, n5, n6, [], n15) : He5.FnW) = some (d.name, d.qual, d.params, .stmts d.body, d.scope, mainGlobals, [], builtinsNs) := e
    simp only [Option.some.injEq, Prod.mk.injEq] at e2
    obtain ⟨h1, h2, h3, h4, h5, h6, _, h8⟩ := e2
    subst h1 h2 h3 h4 h5 h6 h8
    dsimp only at hx
    split at hx
    · rename_i n cc cda
      obtain ⟨g1, hx⟩ := He.ba hx
      obtain ⟨g2, hx⟩ := He.ba hx
      obtain ⟨g3, g4⟩ := He.ba hx
      have g1 := of_decide_eq_true g1
      subst g1
      split at g3
      · rename_i cl cld D csl qc
        have g3 := of_decide_eq_true g3
        subst g3
        split at g4
        · rename_i ccl cdd vs0 ccs qd
          split at g4
          · rename_i fl tf qv
            obtain ⟨cdD, bm, c1, c2, c3⟩ := O.cd
            refine ⟨_, xinit0_ok (body := d.body) hcall hbody q g2 qd qv g4 qc c1 c2 O.o O.m hpar har hk hco hgen k1 k3 k4 k5 (fun x hx => k6 _ (PySem.mem_of_lookup hx) rfl) hsuper htop c3 hopq O.v, .all fun us hl => hbind _ _ _ _ _ _ _ us hl⟩
          · cases g4
        · cases g4
      · cases g3
    · cases hx
  · cases hx
end Zr

set_option maxHeartbeats 2000000
/-! Zr: y = f(x); x.append(w), where f gives a list of the very list x -/
namespace Zr
open PySem L2
/-- the classes, with p at 77 -/
def Cls.at7 (G : Cls) (p : Addr) : Cls := ⟨G.K, fun n => if n = 77 then p else G.adr n, G.fld⟩
theorem fnOk_ex {P : Program} {w : World} {K : PySem.W.Frag} {mg : Str → Option Value} {base : Heap} {CX : CXT} {k : Nat} {f : Addr} {fd : FuncData} {ps : List Str} {sp : Addr → Sp} (h : ∀ p, FnOk P w K mg base CX k f fd ps (sp p)) : FnOk P w K mg base CX k f fd ps (fun vs H Q E => ∃ p, sp p vs H Q E) :=
  ⟨fun vs H Q E ⟨p, q⟩ => (h p).len vs H Q E q, fun A outer s H args us vs Q E hr e0 hb r ⟨p, q⟩ => (h p).run A outer s H args us vs Q E hr e0 hb r q⟩
def isF7 : D → Bool
  | .fn a => a == 77
  | _ => false
def kmD (i j : Nat) (F : FD) (w : Str) : DS := fun d => match d[i]? with
  | some (.ow (.lst ys)) => match F [.va (.fn 77)] with
    | some (.lst zs, t) => if (zs.all isF7 && (notIo d j && (decide (i ≠ j) && decide (ys.length < sizeLine)))) = true then some (.nx, (d.set i (.va (.lst (ys ++ [.str w])))).set j (.va (.lst (zs.map fun _ => Zr.D.lst (ys ++ [.str w]))))) else none
    | _ => none
  | _ => none
theorem repl_f7 {G : Cls} {S S2 : Hp} {p : Addr} {X : D} (rX : Rep G S2 X (.ref p)) : ∀ {zs : List D} {us : List V}, zs.all isF7 = true → RepL (G.at7 p) S zs us → RepL G S2 (zs.map fun _ => X) us
  | [], us, _, h => by
    unfold RepL at h
    subst h
    exact .nil
  | z :: zs, us, ha, h => by
    rw [List.all_cons, Bool.and_eq_true] at ha
    unfold RepL at h
    obtain ⟨v, r, rfl, h1, h2⟩ := h
    refine .cons ?_ (repl_f7 rX ha.2 h2)
    cases z with
    | fn a =>
      have ea : a = 77 := by
        have := ha.1
        unfold isF7 at this
        exact eq_of_beq this
      subst ea
      unfold Rep at h1
      have h1 : v = .ref p := h1
      rw [h1]
      exact rX
    | _ => exact nomatch ha.1
section
variable {G : Cls} {X : Cx} {i j lv jj : Nat} {fA : Addr} {fd : FuncData} {ps : List Str} {F : FD} {kt h fn w : Str} {p1 p2 p3 p4 p5 p6 p7 p8 p9 apos : Pos} {rest : List Stmt} {B : DS}
theorem lss_km (hK : G.K = X.K) (Fk : ∀ p, FnOk X.prog X.w X.K X.mg X.base CX0 lv fA fd ps (spD (G.at7 p) 1 F)) (hr : Room lv X.A) (hg : Gl X fn) (hm : X.mg fn = some (.ref fA)) (hk : PySem.W.keepIn X.K (.ref fA) = true) (hb : Binds X.K fd ps [])
    (hN : X.N.Nodup) (hj : X.N[j]? = some kt) (hlj : Loc X.env.scope kt) (hi : X.N[i]? = some h) (hvi : Vis X.env.scope h) (hrest : LSs G X rest B)
    (hd : (h == ("__debug__" : Str)) = false := by decide) (hcd : (h == ("__classdict__" : Str)) = false := by decide) (hdb : (fn == ("__debug__" : Str)) = false := by decide)
    (hst : starEach [.Name h p3] X.env = (false, eval (.Name h p3) X.env) :: starEach [] X.env := by rfl) (hpl : (backTo p4 (starEach [] X.env)).any (·.1) = false := by rfl)
    (hs : swapsWith (.Call (.Name fn p2) [.Name h p3] [] p4) (some (.Name kt p1)) p5.line X.env = pure false := by rfl)
    (hf : X.fn kt = true ∨ X.env.scope.names.lookup kt = some .local := by first | exact .inl rfl | exact .inr rfl | assumption)
    (hbase : attributeBase (.Name h p6) "append" X.env (eval (.Name h p6) X.env) = eval (.Name h p6) X.env := by rfl)
    (hfew : ((backTo p8 (starEach [.Constant (.str w) jj p7] X.env)).all (fun x => !x.1) && (backToKw p8 (keywordEach [] X.env)).all (fun x => x.1.isSome)
      && decide (([.Constant (.str w) jj p7] : List Expr).length + ([] : List Keyword).length + (if ([] : List Keyword).isEmpty then 0 else 1) < 30)) = true := by rfl)
    (hline : (apos.endLine == p8.line) = true := by rfl) (hs2 : starEach [.Constant (.str w) jj p7] X.env = (false, eval (.Constant (.str w) jj p7) X.env) :: starEach [] X.env := by rfl) (hplain : (backTo p8 (starEach [] X.env)).any (·.1) = false := by rfl)
    (hs3 : swapsWith (.Call (.Attribute (.Name h p6) "append" apos) [.Constant (.str w) jj p7] [] p8) none p9.line X.env = pure false := by rfl) :
    LSs G X (.Assign [.Name kt p1] (.Call (.Name fn p2) [.Name h p3] [] p4) p5 :: .Expr (.Call (.Attribute (.Name h p6) "append" apos) [.Constant (.str w) jj p7] [] p8) p9 :: rest) (sq (kmD i j F w) B) :=
  pss_weak (pss_cons (ps_set hN hj hlj (pe_call (fnOk_ex Fk) hr hg hm hk hb .nil pass0 (pa_cons (pe_var hi hvi hd hcd) pa_nil hst) hdb hst hpl) hs hf)
    (pss_cons (ps_expr (pe_bm PySem.F.plainAttrs_list PySem.F.slot_list_append PySem.F.type_list_append mt_append (pe_var hi hvi hd hcd) (pa_cons pe_str pa_nil hs2) hbase hfew hline hs2 hplain) hs3) hrest)) fun D s H q => by
    obtain ⟨g, S, d, fl, d', z, e, q⟩ := lift_sq q
    unfold kmD at e
    split at e
    · rename_i ys ei
      split at e
      · rename_i zs t e2
        split at e
        · rename_i hc
          cases e
          rw [Bool.and_eq_true, Bool.and_eq_true, Bool.and_eq_true] at hc
          obtain ⟨c1, c2, c3, c4⟩ := hc
          have c3 := of_decide_eq_true c3
          have c4 := of_decide_eq_true c4
          obtain ⟨y0, h1, p, rfl, ct, k3, k4, k5⟩ := z.sl i _ ei
          obtain ⟨vs, hp, rv⟩ := ct
          have hown : OwnAt d s i p := ⟨_, ei, rfl, h1⟩
          have z' : Zt (G.at7 p) ⟨H, S, H, fun _ => none, []⟩ S ([V.ref p].map some) H [.va (.fn 77)] := {
            sh := z.sh
            bh := .refl _
            s0 := fun b o w => .inl w
            s1 := .refl _
            dm := fun b w => w
            ln := rfl
            sl := fun k x w => by
              match k, w with
              | 0, w =>
                cases w
                exact ⟨_, rfl, .ref p, rfl, by unfold Rep; rfl⟩
              | k + 1, w => exact absurd w (by simp)
            ap := fun a b c _ ⟨x, w, o, _⟩ => by
              match a, w with
              | 0, w => cases w; cases o
              | a + 1, w => exact absurd w (by simp)
            ic := fun a b w => nomatch w
            tb := Tbs.nil }
          refine ⟨.ref p, h1, p, rfl, _, S, _, _, _, z', e2, fun v H' S' sm z2 r => ?_⟩
          obtain ⟨b, us, rfl, hbS, rus⟩ := inv_lst r
          have ext : Ext S H S' H' := ⟨sm, z2.bh, z2.sh, z2.s0⟩
          have z3 := z.ext ext
          have hp' : H' p = some (.lst vs) := z2.bh _ _ hp
          have sp' : S' p = none := by
            cases w : S' p with
            | none => rfl
            | some o =>
              rcases z2.s0 _ _ w with w2 | w2
              · have w2 : S p = some o := w2
                rw [k3] at w2; cases w2
              · have w2 : H p = none := w2
                rw [hp] at w2; cases w2
          have hij : (s.set j (some (V.ref b)))[i]? = some (some (.ref p)) := by
            rw [List.getElem?_set_ne (Ne.symm c3)]
            exact h1
          refine ⟨.ref p, hij, .inl ⟨rfl, _, SqL.of hp'⟩, p, vs, .str w, rfl, rfl, hp', by rw [← rv.length]; exact c4, ?_⟩
          -- the new state
          have el : own d i = some (.lst ys) := by unfold own; rw [ei]
          have z4 := z3.put (u := .lst (vs ++ [.str w])) (y' := .lst (ys ++ [.str w])) el h1 ⟨_, upd_same, (rv.mono sm).append (.cons rep_str .nil)⟩
          have ep : Zr.put d i (.lst (ys ++ [.str w])) = d.set i (.ow (.lst (ys ++ [.str w]))) := by unfold Zr.put; rw [ei]
          rw [ep] at z4
          have il : i < d.length := (List.getElem?_eq_some_iff.mp ei).1
          have es : s.set i (some (.ref p)) = s := by
            obtain ⟨hl, hg⟩ := List.getElem?_eq_some_iff.mp h1
            rw [← hg]
            exact List.set_getElem_self hl
          have z5 : Zt G g S' s (upd H' p (.lst (vs ++ [.str w]))) (d.set i .no) := by
            have := z4.set (i := i) (v := some (.ref p)) (x := .no) (by unfold notIo; rw [set_get il]) trivial (fun _ q => nomatch q) fun _ q => nomatch q
            rw [es, List.set_set] at this
            exact this
          have no : ∀ m, ¬ OwnAt (d.set i .no) s m p := fun m o => by
            obtain ⟨y, o1, o2, o3⟩ := o
            rcases getElem?_set_cases o1 with ⟨_, w1, _⟩ | ⟨w1, w2⟩
            · subst w1; cases o2
            · exact z.ap m i p w1 ⟨y, w2, o2, o3⟩ hown
          obtain ⟨z6, sm6⟩ := z5.keep (a := p) upd_same sp' k5 no
          have rX : Rep G (upd S' p (.lst (vs ++ [.str w]))) (.lst (ys ++ [.str w])) (.ref p) := by
            unfold Rep
            exact ⟨p, _, rfl, upd_same, (rv.mono (sm.trans sm6)).append (.cons rep_str .nil)⟩
          have z7 := z6.setVa (i := i) (v := .ref p) (by unfold notIo; rw [set_get il]) rX
          rw [es, List.set_set] at z7
          have rY : Rep G (upd S' p (.lst (vs ++ [.str w]))) (.lst (zs.map fun _ => Zr.D.lst (ys ++ [.str w]))) (.ref b) := by
            unfold Rep
            exact ⟨b, us, rfl, sm6 _ _ hbS, repl_f7 rX c1 rus⟩
          have nj : notIo (d.set i (.va (.lst (ys ++ [.str w])))) j = true := by
            unfold notIo
            rw [List.getElem?_set_ne c3]
            exact c2
          exact q _ _ _ (sm.trans sm6) (z7.setVa nj rY)
        · cases e
      · cases e
    · cases e
end
end Zr

/-! Zr: dicts of ints by ints. -/
namespace Zr
open PySem L2
def lkI : List (Int × Int) → Int → Option Int
  | [], _ => none
  | p :: r, k => if p.1 = k then some p.2 else lkI r k
def putI : List (Int × Int) → Int → Int → List (Int × Int)
  | [], k, v => [(k, v)]
  | p :: r, k, v => if p.1 = k then (k, v) :: r.map (fun q => if q.1 = k then (k, v) else q) else p :: putI r k v
theorem lkI_V (k : Int) : ∀ kv : List (Int × Int), valV (dV kv) (Sum.inl k) = (lkI kv k).map V.int
  | [] => rfl
  | p :: r => by
    show valV ((Sum.inl p.1, V.int p.2) :: dV r) (Sum.inl k) = Option.map V.int (if p.1 = k then some p.2 else lkI r k)
    by_cases h : p.1 = k
    · rw [if_pos h, valV_pos (by show (Sum.inl p.1 : Key) = _; rw [h])]; rfl
    · rw [if_neg h, valV_neg (fun q => h (Sum.inl.inj q)), lkI_V k r]
theorem dV_len (kv : List (Int × Int)) : (dV kv).length = kv.length := List.length_map _
theorem putI_V (k v : Int) : ∀ kv : List (Int × Int), putK (dV kv) (Sum.inl k) (V.int v) = dV (putI kv k v)
  | [] => rfl
  | p :: r => by
    have ih := putI_V k v r
    unfold putK at ih ⊢
    show (if ((Sum.inl p.1, V.int p.2) :: dV r).any _ = true then ((Sum.inl p.1, V.int p.2) :: dV r).map _ else ((Sum.inl p.1, V.int p.2) :: dV r) ++ _) = dV (if p.1 = k then _ else _)
    have mp : ∀ (l : List (Int × Int)), (dV l).map (fun kv => if kv.1 = (Sum.inl k : Key) then (kv.1, V.int v) else kv) = dV (l.map fun q => if q.1 = k then (k, v) else q) := fun l => by
      unfold dV
      rw [List.map_map, List.map_map]
      refine List.map_congr_left fun q _ => ?_
      show (if (Sum.inl q.1 : Key) = Sum.inl k then ((Sum.inl q.1 : Key), V.int v) else (Sum.inl q.1, V.int q.2)) = _
      by_cases h : q.1 = k
      · rw [if_pos (by rw [h])]
        show _ = (fun p : Int × Int => ((Sum.inl p.1 : Key), V.int p.2)) (if q.1 = k then (k, v) else q)
        rw [if_pos h, h]
      · rw [if_neg (fun w => h (Sum.inl.inj w))]
        show _ = (fun p : Int × Int => ((Sum.inl p.1 : Key), V.int p.2)) (if q.1 = k then (k, v) else q)
        rw [if_neg h]
    by_cases h : p.1 = k
    · rw [if_pos h, List.any_cons, List.map_cons, mp]
      have e : decide ((Sum.inl p.1 : Key) = Sum.inl k) = true := decide_eq_true (by rw [h])
      rw [e, Bool.true_or, if_pos rfl, if_pos (by rw [h]), h]
      rfl
    · rw [if_neg h, List.any_cons, List.map_cons]
      have e : decide ((Sum.inl p.1 : Key) = Sum.inl k) = false := decide_eq_false fun w => h (Sum.inl.inj w)
      rw [e, Bool.false_or, if_neg (fun w => h (Sum.inl.inj w))]
      show _ = (Sum.inl p.1, V.int p.2) :: dV (putI r k v)
      rw [← ih]
      split <;> rfl
section
variable {G : Cls} {X : Cx} {tg e a b c : Expr} {es elts : List Expr} {f h : DE} {r : DA} {pos p apos cpos tpos : Pos} {x : Str} {kk : Nat}
/-! ### {} and dict([..]) -/
def dc0 : DE := fun d => some (.dic [], d)
theorem lf_dic0 : LF G X (.Dict [] [] pos) dc0 := pe_weak pe_dnewK fun s H Q ⟨g, S, d, x, d', z, e, q⟩ p hp => by
  cases e
  obtain ⟨z2, n1, n2, n3, n4⟩ := z.fresh (o := .dK []) hp
  exact q p _ S (.refl _) z2 (show upd H p (.dK []) p = some (.dK (dV [])) from upd_same) n1 n2 n3 n4
/-- {k: v}, constants -/
def dc1 (i j : Int) : DE := fun d => some (.dic [(i, j)], d)
theorem lf_dic1 {i j : Int} {p1 p2 : Pos} {k1 k2 : Nat} : LF G X (.Dict [some (.Constant (.int i) k1 p1)] [.Constant (.int j) k2 p2] pos) (dc1 i j) :=
  pe_weak (pe_disp (trs := [(tC (.int i), tC (.int j))]) (pps_cons pe_int pe_int pps_nil) rfl rfl (by simp) (by simp)) fun s H Q ⟨g, S, d, x, d', z, e, q⟩ p hp => by
  cases e
  refine ⟨upd_same, [(Sum.inl i, V.int j)], rfl, by simp, ?_⟩
  rw [upd_upd]
  obtain ⟨z2, n1, n2, n3, n4⟩ := z.fresh (o := .dK (mergeK [] [(Sum.inl i, V.int j)])) hp
  exact q p _ S (.refl _) z2 (show upd H p _ p = some (.dK (dV [(i, j)])) from upd_same) n1 n2 n3 n4
/-! ### dicts of texts -/
def lkS : List (Str × Str) → Str → Option Str
  | [], _ => none
  | p :: r, k => if p.1 = k then some p.2 else lkS r k
theorem lkS_V (k : Str) : ∀ kv : List (Str × Str), valV (dS kv) (Sum.inr k) = (lkS kv k).map V.str
  | [] => rfl
  | p :: r => by
    show valV ((Sum.inr p.1, V.str p.2) :: dS r) (Sum.inr k) = Option.map V.str (if p.1 = k then some p.2 else lkS r k)
    by_cases h : p.1 = k
    · rw [if_pos h, valV_pos (by show (Sum.inr p.1 : Key) = _; rw [h])]; rfl
    · rw [if_neg h, valV_neg (fun q => h (Sum.inr.inj q)), lkS_V k r]
def dcS (kv : List (Str × Str)) : DE := fun d => some (.dis kv, d)
theorem tP_S {σ : St} : ∀ (kv : List (Str × Str)) {H : Hp} {Q : List (V × V) → Hp → Prop}, Q ((dS kv).map fun q => (kV q.1, q.2)) H → tPairs (kv.map fun p => (tC (.str p.1), tC (.str p.2))) σ H Q
  | [], _, _, h => h
  | p :: r, H, Q, h => tP_S r (Q := fun ps H3 => Q ((V.str p.1, V.str p.2) :: ps) H3) h
theorem lf_dis {keys : List (Option Expr)} {values : List Expr} (kv : List (Str × Str)) (h : PPs X pos keys values (kv.map fun p => (tC (.str p.1), tC (.str p.2)))) (hall : keys.all (·.isSome) = true) (hl : keys.length = values.length) (h0 : keys ≠ []) (h15 : keys.length ≤ 15) (hv : kv.length ≤ 15) (hm : mergeK [] (dS kv) = dS kv) : LF G X (.Dict keys values pos) (dcS kv) :=
  pe_weak (pe_disp h hall hl h0 h15) fun s H Q ⟨g, S, d, x, d', z, e, q⟩ p hp => by
  cases e
  refine tP_S kv ⟨upd_same, dS kv, rfl, by show (kv.map _).length ≤ 15; rw [List.length_map]; exact hv, ?_⟩
  rw [upd_upd, hm]
  obtain ⟨z2, n1, n2, n3, n4⟩ := z.fresh (o := .dK (dS kv)) hp
  exact q p _ S (.refl _) z2 (show upd H p _ p = some (.dK (dS kv)) from upd_same) n1 n2 n3 n4
/-- text not in dict -/
def dniD : D → D → Option D
  | .str k, .dis kv => some (.bl (!(lkS kv k).isSome))
  | _, _ => none
def rDni : R2 := fun v w H Q => ∃ a o, w = .ref a ∧ DGet H a v o ∧ Q (.bl (!o.isSome)) H
theorem op_dni (hu : X.A.units + 64 < cLine) : OpR X (compareOp .NotIn) rDni := fun pins s σ H x y v u Q I rx ry q => by
  obtain ⟨a, o, rfl, g, q⟩ := q
  obtain rfl : u = Value.ref a := ry
  exact d_notIn (by omega) I g rx fun s' I' => ⟨.bl (!o.isSome), H, I', rfl, q⟩
theorem r_dni : R2D G dniD rDni := fun S H x y z v w Q sm rx ry e q => by
  unfold dniD at e
  split at e
  · rename_i k kv
    cases e
    obtain ⟨a, o, rfl, hS⟩ := inv_dis ry
    rw [inv_str rx]
    refine ⟨a, (lkS kv k).map V.str, rfl, .inl ⟨dS kv, Sum.inr k, .inr ⟨o, sm _ _ hS⟩, rfl, (lkS_V k kv).symm⟩, ?_⟩
    rw [Option.isSome_map]
    exact q _ S H (.refl sm) rep_bl
  · cases e
/-- x.get(k, y), texts -/
def dgs (f h m : DE) : DE := fun d => match f d with
  | some (.dis kv, d1) => match h d1 with
    | some (.str k, d2) => match m d2 with
      | some (.str y, d3) => some (.str ((lkS kv k).getD y), d3)
      | _ => none
    | _ => none
  | _ => none
theorem le_dgs {m : DE} (hu : X.A.units + 64 < cLine) (ha : LE G X a f) (hb : LE G X b h) (hc : LE G X c m) (M : M2 X a "get" apos b c cpos) : LE G X (.Call (.Attribute a "get" apos) [b, c] [] cpos) (dgs f h m) :=
  pe_weak (pe_dget2 (by omega) ha hb hc M) fun s H Q ⟨g, S, d, x, d', z, e, q⟩ => by
  unfold dgs at e
  split at e
  · rename_i kv d1 e1
    split at e
    · rename_i k d2 e2
      split at e
      · rename_i y d3 e3
        cases e
        refine ⟨g, S, d, _, d1, z, e1, fun v H1 S1 s1 z1 r1 => ?_⟩
        obtain ⟨a, o, rfl, hS⟩ := inv_dis r1
        refine ⟨a, rfl, .inl ⟨dS kv, .inr ⟨o, z1.sh _ _ hS⟩⟩, g, S1, d1, _, d2, z1, e2, fun w H2 S2 s2 z2 r2 => ⟨g, S2, d2, _, d', z2, e3, fun u H3 S3 s3 z3 r3 => ?_⟩⟩
        rw [inv_str r2, inv_str r3]
        refine ⟨(lkS kv k).map V.str, .inl ⟨dS kv, Sum.inr k, .inr ⟨o, z3.sh _ _ (s3 _ _ (s2 _ _ hS))⟩, rfl, (lkS_V k kv).symm⟩, ?_⟩
        have e4 : ((lkS kv k).map V.str).getD (.str y) = .str ((lkS kv k).getD y) := by cases lkS kv k <;> rfl
        rw [e4]
        exact q _ H3 S3 (s1.trans (s2.trans s3)) z3 rep_str
      · cases e
    · cases e
  · cases e
/-! ### reading -/
def dgetD : D → D → Option D
  | .dic kv, .int k => (lkI kv k).map .int
  | .dis kv, .str k => (lkS kv k).map .str
  | _, _ => none
theorem le_dget (hu : X.A.units + 64 < cLine) (ha : LE G X a f) (hb : LE G X b h) (hs : NoSl b) : LE G X (.Subscript a b pos) (b2 dgetD f h) :=
  pe_weak (pe_dget (by omega) ha hb hs) fun s H Q ⟨g, S, d, x, d', z, e, q⟩ => by
  obtain ⟨x1, d1, y, e1, e2, e3⟩ := b2_inv e
  refine ⟨g, S, d, x1, d1, z, e1, fun v H1 S1 s1 z1 r1 => ⟨g, S1, d1, y, d', z1, e2, fun w H2 S2 s2 z2 r2 => ?_⟩⟩
  unfold dgetD at e3
  split at e3
  · rename_i kv k
    obtain ⟨i, el, rfl⟩ := Option.map_eq_some_iff.mp e3
    obtain ⟨a, o, rfl, hS⟩ := inv_dic (r1.mono s2)
    have hH := z2.sh _ _ hS
    rw [inv_int r2]
    refine ⟨a, .int i, rfl, .inl ⟨dV kv, Sum.inl k, .inr ⟨o, hH⟩, rfl, ?_⟩, q _ H2 S2 (s1.trans s2) z2 rep_int⟩
    rw [lkI_V, el]; rfl
  · rename_i kv k
    obtain ⟨i, el, rfl⟩ := Option.map_eq_some_iff.mp e3
    obtain ⟨a, o, rfl, hS⟩ := inv_dis (r1.mono s2)
    have hH := z2.sh _ _ hS
    rw [inv_str r2]
    refine ⟨a, .str i, rfl, .inl ⟨dS kv, Sum.inr k, .inr ⟨o, hH⟩, rfl, ?_⟩, q _ H2 S2 (s1.trans s2) z2 rep_str⟩
    rw [lkS_V, el]; rfl
  · cases e3
/-- x.get(k, y) -/
def dg2 (f h m : DE) : DE := fun d => match f d with
  | some (.dic kv, d1) => match h d1 with
    | some (.int k, d2) => match m d2 with
      | some (.int y, d3) => some (.int ((lkI kv k).getD y), d3)
      | _ => none
    | _ => none
  | _ => none
theorem le_dg2 {m : DE} (hu : X.A.units + 64 < cLine) (ha : LE G X a f) (hb : LE G X b h) (hc : LE G X c m) (M : M2 X a "get" apos b c cpos) : LE G X (.Call (.Attribute a "get" apos) [b, c] [] cpos) (dg2 f h m) :=
  pe_weak (pe_dget2 (by omega) ha hb hc M) fun s H Q ⟨g, S, d, x, d', z, e, q⟩ => by
  unfold dg2 at e
  split at e
  · rename_i kv d1 e1
    split at e
    · rename_i k d2 e2
      split at e
      · rename_i y d3 e3
        cases e
        refine ⟨g, S, d, _, d1, z, e1, fun v H1 S1 s1 z1 r1 => ?_⟩
        obtain ⟨a, o, rfl, hS⟩ := inv_dic r1
        refine ⟨a, rfl, .inl ⟨dV kv, .inr ⟨o, z1.sh _ _ hS⟩⟩, g, S1, d1, _, d2, z1, e2, fun w H2 S2 s2 z2 r2 => ⟨g, S2, d2, _, d', z2, e3, fun u H3 S3 s3 z3 r3 => ?_⟩⟩
        rw [inv_int r2, inv_int r3]
        refine ⟨(lkI kv k).map V.int, .inl ⟨dV kv, Sum.inl k, .inr ⟨o, z3.sh _ _ (s3 _ _ (s2 _ _ hS))⟩, rfl, (lkI_V k kv).symm⟩, ?_⟩
        have e4 : ((lkI kv k).map V.int).getD (.int y) = .int ((lkI kv k).getD y) := by cases lkI kv k <;> rfl
        rw [e4]
        exact q _ H3 S3 (s1.trans (s2.trans s3)) z3 rep_int
      · cases e
    · cases e
  · cases e
/-! ### the dict in a slot -/
def asD : D → Option (List (Int × Int))
  | .dic kv => some kv
  | _ => none
theorem cont_dic {S H : Hp} {a : Addr} {y : D} {kv : List (Int × Int)} (e : asD y = some kv) (c : Cont G S H a y) : H a = some (.dK (dV kv)) := by
  cases y with
  | dic _ => cases e; exact c
  | dis _ => cases e
  | dil _ _ => cases e
  | ex _ => cases e
  | lst _ => cases e
  | non => cases e
  | bl _ => cases e
  | int _ => cases e
  | str _ => cases e
  | tup _ => cases e
  | ob _ _ => cases e
  | fn _ => cases e
  | scr _ => cases e
def ownD (d : Ev) (i : Nat) : Option (List (Int × Int)) := (Zr.own d i).bind asD
theorem ownD_inv {d : Ev} {i : Nat} {kv : List (Int × Int)} (e : ownD d i = some kv) : ∃ y, Zr.own d i = some y ∧ asD y = some kv := Option.bind_eq_some_iff.mp e
/-- x.get(k, y), x the dict in slot i -/
def odg (i : Nat) (h m : DE) : DE := fun d => match ownD d i with
  | some _ => match h d with
    | some (.int k, d2) => match m d2 with
      | some (.int y, d3) => match ownD d3 i with
        | some kv => some (.int ((lkI kv k).getD y), d3)
        | none => none
      | _ => none
    | _ => none
  | none => none
theorem le_odg (i : Nat) {y : Str} {m : DE} (hu : X.A.units + 64 < cLine) (hb : LE G X b h) (hc : LE G X c m) (M : M2 X (.Name y p) "get" apos b c cpos) (hN : X.N[i]? = some y := by rfl) (hv : Vis X.env.scope y := by first | exact Or.inl rfl | exact Or.inr (Or.inl rfl) | exact Or.inr (Or.inr rfl)) (hd : (y == ("__debug__" : Str)) = false := by decide) (hcd : (y == ("__classdict__" : Str)) = false := by decide) :
    LE G X (.Call (.Attribute (.Name y p) "get" apos) [b, c] [] cpos) (odg i h m) :=
  pe_weak (pe_dget2 (by omega) (pe_var hN hv hd hcd) hb hc M) fun s H Q ⟨g, S, d, x, d', z, e, q⟩ => by
  unfold odg at e
  split at e
  · rename_i kv0 e0
    obtain ⟨y0, e01, e02⟩ := ownD_inv e0
    obtain ⟨a, h1, h2, _⟩ := z.at_own e01
    split at e
    · rename_i k d2 e2
      split at e
      · rename_i y d3 e3
        split at e
        · rename_i kv e4
          cases e
          refine ⟨_, h1, a, rfl, .inl ⟨dV kv0, .inl (cont_dic e02 h2)⟩, g, S, d, _, d2, z, e2, fun w H2 S2 s2 z2 r2 => ⟨g, S2, d2, _, d', z2, e3, fun u H3 S3 s3 z3 r3 => ?_⟩⟩
          obtain ⟨y1, e11, e12⟩ := ownD_inv e4
          obtain ⟨b, k1, k2, _⟩ := z3.at_own e11
          rw [h1] at k1; cases k1
          rw [inv_int r2, inv_int r3]
          refine ⟨(lkI kv k).map V.int, .inl ⟨dV kv, Sum.inl k, .inl (cont_dic e12 k2), rfl, (lkI_V k kv).symm⟩, ?_⟩
          have e5 : ((lkI kv k).map V.int).getD (.int y) = .int ((lkI kv k).getD y) := by cases lkI kv k <;> rfl
          rw [e5]
          exact q _ H3 S3 (s2.trans s3) z3 rep_int
        · cases e
      · cases e
    · cases e
  · cases e
/-- x[k] = v, x the dict in slot i -/
def rSetDi : V → V → V → Hp → (Hp → Prop) → Prop := fun o i v H Q => ∃ p kv k y, o = .ref p ∧ i = .int k ∧ v = .int y ∧ H p = some (.dK (dV kv)) ∧ kv.length < sizeLine ∧ Q (upd H p (.dK (dV (putI kv k y))))
theorem set_dicI (hu : X.A.units + 64 < cLine) : PSet X rSetDi := by
  intro pins s σ H o i v ov iv u Q I ro ri rv h
  obtain ⟨p, kv, k, y, rfl, rfl, rfl, hp, hl, q⟩ := h
  cases ro
  refine d_setItem (by omega) I (DPut.k (k := Sum.inl k) hp (by rw [dV_len]; exact hl)) ri rv fun s' I' => ⟨_, I', ?_⟩
  rw [putI_V]
  exact q
def gdt (i : Nat) (f : DE) : DG := fun w d => match ownD d i with
  | some _ => match f d with
    | some (.int k, d1) => match ownD d1 i with
      | some kv => match w with
        | .int v => if kv.length < sizeLine then some (Zr.put d1 i (.dic (putI kv k v))) else none
        | _ => none
      | none => none
    | _ => none
  | none => none
theorem lg_setD (i : Nat) {y : Str} (hu : X.A.units + 64 < cLine) (he : LE G X e f) (hN : X.N[i]? = some y := by rfl) (hv : Vis X.env.scope y := by first | exact Or.inl rfl | exact Or.inr (Or.inl rfl) | exact Or.inr (Or.inr rfl)) (hd : (y == ("__debug__" : Str)) = false := by decide) (hcd : (y == ("__classdict__" : Str)) = false := by decide)
    (ha : ∀ v, assign (.Subscript (.Name y p) e pos) X.env v = (do
      let ov ← holding [v] (eval (.Name y p) X.env)
      let iv ← holding [v, ov] (eval e X.env)
      standAt pos
      holding [v, ov, iv] (setItem ov iv v)
      release [v, ov, iv] []) := by intro _; rfl) : LG G X (.Subscript (.Name y p) e pos) (gdt i f) [] := pg_weak (pg_sub (pe_var hN hv hd hcd) he (set_dicI hu) ha) fun v s H Q ⟨g, S, d, w, d', z, r, e, q⟩ => by
  unfold gdt at e
  split at e
  · rename_i kv0 e0
    obtain ⟨y0, e01, _⟩ := ownD_inv e0
    obtain ⟨a, h1, _⟩ := z.at_own e01
    split at e
    · rename_i k d1 e1
      split at e
      · rename_i kv e2
        split at e
        · rename_i w'
          split at e
          · rename_i hsz
            cases e
            obtain ⟨y1, e11, e12⟩ := ownD_inv e2
            refine ⟨_, h1, g, S, d, _, d1, z, e1, fun u H' S' sm z' ru => ?_⟩
            obtain ⟨b, k1, k2, _⟩ := z'.at_own e11
            rw [h1] at k1; cases k1
            refine ⟨a, kv, k, w', rfl, inv_int ru, inv_int r, cont_dic e12 k2, hsz, ?_⟩
            exact q s _ S' sm .refl (z'.put e11 h1 (show upd H' a _ a = some (.dK (dV (putI kv k w'))) from upd_same))
          · cases e
        · cases e
      · cases e
    · cases e
  · cases e
/-! ### what loops walk -/
def keysI (kv : List (Int × Int)) : List D := kv.map fun p => .int p.1
def itemsI (kv : List (Int × Int)) : List D := kv.map fun p => .tup [.int p.1, .int p.2]
def dk (f : DE) : DA := fun d => match f d with
  | some (.dic kv, d1) => some (keysI kv, d1)
  | _ => none
def di (f : DE) : DA := fun d => match f d with
  | some (.dic kv, d1) => some (itemsI kv, d1)
  | _ => none
theorem dV_get {kv : List (Int × Int)} {i : Nat} {q : Key × V} (e : (dV kv)[i]? = some q) : ∃ p, kv[i]? = some p ∧ q = (Sum.inl p.1, V.int p.2) := by
  unfold dV at e
  rw [List.getElem?_map] at e
  obtain ⟨p, e1, e2⟩ := Option.map_eq_some_iff.mp e
  exact ⟨p, e1, e2.symm⟩
theorem itk_ok {S : Hp} {a : Addr} {o : Obj} {kv : List (Int × Int)} (h : S a = some (.frz o (.dK (dV kv)))) : ItD G (Itk a o (dV kv)) S (keysI kv) where
  go := fun i S1 H1 s1 s2 hi => ⟨(s1.trans s2) _ _ h, by rw [dV_len]; simpa [keysI] using hi⟩
  stop := fun S1 H1 s1 s2 => ⟨(s1.trans s2) _ _ h, by rw [dV_len]; simp [keysI]⟩
  yld := fun i S1 H1 v H' x s1 s2 hx y => by
    obtain ⟨rfl, k, w, e1, rfl⟩ := y
    obtain ⟨p, e2, e3⟩ := dV_get e1
    cases e3
    unfold keysI at hx
    rw [List.getElem?_map, e2] at hx
    cases hx
    exact ⟨S1, .refl s2, rep_int⟩
theorem iti_ok {S : Hp} {a : Addr} {o : Obj} {kv : List (Int × Int)} (h : S a = some (.frz o (.dK (dV kv)))) : ItD G (Iti a o (dV kv)) S (itemsI kv) where
  go := fun i S1 H1 s1 s2 hi => ⟨(s1.trans s2) _ _ h, by rw [dV_len]; simpa [itemsI] using hi⟩
  stop := fun S1 H1 s1 s2 => ⟨(s1.trans s2) _ _ h, by rw [dV_len]; simp [itemsI]⟩
  yld := fun i S1 H1 v H' x s1 s2 hx y => by
    obtain ⟨T, k, w, e1, rfl, hT, rfl⟩ := y
    obtain ⟨p, e2, e3⟩ := dV_get e1
    cases e3
    unfold itemsI at hx
    rw [List.getElem?_map, e2] at hx
    cases hx
    exact rep_pair s2 hT rep_int rep_int
theorem li_dk (he : LE G X e f) : LI G X tg e (dk f) := pi_weak (pi_keys he) fun s H R ⟨g, S, d, xs, d', z, e, q⟩ => by
  unfold dk at e
  split at e
  · rename_i kv d1 e1
    cases e
    refine ⟨g, S, d, _, d', z, e1, fun v H' S' sm z' r => ?_⟩
    obtain ⟨a, o, rfl, hS⟩ := inv_dic r
    exact ⟨a, o, rfl, .inl ⟨dV kv, z'.sh _ _ hS, q _ H' S' sm z' (itk_ok hS)⟩⟩
  · cases e
theorem li_di (he : LE G X e f) (hbase : attributeBase e "items" X.env (eval e X.env) = eval e X.env := by rfl) (hline : (apos.endLine == cpos.line) = true := by rfl) :
    LI G X (.Tuple elts kk tpos) (.Call (.Attribute e "items" apos) [] [] cpos) (di f) := pi_weak (pi_items he hbase hline) fun s H R ⟨g, S, d, xs, d', z, e, q⟩ => by
  unfold di at e
  split at e
  · rename_i kv d1 e1
    cases e
    refine ⟨g, S, d, _, d', z, e1, fun v H' S' sm z' r => ?_⟩
    obtain ⟨a, o, rfl, hS⟩ := inv_dic r
    exact ⟨a, o, dV kv, rfl, z'.sh _ _ hS, q _ H' S' sm z' (iti_ok hS)⟩
  · cases e
/-! ### sorted(ints) -/
def asIs : List D → Option (List Int)
  | [] => some []
  | .int a :: r => match asIs r with
    | some t => some (a :: t)
    | none => none
  | _ => none
theorem asIs_rep {S : Hp} : ∀ {ds : List D} {ns : List Int} {vs : List V}, asIs ds = some ns → RepL G S ds vs → vs = ns.map V.int ∧ ds = ns.map D.int
  | [], _, _, e, r => by cases e; unfold RepL at r; exact ⟨r, rfl⟩
  | .int a :: ds, _, _, e, r => by
    unfold asIs at e
    split at e
    · rename_i t e1
      cases e
      unfold RepL at r
      obtain ⟨v, vr, rfl, r1, r2⟩ := r
      obtain ⟨q1, q2⟩ := asIs_rep e1 r2
      rw [inv_int r1, q1, q2]; exact ⟨rfl, rfl⟩
    · cases e
theorem asIs_ints : ∀ ns : List Int, asIs (ns.map D.int) = some ns
  | [] => rfl
  | n :: ns => by
    show (match asIs (ns.map D.int) with | some t => some (n :: t) | none => none) = _
    rw [asIs_ints ns]
def insI (a : Int) : List Int → List Int
  | [] => [a]
  | b :: r => if a ≤ b then a :: b :: r else b :: insI a r
def srtI : List Int → List Int
  | [] => []
  | a :: r => insI a (srtI r)
theorem insI_perm (a : Int) : ∀ l : List Int, (insI a l).Perm (a :: l)
  | [] => .refl _
  | b :: r => by
    unfold insI
    split
    · exact .refl _
    · exact ((insI_perm a r).cons b).trans (.swap a b r)
theorem srtI_perm : ∀ l : List Int, (srtI l).Perm l
  | [] => .refl _
  | a :: r => (insI_perm a (srtI r)).trans ((srtI_perm r).cons a)
theorem insI_sorted (a : Int) : ∀ l : List Int, l.Pairwise (· ≤ ·) → (insI a l).Pairwise (· ≤ ·)
  | [], _ => List.pairwise_singleton _ _
  | b :: r, h => by
    rw [List.pairwise_cons] at h
    unfold insI
    split
    · rename_i q
      refine List.pairwise_cons.mpr ⟨fun x hx => ?_, List.pairwise_cons.mpr h⟩
      rcases List.mem_cons.mp hx with rfl | hx
      · exact q
      · have := h.1 x hx; omega
    · rename_i q
      refine List.pairwise_cons.mpr ⟨fun x hx => ?_, insI_sorted a r h.2⟩
      rcases List.mem_cons.mp ((insI_perm a r).mem_iff.mp hx) with rfl | hx
      · omega
      · exact h.1 x hx
theorem srtI_sorted : ∀ l : List Int, (srtI l).Pairwise (· ≤ ·)
  | [] => .nil
  | a :: r => insI_sorted a _ (srtI_sorted r)
theorem sorted_uniq : ∀ {l m : List Int}, l.Perm m → l.Pairwise (· ≤ ·) → m.Pairwise (· ≤ ·) → l = m
  | [], m, p, _, _ => (List.nil_perm.mp p).symm
  | a :: l, [], p, _, _ => absurd p.length_eq (by simp)
  | a :: l, b :: m, p, h1, h2 => by
    rw [List.pairwise_cons] at h1 h2
    have e : a = b := by
      have m1 : a ∈ b :: m := p.mem_iff.mp List.mem_cons_self
      have m2 : b ∈ a :: l := p.mem_iff.mpr List.mem_cons_self
      rcases List.mem_cons.mp m1 with e | m1
      · exact e
      · rcases List.mem_cons.mp m2 with e | m2
        · exact e.symm
        · have := h1.1 _ m2
          have := h2.1 _ m1
          omega
    subst e
    rw [sorted_uniq (List.Perm.cons_inv p) h1.2 h2.2]
def nSort : List D → Option D
  | [.lst ds] => match asIs ds with
    | some ns => some (.lst ((srtI ns).map .int))
    | none => none
  | _ => none
theorem r_sort (hK : G.K = X.K) : RnD G nSort (rSortedI X.K) := fun S H xs z vs Q sm r e q => by
  unfold nSort at e
  split at e
  · rename_i ds
    split at e
    · rename_i ns e1
      cases e
      unfold RepL at r
      obtain ⟨v, vr, rfl, r1, r2⟩ := r
      unfold RepL at r2
      subst r2
      obtain ⟨a, us, rfl, h1, h2⟩ := inv_lst r1
      obtain ⟨rfl, _⟩ := asIs_rep e1 h2
      refine ⟨a, ns, rfl, by rw [← hK]; exact SqL.of (sm _ _ h1), fun ns' p hp hs hn => ?_⟩
      obtain rfl : ns' = srtI ns := sorted_uniq (hp.trans (srtI_perm ns).symm) hs (srtI_sorted ns)
      have ex := Ext.alloc (o := .lst ((srtI ns).map V.int)) sm hn
      exact q _ _ _ ex (rep_lst_new upd_same RepL.ints)
    · cases e
  · cases e
/-! ### dict([(k, v), ..]) -/
def asPs : List D → Option (List (Int × Int))
  | [] => some []
  | .tup [.int a, .int b] :: r => match asPs r with
    | some t => some ((a, b) :: t)
    | none => none
  | _ => none
theorem asPs_rep {S : Hp} : ∀ {ds : List D} {kv : List (Int × Int)} {vs : List V}, asPs ds = some kv → RepL G S ds vs → ∃ ps : List Addr, vs = ps.map V.ref ∧ Paired (fun (p : Addr) (q : Key × V) => SqT G.K S p [kV q.1, q.2]) ps (dV kv)
  | [], _, _, e, r => by cases e; unfold RepL at r; exact ⟨[], r, .nil⟩
  | d :: ds, _, _, e, r => by
    unfold asPs at e
    split at e
    · rename_i h; cases h
    · rename_i a b r' h
      cases h
      split at e
      · rename_i t e1
        cases e
        unfold RepL at r
        obtain ⟨v, vr, rfl, r1, r2⟩ := r
        obtain ⟨ps, q1, q2⟩ := asPs_rep e1 r2
        obtain ⟨p, us, rfl, h1, h2⟩ := inv_tup r1
        unfold RepL at h2
        obtain ⟨u1, ur, rfl, g1, h2⟩ := h2
        unfold RepL at h2
        obtain ⟨u2, ur, rfl, g2, h2⟩ := h2
        unfold RepL at h2
        subst h2
        rw [inv_int g1, inv_int g2] at h1
        exact ⟨p :: ps, by rw [q1]; rfl, .cons h1 q2⟩
      · cases e
    · cases e
def merI (kv more : List (Int × Int)) : List (Int × Int) := more.foldl (fun acc p => putI acc p.1 p.2) kv
theorem merI_V : ∀ (more kv : List (Int × Int)), mergeK (dV kv) (dV more) = dV (merI kv more)
  | [], _ => rfl
  | p :: r, kv => by
    show mergeK (putK (dV kv) (Sum.inl p.1) (V.int p.2)) (dV r) = dV (merI (putI kv p.1 p.2) r)
    rw [putI_V, merI_V r]
def nDict : List D → Option D
  | [.lst ds] => match asPs ds with
    | some kv => some (.dic (merI [] kv))
    | none => none
  | _ => none
theorem lf_dict {r : DA} (hc : X.calm = true) (hg : Gl X "dict") (hm : X.mg "dict" = none) (hv : bootBuiltins "dict" = some (.type "dict")) (ha : LA G X (e :: es) r) (hK : G.K = X.K)
    (hn : ("dict" : Str) ≠ "__name__" := by decide) (hdb : (("dict" : Str) == ("__debug__" : Str)) = false := by decide) (he : starEach (e :: es) X.env = (false, eval e X.env) :: starEach es X.env := by rfl) (hpl : (backTo pos (starEach es X.env)).any (·.1) = false := by rfl) :
    LF G X (.Call (.Name "dict" p) (e :: es) [] pos) (cn nDict r) := pe_weak (pe_callTy (call_dictP hc) hg hm hv ha hn hdb he hpl) fun s H Q ⟨g, S, d, y, d', z, e, q⟩ => by
  obtain ⟨xs, e1, e2⟩ := cn_inv e
  refine ⟨g, S, d, xs, d', z, e1, fun vs H' S' sm z' r => ?_⟩
  unfold nDict at e2
  split at e2
  · rename_i ds
    split at e2
    · rename_i kv e3
      cases e2
      unfold RepL at r
      obtain ⟨v, vr, rfl, r1, r2⟩ := r
      unfold RepL at r2
      subst r2
      obtain ⟨a, us, rfl, h1, h2⟩ := inv_lst r1
      obtain ⟨ps, rfl, hp⟩ := asPs_rep e3 h2
      refine ⟨a, ps, dV kv, rfl, SqL.of (z'.sh _ _ h1), ?_, fun l hl => ?_⟩
      · rw [← hK]
        clear h1 h2 r1 e1 e3
        generalize dV kv = kvs at hp
        induction hp with
        | nil => exact .nil
        | cons h _ ih => exact .cons (same_seqT z'.sh h) ih
      · have := merI_V kv []
        rw [show dV [] = [] from rfl] at this
        rw [this]
        obtain ⟨z3, n1, n2, n3, n4⟩ := z'.fresh (o := .dK (dV (merI [] kv))) hl
        exact q l _ S' sm z3 (show upd H' l _ l = some (.dK (dV (merI [] kv))) from upd_same) n1 n2 n3 n4
    · cases e2
  · cases e2
end
/-! ### a test: a if t else b -/
def fit (t f h : DT) : DT := fun d => match t d with
  | some (true, d1) => f d1
  | some (false, d1) => h d1
  | none => none
theorem pt_ifT {X : Cx} {c a b : Expr} {pos : Pos} {tc ta tb : TT} (hc : PT X c tc) (ha : PT X a ta) (hb : PT X b tb) : PT X (.IfExp c a b pos) (fun σ H Q => tc σ H fun z H1 => if z = true then ta σ H1 Q else tb σ H1 Q) := by
  refine ⟨fun pins s σ H Q I h => ?_⟩
  rw [show isTrue (.IfExp c a b pos) X.env (eval (.IfExp c a b pos) X.env) = (do
    if ← isTrue c X.env (eval c X.env) then isTrue a X.env (eval a X.env) else isTrue b X.env (eval b X.env)) from rfl]
  refine wpAny_bind (thn (hc.run pins s σ H _ I h) fun d s1 ⟨H1, I1, q1⟩ => ?_)
  cases d with
  | true => exact ha.run pins s1 σ H1 Q I1 q1
  | false => exact hb.run pins s1 σ H1 Q I1 q1
theorem lt_if {G : Cls} {X : Cx} {c a b : Expr} {pos : Pos} {t f h : DT} (hc : LT G X c t) (ha : LT G X a f) (hb : LT G X b h) : LT G X (.IfExp c a b pos) (fit t f h) := pt_weak (pt_ifT hc ha hb) fun s H Q ⟨g, S, d, x, d', z, e, q⟩ => by
  unfold fit at e
  split at e
  · rename_i d1 e1
    refine ⟨g, S, d, _, d1, z, e1, fun H' S' sm z' => ?_⟩
    exact ⟨g, S', d1, x, d', z', e, fun H2 S2 sm2 z2 => q H2 S2 (sm.trans sm2) z2⟩
  · rename_i d1 e1
    refine ⟨g, S, d, _, d1, z, e1, fun H' S' sm z' => ?_⟩
    exact ⟨g, S', d1, x, d', z', e, fun H2 S2 sm2 z2 => q H2 S2 (sm.trans sm2) z2⟩
  · cases e
end Zr

/-! Zr: rows. -/
namespace Zr
open PySem L2
abbrev rowD (M : Mx) : D := .ob 1 [.tup (M.c.map D.int), .int M.s, .int M.p]
/-- the count of a cell -/
def fn (M : Mx) (x : Int) : Int := gz M.c (x - M.s)
def RowOf (xs : List Int) (f p : Int) (M : Mx) : Prop := (xs = List.replicate xs.length 0 ∧ M = ⟨[], 1, 0⟩) ∨ NormOf xs p f M
def Mx.ROk (M : Mx) : Prop := M = ⟨[], 1, 0⟩ ∨ M.Can
theorem RowOf.ok {xs : List Int} {f p : Int} {M : Mx} (h : RowOf xs f p M) : M.ROk := h.elim (fun h => .inl h.2) fun h => .inr h.1
theorem Mx.ROk.pos {M : Mx} (h : M.ROk) : 0 < M.p := by
  rcases h with rfl | h
  · decide
  · exact h.pos
theorem gz_pad {cs : List Int} {k l : Nat} {y : Int} : gz (List.replicate k 0 ++ (cs ++ List.replicate l 0)) y = gz cs (y - k) := by
  by_cases h : y < k
  · rw [gz_app1 (by simpa using h), gz_rep, gz_neg (by omega)]
  · rw [gz_app (by simpa using h), List.length_replicate]
    by_cases h2 : y - k < cs.length
    · rw [gz_app1 h2]
    · rw [gz_app (by omega), gz_rep, gz_big (by omega)]
theorem RowOf.val {xs : List Int} {f p : Int} {M : Mx} (h : RowOf xs f p M) (x : Int) : gz xs (x - f) * M.p = fn M x * p := by
  unfold fn
  rcases h with ⟨h1, rfl⟩ | ⟨_, g, k, l, g1, e1, e2, e3⟩
  · rw [h1, gz_rep, gz_nil]; omega
  · rw [e1, gz_pad, gz_map, e2, e3, show x - f - k = x - (f + k) by omega]
    generalize gz M.c (x - (f + k)) = z
    grind
theorem RowOf.bd {xs : List Int} {f p : Int} {M : Mx} {l m q : Nat} (h : RowOf xs f p M) (h1 : xs.length ≤ l) (h2 : ∀ x ∈ xs, bt m x) (h3 : bt q p) (hq : 1 ≤ q) : M.Bd l m q := by
  rcases h with ⟨_, rfl⟩ | h
  · exact ⟨by simp, fun x hx => (nomatch hx), by
      show bt q 1
      unfold bt
      have := Nat.pow_le_pow_right (n := 2) (by decide) hq
      omega⟩
  · exact h.bd h1 h2 h3
theorem cb_ev {b : List Int} : ∀ {a : List Int} {k : Int}, cb a b k = ev a 0 (fun y => gz b (-y)) (-k)
  | [], k => rfl
  | x :: a, k => by
    rw [ev_cons, ev_start (k := 1)]
    show x * gz b k + cb a b (k - 1) = x * gz b (-(-k + 0)) + _
    rw [cb_ev, show -(k - 1) = -k + 1 by omega, show -(-k + 0) = k by omega]
theorem cb_rev {c b : List Int} {k : Int} : cb c.reverse b (k + c.length - 1) = ev c 0 (gz b) k := by
  have h := @ev_turn (fun y => gz b (-y)) 0 c (1 - c.length) (k + c.length - 1)
  rw [show (1 : Int) - (1 - c.length) - c.length = 0 by omega, show (0 : Int) - (k + c.length - 1) = -(k + c.length - 1) by omega] at h
  rw [cb_ev, ← h]
  have e : (fun y => gz b (-(0 - y))) = gz b := funext fun y => by rw [show -(0 - y) = y by omega]
  show ev c (1 - c.length) (fun y => gz b (-(0 - y))) (k + c.length - 1) = _
  rw [e, show (1 : Int) - c.length = 0 + (1 - c.length) by omega, ev_start, show k + c.length - 1 + (1 - (c.length : Int)) = k by omega]
/-- a row stepped -/
theorem row_step {M R : Mx} {x : Int} : cb M.c.reverse R.c (x - (R.s - M.s - M.c.length + 1)) = ev M.c M.s (fn R) x := by
  rw [show x - (R.s - M.s - M.c.length + 1) = (x + M.s - R.s) + M.c.length - 1 by omega, cb_rev]
  have h1 : gz R.c = fun y => fn R (y + R.s) := funext fun y => by unfold fn; rw [show y + R.s - R.s = y by omega]
  have h2 := @ev_start (fn R) M.s M.c 0 x
  rw [Int.zero_add] at h2
  rw [h1, ev_shift, h2, show x + M.s - R.s + R.s = x + M.s by omega]
theorem gz_set {fs : List Int} {i : Nat} {v k : Int} (h : i < fs.length) : gz (fs.set i v) k = if k = i then v else gz fs k := by
  by_cases h0 : 0 ≤ k ∧ k < fs.length
  · have h1 := gz_in (vs := fs.set i v) h0.1 (by rw [List.length_set]; exact h0.2)
    by_cases q : k = i
    · rw [if_pos q]
      rw [show k.toNat = i by omega, List.getElem?_set_self h] at h1
      exact (Option.some.inj h1).symm
    · rw [if_neg q]
      rw [List.getElem?_set_ne (by omega), gz_in h0.1 h0.2] at h1
      exact (Option.some.inj h1).symm
  · rw [if_neg (by omega)]
    by_cases h1 : k < 0
    · rw [gz_neg h1, gz_neg h1]
    · rw [gz_big (by rw [List.length_set]; omega), gz_big (by omega)]
/-- steps of a row -/
def RSt (M : Mx) (n : Nat) (R R' : Mx) : Prop := ∀ x, fn R' x * (M.p ^ n * R.p) = evn M.c M.s n (fn R) x * R'.p
theorem RSt.zero {M R : Mx} : RSt M 0 R R := fun x => by rw [Int.pow_zero, Int.one_mul]; rfl
theorem RSt.succ {M R R1 R2 : Mx} {n : Nat} (h : RSt M n R R1) (hp : 0 < R1.p) (h2 : ∀ x, ev M.c M.s (fn R1) x * R2.p = fn R2 x * (M.p * R1.p)) : RSt M (n + 1) R R2 := fun x => by
  have e : ev M.c M.s (fn R1) x * (M.p ^ n * R.p) = evn M.c M.s (n + 1) (fn R) x * R1.p := by
    rw [evn_succ, Int.mul_comm, ← ev_mul, Int.mul_comm _ R1.p, ← ev_mul]
    exact ev_congr fun j _ _ => by
      have := h (x + M.s + j)
      rw [Int.mul_comm, this, Int.mul_comm]
  have e2 := h2 x
  generalize evn M.c M.s (n + 1) (fn R) x = z at *
  generalize ev M.c M.s (fn R1) x = w at *
  generalize fn R2 x = y at *
  rw [Int.pow_succ]
  generalize M.p ^ n = P at *
  have : R1.p * (y * (P * M.p * R.p)) = R1.p * (z * R2.p) := by grind
  exact Int.eq_of_mul_eq_mul_left (by omega) this
theorem fn_zero {x : Int} : fn ⟨[], 1, 0⟩ x = 0 := gz_nil
theorem evn_zero {c : List Int} {s : Int} {n : Nat} {x : Int} : evn c s n (fun _ => 0) x = 0 := by rw [evn_const]; simp
theorem cb_big : ∀ {c b : List Int} {k : Int}, (c.length : Int) + b.length ≤ k + 1 → cb c b k = 0
  | [], _, _, _ => rfl
  | x :: a, b, k, h => by
    rw [List.length_cons] at h
    show x * gz b k + cb a b (k - 1) = 0
    rw [gz_big (by omega), cb_big (by omega)]
    omega
theorem gz_tabcb {c b : List Int} {n : Nat} {k : Int} (hn : c.length + b.length ≤ n + 1) : gz (tab (cb c b) n 0) k = cb c b k := by
  by_cases h0 : k < 0
  · rw [gz_neg h0, cb_neg h0]
  · by_cases h1 : k < n
    · exact gz_tab (by omega) h1
    · rw [gz_big (by rw [tab_len]; omega), cb_big (by omega)]
theorem Mx.Can.first {M : Mx} (h : M.Can) : fn M M.s ≠ 0 := by
  unfold fn
  rw [Int.sub_self]
  exact h.2.1
theorem Mx.Can.last {M : Mx} (h : M.Can) : fn M (M.s + M.c.length - 1) ≠ 0 := by
  unfold fn
  rw [show M.s + M.c.length - 1 - M.s = M.c.length - 1 by omega]
  exact h.2.2.1
theorem fn_in {M : Mx} {x : Int} (h : fn M x ≠ 0) : M.s ≤ x ∧ x < M.s + M.c.length := by
  unfold fn at h
  refine ⟨Int.not_lt.mp fun q => h (gz_neg (by omega)), Int.not_le.mp fun q => h (gz_big (by omega))⟩
/-- what has the same values is the same -/
theorem can_ext {M N : Mx} (hM : M.Can) (hN : N.Can) (h : ∀ x, fn M x * N.p = fn N x * M.p) : M = N := by
  have p1 := hM.pos
  have p2 := hN.pos
  have a : ∀ x, fn M x ≠ 0 → fn N x ≠ 0 := fun x h1 h2 => by
    have := h x
    rw [h2, Int.zero_mul] at this
    rcases Int.mul_eq_zero.mp this with q | q
    · exact h1 q
    · omega
  have b : ∀ x, fn N x ≠ 0 → fn M x ≠ 0 := fun x h1 h2 => by
    have := h x
    rw [h2, Int.zero_mul] at this
    rcases Int.mul_eq_zero.mp this.symm with q | q
    · exact h1 q
    · omega
  have c1 := fn_in (a _ hM.first)
  have c2 := fn_in (b _ hN.first)
  have c3 := fn_in (a _ hM.last)
  have c4 := fn_in (b _ hN.last)
  have l1 := hM.len
  have l2 := hN.len
  have es : M.s = N.s := by omega
  have el : M.c.length = N.c.length := by omega
  have hz : ∀ i, gz M.c i * N.p = gz N.c i * M.p := fun i => by
    have := h (i + M.s)
    unfold fn at this
    rw [show i + M.s - M.s = i by omega, show i + M.s - N.s = i by omega] at this
    exact this
  have mem : ∀ {c : List Int} {x : Int}, x ∈ c → ∃ i, x = gz c i := fun {c x} hx => by
    obtain ⟨j, hj, e⟩ := List.getElem_of_mem hx
    have := gz_in (vs := c) (i := j) (by omega) (by omega)
    rw [Int.toNat_natCast, List.getElem?_eq_getElem hj, e] at this
    exact ⟨j, Option.some.inj this⟩
  have d1 : M.p ∣ N.p := by
    have q := dvd_gl (d := M.p) (xs := (M.c ++ [M.p]).map (N.p * ·)) (a := N.p * 0) (by rw [Int.mul_zero]; exact Int.dvd_zero _) fun x hx => by
      obtain ⟨y, hy, rfl⟩ := List.mem_map.mp hx
      rcases List.mem_append.mp hy with hy | hy
      · obtain ⟨i, rfl⟩ := mem hy
        refine ⟨gz N.c i, ?_⟩
        rw [Int.mul_comm N.p, hz, Int.mul_comm]
      · rw [List.mem_singleton.mp hy]
        exact ⟨N.p, Int.mul_comm _ _⟩
    rw [gl_mul (by omega), hM.2.2.2.2, Int.mul_one] at q
    exact q
  have d2 : N.p ∣ M.p := by
    have q := dvd_gl (d := N.p) (xs := (N.c ++ [N.p]).map (M.p * ·)) (a := M.p * 0) (by rw [Int.mul_zero]; exact Int.dvd_zero _) fun x hx => by
      obtain ⟨y, hy, rfl⟩ := List.mem_map.mp hx
      rcases List.mem_append.mp hy with hy | hy
      · obtain ⟨i, rfl⟩ := mem hy
        refine ⟨gz M.c i, ?_⟩
        rw [Int.mul_comm M.p, ← hz, Int.mul_comm]
      · rw [List.mem_singleton.mp hy]
        exact ⟨M.p, Int.mul_comm _ _⟩
    rw [gl_mul (by omega), hN.2.2.2.2, Int.mul_one] at q
    exact q
  have ep : M.p = N.p := Int.dvd_antisymm (by omega) (by omega) d1 d2
  have ec : M.c = N.c := ints_ext el fun i _ _ => by
    have := hz i
    rw [ep] at this
    exact Int.eq_of_mul_eq_mul_right (by omega) this
  obtain ⟨c, p, s⟩ := M
  obtain ⟨c', p', s'⟩ := N
  simp only at es ep ec
  rw [es, ep, ec]
theorem rok_ext {M N : Mx} (hM : M.ROk) (hN : N.ROk) (h : ∀ x, fn M x * N.p = fn N x * M.p) : M = N := by
  rcases hM with rfl | hM <;> rcases hN with rfl | hN
  · rfl
  · exfalso
    have := h N.s
    rw [fn_zero, Int.zero_mul] at this
    have q := hN.first
    rcases Int.mul_eq_zero.mp this.symm with k | k
    · exact q k
    · exact absurd k (by decide)
  · exfalso
    have := h M.s
    rw [fn_zero, Int.zero_mul] at this
    have q := hM.first
    rcases Int.mul_eq_zero.mp this with k | k
    · exact q k
    · exact absurd k (by decide)
  · exact can_ext hM hN h
theorem NormOf.val {xs : List Int} {p s : Int} {M : Mx} (h : NormOf xs p s M) (x : Int) : gz xs (x - s) * M.p = fn M x * p := RowOf.val (.inr h) x
theorem NormOf.uniq {xs : List Int} {p s : Int} {M N : Mx} (hp : p ≠ 0) (h : NormOf xs p s M) (h2 : NormOf xs p s N) : M = N := can_ext h.1 h2.1 fun x => by
  have e1 := h.val x
  have e2 := h2.val x
  refine Int.eq_of_mul_eq_mul_right hp ?_
  generalize gz xs (x - s) = z at *
  generalize fn M x = u at *
  generalize fn N x = v at *
  grind
theorem RowOf.uniq {xs : List Int} {p f : Int} {M N : Mx} (hp : p ≠ 0) (h : RowOf xs f p M) (h2 : RowOf xs f p N) : M = N := rok_ext h.ok h2.ok fun x => by
  have e1 := h.val x
  have e2 := h2.val x
  refine Int.eq_of_mul_eq_mul_right hp ?_
  generalize gz xs (x - f) = z at *
  generalize fn M x = u at *
  generalize fn N x = v at *
  grind
theorem RSt.zrow {M : Mx} : ∀ n, RSt M n ⟨[], 1, 0⟩ ⟨[], 1, 0⟩ := fun n x => by
  have e : fn ⟨[], 1, 0⟩ = fun _ => 0 := funext fun x => fn_zero
  rw [e, evn_zero]
  show (0 : Int) * _ = _
  omega
/-- one step more -/
theorem RSt.step {M R R1 R2 : Mx} {n : Nat} (h : RSt M n R R1) (hp : 0 < R1.p) (h1 : 0 < M.c.length) (h2 : RowOf (tab (cb M.c.reverse R1.c) (M.c.length + R1.c.length - 1) 0) (R1.s - M.s - M.c.length + 1) (M.p * R1.p) R2) : RSt M (n + 1) R R2 := h.succ hp fun x => by
  have := h2.val x
  rw [gz_tabcb (by rw [List.length_reverse]; omega), row_step] at this
  exact this
end Zr

/-! Zr: plain values of any kinds (numbers and bools together), and == with an empty list. -/
namespace Zr
open PySem L2
mutual
/-- a plain value of at most so many levels -/
def pv : Nat → D → Bool
  | _, .non => true
  | _, .bl _ => true
  | _, .int _ => true
  | _, .str x => PyData.strOk x
  | n + 1, .tup ds => pvL n ds
  | n + 1, .lst ds => pvL n ds
  | _, _ => false
def pvL : Nat → List D → Bool
  | _, [] => true
  | n, d :: ds => pv n d && pvL n ds
end
mutual
theorem pv_py : ∀ {n : Nat} {d : D}, pv n d = true → ∃ p, py d = some p ∧ p.canLay0 = true ∧ p.depth ≤ n
  | n, .non, _ => ⟨_, rfl, rfl, Nat.zero_le _⟩
  | n, .bl _, _ => ⟨_, rfl, rfl, Nat.zero_le _⟩
  | n, .int _, _ => ⟨_, rfl, rfl, Nat.zero_le _⟩
  | n, .str x, h => by cases n <;> exact ⟨_, rfl, h, Nat.zero_le _⟩
  | n + 1, .tup ds, h => by
    have h : pvL n ds = true := h
    obtain ⟨ps, e, c, d⟩ := pvL_py h
    exact ⟨.tuple ps, by unfold py; rw [e], c, by show PyData.depthAll ps + 1 ≤ n + 1; omega⟩
  | n + 1, .lst ds, h => by
    have h : pvL n ds = true := h
    obtain ⟨ps, e, c, d⟩ := pvL_py h
    exact ⟨.list ps, by unfold py; rw [e], c, by show PyData.depthAll ps + 1 ≤ n + 1; omega⟩
  | 0, .tup _, h => by cases h
  | 0, .lst _, h => by cases h
  | 0, .ob _ _, h => by cases h
  | 0, .fn _, h => by cases h
  | 0, .scr _, h => by cases h
  | 0, .dic _, h => by cases h
  | 0, .dis _, h => by cases h
  | 0, .dil _ _, h => by cases h
  | 0, .ex _, h => by cases h
  | _ + 1, .ob _ _, h => by cases h
  | _ + 1, .fn _, h => by cases h
  | _ + 1, .scr _, h => by cases h
  | _ + 1, .dic _, h => by cases h
  | _ + 1, .dis _, h => by cases h
  | _ + 1, .dil _ _, h => by cases h
  | _ + 1, .ex _, h => by cases h
theorem pvL_py : ∀ {n : Nat} {ds : List D}, pvL n ds = true → ∃ ps, pyL ds = some ps ∧ PyData.canLayAll0 ps = true ∧ PyData.depthAll ps ≤ n
  | _, [], _ => ⟨[], rfl, rfl, Nat.zero_le _⟩
  | n, d :: ds, h => by
    have h : (pv n d && pvL n ds) = true := by cases n <;> exact h
    rw [Bool.and_eq_true] at h
    obtain ⟨p, e, c, q⟩ := pv_py h.1
    obtain ⟨ps, es, cs, qs⟩ := pvL_py h.2
    refine ⟨p :: ps, by unfold pyL; rw [e]; simp only [es], ?_, ?_⟩
    · show (p.canLay0 && PyData.canLayAll0 ps) = true
      rw [c, cs]; rfl
    · show max p.depth (PyData.depthAll ps) ≤ n
      omega
end
mutual
theorem pv_succ : ∀ {n : Nat} {d : D}, pv n d = true → pv (n + 1) d = true
  | n, .non, _ => rfl
  | n, .bl _, _ => rfl
  | n, .int _, _ => rfl
  | n, .str x, h => by cases n <;> exact h
  | n + 1, .tup ds, h => pvL_succ (n := n) (ds := ds) h
  | n + 1, .lst ds, h => pvL_succ (n := n) (ds := ds) h
  | 0, .tup _, h => by cases h
  | 0, .lst _, h => by cases h
  | 0, .ob _ _, h => by cases h
  | 0, .fn _, h => by cases h
  | 0, .scr _, h => by cases h
  | 0, .dic _, h => by cases h
  | 0, .dis _, h => by cases h
  | 0, .dil _ _, h => by cases h
  | 0, .ex _, h => by cases h
  | _ + 1, .ob _ _, h => by cases h
  | _ + 1, .fn _, h => by cases h
  | _ + 1, .scr _, h => by cases h
  | _ + 1, .dic _, h => by cases h
  | _ + 1, .dis _, h => by cases h
  | _ + 1, .dil _ _, h => by cases h
  | _ + 1, .ex _, h => by cases h
theorem pvL_succ : ∀ {n : Nat} {ds : List D}, pvL n ds = true → pvL (n + 1) ds = true
  | n, [], _ => rfl
  | n, d :: ds, h => by
    have h : (pv n d && pvL n ds) = true := by cases n <;> exact h
    rw [Bool.and_eq_true] at h
    show (pv (n + 1) d && pvL (n + 1) ds) = true
    rw [pv_succ h.1, pvL_succ h.2]; rfl
end
theorem pv_mono {n m : Nat} {d : D} (h : pv n d = true) (k : n ≤ m) : pv m d = true := by
  induction k with
  | refl => exact h
  | step _ ih => exact pv_succ ih
theorem pvL_iff : ∀ {n : Nat} {ds : List D}, pvL n ds = true ↔ ∀ d ∈ ds, pv n d = true
  | n, [] => ⟨(fun _ d h => by simp at h), (fun _ => by cases n <;> rfl)⟩
  | n, d :: ds => by
    have e : pvL n (d :: ds) = (pv n d && pvL n ds) := by cases n <;> rfl
    rw [e, Bool.and_eq_true, pvL_iff]
    simp
theorem eqP_nil {ys : List D} {n : Nat} (h : pvL n ys = true) (hn : n < 64) : eqP (.lst ys) (.lst []) = some ys.isEmpty := by
  obtain ⟨ps, e, c, d⟩ := pvL_py h
  have e1 : py (.lst ys) = some (.list ps) := by unfold py; rw [e]
  have e2 : py (.lst []) = some (.list []) := rfl
  unfold eqP
  rw [e1, e2]
  have s1 : SeqAt.shaped (.list ps) = true := by
    unfold SeqAt.shaped
    rw [show PyData.canLay0 (.list ps) = true from c, decide_eq_true (show PyData.depth (.list ps) ≤ 64 from by show PyData.depthAll ps + 1 ≤ 64; omega)]
    rfl
  have s2 : SeqAt.shaped (.list []) = true := by rfl
  simp only [s1, s2, Bool.and_self, if_true]
  cases ys with
  | nil => cases e; rfl
  | cons y ys =>
    cases ps with
    | nil =>
      unfold pyL at e
      split at e
      · split at e <;> cases e
      · cases e
    | cons p ps => rfl
theorem neD_nil {ys : List D} {n : Nat} (h : pvL n ys = true) (hn : n < 64) : neD (.lst ys) (.lst []) = some (.bl (!ys.isEmpty)) := by unfold neD; rw [eqP_nil h hn]
theorem eqD_nil {ys : List D} {n : Nat} (h : pvL n ys = true) (hn : n < 64) : eqD (.lst ys) (.lst []) = some (.bl ys.isEmpty) := by unfold eqD; rw [eqP_nil h hn]
end Zr

/-! Zr: the text of plain data. -/
namespace Zr
open PySem L2
theorem rp_app {x y : Str} (hx : PyData.strOk x = true) (hy : PyData.strOk y = true) : PyData.strOk (x ++ y) = true := by
  unfold PyData.strOk at *
  show (x.cps ++ y.cps).all _ = true
  rw [Array.all_append, hx, hy]
  rfl
theorem rp_join : ∀ ws : List Str, (∀ w ∈ ws, PyData.strOk w = true) → PyData.strOk (Str.join ", " ws) = true
  | [], _ => by simp [Str.join, PyData.strOk, Str.empty]
  | [z], h => h z List.mem_cons_self
  | z :: y :: zs, h => rp_app (rp_app (h z List.mem_cons_self) (strOk_of _)) (rp_join (y :: zs) fun w hw => h w (List.mem_cons_of_mem _ hw))
theorem rp_from : ∀ (ts : List Str) (k : Nat) (acc : Str), PyData.strOk acc = true → (∀ w ∈ ts, PyData.strOk w = true) → PyData.strOk (textFrom k acc ts) = true
  | [], _, _, h, _ => h
  | t :: ts, k, acc, h, hs => rp_from ts (k + 1) _ (rp_app (rp_app h (by split <;> exact strOk_of _)) (hs t List.mem_cons_self)) fun w hw => hs w (List.mem_cons_of_mem _ hw)
/-- a text of at most n signs, at most k deep -/
structure RpOk (n k : Nat) (d : D) (p : PyData) : Prop where
  e : py d = some p
  sh : p.showable = true
  nd : p.hasDict = false
  dp : p.depth ≤ k
  ln : p.shown.length ≤ n
  ok : PyData.strOk p.shown = true
def Rp (n k : Nat) (d : D) : Prop := ∃ p, RpOk n k d p
theorem Rp.mono {n k m l : Nat} {d : D} (h : Rp n k d) (h1 : n ≤ m) (h2 : k ≤ l) : Rp m l d := by
  obtain ⟨p, a⟩ := h
  exact ⟨p, a.e, a.sh, a.nd, Nat.le_trans a.dp h2, Nat.le_trans a.ln h1, a.ok⟩
theorem Rp.int {y : Int} (h : bt 1000 y) : Rp 1001 0 (.int y) := by
  have l2 : y.natAbs.log2 < 1000 := by
    by_cases e : y.natAbs = 0
    · rw [e]; decide
    · exact (Nat.log2_lt e).mpr h
  have l1 := int_text_length_le (by decide) l2
  exact ⟨.int y, rfl, by simp only [PyData.showable, decide_eq_true_eq]; omega, rfl, by simp [PyData.depth], by have q : (PyData.int y).shown = Str.ofString (toString y) := rfl; rw [q, ofString_length]; exact l1, strOk_of _⟩
theorem Rp.bl (b : Bool) : Rp 1001 0 (.bl b) := ⟨.bool b, rfl, rfl, rfl, by simp [PyData.depth], by cases b <;> (show _ ≤ _; decide), by cases b <;> exact strOk_of _⟩
theorem Rp.non : Rp 1001 0 .non := ⟨.none, rfl, rfl, rfl, by simp [PyData.depth], by show _ ≤ _; decide, strOk_of _⟩
theorem rp_list {n k : Nat} : ∀ {ds : List D}, (∀ d ∈ ds, Rp n k d) → ∃ ps, pyL ds = some ps ∧ PyData.showableAll ps = true ∧ PyData.hasDictAll ps = false ∧ PyData.depthAll ps ≤ k ∧ ((PyData.shownAll ps).map (·.length)).sum ≤ n * ds.length ∧ (PyData.shownAll ps).length = ds.length ∧ ∀ w ∈ PyData.shownAll ps, PyData.strOk w = true
  | [], _ => ⟨[], rfl, rfl, rfl, by simp [PyData.depthAll], by simp [PyData.shownAll], rfl, fun w hw => nomatch hw⟩
  | d :: ds, h => by
    obtain ⟨p, a⟩ := h d List.mem_cons_self
    obtain ⟨ps, b1, b2, b3, b4, b5, b6, b7⟩ := rp_list fun x hx => h x (List.mem_cons_of_mem _ hx)
    refine ⟨p :: ps, by unfold pyL; rw [a.e, b1], ?_, ?_, ?_, ?_, ?_, ?_⟩
    · simp only [PyData.showableAll, a.sh, b2, Bool.and_self]
    · simp only [PyData.hasDictAll, a.nd, b3, Bool.or_self]
    · simp only [PyData.depthAll]
      have := a.dp
      omega
    · simp only [PyData.shownAll, List.map_cons, List.sum_cons, List.length_cons, Nat.mul_add, Nat.mul_one]
      have := a.ln
      omega
    · simp only [PyData.shownAll, List.length_cons, b6]
    · intro w hw
      simp only [PyData.shownAll, List.mem_cons] at hw
      rcases hw with rfl | hw
      · exact a.ok
      · exact b7 w hw
theorem Rp.tup {n k : Nat} {ds : List D} (h : ∀ d ∈ ds, Rp n k d) : Rp (n * ds.length + 2 * ds.length + 3) (k + 1) (.tup ds) := by
  obtain ⟨ps, b1, b2, b3, b4, b5, b6, b7⟩ := rp_list h
  refine ⟨.tuple ps, by unfold py; rw [b1], by simp only [PyData.showable]; exact b2, by simp only [PyData.hasDict]; exact b3, by simp only [PyData.depth]; omega, ?_, ?_⟩
  · have := tupleText_len_le (PyData.shownAll ps)
    rw [b6] at this
    show (tupleText (PyData.shownAll ps)).length ≤ _
    omega
  · show PyData.strOk (tupleText (PyData.shownAll ps)) = true
    unfold tupleText
    exact rp_app (rp_app (strOk_of _) (rp_join _ b7)) (by split <;> exact strOk_of _)
theorem Rp.lst {n k : Nat} {ds : List D} (h : ∀ d ∈ ds, Rp n k d) : Rp (n * ds.length + 2 * ds.length + 3) (k + 1) (.lst ds) := by
  obtain ⟨ps, b1, b2, b3, b4, b5, b6, b7⟩ := rp_list h
  refine ⟨.list ps, by unfold py; rw [b1], by simp only [PyData.showable]; exact b2, by simp only [PyData.hasDict]; exact b3, by simp only [PyData.depth]; omega, ?_, ?_⟩
  · have := listText_len_le (PyData.shownAll ps)
    rw [b6] at this
    show (listText (PyData.shownAll ps)).length ≤ _
    omega
  · show PyData.strOk (listText (PyData.shownAll ps)) = true
    unfold listText
    exact rp_app (rp_from _ _ _ (strOk_of _) b7) (strOk_of _)
theorem rp_show {n k : Nat} {d : D} {p : PyData} (a : RpOk n k d p) (hn : n ≤ 16777216) (hk : k ≤ 60) : showP p = true := by
  unfold showP
  rw [a.sh, a.nd, decide_eq_true (Nat.le_trans a.dp hk), decide_eq_true (Nat.le_trans a.ln (by rw [sizeLine_eq]; exact hn))]
  rfl
theorem Rp.tupS {n k : Nat} {ds : List D} (h : Rp n k (.tup ds)) (hn : n ≤ 16777216) (hk : k ≤ 60) : ∃ s, nReprP [.tup ds] = some (.str s) ∧ neD (.str s) (.str s) = some (.bl false) ∧ PyData.strOk s = true := by
  obtain ⟨p, a⟩ := h
  refine ⟨p.shown, ?_, neD_same (b := false) a.ok, a.ok⟩
  show (match py (.tup ds) with | some p => (if showP p then some (D.str p.shown) else none) | none => none) = _
  rw [a.e]
  show (if showP p then some (D.str p.shown) else none) = _
  rw [rp_show a hn hk]
  rfl
theorem Rp.lstS {n k : Nat} {ds : List D} (h : Rp n k (.lst ds)) (hn : n ≤ 16777216) (hk : k ≤ 60) : ∃ s, nReprP [.lst ds] = some (.str s) ∧ neD (.str s) (.str s) = some (.bl false) ∧ PyData.strOk s = true := by
  obtain ⟨p, a⟩ := h
  refine ⟨p.shown, ?_, neD_same (b := false) a.ok, a.ok⟩
  show (match py (.lst ds) with | some p => (if showP p then some (D.str p.shown) else none) | none => none) = _
  rw [a.e]
  show (if showP p then some (D.str p.shown) else none) = _
  rw [rp_show a hn hk]
  rfl
theorem rp_ints {cs : List Int} (h : ∀ c ∈ cs, bt 1000 c) (hl : cs.length ≤ 100) : Rp 110000 1 (.tup (cs.map D.int)) :=
  (Rp.tup (ds := cs.map D.int) fun d hd => by
    obtain ⟨c, hc, rfl⟩ := List.mem_map.mp hd
    exact .int (h c hc)).mono (by rw [List.length_map]; omega) (by omega)
end Zr

namespace K01
open PySem L2 Zr
def xtab_InvalidCommand : List (Nat × Bool) := [(0, false), (1, false), (2, false), (3, false), (4, false), (5, false), (6, true)]
def xtab_InvalidMix : List (Nat × Bool) := [(0, true), (1, false), (2, false), (3, false), (4, false), (5, false), (6, false)]
def xtab_InvalidPair : List (Nat × Bool) := [(0, false), (1, false), (2, true), (3, false), (4, false), (5, false), (6, false)]
def xtab_InvalidRow : List (Nat × Bool) := [(0, false), (1, true), (2, false), (3, false), (4, false), (5, false), (6, false)]
def xtab_InvalidText : List (Nat × Bool) := [(0, false), (1, false), (2, false), (3, true), (4, false), (5, false), (6, false)]
def xtab_InvalidWall : List (Nat × Bool) := [(0, false), (1, false), (2, false), (3, false), (4, false), (5, true), (6, false)]
def xtab_KeyError : List (Nat × Bool) := [(0, false), (1, false), (2, false), (3, false), (4, false), (5, false), (6, false)]
def xtab_Refused : List (Nat × Bool) := [(0, false), (1, false), (2, false), (3, false), (4, true), (5, false), (6, false)]
def xtab_ShareError : List (Nat × Bool) := [(0, true), (1, true), (2, true), (3, true), (4, true), (5, true), (6, true)]
def xtab_ValueError : List (Nat × Bool) := [(0, true), (1, true), (2, true), (3, true), (4, true), (5, true), (6, true)]
/- 0 _law_box, 1 _law_many, 2 _law_digit, 3 _law_raw -/
noncomputable def B_law_choose : DS :=
  (sq (ss (tb (b2 gtD (oix 0 (kc (.int 0))) (kc (.int 0))))
  (sq (sa (b2 modD (cn nInt (ac (oix 0 (kc (.int 0))) an)) (nm 1)) (gn 2))
  (sq (sa (b2 divD (oix 0 (kc (.int 0))) (nm 1)) (gst 0 (kc (.int 0))))
  (sr (nm 2))))
  sk)
  (sq (sa (b2 addD (oix 0 (kc (.int 2))) (kc (.int 1))) (gst 0 (kc (.int 2))))
  (sq (sa (b2 modD (cn nInt (ac (b2 mulD (b2 addD (oix 0 (kc (.int 1))) (b2 mulD (kc (.int 104729)) (oix 0 (kc (.int 2))))) (kc (.int 69621))) an)) (kc (.int 2147483647))) (gn 3))
  (sq (sa (b2 addD (b2 modD (cn nInt (ac (b2 addD (b2 mulD (nm 3) (kc (.int 48271))) (kc (.int 30103))) an)) (kc (.int 2147483629))) (kc (.int 1))) (gst 0 (kc (.int 1))))
  (sr (b2 modD (cn nInt (ac (b2 divD (b2 addD (b2 mulD (nm 3) (kc (.int 2147483647))) (oix 0 (kc (.int 1)))) (kc (.int 8191))) an)) (nm 1)))))))
noncomputable def F_law_choose : FD := fnD 2 2 B_law_choose
/- 0 _law_box, 1 _law_some -/
noncomputable def B_law_one_of : DS :=
  (sr (b2 ixD (nm 1) (callD F_law_choose (dflt [] (bi 0 (bv (cn nLen (ac (nm 1) an)) bn))))))
noncomputable def F_law_one_of : FD := fnD 2 0 B_law_one_of
/- 0 _law_box, 1 _law_deep, 2 _law_form, 3 _law_some, 4 _law_inner, 5 _law_turn -/
noncomputable def Q_law_anything_1 (Frec : FD) : DE :=
  (callD Frec (dflt [] (bi 0 (bv (b2 subD (nm 1) (kc (.int 1))) bn))))
noncomputable def B_law_anything (Frec : FD) : DS :=
  (sq (sa (callD F_law_choose (dflt [] (bi 0 (bv (kc (.int 9)) bn)))) (gn 2))
  (sq (ss (tor (tb (b2 ltD (nm 1) (kc (.int 1)))) (tb (b2 ltD (nm 2) (kc (.int 5)))))
  (sq (sa (dl (ac (kc .non) (ac (kc (.bl true)) (ac (kc (.bl false)) (ac (kc (.int 0)) (ac (kc (.int 1)) (ac (u1 iNeg (kc (.int 3))) (ac (b2 powD (kc (.int 10)) (kc (.int 17))) (ac (kc (.str "")) (ac (kc (.str "a")) (ac (kc (.str "0: 1 / 2")) (ac (kc (.str "0:")) (ac (kc (.str "x")) (ac (dt an) (ac (dl an) an))))))))))))))) (gn 3))
  (sr (callD F_law_one_of (dflt [] (bi 0 (bv (nm 3) bn))))))
  sk)
  (sq (sa (lc [5] (r1 (callD F_law_choose (dflt [] (bi 0 (bv (kc (.int 3)) bn))))) (gn 5) yes (Q_law_anything_1 Frec)) (gn 4))
  (sr (fi (tb (b2 ltD (nm 2) (kc (.int 7)))) (cn nTup (ac (nm 4) an)) (nm 4))))))
noncomputable def FR_law_anything : Nat → FD
  | 0 => fun _ => none
  | k + 1 => fnD 2 4 (B_law_anything (FR_law_anything k))
noncomputable def F_law_anything : FD := FR_law_anything 9
/- 0 _law_thing, 1 _law_found -/
noncomputable def B_law_kept : DS :=
  (sq (sa (dl (ac (nm 0) (ac (nm 0) (ac (nm 0) an)))) (gn 1))
  (sr (b2 addD (nm 1) (dl (ac (nm 0) (ac (nm 0) an))))))
noncomputable def F_law_kept : FD := fnD 1 1 B_law_kept
/- 0 _law_one, 1 _law_found -/
noncomputable def B_law_kinds : DS :=
  (sq (sa (dl (ac (u1 (isX xtab_InvalidMix) (nm 0)) (ac (u1 (isX xtab_InvalidRow) (nm 0)) (ac (u1 (isX xtab_InvalidPair) (nm 0)) an)))) (gn 1))
  (sq (sa (b2 addD (nm 1) (dl (ac (u1 (isX xtab_InvalidText) (nm 0)) (ac (u1 (isX xtab_Refused) (nm 0)) an)))) (gn 1))
  (sr (b2 addD (nm 1) (dl (ac (u1 (isX xtab_InvalidWall) (nm 0)) (ac (u1 (isX xtab_InvalidCommand) (nm 0)) an)))))))
noncomputable def F_law_kinds : FD := fnD 1 1 B_law_kinds
/- 0 _law_script, 1 _law_k, 2 _law_cell, 3 _law_stirred, 4 _law_one -/
noncomputable def L_law_seed_1 : DS :=
  (sa (b2 modD (cn nInt (ac (b2 addD (b2 addD (b2 mulD (nm 3) (kc (.int 48271))) (b2 modD (cn nInt (ac (cn nAbs (ac (nm 4) an)) an)) (kc (.int 2147483629)))) (kc (.int 19))) an)) (kc (.int 2147483647))) (gn 3))
noncomputable def B_law_seed : DS :=
  (sq (sa (fi (tb (b2 ltD (nm 1) (cn nLen (ac (nm 0) an)))) (cn nAbs (ac (cn nInt (ac (b2 ixD (nm 0) (nm 1)) an)) an)) (kc (.int 0))) (gn 2))
  (sq (sa (b2 addD (kc (.int 50331653)) (b2 mulD (kc (.int 7919)) (nm 1))) (gn 3))
  (sq (sf (is (sl (nm 0) oN (oS (kc (.int 56))))) (gn 4)
  L_law_seed_1)
  (srf (dl (ac (fi (tb (b2 geD (nm 2) (b2 powD (kc (.int 10)) (kc (.int 18))))) (nm 2) (kc (.int 0))) (ac (nm 3) (ac (kc (.int 0)) an))))))))
noncomputable def F_law_seed : FD := fnF 2 3 B_law_seed
/- 0 _law_script, 1 _law_k, 2 _law_box, 3 _law_turn, 4 _law_thing, 5 _law_by_name, 6 _law_held, 7 _law_kept_things, 8 _law_some, 9 _law_place, 10 _law_one, 11 _law_spot -/
noncomputable def Q_law_1 : DE :=
  (b2 eqD (nm 11) (nm 9))
noncomputable def L_law_1 : DS :=
  (sq (ss (tor (tb (b2 neD (callD F_law_kinds (dflt [] (bv (nm 10) bn))) (lc [11] (r1 (kc (.int 7))) (gn 11) yes Q_law_1))) (tnot (tb (u1 (isX xtab_ShareError) (nm 10)))))
  (sr (kc (.bl false)))
  sk)
  (ss (tor (tnot (tb (u1 (isX xtab_ValueError) (nm 10)))) (tb (u1 (isX xtab_KeyError) (nm 10))))
  (sr (kc (.bl false)))
  sk))
noncomputable def Q_law_2 : DE :=
  (kc (.int 1))
noncomputable def C_law_1 : DT :=
  (tb (b2 neD (nm 10) (nm 6)))
noncomputable def Q_law_3 : DE :=
  (kc (.int 1))
noncomputable def C_law_2 : DT :=
  (tb (b2 neD (cn nReprQ (ac (nm 10) an)) (cn nReprQ (ac (nm 4) an))))
noncomputable def L_law_2 : DS :=
  (sq (sa (callD F_law_anything (dflt [] (bi 2 (bv (kc (.int 3)) bn)))) (gn 4))
  (sq (sa (dl (ac (nm 4) (ac (nm 4) (ac (nm 4) an)))) (gn 5))
  (sq (sa (b2 addD (nm 5) (dl (ac (nm 4) (ac (nm 4) an)))) (gn 5))
  (sq (ss (tb (b2 neD (lc [10] (is (b2 addD (callD F_law_kept (dflt [] (bv (nm 4) bn))) (nm 5))) (gn 10) C_law_2 Q_law_3) (dl an)))
  (sr (kc (.bl false)))
  sk)
  (sq (so 6 (dl (ac (nm 4) an)))
  (sq (kmD 6 7 F_law_kept "more")
  (sq (ss (tb (b2 neD (lc [10] (is (nm 7)) (gn 10) C_law_1 Q_law_2) (dl an)))
  (sr (kc (.bl false)))
  sk)
  (sq (sa (dl (ac (exD 0 (nm 4)) (ac (exD 1 (nm 4)) (ac (exD 2 (nm 4)) (ac (exD 3 (nm 4)) (ac (exD 4 (nm 4)) an)))))) (gn 8))
  (sf (en (b2 addD (nm 8) (dl (ac (exD0 5) (ac (exD0 6) an))))) (gtp 2 (gsc (gn 9) (gsc (gn 10) gsn)))
  L_law_1)))))))))
noncomputable def L_law_3 : DS :=
  (sq (so 2 (callD F_law_seed (dflt [] (bv (nm 0) (bv (nm 1) bn)))))
  (sf (r1 (kc (.int 4))) (gn 3)
  L_law_2))
noncomputable def B_law : DS :=
  (sq (sf (r1 (cn nMax2 (ac (kc (.int 1)) (ac (cn nMin2 (ac (kc (.int 4)) (ac (cn nLen (ac (nm 0) an)) an))) an)))) (gn 1)
  L_law_3)
  (sr (kc (.bl true))))
noncomputable def F_law : FD := fnD 1 11 B_law
end K01

namespace K01
open PySem L2 Zr
local macro_rules | `(tactic| walk_at "zs") => `(tactic| simp only [nm, kc, u1, b2, ac, an, cn, dl, dt, tb, tv, vnot, vand, vor, tnot, tand, tor, fi, ss, sq, sk, sa, gn, so, sr, srf, sx, sv, srn, sbk, sct, callD, dflt, bv, Zr.bi, bn, argsD, putD, iosOf, onceD, fnD, fnF, outs, oix, oln, app, gst, sag, sau, ownL, own, put, asL_lst, ch, sp2, sp2F, is, Zr.r1, r2, lr, oN, oS, sl, isi, sf, lc, gtp, gsc, gsn, mkD, mtD, Zr.prD, fld, en, zp, ast, rv, sfl, isOb, setF, List.map_cons, itD_tup, itD_lst, List.append_eq, beq_self_eq_true, Int.natCast_zero, eq_self,
  subD_int, divD_int, modD_int, powD_int, mulD_int, oI_some, addD_int, iNeg_int, ltD_int, leD_int, gtD_int, geD_int, nInt_int, nInt_bl, nAbs_int, nLen_lst, nLen_tup, nLen_scr, nMax2_int, nMin2_int, nTup_tup, nTup_lst, nLst_tup, nLst_lst, nLst_scr, ixD_lst, ixD_tup, itD_lst, itD_tup, itD_scr, isN_non, noN_non, isN_bl, noN_bl, slD_lst, slD_tup, slD_scr, isNonD_non, isNonD_int, isNonD_tup, isNonD_lst, isNonD_str, isNonD_bl, kind_int, kind_bl, kind_non, kind_str, kind_tup, kind_lst, kind_ob, eqD_int, neD_int,
  notIo_eq, nio_no, nio_va, nio_ow, isO_no, isO_va, isO_ow, isO_io, List.set_cons_zero, List.set_cons_succ, List.getElem?_cons_zero, List.getElem?_cons_succ, List.length_cons, List.length_nil, List.replicate, List.append, List.cons_append, List.nil_append, if_true, if_false, ite_true, ite_false, Option.bind_some, Option.bind_none, List.map_nil, List.append_nil, Nat.reduceAdd, Nat.reduceEqDiff, Nat.reduceLT, atI_0, atI_1, atI_2, ixN_0, ixN_1, ixN_2, Bool.and_true, Bool.true_and, Bool.not_true, Bool.not_false, Bool.and_self, Bool.and_false, Bool.false_and, List.contains_nil, Bool.false_eq_true, sizeLine_eq, Nat.reduceLeDiff, Nat.reducePow, addD_lst, addD_tup, Nat.zero_le, Nat.le_refl])
local macro_rules | `(tactic| walk_at "zh") => `(tactic| simp only [nm, kc, u1, b2, ac, an, cn, dl, dt, tb, tv, vnot, vand, vor, tnot, tand, tor, fi, ss, sq, sk, sa, gn, so, sr, srf, sx, sv, srn, sbk, sct, callD, dflt, bv, Zr.bi, bn, argsD, putD, iosOf, onceD, fnD, fnF, outs, oix, oln, app, gst, sag, sau, ownL, own, put, asL_lst, ch, sp2, sp2F, is, Zr.r1, r2, lr, oN, oS, sl, isi, sf, lc, gtp, gsc, gsn, mkD, mtD, Zr.prD, fld, en, zp, ast, rv, sfl, isOb, setF, List.map_cons, itD_tup, itD_lst, List.append_eq, beq_self_eq_true, Int.natCast_zero, eq_self,
  subD_int, divD_int, modD_int, powD_int, mulD_int, oI_some, addD_int, iNeg_int, ltD_int, leD_int, gtD_int, geD_int, nInt_int, nInt_bl, nAbs_int, nLen_lst, nLen_tup, nLen_scr, nMax2_int, nMin2_int, nTup_tup, nTup_lst, nLst_tup, nLst_lst, nLst_scr, ixD_lst, ixD_tup, itD_lst, itD_tup, itD_scr, isN_non, noN_non, isN_bl, noN_bl, slD_lst, slD_tup, slD_scr, isNonD_non, isNonD_int, isNonD_tup, isNonD_lst, isNonD_str, isNonD_bl, kind_int, kind_bl, kind_non, kind_str, kind_tup, kind_lst, kind_ob, eqD_int, neD_int,
  notIo_eq, nio_no, nio_va, nio_ow, isO_no, isO_va, isO_ow, isO_io, List.set_cons_zero, List.set_cons_succ, List.getElem?_cons_zero, List.getElem?_cons_succ, List.length_cons, List.length_nil, List.replicate, List.append, List.cons_append, List.nil_append, if_true, if_false, ite_true, ite_false, Option.bind_some, Option.bind_none, List.map_nil, List.append_nil, Nat.reduceAdd, Nat.reduceEqDiff, Nat.reduceLT, atI_0, atI_1, atI_2, ixN_0, ixN_1, ixN_2, Bool.and_true, Bool.true_and, Bool.not_true, Bool.not_false, Bool.and_self, Bool.and_false, Bool.false_and, List.contains_nil, Bool.false_eq_true, sizeLine_eq, Nat.reduceLeDiff, Nat.reducePow, addD_lst, addD_tup, Nat.zero_le, Nat.le_refl, decide_true, decide_false, *])

local macro_rules | `(tactic| walk_at "zs") => `(tactic| simp only [nm, kc, u1, b2, ac, an, cn, dl, dt, tb, tv, vnot, vand, vor, tnot, tand, tor, fi, ss, sq, sk, sa, gn, so, sr, srf, sx, sv, srn, sbk, sct, callD, dflt, bv, Zr.bi, bn, argsD, putD, iosOf, onceD, fnD, fnF, outs, oix, oln, app, gst, sag, sau, ownL, own, put, asL_lst, ch, sp2, sp2F, is, Zr.r1, r2, lr, oN, oS, sl, isi, sf, lc, gtp, gsc, gsn, mkD, mtD, Zr.prD, fld, en, zp, zp3, ast, rv, sfl, isOb, setF, List.map_cons, itD_tup, itD_lst, List.append_eq, beq_self_eq_true, Int.natCast_zero, eq_self,
  subD_int, divD_int, modD_int, powD_int, mulD_int, oI_some, addD_int, iNeg_int, ltD_int, leD_int, gtD_int, geD_int, nInt_int, nInt_bl, nAbs_int, nLen_lst, nLen_tup, nLen_scr, nMax2_int, nMin2_int, nTup_tup, nTup_lst, nLst_tup, nLst_lst, nLst_scr, ixD_lst, ixD_tup, itD_lst, itD_tup, itD_scr, isN_non, noN_non, isN_bl, noN_bl, slD_lst, slD_tup, slD_scr, isNonD_non, isNonD_int, isNonD_tup, isNonD_lst, isNonD_str, isNonD_bl, kind_int, kind_bl, kind_non, kind_str, kind_tup, kind_lst, kind_ob, eqD_int, neD_int,
  notIo_eq, nio_no, nio_va, nio_ow, isO_no, isO_va, isO_ow, isO_io, List.set_cons_zero, List.set_cons_succ, List.getElem?_cons_zero, List.getElem?_cons_succ, List.length_cons, List.length_nil, List.replicate, List.append, List.cons_append, List.nil_append, if_true, if_false, ite_true, ite_false, Option.bind_some, Option.bind_none, List.map_nil, List.append_nil, Nat.reduceAdd, Nat.reduceEqDiff, Nat.reduceLT, atI_0, atI_1, atI_2, ixN_0, ixN_1, ixN_2, Bool.and_true, Bool.true_and, Bool.not_true, Bool.not_false, Bool.and_self, Bool.and_false, Bool.false_and, List.contains_nil, Bool.false_eq_true, sizeLine_eq, Nat.reduceLeDiff, Nat.reducePow, addD_lst, addD_tup, Nat.zero_le, Nat.le_refl])
local macro_rules | `(tactic| walk_at "zh") => `(tactic| simp only [nm, kc, u1, b2, ac, an, cn, dl, dt, tb, tv, vnot, vand, vor, tnot, tand, tor, fi, ss, sq, sk, sa, gn, so, sr, srf, sx, sv, srn, sbk, sct, callD, dflt, bv, Zr.bi, bn, argsD, putD, iosOf, onceD, fnD, fnF, outs, oix, oln, app, gst, sag, sau, ownL, own, put, asL_lst, ch, sp2, sp2F, is, Zr.r1, r2, lr, oN, oS, sl, isi, sf, lc, gtp, gsc, gsn, mkD, mtD, Zr.prD, fld, en, zp, zp3, ast, rv, sfl, isOb, setF, List.map_cons, itD_tup, itD_lst, List.append_eq, beq_self_eq_true, Int.natCast_zero, eq_self,
  subD_int, divD_int, modD_int, powD_int, mulD_int, oI_some, addD_int, iNeg_int, ltD_int, leD_int, gtD_int, geD_int, nInt_int, nInt_bl, nAbs_int, nLen_lst, nLen_tup, nLen_scr, nMax2_int, nMin2_int, nTup_tup, nTup_lst, nLst_tup, nLst_lst, nLst_scr, ixD_lst, ixD_tup, itD_lst, itD_tup, itD_scr, isN_non, noN_non, isN_bl, noN_bl, slD_lst, slD_tup, slD_scr, isNonD_non, isNonD_int, isNonD_tup, isNonD_lst, isNonD_str, isNonD_bl, kind_int, kind_bl, kind_non, kind_str, kind_tup, kind_lst, kind_ob, eqD_int, neD_int,
  notIo_eq, nio_no, nio_va, nio_ow, isO_no, isO_va, isO_ow, isO_io, List.set_cons_zero, List.set_cons_succ, List.getElem?_cons_zero, List.getElem?_cons_succ, List.length_cons, List.length_nil, List.replicate, List.append, List.cons_append, List.nil_append, if_true, if_false, ite_true, ite_false, Option.bind_some, Option.bind_none, List.map_nil, List.append_nil, Nat.reduceAdd, Nat.reduceEqDiff, Nat.reduceLT, atI_0, atI_1, atI_2, ixN_0, ixN_1, ixN_2, Bool.and_true, Bool.true_and, Bool.not_true, Bool.not_false, Bool.and_self, Bool.and_false, Bool.false_and, List.contains_nil, Bool.false_eq_true, sizeLine_eq, Nat.reduceLeDiff, Nat.reducePow, addD_lst, addD_tup, Nat.zero_le, Nat.le_refl, decide_true, decide_false, *])
local macro_rules | `(tactic| wp_walk using $ts:term,*) => `(tactic| simp only [nm, kc, u1, b2, ac, an, cn, dl, dt, tb, tv, vnot, vand, vor, tnot, tand, tor, fi, ss, sq, sk, sa, gn, so, sr, srf, sx, sv, srn, sbk, sct, callD, dflt, bv, Zr.bi, bn, argsD, putD, iosOf, onceD, fnD, fnF, outs, oix, oln, app, gst, sag, sau, ownL, own, put, asL_lst, ch, sp2, sp2F, is, Zr.r1, r2, lr, oN, oS, sl, isi, sf, lc, gtp, gsc, gsn, mkD, mtD, Zr.prD, fld, en, zp, zp3, ast, rv, sfl, isOb, setF, List.map_cons, itD_tup, itD_lst, List.append_eq, beq_self_eq_true, Int.natCast_zero, eq_self, subD_int, divD_int, modD_int, powD_int, mulD_int, oI_some, addD_int, iNeg_int, ltD_int, leD_int, gtD_int, geD_int, nInt_int, nInt_bl, nAbs_int, nLen_lst, nLen_tup, nLen_scr, nMax2_int, nMin2_int, nTup_tup, nTup_lst, nLst_tup, nLst_lst, nLst_scr, ixD_lst, ixD_tup, itD_scr, isN_non, noN_non, isN_bl, noN_bl, slD_lst, slD_tup, slD_scr, isNonD_non, isNonD_int, isNonD_tup, isNonD_lst, isNonD_str, isNonD_bl, kind_int, kind_bl, kind_non, kind_str, kind_tup, kind_lst, kind_ob, eqD_int, neD_int, notIo_eq, nio_no, nio_va, nio_ow, isO_no, isO_va, isO_ow, isO_io, List.set_cons_zero, List.set_cons_succ, List.getElem?_cons_zero, List.getElem?_cons_succ, List.length_cons, List.length_nil, List.replicate, List.append, List.cons_append, List.nil_append, if_true, if_false, ite_true, ite_false, Option.bind_some, Option.bind_none, List.map_nil, List.append_nil, Nat.reduceAdd, Nat.reduceEqDiff, Nat.reduceLT, atI_0, atI_1, atI_2, ixN_0, ixN_1, ixN_2, Bool.and_true, Bool.true_and, Bool.not_true, Bool.not_false, Bool.and_self, Bool.and_false, Bool.false_and, List.contains_nil, Bool.false_eq_true, sizeLine_eq, Nat.reduceLeDiff, Nat.reducePow, addD_lst, addD_tup, Nat.zero_le, Nat.le_refl, decide_true, decide_false, orK, notB, atI_3, $[$ts:term],*])

/-! the law's own defs -/
def BoxOk (n : Nat) (d : D) : Prop := ∃ a b c : Int, d = .lst [.int a, .int b, .int c] ∧ 0 ≤ b ∧ b < 4294967296 ∧ 0 ≤ c ∧ c ≤ n
theorem choose_eq {n : Nat} {x : D} (hn : n < 100000) (hx : BoxOk n x) (m : Int) (hm : 0 < m) (hm2 : m < 10000000000) : ∃ r x', F_law_choose [.io x, .va (.int m)] = some (.int r, [.io x', .no]) ∧ 0 ≤ r ∧ r < m ∧ BoxOk (n + 1) x' := by
  obtain ⟨a, b, c, rfl, hb, hb2, hc, hc2⟩ := hx
  unfold F_law_choose B_law_choose
  have e1 : ∀ x, iMod x m = some (x % m) := fun x => iMod_pos hm
  have e2 : ∀ x, iDiv x m = some (x / m) := fun x => iDiv_64 hm (by omega)
  by_cases h : 0 < a
  · walk_at "zh"
    exact ⟨_, _, rfl, Int.emod_nonneg a (by omega), Int.emod_lt_of_pos a hm, _, _, _, rfl, hb, hb2, hc, by omega⟩
  · have e3 : iMul 104729 (c + 1) = some (104729 * (c + 1)) := iMul_64 (by decide) (by omega)
    have e4 : iMul (b + 104729 * (c + 1)) 69621 = some ((b + 104729 * (c + 1)) * 69621) := iMul_64 (by omega) (by decide)
    have e5 : iMod ((b + 104729 * (c + 1)) * 69621) 2147483647 = some ((b + 104729 * (c + 1)) * 69621 % 2147483647) := iMod_pos (by decide)
    generalize hx : (b + 104729 * (c + 1)) * 69621 % 2147483647 = x at e5
    have x0 : 0 ≤ x ∧ x < 2147483647 := by omega
    have e6 : iMul x 48271 = some (x * 48271) := iMul_64 (by omega) (by decide)
    have e7 : iMod (x * 48271 + 30103) 2147483629 = some ((x * 48271 + 30103) % 2147483629) := iMod_pos (by decide)
    generalize hy : (x * 48271 + 30103) % 2147483629 = y at e7
    have y0 : 0 ≤ y ∧ y < 2147483629 := by omega
    have e8 : iMul x 2147483647 = some (x * 2147483647) := iMul_64 (by omega) (by decide)
    have e9 : ∀ x, iDiv x 8191 = some (x / 8191) := fun x => iDiv_64 (by decide) (by decide)
    walk_at "zh"
    exact ⟨_, _, rfl, Int.emod_nonneg _ (by omega), Int.emod_lt_of_pos _ hm, _, _, _, rfl, by omega, by omega, by omega, by omega⟩
theorem seed_eq (ns : List Int) (k : Int) (h0 : 0 ≤ k) (h1 : k < 4) : ∃ x, F_law_seed [.va (.scr ns), .va (.int k)] = some (x, [.no, .no]) ∧ BoxOk 0 x := by
  have lp : ∀ (xs : List D) (u : D) (s1 s2 : Sl), (∀ y ∈ xs, ∃ j : Int, y = .int j) → ∀ t : Int, (0 ≤ t ∧ t < 2147483647) → ∀ s4 : Sl, s4.isO = false →
      ∃ (t' : Int) (s4' : Sl), 0 ≤ t' ∧ t' < 2147483647 ∧ s4'.isO = false ∧ fo (gn 4) L_law_seed_1 xs [.va u, s1, s2, .va (.int t), s4] = some (.nx, [.va u, s1, s2, .va (.int t'), s4']) := by
    intro xs u s1 s2
    induction xs with
    | nil => intro _ t ht s4 h4; exact ⟨t, s4, ht.1, ht.2, h4, rfl⟩
    | cons y ys ih =>
      intro hy t ht s4 h4
      obtain ⟨j, rfl⟩ := hy y List.mem_cons_self
      have n4 := nio_of h4
      have m1 : iMul t 48271 = some (t * 48271) := iMul_64 (by omega) (by decide)
      have m2 : ∀ x, iMod x 2147483629 = some (x % 2147483629) := fun x => iMod_pos (by decide)
      have m3 : ∀ x, iMod x 2147483647 = some (x % 2147483647) := fun x => iMod_pos (by decide)
      have b1 : L_law_seed_1 [.va u, s1, s2, .va (.int t), .va (.int j)] = some (.nx, [.va u, s1, s2, .va (.int ((t * 48271 + (if j < 0 then -j else j) % 2147483629 + 19) % 2147483647)), .va (.int j)]) := by
        clear ih
        unfold L_law_seed_1
        walk_at "zh"
      obtain ⟨t', s4', q1, q2, q3, q4⟩ := ih (fun z hz => hy z (List.mem_cons_of_mem _ hz)) ((t * 48271 + (if j < 0 then -j else j) % 2147483629 + 19) % 2147483647) ⟨Int.emod_nonneg _ (by decide), Int.emod_lt_of_pos _ (by decide)⟩ (.va (.int j)) rfl
      refine ⟨t', s4', q1, q2, q3, ?_⟩
      rw [fo_nx (d1 := [.va u, s1, s2, .va (.int t), .va (.int j)]) (by clear ih b1 q4; walk_at "zh") b1]
      exact q4
  have e5 : iMul 7919 k = some (7919 * k) := iMul_64 (by decide) (by omega)
  have e3 : iPow 10 18 = some 1000000000000000000 := by decide
  have e6 : itD (.lst ((cutL ns none (some 56)).map D.int)) = some ((cutL ns none (some 56)).map D.int) := rfl
  have hy : ∀ y ∈ (cutL ns none (some 56)).map D.int, ∃ j : Int, y = .int j := fun y hy => by
    obtain ⟨j, _, rfl⟩ := List.mem_map.mp hy
    exact ⟨j, rfl⟩
  generalize hcs : (cutL ns none (some 56)).map D.int = cs at *
  have hs : slD (.scr ns) none (some 56) = some (.lst cs) := by rw [slD_scr, hcs]
  by_cases hk : k < ns.length
  · obtain ⟨n, hn⟩ : ∃ n, atI ns k = some n := by
      rw [atI_pos h0]
      exact ⟨ns[k.toNat]'(by omega), List.getElem?_eq_getElem _⟩
    have hn := ixD_scr hn
    generalize hc : (if n < 0 then -n else n) = c
    obtain ⟨t', s4', q1, q2, q3, q4⟩ := lp cs (.scr ns) (.va (.int k)) (.va (.int c)) hy (50331653 + 7919 * k) (by omega) .no rfl
    by_cases h : (1000000000000000000 : Int) ≤ c
    · refine ⟨.lst [.int c, .int t', .int 0], ?_, _, _, _, rfl, q1, by omega, by omega, by omega⟩
      unfold F_law_seed B_law_seed
      clear lp hy hcs
      walk_at "zh"
    · refine ⟨.lst [.int 0, .int t', .int 0], ?_, _, _, _, rfl, q1, by omega, by omega, by omega⟩
      unfold F_law_seed B_law_seed
      clear lp hy hcs
      walk_at "zh"
  · obtain ⟨t', s4', q1, q2, q3, q4⟩ := lp cs (.scr ns) (.va (.int k)) (.va (.int 0)) hy (50331653 + 7919 * k) (by omega) .no rfl
    have h : ¬ (1000000000000000000 : Int) ≤ 0 := by decide
    refine ⟨.lst [.int 0, .int t', .int 0], ?_, _, _, _, rfl, q1, by omega, by omega, by omega⟩
    unfold F_law_seed B_law_seed
    clear lp hy hcs
    walk_at "zh"

/-! draws of the box of three numbers -/
theorem BoxOk.mono {n m : Nat} {x : D} (h : BoxOk n x) (hm : n ≤ m) : BoxOk m x := by
  obtain ⟨a, b, c, e, h1, h2, h3, h4⟩ := h
  exact ⟨a, b, c, e, h1, h2, h3, by omega⟩
theorem one_eq {n : Nat} {x : D} {ds : List D} (hn : n < 100000) (hx : BoxOk n x) (h0 : 0 < ds.length) (h1 : ds.length < 1000) : ∃ d x', F_law_one_of [.io x, .va (.lst ds)] = some (d, [.io x', .no]) ∧ d ∈ ds ∧ BoxOk (n + 1) x' := by
  obtain ⟨r, x', e, r0, r1, hx'⟩ := choose_eq hn hx ds.length (by omega) (by omega)
  have hr : r.toNat < ds.length := by omega
  have e2 : atI ds r = some ds[r.toNat] := by rw [atI_pos r0, List.getElem?_eq_getElem hr]
  refine ⟨ds[r.toNat], x', ?_, List.getElem_mem hr, hx'⟩
  unfold F_law_one_of B_law_one_of
  generalize ds[r.toNat] = w at *
  wp_walk using e, e2
theorem ints_of {Q : Int → Prop} : ∀ {ys : List D}, (∀ v ∈ ys, ∃ c : Int, v = .int c ∧ Q c) → ∃ cs : List Int, ys = cs.map D.int ∧ ∀ c ∈ cs, Q c
  | [], _ => ⟨[], rfl, fun _ h => nomatch h⟩
  | y :: ys, h => by
    obtain ⟨c, rfl, hc⟩ := h y List.mem_cons_self
    obtain ⟨cs, rfl, hcs⟩ := ints_of fun v hv => h v (List.mem_cons_of_mem _ hv)
    exact ⟨c :: cs, rfl, fun d hd => by
      rcases List.mem_cons.mp hd with rfl | hd
      · exact hc
      · exact hcs d hd⟩
theorem bt_of {k : Nat} {c : Int} (h : c.natAbs < 2 ^ k) : bt k c := h

end K01

namespace K01
open PySem L2 Zr
local macro_rules | `(tactic| walk_at "zs") => `(tactic| simp only [nm, kc, u1, b2, ac, an, cn, dl, dt, tb, tv, vnot, vand, vor, tnot, tand, tor, fi, ss, sq, sk, sa, gn, so, sr, srf, sx, sv, srn, sbk, sct, callD, dflt, bv, Zr.bi, bn, argsD, putD, iosOf, onceD, fnD, fnF, outs, oix, oln, app, gst, sag, sau, ownL, own, put, asL_lst, ch, sp2, sp2F, is, Zr.r1, r2, lr, oN, oS, sl, isi, sf, lc, gtp, gsc, gsn, mkD, mtD, Zr.prD, fld, en, zp, ast, rv, sfl, isOb, setF, List.map_cons, itD_tup, itD_lst, List.append_eq, beq_self_eq_true, Int.natCast_zero, eq_self,
  subD_int, divD_int, modD_int, powD_int, mulD_int, oI_some, addD_int, iNeg_int, ltD_int, leD_int, gtD_int, geD_int, nInt_int, nInt_bl, nAbs_int, nLen_lst, nLen_tup, nLen_scr, nMax2_int, nMin2_int, nTup_tup, nTup_lst, nLst_tup, nLst_lst, nLst_scr, ixD_lst, ixD_tup, itD_lst, itD_tup, itD_scr, isN_non, noN_non, isN_bl, noN_bl, slD_lst, slD_tup, slD_scr, isNonD_non, isNonD_int, isNonD_tup, isNonD_lst, isNonD_str, isNonD_bl, kind_int, kind_bl, kind_non, kind_str, kind_tup, kind_lst, kind_ob, eqD_int, neD_int,
  notIo_eq, nio_no, nio_va, nio_ow, isO_no, isO_va, isO_ow, isO_io, List.set_cons_zero, List.set_cons_succ, List.getElem?_cons_zero, List.getElem?_cons_succ, List.length_cons, List.length_nil, List.replicate, List.append, List.cons_append, List.nil_append, if_true, if_false, ite_true, ite_false, Option.bind_some, Option.bind_none, List.map_nil, List.append_nil, Nat.reduceAdd, Nat.reduceEqDiff, Nat.reduceLT, atI_0, atI_1, atI_2, ixN_0, ixN_1, ixN_2, Bool.and_true, Bool.true_and, Bool.not_true, Bool.not_false, Bool.and_self, Bool.and_false, Bool.false_and, List.contains_nil, Bool.false_eq_true, sizeLine_eq, Nat.reduceLeDiff, Nat.reducePow, addD_lst, addD_tup, Nat.zero_le, Nat.le_refl])
local macro_rules | `(tactic| walk_at "zh") => `(tactic| simp only [nm, kc, u1, b2, ac, an, cn, dl, dt, tb, tv, vnot, vand, vor, tnot, tand, tor, fi, ss, sq, sk, sa, gn, so, sr, srf, sx, sv, srn, sbk, sct, callD, dflt, bv, Zr.bi, bn, argsD, putD, iosOf, onceD, fnD, fnF, outs, oix, oln, app, gst, sag, sau, ownL, own, put, asL_lst, ch, sp2, sp2F, is, Zr.r1, r2, lr, oN, oS, sl, isi, sf, lc, gtp, gsc, gsn, mkD, mtD, Zr.prD, fld, en, zp, ast, rv, sfl, isOb, setF, List.map_cons, itD_tup, itD_lst, List.append_eq, beq_self_eq_true, Int.natCast_zero, eq_self,
  subD_int, divD_int, modD_int, powD_int, mulD_int, oI_some, addD_int, iNeg_int, ltD_int, leD_int, gtD_int, geD_int, nInt_int, nInt_bl, nAbs_int, nLen_lst, nLen_tup, nLen_scr, nMax2_int, nMin2_int, nTup_tup, nTup_lst, nLst_tup, nLst_lst, nLst_scr, ixD_lst, ixD_tup, itD_lst, itD_tup, itD_scr, isN_non, noN_non, isN_bl, noN_bl, slD_lst, slD_tup, slD_scr, isNonD_non, isNonD_int, isNonD_tup, isNonD_lst, isNonD_str, isNonD_bl, kind_int, kind_bl, kind_non, kind_str, kind_tup, kind_lst, kind_ob, eqD_int, neD_int,
  notIo_eq, nio_no, nio_va, nio_ow, isO_no, isO_va, isO_ow, isO_io, List.set_cons_zero, List.set_cons_succ, List.getElem?_cons_zero, List.getElem?_cons_succ, List.length_cons, List.length_nil, List.replicate, List.append, List.cons_append, List.nil_append, if_true, if_false, ite_true, ite_false, Option.bind_some, Option.bind_none, List.map_nil, List.append_nil, Nat.reduceAdd, Nat.reduceEqDiff, Nat.reduceLT, atI_0, atI_1, atI_2, ixN_0, ixN_1, ixN_2, Bool.and_true, Bool.true_and, Bool.not_true, Bool.not_false, Bool.and_self, Bool.and_false, Bool.false_and, List.contains_nil, Bool.false_eq_true, sizeLine_eq, Nat.reduceLeDiff, Nat.reducePow, addD_lst, addD_tup, Nat.zero_le, Nat.le_refl, decide_true, decide_false, *])

local macro_rules | `(tactic| walk_at "zs") => `(tactic| simp only [nm, kc, u1, b2, ac, an, cn, dl, dt, tb, tv, vnot, vand, vor, tnot, tand, tor, fi, ss, sq, sk, sa, gn, so, sr, srf, sx, sv, srn, sbk, sct, callD, dflt, bv, Zr.bi, bn, argsD, putD, iosOf, onceD, fnD, fnF, outs, oix, oln, app, gst, sag, sau, ownL, own, put, asL_lst, ch, sp2, sp2F, is, Zr.r1, r2, lr, oN, oS, sl, isi, sf, lc, gtp, gsc, gsn, mkD, mtD, Zr.prD, fld, en, zp, zp3, ast, rv, sfl, isOb, setF, List.map_cons, itD_tup, itD_lst, List.append_eq, beq_self_eq_true, Int.natCast_zero, eq_self,
  subD_int, divD_int, modD_int, powD_int, mulD_int, oI_some, addD_int, iNeg_int, ltD_int, leD_int, gtD_int, geD_int, nInt_int, nInt_bl, nAbs_int, nLen_lst, nLen_tup, nLen_scr, nMax2_int, nMin2_int, nTup_tup, nTup_lst, nLst_tup, nLst_lst, nLst_scr, ixD_lst, ixD_tup, itD_lst, itD_tup, itD_scr, isN_non, noN_non, isN_bl, noN_bl, slD_lst, slD_tup, slD_scr, isNonD_non, isNonD_int, isNonD_tup, isNonD_lst, isNonD_str, isNonD_bl, kind_int, kind_bl, kind_non, kind_str, kind_tup, kind_lst, kind_ob, eqD_int, neD_int,
  notIo_eq, nio_no, nio_va, nio_ow, isO_no, isO_va, isO_ow, isO_io, List.set_cons_zero, List.set_cons_succ, List.getElem?_cons_zero, List.getElem?_cons_succ, List.length_cons, List.length_nil, List.replicate, List.append, List.cons_append, List.nil_append, if_true, if_false, ite_true, ite_false, Option.bind_some, Option.bind_none, List.map_nil, List.append_nil, Nat.reduceAdd, Nat.reduceEqDiff, Nat.reduceLT, atI_0, atI_1, atI_2, ixN_0, ixN_1, ixN_2, Bool.and_true, Bool.true_and, Bool.not_true, Bool.not_false, Bool.and_self, Bool.and_false, Bool.false_and, List.contains_nil, Bool.false_eq_true, sizeLine_eq, Nat.reduceLeDiff, Nat.reducePow, addD_lst, addD_tup, Nat.zero_le, Nat.le_refl])
local macro_rules | `(tactic| walk_at "zh") => `(tactic| simp only [nm, kc, u1, b2, ac, an, cn, dl, dt, tb, tv, vnot, vand, vor, tnot, tand, tor, fi, ss, sq, sk, sa, gn, so, sr, srf, sx, sv, srn, sbk, sct, callD, dflt, bv, Zr.bi, bn, argsD, putD, iosOf, onceD, fnD, fnF, outs, oix, oln, app, gst, sag, sau, ownL, own, put, asL_lst, ch, sp2, sp2F, is, Zr.r1, r2, lr, oN, oS, sl, isi, sf, lc, gtp, gsc, gsn, mkD, mtD, Zr.prD, fld, en, zp, zp3, ast, rv, sfl, isOb, setF, List.map_cons, itD_tup, itD_lst, List.append_eq, beq_self_eq_true, Int.natCast_zero, eq_self,
  subD_int, divD_int, modD_int, powD_int, mulD_int, oI_some, addD_int, iNeg_int, ltD_int, leD_int, gtD_int, geD_int, nInt_int, nInt_bl, nAbs_int, nLen_lst, nLen_tup, nLen_scr, nMax2_int, nMin2_int, nTup_tup, nTup_lst, nLst_tup, nLst_lst, nLst_scr, ixD_lst, ixD_tup, itD_lst, itD_tup, itD_scr, isN_non, noN_non, isN_bl, noN_bl, slD_lst, slD_tup, slD_scr, isNonD_non, isNonD_int, isNonD_tup, isNonD_lst, isNonD_str, isNonD_bl, kind_int, kind_bl, kind_non, kind_str, kind_tup, kind_lst, kind_ob, eqD_int, neD_int,
  notIo_eq, nio_no, nio_va, nio_ow, isO_no, isO_va, isO_ow, isO_io, List.set_cons_zero, List.set_cons_succ, List.getElem?_cons_zero, List.getElem?_cons_succ, List.length_cons, List.length_nil, List.replicate, List.append, List.cons_append, List.nil_append, if_true, if_false, ite_true, ite_false, Option.bind_some, Option.bind_none, List.map_nil, List.append_nil, Nat.reduceAdd, Nat.reduceEqDiff, Nat.reduceLT, atI_0, atI_1, atI_2, ixN_0, ixN_1, ixN_2, Bool.and_true, Bool.true_and, Bool.not_true, Bool.not_false, Bool.and_self, Bool.and_false, Bool.false_and, List.contains_nil, Bool.false_eq_true, sizeLine_eq, Nat.reduceLeDiff, Nat.reducePow, addD_lst, addD_tup, Nat.zero_le, Nat.le_refl, decide_true, decide_false, *])
local macro_rules | `(tactic| wp_walk using $ts:term,*) => `(tactic| simp only [nm, kc, u1, b2, ac, an, cn, dl, dt, tb, tv, vnot, vand, vor, tnot, tand, tor, fi, ss, sq, sk, sa, gn, so, sr, srf, sx, sv, srn, sbk, sct, callD, dflt, bv, Zr.bi, bn, argsD, putD, iosOf, onceD, fnD, fnF, outs, oix, oln, app, gst, sag, sau, ownL, own, put, asL_lst, ch, sp2, sp2F, is, Zr.r1, r2, lr, oN, oS, sl, isi, sf, lc, gtp, gsc, gsn, mkD, mtD, Zr.prD, fld, en, zp, zp3, ast, rv, sfl, isOb, setF, List.map_cons, itD_tup, itD_lst, List.append_eq, beq_self_eq_true, Int.natCast_zero, eq_self, subD_int, divD_int, modD_int, powD_int, mulD_int, oI_some, addD_int, iNeg_int, ltD_int, leD_int, gtD_int, geD_int, nInt_int, nInt_bl, nAbs_int, nLen_lst, nLen_tup, nLen_scr, nMax2_int, nMin2_int, nTup_tup, nTup_lst, nLst_tup, nLst_lst, nLst_scr, ixD_lst, ixD_tup, itD_scr, isN_non, noN_non, isN_bl, noN_bl, slD_lst, slD_tup, slD_scr, isNonD_non, isNonD_int, isNonD_tup, isNonD_lst, isNonD_str, isNonD_bl, kind_int, kind_bl, kind_non, kind_str, kind_tup, kind_lst, kind_ob, eqD_int, neD_int, notIo_eq, nio_no, nio_va, nio_ow, isO_no, isO_va, isO_ow, isO_io, List.set_cons_zero, List.set_cons_succ, List.getElem?_cons_zero, List.getElem?_cons_succ, List.length_cons, List.length_nil, List.replicate, List.append, List.cons_append, List.nil_append, if_true, if_false, ite_true, ite_false, Option.bind_some, Option.bind_none, List.map_nil, List.append_nil, Nat.reduceAdd, Nat.reduceEqDiff, Nat.reduceLT, atI_0, atI_1, atI_2, ixN_0, ixN_1, ixN_2, Bool.and_true, Bool.true_and, Bool.not_true, Bool.not_false, Bool.and_self, Bool.and_false, Bool.false_and, List.contains_nil, Bool.false_eq_true, sizeLine_eq, Nat.reduceLeDiff, Nat.reducePow, addD_lst, addD_tup, Nat.zero_le, Nat.le_refl, decide_true, decide_false, orK, notB, atI_3, $[$ts:term],*])

def LR : D → Prop
  | .int i => i.natAbs.log2 < 1920
  | .str s => (reprText s).length ≤ sizeLine ∧ PyData.strOk (reprText s) = true
  | .tup _ => True
  | .lst _ => True
  | .bl _ => True
  | .non => True
  | _ => False
def Qk (k : Nat) (d : D) : Prop := Rp (2000 * 5 ^ k) (k + 1) d ∧ pv (k + 1) d = true ∧ LR d
theorem p5 (k : Nat) : 2000 ≤ 2000 * 5 ^ k := Nat.le_mul_of_pos_right _ (Nat.pow_pos (by decide))
theorem q_leaf {k : Nat} {d : D} (h : Rp 1001 1 d) (h2 : pv 1 d = true) (h3 : LR d) : Qk k d := ⟨h.mono (by have := p5 k; omega) (by omega), pv_mono h2 (by omega), h3⟩
theorem rp_strL {s : Str} (h1 : (PyData.str s).showable = true) (h2 : (PyData.str s).shown.length ≤ 1001) (h3 : PyData.strOk (PyData.str s).shown = true) : Rp 1001 1 (.str s) := ⟨.str s, rfl, h1, rfl, by simp [PyData.depth], h2, h3⟩
theorem odds_q {k : Nat} : ∀ d ∈ ([.non, .bl true, .bl false, .int 0, .int 1, .int (-3), .int 100000000000000000, .str "", .str "a", .str "0: 1 / 2", .str "0:", .str "x", .tup [], .lst []] : List D), Qk k d := by
  intro d hd
  simp only [List.mem_cons, List.not_mem_nil, or_false] at hd
  have nl : ∀ y ∈ ([] : List D), Rp 1 0 y := fun y hy => nomatch hy
  rcases hd with rfl | rfl | rfl | rfl | rfl | rfl | rfl | rfl | rfl | rfl | rfl | rfl | rfl | rfl
  · exact q_leaf (Rp.non.mono (by decide) (by decide)) rfl trivial
  · exact q_leaf ((Rp.bl true).mono (by decide) (by decide)) rfl trivial
  · exact q_leaf ((Rp.bl false).mono (by decide) (by decide)) rfl trivial
  · exact q_leaf ((Rp.int (by unfold bt; decide)).mono (by decide) (by decide)) rfl (by show Nat.log2 0 < 1920; decide)
  · exact q_leaf ((Rp.int (by unfold bt; decide)).mono (by decide) (by decide)) rfl (by show Nat.log2 1 < 1920; decide)
  · exact q_leaf ((Rp.int (by unfold bt; decide)).mono (by decide) (by decide)) rfl (by show Nat.log2 3 < 1920; decide)
  · exact q_leaf ((Rp.int (by unfold bt; decide)).mono (by decide) (by decide)) rfl (by show Nat.log2 100000000000000000 < 1920; decide +kernel)
  · exact q_leaf (rp_strL (by kernel_rfl) (by decide +kernel) (by kernel_rfl)) (by kernel_rfl) ⟨by decide +kernel, by kernel_rfl⟩
  · exact q_leaf (rp_strL (by kernel_rfl) (by decide +kernel) (by kernel_rfl)) (by kernel_rfl) ⟨by decide +kernel, by kernel_rfl⟩
  · exact q_leaf (rp_strL (by kernel_rfl) (by decide +kernel) (by kernel_rfl)) (by kernel_rfl) ⟨by decide +kernel, by kernel_rfl⟩
  · exact q_leaf (rp_strL (by kernel_rfl) (by decide +kernel) (by kernel_rfl)) (by kernel_rfl) ⟨by decide +kernel, by kernel_rfl⟩
  · exact q_leaf (rp_strL (by kernel_rfl) (by decide +kernel) (by kernel_rfl)) (by kernel_rfl) ⟨by decide +kernel, by kernel_rfl⟩
  · exact q_leaf ((Rp.tup nl).mono (by decide) (by decide)) rfl trivial
  · exact q_leaf ((Rp.lst nl).mono (by decide) (by decide)) rfl trivial
theorem q_tup {k : Nat} {ys : List D} (hk : 1 ≤ k) (l : ys.length ≤ 2) (h : ∀ y ∈ ys, Qk (k - 1) y) : Qk k (.tup ys) := by
  obtain ⟨j, rfl⟩ : ∃ j, k = j + 1 := ⟨k - 1, by omega⟩
  have h : ∀ y ∈ ys, Qk j y := h
  have l2 := Nat.mul_le_mul_left (2000 * 5 ^ j) l
  have := p5 j
  exact ⟨(Rp.tup fun y hy => (h y hy).1).mono (by rw [Nat.pow_succ]; omega) (Nat.le_refl _), pvL_iff.mpr fun y hy => (h y hy).2.1, trivial⟩
theorem q_lst {k : Nat} {ys : List D} (hk : 1 ≤ k) (l : ys.length ≤ 2) (h : ∀ y ∈ ys, Qk (k - 1) y) : Qk k (.lst ys) := by
  obtain ⟨j, rfl⟩ : ∃ j, k = j + 1 := ⟨k - 1, by omega⟩
  have h : ∀ y ∈ ys, Qk j y := h
  have l2 := Nat.mul_le_mul_left (2000 * 5 ^ j) l
  have := p5 j
  exact ⟨(Rp.lst fun y hy => (h y hy).1).mono (by rw [Nat.pow_succ]; omega) (Nat.le_refl _), pvL_iff.mpr fun y hy => (h y hy).2.1, trivial⟩
theorem repr_ok {k : Nat} {d : D} (h : Qk k d) (hk : k ≤ 4) : ∃ s, nReprQ [d] = some (.str s) ∧ neD (.str s) (.str s) = some (.bl false) := by
  obtain ⟨a, _, c⟩ := h
  have b : 2000 * 5 ^ k ≤ 16777216 := by
    have := Nat.mul_le_mul_left 2000 (Nat.pow_le_pow_right (n := 5) (by decide) hk)
    omega
  cases d with
  | tup ds =>
    obtain ⟨s, e1, e2, _⟩ := a.tupS b (by omega)
    exact ⟨s, e1, e2⟩
  | lst ds =>
    obtain ⟨s, e1, e2, _⟩ := a.lstS b (by omega)
    exact ⟨s, e1, e2⟩
  | int i =>
    refine ⟨toString i, ?_, neD_same (b := false) (strOk_of _)⟩
    show (if i.natAbs.log2 < 1920 then some (D.str (toString i)) else none) = _
    rw [if_pos (show i.natAbs.log2 < 1920 from c)]
    try rfl
  | bl b => exact ⟨_, rfl, by cases b <;> exact neD_same (b := false) (strOk_of _)⟩
  | non => exact ⟨"None", rfl, neD_same (b := false) (strOk_of _)⟩
  | str s =>
    refine ⟨reprText s, ?_, neD_same (b := false) c.2⟩
    show (if (reprText s).length ≤ sizeLine then some (D.str (reprText s)) else none) = _
    rw [if_pos (show (reprText s).length ≤ sizeLine from c.1)]
  | _ => exact c.elim
theorem ne_self {n : Nat} {d : D} (h : pv n d = true) (hn : n ≤ 64) : neD d d = some (.bl false) := by
  obtain ⟨p, e, c, dp⟩ := pv_py h
  have s1 : SeqAt.shaped p = true := by
    unfold SeqAt.shaped
    rw [c, decide_eq_true (Nat.le_trans dp hn)]
    rfl
  unfold neD eqP
  simp only [e, s1, Bool.and_self, if_true]
  rw [PySem.SeqAt.eqv_refl p c]
  rfl
section
variable {x x1 x2 d : D} {k n : Int} {s3 s4 s5 : Sl} {ys : List D} {Frec : FD}
theorem an1 (c : F_law_choose [.io x, .va (.int 9)] = some (.int n, [.io x1, .no])) : ((sa (callD F_law_choose (dflt [] (bi 0 (bv (kc (.int 9)) bn)))) (gn 2))) [.io x, .va (.int k), .no, .no, .no, .no] = some (.nx, [.io x1, .va (.int k), .va (.int n), .no, .no, .no]) := by
  wp_walk using c
theorem an2y (z : k < 1 ∨ n < 5) (e : F_law_one_of [.io x, .va (.lst [.non, .bl true, .bl false, .int 0, .int 1, .int (-3), .int 100000000000000000, .str "", .str "a", .str "0: 1 / 2", .str "0:", .str "x", .tup [], .lst []])] = some (d, [.io x1, .no])) : ((ss (tor (tb (b2 ltD (nm 1) (kc (.int 1)))) (tb (b2 ltD (nm 2) (kc (.int 5)))))
  (sq (sa (dl (ac (kc .non) (ac (kc (.bl true)) (ac (kc (.bl false)) (ac (kc (.int 0)) (ac (kc (.int 1)) (ac (u1 iNeg (kc (.int 3))) (ac (b2 powD (kc (.int 10)) (kc (.int 17))) (ac (kc (.str "")) (ac (kc (.str "a")) (ac (kc (.str "0: 1 / 2")) (ac (kc (.str "0:")) (ac (kc (.str "x")) (ac (dt an) (ac (dl an) an))))))))))))))) (gn 3))
  (sr (callD F_law_one_of (dflt [] (bi 0 (bv (nm 3) bn))))))
  sk)) [.io x, .va (.int k), .va (.int n), .no, .no, .no] = some (.rt d, [.io x1, .va (.int k), .va (.int n), .va (.lst [.non, .bl true, .bl false, .int 0, .int 1, .int (-3), .int 100000000000000000, .str "", .str "a", .str "0: 1 / 2", .str "0:", .str "x", .tup [], .lst []]), .no, .no]) := by
  have g : iNeg (.int 3) = some (.int (-3)) := rfl
  have g2 : powD (.int 10) (.int 17) = some (.int 100000000000000000) := rfl
  by_cases q : k < 1
  · wp_walk using q, e, g, g2
  · have q2 : n < 5 := by omega
    wp_walk using q, q2, e, g, g2
theorem an2n (z : ¬ k < 1) (z2 : ¬ n < 5) : ((ss (tor (tb (b2 ltD (nm 1) (kc (.int 1)))) (tb (b2 ltD (nm 2) (kc (.int 5)))))
  (sq (sa (dl (ac (kc .non) (ac (kc (.bl true)) (ac (kc (.bl false)) (ac (kc (.int 0)) (ac (kc (.int 1)) (ac (u1 iNeg (kc (.int 3))) (ac (b2 powD (kc (.int 10)) (kc (.int 17))) (ac (kc (.str "")) (ac (kc (.str "a")) (ac (kc (.str "0: 1 / 2")) (ac (kc (.str "0:")) (ac (kc (.str "x")) (ac (dt an) (ac (dl an) an))))))))))))))) (gn 3))
  (sr (callD F_law_one_of (dflt [] (bi 0 (bv (nm 3) bn))))))
  sk)) [.io x, .va (.int k), .va (.int n), .no, .no, .no] = some (.nx, [.io x, .va (.int k), .va (.int n), .no, .no, .no]) := by
  wp_walk using z, z2
theorem an4t (z : n < 7) (sz : ys.length ≤ sizeLine) : ((sr (fi (tb (b2 ltD (nm 2) (kc (.int 7)))) (cn nTup (ac (nm 4) an)) (nm 4)))) [.io x, .va (.int k), .va (.int n), .no, .va (.lst ys), .no] = some (.rt (.tup ys), [.io x, .va (.int k), .va (.int n), .no, .va (.lst ys), .no]) := by
  wp_walk using z, sz
theorem an4l (z : ¬ n < 7) : ((sr (fi (tb (b2 ltD (nm 2) (kc (.int 7)))) (cn nTup (ac (nm 4) an)) (nm 4)))) [.io x, .va (.int k), .va (.int n), .no, .va (.lst ys), .no] = some (.rt (.lst ys), [.io x, .va (.int k), .va (.int n), .no, .va (.lst ys), .no]) := by
  wp_walk using z
end
theorem sq_rt {A B : DS} {d d1 : Ev} {y : D} (h : A d = some (.rt y, d1)) : sq A B d = some (.rt y, d1) := by
  unfold sq
  rw [h]
theorem sa_of {f : DE} {t : DG} {d d1 d2 : Ev} {y : D} (h : f d = some (y, d1)) (g : t y d1 = some d2) : sa f t d = some (.nx, d2) := by
  unfold sa
  simp only [h, g]
theorem any_rec : ∀ (n : Nat) (k : Nat) (x : D) (q : Nat), BoxOk q x → k < n → q + 4 * 3 ^ k < 90000 → ∃ d x', FR_law_anything n [.io x, .va (.int k)] = some (d, [.io x', .no]) ∧ Qk k d ∧ BoxOk (q + 4 * 3 ^ k) x'
  | 0, k, x, q, hx, hk, hq => absurd hk (by omega)
  | n + 1, k, x, q, hx, hk, hq => by
    have pw : 1 ≤ 3 ^ k := Nat.one_le_pow _ _ (by decide)
    have key : ∀ {d : D} {d2 : Ev} {x' : D}, B_law_anything (FR_law_anything n) [.io x, .va (.int k), .no, .no, .no, .no] = some (.rt d, d2) → outs 2 d2 = [.io x', .no] → FR_law_anything (n + 1) [.io x, .va (.int k)] = some (d, [.io x', .no]) := fun {d d2 x'} h h2 => by
      show fnD 2 4 (B_law_anything (FR_law_anything n)) _ = _
      unfold fnD
      rw [if_pos (show ([Sl.io x, Sl.va (D.int k)] : Ev).length = 2 from rfl)]
      show (match B_law_anything (FR_law_anything n) [.io x, .va (.int k), .no, .no, .no, .no] with | some (.rt x, d') => some (x, outs 2 d') | some (.nx, d') => some (.non, outs 2 d') | _ => none) = _
      rw [h]
      show some (d, outs 2 d2) = _
      rw [h2]
    obtain ⟨r, x1, e1, r0, r9, hx1⟩ := choose_eq (n := q) (by omega) hx 9 (by decide) (by decide)
    by_cases z : (k : Int) < 1 ∨ r < 5
    · obtain ⟨d, x2, e2, hd, hx2⟩ := one_eq (n := q + 1) (by omega) hx1 (ds := [.non, .bl true, .bl false, .int 0, .int 1, .int (-3), .int 100000000000000000, .str "", .str "a", .str "0: 1 / 2", .str "0:", .str "x", .tup [], .lst []]) (by show 0 < 14; decide) (by show 14 < 1000; decide)
      refine ⟨d, x2, key (d2 := [.io x2, .va (.int k), .va (.int r), .va (.lst [.non, .bl true, .bl false, .int 0, .int 1, .int (-3), .int 100000000000000000, .str "", .str "a", .str "0: 1 / 2", .str "0:", .str "x", .tup [], .lst []]), .no, .no]) ?_ rfl, odds_q d hd, hx2.mono (by omega)⟩
      unfold B_law_anything
      exact sqs (an1 e1) (sq_rt (an2y z e2))
    · obtain ⟨m, x2, e2, m0, m3, hx2⟩ := choose_eq (n := q + 1) (by omega) hx1 3 (by decide) (by decide)
      obtain ⟨k', hk'⟩ : ∃ k', k = k' + 1 := ⟨k - 1, by omega⟩
      have p3' : 3 ^ k = 3 * 3 ^ (k - 1) := by rw [hk', Nat.pow_succ, Nat.add_sub_cancel]; omega
      have pw' : 1 ≤ 3 ^ (k - 1) := Nat.one_le_pow _ _ (by decide)
      have hl : (rgD 0 m).length = m.toNat := by rw [rgD_len]; omega
      have k1 : (k : Int) - 1 = ((k - 1 : Nat) : Int) := by omega
      have A4 : Zr.r1 (callD F_law_choose (dflt [] (Zr.bi 0 (bv (kc (.int 3)) bn)))) [.io x1, .va (.int k), .va (.int r), .no, .no, .no] = some (rgD 0 m, [.io x2, .va (.int k), .va (.int r), .no, .no, .no]) := by
        refine r1_of (n := m) ?_ (rg_ok (by omega) (by omega))
        wp_walk using e2
      obtain ⟨ys, x3, e3, l3, p3, hx3⟩ := lc_draw (own := [5]) (t := gn 5) (f := Q_law_anything_1 (FR_law_anything n)) (b := 0) (k := 4 * 3 ^ (k - 1)) (M := q + 2 + 8 * 3 ^ (k - 1)) (n := q + 1 + 1) (x := x2) Sl.io (Ok := BoxOk) (P := Qk (k - 1)) rfl A4 (by rw [hl]; exact len_64 (by omega)) rfl (by decide) (by
          rw [hl]
          have : m.toNat ≤ 2 := by omega
          have := Nat.mul_le_mul_left (4 * 3 ^ (k - 1)) this
          omega) hx2 (fun y hy m' w hm hw => by
        obtain ⟨d, w', f1, gd, hw'⟩ := any_rec n (k - 1) w m' hw (by omega) (by omega)
        refine ⟨[.io w, .va (.int k), .va (.int r), .no, .no, .va y], [.io w', .va (.int k), .va (.int r), .no, .no, .va y], d, w', rfl, ?_, rfl, rfl, gd, hw'⟩
        unfold Q_law_anything_1
        rw [← k1] at f1
        wp_walk using f1)
      have s4 : ((sa (lc [5] (r1 (callD F_law_choose (dflt [] (bi 0 (bv (kc (.int 3)) bn))))) (gn 5) yes (Q_law_anything_1 (FR_law_anything n))) (gn 4))) [.io x1, .va (.int k), .va (.int r), .no, .no, .no] = some (.nx, [.io x3, .va (.int k), .va (.int r), .no, .va (.lst ys), .no]) := sa_of (by exact e3) rfl
      have l4 : ys.length ≤ 2 := by omega
      have hx3 : BoxOk (q + 4 * 3 ^ k) x3 := hx3.mono (by
        rw [hl]
        have : m.toNat ≤ 2 := by omega
        have := Nat.mul_le_mul_left (4 * 3 ^ (k - 1)) this
        omega)
      by_cases q2 : r < 7
      · refine ⟨.tup ys, x3, key (d2 := [.io x3, .va (.int k), .va (.int r), .no, .va (.lst ys), .no]) ?_ rfl, q_tup (by omega) l4 p3, hx3⟩
        unfold B_law_anything
        exact sqs (an1 e1) (sqs (an2n (by omega) (by omega)) (sqs s4 (an4t q2 (by rw [l3, hl]; exact len_64 (by omega)))))
      · refine ⟨.lst ys, x3, key (d2 := [.io x3, .va (.int k), .va (.int r), .no, .va (.lst ys), .no]) ?_ rfl, q_lst (by omega) l4 p3, hx3⟩
        unfold B_law_anything
        exact sqs (an1 e1) (sqs (an2n (by omega) (by omega)) (sqs s4 (an4l q2)))
theorem any_eq {x : D} {q : Nat} (hx : BoxOk q x) (hq : q < 80000) : ∃ d x', F_law_anything [.io x, .va (.int 3)] = some (d, [.io x', .no]) ∧ Qk 3 d ∧ BoxOk (q + 108) x' := any_rec 9 3 x q hx (by decide) (by omega)
end K01

namespace K01
open PySem L2 Zr
local macro_rules | `(tactic| walk_at "zs") => `(tactic| simp only [nm, kc, u1, b2, ac, an, cn, dl, dt, tb, tv, vnot, vand, vor, tnot, tand, tor, fi, ss, sq, sk, sa, gn, so, sr, srf, sx, sv, srn, sbk, sct, callD, dflt, bv, Zr.bi, bn, argsD, putD, iosOf, onceD, fnD, fnF, outs, oix, oln, app, gst, sag, sau, ownL, own, put, asL_lst, ch, sp2, sp2F, is, Zr.r1, r2, lr, oN, oS, sl, isi, sf, lc, gtp, gsc, gsn, mkD, mtD, Zr.prD, fld, en, zp, ast, rv, sfl, isOb, setF, List.map_cons, itD_tup, itD_lst, List.append_eq, beq_self_eq_true, Int.natCast_zero, eq_self,
  subD_int, divD_int, modD_int, powD_int, mulD_int, oI_some, addD_int, iNeg_int, ltD_int, leD_int, gtD_int, geD_int, nInt_int, nInt_bl, nAbs_int, nLen_lst, nLen_tup, nLen_scr, nMax2_int, nMin2_int, nTup_tup, nTup_lst, nLst_tup, nLst_lst, nLst_scr, ixD_lst, ixD_tup, itD_lst, itD_tup, itD_scr, isN_non, noN_non, isN_bl, noN_bl, slD_lst, slD_tup, slD_scr, isNonD_non, isNonD_int, isNonD_tup, isNonD_lst, isNonD_str, isNonD_bl, kind_int, kind_bl, kind_non, kind_str, kind_tup, kind_lst, kind_ob, eqD_int, neD_int,
  notIo_eq, nio_no, nio_va, nio_ow, isO_no, isO_va, isO_ow, isO_io, List.set_cons_zero, List.set_cons_succ, List.getElem?_cons_zero, List.getElem?_cons_succ, List.length_cons, List.length_nil, List.replicate, List.append, List.cons_append, List.nil_append, if_true, if_false, ite_true, ite_false, Option.bind_some, Option.bind_none, List.map_nil, List.append_nil, Nat.reduceAdd, Nat.reduceEqDiff, Nat.reduceLT, atI_0, atI_1, atI_2, ixN_0, ixN_1, ixN_2, Bool.and_true, Bool.true_and, Bool.not_true, Bool.not_false, Bool.and_self, Bool.and_false, Bool.false_and, List.contains_nil, Bool.false_eq_true, sizeLine_eq, Nat.reduceLeDiff, Nat.reducePow, addD_lst, addD_tup, Nat.zero_le, Nat.le_refl])
local macro_rules | `(tactic| walk_at "zh") => `(tactic| simp only [nm, kc, u1, b2, ac, an, cn, dl, dt, tb, tv, vnot, vand, vor, tnot, tand, tor, fi, ss, sq, sk, sa, gn, so, sr, srf, sx, sv, srn, sbk, sct, callD, dflt, bv, Zr.bi, bn, argsD, putD, iosOf, onceD, fnD, fnF, outs, oix, oln, app, gst, sag, sau, ownL, own, put, asL_lst, ch, sp2, sp2F, is, Zr.r1, r2, lr, oN, oS, sl, isi, sf, lc, gtp, gsc, gsn, mkD, mtD, Zr.prD, fld, en, zp, ast, rv, sfl, isOb, setF, List.map_cons, itD_tup, itD_lst, List.append_eq, beq_self_eq_true, Int.natCast_zero, eq_self,
  subD_int, divD_int, modD_int, powD_int, mulD_int, oI_some, addD_int, iNeg_int, ltD_int, leD_int, gtD_int, geD_int, nInt_int, nInt_bl, nAbs_int, nLen_lst, nLen_tup, nLen_scr, nMax2_int, nMin2_int, nTup_tup, nTup_lst, nLst_tup, nLst_lst, nLst_scr, ixD_lst, ixD_tup, itD_lst, itD_tup, itD_scr, isN_non, noN_non, isN_bl, noN_bl, slD_lst, slD_tup, slD_scr, isNonD_non, isNonD_int, isNonD_tup, isNonD_lst, isNonD_str, isNonD_bl, kind_int, kind_bl, kind_non, kind_str, kind_tup, kind_lst, kind_ob, eqD_int, neD_int,
  notIo_eq, nio_no, nio_va, nio_ow, isO_no, isO_va, isO_ow, isO_io, List.set_cons_zero, List.set_cons_succ, List.getElem?_cons_zero, List.getElem?_cons_succ, List.length_cons, List.length_nil, List.replicate, List.append, List.cons_append, List.nil_append, if_true, if_false, ite_true, ite_false, Option.bind_some, Option.bind_none, List.map_nil, List.append_nil, Nat.reduceAdd, Nat.reduceEqDiff, Nat.reduceLT, atI_0, atI_1, atI_2, ixN_0, ixN_1, ixN_2, Bool.and_true, Bool.true_and, Bool.not_true, Bool.not_false, Bool.and_self, Bool.and_false, Bool.false_and, List.contains_nil, Bool.false_eq_true, sizeLine_eq, Nat.reduceLeDiff, Nat.reducePow, addD_lst, addD_tup, Nat.zero_le, Nat.le_refl, decide_true, decide_false, *])

local macro_rules | `(tactic| walk_at "zs") => `(tactic| simp only [nm, kc, u1, b2, ac, an, cn, dl, dt, tb, tv, vnot, vand, vor, tnot, tand, tor, fi, ss, sq, sk, sa, gn, so, sr, srf, sx, sv, srn, sbk, sct, callD, dflt, bv, Zr.bi, bn, argsD, putD, iosOf, onceD, fnD, fnF, outs, oix, oln, app, gst, sag, sau, ownL, own, put, asL_lst, ch, sp2, sp2F, is, Zr.r1, r2, lr, oN, oS, sl, isi, sf, lc, gtp, gsc, gsn, mkD, mtD, Zr.prD, fld, en, zp, zp3, ast, rv, sfl, isOb, setF, List.map_cons, itD_tup, itD_lst, List.append_eq, beq_self_eq_true, Int.natCast_zero, eq_self,
  subD_int, divD_int, modD_int, powD_int, mulD_int, oI_some, addD_int, iNeg_int, ltD_int, leD_int, gtD_int, geD_int, nInt_int, nInt_bl, nAbs_int, nLen_lst, nLen_tup, nLen_scr, nMax2_int, nMin2_int, nTup_tup, nTup_lst, nLst_tup, nLst_lst, nLst_scr, ixD_lst, ixD_tup, itD_lst, itD_tup, itD_scr, isN_non, noN_non, isN_bl, noN_bl, slD_lst, slD_tup, slD_scr, isNonD_non, isNonD_int, isNonD_tup, isNonD_lst, isNonD_str, isNonD_bl, kind_int, kind_bl, kind_non, kind_str, kind_tup, kind_lst, kind_ob, eqD_int, neD_int,
  notIo_eq, nio_no, nio_va, nio_ow, isO_no, isO_va, isO_ow, isO_io, List.set_cons_zero, List.set_cons_succ, List.getElem?_cons_zero, List.getElem?_cons_succ, List.length_cons, List.length_nil, List.replicate, List.append, List.cons_append, List.nil_append, if_true, if_false, ite_true, ite_false, Option.bind_some, Option.bind_none, List.map_nil, List.append_nil, Nat.reduceAdd, Nat.reduceEqDiff, Nat.reduceLT, atI_0, atI_1, atI_2, ixN_0, ixN_1, ixN_2, Bool.and_true, Bool.true_and, Bool.not_true, Bool.not_false, Bool.and_self, Bool.and_false, Bool.false_and, List.contains_nil, Bool.false_eq_true, sizeLine_eq, Nat.reduceLeDiff, Nat.reducePow, addD_lst, addD_tup, Nat.zero_le, Nat.le_refl])
local macro_rules | `(tactic| walk_at "zh") => `(tactic| simp only [nm, kc, u1, b2, ac, an, cn, dl, dt, tb, tv, vnot, vand, vor, tnot, tand, tor, fi, ss, sq, sk, sa, gn, so, sr, srf, sx, sv, srn, sbk, sct, callD, dflt, bv, Zr.bi, bn, argsD, putD, iosOf, onceD, fnD, fnF, outs, oix, oln, app, gst, sag, sau, ownL, own, put, asL_lst, ch, sp2, sp2F, is, Zr.r1, r2, lr, oN, oS, sl, isi, sf, lc, gtp, gsc, gsn, mkD, mtD, Zr.prD, fld, en, zp, zp3, ast, rv, sfl, isOb, setF, List.map_cons, itD_tup, itD_lst, List.append_eq, beq_self_eq_true, Int.natCast_zero, eq_self,
  subD_int, divD_int, modD_int, powD_int, mulD_int, oI_some, addD_int, iNeg_int, ltD_int, leD_int, gtD_int, geD_int, nInt_int, nInt_bl, nAbs_int, nLen_lst, nLen_tup, nLen_scr, nMax2_int, nMin2_int, nTup_tup, nTup_lst, nLst_tup, nLst_lst, nLst_scr, ixD_lst, ixD_tup, itD_lst, itD_tup, itD_scr, isN_non, noN_non, isN_bl, noN_bl, slD_lst, slD_tup, slD_scr, isNonD_non, isNonD_int, isNonD_tup, isNonD_lst, isNonD_str, isNonD_bl, kind_int, kind_bl, kind_non, kind_str, kind_tup, kind_lst, kind_ob, eqD_int, neD_int,
  notIo_eq, nio_no, nio_va, nio_ow, isO_no, isO_va, isO_ow, isO_io, List.set_cons_zero, List.set_cons_succ, List.getElem?_cons_zero, List.getElem?_cons_succ, List.length_cons, List.length_nil, List.replicate, List.append, List.cons_append, List.nil_append, if_true, if_false, ite_true, ite_false, Option.bind_some, Option.bind_none, List.map_nil, List.append_nil, Nat.reduceAdd, Nat.reduceEqDiff, Nat.reduceLT, atI_0, atI_1, atI_2, ixN_0, ixN_1, ixN_2, Bool.and_true, Bool.true_and, Bool.not_true, Bool.not_false, Bool.and_self, Bool.and_false, Bool.false_and, List.contains_nil, Bool.false_eq_true, sizeLine_eq, Nat.reduceLeDiff, Nat.reducePow, addD_lst, addD_tup, Nat.zero_le, Nat.le_refl, decide_true, decide_false, *])
local macro_rules | `(tactic| wp_walk using $ts:term,*) => `(tactic| simp only [nm, kc, u1, b2, ac, an, cn, dl, dt, tb, tv, vnot, vand, vor, tnot, tand, tor, fi, ss, sq, sk, sa, gn, so, sr, srf, sx, sv, srn, sbk, sct, callD, dflt, bv, Zr.bi, bn, argsD, putD, iosOf, onceD, fnD, fnF, outs, oix, oln, app, gst, sag, sau, ownL, own, put, asL_lst, ch, sp2, sp2F, is, Zr.r1, r2, lr, oN, oS, sl, isi, sf, lc, gtp, gsc, gsn, mkD, mtD, Zr.prD, fld, en, zp, zp3, ast, rv, sfl, isOb, setF, List.map_cons, itD_tup, itD_lst, List.append_eq, beq_self_eq_true, Int.natCast_zero, eq_self, subD_int, divD_int, modD_int, powD_int, mulD_int, oI_some, addD_int, iNeg_int, ltD_int, leD_int, gtD_int, geD_int, nInt_int, nInt_bl, nAbs_int, nLen_lst, nLen_tup, nLen_scr, nMax2_int, nMin2_int, nTup_tup, nTup_lst, nLst_tup, nLst_lst, nLst_scr, ixD_lst, ixD_tup, itD_scr, isN_non, noN_non, isN_bl, noN_bl, slD_lst, slD_tup, slD_scr, isNonD_non, isNonD_int, isNonD_tup, isNonD_lst, isNonD_str, isNonD_bl, kind_int, kind_bl, kind_non, kind_str, kind_tup, kind_lst, kind_ob, eqD_int, neD_int, notIo_eq, nio_no, nio_va, nio_ow, isO_no, isO_va, isO_ow, isO_io, List.set_cons_zero, List.set_cons_succ, List.getElem?_cons_zero, List.getElem?_cons_succ, List.length_cons, List.length_nil, List.replicate, List.append, List.cons_append, List.nil_append, if_true, if_false, ite_true, ite_false, Option.bind_some, Option.bind_none, List.map_nil, List.append_nil, Nat.reduceAdd, Nat.reduceEqDiff, Nat.reduceLT, atI_0, atI_1, atI_2, ixN_0, ixN_1, ixN_2, Bool.and_true, Bool.true_and, Bool.not_true, Bool.not_false, Bool.and_self, Bool.and_false, Bool.false_and, List.contains_nil, Bool.false_eq_true, sizeLine_eq, Nat.reduceLeDiff, Nat.reducePow, addD_lst, addD_tup, Nat.zero_le, Nat.le_refl, decide_true, decide_false, orK, notB, atI_3, $[$ts:term],*])

theorem ss_go {t : DT} {A : DS} {d d1 : Ev} (h : t d = some (false, d1)) : ss t A sk d = some (.nx, d1) := by
  unfold ss
  rw [h]
  rfl
theorem fo_cons {g : DG} {B : DS} {x : D} {xs : List D} {d d1 d2 : Ev} {r : Option (Fl × Ev)} (h1 : g x d = some d1) (h2 : B d1 = some (.nx, d2)) (h3 : fo g B xs d2 = r) : fo g B (x :: xs) d = r := by
  rw [← h3]
  conv => lhs; unfold fo
  simp only [h1, h2]
section
variable {u k x x1 t X Y : D} {tx : Str} {s0 s1 s2 s3 s4 s5 s6 s7 s8 s9 s10 s11 : Sl}
theorem m0 (e : F_law_anything [.io x, .va (.int 3)] = some (X, [.io x1, .no])) (h4 : s4.nio = true) : ((sa (callD F_law_anything (dflt [] (bi 2 (bv (kc (.int 3)) bn)))) (gn 4))) [.va u, .va k, .ow x, .va t, s4, s5, s6, s7, s8, s9, s10, s11] = some (.nx, [.va u, .va k, .ow x1, .va t, .va X, s5, s6, s7, s8, s9, s10, s11]) := by
  wp_walk using e, h4

theorem m1 (h5 : s5.nio = true) : ((sa (dl (ac (nm 4) (ac (nm 4) (ac (nm 4) an)))) (gn 5))) [.va u, .va k, .ow x, .va t, .va X, s5, s6, s7, s8, s9, s10, s11] = some (.nx, [.va u, .va k, .ow x, .va t, .va X, .va (.lst [X, X, X]), s6, s7, s8, s9, s10, s11]) := by
  wp_walk using h5

theorem m2  : ((sa (b2 addD (nm 5) (dl (ac (nm 4) (ac (nm 4) an)))) (gn 5))) [.va u, .va k, .ow x, .va t, .va X, .va (.lst [X, X, X]), s6, s7, s8, s9, s10, s11] = some (.nx, [.va u, .va k, .ow x, .va t, .va X, .va (.lst [X, X, X, X, X]), s6, s7, s8, s9, s10, s11]) := by
  wp_walk using True.intro

theorem kept_eq (y : D) : F_law_kept [.va y] = some (.lst [y, y, y, y, y], [.no]) := by
  unfold F_law_kept B_law_kept
  wp_walk using True.intro

theorem c3 (r : nReprQ [X] = some (.str tx)) (ne : neD (.str tx) (.str tx) = some (.bl false)) (h10 : s10.isO = false) : (lc [10] (is (b2 addD (callD F_law_kept (dflt [] (bv (nm 4) bn))) (nm 5))) (gn 10) C_law_2 Q_law_3) [.va u, .va k, .ow x, .va t, .va X, .va (.lst [X, X, X, X, X]), s6, s7, s8, s9, s10, s11] = some (.lst [], [.va u, .va k, .ow x, .va t, .va X, .va (.lst [X, X, X, X, X]), s6, s7, s8, s9, s10, s11]) := by
  have A : (is (b2 addD (callD F_law_kept (dflt [] (bv (nm 4) bn))) (nm 5))) [.va u, .va k, .ow x, .va t, .va X, .va (.lst [X, X, X, X, X]), s6, s7, s8, s9, s10, s11] = some ([X, X, X, X, X, X, X, X, X, X], [.va u, .va k, .ow x, .va t, .va X, .va (.lst [X, X, X, X, X]), s6, s7, s8, s9, s10, s11]) := by
    have kp := kept_eq X
    wp_walk using kp
  refine lc_of A (len_64 (by show 10 < 16777216; decide)) (cl_sel (fun _ => none) (by show (!s10.isO && true) = true; rw [h10]; rfl) fun y hy => ?_)
  have ey : y = X := by
    simp only [List.mem_cons, List.not_mem_nil, or_false, or_self] at hy
    exact hy
  subst ey
  refine ⟨[.va u, .va k, .ow x, .va t, .va y, .va (.lst [y, y, y, y, y]), s6, s7, s8, s9, .va y, s11], [.va u, .va k, .ow x, .va t, .va y, .va (.lst [y, y, y, y, y]), s6, s7, s8, s9, .va y, s11], rfl, .inl ⟨rfl, ?_, rfl, rfl⟩⟩
  unfold C_law_2
  wp_walk using r, ne

theorem m3 {LC : DE} (l : LC [.va u, .va k, .ow x, .va t, .va X, .va (.lst [X, X, X, X, X]), s6, s7, s8, s9, s10, s11] = some (.lst [], [.va u, .va k, .ow x, .va t, .va X, .va (.lst [X, X, X, X, X]), s6, s7, s8, s9, s10, s11])) : ((ss (tb (b2 neD LC (dl an))) (sr (kc (.bl false))) sk)) [.va u, .va k, .ow x, .va t, .va X, .va (.lst [X, X, X, X, X]), s6, s7, s8, s9, s10, s11] = some (.nx, [.va u, .va k, .ow x, .va t, .va X, .va (.lst [X, X, X, X, X]), s6, s7, s8, s9, s10, s11]) := by
  have n0 : neD (.lst []) (.lst []) = some (.bl false) := rfl
  refine ss_go ?_
  wp_walk using l, n0

theorem m4 (h6 : s6.nio = true) : ((so 6 (dl (ac (nm 4) an)))) [.va u, .va k, .ow x, .va t, .va X, .va (.lst [X, X, X, X, X]), s6, s7, s8, s9, s10, s11] = some (.nx, [.va u, .va k, .ow x, .va t, .va X, .va (.lst [X, X, X, X, X]), .ow (.lst [X]), s7, s8, s9, s10, s11]) := by
  wp_walk using h6

theorem m5 (h7 : s7.nio = true) : ((kmD 6 7 F_law_kept "more")) [.va u, .va k, .ow x, .va t, .va X, .va (.lst [X, X, X, X, X]), .ow (.lst [X]), s7, s8, s9, s10, s11] = some (.nx, [.va u, .va k, .ow x, .va t, .va X, .va (.lst [X, X, X, X, X]), .va (.lst [X, .str "more"]), .va (.lst [.lst [X, .str "more"], .lst [X, .str "more"], .lst [X, .str "more"], .lst [X, .str "more"], .lst [X, .str "more"]]), s8, s9, s10, s11]) := by
  have kp := kept_eq (.fn 77)
  have hn : notIo [.va u, .va k, .ow x, .va t, .va X, .va (.lst [X, X, X, X, X]), .ow (.lst [X]), s7, s8, s9, s10, s11] 7 = true := by rw [notIo_eq]; exact h7
  show (match F_law_kept [.va (.fn 77)] with | some (.lst zs, t9) => (if (zs.all isF7 && (notIo [.va u, .va k, .ow x, .va t, .va X, .va (.lst [X, X, X, X, X]), .ow (.lst [X]), s7, s8, s9, s10, s11] 7 && (decide (6 ≠ 7) && decide (1 < sizeLine)))) = true then some (Fl.nx, (([.va u, .va k, .ow x, .va t, .va X, .va (.lst [X, X, X, X, X]), .ow (.lst [X]), s7, s8, s9, s10, s11] : Ev).set 6 (.va (.lst ([X] ++ [D.str "more"])))).set 7 (.va (.lst (zs.map fun _ => D.lst ([X] ++ [D.str "more"]))))) else none) | _ => none) = _
  rw [kp]
  show (if (true && (notIo [.va u, .va k, .ow x, .va t, .va X, .va (.lst [X, X, X, X, X]), .ow (.lst [X]), s7, s8, s9, s10, s11] 7 && (decide (6 ≠ 7) && decide (1 < sizeLine)))) = true then _ else none) = _
  rw [hn, if_pos (show (true && (true && (decide (6 ≠ 7) && decide (1 < sizeLine)))) = true from by rw [decide_eq_true (show 1 < sizeLine by rw [sizeLine_eq]; decide)]; rfl)]
  rfl

theorem c6 (ne : neD Y Y = some (.bl false)) (h10 : s10.isO = false) : (lc [10] (is (nm 7)) (gn 10) C_law_1 Q_law_2) [.va u, .va k, .ow x, .va t, .va X, .va (.lst [X, X, X, X, X]), .va Y, .va (.lst [Y, Y, Y, Y, Y]), s8, s9, s10, s11] = some (.lst [], [.va u, .va k, .ow x, .va t, .va X, .va (.lst [X, X, X, X, X]), .va Y, .va (.lst [Y, Y, Y, Y, Y]), s8, s9, s10, s11]) := by
  refine lc_of (xs := [Y, Y, Y, Y, Y]) (d1 := [.va u, .va k, .ow x, .va t, .va X, .va (.lst [X, X, X, X, X]), .va Y, .va (.lst [Y, Y, Y, Y, Y]), s8, s9, s10, s11]) rfl (len_64 (by show 5 < 16777216; decide)) (cl_sel (fun _ => none) (by show (!s10.isO && true) = true; rw [h10]; rfl) fun y hy => ?_)
  have ey : y = Y := by
    simp only [List.mem_cons, List.not_mem_nil, or_false, or_self] at hy
    exact hy
  subst ey
  refine ⟨[.va u, .va k, .ow x, .va t, .va X, .va (.lst [X, X, X, X, X]), .va y, .va (.lst [y, y, y, y, y]), s8, s9, .va y, s11], [.va u, .va k, .ow x, .va t, .va X, .va (.lst [X, X, X, X, X]), .va y, .va (.lst [y, y, y, y, y]), s8, s9, .va y, s11], rfl, .inl ⟨rfl, ?_, rfl, rfl⟩⟩
  unfold C_law_1
  wp_walk using ne

theorem m6 {LC : DE} (l : LC [.va u, .va k, .ow x, .va t, .va X, .va (.lst [X, X, X, X, X]), .va Y, .va (.lst [Y, Y, Y, Y, Y]), s8, s9, s10, s11] = some (.lst [], [.va u, .va k, .ow x, .va t, .va X, .va (.lst [X, X, X, X, X]), .va Y, .va (.lst [Y, Y, Y, Y, Y]), s8, s9, s10, s11])) : ((ss (tb (b2 neD LC (dl an))) (sr (kc (.bl false))) sk)) [.va u, .va k, .ow x, .va t, .va X, .va (.lst [X, X, X, X, X]), .va Y, .va (.lst [Y, Y, Y, Y, Y]), s8, s9, s10, s11] = some (.nx, [.va u, .va k, .ow x, .va t, .va X, .va (.lst [X, X, X, X, X]), .va Y, .va (.lst [Y, Y, Y, Y, Y]), s8, s9, s10, s11]) := by
  have n0 : neD (.lst []) (.lst []) = some (.bl false) := rfl
  refine ss_go ?_
  wp_walk using l, n0

theorem m7 (h8 : s8.nio = true) : ((sa (dl (ac (exD 0 (nm 4)) (ac (exD 1 (nm 4)) (ac (exD 2 (nm 4)) (ac (exD 3 (nm 4)) (ac (exD 4 (nm 4)) an)))))) (gn 8))) [.va u, .va k, .ow x, .va t, .va X, .va (.lst [X, X, X, X, X]), .va Y, .va (.lst [Y, Y, Y, Y, Y]), s8, s9, s10, s11] = some (.nx, [.va u, .va k, .ow x, .va t, .va X, .va (.lst [X, X, X, X, X]), .va Y, .va (.lst [Y, Y, Y, Y, Y]), .va (.lst [.ex 0, .ex 1, .ex 2, .ex 3, .ex 4]), s9, s10, s11]) := by
  wp_walk using exD, h8

def isN (t : Nat) : D → Bool
  | .int i => decide (i = t)
  | _ => false
def KB (t : Nat) : D := .lst ((rgD 0 7).map fun y => D.bl (isN t y))

theorem kinds0 : F_law_kinds [.va (.ex 0)] = some (KB 0, [.no]) := by
  have e : KB 0 = .lst [.bl true, .bl false, .bl false, .bl false, .bl false, .bl false, .bl false] := by kernel_rfl
  rw [e]
  unfold F_law_kinds B_law_kinds
  have f0 : isX xtab_InvalidMix (.ex 0) = some (.bl true) := rfl
  have f1 : isX xtab_InvalidRow (.ex 0) = some (.bl false) := rfl
  have f2 : isX xtab_InvalidPair (.ex 0) = some (.bl false) := rfl
  have f3 : isX xtab_InvalidText (.ex 0) = some (.bl false) := rfl
  have f4 : isX xtab_Refused (.ex 0) = some (.bl false) := rfl
  have f5 : isX xtab_InvalidWall (.ex 0) = some (.bl false) := rfl
  have f6 : isX xtab_InvalidCommand (.ex 0) = some (.bl false) := rfl
  wp_walk using f0, f1, f2, f3, f4, f5, f6

theorem kinds1 : F_law_kinds [.va (.ex 1)] = some (KB 1, [.no]) := by
  have e : KB 1 = .lst [.bl false, .bl true, .bl false, .bl false, .bl false, .bl false, .bl false] := by kernel_rfl
  rw [e]
  unfold F_law_kinds B_law_kinds
  have f0 : isX xtab_InvalidMix (.ex 1) = some (.bl false) := rfl
  have f1 : isX xtab_InvalidRow (.ex 1) = some (.bl true) := rfl
  have f2 : isX xtab_InvalidPair (.ex 1) = some (.bl false) := rfl
  have f3 : isX xtab_InvalidText (.ex 1) = some (.bl false) := rfl
  have f4 : isX xtab_Refused (.ex 1) = some (.bl false) := rfl
  have f5 : isX xtab_InvalidWall (.ex 1) = some (.bl false) := rfl
  have f6 : isX xtab_InvalidCommand (.ex 1) = some (.bl false) := rfl
  wp_walk using f0, f1, f2, f3, f4, f5, f6

theorem kinds2 : F_law_kinds [.va (.ex 2)] = some (KB 2, [.no]) := by
  have e : KB 2 = .lst [.bl false, .bl false, .bl true, .bl false, .bl false, .bl false, .bl false] := by kernel_rfl
  rw [e]
  unfold F_law_kinds B_law_kinds
  have f0 : isX xtab_InvalidMix (.ex 2) = some (.bl false) := rfl
  have f1 : isX xtab_InvalidRow (.ex 2) = some (.bl false) := rfl
  have f2 : isX xtab_InvalidPair (.ex 2) = some (.bl true) := rfl
  have f3 : isX xtab_InvalidText (.ex 2) = some (.bl false) := rfl
  have f4 : isX xtab_Refused (.ex 2) = some (.bl false) := rfl
  have f5 : isX xtab_InvalidWall (.ex 2) = some (.bl false) := rfl
  have f6 : isX xtab_InvalidCommand (.ex 2) = some (.bl false) := rfl
  wp_walk using f0, f1, f2, f3, f4, f5, f6

theorem kinds3 : F_law_kinds [.va (.ex 3)] = some (KB 3, [.no]) := by
  have e : KB 3 = .lst [.bl false, .bl false, .bl false, .bl true, .bl false, .bl false, .bl false] := by kernel_rfl
  rw [e]
  unfold F_law_kinds B_law_kinds
  have f0 : isX xtab_InvalidMix (.ex 3) = some (.bl false) := rfl
  have f1 : isX xtab_InvalidRow (.ex 3) = some (.bl false) := rfl
  have f2 : isX xtab_InvalidPair (.ex 3) = some (.bl false) := rfl
  have f3 : isX xtab_InvalidText (.ex 3) = some (.bl true) := rfl
  have f4 : isX xtab_Refused (.ex 3) = some (.bl false) := rfl
  have f5 : isX xtab_InvalidWall (.ex 3) = some (.bl false) := rfl
  have f6 : isX xtab_InvalidCommand (.ex 3) = some (.bl false) := rfl
  wp_walk using f0, f1, f2, f3, f4, f5, f6

theorem kinds4 : F_law_kinds [.va (.ex 4)] = some (KB 4, [.no]) := by
  have e : KB 4 = .lst [.bl false, .bl false, .bl false, .bl false, .bl true, .bl false, .bl false] := by kernel_rfl
  rw [e]
  unfold F_law_kinds B_law_kinds
  have f0 : isX xtab_InvalidMix (.ex 4) = some (.bl false) := rfl
  have f1 : isX xtab_InvalidRow (.ex 4) = some (.bl false) := rfl
  have f2 : isX xtab_InvalidPair (.ex 4) = some (.bl false) := rfl
  have f3 : isX xtab_InvalidText (.ex 4) = some (.bl false) := rfl
  have f4 : isX xtab_Refused (.ex 4) = some (.bl true) := rfl
  have f5 : isX xtab_InvalidWall (.ex 4) = some (.bl false) := rfl
  have f6 : isX xtab_InvalidCommand (.ex 4) = some (.bl false) := rfl
  wp_walk using f0, f1, f2, f3, f4, f5, f6

theorem kinds5 : F_law_kinds [.va (.ex 5)] = some (KB 5, [.no]) := by
  have e : KB 5 = .lst [.bl false, .bl false, .bl false, .bl false, .bl false, .bl true, .bl false] := by kernel_rfl
  rw [e]
  unfold F_law_kinds B_law_kinds
  have f0 : isX xtab_InvalidMix (.ex 5) = some (.bl false) := rfl
  have f1 : isX xtab_InvalidRow (.ex 5) = some (.bl false) := rfl
  have f2 : isX xtab_InvalidPair (.ex 5) = some (.bl false) := rfl
  have f3 : isX xtab_InvalidText (.ex 5) = some (.bl false) := rfl
  have f4 : isX xtab_Refused (.ex 5) = some (.bl false) := rfl
  have f5 : isX xtab_InvalidWall (.ex 5) = some (.bl true) := rfl
  have f6 : isX xtab_InvalidCommand (.ex 5) = some (.bl false) := rfl
  wp_walk using f0, f1, f2, f3, f4, f5, f6

theorem kinds6 : F_law_kinds [.va (.ex 6)] = some (KB 6, [.no]) := by
  have e : KB 6 = .lst [.bl false, .bl false, .bl false, .bl false, .bl false, .bl false, .bl true] := by kernel_rfl
  rw [e]
  unfold F_law_kinds B_law_kinds
  have f0 : isX xtab_InvalidMix (.ex 6) = some (.bl false) := rfl
  have f1 : isX xtab_InvalidRow (.ex 6) = some (.bl false) := rfl
  have f2 : isX xtab_InvalidPair (.ex 6) = some (.bl false) := rfl
  have f3 : isX xtab_InvalidText (.ex 6) = some (.bl false) := rfl
  have f4 : isX xtab_Refused (.ex 6) = some (.bl false) := rfl
  have f5 : isX xtab_InvalidWall (.ex 6) = some (.bl false) := rfl
  have f6 : isX xtab_InvalidCommand (.ex 6) = some (.bl true) := rfl
  wp_walk using f0, f1, f2, f3, f4, f5, f6

theorem c1 {t : Nat} (ht : t < 7) (h11 : s11.isO = false) : (lc [11] (Zr.r1 (kc (.int 7))) (gn 11) yes Q_law_1) [s0, s1, s2, s3, s4, s5, s6, s7, s8, .va (.int (t : Nat)), .va (.ex t), s11] = some (KB t, [s0, s1, s2, s3, s4, s5, s6, s7, s8, .va (.int (t : Nat)), .va (.ex t), s11]) := by
  refine lc_map (xs := rgD 0 7) (d1 := [s0, s1, s2, s3, s4, s5, s6, s7, s8, .va (.int (t : Nat)), .va (.ex t), s11]) (fun y => D.bl (isN t y)) (r1_of (n := 7) rfl (rg_ok (by decide) (by decide))) (len_64 (by rw [rgD_len]; decide)) (by show (!s11.isO && true) = true; rw [h11]; rfl) fun y hy => ?_
  obtain ⟨j, rfl, _, _⟩ := rgD_mem hy
  refine ⟨[s0, s1, s2, s3, s4, s5, s6, s7, s8, .va (.int (t : Nat)), .va (.ex t), .va (.int j)], [s0, s1, s2, s3, s4, s5, s6, s7, s8, .va (.int (t : Nat)), .va (.ex t), .va (.int j)], rfl, ?_, rfl, rfl⟩
  have q0 : eqD (.int j) (.int (t : Nat)) = some (.bl (decide (j = (t : Nat)))) := eqD_int
  unfold Q_law_1
  show _ = some (D.bl (decide (j = (t : Nat))), _)
  wp_walk using q0

theorem kb_ne {t : Nat} : neD (KB t) (KB t) = some (.bl false) := by
  refine neD_same (b := true) ?_
  show plL true 63 _ = true
  generalize rgD 0 7 = xs
  induction xs with
  | nil => rfl
  | cons x xs ih =>
    show (true && plL true 63 _) = true
    rw [Bool.true_and]
    exact ih

theorem l1 {LC : DE} {t : Nat} (ht : t < 7) (kd : F_law_kinds [.va (.ex t)] = some (KB t, [.no])) (l : LC [s0, s1, s2, s3, s4, s5, s6, s7, s8, .va (.int (t : Nat)), .va (.ex t), s11] = some (KB t, [s0, s1, s2, s3, s4, s5, s6, s7, s8, .va (.int (t : Nat)), .va (.ex t), s11])) : (sq ((ss (tor (tb (b2 neD (callD F_law_kinds (dflt [] (bv (nm 10) bn))) LC)) (tnot (tb (u1 (isX xtab_ShareError) (nm 10))))) (sr (kc (.bl false))) sk)) ((ss (tor (tnot (tb (u1 (isX xtab_ValueError) (nm 10)))) (tb (u1 (isX xtab_KeyError) (nm 10)))) (sr (kc (.bl false))) sk))) [s0, s1, s2, s3, s4, s5, s6, s7, s8, .va (.int (t : Nat)), .va (.ex t), s11] = some (.nx, [s0, s1, s2, s3, s4, s5, s6, s7, s8, .va (.int (t : Nat)), .va (.ex t), s11]) := by
  have ne := kb_ne (t := t)
  have c : t = 0 ∨ t = 1 ∨ t = 2 ∨ t = 3 ∨ t = 4 ∨ t = 5 ∨ t = 6 := by omega
  have a1 : isX xtab_ShareError (.ex t) = some (.bl true) := by rcases c with rfl | rfl | rfl | rfl | rfl | rfl | rfl <;> rfl
  have a2 : isX xtab_ValueError (.ex t) = some (.bl true) := by rcases c with rfl | rfl | rfl | rfl | rfl | rfl | rfl <;> rfl
  have a3 : isX xtab_KeyError (.ex t) = some (.bl false) := by rcases c with rfl | rfl | rfl | rfl | rfl | rfl | rfl <;> rfl
  generalize KB t = kb at *
  refine sqs (d1 := [s0, s1, s2, s3, s4, s5, s6, s7, s8, .va (.int (t : Nat)), .va (.ex t), s11]) (ss_go ?_) (ss_go ?_)
  · wp_walk using kd, l, ne, a1
  · wp_walk using a2, a3

theorem l1' {t : Nat} (ht : t < 7) (h11 : s11.isO = false) : L_law_1 [s0, s1, s2, s3, s4, s5, s6, s7, s8, .va (.int (t : Nat)), .va (.ex t), s11] = some (.nx, [s0, s1, s2, s3, s4, s5, s6, s7, s8, .va (.int (t : Nat)), .va (.ex t), s11]) := by
  have kd : F_law_kinds [.va (.ex t)] = some (KB t, [.no]) := by
    have c : t = 0 ∨ t = 1 ∨ t = 2 ∨ t = 3 ∨ t = 4 ∨ t = 5 ∨ t = 6 := by omega
    rcases c with rfl | rfl | rfl | rfl | rfl | rfl | rfl
    · exact kinds0
    · exact kinds1
    · exact kinds2
    · exact kinds3
    · exact kinds4
    · exact kinds5
    · exact kinds6
  unfold L_law_1
  exact l1 ht kd (c1 ht h11)
theorem tg {t : Nat} (h9 : s9.nio = true) (h10 : s10.nio = true) : (gtp 2 (gsc (gn 9) (gsc (gn 10) gsn))) (.tup [.int (t : Nat), .ex t]) [s0, s1, s2, s3, s4, s5, s6, s7, s8, s9, s10, s11] = some [s0, s1, s2, s3, s4, s5, s6, s7, s8, .va (.int (t : Nat)), .va (.ex t), s11] := by
  wp_walk using h9, h10

theorem lp (h9 : s9.nio = true) (h10 : s10.nio = true) (h11 : s11.isO = false) : fo (gtp 2 (gsc (gn 9) (gsc (gn 10) gsn))) L_law_1 [.tup [.int ((0 : Nat) : Int), .ex 0], .tup [.int ((1 : Nat) : Int), .ex 1], .tup [.int ((2 : Nat) : Int), .ex 2], .tup [.int ((3 : Nat) : Int), .ex 3], .tup [.int ((4 : Nat) : Int), .ex 4], .tup [.int ((5 : Nat) : Int), .ex 5], .tup [.int ((6 : Nat) : Int), .ex 6]] [s0, s1, s2, s3, s4, s5, s6, s7, s8, s9, s10, s11] = some (.nx, [s0, s1, s2, s3, s4, s5, s6, s7, s8, .va (.int ((6 : Nat) : Int)), .va (.ex 6), s11]) :=
  fo_cons (tg h9 h10) (l1' (t := 0) (by decide) h11) (fo_cons (tg rfl rfl) (l1' (t := 1) (by decide) h11) (fo_cons (tg rfl rfl) (l1' (t := 2) (by decide) h11) (fo_cons (tg rfl rfl) (l1' (t := 3) (by decide) h11) (fo_cons (tg rfl rfl) (l1' (t := 4) (by decide) h11) (fo_cons (tg rfl rfl) (l1' (t := 5) (by decide) h11) (fo_cons (tg rfl rfl) (l1' (t := 6) (by decide) h11) (rfl)))))))

theorem m8i : (en (b2 addD (nm 8) (dl (ac (exD0 5) (ac (exD0 6) an))))) [.va u, .va k, .ow x, .va t, .va X, .va (.lst [X, X, X, X, X]), .va Y, .va (.lst [Y, Y, Y, Y, Y]), .va (.lst [.ex 0, .ex 1, .ex 2, .ex 3, .ex 4]), s9, s10, s11] = some ([.tup [.int ((0 : Nat) : Int), .ex 0], .tup [.int ((1 : Nat) : Int), .ex 1], .tup [.int ((2 : Nat) : Int), .ex 2], .tup [.int ((3 : Nat) : Int), .ex 3], .tup [.int ((4 : Nat) : Int), .ex 4], .tup [.int ((5 : Nat) : Int), .ex 5], .tup [.int ((6 : Nat) : Int), .ex 6]], [.va u, .va k, .ow x, .va t, .va X, .va (.lst [X, X, X, X, X]), .va Y, .va (.lst [Y, Y, Y, Y, Y]), .va (.lst [.ex 0, .ex 1, .ex 2, .ex 3, .ex 4]), s9, s10, s11]) := by
  wp_walk using exD0
  rfl

theorem so2 (e : F_law_seed [.va u, .va k] = some (x, [.no, .no])) (h2 : s2.nio = true) : ((so 2 (callD F_law_seed (dflt [] (bv (nm 0) (bv (nm 1) bn)))))) [.va u, .va k, s2, s3, s4, s5, s6, s7, s8, s9, s10, s11] = some (.nx, [.va u, .va k, .ow x, s3, s4, s5, s6, s7, s8, s9, s10, s11]) := by
  wp_walk using e, h2

theorem gn3 {n : D} (h3 : s3.nio = true) : gn 3 n [.va u, .va k, .ow x, s3, s4, s5, s6, s7, s8, s9, s10, s11] = some [.va u, .va k, .ow x, .va n, s4, s5, s6, s7, s8, s9, s10, s11] := by
  wp_walk using h3
end
end K01

namespace K01
open PySem L2 Zr
local macro_rules | `(tactic| walk_at "zs") => `(tactic| simp only [nm, kc, u1, b2, ac, an, cn, dl, dt, tb, tv, vnot, vand, vor, tnot, tand, tor, fi, ss, sq, sk, sa, gn, so, sr, srf, sx, sv, srn, sbk, sct, callD, dflt, bv, Zr.bi, bn, argsD, putD, iosOf, onceD, fnD, fnF, outs, oix, oln, app, gst, sag, sau, ownL, own, put, asL_lst, ch, sp2, sp2F, is, Zr.r1, r2, lr, oN, oS, sl, isi, sf, lc, gtp, gsc, gsn, mkD, mtD, Zr.prD, fld, en, zp, ast, rv, sfl, isOb, setF, List.map_cons, itD_tup, itD_lst, List.append_eq, beq_self_eq_true, Int.natCast_zero, eq_self,
  subD_int, divD_int, modD_int, powD_int, mulD_int, oI_some, addD_int, iNeg_int, ltD_int, leD_int, gtD_int, geD_int, nInt_int, nInt_bl, nAbs_int, nLen_lst, nLen_tup, nLen_scr, nMax2_int, nMin2_int, nTup_tup, nTup_lst, nLst_tup, nLst_lst, nLst_scr, ixD_lst, ixD_tup, itD_lst, itD_tup, itD_scr, isN_non, noN_non, isN_bl, noN_bl, slD_lst, slD_tup, slD_scr, isNonD_non, isNonD_int, isNonD_tup, isNonD_lst, isNonD_str, isNonD_bl, kind_int, kind_bl, kind_non, kind_str, kind_tup, kind_lst, kind_ob, eqD_int, neD_int,
  notIo_eq, nio_no, nio_va, nio_ow, isO_no, isO_va, isO_ow, isO_io, List.set_cons_zero, List.set_cons_succ, List.getElem?_cons_zero, List.getElem?_cons_succ, List.length_cons, List.length_nil, List.replicate, List.append, List.cons_append, List.nil_append, if_true, if_false, ite_true, ite_false, Option.bind_some, Option.bind_none, List.map_nil, List.append_nil, Nat.reduceAdd, Nat.reduceEqDiff, Nat.reduceLT, atI_0, atI_1, atI_2, ixN_0, ixN_1, ixN_2, Bool.and_true, Bool.true_and, Bool.not_true, Bool.not_false, Bool.and_self, Bool.and_false, Bool.false_and, List.contains_nil, Bool.false_eq_true, sizeLine_eq, Nat.reduceLeDiff, Nat.reducePow, addD_lst, addD_tup, Nat.zero_le, Nat.le_refl])
local macro_rules | `(tactic| walk_at "zh") => `(tactic| simp only [nm, kc, u1, b2, ac, an, cn, dl, dt, tb, tv, vnot, vand, vor, tnot, tand, tor, fi, ss, sq, sk, sa, gn, so, sr, srf, sx, sv, srn, sbk, sct, callD, dflt, bv, Zr.bi, bn, argsD, putD, iosOf, onceD, fnD, fnF, outs, oix, oln, app, gst, sag, sau, ownL, own, put, asL_lst, ch, sp2, sp2F, is, Zr.r1, r2, lr, oN, oS, sl, isi, sf, lc, gtp, gsc, gsn, mkD, mtD, Zr.prD, fld, en, zp, ast, rv, sfl, isOb, setF, List.map_cons, itD_tup, itD_lst, List.append_eq, beq_self_eq_true, Int.natCast_zero, eq_self,
  subD_int, divD_int, modD_int, powD_int, mulD_int, oI_some, addD_int, iNeg_int, ltD_int, leD_int, gtD_int, geD_int, nInt_int, nInt_bl, nAbs_int, nLen_lst, nLen_tup, nLen_scr, nMax2_int, nMin2_int, nTup_tup, nTup_lst, nLst_tup, nLst_lst, nLst_scr, ixD_lst, ixD_tup, itD_lst, itD_tup, itD_scr, isN_non, noN_non, isN_bl, noN_bl, slD_lst, slD_tup, slD_scr, isNonD_non, isNonD_int, isNonD_tup, isNonD_lst, isNonD_str, isNonD_bl, kind_int, kind_bl, kind_non, kind_str, kind_tup, kind_lst, kind_ob, eqD_int, neD_int,
  notIo_eq, nio_no, nio_va, nio_ow, isO_no, isO_va, isO_ow, isO_io, List.set_cons_zero, List.set_cons_succ, List.getElem?_cons_zero, List.getElem?_cons_succ, List.length_cons, List.length_nil, List.replicate, List.append, List.cons_append, List.nil_append, if_true, if_false, ite_true, ite_false, Option.bind_some, Option.bind_none, List.map_nil, List.append_nil, Nat.reduceAdd, Nat.reduceEqDiff, Nat.reduceLT, atI_0, atI_1, atI_2, ixN_0, ixN_1, ixN_2, Bool.and_true, Bool.true_and, Bool.not_true, Bool.not_false, Bool.and_self, Bool.and_false, Bool.false_and, List.contains_nil, Bool.false_eq_true, sizeLine_eq, Nat.reduceLeDiff, Nat.reducePow, addD_lst, addD_tup, Nat.zero_le, Nat.le_refl, decide_true, decide_false, *])

local macro_rules | `(tactic| walk_at "zs") => `(tactic| simp only [nm, kc, u1, b2, ac, an, cn, dl, dt, tb, tv, vnot, vand, vor, tnot, tand, tor, fi, ss, sq, sk, sa, gn, so, sr, srf, sx, sv, srn, sbk, sct, callD, dflt, bv, Zr.bi, bn, argsD, putD, iosOf, onceD, fnD, fnF, outs, oix, oln, app, gst, sag, sau, ownL, own, put, asL_lst, ch, sp2, sp2F, is, Zr.r1, r2, lr, oN, oS, sl, isi, sf, lc, gtp, gsc, gsn, mkD, mtD, Zr.prD, fld, en, zp, zp3, ast, rv, sfl, isOb, setF, List.map_cons, itD_tup, itD_lst, List.append_eq, beq_self_eq_true, Int.natCast_zero, eq_self,
  subD_int, divD_int, modD_int, powD_int, mulD_int, oI_some, addD_int, iNeg_int, ltD_int, leD_int, gtD_int, geD_int, nInt_int, nInt_bl, nAbs_int, nLen_lst, nLen_tup, nLen_scr, nMax2_int, nMin2_int, nTup_tup, nTup_lst, nLst_tup, nLst_lst, nLst_scr, ixD_lst, ixD_tup, itD_lst, itD_tup, itD_scr, isN_non, noN_non, isN_bl, noN_bl, slD_lst, slD_tup, slD_scr, isNonD_non, isNonD_int, isNonD_tup, isNonD_lst, isNonD_str, isNonD_bl, kind_int, kind_bl, kind_non, kind_str, kind_tup, kind_lst, kind_ob, eqD_int, neD_int,
  notIo_eq, nio_no, nio_va, nio_ow, isO_no, isO_va, isO_ow, isO_io, List.set_cons_zero, List.set_cons_succ, List.getElem?_cons_zero, List.getElem?_cons_succ, List.length_cons, List.length_nil, List.replicate, List.append, List.cons_append, List.nil_append, if_true, if_false, ite_true, ite_false, Option.bind_some, Option.bind_none, List.map_nil, List.append_nil, Nat.reduceAdd, Nat.reduceEqDiff, Nat.reduceLT, atI_0, atI_1, atI_2, ixN_0, ixN_1, ixN_2, Bool.and_true, Bool.true_and, Bool.not_true, Bool.not_false, Bool.and_self, Bool.and_false, Bool.false_and, List.contains_nil, Bool.false_eq_true, sizeLine_eq, Nat.reduceLeDiff, Nat.reducePow, addD_lst, addD_tup, Nat.zero_le, Nat.le_refl])
local macro_rules | `(tactic| walk_at "zh") => `(tactic| simp only [nm, kc, u1, b2, ac, an, cn, dl, dt, tb, tv, vnot, vand, vor, tnot, tand, tor, fi, ss, sq, sk, sa, gn, so, sr, srf, sx, sv, srn, sbk, sct, callD, dflt, bv, Zr.bi, bn, argsD, putD, iosOf, onceD, fnD, fnF, outs, oix, oln, app, gst, sag, sau, ownL, own, put, asL_lst, ch, sp2, sp2F, is, Zr.r1, r2, lr, oN, oS, sl, isi, sf, lc, gtp, gsc, gsn, mkD, mtD, Zr.prD, fld, en, zp, zp3, ast, rv, sfl, isOb, setF, List.map_cons, itD_tup, itD_lst, List.append_eq, beq_self_eq_true, Int.natCast_zero, eq_self,
  subD_int, divD_int, modD_int, powD_int, mulD_int, oI_some, addD_int, iNeg_int, ltD_int, leD_int, gtD_int, geD_int, nInt_int, nInt_bl, nAbs_int, nLen_lst, nLen_tup, nLen_scr, nMax2_int, nMin2_int, nTup_tup, nTup_lst, nLst_tup, nLst_lst, nLst_scr, ixD_lst, ixD_tup, itD_lst, itD_tup, itD_scr, isN_non, noN_non, isN_bl, noN_bl, slD_lst, slD_tup, slD_scr, isNonD_non, isNonD_int, isNonD_tup, isNonD_lst, isNonD_str, isNonD_bl, kind_int, kind_bl, kind_non, kind_str, kind_tup, kind_lst, kind_ob, eqD_int, neD_int,
  notIo_eq, nio_no, nio_va, nio_ow, isO_no, isO_va, isO_ow, isO_io, List.set_cons_zero, List.set_cons_succ, List.getElem?_cons_zero, List.getElem?_cons_succ, List.length_cons, List.length_nil, List.replicate, List.append, List.cons_append, List.nil_append, if_true, if_false, ite_true, ite_false, Option.bind_some, Option.bind_none, List.map_nil, List.append_nil, Nat.reduceAdd, Nat.reduceEqDiff, Nat.reduceLT, atI_0, atI_1, atI_2, ixN_0, ixN_1, ixN_2, Bool.and_true, Bool.true_and, Bool.not_true, Bool.not_false, Bool.and_self, Bool.and_false, Bool.false_and, List.contains_nil, Bool.false_eq_true, sizeLine_eq, Nat.reduceLeDiff, Nat.reducePow, addD_lst, addD_tup, Nat.zero_le, Nat.le_refl, decide_true, decide_false, *])
local macro_rules | `(tactic| wp_walk using $ts:term,*) => `(tactic| simp only [nm, kc, u1, b2, ac, an, cn, dl, dt, tb, tv, vnot, vand, vor, tnot, tand, tor, fi, ss, sq, sk, sa, gn, so, sr, srf, sx, sv, srn, sbk, sct, callD, dflt, bv, Zr.bi, bn, argsD, putD, iosOf, onceD, fnD, fnF, outs, oix, oln, app, gst, sag, sau, ownL, own, put, asL_lst, ch, sp2, sp2F, is, Zr.r1, r2, lr, oN, oS, sl, isi, sf, lc, gtp, gsc, gsn, mkD, mtD, Zr.prD, fld, en, zp, zp3, ast, rv, sfl, isOb, setF, List.map_cons, itD_tup, itD_lst, List.append_eq, beq_self_eq_true, Int.natCast_zero, eq_self, subD_int, divD_int, modD_int, powD_int, mulD_int, oI_some, addD_int, iNeg_int, ltD_int, leD_int, gtD_int, geD_int, nInt_int, nInt_bl, nAbs_int, nLen_lst, nLen_tup, nLen_scr, nMax2_int, nMin2_int, nTup_tup, nTup_lst, nLst_tup, nLst_lst, nLst_scr, ixD_lst, ixD_tup, itD_scr, isN_non, noN_non, isN_bl, noN_bl, slD_lst, slD_tup, slD_scr, isNonD_non, isNonD_int, isNonD_tup, isNonD_lst, isNonD_str, isNonD_bl, kind_int, kind_bl, kind_non, kind_str, kind_tup, kind_lst, kind_ob, eqD_int, neD_int, notIo_eq, nio_no, nio_va, nio_ow, isO_no, isO_va, isO_ow, isO_io, List.set_cons_zero, List.set_cons_succ, List.getElem?_cons_zero, List.getElem?_cons_succ, List.length_cons, List.length_nil, List.replicate, List.append, List.cons_append, List.nil_append, if_true, if_false, ite_true, ite_false, Option.bind_some, Option.bind_none, List.map_nil, List.append_nil, Nat.reduceAdd, Nat.reduceEqDiff, Nat.reduceLT, atI_0, atI_1, atI_2, ixN_0, ixN_1, ixN_2, Bool.and_true, Bool.true_and, Bool.not_true, Bool.not_false, Bool.and_self, Bool.and_false, Bool.false_and, List.contains_nil, Bool.false_eq_true, sizeLine_eq, Nat.reduceLeDiff, Nat.reducePow, addD_lst, addD_tup, Nat.zero_le, Nat.le_refl, decide_true, decide_false, orK, notB, atI_3, $[$ts:term],*])

theorem turn {u k x t : D} {s4 s5 s6 s7 s8 s9 s10 s11 : Sl} {n : Nat} (hn : n < 40000) (hx : BoxOk n x) (z4 : s4.isO = false) (z5 : s5.isO = false) (z6 : s6.isO = false) (z7 : s7.isO = false) (z8 : s8.isO = false) (z9 : s9.isO = false) (z10 : s10.isO = false) (z11 : s11.isO = false) : ∃ (x' : D) (t4 t5 t6 t7 t8 t9 t10 t11 : Sl), BoxOk (n + 108) x' ∧ t4.isO = false ∧ t5.isO = false ∧ t6.isO = false ∧ t7.isO = false ∧ t8.isO = false ∧ t9.isO = false ∧ t10.isO = false ∧ t11.isO = false ∧ L_law_2 [.va u, .va k, .ow x, .va t, s4, s5, s6, s7, s8, s9, s10, s11] = some (.nx, [.va u, .va k, .ow x', .va t, t4, t5, t6, t7, t8, t9, t10, t11]) := by
  obtain ⟨X, x1, e0, hq, hx1⟩ := any_eq hx (by omega)
  obtain ⟨tx, r, ne⟩ := repr_ok hq (by decide)
  have pY : pv 5 (.lst [X, .str "more"]) = true := by
    show (pv 4 X && (PyData.strOk "more" && true)) = true
    rw [hq.2.1]
    kernel_rfl
  have neY := ne_self pY (by decide)
  refine ⟨x1, .va X, .va (.lst [X, X, X, X, X]), .va (.lst [X, .str "more"]), .va (.lst [.lst [X, .str "more"], .lst [X, .str "more"], .lst [X, .str "more"], .lst [X, .str "more"], .lst [X, .str "more"]]), .va (.lst [.ex 0, .ex 1, .ex 2, .ex 3, .ex 4]), .va (.int ((6 : Nat) : Int)), .va (.ex 6), s11, hx1, rfl, rfl, rfl, rfl, rfl, rfl, rfl, z11, ?_⟩
  unfold L_law_2
  exact sqs (m0 e0 (nio_of z4)) (sqs (m1 (nio_of z5)) (sqs m2 (sqs (m3 (c3 r ne z10)) (sqs (m4 (nio_of z6)) (sqs (m5 (nio_of z7)) (sqs (m6 (c6 neY z10)) (sqs (m7 (nio_of z8)) (sf_of m8i (lp (nio_of z9) (nio_of z10) z11)))))))))
def In (u k : D) (n : Nat) (d : Ev) : Prop := ∃ (x : D) (s3 s4 s5 s6 s7 s8 s9 s10 s11 : Sl), BoxOk n x ∧ s3.isO = false ∧ s4.isO = false ∧ s5.isO = false ∧ s6.isO = false ∧ s7.isO = false ∧ s8.isO = false ∧ s9.isO = false ∧ s10.isO = false ∧ s11.isO = false ∧ d = [.va u, .va k, .ow x, s3, s4, s5, s6, s7, s8, s9, s10, s11]
theorem turns {u k : D} {d : Ev} (h : In u k 0 d) : ∃ d', fo (gn 3) L_law_2 (rgD 0 4) d = some (.nx, d') ∧ ∃ n, In u k n d' := by
  obtain ⟨d', e, q⟩ := fo_invI (t := gn 3) (B := L_law_2) (xs := rgD 0 4) (d := d) (fun i d => In u k (108 * i) d) 0 (fun i y d hy hd => by
    rw [Nat.zero_add] at hd ⊢
    have hi : i < 4 := by
      have := (List.getElem?_eq_some_iff.mp hy).1
      rw [rgD_len] at this
      omega
    obtain ⟨x, s3, s4, s5, s6, s7, s8, s9, s10, s11, hx, q3, q4, q5, q6, q7, q8, q9, q10, q11, rfl⟩ := hd
    obtain ⟨x', t4, t5, t6, t7, t8, t9, t10, t11, hx', z4, z5, z6, z7, z8, z9, z10, z11, e⟩ := turn (u := u) (k := k) (x := x) (t := y) (n := 108 * i) (by omega) hx q4 q5 q6 q7 q8 q9 q10 q11
    exact ⟨_, _, gn3 (nio_of q3), e, x', .va y, t4, t5, t6, t7, t8, t9, t10, t11, hx'.mono (by omega), rfl, z4, z5, z6, z7, z8, z9, z10, z11, rfl⟩) h
  exact ⟨d', e, _, q⟩
def Out (ns : List Int) (d : Ev) : Prop := ∃ (s1 s2 s3 s4 s5 s6 s7 s8 s9 s10 s11 : Sl), s1.isO = false ∧ s2.nio = true ∧ s3.isO = false ∧ s4.isO = false ∧ s5.isO = false ∧ s6.isO = false ∧ s7.isO = false ∧ s8.isO = false ∧ s9.isO = false ∧ s10.isO = false ∧ s11.isO = false ∧ d = [.va (.scr ns), s1, s2, s3, s4, s5, s6, s7, s8, s9, s10, s11]
theorem round {ns : List Int} {k : Int} (k0 : 0 ≤ k) (k1 : k < 4) {d : Ev} (hd : Out ns d) : ∃ d1 d2, gn 1 (.int k) d = some d1 ∧ L_law_3 d1 = some (.nx, d2) ∧ Out ns d2 := by
  obtain ⟨s1, s2, s3, s4, s5, s6, s7, s8, s9, s10, s11, q1, q2, q3, q4, q5, q6, q7, q8, q9, q10, q11, rfl⟩ := hd
  obtain ⟨x, e0, hx⟩ := seed_eq ns k k0 k1
  obtain ⟨d', e1, n, x', t3, t4, t5, t6, t7, t8, t9, t10, t11, hx', z3, z4, z5, z6, z7, z8, z9, z10, z11, rfl⟩ := turns (u := .scr ns) (k := .int k) (d := [.va (.scr ns), .va (.int k), .ow x, s3, s4, s5, s6, s7, s8, s9, s10, s11]) ⟨x, s3, s4, s5, s6, s7, s8, s9, s10, s11, hx, q3, q4, q5, q6, q7, q8, q9, q10, q11, rfl⟩
  refine ⟨[.va (.scr ns), .va (.int k), s2, s3, s4, s5, s6, s7, s8, s9, s10, s11], _, ?_, sqs (so2 e0 q2) (sf_rg (n := 4) (d1 := [.va (.scr ns), .va (.int k), .ow x, s3, s4, s5, s6, s7, s8, s9, s10, s11]) rfl (by decide) (by decide) e1), .va (.int k), .ow x', t3, t4, t5, t6, t7, t8, t9, t10, t11, rfl, rfl, z3, z4, z5, z6, z7, z8, z9, z10, z11, rfl⟩
  unfold gn
  rw [if_pos (show notIo [.va (.scr ns), s1, s2, s3, s4, s5, s6, s7, s8, s9, s10, s11] 1 = true by rw [notIo_eq]; exact nio_of q1)]
  rfl
theorem rounds' {ns : List Int} {n : Int} (hn : n ≤ 4) {d : Ev} (hd : Out ns d) : ∃ d', fo (gn 1) L_law_3 (rgD 0 n) d = some (.nx, d') ∧ Out ns d' :=
  fo_inv (Out ns) (fun y hy d hd => by
    obtain ⟨k, rfl, k0, k1⟩ := rgD_mem hy
    exact round k0 (by omega) hd) hd
theorem main_law (ns : List Int) (hn : ns.length ≤ 63) : F_law [.va (.scr ns)] = some (.bl true, [.no]) := by
  obtain ⟨n, hn, n0, n1⟩ : ∃ n : Int, (if (if (ns.length : Int) < 4 then (ns.length : Int) else 4) > 1 then (if (ns.length : Int) < 4 then (ns.length : Int) else 4) else 1) = n ∧ 0 ≤ n ∧ n ≤ 4 := ⟨_, rfl, by split <;> (try split) <;> omega, by split <;> (try split) <;> omega⟩
  obtain ⟨d', e, s1, s2, s3, s4, s5, s6, s7, s8, s9, s10, s11, q1, q2, q3, q4, q5, q6, q7, q8, q9, q10, q11, rfl⟩ := rounds' (ns := ns) n1 (d := .va (.scr ns) :: List.replicate 11 .no) ⟨.no, .no, .no, .no, .no, .no, .no, .no, .no, .no, .no, rfl, rfl, rfl, rfl, rfl, rfl, rfl, rfl, rfl, rfl, rfl, rfl⟩
  unfold F_law B_law
  refine fnD_rt (d' := [.va (.scr ns), s1, s2, s3, s4, s5, s6, s7, s8, s9, s10, s11]) rfl (sqs (sf_rg (n := n) (d1 := .va (.scr ns) :: List.replicate 11 .no) ?_ (by omega) (by omega) e) rfl) rfl
  show cn nMax2 (ac (kc (.int 1)) (ac (cn nMin2 (ac (kc (.int 4)) (ac (cn nLen (ac (nm 0) an)) an))) an)) (.va (.scr ns) :: List.replicate 11 .no) = some (.int n, .va (.scr ns) :: List.replicate 11 .no)
  generalize List.replicate 11 Sl.no = z
  wp_walk using hn
end K01

namespace K01
open PySem L2 Zr
def topS (i : Nat) : Stmt := PySem.Challenge.pw_sharerows_k01_errors_and_what_they_keep.main.body.getD i (.Pass ⟨0, 0, 0, 0⟩)
abbrev s_law_choose : Stmt := (topS 11)
abbrev N_law_choose : List Str := ["_law_box", "_law_many", "_law_digit", "_law_raw"]
abbrev s_law_one_of : Stmt := (topS 12)
abbrev N_law_one_of : List Str := ["_law_box", "_law_some"]
abbrev s_law_anything : Stmt := (topS 13)
abbrev N_law_anything : List Str := ["_law_box", "_law_deep", "_law_form", "_law_some", "_law_inner", "_law_turn"]
abbrev s_law_kept : Stmt := (topS 15)
abbrev N_law_kept : List Str := ["_law_thing", "_law_found"]
abbrev s_law_kinds : Stmt := (topS 14)
abbrev N_law_kinds : List Str := ["_law_one", "_law_found"]
abbrev s_law_seed : Stmt := (topS 10)
abbrev N_law_seed : List Str := ["_law_script", "_law_k", "_law_cell", "_law_stirred", "_law_one"]
abbrev s_law : Stmt := (topS 16)
abbrev N_law : List Str := ["_law_script", "_law_k", "_law_box", "_law_turn", "_law_thing", "_law_by_name", "_law_held", "_law_kept_things", "_law_some", "_law_place", "_law_one", "_law_spot"]
def flds : Nat → List Str
  | _ => []
def xfld : Nat → Str
  | 0 => "word"
  | 1 => "word"
  | 3 => "at"
  | 2 => "word"
  | 4 => "at"
  | _ => ""
abbrev s_xi_InvalidCommand : Stmt := (inClass (topS 7) 0)
abbrev s_xi_InvalidMix : Stmt := (inClass (topS 2) 0)
abbrev s_xi_InvalidPair : Stmt := (inClass (topS 5) 0)
abbrev s_xi_InvalidRow : Stmt := (inClass (topS 3) 0)
abbrev s_xi_InvalidText : Stmt := (inClass (topS 4) 0)
abbrev s_xi_InvalidWall : Stmt := (inClass (topS 6) 0)
abbrev s_xi_Refused : Stmt := (inClass (topS 8) 0)
abbrev GG (K : PySem.W.Frag) (ad : Nat → Addr) : Cls := ⟨K, ad, flds⟩
def fa0 (K : PySem.W.Frag) : Addr := He.ga K "_law_choose"
def fa1 (K : PySem.W.Frag) : Addr := He.ga K "_law_one_of"
def fa2 (K : PySem.W.Frag) : Addr := He.ga K "_law_anything"
def fa3 (K : PySem.W.Frag) : Addr := He.ga K "_law_kept"
def fa4 (K : PySem.W.Frag) : Addr := He.ga K "_law_kinds"
def fa5 (K : PySem.W.Frag) : Addr := He.ga K "_law_seed"
def fa6 (K : PySem.W.Frag) : Addr := He.ga K "law"
def dz0 : He5.DefA := ⟨fa0, "_law_choose", "_law_choose", defArgs s_law_choose, defBody s_law_choose, defScope s_law_choose, [], []⟩
def dz1 : He5.DefA := ⟨fa1, "_law_one_of", "_law_one_of", defArgs s_law_one_of, defBody s_law_one_of, defScope s_law_one_of, [], []⟩
def dz2 : He5.DefA := ⟨fa2, "_law_anything", "_law_anything", defArgs s_law_anything, defBody s_law_anything, defScope s_law_anything, [], []⟩
def dz3 : He5.DefA := ⟨fa3, "_law_kept", "_law_kept", defArgs s_law_kept, defBody s_law_kept, defScope s_law_kept, [], []⟩
def dz4 : He5.DefA := ⟨fa4, "_law_kinds", "_law_kinds", defArgs s_law_kinds, defBody s_law_kinds, defScope s_law_kinds, [], []⟩
def dz5 : He5.DefA := ⟨fa5, "_law_seed", "_law_seed", defArgs s_law_seed, defBody s_law_seed, defScope s_law_seed, [], []⟩
def dz6 : He5.DefA := ⟨fa6, "law", "law", defArgs s_law, defBody s_law, defScope s_law, [], []⟩
def mf : Str := PySem.Challenge.pw_sharerows_k01_errors_and_what_they_keep.main.file
def C_InvalidCommand (K : PySem.W.Frag) : Addr := He.ga K "InvalidCommand"
def C_InvalidMix (K : PySem.W.Frag) : Addr := He.ga K "InvalidMix"
def C_InvalidPair (K : PySem.W.Frag) : Addr := He.ga K "InvalidPair"
def C_InvalidRow (K : PySem.W.Frag) : Addr := He.ga K "InvalidRow"
def C_InvalidText (K : PySem.W.Frag) : Addr := He.ga K "InvalidText"
def C_InvalidWall (K : PySem.W.Frag) : Addr := He.ga K "InvalidWall"
def C_Refused (K : PySem.W.Frag) : Addr := He.ga K "Refused"
def C_ShareError (K : PySem.W.Frag) : Addr := He.ga K "ShareError"
def dx_InvalidCommand : He5.DefA := ⟨fun K => He.ma K (C_InvalidCommand K) "__init__", "__init__", "InvalidCommand.__init__", defArgs s_xi_InvalidCommand, defBody s_xi_InvalidCommand, defScope s_xi_InvalidCommand, [], []⟩
theorem bxi_InvalidCommand : ∀ (cl : List (Str × Addr)) (kV doc pm : Value) (an : Option Addr) (cdv ct : Value) (us : List Value), us.length = (["self"] : List Str).length → bindArgs (PySem.W.fnX "__init__" "InvalidCommand.__init__" (defArgs s_xi_InvalidCommand) (defBody s_xi_InvalidCommand) (defScope s_xi_InvalidCommand) cl .none kV doc pm an cdv ct) ⟨us, []⟩ = pure ((["self"] : List Str).zip us) := fun _ _ _ _ _ _ _ us hl => match us, hl with | [_], _ => rfl
def dx_InvalidMix : He5.DefA := ⟨fun K => He.ma K (C_InvalidMix K) "__init__", "__init__", "InvalidMix.__init__", defArgs s_xi_InvalidMix, defBody s_xi_InvalidMix, defScope s_xi_InvalidMix, [], []⟩
theorem bxi_InvalidMix : ∀ (cl : List (Str × Addr)) (kV doc pm : Value) (an : Option Addr) (cdv ct : Value) (us : List Value), us.length = (["self", "word"] : List Str).length → bindArgs (PySem.W.fnX "__init__" "InvalidMix.__init__" (defArgs s_xi_InvalidMix) (defBody s_xi_InvalidMix) (defScope s_xi_InvalidMix) cl .none kV doc pm an cdv ct) ⟨us, []⟩ = pure ((["self", "word"] : List Str).zip us) := fun _ _ _ _ _ _ _ us hl => match us, hl with | [_, _], _ => rfl
theorem bxk_InvalidMix : ∀ (cl : List (Str × Addr)) (kV doc pm : Value) (an : Option Addr) (cdv ct : Value) (us ws : List Value), us.length = 1 → ws.length = 1 → bindArgs (PySem.W.fnX "__init__" "InvalidMix.__init__" (defArgs s_xi_InvalidMix) (defBody s_xi_InvalidMix) (defScope s_xi_InvalidMix) cl .none kV doc pm an cdv ct) ⟨us, (["word"] : List Str).zip ws⟩ = pure ((["self", "word"] : List Str).zip (us ++ ws)) := fun _ _ _ _ _ _ _ us ws hl hl2 => match us, hl, ws, hl2 with | [_], _, [_], _ => rfl
def dx_InvalidPair : He5.DefA := ⟨fun K => He.ma K (C_InvalidPair K) "__init__", "__init__", "InvalidPair.__init__", defArgs s_xi_InvalidPair, defBody s_xi_InvalidPair, defScope s_xi_InvalidPair, [], []⟩
theorem bxi_InvalidPair : ∀ (cl : List (Str × Addr)) (kV doc pm : Value) (an : Option Addr) (cdv ct : Value) (us : List Value), us.length = (["self", "word"] : List Str).length → bindArgs (PySem.W.fnX "__init__" "InvalidPair.__init__" (defArgs s_xi_InvalidPair) (defBody s_xi_InvalidPair) (defScope s_xi_InvalidPair) cl .none kV doc pm an cdv ct) ⟨us, []⟩ = pure ((["self", "word"] : List Str).zip us) := fun _ _ _ _ _ _ _ us hl => match us, hl with | [_, _], _ => rfl
theorem bxk_InvalidPair : ∀ (cl : List (Str × Addr)) (kV doc pm : Value) (an : Option Addr) (cdv ct : Value) (us ws : List Value), us.length = 1 → ws.length = 1 → bindArgs (PySem.W.fnX "__init__" "InvalidPair.__init__" (defArgs s_xi_InvalidPair) (defBody s_xi_InvalidPair) (defScope s_xi_InvalidPair) cl .none kV doc pm an cdv ct) ⟨us, (["word"] : List Str).zip ws⟩ = pure ((["self", "word"] : List Str).zip (us ++ ws)) := fun _ _ _ _ _ _ _ us ws hl hl2 => match us, hl, ws, hl2 with | [_], _, [_], _ => rfl
def dx_InvalidRow : He5.DefA := ⟨fun K => He.ma K (C_InvalidRow K) "__init__", "__init__", "InvalidRow.__init__", defArgs s_xi_InvalidRow, defBody s_xi_InvalidRow, defScope s_xi_InvalidRow, [], []⟩
theorem bxi_InvalidRow : ∀ (cl : List (Str × Addr)) (kV doc pm : Value) (an : Option Addr) (cdv ct : Value) (us : List Value), us.length = (["self", "word"] : List Str).length → bindArgs (PySem.W.fnX "__init__" "InvalidRow.__init__" (defArgs s_xi_InvalidRow) (defBody s_xi_InvalidRow) (defScope s_xi_InvalidRow) cl .none kV doc pm an cdv ct) ⟨us, []⟩ = pure ((["self", "word"] : List Str).zip us) := fun _ _ _ _ _ _ _ us hl => match us, hl with | [_, _], _ => rfl
theorem bxk_InvalidRow : ∀ (cl : List (Str × Addr)) (kV doc pm : Value) (an : Option Addr) (cdv ct : Value) (us ws : List Value), us.length = 1 → ws.length = 1 → bindArgs (PySem.W.fnX "__init__" "InvalidRow.__init__" (defArgs s_xi_InvalidRow) (defBody s_xi_InvalidRow) (defScope s_xi_InvalidRow) cl .none kV doc pm an cdv ct) ⟨us, (["word"] : List Str).zip ws⟩ = pure ((["self", "word"] : List Str).zip (us ++ ws)) := fun _ _ _ _ _ _ _ us ws hl hl2 => match us, hl, ws, hl2 with | [_], _, [_], _ => rfl
def dx_InvalidText : He5.DefA := ⟨fun K => He.ma K (C_InvalidText K) "__init__", "__init__", "InvalidText.__init__", defArgs s_xi_InvalidText, defBody s_xi_InvalidText, defScope s_xi_InvalidText, [], []⟩
theorem bxi_InvalidText : ∀ (cl : List (Str × Addr)) (kV doc pm : Value) (an : Option Addr) (cdv ct : Value) (us : List Value), us.length = (["self", "at"] : List Str).length → bindArgs (PySem.W.fnX "__init__" "InvalidText.__init__" (defArgs s_xi_InvalidText) (defBody s_xi_InvalidText) (defScope s_xi_InvalidText) cl .none kV doc pm an cdv ct) ⟨us, []⟩ = pure ((["self", "at"] : List Str).zip us) := fun _ _ _ _ _ _ _ us hl => match us, hl with | [_, _], _ => rfl
theorem bxk_InvalidText : ∀ (cl : List (Str × Addr)) (kV doc pm : Value) (an : Option Addr) (cdv ct : Value) (us ws : List Value), us.length = 1 → ws.length = 1 → bindArgs (PySem.W.fnX "__init__" "InvalidText.__init__" (defArgs s_xi_InvalidText) (defBody s_xi_InvalidText) (defScope s_xi_InvalidText) cl .none kV doc pm an cdv ct) ⟨us, (["at"] : List Str).zip ws⟩ = pure ((["self", "at"] : List Str).zip (us ++ ws)) := fun _ _ _ _ _ _ _ us ws hl hl2 => match us, hl, ws, hl2 with | [_], _, [_], _ => rfl
def dx_InvalidWall : He5.DefA := ⟨fun K => He.ma K (C_InvalidWall K) "__init__", "__init__", "InvalidWall.__init__", defArgs s_xi_InvalidWall, defBody s_xi_InvalidWall, defScope s_xi_InvalidWall, [], []⟩
theorem bxi_InvalidWall : ∀ (cl : List (Str × Addr)) (kV doc pm : Value) (an : Option Addr) (cdv ct : Value) (us : List Value), us.length = (["self"] : List Str).length → bindArgs (PySem.W.fnX "__init__" "InvalidWall.__init__" (defArgs s_xi_InvalidWall) (defBody s_xi_InvalidWall) (defScope s_xi_InvalidWall) cl .none kV doc pm an cdv ct) ⟨us, []⟩ = pure ((["self"] : List Str).zip us) := fun _ _ _ _ _ _ _ us hl => match us, hl with | [_], _ => rfl
def dx_Refused : He5.DefA := ⟨fun K => He.ma K (C_Refused K) "__init__", "__init__", "Refused.__init__", defArgs s_xi_Refused, defBody s_xi_Refused, defScope s_xi_Refused, [], []⟩
theorem bxi_Refused : ∀ (cl : List (Str × Addr)) (kV doc pm : Value) (an : Option Addr) (cdv ct : Value) (us : List Value), us.length = (["self", "at"] : List Str).length → bindArgs (PySem.W.fnX "__init__" "Refused.__init__" (defArgs s_xi_Refused) (defBody s_xi_Refused) (defScope s_xi_Refused) cl .none kV doc pm an cdv ct) ⟨us, []⟩ = pure ((["self", "at"] : List Str).zip us) := fun _ _ _ _ _ _ _ us hl => match us, hl with | [_, _], _ => rfl
theorem bxk_Refused : ∀ (cl : List (Str × Addr)) (kV doc pm : Value) (an : Option Addr) (cdv ct : Value) (us ws : List Value), us.length = 1 → ws.length = 1 → bindArgs (PySem.W.fnX "__init__" "Refused.__init__" (defArgs s_xi_Refused) (defBody s_xi_Refused) (defScope s_xi_Refused) cl .none kV doc pm an cdv ct) ⟨us, (["at"] : List Str).zip ws⟩ = pure ((["self", "at"] : List Str).zip (us ++ ws)) := fun _ _ _ _ _ _ _ us ws hl hl2 => match us, hl, ws, hl2 with | [_], _, [_], _ => rfl
def xnZ : List He5.DefA := [dx_InvalidCommand, dx_InvalidMix, dx_InvalidPair, dx_InvalidRow, dx_InvalidText, dx_InvalidWall, dx_Refused]
def exg0 (K : PySem.W.Frag) : Bool := decide (PySem.W.nsIn K mainGlobals "_law_choose" = some (some (.ref (fa0 K)))) && (decide (PySem.W.nsIn K mainGlobals "_law_one_of" = some (some (.ref (fa1 K)))) && (decide (PySem.W.nsIn K mainGlobals "_law_anything" = some (some (.ref (fa2 K)))) && (decide (PySem.W.nsIn K mainGlobals "_law_kept" = some (some (.ref (fa3 K)))) && (decide (PySem.W.nsIn K mainGlobals "_law_kinds" = some (some (.ref (fa4 K)))) && (decide (PySem.W.nsIn K mainGlobals "_law_seed" = some (some (.ref (fa5 K)))) && (decide (PySem.W.nsIn K mainGlobals "law" = some (some (.ref (fa6 K)))) && (decide (PySem.W.nsIn K mainGlobals "KeyError" = some none) && (decide (PySem.W.nsIn K mainGlobals "ValueError" = some none) && (decide (PySem.W.nsIn K mainGlobals "abs" = some none) && (decide (PySem.W.nsIn K mainGlobals "enumerate" = some none) && (decide (PySem.W.nsIn K mainGlobals "int" = some none) && (decide (PySem.W.nsIn K mainGlobals "isinstance" = some none) && (decide (PySem.W.nsIn K mainGlobals "len" = some none) && (decide (PySem.W.nsIn K mainGlobals "max" = some none) && (decide (PySem.W.nsIn K mainGlobals "min" = some none) && (decide (PySem.W.nsIn K mainGlobals "range" = some none) && (decide (PySem.W.nsIn K mainGlobals "repr" = some none) && (decide (PySem.W.nsIn K mainGlobals "super" = some none) && (decide (PySem.W.nsIn K mainGlobals "tuple" = some none))))))))))))))))))))
set_option maxHeartbeats 0 in
theorem exg0_ok {K : PySem.W.Frag} (h : exg0 K = true) : (PySem.W.nsIn K mainGlobals "_law_choose" = some (some (.ref (fa0 K)))) ∧ (PySem.W.nsIn K mainGlobals "_law_one_of" = some (some (.ref (fa1 K)))) ∧ (PySem.W.nsIn K mainGlobals "_law_anything" = some (some (.ref (fa2 K)))) ∧ (PySem.W.nsIn K mainGlobals "_law_kept" = some (some (.ref (fa3 K)))) ∧ (PySem.W.nsIn K mainGlobals "_law_kinds" = some (some (.ref (fa4 K)))) ∧ (PySem.W.nsIn K mainGlobals "_law_seed" = some (some (.ref (fa5 K)))) ∧ (PySem.W.nsIn K mainGlobals "law" = some (some (.ref (fa6 K)))) ∧ (PySem.W.nsIn K mainGlobals "KeyError" = some none) ∧ (PySem.W.nsIn K mainGlobals "ValueError" = some none) ∧ (PySem.W.nsIn K mainGlobals "abs" = some none) ∧ (PySem.W.nsIn K mainGlobals "enumerate" = some none) ∧ (PySem.W.nsIn K mainGlobals "int" = some none) ∧ (PySem.W.nsIn K mainGlobals "isinstance" = some none) ∧ (PySem.W.nsIn K mainGlobals "len" = some none) ∧ (PySem.W.nsIn K mainGlobals "max" = some none) ∧ (PySem.W.nsIn K mainGlobals "min" = some none) ∧ (PySem.W.nsIn K mainGlobals "range" = some none) ∧ (PySem.W.nsIn K mainGlobals "repr" = some none) ∧ (PySem.W.nsIn K mainGlobals "super" = some none) ∧ (PySem.W.nsIn K mainGlobals "tuple" = some none) := by
  simp only [exg0, Bool.and_eq_true, decide_eq_true_eq] at h
  exact h
def exg1 (K : PySem.W.Frag) : Bool := decide (PySem.W.nsIn K mainGlobals "InvalidCommand" = some (some (.ref (C_InvalidCommand K)))) && (decide (PySem.W.nsIn K mainGlobals "InvalidMix" = some (some (.ref (C_InvalidMix K)))) && (decide (PySem.W.nsIn K mainGlobals "InvalidPair" = some (some (.ref (C_InvalidPair K)))) && (decide (PySem.W.nsIn K mainGlobals "InvalidRow" = some (some (.ref (C_InvalidRow K)))) && (decide (PySem.W.nsIn K mainGlobals "InvalidText" = some (some (.ref (C_InvalidText K)))) && (decide (PySem.W.nsIn K mainGlobals "InvalidWall" = some (some (.ref (C_InvalidWall K)))) && (decide (PySem.W.nsIn K mainGlobals "Refused" = some (some (.ref (C_Refused K)))) && (decide (PySem.W.nsIn K mainGlobals "ShareError" = some (some (.ref (C_ShareError K)))) && (decide (PySem.W.nsIn K cStatics "thirdparty.any" = some none) && (decide (PySem.W.specialIn K (.builtin "object.__class__") "__get__" = some (some (.builtin "getset_descriptor.__get__"))) && (decide (PySem.W.takesIn K (.builtin "object.__class__") = some true) && (decide (xcB K mf "InvalidCommand.__init__" (C_InvalidCommand K) = true) && (decide (oexB K (C_InvalidCommand K) = true) && (decide (PySem.W.findIn K (.ref (C_InvalidCommand K)) "__getattribute__" = some (some (.builtin "BaseException.__getattribute__"))) && (decide (PySem.W.findIn K (.ref (C_InvalidCommand K)) "__getattr__" = some none) && (decide (PySem.W.subIn K (.ref (C_InvalidCommand K)) (.type "BaseException") = some true) && (decide (PySem.W.hasDictIn K (C_InvalidCommand K) = true) && (decide (PySem.W.findIn K (.ref (C_InvalidCommand K)) "__class__" = some (some (.builtin "object.__class__"))) && (decide (PySem.W.mroIn K (C_InvalidCommand K) (.type "object") = some true) && (decide (xcB K mf "InvalidMix.__init__" (C_InvalidMix K) = true))))))))))))))))))))
set_option maxHeartbeats 0 in
theorem exg1_ok {K : PySem.W.Frag} (h : exg1 K = true) : (PySem.W.nsIn K mainGlobals "InvalidCommand" = some (some (.ref (C_InvalidCommand K)))) ∧ (PySem.W.nsIn K mainGlobals "InvalidMix" = some (some (.ref (C_InvalidMix K)))) ∧ (PySem.W.nsIn K mainGlobals "InvalidPair" = some (some (.ref (C_InvalidPair K)))) ∧ (PySem.W.nsIn K mainGlobals "InvalidRow" = some (some (.ref (C_InvalidRow K)))) ∧ (PySem.W.nsIn K mainGlobals "InvalidText" = some (some (.ref (C_InvalidText K)))) ∧ (PySem.W.nsIn K mainGlobals "InvalidWall" = some (some (.ref (C_InvalidWall K)))) ∧ (PySem.W.nsIn K mainGlobals "Refused" = some (some (.ref (C_Refused K)))) ∧ (PySem.W.nsIn K mainGlobals "ShareError" = some (some (.ref (C_ShareError K)))) ∧ (PySem.W.nsIn K cStatics "thirdparty.any" = some none) ∧ (PySem.W.specialIn K (.builtin "object.__class__") "__get__" = some (some (.builtin "getset_descriptor.__get__"))) ∧ (PySem.W.takesIn K (.builtin "object.__class__") = some true) ∧ (xcB K mf "InvalidCommand.__init__" (C_InvalidCommand K) = true) ∧ (oexB K (C_InvalidCommand K) = true) ∧ (PySem.W.findIn K (.ref (C_InvalidCommand K)) "__getattribute__" = some (some (.builtin "BaseException.__getattribute__"))) ∧ (PySem.W.findIn K (.ref (C_InvalidCommand K)) "__getattr__" = some none) ∧ (PySem.W.subIn K (.ref (C_InvalidCommand K)) (.type "BaseException") = some true) ∧ (PySem.W.hasDictIn K (C_InvalidCommand K) = true) ∧ (PySem.W.findIn K (.ref (C_InvalidCommand K)) "__class__" = some (some (.builtin "object.__class__"))) ∧ (PySem.W.mroIn K (C_InvalidCommand K) (.type "object") = some true) ∧ (xcB K mf "InvalidMix.__init__" (C_InvalidMix K) = true) := by
  simp only [exg1, Bool.and_eq_true, decide_eq_true_eq] at h
  exact h
def exg2 (K : PySem.W.Frag) : Bool := decide (oexB K (C_InvalidMix K) = true) && (decide (PySem.W.findIn K (.ref (C_InvalidMix K)) "__getattribute__" = some (some (.builtin "BaseException.__getattribute__"))) && (decide (PySem.W.findIn K (.ref (C_InvalidMix K)) "__getattr__" = some none) && (decide (PySem.W.subIn K (.ref (C_InvalidMix K)) (.type "BaseException") = some true) && (decide (PySem.W.hasDictIn K (C_InvalidMix K) = true) && (decide (PySem.W.findIn K (.ref (C_InvalidMix K)) "__class__" = some (some (.builtin "object.__class__"))) && (decide (PySem.W.mroIn K (C_InvalidMix K) (.type "object") = some true) && (decide (PySem.W.findIn K (.ref (C_InvalidMix K)) (xfld 0) = some none) && (decide (xcB K mf "InvalidPair.__init__" (C_InvalidPair K) = true) && (decide (oexB K (C_InvalidPair K) = true) && (decide (PySem.W.findIn K (.ref (C_InvalidPair K)) "__getattribute__" = some (some (.builtin "BaseException.__getattribute__"))) && (decide (PySem.W.findIn K (.ref (C_InvalidPair K)) "__getattr__" = some none) && (decide (PySem.W.subIn K (.ref (C_InvalidPair K)) (.type "BaseException") = some true) && (decide (PySem.W.hasDictIn K (C_InvalidPair K) = true) && (decide (PySem.W.findIn K (.ref (C_InvalidPair K)) "__class__" = some (some (.builtin "object.__class__"))) && (decide (PySem.W.mroIn K (C_InvalidPair K) (.type "object") = some true) && (decide (PySem.W.findIn K (.ref (C_InvalidPair K)) (xfld 2) = some none) && (decide (xcB K mf "InvalidRow.__init__" (C_InvalidRow K) = true) && (decide (oexB K (C_InvalidRow K) = true) && (decide (PySem.W.findIn K (.ref (C_InvalidRow K)) "__getattribute__" = some (some (.builtin "BaseException.__getattribute__"))))))))))))))))))))))
set_option maxHeartbeats 0 in
theorem exg2_ok {K : PySem.W.Frag} (h : exg2 K = true) : (oexB K (C_InvalidMix K) = true) ∧ (PySem.W.findIn K (.ref (C_InvalidMix K)) "__getattribute__" = some (some (.builtin "BaseException.__getattribute__"))) ∧ (PySem.W.findIn K (.ref (C_InvalidMix K)) "__getattr__" = some none) ∧ (PySem.W.subIn K (.ref (C_InvalidMix K)) (.type "BaseException") = some true) ∧ (PySem.W.hasDictIn K (C_InvalidMix K) = true) ∧ (PySem.W.findIn K (.ref (C_InvalidMix K)) "__class__" = some (some (.builtin "object.__class__"))) ∧ (PySem.W.mroIn K (C_InvalidMix K) (.type "object") = some true) ∧ (PySem.W.findIn K (.ref (C_InvalidMix K)) (xfld 0) = some none) ∧ (xcB K mf "InvalidPair.__init__" (C_InvalidPair K) = true) ∧ (oexB K (C_InvalidPair K) = true) ∧ (PySem.W.findIn K (.ref (C_InvalidPair K)) "__getattribute__" = some (some (.builtin "BaseException.__getattribute__"))) ∧ (PySem.W.findIn K (.ref (C_InvalidPair K)) "__getattr__" = some none) ∧ (PySem.W.subIn K (.ref (C_InvalidPair K)) (.type "BaseException") = some true) ∧ (PySem.W.hasDictIn K (C_InvalidPair K) = true) ∧ (PySem.W.findIn K (.ref (C_InvalidPair K)) "__class__" = some (some (.builtin "object.__class__"))) ∧ (PySem.W.mroIn K (C_InvalidPair K) (.type "object") = some true) ∧ (PySem.W.findIn K (.ref (C_InvalidPair K)) (xfld 2) = some none) ∧ (xcB K mf "InvalidRow.__init__" (C_InvalidRow K) = true) ∧ (oexB K (C_InvalidRow K) = true) ∧ (PySem.W.findIn K (.ref (C_InvalidRow K)) "__getattribute__" = some (some (.builtin "BaseException.__getattribute__"))) := by
  simp only [exg2, Bool.and_eq_true, decide_eq_true_eq] at h
  exact h
def exg3 (K : PySem.W.Frag) : Bool := decide (PySem.W.findIn K (.ref (C_InvalidRow K)) "__getattr__" = some none) && (decide (PySem.W.subIn K (.ref (C_InvalidRow K)) (.type "BaseException") = some true) && (decide (PySem.W.hasDictIn K (C_InvalidRow K) = true) && (decide (PySem.W.findIn K (.ref (C_InvalidRow K)) "__class__" = some (some (.builtin "object.__class__"))) && (decide (PySem.W.mroIn K (C_InvalidRow K) (.type "object") = some true) && (decide (PySem.W.findIn K (.ref (C_InvalidRow K)) (xfld 1) = some none) && (decide (xcB K mf "InvalidText.__init__" (C_InvalidText K) = true) && (decide (oexB K (C_InvalidText K) = true) && (decide (PySem.W.findIn K (.ref (C_InvalidText K)) "__getattribute__" = some (some (.builtin "BaseException.__getattribute__"))) && (decide (PySem.W.findIn K (.ref (C_InvalidText K)) "__getattr__" = some none) && (decide (PySem.W.subIn K (.ref (C_InvalidText K)) (.type "BaseException") = some true) && (decide (PySem.W.hasDictIn K (C_InvalidText K) = true) && (decide (PySem.W.findIn K (.ref (C_InvalidText K)) "__class__" = some (some (.builtin "object.__class__"))) && (decide (PySem.W.mroIn K (C_InvalidText K) (.type "object") = some true) && (decide (PySem.W.findIn K (.ref (C_InvalidText K)) (xfld 3) = some none) && (decide (xcB K mf "InvalidWall.__init__" (C_InvalidWall K) = true) && (decide (oexB K (C_InvalidWall K) = true) && (decide (PySem.W.findIn K (.ref (C_InvalidWall K)) "__getattribute__" = some (some (.builtin "BaseException.__getattribute__"))) && (decide (PySem.W.findIn K (.ref (C_InvalidWall K)) "__getattr__" = some none) && (decide (PySem.W.subIn K (.ref (C_InvalidWall K)) (.type "BaseException") = some true))))))))))))))))))))
set_option maxHeartbeats 0 in
theorem exg3_ok {K : PySem.W.Frag} (h : exg3 K = true) : (PySem.W.findIn K (.ref (C_InvalidRow K)) "__getattr__" = some none) ∧ (PySem.W.subIn K (.ref (C_InvalidRow K)) (.type "BaseException") = some true) ∧ (PySem.W.hasDictIn K (C_InvalidRow K) = true) ∧ (PySem.W.findIn K (.ref (C_InvalidRow K)) "__class__" = some (some (.builtin "object.__class__"))) ∧ (PySem.W.mroIn K (C_InvalidRow K) (.type "object") = some true) ∧ (PySem.W.findIn K (.ref (C_InvalidRow K)) (xfld 1) = some none) ∧ (xcB K mf "InvalidText.__init__" (C_InvalidText K) = true) ∧ (oexB K (C_InvalidText K) = true) ∧ (PySem.W.findIn K (.ref (C_InvalidText K)) "__getattribute__" = some (some (.builtin "BaseException.__getattribute__"))) ∧ (PySem.W.findIn K (.ref (C_InvalidText K)) "__getattr__" = some none) ∧ (PySem.W.subIn K (.ref (C_InvalidText K)) (.type "BaseException") = some true) ∧ (PySem.W.hasDictIn K (C_InvalidText K) = true) ∧ (PySem.W.findIn K (.ref (C_InvalidText K)) "__class__" = some (some (.builtin "object.__class__"))) ∧ (PySem.W.mroIn K (C_InvalidText K) (.type "object") = some true) ∧ (PySem.W.findIn K (.ref (C_InvalidText K)) (xfld 3) = some none) ∧ (xcB K mf "InvalidWall.__init__" (C_InvalidWall K) = true) ∧ (oexB K (C_InvalidWall K) = true) ∧ (PySem.W.findIn K (.ref (C_InvalidWall K)) "__getattribute__" = some (some (.builtin "BaseException.__getattribute__"))) ∧ (PySem.W.findIn K (.ref (C_InvalidWall K)) "__getattr__" = some none) ∧ (PySem.W.subIn K (.ref (C_InvalidWall K)) (.type "BaseException") = some true) := by
  simp only [exg3, Bool.and_eq_true, decide_eq_true_eq] at h
  exact h
def exg4 (K : PySem.W.Frag) : Bool := decide (PySem.W.hasDictIn K (C_InvalidWall K) = true) && (decide (PySem.W.findIn K (.ref (C_InvalidWall K)) "__class__" = some (some (.builtin "object.__class__"))) && (decide (PySem.W.mroIn K (C_InvalidWall K) (.type "object") = some true) && (decide (xcB K mf "Refused.__init__" (C_Refused K) = true) && (decide (oexB K (C_Refused K) = true) && (decide (PySem.W.findIn K (.ref (C_Refused K)) "__getattribute__" = some (some (.builtin "BaseException.__getattribute__"))) && (decide (PySem.W.findIn K (.ref (C_Refused K)) "__getattr__" = some none) && (decide (PySem.W.subIn K (.ref (C_Refused K)) (.type "BaseException") = some true) && (decide (PySem.W.hasDictIn K (C_Refused K) = true) && (decide (PySem.W.findIn K (.ref (C_Refused K)) "__class__" = some (some (.builtin "object.__class__"))) && (decide (PySem.W.mroIn K (C_Refused K) (.type "object") = some true) && (decide (PySem.W.findIn K (.ref (C_Refused K)) (xfld 4) = some none) && (decide (PySem.W.kitOne K (.ref (C_InvalidCommand K)) (.ref (C_InvalidCommand K)) = some true) && (decide (PySem.W.kitOne K (.ref (C_InvalidMix K)) (.ref (C_InvalidCommand K)) = some false) && (decide (PySem.W.kitOne K (.ref (C_InvalidPair K)) (.ref (C_InvalidCommand K)) = some false) && (decide (PySem.W.kitOne K (.ref (C_InvalidRow K)) (.ref (C_InvalidCommand K)) = some false) && (decide (PySem.W.kitOne K (.ref (C_InvalidText K)) (.ref (C_InvalidCommand K)) = some false) && (decide (PySem.W.kitOne K (.ref (C_InvalidWall K)) (.ref (C_InvalidCommand K)) = some false) && (decide (PySem.W.kitOne K (.ref (C_Refused K)) (.ref (C_InvalidCommand K)) = some false) && (decide (PySem.W.kitOne K (.ref (C_InvalidCommand K)) (.ref (C_InvalidMix K)) = some false))))))))))))))))))))
set_option maxHeartbeats 0 in
theorem exg4_ok {K : PySem.W.Frag} (h : exg4 K = true) : (PySem.W.hasDictIn K (C_InvalidWall K) = true) ∧ (PySem.W.findIn K (.ref (C_InvalidWall K)) "__class__" = some (some (.builtin "object.__class__"))) ∧ (PySem.W.mroIn K (C_InvalidWall K) (.type "object") = some true) ∧ (xcB K mf "Refused.__init__" (C_Refused K) = true) ∧ (oexB K (C_Refused K) = true) ∧ (PySem.W.findIn K (.ref (C_Refused K)) "__getattribute__" = some (some (.builtin "BaseException.__getattribute__"))) ∧ (PySem.W.findIn K (.ref (C_Refused K)) "__getattr__" = some none) ∧ (PySem.W.subIn K (.ref (C_Refused K)) (.type "BaseException") = some true) ∧ (PySem.W.hasDictIn K (C_Refused K) = true) ∧ (PySem.W.findIn K (.ref (C_Refused K)) "__class__" = some (some (.builtin "object.__class__"))) ∧ (PySem.W.mroIn K (C_Refused K) (.type "object") = some true) ∧ (PySem.W.findIn K (.ref (C_Refused K)) (xfld 4) = some none) ∧ (PySem.W.kitOne K (.ref (C_InvalidCommand K)) (.ref (C_InvalidCommand K)) = some true) ∧ (PySem.W.kitOne K (.ref (C_InvalidMix K)) (.ref (C_InvalidCommand K)) = some false) ∧ (PySem.W.kitOne K (.ref (C_InvalidPair K)) (.ref (C_InvalidCommand K)) = some false) ∧ (PySem.W.kitOne K (.ref (C_InvalidRow K)) (.ref (C_InvalidCommand K)) = some false) ∧ (PySem.W.kitOne K (.ref (C_InvalidText K)) (.ref (C_InvalidCommand K)) = some false) ∧ (PySem.W.kitOne K (.ref (C_InvalidWall K)) (.ref (C_InvalidCommand K)) = some false) ∧ (PySem.W.kitOne K (.ref (C_Refused K)) (.ref (C_InvalidCommand K)) = some false) ∧ (PySem.W.kitOne K (.ref (C_InvalidCommand K)) (.ref (C_InvalidMix K)) = some false) := by
  simp only [exg4, Bool.and_eq_true, decide_eq_true_eq] at h
  exact h
def exg5 (K : PySem.W.Frag) : Bool := decide (PySem.W.kitOne K (.ref (C_InvalidMix K)) (.ref (C_InvalidMix K)) = some true) && (decide (PySem.W.kitOne K (.ref (C_InvalidPair K)) (.ref (C_InvalidMix K)) = some false) && (decide (PySem.W.kitOne K (.ref (C_InvalidRow K)) (.ref (C_InvalidMix K)) = some false) && (decide (PySem.W.kitOne K (.ref (C_InvalidText K)) (.ref (C_InvalidMix K)) = some false) && (decide (PySem.W.kitOne K (.ref (C_InvalidWall K)) (.ref (C_InvalidMix K)) = some false) && (decide (PySem.W.kitOne K (.ref (C_Refused K)) (.ref (C_InvalidMix K)) = some false) && (decide (PySem.W.kitOne K (.ref (C_InvalidCommand K)) (.ref (C_InvalidPair K)) = some false) && (decide (PySem.W.kitOne K (.ref (C_InvalidMix K)) (.ref (C_InvalidPair K)) = some false) && (decide (PySem.W.kitOne K (.ref (C_InvalidPair K)) (.ref (C_InvalidPair K)) = some true) && (decide (PySem.W.kitOne K (.ref (C_InvalidRow K)) (.ref (C_InvalidPair K)) = some false) && (decide (PySem.W.kitOne K (.ref (C_InvalidText K)) (.ref (C_InvalidPair K)) = some false) && (decide (PySem.W.kitOne K (.ref (C_InvalidWall K)) (.ref (C_InvalidPair K)) = some false) && (decide (PySem.W.kitOne K (.ref (C_Refused K)) (.ref (C_InvalidPair K)) = some false) && (decide (PySem.W.kitOne K (.ref (C_InvalidCommand K)) (.ref (C_InvalidRow K)) = some false) && (decide (PySem.W.kitOne K (.ref (C_InvalidMix K)) (.ref (C_InvalidRow K)) = some false) && (decide (PySem.W.kitOne K (.ref (C_InvalidPair K)) (.ref (C_InvalidRow K)) = some false) && (decide (PySem.W.kitOne K (.ref (C_InvalidRow K)) (.ref (C_InvalidRow K)) = some true) && (decide (PySem.W.kitOne K (.ref (C_InvalidText K)) (.ref (C_InvalidRow K)) = some false) && (decide (PySem.W.kitOne K (.ref (C_InvalidWall K)) (.ref (C_InvalidRow K)) = some false) && (decide (PySem.W.kitOne K (.ref (C_Refused K)) (.ref (C_InvalidRow K)) = some false))))))))))))))))))))
set_option maxHeartbeats 0 in
theorem exg5_ok {K : PySem.W.Frag} (h : exg5 K = true) : (PySem.W.kitOne K (.ref (C_InvalidMix K)) (.ref (C_InvalidMix K)) = some true) ∧ (PySem.W.kitOne K (.ref (C_InvalidPair K)) (.ref (C_InvalidMix K)) = some false) ∧ (PySem.W.kitOne K (.ref (C_InvalidRow K)) (.ref (C_InvalidMix K)) = some false) ∧ (PySem.W.kitOne K (.ref (C_InvalidText K)) (.ref (C_InvalidMix K)) = some false) ∧ (PySem.W.kitOne K (.ref (C_InvalidWall K)) (.ref (C_InvalidMix K)) = some false) ∧ (PySem.W.kitOne K (.ref (C_Refused K)) (.ref (C_InvalidMix K)) = some false) ∧ (PySem.W.kitOne K (.ref (C_InvalidCommand K)) (.ref (C_InvalidPair K)) = some false) ∧ (PySem.W.kitOne K (.ref (C_InvalidMix K)) (.ref (C_InvalidPair K)) = some false) ∧ (PySem.W.kitOne K (.ref (C_InvalidPair K)) (.ref (C_InvalidPair K)) = some true) ∧ (PySem.W.kitOne K (.ref (C_InvalidRow K)) (.ref (C_InvalidPair K)) = some false) ∧ (PySem.W.kitOne K (.ref (C_InvalidText K)) (.ref (C_InvalidPair K)) = some false) ∧ (PySem.W.kitOne K (.ref (C_InvalidWall K)) (.ref (C_InvalidPair K)) = some false) ∧ (PySem.W.kitOne K (.ref (C_Refused K)) (.ref (C_InvalidPair K)) = some false) ∧ (PySem.W.kitOne K (.ref (C_InvalidCommand K)) (.ref (C_InvalidRow K)) = some false) ∧ (PySem.W.kitOne K (.ref (C_InvalidMix K)) (.ref (C_InvalidRow K)) = some false) ∧ (PySem.W.kitOne K (.ref (C_InvalidPair K)) (.ref (C_InvalidRow K)) = some false) ∧ (PySem.W.kitOne K (.ref (C_InvalidRow K)) (.ref (C_InvalidRow K)) = some true) ∧ (PySem.W.kitOne K (.ref (C_InvalidText K)) (.ref (C_InvalidRow K)) = some false) ∧ (PySem.W.kitOne K (.ref (C_InvalidWall K)) (.ref (C_InvalidRow K)) = some false) ∧ (PySem.W.kitOne K (.ref (C_Refused K)) (.ref (C_InvalidRow K)) = some false) := by
  simp only [exg5, Bool.and_eq_true, decide_eq_true_eq] at h
  exact h
def exg6 (K : PySem.W.Frag) : Bool := decide (PySem.W.kitOne K (.ref (C_InvalidCommand K)) (.ref (C_InvalidText K)) = some false) && (decide (PySem.W.kitOne K (.ref (C_InvalidMix K)) (.ref (C_InvalidText K)) = some false) && (decide (PySem.W.kitOne K (.ref (C_InvalidPair K)) (.ref (C_InvalidText K)) = some false) && (decide (PySem.W.kitOne K (.ref (C_InvalidRow K)) (.ref (C_InvalidText K)) = some false) && (decide (PySem.W.kitOne K (.ref (C_InvalidText K)) (.ref (C_InvalidText K)) = some true) && (decide (PySem.W.kitOne K (.ref (C_InvalidWall K)) (.ref (C_InvalidText K)) = some false) && (decide (PySem.W.kitOne K (.ref (C_Refused K)) (.ref (C_InvalidText K)) = some false) && (decide (PySem.W.kitOne K (.ref (C_InvalidCommand K)) (.ref (C_InvalidWall K)) = some false) && (decide (PySem.W.kitOne K (.ref (C_InvalidMix K)) (.ref (C_InvalidWall K)) = some false) && (decide (PySem.W.kitOne K (.ref (C_InvalidPair K)) (.ref (C_InvalidWall K)) = some false) && (decide (PySem.W.kitOne K (.ref (C_InvalidRow K)) (.ref (C_InvalidWall K)) = some false) && (decide (PySem.W.kitOne K (.ref (C_InvalidText K)) (.ref (C_InvalidWall K)) = some false) && (decide (PySem.W.kitOne K (.ref (C_InvalidWall K)) (.ref (C_InvalidWall K)) = some true) && (decide (PySem.W.kitOne K (.ref (C_Refused K)) (.ref (C_InvalidWall K)) = some false) && (decide (PySem.W.kitOne K (.ref (C_InvalidCommand K)) (.type "KeyError") = some false) && (decide (PySem.W.kitOne K (.ref (C_InvalidMix K)) (.type "KeyError") = some false) && (decide (PySem.W.kitOne K (.ref (C_InvalidPair K)) (.type "KeyError") = some false) && (decide (PySem.W.kitOne K (.ref (C_InvalidRow K)) (.type "KeyError") = some false) && (decide (PySem.W.kitOne K (.ref (C_InvalidText K)) (.type "KeyError") = some false) && (decide (PySem.W.kitOne K (.ref (C_InvalidWall K)) (.type "KeyError") = some false))))))))))))))))))))
set_option maxHeartbeats 0 in
theorem exg6_ok {K : PySem.W.Frag} (h : exg6 K = true) : (PySem.W.kitOne K (.ref (C_InvalidCommand K)) (.ref (C_InvalidText K)) = some false) ∧ (PySem.W.kitOne K (.ref (C_InvalidMix K)) (.ref (C_InvalidText K)) = some false) ∧ (PySem.W.kitOne K (.ref (C_InvalidPair K)) (.ref (C_InvalidText K)) = some false) ∧ (PySem.W.kitOne K (.ref (C_InvalidRow K)) (.ref (C_InvalidText K)) = some false) ∧ (PySem.W.kitOne K (.ref (C_InvalidText K)) (.ref (C_InvalidText K)) = some true) ∧ (PySem.W.kitOne K (.ref (C_InvalidWall K)) (.ref (C_InvalidText K)) = some false) ∧ (PySem.W.kitOne K (.ref (C_Refused K)) (.ref (C_InvalidText K)) = some false) ∧ (PySem.W.kitOne K (.ref (C_InvalidCommand K)) (.ref (C_InvalidWall K)) = some false) ∧ (PySem.W.kitOne K (.ref (C_InvalidMix K)) (.ref (C_InvalidWall K)) = some false) ∧ (PySem.W.kitOne K (.ref (C_InvalidPair K)) (.ref (C_InvalidWall K)) = some false) ∧ (PySem.W.kitOne K (.ref (C_InvalidRow K)) (.ref (C_InvalidWall K)) = some false) ∧ (PySem.W.kitOne K (.ref (C_InvalidText K)) (.ref (C_InvalidWall K)) = some false) ∧ (PySem.W.kitOne K (.ref (C_InvalidWall K)) (.ref (C_InvalidWall K)) = some true) ∧ (PySem.W.kitOne K (.ref (C_Refused K)) (.ref (C_InvalidWall K)) = some false) ∧ (PySem.W.kitOne K (.ref (C_InvalidCommand K)) (.type "KeyError") = some false) ∧ (PySem.W.kitOne K (.ref (C_InvalidMix K)) (.type "KeyError") = some false) ∧ (PySem.W.kitOne K (.ref (C_InvalidPair K)) (.type "KeyError") = some false) ∧ (PySem.W.kitOne K (.ref (C_InvalidRow K)) (.type "KeyError") = some false) ∧ (PySem.W.kitOne K (.ref (C_InvalidText K)) (.type "KeyError") = some false) ∧ (PySem.W.kitOne K (.ref (C_InvalidWall K)) (.type "KeyError") = some false) := by
  simp only [exg6, Bool.and_eq_true, decide_eq_true_eq] at h
  exact h
def exg7 (K : PySem.W.Frag) : Bool := decide (PySem.W.kitOne K (.ref (C_Refused K)) (.type "KeyError") = some false) && (decide (PySem.W.kitOne K (.ref (C_InvalidCommand K)) (.ref (C_Refused K)) = some false) && (decide (PySem.W.kitOne K (.ref (C_InvalidMix K)) (.ref (C_Refused K)) = some false) && (decide (PySem.W.kitOne K (.ref (C_InvalidPair K)) (.ref (C_Refused K)) = some false) && (decide (PySem.W.kitOne K (.ref (C_InvalidRow K)) (.ref (C_Refused K)) = some false) && (decide (PySem.W.kitOne K (.ref (C_InvalidText K)) (.ref (C_Refused K)) = some false) && (decide (PySem.W.kitOne K (.ref (C_InvalidWall K)) (.ref (C_Refused K)) = some false) && (decide (PySem.W.kitOne K (.ref (C_Refused K)) (.ref (C_Refused K)) = some true) && (decide (PySem.W.kitOne K (.ref (C_InvalidCommand K)) (.ref (C_ShareError K)) = some true) && (decide (PySem.W.kitOne K (.ref (C_InvalidMix K)) (.ref (C_ShareError K)) = some true) && (decide (PySem.W.kitOne K (.ref (C_InvalidPair K)) (.ref (C_ShareError K)) = some true) && (decide (PySem.W.kitOne K (.ref (C_InvalidRow K)) (.ref (C_ShareError K)) = some true) && (decide (PySem.W.kitOne K (.ref (C_InvalidText K)) (.ref (C_ShareError K)) = some true) && (decide (PySem.W.kitOne K (.ref (C_InvalidWall K)) (.ref (C_ShareError K)) = some true) && (decide (PySem.W.kitOne K (.ref (C_Refused K)) (.ref (C_ShareError K)) = some true) && (decide (PySem.W.kitOne K (.ref (C_InvalidCommand K)) (.type "ValueError") = some true) && (decide (PySem.W.kitOne K (.ref (C_InvalidMix K)) (.type "ValueError") = some true) && (decide (PySem.W.kitOne K (.ref (C_InvalidPair K)) (.type "ValueError") = some true) && (decide (PySem.W.kitOne K (.ref (C_InvalidRow K)) (.type "ValueError") = some true) && (decide (PySem.W.kitOne K (.ref (C_InvalidText K)) (.type "ValueError") = some true))))))))))))))))))))
set_option maxHeartbeats 0 in
theorem exg7_ok {K : PySem.W.Frag} (h : exg7 K = true) : (PySem.W.kitOne K (.ref (C_Refused K)) (.type "KeyError") = some false) ∧ (PySem.W.kitOne K (.ref (C_InvalidCommand K)) (.ref (C_Refused K)) = some false) ∧ (PySem.W.kitOne K (.ref (C_InvalidMix K)) (.ref (C_Refused K)) = some false) ∧ (PySem.W.kitOne K (.ref (C_InvalidPair K)) (.ref (C_Refused K)) = some false) ∧ (PySem.W.kitOne K (.ref (C_InvalidRow K)) (.ref (C_Refused K)) = some false) ∧ (PySem.W.kitOne K (.ref (C_InvalidText K)) (.ref (C_Refused K)) = some false) ∧ (PySem.W.kitOne K (.ref (C_InvalidWall K)) (.ref (C_Refused K)) = some false) ∧ (PySem.W.kitOne K (.ref (C_Refused K)) (.ref (C_Refused K)) = some true) ∧ (PySem.W.kitOne K (.ref (C_InvalidCommand K)) (.ref (C_ShareError K)) = some true) ∧ (PySem.W.kitOne K (.ref (C_InvalidMix K)) (.ref (C_ShareError K)) = some true) ∧ (PySem.W.kitOne K (.ref (C_InvalidPair K)) (.ref (C_ShareError K)) = some true) ∧ (PySem.W.kitOne K (.ref (C_InvalidRow K)) (.ref (C_ShareError K)) = some true) ∧ (PySem.W.kitOne K (.ref (C_InvalidText K)) (.ref (C_ShareError K)) = some true) ∧ (PySem.W.kitOne K (.ref (C_InvalidWall K)) (.ref (C_ShareError K)) = some true) ∧ (PySem.W.kitOne K (.ref (C_Refused K)) (.ref (C_ShareError K)) = some true) ∧ (PySem.W.kitOne K (.ref (C_InvalidCommand K)) (.type "ValueError") = some true) ∧ (PySem.W.kitOne K (.ref (C_InvalidMix K)) (.type "ValueError") = some true) ∧ (PySem.W.kitOne K (.ref (C_InvalidPair K)) (.type "ValueError") = some true) ∧ (PySem.W.kitOne K (.ref (C_InvalidRow K)) (.type "ValueError") = some true) ∧ (PySem.W.kitOne K (.ref (C_InvalidText K)) (.type "ValueError") = some true) := by
  simp only [exg7, Bool.and_eq_true, decide_eq_true_eq] at h
  exact h
def exg8 (K : PySem.W.Frag) : Bool := decide (PySem.W.kitOne K (.ref (C_InvalidWall K)) (.type "ValueError") = some true) && (decide (PySem.W.kitOne K (.ref (C_Refused K)) (.type "ValueError") = some true))
set_option maxHeartbeats 0 in
theorem exg8_ok {K : PySem.W.Frag} (h : exg8 K = true) : (PySem.W.kitOne K (.ref (C_InvalidWall K)) (.type "ValueError") = some true) ∧ (PySem.W.kitOne K (.ref (C_Refused K)) (.type "ValueError") = some true) := by
  simp only [exg8, Bool.and_eq_true, decide_eq_true_eq] at h
  exact h
def exZ (K : PySem.W.Frag) : List Bool := [exg0 K, exg1 K, exg2 K, exg3 K, exg4 K, exg5 K, exg6 K, exg7 K, exg8 K]
def fnZ : List He5.DefA := [dz0, dz1, dz2, dz3, dz4, dz5, dz6]
def loose : List Str := (["ShareError", "InvalidMix", "InvalidRow", "InvalidText", "InvalidPair", "InvalidWall", "InvalidCommand", "Refused", "_law_seed", "_law_choose", "_law_one_of", "_law_anything", "_law_kinds", "_law_kept"] : List Str)
abbrev R : PySem.W.OpenRow := PySem.W.OpenLaw.row PySem.Challenge.rw_sharerows_k01_errors_and_what_they_keep
set_option maxHeartbeats 0 in
theorem run (w : World) : HandSHeadRun.RunEq R (PySem.W.view R.prog [16]) (hookXc fnZ xnZ exZ) (obXc fnZ xnZ exZ) 40000 loose w := by
  intro os
  kernel_rfl
set_option maxHeartbeats 0 in
structure Txt (P : Program) (K : PySem.W.Frag) (mg : Str → Option Value) (ad : Nat → Addr) where
  a_law_choose : Addr
  d_law_choose : FuncData
  f_law_choose : Fun K "_law_choose" "_law_choose" s_law_choose a_law_choose d_law_choose
  m_law_choose : mg "_law_choose" = some (.ref a_law_choose)
  b_law_choose : Binds K d_law_choose ["_law_box", "_law_many"] []
  a_law_one_of : Addr
  d_law_one_of : FuncData
  f_law_one_of : Fun K "_law_one_of" "_law_one_of" s_law_one_of a_law_one_of d_law_one_of
  m_law_one_of : mg "_law_one_of" = some (.ref a_law_one_of)
  b_law_one_of : Binds K d_law_one_of ["_law_box", "_law_some"] []
  a_law_anything : Addr
  d_law_anything : FuncData
  f_law_anything : Fun K "_law_anything" "_law_anything" s_law_anything a_law_anything d_law_anything
  m_law_anything : mg "_law_anything" = some (.ref a_law_anything)
  b_law_anything : Binds K d_law_anything ["_law_box", "_law_deep"] []
  a_law_kept : Addr
  d_law_kept : FuncData
  f_law_kept : Fun K "_law_kept" "_law_kept" s_law_kept a_law_kept d_law_kept
  m_law_kept : mg "_law_kept" = some (.ref a_law_kept)
  b_law_kept : Binds K d_law_kept ["_law_thing"] []
  a_law_kinds : Addr
  d_law_kinds : FuncData
  f_law_kinds : Fun K "_law_kinds" "_law_kinds" s_law_kinds a_law_kinds d_law_kinds
  m_law_kinds : mg "_law_kinds" = some (.ref a_law_kinds)
  b_law_kinds : Binds K d_law_kinds ["_law_one"] []
  a_law_seed : Addr
  d_law_seed : FuncData
  f_law_seed : Fun K "_law_seed" "_law_seed" s_law_seed a_law_seed d_law_seed
  m_law_seed : mg "_law_seed" = some (.ref a_law_seed)
  b_law_seed : Binds K d_law_seed ["_law_script", "_law_k"] []
  a_law : Addr
  d_law : FuncData
  f_law : Fun K "law" "law" s_law a_law d_law
  m_law : mg "law" = some (.ref a_law)
  b_law : Binds K d_law ["_law_script"] []
  z_KeyError : mg "KeyError" = none
  z_ValueError : mg "ValueError" = none
  z_abs : mg "abs" = none
  z_enumerate : mg "enumerate" = none
  z_int : mg "int" = none
  z_isinstance : mg "isinstance" = none
  z_len : mg "len" = none
  z_max : mg "max" = none
  z_min : mg "min" = none
  z_range : mg "range" = none
  z_repr : mg "repr" = none
  z_super : mg "super" = none
  z_tuple : mg "tuple" = none
  m_InvalidCommand : mg "InvalidCommand" = some (.ref (ad 206))
  m_InvalidMix : mg "InvalidMix" = some (.ref (ad 200))
  m_InvalidPair : mg "InvalidPair" = some (.ref (ad 202))
  m_InvalidRow : mg "InvalidRow" = some (.ref (ad 201))
  m_InvalidText : mg "InvalidText" = some (.ref (ad 203))
  m_InvalidWall : mg "InvalidWall" = some (.ref (ad 205))
  m_Refused : mg "Refused" = some (.ref (ad 204))
  m_ShareError : mg "ShareError" = some (.ref (ad 299))
  xo_InvalidCommand : OexF K (ad 206)
  xe_InvalidCommand : L2.ExcC K (ad 206)
  xi_InvalidCommand : ∀ (w : World) (base : Heap), ∃ fd, FnOk P w K mg base CX0 1 (He.ma K (ad 206) "__init__") fd ["self"] (spX0 (ad 206)) ∧ Binds K fd ["self"] []
  xo_InvalidMix : OexF K (ad 200)
  xe_InvalidMix : L2.ExcC K (ad 200)
  xi_InvalidMix : ∀ (w : World) (base : Heap), ∃ fd, FnOk P w K mg base CX0 1 (He.ma K (ad 200) "__init__") fd ["self", "word"] (spXI (ad 200) (xfld 0)) ∧ Binds K fd ["self", "word"] [] ∧ KBn K fd ["self", "word"] 1 ["word"] (fun us ws => us ++ ws) (fun vs zs => vs ++ zs)
  xf_InvalidMix : XfC K (ad 200)
  xn_InvalidMix : PySem.W.findIn K (.ref (ad 200)) (xfld 0) = some none
  xo_InvalidPair : OexF K (ad 202)
  xe_InvalidPair : L2.ExcC K (ad 202)
  xi_InvalidPair : ∀ (w : World) (base : Heap), ∃ fd, FnOk P w K mg base CX0 1 (He.ma K (ad 202) "__init__") fd ["self", "word"] (spXI (ad 202) (xfld 2)) ∧ Binds K fd ["self", "word"] [] ∧ KBn K fd ["self", "word"] 1 ["word"] (fun us ws => us ++ ws) (fun vs zs => vs ++ zs)
  xf_InvalidPair : XfC K (ad 202)
  xn_InvalidPair : PySem.W.findIn K (.ref (ad 202)) (xfld 2) = some none
  xo_InvalidRow : OexF K (ad 201)
  xe_InvalidRow : L2.ExcC K (ad 201)
  xi_InvalidRow : ∀ (w : World) (base : Heap), ∃ fd, FnOk P w K mg base CX0 1 (He.ma K (ad 201) "__init__") fd ["self", "word"] (spXI (ad 201) (xfld 1)) ∧ Binds K fd ["self", "word"] [] ∧ KBn K fd ["self", "word"] 1 ["word"] (fun us ws => us ++ ws) (fun vs zs => vs ++ zs)
  xf_InvalidRow : XfC K (ad 201)
  xn_InvalidRow : PySem.W.findIn K (.ref (ad 201)) (xfld 1) = some none
  xo_InvalidText : OexF K (ad 203)
  xe_InvalidText : L2.ExcC K (ad 203)
  xi_InvalidText : ∀ (w : World) (base : Heap), ∃ fd, FnOk P w K mg base CX0 1 (He.ma K (ad 203) "__init__") fd ["self", "at"] (spXI (ad 203) (xfld 3)) ∧ Binds K fd ["self", "at"] [] ∧ KBn K fd ["self", "at"] 1 ["at"] (fun us ws => us ++ ws) (fun vs zs => vs ++ zs)
  xf_InvalidText : XfC K (ad 203)
  xn_InvalidText : PySem.W.findIn K (.ref (ad 203)) (xfld 3) = some none
  xo_InvalidWall : OexF K (ad 205)
  xe_InvalidWall : L2.ExcC K (ad 205)
  xi_InvalidWall : ∀ (w : World) (base : Heap), ∃ fd, FnOk P w K mg base CX0 1 (He.ma K (ad 205) "__init__") fd ["self"] (spX0 (ad 205)) ∧ Binds K fd ["self"] []
  xo_Refused : OexF K (ad 204)
  xe_Refused : L2.ExcC K (ad 204)
  xi_Refused : ∀ (w : World) (base : Heap), ∃ fd, FnOk P w K mg base CX0 1 (He.ma K (ad 204) "__init__") fd ["self", "at"] (spXI (ad 204) (xfld 4)) ∧ Binds K fd ["self", "at"] [] ∧ KBn K fd ["self", "at"] 1 ["at"] (fun us ws => us ++ ws) (fun vs zs => vs ++ zs)
  xf_Refused : XfC K (ad 204)
  xn_Refused : PySem.W.findIn K (.ref (ad 204)) (xfld 4) = some none
  xk_InvalidCommand_InvalidCommand : PySem.W.kitOne K (.ref (ad 206)) (.ref (ad 206)) = some true
  xk_InvalidMix_InvalidCommand : PySem.W.kitOne K (.ref (ad 200)) (.ref (ad 206)) = some false
  xk_InvalidPair_InvalidCommand : PySem.W.kitOne K (.ref (ad 202)) (.ref (ad 206)) = some false
  xk_InvalidRow_InvalidCommand : PySem.W.kitOne K (.ref (ad 201)) (.ref (ad 206)) = some false
  xk_InvalidText_InvalidCommand : PySem.W.kitOne K (.ref (ad 203)) (.ref (ad 206)) = some false
  xk_InvalidWall_InvalidCommand : PySem.W.kitOne K (.ref (ad 205)) (.ref (ad 206)) = some false
  xk_Refused_InvalidCommand : PySem.W.kitOne K (.ref (ad 204)) (.ref (ad 206)) = some false
  xk_InvalidCommand_InvalidMix : PySem.W.kitOne K (.ref (ad 206)) (.ref (ad 200)) = some false
  xk_InvalidMix_InvalidMix : PySem.W.kitOne K (.ref (ad 200)) (.ref (ad 200)) = some true
  xk_InvalidPair_InvalidMix : PySem.W.kitOne K (.ref (ad 202)) (.ref (ad 200)) = some false
  xk_InvalidRow_InvalidMix : PySem.W.kitOne K (.ref (ad 201)) (.ref (ad 200)) = some false
  xk_InvalidText_InvalidMix : PySem.W.kitOne K (.ref (ad 203)) (.ref (ad 200)) = some false
  xk_InvalidWall_InvalidMix : PySem.W.kitOne K (.ref (ad 205)) (.ref (ad 200)) = some false
  xk_Refused_InvalidMix : PySem.W.kitOne K (.ref (ad 204)) (.ref (ad 200)) = some false
  xk_InvalidCommand_InvalidPair : PySem.W.kitOne K (.ref (ad 206)) (.ref (ad 202)) = some false
  xk_InvalidMix_InvalidPair : PySem.W.kitOne K (.ref (ad 200)) (.ref (ad 202)) = some false
  xk_InvalidPair_InvalidPair : PySem.W.kitOne K (.ref (ad 202)) (.ref (ad 202)) = some true
  xk_InvalidRow_InvalidPair : PySem.W.kitOne K (.ref (ad 201)) (.ref (ad 202)) = some false
  xk_InvalidText_InvalidPair : PySem.W.kitOne K (.ref (ad 203)) (.ref (ad 202)) = some false
  xk_InvalidWall_InvalidPair : PySem.W.kitOne K (.ref (ad 205)) (.ref (ad 202)) = some false
  xk_Refused_InvalidPair : PySem.W.kitOne K (.ref (ad 204)) (.ref (ad 202)) = some false
  xk_InvalidCommand_InvalidRow : PySem.W.kitOne K (.ref (ad 206)) (.ref (ad 201)) = some false
  xk_InvalidMix_InvalidRow : PySem.W.kitOne K (.ref (ad 200)) (.ref (ad 201)) = some false
  xk_InvalidPair_InvalidRow : PySem.W.kitOne K (.ref (ad 202)) (.ref (ad 201)) = some false
  xk_InvalidRow_InvalidRow : PySem.W.kitOne K (.ref (ad 201)) (.ref (ad 201)) = some true
  xk_InvalidText_InvalidRow : PySem.W.kitOne K (.ref (ad 203)) (.ref (ad 201)) = some false
  xk_InvalidWall_InvalidRow : PySem.W.kitOne K (.ref (ad 205)) (.ref (ad 201)) = some false
  xk_Refused_InvalidRow : PySem.W.kitOne K (.ref (ad 204)) (.ref (ad 201)) = some false
  xk_InvalidCommand_InvalidText : PySem.W.kitOne K (.ref (ad 206)) (.ref (ad 203)) = some false
  xk_InvalidMix_InvalidText : PySem.W.kitOne K (.ref (ad 200)) (.ref (ad 203)) = some false
  xk_InvalidPair_InvalidText : PySem.W.kitOne K (.ref (ad 202)) (.ref (ad 203)) = some false
  xk_InvalidRow_InvalidText : PySem.W.kitOne K (.ref (ad 201)) (.ref (ad 203)) = some false
  xk_InvalidText_InvalidText : PySem.W.kitOne K (.ref (ad 203)) (.ref (ad 203)) = some true
  xk_InvalidWall_InvalidText : PySem.W.kitOne K (.ref (ad 205)) (.ref (ad 203)) = some false
  xk_Refused_InvalidText : PySem.W.kitOne K (.ref (ad 204)) (.ref (ad 203)) = some false
  xk_InvalidCommand_InvalidWall : PySem.W.kitOne K (.ref (ad 206)) (.ref (ad 205)) = some false
  xk_InvalidMix_InvalidWall : PySem.W.kitOne K (.ref (ad 200)) (.ref (ad 205)) = some false
  xk_InvalidPair_InvalidWall : PySem.W.kitOne K (.ref (ad 202)) (.ref (ad 205)) = some false
  xk_InvalidRow_InvalidWall : PySem.W.kitOne K (.ref (ad 201)) (.ref (ad 205)) = some false
  xk_InvalidText_InvalidWall : PySem.W.kitOne K (.ref (ad 203)) (.ref (ad 205)) = some false
  xk_InvalidWall_InvalidWall : PySem.W.kitOne K (.ref (ad 205)) (.ref (ad 205)) = some true
  xk_Refused_InvalidWall : PySem.W.kitOne K (.ref (ad 204)) (.ref (ad 205)) = some false
  xk_InvalidCommand_KeyError : PySem.W.kitOne K (.ref (ad 206)) (.type "KeyError") = some false
  xk_InvalidMix_KeyError : PySem.W.kitOne K (.ref (ad 200)) (.type "KeyError") = some false
  xk_InvalidPair_KeyError : PySem.W.kitOne K (.ref (ad 202)) (.type "KeyError") = some false
  xk_InvalidRow_KeyError : PySem.W.kitOne K (.ref (ad 201)) (.type "KeyError") = some false
  xk_InvalidText_KeyError : PySem.W.kitOne K (.ref (ad 203)) (.type "KeyError") = some false
  xk_InvalidWall_KeyError : PySem.W.kitOne K (.ref (ad 205)) (.type "KeyError") = some false
  xk_Refused_KeyError : PySem.W.kitOne K (.ref (ad 204)) (.type "KeyError") = some false
  xk_InvalidCommand_Refused : PySem.W.kitOne K (.ref (ad 206)) (.ref (ad 204)) = some false
  xk_InvalidMix_Refused : PySem.W.kitOne K (.ref (ad 200)) (.ref (ad 204)) = some false
  xk_InvalidPair_Refused : PySem.W.kitOne K (.ref (ad 202)) (.ref (ad 204)) = some false
  xk_InvalidRow_Refused : PySem.W.kitOne K (.ref (ad 201)) (.ref (ad 204)) = some false
  xk_InvalidText_Refused : PySem.W.kitOne K (.ref (ad 203)) (.ref (ad 204)) = some false
  xk_InvalidWall_Refused : PySem.W.kitOne K (.ref (ad 205)) (.ref (ad 204)) = some false
  xk_Refused_Refused : PySem.W.kitOne K (.ref (ad 204)) (.ref (ad 204)) = some true
  xk_InvalidCommand_ShareError : PySem.W.kitOne K (.ref (ad 206)) (.ref (ad 299)) = some true
  xk_InvalidMix_ShareError : PySem.W.kitOne K (.ref (ad 200)) (.ref (ad 299)) = some true
  xk_InvalidPair_ShareError : PySem.W.kitOne K (.ref (ad 202)) (.ref (ad 299)) = some true
  xk_InvalidRow_ShareError : PySem.W.kitOne K (.ref (ad 201)) (.ref (ad 299)) = some true
  xk_InvalidText_ShareError : PySem.W.kitOne K (.ref (ad 203)) (.ref (ad 299)) = some true
  xk_InvalidWall_ShareError : PySem.W.kitOne K (.ref (ad 205)) (.ref (ad 299)) = some true
  xk_Refused_ShareError : PySem.W.kitOne K (.ref (ad 204)) (.ref (ad 299)) = some true
  xk_InvalidCommand_ValueError : PySem.W.kitOne K (.ref (ad 206)) (.type "ValueError") = some true
  xk_InvalidMix_ValueError : PySem.W.kitOne K (.ref (ad 200)) (.type "ValueError") = some true
  xk_InvalidPair_ValueError : PySem.W.kitOne K (.ref (ad 202)) (.type "ValueError") = some true
  xk_InvalidRow_ValueError : PySem.W.kitOne K (.ref (ad 201)) (.type "ValueError") = some true
  xk_InvalidText_ValueError : PySem.W.kitOne K (.ref (ad 203)) (.type "ValueError") = some true
  xk_InvalidWall_ValueError : PySem.W.kitOne K (.ref (ad 205)) (.type "ValueError") = some true
  xk_Refused_ValueError : PySem.W.kitOne K (.ref (ad 204)) (.type "ValueError") = some true
def Txt.at7 {P : Program} {K : PySem.W.Frag} {mg : Str → Option Value} {ad : Nat → Addr} (T : Txt P K mg ad) (p : Addr) : Txt P K mg (fun n => if n = 77 then p else ad n) where
  a_law_choose := T.a_law_choose
  d_law_choose := T.d_law_choose
  f_law_choose := T.f_law_choose
  m_law_choose := T.m_law_choose
  b_law_choose := T.b_law_choose
  a_law_one_of := T.a_law_one_of
  d_law_one_of := T.d_law_one_of
  f_law_one_of := T.f_law_one_of
  m_law_one_of := T.m_law_one_of
  b_law_one_of := T.b_law_one_of
  a_law_anything := T.a_law_anything
  d_law_anything := T.d_law_anything
  f_law_anything := T.f_law_anything
  m_law_anything := T.m_law_anything
  b_law_anything := T.b_law_anything
  a_law_kept := T.a_law_kept
  d_law_kept := T.d_law_kept
  f_law_kept := T.f_law_kept
  m_law_kept := T.m_law_kept
  b_law_kept := T.b_law_kept
  a_law_kinds := T.a_law_kinds
  d_law_kinds := T.d_law_kinds
  f_law_kinds := T.f_law_kinds
  m_law_kinds := T.m_law_kinds
  b_law_kinds := T.b_law_kinds
  a_law_seed := T.a_law_seed
  d_law_seed := T.d_law_seed
  f_law_seed := T.f_law_seed
  m_law_seed := T.m_law_seed
  b_law_seed := T.b_law_seed
  a_law := T.a_law
  d_law := T.d_law
  f_law := T.f_law
  m_law := T.m_law
  b_law := T.b_law
  z_KeyError := T.z_KeyError
  z_ValueError := T.z_ValueError
  z_abs := T.z_abs
  z_enumerate := T.z_enumerate
  z_int := T.z_int
  z_isinstance := T.z_isinstance
  z_len := T.z_len
  z_max := T.z_max
  z_min := T.z_min
  z_range := T.z_range
  z_repr := T.z_repr
  z_super := T.z_super
  z_tuple := T.z_tuple
  m_InvalidCommand := T.m_InvalidCommand
  m_InvalidMix := T.m_InvalidMix
  m_InvalidPair := T.m_InvalidPair
  m_InvalidRow := T.m_InvalidRow
  m_InvalidText := T.m_InvalidText
  m_InvalidWall := T.m_InvalidWall
  m_Refused := T.m_Refused
  m_ShareError := T.m_ShareError
  xo_InvalidCommand := T.xo_InvalidCommand
  xe_InvalidCommand := T.xe_InvalidCommand
  xi_InvalidCommand := T.xi_InvalidCommand
  xo_InvalidMix := T.xo_InvalidMix
  xe_InvalidMix := T.xe_InvalidMix
  xi_InvalidMix := T.xi_InvalidMix
  xf_InvalidMix := T.xf_InvalidMix
  xn_InvalidMix := T.xn_InvalidMix
  xo_InvalidPair := T.xo_InvalidPair
  xe_InvalidPair := T.xe_InvalidPair
  xi_InvalidPair := T.xi_InvalidPair
  xf_InvalidPair := T.xf_InvalidPair
  xn_InvalidPair := T.xn_InvalidPair
  xo_InvalidRow := T.xo_InvalidRow
  xe_InvalidRow := T.xe_InvalidRow
  xi_InvalidRow := T.xi_InvalidRow
  xf_InvalidRow := T.xf_InvalidRow
  xn_InvalidRow := T.xn_InvalidRow
  xo_InvalidText := T.xo_InvalidText
  xe_InvalidText := T.xe_InvalidText
  xi_InvalidText := T.xi_InvalidText
  xf_InvalidText := T.xf_InvalidText
  xn_InvalidText := T.xn_InvalidText
  xo_InvalidWall := T.xo_InvalidWall
  xe_InvalidWall := T.xe_InvalidWall
  xi_InvalidWall := T.xi_InvalidWall
  xo_Refused := T.xo_Refused
  xe_Refused := T.xe_Refused
  xi_Refused := T.xi_Refused
  xf_Refused := T.xf_Refused
  xn_Refused := T.xn_Refused
  xk_InvalidCommand_InvalidCommand := T.xk_InvalidCommand_InvalidCommand
  xk_InvalidMix_InvalidCommand := T.xk_InvalidMix_InvalidCommand
  xk_InvalidPair_InvalidCommand := T.xk_InvalidPair_InvalidCommand
  xk_InvalidRow_InvalidCommand := T.xk_InvalidRow_InvalidCommand
  xk_InvalidText_InvalidCommand := T.xk_InvalidText_InvalidCommand
  xk_InvalidWall_InvalidCommand := T.xk_InvalidWall_InvalidCommand
  xk_Refused_InvalidCommand := T.xk_Refused_InvalidCommand
  xk_InvalidCommand_InvalidMix := T.xk_InvalidCommand_InvalidMix
  xk_InvalidMix_InvalidMix := T.xk_InvalidMix_InvalidMix
  xk_InvalidPair_InvalidMix := T.xk_InvalidPair_InvalidMix
  xk_InvalidRow_InvalidMix := T.xk_InvalidRow_InvalidMix
  xk_InvalidText_InvalidMix := T.xk_InvalidText_InvalidMix
  xk_InvalidWall_InvalidMix := T.xk_InvalidWall_InvalidMix
  xk_Refused_InvalidMix := T.xk_Refused_InvalidMix
  xk_InvalidCommand_InvalidPair := T.xk_InvalidCommand_InvalidPair
  xk_InvalidMix_InvalidPair := T.xk_InvalidMix_InvalidPair
  xk_InvalidPair_InvalidPair := T.xk_InvalidPair_InvalidPair
  xk_InvalidRow_InvalidPair := T.xk_InvalidRow_InvalidPair
  xk_InvalidText_InvalidPair := T.xk_InvalidText_InvalidPair
  xk_InvalidWall_InvalidPair := T.xk_InvalidWall_InvalidPair
  xk_Refused_InvalidPair := T.xk_Refused_InvalidPair
  xk_InvalidCommand_InvalidRow := T.xk_InvalidCommand_InvalidRow
  xk_InvalidMix_InvalidRow := T.xk_InvalidMix_InvalidRow
  xk_InvalidPair_InvalidRow := T.xk_InvalidPair_InvalidRow
  xk_InvalidRow_InvalidRow := T.xk_InvalidRow_InvalidRow
  xk_InvalidText_InvalidRow := T.xk_InvalidText_InvalidRow
  xk_InvalidWall_InvalidRow := T.xk_InvalidWall_InvalidRow
  xk_Refused_InvalidRow := T.xk_Refused_InvalidRow
  xk_InvalidCommand_InvalidText := T.xk_InvalidCommand_InvalidText
  xk_InvalidMix_InvalidText := T.xk_InvalidMix_InvalidText
  xk_InvalidPair_InvalidText := T.xk_InvalidPair_InvalidText
  xk_InvalidRow_InvalidText := T.xk_InvalidRow_InvalidText
  xk_InvalidText_InvalidText := T.xk_InvalidText_InvalidText
  xk_InvalidWall_InvalidText := T.xk_InvalidWall_InvalidText
  xk_Refused_InvalidText := T.xk_Refused_InvalidText
  xk_InvalidCommand_InvalidWall := T.xk_InvalidCommand_InvalidWall
  xk_InvalidMix_InvalidWall := T.xk_InvalidMix_InvalidWall
  xk_InvalidPair_InvalidWall := T.xk_InvalidPair_InvalidWall
  xk_InvalidRow_InvalidWall := T.xk_InvalidRow_InvalidWall
  xk_InvalidText_InvalidWall := T.xk_InvalidText_InvalidWall
  xk_InvalidWall_InvalidWall := T.xk_InvalidWall_InvalidWall
  xk_Refused_InvalidWall := T.xk_Refused_InvalidWall
  xk_InvalidCommand_KeyError := T.xk_InvalidCommand_KeyError
  xk_InvalidMix_KeyError := T.xk_InvalidMix_KeyError
  xk_InvalidPair_KeyError := T.xk_InvalidPair_KeyError
  xk_InvalidRow_KeyError := T.xk_InvalidRow_KeyError
  xk_InvalidText_KeyError := T.xk_InvalidText_KeyError
  xk_InvalidWall_KeyError := T.xk_InvalidWall_KeyError
  xk_Refused_KeyError := T.xk_Refused_KeyError
  xk_InvalidCommand_Refused := T.xk_InvalidCommand_Refused
  xk_InvalidMix_Refused := T.xk_InvalidMix_Refused
  xk_InvalidPair_Refused := T.xk_InvalidPair_Refused
  xk_InvalidRow_Refused := T.xk_InvalidRow_Refused
  xk_InvalidText_Refused := T.xk_InvalidText_Refused
  xk_InvalidWall_Refused := T.xk_InvalidWall_Refused
  xk_Refused_Refused := T.xk_Refused_Refused
  xk_InvalidCommand_ShareError := T.xk_InvalidCommand_ShareError
  xk_InvalidMix_ShareError := T.xk_InvalidMix_ShareError
  xk_InvalidPair_ShareError := T.xk_InvalidPair_ShareError
  xk_InvalidRow_ShareError := T.xk_InvalidRow_ShareError
  xk_InvalidText_ShareError := T.xk_InvalidText_ShareError
  xk_InvalidWall_ShareError := T.xk_InvalidWall_ShareError
  xk_Refused_ShareError := T.xk_Refused_ShareError
  xk_InvalidCommand_ValueError := T.xk_InvalidCommand_ValueError
  xk_InvalidMix_ValueError := T.xk_InvalidMix_ValueError
  xk_InvalidPair_ValueError := T.xk_InvalidPair_ValueError
  xk_InvalidRow_ValueError := T.xk_InvalidRow_ValueError
  xk_InvalidText_ValueError := T.xk_InvalidText_ValueError
  xk_InvalidWall_ValueError := T.xk_InvalidWall_ValueError
  xk_Refused_ValueError := T.xk_Refused_ValueError
theorem xk_InvalidCommand {P : Program} {K : PySem.W.Frag} {mg : Str → Option Value} {ad : Nat → Addr} (T : Txt P K mg ad) : ∀ q ∈ xtab_InvalidCommand, L2.ExcC K ((GG K ad).adr (200 + q.1)) ∧ PySem.W.kitOne K (.ref ((GG K ad).adr (200 + q.1))) (.ref (ad 206)) = some q.2 := by
  intro q hq
  simp only [xtab_InvalidCommand, List.mem_cons, List.not_mem_nil, or_false] at hq
  rcases hq with rfl | rfl | rfl | rfl | rfl | rfl | rfl
  · exact ⟨T.xe_InvalidMix, T.xk_InvalidMix_InvalidCommand⟩
  · exact ⟨T.xe_InvalidRow, T.xk_InvalidRow_InvalidCommand⟩
  · exact ⟨T.xe_InvalidPair, T.xk_InvalidPair_InvalidCommand⟩
  · exact ⟨T.xe_InvalidText, T.xk_InvalidText_InvalidCommand⟩
  · exact ⟨T.xe_Refused, T.xk_Refused_InvalidCommand⟩
  · exact ⟨T.xe_InvalidWall, T.xk_InvalidWall_InvalidCommand⟩
  · exact ⟨T.xe_InvalidCommand, T.xk_InvalidCommand_InvalidCommand⟩
theorem xk_InvalidMix {P : Program} {K : PySem.W.Frag} {mg : Str → Option Value} {ad : Nat → Addr} (T : Txt P K mg ad) : ∀ q ∈ xtab_InvalidMix, L2.ExcC K ((GG K ad).adr (200 + q.1)) ∧ PySem.W.kitOne K (.ref ((GG K ad).adr (200 + q.1))) (.ref (ad 200)) = some q.2 := by
  intro q hq
  simp only [xtab_InvalidMix, List.mem_cons, List.not_mem_nil, or_false] at hq
  rcases hq with rfl | rfl | rfl | rfl | rfl | rfl | rfl
  · exact ⟨T.xe_InvalidMix, T.xk_InvalidMix_InvalidMix⟩
  · exact ⟨T.xe_InvalidRow, T.xk_InvalidRow_InvalidMix⟩
  · exact ⟨T.xe_InvalidPair, T.xk_InvalidPair_InvalidMix⟩
  · exact ⟨T.xe_InvalidText, T.xk_InvalidText_InvalidMix⟩
  · exact ⟨T.xe_Refused, T.xk_Refused_InvalidMix⟩
  · exact ⟨T.xe_InvalidWall, T.xk_InvalidWall_InvalidMix⟩
  · exact ⟨T.xe_InvalidCommand, T.xk_InvalidCommand_InvalidMix⟩
theorem xk_InvalidPair {P : Program} {K : PySem.W.Frag} {mg : Str → Option Value} {ad : Nat → Addr} (T : Txt P K mg ad) : ∀ q ∈ xtab_InvalidPair, L2.ExcC K ((GG K ad).adr (200 + q.1)) ∧ PySem.W.kitOne K (.ref ((GG K ad).adr (200 + q.1))) (.ref (ad 202)) = some q.2 := by
  intro q hq
  simp only [xtab_InvalidPair, List.mem_cons, List.not_mem_nil, or_false] at hq
  rcases hq with rfl | rfl | rfl | rfl | rfl | rfl | rfl
  · exact ⟨T.xe_InvalidMix, T.xk_InvalidMix_InvalidPair⟩
  · exact ⟨T.xe_InvalidRow, T.xk_InvalidRow_InvalidPair⟩
  · exact ⟨T.xe_InvalidPair, T.xk_InvalidPair_InvalidPair⟩
  · exact ⟨T.xe_InvalidText, T.xk_InvalidText_InvalidPair⟩
  · exact ⟨T.xe_Refused, T.xk_Refused_InvalidPair⟩
  · exact ⟨T.xe_InvalidWall, T.xk_InvalidWall_InvalidPair⟩
  · exact ⟨T.xe_InvalidCommand, T.xk_InvalidCommand_InvalidPair⟩
theorem xk_InvalidRow {P : Program} {K : PySem.W.Frag} {mg : Str → Option Value} {ad : Nat → Addr} (T : Txt P K mg ad) : ∀ q ∈ xtab_InvalidRow, L2.ExcC K ((GG K ad).adr (200 + q.1)) ∧ PySem.W.kitOne K (.ref ((GG K ad).adr (200 + q.1))) (.ref (ad 201)) = some q.2 := by
  intro q hq
  simp only [xtab_InvalidRow, List.mem_cons, List.not_mem_nil, or_false] at hq
  rcases hq with rfl | rfl | rfl | rfl | rfl | rfl | rfl
  · exact ⟨T.xe_InvalidMix, T.xk_InvalidMix_InvalidRow⟩
  · exact ⟨T.xe_InvalidRow, T.xk_InvalidRow_InvalidRow⟩
  · exact ⟨T.xe_InvalidPair, T.xk_InvalidPair_InvalidRow⟩
  · exact ⟨T.xe_InvalidText, T.xk_InvalidText_InvalidRow⟩
  · exact ⟨T.xe_Refused, T.xk_Refused_InvalidRow⟩
  · exact ⟨T.xe_InvalidWall, T.xk_InvalidWall_InvalidRow⟩
  · exact ⟨T.xe_InvalidCommand, T.xk_InvalidCommand_InvalidRow⟩
theorem xk_InvalidText {P : Program} {K : PySem.W.Frag} {mg : Str → Option Value} {ad : Nat → Addr} (T : Txt P K mg ad) : ∀ q ∈ xtab_InvalidText, L2.ExcC K ((GG K ad).adr (200 + q.1)) ∧ PySem.W.kitOne K (.ref ((GG K ad).adr (200 + q.1))) (.ref (ad 203)) = some q.2 := by
  intro q hq
  simp only [xtab_InvalidText, List.mem_cons, List.not_mem_nil, or_false] at hq
  rcases hq with rfl | rfl | rfl | rfl | rfl | rfl | rfl
  · exact ⟨T.xe_InvalidMix, T.xk_InvalidMix_InvalidText⟩
  · exact ⟨T.xe_InvalidRow, T.xk_InvalidRow_InvalidText⟩
  · exact ⟨T.xe_InvalidPair, T.xk_InvalidPair_InvalidText⟩
  · exact ⟨T.xe_InvalidText, T.xk_InvalidText_InvalidText⟩
  · exact ⟨T.xe_Refused, T.xk_Refused_InvalidText⟩
  · exact ⟨T.xe_InvalidWall, T.xk_InvalidWall_InvalidText⟩
  · exact ⟨T.xe_InvalidCommand, T.xk_InvalidCommand_InvalidText⟩
theorem xk_InvalidWall {P : Program} {K : PySem.W.Frag} {mg : Str → Option Value} {ad : Nat → Addr} (T : Txt P K mg ad) : ∀ q ∈ xtab_InvalidWall, L2.ExcC K ((GG K ad).adr (200 + q.1)) ∧ PySem.W.kitOne K (.ref ((GG K ad).adr (200 + q.1))) (.ref (ad 205)) = some q.2 := by
  intro q hq
  simp only [xtab_InvalidWall, List.mem_cons, List.not_mem_nil, or_false] at hq
  rcases hq with rfl | rfl | rfl | rfl | rfl | rfl | rfl
  · exact ⟨T.xe_InvalidMix, T.xk_InvalidMix_InvalidWall⟩
  · exact ⟨T.xe_InvalidRow, T.xk_InvalidRow_InvalidWall⟩
  · exact ⟨T.xe_InvalidPair, T.xk_InvalidPair_InvalidWall⟩
  · exact ⟨T.xe_InvalidText, T.xk_InvalidText_InvalidWall⟩
  · exact ⟨T.xe_Refused, T.xk_Refused_InvalidWall⟩
  · exact ⟨T.xe_InvalidWall, T.xk_InvalidWall_InvalidWall⟩
  · exact ⟨T.xe_InvalidCommand, T.xk_InvalidCommand_InvalidWall⟩
theorem xk_KeyError {P : Program} {K : PySem.W.Frag} {mg : Str → Option Value} {ad : Nat → Addr} (T : Txt P K mg ad) : ∀ q ∈ xtab_KeyError, L2.ExcC K ((GG K ad).adr (200 + q.1)) ∧ PySem.W.kitOne K (.ref ((GG K ad).adr (200 + q.1))) (.type "KeyError") = some q.2 := by
  intro q hq
  simp only [xtab_KeyError, List.mem_cons, List.not_mem_nil, or_false] at hq
  rcases hq with rfl | rfl | rfl | rfl | rfl | rfl | rfl
  · exact ⟨T.xe_InvalidMix, T.xk_InvalidMix_KeyError⟩
  · exact ⟨T.xe_InvalidRow, T.xk_InvalidRow_KeyError⟩
  · exact ⟨T.xe_InvalidPair, T.xk_InvalidPair_KeyError⟩
  · exact ⟨T.xe_InvalidText, T.xk_InvalidText_KeyError⟩
  · exact ⟨T.xe_Refused, T.xk_Refused_KeyError⟩
  · exact ⟨T.xe_InvalidWall, T.xk_InvalidWall_KeyError⟩
  · exact ⟨T.xe_InvalidCommand, T.xk_InvalidCommand_KeyError⟩
theorem xk_Refused {P : Program} {K : PySem.W.Frag} {mg : Str → Option Value} {ad : Nat → Addr} (T : Txt P K mg ad) : ∀ q ∈ xtab_Refused, L2.ExcC K ((GG K ad).adr (200 + q.1)) ∧ PySem.W.kitOne K (.ref ((GG K ad).adr (200 + q.1))) (.ref (ad 204)) = some q.2 := by
  intro q hq
  simp only [xtab_Refused, List.mem_cons, List.not_mem_nil, or_false] at hq
  rcases hq with rfl | rfl | rfl | rfl | rfl | rfl | rfl
  · exact ⟨T.xe_InvalidMix, T.xk_InvalidMix_Refused⟩
  · exact ⟨T.xe_InvalidRow, T.xk_InvalidRow_Refused⟩
  · exact ⟨T.xe_InvalidPair, T.xk_InvalidPair_Refused⟩
  · exact ⟨T.xe_InvalidText, T.xk_InvalidText_Refused⟩
  · exact ⟨T.xe_Refused, T.xk_Refused_Refused⟩
  · exact ⟨T.xe_InvalidWall, T.xk_InvalidWall_Refused⟩
  · exact ⟨T.xe_InvalidCommand, T.xk_InvalidCommand_Refused⟩
theorem xk_ShareError {P : Program} {K : PySem.W.Frag} {mg : Str → Option Value} {ad : Nat → Addr} (T : Txt P K mg ad) : ∀ q ∈ xtab_ShareError, L2.ExcC K ((GG K ad).adr (200 + q.1)) ∧ PySem.W.kitOne K (.ref ((GG K ad).adr (200 + q.1))) (.ref (ad 299)) = some q.2 := by
  intro q hq
  simp only [xtab_ShareError, List.mem_cons, List.not_mem_nil, or_false] at hq
  rcases hq with rfl | rfl | rfl | rfl | rfl | rfl | rfl
  · exact ⟨T.xe_InvalidMix, T.xk_InvalidMix_ShareError⟩
  · exact ⟨T.xe_InvalidRow, T.xk_InvalidRow_ShareError⟩
  · exact ⟨T.xe_InvalidPair, T.xk_InvalidPair_ShareError⟩
  · exact ⟨T.xe_InvalidText, T.xk_InvalidText_ShareError⟩
  · exact ⟨T.xe_Refused, T.xk_Refused_ShareError⟩
  · exact ⟨T.xe_InvalidWall, T.xk_InvalidWall_ShareError⟩
  · exact ⟨T.xe_InvalidCommand, T.xk_InvalidCommand_ShareError⟩
theorem xk_ValueError {P : Program} {K : PySem.W.Frag} {mg : Str → Option Value} {ad : Nat → Addr} (T : Txt P K mg ad) : ∀ q ∈ xtab_ValueError, L2.ExcC K ((GG K ad).adr (200 + q.1)) ∧ PySem.W.kitOne K (.ref ((GG K ad).adr (200 + q.1))) (.type "ValueError") = some q.2 := by
  intro q hq
  simp only [xtab_ValueError, List.mem_cons, List.not_mem_nil, or_false] at hq
  rcases hq with rfl | rfl | rfl | rfl | rfl | rfl | rfl
  · exact ⟨T.xe_InvalidMix, T.xk_InvalidMix_ValueError⟩
  · exact ⟨T.xe_InvalidRow, T.xk_InvalidRow_ValueError⟩
  · exact ⟨T.xe_InvalidPair, T.xk_InvalidPair_ValueError⟩
  · exact ⟨T.xe_InvalidText, T.xk_InvalidText_ValueError⟩
  · exact ⟨T.xe_Refused, T.xk_Refused_ValueError⟩
  · exact ⟨T.xe_InvalidWall, T.xk_InvalidWall_ValueError⟩
  · exact ⟨T.xe_InvalidCommand, T.xk_InvalidCommand_ValueError⟩
section
variable {P : Program} {w : World} {K : PySem.W.Frag} {mg : Str → Option Value} {base : Heap} {ad : Nat → Addr}
theorem sc_law_choose : FnScope N_law_choose ["_law_box", "_law_many"] (defScope s_law_choose) := ⟨rfl, rfl, rfl, by decide +kernel, rfl, by decide +kernel, by decide +kernel⟩
set_option maxHeartbeats 4000000 in
theorem ok_law_choose (T : Txt P K mg ad) : FnOk P w K mg base CX0 1 T.a_law_choose T.d_law_choose ["_law_box", "_law_many"] (spD (GG K ad) 2 F_law_choose) :=
  fn_ok T.f_law_choose sc_law_choose rfl rfl fun cdv A outer s H E hr => by
    exact (lss_cons (ls_if (lt_cmp r_gtD op_gt (le_oix 0 le_int (fun _ _ => rfl)) le_int)
  (lss_cons (ls_set (i := 2) sc_law_choose.nd rfl (by first | exact Or.inl rfl | exact Or.inr rfl) (le_bin r_modD op_modN (le_callTy r_int call_int1 rfl T.z_int (by decide +kernel) (la_cons (le_oix 0 le_int (fun _ _ => rfl)) la_nil)) (le_nm 1)))
  (lss_cons (ls_asg (le_bin r_divD op_fdivA (le_oix 0 le_int (fun _ _ => rfl)) (le_nm 1)) (lg_set 0 le_int))
  (lss_one (ls_ret (le_nm 2)))))
  lss_nil)
  (lss_cons (ls_asg (le_bin (r_add rfl) op_addD (le_oix 0 le_int (fun _ _ => rfl)) le_int) (lg_set 0 le_int))
  (lss_cons (ls_set (i := 3) sc_law_choose.nd rfl (by first | exact Or.inl rfl | exact Or.inr rfl) (le_bin r_modD op_modN (le_callTy r_int call_int1 rfl T.z_int (by decide +kernel) (la_cons (le_bin (r_mulD rfl) op_mulD (le_bin (r_add rfl) op_addD (le_oix 0 le_int (fun _ _ => rfl)) (le_bin (r_mulD rfl) op_mulD le_int (le_oix 0 le_int (fun _ _ => rfl)))) le_int) la_nil)) le_int))
  (lss_cons (ls_asg (le_bin (r_add rfl) op_addD (le_bin r_modD op_modN (le_callTy r_int call_int1 rfl T.z_int (by decide +kernel) (la_cons (le_bin (r_add rfl) op_addD (le_bin (r_mulD rfl) op_mulD (le_nm 3) le_int) le_int) la_nil)) le_int) le_int) (lg_set 0 le_int))
  (lss_one (ls_ret (le_bin r_modD op_modN (le_callTy r_int call_int1 rfl T.z_int (by decide +kernel) (la_cons (le_bin r_divD op_fdivA (le_bin (r_add rfl) op_addD (le_bin (r_mulD rfl) op_mulD (le_nm 3) le_int) (le_oix 0 le_int (fun _ _ => rfl))) le_int) la_nil)) (le_nm 1))))))))
theorem sc_law_one_of : FnScope N_law_one_of ["_law_box", "_law_some"] (defScope s_law_one_of) := ⟨rfl, rfl, rfl, by decide +kernel, rfl, by decide +kernel, by decide +kernel⟩
set_option maxHeartbeats 4000000 in
theorem ok_law_one_of (T : Txt P K mg ad) : FnOk P w K mg base CX0 2 T.a_law_one_of T.d_law_one_of ["_law_box", "_law_some"] (spD (GG K ad) 2 F_law_one_of) :=
  fn_ok T.f_law_one_of sc_law_one_of rfl rfl fun cdv A outer s H E hr => by
    exact (lss_one (ls_ret (le_ix rfl (le_nm 1) (le_call (ok_law_choose T) (hr.mono (by decide)) rfl T.m_law_choose T.f_law_choose.kp T.b_law_choose .nil repl_nil (lb_io 0 (lb_va (le_callB (r_len rfl) call_len rfl T.z_len (by decide +kernel) (la_cons (le_nm 1) la_nil)) lb_nil)) (.io (.va .nil)) rfl) (fun _ _ => rfl))))
theorem sc_law_anything : FnScope N_law_anything ["_law_box", "_law_deep"] (defScope s_law_anything) := ⟨rfl, rfl, rfl, by decide +kernel, rfl, by decide +kernel, by decide +kernel⟩
set_option maxHeartbeats 4000000 in
theorem okr_law_anything (T : Txt P K mg ad) : ∀ n : Nat, FnOk P w K mg base CX0 (3 + n) T.a_law_anything T.d_law_anything ["_law_box", "_law_deep"] (spD (GG K ad) 2 (FR_law_anything n))
  | 0 => fn_none
  | n + 1 => by
    have okn := okr_law_anything T n
    exact fn_ok T.f_law_anything sc_law_anything rfl rfl fun cdv A outer s H E hr => by
      exact (lss_cons (ls_set (i := 2) sc_law_anything.nd rfl (by first | exact Or.inl rfl | exact Or.inr rfl) (le_call (ok_law_choose T) (hr.mono (Nat.le_trans (show _ ≤ 3 by decide) (Nat.le_add_right 3 n))) rfl T.m_law_choose T.f_law_choose.kp T.b_law_choose .nil repl_nil (lb_io 0 (lb_va le_int lb_nil)) (.io (.va .nil)) rfl))
  (lss_cons (ls_if (lt_w (lw_or (lt_cmp r_ltD op_lt (le_nm 1) le_int) (lw_or1 (lt_cmp r_ltD op_lt (le_nm 2) le_int))))
  (lss_cons (ls_set (i := 3) sc_law_anything.nd rfl (by first | exact Or.inl rfl | exact Or.inr rfl) (le_lst (la_cons le_non (la_cons le_bl (la_cons le_bl (la_cons le_int (la_cons le_int (la_cons (le_un r_neg un_neg le_int) (la_cons (le_bin r_powD op_pow le_int le_int) (la_cons le_str (la_cons le_str (la_cons le_str (la_cons le_str (la_cons le_str (la_cons (le_tup la_nil) (la_cons (le_lst la_nil) la_nil))))))))))))))))
  (lss_one (ls_ret (le_call (ok_law_one_of T) (hr.mono (Nat.le_trans (show _ ≤ 3 by decide) (Nat.le_add_right 3 n))) rfl T.m_law_one_of T.f_law_one_of.kp T.b_law_one_of .nil repl_nil (lb_io 0 (lb_va (le_nm 3) lb_nil)) (.io (.va .nil)) rfl))))
  lss_nil)
  (lss_cons (ls_setLc (own := [("_law_turn", 5)]) (i := 4) rfl sc_law_anything.nd rfl rfl (sw_true rfl rfl rfl (by decide +kernel)) (li_range1 rfl T.z_range (le_call (ok_law_choose T) (hr.mono (Nat.le_trans (show _ ≤ 3 by decide) (Nat.le_add_right 3 n))) rfl T.m_law_choose T.f_law_choose.kp T.b_law_choose .nil repl_nil (lb_io 0 (lb_va le_int lb_nil)) (.io (.va .nil)) rfl)) (blkOk_by (own := [("_law_turn", 5)]) (N := N_law_anything) (sc := defScope s_law_anything) (by decide +kernel)) (fun _ _ _ _ _ => (lg_nm (i := 5) sc_law_anything.nd rfl (by first | exact Or.inl rfl | exact Or.inr rfl))) (fun _ _ _ _ _ => lts_nil) (fun _ _ _ _ _ => (le_call okn (hr.mono (Nat.le_refl _)) rfl T.m_law_anything T.f_law_anything.kp T.b_law_anything .nil repl_nil (lb_io 0 (lb_va (le_bin r_subD op_sub (le_nm 1) le_int) lb_nil)) (.io (.va .nil)) rfl)))
  (lss_one (ls_ret (le_if (lt_cmp r_ltD op_lt (le_nm 2) le_int) (le_callTy (r_tup rfl) call_tuple_of rfl T.z_tuple (by decide +kernel) (la_cons (le_nm 4) la_nil)) (le_nm 4)))))))
theorem ok_law_anything (T : Txt P K mg ad) : FnOk P w K mg base CX0 12 T.a_law_anything T.d_law_anything ["_law_box", "_law_deep"] (spD (GG K ad) 2 F_law_anything) := okr_law_anything T 9
theorem sc_law_kept : FnScope N_law_kept ["_law_thing"] (defScope s_law_kept) := ⟨rfl, rfl, rfl, by decide +kernel, rfl, by decide +kernel, by decide +kernel⟩
set_option maxHeartbeats 4000000 in
theorem ok_law_kept (T : Txt P K mg ad) : FnOk P w K mg base CX0 3 T.a_law_kept T.d_law_kept ["_law_thing"] (spD (GG K ad) 1 F_law_kept) :=
  fn_ok T.f_law_kept sc_law_kept rfl rfl fun cdv A outer s H E hr => by
    exact (lss_cons (ls_set (i := 1) sc_law_kept.nd rfl (by first | exact Or.inl rfl | exact Or.inr rfl) (le_lst (la_cons (le_exF T.xo_InvalidMix.o T.xo_InvalidMix.i T.xo_InvalidMix.t (T.xi_InvalidMix w base).choose_spec.1 (hr.mono (by decide)) (T.xi_InvalidMix w base).choose_spec.2.1 rfl T.m_InvalidMix T.xf_InvalidMix T.xn_InvalidMix (le_nm 0)) (la_cons (le_exF T.xo_InvalidRow.o T.xo_InvalidRow.i T.xo_InvalidRow.t (T.xi_InvalidRow w base).choose_spec.1 (hr.mono (by decide)) (T.xi_InvalidRow w base).choose_spec.2.1 rfl T.m_InvalidRow T.xf_InvalidRow T.xn_InvalidRow (le_nm 0)) (la_cons (le_exF T.xo_InvalidPair.o T.xo_InvalidPair.i T.xo_InvalidPair.t (T.xi_InvalidPair w base).choose_spec.1 (hr.mono (by decide)) (T.xi_InvalidPair w base).choose_spec.2.1 rfl T.m_InvalidPair T.xf_InvalidPair T.xn_InvalidPair (le_nm 0)) la_nil)))))
  (lss_one (ls_ret (le_bin (r_add rfl) op_addD (le_nm 1) (le_lst (la_cons (le_exF T.xo_InvalidText.o T.xo_InvalidText.i T.xo_InvalidText.t (T.xi_InvalidText w base).choose_spec.1 (hr.mono (by decide)) (T.xi_InvalidText w base).choose_spec.2.1 rfl T.m_InvalidText T.xf_InvalidText T.xn_InvalidText (le_nm 0)) (la_cons (le_exF T.xo_Refused.o T.xo_Refused.i T.xo_Refused.t (T.xi_Refused w base).choose_spec.1 (hr.mono (by decide)) (T.xi_Refused w base).choose_spec.2.1 rfl T.m_Refused T.xf_Refused T.xn_Refused (le_nm 0)) la_nil)))))))
theorem sc_law_kinds : FnScope N_law_kinds ["_law_one"] (defScope s_law_kinds) := ⟨rfl, rfl, rfl, by decide +kernel, rfl, by decide +kernel, by decide +kernel⟩
set_option maxHeartbeats 4000000 in
theorem ok_law_kinds (T : Txt P K mg ad) : FnOk P w K mg base CX0 1 T.a_law_kinds T.d_law_kinds ["_law_one"] (spD (GG K ad) 1 F_law_kinds) :=
  fn_ok T.f_law_kinds sc_law_kinds rfl rfl fun cdv A outer s H E hr => by
    exact (lss_cons (ls_set (i := 1) sc_law_kinds.nd rfl (by first | exact Or.inl rfl | exact Or.inr rfl) (le_lst (la_cons (le_isX (cv := .ref (ad 200)) (xk_InvalidMix T) rfl T.z_isinstance (fun _ r => r) (le_nm 0) (pe_glob rfl T.m_InvalidMix rfl)) (la_cons (le_isX (cv := .ref (ad 201)) (xk_InvalidRow T) rfl T.z_isinstance (fun _ r => r) (le_nm 0) (pe_glob rfl T.m_InvalidRow rfl)) (la_cons (le_isX (cv := .ref (ad 202)) (xk_InvalidPair T) rfl T.z_isinstance (fun _ r => r) (le_nm 0) (pe_glob rfl T.m_InvalidPair rfl)) la_nil)))))
  (lss_cons (ls_set (i := 1) sc_law_kinds.nd rfl (by first | exact Or.inl rfl | exact Or.inr rfl) (le_bin (r_add rfl) op_addD (le_nm 1) (le_lst (la_cons (le_isX (cv := .ref (ad 203)) (xk_InvalidText T) rfl T.z_isinstance (fun _ r => r) (le_nm 0) (pe_glob rfl T.m_InvalidText rfl)) (la_cons (le_isX (cv := .ref (ad 204)) (xk_Refused T) rfl T.z_isinstance (fun _ r => r) (le_nm 0) (pe_glob rfl T.m_Refused rfl)) la_nil)))))
  (lss_one (ls_ret (le_bin (r_add rfl) op_addD (le_nm 1) (le_lst (la_cons (le_isX (cv := .ref (ad 205)) (xk_InvalidWall T) rfl T.z_isinstance (fun _ r => r) (le_nm 0) (pe_glob rfl T.m_InvalidWall rfl)) (la_cons (le_isX (cv := .ref (ad 206)) (xk_InvalidCommand T) rfl T.z_isinstance (fun _ r => r) (le_nm 0) (pe_glob rfl T.m_InvalidCommand rfl)) la_nil))))))))
theorem sc_law_seed : FnScope N_law_seed ["_law_script", "_law_k"] (defScope s_law_seed) := ⟨rfl, rfl, rfl, by decide +kernel, rfl, by decide +kernel, by decide +kernel⟩
set_option maxHeartbeats 4000000 in
theorem ok_law_seed (T : Txt P K mg ad) : FnOk P w K mg base CX0 1 T.a_law_seed T.d_law_seed ["_law_script", "_law_k"] (spF (GG K ad) 2 F_law_seed) :=
  fn_okF T.f_law_seed sc_law_seed rfl rfl fun cdv A outer s H E hr => by
    exact (lss_cons (ls_set (i := 2) sc_law_seed.nd rfl (by first | exact Or.inl rfl | exact Or.inr rfl) (le_if (lt_cmp r_ltD op_lt (le_nm 1) (le_callB (r_len rfl) call_len rfl T.z_len (by decide +kernel) (la_cons (le_nm 0) la_nil))) (le_callB r_abs call_abs rfl T.z_abs (by decide +kernel) (la_cons (le_callTy r_int call_int1 rfl T.z_int (by decide +kernel) (la_cons (le_ix rfl (le_nm 0) (le_nm 1) (fun _ _ => rfl)) la_nil)) la_nil)) le_int))
  (lss_cons (ls_set (i := 3) sc_law_seed.nd rfl (by first | exact Or.inl rfl | exact Or.inr rfl) (le_bin (r_add rfl) op_addD le_int (le_bin (r_mulD rfl) op_mulD le_int (le_nm 1))))
  (lss_cons (ls_for PassesOwn.never rfl (li_seq rfl (le_slice rfl (le_nm 0) lo_none (lo_some le_int))) (lg_nm (i := 4) sc_law_seed.nd rfl (by first | exact Or.inl rfl | exact Or.inr rfl))
  (lss_one (ls_set (i := 3) sc_law_seed.nd rfl (by first | exact Or.inl rfl | exact Or.inr rfl) (le_bin r_modD op_modN (le_callTy r_int call_int1 rfl T.z_int (by decide +kernel) (la_cons (le_bin (r_add rfl) op_addD (le_bin (r_add rfl) op_addD (le_bin (r_mulD rfl) op_mulD (le_nm 3) le_int) (le_bin r_modD op_modN (le_callTy r_int call_int1 rfl T.z_int (by decide +kernel) (la_cons (le_callB r_abs call_abs rfl T.z_abs (by decide +kernel) (la_cons (le_nm 4) la_nil)) la_nil)) le_int)) le_int) la_nil)) le_int))))
  (lss_one (ls_retF (lf_lst (la_cons (le_if (lt_cmp r_geD op_ge (le_nm 2) (le_bin r_powD op_pow le_int le_int)) (le_nm 2) le_int) (la_cons (le_nm 3) (la_cons le_int la_nil)))))))))
theorem sc_law : FnScope N_law ["_law_script"] (defScope s_law) := ⟨rfl, rfl, rfl, by decide +kernel, rfl, by decide +kernel, by decide +kernel⟩
set_option maxHeartbeats 4000000 in
theorem ok_law (T : Txt P K mg ad) : FnAt P w K mg base 13 T.a_law T.d_law ["_law_script"] (spD (GG K ad) 1 F_law) :=
  fn_at T.f_law sc_law rfl rfl fun cdv A outer s H E hr hgd => by
    have hu := hr.units
    exact (lss_cons (ls_for PassesOwn.never rfl (li_range1 rfl T.z_range (le_callB r_max2 (call_max2 rfl) rfl T.z_max (by decide +kernel) (la_cons le_int (la_cons (le_callB r_min2 (call_min2 rfl) rfl T.z_min (by decide +kernel) (la_cons le_int (la_cons (le_callB (r_len rfl) call_len rfl T.z_len (by decide +kernel) (la_cons (le_nm 0) la_nil)) la_nil))) la_nil)))) (lg_nm (i := 1) sc_law.nd rfl (by first | exact Or.inl rfl | exact Or.inr rfl))
  (lss_cons (ls_own (i := 2) sc_law.nd rfl (by first | exact Or.inl rfl | exact Or.inr rfl) (lf_call (ok_law_seed T) (hr.mono (by decide)) rfl T.m_law_seed T.f_law_seed.kp T.b_law_seed .nil repl_nil (lb_va (le_nm 0) (lb_va (le_nm 1) lb_nil)) (.va (.va .nil)) rfl))
  (lss_one (ls_for PassesOwn.never rfl (li_range1 rfl T.z_range le_int) (lg_nm (i := 3) sc_law.nd rfl (by first | exact Or.inl rfl | exact Or.inr rfl))
  (lss_cons (ls_set (i := 4) sc_law.nd rfl (by first | exact Or.inl rfl | exact Or.inr rfl) (le_call (ok_law_anything T) (hr.mono (by decide)) rfl T.m_law_anything T.f_law_anything.kp T.b_law_anything .nil repl_nil (lb_io 2 (lb_va le_int lb_nil)) (.io (.va .nil)) rfl))
  (lss_cons (ls_set (i := 5) sc_law.nd rfl (by first | exact Or.inl rfl | exact Or.inr rfl) (le_lst (la_cons (le_exFK T.xo_InvalidMix.o T.xo_InvalidMix.i T.xo_InvalidMix.t (T.xi_InvalidMix w base).choose_spec.1 (hr.mono (by decide)) (T.xi_InvalidMix w base).choose_spec.2.2 rfl T.m_InvalidMix T.xf_InvalidMix T.xn_InvalidMix (le_nm 4)) (la_cons (le_exFK T.xo_InvalidRow.o T.xo_InvalidRow.i T.xo_InvalidRow.t (T.xi_InvalidRow w base).choose_spec.1 (hr.mono (by decide)) (T.xi_InvalidRow w base).choose_spec.2.2 rfl T.m_InvalidRow T.xf_InvalidRow T.xn_InvalidRow (le_nm 4)) (la_cons (le_exFK T.xo_InvalidPair.o T.xo_InvalidPair.i T.xo_InvalidPair.t (T.xi_InvalidPair w base).choose_spec.1 (hr.mono (by decide)) (T.xi_InvalidPair w base).choose_spec.2.2 rfl T.m_InvalidPair T.xf_InvalidPair T.xn_InvalidPair (le_nm 4)) la_nil)))))
  (lss_cons (ls_set (i := 5) sc_law.nd rfl (by first | exact Or.inl rfl | exact Or.inr rfl) (le_bin (r_add rfl) op_addD (le_nm 5) (le_lst (la_cons (le_exFK T.xo_InvalidText.o T.xo_InvalidText.i T.xo_InvalidText.t (T.xi_InvalidText w base).choose_spec.1 (hr.mono (by decide)) (T.xi_InvalidText w base).choose_spec.2.2 rfl T.m_InvalidText T.xf_InvalidText T.xn_InvalidText (le_nm 4)) (la_cons (le_exFK T.xo_Refused.o T.xo_Refused.i T.xo_Refused.t (T.xi_Refused w base).choose_spec.1 (hr.mono (by decide)) (T.xi_Refused w base).choose_spec.2.2 rfl T.m_Refused T.xf_Refused T.xn_Refused (le_nm 4)) la_nil)))))
  (lss_cons (ls_if (lt_cmp (r_ne rfl) (op_neD hu) (le_fz (lf_lc (own := [("_law_one", 10)]) rfl sc_law.nd (li_seq rfl (le_bin (r_add rfl) op_addD (le_call (ok_law_kept T) (hr.mono (by decide)) rfl T.m_law_kept T.f_law_kept.kp T.b_law_kept .nil repl_nil (lb_va (le_nm 4) lb_nil) (.va .nil) rfl) (le_nm 5))) (blkOk_by (own := [("_law_one", 10)]) (N := N_law) (sc := defScope s_law) (by decide +kernel)) (fun _ _ _ _ _ => (lg_nm (i := 10) sc_law.nd rfl (by first | exact Or.inl rfl | exact Or.inr rfl))) (fun _ _ _ _ _ => (lts_one (lt_cmp (r_ne rfl) (op_neD hu) (le_callB (r_reprQ rfl) (cr_reprQ hgd hu) rfl T.z_repr (by decide +kernel) (la_cons (le_nm 10) la_nil)) (le_callB (r_reprQ rfl) (cr_reprQ hgd hu) rfl T.z_repr (by decide +kernel) (la_cons (le_nm 4) la_nil))))) (fun _ _ _ _ _ => le_int))) (le_lst la_nil))
  (lss_one (ls_ret le_bl))
  lss_nil)
  (lss_cons (ls_own (i := 6) sc_law.nd rfl (by first | exact Or.inl rfl | exact Or.inr rfl) (lf_lst (la_cons (le_nm 4) la_nil)))
  (lss_km rfl (fun p => ok_law_kept (T.at7 p)) (hr.mono (by decide)) rfl T.m_law_kept T.f_law_kept.kp T.b_law_kept sc_law.nd rfl (by first | exact Or.inl rfl | exact Or.inr rfl) rfl (by first | exact Or.inl rfl | exact Or.inr (Or.inl rfl) | exact Or.inr (Or.inr rfl))
  (lss_cons (ls_if (lt_cmp (r_ne rfl) (op_neD hu) (le_fz (lf_lc (own := [("_law_one", 10)]) rfl sc_law.nd (li_seq rfl (le_nm 7)) (blkOk_by (own := [("_law_one", 10)]) (N := N_law) (sc := defScope s_law) (by decide +kernel)) (fun _ _ _ _ _ => (lg_nm (i := 10) sc_law.nd rfl (by first | exact Or.inl rfl | exact Or.inr rfl))) (fun _ _ _ _ _ => (lts_one (lt_cmp (r_ne rfl) (op_neD hu) (le_nm 10) (le_nm 6)))) (fun _ _ _ _ _ => le_int))) (le_lst la_nil))
  (lss_one (ls_ret le_bl))
  lss_nil)
  (lss_cons (ls_set (i := 8) sc_law.nd rfl (by first | exact Or.inl rfl | exact Or.inr rfl) (le_lst (la_cons (le_exO (t := 0) T.xo_InvalidMix.o T.xo_InvalidMix.i T.xo_InvalidMix.t (T.xi_InvalidMix w base).choose_spec.1 (hr.mono (by decide)) (T.xi_InvalidMix w base).choose_spec.2.1 rfl T.m_InvalidMix (le_nm 4)) (la_cons (le_exO (t := 1) T.xo_InvalidRow.o T.xo_InvalidRow.i T.xo_InvalidRow.t (T.xi_InvalidRow w base).choose_spec.1 (hr.mono (by decide)) (T.xi_InvalidRow w base).choose_spec.2.1 rfl T.m_InvalidRow (le_nm 4)) (la_cons (le_exO (t := 2) T.xo_InvalidPair.o T.xo_InvalidPair.i T.xo_InvalidPair.t (T.xi_InvalidPair w base).choose_spec.1 (hr.mono (by decide)) (T.xi_InvalidPair w base).choose_spec.2.1 rfl T.m_InvalidPair (le_nm 4)) (la_cons (le_exO (t := 3) T.xo_InvalidText.o T.xo_InvalidText.i T.xo_InvalidText.t (T.xi_InvalidText w base).choose_spec.1 (hr.mono (by decide)) (T.xi_InvalidText w base).choose_spec.2.1 rfl T.m_InvalidText (le_nm 4)) (la_cons (le_exO (t := 4) T.xo_Refused.o T.xo_Refused.i T.xo_Refused.t (T.xi_Refused w base).choose_spec.1 (hr.mono (by decide)) (T.xi_Refused w base).choose_spec.2.1 rfl T.m_Refused (le_nm 4)) la_nil)))))))
  (lss_one (ls_for PassesOwn.never rfl (li_en rfl rfl T.z_enumerate (le_bin (r_add rfl) op_addD (le_nm 8) (le_lst (la_cons (le_exO0 (t := 5) T.xo_InvalidWall.o T.xo_InvalidWall.i T.xo_InvalidWall.t (T.xi_InvalidWall w base).choose_spec.1 (hr.mono (by decide)) (T.xi_InvalidWall w base).choose_spec.2 rfl T.m_InvalidWall) (la_cons (le_exO0 (t := 6) T.xo_InvalidCommand.o T.xo_InvalidCommand.i T.xo_InvalidCommand.t (T.xi_InvalidCommand w base).choose_spec.1 (hr.mono (by decide)) (T.xi_InvalidCommand w base).choose_spec.2 rfl T.m_InvalidCommand) la_nil))))) (lg_tup rfl rfl (lgs_cons (lg_nm (i := 9) sc_law.nd rfl (by first | exact Or.inl rfl | exact Or.inr rfl)) (lgs_cons (lg_nm (i := 10) sc_law.nd rfl (by first | exact Or.inl rfl | exact Or.inr rfl)) lgs_nil)))
  (lss_cons (ls_if (lt_w (lw_or (lt_cmp (r_ne rfl) (op_neD hu) (le_call (ok_law_kinds T) (hr.mono (by decide)) rfl T.m_law_kinds T.f_law_kinds.kp T.b_law_kinds .nil repl_nil (lb_va (le_nm 10) lb_nil) (.va .nil) rfl) (le_fz (lf_lc (own := [("_law_spot", 11)]) rfl sc_law.nd (li_range1 rfl T.z_range le_int) (blkOk_by (own := [("_law_spot", 11)]) (N := N_law) (sc := defScope s_law) (by decide +kernel)) (fun _ _ _ _ _ => (lg_nm (i := 11) sc_law.nd rfl (by first | exact Or.inl rfl | exact Or.inr rfl))) (fun _ _ _ _ _ => lts_nil) (fun _ _ _ _ _ => (le_cmp (r_eq rfl) (op_eqD hu) (le_nm 11) (le_nm 9)))))) (lw_or1 (lt_not (lt_val (le_isX (cv := .ref (ad 299)) (xk_ShareError T) rfl T.z_isinstance (fun _ r => r) (le_nm 10) (pe_glob rfl T.m_ShareError rfl)))))))
  (lss_one (ls_ret le_bl))
  lss_nil)
  (lss_one (ls_if (lt_w (lw_or (lt_not (lt_val (le_isX (cv := .ty "ValueError") (xk_ValueError T) rfl T.z_isinstance (fun _ r => r) (le_nm 10) (pe_bltn (v := .ty "ValueError") rfl T.z_ValueError (by decide +kernel) rfl)))) (lw_or1 (lt_val (le_isX (cv := .ty "KeyError") (xk_KeyError T) rfl T.z_isinstance (fun _ r => r) (le_nm 10) (pe_bltn (v := .ty "KeyError") rfl T.z_KeyError (by decide +kernel) rfl))))))
  (lss_one (ls_ret le_bl))
  lss_nil)))))))))))))))))
  (lss_one (ls_ret le_bl)))
end
theorem bnp_law_choose {K : PySem.W.Frag} {f : Addr} {fd : FuncData} (F : Fun K "_law_choose" "_law_choose" s_law_choose f fd) : Binds K fd ["_law_box", "_law_many"] [] := F.binds (ps := ["_law_box", "_law_many"]) fun _ _ _ _ _ _ us hl => match us, hl with | [_, _], _ => rfl
theorem bnp_law_one_of {K : PySem.W.Frag} {f : Addr} {fd : FuncData} (F : Fun K "_law_one_of" "_law_one_of" s_law_one_of f fd) : Binds K fd ["_law_box", "_law_some"] [] := F.binds (ps := ["_law_box", "_law_some"]) fun _ _ _ _ _ _ us hl => match us, hl with | [_, _], _ => rfl
theorem bnp_law_anything {K : PySem.W.Frag} {f : Addr} {fd : FuncData} (F : Fun K "_law_anything" "_law_anything" s_law_anything f fd) : Binds K fd ["_law_box", "_law_deep"] [] := F.binds (ps := ["_law_box", "_law_deep"]) fun _ _ _ _ _ _ us hl => match us, hl with | [_, _], _ => rfl
theorem bnp_law_kept {K : PySem.W.Frag} {f : Addr} {fd : FuncData} (F : Fun K "_law_kept" "_law_kept" s_law_kept f fd) : Binds K fd ["_law_thing"] [] := F.binds (ps := ["_law_thing"]) fun _ _ _ _ _ _ us hl => match us, hl with | [_], _ => rfl
theorem bnp_law_kinds {K : PySem.W.Frag} {f : Addr} {fd : FuncData} (F : Fun K "_law_kinds" "_law_kinds" s_law_kinds f fd) : Binds K fd ["_law_one"] [] := F.binds (ps := ["_law_one"]) fun _ _ _ _ _ _ us hl => match us, hl with | [_], _ => rfl
theorem bnp_law_seed {K : PySem.W.Frag} {f : Addr} {fd : FuncData} (F : Fun K "_law_seed" "_law_seed" s_law_seed f fd) : Binds K fd ["_law_script", "_law_k"] [] := F.binds (ps := ["_law_script", "_law_k"]) fun _ _ _ _ _ _ us hl => match us, hl with | [_, _], _ => rfl
theorem bnp_law {K : PySem.W.Frag} {f : Addr} {fd : FuncData} (F : Fun K "law" "law" s_law f fd) : Binds K fd ["_law_script"] [] := F.binds (ps := ["_law_script"]) fun _ _ _ _ _ _ us hl => match us, hl with | [_], _ => rfl
set_option maxHeartbeats 0 in
theorem all_mk {P : Program} (pf : P.main.file = mf ∧ (P.main.scope.names.lookup ("super" : Str)).isSome = false) {w : World} {K : PySem.W.Frag} {h : Heap} {mg : Str → Option Value} {fa : Addr} (X : K.In h) (G : h.Ns mainGlobals mg) (hfa : mg "law" = some (.ref fa)) (c : SaysX fnZ xnZ exZ K) :
    ∃ fd : FuncData, (∀ (s : Shared) (v : Value), BindsTo s fd ⟨[v], []⟩ [("_law_script", v)]) ∧ ∀ base : Heap, K.In base → base.Ns mainGlobals mg → FnAt P w K mg base 13 fa fd ["_law_script"] (spLaw K) := by
  obtain ⟨a0, a1, a2, a3, a4, a5, a6, zKeyError, zValueError, zabs, zenumerate, zint, zisinstance, zlen, zmax, zmin, zrange, zrepr, zsuper, ztuple⟩ := exg0_ok (c.bt 0 rfl)
  obtain ⟨xg_InvalidCommand, xg_InvalidMix, xg_InvalidPair, xg_InvalidRow, xg_InvalidText, xg_InvalidWall, xg_Refused, xg_ShareError, xst, xeg, xeh, xb_InvalidCommand, xx_InvalidCommand, xea_InvalidCommand, xeb_InvalidCommand, xec_InvalidCommand, xed_InvalidCommand, xee_InvalidCommand, xef_InvalidCommand, xb_InvalidMix⟩ := exg1_ok (c.bt 1 rfl)
  obtain ⟨xx_InvalidMix, xea_InvalidMix, xeb_InvalidMix, xec_InvalidMix, xed_InvalidMix, xee_InvalidMix, xef_InvalidMix, xn_InvalidMix, xb_InvalidPair, xx_InvalidPair, xea_InvalidPair, xeb_InvalidPair, xec_InvalidPair, xed_InvalidPair, xee_InvalidPair, xef_InvalidPair, xn_InvalidPair, xb_InvalidRow, xx_InvalidRow, xea_InvalidRow⟩ := exg2_ok (c.bt 2 rfl)
  obtain ⟨xeb_InvalidRow, xec_InvalidRow, xed_InvalidRow, xee_InvalidRow, xef_InvalidRow, xn_InvalidRow, xb_InvalidText, xx_InvalidText, xea_InvalidText, xeb_InvalidText, xec_InvalidText, xed_InvalidText, xee_InvalidText, xef_InvalidText, xn_InvalidText, xb_InvalidWall, xx_InvalidWall, xea_InvalidWall, xeb_InvalidWall, xec_InvalidWall⟩ := exg3_ok (c.bt 3 rfl)
  obtain ⟨xed_InvalidWall, xee_InvalidWall, xef_InvalidWall, xb_Refused, xx_Refused, xea_Refused, xeb_Refused, xec_Refused, xed_Refused, xee_Refused, xef_Refused, xn_Refused, xk_InvalidCommand_InvalidCommand, xk_InvalidMix_InvalidCommand, xk_InvalidPair_InvalidCommand, xk_InvalidRow_InvalidCommand, xk_InvalidText_InvalidCommand, xk_InvalidWall_InvalidCommand, xk_Refused_InvalidCommand, xk_InvalidCommand_InvalidMix⟩ := exg4_ok (c.bt 4 rfl)
  obtain ⟨xk_InvalidMix_InvalidMix, xk_InvalidPair_InvalidMix, xk_InvalidRow_InvalidMix, xk_InvalidText_InvalidMix, xk_InvalidWall_InvalidMix, xk_Refused_InvalidMix, xk_InvalidCommand_InvalidPair, xk_InvalidMix_InvalidPair, xk_InvalidPair_InvalidPair, xk_InvalidRow_InvalidPair, xk_InvalidText_InvalidPair, xk_InvalidWall_InvalidPair, xk_Refused_InvalidPair, xk_InvalidCommand_InvalidRow, xk_InvalidMix_InvalidRow, xk_InvalidPair_InvalidRow, xk_InvalidRow_InvalidRow, xk_InvalidText_InvalidRow, xk_InvalidWall_InvalidRow, xk_Refused_InvalidRow⟩ := exg5_ok (c.bt 5 rfl)
  obtain ⟨xk_InvalidCommand_InvalidText, xk_InvalidMix_InvalidText, xk_InvalidPair_InvalidText, xk_InvalidRow_InvalidText, xk_InvalidText_InvalidText, xk_InvalidWall_InvalidText, xk_Refused_InvalidText, xk_InvalidCommand_InvalidWall, xk_InvalidMix_InvalidWall, xk_InvalidPair_InvalidWall, xk_InvalidRow_InvalidWall, xk_InvalidText_InvalidWall, xk_InvalidWall_InvalidWall, xk_Refused_InvalidWall, xk_InvalidCommand_KeyError, xk_InvalidMix_KeyError, xk_InvalidPair_KeyError, xk_InvalidRow_KeyError, xk_InvalidText_KeyError, xk_InvalidWall_KeyError⟩ := exg6_ok (c.bt 6 rfl)
  obtain ⟨xk_Refused_KeyError, xk_InvalidCommand_Refused, xk_InvalidMix_Refused, xk_InvalidPair_Refused, xk_InvalidRow_Refused, xk_InvalidText_Refused, xk_InvalidWall_Refused, xk_Refused_Refused, xk_InvalidCommand_ShareError, xk_InvalidMix_ShareError, xk_InvalidPair_ShareError, xk_InvalidRow_ShareError, xk_InvalidText_ShareError, xk_InvalidWall_ShareError, xk_Refused_ShareError, xk_InvalidCommand_ValueError, xk_InvalidMix_ValueError, xk_InvalidPair_ValueError, xk_InvalidRow_ValueError, xk_InvalidText_ValueError⟩ := exg7_ok (c.bt 7 rfl)
  obtain ⟨xk_InvalidWall_ValueError, xk_Refused_ValueError⟩ := exg8_ok (c.bt 8 rfl)
  have e := hfa.symm.trans (PySem.W.mg_of X G a6)
  cases e
  obtain ⟨fd0, G0⟩ := c.def_ 0 (d := dz0) rfl
  have F0 : Fun K "_law_choose" "_law_choose" s_law_choose (fa0 K) fd0 := He5.fun_of (kws := []) G0
  have k0 := F0.kp
  obtain ⟨fd1, G1⟩ := c.def_ 1 (d := dz1) rfl
  have F1 : Fun K "_law_one_of" "_law_one_of" s_law_one_of (fa1 K) fd1 := He5.fun_of (kws := []) G1
  have k1 := F1.kp
  obtain ⟨fd2, G2⟩ := c.def_ 2 (d := dz2) rfl
  have F2 : Fun K "_law_anything" "_law_anything" s_law_anything (fa2 K) fd2 := He5.fun_of (kws := []) G2
  have k2 := F2.kp
  obtain ⟨fd3, G3⟩ := c.def_ 3 (d := dz3) rfl
  have F3 : Fun K "_law_kept" "_law_kept" s_law_kept (fa3 K) fd3 := He5.fun_of (kws := []) G3
  have k3 := F3.kp
  obtain ⟨fd4, G4⟩ := c.def_ 4 (d := dz4) rfl
  have F4 : Fun K "_law_kinds" "_law_kinds" s_law_kinds (fa4 K) fd4 := He5.fun_of (kws := []) G4
  have k4 := F4.kp
  obtain ⟨fd5, G5⟩ := c.def_ 5 (d := dz5) rfl
  have F5 : Fun K "_law_seed" "_law_seed" s_law_seed (fa5 K) fd5 := He5.fun_of (kws := []) G5
  have k5 := F5.kp
  obtain ⟨fd6, G6⟩ := c.def_ 6 (d := dz6) rfl
  have F6 : Fun K "law" "law" s_law (fa6 K) fd6 := He5.fun_of (kws := []) G6
  have k6 := F6.kp
  let T : Txt P K mg (fun c => match c with | 206 => (C_InvalidCommand K) | 200 => (C_InvalidMix K) | 202 => (C_InvalidPair K) | 201 => (C_InvalidRow K) | 203 => (C_InvalidText K) | 205 => (C_InvalidWall K) | 204 => (C_Refused K) | 299 => (C_ShareError K) | _ => 0) := {
    a_law_choose := fa0 K,
    d_law_choose := fd0,
    f_law_choose := F0,
    m_law_choose := PySem.W.mg_of X G a0,
    b_law_choose := bnp_law_choose F0,
    a_law_one_of := fa1 K,
    d_law_one_of := fd1,
    f_law_one_of := F1,
    m_law_one_of := PySem.W.mg_of X G a1,
    b_law_one_of := bnp_law_one_of F1,
    a_law_anything := fa2 K,
    d_law_anything := fd2,
    f_law_anything := F2,
    m_law_anything := PySem.W.mg_of X G a2,
    b_law_anything := bnp_law_anything F2,
    a_law_kept := fa3 K,
    d_law_kept := fd3,
    f_law_kept := F3,
    m_law_kept := PySem.W.mg_of X G a3,
    b_law_kept := bnp_law_kept F3,
    a_law_kinds := fa4 K,
    d_law_kinds := fd4,
    f_law_kinds := F4,
    m_law_kinds := PySem.W.mg_of X G a4,
    b_law_kinds := bnp_law_kinds F4,
    a_law_seed := fa5 K,
    d_law_seed := fd5,
    f_law_seed := F5,
    m_law_seed := PySem.W.mg_of X G a5,
    b_law_seed := bnp_law_seed F5,
    a_law := fa6 K,
    d_law := fd6,
    f_law := F6,
    m_law := PySem.W.mg_of X G a6,
    b_law := bnp_law F6,
    z_KeyError := PySem.W.mg_none_of X G zKeyError,
    z_ValueError := PySem.W.mg_none_of X G zValueError,
    z_abs := PySem.W.mg_none_of X G zabs,
    z_enumerate := PySem.W.mg_none_of X G zenumerate,
    z_int := PySem.W.mg_none_of X G zint,
    z_isinstance := PySem.W.mg_none_of X G zisinstance,
    z_len := PySem.W.mg_none_of X G zlen,
    z_max := PySem.W.mg_none_of X G zmax,
    z_min := PySem.W.mg_none_of X G zmin,
    z_range := PySem.W.mg_none_of X G zrange,
    z_repr := PySem.W.mg_none_of X G zrepr,
    z_super := PySem.W.mg_none_of X G zsuper,
    z_tuple := PySem.W.mg_none_of X G ztuple,
    m_InvalidCommand := PySem.W.mg_of X G xg_InvalidCommand,
    m_InvalidMix := PySem.W.mg_of X G xg_InvalidMix,
    m_InvalidPair := PySem.W.mg_of X G xg_InvalidPair,
    m_InvalidRow := PySem.W.mg_of X G xg_InvalidRow,
    m_InvalidText := PySem.W.mg_of X G xg_InvalidText,
    m_InvalidWall := PySem.W.mg_of X G xg_InvalidWall,
    m_Refused := PySem.W.mg_of X G xg_Refused,
    m_ShareError := PySem.W.mg_of X G xg_ShareError,
    xo_InvalidCommand := oexB_ok xx_InvalidCommand,
    xe_InvalidCommand := ⟨xea_InvalidCommand, xeb_InvalidCommand, xec_InvalidCommand, xed_InvalidCommand, xee_InvalidCommand, xeg, xeh, xef_InvalidCommand⟩,
    xi_InvalidCommand := fun w base => xinit0k_of (d := dx_InvalidCommand) rfl (c.xdef 0 rfl) (by rw [pf.1]; exact xb_InvalidCommand) (oexB_ok xx_InvalidCommand) rfl (fun env => ⟨_, rfl⟩) rfl rfl rfl rfl rfl rfl rfl rfl (by decide +kernel) (by decide +kernel) (PySem.W.mg_none_of X G zsuper) pf.2 xst bxi_InvalidCommand,
    xo_InvalidMix := oexB_ok xx_InvalidMix,
    xe_InvalidMix := ⟨xea_InvalidMix, xeb_InvalidMix, xec_InvalidMix, xed_InvalidMix, xee_InvalidMix, xeg, xeh, xef_InvalidMix⟩,
    xf_InvalidMix := ⟨xea_InvalidMix, xeb_InvalidMix, xec_InvalidMix, xed_InvalidMix⟩,
    xn_InvalidMix := xn_InvalidMix,
    xi_InvalidMix := fun w base => xinitK_of (d := dx_InvalidMix) (fld := xfld 0) (wn := "word") rfl (c.xdef 1 rfl) (by rw [pf.1]; exact xb_InvalidMix) (oexB_ok xx_InvalidMix) rfl (fun env => ⟨_, rfl⟩) rfl rfl (by decide) (by decide) (by decide) rfl rfl rfl rfl rfl rfl rfl (by decide +kernel) (by decide +kernel) (PySem.W.mg_none_of X G zsuper) pf.2 xn_InvalidMix xst bxi_InvalidMix bxk_InvalidMix,
    xo_InvalidPair := oexB_ok xx_InvalidPair,
    xe_InvalidPair := ⟨xea_InvalidPair, xeb_InvalidPair, xec_InvalidPair, xed_InvalidPair, xee_InvalidPair, xeg, xeh, xef_InvalidPair⟩,
    xf_InvalidPair := ⟨xea_InvalidPair, xeb_InvalidPair, xec_InvalidPair, xed_InvalidPair⟩,
    xn_InvalidPair := xn_InvalidPair,
    xi_InvalidPair := fun w base => xinitK_of (d := dx_InvalidPair) (fld := xfld 2) (wn := "word") rfl (c.xdef 2 rfl) (by rw [pf.1]; exact xb_InvalidPair) (oexB_ok xx_InvalidPair) rfl (fun env => ⟨_, rfl⟩) rfl rfl (by decide) (by decide) (by decide) rfl rfl rfl rfl rfl rfl rfl (by decide +kernel) (by decide +kernel) (PySem.W.mg_none_of X G zsuper) pf.2 xn_InvalidPair xst bxi_InvalidPair bxk_InvalidPair,
    xo_InvalidRow := oexB_ok xx_InvalidRow,
    xe_InvalidRow := ⟨xea_InvalidRow, xeb_InvalidRow, xec_InvalidRow, xed_InvalidRow, xee_InvalidRow, xeg, xeh, xef_InvalidRow⟩,
    xf_InvalidRow := ⟨xea_InvalidRow, xeb_InvalidRow, xec_InvalidRow, xed_InvalidRow⟩,
    xn_InvalidRow := xn_InvalidRow,
    xi_InvalidRow := fun w base => xinitK_of (d := dx_InvalidRow) (fld := xfld 1) (wn := "word") rfl (c.xdef 3 rfl) (by rw [pf.1]; exact xb_InvalidRow) (oexB_ok xx_InvalidRow) rfl (fun env => ⟨_, rfl⟩) rfl rfl (by decide) (by decide) (by decide) rfl rfl rfl rfl rfl rfl rfl (by decide +kernel) (by decide +kernel) (PySem.W.mg_none_of X G zsuper) pf.2 xn_InvalidRow xst bxi_InvalidRow bxk_InvalidRow,
    xo_InvalidText := oexB_ok xx_InvalidText,
    xe_InvalidText := ⟨xea_InvalidText, xeb_InvalidText, xec_InvalidText, xed_InvalidText, xee_InvalidText, xeg, xeh, xef_InvalidText⟩,
    xf_InvalidText := ⟨xea_InvalidText, xeb_InvalidText, xec_InvalidText, xed_InvalidText⟩,
    xn_InvalidText := xn_InvalidText,
    xi_InvalidText := fun w base => xinitK_of (d := dx_InvalidText) (fld := xfld 3) (wn := "at") rfl (c.xdef 4 rfl) (by rw [pf.1]; exact xb_InvalidText) (oexB_ok xx_InvalidText) rfl (fun env => ⟨_, rfl⟩) rfl rfl (by decide) (by decide) (by decide) rfl rfl rfl rfl rfl rfl rfl (by decide +kernel) (by decide +kernel) (PySem.W.mg_none_of X G zsuper) pf.2 xn_InvalidText xst bxi_InvalidText bxk_InvalidText,
    xo_InvalidWall := oexB_ok xx_InvalidWall,
    xe_InvalidWall := ⟨xea_InvalidWall, xeb_InvalidWall, xec_InvalidWall, xed_InvalidWall, xee_InvalidWall, xeg, xeh, xef_InvalidWall⟩,
    xi_InvalidWall := fun w base => xinit0k_of (d := dx_InvalidWall) rfl (c.xdef 5 rfl) (by rw [pf.1]; exact xb_InvalidWall) (oexB_ok xx_InvalidWall) rfl (fun env => ⟨_, rfl⟩) rfl rfl rfl rfl rfl rfl rfl rfl (by decide +kernel) (by decide +kernel) (PySem.W.mg_none_of X G zsuper) pf.2 xst bxi_InvalidWall,
    xo_Refused := oexB_ok xx_Refused,
    xe_Refused := ⟨xea_Refused, xeb_Refused, xec_Refused, xed_Refused, xee_Refused, xeg, xeh, xef_Refused⟩,
    xf_Refused := ⟨xea_Refused, xeb_Refused, xec_Refused, xed_Refused⟩,
    xn_Refused := xn_Refused,
    xi_Refused := fun w base => xinitK_of (d := dx_Refused) (fld := xfld 4) (wn := "at") rfl (c.xdef 6 rfl) (by rw [pf.1]; exact xb_Refused) (oexB_ok xx_Refused) rfl (fun env => ⟨_, rfl⟩) rfl rfl (by decide) (by decide) (by decide) rfl rfl rfl rfl rfl rfl rfl (by decide +kernel) (by decide +kernel) (PySem.W.mg_none_of X G zsuper) pf.2 xn_Refused xst bxi_Refused bxk_Refused,
    xk_InvalidCommand_InvalidCommand := xk_InvalidCommand_InvalidCommand,
    xk_InvalidMix_InvalidCommand := xk_InvalidMix_InvalidCommand,
    xk_InvalidPair_InvalidCommand := xk_InvalidPair_InvalidCommand,
    xk_InvalidRow_InvalidCommand := xk_InvalidRow_InvalidCommand,
    xk_InvalidText_InvalidCommand := xk_InvalidText_InvalidCommand,
    xk_InvalidWall_InvalidCommand := xk_InvalidWall_InvalidCommand,
    xk_Refused_InvalidCommand := xk_Refused_InvalidCommand,
    xk_InvalidCommand_InvalidMix := xk_InvalidCommand_InvalidMix,
    xk_InvalidMix_InvalidMix := xk_InvalidMix_InvalidMix,
    xk_InvalidPair_InvalidMix := xk_InvalidPair_InvalidMix,
    xk_InvalidRow_InvalidMix := xk_InvalidRow_InvalidMix,
    xk_InvalidText_InvalidMix := xk_InvalidText_InvalidMix,
    xk_InvalidWall_InvalidMix := xk_InvalidWall_InvalidMix,
    xk_Refused_InvalidMix := xk_Refused_InvalidMix,
    xk_InvalidCommand_InvalidPair := xk_InvalidCommand_InvalidPair,
    xk_InvalidMix_InvalidPair := xk_InvalidMix_InvalidPair,
    xk_InvalidPair_InvalidPair := xk_InvalidPair_InvalidPair,
    xk_InvalidRow_InvalidPair := xk_InvalidRow_InvalidPair,
    xk_InvalidText_InvalidPair := xk_InvalidText_InvalidPair,
    xk_InvalidWall_InvalidPair := xk_InvalidWall_InvalidPair,
    xk_Refused_InvalidPair := xk_Refused_InvalidPair,
    xk_InvalidCommand_InvalidRow := xk_InvalidCommand_InvalidRow,
    xk_InvalidMix_InvalidRow := xk_InvalidMix_InvalidRow,
    xk_InvalidPair_InvalidRow := xk_InvalidPair_InvalidRow,
    xk_InvalidRow_InvalidRow := xk_InvalidRow_InvalidRow,
    xk_InvalidText_InvalidRow := xk_InvalidText_InvalidRow,
    xk_InvalidWall_InvalidRow := xk_InvalidWall_InvalidRow,
    xk_Refused_InvalidRow := xk_Refused_InvalidRow,
    xk_InvalidCommand_InvalidText := xk_InvalidCommand_InvalidText,
    xk_InvalidMix_InvalidText := xk_InvalidMix_InvalidText,
    xk_InvalidPair_InvalidText := xk_InvalidPair_InvalidText,
    xk_InvalidRow_InvalidText := xk_InvalidRow_InvalidText,
    xk_InvalidText_InvalidText := xk_InvalidText_InvalidText,
    xk_InvalidWall_InvalidText := xk_InvalidWall_InvalidText,
    xk_Refused_InvalidText := xk_Refused_InvalidText,
    xk_InvalidCommand_InvalidWall := xk_InvalidCommand_InvalidWall,
    xk_InvalidMix_InvalidWall := xk_InvalidMix_InvalidWall,
    xk_InvalidPair_InvalidWall := xk_InvalidPair_InvalidWall,
    xk_InvalidRow_InvalidWall := xk_InvalidRow_InvalidWall,
    xk_InvalidText_InvalidWall := xk_InvalidText_InvalidWall,
    xk_InvalidWall_InvalidWall := xk_InvalidWall_InvalidWall,
    xk_Refused_InvalidWall := xk_Refused_InvalidWall,
    xk_InvalidCommand_KeyError := xk_InvalidCommand_KeyError,
    xk_InvalidMix_KeyError := xk_InvalidMix_KeyError,
    xk_InvalidPair_KeyError := xk_InvalidPair_KeyError,
    xk_InvalidRow_KeyError := xk_InvalidRow_KeyError,
    xk_InvalidText_KeyError := xk_InvalidText_KeyError,
    xk_InvalidWall_KeyError := xk_InvalidWall_KeyError,
    xk_Refused_KeyError := xk_Refused_KeyError,
    xk_InvalidCommand_Refused := xk_InvalidCommand_Refused,
    xk_InvalidMix_Refused := xk_InvalidMix_Refused,
    xk_InvalidPair_Refused := xk_InvalidPair_Refused,
    xk_InvalidRow_Refused := xk_InvalidRow_Refused,
    xk_InvalidText_Refused := xk_InvalidText_Refused,
    xk_InvalidWall_Refused := xk_InvalidWall_Refused,
    xk_Refused_Refused := xk_Refused_Refused,
    xk_InvalidCommand_ShareError := xk_InvalidCommand_ShareError,
    xk_InvalidMix_ShareError := xk_InvalidMix_ShareError,
    xk_InvalidPair_ShareError := xk_InvalidPair_ShareError,
    xk_InvalidRow_ShareError := xk_InvalidRow_ShareError,
    xk_InvalidText_ShareError := xk_InvalidText_ShareError,
    xk_InvalidWall_ShareError := xk_InvalidWall_ShareError,
    xk_Refused_ShareError := xk_Refused_ShareError,
    xk_InvalidCommand_ValueError := xk_InvalidCommand_ValueError,
    xk_InvalidMix_ValueError := xk_InvalidMix_ValueError,
    xk_InvalidPair_ValueError := xk_InvalidPair_ValueError,
    xk_InvalidRow_ValueError := xk_InvalidRow_ValueError,
    xk_InvalidText_ValueError := xk_InvalidText_ValueError,
    xk_InvalidWall_ValueError := xk_InvalidWall_ValueError,
    xk_Refused_ValueError := xk_Refused_ValueError }
  have b := FunD.bindsA (ps := ["_law_script"]) G6 fun _ _ _ _ _ _ us hl => match us, hl with | [_], _ => rfl
  exact ⟨fd6, fun s v => b s [v] rfl, fun base _ _ => law_okG rfl (ok_law T) main_law⟩
end K01
open PySem PySem.W PySem.Calls PyProof.Rows
set_option maxRecDepth 100000 in
set_option maxHeartbeats 0 in
theorem PySem.Challenge.cw_sharerows_k01_errors_and_what_they_keep_holds : PySem.Challenge.rw_sharerows_k01_errors_and_what_they_keep.Holds := by
  w_on; o_law
  refine HandSHeadRun.head_any (r := OpenLaw.row PySem.Challenge.rw_sharerows_k01_errors_and_what_they_keep) (q := view (OpenLaw.row PySem.Challenge.rw_sharerows_k01_errors_and_what_they_keep).prog [16]) (H := Zr.hookXc K01.fnZ K01.xnZ K01.exZ) (ob := Zr.obXc K01.fnZ K01.xnZ K01.exZ) (M := 40000) (loose := K01.loose) (d := HandSHeadRun.topDef (OpenLaw.row PySem.Challenge.rw_sharerows_k01_errors_and_what_they_keep).prog 16) (kwd := []) Zr.obXc_eq
    (by kernel_rfl) (fun s => by kernel_rfl) K01.run (by kernel_rfl) (by kernel_rfl) (by kernel_rfl) (by rfl) (by first | assumption | decide +kernel) (by decide +kernel) ⟨rfl, rfl, rfl, rfl, rfl, by decide +kernel⟩ ?hw ?hc
  case hw => w_witness2
  case hc =>
    refine Zr.walk_atE (l := PySem.Challenge.rw_sharerows_k01_errors_and_what_they_keep) (n := 63) (k := 13) (x := "_law_script") rfl (by decide) (by kernel_rfl) ⟨rfl, by decide, by decide⟩ ?F
    intro w mg fa h Y G hmg0
    obtain ⟨K, KX, c⟩ := Y
    have hmg : mg ("law" : PySem.Str) = some (.ref fa) := by
      have e : (HandSHeadRun.topDef (OpenLaw.row PySem.Challenge.rw_sharerows_k01_errors_and_what_they_keep).prog 16).name = ("law" : PySem.Str) := by kernel_rfl
      rw [← e]
      exact hmg0
    obtain ⟨fd, hb, hF⟩ := K01.all_mk (P := (PySem.Challenge.rw_sharerows_k01_errors_and_what_they_keep).prog) (w := w) ⟨by rfl, by kernel_rfl⟩ KX G hmg c
    exact ⟨K, fd, Zr.spLaw K, KX, hb, fun H a ns hl _ hS => ⟨a, ns, rfl, hS, hl, fun _ => rfl⟩, hF⟩
